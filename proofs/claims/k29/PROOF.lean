import PyProof.Rows.All
import Wide.All
import OpenK.AllK
import Wide.FinOn
import KE.KStateDown
import HandS.ForMost
import HandS.ForExc
import HandS.Walk
import HandS.StrMore
import HandS.Star
import KE.GoesEnum
import HandS.ExcInit
import HandS.Nested
import KE.KExcSuper
import HandS.TupMul
import HandS.TupAny
import HandS.FStrTup
import HandS.FStr
import HandS.Deep
import HandS.IsInst
import HandS.RevRange
import HandS.DictComp
import HandS.Defaults
import HandS.Flow
import HandS.HeadHook1
import HandS.HeadHook2
import HandS.Ends
import HandS.Words
import HandS.WordsExc
import HandS.Head0
import HandS.Head1
import HandS.Head2
import HandS.HeadEnd
import HandS.ExcField
import KE.DataMinMax
import HandS.More
import KE.DataMinKey
import HandS.MakeKwOnly
import HandS.Conv
import HandS.ExcIs
import HandS.HotCalls
import HandS.RevTup
import HandS.Rev
import HandS.Style
import HandS.EndTab
import PySem.Challenge.RW_shearyard_k29_trims_refused_at_first_fau
set_option Elab.async false
set_option linter.all false
set_option maxRecDepth 100000
set_option maxHeartbeats 4000000
/-! enumerate over a tuple (own rule) -/
namespace Sy
open PySem PySem.Spec PyProof.Rows L2
open AutoSeq1 (wpAny_loadPart')
theorem enumNew {v : Value} {o : Obj} {Hh : Heap → Prop} (B : Begins v o Hh) : Meets (Builtin.«enumerate.__new__» ⟨[.type "enumerate", v], []⟩) (fun _ R s => Hh s.heap ∧
    R (.ok (.ret (.ref (s.heap.push o).objs.size))) { s with heap := (s.heap.push o).push { cls := .type "enumerate", data := .fields #[.none, .bool false, .ref s.heap.objs.size, rawInt 0, .none, .none] } }) :=
  .of_wp fun prog w A R s hs => by
    obtain ⟨hp, g, d, tk, os⟩ := s
    obtain ⟨h1, hR⟩ := hs
    have hsub := sub_enumerate
    have it1 : ∀ {A' : Around} {E : Value → Shared → Prop} {Q : Value → Shared → Prop}, Q (.ref hp.objs.size) ⟨hp.push o, g, d, tk, os⟩ → wpAny (model prog w) A' (pyIter v) Q E ⟨hp, g, d, tk, os⟩ := fun q => B.iter prog w _ _ ⟨hp, g, d, tk, os⟩ _ h1 q
    wp_walk using it1
    refine wpAny_stack_any fun st => wpAny_pure ?_
    split
    · rename_i c _ _ _ _ _
      cases (c == Value.type "enumerate") <;> (wp_walk using it1; exact ⟨_, rfl, hR⟩)
    · (wp_walk using it1; exact ⟨_, rfl, hR⟩)
theorem enumCall {prog : Program} {w : World} {A : Around} {E : Value → Shared → Prop} {s : Shared} {v : Value} {o : Obj} {Hh : Heap → Prop} {Q : Value → Shared → Prop} (B : Begins v o Hh) (h1 : Hh s.heap)
    (h : ∀ h', IsEnum h' (s.heap.objs.size + 1) s.heap.objs.size 0 .none → h'.get? s.heap.objs.size = some o → (∀ b ob, s.heap.get? b = some ob → h'.get? b = some ob) → Q (.ref (s.heap.objs.size + 1)) { s with heap := h' }) :
    wpAny (model prog w) A (call (.type "enumerate") [v]) Q E s := by
  refine callType_new F.called_enumerate (by decide) (F.typeCall_enumerate_1 _) (F.newCall_enumerate_1 _) (fun obj => F.args_object_init_2 obj _) F.entry_enumerate_new (enumNew B) ⟨h1, ?_⟩
  have hz : (s.heap.push o).objs.size = s.heap.objs.size + 1 := Heap.size_push ..
  show _ ∧ _
  rw [hz]
  have he : IsEnum ((s.heap.push o).push { cls := .type "enumerate", data := .fields #[.none, .bool false, .ref s.heap.objs.size, rawInt 0, .none, .none] }) (s.heap.objs.size + 1) s.heap.objs.size 0 .none := by
    have q := Heap.get?_push_size (s.heap.push o) (o := { cls := .type "enumerate", data := .fields #[.none, .bool false, .ref s.heap.objs.size, rawInt 0, .none, .none] }) rfl
    rw [hz] at q
    exact q
  exact ⟨⟨_, he, rfl⟩, h _ he (Heap.get?_push_of_some _ (Heap.get?_push_size _ B.free)) fun b ob x => Heap.get?_push_of_some _ (Heap.get?_push_of_some _ x)⟩
/-- the tuple at a, each item in a new pair -/
def ItE (K : PySem.W.Frag) (a : Addr) : It :=
  ⟨fun i H => ∃ (xs : List V) (x : V), SqT K H a xs ∧ xs[i]? = some x,
   fun i H v H' => ∃ T x, v = .ref T ∧ H T = none ∧ H' = upd H T (.tup [.int (i : Nat), x]) ∧ ∀ xs, SqT K H a xs → xs[i]? = some x,
   fun i H => ∃ xs : List V, SqT K H a xs ∧ xs.length ≤ i⟩
theorem turnE {P : Program} {w : World} {K : PySem.W.Frag} {elts : List Expr} {kk : Nat} {tpos : Pos} (a e it : Addr) :
    Turn P w K (.Tuple elts kk tpos) (ItE K a) [e, it] e (fun i h => (∃ old, IsEnum h e it ((i : Nat) : Int) old) ∧ h.IsTupleIter it a i ∧ e ≠ it ∧ a ≠ it ∧ a ≠ e) where
  mem := by simp
  obj := fun i h st b hb => by
    obtain ⟨⟨old, he⟩, ⟨o, ho, hc, hd⟩, _⟩ := st
    rcases (show b = e ∨ b = it by simpa using hb) with z | z
    · subst z; exact ⟨_, he, fun v q => nomatch q⟩
    · subst z; exact ⟨o, ho, fun v q => by rw [hd] at q; cases q⟩
  keep := fun i h h' st k => by
    obtain ⟨⟨old, he⟩, hi, n1⟩ := st
    exact ⟨⟨old, k e (by simp) _ he⟩, hi.at fun o q => k it (by simp) o q, n1⟩
  item := by
    intro X hP hw hK hc i pins s σ H E I hf st hg
    subst hP hw hK
    obtain ⟨⟨old, he⟩, hit, hne, ha1, ha2⟩ := st
    obtain ⟨xs, x, hq, hx⟩ := hg
    obtain ⟨its, rv, p, hz⟩ := I.tuple hq
    obtain ⟨u, hu, ru⟩ := rv.get hx
    have hlen : i < its.toArray.size := by
      rw [List.size_toArray]
      exact (List.getElem?_eq_some_iff.mp hu).1
    have D := Draws.tuple (prog := X.prog) (w := X.w) (A := X.A.in1) (by have q := I.ok.hd hc; exact q) it a ha1 its.toArray
    have hel : e < s.heap.objs.size := Heap.lt_size he
    have hil : it < s.heap.objs.size := by obtain ⟨_, q, _⟩ := hit; exact Heap.lt_size q
    refine wpAny_pyNext_enum_itemC D he ⟨hit, p⟩ hlen hne (by simp [hne, Ne.symm ha2]) fun y h' tk hP ho st' hT hsz hk => ?_
    have ey : y = u := by
      have z : its.toArray[i]? = some u := by simpa using hu
      exact Option.some.inj (hP.symm.trans z)
    subst ey
    refine ⟨_, rfl, wpAny_letOwnedTupleGo_enum (s := { s with heap := h', toks := tk + 1 }) ho fun h'' he' sb => ?_⟩
    have hT2 : h''.get? s.heap.objs.size = some { cls := .type "tuple", data := .seq #[.int i tk, y] } := (sb.2 _ (Nat.ne_of_gt hel)).trans hT
    have new : ObjOk X.prog X.w (upd H s.heap.objs.size (.tup [.int (i : Nat), x])) h'' s.heap.objs.size (.tup [.int (i : Nat), x]) :=
      ⟨by show 2 ≤ sizeLine; decide, [.int i tk, y], .cons ⟨_, rfl⟩ (.cons ru .nil), ⟨_, hT2, rfl, _, rfl⟩⟩
    have I1 : Inv X pins σ (upd H s.heap.objs.size (.tup [.int (i : Nat), x])) { s with heap := h'', toks := tk + 1 } :=
      I.turnedNew (ch := [e, it]) (fun b ob hb q => by
        have hb' : b ≠ e ∧ b ≠ it := by simpa using hb
        exact (sb.2 b hb'.1).trans (hk b ob hb'.1 hb'.2 q)) hf (Nat.le_refl _) new
    refine ⟨.ref s.heap.objs.size, _, I1, rfl, ⟨_, x, rfl, I.hok.fresh (Nat.le_refl _), rfl, fun ys hy => by rw [I.tuple_inj hy hq]; exact hx⟩, ⟨⟨y, ?_⟩, st'.1.at fun o q => (sb.2 it (Ne.symm hne)).trans q, hne, ha1, ha2⟩, fun b hb => ?_⟩
    · have e1 : ((i + 1 : Nat) : Int) = (i : Int) + 1 := by omega
      rw [e1]
      exact he'
    · have hb' : b < s.heap.objs.size := by
        rcases (show b = e ∨ b = it by simpa using hb) with z | z <;> (rw [z]; assumption)
      rw [upd_ne (Nat.ne_of_lt hb')]
      exact (hf b hb).1
  done := by
    intro X hP hw hK hc i pins s σ H E I hf st hg
    subst hP hw hK
    obtain ⟨⟨old, he⟩, hit, hne, ha1, ha2⟩ := st
    obtain ⟨xs, hq, hx⟩ := hg
    obtain ⟨its, rv, p, hz⟩ := I.tuple hq
    obtain ⟨f0, f1, f2, f3, f4, f5⟩ := hf it (by simp)
    have hl := rv.length
    have hT : s.TypeIs (.ref e) "enumerate" := ⟨_, he, rfl⟩
    unfold pyNext
    refine wpAny_bind (wpAny_attempt (wpAny_callSpecial?_slot (name := Str.ofString "__next__") hT F.slot_enumerate_next (wpAny_call_entry F.slot_enumerate_next hT F.entry_enumerate_next ?_ (F.args_enumerate_next_1 _))))
    show wpAny _ _ (field (.ref e) 2 >>= _) _ _ _
    refine wpAny_bind (wpAny_field he rfl (x := .ref it) rfl ?_)
    refine wpAny_bind (wpAny_nextOf_tuple_end (I.ok.hd hc) hit p (by simp; omega) fun h' x he' hx' => ?_)
    obtain ⟨o, ho, hcl⟩ := hx'
    refine wpAny_bind (wpAny_isInstance (T := "StopIteration") (b := true) ⟨o, ho, hcl⟩ isSubtype_stop ?_)
    exact wpAny_pure ⟨rfl, I.turned (t' := s.toks) (fun b ob hb q => he' b ob hb q) f0 f1 f3 f4 f5⟩
  self := fun A i s Q E st h => by
    obtain ⟨⟨_, he⟩, _⟩ := st
    exact wpAny_pyIter_enum he h
/-- for i, x in enumerate(t), t a tuple -/
def iEnumT (K : PySem.W.Frag) (ta : TA) : TI := fun σ H R => ta σ H fun vs H1 => ∃ a xs, vs = [.ref a] ∧ SqT K H1 a xs ∧ R (ItE K a) H1
theorem pi_enumT {X : Cx} {e : Expr} {ta : TA} {p pos tpos : Pos} {elts : List Expr} {kk : Nat} (hg : Gl X "enumerate") (hm : X.mg "enumerate" = none) (ha : PA X [e] ta) (hs : starEach [e] X.env = [(false, eval e X.env)] := by rfl) :
    PI X (.Tuple elts kk tpos) (.Call (.Name "enumerate" p) [e] [] pos) (iEnumT X.K ta) := by
  refine ⟨fun pins s σ H R I h => ?_⟩
  refine Call_ (ld_blt I hg hm boot_enumerate (PyProof.Rows.callWith_type1 (thn (ha.run pos pins s σ H _ I h) fun us s1 ⟨vs, H1, I1, r1, a, xs, ex, hq, q⟩ => ?_) hs rfl))
  subst ex
  cases r1 with
  | cons r rr =>
    cases rr
    cases r
    obtain ⟨its, rv, p', hz⟩ := I1.tuple hq
    have hal : a < s1.heap.objs.size := by obtain ⟨_, z, _⟩ := p'; exact Heap.lt_size z
    refine enumCall (begins_tuple a its.toArray) p' fun h' he hit hk => wpAny_pyIter_enum he ?_
    have I2 : Inv X pins σ H1 { s1 with heap := h' } := I1.kept (t' := s1.toks) hk
    refine ⟨s1.heap.objs.size + 1, [s1.heap.objs.size + 1, s1.heap.objs.size], _, _, H1, rfl, I2, turnE a (s1.heap.objs.size + 1) s1.heap.objs.size, ⟨⟨.none, he⟩, ⟨_, hit, rfl, rfl⟩, Nat.succ_ne_self _, Nat.ne_of_lt hal, Nat.ne_of_lt (Nat.lt_succ_of_lt hal)⟩, fun b hb => ?_, q⟩
    have hle : s1.heap.objs.size ≤ b := by
      rcases (show b = s1.heap.objs.size + 1 ∨ b = s1.heap.objs.size by simpa using hb) with z | z <;> (rw [z]; first | exact Nat.le_refl _ | exact Nat.le_add_right _ _)
    exact I1.fpOk hle (I1.hok.fresh hle)
theorem walkE {K : PySem.W.Frag} {a : Addr} {xs : List V} : Walk (ItE K a) xs.length (fun H => SqT K H a xs) (YPair (fun i => some (.int (i : Nat))) (fun i => xs[i]?)) :=
  ⟨fun i H hi h => ⟨xs, xs[i], h, by simp [hi]⟩, fun H h => ⟨xs, h, Nat.le_refl _⟩, fun i H x H' hi h y => by
    obtain ⟨T, z, e1, e2, e3, e4⟩ := y
    exact ⟨T, _, z, e1, e2, e3, rfl, e4 xs h⟩⟩
end Sy
/-! super().__init__(..) as the first row of an own error's __init__ (own rule) -/
namespace Sy
open PySem PySem.Spec PyProof.Rows L2 NdefX
/-- what the written part says of the error's class at D and its __init__ at f (its cell at cc, its code at cd) -/
structure SupF (P : Program) (K : PySem.W.Frag) (D f cc cd : Addr) (qual : Str) (pa : Arguments) (bo : List Stmt) (sc : Scope) (fd : FuncData) : Prop where
  ex : ∃ (oc : Value) (od : Option Addr) (dV kV doc pm : Value) (an : Option Addr) (ct : Value) (osl : Array (Option Value)),
    fd = PySem.W.fnX "__init__" qual pa bo sc [("__class__", cc)] dV kV doc pm an (.ref cd) ct ∧ K.lookup f = some ⟨oc, od, .func fd, osl⟩
  co : PySem.W.codeIn K (.ref cd) qual = true
  file : ∃ (cl : Value) (dd : Option Addr) (vs : Array Value) (sl : Array (Option Value)) (fi : Str) (tf : Tok), K.lookup cd = some ⟨cl, dd, .fields vs, sl⟩ ∧ vs[2]? = some (.str fi tf) ∧ ((P.main.file : Str) == fi) = true
  cell : ∃ (cl : Value) (dd : Option Addr) (sl : Array (Option Value)), K.lookup cc = some ⟨cl, dd, .cell (some (.ref D)), sl⟩
  isc : ∃ c, PySem.W.clsIn K D = some c
  sub : PySem.W.mroIn K D (.ref D) = some true
  sup : PySem.W.ks_superIn K D D "__init__" = some (some (.builtin "ValueError.__init__"))
  ve : PySem.W.subIn K (.ref D) (.type "ValueError") = some true
  opq : PySem.W.nsIn K cStatics "thirdparty.any" = some none
  oex : OexC K D
section
variable {P : Program} {w : World} {K : PySem.W.Frag} {mg : Str → Option Value} {base : Heap} {CX : CXT} {k : Nat} {D f cc cd : Addr} {qual : Str} {pa : Arguments} {bo rest : List Stmt} {sc : Scope} {fd : FuncData} {N ps : List Str} {sp : Sp} {e : Expr} {es : List Expr} {q0 q1 q2 q3 q4 : Pos} {p0 : Arg}
theorem fn_sup (T : SupF P K D f cc cd qual pa bo sc fd) (S : NScope N ps ["__class__"] sc) (hbo : bo = .Expr (.Call (.Attribute (.Call (.Name "super" q0) [] [] q1) "__init__" q2) (e :: es) [] q3) q4 :: rest)
    (hp : (pa.posonlyargs ++ pa.args).head? = some p0) (hps : N[0]? = some p0.arg) (hp1 : sc.names.lookup p0.arg = some .local) (hks : sc.names.lookup ("super" : Str) = some .globalImplicit) (mS : mg "super" = none) (top : (P.main.scope.names.lookup ("super" : Str)).isSome = false)
    (len : ∀ vs H Q E, sp vs H Q E → vs.length = ps.length)
    {pl : Sem Bool} (hev : ∀ env : Env, eval (.Call (.Attribute (.Call (.Name "super" q0) [] [] q1) "__init__" q2) (e :: es) [] q3) env = (do
      let ov ← attributeBase (.Call (.Name "super" q0) [] [] q1) "__init__" env (eval (.Call (.Name "super" q0) [] [] q1) env)
      standAt q2.atName
      let (f, first) ← holding [ov] (getMethod ov "__init__" pl)
      callWith q3 f first (backTo q3 (starEach (e :: es) env)) []))
    (he : ∀ env : Env, starEach (e :: es) env = (false, eval e env) :: starEach es env) (hpl : ∀ (env : Env) (pos : Pos), (backTo pos (starEach es env)).any (·.1) = false)
    (hbody : ∀ (A : Around) (outer : List Env) (s : Shared) (H : Hp) (vs : List V) (Q : VK) (E : XK), Room k (A.deeper (envF ⟨"__init__", qual, pa, bo, sc, [("__class__", cc)], cd⟩ f s.heap.objs.size)) → sp vs H Q E →
      ∃ ta t, PA (ncx CX P w K mg base N ⟨"__init__", qual, pa, bo, sc, [("__class__", cc)], cd⟩ f A outer s H E) (e :: es) ta ∧ PSs (ncx CX P w K mg base N ⟨"__init__", qual, pa, bo, sc, [("__class__", cc)], cd⟩ f A outer s H E) rest t ∧
        ∃ a vr, vs = .ref a :: vr ∧ H a = some (exo a D none) ∧ ta (startF N vs [some (.ref D)]) H fun ws H1 => ws.length ≤ 1000 ∧ H1 a = some (exo a D none) ∧ t { nx := fun _ H' => Q .non H', rt := Q } (startF N vs [some (.ref D)]) H1) :
    FnOk P w K mg base CX (k + 1) f fd ps sp := by
  obtain ⟨oc, od, dV, kV, doc, pm, an, ct, osl, rfl, lk⟩ := T.ex
  refine ⟨len, fun A outer s H args us vs Q E hr e0 hb r hsp => ?_⟩
  have hl := len _ _ _ _ hsp
  have KX : K.In s.heap := e0.mod.kin.keeps fun b o e => (e0.bs b o e).1
  have lim : s.heap.NoLimit := e0.mod.nolimit.keeps fun b o e => (e0.bs b o e).1
  obtain ⟨cl1, dd1, sl1, hcell⟩ := T.cell
  have hcn : H cc = none := (e0.bs _ _ (e0.mod.kin _ _ hcell)).2
  have CA : CellsAt [("__class__", cc)] ["__class__"] [some (.ref D)] s.heap H := by
    refine ⟨rfl, fun y c e => ?_, fun x y c e1 e2 => ?_, fun i y hi => ?_⟩
    · simp only [List.lookup] at e
      split at e
      · cases e; exact ⟨hcn, _, _, KX _ _ hcell, rfl⟩
      · cases e
    · simp only [List.lookup] at e1 e2
      split at e1
      · split at e2
        · rename_i z1 _ z2
          exact (beq_iff_eq.mp z1).trans (beq_iff_eq.mp z2).symm
        · cases e2
      · cases e1
    · cases i with
      | zero =>
        cases hi
        refine ⟨cc, rfl, fun v ev => ?_⟩
        cases ev
        exact ⟨.ref D, rfl, _, KX _ _ hcell, rfl⟩
      | succ n => simp at hi
  obtain ⟨ta, t, hA, hS, a, vr, rfl, hea, hq⟩ := hbody A outer s H _ Q E (hr.deeper _) hsp
  refine ks_codeAny_call_defAt hr.depth (KX _ _ lk) rfl lim (PySem.W.codeRec_of KX T.co) rfl hb S.nocell (fun ⟨n, _⟩ hy => S.par n (List.of_mem_zip hy).1) (fun h0 hns hk => ?_) S.co S.gen S.kind
  have I : Inv (ncx CX P w K mg base N ⟨"__init__", qual, pa, bo, sc, [("__class__", cc)], cd⟩ f A outer s H E) [] (startF N (.ref a :: vr) [some (.ref D)]) H { s with heap := h0, toks := s.toks + (ps.zip us).length } := inv_startN S hr.hd e0 hl r CA hns hk
  show _root_.PySem.wpAt _ (A.deeper (envF ⟨"__init__", qual, pa, bo, sc, [("__class__", cc)], cd⟩ f s.heap.objs.size)) (.func bo (envF ⟨"__init__", qual, pa, bo, sc, [("__class__", cc)], cd⟩ f s.heap.objs.size)) (execs bo (envF ⟨"__init__", qual, pa, bo, sc, [("__class__", cc)], cd⟩ f s.heap.objs.size)) _ _ _
  generalize hX : ncx CX P w K mg base N ⟨"__init__", qual, pa, bo, sc, [("__class__", cc)], cd⟩ f A outer s H E = X at *
  have hXe : X.env = envF ⟨"__init__", qual, pa, bo, sc, [("__class__", cc)], cd⟩ f s.heap.objs.size := by rw [← hX] <;> rfl
  have hXA : X.A = A.deeper (envF ⟨"__init__", qual, pa, bo, sc, [("__class__", cc)], cd⟩ f s.heap.objs.size) := by rw [← hX] <;> rfl
  have hK : X.K = K := by rw [← hX] <;> rfl
  have hP : X.prog = P := by rw [← hX] <;> rfl
  have hW : X.w = w := by rw [← hX] <;> rfl
  have hmg : X.mg = mg := by rw [← hX] <;> rfl
  have hN : X.N = N := by rw [← hX] <;> rfl
  have hxe : X.xe = fun e s' => wpAny (model P w) (A.deeper (envF ⟨"__init__", qual, pa, bo, sc, [("__class__", cc)], cd⟩ f s.heap.objs.size)) (leaving (envF ⟨"__init__", qual, pa, bo, sc, [("__class__", cc)], cd⟩ f s.heap.objs.size) e) (fun _ s'' => CX outer H s E e s'') (fun e' s'' => CX outer H s E e' s'') s' := by rw [← hX] <;> rfl
  have hs0 : X.s_0 = s := by rw [← hX] <;> rfl
  have hH0 : X.H_0 = H := by rw [← hX] <;> rfl
  have hstk : X.stack = envF ⟨"__init__", qual, pa, bo, sc, [("__class__", cc)], cd⟩ f s.heap.objs.size :: outer := by rw [← hX] <;> rfl
  have hfs : X.fs = frs outer := by rw [← hX] <;> rfl
  have hex : X.ex = [] := by rw [← hX] <;> rfl
  obtain ⟨cl2, dd2, vs2, sl2, fi, tf, hcode, hvs, hfi⟩ := T.file
  obtain ⟨cdD, hcd⟩ := T.isc
  obtain ⟨m, hm, hlook⟩ := I.loc
  obtain ⟨u0, ru0, hu0⟩ := hlook 0 p0.arg (.ref a) (by rw [hN]; exact hps) rfl (by rw [hXe]; exact .inl hp1)
  obtain rfl : u0 = Value.ref a := ru0
  have hself : m p0.arg = some (.ref a) := by
    rcases hu0 with ⟨_, z⟩ | ⟨z, _⟩
    · exact z
    · rw [hXe] at z
      have z1 : sc.names.lookup p0.arg = some .cell ∨ sc.names.lookup p0.arg = some .free := z
      rw [hp1] at z1
      rcases z1 with z1 | z1 <;> cases z1
  have kin : K.In h0 := by have q := I.kIn; rw [hK] at q; exact q
  rw [hXe] at hm
  subst hbo
  refine ks_wpAt_execs_cons (ks_wpAt_Expr_any (ks_wpAt_MethodCall ?_ (hev _)) (hi := by simp [interactive, S.kind]))
  obtain ⟨oD, hD1, hD2⟩ : ∃ oD, h0.get? D = some oD ∧ oD.data = .cls cdD := by
    unfold PySem.W.clsIn at hcd
    split at hcd
    · rename_i c d cd' sl ho
      cases hcd
      exact ⟨_, kin _ _ ho, rfl⟩
    · cases hcd
  obtain ⟨t1, hoe⟩ := exo_at I.hok hea
  have IA : PySem.W.InstAt h0 a ({ cls := .ref D, dict := none, data := .fields #[.ref t1, .none, .none, .none, .bool false, .none] } : Obj) D none := ⟨hoe, rfl, rfl, trivial⟩
  refine ks_wpAt_super_base hks (S.frk _ List.mem_cons_self) (by decide) rfl (hk _ _ (KX _ _ lk)) rfl hp rfl (hk _ _ (KX _ _ hcode)) rfl hvs hfi top ?_
  obtain ⟨mb, hb1, hb2⟩ := I.mod.blt
  have hbs : mb "super" = some (.type "super") := (hb2 ("super" : Str) (by decide)).trans (by first | boot_by_name | rfl | decide +kernel)
  refine PySem.W.ks_loadName_global S.kind hks (PySem.Calls.loadGlobal_builtin (mg := mg) (by have q := I.mod.glob.keeps I.bk; rw [hmg] at q; exact q) mS (hb1.keeps I.bk) hbs ⟨rfl, ?_⟩)
  refine wpAny_loadName_free S.kind (S.frk _ List.mem_cons_self) rfl ⟨_, kin _ _ hcell, rfl⟩ ?_
  refine wpAny_loadName_local S.kind hp1 hm hself ?_
  refine ks_wpAny_isType_cls hD1 hD2 ⟨rfl, ?_⟩
  refine ks_wpAny_call_super hD1 hD2 hoe rfl (fun c z => by cases z) (PySem.W.looks_mroIn kin T.sub) (fun h1 hso kp1 => ?_)
  have I1 := I.kept (h' := h1) (t' := s.toks + (ps.zip us).length) kp1
  have kin1 : K.In h1 := by have q := I1.kIn; rw [hK] at q; exact q
  have hoe1 := kp1 _ _ hoe
  have hsup := T.sup
  unfold PySem.W.ks_superIn at hsup
  rw [hcd] at hsup
  have IA1 : PySem.W.InstAt h1 a ({ cls := .ref D, dict := none, data := .fields #[.ref t1, .none, .none, .none, .bool false, .none] } : Obj) D none := ⟨hoe1, rfl, rfl, trivial⟩
  refine PySem.W.kxs_getMethod PySem.W.kxs_ValueError hso (PySem.W.looks_opaque kin1 T.opq) (l₀ := cdD.mro) (fun A Q E s k q => wpAny_bind ((PySem.W.looks_clsIn kin1 hcd) A _ E s k (wpAny_pure q))) rfl kin1 hsup (IA1.type.andThen (PySem.W.looks_subIn kin1 T.ve)) (PySem.W.ks_ne kin1 IA1 hcd) (by decide) ?_
  have kp2 : ∀ b o, h1.get? b = some o → (h1.push (PySem.W.kxs_mw "ValueError.__init__" a)).get? b = some o := fun b o z => Heap.get?_push_of_some _ z
  have hu : (h1.push (PySem.W.kxs_mw "ValueError.__init__" a)).get? h1.objs.size = some (PySem.W.kxs_mw "ValueError.__init__" a) := Heap.get?_push_at rfl rfl
  have I2 := I1.kept (h' := h1.push (PySem.W.kxs_mw "ValueError.__init__" a)) (t' := s.toks + (ps.zip us).length + 1) kp2
  have hfresh : H h1.objs.size = none := I1.hok.fresh (Nat.le_refl _)
  have hsz : h1.objs.size ≠ X.env.locals := Nat.ne_of_gt I1.lt
  have I3 : Inv X [(h1.objs.size, PySem.W.kxs_mw "ValueError.__init__" a)] (startF N (.ref a :: vr) [some (.ref D)]) H ⟨h1.push (PySem.W.kxs_mw "ValueError.__init__" a), s.gens, s.drawn, s.toks + (ps.zip us).length + 1, s.os⟩ := I2.pins_of fun p hp => by
    have hp' : p = (h1.objs.size, PySem.W.kxs_mw "ValueError.__init__" a) := by simpa using hp
    subst hp'
    exact ⟨hu, hfresh, hsz, I1.nofs (Nat.le_refl _), fun v z => by cases z⟩
  rw [← hP, ← hW]
  rw [he]
  refine PySem.W.kxs_callWith (i := "ValueError.__init__") (x := a) (by show (false || (backTo q3 (starEach es _)).any (·.1)) = false; rw [hpl]; rfl) ?_
  have hA2 := hA.run q3 _ _ _ _ (fun ws H1 => ws.length ≤ 1000 ∧ H1 a = some (exo a D none) ∧ t { nx := fun _ H' => Q .non H', rt := Q } (startF N (.ref a :: vr) [some (.ref D)]) H1) I3 hq
  rw [hXe, he, hXA, hxe] at hA2
  refine PySem.Calls.evalArgs_plain (wpAny_mono hA2 (fun us3 s3 h3 => ?_) (fun _ _ z => by rw [hP, hW]; exact z))
  obtain ⟨ws, H3, J, rv, hlen, hea3, hq3⟩ := h3
  have hu3 : s3.heap.get? h1.objs.size = some (PySem.W.kxs_mw "ValueError.__init__" a) := (J.pin _ (List.mem_append_right _ (List.mem_singleton.mpr rfl))).1
  refine ⟨hu3, ?_⟩
  have J0 : Inv X [] (startF N (.ref a :: vr) [some (.ref D)]) H3 s3 := J.pins_of fun p hp => by simp at hp
  have hus : us3.length ≤ sizeLine := by
    rw [← rv.length, sizeLine_eq]
    omega
  show wpAny _ _ (call (.ref h1.objs.size) us3) _ _ s3
  obtain ⟨nm, q, Nn, bs, bm, sn, sub, ab, col, dd, k0, k1, k2, k3, k5, hC, hbm⟩ := T.oex.cls
  have kin3 : K.In s3.heap := by have q := J0.kIn; rw [hK] at q; exact q
  obtain ⟨t3, ho3⟩ := exo_at J0.hok hea3
  obtain ⟨hp3, g3, d3, tk3, os3⟩ := s3
  refine wpAny_call (codeAny_of_tree ?_)
  show wpAny _ _ (callAny (.ref h1.objs.size) ⟨us3, []⟩) _ _ _
  simp only [callAny]
  refine wpAny_bind (wpAny_load hu3 ?_)
  simp only [PySem.W.kxs_mw, show (Value.type "method-wrapper" == Value.type "method" || Value.type "method-wrapper" == Value.type "builtin_function_or_method" || Value.type "method-wrapper" == Value.type "method-wrapper") = true by decide, if_true]
  refine PySem.W.KFB.if_so (by decide) ?_
  refine wpAny_bind (PySem.W.check_bound_init F.excBase_ValueError.toExcCallFacts (kin3 _ _ hC) ho3 rfl ?_)
  refine wpAny_bind (wpAny_pure (wpAny_pure ?_))
  refine ⟨plainId_quiet F.excBase_ValueError.init.plain _, codeAny_builtin F.excBase_ValueError.initEntry ?_⟩
  refine PySem.W.exc_init_tree (cls := .ref D) (t0 := t3) (dv := none) (c2 := .none) (c3 := .none) (b4 := .bool false) ho3 hus fun h4 kp4 hx4 _ => ?_
  have J4 := J0.write (t' := tk3) (x := a) (e := a) (o := exo a D none) (by rw [hea3]; exact True.intro) (.inl rfl) kp4 ⟨_, hx4⟩ (exo_ok hx4)
  have eu : upd H3 a (exo a D none) = H3 := by
    funext b
    by_cases hb : b = a
    · rw [hb, upd_same, hea3]
    · rw [upd_ne hb]
  rw [eu] at J4
  have hS4 := hS.run _ _ _ _ { nx := fun _ H' => Q .non H', rt := Q } J4 hq3
  rw [hXe, hXA, hxe, hP, hW] at hS4
  show _root_.PySem.wpAt _ _ _ _ _ _ _
  rw [hP, hW]
  refine wpAt_of_wpAny (wpAny_mono hS4 (fun fl s' hs => ?_) fun _ _ z => z)
  have fin : ∀ {σ' : L2.St} {H' : Hp} {v : V} {u : Value}, Inv X [] σ' H' s' → RelV v u → Q v H' → CE outer P w H s Q u s' := fun {σ' H' v u} J rv q => by
    have b1 := J.base
    have o1 := J.os
    have k1 := J.hok
    rw [hfs, hex, hH0, hs0] at b1
    rw [hs0] at o1
    rw [hP, hW] at k1
    exact ⟨v, H', o1, J.bare, b1, k1, rv, q⟩
  cases fl with
  | ret u =>
    obtain ⟨v, σ', H', J, rv, q⟩ := hs
    exact fin J rv q
  | next =>
    obtain ⟨σ', H', J, q⟩ := hs
    exact fin (v := V.non) (u := Value.none) J rfl q
  | brk =>
    obtain ⟨_, _, _, q⟩ := hs
    exact False.elim q
  | cont =>
    obtain ⟨_, _, _, q⟩ := hs
    exact False.elim q
end
end Sy
/-! tuple.count, tuple * int of any size, a tuple of ints in an f-string (own rules) -/
namespace Sy
open PySem PySem.Spec PyProof.Rows L2
open AutoSeq1 (wpAny_loadPart')
section
variable {X : Cx}
/-- t.count(y), all flat -/
def rTCnt (K : PySem.W.Frag) : V → List V → Hp → VK → Prop := fun x xs H Q => ∃ (a : Addr) (ys : List V) (y : V), x = V.ref a ∧ xs = [y] ∧ SqT K H a ys ∧ flatV y = true ∧ ys.all flatV = true ∧ Q (.int (ys.countP fun z => eqV z y : Nat)) H
theorem countU {y : V} : ∀ {ys : List V} {its : List Value}, Vals ys its → ys.all flatV = true → its.countP (eqU y) = ys.countP fun z => eqV z y
  | [], _, r, _ => by cases r; rfl
  | z :: ys, _, r, f => by
    cases r with
    | cons r1 r2 =>
      have f' := Bool.and_eq_true_iff.mp (show (flatV z && ys.all flatV) = true from f)
      rw [List.countP_cons, List.countP_cons, countU r2 f'.2, eqU_of r1 f'.1]
theorem mt_tcount : MtR X "tuple.count" (rTCnt X.K) := by
  intro pins s σ H x xs v us Q I rx rxs h
  obtain ⟨a, ys, y, rfl, rfl, hs, fy, fys, q⟩ := h
  cases rx
  cases rxs with
  | cons ry rt =>
    rename_i uy ut
    cases rt
    obtain ⟨its, rv, ⟨⟨cls, dd, data, sl⟩, ho, hc, n, hd⟩, hlen⟩ := I.tuple hs
    simp only at hc hd
    subst hc hd
    refine call_meets PySem.F.slot_tuple_count ⟨_, ho, rfl⟩ PySem.F.entry_tuple_count (PySem.F.args_tuple_count_2 _ _) (SeqAt.tuple_countAt a its.toArray n dd sl uy (eqU y)) ⟨ho, fun u' hu' => mem_eqAt ry fy rv fys u' (by simpa using hu'), ?_⟩
    have e1 : its.toArray.toList.countP (eqU y) = ys.countP fun z => eqV z y := by
      rw [← countU rv fys]
    rw [e1]
    exact ⟨.int (ys.countP fun z => eqV z y : Nat), H, I.tok _, ⟨_, rfl⟩, q⟩
/-! tuple * int -/
theorem tupMul1 (l : Addr) (items : Array Value) (n : Nat) (dd : Option Addr) (sl : Array (Option Value)) (x : Int) (u : Tok) (c0 : (decide (x < -(2 ^ 63)) || decide (x ≥ 2 ^ 63)) = false) (c1 : (items.isEmpty || x == 1) = true) :
    Meets (Builtin.«tuple.__mul__» ⟨[.ref l, .int x u], []⟩) (fun _ R s => s.heap.get? l = some { cls := .type "tuple", dict := dd, data := .seq items n, slots := sl } ∧ R (.ok (.ret (Value.ref l))) s) :=
  .of_wp fun prog w A R s h => by
    obtain ⟨hp, g, d, tk, os⟩ := s
    obtain ⟨hl, h⟩ := h
    have f1 := AutoSeq1.idx_int
    wp_walk using wpAny_loadPart' hl
    repeat (first
      | (refine wpAny_ite_false (decide_eq_false (by rw [c0]; exact Bool.false_ne_true)) ?_; wp_walk using wpAny_loadPart' hl)
      | (refine wpAny_ite_true (decide_eq_true c1) ?_; wp_walk using wpAny_loadPart' hl))
    all_goals exact ⟨_, rfl, h⟩
theorem tupMul0 (l : Addr) (items : Array Value) (n : Nat) (dd : Option Addr) (sl : Array (Option Value)) (x : Int) (u : Tok) (c0 : (decide (x < -(2 ^ 63)) || decide (x ≥ 2 ^ 63)) = false) (c1 : (items.isEmpty || x == 1) = false) (c2 : (decide (x ≤ 0) || items.isEmpty) = true) :
    Meets (Builtin.«tuple.__mul__» ⟨[.ref l, .int x u], []⟩) (fun _ R s => s.heap.get? l = some { cls := .type "tuple", dict := dd, data := .seq items n, slots := sl } ∧
      R (.ok (.ret (Value.ref s.heap.objs.size))) { s with heap := s.heap.push { cls := Value.type "tuple", data := Data.seq #[] } }) :=
  .of_wp fun prog w A R s h => by
    obtain ⟨hp, g, d, tk, os⟩ := s
    obtain ⟨hl, h⟩ := h
    have f1 := AutoSeq1.idx_int
    wp_walk using wpAny_loadPart' hl
    repeat (first
      | (refine wpAny_ite_false (decide_eq_false (by rw [c0]; exact Bool.false_ne_true)) ?_; wp_walk using wpAny_loadPart' hl)
      | (refine wpAny_ite_false (decide_eq_false (by rw [c1]; exact Bool.false_ne_true)) ?_; wp_walk using wpAny_loadPart' hl)
      | (refine wpAny_ite_true (decide_eq_true c2) ?_; wp_walk using wpAny_loadPart' hl))
    all_goals exact ⟨_, rfl, h⟩
/-- t * k: t itself where k is 1 or t is empty -/
def rRepG (K : PySem.W.Frag) : R2 := fun x y H Q => ∃ l k xs, x = .ref l ∧ y = .int k ∧ SqT K H l xs ∧ -(2 ^ 63) ≤ k ∧ k < 2 ^ 63 ∧ xs.length * k.toNat ≤ 1000000 ∧ xs.length ≤ 1000000 ∧
  ((xs = [] ∨ k = 1) → Q (.ref l) H) ∧ (¬(xs = [] ∨ k = 1) → ∀ p, H p = none → Q (.ref p) (upd H p (.tup (List.replicate k.toNat xs).flatten)))
theorem op_repG : OpR X (binaryOp .Mult) (rRepG X.K) := by
  intro pins s σ H x y v u Q I rx ry h
  obtain ⟨l, k, xs, rfl, rfl, hT, h1, h2, hz, hzl, qa, qb⟩ := h
  cases rx
  obtain ⟨t, rfl⟩ := ry
  obtain ⟨its, r, ⟨⟨cls, dd, data, sl⟩, ho, hc, n, hd⟩, hs⟩ := I.tuple hT
  simp only at hc hd
  subst hc hd
  have hle : its.length = xs.length := r.length.symm
  have c0 : (decide (k < -(2 ^ 63)) || decide (k ≥ 2 ^ 63)) = false := by
    rw [decide_eq_false (by omega), decide_eq_false (by omega)] <;> rfl
  have run : ∀ {Bb : Builtin} {R : Value → Shared → Prop}, Builtin.«tuple.__mul__» = Bb → wpAny (model X.prog X.w) X.A (call (.builtin "tuple.__mul__") [.ref l, .int k t]) R X.xe s → wpAny (model X.prog X.w) X.A (binaryOp .Mult (.ref l) (.int k t)) R X.xe s := fun _ hw =>
    wpAny_binaryOp_repeat_ref (T := "tuple") (U := "int") (by decide) ⟨_, ho, rfl⟩ (fun s' => typeIs_int s' k t) noFill_tuple_mul F.fills_int_mul F.slot_int_rmul repeat_tuple F.slot_int_index.lookup
      (call_meets F.slot_int_rmul (typeIs_int s k t) F.entry_int_rmul (F.args_int_rmul_2 _ _) (int_rmul_tuple k t l its.toArray n dd sl) ⟨ho, rfl, ⟨_, ho, rfl⟩, hw⟩)
  have eE : its.toArray.isEmpty = decide (xs = []) := by
    cases xs with
    | nil => cases r; rfl
    | cons a b => cases r; rfl
  by_cases hc : xs = [] ∨ k = 1
  · refine run rfl (call_meets F.slot_tuple_mul ⟨_, ho, rfl⟩ F.entry_tuple_mul (F.args_tuple_mul_2 _ _) (tupMul1 l its.toArray n dd sl k t c0 ?_) ⟨ho, ?_⟩)
    · rw [eE]
      rcases hc with hc | hc
      · rw [decide_eq_true hc, Bool.true_or]
      · rw [hc]
        exact Bool.or_true _
    · exact ⟨.ref l, H, I, rfl, qa hc⟩
  · have c1 : (its.toArray.isEmpty || k == 1) = false := by
      rw [eE, decide_eq_false (fun z => hc (.inl z)), Bool.false_or]
      exact beq_eq_false_iff_ne.mpr fun z => hc (.inr z)
    by_cases hk : k ≤ 0
    · refine run rfl (call_meets F.slot_tuple_mul ⟨_, ho, rfl⟩ F.entry_tuple_mul (F.args_tuple_mul_2 _ _) (tupMul0 l its.toArray n dd sl k t c0 c1 (by rw [decide_eq_true hk, Bool.true_or])) ⟨ho, ?_⟩)
      have e0 : k.toNat = 0 := by omega
      have q := qb hc _ (I.hok.fresh (Nat.le_refl _))
      rw [e0] at q
      refine ⟨.ref s.heap.objs.size, _, I.laid (t' := s.toks) (o := .tup (List.replicate 0 xs).flatten) (fun b ob q => Heap.get?_push_of_some _ q) (Nat.le_refl _) ?_, rfl, q⟩
      exact ⟨Nat.zero_le _, [], .nil, IsTup.new _ _⟩
    · have h3 : ((its.toArray.size : Nat) : Int) * k ≤ 1000000 := by
        rw [List.size_toArray, hle]
        have e1 : ((xs.length : Nat) : Int) * k = ((xs.length * k.toNat : Nat) : Int) := by
          rw [Int.natCast_mul, Int.toNat_of_nonneg (by omega)]
        rw [e1]
        generalize xs.length * k.toNat = m at hz ⊢
        omega
      have flen : (List.replicate k.toNat its).flatten.length ≤ 1000000 := by
        rw [PyProof.Rows.lm_len_rep_flat, hle, Nat.mul_comm]
        exact hz
      have sl24 := sizeLine_eq
      refine run rfl (call_meets F.slot_tuple_mul ⟨_, ho, rfl⟩ F.entry_tuple_mul (F.args_tuple_mul_2 _ _) (tuple_mulW l its.toArray n dd sl k t c0 c1 (by rw [decide_eq_false hk, Bool.false_or, eE]; exact decide_eq_false fun z => hc (.inl z)) (by omega) (by unfold Builtin.Tuple.tupleTooMany; exact decide_eq_false (by omega)) (by rw [size_rep, List.size_toArray]; omega)) ⟨ho, ?_⟩)
      rw [size_rep]
      refine ⟨.ref s.heap.objs.size, _, I.laid (t' := s.toks) (o := .tup (List.replicate k.toNat xs).flatten) (fun b ob q => Heap.get?_push_of_some _ q) (Nat.le_refl _) ?_, rfl, qb hc _ (I.hok.fresh (Nat.le_refl _))⟩
      exact ⟨by rw [PyProof.Rows.lm_len_rep_flat, Nat.mul_comm]; omega, _, r.rep k.toNat, IsTup.new _ _⟩
/-! a tuple of ints in an f-string -/
theorem reprInts {prog : Program} {w : World} : ∀ {l : List Int} {its : List Value}, Vals (l.map V.int) its → (∀ y ∈ l, y.natAbs.log2 < 1920) → ReprAll prog w its (l.map fun y => (toString y : Str))
  | [], _, r, _ => by
    cases r
    exact .nil
  | y :: l, _, r, h => by
    cases r with
    | cons r1 r2 =>
      obtain ⟨t, rfl⟩ := r1
      exact .cons (ReprIs.int t (h y List.mem_cons_self)) (reprInts r2 fun z hz => h z (List.mem_cons_of_mem _ hz))
theorem piledInts : ∀ l : List Int, (∀ y ∈ l, y.natAbs.log2 < 1920) → piled (l.map fun y => (toString y : Str)) ≤ 1923 * l.length
  | [], _ => Nat.zero_le _
  | y :: l, h => by
    have h1 := int_text_len_1921 (h y List.mem_cons_self)
    have h2 := piledInts l fun z hz => h z (List.mem_cons_of_mem _ hz)
    rw [List.map_cons, piled_cons, List.length_cons]
    omega
def tFmtI (K : PySem.W.Frag) (te : TE) : TE := fun σ H Q => te σ H fun x H1 => ∃ (a : Addr) (l : List Int), x = .ref a ∧ SqT K H1 a (l.map V.int) ∧ (∀ y ∈ l, y.natAbs.log2 < 1920) ∧ l.length ≤ 5000 ∧ ∀ m : Str, m.length ≤ 9700000 → Q (.str m) H1
theorem pe_fmtI {e : Expr} {te : TE} {pos : Pos} {k : Nat} (hr : Room k X.A) (he : PE X e te) : PE X (.FormattedValue e (-1) none pos) (tFmtI X.K te) := by
  refine ⟨fun pins s σ H Q I h => ?_⟩
  refine wpAny_FormattedValue_plain (thn (he.run pins s σ H _ I h) fun v s1 hv => ?_)
  obtain ⟨x, H1, I1, r1, a, l, rfl, ht, hc, hz, q⟩ := hv
  cases r1
  obtain ⟨its, rv, ⟨o, ho, hcl, n, hd⟩, _⟩ := I1.tuple ht
  have hp := piledInts l hc
  have htx := fmt_text (l.map fun y => (toString y : Str))
  have hu := hr.units
  have hsl := sizeLine_eq
  refine fmt_tuple (ts := l.map fun y => (toString y : Str)) (by omega) ho hcl hd (reprInts rv hc) (by omega) fun m u tk hm => ⟨.str m, H1, I1.tok _, ⟨u, rfl⟩, q m (by omega)⟩
end
end Sy
/-! own core: heaps, data that never changes, callables, forms of loops -/
namespace Sy
open PySem PySem.Spec PyProof.Rows L2
/-! ### heaps -/
theorem up_same {H : Hp} {p : Addr} {o : HO} (h : H p = none) : Same H (upd H p o) := fun b x e => by
  rw [upd_ne (ne_of_none e h)]
  exact e
theorem Same.sqt {K : PySem.W.Frag} {H H' : Hp} {a : Addr} {xs : List V} (e : Same H H') (h : SqT K H a xs) : SqT K H' a xs := by
  rcases h with (h | ⟨o, h⟩) | h
  · exact .inl (.inl (e _ _ h))
  · exact .inl (.inr ⟨o, e _ _ h⟩)
  · exact .inr h
/-- what is no list of one's own stays -/
def Stay (H H' : Hp) : Prop := ∀ a o, H a = some o → (∀ xs, o ≠ .lst xs) → H' a = some o
theorem Stay.of {H H' : Hp} (s : Same H H') : Stay H H' := fun a o h _ => s a o h
theorem Stay.refl (H : Hp) : Stay H H := fun _ _ h _ => h
theorem Stay.trans {H H1 H2 : Hp} (a : Stay H H1) (b : Stay H1 H2) : Stay H H2 := fun c o h n => b c o (a c o h n) n
theorem Stay.lst {H : Hp} {p : Addr} {xs : List V} {o : HO} (h : H p = some (.lst xs)) : Stay H (upd H p o) := fun a x e n => by
  rw [upd_ne]
  · exact e
  · intro z
    rw [z, h] at e
    exact n _ (Option.some.inj e).symm
theorem Stay.new {H : Hp} {p : Addr} {o : HO} (h : H p = none) : Stay H (upd H p o) := Stay.of (up_same h)
theorem Stay.sqt {K : PySem.W.Frag} {H H' : Hp} {a : Addr} {xs : List V} (e : Stay H H') (h : SqT K H a xs) : SqT K H' a xs := by
  rcases h with (h | ⟨o, h⟩) | h
  · exact .inl (.inl (e _ _ h fun _ z => by cases z))
  · exact .inl (.inr ⟨o, e _ _ h fun _ z => by cases z⟩)
  · exact .inr h
/-! ### data that never changes -/
mutual
inductive Im (K : PySem.W.Frag) (H : Hp) : V → PyData → Prop
  | non : Im K H .non .none
  | bl (b : Bool) : Im K H (.bl b) (.bool b)
  | int (i : Int) : Im K H (.int i) (.int i)
  | str (x : Str) : Im K H (.str x) (.str x)
  | tup {a : Addr} {xs : List V} {ds : List PyData} : SqT K H a xs → ImA K H xs ds → Im K H (.ref a) (.tuple ds)
inductive ImA (K : PySem.W.Frag) (H : Hp) : List V → List PyData → Prop
  | nil : ImA K H [] []
  | cons {v : V} {vs : List V} {d : PyData} {ds : List PyData} : Im K H v d → ImA K H vs ds → ImA K H (v :: vs) (d :: ds)
end
mutual
theorem Im.mono {K : PySem.W.Frag} {H H' : Hp} (s : Stay H H') : ∀ {v : V} {d : PyData}, Im K H v d → Im K H' v d
  | _, _, .non => .non
  | _, _, .bl b => .bl b
  | _, _, .int i => .int i
  | _, _, .str x => .str x
  | _, _, .tup h a => .tup (s.sqt h) (ImA.mono s a)
theorem ImA.mono {K : PySem.W.Frag} {H H' : Hp} (s : Stay H H') : ∀ {vs : List V} {ds : List PyData}, ImA K H vs ds → ImA K H' vs ds
  | _, _, .nil => .nil
  | _, _, .cons a b => .cons (Im.mono s a) (ImA.mono s b)
end
mutual
theorem Im.dp {K : PySem.W.Frag} {H : Hp} : ∀ {v : V} {d : PyData}, Im K H v d → Dp K H v d
  | _, _, .non => .non
  | _, _, .bl b => .bl b
  | _, _, .int i => .int i
  | _, _, .str x => .str x
  | _, _, .tup h a => .tup h (ImA.dp a)
theorem ImA.dp {K : PySem.W.Frag} {H : Hp} : ∀ {vs : List V} {ds : List PyData}, ImA K H vs ds → DpAll K H vs ds
  | _, _, .nil => .nil
  | _, _, .cons a b => .cons (Im.dp a) (ImA.dp b)
end
theorem ImA.len {K : PySem.W.Frag} {H : Hp} : ∀ {vs : List V} {ds : List PyData}, ImA K H vs ds → vs.length = ds.length
  | _, _, .nil => rfl
  | _, _, .cons _ b => by rw [List.length_cons, List.length_cons, ImA.len b]
theorem ImA.get {K : PySem.W.Frag} {H : Hp} : ∀ {vs : List V} {ds : List PyData} {i : Nat} {d : PyData}, ImA K H vs ds → ds[i]? = some d → ∃ v, vs[i]? = some v ∧ Im K H v d
  | _, _, _, _, .nil, e => by simp at e
  | _, _, 0, _, .cons a _, e => by simp at e; subst e; exact ⟨_, rfl, a⟩
  | _, _, i + 1, d, .cons _ b, e => by
    obtain ⟨v, h1, h2⟩ := ImA.get (i := i) (d := d) b (by simpa using e)
    exact ⟨v, by simpa using h1, h2⟩
theorem ImA.app {K : PySem.W.Frag} {H : Hp} : ∀ {vs ws : List V} {ds es : List PyData}, ImA K H vs ds → ImA K H ws es → ImA K H (vs ++ ws) (ds ++ es)
  | _, _, _, _, .nil, b => b
  | _, _, _, _, .cons a r, b => .cons a (ImA.app r b)
theorem ImA.strs {K : PySem.W.Frag} {H : Hp} : ∀ l : List Str, ImA K H (l.map V.str) (l.map PyData.str)
  | [] => .nil
  | x :: l => .cons (.str x) (ImA.strs l)
theorem ImA.ints {K : PySem.W.Frag} {H : Hp} : ∀ l : List Int, ImA K H (l.map V.int) (l.map PyData.int)
  | [] => .nil
  | x :: l => .cons (.int x) (ImA.ints l)
theorem Im.strs {K : PySem.W.Frag} {H : Hp} {a : Addr} {l : List Str} (h : SqT K H a (l.map V.str)) : Im K H (.ref a) (.tuple (l.map PyData.str)) := .tup h (ImA.strs l)
theorem Im.ints {K : PySem.W.Frag} {H : Hp} {a : Addr} {l : List Int} (h : SqT K H a (l.map V.int)) : Im K H (.ref a) (.tuple (l.map PyData.int)) := .tup h (ImA.ints l)
/-! ### known for good, and own -/
structure Hs (B : Hp) (L : List (Addr × HO)) (H : Hp) : Prop where
  sub : Same B H
  own : ∀ q ∈ L, H q.1 = some q.2
  nd : (L.map (·.1)).Nodup
  ap : ∀ q ∈ L, B q.1 = none
section
variable {B B' H H' : Hp} {L : List (Addr × HO)} {p : Addr} {o o' : HO} {x y z u : Addr × HO}
theorem Hs.start (H : Hp) : Hs H [] H := ⟨Same.refl H, fun _ h => (nomatch h), List.nodup_nil, fun _ h => (nomatch h)⟩
theorem Hs.ne_of_new (h : Hs B L H) (hp : H p = none) : ∀ q ∈ L, q.1 ≠ p := fun q hq z => by
  have e := h.own q hq
  rw [z, hp] at e
  cases e
theorem Hs.new (h : Hs B L H) (hp : H p = none) : Hs B ((p, o) :: L) (upd H p o) where
  sub := h.sub.trans (up_same hp)
  own := fun q hq => by
    rcases List.mem_cons.mp hq with rfl | hq
    · exact upd_same
    · rw [upd_ne (h.ne_of_new hp q hq)]
      exact h.own q hq
  nd := List.nodup_cons.mpr ⟨fun hm => by
    obtain ⟨q, hq, e⟩ := List.mem_map.mp hm
    exact h.ne_of_new hp q hq e, h.nd⟩
  ap := fun q hq => by
    rcases List.mem_cons.mp hq with rfl | hq
    · exact h.sub.free hp
    · exact h.ap q hq
theorem Hs.tup (h : Hs B L H) (hp : H p = none) : Hs (upd B p o) L (upd H p o) where
  sub := fun b w e => by
    by_cases hb : b = p
    · subst hb
      rw [upd_same] at e ⊢
      exact e
    · rw [upd_ne hb] at e ⊢
      exact h.sub b w e
  own := fun q hq => by
    rw [upd_ne (h.ne_of_new hp q hq)]
    exact h.own q hq
  nd := h.nd
  ap := fun q hq => by
    rw [upd_ne (h.ne_of_new hp q hq)]
    exact h.ap q hq
/-- what is laid and never told of again -/
theorem Hs.lay (h : Hs B L H) (hp : H p = none) : Hs B L (upd H p o) where
  sub := h.sub.trans (up_same hp)
  own := fun q hq => by
    rw [upd_ne (h.ne_of_new hp q hq)]
    exact h.own q hq
  nd := h.nd
  ap := h.ap
theorem Hs.swap (h : Hs B (x :: y :: L) H) : Hs B (y :: x :: L) H :=
  ⟨h.sub, fun q hq => h.own q (by simp only [List.mem_cons] at hq ⊢; rcases hq with a | a | a <;> simp [a]),
   (List.Perm.swap _ _ _).nodup_iff.mp (by simpa using h.nd), fun q hq => h.ap q (by simp only [List.mem_cons] at hq ⊢; rcases hq with a | a | a <;> simp [a])⟩
theorem Hs.perm {L' : List (Addr × HO)} (h : Hs B L H) (pm : L.Perm L') : Hs B L' H :=
  ⟨h.sub, fun q hq => h.own q (pm.mem_iff.mpr hq), (pm.map _).nodup_iff.mp h.nd, fun q hq => h.ap q (pm.mem_iff.mpr hq)⟩
theorem Hs.r0 (h : Hs B ((p, o) :: L) H) : H p = some o := h.own (p, o) List.mem_cons_self
theorem Hs.r1 (h : Hs B (x :: (p, o) :: L) H) : H p = some o := h.own (p, o) (by simp)
theorem Hs.r2 (h : Hs B (x :: y :: (p, o) :: L) H) : H p = some o := h.own (p, o) (by simp)
theorem Hs.r3 (h : Hs B (x :: y :: z :: (p, o) :: L) H) : H p = some o := h.own (p, o) (by simp)
theorem Hs.r4 (h : Hs B (x :: y :: z :: u :: (p, o) :: L) H) : H p = some o := h.own (p, o) (by simp)
theorem Hs.w0 (h : Hs B ((p, o) :: L) H) : Hs B ((p, o') :: L) (upd H p o') where
  sub := fun b w e => by
    rw [upd_ne]
    · exact h.sub b w e
    · intro q
      have := h.ap (p, o) List.mem_cons_self
      rw [q, this] at e
      cases e
  own := fun q hq => by
    rcases List.mem_cons.mp hq with rfl | hq
    · exact upd_same
    · have nd := List.nodup_cons.mp h.nd
      rw [upd_ne]
      · exact h.own q (List.mem_cons_of_mem _ hq)
      · intro e
        exact nd.1 (List.mem_map.mpr ⟨q, hq, e⟩)
  nd := h.nd
  ap := fun q hq => by
    rcases List.mem_cons.mp hq with rfl | hq
    · exact h.ap (p, o) List.mem_cons_self
    · exact h.ap q (List.mem_cons_of_mem _ hq)
theorem Hs.w1 (h : Hs B (x :: (p, o) :: L) H) : Hs B (x :: (p, o') :: L) (upd H p o') := h.swap.w0.swap
theorem Hs.w2 (h : Hs B (x :: y :: (p, o) :: L) H) : Hs B (x :: y :: (p, o') :: L) (upd H p o') :=
  (h.perm (L' := (p, o) :: x :: y :: L) ((List.Perm.cons _ (List.Perm.swap _ _ _)).trans (List.Perm.swap _ _ _))).w0.perm ((List.Perm.swap _ _ _).trans (List.Perm.cons _ (List.Perm.swap _ _ _)))
theorem Hs.drop (h : Hs B (x :: L) H) : Hs B L H := ⟨h.sub, fun q hq => h.own q (List.mem_cons_of_mem _ hq), (List.nodup_cons.mp h.nd).2, fun q hq => h.ap q (List.mem_cons_of_mem _ hq)⟩
/-- own no more: known for good -/
theorem Hs.give (h : Hs B ((p, o) :: L) H) : Same B (upd B p o) ∧ Hs (upd B p o) L H := by
  have hp : B p = none := h.ap (p, o) List.mem_cons_self
  refine ⟨up_same hp, fun b w e => ?_, fun q hq => h.own q (List.mem_cons_of_mem _ hq), (List.nodup_cons.mp h.nd).2, fun q hq => ?_⟩
  · by_cases hb : b = p
    · subst hb
      rw [upd_same] at e
      rw [h.r0]
      exact e
    · rw [upd_ne hb] at e
      exact h.sub b w e
  · rw [upd_ne]
    · exact h.ap q (List.mem_cons_of_mem _ hq)
    · intro e
      exact (List.nodup_cons.mp h.nd).1 (List.mem_map.mpr ⟨q, hq, e⟩)
/-- a known list (an argument that the def changes) becomes own -/
theorem Hs.take (h : Hs B L H) (hb : B p = some o) : Hs (L2.del B p) ((p, o) :: L) H where
  sub := fun b w e => by
    unfold L2.del at e
    split at e
    · cases e
    · exact h.sub b w e
  own := fun q hq => by
    rcases List.mem_cons.mp hq with rfl | hq
    · exact h.sub _ _ hb
    · exact h.own q hq
  nd := by
    refine List.nodup_cons.mpr ⟨fun hm => ?_, h.nd⟩
    obtain ⟨q, hq, e⟩ := List.mem_map.mp hm
    have e2 := h.ap q hq
    rw [e, hb] at e2
    cases e2
  ap := fun q hq => by
    rcases List.mem_cons.mp hq with rfl | hq
    · exact del_same
    · unfold L2.del
      split
      · rfl
      · exact h.ap q hq
theorem stay_del {xs : List V} (hb : B p = some (.lst xs)) : Stay B (L2.del B p) := fun a w e n => by
  rw [del_ne]
  · exact e
  · intro z
    rw [z, hb] at e
    exact n _ (Option.some.inj e).symm
/-! behind a call -/
def cut (L : List (Addr × HO)) (H : Hp) : Hp := fun a => if a ∈ L.map (·.1) then none else H a
theorem cut_at {a : Addr} (h : a ∉ L.map (·.1)) : cut L H a = H a := if_neg h
theorem cut_in {a : Addr} (h : a ∈ L.map (·.1)) : cut L H a = none := if_pos h
theorem Hs.out (h : Hs B L H) {a : Addr} {w : HO} (e : B a = some w) : a ∉ L.map (·.1) := fun hm => by
  obtain ⟨q, hq, z⟩ := List.mem_map.mp hm
  have := h.ap q hq
  rw [z, e] at this
  cases this
theorem Hs.out_new (h : Hs B L H) {a : Addr} (e : H a = none) : a ∉ L.map (·.1) := fun hm => by
  obtain ⟨q, hq, z⟩ := List.mem_map.mp hm
  have := h.own q hq
  rw [z, e] at this
  cases this
/-- a call that changes nothing tracked -/
theorem Hs.after (h : Hs B L H) (s : Same H H') : Same B (cut L H') ∧ Hs (cut L H') L H' :=
  ⟨fun a w e => by rw [cut_at (h.out e)]; exact s a w (h.sub a w e), fun a w e => by
    unfold cut at e
    split at e
    · cases e
    · exact e, fun q hq => s _ _ (h.own q hq), h.nd, fun q hq => cut_in (List.mem_map_of_mem hq)⟩
/-- .. that changes the one at p -/
def Chg (p : Addr) (o' : HO) (H H' : Hp) : Prop := H' p = some o' ∧ ∀ a w, a ≠ p → H a = some w → H' a = some w
theorem Hs.chg (h : Hs B ((p, o) :: L) H) (s : Chg p o' H H') : Same B (cut ((p, o') :: L) H') ∧ Hs (cut ((p, o') :: L) H') ((p, o') :: L) H' := by
  have kk : ((p, o') :: L).map (·.1) = ((p, o) :: L).map (·.1) := rfl
  refine ⟨fun a w e => ?_, fun a w e => ?_, fun q hq => ?_, by rw [kk]; exact h.nd, fun q hq => cut_in (List.mem_map_of_mem hq)⟩
  · have ho := h.out e
    rw [cut_at (by rw [kk]; exact ho)]
    exact s.2 a w (fun z => ho (by rw [z]; simp)) (h.sub a w e)
  · unfold cut at e
    split at e
    · cases e
    · exact e
  · rcases List.mem_cons.mp hq with rfl | hq
    · exact s.1
    · refine s.2 _ _ (fun z => (List.nodup_cons.mp h.nd).1 (List.mem_map.mpr ⟨q, hq, z⟩)) (h.own q (List.mem_cons_of_mem _ hq))
theorem Chg.stay {xs : List V} (c : Chg p o' H H') (hb : H p = some (.lst xs)) : Stay H H' := fun a w e n => c.2 a w (fun z => by
  rw [z, hb] at e
  exact n _ (Option.some.inj e).symm) e
/-- at a def's end -/
theorem Hs.same (h : Hs B L H') (s : Same H B) : Same H H' := s.trans h.sub
theorem Hs.isChg {B0 : Hp} (h : Hs B ((p, o') :: L) H') (s : Same (L2.del B0 p) B) : Chg p o' B0 H' :=
  ⟨h.r0, fun a w hne e => h.sub a w (s a w (by rw [del_ne hne]; exact e))⟩
theorem Chg.trans {o1 o2 : HO} {H1 H2 : Hp} (a : Chg p o1 H H1) (b : Chg p o2 H1 H2) : Chg p o2 H H2 := ⟨b.1, fun c w n e => b.2 c w n (a.2 c w n e)⟩
end
/-- lists of one's own are lists -/
def AllL (L : List (Addr × HO)) : Prop := ∀ q ∈ L, ∃ xs, q.2 = .lst xs
theorem stay_cut {L : List (Addr × HO)} {B H H' : Hp} (h : Hs B L H) (al : AllL L) (s : Same H H') : Stay H' (cut L H') := fun a w e n => by
  rw [cut_at]
  · exact e
  · intro hm
    obtain ⟨q, hq, z⟩ := List.mem_map.mp hm
    obtain ⟨xs, hx⟩ := al q hq
    have := s _ _ (h.own q hq)
    rw [z, e, hx] at this
    exact n _ (Option.some.inj this)
theorem stay_cutC {L : List (Addr × HO)} {p : Addr} {o o' : HO} {B H H' : Hp} (h : Hs B ((p, o) :: L) H) (al : AllL ((p, o') :: L)) (s : Chg p o' H H') : Stay H' (cut ((p, o') :: L) H') := fun a w e n => by
  rw [cut_at]
  · exact e
  · intro hm
    obtain ⟨q, hq, z⟩ := List.mem_map.mp hm
    obtain ⟨xs, hx⟩ := al q hq
    have := (h.chg s).2.own q hq
    rw [z, e, hx] at this
    exact n _ (Option.some.inj this)
theorem AllL.nil : AllL [] := fun _ h => (nomatch h)
theorem AllL.cons {p : Addr} {xs : List V} {L : List (Addr × HO)} (h : AllL L) : AllL ((p, .lst xs) :: L) := fun q hq => by
  rcases List.mem_cons.mp hq with rfl | hq
  · exact ⟨xs, rfl⟩
  · exact h q hq
/-! ### callables: a module's def -/
structure Cal (P : Program) (w : World) (K : PySem.W.Frag) (mg : Str → Option Value) (base : Heap) (k : Nat) (x : Str) (ps : List Str) (sp : Sp) : Prop where
  fn : ∃ fd, FnOk P w K mg base (L2.CX P w) k (He.ga K x) fd ps sp ∧ Binds K fd ps []
  at_ : mg x = some (.ref (He.ga K x))
  kp : PySem.W.keepIn K (.ref (He.ga K x)) = true
theorem Cal.mono {P : Program} {w : World} {K : PySem.W.Frag} {mg : Str → Option Value} {base : Heap} {j k : Nat} {x : Str} {ps : List Str} {sp : Sp} (c : Cal P w K mg base j x ps sp) (h : j ≤ k) : Cal P w K mg base k x ps sp :=
  ⟨let ⟨fd, a, b⟩ := c.fn; ⟨fd, a.mono h, b⟩, c.at_, c.kp⟩
section
variable {X : Cx} {k j : Nat} {x : Str} {ps : List Str} {sp : Sp} {p pos : Pos} {e : Expr} {es : List Expr} {t : TA} {W : WX}
/-- f(..) that raises nothing -/
theorem pe_cal (c : Cal X.prog X.w X.K X.mg X.base j x ps sp) (hr : Room k X.A) (ha : PA X (e :: es) t) (hk : j ≤ k := by decide) (hg : Gl X x := by rfl) (hdb : (x == ("__debug__" : Str)) = false := by decide)
    (he : starEach (e :: es) X.env = (false, eval e X.env) :: starEach es X.env := by rfl) (hpl : (backTo pos (starEach es X.env)).any (·.1) = false := by rfl) : PE X (.Call (.Name x p) (e :: es) [] pos) (tCallS sp (fun _ => E0) t) := by
  obtain ⟨fd, F, b⟩ := c.fn
  exact pe_callS F (hr.mono hk) hg c.at_ c.kp b (fun σ => fun pins H s e s' I h => passL pins σ H s e s' I h) ha hdb he hpl
/-- f(..) that may raise -/
theorem pe_calX (c : Cal X.prog X.w X.K X.mg X.base j x ps sp) (hr : Room k X.A) (tk : Takes X W) (ha : PA X (e :: es) t) (hk : j ≤ k := by decide) (hg : Gl X x := by rfl) (hdb : (x == ("__debug__" : Str)) = false := by decide)
    (he : starEach (e :: es) X.env = (false, eval e X.env) :: starEach es X.env := by rfl) (hpl : (backTo pos (starEach es X.env)).any (·.1) = false := by rfl) : PE X (.Call (.Name x p) (e :: es) [] pos) (tCallS sp (WE W) t) := by
  obtain ⟨fd, F, b⟩ := c.fn
  exact pe_callS F (hr.mono hk) hg c.at_ c.kp b (fun σ => passAt tk σ) ha hdb he hpl
end
/-! ### steps of a reading -/
section
variable {σ : L2.St} {H : Hp} {D : Ends} {Q : VK} {K : PySem.W.Frag}
theorem if_dec {p : Prop} [Decidable p] {A B : Prop} (a : p → A) (b : ¬p → B) : if decide p = true then A else B := by
  by_cases h : p
  · rw [decide_eq_true h]
    exact iteT (a h)
  · rw [decide_eq_false h]
    exact iteF (b h)
theorem if_ndec {p : Prop} [Decidable p] {A B : Prop} (a : ¬p → A) (b : p → B) : if (!decide p) = true then A else B := by
  by_cases h : p
  · rw [decide_eq_true h]
    exact iteF (b h)
  · rw [decide_eq_false h]
    exact iteT (a h)
theorem if_bool {c : Bool} {A B : Prop} (a : c = true → A) (b : c = false → B) : if c = true then A else B := by
  cases c with
  | true => exact iteT (a rfl)
  | false => exact iteF (b rfl)
end
end Sy
/-! defs of the top; a bed as an object -/
namespace Sy
open PySem PySem.Spec PyProof.Rows L2
/-- the def x of the top, by its row st -/
def FD (K : PySem.W.Frag) (x : Str) (st : Stmt) : Prop := ∃ fd, FunD K x x (defArgs st) (defBody st) (defScope st) [] [] (He.ga K x) fd
theorem cal_of {P : Program} {w : World} {K : PySem.W.Frag} {mg : Str → Option Value} {base : Heap} {x : Str} {st : Stmt} {N ps : List Str} {k : Nat} {sp : Sp} (F : FD K x st) (hm : mg x = some (.ref (He.ga K x))) (S : FnScope N ps (defScope st))
    (hb : ∀ (kV doc pm : Value) (an : Option Addr) (cdv ct : Value) (us : List Value), us.length = ps.length → bindArgs (PySem.W.fnOf x x (defArgs st) (defBody st) (defScope st) .none kV doc pm an cdv ct) ⟨us, []⟩ = pure (ps.zip us))
    (len : ∀ vs H Q E, sp vs H Q E → vs.length = ps.length)
    (body : ∀ (cdv : Value) (A : Around) (outer : List Env) (s : Shared) (H : Hp) (vs : List V) (Q : VK) (E : XK), Room k (A.deeper (envOfC x (defScope st) s.heap.objs.size (He.ga K x) cdv)) → sp vs H Q E →
      ∃ t, PSs (cxOf (L2.CX P w) P w K mg base N x (defScope st) (He.ga K x) cdv A outer s H E) (defBody st) t ∧ t { nx := fun _ H' => Q .non H', rt := Q } (start N vs) H) : Cal P w K mg base (k + 1) x ps sp := by
  obtain ⟨fd, F⟩ := F
  exact ⟨⟨fd, F.ok S len body, F.bindsN hb⟩, hm, F.kp⟩
/-! ### a bed -/
abbrev Row := Str × Nat
/-- the number of branches, 0 if it is no kind -/
def ar (rows : List Sy.Row) (x : Str) : Nat := (rows.lookup x).getD 0
def isK (rows : List Sy.Row) (x : Str) : Bool := (rows.lookup x).isSome
def arKV (rows : List Sy.Row) : List (Key × V) := rows.map fun r => (Sum.inr r.1, V.int (r.2 : Nat))
def rkKV : Nat → List Sy.Row → List (Key × V)
  | _, [] => []
  | n, r :: rs => (Sum.inr r.1, V.int (n : Nat)) :: rkKV (n + 1) rs
/-- the place of a kind -/
def rk : Nat → List Sy.Row → Str → Option Nat
  | _, [], _ => none
  | n, r :: rs, x => if r.1 = x then some n else rk (n + 1) rs x
theorem lookup_cons (r : Sy.Row) (rs : List Sy.Row) (x : Str) : (r :: rs).lookup x = if r.1 = x then some r.2 else rs.lookup x := by
  obtain ⟨a, b⟩ := r
  by_cases h : a = x
  · subst h
    simp [List.lookup]
  · rw [if_neg h]
    have h2 : (x == a) = false := beq_eq_false_iff_ne.mpr fun z => h z.symm
    simp [List.lookup, h2]
theorem valV_cons {κ : Type} [DecidableEq κ] (k : κ) (v : V) (l : List (κ × V)) (x : κ) : valV ((k, v) :: l) x = if k = x then some v else valV l x := by
  unfold valV
  rw [List.find?_cons]
  by_cases h : k = x
  · subst h
    simp
  · simp [h]
theorem valV_ar (x : Str) : ∀ rows : List Sy.Row, valV (arKV rows) (Sum.inr x : Key) = (rows.lookup x).map fun n => V.int (n : Nat)
  | [] => rfl
  | r :: rs => by
    show valV ((Sum.inr r.1, V.int (r.2 : Nat)) :: arKV rs) (Sum.inr x : Key) = _
    rw [valV_cons, lookup_cons, valV_ar x rs]
    by_cases h : r.1 = x
    · subst h
      simp
    · rw [if_neg h, if_neg]
      exact fun z => h (Sum.inr.inj z)
theorem valV_rk (x : Str) : ∀ (n : Nat) (rows : List Sy.Row), valV (rkKV n rows) (Sum.inr x : Key) = (rk n rows x).map fun n => V.int (n : Nat)
  | _, [] => rfl
  | n, r :: rs => by
    show valV ((Sum.inr r.1, V.int (n : Nat)) :: rkKV (n + 1) rs) (Sum.inr x : Key) = _
    rw [valV_cons, valV_rk x (n + 1) rs]
    show _ = (if r.1 = x then some n else rk (n + 1) rs x).map _
    by_cases h : r.1 = x
    · subst h
      simp
    · rw [if_neg h, if_neg]
      exact fun z => h (Sum.inr.inj z)
/-- the fields, in the order in which __init__ stores them -/
def bedF (dA tR tK dR : Addr) : List (Str × V) := [("arities", .ref dA), ("rows", .ref tR), ("kinds", .ref tK), ("ranks", .ref dR)]
/-- a bed stands at a -/
structure BedAt (K : PySem.W.Frag) (H : Hp) (a : Addr) (rows : List Sy.Row) : Prop where
  ex : ∃ (dx dA tR tK dR : Addr) (ps : List Addr), H a = some (.ins (He.ga K "Bed") dx (bedF dA tR tK dR)) ∧ H dA = some (.dK (arKV rows)) ∧ H dR = some (.dK (rkKV 0 rows)) ∧ SqT K H tR (ps.map V.ref) ∧ SqT K H tK (rows.map fun r => V.str r.1) ∧
    Paired (fun p (r : Sy.Row) => SqT K H p [.str r.1, .int (r.2 : Nat)]) ps rows
theorem BedAt.mono {K : PySem.W.Frag} {H H' : Hp} {a : Addr} {rows : List Sy.Row} (s : Stay H H') (b : BedAt K H a rows) : BedAt K H' a rows := by
  obtain ⟨dx, dA, tR, tK, dR, ps, h1, h2, h3, h4, h5, h6⟩ := b.ex
  exact ⟨dx, dA, tR, tK, dR, ps, s _ _ h1 (fun _ z => nomatch z), s _ _ h2 (fun _ z => nomatch z), s _ _ h3 (fun _ z => nomatch z), s.sqt h4, s.sqt h5, Paired.mapP h6 fun _ _ z => s.sqt z⟩
/-- what the walk asks of the top: the class Bed -/
structure BedT (K : PySem.W.Frag) : Prop where
  cl : Cls K (He.ga K "Bed")
  nA : NoAttr K (He.ga K "Bed") "arities"
  nR : NoAttr K (He.ga K "Bed") "rows"
  nK : NoAttr K (He.ga K "Bed") "kinds"
  nRk : NoAttr K (He.ga K "Bed") "ranks"
section
variable {K : PySem.W.Frag} {σ : L2.St} {H : Hp} {Q : VK} {i : Nat} {a : Addr} {rows : List Sy.Row}
/-- bed.arities, the bed in slot i -/
theorem bed_ar (T : BedT K) (b : BedAt K H a rows) (hi : σ[i]? = some (some (.ref a))) (h : ∀ dA, H dA = some (.dK (arKV rows)) → Q (.ref dA) H) : tFld K (tVar i) "arities" σ H Q := by
  obtain ⟨dx, dA, tR, tK, dR, ps, h1, h2, h3, h4, h5, h6⟩ := b.ex
  exact ⟨_, hi, a, _, dx, _, _, rfl, h1, T.cl, T.nA, rfl, h dA h2⟩
theorem bed_rk (T : BedT K) (b : BedAt K H a rows) (hi : σ[i]? = some (some (.ref a))) (h : ∀ dR, H dR = some (.dK (rkKV 0 rows)) → Q (.ref dR) H) : tFld K (tVar i) "ranks" σ H Q := by
  obtain ⟨dx, dA, tR, tK, dR, ps, h1, h2, h3, h4, h5, h6⟩ := b.ex
  exact ⟨_, hi, a, _, dx, _, _, rfl, h1, T.cl, T.nRk, rfl, h dR h3⟩
theorem bed_kd (T : BedT K) (b : BedAt K H a rows) (hi : σ[i]? = some (some (.ref a))) (h : ∀ tK, SqT K H tK (rows.map fun r => V.str r.1) → Q (.ref tK) H) : tFld K (tVar i) "kinds" σ H Q := by
  obtain ⟨dx, dA, tR, tK, dR, ps, h1, h2, h3, h4, h5, h6⟩ := b.ex
  exact ⟨_, hi, a, _, dx, _, _, rfl, h1, T.cl, T.nK, rfl, h tK h5⟩
end
end Sy
namespace Sy
open PySem PySem.Spec PyProof.Rows L2
theorem pe_gint {X : Cx} {x : Str} {i : Int} {pos : Pos} (hg : Gl X x) (hm : ∃ t, X.mg x = some (.int i t)) (hd : (x == ("__debug__" : Str)) = false := by decide) : PE X (.Name x pos) (tC (.int i)) := by
  obtain ⟨t, hm⟩ := hm
  exact pe_glob hg hm ⟨_, rfl⟩ hd
theorem pe_gstr {X : Cx} {x z : Str} {pos : Pos} (hg : Gl X x) (hm : ∃ t, X.mg x = some (.str z t)) (hd : (x == ("__debug__" : Str)) = false := by decide) : PE X (.Name x pos) (tC (.str z)) := by
  obtain ⟨t, hm⟩ := hm
  exact pe_glob hg hm ⟨_, rfl⟩ hd
/-- built-in names and constants that the module leaves alone -/
structure Txt (K : PySem.W.Frag) (mg : Str → Option Value) : Prop where
  bed : BedT K
  len : mg "len" = none
  range : mg "range" = none
  reversed : mg "reversed" = none
  enumerate : mg "enumerate" = none
  tuple : mg "tuple" = none
  list : mg "list" = none
  int : mg "int" = none
  abs : mg "abs" = none
  max : mg "max" = none
  isinstance : mg "isinstance" = none
  MOST_KNOTS : ∃ t, mg "MOST_KNOTS" = some (.int 2000 t)
  MOST_KINDS : ∃ t, mg "MOST_KINDS" = some (.int 8 t)
  MOST_BRANCHES : ∃ t, mg "MOST_BRANCHES" = some (.int 3 t)
  LONGEST_NAME : ∃ t, mg "LONGEST_NAME" = some (.int 8 t)
/-! loops, in the form that a reading asks for -/
abbrev Loop (J : It) (g : TG) (tb : TS) (D : Ends) (σ : L2.St) (H : Hp) : Prop := ∃ W : Nat → Nat → L2.St → Hp → Prop, (∃ m, W 0 m σ H) ∧ ∀ i m σ H, W i m σ H → (J.stop i H ∧ D.nx σ H) ∨
  (J.go i H ∧ ∃ N : L2.St → Hp → Prop, (∀ σ' H', N σ' H' → ∃ m', m' < m ∧ W (i + 1) m' σ' H') ∧ ∀ x H', J.yld i H x H' → g x σ H' fun σ2 H2 => tb { D with nx := N, ct := N, bk := D.nx } σ2 H2)
/-- for i, x in enumerate(t) -/
theorem for_enumT {K : PySem.W.Frag} {si sj : Nat} {tb : TS} {D : Ends} {σ : L2.St} {H : Hp} {a : Addr} {xs : List V} (Pv : Nat → L2.St → Hp → Prop)
    (h0 : Pv 0 σ H) (hG : ∀ i σ H, i ≤ xs.length → Pv i σ H → SqT K H a xs)
    (hs : ∀ i x σ H T, xs[i]? = some x → Pv i σ H → H T = none → tb { D with nx := Pv (i + 1), ct := Pv (i + 1), bk := D.nx } ((σ.set si (some (.int (i : Nat)))).set sj (some x)) (upd H T (.tup [.int (i : Nat), x])))
    (hd : ∀ σ H, Pv xs.length σ H → D.nx σ H) : Loop (ItE K a) (gTup K 2 (gCons (gName si) (gCons (gName sj) gNil))) tb D σ H := by
  refine for_it walkE Pv h0 hG (fun i v σ H H' hi hp y => ?_) hd
  obtain ⟨T, x, z, rfl, hT, rfl, e1, e2⟩ := y
  cases e1
  exact ⟨T, _, rfl, SqT.of upd_same, rfl, _, _, rfl, _, _, rfl, rfl, hs i z σ H T e2 hp hT⟩
/-- .. over a list that the body leaves alone -/
theorem for_enumL {K : PySem.W.Frag} {si sj : Nat} {tb : TS} {D : Ends} {σ : L2.St} {H : Hp} {a : Addr} {xs : List V} (Pv : Nat → L2.St → Hp → Prop)
    (h0 : Pv 0 σ H) (hG : ∀ i σ H, i ≤ xs.length → Pv i σ H → SqL K H a xs)
    (hs : ∀ i x σ H T, xs[i]? = some x → Pv i σ H → H T = none → tb { D with nx := Pv (i + 1), ct := Pv (i + 1), bk := D.nx } ((σ.set si (some (.int (i : Nat)))).set sj (some x)) (upd H T (.tup [.int (i : Nat), x])))
    (hd : ∀ σ H, Pv xs.length σ H → D.nx σ H) : Loop (Ite K a) (gTup K 2 (gCons (gName si) (gCons (gName sj) gNil))) tb D σ H := by
  refine for_it walk_enum Pv h0 hG (fun i v σ H H' hi hp y => ?_) hd
  obtain ⟨T, x, z, rfl, hT, rfl, e1, e2⟩ := y
  cases e1
  exact ⟨T, _, rfl, SqT.of upd_same, rfl, _, _, rfl, _, _, rfl, rfl, hs i z σ H T e2 hp hT⟩
/-- for k in range(n) -/
theorem for_rng {si : Nat} {tb : TS} {D : Ends} {σ : L2.St} {H : Hp} {n : Nat} (Pv : Nat → L2.St → Hp → Prop) (h0 : Pv 0 σ H)
    (hs : ∀ (i : Nat) σ H, i < n → Pv i σ H → tb { D with nx := Pv (i + 1), ct := Pv (i + 1), bk := D.nx } (σ.set si (some (.int (i : Nat)))) H)
    (hd : ∀ σ H, Pv n σ H → D.nx σ H) : Loop (Itr 0 n) (gName si) tb D σ H := by
  refine for_range Pv h0 (fun i σ H hi hp => ?_) hd
  have e : (0 : Int) + (i : Nat) = (i : Nat) := by omega
  have q := hs i σ _ hi hp
  rw [← e] at q
  exact q
/-- for k in reversed(range(n)) -/
theorem for_rrng {si : Nat} {tb : TS} {D : Ends} {σ : L2.St} {H : Hp} {n : Nat} (Pv : Nat → L2.St → Hp → Prop) (h0 : Pv n σ H)
    (hs : ∀ (i : Nat) σ H, i < n → Pv (i + 1) σ H → tb { D with nx := Pv i, ct := Pv i, bk := D.nx } (σ.set si (some (.int (i : Nat)))) H)
    (hd : ∀ σ H, Pv 0 σ H → D.nx σ H) : Loop (Itc (0 + (((n : Int) - 0).toNat : Int) - 1) (-1) (((n : Int) - 0).toNat)) (gName si) tb D σ H := by
  have e0 : (((n : Nat) : Int) - 0).toNat = n := by omega
  rw [e0]
  refine for_it walk_rangeC (fun j σ H => Pv (n - j) σ H) h0 (fun _ _ _ _ _ => trivial) (fun j v σ H H' hj hp y => ?_) (fun σ H q => ?_)
  · obtain ⟨rfl, rfl⟩ := y
    have e : (0 : Int) + (n : Nat) - 1 + (j : Nat) * -1 = ((n - 1 - j : Nat) : Int) := by omega
    have e1 : n - j = (n - 1 - j) + 1 := by omega
    rw [e1] at hp
    have q := hs (n - 1 - j) σ _ (by omega) hp
    rw [← e] at q
    have e2 : n - (j + 1) = n - 1 - j := by omega
    show tb { D with nx := fun σ H => Pv (n - (j + 1)) σ H, ct := fun σ H => Pv (n - (j + 1)) σ H, bk := D.nx } _ _
    rw [e2]
    exact q
  · rw [Nat.sub_self] at q
    exact hd σ H q
end Sy
namespace Sy
open PySem PySem.Spec PyProof.Rows L2
def top (i : Nat) : Stmt := PySem.Challenge.pw_shearyard_k29_trims_refused_at_first_fau.main.body.getD i (.Pass ⟨0, 0, 0, 0⟩)
end Sy
/-! what the head's run looks at (the run is proved early: it wants much memory) -/
namespace Sy
open PySem PySem.Spec PyProof.Rows L2
def clb (i j : Nat) : Stmt := match top i with
  | .ClassDef _ _ _ b _ _ _ _ _ _ _ => b.getD j (.Pass ⟨0, 0, 0, 0⟩)
  | s => s
abbrev iniA (K : PySem.W.Frag) (x : Str) : Addr := He.ma K (He.ga K x) "__init__"
/-- the errors by number -/
def fou : Nat → Str
  | 0 => "TooMany"
  | 1 => "InvalidStump"
  | 2 => "InvalidTrim"
  | _ => "OtherBed"
structure ErD where
  x : Str
  q : Str
  st : Stmt
  fs : List Str
abbrev FnE : Type := Option (Str × Str × Arguments × FuncBody × Scope × Addr × List Str × Addr)
def ErD.val (d : ErD) : FnE := some ("__init__", d.q, defArgs d.st, .stmts (defBody d.st), defScope d.st, mainGlobals, ["__class__"], builtinsNs)
def erW (K : PySem.W.Frag) (x : Str) : FnE := match K.lookup (iniA K x) with
  | some ⟨_, _, .func fd, _⟩ => some (fd.name, fd.qualname, fd.params, fd.body, fd.scope, fd.globals, fd.closure.map (·.1), fd.builtins)
  | _ => none
/-- the class object -/
def oexB (K : PySem.W.Frag) (C : Addr) : Bool := match K.lookup C with
  | some ⟨.type t, _, .cls cd, sl⟩ => (match cd.mro, sl.toList with
    | .ref C' :: bm, [_, _, _, _, some (.builtin n), _] => decide (t = "type") && (decide (C' = C) && (decide (n = "ValueError.__new__") && (!cd.hasDel && (cd.hasDict && HandSPX.refsVE bm))))
    | _, _ => false)
  | _ => false
/-- what stands in the code object, in the cell -/
def fileB (K : PySem.W.Frag) (file : Str) (cd : Value) : Bool := match cd with
  | .ref c => (match K.lookup c with
    | some ⟨_, _, .fields vs, _⟩ => (match (vs[2]? : Option Value) with
      | some (.str fi _) => (file == fi)
      | _ => false)
    | _ => false)
  | _ => false
def cellB (K : PySem.W.Frag) (C : Addr) (cl : List (Str × Addr)) : Bool := match cl with
  | [(_, cc)] => (match K.lookup cc with
    | some ⟨_, _, .cell (some (.ref D)), _⟩ => decide (D = C)
    | _ => false)
  | _ => false
def initB (K : PySem.W.Frag) (file x q : Str) : Bool := match K.lookup (iniA K x) with
  | some ⟨_, _, .func fd, _⟩ => PySem.W.codeIn K fd.code q && (fileB K file fd.code && (cellB K (He.ga K x) fd.closure && (match fd.defaults with
    | .none => true
    | _ => false)))
  | _ => false
def ErD.ok (file : Str) (K : PySem.W.Frag) (d : ErD) : Bool :=
  He.eqO (PySem.W.nsIn K mainGlobals d.x) (some (some (.ref (He.ga K d.x)))) && (He.eqO (PySem.W.findIn K (.ref (He.ga K d.x)) "__init__") (some (some (.ref (iniA K d.x)))) && (decide (PySem.W.typeIn K (.ref (iniA K d.x)) = some (.type "function")) &&
  (decide (PySem.W.exmOne K (.ref (He.ga K d.x)) (.ref (He.ga K d.x)) = some true) && (xfB K (He.ga K d.x) && ((d.fs.all fun f => He.eqO (PySem.W.findIn K (.ref (He.ga K d.x)) f) (some none)) && (oexB K (He.ga K d.x) &&
  (He.eqO (PySem.W.findIn K (.ref (He.ga K d.x)) "__setattr__") (some (some (.builtin "object.__setattr__"))) && (decide (PySem.W.subIn K (.ref (He.ga K d.x)) (.type "BaseException") = some true) && (decide (PySem.W.typeIn K (.ref (He.ga K d.x)) = some (.type "type")) && (PySem.W.keepIn K (.ref (He.ga K d.x)) &&
  (initB K file d.x d.q && (PySem.W.isClsIn K (He.ga K d.x) && (decide (PySem.W.mroIn K (He.ga K d.x) (.ref (He.ga K d.x)) = some true) && (He.eqO (PySem.W.ks_superIn K (He.ga K d.x) (He.ga K d.x) "__init__") (some (some (.builtin "ValueError.__init__"))) &&
  (decide (PySem.W.subIn K (.ref (He.ga K d.x)) (.type "ValueError") = some true) && He.eqO (PySem.W.nsIn K cStatics "thirdparty.any") (some none))))))))))))))))
def excB (K : PySem.W.Frag) (D : Addr) : Bool :=
  He.eqO (PySem.W.findIn K (.ref D) "__getattribute__") (some (some (.builtin "BaseException.__getattribute__"))) && (He.eqO (PySem.W.findIn K (.ref D) "__getattr__") (some none) && (decide (PySem.W.subIn K (.ref D) (.type "BaseException") = some true) && (PySem.W.hasDictIn K D &&
  (He.eqO (PySem.W.findIn K (.ref D) "__class__") (some (some (.builtin "object.__class__"))) && (He.eqO (PySem.W.specialIn K (.builtin "object.__class__") "__get__") (some (some (.builtin "getset_descriptor.__get__"))) && (decide (PySem.W.takesIn K (.builtin "object.__class__") = some true) && decide (PySem.W.mroIn K D (.type "object") = some true)))))))
/-- the table of the code object of the def x, if it is none of the known things -/
def tabP (K : PySem.W.Frag) (x : Str) : Option Addr := match K.lookup (He.ga K x) with
  | some ⟨_, _, .func fd, _⟩ => (match fd.code with
    | .ref c => (match K.lookup c with
      | some ⟨_, _, .fields vs, _⟩ => (match (vs[11]? : Option Value) with
        | some (.ref P) => if (K.lookup P).isNone = true then some P else none
        | _ => none)
      | _ => none)
    | _ => none)
  | _ => none
def metB (K : PySem.W.Frag) : Bool := (tabP K "result_fault").isSome && (List.range 4).all fun k => excB K (He.ga K (fou k)) && (decide (PySem.W.kitOne K (.ref (He.ga K (fou k))) (.type "ValueError") = some true) && (decide (PySem.W.kitOne K (.ref (He.ga K (fou k))) (.ref (He.ga K "YardError")) = some true) &&
  ((List.range 4).all fun j => decide (PySem.W.kitOne K (.ref (He.ga K (fou k))) (.ref (He.ga K (fou j))) = some (decide (k = j)) ∧ PySem.W.exmOne K (.ref (He.ga K (fou k))) (.ref (He.ga K (fou j))) = some (decide (k = j))))))
/-! the Hook -/
abbrev AlX : Type := He.AlD × (Bool × List FnE)
def obsX (file : Str) (fa : List He.Fa) (fn : List He.DefD) (er : List ErD) (K : PySem.W.Frag) : AlX := (He.obsD fa fn K, ((er.all fun d => d.ok file K) && metB K, er.map fun d => erW K d.x))
def valX (fn : List He.DefD) (er : List ErD) : AlX := (He.valD fn, (true, er.map ErD.val))
def SaysX (file : Str) (fa : List He.Fa) (fn : List He.DefD) (er : List ErD) (K : PySem.W.Frag) : Prop := obsX file fa fn er K = valX fn er
def obsXG (file : Str) (as : List Addr) (fa : List He.Fa) (fn : List He.DefD) (er : List ErD) (g : Addr → Option Obj) : AlX := obsX file fa fn er (He.frG g as)
def hookX (file : Str) (as : List Addr) (fa : List He.Fa) (fn : List He.DefD) (er : List ErD) : PySem.W.Hook where
  α := AlX
  obs := fun s => obsXG file as fa fn er s.heap.get?
  val := fun _ => valX fn er
  says := fun _ h => ∃ K : PySem.W.Frag, K.In h ∧ SaysX file fa fn er K
  of := fun _ _ e => ⟨_, He.frG_in, e⟩
  keeps := fun _ _ _ ⟨K, hK, c⟩ k => ⟨K, PySem.W.Frag.In.keeps hK k, c⟩
theorem obsXG_eq {file : Str} {as : List Addr} {fa : List He.Fa} {fn : List He.DefD} {er : List ErD} {g : Addr → Option Obj} {s : Shared} (h : ∀ a, g a = s.heap.get? a) : obsXG file as fa fn er g = (hookX file as fa fn er).obs s := by
  have e : g = s.heap.get? := funext h
  rw [e]
  rfl
end Sy
set_option maxHeartbeats 0
namespace Sy.En
open Sy PySem PySem.Spec PyProof.Rows L2
abbrev dOf (x : Str) (i : Nat) : He.DefD := ⟨(x, none), x, x, defArgs (top i), defBody (top i), defScope (top i), [], []⟩
abbrev dOfD (x : Str) (i : Nat) (dv : List He.Dv) : He.DefD := ⟨(x, none), x, x, defArgs (top i), defBody (top i), defScope (top i), dv, []⟩
abbrev dMe (m q : Str) (j : Nat) : He.DefD := ⟨("Bed", some m), m, q, defArgs (clb 20 j), defBody (clb 20 j), defScope (clb 20 j), [], []⟩
abbrev dMeC (C m q : Str) (i j : Nat) (kw : List (Str × He.Dv)) : He.DefD := ⟨(C, some m), m, q, defArgs (clb i j), defBody (clb i j), defScope (clb i j), [], kw⟩
def fn : List He.DefD := [dOf "only_letters" 18, dOf "is_name" 19, dOf "need_same" 21, dOf "check_count" 23, dOf "arity" 24, dOf "knots_of" 25, dOf "fault" 26, dOf "fault_among" 27, dOf "check_stump" 30, dOf "first_repeat" 32, dOf "result_fault" 33, dOf "check_trim" 34, dOf "heads_of" 35, dOf "_law_bag" 39, dOf "_law_pick" 40, dOf "_law_word" 41, dOf "_law_words" 42, dOf "_law_kinds" 43, dOf "_law_arity" 44, dOf "_law_stump" 45, dOf "_law_result" 46, dOf "_law_tame" 47, dOf "_law_made" 48, dOf "_law_same" 49, dOf "_law_tagged" 50, dOf "_law_bed" 51, dOf "_law_chain" 52, dOf "_law_bent" 53, dOf "_law_pair" 54, dOf "_law_fault" 55, dOf "_law_due" 56, dOf "_law_own" 57, dOf "_law_asked" 58, dOf "_law_set" 59, dOf "_law_shown" 60, dOf "_law_set_asked" 61, dOf "_law_other" 62, dOf "_law_sets" 63, dOf "law" 64, dMe "__init__" "Bed.__init__" 0, dMe "leaves" "Bed.leaves" 3, dMe "same" "Bed.same" 6, dMeC "Trim" "__init__" "Trim.__init__" 36 0 [], dMeC "Trims" "__init__" "Trims.__init__" 37 0 [("name", .str "trims")], dMeC "Trims" "__len__" "Trims.__len__" 37 1 []]
def fa : List He.Fa := [.glo "only_letters", .glo "is_name", .glo "need_same", .glo "check_count", .glo "arity", .glo "knots_of", .glo "fault", .glo "fault_among", .glo "check_stump", .glo "first_repeat", .glo "result_fault", .glo "check_trim", .glo "heads_of", .glo "_law_bag", .glo "_law_pick", .glo "_law_word", .glo "_law_words", .glo "_law_kinds", .glo "_law_arity", .glo "_law_stump", .glo "_law_result", .glo "_law_tame", .glo "_law_made", .glo "_law_same", .glo "_law_tagged", .glo "_law_bed", .glo "_law_chain", .glo "_law_bent", .glo "_law_pair", .glo "_law_fault", .glo "_law_due", .glo "_law_own", .glo "_law_asked", .glo "_law_set", .glo "_law_shown", .glo "_law_set_asked", .glo "_law_other", .glo "_law_sets", .glo "law", .free "len", .free "range", .free "reversed", .free "enumerate", .free "tuple", .free "list", .free "int", .free "abs", .free "max", .free "isinstance", .free "bool", .free "str", .free "super", .free "ValueError", .int "MOST_KNOTS" 2000, .int "MOST_KINDS" 8, .int "MOST_BRANCHES" 3, .int "LONGEST_NAME" 8, .int "MOST_ENTRIES" 200, .int "MOST_TRIMS" 8, .str "HOLE" "*", .glo "YardError", .glo "Bed", .cls "Bed", .mkr "Bed", .noat "Bed" "arities", .noat "Bed" "rows", .noat "Bed" "kinds", .noat "Bed" "ranks", .meth "Bed" "__init__", .meth "Bed" "leaves", .meth "Bed" "same", .glo "Trim", .cls "Trim", .mkr "Trim", .noat "Trim" "bed", .noat "Trim" "stump", .noat "Trim" "result", .meth "Trim" "__init__", .glo "Trims", .cls "Trims", .mkr "Trims", .noat "Trims" "bed", .noat "Trims" "trims", .noat "Trims" "name", .noat "Trims" "_heads", .meth "Trims" "__init__", .meth "Trims" "__len__"]
def ers : List ErD := [⟨"TooMany", "TooMany.__init__", clb 9 0, ["what", "limit"]⟩, ⟨"InvalidStump", "InvalidStump.__init__", clb 4 0, ["place"]⟩, ⟨"InvalidTrim", "InvalidTrim.__init__", clb 5 0, ["place"]⟩, ⟨"OtherBed", "OtherBed.__init__", clb 8 0, []⟩]
abbrev R : PySem.W.OpenRow := PySem.W.OpenLaw.row PySem.Challenge.rw_shearyard_k29_trims_refused_at_first_fau
/-- the addresses that the facts look at -/
def lit0 : List Addr := [3, 6, 4, 21, 31, 53, 74, 95, 116, 137, 158, 179, 188, 195, 259, 270, 277, 284, 289, 296, 303, 310, 317, 324, 331, 338, 355, 389, 398, 405, 412, 417, 422, 429, 434, 439, 446, 451, 458, 465, 472, 479, 486, 491, 498, 503, 510, 517, 524, 529, 536, 541, 548, 555, 0, 20, 30, 52, 73, 94, 115, 136, 157, 178, 187, 194, 258, 269, 276, 283, 288, 295, 302, 309, 316, 323, 330, 337, 354, 388, 397, 404, 411, 416, 421, 428, 433, 438, 445, 450, 457, 464, 471, 478, 485, 490, 497, 502, 509, 516, 523, 528, 535, 540, 547, 554, 15, 17, 18, 19, 29, 32, 50, 51, 71, 72, 92, 93, 113, 114, 134, 135, 155, 156, 176, 177, 182, 184, 185, 186, 189, 191, 192, 193, 207, 216, 225, 230, 237, 244, 251, 256, 257, 260, 261, 264, 266, 267, 268, 271, 273, 274, 275, 278, 280, 281, 282, 285, 287, 290, 292, 293, 294, 297, 299, 300, 301, 304, 306, 307, 308, 311, 313, 314, 315, 318, 320, 321, 322, 325, 327, 328, 329, 332, 334, 335, 336, 352, 353, 356, 357, 372, 379, 386, 387, 390, 391, 394, 396, 399]
def lit1 : List Addr := [401, 402, 403, 406, 408, 409, 410, 413, 415, 418, 420, 423, 425, 426, 427, 430, 432, 435, 437, 440, 442, 443, 444, 447, 449, 452, 454, 455, 456, 459, 461, 462, 463, 466, 468, 469, 470, 473, 475, 476, 477, 480, 482, 483, 484, 487, 489, 492, 494, 495, 496, 499, 501, 504, 506, 507, 508, 511, 513, 514, 515, 518, 520, 521, 522, 525, 527, 530, 532, 533, 534, 537, 539, 542, 544, 545, 546, 549, 551, 552, 553, 49, 38, 70, 59, 91, 80, 112, 101, 133, 122, 154, 143, 175, 164, 206, 214, 215, 224, 229, 236, 243, 250, 255, 351, 371, 367, 378, 385, 44, 46, 47, 48, 65, 67, 68, 69, 86, 88, 89, 90, 107, 109, 110, 111, 128, 130, 131, 132, 149, 151, 152, 153, 170, 172, 173, 174, 203, 205, 213, 217, 223, 226, 228, 231, 233, 234, 235, 238, 240, 241, 242, 245, 247, 248, 249, 252, 254, 346, 348, 349, 350, 368, 370, 373, 375, 376, 377, 380, 382, 383, 384, 2]
def lit : List Addr := lit0 ++ lit1
abbrev hk : PySem.W.Hook := hookX R.prog.main.file lit fa fn ers
def ob (s : PySem.W.SharedT) : AlX := obsXG R.prog.main.file lit fa fn ers (HandSHeadRun.getT s)
theorem ob_eq (s : PySem.W.SharedT) : ob s = hk.obs s.abs := obsXG_eq (HandSHeadRun.getT_eq s)
def loose1 : List Str := ["_wall", "YardError", "InvalidBed", "InvalidStump", "InvalidTrim", "InvalidText", "UnknownKind", "OtherBed", "TooMany", "MOST_KINDS", "MOST_BRANCHES", "MOST_KNOTS", "MOST_ENTRIES", "MOST_TRIMS", "LONGEST_NAME", "DIGITS", "only_letters", "is_name", "Bed", "need_same", "check_count", "arity", "knots_of", "fault", "fault_among", "HOLE", "check_stump", "first_repeat", "check_trim", "heads_of"]
def loose2 : List Str := ["Trim", "Trims", "_law_bag", "_law_pick", "_law_word", "_law_words", "_law_kinds", "_law_arity", "_law_stump", "_law_result", "_law_tame", "_law_made", "_law_same", "_law_tagged", "_law_bed", "_law_chain", "_law_bent", "_law_pair", "_law_fault", "_law_due", "_law_own", "_law_asked", "_law_set", "_law_shown", "_law_set_asked", "_law_other", "_law_sets"]
theorem run (w : World) : HandSHeadRun.RunEq R (PySem.W.view R.prog [33, 64]) hk ob 30000 (loose1 ++ loose2) w := by
  intro os
  kernel_rfl
end Sy.En
namespace Sy
open PySem PySem.Spec PyProof.Rows L2
/-- a def of the top, by its place -/
abbrev DF (K : PySem.W.Frag) (mg : Str → Option Value) (x : Str) (i : Nat) : Prop := FD K x (top i) ∧ mg x = some (.ref (He.ga K x))
section
variable {P : Program} {w : World} {K : PySem.W.Frag} {mg : Str → Option Value} {base : Heap}
def arK (rows : List Sy.Row) : Key → Nat
  | .inl _ => 0
  | .inr x => ar rows x
def isKK (rows : List Sy.Row) : Key → Bool
  | .inl _ => false
  | .inr x => isK rows x
theorem valV_arI (z : Int) : ∀ rows : List Sy.Row, valV (arKV rows) (Sum.inl z : Key) = none
  | [] => rfl
  | r :: rs => by
    show valV ((Sum.inr r.1, V.int (r.2 : Nat)) :: arKV rs) (Sum.inl z : Key) = none
    rw [valV_cons, if_neg (fun z => by cases z), valV_arI z rs]
theorem valV_arK (k : Key) (rows : List Sy.Row) : valV (arKV rows) k = if isKK rows k = true then some (.int (arK rows k : Nat)) else none := by
  cases k with
  | inl z => rw [valV_arI]; rfl
  | inr x =>
    show valV (arKV rows) (Sum.inr x : Key) = if isK rows x = true then some (.int (ar rows x : Nat)) else none
    rw [valV_ar]
    unfold isK ar
    cases rows.lookup x <;> rfl
theorem arK_zero {rows : List Sy.Row} {k : Key} (h : isKK rows k = false) : arK rows k = 0 := by
  cases k with
  | inl z => rfl
  | inr x =>
    have h : (rows.lookup x).isSome = false := h
    show (rows.lookup x).getD 0 = 0
    cases e : rows.lookup x with
    | none => rfl
    | some n => rw [e] at h; cases h
def spArity (K : PySem.W.Frag) : Sp := fun vs H Q _ => ∃ (a : Addr) (rows : List Sy.Row) (k : Key), vs = [.ref a, kV k] ∧ BedAt K H a rows ∧ Q (.int (arK rows k : Nat)) H
theorem sc_arity : FnScope ["bed", "entry"] ["bed", "entry"] (defScope (top 24)) := ⟨rfl, rfl, rfl, by decide +kernel, rfl, by decide +kernel, by decide +kernel⟩
theorem k_arity (T : Txt K mg) (F : DF K mg "arity" 24) : Cal P w K mg base 1 "arity" ["bed", "entry"] (spArity K) := by
  refine cal_of F.1 F.2 sc_arity (fun _ _ _ _ _ _ us e => match us, e with | [_, _], _ => rfl) (fun vs H Q E s => by obtain ⟨a, rows, x, rfl, _⟩ := s; rfl) ?_
  intro cdv A outer s H vs Q E hr h
  obtain ⟨a, rows, x, rfl, hb, hq⟩ := h
  have hu := hu_of hr
  refine ⟨_, pss_one (ps_ret (pe_dget2 hu (pe_fld (pv 0) rfl) (pv 1) pe_int ⟨rfl, rfl, rfl, rfl⟩)), ?_⟩
  obtain ⟨dx, dA, tR, tK, dR, ps, h1, hd, h3, h4, h5, h6⟩ := hb.ex
  refine ⟨_, rfl, a, _, dx, _, _, rfl, h1, T.bed.cl, T.bed.nA, rfl, dA, rfl, .inl ⟨_, .inl hd⟩, _, rfl, _, DGet.k (k := x) hd, ?_⟩
  rw [valV_arK]
  cases c : isKK rows x with
  | true => exact hq
  | false =>
    rw [arK_zero c] at hq
    exact hq
end
end Sy
namespace Sy
open PySem PySem.Spec PyProof.Rows L2
section
variable {P : Program} {w : World} {K : PySem.W.Frag} {mg : Str → Option Value} {base : Heap}
/-! fault_among -/
def fa (rows : List Sy.Row) (lv : List Str) : Nat → Nat → List Str → Int
  | m, i, [] => if 0 < m then (i : Nat) else -1
  | m, i, x :: l => if m = 0 then (i : Nat) else if isK rows x = false ∧ x ∉ lv then (i : Nat) else fa rows lv (m - 1 + ar rows x) (i + 1) l
def spFault (K : PySem.W.Frag) : Sp := fun vs H Q _ => ∃ a r v rows l lv, vs = [.ref a, .ref r, .ref v] ∧ BedAt K H a rows ∧ SqT K H r (l.map V.str) ∧ SqT K H v (lv.map V.str) ∧ ∀ H', Same H H' → Q (.int (fa rows lv 1 0 l)) H'
abbrev N_fault : List Str := ["bed", "row", "leaves", "missing", "index", "entry"]
theorem sc_fault : FnScope N_fault ["bed", "row", "leaves"] (defScope (top 27)) := ⟨rfl, rfl, rfl, by decide +kernel, rfl, by decide +kernel, by decide +kernel⟩
theorem map_at {α β : Type} {f : α → β} {l : List α} {i : Nat} {y : β} (h : (l.map f)[i]? = some y) : ∃ x, l[i]? = some x ∧ y = f x := by
  rw [List.getElem?_map] at h
  cases e : l[i]? with
  | none => rw [e] at h; cases h
  | some x => rw [e] at h; exact ⟨x, rfl, (Option.some.inj h).symm⟩
theorem inV_strs (y : Str) (lv : List Str) : inV (.str y) (lv.map V.str) = decide (y ∈ lv) := by
  unfold inV
  induction lv with
  | nil => rfl
  | cons x l ih =>
    rw [List.map_cons, List.any_cons, ih]
    have : eqV (V.str x) (V.str y) = decide (x = y) := by
      by_cases h : x = y
      · subst h
        simp [eqV]
      · simp [eqV, h]
    rw [this]
    simp [List.mem_cons, eq_comm]
theorem drop_of {α : Type} {l : List α} {i : Nat} {x : α} (h : l[i]? = some x) : l.drop i = x :: l.drop (i + 1) := by
  obtain ⟨hi, e⟩ := List.getElem?_eq_some_iff.mp h
  rw [List.drop_eq_getElem_cons hi, e]
theorem k_fault (T : Txt K mg) (F : DF K mg "fault_among" 27) (c_arity : Cal P w K mg base 1 "arity" ["bed", "entry"] (spArity K)) : Cal P w K mg base 2 "fault_among" ["bed", "row", "leaves"] (spFault K) := by
  refine cal_of F.1 F.2 sc_fault (fun _ _ _ _ _ _ us e => match us, e with | [_, _, _], _ => rfl) (fun vs H Q E s => by obtain ⟨_, _, _, _, _, _, rfl, _⟩ := s; rfl) ?_
  intro cdv A outer s H vs Q E hr h
  obtain ⟨a, r, v, rows, l, lv, rfl, hb, hR, hL, hq⟩ := h
  have hu := hu_of hr
  have sc := sc_fault
  refine ⟨_, (pss_cons (ps_set (i := 3) sc.nd rfl (Or.inl rfl) pe_int)
      (pss_cons (ps_for (passes_of rfl) rfl (pi_enumT (by rfl) T.enumerate (pa_cons (pv 1) pa_nil)) (pg_tup rfl (pgs_cons (pg_name (i := 4) sc.nd rfl (Or.inl rfl)) (pgs_cons (pg_name (i := 5) sc.nd rfl (Or.inl rfl)) pgs_nil)))
        (pss_cons (ps_if (pt_cmpR op_eq (pv 3) pe_int (nomark _))
          (pss_one (ps_ret (pv 4)))
          pss_nil)
        (pss_cons (ps_if (PW.pt (pw_and (pt_cmp (pc_dnotin hu (pv 5) (pe_fld (pv 0) rfl))) (pw_and1 (pt_cmpR op_notIn_seq (pv 5) (pv 2) rfl))))
          (pss_one (ps_ret (pv 4)))
          pss_nil)
        (pss_one (ps_set (i := 3) sc.nd rfl (Or.inl rfl) (pe_op op_add (pe_op op_sub (pv 3) pe_int) (pe_cal c_arity hr (pa_cons (pv 0) (pa_cons (pv 5) pa_nil)))))))))
      (pss_cons (ps_if (pt_cmpR op_gt (pv 3) pe_int (nomark _))
        (pss_one (ps_ret (pe_callB call_len_seq (by rfl) T.len (by decide +kernel) (pa_cons (pv 1) pa_nil))))
        pss_nil)
      (pss_one (ps_ret (pe_un un_neg pe_int)))))), ?_⟩
  refine ⟨_, rfl, r, _, rfl, hR, for_enumT (K := K) (fun i σ H' => ∃ (m : Nat) (z : Int) (s4 s5 : Option V), σ = [some (.ref a), some (.ref r), some (.ref v), some (.int z), s4, s5] ∧ z = (m : Nat) ∧ Same H H' ∧ fa rows lv m i (l.drop i) = fa rows lv 1 0 l) ⟨1, 1, none, none, rfl, rfl, Same.refl H, by rw [List.drop_zero]⟩ (fun i σ H' _ ⟨_, _, _, _, _, _, s, _⟩ => Same.sqt s hR) ?_ ?_⟩
  · intro i x σ H' Tt hx ⟨m, _, s4, s5, hσ, rfl, sm, e⟩ hT
    obtain ⟨y, hy, rfl⟩ := map_at hx
    subst hσ
    rw [drop_of hy] at e
    refine ⟨_, rfl, rfl, _, rfl, if_dec (fun c => ?_) (fun c => ?_)⟩
    · rw [fa, if_pos (by have := V.int.inj c; omega)] at e
      refine ⟨_, rfl, ?_⟩
      rw [e]
      exact hq _ (sm.trans (up_same hT))
    · have c : m ≠ 0 := fun z => c (by rw [z]; rfl)
      rw [fa, if_neg c] at e
      have sm2 : Same H (upd H' Tt (.tup [.int (i : Nat), .str y])) := sm.trans (up_same hT)
      have hb2 := hb.mono (Stay.of sm2)
      obtain ⟨dx, dA, tR, tK, dR, ps, h1, hd, h3, h4, h5, h6⟩ := hb2.ex
      refine ⟨_, rfl, _, rfl, a, _, dx, _, _, rfl, h1, T.bed.cl, T.bed.nA, rfl, dA, _, rfl, DGet.k (k := Sum.inr y) hd, _, rfl, ?_⟩
      have stop : isK rows y = false → y ∉ lv → Q (.int (i : Nat)) (upd H' Tt (.tup [.int (i : Nat), .str y])) := fun z1 z2 => by
        rw [if_pos ⟨z1, z2⟩] at e
        have q := hq _ sm2
        rw [← e] at q
        exact q
      have em : ((m : Int) - 1 + (ar rows y : Nat)) = ((m - 1 + ar rows y : Nat) : Int) := by omega
      have go : ¬ (isK rows y = false ∧ y ∉ lv) → fa rows lv (m - 1 + ar rows y) (i + 1) (l.drop (i + 1)) = fa rows lv 1 0 l := fun z => by
        rw [if_neg z] at e
        exact e
      refine if_bool (fun c2 => ?_) (fun c2 => ?_)
      · have c2 : isK rows y = false := by simpa [valV_ar, isK] using c2
        refine ⟨_, rfl, _, rfl, v, _, rfl, .inr (Same.sqt sm2 hL), rfl, by simp [flatV], _, rfl, ?_⟩
        refine if_bool (fun c3 => ?_) (fun c3 => ?_)
        · exact ⟨_, rfl, stop c2 (by simpa [inV_strs] using c3)⟩
        · exact ⟨_, rfl, _, _, rfl, rfl, _, rfl, _, rfl, a, rows, Sum.inr y, rfl, hb2, _, _, rfl, rfl, _, _, _, _, rfl, em, sm2, go fun z => z.2 (by simpa [inV_strs] using c3)⟩
      · have c2 : isK rows y = true := by simpa [valV_ar, isK] using c2
        exact ⟨_, rfl, _, _, rfl, rfl, _, rfl, _, rfl, a, rows, Sum.inr y, rfl, hb2, _, _, rfl, rfl, _, _, _, _, rfl, em, sm2, go fun z => by rw [c2] at z; cases z.1⟩
  · intro σ H' ⟨m, _, s4, s5, hσ, rfl, sm, e⟩
    subst hσ
    rw [List.drop_of_length_le (by simp), fa] at e
    refine ⟨_, rfl, _, _, rfl, rfl, _, rfl, if_dec (fun c => ?_) (fun c => ?_)⟩
    · rw [if_pos (by omega)] at e
      refine ⟨_, rfl, r, _, rfl, .inr (Same.sqt sm hR), ?_⟩
      have q := hq _ sm
      rw [← e] at q
      exact q
    · rw [if_neg (by omega)] at e
      refine ⟨_, rfl, ?_⟩
      have q := hq _ sm
      rw [← e] at q
      exact q
end
end Sy
namespace Sy
open PySem PySem.Spec PyProof.Rows L2
/-! more words -/
theorem ixN_nat {n j : Nat} (h : j < n) : ixN n (j : Int) = some j := by
  unfold ixN
  rw [if_pos (by omega), if_pos (by omega)]
  rfl
/-- a row of places -/
abbrev vN (l : List Nat) : List V := l.map fun n : Nat => V.int (n : Int)
def DN (l : List Nat) : PyData := .tuple (l.map fun n : Nat => PyData.int (n : Int))
def DS (l : List Str) : PyData := .tuple (l.map PyData.str)
section
variable {K : PySem.W.Frag} {H B B' : Hp} {v : V} {vs : List V} {ds : List PyData}
theorem ImA.nats : ∀ l : List Nat, ImA K H (vN l) (l.map fun n : Nat => PyData.int (n : Int))
  | [] => .nil
  | x :: l => .cons (.int _) (ImA.nats l)
theorem Im.nats {a : Addr} {l : List Nat} (h : SqT K H a (vN l)) : Im K H (.ref a) (DN l) := .tup h (ImA.nats l)
theorem Im.tupI (h : Im K H v (.tuple ds)) : ∃ a xs, v = .ref a ∧ SqT K H a xs ∧ ImA K H xs ds := by
  cases h with
  | tup h1 h2 => exact ⟨_, _, rfl, h1, h2⟩
theorem Im.intI {i : Int} (h : Im K H v (.int i)) : v = .int i := by cases h; rfl
theorem Im.strI {x : Str} (h : Im K H v (.str x)) : v = .str x := by cases h; rfl
theorem ImA.natsI : ∀ {l : List Nat} {vs : List V}, ImA K H vs (l.map fun n : Nat => PyData.int (n : Int)) → vs = vN l
  | [], _, .nil => rfl
  | _ :: _, _, .cons a b => by rw [a.intI, ImA.natsI b]; rfl
theorem ImA.strsI : ∀ {l : List Str} {vs : List V}, ImA K H vs (l.map PyData.str) → vs = l.map V.str
  | [], _, .nil => rfl
  | _ :: _, _, .cons a b => by rw [a.strI, ImA.strsI b]; rfl
theorem Im.natsI {l : List Nat} (h : Im K H v (DN l)) : ∃ a, v = .ref a ∧ SqT K H a (vN l) := by
  obtain ⟨a, xs, rfl, h1, h2⟩ := h.tupI
  rw [h2.natsI] at h1
  exact ⟨a, rfl, h1⟩
theorem Im.strsI {l : List Str} (h : Im K H v (DS l)) : ∃ a, v = .ref a ∧ SqT K H a (l.map V.str) := by
  obtain ⟨a, xs, rfl, h1, h2⟩ := h.tupI
  rw [h2.strsI] at h1
  exact ⟨a, rfl, h1⟩
theorem ImA.set : ∀ {vs : List V} {ds : List PyData} {i : Nat} {d : PyData}, ImA K H vs ds → Im K H v d → ImA K H (vs.set i v) (ds.set i d)
  | _, _, _, _, .nil, _ => .nil
  | _, _, 0, _, .cons _ b, h => .cons h b
  | _, _, i + 1, _, .cons a b, h => .cons a (ImA.set b h)
theorem ImA.snoc {d : PyData} (h : ImA K H vs ds) (g : Im K H v d) : ImA K H (vs ++ [v]) (ds ++ [d]) := h.app (.cons g .nil)
end
/-! comprehensions over a tuple -/
abbrev LcW (J : It) (g : TG) (tt : TT) (te : TE) (vs : List Nat) (σ : L2.St) (H1 : Hp) (D : Addr) (Qd : Hp → Prop) : Prop := ∃ W : Nat → Nat → Hp → Prop, (∃ m, W 0 m (upd H1 D (.lst []))) ∧ ∀ i m H, W i m H → (J.stop i H ∧ Qd H) ∨
  (J.go i H ∧ ∃ Nx : Hp → Prop, (∀ H', Nx H' → ∃ m', m' < m ∧ W (i + 1) m' H') ∧ ∀ x H', J.yld i H x H' → g x (wipe σ vs) H' fun σ2 H2 => wipe σ2 vs = wipe σ vs ∧ tt σ2 H2 fun b H3 => if b = true then te σ2 H3 fun y H4 => ∃ acc, H4 D = some (.lst acc) ∧ acc.length < sizeLine ∧ Nx (upd H4 D (.lst (acc ++ [y]))) else Nx H3)
/-- [e for x in t] -/
theorem wipe_one (σ : L2.St) (i : Nat) (v : Option V) : wipe (σ.set i v) [i] = wipe σ [i] := by
  show (σ.set i v).set i none = σ.set i none
  rw [List.set_set]
theorem lc_map {K : PySem.W.Frag} {a : Addr} {xs : List V} {si : Nat} {te : TE} {σ : L2.St} {H B : Hp} {L : List (Addr × HO)} {D : Addr} {Qd : Hp → Prop} (h : Hs B L H) (hD : H D = none) (hx : SqT K B a xs) (hsz : xs.length ≤ 1000000)
    (Pv : Nat → Hp → List V → Prop) (h0 : Pv 0 B [])
    (hs : ∀ i x B' acc H', xs[i]? = some x → Same B B' → Pv i B' acc → Hs B' ((D, .lst acc) :: L) H' →
      ∀ R : VK, (∀ y H4 B4, Same B' B4 → Hs B4 ((D, .lst acc) :: L) H4 → Pv (i + 1) B4 (acc ++ [y]) → R y H4) → te ((wipe σ [si]).set si (some x)) H' R)
    (hd : ∀ B' acc H', Same B B' → Pv xs.length B' acc → Hs B' ((D, .lst acc) :: L) H' → Qd H') : LcW (Itt K a) (gName si) tYes te [si] σ H D Qd := by
  refine lc_tup (K := K) (a := a) (xs := xs) (fun i H' => i ≤ xs.length ∧ ∃ B' acc, acc.length = i ∧ Same B B' ∧ Pv i B' acc ∧ Hs B' ((D, .lst acc) :: L) H') ⟨Nat.zero_le _, B, [], rfl, Same.refl B, h0, h.new hD⟩ ?_ ?_ ?_
  · rintro i H' _ ⟨_, B', acc, _, s, _, hh⟩
    exact Same.sqt (s.trans hh.sub) hx
  · rintro i x H' hxi ⟨hi, B', acc, ha, s, p, hh⟩
    have lt : i < xs.length := (List.getElem?_eq_some_iff.mp hxi).1
    refine ⟨wipe_one _ _ _ |>.trans (by show (σ.set si none).set si none = σ.set si none; rw [List.set_set]), ?_⟩
    simp only [tYes, if_true]
    refine hs i x B' acc H' hxi s p hh _ (fun y H4 B4 s4 h4 p4 => ?_)
    exact ⟨acc, h4.r0, by rw [sizeLine_eq]; omega, by omega, B4, acc ++ [y], by rw [List.length_append, ha]; rfl, s.trans s4, p4, h4.w0⟩
  · rintro H' ⟨_, B', acc, _, s, p, hh⟩
    exact hd B' acc H' s p hh
end Sy
/-! try: .. except X as e: suite, further clauses behind it that are not reached -/
namespace Sy
open PySem PySem.Spec PyProof.Rows L2
/-- what the body may raise: what the first clause catches -/
def wFst (K : PySem.W.Frag) (c : Value) (i : Nat) (ts : Addr → Value → Option Addr → TS) (D : Ends) : WX := fun cls d σ H => PySem.W.exmOne K cls c = some true ∧ ∀ a, H a = none →
  ts a cls d { nx := fun σ' H' => D.nx (σ'.set i none) H', rt := D.rt, bk := fun σ' H' => D.bk (σ'.set i none) H', ct := fun σ' H' => D.ct (σ'.set i none) H' } (σ.set i (some (.ref a))) H
theorem ps_try_fst {X : Cx} {x n : Str} {c : Value} {i : Nat} {body suite : List Stmt} {b₀ : Stmt} {np pos pos' : Pos} {hds : List ExceptHandler} {tb : WX → TS} {ts : Addr → Value → Option Addr → TS}
    (hs : X.stack = X.env :: X.outer) (hf : X.env.frame = some X.env.locals) (hN : X.N.Nodup) (hi : X.N[i]? = some n) (hln : X.env.kindOf n = some .local) (hc : Names X x c)
    (hb : ∀ (W : WX) (pn : List (Addr × Obj)) (xe : Value → Shared → Prop), Takes (X.tr pn xe) W → PassesOwn (model X.prog X.w) X.A X.env xe → PSs (X.tr pn xe) body (tb W))
    (hsu : ∀ (a : Addr) (oe : Obj) (cls : Value) (d : Option Addr) (pn : List (Addr × Obj)), Zc cls d oe → (∃ vs, oe.data = .fields vs) → PSs (X.suite a ((a, oe) :: pn)) (b₀ :: suite) (ts a cls d)) :
    PS X (.Try body (.ExceptHandler (some (.Name x np)) (some n) (b₀ :: suite) pos' :: hds) [] [] pos) (fun D σ H => tb (wFst X.K c i ts D) D σ H) := by
  constructor
  intro pins s σ H D I h
  have ok := I.ok
  have fr0 : X.A.frames = some (X.env :: X.outer) := by rw [ok.frames, hs]
  apply wpAny_Try_except
  refine wpAny_mono ((hb (wFst X.K c i ts D) (X.pn ++ pins) (fun e s₁ => wpAny (model X.prog X.w) X.A (noteFrame e X.env) (fun _ s₂ => wpAny (model X.prog X.w) X.A (setFlight e none) (fun _ s₃ =>
    wpAny (model X.prog X.w) X.A (handleBy e X.env (.ExceptHandler (some (.Name x np)) (some n) (b₀ :: suite) pos' :: hds)) (SP X pins D) X.xe s₃) X.xe s₂) X.xe s₁) (fun u s' q => ?cat) PassesOwn.looking).run [] s σ H D (I.toTry _) h) (fun f s1 q => ?fin) (fun _ _ q => q)
  case fin =>
    cases f
    case next =>
      obtain ⟨_, _, J, z⟩ := q
      exact wpAny_execs_nil ⟨_, _, J.ofTry ok, z⟩
    case brk =>
      obtain ⟨_, _, J, z⟩ := q
      exact ⟨_, _, J.ofTry ok, z⟩
    case cont =>
      obtain ⟨_, _, J, z⟩ := q
      exact ⟨_, _, J.ofTry ok, z⟩
    case ret =>
      obtain ⟨_, _, _, J, rv, z⟩ := q
      exact ⟨_, _, _, J.ofTry ok, rv, z⟩
  case cat =>
    obtain ⟨a, B, sI, pins', σ1, H1, cls, d, rfl, J', nb, up, sky, na, os, ag, hcat, hgo⟩ := q
    have J : Inv X pins σ1 H1 sI := J'.ofTry ok
    rw [hs] at sky
    show wpAny (model X.prog X.w) X.A (noteFrame (.ref a) X.env) _ _ _
    refine Sky.land Zc.steady fr0 hf sky fun h3 fl up3 => ?_
    have J3 : Inv X pins σ1 H1 { s' with heap := h3 } := J.landed nb fl.1 (up.trans up3) os ag
    obtain ⟨o3, v3, g3, z3, d3⟩ := fl.there
    have off : a ∉ frs (X.env :: X.outer) := fun hm => by
      obtain ⟨_, _, e', no⟩ := fl.2.2.1.mem hm
      rw [g3] at e'
      cases e'
      exact no _ d3
    have nL : a ≠ X.env.locals := fun z => off (List.mem_filterMap.mpr ⟨X.env, List.mem_cons_self, by rw [hf, z]⟩)
    have nF : a ∉ X.fs := fun hm => by
      obtain ⟨e, he, z⟩ := List.mem_filterMap.mp hm
      exact off (List.mem_filterMap.mpr ⟨e, List.mem_cons_of_mem _ he, z⟩)
    have S3 := J3.suite g3 d3 na nL nF
    refine wpAny_handleBy_cons (codeAny_handlers_test ?_) (by intro z; cases z)
    have LT : PySem.W.Looks (model X.prog X.w) h3 (typeOf (.ref a)) cls := fun _ _ _ _ k z => wpAny_typeOf_ref (k _ _ g3) (by rw [z3.1]; exact z)
    have LM := PySem.W.exm_one (M := model X.prog X.w) J3.kIn LT hcat
    have go2 : ∀ {Q E : Value → Shared → Prop}, Q c { s' with heap := h3 } → wpAny (model X.prog X.w) (X.A.mark (some (.ref a))) (eval (.Name x np) X.env) Q E { s' with heap := h3 } := fun {Q E} z => by
      rcases hc with ⟨g, dbg, m | ⟨m, v, nn⟩⟩
      · exact ld_glob (X := X.suite a ((a, o3) :: (X.pn ++ pins))) S3 g m z dbg
      · exact ld_blt (X := X.suite a ((a, o3) :: (X.pn ++ pins))) S3 g m v z nn dbg
    refine go2 (LM.here ?_)
    refine codeAny_handlers_suite_as ?_
    refine HandSPX.lands_againZ fl fun h4 fl4 up4 => ?_
    have J4 : Inv X pins σ1 H1 { s' with heap := h4 } := J.landed nb fl4.1 ((up.trans up3).trans up4) os ag
    obtain ⟨o4, v4, g4, z4, d4⟩ := fl4.there
    refine store_ok (X := X.suite a ((a, o4) :: (X.pn ++ pins))) (v := .ref a) (J4.suite g4 d4 na nL nF) hN hi (.inl hln) rfl (fun s5 S5 => ?_) (.inr hln)
    refine wpAny_mono ((hsu a o4 cls d (X.pn ++ pins) z4 ⟨_, d4⟩).run [] s5 _ H1 _ S5 (hgo a na)) (fun f s6 q => ?_) (fun _ _ z => z.elim)
    have shut : ∀ {σ6 : L2.St} {H6 : Hp} {R : Shared → Prop}, Inv (X.suite a ((a, o4) :: (X.pn ++ pins))) [] σ6 H6 s6 → (∀ s7, Inv X pins (σ6.set i none) H6 s7 → R s7) →
        wpAny (model X.prog X.w) X.A (do bindName X.env n .none; unbindBehindTheSuite X.env n pos') (fun _ s7 => R s7) X.xe s6 := fun S6 k => gone_ok (S6.unsuite ok) hN hi hln k
    cases f
    case next =>
      obtain ⟨_, _, S6, z⟩ := q
      exact shut S6 fun _ J7 => ⟨_, _, J7, z⟩
    case brk =>
      obtain ⟨_, _, S6, z⟩ := q
      exact shut S6 fun _ J7 => ⟨_, _, J7, z⟩
    case cont =>
      obtain ⟨_, _, S6, z⟩ := q
      exact shut S6 fun _ J7 => ⟨_, _, J7, z⟩
    case ret =>
      obtain ⟨_, _, _, S6, rv, z⟩ := q
      exact shut S6 fun _ J7 => ⟨_, _, _, J7, rv, z⟩
end Sy
/-! own errors: their __init__, raising them -/
namespace Sy
open PySem PySem.Spec PyProof.Rows L2
/-- the class x, its __init__ by its row, its fields -/
structure ErrB (P : Program) (K : PySem.W.Frag) (mg : Str → Option Value) (x q : Str) (st : Stmt) (fs : List Str) : Prop where
  sup : ∃ (cc cd : Addr) (kV doc pm : Value) (an : Option Addr) (ct : Value), SupF P K (He.ga K x) (iniA K x) cc cd q (defArgs st) (defBody st) (defScope st) (PySem.W.fnX "__init__" q (defArgs st) (defBody st) (defScope st) [("__class__", cc)] .none kV doc pm an (.ref cd) ct)
  iC : PySem.W.findIn K (.ref (He.ga K x)) "__init__" = some (some (.ref (iniA K x)))
  tI : PySem.W.typeIn K (.ref (iniA K x)) = some (.type "function")
  at_ : mg x = some (.ref (He.ga K x))
  ex : PySem.W.exmOne K (.ref (He.ga K x)) (.ref (He.ga K x)) = some true
  xf : XfC K (He.ga K x)
  no : ∀ f ∈ fs, PySem.W.findIn K (.ref (He.ga K x)) f = some none
  mS : mg "super" = none
  top : (P.main.scope.names.lookup ("super" : Str)).isSome = false
/-- raised: a new dict with these fields, beside what stood -/
def Ra (K : PySem.W.Frag) (x : Str) (fs : List (Str × V)) (H : Hp) (E : XK) : Prop := ∀ d H', Same H H' → H' d = some (.xd fs) → E (.ref (He.ga K x)) (some d) H'
def spInit (C : Addr) (ok : List V → Hp → List (Str × V) → Prop) : Sp := fun vs H Q _ => ∃ a us fs, vs = .ref a :: us ∧ ok us H fs ∧ H a = some (exo a C none) ∧
  ∀ dx H', H dx = none → dx ≠ a → H' a = some (exo a C (some dx)) → H' dx = some (exd dx fs) → (∀ b, b ≠ a → b ≠ dx → H' b = H b) → Q .non H'
theorem mk_ra {K : PySem.W.Frag} {x : Str} {ok : List V → Hp → List (Str × V) → Prop} {us : List V} {H : Hp} {fs : List (Str × V)} {E : XK} (hok : ∀ H', Same H H' → ok us H' fs) (hl : us.length ≤ 1000) (h : Ra K x fs H E) :
    us.length ≤ 1000 ∧ ∀ a, H a = none → spInit (He.ga K x) ok (.ref a :: (us ++ [])) (upd H a (exo a (He.ga K x) none)) (fun v H2 => v = .non ∧ ∃ (d : Addr) (fs : List (Str × V)), H2 a = some (exo a (He.ga K x) (some d)) ∧ H2 d = some (exd d fs) ∧ H d = none ∧ E (.ref (He.ga K x)) (some d) (upd (L2.del H2 a) d (.xd fs))) (fun _ _ _ => False) := by
  refine ⟨hl, fun a ha => ⟨a, us, fs, by rw [List.append_nil], hok _ (up_same ha), upd_same, fun dx H' h1 h2 h3 h4 h5 => ⟨rfl, dx, fs, h3, h4, by rw [upd_ne h2] at h1; exact h1, h dx _ (fun b o e => ?_) upd_same⟩⟩⟩
  have hb : b ≠ a := fun z => by rw [z, ha] at e; cases e
  have hd : H dx = none := by rw [upd_ne h2] at h1; exact h1
  have hb2 : b ≠ dx := fun z => by rw [z, hd] at e; cases e
  rw [upd_ne hb2, del_ne hb, h5 b hb hb2, upd_ne hb]
  exact e
section
variable {P : Program} {w : World} {K : PySem.W.Frag} {mg : Str → Option Value} {base : Heap}
/-! TooMany(what, limit) -/
def okTM : List V → Hp → List (Str × V) → Prop := fun us _ fs => ∃ (x : Str) (n : Int), us = [.str x, .int n] ∧ x.length ≤ 100 ∧ n.natAbs.log2 < 1920 ∧ (toString n : Str).length ≤ 1000 ∧ fs = ([("limit", V.int n), ("what", V.str x)] : List (Str × V))
abbrev N_tm : List Str := ["self", "what", "limit", "__class__"]
theorem sc_tm : NdefX.NScope N_tm ["self", "what", "limit"] ["__class__"] (defScope (clb 9 0)) := ⟨rfl, rfl, rfl, by decide +kernel, rfl, by decide +kernel, by decide +kernel, by decide +kernel, by decide +kernel⟩
theorem i_tm (T : ErrB P K mg "TooMany" "TooMany.__init__" (clb 9 0) ["what", "limit"]) : ∃ fd, FnOk P w K mg base CX0 1 (iniA K "TooMany") fd ["self", "what", "limit"] (spInit (He.ga K "TooMany") okTM) ∧ L2.Binds K fd ["self", "what", "limit"] [] := by
  obtain ⟨cc, cd, kV, doc, pm, an, ct, S⟩ := T.sup
  refine ⟨_, fn_sup (k := 0) S sc_tm rfl rfl rfl rfl rfl T.mS T.top (fun vs H Q E s => by obtain ⟨_, _, _, rfl, ⟨_, _, rfl, _⟩, _⟩ := s; rfl) (fun _ => rfl) (fun _ => rfl) (fun _ _ => rfl) ?_, .all fun us e => match us, e with | [_, _, _], _ => rfl⟩
  intro A outer s H vs Q E hr h
  obtain ⟨a, us, fs, rfl, ⟨x, n, rfl, hx, hn, hn2, rfl⟩, ha, hq⟩ := h
  refine ⟨_, _, pa_cons (pe_joined (.cons pe_str (.cons (pe_fmt (pv 1)) (.cons pe_str (.cons (pe_fmt (pv 2)) .nil))))) pa_nil, pss_cons (ps_ost (pv 0) (pv 1)) (pss_one (ps_ost (pv 0) (pv 2))), a, _, rfl, ha, ?_⟩
  have L1 : ((Str.empty : Str) ++ ("too many " : Str)).length = 9 := by decide +kernel
  have L2' : (": the limit is " : Str).length = 15 := by decide +kernel
  refine ⟨_, rfl, by rw [L1]; decide, _, rfl, .inl ⟨x, rfl, by rw [sizeLine_eq]; omega, _, rfl, ?_, _, rfl, ?_, _, rfl, .inr ⟨n, rfl, hn, _, rfl, ?_, (by show 1 ≤ 1000; decide), ha, _, rfl, _, rfl, a, _, rfl, S.oex, T.no _ (by decide), .inl ⟨ha, fun dx h1 h2 => ⟨_, rfl, _, rfl, a, _, rfl, S.oex, T.no _ (by decide), .inr ⟨dx, _, upd_same, by rw [upd_ne h2]; exact upd_same, (by show 1 ≤ 900; decide), hq dx _ h1 h2 ?_ upd_same ?_⟩⟩⟩⟩⟩⟩
  · rw [PySem.Str.length_append, L1, sizeLine_eq]
    omega
  · rw [PySem.Str.length_append, PySem.Str.length_append, L1, L2', sizeLine_eq]
    omega
  · rw [PySem.Str.length_append, PySem.Str.length_append, PySem.Str.length_append, L1, L2', sizeLine_eq]
    omega
  · rw [upd_ne h2.symm]
    exact upd_same
  · intro b hb hb2
    rw [upd_ne hb2, upd_ne hb, upd_ne hb2]
/-- raise TooMany(.., ..) -/
theorem mk_tm {X : Cx} {k : Nat} {p pos : Pos} {e1 e2 : Expr} {ta : TA} (T : ErrB X.prog X.K X.mg "TooMany" "TooMany.__init__" (clb 9 0) ["what", "limit"]) (hr : Room k X.A) (hg : Gl X "TooMany") (ha : PA X [e1, e2] ta)
    (hx : Passes CX0 X (fun _ _ _ => False)) (hk : 2 ≤ k := by decide) (he : starEach [e1, e2] X.env = (false, eval e1 X.env) :: starEach [e2] X.env := by rfl) (hpl : (backTo pos (starEach [e2] X.env)).any (·.1) = false := by rfl) :
    PMk X (.Call (.Name "TooMany" p) [e1, e2] [] pos) (tMkO (He.ga X.K "TooMany") (spInit (He.ga X.K "TooMany") okTM) [] ta) := by
  obtain ⟨fd, F, B⟩ := i_tm (w := X.w) (base := X.base) T
  obtain ⟨cc, cd, kV, doc, pm, an, ct, S⟩ := T.sup
  exact pmk_oex S.oex T.iC T.tI F (hr.mono hk) B .nil hx hg T.at_ ha rfl he hpl
/-! NoPath(path) -/
/-! check_count -/
def spCount (K : PySem.W.Frag) : Sp := fun vs H Q E => ∃ n : Int, vs = [.int n] ∧ (n ≤ 2000 → Q .non H) ∧ (2000 < n → Ra K "TooMany" [("limit", .int 2000), ("what", .str "knots")] H E)
theorem sc_count : FnScope ["number"] ["number"] (defScope (top 23)) := ⟨rfl, rfl, rfl, by decide +kernel, rfl, by decide +kernel, by decide +kernel⟩
theorem k_count (T : Txt K mg) (TM : ErrB P K mg "TooMany" "TooMany.__init__" (clb 9 0) ["what", "limit"]) (F : DF K mg "check_count" 23) : Cal P w K mg base 3 "check_count" ["number"] (spCount K) := by
  refine cal_of F.1 F.2 sc_count (fun _ _ _ _ _ _ us e => match us, e with | [_], _ => rfl) (fun vs H Q E s => by obtain ⟨_, rfl, _⟩ := s; rfl) ?_
  intro cdv A outer s H vs Q E hr h
  obtain ⟨n, rfl, h1, h2⟩ := h
  have sc := sc_count
  refine ⟨_, (pss_one (ps_if (pt_cmpR op_gt (pv 0) (pe_gint rfl T.MOST_KNOTS) (nomark _))
        (pss_one (ps_raise rfl (takes_of rfl rfl rfl rfl) (mk_tm TM hr rfl (pa_cons pe_str (pa_cons (pe_gint rfl T.MOST_KNOTS) pa_nil)) pass0)))
        pss_nil)), ?_⟩
  refine ⟨_, rfl, _, _, rfl, rfl, _, rfl, if_dec (fun c => ?_) (fun c => ?_)⟩
  · exact mk_ra (fun _ _ => ⟨_, _, rfl, by decide +kernel, by decide +kernel, by decide +kernel, rfl⟩) (by show 2 ≤ 1000; decide) (h2 c)
  · exact h1 (by omega)
end
end Sy
/-! outcomes that are errors -/
namespace Sy
open PySem PySem.Spec PyProof.Rows L2
/-- an error that is due -/
inductive Er
  | many (x : Str) (n : Nat)
  | stump (i : Nat)
  | trim (i : Int)
def Er.cls : Er → Str
  | .many _ _ => "TooMany"
  | .stump _ => "InvalidStump"
  | .trim _ => "InvalidTrim"
/-- its fields, the newest first -/
def Er.fds : Er → List (Str × PyData)
  | .many x n => [("limit", .int (n : Nat)), ("what", .str x)]
  | .stump i => [("place", .int (i : Nat))]
  | .trim i => [("place", .int i)]
inductive ImF (K : PySem.W.Frag) (H : Hp) : List (Str × V) → List (Str × PyData) → Prop
  | nil : ImF K H [] []
  | cons {f : Str} {v : V} {d : PyData} {fs : List (Str × V)} {ds : List (Str × PyData)} : Im K H v d → ImF K H fs ds → ImF K H ((f, v) :: fs) ((f, d) :: ds)
def RaE (K : PySem.W.Frag) (e : Er) (H : Hp) (E : XK) : Prop := ∀ d H' fs, Same H H' → H' d = some (.xd fs) → ImF K H' fs e.fds → E (.ref (He.ga K e.cls)) (some d) H'
theorem RaE.mono {K : PySem.W.Frag} {e : Er} {H H1 : Hp} {E : XK} (h : RaE K e H E) (s : Same H H1) : RaE K e H1 E := fun d H' fs s' e1 i => h d H' fs (s.trans s') e1 i
theorem ImF.mono {K : PySem.W.Frag} {H H' : Hp} (s : Same H H') : ∀ {fs : List (Str × V)} {ds : List (Str × PyData)}, ImF K H fs ds → ImF K H' fs ds
  | _, _, .nil => .nil
  | _, _, .cons a b => .cons (a.mono (Stay.of s)) (ImF.mono s b)
theorem RaE.ra {K : PySem.W.Frag} {e : Er} {H : Hp} {E : XK} {fs : List (Str × V)} (h : RaE K e H E) (i : ImF K H fs e.fds) : Ra K e.cls fs H E := fun d H' s e1 => h d H' fs s e1 (i.mono s)
section
variable {P : Program} {w : World} {K : PySem.W.Frag} {mg : Str → Option Value} {base : Heap}
theorem L0 (x : Str) : ((Str.empty : Str) ++ x).length = x.length := by rw [PySem.Str.length_append]; exact Nat.zero_add _
/-! InvalidPlant(place) -/
def okIP : List V → Hp → List (Str × V) → Prop := fun us _ fs => ∃ i : Nat, us = [.int (i : Nat)] ∧ i ≤ 1000000 ∧ fs = ([("place", V.int (i : Nat))] : List (Str × V))
set_option exponentiation.threshold 3000 in
theorem nat_log {i : Nat} (h : i ≤ 1000000) : ((i : Int).natAbs).log2 < 1920 := by
  have e : (i : Int).natAbs = i := Int.natAbs_natCast i
  rw [e]
  by_cases c : i = 0
  · rw [c]; decide
  · exact (Nat.log2_lt c).mpr (Nat.lt_of_le_of_lt h (by decide))
theorem nat_txt {i : Nat} (h : i ≤ 1000000) : (toString (i : Int) : Str).length ≤ 1921 := int_text_len_1921 (nat_log h)

theorem sc_is : NdefX.NScope ["self", "place", "__class__"] ["self", "place"] ["__class__"] (defScope (clb 4 0)) := ⟨rfl, rfl, rfl, by decide +kernel, rfl, by decide +kernel, by decide +kernel, by decide +kernel, by decide +kernel⟩
theorem i_is (T : ErrB P K mg "InvalidStump" "InvalidStump.__init__" (clb 4 0) ["place"]) : ∃ fd, FnOk P w K mg base CX0 1 (iniA K "InvalidStump") fd ["self", "place"] (spInit (He.ga K "InvalidStump") okIP) ∧ L2.Binds K fd ["self", "place"] [] := by
  obtain ⟨cc, cd, kV, doc, pm, an, ct, S⟩ := T.sup
  refine ⟨_, fn_sup (k := 0) S sc_is rfl rfl rfl rfl rfl T.mS T.top (fun vs H Q E s => by obtain ⟨_, _, _, rfl, ⟨_, rfl, _⟩, _⟩ := s; rfl) (fun _ => rfl) (fun _ => rfl) (fun _ _ => rfl) ?_, .all fun us e => match us, e with | [_, _], _ => rfl⟩
  intro A outer s H vs Q E hr h
  obtain ⟨a, us, fs, rfl, ⟨x, rfl, hx, rfl⟩, ha, hq⟩ := h
  refine ⟨_, _, pa_cons (pe_joined (.cons pe_str (.cons (pe_fmt (pv 1)) (.cons pe_str .nil)))) pa_nil, pss_one (ps_ost (pv 0) (pv 1)), a, _, rfl, ha, ?_⟩
  have L1 : ((Str.empty : Str) ++ ("not a stump from index " : Str)).length = 23 := by decide +kernel
  have L2' : (" on" : Str).length = 3 := by decide +kernel
  have htx := nat_txt hx
  refine ⟨_, rfl, by rw [L1]; decide, _, rfl, .inr ⟨(x : Int), rfl, nat_log hx, _, rfl, ?_, _, rfl, ?_, (by show 1 ≤ 1000; decide), ha, _, rfl, _, rfl, a, _, rfl, S.oex, T.no _ (by decide), .inl ⟨ha, fun dx h1 h2 => hq dx _ h1 h2 upd_same ?_ ?_⟩⟩⟩
  · rw [PySem.Str.length_append, L1, sizeLine_eq]
    omega
  · rw [PySem.Str.length_append, PySem.Str.length_append, L1, L2', sizeLine_eq]
    omega
  · rw [upd_ne h2]
    exact upd_same
  · intro b hb hb2
    rw [upd_ne hb, upd_ne hb2]
theorem mk_is {X : Cx} {k : Nat} {p pos : Pos} {e1 : Expr} {ta : TA} (T : ErrB X.prog X.K X.mg "InvalidStump" "InvalidStump.__init__" (clb 4 0) ["place"]) (hr : Room k X.A) (hg : Gl X "InvalidStump") (ha : PA X [e1] ta)
    (hx : Passes CX0 X (fun _ _ _ => False)) (hk : 2 ≤ k := by decide) (he : starEach [e1] X.env = (false, eval e1 X.env) :: starEach [] X.env := by rfl) (hpl : (backTo pos (starEach [] X.env)).any (·.1) = false := by rfl) :
    PMk X (.Call (.Name "InvalidStump" p) [e1] [] pos) (tMkO (He.ga X.K "InvalidStump") (spInit (He.ga X.K "InvalidStump") okIP) [] ta) := by
  obtain ⟨fd, F, B⟩ := i_is (w := X.w) (base := X.base) T
  obtain ⟨cc, cd, kV, doc, pm, an, ct, S⟩ := T.sup
  exact pmk_oex S.oex T.iC T.tI F (hr.mono hk) B .nil hx hg T.at_ ha rfl he hpl

/-! InvalidTrim(place) -/
def okIT : List V → Hp → List (Str × V) → Prop := fun us _ fs => ∃ i : Int, us = [.int i] ∧ (-1000000 ≤ i ∧ i ≤ 1000000) ∧ fs = ([("place", V.int i)] : List (Str × V))
set_option exponentiation.threshold 3000 in
theorem intz_log {i : Int} (h : -1000000 ≤ i ∧ i ≤ 1000000) : i.natAbs.log2 < 1920 := by
  have : i.natAbs ≤ 1000000 := by omega
  by_cases c : i.natAbs = 0
  · rw [c]; decide
  · exact (Nat.log2_lt c).mpr (Nat.lt_of_le_of_lt this (by decide))
theorem sc_itr : NdefX.NScope ["self", "place", "__class__"] ["self", "place"] ["__class__"] (defScope (clb 5 0)) := ⟨rfl, rfl, rfl, by decide +kernel, rfl, by decide +kernel, by decide +kernel, by decide +kernel, by decide +kernel⟩
theorem i_itr (T : ErrB P K mg "InvalidTrim" "InvalidTrim.__init__" (clb 5 0) ["place"]) : ∃ fd, FnOk P w K mg base CX0 1 (iniA K "InvalidTrim") fd ["self", "place"] (spInit (He.ga K "InvalidTrim") okIT) ∧ L2.Binds K fd ["self", "place"] [] := by
  obtain ⟨cc, cd, kV, doc, pm, an, ct, S⟩ := T.sup
  refine ⟨_, fn_sup (k := 0) S sc_itr rfl rfl rfl rfl rfl T.mS T.top (fun vs H Q E s => by obtain ⟨_, _, _, rfl, ⟨_, rfl, _⟩, _⟩ := s; rfl) (fun _ => rfl) (fun _ => rfl) (fun _ _ => rfl) ?_, .all fun us e => match us, e with | [_, _], _ => rfl⟩
  intro A outer s H vs Q E hr h
  obtain ⟨a, us, fs, rfl, ⟨x, rfl, hx, rfl⟩, ha, hq⟩ := h
  refine ⟨_, _, pa_cons (pe_joined (.cons pe_str (.cons (pe_fmt (pv 1)) .nil))) pa_nil, pss_one (ps_ost (pv 0) (pv 1)), a, _, rfl, ha, ?_⟩
  have L1 : ((Str.empty : Str) ++ ("invalid trim: " : Str)).length = 14 := by decide +kernel
  have htx := int_text_len_1921 (intz_log hx)
  refine ⟨_, rfl, by rw [L1]; decide, _, rfl, .inr ⟨x, rfl, intz_log hx, _, rfl, ?_, (by show 1 ≤ 1000; decide), ha, _, rfl, _, rfl, a, _, rfl, S.oex, T.no _ (by decide), .inl ⟨ha, fun dx h1 h2 => hq dx _ h1 h2 upd_same ?_ ?_⟩⟩⟩
  · rw [PySem.Str.length_append, L1, sizeLine_eq]
    omega
  · rw [upd_ne h2]
    exact upd_same
  · intro b hb hb2
    rw [upd_ne hb, upd_ne hb2]
theorem mk_itr {X : Cx} {k : Nat} {p pos : Pos} {e1 : Expr} {ta : TA} (T : ErrB X.prog X.K X.mg "InvalidTrim" "InvalidTrim.__init__" (clb 5 0) ["place"]) (hr : Room k X.A) (hg : Gl X "InvalidTrim") (ha : PA X [e1] ta)
    (hx : Passes CX0 X (fun _ _ _ => False)) (hk : 2 ≤ k := by decide) (he : starEach [e1] X.env = (false, eval e1 X.env) :: starEach [] X.env := by rfl) (hpl : (backTo pos (starEach [] X.env)).any (·.1) = false := by rfl) :
    PMk X (.Call (.Name "InvalidTrim" p) [e1] [] pos) (tMkO (He.ga X.K "InvalidTrim") (spInit (He.ga X.K "InvalidTrim") okIT) [] ta) := by
  obtain ⟨fd, F, B⟩ := i_itr (w := X.w) (base := X.base) T
  obtain ⟨cc, cd, kV, doc, pm, an, ct, S⟩ := T.sup
  exact pmk_oex S.oex T.iC T.tI F (hr.mono hk) B .nil hx hg T.at_ ha rfl he hpl
/-! the errors of the top -/
structure Ers (P : Program) (K : PySem.W.Frag) (mg : Str → Option Value) : Prop where
  tm : ErrB P K mg "TooMany" "TooMany.__init__" (clb 9 0) ["what", "limit"]
  tr : ErrB P K mg "InvalidTrim" "InvalidTrim.__init__" (clb 5 0) ["place"]
  is : ErrB P K mg "InvalidStump" "InvalidStump.__init__" (clb 4 0) ["place"]
end
end Sy
/-! plants as rows of numbers of branches: plain mathematics -/
namespace Sy
/-- how many entries n plants take that stand one behind the other -/
def sp : Nat → List Nat → Nat
  | 0, _ => 0
  | _ + 1, [] => 0
  | n + 1, a :: w => 1 + sp (n + a) w
/-- w is n plants, one behind the other -/
def Fo : Nat → List Nat → Prop
  | 0, [] => True
  | 0, _ :: _ => False
  | _ + 1, [] => False
  | n + 1, a :: w => Fo (n + a) w
theorem sp_zero (w : List Nat) : sp 0 w = 0 := by cases w <;> rfl
theorem sp_nil (n : Nat) : sp n [] = 0 := by cases n <;> rfl
theorem sp_cons (n a : Nat) (w : List Nat) : sp (n + 1) (a :: w) = 1 + sp (n + a) w := rfl
theorem sp_add : ∀ (w : List Nat) (n m : Nat), sp (n + m) w = sp n w + sp m (w.drop (sp n w))
  | w, 0, m => by rw [sp_zero, Nat.zero_add, Nat.zero_add, List.drop_zero]
  | [], n + 1, m => by simp [sp_nil]
  | a :: w, n + 1, m => by
    have e : n + 1 + m = (n + m) + 1 := by omega
    rw [e, sp_cons, sp_cons, show n + m + a = (n + a) + m by omega, sp_add w (n + a) m, Nat.add_assoc, show 1 + sp (n + a) w = sp (n + a) w + 1 by omega, List.drop_succ_cons]
theorem Fo.zero {w : List Nat} (h : Fo 0 w) : w = [] := by
  cases w with
  | nil => rfl
  | cons a w => exact h.elim
theorem Fo.le : ∀ {w : List Nat} {k m : Nat}, Fo (k + m) w → sp k w ≤ w.length ∧ Fo m (w.drop (sp k w)) ∧ Fo k (w.take (sp k w))
  | w, 0, m, h => by
    rw [Nat.zero_add] at h
    rw [sp_zero]
    exact ⟨Nat.zero_le _, h, trivial⟩
  | [], k + 1, m, h => by
    rw [show k + 1 + m = (k + m) + 1 by omega] at h
    exact h.elim
  | a :: w, k + 1, m, h => by
    rw [show k + 1 + m = (k + m) + 1 by omega] at h
    have h : Fo (k + m + a) w := h
    rw [show k + m + a = (k + a) + m by omega] at h
    have q := Fo.le h
    rw [sp_cons, show 1 + sp (k + a) w = sp (k + a) w + 1 by omega, List.drop_succ_cons, List.take_succ_cons]
    exact ⟨by rw [List.length_cons]; omega, q.2.1, q.2.2⟩
theorem Fo.sp : ∀ {w : List Nat} {m : Nat}, Fo m w → sp m w = w.length
  | [], m, _ => sp_nil m
  | a :: w, 0, h => h.elim
  | a :: w, m + 1, h => by
    rw [sp_cons, Fo.sp (w := w) (m := m + a) h, List.length_cons]
    omega
theorem Fo.app : ∀ {u v : List Nat} {n m : Nat}, Fo n u → Fo m v → Fo (n + m) (u ++ v)
  | [], v, 0, m, _, h => by rw [Nat.zero_add]; exact h
  | a :: u, v, n + 1, m, g, h => by
    have q : Fo (n + a + m) (u ++ v) := Fo.app (u := u) (n := n + a) g h
    rw [show n + 1 + m = (n + m) + 1 by omega]
    show Fo (n + m + a) (u ++ v)
    rw [show n + m + a = n + a + m by omega]
    exact q
theorem Fo.sp_app : ∀ {u : List Nat} {n : Nat} (v : List Nat), Fo n u → Sy.sp n (u ++ v) = u.length
  | [], 0, v, _ => sp_zero _
  | [], n + 1, v, h => h.elim
  | a :: u, 0, v, h => h.elim
  | a :: u, n + 1, v, h => by
    rw [List.cons_append, sp_cons, Fo.sp_app (u := u) (n := n + a) v h, List.length_cons]
    omega
theorem Fo.cut : ∀ {u v : List Nat} {n k : Nat}, Fo k u → Fo n (u ++ v) → k ≤ n ∧ Fo (n - k) v
  | [], v, n, 0, _, h => ⟨Nat.zero_le _, by simpa using h⟩
  | a :: u, v, 0, k, _, h => h.elim
  | a :: u, v, n + 1, k + 1, g, h => by
    have q := Fo.cut (u := u) (v := v) (n := n + a) (k := k + a) g h
    refine ⟨by omega, ?_⟩
    have := q.2
    rw [show n + a - (k + a) = n + 1 - (k + 1) by omega] at this
    exact this
/-- one plant of a row is put in another's place -/
theorem Fo.put : ∀ {u x y v : List Nat} {n : Nat}, Fo 1 x → Fo 1 y → Fo n (u ++ (x ++ v)) → Fo n (u ++ (y ++ v))
  | [], x, y, v, n, hx, hy, h => by
    have q := Fo.cut hx h
    have := hy.app q.2
    rw [show 1 + (n - 1) = n by omega] at this
    exact this
  | a :: u, x, y, v, 0, hx, hy, h => h.elim
  | a :: u, x, y, v, n + 1, hx, hy, h => Fo.put (u := u) (n := n + a) hx hy h
theorem Fo.pos {w : List Nat} {n : Nat} (h : Fo (n + 1) w) : 0 < w.length := by
  cases w with
  | nil => exact h.elim
  | cons a w => rw [List.length_cons]; omega
theorem Fo.at_ : ∀ {w : List Nat} {n : Nat} {i : Nat}, Fo n w → i < w.length → ∃ m, Fo (m + 1) (w.drop i)
  | a :: w, 0, _, h, _ => h.elim
  | a :: w, n + 1, 0, h, _ => ⟨n, h⟩
  | a :: w, n + 1, i + 1, h, hi => by
    rw [List.drop_succ_cons]
    exact Fo.at_ (w := w) (n := n + a) h (by rw [List.length_cons] at hi; omega)
/-- what begins within n plants ends within them -/
theorem sp_within : ∀ {w : List Nat} {n i : Nat}, i < sp n w → ∃ m, sp n w = i + sp (m + 1) (w.drop i)
  | w, 0, i, h => by rw [sp_zero] at h; omega
  | w, n + 1, 0, h => ⟨n, by simp⟩
  | [], n + 1, i + 1, h => by rw [sp_nil] at h; omega
  | a :: w, n + 1, i + 1, h => by
    rw [sp_cons] at h ⊢
    obtain ⟨m, e⟩ := sp_within (w := w) (n := n + a) (i := i) (by omega)
    exact ⟨m, by rw [List.drop_succ_cons, e]; omega⟩
/-- the number of branches at i -/
def aw (w : List Nat) (i : Nat) : Nat := w[i]?.getD 0
/-- behind the plant that begins at i -/
def en (w : List Nat) (i : Nat) : Nat := i + sp 1 (w.drop i)
/-- where the branch k of i begins -/
def kd (w : List Nat) (i k : Nat) : Nat := i + 1 + sp k (w.drop (i + 1))
theorem aw_of {w : List Nat} {i a : Nat} (h : w[i]? = some a) : aw w i = a := by rw [aw, h]; rfl
theorem drop_at {w : List Nat} {i : Nat} (h : i < w.length) : w.drop i = aw w i :: w.drop (i + 1) := by
  rw [List.drop_eq_getElem_cons h, aw, List.getElem?_eq_getElem h]
  rfl
theorem kd_zero (w : List Nat) (i : Nat) : kd w i 0 = i + 1 := by rw [kd, sp_zero]
section
variable {w : List Nat} {i j k : Nat}
theorem kd_succ : kd w i (k + 1) = en w (kd w i k) := by
  unfold kd en
  rw [sp_add, List.drop_drop]
  omega
theorem en_kd (hi : i < w.length) : kd w i (aw w i) = en w i := by
  unfold kd en
  rw [drop_at hi, sp_cons, Nat.zero_add]
  omega
theorem en_gt (hi : i < w.length) : i < en w i := by
  unfold en
  rw [drop_at hi, sp_cons]
  omega
theorem Fo.below (h : Fo 1 w) (hi : i < w.length) : ∃ m, Fo (aw w i + m) (w.drop (i + 1)) := by
  obtain ⟨m, q⟩ := h.at_ hi
  rw [drop_at hi] at q
  exact ⟨m, by rw [Nat.add_comm]; exact q⟩
theorem Fo.kd_lt (h : Fo 1 w) (hi : i < w.length) (hk : k < aw w i) : kd w i k < w.length := by
  obtain ⟨m, q⟩ := h.below hi
  rw [show aw w i + m = k + (aw w i + m - k - 1 + 1) by omega] at q
  have q := Fo.le q
  have := q.2.1.pos
  rw [List.length_drop, List.length_drop] at this
  unfold kd
  omega
theorem Fo.en_le (h : Fo 1 w) (hi : i < w.length) : en w i ≤ w.length := by
  obtain ⟨m, q⟩ := h.at_ hi
  rw [Nat.add_comm] at q
  have q := q.le
  have := q.1
  rw [List.length_drop] at this
  unfold en
  omega
theorem Fo.en0 (h : Fo 1 w) : en w 0 = w.length := by
  unfold en
  rw [List.drop_zero, h.sp]
  omega
/-- the branch that begins at i is a plant -/
theorem Fo.branch (h : Fo 1 w) (hi : i < w.length) : Fo 1 ((w.drop i).take (en w i - i)) := by
  obtain ⟨m, q⟩ := h.at_ hi
  rw [Nat.add_comm] at q
  have q := q.le.2.2
  unfold en
  rw [show i + Sy.sp 1 (w.drop i) - i = Sy.sp 1 (w.drop i) by omega]
  exact q
theorem kd_gt : i < kd w i k := by unfold kd; omega
theorem kd_lt_succ (h : Fo 1 w) (hi : i < w.length) (hk : k < aw w i) : kd w i k < kd w i (k + 1) := by
  rw [kd_succ]
  exact en_gt (h.kd_lt hi hk)
theorem kd_mono (h : Fo 1 w) (hi : i < w.length) : ∀ (d : Nat), k + d ≤ aw w i → kd w i k + d ≤ kd w i (k + d)
  | 0, _ => Nat.le_refl _
  | d + 1, hd => by
    have a := kd_mono h hi d (by omega)
    have b := kd_lt_succ h hi (k := k + d) (by omega)
    rw [show k + (d + 1) = k + d + 1 by omega]
    omega
/-- nested -/
theorem en_nest (a : i ≤ j) (b : j < en w i) : en w j ≤ en w i := by
  unfold en at b ⊢
  obtain ⟨m, e⟩ := sp_within (w := w.drop i) (n := 1) (i := j - i) (by omega)
  rw [List.drop_drop, show i + (j - i) = j by omega, Nat.add_comm m 1, sp_add] at e
  omega
theorem kd_le_en (h : Fo 1 w) (hi : i < w.length) (hk : k ≤ aw w i) : kd w i k ≤ en w i := by
  have := kd_mono h hi (k := k) (aw w i - k) (by omega)
  rw [show k + (aw w i - k) = aw w i by omega, en_kd hi] at this
  omega
/-- a place behind i and within its plant stands in one of its branches -/
theorem in_branch (hi : i < w.length) (a : i < j) : ∀ (n : Nat), j < kd w i n → ∃ k, k < n ∧ kd w i k ≤ j ∧ j < kd w i (k + 1)
  | 0, b => by rw [kd_zero] at b; omega
  | n + 1, b => by
    by_cases c : j < kd w i n
    · obtain ⟨k, h1, h2, h3⟩ := in_branch hi a n c
      exact ⟨k, by omega, h2, h3⟩
    · exact ⟨n, by omega, by omega, b⟩
/-- a knot has one place above it .. -/
theorem kd_lt_of {i2 k2 : Nat} (h : Fo 1 w) (hi : i < w.length) (hi2 : i2 < w.length) (hk : k < aw w i) (hk2 : k2 < aw w i2) (lt : i < i2) : kd w i k ≠ kd w i2 k2 := by
  intro e
  have e1 : kd w i k < en w i := by
    have := kd_le_en h hi (k := k + 1) (by omega)
    have := kd_lt_succ h hi hk
    omega
  have g2 : i2 < kd w i2 k2 := kd_gt
  have hin : i2 < kd w i (aw w i) := by rw [en_kd hi]; omega
  obtain ⟨t, h1, h2, h3⟩ := in_branch hi lt _ hin
  have n1 : en w i2 ≤ en w (kd w i t) := en_nest h2 (by rw [← kd_succ]; exact h3)
  rw [← kd_succ] at n1
  have n2 : kd w i2 k2 < en w i2 := by
    have := kd_le_en h hi2 (k := k2 + 1) (by omega)
    have := kd_lt_succ h hi2 hk2
    omega
  by_cases c : k ≤ t
  · have := kd_mono h hi (k := k) (t - k) (by omega)
    rw [show k + (t - k) = t by omega] at this
    omega
  · have := kd_mono h hi (k := t + 1) (k - (t + 1)) (by omega)
    rw [show t + 1 + (k - (t + 1)) = k by omega] at this
    omega
theorem kd_inj {i2 k2 : Nat} (h : Fo 1 w) (hi : i < w.length) (hi2 : i2 < w.length) (hk : k < aw w i) (hk2 : k2 < aw w i2) (e : kd w i k = kd w i2 k2) : i = i2 ∧ k = k2 := by
  rcases Nat.lt_trichotomy i i2 with c | c | c
  · exact absurd e (kd_lt_of h hi hi2 hk hk2 c)
  · subst c
    refine ⟨rfl, ?_⟩
    rcases Nat.lt_trichotomy k k2 with d | d | d
    · have := kd_mono h hi (k := k) (k2 - k) (by omega)
      rw [show k + (k2 - k) = k2 by omega] at this
      omega
    · exact d
    · have := kd_mono h hi (k := k2) (k - k2) (by omega)
      rw [show k2 + (k - k2) = k by omega] at this
      omega
  · exact absurd e.symm (kd_lt_of h hi2 hi hk2 hk c)
/-- .. and every knot but the root has one -/
theorem has_above (h : Fo 1 w) : ∀ (j : Nat), 0 < j → j < w.length → ∃ i k, i < j ∧ k < aw w i ∧ kd w i k = j := by
  intro j
  induction j using Nat.strongRecOn with
  | _ j ih =>
    intro h0 hj
    -- from a place i < j whose plant ends at j
    have climb : ∀ i, i < j → en w i = j → ∃ i k, i < j ∧ k < aw w i ∧ kd w i k = j := by
      intro i
      induction i using Nat.strongRecOn with
      | _ i ih2 =>
        intro hi e
        by_cases z : i = 0
        · subst z
          rw [h.en0] at e
          omega
        · obtain ⟨p, k, hp, hk, ek⟩ := ih i hi (by omega) (by omega)
          have es : kd w p (k + 1) = j := by rw [kd_succ, ek]; exact e
          by_cases c : k + 1 < aw w p
          · exact ⟨p, k + 1, by omega, c, es⟩
          · have : k + 1 = aw w p := by omega
            rw [this, en_kd (by omega)] at es
            exact ih2 p hp (by omega) es
    by_cases c : 0 < aw w (j - 1)
    · exact ⟨j - 1, 0, by omega, c, by rw [kd_zero]; omega⟩
    · refine climb (j - 1) (by omega) ?_
      rw [← en_kd (by omega), show aw w (j - 1) = 0 by omega, kd_zero]
      omega
end
/-! ### the paths -/
/-- one knot's branches get their paths -/
def stp (w : List Nat) (i : Nat) (fd : List (List Nat)) (n : Nat) : List (List Nat) := (List.range n).foldl (fun fd k => fd.set (kd w i k) (fd.getD i [] ++ [k])) fd
/-- the paths after the first n knots -/
def pth (w : List Nat) (n : Nat) : List (List Nat) := (List.range n).foldl (fun fd i => stp w i fd (aw w i)) (List.replicate w.length [])
def pths (w : List Nat) : List (List Nat) := pth w w.length
theorem stp_succ (w : List Nat) (i n : Nat) (fd : List (List Nat)) : stp w i fd (n + 1) = (stp w i fd n).set (kd w i n) ((stp w i fd n).getD i [] ++ [n]) := by
  unfold stp
  rw [List.range_succ, List.foldl_append]
  rfl
theorem pth_succ (w : List Nat) (n : Nat) : pth w (n + 1) = stp w n (pth w n) (aw w n) := by
  unfold pth
  rw [List.range_succ, List.foldl_append]
  rfl
theorem stp_zero (w : List Nat) (i : Nat) (fd : List (List Nat)) : stp w i fd 0 = fd := rfl
theorem stp_len (w : List Nat) (i : Nat) (fd : List (List Nat)) : ∀ n, (stp w i fd n).length = fd.length
  | 0 => rfl
  | n + 1 => by rw [stp_succ, List.length_set, stp_len w i fd n]
theorem pth_len (w : List Nat) : ∀ n, (pth w n).length = w.length
  | 0 => by show (List.replicate w.length []).length = _; rw [List.length_replicate]
  | n + 1 => by rw [pth_succ, stp_len, pth_len w n]
theorem getD_set_ne {α : Type} (l : List α) {i j : Nat} (v d : α) (h : i ≠ j) : (l.set i v).getD j d = l.getD j d := by
  rw [List.getD_eq_getElem?_getD, List.getElem?_set_ne h, ← List.getD_eq_getElem?_getD]
theorem getD_set_eq {α : Type} (l : List α) {i : Nat} (v d : α) (h : i < l.length) : (l.set i v).getD i d = v := by
  rw [List.getD_eq_getElem?_getD, List.getElem?_set_self h]
  rfl
/-- places up to i stay; other places stay; a branch's place -/
theorem stp_ne (w : List Nat) (i j : Nat) (fd : List (List Nat)) : ∀ n, (∀ k, k < n → kd w i k ≠ j) → (stp w i fd n).getD j [] = fd.getD j []
  | 0, _ => rfl
  | n + 1, h => by
    rw [stp_succ, getD_set_ne _ _ _ (h n (by omega))]
    exact stp_ne w i j fd n fun k hk => h k (by omega)
theorem stp_at {w : List Nat} {i k : Nat} {fd : List (List Nat)} (h : Fo 1 w) (hi : i < w.length) (hl : fd.length = w.length) (hk : k < aw w i) : ∀ n, k < n → n ≤ aw w i → (stp w i fd n).getD (kd w i k) [] = fd.getD i [] ++ [k]
  | n + 1, a, b => by
    have hs : (stp w i fd n).getD i [] = fd.getD i [] := stp_ne w i i fd n fun k _ => by have := kd_gt (w := w) (i := i) (k := k); omega
    rw [stp_succ, hs]
    by_cases c : k = n
    · subst c
      rw [getD_set_eq]
      rw [stp_len, hl]
      exact h.kd_lt hi hk
    · rw [getD_set_ne]
      · exact stp_at h hi hl hk n (by omega) (by omega)
      · intro e
        have := (kd_inj h hi hi (by omega) hk e).2
        omega
theorem pth_at {w : List Nat} {i k : Nat} (h : Fo 1 w) (hi : i < w.length) (hk : k < aw w i) : ∀ n, i < n → n ≤ w.length → (pth w n).getD (kd w i k) [] = (pth w n).getD i [] ++ [k]
  | n + 1, a, b => by
    have si : (pth w (n + 1)).getD i [] = (pth w n).getD i [] := by
      rw [pth_succ]
      exact stp_ne w n i _ _ fun t _ e => by have := kd_gt (w := w) (i := n) (k := t); omega
    rw [si]
    by_cases c : i = n
    · subst c
      rw [pth_succ]
      exact stp_at h hi (pth_len w _) hk _ hk (Nat.le_refl _)
    · rw [pth_succ, stp_ne]
      · exact pth_at h hi hk n (by omega) (by omega)
      · intro t ht e
        have := (kd_inj h (by omega) hi ht hk e).1
        omega
theorem pths_at {w : List Nat} {i k : Nat} (h : Fo 1 w) (hi : i < w.length) (hk : k < aw w i) : (pths w).getD (kd w i k) [] = (pths w).getD i [] ++ [k] := pth_at h hi hk _ hi (Nat.le_refl _)
theorem pth_root (w : List Nat) : ∀ n, (pth w n).getD 0 [] = []
  | 0 => by
    show (List.replicate w.length []).getD 0 [] = []
    cases w <;> rfl
  | n + 1 => by
    rw [pth_succ, stp_ne]
    · exact pth_root w n
    · intro k _ e
      have := kd_gt (w := w) (i := n) (k := k)
      omega
/-- where a path leads -/
def pl (w : List Nat) : Nat → List Nat → Option Nat
  | i, [] => some i
  | i, k :: p => if k < aw w i then pl w (kd w i k) p else none
theorem pl_snoc (w : List Nat) (k : Nat) : ∀ (p : List Nat) (i : Nat), pl w i (p ++ [k]) = (pl w i p).bind fun j => if k < aw w j then some (kd w j k) else none
  | [], i => rfl
  | t :: p, i => by
    show (if t < aw w i then pl w (kd w i t) (p ++ [k]) else none) = (if t < aw w i then pl w (kd w i t) p else none).bind _
    by_cases c : t < aw w i
    · rw [if_pos c, if_pos c, pl_snoc w k p]
    · rw [if_neg c, if_neg c]
      rfl
theorem pl_pths {w : List Nat} (h : Fo 1 w) : ∀ j, j < w.length → pl w 0 ((pths w).getD j []) = some j := by
  intro j
  induction j using Nat.strongRecOn with
  | _ j ih =>
    intro hj
    by_cases z : j = 0
    · subst z
      rw [show pths w = pth w w.length from rfl, pth_root]
      rfl
    · obtain ⟨i, k, hi, hk, e⟩ := has_above h j (by omega) hj
      rw [← e, pths_at h (by omega) hk, pl_snoc, ih i hi (by omega)]
      show (if k < aw w i then some (kd w i k) else none) = _
      rw [if_pos hk]
/-- a path of a plant leads to the same place in each plant that is alike up to that place -/
theorem pl_local {w w' : List Nat} (h : Fo 1 w) (h' : Fo 1 w') : ∀ (p : List Nat) (i : Nat), pl w 0 p = some i → i < w'.length → w'.take i = w.take i → pl w' 0 p = some i := by
  intro p
  induction hn : p.length generalizing p with
  | zero =>
    have : p = [] := List.length_eq_zero_iff.mp hn
    subst this
    exact fun i e _ _ => e
  | succ n ih =>
    intro i e hi a
    obtain ⟨q, k, rfl⟩ : ∃ q k, p = q ++ [k] := ⟨p.dropLast, p.getLast (by intro z; rw [z] at hn; cases hn), (List.dropLast_concat_getLast _).symm⟩
    rw [pl_snoc] at e ⊢
    cases c : pl w 0 q with
    | none => rw [c] at e; cases e
    | some j =>
      rw [c] at e
      have e : (if k < aw w j then some (kd w j k) else none) = some i := e
      by_cases hk : k < aw w j
      · rw [if_pos hk] at e
        have e := Option.some.inj e
        have hj : j < i := by rw [← e]; exact kd_gt
        have hjw : j < w.length := by
          by_cases z : j < w.length
          · exact z
          · rw [aw, List.getElem?_eq_none (by omega)] at hk
            exact absurd hk (Nat.not_lt_zero _)
        have tk : w'.take j = w.take j := by
          have := congrArg (List.take j) a
          rwa [List.take_take, List.take_take, Nat.min_eq_left (by omega)] at this
        rw [ih q (by simpa using hn) j c (by omega) tk]
        have ea : aw w' j = aw w j := by
          have := congrArg (fun l => l[j]?) a
          simp only [List.getElem?_take, hj, if_true] at this
          rw [aw, aw, this]
        have ek : kd w' j k = kd w j k := by
          obtain ⟨m, f⟩ := h.below hjw
          rw [show aw w j + m = k + (aw w j + m - k) by omega] at f
          have f := f.le.2.2
          have el : i - (j + 1) = sp k (w.drop (j + 1)) := by rw [← e, kd]; omega
          have hw : w'.drop (j + 1) = (w.drop (j + 1)).take (sp k (w.drop (j + 1))) ++ w'.drop i := by
            rw [← el, List.take_drop, show j + 1 + (i - (j + 1)) = i by omega, ← a, ← List.take_append_drop i w', List.drop_append, List.take_append_drop]
            have : (w'.take i).length = i := by rw [List.length_take]; omega
            rw [this, show j + 1 - i = 0 by omega, List.drop_zero]
          unfold kd
          rw [hw, f.sp_app, List.length_take, Nat.min_eq_left]
          rw [← el, List.length_drop]
          have := h.kd_lt hjw hk
          omega
        show (if k < aw w' j then some (kd w' j k) else none) = _
        rw [ea, if_pos hk, ek, e]
      · rw [if_neg hk] at e
        cases e
end Sy
namespace Sy
open PySem PySem.Spec PyProof.Rows L2
/-- the numbers of branches of a row's entries -/
def wt (rows : List Sy.Row) (l : List Str) : List Nat := l.map (ar rows)
def ens (w : List Nat) : List Nat := (List.range w.length).map (en w)
def kidsN (w : List Nat) (i : Nat) : List Nat := (List.range (aw w i)).map (kd w i)
def dKids (w : List Nat) : PyData := .tuple ((List.range w.length).map fun i => DN (kidsN w i))
section
variable {rows : List Sy.Row} {l : List Str} {i : Nat} {y : Str} {w : List Nat}
theorem wt_len (rows : List Sy.Row) (l : List Str) : (wt rows l).length = l.length := List.length_map ..
theorem wt_at (h : l[i]? = some y) : aw (wt rows l) i = ar rows y := aw_of (by rw [wt, List.getElem?_map, h]; rfl)
theorem ens_of {ss : List Nat} (hl : ss.length = w.length) (h : ∀ j, j < w.length → ss[j]? = some (en w j)) : ss = ens w := by
  apply List.ext_getElem?
  intro j
  by_cases hj : j < w.length
  · rw [h j hj, ens, List.getElem?_map, List.getElem?_range hj]
    rfl
  · rw [List.getElem?_eq_none (by omega), List.getElem?_eq_none (by rw [ens, List.length_map, List.length_range]; omega)]
theorem ens_at (h : i < w.length) : (ens w)[i]? = some (en w i) := by rw [ens, List.getElem?_map, List.getElem?_range h]; rfl
theorem ens_len (w : List Nat) : (ens w).length = w.length := by rw [ens, List.length_map, List.length_range]
theorem vN_at {ns : List Nat} {n : Nat} (h : ns[i]? = some n) : (vN ns)[i]? = some (.int (n : Int)) := by rw [vN, List.getElem?_map, h]; rfl
theorem vN_set (ns : List Nat) (i n : Nat) : (vN ns).set i (.int (n : Int)) = vN (ns.set i n) := by rw [vN, vN, List.map_set]
theorem aw_le (h : Fo 1 w) (hi : i < w.length) : aw w i ≤ w.length := by
  have a := kd_mono h hi (k := 0) (aw w i) (by omega)
  have b := h.en_le hi
  rw [Nat.zero_add, en_kd hi] at a
  omega
end
end Sy
namespace Sy
open PySem PySem.Spec PyProof.Rows L2
/-- a plant of the bed -/
structure Pln (rows : List Sy.Row) (l : List Str) : Prop where
  fo : Fo 1 (wt rows l)
  kn : ∀ x ∈ l, isK rows x = true
  le : l.length ≤ 2000
theorem fa_ok {rows : List Sy.Row} {lv : List Str} : ∀ {l : List Str} {m i : Nat}, Fo m (wt rows l) → (∀ x ∈ l, isK rows x = true) → fa rows lv m i l = -1
  | [], 0, i, _, _ => rfl
  | x :: l, m + 1, i, h, k => by
    have h : Fo (m + ar rows x) (wt rows l) := h
    rw [fa, if_neg (by omega), if_neg (fun z => by rw [k x List.mem_cons_self] at z; cases z.1)]
    exact fa_ok (m := m + 1 - 1 + ar rows x) h fun y hy => k y (List.mem_cons_of_mem _ hy)
theorem Ra.mono {K : PySem.W.Frag} {x : Str} {fs : List (Str × V)} {H H1 : Hp} {E : XK} (h : Ra K x fs H E) (s : Same H H1) : Ra K x fs H1 E := fun d H' s' e => h d H' (s.trans s') e
section
variable {P : Program} {w : World} {K : PySem.W.Frag} {mg : Str → Option Value} {base : Heap}
/-! place_of -/
/-! check_plant, check_stump -/
def ckr (tag : Nat → Er) (rows : List Sy.Row) (lv l : List Str) : Option Er := if 2000 < l.length then some (.many "knots" 2000) else if 0 ≤ fa rows lv 1 0 l then some (tag (fa rows lv 1 0 l).toNat) else none
abbrev ckS (rows : List Sy.Row) (l : List Str) : Option Er := ckr .stump rows ["*"] l
theorem fa_neg {rows : List Sy.Row} {lv : List Str} : ∀ {l : List Str} {m i : Nat}, fa rows lv m i l < 0 → Fo m (wt rows l) ∧ ∀ x ∈ l, isK rows x = true ∨ x ∈ lv
  | [], m, i, h => by
    rw [fa] at h
    by_cases c : 0 < m
    · rw [if_pos c] at h; omega
    · have : m = 0 := by omega
      subst this
      exact ⟨trivial, fun _ z => (nomatch z)⟩
  | x :: l, m, i, h => by
    rw [fa] at h
    by_cases c : m = 0
    · rw [if_pos c] at h; omega
    · rw [if_neg c] at h
      by_cases d : isK rows x = false ∧ x ∉ lv
      · rw [if_pos d] at h; omega
      · rw [if_neg d] at h
        obtain ⟨h1, h2⟩ := fa_neg h
        obtain ⟨n, rfl⟩ : ∃ n, m = n + 1 := ⟨m - 1, by omega⟩
        refine ⟨h1, fun y hy => ?_⟩
        rcases List.mem_cons.mp hy with rfl | hy
        · by_cases e : isK rows y = true
          · exact .inl e
          · refine .inr (Decidable.byContradiction fun z => d ⟨by simpa using e, z⟩)
        · exact h2 y hy
theorem fa_le {rows : List Sy.Row} {lv : List Str} : ∀ {l : List Str} {m i : Nat}, fa rows lv m i l ≤ ((i + l.length : Nat) : Int)
  | [], m, i => by rw [fa]; split <;> simp <;> omega
  | x :: l, m, i => by
    rw [fa]
    split
    · simp only [List.length_cons]; omega
    · split
      · simp only [List.length_cons]; omega
      · have := fa_le (rows := rows) (lv := lv) (l := l) (m := m - 1 + ar rows x) (i := i + 1)
        simp only [List.length_cons]
        omega
/-- a stump of the bed -/
structure Stm (rows : List Sy.Row) (l : List Str) : Prop where
  fo : Fo 1 (wt rows l)
  kn : ∀ x ∈ l, isK rows x = true ∨ x = "*"
  le : l.length ≤ 2000
theorem stm_of {rows : List Sy.Row} {l : List Str} (h : ckS rows l = none) : Stm rows l := by
  unfold ckS ckr at h
  split at h
  · cases h
  · split at h
    · cases h
    · obtain ⟨h1, h2⟩ := fa_neg (rows := rows) (lv := ["*"]) (l := l) (m := 1) (i := 0) (by omega)
      exact ⟨h1, fun x hx => (h2 x hx).imp id fun z => List.mem_singleton.mp z, by omega⟩
def spCheckE (K : PySem.W.Frag) (ck : List Sy.Row → List Str → Option Er) : Sp := fun vs H Q E => ∃ a r rows l, vs = [.ref a, .ref r] ∧ BedAt K H a rows ∧ SqT K H r (l.map V.str) ∧ (ck rows l = none → ∀ H', Same H H' → Q .non H') ∧ (∀ e, ck rows l = some e → RaE K e H E)
abbrev N_check : List Str := ["bed", "plant", "place"]
theorem im_int {H : Hp} (i : Nat) : ImF K H [("place", V.int (i : Nat))] [("place", .int (i : Nat))] := .cons (.int _) .nil
theorem im_tm {H : Hp} : ImF K H [("limit", .int 2000), ("what", .str "knots")] (Er.many "knots" 2000).fds := .cons (.int _) (.cons (.str _) .nil)
abbrev N_checkS : List Str := ["bed", "stump", "place"]
theorem sc_checkS : FnScope N_checkS ["bed", "stump"] (defScope (top 30)) := ⟨rfl, rfl, rfl, by decide +kernel, rfl, by decide +kernel, by decide +kernel⟩
theorem k_checkS (T : Txt K mg) (hole : ∃ t, mg "HOLE" = some (.str "*" t)) (R : Ers P K mg) (F : DF K mg "check_stump" 30) (c_check_count : Cal P w K mg base 3 "check_count" ["number"] (spCount K)) (c_fault_among : Cal P w K mg base 2 "fault_among" ["bed", "row", "leaves"] (spFault K)) : Cal P w K mg base 4 "check_stump" ["bed", "stump"] (spCheckE K ckS) := by
  refine cal_of F.1 F.2 sc_checkS (fun _ _ _ _ _ _ us e => match us, e with | [_, _], _ => rfl) (fun vs H Q E s => by obtain ⟨_, _, _, _, rfl, _⟩ := s; rfl) ?_
  intro cdv A outer s H vs Q E hr h
  obtain ⟨a, r, rows, l, rfl, hb, hR, hq, hE⟩ := h
  have sc := sc_checkS
  refine ⟨_, (pss_cons (ps_expr (pe_calX c_check_count hr (takes_of rfl rfl rfl rfl) (pa_cons (pe_callB call_len_seq (by rfl) T.len (by decide +kernel) (pa_cons (pv 1) pa_nil)) pa_nil)))
      (pss_cons (ps_set (i := 2) sc.nd rfl (Or.inl rfl) (pe_cal c_fault_among hr (pa_cons (pv 0) (pa_cons (pv 1) (pa_cons (pe_tup (pa_cons (pe_gstr rfl hole) pa_nil)) pa_nil)))))
      (pss_one (ps_if (pt_cmpR op_ge (pv 2) pe_int (nomark _))
        (pss_one (ps_raise rfl (takes_of rfl rfl rfl rfl) (mk_is R.is hr rfl (pa_cons (pv 2) pa_nil) pass0)))
        pss_nil)))), ?_⟩
  refine ⟨_, rfl, r, _, rfl, .inr hR, _, rfl, fun c => ?_, fun c => (hE (.many "knots" 2000) ?_).ra im_tm⟩
  · rw [List.length_map] at c
    refine ⟨_, rfl, _, rfl, by decide, fun t ht => ?_⟩
    have s1 := up_same (o := .tup [.str "*"]) ht
    refine ⟨a, r, t, rows, l, ["*"], rfl, hb.mono (Stay.of s1), Same.sqt s1 hR, SqT.of upd_same, fun H' s2 => ?_⟩
    refine ⟨_, rfl, _, _, rfl, rfl, _, rfl, if_dec (fun c2 => ?_) (fun c2 => ?_)⟩
    · have c2 : 0 ≤ fa rows ["*"] 1 0 l := c2
      have hle := fa_le (rows := rows) (lv := ["*"]) (l := l) (m := 1) (i := 0)
      obtain ⟨n, en⟩ : ∃ n : Nat, fa rows ["*"] 1 0 l = (n : Nat) := ⟨(fa rows ["*"] 1 0 l).toNat, by omega⟩
      rw [en] at hle ⊢
      refine ⟨_, rfl, mk_ra (fun _ _ => ⟨n, rfl, by omega, rfl⟩) (by show 1 ≤ 1000; decide) (((hE (.stump n) ?_).ra (im_int n)).mono (s1.trans s2))⟩
      unfold ckS ckr
      rw [if_neg (by omega), en, if_pos (by omega)]
      rfl
    · have c2 : ¬ 0 ≤ fa rows ["*"] 1 0 l := c2
      refine hq ?_ _ (s1.trans s2)
      unfold ckS ckr
      rw [if_neg (by omega), if_neg c2]
  · rw [List.length_map] at c
    unfold ckS ckr
    rw [if_pos (by omega)]
/-! plant_key, paths -/
end
end Sy
namespace Sy
open PySem PySem.Spec PyProof.Rows L2
/-- a dict comprehension over any walk -/
theorem dc_it {J : It} {n : Nat} {G : Hp → Prop} {Y : Nat → Hp → V → Hp → Prop} (w : Walk J n G Y) {g : TG} {tt : TT} {tk tv : TE} {vs : List Nat} {σ : L2.St} {H1 : Hp} {D : Addr} {Qd : Hp → Prop} (Pv : Nat → Hp → Prop) (h0 : Pv 0 (upd H1 D (.dK []))) (hG : ∀ i H, i ≤ n → Pv i H → G H)
    (hs : ∀ i x H H', i < n → Pv i H → Y i H x H' → g x (wipe σ vs) H' fun σ2 H2 => wipe σ2 vs = wipe σ vs ∧ tt σ2 H2 fun b H3 =>
      if b = true then tk σ2 H3 fun y H4 => tv σ2 H4 fun z H5 => ∃ kvs k, y = kV k ∧ H5 D = some (.dK kvs) ∧ kvs.length < sizeLine ∧ Pv (i + 1) (upd H5 D (.dK (putK kvs k z))) else Pv (i + 1) H3) (hd : ∀ H, Pv n H → Qd H) :
    ∃ W : Nat → Nat → Hp → Prop, (∃ m, W 0 m (upd H1 D (.dK []))) ∧ ∀ i m H, W i m H →
      (J.stop i H ∧ Qd H) ∨ (J.go i H ∧ ∃ Nx : Hp → Prop, (∀ H', Nx H' → ∃ m', m' < m ∧ W (i + 1) m' H') ∧ ∀ x H', J.yld i H x H' → g x (wipe σ vs) H' fun σ2 H2 => wipe σ2 vs = wipe σ vs ∧ tt σ2 H2 fun b H3 =>
        if b = true then tk σ2 H3 fun y H4 => tv σ2 H4 fun z H5 => ∃ kvs k, y = kV k ∧ H5 D = some (.dK kvs) ∧ kvs.length < sizeLine ∧ Nx (upd H5 D (.dK (putK kvs k z))) else Nx H3) := by
  refine ⟨fun i m H => i + m = n ∧ Pv i H, ⟨n, Nat.zero_add n, h0⟩, fun i m H ⟨e, p⟩ => ?_⟩
  have q := hG i H (by omega) p
  cases m with
  | zero =>
    obtain rfl : i = n := by omega
    exact .inl ⟨w.stops H q, hd H p⟩
  | succ m =>
    exact .inr ⟨w.goes i H (by omega) q, Pv (i + 1), fun H' p' => ⟨m, Nat.lt_succ_self m, by omega, p'⟩, fun x H' y => hs i x H H' (by omega) p (w.yields i H x H' (by omega) q y)⟩
theorem paired_at {α β : Type} {R : α → β → Prop} : ∀ {xs : List α} {ys : List β} {i : Nat} {y : β}, Paired R xs ys → ys[i]? = some y → ∃ x, xs[i]? = some x ∧ R x y
  | _, _, i, y, .nil, h => by simp at h
  | _, _, 0, y, .cons a _, h => by
    simp at h
    subst h
    exact ⟨_, rfl, a⟩
  | _, _, i + 1, y, .cons _ b, h => by
    obtain ⟨x, h1, h2⟩ := paired_at (i := i) b (by simpa using h)
    exact ⟨x, by simpa using h1, h2⟩
theorem paired_len {α β : Type} {R : α → β → Prop} : ∀ {xs : List α} {ys : List β}, Paired R xs ys → xs.length = ys.length
  | _, _, .nil => rfl
  | _, _, .cons _ b => by rw [List.length_cons, List.length_cons, paired_len b]
def nameOk (x : Str) : Bool := decide (x.length ≤ 8) && (Txt.isascii x && (Txt.isalpha x && Txt.islower x))
def leafs (rows : List Sy.Row) : List Str := (rows.filter fun r => decide (r.2 = 0)).map (·.1)
/-- rows of which a bed is made -/
structure RowsOk (rows : List Sy.Row) : Prop where
  nm : ∀ r ∈ rows, nameOk r.1 = true
  br : ∀ r ∈ rows, r.2 ≤ 3
  nd : (rows.map (·.1)).Nodup
  lf : ∃ r ∈ rows, r.2 = 0
  le : rows.length ≤ 8
theorem lookup_none {rows : List Sy.Row} {x : Str} (h : ∀ r ∈ rows, r.1 ≠ x) : rows.lookup x = none := by
  induction rows with
  | nil => rfl
  | cons r rs ih =>
    rw [lookup_cons, if_neg (h r List.mem_cons_self)]
    exact ih fun q hq => h q (List.mem_cons_of_mem _ hq)
theorem nodup_take {rows : List Sy.Row} (nd : (rows.map (·.1)).Nodup) {i : Nat} {r : Sy.Row} (h : rows[i]? = some r) : ∀ q ∈ rows.take i, q.1 ≠ r.1 := by
  intro q hq e
  obtain ⟨j, hj, ej⟩ := List.mem_iff_getElem.mp hq
  rw [List.length_take] at hj
  rw [List.getElem_take] at ej
  obtain ⟨hi, er⟩ := List.getElem?_eq_some_iff.mp h
  have hlt : j < rows.length := by omega
  have := List.pairwise_iff_getElem.mp nd j i (by rw [List.length_map]; omega) (by rw [List.length_map]; omega) (by omega)
  rw [List.getElem_map, List.getElem_map, ej, er] at this
  exact this e
section
variable {P : Program} {w : World} {K : PySem.W.Frag} {mg : Str → Option Value} {base : Heap}
/-! only_letters, is_name -/
def spLetters : Sp := fun vs H Q _ => ∃ x : Str, vs = [.str x] ∧ Q (.bl (Txt.isascii x && (Txt.isalpha x && Txt.islower x))) H
theorem sc_letters : FnScope ["text"] ["text"] (defScope (top 18)) := ⟨rfl, rfl, rfl, by decide +kernel, rfl, by decide +kernel, by decide +kernel⟩
theorem k_letters (F : DF K mg "only_letters" 18) : Cal P w K mg base 1 "only_letters" ["text"] spLetters := by
  refine cal_of F.1 F.2 sc_letters (fun _ _ _ _ _ _ us e => match us, e with | [_], _ => rfl) (fun vs H Q E s => by obtain ⟨_, rfl, _⟩ := s; rfl) ?_
  intro cdv A outer s H vs Q E hr h
  obtain ⟨x, rfl, hq⟩ := h
  refine ⟨_, (pss_one (ps_ret (pe_and (pe_bm0 PySem.F.plainAttrs_str PySem.F.slot_str_isascii PySem.F.type_str_isascii mt_isascii (pv 0)) (pe_and (pe_bm0 PySem.F.plainAttrs_str PySem.F.slot_str_isalpha PySem.F.type_str_isalpha mt_isalpha (pv 0)) (pe_one (pe_bm0 PySem.F.plainAttrs_str PySem.F.slot_str_islower PySem.F.type_str_islower mt_islower (pv 0))))))), ?_⟩
  refine ⟨_, rfl, rfl, x, rfl, rfl, trivial, _, rfl, if_bool (fun c1 => ?_) (fun c1 => ?_)⟩
  · rw [c1] at hq
    refine ⟨_, rfl, rfl, x, rfl, rfl, trivial, _, rfl, if_bool (fun c2 => ?_) (fun c2 => ?_)⟩
    · rw [c2] at hq
      exact ⟨_, rfl, rfl, x, rfl, rfl, trivial, hq⟩
    · rw [c2] at hq
      exact hq
  · rw [c1] at hq
    exact hq
def spName : Sp := fun vs H Q _ => ∃ x : Str, vs = [.str x] ∧ x.length ≤ 1000000 ∧ Q (.bl (nameOk x)) H
theorem sc_name : FnScope ["text"] ["text"] (defScope (top 19)) := ⟨rfl, rfl, rfl, by decide +kernel, rfl, by decide +kernel, by decide +kernel⟩
theorem k_name (T : Txt K mg) (F : DF K mg "is_name" 19) (c_only_letters : Cal P w K mg base 1 "only_letters" ["text"] spLetters) : Cal P w K mg base 2 "is_name" ["text"] spName := by
  refine cal_of F.1 F.2 sc_name (fun _ _ _ _ _ _ us e => match us, e with | [_], _ => rfl) (fun vs H Q E s => by obtain ⟨_, rfl, _⟩ := s; rfl) ?_
  intro cdv A outer s H vs Q E hr h
  obtain ⟨x, rfl, hx, hq⟩ := h
  refine ⟨_, (pss_one (ps_ret (pe_and (pe_cmpR op_le (pe_callB call_len_str (by rfl) T.len (by decide +kernel) (pa_cons (pv 0) pa_nil)) (pe_gint rfl T.LONGEST_NAME) (nomark _)) (pe_one (pe_cal c_only_letters hr (pa_cons (pv 0) pa_nil)))))), ?_⟩
  have e8 : decide ((x.length : Int) ≤ 8) = decide (x.length ≤ 8) := by
    by_cases h : x.length ≤ 8
    · rw [decide_eq_true h, decide_eq_true (by omega)]
    · rw [decide_eq_false h, decide_eq_false (by omega)]
  unfold nameOk at hq
  rw [← e8] at hq
  refine ⟨_, rfl, x, rfl, by rw [sizeLine_eq]; omega, _, _, rfl, rfl, _, rfl, if_bool (fun c1 => ?_) (fun c1 => ?_)⟩
  · rw [c1] at hq
    exact ⟨_, rfl, x, rfl, hq⟩
  · rw [c1] at hq
    exact hq
/-! methods of Bed -/
structure MB (K : PySem.W.Frag) (m q : Str) (st : Stmt) : Prop where
  me : Meth K (He.ga K "Bed") m (He.ma K (He.ga K "Bed") m)
  fn : ∃ fd, FunD K m q (defArgs st) (defBody st) (defScope st) [] [] (He.ma K (He.ga K "Bed") m) fd
structure CalM (P : Program) (w : World) (K : PySem.W.Frag) (mg : Str → Option Value) (base : Heap) (k : Nat) (m : Str) (ps : List Str) (sp : Sp) : Prop where
  me : Meth K (He.ga K "Bed") m (He.ma K (He.ga K "Bed") m)
  fn : ∃ fd, FnOk P w K mg base (L2.CX P w) k (He.ma K (He.ga K "Bed") m) fd ps sp ∧ Binds K fd ps []
theorem calM_of {m q : Str} {st : Stmt} {N ps : List Str} {k : Nat} {sp : Sp} (F : MB K m q st) (S : FnScope N ps (defScope st))
    (hb : ∀ (kV doc pm : Value) (an : Option Addr) (cdv ct : Value) (us : List Value), us.length = ps.length → bindArgs (PySem.W.fnOf m q (defArgs st) (defBody st) (defScope st) .none kV doc pm an cdv ct) ⟨us, []⟩ = pure (ps.zip us))
    (len : ∀ vs H Q E, sp vs H Q E → vs.length = ps.length)
    (body : ∀ (cdv : Value) (A : Around) (outer : List Env) (s : Shared) (H : Hp) (vs : List V) (Q : VK) (E : XK), Room k (A.deeper (envOfC q (defScope st) s.heap.objs.size (He.ma K (He.ga K "Bed") m) cdv)) → sp vs H Q E →
      ∃ t, PSs (cxOf (L2.CX P w) P w K mg base N q (defScope st) (He.ma K (He.ga K "Bed") m) cdv A outer s H E) (defBody st) t ∧ t { nx := fun _ H' => Q .non H', rt := Q } (start N vs) H) : CalM P w K mg base (k + 1) m ps sp := by
  obtain ⟨me, fd, F⟩ := F
  exact ⟨me, fd, F.ok S len body, F.bindsN hb⟩
abbrev WdB (x : Str) : Prop := x.length ≤ 100 ∧ ∀ c ∈ x.cps.toList, c < 16 ^ 8
theorem sc_branches : FnScope ["self", "kind"] ["self", "kind"] (defScope (clb 20 4)) := ⟨rfl, rfl, rfl, by decide +kernel, rfl, by decide +kernel, by decide +kernel⟩
def spLeaves (K : PySem.W.Frag) : Sp := fun vs H Q _ => ∃ (a : Addr) (rows : List Sy.Row), vs = [.ref a] ∧ BedAt K H a rows ∧ rows.length ≤ 1000 ∧ ∀ H' p, Same H H' → SqT K H' p ((leafs rows).map V.str) → Q (.ref p) H'
abbrev N_leaves : List Str := ["self", "name", "branches"]
theorem sc_leaves : FnScope N_leaves ["self"] (defScope (clb 20 3)) := ⟨rfl, rfl, rfl, by decide +kernel, rfl, by decide +kernel, by decide +kernel⟩
theorem k_leaves (T : Txt K mg) (F : MB K "leaves" "Bed.leaves" (clb 20 3)) : CalM P w K mg base 1 "leaves" ["self"] (spLeaves K) := by
  refine calM_of F sc_leaves (fun _ _ _ _ _ _ us e => match us, e with | [_], _ => rfl) (fun vs H Q E s => by obtain ⟨_, _, rfl, _⟩ := s; rfl) ?_
  intro cdv A outer s H vs Q E hr h
  obtain ⟨a, rows, rfl, hb, hl, hq⟩ := h
  have sc := sc_leaves
  obtain ⟨dx, dA, tR, tK, dR, ps, h1, hd, h3, h4, h5, h6⟩ := hb.ex
  have hpl := paired_len h6
  refine ⟨_, (pss_one (ps_ret (pe_callTy call_tuple_of (by rfl) T.tuple (by decide +kernel) (pa_cons (pe_lc (own := [("name", 1), ("branches", 2)]) (g := gTup K 2 (gCons (gName 1) (gCons (gName 2) (gNil)))) rfl sc.nd (pi_tup (pe_fld (pv 0) rfl)) (blkOk_by (N := N_leaves) (sc := defScope (clb 20 3)) (by decide +kernel)) (fun _ _ _ _ _ => (pg_tup rfl (pgs_cons (pg_name (i := 1) sc.nd rfl (Or.inl rfl)) (pgs_cons (pg_name (i := 2) sc.nd rfl (Or.inl rfl)) pgs_nil)))) (fun _ _ _ _ _ => (pts_one (pt_cmpR op_eq (pv 2) pe_int (nomark _)))) (fun _ _ _ _ _ => (pv 1))) pa_nil)))), ?_⟩
  refine ⟨_, rfl, a, _, dx, _, _, rfl, h1, T.bed.cl, T.bed.nR, rfl, tR, rfl, ⟨_, h4⟩, fun D hD => lc_it walk_tup (fun i H' => Hs H [(D, .lst ((leafs (rows.take i)).map V.str))] H') ((Hs.start H).new hD) (fun _ _ _ p => Same.sqt p.sub h4) ?_ ?_⟩
  · rintro i x H' _ hi hh ⟨rfl, hx⟩
    rw [List.length_map, hpl] at hi
    obtain ⟨r, hr'⟩ : ∃ r, rows[i]? = some r := ⟨_, List.getElem?_eq_getElem hi⟩
    obtain ⟨q, e1, tq⟩ := paired_at h6 hr'
    rw [List.getElem?_map, e1] at hx
    cases hx
    have etk : rows.take (i + 1) = rows.take i ++ [r] := by rw [List.take_succ, hr']; rfl
    have ll : (leafs (rows.take i)).length ≤ 1000 := by
      unfold leafs
      rw [List.length_map]
      have := List.length_filter_le (fun r : Sy.Row => decide (r.2 = 0)) (rows.take i)
      rw [List.length_take] at this
      omega
    refine ⟨q, _, rfl, Same.sqt hh.sub tq, rfl, _, _, rfl, _, _, rfl, rfl, rfl, _, rfl, rfl, _, rfl, if_dec (fun c => ?_) (fun c => ?_)⟩
    · refine ⟨_, rfl, _, hh.r0, by rw [List.length_map, sizeLine_eq]; omega, ?_⟩
      have c2 : r.2 = 0 := by
        have := V.int.inj c
        omega
      have : leafs (rows.take (i + 1)) = leafs (rows.take i) ++ [r.1] := by
        unfold leafs
        rw [etk, List.filter_append, List.map_append]
        simp [c2]
      rw [this, List.map_append]
      exact hh.w0
    · have c2 : ¬ r.2 = 0 := fun z => c (by rw [z]; rfl)
      have : leafs (rows.take (i + 1)) = leafs (rows.take i) := by
        unfold leafs
        rw [etk, List.filter_append, List.map_append]
        simp [c2]
      rw [this]
      exact hh
  · intro H' hh
    rw [List.length_map, hpl, List.take_length] at hh
    exact ⟨D, _, rfl, .inl ⟨SqL.of hh.r0, fun l hl => hq _ _ (hh.sub.trans (up_same hl)) (SqT.of upd_same)⟩⟩
end
end Sy
namespace Sy
open PySem PySem.Spec PyProof.Rows L2
section
variable {P : Program} {w : World} {K : PySem.W.Frag} {mg : Str → Option Value} {base : Heap}
/-- what a def with a star asks, by what its body asks -/
def spStar (n : Nat) (sp : Sp) : Sp := fun vs H Q E => ∃ ws rest, vs = ws ++ rest ∧ ws.length = n ∧ rest.length ≤ sizeLine ∧ ∀ p, H p = Option.none → sp (ws ++ [V.ref p]) (upd H p (.tup rest)) Q E
theorem fnR_of {x q pv : Str} {st : Stmt} {f : Addr} {fd : FuncData} {N ps : List Str} {k : Nat} {sp : Sp} (F : FunD K x q (defArgs st) (defBody st) (defScope st) [] [] f fd) (S : FnScope N (ps ++ [pv]) (defScope st))
    (hb : ∀ (kV doc pm : Value) (an : Option Addr) (cdv ct : Value) (us rest : List Value), us.length = ps.length → bindArgs (PySem.W.fnOf x q (defArgs st) (defBody st) (defScope st) .none kV doc pm an cdv ct) ⟨us ++ rest, []⟩ = (newTuple rest >>= fun t => pure (ps.zip us ++ [(pv, t)])))
    (body : ∀ (cdv : Value) (A : Around) (outer : List Env) (s : Shared) (H : Hp) (vs : List V) (Q : VK) (E : XK), Room k (A.deeper (envOfC q (defScope st) s.heap.objs.size f cdv)) → sp vs H Q E →
      ∃ t, PSs (cxOf (L2.CX P w) P w K mg base N q (defScope st) f cdv A outer s H E) (defBody st) t ∧ t { nx := fun _ H' => Q .non H', rt := Q } (start N vs) H) : FnR P w K mg base (L2.CX P w) (k + 1) f (spStar ps.length sp) := by
  obtain ⟨oc, od, dV, kV, doc, pm, an, cdv, ct, osl, rfl, lk, hcd, hD, hK⟩ := F.ex
  rcases hD with ⟨_, rfl⟩ | ⟨e, _⟩
  · exact StX.fn_star lk hcd S StX.cxUp (hb kV doc pm an cdv ct) fun A outer s H vs Q E hr h => body cdv A outer s H vs Q E hr h
  · exact absurd rfl e
/-! Bed.__init__ -/
def spInitB (K : PySem.W.Frag) : Sp := fun vs H Q _ => ∃ (x p dx : Addr) (ps : List Addr) (rows : List Sy.Row), vs = [.ref x, .ref p] ∧ H x = some (.ins (He.ga K "Bed") dx []) ∧ SqT K H p (ps.map V.ref) ∧ Paired (fun q (r : Sy.Row) => SqT K H q [.str r.1, .int (r.2 : Nat)]) ps rows ∧ RowsOk rows ∧
  ∀ H', (∀ a o, a ≠ x → H a = some o → H' a = some o) → BedAt K H' x rows → Q .non H'
abbrev N_init : List Str := ["self", "kinds", "place", "name", "branches", "rank"]
theorem sc_init : FnScope N_init ((["self"] : List Str) ++ (["kinds"] : List Str)) (defScope (clb 20 0)) := ⟨rfl, rfl, rfl, by decide +kernel, rfl, by decide +kernel, by decide +kernel⟩
theorem sqt_del {H : Hp} {x p C dx : Addr} {fs : List (Str × V)} {xs : List V} (h : SqT K H p xs) (hx : H x = some (.ins C dx fs)) : SqT K (L2.del H x) p xs := by
  have ne : ∀ o, H p = some o → (∀ C dx fs, o ≠ .ins C dx fs) → p ≠ x := fun o e n z => by
    rw [z, hx] at e
    exact n _ _ _ (Option.some.inj e).symm
  rcases h with (h | ⟨o, h⟩) | h
  · exact .inl (.inl (by rw [del_ne (ne _ h fun _ _ _ z => by cases z)]; exact h))
  · exact .inl (.inr ⟨o, by rw [del_ne (ne _ h fun _ _ _ z => by cases z)]; exact h⟩)
  · exact .inr h
theorem nx_le (x : Str) (h : nameOk x = true) : x.length ≤ 8 := by
  unfold nameOk at h
  exact of_decide_eq_true (Bool.and_eq_true_iff.mp h).1
theorem rkKV_snoc : ∀ (l : List Sy.Row) (n : Nat) (r : Sy.Row), rkKV n (l ++ [r]) = rkKV n l ++ [(Sum.inr r.1, V.int ((n + l.length : Nat) : Int))]
  | [], n, r => rfl
  | q :: l, n, r => by
    show (Sum.inr q.1, V.int (n : Nat)) :: rkKV (n + 1) (l ++ [r]) = _
    rw [rkKV_snoc l (n + 1) r, show n + 1 + l.length = n + (q :: l).length by rw [List.length_cons]; omega]
    rfl
theorem rkKV_len : ∀ (l : List Sy.Row) (n : Nat), (rkKV n l).length = l.length
  | [], _ => rfl
  | q :: l, n => by
    show (rkKV (n + 1) l).length + 1 = _
    rw [rkKV_len l (n + 1)]
    rfl
theorem rk_none : ∀ {l : List Sy.Row} {n : Nat} {x : Str}, (∀ q ∈ l, q.1 ≠ x) → rk n l x = none
  | [], _, _, _ => rfl
  | q :: l, n, x, h => by
    rw [rk, if_neg (h q List.mem_cons_self)]
    exact rk_none fun z hz => h z (List.mem_cons_of_mem _ hz)
theorem leafs_pos {rows : List Sy.Row} (h : ∃ r ∈ rows, r.2 = 0) : 0 < (leafs rows).length := by
  obtain ⟨r, hr, e⟩ := h
  unfold leafs
  rw [List.length_map]
  exact List.length_pos_of_mem (List.mem_filter.mpr ⟨hr, decide_eq_true e⟩)
theorem r_init (T : Txt K mg) (F : MB K "__init__" "Bed.__init__" (clb 20 0)) (c_is_name : Cal P w K mg base 2 "is_name" ["text"] spName) (c_leaves : CalM P w K mg base 1 "leaves" ["self"] (spLeaves K)) :
    FnR P w K mg base (L2.CX P w) 3 (He.ma K (He.ga K "Bed") "__init__") (spStar 1 (spInitB K)) := by
  obtain ⟨me, fd, F⟩ := F
  obtain ⟨mL, fL, FL, BL⟩ := c_leaves
  refine fnR_of (ps := ["self"]) F sc_init (fun kV doc pm an cdv ct => StX.bind_star1 (B := fun l => bindArgs (PySem.W.fnOf "__init__" "Bed.__init__" (defArgs (clb 20 0)) (defBody (clb 20 0)) (defScope (clb 20 0)) .none kV doc pm an cdv ct) ⟨l, []⟩) (fun _ => rfl) (fun _ _ _ => rfl)) ?_
  intro cdv A outer s H vs Q E hr h
  obtain ⟨x, p, dx, ps, rows, rfl, hx, hp, hpr, ok, hq⟩ := h
  have hu := hu_of hr
  have sc := sc_init
  refine ⟨_, (pss_cons (ps_if (pt_cmpR op_gt (pe_callB call_len_seq (by rfl) T.len (by decide +kernel) (pa_cons (pv 1) pa_nil)) (pe_gint rfl T.MOST_KINDS) (nomark _))
        (pss_one ps_never)
        pss_nil)
      (pss_cons (ps_fld (pv 0) pe_dnewK rfl)
      (pss_cons (ps_for (passes_of rfl) rfl (pi_enumT (by rfl) T.enumerate (pa_cons (pv 1) pa_nil)) (pg_tup rfl (pgs_cons (pg_name (i := 2) sc.nd rfl (Or.inl rfl)) (pgs_cons (pg_tup rfl (pgs_cons (pg_name (i := 3) sc.nd rfl (Or.inl rfl)) (pgs_cons (pg_name (i := 4) sc.nd rfl (Or.inl rfl)) pgs_nil))) pgs_nil)))
        (pss_cons (ps_if (pt_not (pt_val (pe_cal c_is_name hr (pa_cons (pv 3) pa_nil))))
          (pss_one ps_never)
          pss_nil)
        (pss_cons (ps_if (PW.pt (pw_or (pt_cmpR op_lt (pv 4) pe_int (nomark _)) (pw_or1 (pt_cmpR op_gt (pv 4) (pe_gint rfl T.MOST_BRANCHES) (nomark _)))))
          (pss_one ps_never)
          pss_nil)
        (pss_cons (ps_if (pt_cmp (pc_din hu (pv 3) (pe_fld (pv 0) rfl)))
          (pss_one ps_never)
          pss_nil)
        (pss_one (ps_dput hu (pe_fld (pv 0) rfl) (pv 3) (pv 4) rfl))))))
      (pss_cons (ps_fld (pv 0) (pe_callTy call_tuple_of (by rfl) T.tuple (by decide +kernel) (pa_cons (pv 1) pa_nil)) rfl)
      (pss_cons (ps_fld (pv 0) (pe_callTy call_tuple_of (by rfl) T.tuple (by decide +kernel) (pa_cons (pe_lc (own := [("name", 3), ("branches", 4)]) (g := gTup K 2 (gCons (gName 3) (gCons (gName 4) (gNil)))) rfl sc.nd (pi_tup (pv 1)) (blkOk_by (N := N_init) (sc := defScope (clb 20 0)) (by decide +kernel)) (fun _ _ _ _ _ => (pg_tup rfl (pgs_cons (pg_name (i := 3) sc.nd rfl (Or.inl rfl)) (pgs_cons (pg_name (i := 4) sc.nd rfl (Or.inl rfl)) pgs_nil)))) (fun _ _ _ _ _ => pts_nil) (fun _ _ _ _ _ => (pv 3))) pa_nil)) rfl)
      (pss_cons (ps_fld (pv 0) (pe_dc (own := [("rank", 5), ("name", 3)]) (g := gTup K 2 (gCons (gName 5) (gCons (gName 3) (gNil)))) rfl sc.nd (pi_enumT (by rfl) T.enumerate (pa_cons (pe_fld (pv 0) rfl) pa_nil)) (blkOk_by (N := N_init) (sc := defScope (clb 20 0)) (by decide +kernel)) (fun _ _ _ _ _ => (pg_tup rfl (pgs_cons (pg_name (i := 5) sc.nd rfl (Or.inl rfl)) (pgs_cons (pg_name (i := 3) sc.nd rfl (Or.inl rfl)) pgs_nil)))) (fun _ _ _ _ _ => pts_nil) (fun _ _ _ _ _ => (pv 3)) (fun _ _ _ _ _ => (pv 5))) rfl)
      (pss_one (ps_if (pt_cmpR op_eq (pe_callB call_len_seq (by rfl) T.len (by decide +kernel) (pa_cons (pe_meth0 (pv 0) T.bed.cl mL FL (hr.mono (by decide)) BL .nil (E := E0) (fun pins σ H s e s' I h => passL pins σ H s e s' I h)) pa_nil)) pe_int (nomark _))
        (pss_one ps_never)
        pss_nil)))))))), ?_⟩
  have hpl := paired_len hpr
  have hle := ok.le
  -- known for good: all but the new object
  have k0 : Hs (L2.del H x) [(x, .ins (He.ga K "Bed") dx [])] H := (Hs.start H).take hx
  have hp0 := sqt_del hp hx
  have hpr0 : Paired (fun q (r : Sy.Row) => SqT K (L2.del H x) q [.str r.1, .int (r.2 : Nat)]) ps rows := Paired.mapP hpr fun _ _ z => sqt_del z hx
  generalize hB : L2.del H x = B at *
  refine ⟨_, rfl, p, _, rfl, .inr hp, _, _, rfl, rfl, _, rfl, ?_⟩
  rw [List.length_map, hpl, decide_eq_false (by omega)]
  refine iteF fun d hd => ?_
  have k1 := k0.new (o := .dK []) hd
  refine ⟨_, rfl, x, _, dx, _, rfl, k1.r1, T.bed.cl, T.bed.nA, by decide, ?_⟩
  have k2 := k1.w1 (o' := .ins (He.ga K "Bed") dx (putF "arities" (.ref d) []))
  refine ⟨_, rfl, p, _, rfl, Same.sqt k2.sub hp0, for_it walkE (fun i σ H' => ∃ t2 t3 t4, σ = [some (.ref x), some (.ref p), t2, t3, t4, none] ∧ Hs B [(d, .dK (arKV (rows.take i))), (x, .ins (He.ga K "Bed") dx [("arities", .ref d)])] H') ⟨none, none, none, rfl, k2⟩ (fun _ _ _ _ ⟨_, _, _, _, z⟩ => Same.sqt z.sub hp0) ?_ ?_⟩
  · rintro i v σ H1 H2 hi ⟨t2, t3, t4, rfl, hh⟩ ⟨T1, u1, u2, rfl, hT, rfl, e1, e2⟩
    cases e1
    rw [List.length_map, hpl] at hi
    obtain ⟨r, hr'⟩ : ∃ r, rows[i]? = some r := ⟨_, List.getElem?_eq_getElem hi⟩
    obtain ⟨q, eq, tq⟩ := paired_at hpr0 hr'
    have e2 : (ps.map V.ref)[i]? = some u2 := e2
    rw [List.getElem?_map, eq] at e2
    cases e2
    have hm := List.mem_of_getElem? hr'
    have hh := hh.lay (o := .tup [.int (i : Nat), .ref q]) hT
    have hnone : ∀ z ∈ rows.take i, z.1 ≠ r.1 := nodup_take ok.nd hr'
    have vn : valV (arKV (rows.take i)) (Sum.inr r.1 : Key) = none := by rw [valV_ar, lookup_none hnone]; rfl
    have hbr := ok.br r hm
    have hnm := ok.nm r hm
    have etk : rows.take (i + 1) = rows.take i ++ [r] := by rw [List.take_succ, hr']; rfl
    refine ⟨T1, _, rfl, SqT.of upd_same, rfl, _, _, rfl, _, _, rfl, q, _, rfl, Same.sqt hh.sub tq, rfl, _, _, rfl, _, _, rfl, rfl, rfl, ?_⟩
    refine ⟨_, rfl, r.1, rfl, Nat.le_trans (nx_le _ hnm) (by decide), _, rfl, ?_⟩
    rw [hnm]
    refine iteF ⟨_, rfl, _, _, rfl, rfl, _, rfl, ?_⟩
    rw [decide_eq_false (by omega)]
    refine iteF ⟨_, rfl, _, _, rfl, rfl, _, rfl, ?_⟩
    rw [decide_eq_false (by omega)]
    refine iteF ⟨_, rfl, _, rfl, x, _, dx, _, _, rfl, hh.r1, T.bed.cl, T.bed.nA, rfl, d, _, rfl, DGet.k (k := Sum.inr r.1) hh.r0, _, rfl, ?_⟩
    rw [vn]
    refine iteF ⟨_, rfl, _, rfl, x, _, dx, _, _, rfl, hh.r1, T.bed.cl, T.bed.nA, rfl, _, rfl, d, _, rfl, DPut.k (k := Sum.inr r.1) hh.r0 (by unfold arKV; rw [List.length_map, List.length_take, sizeLine_eq]; omega), ?_⟩
    refine ⟨_, _, _, rfl, ?_⟩
    rw [putK_new _ vn, etk]
    unfold arKV
    rw [List.map_append]
    exact hh.w0
  · rintro σ H1 ⟨t2, t3, t4, rfl, hh⟩
    rw [List.length_map, hpl, List.take_length] at hh
    -- rows
    refine ⟨_, rfl, p, _, rfl, .inr ⟨Same.sqt hh.sub hp0, ?_⟩⟩
    refine ⟨_, rfl, x, _, dx, _, rfl, hh.r1, T.bed.cl, T.bed.nR, (by show 1 < 1000; decide), ?_⟩
    have k3 := hh.w1 (o' := .ins (He.ga K "Bed") dx [("arities", .ref d), ("rows", .ref p)])
    -- kinds
    refine ⟨_, rfl, p, rfl, ⟨_, Same.sqt k3.sub hp0⟩, fun D hD => lc_it walk_tup (fun i H' => Hs B [(D, .lst ((rows.take i).map fun r => V.str r.1)), (d, .dK (arKV rows)), (x, .ins (He.ga K "Bed") dx [("arities", .ref d), ("rows", .ref p)])] H') (k3.new hD) (fun _ _ _ z => Same.sqt z.sub hp0) ?_ ?_⟩
    · rintro i v H1 _ hi hh ⟨rfl, hv⟩
      rw [List.length_map, hpl] at hi
      obtain ⟨r, hr'⟩ : ∃ r, rows[i]? = some r := ⟨_, List.getElem?_eq_getElem hi⟩
      obtain ⟨q, eq, tq⟩ := paired_at hpr0 hr'
      rw [List.getElem?_map, eq] at hv
      cases hv
      refine ⟨q, _, rfl, Same.sqt hh.sub tq, rfl, _, _, rfl, _, _, rfl, rfl, rfl, ?_⟩
      simp only [tYes, if_true]
      refine ⟨_, rfl, _, hh.r0, by rw [List.length_map, List.length_take, sizeLine_eq]; omega, ?_⟩
      rw [List.take_succ, hr', List.map_append]
      exact hh.w0
    intro H2 hh
    rw [List.length_map, hpl, List.take_length] at hh
    refine ⟨D, _, rfl, .inl ⟨SqL.of hh.r0, fun tK hK => ?_⟩⟩
    have k4 := (hh.drop).new (o := .tup (rows.map fun r => V.str r.1)) hK
    refine ⟨_, rfl, x, _, dx, _, rfl, k4.r2, T.bed.cl, T.bed.nK, (by show 2 < 1000; decide), ?_⟩
    have k5 := k4.w2 (o' := .ins (He.ga K "Bed") dx [("arities", .ref d), ("rows", .ref p), ("kinds", .ref tK)])
    -- ranks
    refine ⟨_, rfl, x, _, dx, _, _, rfl, k5.r2, T.bed.cl, T.bed.nK, rfl, tK, _, rfl, SqT.of k5.r0, fun R hR => dc_it walkE (fun i H' => Hs B [(R, .dK (rkKV 0 (rows.take i))), (tK, .tup (rows.map fun r => V.str r.1)), (d, .dK (arKV rows)), (x, .ins (He.ga K "Bed") dx [("arities", .ref d), ("rows", .ref p), ("kinds", .ref tK)])] H') (k5.new hR) (fun _ _ _ z => SqT.of z.r1) ?_ ?_⟩
    · rintro i v H1 H2 hi hh ⟨T1, u1, u2, rfl, hT, rfl, e1, e2⟩
      cases e1
      rw [List.length_map] at hi
      obtain ⟨r, hr'⟩ : ∃ r, rows[i]? = some r := ⟨_, List.getElem?_eq_getElem hi⟩
      have e2 : (rows.map fun r => V.str r.1)[i]? = some u2 := e2
      rw [List.getElem?_map, hr'] at e2
      cases e2
      have hh := hh.lay (o := .tup [.int (i : Nat), .str r.1]) hT
      have vn : valV (rkKV 0 (rows.take i)) (Sum.inr r.1 : Key) = none := by rw [valV_rk, rk_none (nodup_take ok.nd hr')]; rfl
      refine ⟨T1, _, rfl, SqT.of upd_same, rfl, _, _, rfl, _, _, rfl, rfl, rfl, ?_⟩
      simp only [tYes, if_true]
      refine ⟨_, rfl, _, rfl, _, Sum.inr r.1, rfl, hh.r0, by rw [rkKV_len, List.length_take, sizeLine_eq]; omega, ?_⟩
      rw [putK_new _ vn, List.take_succ, hr']
      show Hs B [(R, .dK (rkKV 0 (rows.take i ++ [r]))), _, _, _] _
      rw [rkKV_snoc, List.length_take, show 0 + min i rows.length = i by omega]
      exact hh.w0
    intro H3 hh
    rw [List.length_map, List.take_length] at hh
    refine ⟨_, rfl, x, _, dx, _, rfl, hh.r3, T.bed.cl, T.bed.nRk, (by show 3 < 1000; decide), ?_⟩
    generalize hH4 : upd H3 x (.ins (He.ga K "Bed") dx (putF "ranks" (.ref R) [("arities", .ref d), ("rows", .ref p), ("kinds", .ref tK)])) = H4
    have hx4 : H4 x = some (.ins (He.ga K "Bed") dx (bedF d p tK R)) := by rw [← hH4]; exact upd_same
    have nx : ∀ a o, a ≠ x → H3 a = some o → H4 a = some o := fun a o n e => by rw [← hH4, upd_ne n]; exact e
    have sB : Same B H4 := fun a o e => nx a o (fun z => by rw [z, ← hB, del_same] at e; cases e) (hh.sub a o e)
    have nK : tK ≠ x := ne_of hh.r1 hh.r3 (by intro z; cases z)
    have nd : d ≠ x := ne_of hh.r2 hh.r3 (by intro z; cases z)
    have nR : R ≠ x := ne_of hh.r0 hh.r3 (by intro z; cases z)
    have bed : BedAt K H4 x rows := ⟨dx, d, p, tK, R, ps, hx4, nx _ _ nd hh.r2, nx _ _ nR hh.r0, Same.sqt sB hp0, SqT.of (nx _ _ nK hh.r1), Paired.mapP hpr0 fun _ _ z => Same.sqt sB z⟩
    refine ⟨_, rfl, x, dx, _, rfl, hx4, rfl, x, rows, rfl, bed, by omega, fun H5 t s5 ht => ?_⟩
    refine ⟨t, _, rfl, .inr ht, rfl, _, rfl, ?_⟩
    have := leafs_pos ok.lf
    rw [List.length_map, decide_eq_false (fun z => by have := V.int.inj z; omega)]
    refine iteF (hq _ (fun a o n e => ?_) (bed.mono (Stay.of s5)))
    refine s5 _ _ (sB _ _ ?_)
    rw [← hB, del_ne n]
    exact e
end
end Sy
namespace Sy
open PySem PySem.Spec PyProof.Rows L2
section
variable {P : Program} {w : World} {K : PySem.W.Frag} {mg : Str → Option Value} {base : Heap}
structure CalR (P : Program) (w : World) (K : PySem.W.Frag) (mg : Str → Option Value) (base : Heap) (k : Nat) (x : Str) (sp : Sp) : Prop where
  fn : FnR P w K mg base (L2.CX P w) k (He.ga K x) sp
  at_ : mg x = some (.ref (He.ga K x))
  kp : PySem.W.keepIn K (.ref (He.ga K x)) = true
/-- f(..), f with a star -/
theorem pe_calR {X : Cx} {k j : Nat} {x : Str} {sp : Sp} {p pos : Pos} {e : Expr} {es : List Expr} {t : TA} {E : XK} (c : CalR X.prog X.w X.K X.mg X.base j x sp) (hr : Room k X.A) (tk : Takes X (fun cls d _ H => E cls d H)) (ha : PA X (e :: es) t) (hk : j ≤ k := by decide) (hg : Gl X x := by rfl) (hdb : (x == ("__debug__" : Str)) = false := by decide)
    (he : starEach (e :: es) X.env = (false, eval e X.env) :: starEach es X.env := by rfl) (hpl : (backTo pos (starEach es X.env)).any (·.1) = false := by rfl) : PE X (.Call (.Name x p) (e :: es) [] pos) (fun σ H Q => t σ H fun vs H1 => sp vs H1 Q E) := by
  constructor
  intro pins s σ H Q I h
  refine wpAny_Call_Name_kw (ld_glob I hg c.at_ ?_ hdb)
  refine PySem.W.callWith_K (h₀ := X.base) I.ok.mod.kin c.kp (thn (ha.run pos pins s σ H _ I h) fun us s1 ⟨vs, H1, I1, r, q⟩ => ⟨I1.kIn, ?_⟩) he hpl
  exact wpAny_call (run_fnR c.fn (hr.mono hk) (fun pins σ H s e s' I h => passAt tk σ pins H s e s' I h) I1 r q)
/-- a bed is made -/
theorem pe_bed {X : Cx} {k : Nat} {p pos : Pos} {e : Expr} {es : List Expr} {t : TA} (M : Mk X.K (He.ga X.K "Bed") (He.ma X.K (He.ga X.K "Bed") "__init__")) (at_ : X.mg "Bed" = some (.ref (He.ga X.K "Bed")))
    (F : FnR X.prog X.w X.K X.mg X.base (L2.CX X.prog X.w) 3 (He.ma X.K (He.ga X.K "Bed") "__init__") (spStar 1 (spInitB X.K))) (hr : Room k X.A) (ha : PA X (e :: es) t) (hk : 4 ≤ k := by decide) (hg : Gl X "Bed" := by rfl)
    (he : starEach (e :: es) X.env = (false, eval e X.env) :: starEach es X.env := by rfl) (hpl : (backTo pos (starEach es X.env)).any (·.1) = false := by rfl) : PE X (.Call (.Name "Bed" p) (e :: es) [] pos) (StX.tMakeR (He.ga X.K "Bed") (spStar 1 (spInitB X.K)) E0 t) :=
  StX.pe_makeR M F (hr.mono hk) hg at_ (fun pins σ H s e s' I h => passL pins σ H s e s' I h) ha (by decide) he hpl
/-- what making it asks -/
theorem bed_of {vs : List V} {H : Hp} {Q : VK} {ps : List Addr} {rows : List Sy.Row} (ev : vs = ps.map V.ref) (hp : Paired (fun q (r : Sy.Row) => SqT K H q [.str r.1, .int (r.2 : Nat)]) ps rows) (ok : RowsOk rows) (h : ∀ H' a, Same H H' → BedAt K H' a rows → Q (.ref a) H') :
    ∀ x dx, H x = Option.none → H dx = Option.none → dx ≠ x → spStar 1 (spInitB K) (V.ref x :: vs) (upd (upd H dx (.own x)) x (.ins (He.ga K "Bed") dx [])) (fun v H2 => v = .non ∧ Q (.ref x) H2) E0 := by
  intro x dx hx hdx ne
  subst ev
  have hpl := paired_len hp
  have hle := ok.le
  have s1 : Same H (upd H dx (.own x)) := up_same hdx
  have hx1 : (upd H dx (.own x)) x = none := by rw [upd_ne ne.symm]; exact hx
  have s2 : Same H (upd (upd H dx (.own x)) x (.ins (He.ga K "Bed") dx [])) := s1.trans (up_same hx1)
  refine ⟨[.ref x], ps.map V.ref, rfl, rfl, by rw [List.length_map, sizeLine_eq]; omega, fun p hp' => ?_⟩
  have s3 := s2.trans (up_same (o := .tup (ps.map V.ref)) hp')
  have nx : x ≠ p := fun z => by rw [← z, upd_same] at hp'; cases hp'
  refine ⟨x, p, dx, ps, rows, rfl, by rw [upd_ne nx]; exact upd_same, SqT.of upd_same, Paired.mapP hp fun _ _ z => Same.sqt s3 z, ok, fun H' keep bed => ⟨rfl, h H' x (fun b o e => keep b o (fun z => ?_) (s3 _ _ e)) bed⟩⟩
  rw [z, hx] at e
  cases e
end
end Sy
namespace Sy
open PySem PySem.Spec PyProof.Rows L2
/-- small letters -/
def Lt (c : Nat) : Prop := 97 ≤ c ∧ c ≤ 122
def Wd (x : Str) : Prop := 1 ≤ x.cps.toList.length ∧ x.cps.toList.length ≤ 8 ∧ ∀ c ∈ x.cps.toList, Lt c
theorem lt_uni (c : Nat) (h : Lt c) : Unicode.isAlpha c = true ∧ Unicode.isLower c = true ∧ Unicode.isUpper c = false ∧ Unicode.isTitle c = false := by
  have q : ∀ i : Fin 26, Unicode.isAlpha (97 + i.val) = true ∧ Unicode.isLower (97 + i.val) = true ∧ Unicode.isUpper (97 + i.val) = false ∧ Unicode.isTitle (97 + i.val) = false := by decide +kernel
  obtain ⟨h1, h2⟩ := h
  have := q ⟨c - 97, by omega⟩
  rw [show 97 + (c - 97) = c by omega] at this
  exact this
theorem len_tl (x : Str) : x.length = x.cps.toList.length := by
  show x.cps.size = _
  simp
theorem Wd.ok {x : Str} (h : Wd x) : nameOk x = true := by
  obtain ⟨h1, h2, h3⟩ := h
  have hl := len_tl x
  have a1 : Txt.isascii x = true := by
    unfold Txt.isascii
    rw [← Array.all_toList, List.all_eq_true]
    intro c hc
    have := (h3 c hc).2
    exact decide_eq_true (by omega)
  have a2 : Txt.isalpha x = true := by
    unfold Txt.isalpha
    rw [decide_eq_true (by omega), Bool.true_and, ← Array.all_toList, List.all_eq_true]
    exact fun c hc => (lt_uni c (h3 c hc)).1
  have a3 : Txt.islower x = true := by
    unfold Txt.islower
    rw [Bool.and_eq_true]
    constructor
    · rw [← Array.any_toList, List.any_eq_true]
      obtain ⟨c, hc⟩ : ∃ c, c ∈ x.cps.toList := List.exists_mem_of_length_pos (by omega)
      exact ⟨c, hc, (lt_uni c (h3 c hc)).2.1⟩
    · rw [← Array.any_toList, Bool.not_eq_true', List.any_eq_false]
      intro c hc
      rw [(lt_uni c (h3 c hc)).2.2.1, (lt_uni c (h3 c hc)).2.2.2]
      decide
  unfold nameOk
  rw [a1, a2, a3, decide_eq_true (by omega)]
  rfl
theorem join_one (cs : List Nat) : (Txt.join (Str.empty) (cs.map fun c => (⟨#[c]⟩ : Str))).cps.toList = cs := by
  rw [TL.join_eq]
  have h := TL.tl_join Str.empty (cs.map fun c => (⟨#[c]⟩ : Str))
  show TL.tl _ = cs
  rw [h]
  have : ∀ cs : List Nat, TL.joinL (TL.tl Str.empty) ((cs.map fun c => (⟨#[c]⟩ : Str)).map TL.tl) = cs := by
    intro cs
    induction cs with
    | nil => rfl
    | cons c cs ih =>
      cases cs with
      | nil => rfl
      | cons d ds =>
        show [c] ++ ([] ++ TL.joinL _ _) = _
        rw [List.nil_append]
        exact congrArg (fun l => [c] ++ l) ih
  exact this cs
/-- fewer than 26 words leave a letter -/
theorem nodup_le {α : Type} [DecidableEq α] : ∀ {l m : List α}, l.Nodup → (∀ x ∈ l, x ∈ m) → l.length ≤ m.length
  | [], _, _, _ => Nat.zero_le _
  | x :: l, m, h, s => by
    have hx := s x List.mem_cons_self
    have h2 := List.nodup_cons.mp h
    have := nodup_le (l := l) (m := m.erase x) h2.2 fun y hy => by
      rw [List.mem_erase_of_ne (fun z => h2.1 (by rw [← z]; exact hy))]
      exact s y (List.mem_cons_of_mem _ hy)
    rw [List.length_erase_of_mem hx] at this
    have := List.length_pos_of_mem hx
    rw [List.length_cons]
    omega
def abc : Str := "abcdefghijklmnopqrstuvwxyz"
theorem abc_at : ∀ i : Nat, i < 26 → abc.cps[i]? = some (97 + i) := by
  have q : ∀ i : Fin 26, abc.cps[i.val]? = some (97 + i.val) := by decide +kernel
  exact fun i h => q ⟨i, h⟩
theorem abc_len : abc.length = 26 := by decide +kernel
theorem abc_tl (i : Nat) (h : i < 26) : abc.cps.toList[i]? = some (97 + i) := by rw [Array.getElem?_toList]; exact abc_at i h
/-- the letters that are not taken -/
def freeL (tk : List Str) (n : Nat) : List Str := ((List.range n).map fun i => (⟨#[97 + i]⟩ : Str)).filter fun x => decide (x ∉ tk)
theorem freeL_pos (tk : List Str) (h : tk.length < 26) : ∃ x r, freeL tk 26 = x :: r ∧ x ∉ tk ∧ Wd x := by
  cases e : freeL tk 26 with
  | nil =>
    exfalso
    have all : ∀ x ∈ ((List.range 26).map fun i => (⟨#[97 + i]⟩ : Str)), x ∈ tk := fun x hx => by
      have := List.filter_eq_nil_iff.mp e x hx
      simpa using this
    have nd : ((List.range 26).map fun i => (⟨#[97 + i]⟩ : Str)).Nodup := by decide +kernel
    have := nodup_le nd all
    simp at this
    omega
  | cons x r =>
    have hm : x ∈ freeL tk 26 := by rw [e]; exact List.mem_cons_self
    unfold freeL at hm
    obtain ⟨h1, h2⟩ := List.mem_filter.mp hm
    obtain ⟨i, hi, rfl⟩ := List.mem_map.mp h1
    rw [List.mem_range] at hi
    refine ⟨_, r, rfl, of_decide_eq_true h2, ?_⟩
    refine ⟨Nat.le_refl _, by show 1 ≤ 8; decide, fun c hc => ?_⟩
    have : c = 97 + i := by simpa using hc
    subst this
    exact ⟨by omega, by omega⟩
theorem Wd.first {x y : Str} {c : Nat} (hx : Wd x) (hy : Wd y) (h8 : x.length < 8) (hc : y.cps.toList[0]? = some c) : Wd (x ++ ⟨#[c]⟩) := by
  obtain ⟨h1, h2, h3⟩ := hx
  have hl := len_tl x
  have e : (x ++ ⟨#[c]⟩ : Str).cps.toList = x.cps.toList ++ [c] := by
    show (x.cps ++ #[c]).toList = _
    simp
  have hcm := hy.2.2 c (List.mem_of_getElem? hc)
  refine ⟨?_, ?_, fun d hd => ?_⟩
  · rw [e, List.length_append]
    show 1 ≤ _ + 1
    omega
  · rw [e, List.length_append]
    show _ + 1 ≤ 8
    omega
  · rw [e] at hd
    rcases List.mem_append.mp hd with hd | hd
    · exact h3 d hd
    · rw [List.mem_singleton.mp hd]
      exact hcm
theorem Wd.cut {x : Str} (hx : Wd x) (h1 : 1 < x.length) : Wd (cutS x none (some (-1))) := by
  obtain ⟨h1', h2, h3⟩ := hx
  have hl := len_tl x
  have e : (cutS x none (some (-1))).cps.toList = x.cps.toList.take (x.length - 1) := by
    unfold cutS HT.sIx
    simp only [List.drop_zero, Nat.sub_zero]
    rw [if_pos (by decide), show ((-1 : Int) + (x.length : Int)).toNat = x.length - 1 by omega]
  refine ⟨?_, ?_, fun d hd => ?_⟩
  · rw [e, List.length_take]
    omega
  · rw [e, List.length_take]
    omega
  · rw [e] at hd
    exact h3 d (List.mem_of_mem_take hd)
end Sy
namespace Sy
open PySem PySem.Spec PyProof.Rows L2
/-! rules that name K; a word between two statements; filters -/
theorem pe_ixK (K : PySem.W.Frag) {X : Cx} {a b : Expr} {ta tb : TE} {pos : Pos} (hK : X.K = K) (ha : PE X a ta) (hb : PE X b tb) (hs : PlainIx b) : PE X (.Subscript a b pos) (tOp (rIxL K) ta tb) := by
  subst hK
  exact pe_ix ix_list ha hb hs
theorem ps_cut {X : Cx} {st : Stmt} {t : TS} (h : PS X st t) : PS X st (fun D σ H => ∃ J : L2.St → Hp → Prop, t { D with nx := J } σ H ∧ ∀ σ' H', J σ' H' → D.nx σ' H') := by
  refine ⟨fun pins s σ H D I hh => ?_⟩
  obtain ⟨J, h1, h2⟩ := hh
  refine thn (h.run pins s σ H { D with nx := J } I h1) fun f s1 q => ?_
  cases f with
  | next =>
    obtain ⟨σ', H', I', q⟩ := q
    exact ⟨σ', H', I', h2 _ _ q⟩
  | ret v => exact q
  | brk => exact q
  | cont => exact q
/-- [e for x in t if c], t a tuple; nothing else is made -/
theorem lc_filtT {K : PySem.W.Frag} {α : Type} {a : Addr} {xs : List α} {f out : α → V} {keep : α → Bool} {si : Nat} {tt : TT} {te : TE} {σ : L2.St} {H B : Hp} {L : List (Addr × HO)} {D : Addr} {Qd : Hp → Prop} (h : Hs B L H) (hD : H D = none)
    (ha : SqT K B a (xs.map f)) (hsz : xs.length ≤ 100000)
    (hs : ∀ x ∈ xs, ∀ H', Same B H' → ∀ (R1 : VK) (R2 : Hp → Prop), (keep x = true → R1 (out x) H') → (keep x = false → R2 H') → tt ((wipe σ [si]).set si (some (f x))) H' fun b H3 => if b = true then te ((wipe σ [si]).set si (some (f x))) H3 R1 else R2 H3)
    (hd : ∀ H', Hs B ((D, .lst ((xs.filter keep).map out)) :: L) H' → Qd H') : LcW (Itt K a) (gName si) tt te [si] σ H D Qd := by
  refine lc_tup (K := K) (a := a) (xs := xs.map f) (fun i H' => Hs B ((D, .lst (((xs.take i).filter keep).map out)) :: L) H') (h.new hD) (fun _ _ _ z => Same.sqt z.sub ha) ?_ ?_
  · rintro i v H2 hv hh
    obtain ⟨x, hx, rfl⟩ := map_at hv
    have hi := (List.getElem?_eq_some_iff.mp hx).1
    have et : xs.take (i + 1) = xs.take i ++ [x] := by rw [List.take_succ, hx]; rfl
    have hl : ((xs.take i).filter keep).length ≤ i := by
      have := List.length_filter_le keep (xs.take i)
      rw [List.length_take] at this
      omega
    refine ⟨(by show (σ.set si none |>.set si _).set si none = σ.set si none; rw [List.set_set, List.set_set]), ?_⟩
    refine hs x (List.mem_of_getElem? hx) H2 hh.sub _ _ (fun c => ?_) (fun c => ?_)
    · refine ⟨_, hh.r0, by rw [List.length_map, sizeLine_eq]; omega, ?_⟩
      rw [et, List.filter_append, List.map_append]
      have : [x].filter keep = [x] := by simp [c]
      rw [this]
      exact hh.w0
    · rw [et, List.filter_append]
      have : [x].filter keep = [] := by simp [c]
      rw [this, List.append_nil]
      exact hh
  · intro H' hh
    rw [List.length_map, List.take_length] at hh
    exact hd H' hh
/-- [e for k in range(n) if c]; nothing else is made -/
theorem lc_filtR {out : Nat → V} {keep : Nat → Bool} {si n : Nat} {tt : TT} {te : TE} {σ : L2.St} {H B : Hp} {L : List (Addr × HO)} {D : Addr} {Qd : Hp → Prop} (h : Hs B L H) (hD : H D = none) (hsz : n ≤ 100000)
    (hs : ∀ k < n, ∀ H', Same B H' → ∀ (R1 : VK) (R2 : Hp → Prop), (keep k = true → R1 (out k) H') → (keep k = false → R2 H') → tt ((wipe σ [si]).set si (some (.int (k : Nat)))) H' fun b H3 => if b = true then te ((wipe σ [si]).set si (some (.int (k : Nat)))) H3 R1 else R2 H3)
    (hd : ∀ H', Hs B ((D, .lst (((List.range n).filter keep).map out)) :: L) H' → Qd H') : LcW (Itr 0 n) (gName si) tt te [si] σ H D Qd := by
  refine lc_it (walk_range (lo := 0) (n := n)) (fun i H' => Hs B ((D, .lst (((List.range i).filter keep).map out)) :: L) H') (h.new hD) (fun _ _ _ _ => trivial) ?_ hd
  rintro i v _ H1 hi hh ⟨rfl, rfl⟩
  simp only [Int.zero_add]
  have hl : ((List.range i).filter keep).length ≤ i := by
    have := List.length_filter_le keep (List.range i)
    rw [List.length_range] at this
    exact this
  refine ⟨(by show (σ.set si none |>.set si _).set si none = σ.set si none; rw [List.set_set, List.set_set]), ?_⟩
  refine hs i hi H1 hh.sub _ _ (fun c => ?_) (fun c => ?_)
  · refine ⟨_, hh.r0, by rw [List.length_map, sizeLine_eq]; omega, ?_⟩
    rw [List.range_succ, List.filter_append, List.map_append]
    have : [i].filter keep = [i] := by simp [c]
    rw [this]
    exact hh.w0
  · rw [List.range_succ, List.filter_append]
    have : [i].filter keep = [] := by simp [c]
    rw [this, List.append_nil]
    exact hh
/-- [e for x in xs if t], xs a list that stays; nothing else is made -/
theorem lc_filt {K : PySem.W.Frag} {α : Type} {a : Addr} {xs : List α} {f out : α → V} {keep : α → Bool} {si : Nat} {tt : TT} {te : TE} {σ : L2.St} {H B : Hp} {L : List (Addr × HO)} {D : Addr} {Qd : Hp → Prop} (h : Hs B L H) (hD : H D = none)
    (ha : ∀ H' o, Hs B ((D, o) :: L) H' → H' a = some (.lst (xs.map f))) (hsz : xs.length ≤ 100000)
    (hs : ∀ x ∈ xs, ∀ H', Same B H' → ∀ (R1 : VK) (R2 : Hp → Prop), (keep x = true → R1 (out x) H') → (keep x = false → R2 H') → tt ((wipe σ [si]).set si (some (f x))) H' fun b H3 => if b = true then te ((wipe σ [si]).set si (some (f x))) H3 R1 else R2 H3)
    (hd : ∀ H', Hs B ((D, .lst ((xs.filter keep).map out)) :: L) H' → Qd H') : LcW (Itl K a) (gName si) tt te [si] σ H D Qd := by
  refine lc_it (walk_list (K := K) (a := a) (xs := xs.map f)) (fun i H' => Hs B ((D, .lst (((xs.take i).filter keep).map out)) :: L) H') (h.new hD) (fun _ _ _ z => SqL.of (ha _ _ z)) ?_ ?_
  · rintro i v _ H2 hi hh ⟨rfl, hv⟩
    obtain ⟨x, hx, rfl⟩ := map_at hv
    rw [List.length_map] at hi
    have et : xs.take (i + 1) = xs.take i ++ [x] := by rw [List.take_succ, hx]; rfl
    have hl : ((xs.take i).filter keep).length ≤ i := by
      have := List.length_filter_le keep (xs.take i)
      rw [List.length_take] at this
      omega
    refine ⟨(by show (σ.set si none |>.set si _).set si none = σ.set si none; rw [List.set_set, List.set_set]), ?_⟩
    refine hs x (List.mem_of_getElem? hx) H2 hh.sub _ _ (fun c => ?_) (fun c => ?_)
    · refine ⟨_, hh.r0, by rw [List.length_map, sizeLine_eq]; omega, ?_⟩
      rw [et, List.filter_append, List.map_append]
      have : [x].filter keep = [x] := by simp [c]
      rw [this]
      exact hh.w0
    · rw [et, List.filter_append]
      have : [x].filter keep = [] := by simp [c]
      rw [this, List.append_nil]
      exact hh
  · intro H' hh
    rw [List.length_map, List.take_length] at hh
    exact hd H' hh
/-- .. without a test -/
theorem lc_maps {K : PySem.W.Frag} {α : Type} {a : Addr} {xs : List α} {f out : α → V} {si : Nat} {te : TE} {σ : L2.St} {H B : Hp} {L : List (Addr × HO)} {D : Addr} {Qd : Hp → Prop} (h : Hs B L H) (hD : H D = none)
    (ha : ∀ H' o, Hs B ((D, o) :: L) H' → H' a = some (.lst (xs.map f))) (hsz : xs.length ≤ 100000)
    (hs : ∀ x ∈ xs, ∀ H', Same B H' → ∀ (R1 : VK), R1 (out x) H' → te ((wipe σ [si]).set si (some (f x))) H' R1)
    (hd : ∀ H', Hs B ((D, .lst (xs.map out)) :: L) H' → Qd H') : LcW (Itl K a) (gName si) tYes te [si] σ H D Qd := by
  refine lc_filt (keep := fun _ => true) (out := out) h hD ha hsz (fun x hx H' s R1 R2 k1 _ => ?_) (fun H' hh => ?_)
  · simp only [tYes, if_true]
    exact hs x hx H' s R1 (k1 rfl)
  · rw [List.filter_eq_self.mpr (fun _ _ => rfl)] at hh
    exact hd H' hh
end Sy
namespace Sy
open PySem PySem.Spec PyProof.Rows L2
section
variable {K : PySem.W.Frag} {H : Hp} {a b : Addr} {xs ys : List V} {Q : VK}
/-- a tuple's slice, whether it is the whole or not -/
theorem sl_any {lo hi : Option Int} {zs : List V} (hz : cutV xs lo hi = zs) (h : SqT K H a xs) (q : ∀ p H', Same H H' → SqT K H' p zs → Q (.ref p) H') : rSlA K (.ref a) lo hi H Q := by
  subst hz
  refine ⟨a, xs, rfl, h, fun c => q _ _ (Same.refl H) ?_, fun _ p hp => q _ _ (up_same hp) (SqT.of upd_same)⟩
  unfold cutV
  rw [c.1, c.2, List.drop_zero, Nat.sub_zero, List.take_length]
  exact h
theorem cat_any (h : SqT K H a xs) (g : SqT K H b ys) (hs : xs.length + ys.length ≤ 1000000) (q : ∀ p H', Same H H' → SqT K H' p (xs ++ ys) → Q (.ref p) H') : rCatA K (.ref a) (.ref b) H Q := by
  refine ⟨a, b, xs, ys, rfl, rfl, h, g, by rw [sizeLine_eq]; omega, fun c => q _ _ (Same.refl H) (by rw [c]; exact g), fun _ c => q _ _ (Same.refl H) (by rw [c, List.append_nil]; exact h), fun _ _ p hp => q _ _ (up_same hp) (SqT.of upd_same)⟩
theorem cut_take {i : Nat} (h : i ≤ xs.length) : cutV xs none (some (i : Int)) = xs.take i := by
  unfold cutV HT.sIx
  simp only [List.drop_zero, Nat.sub_zero]
  rw [if_neg (by omega), show min (i : Int).toNat xs.length = i by omega]
theorem cut_drop {i : Nat} (h : i ≤ xs.length) : cutV xs (some (i : Int)) none = xs.drop i := by
  unfold cutV HT.sIx
  simp only []
  rw [if_neg (by omega), show min (i : Int).toNat xs.length = i by omega, List.take_of_length_le]
  rw [List.length_drop]
  exact Nat.le_refl _
theorem cut_mid {i j : Nat} (h : i ≤ j) (g : j ≤ xs.length) : cutV xs (some (i : Int)) (some (j : Int)) = (xs.drop i).take (j - i) := by
  unfold cutV HT.sIx
  simp only []
  rw [if_neg (by omega), if_neg (by omega), show min (i : Int).toNat xs.length = i by omega, show min (j : Int).toNat xs.length = j by omega]
end
end Sy
/-! the law's bag: _law_bag, _law_pick -/
namespace Sy
open PySem PySem.Spec PyProof.Rows L2
/-- its cells, its counters -/
def bagO (c : Addr) (x : Int × Int × Int) : HO := .lst [.ref c, .int x.1, .int x.2.1, .int x.2.2]
def Cells (c : Addr) (H : Hp) : Prop := ∃ zs : List Int, H c = some (.lst (zs.map V.int))
def Bag (c g : Addr) (H : Hp) : Prop := (∃ x, H g = some (bagO c x)) ∧ c ≠ g ∧ Cells c H
/-- the bag at g has other counters, nothing else has changed -/
def Dr (c g : Addr) (H H' : Hp) : Prop := ∃ x, Chg g (bagO c x) H H'
theorem Cells.mono {c : Addr} {H H' : Hp} (h : Cells c H) (s : Same H H') : Cells c H' := by
  obtain ⟨zs, e⟩ := h
  exact ⟨zs, s _ _ e⟩
theorem Chg.upd {g : Addr} {o o' : HO} {H H1 : Hp} (c : Chg g o H H1) : Chg g o' H (L2.upd H1 g o') := ⟨upd_same, fun a w n e => by rw [upd_ne n]; exact c.2 a w n e⟩
theorem Chg.refl {g : Addr} {o : HO} {H : Hp} (h : H g = some o) : Chg g o H H := ⟨h, fun _ _ _ e => e⟩
theorem Bag.dr {c g : Addr} {H H' : Hp} (b : Bag c g H) (d : Dr c g H H') : Bag c g H' := by
  obtain ⟨_, ne, zs, e⟩ := b
  obtain ⟨x, cg⟩ := d
  exact ⟨⟨x, cg.1⟩, ne, zs, cg.2 _ _ ne e⟩
theorem Dr.trans {c g : Addr} {H H1 H2 : Hp} (a : Dr c g H H1) (b : Dr c g H1 H2) : Dr c g H H2 := by
  obtain ⟨x, h1⟩ := a
  obtain ⟨y, h2⟩ := b
  exact ⟨y, h1.trans h2⟩
section
variable {B H H' : Hp} {L : List (Addr × HO)} {c g : Addr} {o : HO} {x : Int × Int × Int} {z : Addr × HO}
/-- behind a draw: what is known for good, what was not there -/
theorem Hs.drN (h : Hs B ((g, o) :: L) H) (al : AllL L) (d : Dr c g H H') : ∃ x B', Same B B' ∧ Hs B' ((g, bagO c x) :: L) H' ∧ Stay H' B' ∧ ∀ q w, H q = none → H' q = some w → B' q = some w := by
  obtain ⟨x, cg⟩ := d
  have e := h.chg cg
  refine ⟨x, _, e.1, e.2, stay_cutC h (AllL.cons al) cg, fun q w n e2 => ?_⟩
  rw [cut_at]
  · exact e2
  · exact h.out_new n
theorem Hs.dr0 (h : Hs B ((g, o) :: L) H) (d : Dr c g H H') : ∃ x B', Same B B' ∧ Hs B' ((g, bagO c x) :: L) H' := by
  obtain ⟨x, cg⟩ := d
  have e := h.chg cg
  exact ⟨x, _, e.1, e.2⟩
theorem Hs.dr1 (h : Hs B (z :: (g, o) :: L) H) (d : Dr c g H H') : ∃ x B', Same B B' ∧ Hs B' (z :: (g, bagO c x) :: L) H' := by
  obtain ⟨x, B', s, h'⟩ := h.swap.dr0 d
  exact ⟨x, B', s, h'.swap⟩
theorem Hs.bag (h : Hs B ((g, bagO c x) :: L) H) (bc : Cells c B) : Bag c g H := by
  refine ⟨⟨x, h.r0⟩, ?_, bc.mono h.sub⟩
  rintro rfl
  obtain ⟨zs, e⟩ := bc
  have := h.ap _ List.mem_cons_self
  rw [e] at this
  cases this
theorem Hs.bag1 (h : Hs B (z :: (g, bagO c x) :: L) H) (bc : Cells c B) : Bag c g H := h.swap.bag bc
theorem Bag.take (h : Bag c g H) : ∃ x, Hs (L2.del H g) [(g, bagO c x)] H ∧ Cells c (L2.del H g) := by
  obtain ⟨⟨x, e⟩, ne, zs, e2⟩ := h
  exact ⟨x, (Hs.start H).take e, zs, by rw [del_ne ne]; exact e2⟩
theorem Hs.isDr {B0 : Hp} (h : Hs B ((g, bagO c x) :: L) H') (s : Same (L2.del B0 g) B) : Dr c g B0 H' := ⟨x, h.isChg s⟩
end
theorem lay_intL (l : List Int) : SeqAt.shaped (.list (l.map PyData.int)) = true := by
  have h : ∀ l : List Int, PyData.canLayAll0 (l.map PyData.int) = true ∧ PyData.depthAll (l.map PyData.int) ≤ 1 := by
    intro l
    induction l with
    | nil => exact ⟨rfl, Nat.zero_le _⟩
    | cons x l ih =>
      rw [List.map_cons]
      simp only [PyData.canLayAll0, PyData.depthAll, PyData.canLay0, PyData.depth, Bool.true_and]
      exact ⟨ih.1, by omega⟩
  unfold SeqAt.shaped
  simp only [PyData.canLay0, PyData.depth]
  rw [(h l).1, Bool.true_and]
  exact decide_eq_true (by have := (h l).2; omega)
theorem dp_ints {K : PySem.W.Frag} {H : Hp} : ∀ l : List Int, DpAll K H (l.map V.int) (l.map PyData.int)
  | [] => .nil
  | x :: l => .cons (.int x) (dp_ints l)
section
variable {P : Program} {w : World} {K : PySem.W.Frag} {mg : Str → Option Value} {base : Heap}
def spBag (K : PySem.W.Frag) : Sp := fun vs H Q _ => ∃ (s : Addr) (zs : List Int), vs = [.ref s] ∧ SqL K H s (zs.map V.int) ∧ ∀ H' c g, Same H H' → Bag c g H' → H g = none → Q (.ref g) H'
abbrev N_bag : List Str := ["_law_script", "_law_cell"]
theorem sc_bag : FnScope N_bag ["_law_script"] (defScope (top 39)) := ⟨rfl, rfl, rfl, by decide +kernel, rfl, by decide +kernel, by decide +kernel⟩
theorem k_bag (T : Txt K mg) (F : DF K mg "_law_bag" 39) : Cal P w K mg base 1 "_law_bag" ["_law_script"] (spBag K) := by
  refine cal_of F.1 F.2 sc_bag (fun _ _ _ _ _ _ us e => match us, e with | [_], _ => rfl) (fun vs H Q E s => by obtain ⟨_, _, rfl, _⟩ := s; rfl) ?_
  intro cdv A outer s H vs Q E hr h
  obtain ⟨sa, zs, rfl, hs, hq⟩ := h
  have sc := sc_bag
  refine ⟨_, (pss_one (ps_ret (pe_lst (pa_cons (pe_lc (own := [("_law_cell", 1)]) (g := gName 1) rfl sc.nd (pi_list (pe_slice sl_list (pv 0) po_none (po_some pe_int))) (blkOk_by (N := N_bag) (sc := defScope (top 39)) (by decide +kernel)) (fun _ _ _ _ _ => (pg_name (i := 1) sc.nd rfl (Or.inl rfl))) (fun _ _ _ _ _ => pts_nil) (fun _ _ _ _ _ => (pe_callTy call_int1 (by rfl) T.int (by decide +kernel) (pa_cons (pv 1) pa_nil)))) (pa_cons pe_int (pa_cons pe_int (pa_cons pe_int pa_nil))))))), ?_⟩
  refine ⟨_, rfl, _, rfl, sa, _, rfl, hs, fun p hp => ?_⟩
  have hc : cutV (zs.map V.int) none (some ((63 : Nat) : Int)) = (zs.take 63).map V.int := by
    by_cases c : 63 ≤ zs.length
    · rw [cut_take (by rw [List.length_map]; exact c), List.map_take]
    · unfold cutV HT.sIx
      simp only [List.drop_zero, Nat.sub_zero]
      rw [if_neg (by omega), List.take_of_length_le, List.take_of_length_le (by omega)]
      rw [List.length_map]
      show zs.length ≤ min ((63 : Nat) : Int).toNat zs.length
      have : ((63 : Nat) : Int).toNat = 63 := rfl
      omega
  dsimp only [tNoPart]
  have hc : cutV (zs.map V.int) none (some (63 : Int)) = (zs.take 63).map V.int := hc
  rw [hc]
  have h1 := (Hs.start H).tup (o := .lst ((zs.take 63).map V.int)) hp
  have e1 : upd H p (.lst ((zs.take 63).map V.int)) p = some (.lst ((zs.take 63).map V.int)) := upd_same
  have s1 := up_same (o := .lst ((zs.take 63).map V.int)) hp
  generalize upd H p (.lst ((zs.take 63).map V.int)) = B at *
  refine ⟨p, rfl, ⟨_, SqL.of e1⟩, fun D hD => lc_it walk_list (fun i H' => Hs B [(D, .lst (((zs.take 63).take i).map V.int))] H') (h1.new hD) (fun _ _ _ z => SqL.of (z.sub _ _ e1)) ?_ ?_⟩
  · rintro i v H2 _ hi hh ⟨rfl, hv⟩
    obtain ⟨z, hz, rfl⟩ := map_at hv
    refine ⟨rfl, ?_⟩
    simp only [tYes, if_true]
    refine ⟨_, rfl, .inl ⟨z, rfl, _, hh.r0, by rw [List.length_map, List.length_take, List.length_take, sizeLine_eq]; omega, ?_⟩⟩
    rw [List.take_succ, hz, List.map_append]
    exact hh.w0
  · rintro H2 hh
    rw [List.length_map, List.take_length] at hh
    refine ⟨(by show 4 ≤ sizeLine; decide), fun g hg => ?_⟩
    have s3 := up_same (o := .lst [.ref D, .int 0, .int 0, .int 0]) hg
    have gD : D ≠ g := hh.ne_of_new hg _ List.mem_cons_self
    refine hq _ D g (s1.trans (hh.sub.trans s3)) ⟨⟨(0, 0, 0), upd_same⟩, gD, _, s3 _ _ hh.r0⟩ (s1.free (hh.sub.free hg))
/-! _law_pick -/
def spPick : Sp := fun vs H Q _ => ∃ (c g : Addr) (n : Nat), vs = [.ref g, .int (n : Nat)] ∧ Bag c g H ∧ 1 ≤ n ∧ n < 1000000000 ∧ ∀ (r : Nat) H', r < n → Dr c g H H' → Q (.int (r : Nat)) H'
abbrev N_pick : List Str := ["_law_bag_here", "_law_limit", "_law_cells", "_law_cell", "_law_once", "_law_twice", "_law_digit"]
theorem sc_pick : FnScope N_pick ["_law_bag_here", "_law_limit"] (defScope (top 40)) := ⟨rfl, rfl, rfl, by decide +kernel, rfl, by decide +kernel, by decide +kernel⟩
theorem bat0 {c : Addr} {a b d : Int} : atI [V.ref c, .int a, .int b, .int d] (0 : Int) = some (.ref c) := atI_nat (j := 0) rfl
theorem bat1 {c : Addr} {a b d : Int} : atI [V.ref c, .int a, .int b, .int d] (1 : Int) = some (.int a) := atI_nat (j := 1) rfl
theorem bat2 {c : Addr} {a b d : Int} : atI [V.ref c, .int a, .int b, .int d] (2 : Int) = some (.int b) := atI_nat (j := 2) rfl
theorem bat3 {c : Addr} {a b d : Int} : atI [V.ref c, .int a, .int b, .int d] (3 : Int) = some (.int d) := atI_nat (j := 3) rfl
theorem bix {v0 v1 v2 v3 : V} (j : Nat) (h : j < 4) : ixN [v0, v1, v2, v3].length (j : Int) = some j := ixN_nat h
theorem mod_nat {n : Nat} (hn : 1 ≤ n) (x : Int) : ∃ k : Nat, x % (n : Int) = (k : Int) ∧ k < n := by
  have h1 := Int.emod_nonneg x (show (n : Int) ≠ 0 by omega)
  have h2 := Int.emod_lt_of_pos x (show (0 : Int) < n by omega)
  exact ⟨(x % (n : Int)).toNat, by omega, by omega⟩
theorem k_pick (T : Txt K mg) (F : DF K mg "_law_pick" 40) : Cal P w K mg base 1 "_law_pick" ["_law_bag_here", "_law_limit"] spPick := by
  refine cal_of F.1 F.2 sc_pick (fun _ _ _ _ _ _ us e => match us, e with | [_, _], _ => rfl) (fun vs H Q E s => by obtain ⟨_, _, _, rfl, _⟩ := s; rfl) ?_
  intro cdv A outer s H vs Q E hr h
  obtain ⟨c, g, n, rfl, ⟨⟨⟨x1, x2, x3⟩, hg⟩, ne, zs, hc⟩, hn, hn2, hq⟩ := h
  have sc := sc_pick
  refine ⟨_, (pss_cons (ps_asg (pe_op op_add (pe_ix ix_list (pv 0) pe_int (fun _ _ => rfl)) pe_int) (pg_sub (pv 0) pe_int set_list))
      (pss_cons (ps_set (i := 2) sc.nd rfl (Or.inl rfl) (pe_ix ix_list (pv 0) pe_int (fun _ _ => rfl)))
      (pss_cons (ps_cut (ps_if (pt_cmpR op_lt (pe_ix ix_list (pv 0) pe_int (fun _ _ => rfl)) pe_int (nomark _))
        (pss_cons (ps_set (i := 3) sc.nd rfl (Or.inl rfl) pe_int)
        (pss_cons (ps_cut (ps_if (pt_cmpR (op_neD hr.units) (pv 2) (pe_lst pa_nil) (nomark _))
          (pss_one (ps_set (i := 3) sc.nd rfl (Or.inl rfl) (pe_ix ix_list (pv 2) (pe_op op_mod (pe_callTy call_int1 (by rfl) T.int (by decide +kernel) (pa_cons (pe_ix ix_list (pv 0) pe_int (fun _ _ => rfl)) pa_nil)) (pe_callB call_len_seq (by rfl) T.len (by decide +kernel) (pa_cons (pv 2) pa_nil))) (fun _ _ => rfl))))
          pss_nil))
        (pss_cons (ps_cut (ps_if (PW.pt (pw_and (pt_cmpR op_ge (pv 3) (pe_op op_pow pe_int pe_int) (nomark _)) (pw_and1 (pt_cmpR op_lt (pe_ix ix_list (pv 0) pe_int (fun _ _ => rfl)) (pe_callB call_len_seq (by rfl) T.len (by decide +kernel) (pa_cons (pv 2) pa_nil)) (nomark _)))))
          (pss_one (ps_asg (pe_op op_sub (pv 3) (pe_op op_pow pe_int pe_int)) (pg_sub (pv 0) pe_int set_list)))
          pss_nil))
        (pss_cons (ps_asg (pe_op op_add (pe_ix ix_list (pv 0) pe_int (fun _ _ => rfl)) pe_int) (pg_sub (pv 0) pe_int set_list))
        (pss_one (ps_if (pt_cmpR op_lt (pe_ix ix_list (pv 0) pe_int (fun _ _ => rfl)) pe_int (nomark _))
          (pss_cons (ps_set (i := 4) sc.nd rfl (Or.inl rfl) (pe_op op_mod (pe_callTy call_int1 (by rfl) T.int (by decide +kernel) (pa_cons (pe_op op_add (pe_op op_add (pe_op op_mul (pv 3) pe_int) (pe_op op_mul (pe_ix ix_list (pv 0) pe_int (fun _ _ => rfl)) pe_int)) pe_int) pa_nil)) pe_int))
          (pss_cons (ps_set (i := 5) sc.nd rfl (Or.inl rfl) (pe_op op_mod (pe_callTy call_int1 (by rfl) T.int (by decide +kernel) (pa_cons (pe_op op_add (pe_op op_mul (pv 4) (pe_op op_add (pe_op op_mod (pe_callTy call_int1 (by rfl) T.int (by decide +kernel) (pa_cons (pv 4) pa_nil)) pe_int) (pe_ix ix_list (pv 0) pe_int (fun _ _ => rfl)))) (pe_op op_mul pe_int (pe_ix ix_list (pv 0) pe_int (fun _ _ => rfl)))) pa_nil)) pe_int))
          (pss_one (ps_ret (pe_op op_mod (pe_callTy call_int1 (by rfl) T.int (by decide +kernel) (pa_cons (pe_op op_fdiv (pv 5) pe_int) pa_nil)) (pv 1))))))
          pss_nil))))))
        pss_nil))
      (pss_cons (ps_set (i := 6) sc.nd rfl (Or.inl rfl) (pe_op op_mod (pe_callTy call_int1 (by rfl) T.int (by decide +kernel) (pa_cons (pe_ix ix_list (pv 0) pe_int (fun _ _ => rfl)) pa_nil)) (pv 1)))
      (pss_cons (ps_asg (pe_op op_fdiv (pe_ix ix_list (pv 0) pe_int (fun _ _ => rfl)) (pv 1)) (pg_sub (pv 0) pe_int set_list))
      (pss_one (ps_ret (pv 6)))))))), ?_⟩
  have S := SqL.of (K := K) hg
  refine ⟨_, rfl, g, _, _, _, rfl, rfl, S, bat3, _, _, rfl, rfl, _, rfl, g, _, _, 3, rfl, rfl, hg, bix 3 (by decide), ?_⟩
  have c1 : Chg g (bagO c (x1, x2, x3 + 1)) H (L2.upd H g (bagO c (x1, x2, x3 + 1))) := (Chg.refl hg).upd
  refine ⟨_, rfl, g, _, _, _, rfl, rfl, SqL.of c1.1, bat0, ?_⟩
  have hc1 : (L2.upd H g (bagO c (x1, x2, x3 + 1))) c = some (.lst (zs.map V.int)) := c1.2 _ _ ne hc
  refine ⟨fun σ' H' => ∃ (t3 t4 t5 : Option V) (y : Int × Int × Int), σ' = [some (.ref g), some (.int (n : Nat)), some (.ref c), t3, t4, t5, none] ∧ Chg g (bagO c y) H H', ⟨_, rfl, g, _, _, _, rfl, rfl, SqL.of c1.1, bat2, _, _, rfl, rfl, _, rfl, if_dec (fun q1 => ?_) (fun q1 => ⟨none, none, none, _, rfl, c1⟩)⟩, ?_⟩
  · refine ⟨fun σ' H' => ∃ (y : Int), σ' = [some (.ref g), some (.int (n : Nat)), some (.ref c), some (.int y), none, none, none] ∧ Same (L2.upd H g (bagO c (x1, x2, x3 + 1))) H', ⟨_, rfl, (by show 0 ≤ sizeLine; decide), fun p hp => ?_⟩, ?_⟩
    · have s2 := up_same (o := .lst []) hp
      refine ⟨.list (zs.map PyData.int), .list [], .lst (SqL.of (s2 _ _ hc1)) (dp_ints zs), .lst (SqL.of upd_same) .nil, lay_intL zs, lay_intL [], _, rfl, ?_⟩
      cases zs with
      | nil => exact iteF ⟨_, rfl, s2⟩
      | cons z0 zr =>
        refine iteT ?_
        have hl : (0 : Int) < (((z0 :: zr).map V.int).length : Nat) := by rw [List.length_map]; simp only [List.length_cons]; omega
        have hm := Int.emod_nonneg x1 (show (((z0 :: zr).map V.int).length : Int) ≠ 0 by omega)
        have hm2 := Int.emod_lt_of_pos x1 hl
        obtain ⟨j, hj, hj2⟩ : ∃ j : Nat, x1 % ((((z0 :: zr).map V.int).length : Nat) : Int) = (j : Int) ∧ j < ((z0 :: zr).map V.int).length := ⟨(x1 % ((((z0 :: zr).map V.int).length : Nat) : Int)).toNat, by omega, by omega⟩
        obtain ⟨zz, ez⟩ : ∃ zz, (z0 :: zr)[j]? = some zz := ⟨_, List.getElem?_eq_getElem (by rw [List.length_map] at hj2; exact hj2)⟩
        refine ⟨_, rfl, _, rfl, g, _, _, _, rfl, rfl, SqL.of (s2 _ _ c1.1), bat1, .inl ⟨x1, rfl, _, rfl, c, _, rfl, .inl (SqL.of (s2 _ _ hc1)), _, _, rfl, rfl, hl, c, _, _, .int zz, rfl, rfl, SqL.of (s2 _ _ hc1), ?_, _, rfl, s2⟩⟩
        rw [hj]
        exact atI_nat (by rw [List.getElem?_map, ez]; rfl)
    · rintro _ H2 ⟨y, rfl, s2⟩
      have c2 : Chg g (bagO c (x1, x2, x3 + 1)) H H2 := ⟨s2 _ _ c1.1, fun a w m e => s2 _ _ (c1.2 a w m e)⟩
      have hc2 := s2 _ _ hc1
      refine ⟨fun σ' H' => ∃ (b : Int), σ' = [some (.ref g), some (.int (n : Nat)), some (.ref c), some (.int y), none, none, none] ∧ Chg g (bagO c (x1, b, x3 + 1)) H H', ⟨_, rfl, _, _, rfl, rfl, ⟨by decide, by decide, by decide⟩, _, _, rfl, rfl, _, rfl, if_dec (fun q2 => ?_) (fun q2 => ⟨_, rfl, c2⟩)⟩, ?_⟩
      · refine ⟨_, rfl, g, _, _, _, rfl, rfl, SqL.of c2.1, bat1, _, rfl, c, _, rfl, .inl (SqL.of hc2), _, _, rfl, rfl, _, rfl, if_dec (fun q3 => ?_) (fun q3 => ⟨_, rfl, c2⟩)⟩
        exact ⟨_, rfl, _, _, rfl, rfl, ⟨by decide, by decide, by decide⟩, _, _, rfl, rfl, _, rfl, g, _, _, 2, rfl, rfl, c2.1, bix 2 (by decide), y - 10 ^ (Int.toNat 18), rfl, c2.upd⟩
      · rintro _ H3 ⟨b, rfl, c3⟩
        refine ⟨_, rfl, g, _, _, _, rfl, rfl, SqL.of c3.1, bat1, _, _, rfl, rfl, _, rfl, g, _, _, 1, rfl, rfl, c3.1, bix 1 (by decide), ?_⟩
        have c4 : Chg g (bagO c (x1 + 1, b, x3 + 1)) H (L2.upd H3 g (bagO c (x1 + 1, b, x3 + 1))) := c3.upd
        have S4 := SqL.of (K := K) c4.1
        refine ⟨_, rfl, g, _, _, _, rfl, rfl, S4, bat2, _, _, rfl, rfl, _, rfl, if_dec (fun q4 => ?_) (fun q4 => ⟨_, none, none, _, rfl, c4⟩)⟩
        refine ⟨_, rfl, _, _, rfl, rfl, .inr (by decide), _, rfl, g, _, _, _, rfl, rfl, S4, bat3, _, _, rfl, rfl, .inr (by decide), _, _, rfl, rfl, _, _, rfl, rfl, .inl ⟨_, rfl, _, _, rfl, rfl, (by show (0 : Int) < 2147483647; decide), ?_⟩⟩
        refine ⟨_, rfl, _, rfl, .inl ⟨_, rfl, _, _, rfl, rfl, (by show (0 : Int) < 65537; decide), _, rfl, g, _, _, _, rfl, rfl, S4, bat3, _, _, rfl, rfl, _, _, rfl, rfl, .inl ⟨by omega, by omega⟩, _, rfl, g, _, _, _, rfl, rfl, S4, bat3, _, _, rfl, rfl, .inl (by decide), _, _, rfl, rfl, .inl ⟨_, rfl, _, _, rfl, rfl, (by show (0 : Int) < 2147483629; decide), ?_⟩⟩⟩
        refine ⟨_, rfl, _, _, rfl, rfl, ⟨by decide, by decide⟩, .inl ⟨_, rfl, _, rfl, _, _, rfl, rfl, (by omega), ?_⟩⟩
        obtain ⟨k, ek, hk⟩ := mod_nat hn (((y * 48271 + (x3 + 1) * 69621 + 7) % 2147483647 * ((y * 48271 + (x3 + 1) * 69621 + 7) % 2147483647 % 65537 + (x3 + 1)) + 40692 * (x3 + 1)) % 2147483629 / 11)
        have q := hq k _ hk ⟨_, c4⟩
        rw [← ek] at q
        exact q
  · rintro _ H2 ⟨t3, t4, t5, ⟨y1, y2, y3⟩, rfl, c2⟩
    obtain ⟨k, ek, hk⟩ := mod_nat hn y2
    refine ⟨_, rfl, g, _, _, _, rfl, rfl, SqL.of c2.1, bat2, .inl ⟨y2, rfl, _, rfl, _, _, rfl, rfl, (by omega), ?_⟩⟩
    refine ⟨_, rfl, g, _, _, _, rfl, rfl, SqL.of c2.1, bat2, _, rfl, _, _, rfl, rfl, ⟨by omega, by omega⟩, _, rfl, g, _, _, 2, rfl, rfl, c2.1, bix 2 (by decide), _, rfl, ?_⟩
    have q := hq k (L2.upd H2 g (bagO c (y1, y2 / (n : Int), y3))) hk ⟨_, c2.upd⟩
    rw [← ek] at q
    exact q
end
end Sy
/-! rules that name K (for use within comprehensions) -/
namespace Sy
open PySem PySem.Spec PyProof.Rows L2
section
variable (K : PySem.W.Frag) {X : Cx} {a b e : Expr} {ta tb : TE} {pos : Pos}
theorem pe_ixTK (hK : X.K = K) (ha : PE X a ta) (hb : PE X b tb) (hs : PlainIx b) : PE X (.Subscript a b pos) (tOp (rIxT K) ta tb) := by
  subst hK
  exact pe_ix ix_tup ha hb hs
theorem op_inK (hK : X.K = K) : OpR X (compareOp .In) (rIn K false) := by
  subst hK
  exact op_in_seq
theorem op_notInK (hK : X.K = K) : OpR X (compareOp .NotIn) (rIn K true) := by
  subst hK
  exact op_notIn_seq
theorem op_catAK (hK : X.K = K) : OpR X (binaryOp .Add) (rCatA K) := by
  subst hK
  exact op_catA
theorem pe_fldK {f : Str} (hK : X.K = K) (he : PE X e ta) (hb : attributeBase e f X.env (eval e X.env) = eval e X.env) : PE X (.Attribute e f pos) (tFld K ta f) := by
  subst hK
  exact pe_fld he hb
abbrev rLenS (K : PySem.W.Frag) : List V → Hp → VK → Prop := fun xs H Q => ∃ p ys, xs = [.ref p] ∧ (SqL K H p ys ∨ SqT K H p ys) ∧ Q (.int ys.length) H
theorem call_lenK (hK : X.K = K) : CallR X (.builtin "len") (rLenS K) := by
  subst hK
  exact call_len_seq
end
end Sy
/-! _law_word, _law_words -/
namespace Sy
open PySem PySem.Spec PyProof.Rows L2
theorem app_tl (x : Str) (c : Nat) : (x ++ (⟨#[c]⟩ : Str)).cps.toList = x.cps.toList ++ [c] := by
  show (x.cps ++ #[c]).toList = _
  simp
theorem app_tls (x y : Str) : (x ++ y).cps.toList = x.cps.toList ++ y.cps.toList := by
  show (x.cps ++ y.cps).toList = _
  simp
theorem cutS_take {z : Str} {k : Nat} (h : k ≤ z.length) : cutS z none (some (k : Int)) = ⟨(z.cps.toList.take k).toArray⟩ := by
  unfold cutS HT.sIx
  simp only [List.drop_zero, Nat.sub_zero]
  rw [if_neg (by omega), show min (k : Int).toNat z.length = k by omega]
theorem cutS_drop {z : Str} {k : Nat} (h : k ≤ z.length) : cutS z (some (k : Int)) none = ⟨(z.cps.toList.drop k).toArray⟩ := by
  unfold cutS HT.sIx
  simp only []
  rw [if_neg (by omega), show min (k : Int).toNat z.length = k by omega, List.take_of_length_le]
  rw [List.length_drop, ← len_tl]
  exact Nat.le_refl _
/-- a word with another letter at a place -/
def setL (x : Str) (i c : Nat) : Str := cutS x none (some (i : Int)) ++ (⟨#[97 + c]⟩ : Str) ++ cutS x (some ((i + 1 : Nat) : Int)) none
theorem setL_tl {x : Str} {i c : Nat} (h : i < x.length) : (setL x i c).cps.toList = x.cps.toList.take i ++ (97 + c) :: x.cps.toList.drop (i + 1) := by
  unfold setL
  rw [cutS_take (by omega), cutS_drop (by omega), app_tls, app_tl, List.append_assoc]
  rfl
theorem setL_wd {x : Str} (h : Wd x) {i c : Nat} (hi : i < x.length) (hc : c < 26) : Wd (setL x i c) := by
  obtain ⟨h1, h2, h3⟩ := h
  have lx := len_tl x
  unfold Wd
  rw [setL_tl hi]
  refine ⟨?_, ?_, fun d hd => ?_⟩
  · simp only [List.length_append, List.length_cons, List.length_take, List.length_drop]
    omega
  · simp only [List.length_append, List.length_cons, List.length_take, List.length_drop]
    omega
  · rcases List.mem_append.mp hd with hd | hd
    · exact h3 d (List.mem_of_mem_take hd)
    · rcases List.mem_cons.mp hd with rfl | hd
      · exact ⟨by omega, by omega⟩
      · exact h3 d (List.mem_of_mem_drop hd)
theorem setL_inj {x : Str} {i c d : Nat} (hi : i < x.length) (e : setL x i c = setL x i d) : c = d := by
  have := congrArg (fun s : Str => s.cps.toList) e
  simp only [setL_tl hi] at this
  have := List.append_cancel_left this
  simp at this
  omega
theorem setL_len {x : Str} (h : Wd x) {i c : Nat} (hi : i < x.length) : (setL x i c).length = x.length := by
  have lx := len_tl x
  rw [len_tl (setL x i c), setL_tl hi]
  simp only [List.length_append, List.length_cons, List.length_take, List.length_drop]
  omega
section
variable {P : Program} {w : World} {K : PySem.W.Frag} {mg : Str → Option Value} {base : Heap}
def spWord : Sp := fun vs H Q _ => ∃ c g : Addr, vs = [.ref g] ∧ Bag c g H ∧ ∀ x H', Wd x → Dr c g H H' → Q (.str x) H'
abbrev N_word : List Str := ["_law_bag_here", "_law_letters", "_law_word_here", "_law_k"]
theorem sc_word : FnScope N_word ["_law_bag_here"] (defScope (top 41)) := ⟨rfl, rfl, rfl, by decide +kernel, rfl, by decide +kernel, by decide +kernel⟩
theorem k_word (T : Txt K mg) (F : DF K mg "_law_word" 41) (c_law_pick : Cal P w K mg base 1 "_law_pick" ["_law_bag_here", "_law_limit"] spPick) : Cal P w K mg base 2 "_law_word" ["_law_bag_here"] spWord := by
  refine cal_of F.1 F.2 sc_word (fun _ _ _ _ _ _ us e => match us, e with | [_], _ => rfl) (fun vs H Q E s => by obtain ⟨_, _, rfl, _⟩ := s; rfl) ?_
  intro cdv A outer s H vs Q E hr h
  obtain ⟨c, g, rfl, hg, hq⟩ := h
  have sc := sc_word
  refine ⟨_, (pss_cons (ps_set (i := 1) sc.nd rfl (Or.inl rfl) pe_str)
      (pss_cons (ps_set (i := 2) sc.nd rfl (Or.inl rfl) pe_str)
      (pss_cons (ps_for (passes_of rfl) rfl (pi_range1 rfl T.range (pa_cons (pe_op op_add pe_int (pe_cal c_law_pick hr (pa_cons (pv 0) (pa_cons pe_int pa_nil)))) pa_nil)) (pg_name (i := 3) sc.nd rfl (Or.inl rfl))
        (pss_one (ps_set (i := 2) sc.nd rfl (Or.inl rfl) (pe_op op_add_str (pv 2) (pe_ix ix_str (pv 1) (pe_cal c_law_pick hr (pa_cons (pv 0) (pa_cons pe_int pa_nil))) (fun _ _ => rfl))))))
      (pss_one (ps_ret (pv 2)))))), ?_⟩
  refine ⟨_, rfl, c, g, 8, rfl, hg, by decide, by decide, fun r H1 hr1 d1 => ?_⟩
  refine ⟨_, _, rfl, rfl, _, rfl, by omega, by omega, for_rng (n := (1 + (r : Int)).toNat)
    (fun i σ H' => ∃ (x : Str) (t3 : Option V), σ = [some (.ref g), some (.str abc), some (.str x), t3] ∧ x.cps.toList.length = i ∧ (∀ c ∈ x.cps.toList, Lt c) ∧ Dr c g H H')
    ⟨Str.empty, none, rfl, rfl, fun c hc => (nomatch hc), d1⟩ ?_ ?_⟩
  · rintro i σ H2 hi ⟨x, t3, rfl, hx, hlt, dr⟩
    refine ⟨_, rfl, _, rfl, _, rfl, c, g, 26, rfl, hg.dr dr, by decide, by decide, fun cc H3 hc d3 => ?_⟩
    have lx := len_tl x
    refine ⟨abc, _, 97 + cc, rfl, rfl, by decide +kernel, atI_nat (abc_tl cc hc), x, _, rfl, rfl, ?_, _, _, rfl, ?_, fun d hd => ?_, dr.trans d3⟩
    · show x.length + 1 ≤ sizeLine
      rw [sizeLine_eq]
      omega
    · rw [app_tl, List.length_append, hx]
      rfl
    · rw [app_tl] at hd
      rcases List.mem_append.mp hd with hd | hd
      · exact hlt d hd
      · rw [List.mem_singleton.mp hd]
        exact ⟨by omega, by omega⟩
  · rintro σ H2 ⟨x, t3, rfl, hx, hlt, dr⟩
    exact ⟨_, rfl, hq x _ ⟨by omega, by omega, hlt⟩ dr⟩
/-! _law_words -/
def spWords : Sp := fun vs H Q _ => ∃ (c g : Addr) (n : Nat), vs = [.ref g, .int (n : Nat)] ∧ Bag c g H ∧ n ≤ 5 ∧ ∀ (q : Addr) (ws : List Str) H', ws.length = n → ws.Nodup → (∀ x ∈ ws, Wd x) → Dr c g H H' → H q = none → H' q = some (.lst (ws.map V.str)) → Q (.ref q) H'
abbrev N_words : List Str := ["_law_bag_here", "_law_many", "_law_letters", "_law_words_here", "_law_word_here", "_law_at", "_law_first", "_law_k", "_law_one"]
theorem sc_words : FnScope N_words ["_law_bag_here", "_law_many"] (defScope (top 42)) := ⟨rfl, rfl, rfl, by decide +kernel, rfl, by decide +kernel, by decide +kernel⟩
def five : List Str := ["q", "w", "e", "r", "t"]
theorem five_wd : ∀ x ∈ five, Wd x := by
  have : ∀ x ∈ five, 1 ≤ x.cps.toList.length ∧ x.cps.toList.length ≤ 8 ∧ ∀ c ∈ x.cps.toList, 97 ≤ c ∧ c ≤ 122 := by decide +kernel
  exact this
theorem five_nd : five.Nodup := by decide +kernel
theorem five_free {ws : List Str} (h : ws.length < 5) : ∃ x r, five.filter (fun y => decide (y ∉ ws)) = x :: r ∧ x ∉ ws ∧ Wd x := by
  cases e : five.filter (fun y => decide (y ∉ ws)) with
  | nil =>
    have all : ∀ y ∈ five, y ∈ ws := fun y hy => Decidable.byContradiction fun z => by
      have : y ∈ five.filter (fun y => decide (y ∉ ws)) := List.mem_filter.mpr ⟨hy, decide_eq_true z⟩
      rw [e] at this
      cases this
    have := nodup_le five_nd all
    have l5 : five.length = 5 := rfl
    omega
  | cons x r =>
    have hm : x ∈ five.filter (fun y => decide (y ∉ ws)) := by rw [e]; exact List.mem_cons_self
    obtain ⟨h1, h2⟩ := List.mem_filter.mp hm
    exact ⟨x, r, rfl, of_decide_eq_true h2, five_wd x h1⟩
theorem k_words (T : Txt K mg) (F : DF K mg "_law_words" 42) (c_law_pick : Cal P w K mg base 1 "_law_pick" ["_law_bag_here", "_law_limit"] spPick) (c_law_word : Cal P w K mg base 2 "_law_word" ["_law_bag_here"] spWord) : Cal P w K mg base 3 "_law_words" ["_law_bag_here", "_law_many"] spWords := by
  refine cal_of F.1 F.2 sc_words (fun _ _ _ _ _ _ us e => match us, e with | [_, _], _ => rfl) (fun vs H Q E s => by obtain ⟨_, _, _, rfl, _⟩ := s; rfl) ?_
  intro cdv A outer s H vs Q E hr h
  obtain ⟨c, g, n, rfl, hg, hn, hq⟩ := h
  have sc := sc_words
  refine ⟨_, (pss_cons (ps_set (i := 2) sc.nd rfl (Or.inl rfl) pe_str)
      (pss_cons (ps_set (i := 3) sc.nd rfl (Or.inr rfl) (pe_lst pa_nil))
      (pss_cons (ps_if (pt_cmpR op_eq (pe_cal c_law_pick hr (pa_cons (pv 0) (pa_cons pe_int pa_nil))) pe_int (nomark _))
        (pss_cons (ps_set (i := 4) sc.nd rfl (Or.inl rfl) (pe_cal c_law_word hr (pa_cons (pv 0) pa_nil)))
        (pss_cons (ps_set (i := 5) sc.nd rfl (Or.inl rfl) (pe_cal c_law_pick hr (pa_cons (pv 0) (pa_cons (pe_callB call_len_str (by rfl) T.len (by decide +kernel) (pa_cons (pv 4) pa_nil)) pa_nil))))
        (pss_cons (ps_set (i := 6) sc.nd rfl (Or.inl rfl) (pe_cal c_law_pick hr (pa_cons (pv 0) (pa_cons pe_int pa_nil))))
        (pss_cons (ps_for (passes_of rfl) rfl (pi_range1 rfl T.range (pa_cons (pv 1) pa_nil)) (pg_name (i := 7) sc.nd rfl (Or.inl rfl))
          (pss_one (ps_expr (pe_bm PySem.F.plainAttrs_list PySem.F.slot_list_append PySem.F.type_list_append mt_append (pv 3) (pa_cons (pe_op op_add_str (pe_op op_add_str (pe_slice sl_str (pv 4) po_none (po_some (pv 5))) (pe_ix ix_str (pv 2) (pe_op op_mod (pe_callTy call_int1 (by rfl) T.int (by decide +kernel) (pa_cons (pe_op op_add (pv 6) (pe_op op_mul pe_int (pv 7))) pa_nil)) pe_int) (fun _ _ => rfl))) (pe_slice sl_str (pv 4) (po_some (pe_op op_add (pv 5) pe_int)) po_none)) pa_nil)))))
        (pss_one (ps_ret (pv 3)))))))
        pss_nil)
      (pss_cons (ps_for (passes_of rfl) rfl (pi_range1 rfl T.range (pa_cons (pv 1) pa_nil)) (pg_name (i := 7) sc.nd rfl (Or.inl rfl))
        (pss_cons (ps_set (i := 4) sc.nd rfl (Or.inl rfl) (pe_cal c_law_word hr (pa_cons (pv 0) pa_nil)))
        (pss_cons (ps_cut (ps_if (pt_cmpR op_in_seq (pv 4) (pv 3) rfl)
          (pss_one (ps_set (i := 4) sc.nd rfl (Or.inl rfl) (pe_ixK K rfl (pe_lc (own := [("_law_one", 8)]) (g := gName 8) rfl sc.nd (pi_tup (pe_tup (pa_cons pe_str (pa_cons pe_str (pa_cons pe_str (pa_cons pe_str (pa_cons pe_str pa_nil))))))) (blkOk_by (N := N_words) (sc := defScope (top 42)) (by decide +kernel)) (fun _ _ _ _ _ => (pg_name (i := 8) sc.nd rfl (Or.inl rfl))) (fun _ _ _ _ _ => (pts_one (pt_cmpR (op_notInK K rfl) (pv 8) (pv 3) rfl))) (fun _ _ _ _ _ => (pv 8))) pe_int (fun _ _ => rfl))))
          pss_nil))
        (pss_one (ps_expr (pe_bm PySem.F.plainAttrs_list PySem.F.slot_list_append PySem.F.type_list_append mt_append (pv 3) (pa_cons (pv 4) pa_nil)))))))
      (pss_one (ps_ret (pv 3))))))), ?_⟩
  refine ⟨by decide, fun D hD => ?_⟩
  obtain ⟨x0, h0, bc0⟩ := hg.take
  have hDg : (L2.del H g) D = none := by
    unfold L2.del
    split
    · rfl
    · exact hD
  have h1 := (h0.new (o := .lst []) hD).swap
  refine ⟨_, rfl, c, g, 2, rfl, h1.bag bc0, by decide, by decide, fun r H1 hr1 d1 => ⟨rfl, _, rfl, if_dec (fun c1 => ?_) (fun c1 => ?_)⟩⟩
  · obtain ⟨x1, B1, s1, h1⟩ := h1.dr0 d1
    refine ⟨_, rfl, c, g, rfl, h1.bag (bc0.mono s1), fun x H2 hx d2 => ?_⟩
    obtain ⟨x2, B2, s2, h2⟩ := h1.dr0 d2
    have lx := len_tl x
    have l8 := hx.2.1
    have l1 := hx.1
    have s12 := s1.trans s2
    refine ⟨_, rfl, _, rfl, x, rfl, by rw [sizeLine_eq]; omega, c, g, x.length, rfl, h2.bag (bc0.mono s12), by omega, by omega, fun at_ H3 hat d3 => ?_⟩
    obtain ⟨x3, B3, s3, h3⟩ := h2.dr0 d3
    have s13 := s12.trans s3
    refine ⟨_, rfl, c, g, 26, rfl, h3.bag (bc0.mono s13), by decide, by decide, fun f H4 hf d4 => ?_⟩
    obtain ⟨x4, B4, s4, h4⟩ := h3.dr0 d4
    have s14 := s13.trans s4
    refine ⟨_, rfl, _, rfl, by omega, by omega, for_rng (n := n)
      (fun i σ H' => ∃ t7 : Option V, σ = [some (.ref g), some (.int (n : Nat)), some (.str abc), some (.ref D), some (.str x), some (.int (at_ : Nat)), some (.int (f : Nat)), t7, none] ∧ Hs B4 [(D, .lst (((List.range i).map fun k => setL x at_ ((f + 5 * k) % 26)).map V.str)), (g, bagO c x4)] H')
      ⟨none, rfl, h4.swap⟩ ?_ ?_⟩
    · rintro i σ H5 hi ⟨t7, rfl, hh⟩
      have em : ((f : Int) + 5 * (i : Nat)) % 26 = (((f + 5 * i) % 26 : Nat) : Int) := by omega
      have hm : (f + 5 * i) % 26 < 26 := Nat.mod_lt _ (by decide)
      have ls := setL_len hx (c := (f + 5 * i) % 26) hat
      refine ⟨_, rfl, .inl ⟨rfl, _, SqL.of hh.r0⟩, ?_⟩
      refine ⟨_, rfl, _, rfl, _, rfl, x, rfl, by rw [sizeLine_eq]; omega, ?_⟩
      refine ⟨_, rfl, _, rfl, _, rfl, _, _, rfl, rfl, .inl (by decide), _, _, rfl, rfl, .inl ⟨_, rfl, _, _, rfl, rfl, (by show (0 : Int) < 26; decide), abc, _, 97 + (f + 5 * i) % 26, rfl, rfl, by decide +kernel, ?_, _, _, rfl, rfl, ?_, ?_⟩⟩
      · rw [em]
        exact atI_nat (abc_tl _ hm)
      · have := len_tl (cutS x none (some (at_ : Int)))
        rw [cutS_take (by omega)] at this
        rw [cutS_take (by omega), this, sizeLine_eq]
        simp only [List.length_take]
        show _ + 1 ≤ _
        omega
      · refine ⟨_, rfl, _, rfl, _, _, rfl, rfl, _, rfl, x, rfl, by rw [sizeLine_eq]; omega, ?_⟩
        dsimp only [tNoPart]
        refine ⟨_, _, rfl, rfl, ?_, ?_⟩
        · have e : ((at_ : Int) + 1) = ((at_ + 1 : Nat) : Int) := by omega
          have h2 := PySem.Str.length_append (cutS x none (some (at_ : Int)) ++ (⟨#[97 + (f + 5 * i) % 26]⟩ : Str)) (cutS x (some ((at_ + 1 : Nat) : Int)) none)
          have h3 : (setL x at_ ((f + 5 * i) % 26)).length = _ := h2
          rw [ls] at h3
          rw [e, ← h3, sizeLine_eq]
          omega
        · have e : ((at_ : Int) + 1) = ((at_ + 1 : Nat) : Int) := by omega
          rw [e]
          refine ⟨D, _, _, rfl, rfl, hh.r0, by rw [List.length_map, List.length_map, List.length_range, sizeLine_eq]; omega, _, rfl, ?_⟩
          rw [List.range_succ, List.map_append, List.map_append]
          exact hh.w0
    · rintro σ H5 ⟨t7, rfl, hh⟩
      refine ⟨_, rfl, hq D _ H5 (by rw [List.length_map, List.length_range]) ?_ (fun y hy => ?_) (hh.swap.isDr s14) hD hh.r0⟩
      · rw [List.nodup_iff_pairwise_ne, List.pairwise_map]
        refine List.Pairwise.imp_of_mem ?_ (List.nodup_iff_pairwise_ne.mp List.nodup_range)
        intro a b ha hb hab e
        have ha := List.mem_range.mp ha
        have hb := List.mem_range.mp hb
        have := setL_inj hat e
        omega
      · obtain ⟨k, _, rfl⟩ := List.mem_map.mp hy
        exact setL_wd hx hat (Nat.mod_lt _ (by decide))
  · obtain ⟨x1, B1, s1, h1⟩ := h1.dr0 d1
    refine ⟨_, rfl, _, rfl, by omega, by omega, for_rng (n := n)
      (fun i σ H' => ∃ (t4 t7 : Option V) (ws : List Str) (x : Int × Int × Int) (B : Hp), σ = [some (.ref g), some (.int (n : Nat)), some (.str abc), some (.ref D), t4, none, none, t7, none] ∧ ws.length = i ∧ ws.Nodup ∧ (∀ y ∈ ws, Wd y) ∧ Same (L2.del H g) B ∧ Hs B [(g, bagO c x), (D, .lst (ws.map V.str))] H')
      ⟨none, none, [], x1, B1, rfl, rfl, List.nodup_nil, fun _ z => (nomatch z), s1, h1⟩ ?_ ?_⟩
    · rintro i σ H2 hi ⟨t4, t7, ws, x2, B, rfl, hl, nd, hwd, sB, hh⟩
      refine ⟨_, rfl, c, g, rfl, hh.bag (bc0.mono sB), fun x H3 hx d3 => ?_⟩
      obtain ⟨x3, B3, s3, h3⟩ := hh.dr0 d3
      refine ⟨fun σ' H' => ∃ (y : Str) (B' : Hp), σ' = [some (.ref g), some (.int (n : Nat)), some (.str abc), some (.ref D), some (.str y), none, none, some (.int (i : Nat)), none] ∧ Wd y ∧ y ∉ ws ∧ Same B3 B' ∧ Hs B' [(g, bagO c x3), (D, .lst (ws.map V.str))] H',
        ⟨_, rfl, _, rfl, D, _, rfl, .inl (SqL.of h3.r1), rfl, by simp [flatV], _, rfl, ?_⟩, ?_⟩
      · rw [inV_strs]
        refine if_dec (fun c1 => ?_) (fun c1 => ⟨x, B3, rfl, hx, c1, Same.refl _, h3⟩)
        refine ⟨(by show 5 ≤ sizeLine; decide), fun p hp => ?_⟩
        have s4 := up_same (o := .tup [.str "q", .str "w", .str "e", .str "r", .str "t"]) hp
        have e4 : upd H3 p (.tup [.str "q", .str "w", .str "e", .str "r", .str "t"]) p = some (.tup (five.map V.str)) := upd_same
        have eD := s4 _ _ h3.r1
        generalize upd H3 p (.tup [.str "q", .str "w", .str "e", .str "r", .str "t"]) = H4 at *
        obtain ⟨y, r, ey, ny, wy⟩ := five_free (ws := ws) (by omega)
        refine ⟨p, rfl, ⟨_, SqT.of e4⟩, fun D5 hD5 => lc_filtT (K := K) (xs := five) (f := V.str) (out := V.str) (keep := fun y => decide (y ∉ ws)) (Hs.start H4) hD5 (SqT.of e4) (by decide) (fun z _ H5 s5 R1 R2 k1 k2 => ?_) (fun H5 h5 => ?_)⟩
        · refine ⟨_, rfl, _, rfl, D, _, rfl, .inl (SqL.of (s5 _ _ eD)), rfl, by simp [flatV], _, rfl, ?_⟩
          rw [inV_strs]
          by_cases e : z ∈ ws
          · rw [decide_eq_true e]
            exact iteF (k2 (by simp [e]))
          · rw [decide_eq_false e]
            exact iteT ⟨_, rfl, k1 (by simp [e])⟩
        · have h5e := h5.r0
          rw [ey] at h5e
          have a5 := h3.after (s4.trans h5.sub)
          refine ⟨D5, _, _, .str y, rfl, rfl, SqL.of h5e, atI_nat (j := 0) rfl, y, _, ?_, wy, ny, a5.1, a5.2⟩
          simp only [wipe, List.set_cons_succ, List.set_cons_zero]
      · rintro _ H5 ⟨y, B', rfl, wy, ny, sB', h5⟩
        refine ⟨_, rfl, .inl ⟨rfl, _, SqL.of h5.r1⟩, _, rfl, D, _, _, rfl, rfl, h5.r1, by rw [List.length_map, sizeLine_eq]; omega, _, _, ws ++ [y], x3, B', rfl, by rw [List.length_append, hl]; rfl, ?_, fun z hz => ?_, sB.trans (s3.trans sB'), ?_⟩
        · rw [List.nodup_append]
          exact ⟨nd, by simp, fun a ha b hb e => ny (by rw [List.mem_singleton.mp hb] at e; rw [← e]; exact ha)⟩
        · rcases List.mem_append.mp hz with hz | hz
          · exact hwd z hz
          · rw [List.mem_singleton.mp hz]
            exact wy
        · rw [List.map_append]
          exact h5.w1
    · rintro σ H2 ⟨t4, t7, ws, x2, B, rfl, hl, nd, hwd, sB, hh⟩
      exact ⟨_, rfl, hq D ws H2 hl nd hwd (hh.isDr sB) hD hh.r1⟩
end
end Sy
/-! _law_kinds, _law_arity, _law_bed -/
namespace Sy
open PySem PySem.Spec PyProof.Rows L2
theorem len2 {α : Type} : ∀ {l : List α}, l.length = 2 → ∃ a b, l = [a, b]
  | [a, b], _ => ⟨a, b, rfl⟩
theorem len3 {α : Type} : ∀ {l : List α}, l.length = 3 → ∃ a b c, l = [a, b, c]
  | [a, b, c], _ => ⟨a, b, c, rfl⟩
theorem len4 {α : Type} : ∀ {l : List α}, l.length = 4 → ∃ a b c d, l = [a, b, c, d]
  | [a, b, c, d], _ => ⟨a, b, c, d, rfl⟩
theorem len5 {α : Type} : ∀ {l : List α}, l.length = 5 → ∃ a b c d e, l = [a, b, c, d, e]
  | [a, b, c, d, e], _ => ⟨a, b, c, d, e, rfl⟩
/-- the law's rows, each with its place -/
structure RwP (K : PySem.W.Frag) (B : Hp) (pr : List (Addr × Sy.Row)) : Prop where
  at_ : ∀ z ∈ pr, SqT K B z.1 [.str z.2.1, .int (z.2.2 : Nat)]
theorem RwP.stay {K : PySem.W.Frag} {B B' : Hp} {pr : List (Addr × Sy.Row)} (h : RwP K B pr) (s : Stay B B') : RwP K B' pr := ⟨fun z hz => s.sqt (h.at_ z hz)⟩
theorem RwP.mono {K : PySem.W.Frag} {B B' : Hp} {pr : List (Addr × Sy.Row)} (h : RwP K B pr) (s : Same B B') : RwP K B' pr := h.stay (Stay.of s)
theorem RwP.paired {K : PySem.W.Frag} {H : Hp} : ∀ {pr : List (Addr × Sy.Row)}, RwP K H pr → Paired (fun q (r : Sy.Row) => SqT K H q [.str r.1, .int (r.2 : Nat)]) (pr.map (·.1)) (pr.map (·.2))
  | [], _ => .nil
  | z :: pr, h => .cons (h.at_ z List.mem_cons_self) (RwP.paired ⟨fun y hy => h.at_ y (List.mem_cons_of_mem _ hy)⟩)
/-- the law's rows as a list at q -/
def RL (K : PySem.W.Frag) (H : Hp) (q : Addr) (rows : List Sy.Row) : Prop := ∃ pr : List (Addr × Sy.Row), pr.map (·.2) = rows ∧ H q = some (.lst (pr.map fun z => V.ref z.1)) ∧ RwP K H pr
theorem RL.mono {K : PySem.W.Frag} {H H' : Hp} {q : Addr} {rows : List Sy.Row} (h : RL K H q rows) (s : Same H H') : RL K H' q rows := by
  obtain ⟨pr, h1, h2, h3⟩ := h
  exact ⟨pr, h1, s _ _ h2, h3.mono s⟩
/-- kinds as the law draws them -/
structure KdsOk (rows : List Sy.Row) : Prop where
  ok : RowsOk rows
  wd : ∀ r ∈ rows, Wd r.1
  ge : 2 ≤ rows.length
  le : rows.length ≤ 5
theorem menu_at {L : List Nat} {j : Nat} (h : j < L.length) : ∃ n ∈ L, (vN L)[j]? = some (.int (n : Nat)) :=
  ⟨L[j], List.getElem_mem _, by rw [vN, List.getElem?_map, List.getElem?_eq_getElem h]; rfl⟩
theorem inV_nats (n : Nat) (ns : List Nat) : inV (.int (n : Int)) (vN ns) = decide (n ∈ ns) := by
  unfold inV vN
  induction ns with
  | nil => rfl
  | cons x l ih =>
    rw [List.map_cons, List.any_cons, ih]
    have : eqV (V.int (x : Int)) (V.int (n : Int)) = decide (x = n) := by
      show ((x : Int) == (n : Int)) = _
      by_cases h : x = n
      · subst h
        simp
      · rw [decide_eq_false h, beq_eq_false_iff_ne]
        omega
    rw [this]
    by_cases h : x = n
    · subst h
      simp
    · have h2 : n ≠ x := fun z => h z.symm
      simp [h, h2]
theorem all_nats (l : List Nat) : (vN l).all flatV = true := by
  rw [vN, List.all_map, List.all_eq_true]
  intro x _
  rfl
theorem zip_nd : ∀ {ws : List Str} {cs : List Nat}, ws.length = cs.length → (ws.zip cs).map (·.1) = ws ∧ (ws.zip cs).map (·.2) = cs
  | [], [], _ => ⟨rfl, rfl⟩
  | x :: ws, n :: cs, h => by
    have := zip_nd (ws := ws) (cs := cs) (by simpa using h)
    simp only [List.zip_cons_cons, List.map_cons]
    exact ⟨by rw [this.1], by rw [this.2]⟩
section
variable {P : Program} {w : World} {K : PySem.W.Frag} {mg : Str → Option Value} {base : Heap}
def spKinds (K : PySem.W.Frag) : Sp := fun vs H Q _ => ∃ c g : Addr, vs = [.ref g] ∧ Bag c g H ∧ ∀ (q : Addr) (rows : List Sy.Row) H', KdsOk rows → rows.length ≤ 4 → Dr c g H H' → H q = none → RL K H' q rows → Q (.ref q) H'
abbrev N_kinds : List Str := ["_law_bag_here", "_law_counts", "_law_k", "_law_count", "_law_words_here"]
theorem sc_kinds : FnScope N_kinds ["_law_bag_here"] (defScope (top 43)) := ⟨rfl, rfl, rfl, by decide +kernel, rfl, by decide +kernel, by decide +kernel⟩
theorem k_kinds (T : Txt K mg) (F : DF K mg "_law_kinds" 43) (c_law_pick : Cal P w K mg base 1 "_law_pick" ["_law_bag_here", "_law_limit"] spPick) (c_law_words : Cal P w K mg base 3 "_law_words" ["_law_bag_here", "_law_many"] spWords) : Cal P w K mg base 4 "_law_kinds" ["_law_bag_here"] (spKinds K) := by
  refine cal_of F.1 F.2 sc_kinds (fun _ _ _ _ _ _ us e => match us, e with | [_], _ => rfl) (fun vs H Q E s => by obtain ⟨_, _, rfl, _⟩ := s; rfl) ?_
  intro cdv A outer s H vs Q E hr h
  obtain ⟨c, g, rfl, hg, hq⟩ := h
  have sc := sc_kinds
  refine ⟨_, (pss_cons (ps_set (i := 1) sc.nd rfl (Or.inr rfl) (pe_lst pa_nil))
      (pss_cons (ps_for (passes_of rfl) rfl (pi_range1 rfl T.range (pa_cons (pe_ix ix_tup (pe_tup (pa_cons pe_int (pa_cons pe_int (pa_cons pe_int (pa_cons pe_int pa_nil))))) (pe_cal c_law_pick hr (pa_cons (pv 0) (pa_cons pe_int pa_nil))) (fun _ _ => rfl)) pa_nil)) (pg_name (i := 2) sc.nd rfl (Or.inl rfl))
        (pss_cons (ps_set (i := 3) sc.nd rfl (Or.inl rfl) (pe_ix ix_tup (pe_tup (pa_cons pe_int (pa_cons pe_int (pa_cons pe_int (pa_cons pe_int (pa_cons pe_int (pa_cons pe_int (pa_cons pe_int pa_nil)))))))) (pe_cal c_law_pick hr (pa_cons (pv 0) (pa_cons pe_int pa_nil))) (fun _ _ => rfl)))
        (pss_cons (ps_cut (ps_if (PW.pt (pw_and (pt_cmpR op_eq (pv 3) pe_int (nomark _)) (pw_and1 (pt_cmpR op_in_seq pe_int (pv 1) rfl))))
          (pss_one (ps_set (i := 3) sc.nd rfl (Or.inl rfl) pe_int))
          pss_nil))
        (pss_one (ps_expr (pe_bm PySem.F.plainAttrs_list PySem.F.slot_list_append PySem.F.type_list_append mt_append (pv 1) (pa_cons (pv 3) pa_nil)))))))
      (pss_cons (ps_cut (ps_if (pt_cmpR op_notIn_seq pe_int (pv 1) rfl)
        (pss_one (ps_asg pe_int (pg_sub (pv 1) (pe_cal c_law_pick hr (pa_cons (pv 0) (pa_cons (pe_callB call_len_seq (by rfl) T.len (by decide +kernel) (pa_cons (pv 1) pa_nil)) pa_nil))) set_list)))
        pss_nil))
      (pss_cons (ps_set (i := 4) sc.nd rfl (Or.inr rfl) (pe_cal c_law_words hr (pa_cons (pv 0) (pa_cons (pe_callB call_len_seq (by rfl) T.len (by decide +kernel) (pa_cons (pv 1) pa_nil)) pa_nil))))
      (pss_one (ps_ret (pe_lc (own := [("_law_k", 2)]) (g := gName 2) rfl sc.nd (pi_range1 rfl T.range (pa_cons (pe_callB call_len_seq (by rfl) T.len (by decide +kernel) (pa_cons (pv 1) pa_nil)) pa_nil)) (blkOk_by (N := N_kinds) (sc := defScope (top 43)) (by decide +kernel)) (fun _ _ _ _ _ => (pg_name (i := 2) sc.nd rfl (Or.inl rfl))) (fun _ _ _ _ _ => pts_nil) (fun _ _ _ _ _ => (pe_tup (pa_cons (pe_ixK K rfl (pv 4) (pv 2) (fun _ _ => rfl)) (pa_cons (pe_ixK K rfl (pv 1) (pv 2) (fun _ _ => rfl)) pa_nil))))))))))), ?_⟩
  obtain ⟨x0, h0, bc0⟩ := hg.take
  refine ⟨by decide, fun D hD => ?_⟩
  have h1 := (h0.new (o := .lst []) hD).swap
  refine ⟨(by show 4 ≤ sizeLine; decide), fun p hp => ?_⟩
  have h2 := h1.tup (o := .tup (vN [2, 4, 3, 3])) hp
  have sp := up_same (o := .tup (vN [2, 4, 3, 3])) (h1.sub.free hp)
  have ep : upd (L2.del H g) p (.tup (vN [2, 4, 3, 3])) p = some (.tup (vN [2, 4, 3, 3])) := upd_same
  generalize upd (L2.del H g) p (.tup (vN [2, 4, 3, 3])) = B0 at *
  refine ⟨_, rfl, c, g, 4, rfl, h2.bag (bc0.mono sp), by decide, by decide, fun j H1 hj d1 => ?_⟩
  obtain ⟨x1, B1, s1, h3⟩ := h2.dr0 d1
  obtain ⟨m, hm, em⟩ := menu_at (L := [2, 4, 3, 3]) hj
  have hm : 2 ≤ m ∧ m ≤ 4 := by simp only [List.mem_cons, List.not_mem_nil, or_false] at hm; omega
  refine ⟨p, _, _, _, rfl, rfl, SqT.of (h3.sub _ _ (s1 _ _ ep)), atI_nat em, ?_⟩
  refine ⟨_, rfl, by omega, by omega, for_rng (n := m)
    (fun i σ H' => ∃ (t2 t3 : Option V) (cs : List Nat) (x : Int × Int × Int) (B : Hp), σ = [some (.ref g), some (.ref D), t2, t3, none] ∧ cs.length = i ∧ (∀ n ∈ cs, n ≤ 3) ∧ Same (L2.del H g) B ∧ Hs B [(g, bagO c x), (D, .lst (vN cs))] H')
    ⟨none, none, [], x1, B1, rfl, rfl, fun _ z => (nomatch z), sp.trans s1, h3⟩ ?_ ?_⟩
  · rintro i σ H2 hi ⟨t2, t3, cs, x, B, rfl, hl, hc3, sB, hh⟩
    refine ⟨(by show 7 ≤ sizeLine; decide), fun p4 hp4 => ?_⟩
    have h4 := hh.tup (o := .tup (vN [0, 2, 1, 2, 1, 0, 3])) hp4
    have s4 := up_same (o := .tup (vN [0, 2, 1, 2, 1, 0, 3])) (hh.sub.free hp4)
    have e4 : upd B p4 (.tup (vN [0, 2, 1, 2, 1, 0, 3])) p4 = some (.tup (vN [0, 2, 1, 2, 1, 0, 3])) := upd_same
    generalize upd B p4 (.tup (vN [0, 2, 1, 2, 1, 0, 3])) = B4 at *
    refine ⟨_, rfl, c, g, 7, rfl, h4.bag (bc0.mono (sB.trans s4)), by decide, by decide, fun j4 H5 hj4 d5 => ?_⟩
    obtain ⟨x5, B5, s5, h5⟩ := h4.dr0 d5
    obtain ⟨n, hn, en⟩ := menu_at (L := [0, 2, 1, 2, 1, 0, 3]) hj4
    have hn : n ≤ 3 := by simp only [List.mem_cons, List.not_mem_nil, or_false] at hn; omega
    refine ⟨p4, _, _, _, rfl, rfl, SqT.of (h5.sub _ _ (s5 _ _ e4)), atI_nat en, ?_⟩
    refine ⟨fun σ' H' => ∃ n : Nat, n ≤ 3 ∧ H' = H5 ∧ σ' = [some (.ref g), some (.ref D), some (.int (i : Nat)), some (.int (n : Nat)), none], ⟨_, rfl, rfl, _, rfl, if_dec (fun c1 => ?_) (fun c1 => ⟨n, hn, rfl, rfl⟩)⟩, ?_⟩
    · refine ⟨_, rfl, D, _, rfl, .inl (SqL.of h5.r1), rfl, all_nats cs, _, rfl, if_bool (fun _ => ⟨2, by decide, rfl, rfl⟩) (fun _ => ⟨n, hn, rfl, rfl⟩)⟩
    · rintro _ _ ⟨n, hn, rfl, rfl⟩
      refine ⟨_, rfl, .inl ⟨rfl, _, SqL.of h5.r1⟩, _, rfl, D, _, _, rfl, rfl, h5.r1, by rw [List.length_map, sizeLine_eq]; omega, _, _, cs ++ [n], x5, B5, rfl, by rw [List.length_append, hl]; rfl, fun y hy => ?_, (sB.trans s4).trans s5, ?_⟩
      · rcases List.mem_append.mp hy with hy | hy
        · exact hc3 y hy
        · rw [List.mem_singleton.mp hy]
          exact hn
      · have : vN (cs ++ [n]) = vN cs ++ [.int (n : Nat)] := by rw [vN, vN, List.map_append]; rfl
        rw [this]
        exact h5.w1
  · rintro σ H2 ⟨t2, t3, cs, x, B, rfl, hl, hc3, sB, hh⟩
    refine ⟨fun σ' H' => ∃ (cs : List Nat) (x : Int × Int × Int) (B : Hp), σ' = [some (.ref g), some (.ref D), t2, t3, none] ∧ cs.length = m ∧ (∀ n ∈ cs, n ≤ 3) ∧ 0 ∈ cs ∧ Same (L2.del H g) B ∧ Hs B [(g, bagO c x), (D, .lst (vN cs))] H',
      ⟨_, rfl, D, _, rfl, .inl (SqL.of hh.r1), rfl, all_nats cs, _, rfl, ?_⟩, ?_⟩
    · have e0 : inV (V.int 0) (vN cs) = decide (0 ∈ cs) := inV_nats 0 cs
      rw [e0]
      refine if_ndec (fun c1 => ?_) (fun c1 => ⟨cs, x, B, rfl, hl, hc3, c1, sB, hh⟩)
      refine ⟨_, rfl, _, rfl, _, rfl, D, _, rfl, .inl (SqL.of hh.r1), c, g, cs.length, by rw [List.length_map], hh.bag (bc0.mono sB), by omega, by omega, fun k H3 hk d3 => ?_⟩
      obtain ⟨x3, B3, s3, h3⟩ := hh.dr0 d3
      refine ⟨D, _, _, k, rfl, rfl, h3.r1, ixN_nat (by rw [List.length_map]; exact hk), cs.set k 0, x3, B3, rfl, by rw [List.length_set, hl], fun n hn => ?_, ?_, sB.trans s3, ?_⟩
      · rcases List.mem_or_eq_of_mem_set hn with h | h
        · exact hc3 n h
        · omega
      · exact List.mem_iff_getElem?.mpr ⟨k, by rw [List.getElem?_set_self (by omega)]⟩
      · have e : (vN cs).set k (.int 0) = vN (cs.set k 0) := vN_set cs k 0
        rw [← e]
        exact h3.w1
    · rintro _ H3 ⟨cs, x, B, rfl, hl, hc3, hz, sB, hh⟩
      refine ⟨_, rfl, _, rfl, D, _, rfl, .inl (SqL.of hh.r1), c, g, cs.length, by rw [List.length_map], hh.bag (bc0.mono sB), by omega, fun q ws H4 hw nd hwd d4 nq eq => ?_⟩
      obtain ⟨x4, B4, s4, h4, st4, new4⟩ := hh.drN (AllL.cons AllL.nil) d4
      have eqB := new4 q _ nq eq
      have h5 := h4.swap.give
      have h6 := h5.2
      have e6 : upd B4 D (.lst (vN cs)) D = some (.lst (vN cs)) := upd_same
      have q6 := h5.1 _ _ eqB
      have s6 := s4.trans h5.1
      generalize upd B4 D (.lst (vN cs)) = B6 at *
      refine ⟨_, rfl, D, _, rfl, .inl (SqL.of (h6.sub _ _ e6)), _, rfl, by rw [List.length_map]; omega, by rw [List.length_map]; omega, fun R hR => ?_⟩
      have hlen : (vN cs).length = cs.length := List.length_map ..
      have en : (((vN cs).length : Nat) : Int).toNat = cs.length := by omega
      refine lc_it (n := (((vN cs).length : Nat) : Int).toNat) walk_range (fun i H' => ∃ (pr : List (Addr × Sy.Row)) (B' : Hp), pr.map (·.2) = (ws.zip cs).take i ∧ RwP K B' pr ∧ Same B6 B' ∧ Hs B' [(R, .lst (pr.map fun z => V.ref z.1)), (g, bagO c x4)] H') ⟨[], B6, rfl, ⟨fun _ z => (nomatch z)⟩, Same.refl _, h6.new hR⟩ (fun _ _ _ _ => trivial) ?_ ?_
      · rintro i v H7 _ hi ⟨pr, B', hpr, hat, sB', hh⟩ ⟨rfl, rfl⟩
        rw [en] at hi
        obtain ⟨y, ey⟩ : ∃ y, ws[i]? = some y := ⟨_, List.getElem?_eq_getElem (by omega)⟩
        obtain ⟨n, en'⟩ : ∃ n, cs[i]? = some n := ⟨_, List.getElem?_eq_getElem hi⟩
        have e0 : (0 : Int) + (i : Nat) = (i : Nat) := by omega
        have ezip : (ws.zip cs)[i]? = some (y, n) := by rw [List.getElem?_zip_eq_some]; exact ⟨ey, en'⟩
        have hpl : pr.length ≤ 5 := by
          have := congrArg List.length hpr
          rw [List.length_map, List.length_take, List.length_zip] at this
          omega
        refine ⟨rfl, ?_⟩
        simp only [tYes, if_true]
        rw [e0]
        refine ⟨_, rfl, _, rfl, q, _, _, _, rfl, rfl, SqL.of (hh.sub _ _ (sB' _ _ q6)), atI_nat (by rw [List.getElem?_map, ey]; rfl), _, rfl, _, rfl, D, _, _, _, rfl, rfl, SqL.of (hh.sub _ _ (sB' _ _ e6)), atI_nat (by rw [List.getElem?_map, en']; rfl), by show 2 ≤ sizeLine; decide, fun p9 hp9 => ?_⟩
        have h9 := hh.tup (o := .tup [.str y, .int (n : Nat)]) hp9
        have s9 := up_same (o := .tup [.str y, .int (n : Nat)]) (hh.sub.free hp9)
        refine ⟨_, h9.r0, by rw [List.length_map, sizeLine_eq]; omega, pr ++ [(p9, (y, n))], _, ?_, ⟨fun z hz => ?_⟩, sB'.trans s9, ?_⟩
        · rw [List.map_append, hpr, List.take_succ, ezip]
          rfl
        · rcases List.mem_append.mp hz with hz | hz
          · exact Same.sqt s9 (hat.at_ z hz)
          · rw [List.mem_singleton.mp hz]
            exact SqT.of upd_same
        · rw [List.map_append]
          exact h9.w0
      · rintro H7 ⟨pr, B', hpr, hat, sB', hh⟩
        have hzl : (ws.zip cs).length = cs.length := by rw [List.length_zip]; omega
        have hpr : pr.map (·.2) = ws.zip cs := by rw [hpr, en, List.take_of_length_le (by omega)]
        obtain ⟨z1, z2⟩ := zip_nd (ws := ws) (cs := cs) hw
        have dr := hh.swap.isDr (((sB.trans s6)).trans sB')
        refine hq R (ws.zip cs) H7 ⟨⟨fun r hr => (hwd r.1 ?_).ok, fun r hr => hc3 r.2 ?_, by rw [z1]; exact nd, ?_, by omega⟩, fun r hr => hwd r.1 ?_, by omega, by omega⟩ (by omega) dr ?_ ⟨pr, hpr, hh.r0, hat.mono hh.sub⟩
        · rw [← z1]; exact List.mem_map_of_mem hr
        · rw [← z2]; exact List.mem_map_of_mem hr
        · rw [← z2] at hz
          obtain ⟨r, hr, e⟩ := List.mem_map.mp hz
          exact ⟨r, hr, e⟩
        · rw [← z1]; exact List.mem_map_of_mem hr
        · by_cases e : R = g
          · exact absurd hR (by rw [e, h6.r0]; exact fun z => nomatch z)
          · have n1 : B6 R = none := h6.sub.free hR
            have n2 := (sB.trans s6).free n1
            rw [del_ne e] at n2
            exact n2
/-! _law_arity -/
def spArD (K : PySem.W.Frag) : Sp := fun vs H Q _ => ∃ (q : Addr) (rows : List Sy.Row), vs = [.ref q] ∧ RL K H q rows ∧ (rows.map (·.1)).Nodup ∧ rows.length ≤ 8 ∧ ∀ d H', Same H H' → H' d = some (.dK (arKV rows)) → Q (.ref d) H'
abbrev N_arD : List Str := ["_law_kinds_here", "_law_arity_here", "_law_pair_here"]
theorem sc_arD : FnScope N_arD ["_law_kinds_here"] (defScope (top 44)) := ⟨rfl, rfl, rfl, by decide +kernel, rfl, by decide +kernel, by decide +kernel⟩
theorem k_arD (F : DF K mg "_law_arity" 44) : Cal P w K mg base 1 "_law_arity" ["_law_kinds_here"] (spArD K) := by
  refine cal_of F.1 F.2 sc_arD (fun _ _ _ _ _ _ us e => match us, e with | [_], _ => rfl) (fun vs H Q E s => by obtain ⟨_, _, rfl, _⟩ := s; rfl) ?_
  intro cdv A outer s H vs Q E hr h
  obtain ⟨q, rows, rfl, ⟨pr, rfl, hL, hP⟩, hnd, hle, hq⟩ := h
  have hu := hu_of hr
  have sc := sc_arD
  refine ⟨_, (pss_cons (ps_set (i := 1) sc.nd rfl (Or.inl rfl) pe_dnewK)
      (pss_cons (ps_for (passes_of rfl) rfl (pi_list (pv 0)) (pg_name (i := 2) sc.nd rfl (Or.inl rfl))
        (pss_one (ps_dput hu (pv 1) (pe_ix ix_tup (pv 2) pe_int (fun _ _ => rfl)) (pe_ix ix_tup (pv 2) pe_int (fun _ _ => rfl)) rfl)))
      (pss_one (ps_ret (pv 1))))), ?_⟩
  intro d hd
  have k1 := (Hs.start H).new (o := .dK []) hd
  rw [List.length_map] at hle
  refine ⟨_, rfl, q, rfl, ⟨_, SqL.of (k1.sub _ _ hL)⟩, for_list (K := K) (xs := pr.map fun z => V.ref z.1) (fun i σ H' => ∃ t2, σ = [some (.ref q), some (.ref d), t2] ∧ Hs H [(d, .dK (arKV ((pr.map (·.2)).take i)))] H') ⟨none, rfl, k1⟩ (fun _ _ _ _ ⟨_, _, z⟩ => SqL.of (z.sub _ _ hL)) ?_ ?_⟩
  · rintro i v σ H1 hv ⟨t2, rfl, hh⟩
    obtain ⟨z, ez, rfl⟩ := map_at hv
    have hm := List.mem_of_getElem? ez
    have hr' : (pr.map (·.2))[i]? = some z.2 := by rw [List.getElem?_map, ez]; rfl
    have tz := Same.sqt hh.sub (hP.at_ z hm)
    have vn : valV (arKV ((pr.map (·.2)).take i)) (Sum.inr z.2.1 : Key) = none := by rw [valV_ar, lookup_none (nodup_take hnd hr')]; rfl
    refine ⟨_, rfl, z.1, _, _, _, rfl, rfl, tz, atI_nat (j := 1) rfl, _, rfl, _, rfl, z.1, _, _, _, rfl, rfl, tz, atI_nat (j := 0) rfl, d, _, rfl, DPut.k (k := Sum.inr z.2.1) hh.r0 (by unfold arKV; rw [List.length_map, List.length_take, List.length_map, sizeLine_eq]; omega), _, rfl, ?_⟩
    rw [putK_new _ vn, List.take_succ, hr']
    unfold arKV
    rw [List.map_append]
    exact hh.w0
  · rintro σ H1 ⟨t2, rfl, hh⟩
    rw [List.length_map, List.take_of_length_le (by rw [List.length_map]; exact Nat.le_refl _)] at hh
    exact ⟨_, rfl, hq d H1 hh.sub hh.r0⟩
/-! _law_bed -/
def spBedL (K : PySem.W.Frag) : Sp := fun vs H Q _ => ∃ (q : Addr) (rows : List Sy.Row), vs = [.ref q] ∧ RL K H q rows ∧ KdsOk rows ∧ ∀ a H', Same H H' → BedAt K H' a rows → Q (.ref a) H'
theorem sc_bedL : FnScope ["_law_kinds_here"] ["_law_kinds_here"] (defScope (top 51)) := ⟨rfl, rfl, rfl, by decide +kernel, rfl, by decide +kernel, by decide +kernel⟩
theorem k_bedL (T : Txt K mg) (M : Mk K (He.ga K "Bed") (He.ma K (He.ga K "Bed") "__init__")) (at_ : mg "Bed" = some (.ref (He.ga K "Bed"))) (FB : FnR P w K mg base (L2.CX P w) 3 (He.ma K (He.ga K "Bed") "__init__") (spStar 1 (spInitB K))) (F : DF K mg "_law_bed" 51) :
    Cal P w K mg base 5 "_law_bed" ["_law_kinds_here"] (spBedL K) := by
  refine cal_of F.1 F.2 sc_bedL (fun _ _ _ _ _ _ us e => match us, e with | [_], _ => rfl) (fun vs H Q E s => by obtain ⟨_, _, rfl, _⟩ := s; rfl) ?_
  intro cdv A outer s H vs Q E hr h
  obtain ⟨q, rows, rfl, ⟨pr, rfl, hL, hP⟩, rl, hq⟩ := h
  refine ⟨_, (pss_cons (ps_if (pt_cmpR op_eq (pe_callB call_len_seq (by rfl) T.len (by decide +kernel) (pa_cons (pv 0) pa_nil)) pe_int (nomark _))
        (pss_one (ps_ret (pe_bed M at_ FB hr (pa_cons (pe_ix ix_list (pv 0) pe_int (fun _ _ => rfl)) (pa_cons (pe_ix ix_list (pv 0) pe_int (fun _ _ => rfl)) pa_nil)))))
        pss_nil)
      (pss_cons (ps_if (pt_cmpR op_eq (pe_callB call_len_seq (by rfl) T.len (by decide +kernel) (pa_cons (pv 0) pa_nil)) pe_int (nomark _))
        (pss_one (ps_ret (pe_bed M at_ FB hr (pa_cons (pe_ix ix_list (pv 0) pe_int (fun _ _ => rfl)) (pa_cons (pe_ix ix_list (pv 0) pe_int (fun _ _ => rfl)) (pa_cons (pe_ix ix_list (pv 0) pe_int (fun _ _ => rfl)) pa_nil))))))
        pss_nil)
      (pss_cons (ps_if (pt_cmpR op_eq (pe_callB call_len_seq (by rfl) T.len (by decide +kernel) (pa_cons (pv 0) pa_nil)) pe_int (nomark _))
        (pss_one (ps_ret (pe_bed M at_ FB hr (pa_cons (pe_ix ix_list (pv 0) pe_int (fun _ _ => rfl)) (pa_cons (pe_ix ix_list (pv 0) pe_int (fun _ _ => rfl)) (pa_cons (pe_ix ix_list (pv 0) pe_int (fun _ _ => rfl)) (pa_cons (pe_ix ix_list (pv 0) pe_int (fun _ _ => rfl)) pa_nil)))))))
        pss_nil)
      (pss_one (ps_ret (pe_bed M at_ FB hr (pa_cons (pe_ix ix_list (pv 0) pe_int (fun _ _ => rfl)) (pa_cons (pe_ix ix_list (pv 0) pe_int (fun _ _ => rfl)) (pa_cons (pe_ix ix_list (pv 0) pe_int (fun _ _ => rfl)) (pa_cons (pe_ix ix_list (pv 0) pe_int (fun _ _ => rfl)) (pa_cons (pe_ix ix_list (pv 0) pe_int (fun _ _ => rfl)) pa_nil))))))))))), ?_⟩
  have hS := SqL.of (K := K) hL
  have hl := rl.le
  have hp := rl.ge
  rw [List.length_map] at hl hp
  have hPp := hP.paired
  have ok := rl.ok
  have fin : ∀ H' a, Same H H' → BedAt K H' a (pr.map (·.2)) → Q (.ref a) H' := fun H' a s b => hq a H' s b
  have hl' : (pr.map fun z => V.ref z.1).length = pr.length := List.length_map ..
  refine ⟨_, rfl, q, _, rfl, .inl hS, rfl, _, rfl, if_dec (fun c => ?_) (fun c => ?_)⟩
  · have c : pr.length = 2 := by have := V.int.inj c; omega
    obtain ⟨a, b, rfl⟩ := len2 c
    exact ⟨_, rfl, q, _, _, _, rfl, rfl, hS, atI_nat (j := 0) rfl, _, rfl, q, _, _, _, rfl, rfl, hS, atI_nat (j := 1) rfl, bed_of (ps := [a.1, b.1]) rfl hPp ok fin⟩
  have c2 : pr.length ≠ 2 := fun z => c (by rw [hl', z]; rfl)
  refine ⟨_, rfl, q, _, rfl, .inl hS, rfl, _, rfl, if_dec (fun c => ?_) (fun c => ?_)⟩
  · have c : pr.length = 3 := by have := V.int.inj c; omega
    obtain ⟨a, b, c', rfl⟩ := len3 c
    exact ⟨_, rfl, q, _, _, _, rfl, rfl, hS, atI_nat (j := 0) rfl, _, rfl, q, _, _, _, rfl, rfl, hS, atI_nat (j := 1) rfl, _, rfl, q, _, _, _, rfl, rfl, hS, atI_nat (j := 2) rfl, bed_of (ps := [a.1, b.1, c'.1]) rfl hPp ok fin⟩
  have c3 : pr.length ≠ 3 := fun z => c (by rw [hl', z]; rfl)
  refine ⟨_, rfl, q, _, rfl, .inl hS, rfl, _, rfl, if_dec (fun c => ?_) (fun c => ?_)⟩
  · have c : pr.length = 4 := by have := V.int.inj c; omega
    obtain ⟨a, b, c', d, rfl⟩ := len4 c
    exact ⟨_, rfl, q, _, _, _, rfl, rfl, hS, atI_nat (j := 0) rfl, _, rfl, q, _, _, _, rfl, rfl, hS, atI_nat (j := 1) rfl, _, rfl, q, _, _, _, rfl, rfl, hS, atI_nat (j := 2) rfl, _, rfl, q, _, _, _, rfl, rfl, hS, atI_nat (j := 3) rfl, bed_of (ps := [a.1, b.1, c'.1, d.1]) rfl hPp ok fin⟩
  have c4 : pr.length ≠ 4 := fun z => c (by rw [hl', z]; rfl)
  obtain ⟨a, b, c', d, e, rfl⟩ := len5 (l := pr) (by omega)
  exact ⟨_, rfl, q, _, _, _, rfl, rfl, hS, atI_nat (j := 0) rfl, _, rfl, q, _, _, _, rfl, rfl, hS, atI_nat (j := 1) rfl, _, rfl, q, _, _, _, rfl, rfl, hS, atI_nat (j := 2) rfl, _, rfl, q, _, _, _, rfl, rfl, hS, atI_nat (j := 3) rfl, _, rfl, q, _, _, _, rfl, rfl, hS, atI_nat (j := 4) rfl, bed_of (ps := [a.1, b.1, c'.1, d.1, e.1]) rfl hPp ok fin⟩
end
end Sy
/-! tuples of which it is known that they have no dict: methods of a tuple -/
namespace Sy
open PySem PySem.Spec PyProof.Rows L2
def NoD (H : Hp) (a : Addr) : Prop := ∃ (o : Obj) (u : HO), H a = some (.frz o u) ∧ o.dict = none
/-- a new tuple at p -/
def NewT (H : Hp) (p : Addr) (xs : List V) (H' : Hp) : Prop := H p = none ∧ ∃ o : Obj, o.dict = none ∧ H' = upd H p (.frz o (.tup xs))
theorem NewT.same {H H' : Hp} {p : Addr} {xs : List V} (h : NewT H p xs H') : Same H H' := by
  obtain ⟨h1, o, _, rfl⟩ := h
  exact up_same h1
theorem NewT.sqt {K : PySem.W.Frag} {H H' : Hp} {p : Addr} {xs : List V} (h : NewT H p xs H') : SqT K H' p xs := by
  obtain ⟨h1, o, _, rfl⟩ := h
  exact .inl (.inr ⟨o, upd_same⟩)
theorem NewT.nod {H H' : Hp} {p : Addr} {xs : List V} (h : NewT H p xs H') : NoD H' p := by
  obtain ⟨h1, o, h2, rfl⟩ := h
  exact ⟨o, _, upd_same, h2⟩
theorem NoD.mono {H H' : Hp} {a : Addr} (h : NoD H a) (s : Stay H H') : NoD H' a := by
  obtain ⟨o, u, h1, h2⟩ := h
  exact ⟨o, u, s _ _ h1 (fun _ z => by cases z), h2⟩
section
variable {X : Cx} {es : List Expr} {t : TA} {pos : Pos}
def tTupZ (t : TA) : TE := fun σ H Q => t σ H fun xs H1 => xs.length ≤ sizeLine ∧ ∀ p H', NewT H1 p xs H' → Q (.ref p) H'
theorem pe_tupZ {x1} (h : PA X es t) : PE X (.Tuple es x1 pos) (tTupZ t) := by
  constructor
  intro pins s σ H Q I hq
  refine wpAny_Tuple_spliced (thn (h.run pos pins s σ H _ I hq) fun us s1 ⟨xs, H1, I1, r, z, q⟩ => ⟨by rw [← r.length]; exact z, ?_⟩)
  have hf : H1 s1.heap.objs.size = none := I1.hok.fresh (Nat.le_refl _)
  have hg : (s1.heap.push ({ cls := .type "tuple", data := .seq us.toArray } : Obj)).get? s1.heap.objs.size = some ({ cls := .type "tuple", data := .seq us.toArray } : Obj) := Heap.get?_push_size _ rfl
  refine ⟨.ref s1.heap.objs.size, _, I1.laid (t' := s1.toks) (o := .frz ({ cls := .type "tuple", data := .seq us.toArray } : Obj) (.tup xs)) (fun b u e => Heap.get?_push_of_some _ e) (Nat.le_refl _) ?_, rfl, q _ _ ⟨hf, _, rfl, rfl⟩⟩
  exact ⟨hg, z, us, r, ⟨_, hg, rfl, _, rfl⟩⟩
def rCatZ (K : PySem.W.Frag) : R2 := fun x y H Q => ∃ a b xs ys, x = .ref a ∧ y = .ref b ∧ SqT K H a xs ∧ SqT K H b ys ∧ xs.length + ys.length ≤ sizeLine ∧
  (xs = [] → Q (.ref b) H) ∧ (xs ≠ [] → ys = [] → Q (.ref a) H) ∧ (xs ≠ [] → ys ≠ [] → ∀ p H', NewT H p (xs ++ ys) H' → Q (.ref p) H')
theorem op_catZ : OpR X (binaryOp .Add) (rCatZ X.K) := by
  intro pins s σ H x y v u Q I rx ry h
  obtain ⟨a, b, xs, ys, rfl, rfl, ha, hb, hz, q0, q1, q2⟩ := h
  by_cases hx : xs = []
  · exact op_catA pins s σ H _ _ v u Q I rx ry ⟨a, b, xs, ys, rfl, rfl, ha, hb, hz, q0, q1, fun z => absurd hx z⟩
  cases rx
  cases ry
  obtain ⟨its, r1, p1, _⟩ := I.tuple ha
  obtain ⟨its2, r2, p2, _⟩ := I.tuple hb
  refine HT.cat_tup p1 p2 (fun z => hx (r1.nil_iff.mp z)) (fun z => ⟨.ref a, H, I, rfl, q1 hx (r2.nil_iff.mp z)⟩) (fun z => ?_) (by rw [← r1.length, ← r2.length]; exact hz)
  have hg : (s.heap.push ({ cls := .type "tuple", data := .seq (its ++ its2).toArray } : Obj)).get? s.heap.objs.size = some ({ cls := .type "tuple", data := .seq (its ++ its2).toArray } : Obj) := Heap.get?_push_size _ rfl
  refine ⟨.ref s.heap.objs.size, _, I.laid (t' := s.toks) (o := .frz ({ cls := .type "tuple", data := .seq (its ++ its2).toArray } : Obj) (.tup (xs ++ ys))) (fun b ob q => Heap.get?_push_of_some _ q) (Nat.le_refl _) ?_, rfl,
    q2 hx (fun w => z (r2.nil_iff.mpr w)) _ _ ⟨I.hok.fresh (Nat.le_refl _), _, rfl, rfl⟩⟩
  exact ⟨hg, by rw [List.length_append]; exact hz, _, r1.append r2, ⟨_, hg, rfl, _, rfl⟩⟩
def rTupZ (K : PySem.W.Frag) : List V → Hp → VK → Prop := fun xs H Q => ∃ p ys, xs = [.ref p] ∧ SqL K H p ys ∧ ∀ l H', NewT H l ys H' → Q (.ref l) H'
theorem call_tupZ : CallR X (.type "tuple") (rTupZ X.K) := by
  intro pins s σ H xs us Q I r h
  obtain ⟨p, ys, rfl, hq, q⟩ := h
  obtain ⟨u, rfl, rx⟩ := vals1 r
  cases rx
  obtain ⟨its, r', pl, hz⟩ := I.list hq
  have hlen := r'.length
  refine call_tuple_list pl.isList (fun h' kp => ?_) (by simp only [List.size_toArray]; omega)
  have I1 : Inv X pins σ H { s with heap := h' } := I.kept (t' := s.toks) kp
  have hg : (h'.push ({ cls := .type "tuple", data := .seq its.toArray } : Obj)).get? h'.objs.size = some ({ cls := .type "tuple", data := .seq its.toArray } : Obj) := Heap.get?_push_size _ rfl
  have I2 : Inv X pins σ (upd H h'.objs.size (.frz ({ cls := .type "tuple", data := .seq its.toArray } : Obj) (.tup ys))) { s with heap := h'.push { cls := .type "tuple", data := .seq its.toArray } } :=
    I1.laid (t' := s.toks) (fun b o e => Heap.get?_push_of_some _ e) (Nat.le_refl _) (show ObjOk X.prog X.w _ _ _ (.frz _ (.tup ys)) from ⟨hg, hz, its, r', ⟨_, hg, rfl, _, rfl⟩⟩)
  exact ⟨.ref h'.objs.size, _, I2, rfl, q _ _ ⟨I1.hok.fresh (Nat.le_refl _), _, rfl, rfl⟩⟩
/-! t.m(..) -/
def tBMT (K : PySem.W.Frag) (r : V → List V → Hp → VK → Prop) (to : TE) (t : TA) : TE := fun σ H Q => to σ H fun x H1 => (∃ a xs, x = .ref a ∧ SqT K H1 a xs ∧ NoD H1 a) ∧ t σ H1 fun xs H2 => r x xs H2 Q
variable {o e : Expr} {to : TE} {name : Str} {apos cpos : Pos} {id : String} {r : V → List V → Hp → VK → Prop}
theorem pe_bmT (slot : Slot "tuple" name id) (hty : typeOf (.builtin id) = pure (.type "method_descriptor")) (hm : MtR X id r) (ho : PE X o to) (ha : PA X (e :: es) t)
    (hbase : attributeBase o name X.env (eval o X.env) = eval o X.env := by rfl)
    (hfew : ((backTo cpos (starEach (e :: es) X.env)).all (fun x => !x.1) && (backToKw cpos (keywordEach [] X.env)).all (fun x => x.1.isSome)
      && decide ((e :: es).length + ([] : List Keyword).length + (if ([] : List Keyword).isEmpty then 0 else 1) < 30)) = true := by rfl)
    (hline : (apos.endLine == cpos.line) = true := by rfl) (hs : starEach (e :: es) X.env = (false, eval e X.env) :: starEach es X.env := by rfl) (hplain : (backTo cpos (starEach es X.env)).any (·.1) = false := by rfl) :
    PE X (.Call (.Attribute o name apos) (e :: es) [] cpos) (tBMT X.K r to t) := by
  constructor
  intro pins s σ H Q I h
  refine wpAny_Call_method_late hbase hfew hline rfl (thn (ho.run pins s σ H _ I h) fun v s1 ⟨x, H1, I1, r1, ⟨a, xs, ex, st, ob, u, hf, hd⟩, q1⟩ => ?_)
  subst ex
  cases r1
  obtain ⟨its, _, pt, _⟩ := I1.tuple st
  refine ⟨"tuple", id, PySem.F.plainAttrs_tuple, slot, hty, pt.typeIs, fun b e => ?_, ?_⟩
  · cases e
    exact ⟨ob, (I1.hok _ _ hf).1, hd⟩
  · have hA := ha.run cpos pins s1 σ H1 _ I1 q1
    rw [hs] at hA ⊢
    refine Calls.callWith_builtin (by show (false || (backTo cpos (starEach es X.env)).any (·.1)) = false; rw [hplain]; rfl) (Calls.evalArgs_plain ?_)
    exact thn hA fun us s2 ⟨vs, H2, I2, r2, q2⟩ => hm pins s2 σ H2 (.ref a) vs _ us Q I2 rfl r2 q2
end
end Sy
/-! slices of tuples known to have no dict -/
namespace Sy
open PySem PySem.Spec PyProof.Rows L2
/-- a tuple without a dict -/
structure SqZ (K : PySem.W.Frag) (H : Hp) (p : Addr) (xs : List V) : Prop where
  sq : SqT K H p xs
  nd : NoD H p
theorem SqZ.stay {K : PySem.W.Frag} {H H' : Hp} {p : Addr} {xs : List V} (h : SqZ K H p xs) (s : Stay H H') : SqZ K H' p xs := ⟨s.sqt h.sq, h.nd.mono s⟩
theorem SqZ.same {K : PySem.W.Frag} {H H' : Hp} {p : Addr} {xs : List V} (h : SqZ K H p xs) (s : Same H H') : SqZ K H' p xs := h.stay (Stay.of s)
theorem NewT.sqz {K : PySem.W.Frag} {H H' : Hp} {p : Addr} {xs : List V} (h : NewT H p xs H') : SqZ K H' p xs := ⟨h.sqt, h.nod⟩
section
variable {X : Cx}
def rSlZ (K : PySem.W.Frag) : V → Option Int → Option Int → Hp → VK → Prop := fun x lo hi H Q => ∃ a xs, x = .ref a ∧ SqT K H a xs ∧
  (HT.sIx xs.length 0 lo = 0 ∧ HT.sIx xs.length xs.length hi = xs.length → Q (.ref a) H) ∧ (¬ (HT.sIx xs.length 0 lo = 0 ∧ HT.sIx xs.length xs.length hi = xs.length) → ∀ p H', NewT H p (cutV xs lo hi) H' → Q (.ref p) H')
theorem sl_tupZ : SlR X (rSlZ X.K) := by
  intro pins s σ H x v vl vu lo hi sl Q I rx hs pl pu h
  obtain ⟨a, xs, rfl, hx, q1, q2⟩ := h
  by_cases hw : HT.sIx xs.length 0 lo = 0 ∧ HT.sIx xs.length xs.length hi = xs.length
  · exact sl_tupA pins s σ H _ v vl vu lo hi sl Q I rx hs pl pu ⟨a, xs, rfl, hx, q1, fun z => absurd hw z⟩
  · cases rx
    obtain ⟨its, r, ht, hz⟩ := I.tuple hx
    have hlen : its.toArray.size = xs.length := by rw [List.size_toArray]; exact r.length.symm
    refine ⟨"tuple", _, PyProof.Rows.slot_tuple_getitem.lookup, ht.typeIs, ?_⟩
    refine HT.getItem_tuple_cut ht hs pl pu (by rw [hlen]; exact hw) ?_ (by rw [hlen]; exact hz)
    rw [hlen]
    have r' := (r.drop (HT.sIx xs.length 0 lo)).take (HT.sIx xs.length xs.length hi - HT.sIx xs.length 0 lo)
    have hg : (s.heap.push ({ cls := .type "tuple", data := .seq ((its.toArray.toList.drop (HT.sIx xs.length 0 lo)).take (HT.sIx xs.length xs.length hi - HT.sIx xs.length 0 lo)).toArray } : Obj)).get? s.heap.objs.size = some ({ cls := .type "tuple", data := .seq ((its.toArray.toList.drop (HT.sIx xs.length 0 lo)).take (HT.sIx xs.length xs.length hi - HT.sIx xs.length 0 lo)).toArray } : Obj) := Heap.get?_push_size _ rfl
    refine ⟨.ref s.heap.objs.size, _, I.laid (t' := s.toks) (o := .frz ({ cls := .type "tuple", data := .seq ((its.toArray.toList.drop (HT.sIx xs.length 0 lo)).take (HT.sIx xs.length xs.length hi - HT.sIx xs.length 0 lo)).toArray } : Obj) (.tup (cutV xs lo hi))) (fun b ob q => Heap.get?_push_of_some _ q) (Nat.le_refl _) ?_, rfl,
      q2 hw _ _ ⟨I.hok.fresh (Nat.le_refl _), _, rfl, rfl⟩⟩
    exact ⟨hg, Nat.le_trans (cutV_length xs lo hi) hz, _, r', ⟨_, hg, rfl, _, rfl⟩⟩
end
section
variable {K : PySem.W.Frag} {H : Hp} {a b : Addr} {xs ys : List V} {Q : VK}
theorem slZ_any {lo hi : Option Int} {zs : List V} (hz : cutV xs lo hi = zs) (h : SqZ K H a xs) (q : ∀ p H', Same H H' → SqZ K H' p zs → Q (.ref p) H') : rSlZ K (.ref a) lo hi H Q := by
  subst hz
  refine ⟨a, xs, rfl, h.sq, fun c => q _ _ (Same.refl H) ⟨?_, h.nd⟩, fun _ p H' n => q _ _ n.same n.sqz⟩
  unfold cutV
  rw [c.1, c.2, List.drop_zero, Nat.sub_zero, List.take_length]
  exact h.sq
theorem catZ_any (h : SqZ K H a xs) (g : SqZ K H b ys) (hs : xs.length + ys.length ≤ 1000000) (q : ∀ p H', Same H H' → SqZ K H' p (xs ++ ys) → Q (.ref p) H') : rCatZ K (.ref a) (.ref b) H Q :=
  ⟨a, b, xs, ys, rfl, rfl, h.sq, g.sq, by rw [sizeLine_eq]; omega, fun c => q _ _ (Same.refl H) (by rw [c]; exact g), fun _ c => q _ _ (Same.refl H) (by rw [c, List.append_nil]; exact h), fun _ _ p H' n => q _ _ n.same n.sqz⟩
theorem catZ_l (h : SqZ K H a xs) (hx : xs ≠ []) (g : SqT K H b ys) (hs : xs.length + ys.length ≤ 1000000) (q : ∀ p H', Same H H' → SqZ K H' p (xs ++ ys) → Q (.ref p) H') : rCatZ K (.ref a) (.ref b) H Q :=
  ⟨a, b, xs, ys, rfl, rfl, h.sq, g, by rw [sizeLine_eq]; omega, fun c => absurd c hx, fun _ c => q _ _ (Same.refl H) (by rw [c, List.append_nil]; exact h), fun _ _ p H' n => q _ _ n.same n.sqz⟩
end
end Sy
/-! _law_stump -/
namespace Sy
open PySem PySem.Spec PyProof.Rows L2
/-- words of stumps -/
def Ws (x : Str) : Prop := Wd x ∨ x = "*"
theorem Ws.sok {x : Str} (h : Ws x) : PyData.strOk x = true := by
  rcases h with h | rfl
  · unfold PyData.strOk
    rw [← Array.all_toList, List.all_eq_true]
    intro c hc
    have := (h.2.2 c hc).2
    exact decide_eq_true (by omega)
  · decide +kernel
theorem star_nk {rows : List Sy.Row} (h : KdsOk rows) : isK rows "*" = false := by
  unfold isK
  rw [lookup_none (fun r hr e => ?_)]
  · rfl
  · have := h.wd r hr
    rw [e] at this
    exact absurd (this.2.2 42 (by decide +kernel)) (by unfold Lt; omega)
theorem ar_star {rows : List Sy.Row} (h : KdsOk rows) : ar rows "*" = 0 := by
  have := star_nk h
  unfold isK at this
  unfold ar
  cases e : rows.lookup ("*" : Str) with
  | none => rfl
  | some n => rw [e] at this; cases this
theorem row_at {rows : List Sy.Row} (nd : (rows.map (·.1)).Nodup) {r : Sy.Row} (h : r ∈ rows) : isK rows r.1 = true ∧ ar rows r.1 = r.2 := by
  have lk : rows.lookup r.1 = some r.2 := by
    induction rows with
    | nil => cases h
    | cons q rs ih =>
      rw [lookup_cons]
      rcases List.mem_cons.mp h with rfl | h
      · rw [if_pos rfl]
      · have nd := List.nodup_cons.mp nd
        rw [if_neg (fun e => nd.1 (by show q.1 ∈ _; rw [e]; exact List.mem_map_of_mem h))]
        exact ih nd.2 h
  unfold isK ar
  rw [lk]
  exact ⟨rfl, rfl⟩
/-- a row begun, of which n branches are still to come -/
def Pre (rows : List Sy.Row) (l : List Str) (n : Nat) : Prop := ∀ rest, fa rows ["*"] 1 0 (l ++ rest) = fa rows ["*"] n l.length rest
theorem Pre.kind {rows : List Sy.Row} {l : List Str} {n : Nat} (h : Pre rows l n) (hn : 0 < n) {x : Str} (hx : isK rows x = true) : Pre rows (l ++ [x]) (n - 1 + ar rows x) := fun rest => by
  rw [List.append_assoc, h, List.length_append]
  show fa rows ["*"] n l.length (x :: rest) = _
  rw [fa, if_neg (by omega), if_neg (fun z => by rw [hx] at z; cases z.1)]
  rfl
theorem Pre.hole {rows : List Sy.Row} {l : List Str} {n : Nat} (h : Pre rows l n) (hn : 0 < n) (e : ar rows "*" = 0) : Pre rows (l ++ [("*" : Str)]) (n - 1) := fun rest => by
  rw [List.append_assoc, h, List.length_append]
  show fa rows ["*"] n l.length ("*" :: rest) = _
  rw [fa, if_neg (by omega), if_neg (fun z => z.2 List.mem_cons_self), e]
  rfl
theorem Pre.nil {rows : List Sy.Row} : Pre rows [] 1 := fun rest => rfl
theorem Pre.done {rows : List Sy.Row} {l : List Str} (h : Pre rows l 0) : fa rows ["*"] 1 0 l = -1 := by
  have := h []
  rw [List.append_nil] at this
  rw [this, fa]
  exact if_neg (by omega)
theorem Hs.sqz {K : PySem.W.Frag} {B H H' : Hp} {L : List (Addr × HO)} {p : Addr} {xs : List V} (h : Hs B L H) (al : AllL L) (s : Same H H') (z : SqZ K H' p xs) : ∃ B', Same B B' ∧ Hs B' L H' ∧ SqZ K B' p xs :=
  ⟨_, (h.after s).1, (h.after s).2, z.stay (stay_cut h al s)⟩
/-- a stump as the law makes it -/
structure StpOk (rows : List Sy.Row) (l : List Str) (m : Nat) : Prop where
  ck : fa rows ["*"] 1 0 l = -1
  le : l.length ≤ m
  wd : ∀ x ∈ l, isK rows x = true ∧ Wd x ∨ x = "*"
  hd : ∃ x t, l = x :: t ∧ isK rows x = true ∧ 0 < ar rows x
theorem StpOk.ws {rows : List Sy.Row} {l : List Str} {m : Nat} (h : StpOk rows l m) : ∀ x ∈ l, Ws x := fun x hx => (h.wd x hx).imp (·.2) id
section
variable {P : Program} {w : World} {K : PySem.W.Frag} {mg : Str → Option Value} {base : Heap}
def spStL (K : PySem.W.Frag) : Sp := fun vs H Q _ => ∃ (c g q : Addr) (most : Nat) (rows : List Sy.Row), vs = [.ref g, .ref q, .int (most : Nat)] ∧ Bag c g H ∧ q ≠ g ∧ RL K H q rows ∧ KdsOk rows ∧ most ≤ 6 ∧ (∃ r ∈ rows, 0 < r.2 ∧ r.2 < most) ∧
  ∀ p l H', StpOk rows l most → Dr c g H H' → SqZ K H' p (l.map V.str) → Q (.ref p) H'
theorem RL.del {H : Hp} {q g : Addr} {rows : List Sy.Row} {ys : List V} (h : RL K H q rows) (ne : q ≠ g) (hg : H g = some (.lst ys)) : RL K (L2.del H g) q rows := by
  obtain ⟨pr, h1, h2, h3⟩ := h
  exact ⟨pr, h1, by rw [del_ne ne]; exact h2, h3.stay (stay_del hg)⟩
theorem Bag.takeR {c g q : Addr} {H : Hp} {rows : List Sy.Row} (b : Bag c g H) (ne : q ≠ g) (h : RL K H q rows) : ∃ x, Hs (L2.del H g) [(g, bagO c x)] H ∧ Cells c (L2.del H g) ∧ RL K (L2.del H g) q rows := by
  obtain ⟨⟨x, e⟩, _⟩ := id b
  obtain ⟨y, h1, h2⟩ := b.take
  exact ⟨y, h1, h2, h.del ne e⟩
abbrev N_stL : List Str := ["_law_bag_here", "_law_kinds_here", "_law_most", "_law_pair_here", "_law_roots", "_law_row", "_law_need", "_law_k", "_law_choice", "_law_at", "_law_one"]
theorem sc_stL : FnScope N_stL ["_law_bag_here", "_law_kinds_here", "_law_most"] (defScope (top 45)) := ⟨rfl, rfl, rfl, by decide +kernel, rfl, by decide +kernel, by decide +kernel⟩
theorem k_stL (T : Txt K mg) (F : DF K mg "_law_stump" 45) (c_law_pick : Cal P w K mg base 1 "_law_pick" ["_law_bag_here", "_law_limit"] spPick) : Cal P w K mg base 2 "_law_stump" ["_law_bag_here", "_law_kinds_here", "_law_most"] (spStL K) := by
  refine cal_of F.1 F.2 sc_stL (fun _ _ _ _ _ _ us e => match us, e with | [_, _, _], _ => rfl) (fun vs H Q E s => by obtain ⟨_, _, _, _, _, rfl, _⟩ := s; rfl) ?_
  intro cdv A outer s H vs Q E hr h
  obtain ⟨c, g, q, most, rows, rfl, hg, hne, hRL, ok, hm6, hroot, hq⟩ := h
  have sc := sc_stL
  refine ⟨_, (pss_cons (ps_setLc (i := 4) (own := [("_law_pair_here", 3)]) (g := gName 3) rfl sc.nd rfl rfl (sw_true rfl rfl rfl (by decide +kernel)) (pi_list (pv 1)) (blkOk_by (N := N_stL) (sc := defScope (top 45)) (by decide +kernel)) (fun _ _ _ _ _ => (pg_name (i := 3) sc.nd rfl (Or.inl rfl))) (fun _ _ _ _ _ => (pts_one (pt_chain op_lt op_lt pe_int (pe_ixTK K rfl (pv 3) pe_int (fun _ _ => rfl)) (pv 2)))) (fun _ _ _ _ _ => (pv 3)))
      (pss_cons (ps_set (i := 3) sc.nd rfl (Or.inl rfl) (pe_ix ix_list (pv 4) (pe_cal c_law_pick hr (pa_cons (pv 0) (pa_cons (pe_callB call_len_seq (by rfl) T.len (by decide +kernel) (pa_cons (pv 4) pa_nil)) pa_nil))) (fun _ _ => rfl)))
      (pss_cons (ps_set (i := 5) sc.nd rfl (Or.inr rfl) (pe_tupZ (pa_cons (pe_ix ix_tup (pv 3) pe_int (fun _ _ => rfl)) pa_nil)))
      (pss_cons (ps_set (i := 6) sc.nd rfl (Or.inr rfl) (pe_ix ix_tup (pv 3) pe_int (fun _ _ => rfl)))
      (pss_cons (ps_for (passes_of rfl) rfl (pi_range1 rfl T.range (pa_cons (pv 2) pa_nil)) (pg_name (i := 7) sc.nd rfl (Or.inl rfl))
        (pss_cons (ps_if (pt_cmpR op_eq (pv 6) pe_int (nomark _))
          (pss_one ps_break)
          pss_nil)
        (pss_cons (ps_setLc (i := 8) (own := [("_law_one", 10)]) (g := gName 10) rfl sc.nd rfl rfl (sw_true rfl rfl rfl (by decide +kernel)) (pi_list (pv 1)) (blkOk_by (N := N_stL) (sc := defScope (top 45)) (by decide +kernel)) (fun _ _ _ _ _ => (pg_name (i := 10) sc.nd rfl (Or.inl rfl))) (fun _ _ _ _ _ => (pts_one (pt_cmpR op_le (pe_op op_add (pe_op op_add (pe_callB (call_lenK K rfl) (by rfl) T.len (by decide +kernel) (pa_cons (pv 5) pa_nil)) (pv 6)) (pe_ixTK K rfl (pv 10) pe_int (fun _ _ => rfl))) (pv 2) (nomark _)))) (fun _ _ _ _ _ => (pv 10)))
        (pss_cons (ps_set (i := 9) sc.nd rfl (Or.inl rfl) (pe_cal c_law_pick hr (pa_cons (pv 0) (pa_cons (pe_op op_mul pe_int (pe_callB call_len_seq (by rfl) T.len (by decide +kernel) (pa_cons (pv 8) pa_nil))) pa_nil))))
        (pss_one (ps_if (pt_cmpR op_lt (pv 9) (pe_callB call_len_seq (by rfl) T.len (by decide +kernel) (pa_cons (pv 8) pa_nil)) (nomark _))
          (pss_cons (ps_set (i := 5) sc.nd rfl (Or.inr rfl) (pe_op op_catZ (pv 5) (pe_tupZ (pa_cons (pe_ix ix_tup (pe_ix ix_list (pv 8) (pv 9) (fun _ _ => rfl)) pe_int (fun _ _ => rfl)) pa_nil))))
          (pss_one (ps_set (i := 6) sc.nd rfl (Or.inr rfl) (pe_op op_add (pe_op op_sub (pv 6) pe_int) (pe_ix ix_tup (pe_ix ix_list (pv 8) (pv 9) (fun _ _ => rfl)) pe_int (fun _ _ => rfl))))))
          (pss_cons (ps_set (i := 5) sc.nd rfl (Or.inr rfl) (pe_op op_catZ (pv 5) (pe_tupZ (pa_cons pe_str pa_nil))))
          (pss_one (ps_set (i := 6) sc.nd rfl (Or.inr rfl) (pe_op op_sub (pv 6) pe_int))))))))))
      (pss_one (ps_ret (pv 5)))))))), ?_⟩
  obtain ⟨x0, h0, bc0, pr, rfl, hL, hat⟩ := hg.takeR hne hRL
  have hle := ok.le
  rw [List.length_map] at hle
  have nd := ok.ok.nd
  have hHL : H q = some (.lst (pr.map fun z => V.ref z.1)) := h0.sub _ _ hL
  generalize hB0 : L2.del H g = B0 at *
  refine ⟨_, rfl, q, rfl, ⟨_, SqL.of hHL⟩, fun D hD => lc_filt (K := K) (xs := pr) (f := fun z => V.ref z.1) (out := fun z => V.ref z.1) (keep := fun z => decide (0 < z.2.2 ∧ z.2.2 < most)) h0 hD (fun _ _ z => z.sub _ _ hL) (by omega) (fun z hz H' s' R1 R2 k1 k2 => ?_) (fun H1 h1 => ?_)⟩
  · have tz := Same.sqt s' (hat.at_ z hz)
    refine ⟨_, rfl, z.1, _, _, _, rfl, rfl, tz, atI_nat (j := 1) rfl, _, _, rfl, rfl, _, rfl, if_dec (fun c1 => ?_) (fun c1 => ?_)⟩
    · refine ⟨_, rfl, _, _, rfl, rfl, _, rfl, if_dec (fun c2 => ?_) (fun c2 => ?_)⟩
      · exact ⟨_, rfl, k1 (decide_eq_true ⟨by omega, by omega⟩)⟩
      · exact k2 (decide_eq_false (by omega))
    · exact ⟨_, rfl, k2 (decide_eq_false (by omega))⟩
  · -- the roots
    have hgv := h1.give
    have h2 := hgv.2
    have s2 := hgv.1
    have eD : upd B0 D (.lst ((pr.filter fun z => decide (0 < z.2.2 ∧ z.2.2 < most)).map fun z => V.ref z.1)) D = some (.lst ((pr.filter fun z => decide (0 < z.2.2 ∧ z.2.2 < most)).map fun z => V.ref z.1)) := upd_same
    generalize upd B0 D (.lst ((pr.filter fun z => decide (0 < z.2.2 ∧ z.2.2 < most)).map fun z => V.ref z.1)) = B1 at *
    have hpos : 0 < (pr.filter fun z => decide (0 < z.2.2 ∧ z.2.2 < most)).length := by
      obtain ⟨r, hr', h1, h2⟩ := hroot
      obtain ⟨z, hz, rfl⟩ := List.mem_map.mp hr'
      exact List.length_pos_of_mem (List.mem_filter.mpr ⟨hz, decide_eq_true ⟨h1, h2⟩⟩)
    have hfl := List.length_filter_le (fun z : Addr × Sy.Row => decide (0 < z.2.2 ∧ z.2.2 < most)) pr
    generalize hroots : pr.filter (fun z => decide (0 < z.2.2 ∧ z.2.2 < most)) = roots at *
    refine ⟨_, rfl, _, rfl, _, rfl, D, _, rfl, .inl (SqL.of (h2.sub _ _ eD)), c, g, roots.length, by rw [List.length_map], h2.bag (bc0.mono s2), hpos, by omega, fun j H3 hj d3 => ?_⟩
    obtain ⟨x3, B3, s3, h3⟩ := h2.dr0 d3
    obtain ⟨zr, ezr⟩ : ∃ z, roots[j]? = some z := ⟨_, List.getElem?_eq_getElem hj⟩
    have hzr : zr ∈ pr ∧ 0 < zr.2.2 ∧ zr.2.2 < most := by
      have hm := List.mem_of_getElem? ezr
      rw [← hroots] at hm
      obtain ⟨a, b⟩ := List.mem_filter.mp hm
      exact ⟨a, of_decide_eq_true b⟩
    have s13 := s2.trans s3
    have hat3 := hat.mono s13
    have tz := hat3.at_ zr hzr.1
    refine ⟨D, _, _, .ref zr.1, rfl, rfl, SqL.of (h3.sub _ _ (s3 _ _ eD)), atI_nat (by rw [List.getElem?_map, ezr]; rfl), ?_⟩
    refine ⟨_, rfl, zr.1, _, _, _, rfl, rfl, Same.sqt h3.sub tz, atI_nat (j := 0) rfl, (by show 1 ≤ sizeLine; decide), fun p4 H4 n4 => ?_⟩
    obtain ⟨B4, s4, h4, z4⟩ := h3.sqz (K := K) (AllL.cons AllL.nil) n4.same n4.sqz
    refine ⟨_, rfl, zr.1, _, _, _, rfl, rfl, Same.sqt n4.same (Same.sqt h3.sub tz), atI_nat (j := 1) rfl, ?_⟩
    have s14 := s13.trans s4
    obtain ⟨kz, az⟩ := row_at nd (List.mem_map_of_mem hzr.1)
    have wz := ok.wd zr.2 (List.mem_map_of_mem hzr.1)
    have fin : ∀ (l : List Str) (p : Addr) (x : Int × Int × Int) (B H' : Hp), l.length ≤ most → Pre (pr.map (·.2)) l 0 → (∀ x ∈ l, isK (pr.map (·.2)) x = true ∧ Wd x ∨ x = "*") → (∃ t, l = zr.2.1 :: t) → SqZ K B p (l.map V.str) → Same B0 B → Hs B [(g, bagO c x)] H' → Q (.ref p) H' := fun l p x B H' h1 h2 h3 ⟨t, h4⟩ h5 h6 h7 =>
      hq p l H' ⟨h2.done, h1, h3, zr.2.1, t, h4, kz, by rw [az]; exact hzr.2.1⟩ (h7.isDr (by rw [hB0]; exact h6)) (h5.same h7.sub)
    refine ⟨_, rfl, _, rfl, by omega, by omega, for_rng (n := most) (fun i σ H' => ∃ (t7 t8 t9 : Option V) (l : List Str) (n : Nat) (p : Addr) (x : Int × Int × Int) (B : Hp), σ = [some (.ref g), some (.ref q), some (.int (most : Nat)), some (.ref zr.1), some (.ref D), some (.ref p), some (.int (n : Nat)), t7, t8, t9, none] ∧
        l.length = i + 1 ∧ l.length + n ≤ most ∧ Pre (pr.map (·.2)) l n ∧ (∀ x ∈ l, isK (pr.map (·.2)) x = true ∧ Wd x ∨ x = "*") ∧ (∃ t, l = zr.2.1 :: t) ∧ SqZ K B p (l.map V.str) ∧ Same B0 B ∧ Hs B [(g, bagO c x)] H')
      ⟨none, none, none, [zr.2.1], zr.2.2, p4, x3, B4, rfl, rfl, by show 1 + zr.2.2 ≤ most; omega, ?_, fun x hx => ?_, ⟨[], rfl⟩, z4, s14, h4⟩ ?_ ?_⟩
    · have := (Pre.nil (rows := pr.map (·.2))).kind (by decide) kz
      rw [az] at this
      have e : (1 - 1 + zr.2.2 : Nat) = zr.2.2 := by omega
      rw [e] at this
      exact this
    · rw [List.mem_singleton.mp hx]
      exact .inl ⟨kz, wz⟩
    · rintro i σ H5 hi ⟨t7, t8, t9, l, n, p, x, B, rfl, hl, hn, hpre, hwd, hhd, zp, sB, hh⟩
      refine ⟨_, rfl, rfl, _, rfl, if_dec (fun c0 => ?_) (fun c0 => ?_)⟩
      · have c0 : n = 0 := by have := V.int.inj c0; omega
        subst c0
        exact ⟨_, rfl, fin l p x B H5 (by omega) hpre hwd hhd zp sB hh⟩
      have c0 : 0 < n := Nat.pos_of_ne_zero fun z => c0 (by rw [z]; rfl)
      have hLB := sB _ _ hL
      have hatB := hat.mono sB
      refine ⟨_, rfl, q, rfl, ⟨_, SqL.of (hh.sub _ _ hLB)⟩, fun D5 hD5 => lc_filt (K := K) (xs := pr) (f := fun z => V.ref z.1) (out := fun z => V.ref z.1) (keep := fun z => decide (l.length + n + z.2.2 ≤ most)) hh hD5 (fun _ _ z => z.sub _ _ hLB) (by omega) (fun z hz H' s' R1 R2 k1 k2 => ?_) (fun H6 h6 => ?_)⟩
      · have tz := Same.sqt s' (hatB.at_ z hz)
        refine ⟨_, rfl, p, _, rfl, .inr (Same.sqt s' zp.sq), _, rfl, _, _, rfl, rfl, _, rfl, z.1, _, _, _, rfl, rfl, tz, atI_nat (j := 1) rfl, _, _, rfl, rfl, _, rfl, _, _, rfl, rfl, _, rfl, ?_⟩
        rw [List.length_map]
        refine if_dec (fun c1 => ⟨_, rfl, k1 (decide_eq_true (by omega))⟩) (fun c1 => k2 (decide_eq_false (by omega)))
      · have hgv := h6.give
        have h7 := hgv.2
        have s7 := hgv.1
        have e7 : upd B D5 (.lst ((pr.filter fun z => decide (l.length + n + z.2.2 ≤ most)).map fun z => V.ref z.1)) D5 = some (.lst ((pr.filter fun z => decide (l.length + n + z.2.2 ≤ most)).map fun z => V.ref z.1)) := upd_same
        generalize upd B D5 (.lst ((pr.filter fun z => decide (l.length + n + z.2.2 ≤ most)).map fun z => V.ref z.1)) = B7 at *
        have cpos : 0 < (pr.filter fun z => decide (l.length + n + z.2.2 ≤ most)).length := by
          obtain ⟨r, hr', e0⟩ := ok.ok.lf
          obtain ⟨z, hz, rfl⟩ := List.mem_map.mp hr'
          exact List.length_pos_of_mem (List.mem_filter.mpr ⟨hz, decide_eq_true (by omega)⟩)
        have cle := List.length_filter_le (fun z : Addr × Sy.Row => decide (l.length + n + z.2.2 ≤ most)) pr
        generalize hch : pr.filter (fun z => decide (l.length + n + z.2.2 ≤ most)) = ch at *
        have e2c : (2 : Int) * (((ch.map fun z => V.ref z.1).length : Nat) : Int) = ((2 * ch.length : Nat) : Int) := by rw [List.length_map]; omega
        refine ⟨_, rfl, _, rfl, D5, _, rfl, .inl (SqL.of (h7.sub _ _ e7)), _, _, rfl, rfl, .inl (by decide), c, g, 2 * ch.length, by show [V.ref g, V.int (2 * (((ch.map fun z => V.ref z.1).length : Nat) : Int))] = _; rw [e2c], h7.bag (bc0.mono (sB.trans s7)), by omega, by omega, fun at_ H8 hat8 d8 => ?_⟩
        obtain ⟨x8, B8, s8, h8⟩ := h7.dr0 d8
        have sB8 := (sB.trans s7).trans s8
        have zp8 := zp.same (s7.trans s8)
        have eD8 := h8.sub _ _ (s8 _ _ e7)
        refine ⟨_, rfl, _, rfl, D5, _, rfl, .inl (SqL.of eD8), _, _, rfl, rfl, _, rfl, ?_⟩
        rw [List.length_map]
        refine if_dec (fun c9 => ?_) (fun c9 => ?_)
        · have c9 : at_ < ch.length := by omega
          obtain ⟨zc, ezc⟩ : ∃ z, ch[at_]? = some z := ⟨_, List.getElem?_eq_getElem c9⟩
          have hzc : zc ∈ pr ∧ l.length + n + zc.2.2 ≤ most := by
            have hm := List.mem_of_getElem? ezc
            rw [← hch] at hm
            obtain ⟨a, b⟩ := List.mem_filter.mp hm
            exact ⟨a, of_decide_eq_true b⟩
          have tzc := (hat.mono sB8).at_ zc hzc.1
          obtain ⟨kc, ac⟩ := row_at nd (List.mem_map_of_mem hzc.1)
          have wc := ok.wd zc.2 (List.mem_map_of_mem hzc.1)
          have atc : atI (ch.map fun z => V.ref z.1) ((at_ : Nat) : Int) = some (.ref zc.1) := atI_nat (by rw [List.getElem?_map, ezc]; rfl)
          refine ⟨_, rfl, _, rfl, _, rfl, D5, _, _, .ref zc.1, rfl, rfl, SqL.of eD8, atc, zc.1, _, _, _, rfl, rfl, Same.sqt h8.sub tzc, atI_nat (j := 0) rfl, (by show 1 ≤ sizeLine; decide), fun p9 H9 n9 => ?_⟩
          obtain ⟨B9, s9, h9, z9⟩ := h8.sqz (K := K) (AllL.cons AllL.nil) n9.same n9.sqz
          refine catZ_l (zp8.same (s9.trans h9.sub)) (by rw [ne_eq, List.map_eq_nil_iff]; obtain ⟨t, rfl⟩ := hhd; exact fun z => nomatch z) (z9.same h9.sub).sq (by rw [List.length_map]; show _ + 1 ≤ _; omega) (fun p10 H10 s10 z10 => ?_)
          obtain ⟨B10, s10', h10, z10'⟩ := h9.sqz (K := K) (AllL.cons AllL.nil) s10 z10
          have sB10 := (sB8.trans s9).trans s10'
          have eD10 := h10.sub _ _ (s10' _ _ (s9 _ _ (s8 _ _ e7)))
          have tz10 := Same.sqt h10.sub ((hat.mono sB10).at_ zc hzc.1)
          have en : ((n : Int) - 1 + (zc.2.2 : Nat)) = ((n - 1 + zc.2.2 : Nat) : Int) := by omega
          have el : (l ++ [zc.2.1]).map V.str = l.map V.str ++ [V.str zc.2.1] := by rw [List.map_append]; rfl
          refine ⟨_, rfl, _, _, rfl, rfl, _, rfl, _, rfl, D5, _, _, .ref zc.1, rfl, rfl, SqL.of eD10, atc, zc.1, _, _, _, rfl, rfl, tz10, atI_nat (j := 1) rfl, _, _, rfl, rfl, ?_⟩
          refine ⟨_, _, _, l ++ [zc.2.1], n - 1 + zc.2.2, p10, x8, B10, by rw [← en]; rfl, by rw [List.length_append, hl]; rfl, by rw [List.length_append]; show _ + 1 + _ ≤ _; omega, ?_, fun y hy => ?_, ?_, by rw [el]; exact z10', sB10, h10⟩
          · have := hpre.kind c0 kc
            rw [ac] at this
            exact this
          · rcases List.mem_append.mp hy with hy | hy
            · exact hwd y hy
            · rw [List.mem_singleton.mp hy]
              exact .inl ⟨kc, wc⟩
          · obtain ⟨t, rfl⟩ := hhd
            exact ⟨t ++ [zc.2.1], rfl⟩
        · refine ⟨_, rfl, (by show 1 ≤ sizeLine; decide), fun p9 H9 n9 => ?_⟩
          obtain ⟨B9, s9, h9, z9⟩ := h8.sqz (K := K) (AllL.cons AllL.nil) n9.same n9.sqz
          refine catZ_l (zp8.same (s9.trans h9.sub)) (by rw [ne_eq, List.map_eq_nil_iff]; obtain ⟨t, rfl⟩ := hhd; exact fun z => nomatch z) (z9.same h9.sub).sq (by rw [List.length_map]; show _ + 1 ≤ _; omega) (fun p10 H10 s10 z10 => ?_)
          obtain ⟨B10, s10', h10, z10'⟩ := h9.sqz (K := K) (AllL.cons AllL.nil) s10 z10
          have sB10 := (sB8.trans s9).trans s10'
          have en : ((n : Int) - 1) = ((n - 1 : Nat) : Int) := by omega
          have el : (l ++ [("*" : Str)]).map V.str = l.map V.str ++ [V.str "*"] := by rw [List.map_append]; rfl
          refine ⟨_, rfl, _, _, rfl, rfl, ?_⟩
          refine ⟨_, _, _, l ++ [("*" : Str)], n - 1, p10, x8, B10, by rw [← en]; rfl, by rw [List.length_append, hl]; rfl, by rw [List.length_append]; show _ + 1 + _ ≤ _; omega, hpre.hole c0 (ar_star ok), fun y hy => ?_, ?_, by rw [el]; exact z10', sB10, h10⟩
          · rcases List.mem_append.mp hy with hy | hy
            · exact hwd y hy
            · exact .inr (List.mem_singleton.mp hy)
          · obtain ⟨t, rfl⟩ := hhd
            exact ⟨t ++ [("*" : Str)], rfl⟩
    · rintro σ H5 ⟨t7, t8, t9, l, n, p, x, B, rfl, hl, hn, _⟩
      omega
end
end Sy
/-! < of data, min of a list of data (own rules over the library's) -/
namespace Sy
open PySem PySem.Spec PyProof.Rows L2 PySem.W
def rLtD (K : PySem.W.Frag) : R2 := fun x y H Q => ∃ d e, Dp K H x d ∧ Dp K H y e ∧ alike d e = true ∧ d ≠ .none ∧ d.depth ≤ 40 ∧ Q (.bl (dataLt d e)) H
theorem op_ltD {X : Cx} (hu : X.A.units + 65 < cLine) : OpR X (compareOp .Lt) (rLtD X.K) := by
  intro pins s σ H x y v u Q I rx ry h
  obtain ⟨d, e, hd, he, ha, hn, hl, q⟩ := h
  obtain ⟨as, r1⟩ := Dp.reads I d x v hd rx
  obtain ⟨bs, r2⟩ := Dp.reads I e y u he ry
  exact lt_data r1 r2 ha hn (by have := Nat.min_le_left d.depth e.depth; omega) ⟨.bl _, H, I, rfl, q⟩
end Sy
/-! min(l, key=lambda x: ..), the lambda with one parameter and captured cells; the table of code objects told exactly -/
namespace Sy
open PySem PySem.Spec PyProof.Rows L2 PySem.W LamX NdefX
/-- the table ps tells code objects of the name q, known in H -/
def TbOk (H : Hp) (ps : Array Value) (q : Str) : Prop := TriplesOk ps.toList ∧ ∀ (pos : Pos) (cv : Value), codeAmong pos ps.toList = some cv → ∃ c, cv = .ref c ∧ H c = some (CodeO c q)
theorem TbOk.nil (H : Hp) (q : Str) : TbOk H #[] q := ⟨True.intro, fun pos cv hc => by
  have z : codeAmong pos [] = some cv := hc
  simp [codeAmong] at z⟩
theorem codeO_nl {c : Addr} {q : Str} (xs : List V) : CodeO c q ≠ .lst xs := fun z => by
  unfold CodeO at z
  cases z
theorem TbOk.stay {H H' : Hp} {ps : Array Value} {q : Str} (t : TbOk H ps q) (s : Stay H H') : TbOk H' ps q := ⟨t.1, fun pos cv hc => by
  obtain ⟨c, e1, e2⟩ := t.2 pos cv hc
  exact ⟨c, e1, s _ _ e2 fun xs => codeO_nl xs⟩⟩
theorem TbOk.same {H H' : Hp} {ps : Array Value} {q : Str} (t : TbOk H ps q) (s : Same H H') : TbOk H' ps q := t.stay (Stay.of s)
/-- the object at f is such a lambda -/
def LamO (f : Addr) (q : Str) (params : Arguments) (body : Expr) (scope : Scope) (cl : List (Str × Addr)) (c : Addr) : HO := .ext fun h => ∃ pm ctv, h.get? f = some (kla_obj "<lambda>" q params body scope cl pm c ctv)
section
variable {X : Cx} {pins : List (Addr × Obj)} {σ : L2.St} {H : Hp} {s : Shared}
theorem inv_lam {q : Str} {params : Arguments} {body : Expr} {scope : Scope} {cl : List (Str × Addr)} {c : Addr} {h' : Heap} {t' : Nat} {pm ctv : Value} (I : Inv X pins σ H { s with heap := h', toks := t' }) :
    Inv X pins σ (upd H h'.objs.size (LamO h'.objs.size q params body scope cl c)) { s with heap := h'.push (kla_obj "<lambda>" q params body scope cl pm c ctv), toks := t' } := by
  have e : (h'.push (kla_obj "<lambda>" q params body scope cl pm c ctv)).get? h'.objs.size = some (kla_obj "<lambda>" q params body scope cl pm c ctv) := Heap.get?_push_size _ rfl
  exact I.laid (a := h'.objs.size) (t' := t') (fun b u e => Heap.get?_push_of_some _ e) (Nat.le_refl _) ⟨⟨_, _, e⟩, ⟨_, e⟩, fun h1 h2 ⟨p, z, k⟩ st => ⟨p, z, st _ k⟩⟩
theorem lam_makeC {c P : Addr} {ps : Array Value} {params : Arguments} {body : Expr} {scope : Scope} {pos : Pos} {E : Value → Shared → Prop} {Q : Value → Shared → Prop} (I : Inv X pins σ H s) (TB : TabB X.base X.mg c P) (hcode : X.env.code = .ref c)
    (hP : H P = some (.tbl ps)) (hT : TbOk H ps (X.env.qual ++ "<lambda>")) (hdef : defaultsOf params X.env = ([], [])) (hfree : ∀ y ∈ scope.names, y.2 = .free → ∃ c, X.env.cells.lookup y.1 = some c)
    (h : ∀ (f c' : Addr) (ps' : Array Value) (H1 : Hp) (s' : Shared), Inv X pins σ H1 s' → Chg P (.tbl ps') H H1 → TbOk H1 ps' (X.env.qual ++ "<lambda>") →
      H f = none → H1 f = some (LamO f (X.env.qual ++ "<lambda>") params body scope (cloFrom X.env.cells scope.names []) c') → H1 c' = some (CodeO c' (X.env.qual ++ "<lambda>")) → Q (.ref f) s') :
    wpAny (model X.prog X.w) X.A (eval (.Lambda params body scope pos) X.env) Q E s := by
  obtain ⟨ht, ha⟩ := hT
  refine PySem.W.kla_eval hdef ?_
  have bP : s.heap.BuiltinsAt X.mg P := TB.bm.keeps I.bk
  have hP' : s.heap.get? P = some { cls := .none, data := .fields ps } := I.hok P _ hP
  cases hc : codeAmong pos ps.toList with
  | none =>
    refine PySem.W.kla_makeFunction (mg := X.mg) (c := c) (P := P) (ps := ps) (closure_ok hfree) I.ok.glob (I.mod.glob.keeps I.bk) hcode (TB.code.keeps I.bk) hP' ht hc TB.gP bP fun c' ctv h' tk hx hge hlt hrec htb => ?_
    obtain ⟨c2, oc, vs, t, e2, hoc, hd, hv⟩ := hrec
    cases e2
    have hsz : s.heap.objs.size ≤ h'.objs.size := Nat.le_trans hge (Nat.le_of_lt hlt)
    have nC : H c' = none := I.hok.fresh hge
    have I1 := inv_table (t' := tk) (more := #[rawInt pos.line, rawInt pos.col, .ref c']) (h' := h') I hP (fun b o hb e => hx b o hb e) htb hge ⟨oc, vs, t, hoc, hd, hv⟩
    have nF : (upd (upd H P (.tbl (ps ++ #[rawInt pos.line, rawInt pos.col, .ref c']))) c' (CodeO c' (X.env.qual ++ "<lambda>"))) h'.objs.size = none := I1.hok.fresh (Nat.le_refl _)
    have I2 := inv_lam (pm := (X.mg "__name__").getD .none) (ctv := ctv) (q := X.env.qual ++ "<lambda>") (params := params) (body := body) (scope := scope) (cl := cloFrom X.env.cells scope.names []) (c := c') I1
    have eL : (ps ++ #[rawInt pos.line, rawInt pos.col, .ref c']).toList = ps.toList ++ [rawInt pos.line, rawInt pos.col, .ref c'] := by simp
    have cat : upd (upd (upd H P (.tbl (ps ++ #[rawInt pos.line, rawInt pos.col, .ref c']))) c' (CodeO c' (X.env.qual ++ "<lambda>"))) h'.objs.size (LamO h'.objs.size (X.env.qual ++ "<lambda>") params body scope (cloFrom X.env.cells scope.names []) c') c' = some (CodeO c' (X.env.qual ++ "<lambda>")) := by
      rw [upd_ne (Nat.ne_of_lt hlt), upd_same]
    have chg : Chg P (.tbl (ps ++ #[rawInt pos.line, rawInt pos.col, .ref c'])) H (upd (upd (upd H P (.tbl (ps ++ #[rawInt pos.line, rawInt pos.col, .ref c']))) c' (CodeO c' (X.env.qual ++ "<lambda>"))) h'.objs.size (LamO h'.objs.size (X.env.qual ++ "<lambda>") params body scope (cloFrom X.env.cells scope.names []) c')) := by
      refine ⟨?_, fun a w ne e => ?_⟩
      · have n1 : P ≠ h'.objs.size := Nat.ne_of_lt (Nat.lt_of_lt_of_le (Heap.lt_size hP') hsz)
        rw [upd_ne n1, upd_ne (ne_of_none hP nC), upd_same]
      · have e1 : upd (upd H P (.tbl (ps ++ #[rawInt pos.line, rawInt pos.col, .ref c']))) c' (CodeO c' (X.env.qual ++ "<lambda>")) a = some w := by
          rw [upd_ne (ne_of_none e nC), upd_ne ne]
          exact e
        rw [upd_ne (ne_of_none e1 nF)]
        exact e1
    refine h h'.objs.size c' _ _ _ I2 chg ⟨by rw [eL]; exact PySem.TriplesOk_snoc _ _ _ _ ht, fun p' cv hcv => ?_⟩ (I.hok.fresh hsz) upd_same cat
    rw [eL] at hcv
    rcases among_app _ ht hcv with z | z
    · obtain ⟨c0, e1, e2⟩ := ha p' cv z
      refine ⟨c0, e1, chg.2 _ _ (fun q => ?_) e2⟩
      rw [q, hP] at e2
      exact codeO_ne _ (Option.some.inj e2).symm
    · exact ⟨c', z, cat⟩
  | some cv =>
    obtain ⟨c', e, hco⟩ := ha pos cv hc
    subst e
    refine PySem.W.kla_makeFunctionHit (mg := X.mg) (c := c) (P := P) (ps := ps) (closure_ok hfree) I.ok.glob (I.mod.glob.keeps I.bk) hcode (TB.code.keeps I.bk) hP' ht hc bP fun ctv h' tk hx hsz => ?_
    have I1 : Inv X pins σ H { s with heap := h', toks := tk } := I.kept hx
    have nF : H h'.objs.size = none := I1.hok.fresh (Nat.le_refl _)
    have I2 := inv_lam (pm := (X.mg "__name__").getD .none) (ctv := ctv) (q := X.env.qual ++ "<lambda>") (params := params) (body := body) (scope := scope) (cl := cloFrom X.env.cells scope.names []) (c := c') I1
    have chg : Chg P (.tbl ps) H (upd H h'.objs.size (LamO h'.objs.size (X.env.qual ++ "<lambda>") params body scope (cloFrom X.env.cells scope.names []) c')) :=
      ⟨by rw [upd_ne (ne_of_none hP nF)]; exact hP, fun a w ne e => by rw [upd_ne (ne_of_none e nF)]; exact e⟩
    refine h h'.objs.size c' ps _ _ I2 chg ⟨ht, fun p' cv hcv => ?_⟩ nF upd_same (by rw [upd_ne (ne_of_none hco nF)]; exact hco)
    obtain ⟨c0, e1, e2⟩ := ha p' cv hcv
    exact ⟨c0, e1, by rw [upd_ne (ne_of_none e2 nF)]; exact e2⟩
/-- the lambda called with one argument; nothing tracked changes -/
theorem lam_run {N fr : List Str} {js : List Nat} {x : Str} {q : Str} {params : Arguments} {body : Expr} {scope : Scope} {cl : List (Str × Addr)} {c f : Addr} {k : Nat} {tb : TE} {v w : V} {u : Value} {E : Value → Shared → Prop} {Qq : Value → Shared → Prop}
    (I : Inv X pins σ H s) (S : NScope N [x] fr scope) (cp : Caps X cl fr js) (hr : Room (k + 2) X.A) (hf : H f = some (LamO f q params body scope cl c)) (hc : H c = some (CodeO c q))
    (hbind : ∀ (pm cv ctv : Value) (u : Value), bindArgs (kla_fn "<lambda>" q params body scope cl pm cv ctv) ⟨[u], []⟩ = pure [(x, u)])
    (hbody : ∀ (A : Around) (outer : List Env) (s : Shared) (H : Hp), Room k (A.deeper (envF ⟨"<lambda>", q, params, [], scope, cl, c⟩ f s.heap.objs.size)) → PE (ncx C8.CX0 X.prog X.w X.K X.mg X.base N ⟨"<lambda>", q, params, [], scope, cl, c⟩ f A outer s H C8.E0) body tb)
    (rv : RelV v u) (ht : tb (startF N [v] (js.map (slotAt σ))) H fun w' H' => w' = w ∧ H' = H)
    (h : ∀ u' s', Inv X pins σ H s' → Un (frs X.stack) [] H H s.heap s'.heap → RelV w u' → Qq u' s') : wpAny (model X.prog X.w) X.A.in1 (call (.ref f) [u]) Qq E s := by
  have C : CellsAt cl fr (js.map (slotAt σ)) s.heap H := cells_of I cp
  obtain ⟨⟨pm, ctv, ho⟩, _, _⟩ := I.hok f _ hf
  have hrec := codeO_at I.hok hc
  have e0 : Env0 X.prog X.w X.K X.mg X.base X.A.in1 X.stack s H := I.env0.in1
  have hr1 : Room (k + 1) X.A.in1 := hr.in1
  have rc : codeAny (model X.prog X.w) X.A.in1 (.call (.ref f) ⟨[u], []⟩) (CR C8.CX0 X.stack X.prog X.w H s (fun w' H' => w' = w ∧ H' = H) C8.E0) s := by
    refine PySem.W.kla_callFunE hr1.depth ho rfl S.co S.gen rfl hrec ?_
    rw [hbind]
    refine wpAny_pure (wpAny_newFunctionEnv S.nocell (fun y hy => ?_) (fun h₁ hns hsb => ⟨I.nolimit.fresh _ hsb, ?_⟩) S.kind)
    · rw [List.mem_singleton.mp hy]
      exact S.par x List.mem_cons_self
    show codeAny _ _ (.expr body (envF ⟨"<lambda>", q, params, [], scope, cl, c⟩ f s.heap.objs.size)) _ _
    have kp : ∀ b o, s.heap.get? b = some o → h₁.get? b = some o := fun b o e => hsb.extBut b o (Nat.ne_of_lt (Heap.lt_size e)) (Heap.get?_push_of_some _ e)
    have J : Inv (ncx C8.CX0 X.prog X.w X.K X.mg X.base N ⟨"<lambda>", q, params, [], scope, cl, c⟩ f X.A.in1 X.stack s H C8.E0) [] (startF N [v] (js.map (slotAt σ))) H { s with heap := h₁, toks := s.toks + ([(x, u)] : List (Str × Value)).length } :=
      inv_startN (ps := [x]) (us := [u]) S hr1.hd e0 rfl (.cons rv .nil) C hns kp
    refine PySem.W.kla_codeExpr (wpAny_mono ((hbody _ _ s H (hr1.deeper _)).run [] _ _ H _ J ht) (fun v s' hq => ?_) fun e s' hq => hq)
    obtain ⟨w', H', J', rv', q'⟩ := hq
    exact ⟨w', H', J'.os, J'.bare, J'.base, J'.hok, rv', q'⟩
  refine wpAny_call (codeAny_mono rc fun r s' hq => ?_)
  cases r with
  | error e => exact (show False from hq).elim
  | ok fl =>
    cases fl with
    | ret u' =>
      obtain ⟨w', H', os, bare, un, hok, rw', q1, q2⟩ := hq
      subst q1
      subst q2
      obtain ⟨w2, H2, I2, r2, q1, q2⟩ := I.after (Q := fun a b => a = w' ∧ b = H') ⟨w', H', os, bare, un, hok, rw', rfl, rfl⟩
      subst q1
      subst q2
      exact h u' s' I2 un r2
    | next => exact False.elim hq
    | brk => exact False.elim hq
    | cont => exact False.elim hq
end
theorem upd_back {H : Hp} {l : Addr} {o u : HO} (h : H l = some u) : upd (upd H l o) l u = H := by
  funext a
  by_cases e : a = l
  · rw [e, upd_same, h]
  · rw [upd_ne e, upd_ne e]
/-- all but l stays -/
def But (l : Addr) (H H' : Hp) : Prop := ∀ a o, a ≠ l → H a = some o → H' a = some o
def tMinL (K : PySem.W.Frag) (P : Addr) (q : Str) (N : List Str) (js : List Nat) (tb : TE) (te : TA) : TE := fun σ H Q => te σ H fun vs H1 => ∃ ps, H1 P = some (.tbl ps) ∧ TbOk H1 ps q ∧ ∀ ps' H2, Chg P (.tbl ps') H1 H2 → TbOk H2 ps' q →
  ∃ (l : Addr) (items ws : List V) (ds : List PyData), vs = [.ref l] ∧ H2 l = some (.lst items) ∧ 0 < items.length ∧ ws.length = items.length ∧ DpAll K H2 ws ds ∧ AlikeAll ds ∧ PyData.depthAll ds ≤ 40 ∧
    (∀ H3, But l H2 H3 → DpAll K H3 ws ds ∧ ∀ (i : Nat) (x w : V), items[i]? = some x → ws[i]? = some w → tb (startF N [x] (js.map (slotAt σ))) H3 fun w' H' => w' = w ∧ H' = H3) ∧
    ∀ x, items[argBest (fun i j => dataLt (ds.getD i .none) (ds.getD j .none)) (items.length - 1)]? = some x → Q x H2
section
variable {X : Cx}
theorem dpAll_at {K : PySem.W.Frag} {H : Hp} : ∀ {xs : List V} {ds : List PyData} {i : Nat} {x : V}, DpAll K H xs ds → xs[i]? = some x → ds[i]? = some (ds.getD i .none) ∧ Dp K H x (ds.getD i .none)
  | _, _, _, _, .nil, h => by simp at h
  | _, _, 0, _, .cons r _, h => by
    have := Option.some.inj h
    subst this
    exact ⟨rfl, r⟩
  | _, _, i + 1, _, .cons _ t, h => dpAll_at (i := i) t h
theorem vals_at {xs : List V} {us : List Value} (h : Vals xs us) {i : Nat} {u : Value} (e : us[i]? = some u) : ∃ x, xs[i]? = some x ∧ RelV x u := by
  induction h generalizing i with
  | nil => simp at e
  | cons r t ih =>
    cases i with
    | zero =>
      simp at e
      subst e
      exact ⟨_, rfl, r⟩
    | succ i => exact ih (by simpa using e)
theorem depth_mem {d : PyData} : ∀ {ds : List PyData}, d ∈ ds → d.depth ≤ PyData.depthAll ds
  | [], h => by cases h
  | x :: l, h => by
    rcases List.mem_cons.mp h with rfl | h
    · exact Nat.le_max_left _ _
    · exact Nat.le_trans (depth_mem h) (Nat.le_max_right _ _)
theorem pe_minLam {P c : Addr} {N fr : List Str} {js : List Nat} {x : Str} {params : Arguments} {body e : Expr} {scope : Scope} {lpos kp p pos : Pos} {k : Nat} {tb : TE} {te : TA}
    (hg : Gl X "min") (hm : X.mg "min" = none) (ha : PA X [e] te) (TB : TabB X.base X.mg c P) (hcode : X.env.code = .ref c) (hcalm : X.calm = true) (hr : Room (k + 3) X.A)
    (S : NScope N [x] fr scope) (hfree : ∀ y ∈ scope.names, y.2 = .free → X.env.scope.names.lookup y.1 = some .cell ∨ X.env.scope.names.lookup y.1 = some .free) (hfr : ∀ y ∈ fr, (y, NameKind.free) ∈ scope.names) (hjs : js.map (fun j => X.N[j]?) = fr.map some)
    (hdef : defaultsOf params X.env = ([], [])) (hbind : ∀ (q : Str) (cl : List (Str × Addr)) (pm cv ctv : Value) (u : Value), bindArgs (kla_fn "<lambda>" q params body scope cl pm cv ctv) ⟨[u], []⟩ = pure [(x, u)])
    (hbody : ∀ (A : Around) (outer : List Env) (s : Shared) (H : Hp) (cl : List (Str × Addr)) (c f : Addr), Room k (A.deeper (envF ⟨"<lambda>", X.env.qual ++ "<lambda>", params, [], scope, cl, c⟩ f s.heap.objs.size)) →
      PE (ncx C8.CX0 X.prog X.w X.K X.mg X.base N ⟨"<lambda>", X.env.qual ++ "<lambda>", params, [], scope, cl, c⟩ f A outer s H C8.E0) body tb)
    (he : backTo pos (starEach (e :: []) X.env) = (false, eval e X.env) :: backTo pos (starEach [] X.env) := by rfl) :
    PE X (.Call (.Name "min" p) [e] [⟨some "key", .Lambda params body scope lpos, kp⟩] pos) (tMinL X.K P (X.env.qual ++ "<lambda>") N js tb te) := by
  refine ⟨fun pins s σ H Q I h => ?_⟩
  have hfr2 : ∀ y ∈ scope.names, y.2 = .free → ∃ c, X.env.cells.lookup y.1 = some c := fun y hy e => (hfree y hy e).elim (fun z => I.ok.has _ (.inl z)) fun z => I.ok.has _ (.inr z)
  have cp : Caps X (cloFrom X.env.cells scope.names []) fr js := Caps.made I.ok hfree hfr hjs
  refine wpAny_Call_Name_kw (ld_blt I hg hm (by rfl) ?_ (by decide) (by decide))
  have hpl : (backTo pos (starEach (e :: []) X.env)).any (·.1) = false := by
    rw [he]
    rfl
  refine PyProof.Rows.callWith_kw (thn (ha.run pos pins s σ H _ I h) fun us s1 ⟨vs, H1, I1, r1, ps, hP, hT, q1⟩ => kws_cons (lam_makeC I1 TB hcode hP hT hdef hfr2 fun f c' ps' H2 s2 I2 chg tok nf hf hc => kws_nil ?_)) he hpl (by rfl) (by rfl)
  show wpAny (model X.prog X.w) X.A (call (.builtin "min") us [(Str.ofString "key", .ref f)]) _ _ _
  obtain ⟨l, items, ws, ds, rfl, hl, hn0, hwl, hds, hal, hdep, hrd, hq⟩ := q1 ps' H2 chg tok
  obtain ⟨u, rfl, rx⟩ := vals1 r1
  obtain rfl : u = Value.ref l := rx
  obtain ⟨od, I3⟩ := I2.lock hl True.intro
  have h3l : upd H2 l (.frz od (.lst items)) l = some (.frz od (.lst items)) := upd_same
  obtain ⟨its, rv, pl, hz⟩ := I3.list (.inl (.inr ⟨_, h3l⟩))
  have hnf : f ≠ l := fun z => by
    rw [z, hl] at hf
    cases hf
  have hnc : c' ≠ l := fun z => by
    rw [z, hl] at hc
    exact codeO_nl _ (Option.some.inj hc).symm
  have hf3 : upd H2 l (.frz od (.lst items)) f = some _ := (upd_ne hnf).trans hf
  have hc3 : upd H2 l (.frz od (.lst items)) c' = some _ := (upd_ne hnc).trans hc
  obtain ⟨hds3, hrd3⟩ := hrd _ fun a o ne e => (upd_ne ne).trans e
  have hu := hr.un
  have hh := I3.ok.hd hcalm
  have hlen : its.length = items.length := rv.length.symm
  refine call_min_walkK (iter_listW (A := X.A.in1) hh pl.isList fun s₃ e₃ W st hfp hw hk => ?_)
  have I4 : Inv X pins σ (upd H2 l (.frz od (.lst items))) s₃ := by
    rw [e₃]
    exact I3.kept (t' := s2.toks) fun b o e => Heap.get?_push_of_some _ e
  have sz3 : s₃.heap.objs.size = s2.heap.objs.size + 1 := by
    rw [e₃]
    exact Heap.size_push _ _
  have fpI : FpOk X pins (upd H2 l (.frz od (.lst items))) s2.heap.objs.size := I3.fpOk (Nat.le_refl _) (I3.hok.fresh (Nat.le_refl _))
  have fpS : FpOk X pins (upd H2 l (.frz od (.lst items))) s₃.heap.objs.size := I4.fpOk (Nat.le_refl _) (I4.hok.fresh (Nat.le_refl _))
  refine ⟨_, _, _, _, _, _, _, (fun s => Inv X pins σ (upd H2 l (.frz od (.lst items))) s), (fun i u _ => ∃ w, ws[i]? = some w ∧ RelV w u), (fun i j => dataLt (ds.getD i .none) (ds.getD j .none)), rfl, W, st, hfp, by rw [List.size_toArray]; omega, ?_, I4, fun v s' hPv hJ => ?_⟩
  · refine ⟨fun sa sb J m => ?_, fun i k sa sb hv m => hv, fun i v sa o Qa Ea hi hPv hJ hst hS cont => ?_, fun i j ki kj sa Qa Ea hJ hi hj hQ => ?_⟩
    · have eb : sb = { sa with heap := sb.heap, toks := sb.toks } := by
        obtain ⟨hp, g, d, tk, os⟩ := sb
        have h1 : g = sa.gens := m.gens
        have h2 : d = sa.drawn := m.drawn
        have h3 : os = sa.os := m.os
        subst h1
        subst h2
        subst h3
        rfl
      rw [eb]
      refine J.turnedL (ch := [s₃.heap.objs.size, s2.heap.objs.size]) (fun b o hb e => m.heap b o hb e) fun b hb => ?_
      rcases List.mem_cons.mp hb with rfl | hb
      · exact fpS
      · rw [List.mem_singleton.mp hb]
        exact fpI
    · have hPv' : its[i]? = some v := by simpa using hPv
      obtain ⟨xi, hxi, rxi⟩ := vals_at rv hPv'
      have hlt : i < items.length := by
        have := hi
        rw [List.size_toArray] at this
        omega
      have hwi : ws[i]? = some ws[i] := List.getElem?_eq_getElem (by omega)
      refine lam_run (k := k) hJ S cp (hr.mono (by omega)) hf3 hc3 (hbind _ _) (fun A outer s H r => hbody A outer s H _ _ _ r) rxi (hrd3 i xi _ hxi hwi) fun u' s' I' un r' => ?_
      have kp : ∀ b o, FpOk X pins (upd H2 l (.frz od (.lst items))) b → sa.heap.get? b = some o → s'.heap.get? b = some o := fun b o fp e => un.keep b o e fp.1 (fun z => (List.mem_cons.mp (hJ.stkSub b z)).elim fp.2.1 fp.2.2.1) (by simp)
      have hl' : s'.heap.IsList l its.toArray := by
        obtain ⟨e1, _⟩ := hJ.hok l _ h3l
        obtain ⟨e2, _⟩ := I'.hok l _ h3l
        obtain ⟨o1, e3, k1, k2⟩ := hst.2
        exact ⟨o1, by rw [e2, ← e1]; exact e3, k1, k2⟩
      have hI' : s'.heap.IsListIter s2.heap.objs.size l (i + 1) := by
        obtain ⟨o1, e3, k1⟩ := hst.1
        exact ⟨o1, kp _ _ fpI e3, k1⟩
      exact cont u' s' I' ⟨hI', hl'⟩ (kp _ _ fpS hS) ⟨_, hwi, r'⟩ fun j k' hv => hv
    · obtain ⟨wi, hwi, ri⟩ := hi
      obtain ⟨wj, hwj, rj⟩ := hj
      obtain ⟨mi, di⟩ := dpAll_at hds3 hwi
      obtain ⟨mj, dj⟩ := dpAll_at hds3 hwj
      obtain ⟨as, r1⟩ := Dp.reads hJ _ wi ki di ri
      obtain ⟨bs, r2⟩ := Dp.reads hJ _ wj kj dj rj
      have m1 := List.mem_of_getElem? mi
      have m2 := List.mem_of_getElem? mj
      refine lt_data r1 r2 (hal.1 _ m1 _ m2) (hal.2 _ m1) ?_ hQ
      have := Nat.min_le_left (ds.getD i .none).depth (ds.getD j .none).depth
      have := depth_mem m1
      show X.A.units + 1 + _ < _
      omega
  · have hPv' : its[argBest (fun i j => dataLt (ds.getD i .none) (ds.getD j .none)) (its.length - 1)]? = some v := by simpa using hPv
    rw [hlen] at hPv'
    obtain ⟨xi, hxi, rxi⟩ := vals_at rv hPv'
    have I5 := hJ.unlock h3l (I2.nofrz hl True.intro)
    rw [upd_back hl] at I5
    exact ⟨xi, H2, I5, rxi, hq xi hxi⟩
end
end Sy
/-! functions with captured cells that are handed to a def of the module and called there -/
namespace Sy
open PySem PySem.Spec PyProof.Rows L2 LamX NdefX
/-- the function at f, whose cells hold ws; kn: what has to be known of it -/
structure FnV (P : Program) (w : World) (K : PySem.W.Frag) (mg : Str → Option Value) (base : Heap) (k : Nat) (f : Addr) (cl : List (Str × Addr)) (fr : List Str) (ws : List (Option V)) (kn : Hp → Prop) (sp : Sp) : Prop where
  run : ∀ (A : Around) (outer : List Env) (s : Shared) (H : Hp) (us : List Value) (vs : List V) (Q : VK) (E : XK), Room k A → Env0 P w K mg base A outer s H → kn H → CellsAt cl fr ws s.heap H → Vals vs us → sp vs H Q E →
    codeAny (model P w) A (.call (.ref f) ⟨us, []⟩) (CR (L2.CX P w) outer P w H s Q E) s
  at_ : ∀ (H : Hp) (h : Heap), HOk P w H h → kn H → PySem.W.FnAt f h
  mono : ∀ H H', kn H → Stay H H' → kn H'
theorem fnO_nl {f : Addr} {F : NF} (xs : List V) : FnO f F ≠ .lst xs := fun z => by
  unfold FnO at z
  cases z
section
variable {P : Program} {w : World} {K : PySem.W.Frag} {mg : Str → Option Value} {base : Heap}
/-- a def made within a def -/
theorem fnv_of {k : Nat} {f : Addr} {F : NF} {ps fr : List Str} {ws : List (Option V)} {sp : List (Option V) → Sp} (o : NOk P w K mg base (L2.CX P w) k f F ps fr sp) :
    FnV P w K mg base k f F.cl fr ws (fun H => H f = some (FnO f F) ∧ H F.c = some (CodeO F.c F.qual)) (sp ws) where
  run A outer s H us vs Q E hr e0 kn C r q := o.run A outer s H us vs ws Q E hr e0 kn.1 kn.2 C r q
  at_ H h hok kn := by
    obtain ⟨od, sl, doc, pm, ctv, ho⟩ := fnO_at hok kn.1
    exact ⟨_, od, _, sl, ho⟩
  mono H H' kn s := ⟨s _ _ kn.1 fnO_nl, s _ _ kn.2 codeO_nl⟩
/-- promises of a def that is given such a function -/
abbrev VSp := List (Str × Addr) → List Str → List (Option V) → Sp
structure VOk (P : Program) (w : World) (K : PySem.W.Frag) (mg : Str → Option Value) (base : Heap) (k : Nat) (f : Addr) (fd : FuncData) (ps : List Str) (sp : VSp) : Prop where
  len : ∀ cl fr ws vs H Q E, sp cl fr ws vs H Q E → vs.length = ps.length
  run : ∀ (A : Around) (outer : List Env) (s : Shared) (H : Hp) (args : Args) (us : List Value) (vs : List V) (Q : VK) (E : XK) (cl : List (Str × Addr)) (fr : List Str) (ws : List (Option V)), Room k A → Env0 P w K mg base A outer s H → BindsTo s fd args (ps.zip us) →
    CellsAt cl fr ws s.heap H → (∀ y c, cl.lookup y = some c → c ∉ frs outer) → Vals vs us → sp cl fr ws vs H Q E → codeAny (model P w) A (.call (.ref f) args) (CR (L2.CX P w) outer P w H s Q E) s
theorem VOk.mono {j k : Nat} {f : Addr} {fd : FuncData} {ps : List Str} {sp : VSp} (F : VOk P w K mg base j f fd ps sp) (h : j ≤ k) : VOk P w K mg base k f fd ps sp :=
  ⟨F.len, fun A outer s H args us vs Q E cl fr ws hr => F.run A outer s H args us vs Q E cl fr ws (hr.mono h)⟩
/-- THE RULE: such a def by its body -/
theorem vn_of {k : Nat} {f : Addr} {name qual : Str} {params : Arguments} {body : List Stmt} {scope : Scope} {dV kV doc pm cdv ct oc : Value} {an od : Option Addr} {osl : Array (Option Value)} {N ps : List Str} {sp : VSp}
    (lk : K.lookup f = some ⟨oc, od, .func (PySem.W.fnOf name qual params body scope dV kV doc pm an cdv ct), osl⟩) (hcd : PySem.W.codeIn K cdv qual = true) (S : FnScope N ps scope)
    (len : ∀ cl fr ws vs H Q E, sp cl fr ws vs H Q E → vs.length = ps.length)
    (hbody : ∀ (A : Around) (outer : List Env) (s : Shared) (H : Hp) (vs : List V) (Q : VK) (E : XK) (cl : List (Str × Addr)) (fr : List Str) (ws : List (Option V)), Room k (A.deeper (envOfC qual scope s.heap.objs.size f cdv)) →
      CellsAt cl fr ws s.heap H → (∀ y c, cl.lookup y = some c → c ∉ frs outer) → sp cl fr ws vs H Q E →
      ∃ t, PSs (cxOf (L2.CX P w) P w K mg base N qual scope f cdv A outer s H E) body t ∧ t { nx := fun _ H' => Q .non H', rt := Q } (start N vs) H) :
    VOk P w K mg base (k + 1) f (PySem.W.fnOf name qual params body scope dV kV doc pm an cdv ct) ps sp := by
  refine ⟨len, fun A outer s H args us vs Q E cl fr ws hr e0 hb C nf r hsp => ?_⟩
  have hl := len _ _ _ _ _ _ _ hsp
  have KX : K.In s.heap := e0.mod.kin.keeps fun b o e => (e0.bs b o e).1
  have lim : s.heap.NoLimit := e0.mod.nolimit.keeps fun b o e => (e0.bs b o e).1
  have hkind : ∀ y ∈ ps.zip us, scope.names.lookup y.1 = some .local ∨ (scope.names.lookup y.1 = some .cell ∧ ((cellsFrom (s.heap.objs.size + 1) scope.names []).lookup y.1).isSome = true) := fun ⟨n, v⟩ hy => by
    rcases S.par n (List.of_mem_zip hy).1 with q | q
    · exact .inl q
    · exact .inr ⟨q, PySem.W.cellsFrom_some _ _ _ (.inl q)⟩
  refine codeAny_call_function hr.depth (KX _ _ lk) rfl S.co S.gen rfl (PySem.W.codeRec_of KX hcd) (hb _ _ _ _ ?_)
  refine wpAny_newFunctionEnv_cells S.kind hkind fun env he s1 x => ?_
  subst he
  refine ⟨lim.keeps x.toInCall.keep, codeAny_func ?_⟩
  obtain ⟨t, ht, hq⟩ := hbody A outer s H vs Q E cl fr ws (hr.deeper _) C nf hsp
  have I : Inv (cxOf (L2.CX P w) P w K mg base N qual scope f cdv A outer s H E) [] (start N vs) H s1 := inv_start S hr.hd e0 hl r x
  refine wpAny_mono (ht.run [] s1 (start N vs) H _ I hq) (fun fl s' hs => ?_) fun e s' hs => hs
  have fin : ∀ {σ' : L2.St} {H' : Hp} {v : V} {u : Value}, Inv (cxOf (L2.CX P w) P w K mg base N qual scope f cdv A outer s H E) [] σ' H' s' → RelV v u → Q v H' → CE outer P w H s Q u s' :=
    fun {σ' H' v u} J rv q => ⟨v, H', J.os, J.bare, J.base, J.hok, rv, q⟩
  cases fl with
  | ret u =>
    obtain ⟨v, σ', H', J, rv, q⟩ := hs
    exact fin J rv q
  | next =>
    obtain ⟨σ', H', J, q⟩ := hs
    exact fin (v := V.non) (u := Value.none) J rfl q
  | brk =>
    obtain ⟨_, _, _, q⟩ := hs
    exact False.elim q
  | cont =>
    obtain ⟨_, _, _, q⟩ := hs
    exact False.elim q
end
/-! ### the call of the parameter -/
/-- x(..), the slot i holds the function -/
def tCallV (f : Addr) (i : Nat) (kn : Hp → Prop) (sp : Sp) (t : TA) : TE := fun σ H Q => σ[i]? = some (some (.ref f)) ∧ kn H ∧ t σ H fun vs H1 => kn H1 ∧ sp vs H1 Q E0
section
variable {X : Cx} {cl : List (Str × Addr)} {fr : List Str} {ws : List (Option V)} {kn : Hp → Prop} {sp : Sp} {f : Addr} {i j k : Nat} {x : Str} {t : TA} {e : Expr} {es : List Expr} {p pos : Pos}
theorem pe_callv (Fn : FnV X.prog X.w X.K X.mg X.base k f cl fr ws kn sp) (C : CellsAt cl fr ws X.s_0.heap X.H_0) (nf : ∀ y c, cl.lookup y = some c → c ∉ X.fs) (hex : X.ex = []) (hr : Room j X.A) (hk : k ≤ j) (hN : X.N[i]? = some x) (hv : Vis X.env.scope x) (ha : PA X (e :: es) t)
    (hd : (x == ("__debug__" : Str)) = false := by decide) (hcd : (x == ("__classdict__" : Str)) = false := by decide)
    (he : starEach (e :: es) X.env = (false, eval e X.env) :: starEach es X.env := by rfl) (hpl : (backTo pos (starEach es X.env)).any (·.1) = false := by rfl) : PE X (.Call (.Name x p) (e :: es) [] pos) (tCallV f i kn sp t) := by
  refine ⟨fun pins s σ H Q I h => ?_⟩
  obtain ⟨hs, hf, ht⟩ := h
  refine wpAny_Call_Name_kw (thn ((pe_var (pos := p) hN hv hd hcd).run pins s σ H (fun v H1 => v = .ref f ∧ H1 = H) I ⟨.ref f, hs, rfl, rfl⟩) fun u s1 ⟨v, H1, I1, r1, q1⟩ => ?_)
  obtain ⟨ev, eH⟩ := q1
  subst ev
  rw [eH] at I1
  obtain rfl : u = Value.ref f := r1
  refine PySem.W.callWith_F (first := []) (Fn.at_ _ _ I1.hok hf) (thn (ha.run pos pins s1 σ H _ I1 ht) fun us s2 ⟨vs, H2, I2, r, h1, q⟩ => ⟨Fn.at_ _ _ I2.hok h1, ?_⟩) he hpl
  show wpAny _ _ (call (.ref f) us) _ _ _
  have C2 : CellsAt cl fr ws s2.heap H2 := C.later nf (fun y c _ => by rw [hex]; exact List.not_mem_nil) I2
  refine wpAny_call (codeAny_mono (Fn.run X.A X.stack s2 H2 us vs Q E0 (hr.mono hk) I2.env0 h1 C2 r q) fun r s' hq => ?_)
  cases r with
  | error e => exact passL pins σ H2 s2 e s' I2 hq
  | ok fl =>
    cases fl with
    | ret u => exact I2.after hq
    | next => exact False.elim hq
    | brk => exact False.elim hq
    | cont => exact False.elim hq
end
/-! ### the call that hands the function over -/
structure CalV (P : Program) (w : World) (K : PySem.W.Frag) (mg : Str → Option Value) (base : Heap) (k : Nat) (x : Str) (ps : List Str) (dvs : List V) (sp : VSp) : Prop where
  fn : ∃ fd ds, VOk P w K mg base k (He.ga K x) fd ps sp ∧ Binds K fd ps ds ∧ Vals dvs ds
  at_ : mg x = some (.ref (He.ga K x))
  kp : PySem.W.keepIn K (.ref (He.ga K x)) = true
theorem cells_nf {X : Cx} {pins : List (Addr × Obj)} {σ : L2.St} {H : Hp} {s : Shared} (I : Inv X pins σ H s) (hfn : ∀ y, X.fn y = true) {y : Str} {c : Addr} (h : X.env.cells.lookup y = some c) : c ∉ frs X.stack := fun hm => by
  rcases List.mem_cons.mp (I.stkSub c hm) with z | z
  · obtain ⟨v, o, ho, hd⟩ := I.cell y c h
    obtain ⟨m, ⟨o', es, ep, ho', hd', _⟩, _⟩ := I.loc
    rw [z, ho'] at ho
    cases ho
    first | (rw [hd'] at hd; cases hd) | (rw [hd] at hd'; simp at hd')
  · obtain ⟨_, o, ho, _⟩ := I.ok.funs.mem z
    have h1 := I.ok.cab y c (hfn y) h
    have h2 := Heap.lt_size ho
    exact absurd h2 (Nat.not_lt.mpr h1)
/-- x(..) that is given a function made here, with the captured names fr -/
def tCalV (sp : VSp) (cl : List (Str × Addr)) (fr : List Str) (js : List Nat) (dvs : List V) (W : WX) (t : TA) : TE := fun σ H Q => t σ H fun vs H1 => sp cl fr (js.map (slotAt σ)) (vs ++ dvs) H1 Q (WE W σ)
section
variable {X : Cx} {cl : List (Str × Addr)} {fr : List Str} {js : List Nat} {dvs : List V} {sp : VSp} {j k : Nat} {x : Str} {ps : List Str} {t : TA} {W : WX} {e : Expr} {es : List Expr} {p pos : Pos}
theorem pe_calV (c : CalV X.prog X.w X.K X.mg X.base j x ps dvs sp) (cp : X.Ok → Caps X cl fr js) (hfn : ∀ y, X.fn y = true) (hr : Room k X.A) (tk : Takes X W) (ha : PA X (e :: es) t) (hk : j ≤ k := by decide) (hg : Gl X x := by rfl) (hdb : (x == ("__debug__" : Str)) = false := by decide)
    (he : starEach (e :: es) X.env = (false, eval e X.env) :: starEach es X.env := by rfl) (hpl : (backTo pos (starEach es X.env)).any (·.1) = false := by rfl) : PE X (.Call (.Name x p) (e :: es) [] pos) (tCalV sp cl fr js dvs W t) := by
  obtain ⟨fd, ds, F, b, hd⟩ := c.fn
  refine ⟨fun pins s σ H Q I h => ?_⟩
  refine wpAny_Call_Name_kw (ld_glob I hg c.at_ ?_ hdb)
  refine PySem.W.callWith_K (h₀ := X.base) I.ok.mod.kin c.kp (thn (ha.run pos pins s σ H _ I h) fun us s1 ⟨vs, H1, I1, r, q⟩ => ⟨I1.kIn, ?_⟩) he hpl
  have r2 : Vals (vs ++ dvs) (us ++ ds) := r.append hd
  have hl : (us ++ ds).length = ps.length := by rw [← r2.length]; exact F.len _ _ _ _ _ _ _ q
  have cps := cp I1.ok
  refine wpAny_call (codeAny_mono ((F.mono hk).run X.A X.stack s1 H1 ⟨us, []⟩ (us ++ ds) (vs ++ dvs) Q (WE W σ) cl fr _ hr I1.env0 (b s1 us I1.kIn hl) (cells_of I1 cps) (fun y c e => cells_nf I1 hfn (cps.sub y c e)) r2 q) fun r s' hq => ?_)
  cases r with
  | error e => exact passAt tk σ pins H1 s1 e s' I1 hq
  | ok fl =>
    cases fl with
    | ret u => exact I1.after hq
    | next => exact False.elim hq
    | brk => exact False.elim hq
    | cont => exact False.elim hq
end
end Sy
/-! a lambda with captured cells as a value -/
namespace Sy
open PySem PySem.Spec PyProof.Rows L2 PySem.W LamX NdefX
theorem lamO_nl {f : Addr} {q : Str} {params : Arguments} {body : Expr} {scope : Scope} {cl : List (Str × Addr)} {c : Addr} (xs : List V) : LamO f q params body scope cl c ≠ .lst xs := fun z => by
  unfold LamO at z
  cases z
abbrev lamF (q : Str) (params : Arguments) (scope : Scope) (cl : List (Str × Addr)) (c : Addr) : NF := ⟨"<lambda>", q, params, [], scope, cl, c⟩
section
variable {P : Program} {w : World} {K : PySem.W.Frag} {mg : Str → Option Value} {base : Heap}
theorem fnv_lam {k : Nat} {f c : Addr} {q : Str} {params : Arguments} {body : Expr} {scope : Scope} {cl : List (Str × Addr)} {N ps fr : List Str} {ws : List (Option V)} {sp : Sp} (S : NScope N ps fr scope)
    (hbind : ∀ (pm cv ctv : Value) (us : List Value), us.length = ps.length → bindArgs (kla_fn "<lambda>" q params body scope cl pm cv ctv) ⟨us, []⟩ = pure (ps.zip us))
    (len : ∀ vs H Q E, sp vs H Q E → vs.length = ps.length)
    (hbody : ∀ (A : Around) (outer : List Env) (s : Shared) (H : Hp) (vs : List V) (Q : VK) (E : XK), Room k (A.deeper (envF (lamF q params scope cl c) f s.heap.objs.size)) → sp vs H Q E →
      ∃ t, PE (ncx (L2.CX P w) P w K mg base N (lamF q params scope cl c) f A outer s H E) body t ∧ t (startF N vs ws) H Q) :
    FnV P w K mg base (k + 1) f cl fr ws (fun H => H f = some (LamO f q params body scope cl c) ∧ H c = some (CodeO c q)) sp where
  run A outer s H us vs Q E hr e0 kn C r hsp := by
    have hl := len _ _ _ _ hsp
    have lim : s.heap.NoLimit := e0.mod.nolimit.keeps fun b o e => (e0.bs b o e).1
    obtain ⟨⟨pm, ctv, ho⟩, _, _⟩ := e0.hok f _ kn.1
    have hrec := codeO_at e0.hok kn.2
    refine PySem.W.kla_callFunE hr.depth ho rfl S.co S.gen rfl hrec ?_
    rw [hbind _ _ _ us (by rw [← r.length]; exact hl)]
    refine wpAny_pure (wpAny_newFunctionEnv S.nocell (fun ⟨n, _⟩ hy => S.par n (List.of_mem_zip hy).1) (fun h₁ hns hsb => ⟨lim.fresh _ hsb, ?_⟩) S.kind)
    show codeAny _ _ (.expr body (envF (lamF q params scope cl c) f s.heap.objs.size)) _ _
    have kp : ∀ b o, s.heap.get? b = some o → h₁.get? b = some o := fun b o e => hsb.extBut b o (Nat.ne_of_lt (Heap.lt_size e)) (Heap.get?_push_of_some _ e)
    obtain ⟨t, ht, hq⟩ := hbody A outer s H vs Q E (hr.deeper _) hsp
    have J : Inv (ncx (L2.CX P w) P w K mg base N (lamF q params scope cl c) f A outer s H E) [] (startF N vs ws) H { s with heap := h₁, toks := s.toks + (ps.zip us).length } := inv_startN S hr.hd e0 hl r C hns kp
    refine PySem.W.kla_codeExpr (wpAny_mono (ht.run [] _ _ H _ J hq) (fun v s' hs => ?_) fun e s' hs => hs)
    obtain ⟨w', H', J', rv', q'⟩ := hs
    exact ⟨w', H', J'.os, J'.bare, J'.base, J'.hok, rv', q'⟩
  at_ H h hok kn := by
    obtain ⟨⟨pm, ctv, ho⟩, _, _⟩ := hok f _ kn.1
    exact ⟨_, _, _, _, ho⟩
  mono H H' kn s := ⟨s _ _ kn.1 lamO_nl, s _ _ kn.2 codeO_nl⟩
end
section
variable {P : Program} {w : World} {K : PySem.W.Frag} {mg : Str → Option Value} {base : Heap}
theorem fnv_lamH {k : Nat} {f c : Addr} {q : Str} {params : Arguments} {body : Expr} {scope : Scope} {cl : List (Str × Addr)} {N ps fr : List Str} {ws : List (Option V)} {sp : Sp} {H1 : Hp} (_ : H1 f = some (LamO f q params body scope cl c)) (_ : H1 c = some (CodeO c q)) (S : NScope N ps fr scope)
    (hbind : ∀ (pm cv ctv : Value) (us : List Value), us.length = ps.length → bindArgs (kla_fn "<lambda>" q params body scope cl pm cv ctv) ⟨us, []⟩ = pure (ps.zip us))
    (len : ∀ vs H Q E, sp vs H Q E → vs.length = ps.length)
    (hbody : ∀ (A : Around) (outer : List Env) (s : Shared) (H : Hp) (vs : List V) (Q : VK) (E : XK), Room k (A.deeper (envF (lamF q params scope cl c) f s.heap.objs.size)) → sp vs H Q E →
      ∃ t, PE (ncx (L2.CX P w) P w K mg base N (lamF q params scope cl c) f A outer s H E) body t ∧ t (startF N vs ws) H Q) :
    FnV P w K mg base (k + 1) f cl fr ws (fun H => H f = some (LamO f q params body scope cl c) ∧ H c = some (CodeO c q)) sp := fnv_lam S hbind len hbody
theorem FnV.mono2 {j k : Nat} {f : Addr} {cl : List (Str × Addr)} {fr : List Str} {ws : List (Option V)} {kn : Hp → Prop} {sp : Sp} (o : FnV P w K mg base j f cl fr ws kn sp) (h : j ≤ k) : FnV P w K mg base k f cl fr ws kn sp :=
  ⟨fun A outer s H us vs Q E hr => o.run A outer s H us vs Q E (hr.mono h), o.at_, o.mono⟩
end
/-- the reading of a lambda as a value: its code object is new, or found in the table -/
def tLamC (P : Addr) (q : Str) (params : Arguments) (body : Expr) (scope : Scope) (cl : List (Str × Addr)) : TE := fun _ H Q => ∃ ps, H P = some (.tbl ps) ∧ TbOk H ps q ∧ ∀ (f c' : Addr) (ps' : Array Value) (H1 : Hp), Chg P (.tbl ps') H H1 → TbOk H1 ps' q →
  H f = none → H1 f = some (LamO f q params body scope cl c') → H1 c' = some (CodeO c' q) → Q (.ref f) H1
section
variable {X : Cx}
theorem pe_lamC {P c : Addr} {params : Arguments} {body : Expr} {scope : Scope} {pos : Pos} (TB : TabB X.base X.mg c P) (hcode : X.env.code = .ref c) (hfree : ∀ y ∈ scope.names, y.2 = .free → X.env.scope.names.lookup y.1 = some .cell ∨ X.env.scope.names.lookup y.1 = some .free)
    (hdef : defaultsOf params X.env = ([], [])) : PE X (.Lambda params body scope pos) (tLamC P (X.env.qual ++ "<lambda>") params body scope (cloFrom X.env.cells scope.names [])) := by
  refine ⟨fun pins s σ H Q I h => ?_⟩
  obtain ⟨ps, hP, hT, q1⟩ := h
  have hfr2 : ∀ y ∈ scope.names, y.2 = .free → ∃ c, X.env.cells.lookup y.1 = some c := fun y hy e => (hfree y hy e).elim (fun z => I.ok.has _ (.inl z)) fun z => I.ok.has _ (.inr z)
  exact lam_makeC I TB hcode hP hT hdef hfr2 fun f c' ps' H2 s2 I2 chg tok nf hf hc => ⟨V.ref f, H2, I2, rfl, q1 f c' ps' H2 chg tok nf hf hc⟩
end
end Sy
/-! rows of texts and numbers: knots_of, fault, first_repeat -/
namespace Sy
open PySem PySem.Spec PyProof.Rows L2
/-- names of the module that trims use -/
structure TxtM (mg : Str → Option Value) : Prop where
  hole : ∃ t, mg "HOLE" = some (.str "*" t)
  me : ∃ t, mg "MOST_ENTRIES" = some (.int 200 t)
  mt : ∃ t, mg "MOST_TRIMS" = some (.int 8 t)
  bool : mg "bool" = none
  str : mg "str" = none
/-- the first place at which a row stops, its leaves being those that are ok -/
def faK (rows : List Sy.Row) (ok : Key → Bool) : Nat → Nat → List Key → Int
  | m, i, [] => if 0 < m then (i : Nat) else -1
  | m, i, k :: l => if m = 0 then (i : Nat) else if isKK rows k = false ∧ ok k = false then (i : Nat) else faK rows ok (m - 1 + arK rows k) (i + 1) l
/-- the first place of a number that was met -/
def repK : List Int → Nat → List Key → Int
  | _, _, [] => -1
  | met, i, .inl z :: l => if z ∈ met then (i : Nat) else repK (z :: met) (i + 1) l
  | met, i, .inr _ :: l => repK met (i + 1) l
theorem kV_at {l : List Key} {i : Nat} {v : V} (h : (l.map kV)[i]? = some v) : ∃ k, l[i]? = some k ∧ v = kV k := map_at h
section
variable {P : Program} {w : World} {K : PySem.W.Frag} {mg : Str → Option Value} {base : Heap}
def spKnots (K : PySem.W.Frag) : Sp := fun vs H Q _ => ∃ (a r : Addr) (rows : List Sy.Row) (l : List Key), vs = [.ref a, .ref r] ∧ BedAt K H a rows ∧ SqT K H r (l.map kV) ∧ l.length ≤ 100000 ∧ ∀ H', Same H H' → Q (.int ((l.filter (isKK rows)).length : Nat)) H'
abbrev N_knots : List Str := ["bed", "row", "entry"]
theorem sc_knots : FnScope N_knots ["bed", "row"] (defScope (top 25)) := ⟨rfl, rfl, rfl, by decide +kernel, rfl, by decide +kernel, by decide +kernel⟩
theorem k_knots (T : Txt K mg) (F : DF K mg "knots_of" 25) : Cal P w K mg base 1 "knots_of" ["bed", "row"] (spKnots K) := by
  refine cal_of F.1 F.2 sc_knots (fun _ _ _ _ _ _ us e => match us, e with | [_, _], _ => rfl) (fun vs H Q E s => by obtain ⟨_, _, _, _, rfl, _⟩ := s; rfl) ?_
  intro cdv A outer s H vs Q E hr h
  obtain ⟨a, r, rows, l, rfl, hb, hR, hl, hq⟩ := h
  have hu := hu_of hr
  have sc := sc_knots
  refine ⟨_, (pss_one (ps_ret (pe_callB call_len_seq (by rfl) T.len (by decide +kernel) (pa_cons (pe_lc (own := [("entry", 2)]) (g := gName 2) rfl sc.nd (pi_tup (pv 1)) (blkOk_by (N := N_knots) (sc := defScope (top 25)) (by decide +kernel)) (fun _ _ _ _ _ => (pg_name (i := 2) sc.nd rfl (Or.inl rfl))) (fun _ _ _ _ _ => (pts_one (pt_cmp (pc_din hu (pv 2) (pe_fldK K rfl (pv 0) rfl))))) (fun _ _ _ _ _ => (pv 2))) pa_nil)))), ?_⟩
  refine ⟨_, rfl, r, rfl, ⟨_, hR⟩, fun D hD => lc_filtT (K := K) (xs := l) (f := kV) (out := kV) (keep := isKK rows) (Hs.start H) hD hR hl (fun k _ H' s' R1 R2 k1 k2 => ?_) (fun H' hh => ?_)⟩
  · obtain ⟨dx, dA, tR, tK, dR, ps, h1, hd, h3, h4, h5, h6⟩ := (hb.mono (Stay.of s')).ex
    refine ⟨_, rfl, _, rfl, a, _, dx, _, _, rfl, h1, T.bed.cl, T.bed.nA, rfl, dA, _, rfl, DGet.k (k := k) hd, _, rfl, ?_⟩
    rw [valV_arK]
    cases e : isKK rows k with
    | true => exact iteT ⟨_, rfl, k1 e⟩
    | false => exact iteF (k2 e)
  · refine ⟨D, _, rfl, .inl (SqL.of hh.r0), ?_⟩
    rw [List.length_map]
    exact hq H' hh.sub
/-! fault -/
def spFa (P : Program) (w : World) (K : PySem.W.Frag) (mg : Str → Option Value) (base : Heap) : VSp := fun cl fr ws vs H Q _ => ∃ (a r f : Addr) (rows : List Sy.Row) (l : List Key) (ok : Key → Bool) (kn : Hp → Prop) (sp : Sp), vs = [.ref a, .ref r, .ref f] ∧ BedAt K H a rows ∧ SqT K H r (l.map kV) ∧
  FnV P w K mg base 2 f cl fr ws kn sp ∧ kn H ∧ (∀ (k : Key) (H' : Hp) (Q' : VK), k ∈ l → Same H H' → (∀ H'', Same H' H'' → Q' (.bl (ok k)) H'') → sp [kV k] H' Q' E0) ∧ ∀ H', Same H H' → Q (.int (faK rows ok 1 0 l)) H'
abbrev N_fa : List Str := ["bed", "row", "allowed", "missing", "index", "entry"]
theorem sc_fa : FnScope N_fa ["bed", "row", "allowed"] (defScope (top 26)) := ⟨rfl, rfl, rfl, by decide +kernel, rfl, by decide +kernel, by decide +kernel⟩
theorem k_fa (T : Txt K mg) (F : DF K mg "fault" 26) (c_arity : Cal P w K mg base 1 "arity" ["bed", "entry"] (spArity K)) : CalV P w K mg base 3 "fault" ["bed", "row", "allowed"] [] (spFa P w K mg base) := by
  obtain ⟨⟨fd, F⟩, hmg⟩ := F
  have B := F.bindsN (ps := ["bed", "row", "allowed"]) (fun _ _ _ _ _ _ us e => match us, e with | [_, _, _], _ => rfl)
  have kp := F.kp
  obtain ⟨oc, od, dV, kV', doc, pm, an, cdv, ct, osl, rfl, lk, hcd, _, _⟩ := F.ex
  refine ⟨⟨_, [], vn_of lk hcd sc_fa (fun cl fr ws vs H Q E s => by obtain ⟨_, _, _, _, _, _, _, _, rfl, _⟩ := s; rfl) ?_, B, .nil⟩, hmg, kp⟩
  intro A outer s H vs Q E cl fr ws hr C nf h
  have sc := sc_fa
  have hu := hu_of hr
  obtain ⟨a, r, f, rows, l, ok, kn, sp, rfl, hb, hR, FV, hkn, hf, hq⟩ := h
  refine ⟨_, (pss_cons (ps_set (i := 3) sc.nd rfl (Or.inl rfl) pe_int)
      (pss_cons (ps_for (passes_of rfl) rfl (pi_enumT (by rfl) T.enumerate (pa_cons (pv 1) pa_nil)) (pg_tup rfl (pgs_cons (pg_name (i := 4) sc.nd rfl (Or.inl rfl)) (pgs_cons (pg_name (i := 5) sc.nd rfl (Or.inl rfl)) pgs_nil)))
        (pss_cons (ps_if (pt_cmpR op_eq (pv 3) pe_int (nomark _))
          (pss_one (ps_ret (pv 4)))
          pss_nil)
        (pss_cons (ps_if (PW.pt (pw_and (pt_cmp (pc_dnotin hu (pv 5) (pe_fld (pv 0) rfl))) (pw_and1 (pt_not (pt_val (pe_callv FV C nf rfl hr (by decide) (i := 2) rfl (Or.inl rfl) (pa_cons (pv 5) pa_nil)))))))
          (pss_one (ps_ret (pv 4)))
          pss_nil)
        (pss_one (ps_set (i := 3) sc.nd rfl (Or.inl rfl) (pe_op op_add (pe_op op_sub (pv 3) pe_int) (pe_cal c_arity hr (pa_cons (pv 0) (pa_cons (pv 5) pa_nil)))))))))
      (pss_cons (ps_if (pt_cmpR op_gt (pv 3) pe_int (nomark _))
        (pss_one (ps_ret (pe_callB call_len_seq (by rfl) T.len (by decide +kernel) (pa_cons (pv 1) pa_nil))))
        pss_nil)
      (pss_one (ps_ret (pe_un un_neg pe_int)))))), ?_⟩
  refine ⟨_, rfl, r, _, rfl, hR, for_enumT (K := K) (fun i σ H' => ∃ (m : Nat) (t4 t5 : Option V), σ = [some (.ref a), some (.ref r), some (.ref f), some (.int (m : Nat)), t4, t5] ∧ Same H H' ∧ faK rows ok 1 0 l = faK rows ok m i (l.drop i)) ⟨1, none, none, rfl, Same.refl _, by rw [List.drop_zero]⟩ (fun _ _ _ _ ⟨_, _, _, _, s', _⟩ => Same.sqt s' hR) ?_ ?_⟩
  · rintro i v σ H1 T1 hv ⟨m, t4, t5, rfl, s1, e1⟩ hT
    obtain ⟨k, hk, rfl⟩ := kV_at hv
    rw [drop_of hk, faK] at e1
    have s2 := s1.trans (up_same (o := .tup [.int (i : Nat), kV k]) hT)
    generalize upd H1 T1 (.tup [.int (i : Nat), kV k]) = H2 at *
    have fin : ∀ H', Same H2 H' → faK rows ok 1 0 l = (i : Nat) → Q (.int (i : Nat)) H' := fun H' s' e => by
      rw [← e]
      exact hq H' (s2.trans s')
    refine ⟨_, rfl, rfl, _, rfl, if_dec (fun c => ?_) (fun c => ?_)⟩
    · have c : m = 0 := by have := V.int.inj c; omega
      rw [if_pos c] at e1
      exact ⟨_, rfl, fin _ (Same.refl _) e1⟩
    have c : m ≠ 0 := fun z => c (by rw [z]; rfl)
    rw [if_neg c] at e1
    obtain ⟨dx, dA, tR, tK, dR, ps, h1, hd, h3, h4, h5, h6⟩ := (hb.mono (Stay.of s2)).ex
    have em : ((m : Int) - 1 + (arK rows k : Nat)) = ((m - 1 + arK rows k : Nat) : Int) := by omega
    have hkn2 := FV.mono _ _ hkn (Stay.of s2)
    refine ⟨_, rfl, _, rfl, a, _, dx, _, _, rfl, h1, T.bed.cl, T.bed.nA, rfl, dA, _, rfl, DGet.k (k := k) hd, _, rfl, ?_⟩
    rw [valV_arK]
    cases c2 : isKK rows k with
    | true =>
      rw [if_neg (fun z => by rw [c2] at z; cases z.1)] at e1
      exact iteF ⟨_, rfl, _, _, rfl, rfl, _, rfl, _, rfl, a, rows, k, rfl, hb.mono (Stay.of s2), _, _, rfl, rfl, _, _, _, by show [some (.ref a), some (.ref r), some (.ref f), some (.int ((m : Int) - 1 + (arK rows k : Nat))), some (.int (i : Nat)), some (kV k)] = _; rw [em], s2, e1⟩
    | false =>
      refine iteT ⟨rfl, hkn2, _, rfl, hkn2, hf k H2 _ (List.mem_of_getElem? hk) s2 fun H3 s3 => ⟨_, rfl, ?_⟩⟩
      cases c3 : ok k with
      | false =>
        rw [if_pos ⟨c2, c3⟩] at e1
        exact iteT ⟨_, rfl, fin _ s3 e1⟩
      | true =>
        rw [if_neg (fun z => by rw [c3] at z; cases z.2)] at e1
        exact iteF ⟨_, rfl, _, _, rfl, rfl, _, rfl, _, rfl, a, rows, k, rfl, hb.mono (Stay.of (s2.trans s3)), _, _, rfl, rfl, _, _, _, by show [some (.ref a), some (.ref r), some (.ref f), some (.int ((m : Int) - 1 + (arK rows k : Nat))), some (.int (i : Nat)), some (kV k)] = _; rw [em], s2.trans s3, e1⟩
  · rintro σ H1 ⟨m, t4, t5, rfl, s1, e1⟩
    rw [List.length_map, List.drop_eq_nil_of_le (Nat.le_refl _), faK] at e1
    refine ⟨_, rfl, _, _, rfl, rfl, _, rfl, if_dec (fun c => ?_) (fun c => ?_)⟩
    · have c : 0 < m := by omega
      rw [if_pos c] at e1
      refine ⟨_, rfl, r, _, rfl, .inr (Same.sqt s1 hR), ?_⟩
      rw [List.length_map, ← e1]
      exact hq H1 s1
    · rw [if_neg (by omega)] at e1
      have q := hq H1 s1
      rw [e1] at q
      exact ⟨_, rfl, q⟩
end
end Sy
/-! data compared -/
namespace Sy
open PySem PySem.Spec PyProof.Rows L2
def RowD (r : Sy.Row) : PyData := .tuple [.str r.1, .int (r.2 : Nat)]
def RowsD (rows : List Sy.Row) : PyData := .tuple (rows.map RowD)
theorem eqv_RowD (x y : Sy.Row) : PyData.eqv (RowD x) (RowD y) = decide (x = y) := by
  obtain ⟨a, n⟩ := x
  obtain ⟨b, m⟩ := y
  unfold RowD
  simp only [PyData.eqv, PyData.eqvAll, Bool.and_true]
  by_cases h : a = b
  · subst h
    by_cases g : n = m
    · subst g
      simp
    · have : ¬ ((n : Int) = (m : Int)) := by omega
      simp [g, this]
  · have : (a == b) = false := beq_eq_false_iff_ne.mpr h
    simp [h, this]
theorem eqv_rows : ∀ (x y : List Sy.Row), PyData.eqvAll (x.map RowD) (y.map RowD) = decide (x = y)
  | [], [] => rfl
  | [], y :: ys => by simp [PyData.eqvAll]
  | x :: xs, [] => by simp [PyData.eqvAll]
  | x :: xs, y :: ys => by
    rw [List.map_cons, List.map_cons, PyData.eqvAll, eqv_RowD, eqv_rows xs ys]
    by_cases h : x = y
    · subst h
      simp
    · simp [h]
theorem lay_rows {rows : List Sy.Row} (h : ∀ r ∈ rows, PyData.strOk r.1 = true) : PyData.canLayAll0 (rows.map RowD) = true ∧ PyData.depthAll (rows.map RowD) ≤ 3 := by
  induction rows with
  | nil => exact ⟨rfl, Nat.zero_le _⟩
  | cons x l ih =>
    have ih := ih fun y hy => h y (List.mem_cons_of_mem _ hy)
    have hx := h x List.mem_cons_self
    rw [List.map_cons]
    unfold RowD at ih ⊢
    simp only [PyData.canLayAll0, PyData.depthAll, PyData.canLay0, PyData.depth, hx, Bool.true_and]
    exact ⟨ih.1, by omega⟩
theorem lay_RowsD {rows : List Sy.Row} (h : ∀ r ∈ rows, PyData.strOk r.1 = true) : SeqAt.shaped (RowsD rows) = true := by
  have := lay_rows h
  unfold SeqAt.shaped RowsD
  simp only [PyData.canLay0, PyData.depth]
  rw [this.1, Bool.true_and]
  exact decide_eq_true (by omega)
theorem Im.rowsD {K : PySem.W.Frag} {H : Hp} : ∀ {ps : List Addr} {rows : List Sy.Row}, Paired (fun q (r : Sy.Row) => SqT K H q [.str r.1, .int (r.2 : Nat)]) ps rows → ImA K H (ps.map V.ref) (rows.map RowD)
  | _, _, .nil => .nil
  | _, _, .cons a b => .cons (.tup a (.cons (.str _) (.cons (.int _) .nil))) (Im.rowsD b)
theorem Wd.sok {x : Str} (h : Wd x) : PyData.strOk x = true := by
  unfold PyData.strOk
  rw [← Array.all_toList, List.all_eq_true]
  intro c hc
  have := (h.2.2 c hc).2
  exact decide_eq_true (by omega)

/-- pairs of names -/
theorem lay_RowsL {rows : List Sy.Row} (h : ∀ r ∈ rows, PyData.strOk r.1 = true) : SeqAt.shaped (.list (rows.map RowD)) = true := by
  have := lay_rows h
  unfold SeqAt.shaped
  simp only [PyData.canLay0, PyData.depth]
  rw [this.1, Bool.true_and]
  exact decide_eq_true (by omega)
end Sy
/-! first_repeat, result_fault -/
namespace Sy
open PySem PySem.Spec PyProof.Rows L2 LamX NdefX
/-! heaps of which only tables change -/
def StayT (H H' : Hp) : Prop := ∀ a o, H a = some o → (∀ qs, o ≠ .tbl qs) → H' a = some o
theorem StayT.of {H H' : Hp} (s : Same H H') : StayT H H' := fun a o e _ => s a o e
theorem StayT.refl (H : Hp) : StayT H H := fun _ _ e _ => e
theorem StayT.trans {H H1 H2 : Hp} (a : StayT H H1) (b : StayT H1 H2) : StayT H H2 := fun x o e n => b x o (a x o e n) n
theorem Chg.stayT {H H' : Hp} {p : Addr} {ps ps' : Array Value} (c : Chg p (.tbl ps') H H') (h : H p = some (.tbl ps)) : StayT H H' := fun a o e n => c.2 a o (fun z => by
  rw [z, h] at e
  exact n _ (Option.some.inj e).symm) e
section
variable {K : PySem.W.Frag}
theorem StayT.sqt {H H' : Hp} {a : Addr} {xs : List V} (s : StayT H H') (h : SqT K H a xs) : SqT K H' a xs := by
  rcases h with (h | ⟨o, h⟩) | h
  · exact .inl (.inl (s _ _ h fun _ z => by cases z))
  · exact .inl (.inr ⟨o, s _ _ h fun _ z => by cases z⟩)
  · exact .inr h
theorem StayT.bed {H H' : Hp} {b : Addr} {rows : List Sy.Row} (s : StayT H H') (h : BedAt K H b rows) : BedAt K H' b rows := by
  obtain ⟨dx, dA, tR, tK, dR, ps, h1, h2, h3, h4, h5, h6⟩ := h.ex
  exact ⟨dx, dA, tR, tK, dR, ps, s _ _ h1 (fun _ z => by cases z), s _ _ h2 (fun _ z => by cases z), s _ _ h3 (fun _ z => by cases z), s.sqt h4, s.sqt h5, Paired.mapP h6 fun _ _ z => s.sqt z⟩
mutual
theorem StayT.im {H H' : Hp} (s : StayT H H') : ∀ {v : V} {d : PyData}, Im K H v d → Im K H' v d
  | _, _, .non => .non
  | _, _, .bl b => .bl b
  | _, _, .int i => .int i
  | _, _, .str x => .str x
  | _, _, .tup h a => .tup (s.sqt h) (StayT.imA s a)
theorem StayT.imA {H H' : Hp} (s : StayT H H') : ∀ {vs : List V} {ds : List PyData}, ImA K H vs ds → ImA K H' vs ds
  | _, _, .nil => .nil
  | _, _, .cons a b => .cons (StayT.im s a) (StayT.imA s b)
end
end
theorem TbOk.stayT {H H' : Hp} {ps : Array Value} {q : Str} (t : TbOk H ps q) (s : StayT H H') : TbOk H' ps q := ⟨t.1, fun pos cv hc => by
  obtain ⟨c, e1, e2⟩ := t.2 pos cv hc
  refine ⟨c, e1, s _ _ e2 fun qs z => ?_⟩
  unfold CodeO at z
  cases z⟩
abbrev rfQ : Str := "result_fault.<locals>.<lambda>"
/-- the table of the lambda's code objects -/
def TbI (tb : Addr) (H : Hp) : Prop := ∃ ps, H tb = some (.tbl ps) ∧ TbOk H ps rfQ
theorem TbI.same {tb : Addr} {H H' : Hp} (t : TbI tb H) (s : Same H H') : TbI tb H' := by
  obtain ⟨ps, h1, h2⟩ := t
  exact ⟨ps, s _ _ h1, h2.same s⟩
/-- what is at most a table's change -/
structure TbS (tb : Addr) (H H' : Hp) : Prop where
  st : StayT H H'
  tb : TbI tb H'
theorem TbS.of {tb : Addr} {H H' : Hp} (t : TbI tb H) (s : Same H H') : TbS tb H H' := ⟨StayT.of s, t.same s⟩
theorem TbS.same {tb : Addr} {H H1 H2 : Hp} (t : TbS tb H H1) (s : Same H1 H2) : TbS tb H H2 := ⟨t.st.trans (StayT.of s), t.tb.same s⟩
theorem TbS.pre {tb : Addr} {H H1 H2 : Hp} (s : Same H H1) (t : TbS tb H1 H2) : TbS tb H H2 := ⟨(StayT.of s).trans t.st, t.tb⟩
theorem TbS.trans {tb : Addr} {H H1 H2 : Hp} (a : TbS tb H H1) (t : TbS tb H1 H2) : TbS tb H H2 := ⟨a.st.trans t.st, t.tb⟩
theorem TbS.chg {tb : Addr} {H H' : Hp} {ps ps' : Array Value} (h : H tb = some (.tbl ps)) (c : Chg tb (.tbl ps') H H') (t : TbOk H' ps' rfQ) : TbS tb H H' := ⟨c.stayT h, ps', c.1, t⟩
/-- numbers of holes -/
def okH (n : Int) : Key → Bool
  | .inl z => decide (0 ≤ z) && decide (z < n)
  | .inr _ => false
/-- where a trim's result fails -/
def rfK (rows : List Sy.Row) (n : Int) (l : List Key) : Int := if 0 ≤ repK [] 0 l ∧ (faK rows (okH n) 1 0 l < 0 ∨ repK [] 0 l < faK rows (okH n) 1 0 l) then repK [] 0 l else faK rows (okH n) 1 0 l
/-- numbers that were met, as a dict -/
def metK (met : List Int) : List (Key × V) := met.reverse.map fun z => (Sum.inl z, V.bl true)
theorem metK_cons (z : Int) (met : List Int) : metK (z :: met) = metK met ++ [(Sum.inl z, V.bl true)] := by
  unfold metK
  rw [List.reverse_cons, List.map_append]
  rfl
theorem valV_met (z : Int) (met : List Int) : valV (metK met) (Sum.inl z : Key) = if z ∈ met then some (.bl true) else none := by
  have gen : ∀ l : List Int, valV (l.map fun z => ((Sum.inl z : Key), V.bl true)) (Sum.inl z : Key) = if z ∈ l then some (.bl true) else none := by
    intro l
    induction l with
    | nil => rfl
    | cons y l ih =>
      rw [List.map_cons, valV_cons, ih]
      by_cases e : y = z
      · subst e
        simp
      · rw [if_neg (fun q => e (Sum.inl.inj q))]
        have : z ≠ y := fun q => e q.symm
        simp [this]
  unfold metK
  rw [gen]
  simp
section
variable {P : Program} {w : World} {K : PySem.W.Frag} {mg : Str → Option Value} {base : Heap}
def spRep (K : PySem.W.Frag) : Sp := fun vs H Q _ => ∃ (r : Addr) (l : List Key), vs = [.ref r] ∧ SqT K H r (l.map kV) ∧ l.length ≤ 100000 ∧ ∀ H', Same H H' → Q (.int (repK [] 0 l)) H'
abbrev N_rep : List Str := ["row", "met", "place", "entry"]
theorem sc_rep : FnScope N_rep ["row"] (defScope (top 32)) := ⟨rfl, rfl, rfl, by decide +kernel, rfl, by decide +kernel, by decide +kernel⟩
theorem k_rep (T : Txt K mg) (F : DF K mg "first_repeat" 32) : Cal P w K mg base 1 "first_repeat" ["row"] (spRep K) := by
  refine cal_of F.1 F.2 sc_rep (fun _ _ _ _ _ _ us e => match us, e with | [_], _ => rfl) (fun vs H Q E s => by obtain ⟨_, _, rfl, _⟩ := s; rfl) ?_
  intro cdv A outer s H vs Q E hr h
  obtain ⟨r, l, rfl, hR, hl, hq⟩ := h
  have hu := hu_of hr
  have sc := sc_rep
  refine ⟨_, (pss_cons (ps_set (i := 1) sc.nd rfl (Or.inl rfl) pe_dnewK)
      (pss_cons (ps_for (passes_of rfl) rfl (pi_range1 rfl T.range (pa_cons (pe_callB call_len_seq (by rfl) T.len (by decide +kernel) (pa_cons (pv 0) pa_nil)) pa_nil)) (pg_name (i := 2) sc.nd rfl (Or.inl rfl))
        (pss_cons (ps_set (i := 3) sc.nd rfl (Or.inl rfl) (pe_ix ix_tup (pv 0) (pv 2) (fun _ _ => rfl)))
        (pss_one (ps_if (pt_val (pe_callB call_isi (by rfl) T.isinstance (by decide +kernel) (pa_cons (pv 3) (pa_cons (pe_bltn (v := .ty "int") (by rfl) T.int (by decide +kernel) rfl) pa_nil))))
          (pss_cons (ps_if (pt_cmp (pc_din hu (pv 3) (pv 1)))
            (pss_one (ps_ret (pv 2)))
            pss_nil)
          (pss_one (ps_dput hu (pv 1) (pv 3) pe_bl rfl)))
          pss_nil))))
      (pss_one (ps_ret (pe_un un_neg pe_int))))), ?_⟩
  intro d hd
  have k1 := (Hs.start H).new (o := .dK []) hd
  refine ⟨_, rfl, r, _, rfl, .inr (Same.sqt k1.sub hR), _, rfl, by rw [List.length_map]; omega, by rw [List.length_map]; omega, for_rng (n := (l.map kV).length) (fun i σ H' => ∃ (met : List Int) (t2 t3 : Option V), σ = [some (.ref r), some (.ref d), t2, t3] ∧ met.length ≤ i ∧ Hs H [(d, .dK (metK met))] H' ∧ repK [] 0 l = repK met i (l.drop i)) ⟨[], none, none, rfl, Nat.le_refl _, k1, by rw [List.drop_zero]⟩ ?_ ?_⟩
  · rintro i σ H1 hi ⟨met, t2, t3, rfl, hm, hh, e1⟩
    rw [List.length_map] at hi
    obtain ⟨k, hk⟩ : ∃ k, l[i]? = some k := ⟨_, List.getElem?_eq_getElem hi⟩
    rw [drop_of hk] at e1
    refine ⟨_, rfl, _, rfl, r, _, _, _, rfl, rfl, Same.sqt hh.sub hR, atI_nat (by rw [List.getElem?_map, hk]; rfl), ?_⟩
    cases k with
    | inr x =>
      exact ⟨_, rfl, _, _, _, _, false, rfl, .ty _, .base (.str x), kit_ty (by decide +kernel), _, rfl, iteF ⟨met, _, _, rfl, by omega, hh, e1⟩⟩
    | inl z =>
      refine ⟨_, rfl, _, _, _, _, true, rfl, .ty _, .base (.int z), kit_ty (by decide +kernel), _, rfl, iteT ⟨_, rfl, _, rfl, d, _, rfl, DGet.k (k := Sum.inl z) hh.r0, _, rfl, ?_⟩⟩
      rw [valV_met]
      rw [repK] at e1
      by_cases c : z ∈ met
      · rw [if_pos c] at e1 ⊢
        refine iteT ⟨_, rfl, ?_⟩
        have q := hq H1 hh.sub
        rw [e1] at q
        exact q
      · rw [if_neg c] at e1
        rw [if_neg c]
        have vn : valV (metK met) (Sum.inl z : Key) = none := by rw [valV_met, if_neg c]
        refine iteF ⟨_, rfl, _, rfl, d, _, rfl, DPut.k (k := Sum.inl z) hh.r0 (by unfold metK; rw [List.length_map, List.length_reverse, sizeLine_eq]; omega), z :: met, _, _, rfl, by rw [List.length_cons]; omega, ?_, e1⟩
        rw [metK_cons, putK_new _ vn]
        exact hh.w0
  · rintro σ H1 ⟨met, t2, t3, rfl, hm, hh, e1⟩
    rw [List.length_map, List.drop_eq_nil_of_le (Nat.le_refl _), repK] at e1
    have q := hq H1 hh.sub
    rw [e1] at q
    exact ⟨_, rfl, q⟩
/-! the lambda of result_fault -/
def alSc : Scope := { kind := .function, names := [(Str.ofString "entry", .local), (Str.ofString "number_of_holes", .free), (Str.ofString "isinstance", .globalImplicit), (Str.ofString "int", .globalImplicit)], isGenerator := false, isCoroutine := false, more := [] }
abbrev N_al : List Str := ["entry", "number_of_holes"]
theorem sc_al : NScope N_al ["entry"] ["number_of_holes"] alSc := nscope_by (by decide +kernel)
theorem al_free : ∀ y ∈ alSc.names, y.2 = .free → (defScope (top 33)).names.lookup y.1 = some .cell ∨ (defScope (top 33)).names.lookup y.1 = some .free := by decide +kernel
theorem al_fr : ∀ y ∈ (["number_of_holes"] : List Str), (y, NameKind.free) ∈ alSc.names := by decide +kernel
def spAl (n : Int) : Sp := fun vs H Q _ => ∃ k : Key, vs = [kV k] ∧ Q (.bl (okH n k)) H
def spRf (K : PySem.W.Frag) (tb : Addr) : Sp := fun vs H Q _ => ∃ (a r : Addr) (n : Int) (rows : List Sy.Row) (l : List Key), vs = [.ref a, .int n, .ref r] ∧ BedAt K H a rows ∧ SqT K H r (l.map kV) ∧ l.length ≤ 100000 ∧ TbI tb H ∧ ∀ H', TbS tb H H' → Q (.int (rfK rows n l)) H'
abbrev N_rf : List Str := ["bed", "number_of_holes", "result", "place", "again"]
theorem sc_rf : FnScope N_rf ["bed", "number_of_holes", "result"] (defScope (top 33)) := ⟨rfl, rfl, rfl, by decide +kernel, rfl, by decide +kernel, by decide +kernel⟩
/-- a module's def whose own code object is known -/
def FDc (K : PySem.W.Frag) (x : Str) (st : Stmt) (c : Addr) : Prop := ∃ fd, FunD K x x (defArgs st) (defBody st) (defScope st) [] [] (He.ga K x) fd ∧ fd.code = .ref c
theorem cal_ofC {x : Str} {st : Stmt} {c : Addr} {N ps : List Str} {k : Nat} {sp : Sp} (F : FDc K x st c) (hm : mg x = some (.ref (He.ga K x))) (S : FnScope N ps (defScope st))
    (hb : ∀ (kV doc pm : Value) (an : Option Addr) (cdv ct : Value) (us : List Value), us.length = ps.length → bindArgs (PySem.W.fnOf x x (defArgs st) (defBody st) (defScope st) .none kV doc pm an cdv ct) ⟨us, []⟩ = pure (ps.zip us))
    (len : ∀ vs H Q E, sp vs H Q E → vs.length = ps.length)
    (body : ∀ (A : Around) (outer : List Env) (s : Shared) (H : Hp) (vs : List V) (Q : VK) (E : XK), Room k (A.deeper (envOfC x (defScope st) s.heap.objs.size (He.ga K x) (.ref c))) → sp vs H Q E →
      ∃ t, PSs (cxOf (L2.CX P w) P w K mg base N x (defScope st) (He.ga K x) (.ref c) A outer s H E) (defBody st) t ∧ t { nx := fun _ H' => Q .non H', rt := Q } (start N vs) H) : Cal P w K mg base (k + 1) x ps sp := by
  obtain ⟨fd, F, hc⟩ := F
  have B := F.bindsN hb
  have kp := F.kp
  obtain ⟨oc, od, dV, kV, doc, pm, an, cdv, ct, osl, rfl, lk, hcd, _, _⟩ := F.ex
  have hc : cdv = .ref c := hc
  subst hc
  exact ⟨⟨_, fn_of lk hcd S len fun A outer s H vs Q E hr hsp => body A outer s H vs Q E hr hsp, B⟩, hm, kp⟩
theorem k_rf {c tb : Addr} (T : Txt K mg) (TB : TabB base mg c tb) (F : FDc K "result_fault" (top 33) c) (hmg : mg "result_fault" = some (.ref (He.ga K "result_fault"))) (c_fault : CalV P w K mg base 3 "fault" ["bed", "row", "allowed"] [] (spFa P w K mg base))
    (c_first_repeat : Cal P w K mg base 1 "first_repeat" ["row"] (spRep K)) : Cal P w K mg base 4 "result_fault" ["bed", "number_of_holes", "result"] (spRf K tb) := by
  refine cal_ofC F hmg sc_rf (fun _ _ _ _ _ _ us e => match us, e with | [_, _, _], _ => rfl) (fun vs H Q E s => by obtain ⟨_, _, _, _, _, rfl, _⟩ := s; rfl) ?_
  intro A outer s H vs Q E hr h
  obtain ⟨a, r, n, rows, l, rfl, hb, hR, hl, ⟨ps, htb, tok⟩, hq⟩ := h
  have sc := sc_rf
  refine ⟨_, (pss_cons (ps_set (i := 3) sc.nd rfl (Or.inl rfl) (pe_calV c_fault (fr := ["number_of_holes"]) (js := [1]) (fun okX => Caps.made (scope := alSc) okX al_free al_fr rfl) (fun _ => rfl) hr (takes_of rfl rfl rfl rfl) (pa_cons (pv 0) (pa_cons (pv 2) (pa_cons (pe_lamC (scope := alSc) TB rfl al_free rfl) pa_nil)))))
      (pss_cons (ps_set (i := 4) sc.nd rfl (Or.inl rfl) (pe_cal c_first_repeat hr (pa_cons (pv 2) pa_nil)))
      (pss_cons (ps_if (PW.pt (pw_and (pt_cmpR op_ge (pv 4) pe_int (nomark _)) (pw_and1 (PW.pt (pw_or (pt_cmpR op_lt (pv 3) pe_int (nomark _)) (pw_or1 (pt_cmpR op_lt (pv 4) (pv 3) (nomark _))))))))
        (pss_one (ps_ret (pv 4)))
        pss_nil)
      (pss_one (ps_ret (pv 3)))))), ?_⟩
  refine ⟨_, rfl, _, rfl, ps, htb, tok, fun f c' ps' H1 chg tok1 nf hf hc => ?_⟩
  have t1 := TbS.chg htb chg tok1
  have FN := fnv_lamH (P := P) (w := w) (K := K) (mg := mg) (base := base) (k := 0) (N := N_al) (ps := ["entry"]) (fr := ["number_of_holes"]) (ws := [some (.int n)]) (sp := spAl n) hf hc sc_al (fun _ _ _ us e => match us, e with | [_], _ => rfl) (fun vs H Q E s => by obtain ⟨_, rfl, _⟩ := s; rfl) (fun A outer s H vs Q E hr h => by
    obtain ⟨k, rfl, q⟩ := h
    refine ⟨_, pe_and (pe_callB call_isi (by rfl) T.isinstance (by decide +kernel) (pa_cons (pv 0) (pa_cons (pe_bltn (v := .ty "int") (by rfl) T.int (by decide +kernel) rfl) pa_nil))) (pe_one (pe_chain op_le op_lt pe_int (pv 0) (pv 1))), ?_⟩
    cases k with
    | inr x => exact ⟨_, rfl, _, _, _, _, false, rfl, .ty _, .base (.str x), kit_ty (by decide +kernel), _, rfl, iteF q⟩
    | inl z =>
      refine ⟨_, rfl, _, _, _, _, true, rfl, .ty _, .base (.int z), kit_ty (by decide +kernel), _, rfl, iteT ⟨_, rfl, _, _, rfl, rfl, _, rfl, if_dec (fun c => ?_) (fun c => ?_)⟩⟩
      · have e : okH n (.inl z) = decide (z < n) := by
          show (decide (0 ≤ z) && decide (z < n)) = _
          rw [decide_eq_true c, Bool.true_and]
        rw [e] at q
        exact ⟨_, rfl, _, _, rfl, rfl, q⟩
      · have e : okH n (.inl z) = false := by
          show (decide (0 ≤ z) && decide (z < n)) = _
          rw [decide_eq_false c, Bool.false_and]
        rw [e] at q
        exact q)
  refine ⟨a, r, f, rows, l, okH n, _, _, rfl, t1.st.bed hb, t1.st.sqt hR, FN.mono2 (by decide), ⟨hf, hc⟩, fun k H' Q' _ s' q => ⟨k, rfl, q H' (Same.refl _)⟩, fun H2 s2 => ?_⟩
  have t2 := t1.same s2
  refine ⟨_, rfl, r, l, rfl, t2.st.sqt hR, hl, fun H3 s3 => ?_⟩
  have t3 := t2.same s3
  have q := hq H3 t3
  refine ⟨_, rfl, _, _, rfl, rfl, _, rfl, if_dec (fun c1 => ?_) (fun c1 => ?_)⟩
  · refine ⟨_, rfl, _, _, rfl, rfl, _, rfl, if_dec (fun c2 => ?_) (fun c2 => ⟨_, rfl, _, rfl, _, _, rfl, rfl, _, rfl, if_dec (fun c3 => ?_) (fun c3 => ?_)⟩)⟩
    · unfold rfK at q
      rw [if_pos ⟨c1, .inl c2⟩] at q
      exact ⟨_, rfl, q⟩
    · unfold rfK at q
      rw [if_pos ⟨c1, .inr c3⟩] at q
      exact ⟨_, rfl, q⟩
    · unfold rfK at q
      rw [if_neg (fun z => z.2.elim c2 c3)] at q
      exact ⟨_, rfl, q⟩
  · unfold rfK at q
    rw [if_neg (fun z => c1 z.1)] at q
    exact ⟨_, rfl, q⟩
end
end Sy
/-! OtherBed, Bed.same, need_same -/
namespace L2
open PySem PySem.Spec PyProof.Rows
/-- the end of C() where no dict was made -/
theorem mk_end00 {X : Cx} {pins : List (Addr × Obj)} {σ : St} {H1 H2 : Hp} {hp hp2 h2 : Heap} {g1 g2 : Array GenState} {d1 d2 : Drawn} {t1 t2 : Nat} {os1 os2 : OsState} {a C : Addr} (I1 : Inv X pins σ H1 ⟨hp, g1, d1, t1, os1⟩)
    (ha : hp.objs.size ≤ a) (k : ∀ b o, hp.get? b = some o → hp2.get? b = some o) (un : Un (frs X.stack) [] (upd H1 a (exo a C none)) H2 hp2 h2) (hok : HOk X.prog X.w H2 h2) (ho : os2 = os1) (hb : AllBare g2)
    (ea : H2 a = some (exo a C none)) :
    ∃ (t0 : Addr) (G : Heap), Inv X pins σ (del H2 a) ⟨G, g2, d2, t2, os2⟩ ∧ (∀ b o, G.get? b = some o → h2.get? b = some o) ∧ G.get? a = none ∧
      h2.get? a = some ({ cls := .ref C, dict := none, data := .fields #[.ref t0, .none, .none, .none, .bool false, .none] } : Obj) ∧ (del H2 a) a = none := by
  obtain ⟨t0, hoe⟩ := exo_at hok ea
  have hn : H1 a = none := I1.hok.fresh ha
  obtain ⟨G, g1', g2'⟩ := restrict h2 fun b => decide (b ≠ a)
  have gk : ∀ b, b ≠ a → G.get? b = h2.get? b := fun b hb => g1' b (decide_eq_true hb)
  have ge : G.get? a = none := g2' a (by simp)
  have nha : ∀ {b : Addr} {o : Obj}, hp.get? b = some o → b ≠ a := fun {b o} z => Nat.ne_of_lt (Nat.lt_of_lt_of_le (Heap.lt_size z) ha)
  have up : ∀ {b : Addr}, b ≠ a → H1 b = none → upd H1 a (exo a C none) b = none := fun {b} hb n => by rw [upd_ne hb]; exact n
  have U : Un (frs X.stack) [] H1 (del H2 a) hp G := {
    keep := fun b o z n hf hx => by
      rw [gk b (nha z)]
      exact un.keep b o (k b o z) (up (nha z) n) hf hx
    slot := fun b o z n hf hx => by
      rw [gk b (nha z)]
      exact un.slot b o (k b o z) (up (nha z) n) hf hx
    free := fun b o z n hx => by
      rw [del_ne (nha z)]
      exact un.free b o (k b o z) (up (nha z) n) hx
    there := fun b o z hx => by
      obtain ⟨o', e⟩ := un.there b o (k b o z) hx
      exact ⟨o', by rw [gk b (nha z)]; exact e⟩
    tups := fun b xs z => by
      have hba : b ≠ a := ne_of_none z hn
      rw [del_ne hba]
      exact un.tups b xs (by rw [upd_ne hba]; exact z)
    frzs := fun b o v z => by
      have hba : b ≠ a := ne_of_none z hn
      rw [del_ne hba]
      exact un.frzs b o v (by rw [upd_ne hba]; exact z)
    tbls := fun b ps z => by
      have hba : b ≠ a := ne_of_none z hn
      rw [del_ne hba]
      exact un.tbls b ps (by rw [upd_ne hba]; exact z) }
  have hok3 : HOk X.prog X.w (del H2 a) G := fun b o z => by
    have hba : b ≠ a := fun e => by
      rw [e, del_same] at z
      cases z
    rw [del_ne hba] at z
    have noa : ∀ {c : Addr}, H2 c = some (.own b) → c ≠ a := fun {c} hc => at_ne ea hc exo_own
    exact (hok b o z).stay (fun c v hc y => by
        have hca : c ≠ a := by
          rcases hc with hc | hc
          · rw [hc]
            exact hba
          · exact noa hc
        rw [gk c hca]
        exact y)
      (fun c hc => by rw [del_ne (noa hc)]; exact hc) (fun c xs hc => by rw [del_ne (at_ne ea hc exo_tup)]; exact hc)
  have J : Inv X pins σ (del H2 a) ⟨G, g2, d2, t2, os2⟩ := I1.call' (ch := []) ho U hok3 hb (fun b z => absurd z (by simp))
  refine ⟨t0, G, J, fun b o z => ?_, ge, hoe, del_same⟩
  by_cases hba : b = a
  · rw [hba, ge] at z
    cases z
  · exact (gk b hba).symm.trans z
/-- the reading of C() without a dict -/
def tMkN (C : Addr) (sp : Sp) (dvs : List V) : St → Hp → XK → Prop := fun _ H Q => ∀ a, H a = none → sp (.ref a :: dvs) (upd H a (exo a C none)) (fun v H2 => v = .non ∧ H2 a = some (exo a C none) ∧ Q (.ref C) none (del H2 a)) (fun _ _ _ => False)
/-- an own error made without arguments -/
theorem pmk_oex0 {X : Cx} {p pos : Pos} {CX : CXT} {x : Str} {C fI : Addr} {k : Nat} {fd : FuncData} {ps : List Str} {sp : Sp} {ds : List Value} {dvs : List V} (T : OexC X.K C) (iC : PySem.W.findIn X.K (.ref C) "__init__" = some (some (.ref fI))) (tI : PySem.W.typeIn X.K (.ref fI) = some (.type "function"))
    (F1 : FnOk X.prog X.w X.K X.mg X.base CX k fI fd ps sp) (hr : Room (k + 1) X.A) (hb : Binds X.K fd ps ds) (hd : Vals dvs ds) (hx : Passes CX X (fun _ _ _ => False)) (hg : Gl X x) (hm : X.mg x = some (.ref C))
    (hdb : (x == ("__debug__" : Str)) = false := by decide) :
    PMk X (.Call (.Name x p) [] [] pos) (tMkN C sp dvs) := by
  intro pins s σ H Q I h
  obtain ⟨nm, q, N, bs, bm, sn, sub, ab, col, dd, k0, k1, k2, k3, k5, hC, hbm⟩ := T.cls
  refine wpAny_Call_Name_kw (ld_glob I hg hm ?_ hdb)
  refine PySem.W.callWith_K0 I.kIn T.kC ?_
  have q1 := h
  have I1 := I
  have r1 : Vals [] [] := .nil
  show wpAny _ _ (call (.ref C) []) _ _ _
  obtain ⟨hp, g, dr, tk, os⟩ := s
  have hsz : hp.objs.size ≤ hp.objs.size + 1 := Nat.le_succ _
  have hn : H (hp.objs.size + 1) = none := I1.hok.fresh hsz
  have hq := q1 (hp.objs.size + 1) hn
  have kk : ∀ b o, hp.get? b = some o → ((hp.push (PySem.W.kdv_tup [])).push (PySem.HandSPX.excO C hp.objs.size)).get? b = some o := fun b o e => Heap.get?_push_of_some _ (Heap.get?_push_of_some _ e)
  have hget : ((hp.push (PySem.W.kdv_tup [])).push (PySem.HandSPX.excO C hp.objs.size)).get? (hp.objs.size + 1) = some (PySem.HandSPX.excO C hp.objs.size) := by heap_get
  have I2 : Inv X pins σ (upd H (hp.objs.size + 1) (exo (hp.objs.size + 1) C none)) ⟨(hp.push (PySem.W.kdv_tup [])).push (PySem.HandSPX.excO C hp.objs.size), g, dr, tk, os⟩ :=
    I1.laid (t' := tk) (a := hp.objs.size + 1) (o := exo (hp.objs.size + 1) C none) (h' := (hp.push (PySem.W.kdv_tup [])).push (PySem.HandSPX.excO C hp.objs.size)) kk hsz (exo_ok hget)
  have r2 : Vals (V.ref (hp.objs.size + 1) :: dvs) (Value.ref (hp.objs.size + 1) :: ds) := .cons rfl hd
  have hl : ([Value.ref (hp.objs.size + 1)] ++ ds).length = ps.length := by
    have e := r2.length
    rw [F1.len _ _ _ _ hq] at e
    exact e.symm
  refine wpAny_call (PySem.HandSPX.call_own F.excBase_ValueError (fun Y => PySem.HandSPX.refsVE_contains Y bm hbm) (I1.kIn _ _ hC) (PySem.W.looks_findIn I1.kIn iC) (fun self => PySem.W.bind_fn I1.kIn self tI) (Nat.zero_le _)
    (codeAny_mono (F1.run _ X.stack _ _ ⟨[Value.ref (hp.objs.size + 1)], []⟩ ([Value.ref (hp.objs.size + 1)] ++ ds) _ _ (fun _ _ _ => False) (hr.make C [] []) (I2.env0.make C [] []) (hb _ [Value.ref (hp.objs.size + 1)] I2.kIn hl) r2 hq) fun r s' hq' => ?_))
  cases r with
  | error er => exact hx pins σ _ _ er s' I2 hq'
  | ok fl =>
    cases fl with
    | ret u =>
      obtain ⟨v, H2, os2, bare2, un2, hok2, rv, ev, ea, q2⟩ := hq'
      subst ev
      obtain ⟨h2, g2, d2, t2, os'⟩ := s'
      obtain ⟨t0, G, J, kG, ge, hoe, na⟩ := mk_end00 (d2 := d2) (t2 := t2) I1 hsz kk un2 hok2 os2 bare2 ea
      exact ⟨rv, _, _, _, ⟨G, g2, d2, t2, os'⟩, _, .ref C, none, rfl, J, kG, ge, hoe, ⟨rfl, rfl⟩, rfl, rfl, na, rfl, bare2, raises_own T.exC T.tyC, q2⟩
    | next => exact False.elim hq'
    | brk => exact False.elim hq'
    | cont => exact False.elim hq'
end L2
namespace Sy
open PySem PySem.Spec PyProof.Rows L2
section
variable {P : Program} {w : World} {K : PySem.W.Frag} {mg : Str → Option Value} {base : Heap}
/-- made without a dict: nothing but the exception itself -/
def spInit0 (C : Addr) : Sp := fun vs H Q _ => ∃ a, vs = [.ref a] ∧ H a = some (exo a C none) ∧ Q .non H
theorem sc_ob : NdefX.NScope ["self", "__class__"] ["self"] ["__class__"] (defScope (clb 8 0)) := ⟨rfl, rfl, rfl, by decide +kernel, rfl, by decide +kernel, by decide +kernel, by decide +kernel, by decide +kernel⟩
theorem i_ob (T : ErrB P K mg "OtherBed" "OtherBed.__init__" (clb 8 0) []) : ∃ fd, FnOk P w K mg base CX0 1 (iniA K "OtherBed") fd ["self"] (spInit0 (He.ga K "OtherBed")) ∧ L2.Binds K fd ["self"] [] := by
  obtain ⟨cc, cd, kV, doc, pm, an, ct, S⟩ := T.sup
  refine ⟨_, fn_sup (k := 0) S sc_ob rfl rfl rfl rfl rfl T.mS T.top (fun vs H Q E s => by obtain ⟨_, rfl, _⟩ := s; rfl) (fun _ => rfl) (fun _ => rfl) (fun _ _ => rfl) ?_, .all fun us e => match us, e with | [_], _ => rfl⟩
  intro A outer s H vs Q E hr h
  obtain ⟨a, rfl, ha, hq⟩ := h
  exact ⟨_, _, pa_cons pe_str pa_nil, pss_nil, a, _, rfl, ha, (by show 1 ≤ 1000; decide), ha, hq⟩
theorem mk_ob {X : Cx} {k : Nat} {p pos : Pos} (T : ErrB X.prog X.K X.mg "OtherBed" "OtherBed.__init__" (clb 8 0) []) (hr : Room k X.A) (hg : Gl X "OtherBed") (hx : Passes CX0 X (fun _ _ _ => False)) (hk : 2 ≤ k := by decide) :
    PMk X (.Call (.Name "OtherBed" p) [] [] pos) (tMkN (He.ga X.K "OtherBed") (spInit0 (He.ga X.K "OtherBed")) []) := by
  obtain ⟨fd, F, B⟩ := i_ob (w := X.w) (base := X.base) T
  obtain ⟨cc, cd, kV, doc, pm, an, ct, S⟩ := T.sup
  exact pmk_oex0 S.oex T.iC T.tI F (hr.mono hk) B .nil hx hg T.at_
/-- OtherBed is due -/
def RaO (K : PySem.W.Frag) (H : Hp) (E : XK) : Prop := ∀ H', Same H H' → E (.ref (He.ga K "OtherBed")) none H'
/-! Bed.same -/
def spSameB (K : PySem.W.Frag) : Sp := fun vs H Q _ => ∃ (a b : Addr) (rows rows2 : List Sy.Row), vs = [.ref a, .ref b] ∧ BedAt K H a rows ∧ BedAt K H b rows2 ∧ (∀ r ∈ rows, PyData.strOk r.1 = true) ∧ (∀ r ∈ rows2, PyData.strOk r.1 = true) ∧ Q (.bl (decide (rows = rows2))) H
theorem sc_sameB : FnScope ["self", "other"] ["self", "other"] (defScope (clb 20 6)) := ⟨rfl, rfl, rfl, by decide +kernel, rfl, by decide +kernel, by decide +kernel⟩
theorem k_sameB (T : Txt K mg) (F : MB K "same" "Bed.same" (clb 20 6)) : CalM P w K mg base 1 "same" ["self", "other"] (spSameB K) := by
  refine calM_of F sc_sameB (fun _ _ _ _ _ _ us e => match us, e with | [_, _], _ => rfl) (fun vs H Q E s => by obtain ⟨_, _, _, _, rfl, _⟩ := s; rfl) ?_
  intro cdv A outer s H vs Q E hr h
  obtain ⟨a, b, rows, rows2, rfl, hb, hb2, hs, hs2, hq⟩ := h
  obtain ⟨dx, dA, tR, tK, dR, ps, h1, hd, h3, h4, h5, h6⟩ := hb.ex
  obtain ⟨dx', dA', tR', tK', dR', ps', h1', hd', h3', h4', h5', h6'⟩ := hb2.ex
  refine ⟨_, (pss_one (ps_ret (pe_cmpR (op_eqD hr.units) (pe_fld (pv 0) rfl) (pe_fld (pv 1) rfl) (nomark _)))), ?_⟩
  refine ⟨_, rfl, a, _, dx, _, _, rfl, h1, T.bed.cl, T.bed.nR, rfl, _, rfl, b, _, dx', _, _, rfl, h1', T.bed.cl, T.bed.nR, rfl, RowsD rows, RowsD rows2, (Im.tup h4 (Im.rowsD h6)).dp, (Im.tup h4' (Im.rowsD h6')).dp, lay_RowsD hs, lay_RowsD hs2, ?_⟩
  have : PyData.eqv (RowsD rows) (RowsD rows2) = decide (rows = rows2) := by
    unfold RowsD
    rw [PyData.eqv, eqv_rows]
  rw [this]
  exact hq
/-! need_same -/
theorem sc_need : FnScope ["beds", "bed"] ((([] : List Str)) ++ (["beds"] : List Str)) (defScope (top 21)) := ⟨rfl, rfl, rfl, by decide +kernel, rfl, by decide +kernel, by decide +kernel⟩
theorem bind_star0 {B : List Value → Sem (List (Str × Value))} {pv : Str} (h0 : B [] = (newTuple [] >>= fun t => pure [(pv, t)])) (h1 : ∀ r rs, B (r :: rs) = (newTuple (r :: rs) >>= fun t => pure [(pv, t)])) :
    ∀ us rest : List Value, us.length = ([] : List Str).length → B (us ++ rest) = (newTuple rest >>= fun t => pure (([] : List Str).zip us ++ [(pv, t)]))
  | [], [], _ => h0
  | [], r :: rs, _ => h1 r rs
end
end Sy
/-! check_trim, Trim -/
namespace Sy
open PySem PySem.Spec PyProof.Rows L2 LamX NdefX
/-! ### C(e, ..), what is raised being wished for at the caller's slots -/
def tMakeX (C : Addr) (sp : Sp) (dvs : List V) (W : WX) (t : TA) : TE := fun σ H Q => t σ H fun vs H1 => ∀ x dx, H1 x = none → H1 dx = none → dx ≠ x →
  sp (.ref x :: (vs ++ dvs)) (upd (upd H1 dx (.own x)) x (.ins C dx [])) (fun v H2 => v = .non ∧ Q (.ref x) H2) (WE W σ)
section
variable {X : Cx} {k j : Nat} {f C : Addr} {fd : FuncData} {ps : List Str} {ds : List Value} {dvs : List V} {sp : Sp} {W : WX} {x : Str} {p pos : Pos} {e : Expr} {es : List Expr} {t : TA}
theorem run_makeX {pins : List (Addr × Obj)} {σ : L2.St} {H : Hp} {s : Shared} {Q : VK} {us : List Value} {vs : List V} (M : Mk X.K C f) (F : FnOk X.prog X.w X.K X.mg X.base (L2.CX X.prog X.w) k f fd ps sp) (hr : Room (k + 1) X.A) (hb : Binds X.K fd ps ds) (hd : Vals dvs ds)
    (tk : Takes X W) (I : Inv X pins σ H s) (r : Vals vs us)
    (h : ∀ x dx, H x = none → H dx = none → dx ≠ x → sp (.ref x :: (vs ++ dvs)) (upd (upd H dx (.own x)) x (.ins C dx [])) (fun v H2 => v = .non ∧ Q (.ref x) H2) (WE W σ)) :
    wpAny (model X.prog X.w) X.A (call (.ref C) us) (EP X pins σ Q) X.xe s := by
  have hq := h (s.heap.objs.size + 1) s.heap.objs.size (I.hok.fresh (Nat.le_succ _)) (I.hok.fresh (Nat.le_refl _)) (Nat.ne_of_lt (Nat.lt_succ_self _))
  have I2 := Inv.made (C := C) I
  have r2 : Vals (V.ref (s.heap.objs.size + 1) :: (vs ++ dvs)) (Value.ref (s.heap.objs.size + 1) :: (us ++ ds)) := .cons rfl (r.append hd)
  have hl : (Value.ref (s.heap.objs.size + 1) :: us ++ ds).length = ps.length := by
    have e := F.len _ _ _ _ hq
    rw [← e, r2.length]
    rfl
  refine wpAny_call (make_map (f := f) I.kIn M.makes M.init (beq_iff_eq.mp M.fn) (codeAny_mono (F.run _ X.stack _ _ ⟨Value.ref (s.heap.objs.size + 1) :: us, []⟩ (Value.ref (s.heap.objs.size + 1) :: (us ++ ds)) _ _ (WE W σ) (hr.make C us [])
    (I2.env0.make C us []) (hb _ (Value.ref (s.heap.objs.size + 1) :: us) I2.kIn hl) r2 hq) fun r s' hq' => ?_))
  cases r with
  | error e => exact passAt tk σ pins _ _ e s' I2 hq'
  | ok fl =>
    cases fl with
    | ret u =>
      obtain ⟨v, H', I3, rv, ev, q3⟩ := I2.after hq'
      subst ev
      exact ⟨rv, ⟨V.ref (s.heap.objs.size + 1), H', I3, rfl, q3⟩⟩
    | next => exact False.elim hq'
    | brk => exact False.elim hq'
    | cont => exact False.elim hq'
theorem pe_makeX (M : Mk X.K C f) (F : FnOk X.prog X.w X.K X.mg X.base (L2.CX X.prog X.w) k f fd ps sp) (hr : Room j X.A) (hg : Gl X x) (hm : X.mg x = some (.ref C)) (hb : Binds X.K fd ps ds) (hd : Vals dvs ds) (tk : Takes X W)
    (ha : PA X (e :: es) t) (hk : k + 1 ≤ j := by decide) (hdb : (x == ("__debug__" : Str)) = false := by decide) (he : starEach (e :: es) X.env = (false, eval e X.env) :: starEach es X.env := by rfl) (hpl : (backTo pos (starEach es X.env)).any (·.1) = false := by rfl) :
    PE X (.Call (.Name x p) (e :: es) [] pos) (tMakeX C sp dvs W t) := by
  refine ⟨fun pins s σ H Q I h => ?_⟩
  refine wpAny_Call_Name_kw (ld_glob I hg hm ?_ hdb)
  refine PySem.W.callWith_K (h₀ := X.base) I.ok.mod.kin M.kp (thn (ha.run pos pins s σ H _ I h) fun us s1 ⟨vs, H1, I1, r, q⟩ => ⟨I1.kIn, ?_⟩) he hpl
  exact run_makeX M F (hr.mono hk) hb hd tk I1 r q
end
/-! ### rows of texts -/
theorem lay_strs {l : List Str} (h : ∀ x ∈ l, PyData.strOk x = true) : PyData.canLayAll0 (l.map PyData.str) = true ∧ PyData.depthAll (l.map PyData.str) ≤ 1 := by
  induction l with
  | nil => exact ⟨rfl, Nat.zero_le _⟩
  | cons x l ih =>
    have ih := ih fun y hy => h y (List.mem_cons_of_mem _ hy)
    simp only [List.map_cons, PyData.canLayAll0, PyData.depthAll, PyData.canLay0, PyData.depth, h x List.mem_cons_self, Bool.true_and]
    exact ⟨ih.1, by omega⟩
theorem lay_DS {l : List Str} (h : ∀ x ∈ l, PyData.strOk x = true) : SeqAt.shaped (DS l) = true := by
  have := lay_strs h
  unfold SeqAt.shaped DS
  simp only [PyData.canLay0, PyData.depth]
  rw [this.1, Bool.true_and]
  exact decide_eq_true (by omega)
theorem eqv_strs : ∀ (x y : List Str), PyData.eqvAll (x.map PyData.str) (y.map PyData.str) = decide (x = y)
  | [], [] => rfl
  | [], y :: ys => by simp [PyData.eqvAll]
  | x :: xs, [] => by simp [PyData.eqvAll]
  | x :: xs, y :: ys => by
    rw [List.map_cons, List.map_cons, PyData.eqvAll, PyData.eqv, eqv_strs xs ys]
    by_cases h : x = y
    · subst h
      simp
    · simp [h]
theorem eqv_DS (x y : List Str) : PyData.eqv (DS x) (DS y) = decide (x = y) := by
  unfold DS
  rw [PyData.eqv, eqv_strs]
theorem countP_strs (y : Str) (l : List Str) : (l.map V.str).countP (fun z => eqV z (V.str y)) = l.count y := by
  induction l with
  | nil => rfl
  | cons x l ih =>
    rw [List.map_cons, List.countP_cons, List.count_cons, ih]
    have : eqV (V.str x) (V.str y) = (x == y) := by
      by_cases h : x = y
      · subst h
        simp [eqV]
      · simp [eqV, h]
    rw [this]
theorem flat_strs (l : List Str) : (l.map V.str).all flatV = true := by
  rw [List.all_map, List.all_eq_true]
  intro x _
  rfl
def knK (rows : List Sy.Row) (ks : List Key) : Nat := (ks.filter (isKK rows)).length
abbrev kS (l : List Str) : List Key := l.map Sum.inr
theorem kS_map (l : List Str) : (kS l).map kV = l.map V.str := by
  rw [List.map_map]
  rfl
/-- what a trim owes -/
def ctDue (rows : List Sy.Row) (l : List Str) (ks : List Key) : Option Er :=
  if 200 < l.length then some (.many "entries" 200) else if 200 < ks.length then some (.many "entries" 200) else match ckS rows l with
  | some e => some e
  | none => if l = (["*"] : List Str) then some (.trim (-1)) else if 0 ≤ rfK rows (l.count ("*" : Str) : Nat) ks then some (.trim (rfK rows (l.count ("*" : Str) : Nat) ks)) else if knK rows (kS l) ≤ knK rows ks then some (.trim (-2)) else none
def RaT (K : PySem.W.Frag) (tb : Addr) (e : Er) (H : Hp) (E : XK) : Prop := ∀ d H' fs, TbS tb H H' → H' d = some (.xd fs) → ImF K H' fs e.fds → E (.ref (He.ga K e.cls)) (some d) H'
theorem RaT.raE {K : PySem.W.Frag} {tb : Addr} {e : Er} {H H1 : Hp} {E : XK} (h : RaT K tb e H E) (t : TbS tb H H1) : RaE K e H1 E := fun d H' fs s ed im => h d H' fs (t.same s) ed im
theorem rfK_le {rows : List Sy.Row} {n : Int} {ks : List Key} : -1 ≤ rfK rows n ks ∧ rfK rows n ks ≤ (ks.length : Nat) := by
  have f : ∀ (l : List Key) (m i : Nat), -1 ≤ faK rows (okH n) m i l ∧ faK rows (okH n) m i l ≤ ((i + l.length : Nat) : Int) := by
    intro l
    induction l with
    | nil => intro m i; rw [faK]; split <;> simp <;> omega
    | cons k l ih =>
      intro m i
      rw [faK, List.length_cons]
      split
      · omega
      · split
        · omega
        · have := ih (m - 1 + arK rows k) (i + 1)
          omega
  have g : ∀ (l : List Key) (met : List Int) (i : Nat), -1 ≤ repK met i l ∧ repK met i l ≤ ((i + l.length : Nat) : Int) := by
    intro l
    induction l with
    | nil => intro met i; rw [repK]; simp
    | cons k l ih =>
      intro met i
      cases k with
      | inl z =>
        rw [repK, List.length_cons]
        split
        · omega
        · have := ih (z :: met) (i + 1)
          omega
      | inr x =>
        rw [repK, List.length_cons]
        have := ih met (i + 1)
        omega
  have f1 := f ks 1 0
  have g1 := g ks [] 0
  unfold rfK
  split <;> omega
section
variable {P : Program} {w : World} {K : PySem.W.Frag} {mg : Str → Option Value} {base : Heap}
def spCt (K : PySem.W.Frag) (tb : Addr) : Sp := fun vs H Q E => ∃ (a s r : Addr) (rows : List Sy.Row) (l : List Str) (ks : List Key), vs = [.ref a, .ref s, .ref r] ∧ BedAt K H a rows ∧ SqT K H s (l.map V.str) ∧ NoD H s ∧ SqT K H r (ks.map kV) ∧ (∀ x ∈ l, PyData.strOk x = true) ∧ l.length ≤ 100000 ∧ ks.length ≤ 100000 ∧ TbI tb H ∧
  (ctDue rows l ks = none → ∀ H', TbS tb H H' → Q .non H') ∧ ∀ e, ctDue rows l ks = some e → RaT K tb e H E
abbrev N_ct : List Str := ["bed", "stump", "result", "place"]
theorem sc_ct : FnScope N_ct ["bed", "stump", "result"] (defScope (top 34)) := ⟨rfl, rfl, rfl, by decide +kernel, rfl, by decide +kernel, by decide +kernel⟩
theorem im_en {H : Hp} : ImF K H [("limit", .int 200), ("what", .str "entries")] (Er.many "entries" 200).fds := .cons (.int _) (.cons (.str _) .nil)
theorem im_tr {H : Hp} {i : Int} : ImF K H [("place", .int i)] (Er.trim i).fds := .cons (.int _) .nil
theorem k_ct {tb : Addr} (T : Txt K mg) (S : TxtM mg) (R : Ers P K mg) (F : DF K mg "check_trim" 34) (c_check_stump : Cal P w K mg base 4 "check_stump" ["bed", "stump"] (spCheckE K ckS)) (c_result_fault : Cal P w K mg base 4 "result_fault" ["bed", "number_of_holes", "result"] (spRf K tb))
    (c_knots_of : Cal P w K mg base 1 "knots_of" ["bed", "row"] (spKnots K)) : Cal P w K mg base 5 "check_trim" ["bed", "stump", "result"] (spCt K tb) := by
  refine cal_of F.1 F.2 sc_ct (fun _ _ _ _ _ _ us e => match us, e with | [_, _, _], _ => rfl) (fun vs H Q E s => by obtain ⟨_, _, _, _, _, _, rfl, _⟩ := s; rfl) ?_
  intro cdv A outer s H vs Q E hr h
  obtain ⟨a, st, r, rows, l, ks, rfl, hb, hS, nd, hR, hok, hl, hkl, tbi, hq, hE⟩ := h
  have sc := sc_ct
  refine ⟨_, (pss_cons (ps_if (pt_cmpR op_gt (pe_callB call_len_seq (by rfl) T.len (by decide +kernel) (pa_cons (pv 1) pa_nil)) (pe_gint rfl S.me) (nomark _))
        (pss_one (ps_raise rfl (takes_of rfl rfl rfl rfl) (mk_tm R.tm hr rfl (pa_cons pe_str (pa_cons (pe_gint rfl S.me) pa_nil)) pass0)))
        pss_nil)
      (pss_cons (ps_if (pt_cmpR op_gt (pe_callB call_len_seq (by rfl) T.len (by decide +kernel) (pa_cons (pv 2) pa_nil)) (pe_gint rfl S.me) (nomark _))
        (pss_one (ps_raise rfl (takes_of rfl rfl rfl rfl) (mk_tm R.tm hr rfl (pa_cons pe_str (pa_cons (pe_gint rfl S.me) pa_nil)) pass0)))
        pss_nil)
      (pss_cons (ps_expr (pe_calX c_check_stump hr (takes_of rfl rfl rfl rfl) (pa_cons (pv 0) (pa_cons (pv 1) pa_nil))))
      (pss_cons (ps_if (pt_cmpR (op_eqD hr.units) (pv 1) (pe_tup (pa_cons (pe_gstr rfl S.hole) pa_nil)) (nomark _))
        (pss_one (ps_raise rfl (takes_of rfl rfl rfl rfl) (mk_itr R.tr hr rfl (pa_cons (pe_un un_neg pe_int) pa_nil) pass0)))
        pss_nil)
      (pss_cons (ps_set (i := 3) sc.nd rfl (Or.inl rfl) (pe_cal c_result_fault hr (pa_cons (pv 0) (pa_cons (pe_bmT PySem.F.slot_tuple_count PySem.F.type_tuple_count mt_tcount (pv 1) (pa_cons (pe_gstr rfl S.hole) pa_nil)) (pa_cons (pv 2) pa_nil)))))
      (pss_cons (ps_if (pt_cmpR op_ge (pv 3) pe_int (nomark _))
        (pss_one (ps_raise rfl (takes_of rfl rfl rfl rfl) (mk_itr R.tr hr rfl (pa_cons (pv 3) pa_nil) pass0)))
        pss_nil)
      (pss_one (ps_if (pt_cmpR op_ge (pe_cal c_knots_of hr (pa_cons (pv 0) (pa_cons (pv 2) pa_nil))) (pe_cal c_knots_of hr (pa_cons (pv 0) (pa_cons (pv 1) pa_nil))) (nomark _))
        (pss_one (ps_raise rfl (takes_of rfl rfl rfl rfl) (mk_itr R.tr hr rfl (pa_cons (pe_un un_neg pe_int) pa_nil) pass0)))
        pss_nil)))))))), ?_⟩
  unfold ctDue at hq hE
  have many : (∀ e, some (Er.many "entries" 200) = some e → RaT K tb e H E) → Ra K "TooMany" [("limit", .int 200), ("what", .str "entries")] H E := fun hE => ((hE _ rfl).raE (TbS.of tbi (Same.refl _))).ra im_en
  refine ⟨_, rfl, st, _, rfl, .inr hS, _, _, rfl, rfl, _, rfl, if_dec (fun c => ?_) (fun c => ?_)⟩
  · rw [List.length_map] at c
    rw [if_pos (by omega)] at hE
    exact mk_ra (fun _ _ => ⟨_, _, rfl, by decide +kernel, by decide +kernel, by decide +kernel, rfl⟩) (by show 2 ≤ 1000; decide) (many hE)
  rw [List.length_map] at c
  rw [if_neg (by omega)] at hE hq
  refine ⟨_, rfl, r, _, rfl, .inr hR, _, _, rfl, rfl, _, rfl, if_dec (fun c2 => ?_) (fun c2 => ?_)⟩
  · rw [List.length_map] at c2
    rw [if_pos (by omega)] at hE
    exact mk_ra (fun _ _ => ⟨_, _, rfl, by decide +kernel, by decide +kernel, by decide +kernel, rfl⟩) (by show 2 ≤ 1000; decide) (many hE)
  rw [List.length_map] at c2
  rw [if_neg (by omega)] at hE hq
  refine ⟨_, rfl, _, rfl, a, st, rows, l, rfl, hb, hS, fun hn H1 s1 => ?_, fun e he => ?_⟩
  · rw [hn] at hE hq
    simp only at hE hq
    have t1 := TbS.of tbi s1
    refine ⟨_, rfl, (by show 1 ≤ sizeLine; decide), fun p hp => ?_⟩
    have s2 := up_same (o := .tup [.str "*"]) hp
    have t2 := t1.same s2
    have ep : SqT K (upd H1 p (.tup [.str "*"])) p ((["*"] : List Str).map V.str) := SqT.of upd_same
    generalize upd H1 p (.tup [.str "*"]) = H2 at *
    refine ⟨DS l, DS ["*"], (Im.strs (t2.st.sqt hS)).dp, (Im.strs ep).dp, lay_DS hok, lay_DS (fun x hx => by rw [List.mem_singleton.mp hx]; decide +kernel), _, rfl, ?_⟩
    rw [eqv_DS]
    refine if_dec (fun c3 => ?_) (fun c3 => ?_)
    · rw [if_pos c3] at hE
      exact ⟨_, rfl, mk_ra (fun _ _ => ⟨-1, rfl, by omega, rfl⟩) (by show 1 ≤ 1000; decide) (((hE _ rfl).raE t2).ra im_tr)⟩
    rw [if_neg c3] at hE hq
    refine ⟨_, rfl, _, rfl, ⟨st, _, rfl, t2.st.sqt hS, (nd.mono (Stay.of (s1.trans s2)))⟩, st, _, _, rfl, rfl, t2.st.sqt hS, rfl, flat_strs l, ?_⟩
    rw [countP_strs]
    refine ⟨_, rfl, a, r, _, rows, ks, rfl, t2.st.bed hb, t2.st.sqt hR, hkl, t2.tb, fun H3 t3 => ?_⟩
    have t3 := t2.trans t3
    have hbd := rfK_le (rows := rows) (n := (l.count ("*" : Str) : Nat)) (ks := ks)
    refine ⟨_, rfl, _, _, rfl, rfl, _, rfl, if_dec (fun c4 => ?_) (fun c4 => ?_)⟩
    · rw [if_pos c4] at hE
      exact ⟨_, rfl, mk_ra (fun _ _ => ⟨_, rfl, by omega, rfl⟩) (by show 1 ≤ 1000; decide) (((hE _ rfl).raE t3).ra im_tr)⟩
    rw [if_neg c4] at hE hq
    refine ⟨_, rfl, _, rfl, a, r, rows, ks, rfl, t3.st.bed hb, t3.st.sqt hR, hkl, fun H4 s4 => ?_⟩
    have t4 := t3.same s4
    refine ⟨_, rfl, _, rfl, a, st, rows, kS l, rfl, t4.st.bed hb, by rw [kS_map]; exact t4.st.sqt hS, by rw [List.length_map]; exact hl, fun H5 s5 => ?_⟩
    have t5 := t4.same s5
    refine ⟨_, _, rfl, rfl, _, rfl, if_dec (fun c5 => ?_) (fun c5 => ?_)⟩
    · have c5 : knK rows (kS l) ≤ knK rows ks := by unfold knK; omega
      rw [if_pos c5] at hE
      exact ⟨_, rfl, mk_ra (fun _ _ => ⟨-2, rfl, by omega, rfl⟩) (by show 1 ≤ 1000; decide) (((hE _ rfl).raE t5).ra im_tr)⟩
    · have c5 : ¬ knK rows (kS l) ≤ knK rows ks := by unfold knK; omega
      rw [if_neg c5] at hq
      exact hq rfl _ t5
  · rw [he] at hE
    exact (hE e rfl).raE (TbS.of tbi (Same.refl _))
/-! Trim -/
structure TxtT (K : PySem.W.Frag) : Prop where
  cl : Cls K (He.ga K "Trim")
  nB : NoAttr K (He.ga K "Trim") "bed"
  nS : NoAttr K (He.ga K "Trim") "stump"
  nR : NoAttr K (He.ga K "Trim") "result"
/-- a trim stands at x -/
structure TrmAt (K : PySem.W.Frag) (H : Hp) (x : Addr) (rows : List Sy.Row) (l : List Str) (ks : List Key) : Prop where
  ex : ∃ dx b s r, H x = some (.ins (He.ga K "Trim") dx [("bed", .ref b), ("stump", .ref s), ("result", .ref r)]) ∧ BedAt K H b rows ∧ SqT K H s (l.map V.str) ∧ SqT K H r (ks.map kV)
theorem StayT.trm {H H' : Hp} {x : Addr} {rows : List Sy.Row} {l : List Str} {ks : List Key} (s : StayT H H') (h : TrmAt K H x rows l ks) : TrmAt K H' x rows l ks := by
  obtain ⟨dx, b, st, r, h1, h2, h3, h4⟩ := h.ex
  exact ⟨dx, b, st, r, s _ _ h1 (fun _ z => by cases z), s.bed h2, s.sqt h3, s.sqt h4⟩
theorem BedAt.del {H : Hp} {x a C dx : Addr} {rows : List Sy.Row} (b : BedAt K H a rows) (hx : H x = some (.ins C dx [])) : BedAt K (L2.del H x) a rows := by
  obtain ⟨dx', dA, tR, tK, dR, ps, h1, h2, h3, h4, h5, h6⟩ := b.ex
  have ne : ∀ {p o}, H p = some o → o ≠ .ins C dx [] → p ≠ x := fun e n z => by
    rw [z, hx] at e
    exact n (Option.some.inj e).symm
  refine ⟨dx', dA, tR, tK, dR, ps, ?_, ?_, ?_, sqt_del h4 hx, sqt_del h5 hx, Paired.mapP h6 fun _ _ z => sqt_del z hx⟩
  · rw [del_ne (ne h1 (by unfold bedF; intro z; injection z with _ _ z; cases z))]
    exact h1
  · rw [del_ne (ne h2 (by intro z; cases z))]
    exact h2
  · rw [del_ne (ne h3 (by intro z; cases z))]
    exact h3
theorem TbI.del {tb : Addr} {H : Hp} {x C dx : Addr} {fs : List (Str × V)} (t : TbI tb H) (hx : H x = some (.ins C dx fs)) : TbI tb (L2.del H x) := by
  obtain ⟨ps, h1, h2, h3⟩ := t
  have ne : ∀ {p o}, H p = some o → o ≠ .ins C dx fs → p ≠ x := fun e n z => by
    rw [z, hx] at e
    exact n (Option.some.inj e).symm
  refine ⟨ps, by rw [del_ne (ne h1 (by intro z; cases z))]; exact h1, h2, fun pos cv hc => ?_⟩
  obtain ⟨c, e1, e2⟩ := h3 pos cv hc
  refine ⟨c, e1, by rw [del_ne (ne e2 (by intro z; unfold CodeO at z; cases z))]; exact e2⟩
/-- all but x and tables stays -/
def KeepT (x : Addr) (H H' : Hp) : Prop := ∀ a o, a ≠ x → H a = some o → (∀ qs, o ≠ .tbl qs) → H' a = some o
/-- a method of the class C -/
structure MC (K : PySem.W.Frag) (C m q : Str) (st : Stmt) : Prop where
  me : Meth K (He.ga K C) m (He.ma K (He.ga K C) m)
  fn : ∃ fd, FunD K m q (defArgs st) (defBody st) (defScope st) [] [] (He.ma K (He.ga K C) m) fd
def spInitT (K : PySem.W.Frag) (tb : Addr) : Sp := fun vs H Q E => ∃ (x b s r dx : Addr) (rows : List Sy.Row) (l : List Str) (ks : List Key), vs = [.ref x, .ref b, .ref s, .ref r] ∧ H x = some (.ins (He.ga K "Trim") dx []) ∧ BedAt K H b rows ∧ SqT K H s (l.map V.str) ∧ NoD H s ∧ SqT K H r (ks.map kV) ∧ (∀ x ∈ l, PyData.strOk x = true) ∧ l.length ≤ 100000 ∧ ks.length ≤ 100000 ∧ TbI tb H ∧
  (ctDue rows l ks = none → ∀ H', KeepT x H H' → TbI tb H' → TrmAt K H' x rows l ks → Q .non H') ∧ ∀ e, ctDue rows l ks = some e → RaT K tb e H E
abbrev N_initT : List Str := ["self", "bed", "stump", "result"]
theorem sc_initT : FnScope N_initT ["self", "bed", "stump", "result"] (defScope (clb 36 0)) := ⟨rfl, rfl, rfl, by decide +kernel, rfl, by decide +kernel, by decide +kernel⟩
theorem f_initT {tb : Addr} (TT : TxtT K) (F : MC K "Trim" "__init__" "Trim.__init__" (clb 36 0)) (c_check_trim : Cal P w K mg base 5 "check_trim" ["bed", "stump", "result"] (spCt K tb)) :
    ∃ fd, FnOk P w K mg base (L2.CX P w) (5 + 1) (He.ma K (He.ga K "Trim") "__init__") fd ["self", "bed", "stump", "result"] (spInitT K tb) ∧ L2.Binds K fd ["self", "bed", "stump", "result"] [] := by
  obtain ⟨me, fd, F⟩ := F
  refine ⟨fd, F.ok sc_initT (fun vs H Q E s => by obtain ⟨_, _, _, _, _, _, _, _, rfl, _⟩ := s; rfl) ?_, F.bindsN (ps := ["self", "bed", "stump", "result"]) (fun _ _ _ _ _ _ us e => match us, e with | [_, _, _, _], _ => rfl)⟩
  intro cdv A outer s H vs Q E hr h
  obtain ⟨x, b, st, r, dx, rows, l, ks, rfl, hx, hb, hS, nd, hR, hok, hl, hkl, tbi, hq, hE⟩ := h
  have sc := sc_initT
  refine ⟨_, (pss_cons (ps_expr (pe_calX c_check_trim hr (takes_of rfl rfl rfl rfl) (pa_cons (pv 1) (pa_cons (pv 2) (pa_cons (pv 3) pa_nil)))))
      (pss_cons (ps_fld (pv 0) (pv 1) rfl)
      (pss_cons (ps_fld (pv 0) (pv 2) rfl)
      (pss_one (ps_fld (pv 0) (pv 3) rfl))))), ?_⟩
  refine ⟨_, rfl, _, rfl, _, rfl, b, st, r, rows, l, ks, rfl, hb, hS, nd, hR, hok, hl, hkl, tbi, fun hn H1 t1 => ?_, hE⟩
  have hx1 := t1.st _ _ hx (fun _ z => by cases z)
  refine ⟨_, rfl, _, rfl, x, _, dx, _, rfl, hx1, TT.cl, TT.nB, by decide, ?_⟩
  refine ⟨_, rfl, _, rfl, x, _, dx, _, rfl, upd_same, TT.cl, TT.nS, (by show 1 < 1000; decide), ?_⟩
  refine ⟨_, rfl, _, rfl, x, _, dx, _, rfl, upd_same, TT.cl, TT.nR, (by show 2 < 1000; decide), ?_⟩
  generalize hH4 : upd (upd (upd H1 x _) x _) x _ = H4
  have e4 : H4 x = some (.ins (He.ga K "Trim") dx [("bed", .ref b), ("stump", .ref st), ("result", .ref r)]) := by rw [← hH4]; exact upd_same
  have n4 : ∀ a o, a ≠ x → H1 a = some o → H4 a = some o := fun a o n e => by rw [← hH4, upd_ne n, upd_ne n, upd_ne n]; exact e
  have s4 : Same (L2.del H1 x) H4 := fun a o e => by
    by_cases z : a = x
    · rw [z, del_same] at e
      cases e
    · rw [del_ne z] at e
      exact n4 a o z e
  exact hq hn H4 (fun a o n e nt => n4 a o n (t1.st a o e nt)) ((t1.tb.del hx1).same s4) ⟨dx, b, st, r, e4, ((t1.st.bed hb).del hx1).mono (Stay.of s4), Same.sqt s4 (sqt_del (t1.st.sqt hS) hx1), Same.sqt s4 (sqt_del (t1.st.sqt hR) hx1)⟩
end
end Sy
/-! defs with a star and one keyword-only parameter behind it -/
namespace Sy
open PySem PySem.Spec PyProof.Rows L2 PySem.W
/-- t looks one name up in the dict at D; fin: what follows if it holds v -/
def KwS {α : Type} (D : Addr) (nm : Str) (t : Sem α) (fin : Value → Sem α) : Prop := ∀ v : Value, ∃ (β γ : Type) (k1 : Option Value → Sem β) (k2 : β → Sem γ) (k3 : γ → Sem α) (a : β), t = ((nsGet D nm >>= k1) >>= k2) >>= k3 ∧ k1 (some v) = pure a ∧ (k2 a >>= k3) = fin v
/-- the promise: n parameters, a star, the keyword-only kw (dv if it lacks) -/
structure FnS (P : Program) (w : World) (K : PySem.W.Frag) (mg : Str → Option Value) (base : Heap) (k : Nat) (f : Addr) (n : Nat) (kw : Str) (dv : V) (sp : Sp) : Prop where
  run0 : ∀ (A : Around) (outer : List Env) (s : Shared) (H : Hp) (us : List Value) (vs : List V) (Q : VK) (E : XK), Room k A → Env0 P w K mg base A outer s H → Vals vs us →
    (∃ ws rest, vs = ws ++ rest ∧ ws.length = n ∧ rest.length ≤ sizeLine ∧ ∀ p, H p = none → sp (ws ++ [dv, .ref p]) (upd H p (.tup rest)) Q E) → codeAny (model P w) A (.call (.ref f) ⟨us, []⟩) (CR (L2.CX P w) outer P w H s Q E) s
  run1 : ∀ (A : Around) (outer : List Env) (s : Shared) (H : Hp) (us : List Value) (vs : List V) (u : Value) (v : V) (Q : VK) (E : XK), Room k A → Env0 P w K mg base A outer s H → Vals vs us → RelV v u →
    (∃ ws rest, vs = ws ++ rest ∧ ws.length = n ∧ rest.length ≤ sizeLine ∧ ∀ p, H p = none → sp (ws ++ [v, .ref p]) (upd H p (.tup rest)) Q E) → codeAny (model P w) A (.call (.ref f) ⟨us, [(kw, u)]⟩) (CR (L2.CX P w) outer P w H s Q E) s
section
variable {P : Program} {w : World} {K : PySem.W.Frag} {mg : Str → Option Value} {base : Heap}
theorem fnS_of {x q kw pv : Str} {st : Stmt} {f : Addr} {fd : FuncData} {dv : V} {N ps : List Str} {k : Nat} {sp : Sp} (F : FunD K x q (defArgs st) (defBody st) (defScope st) [] [(kw, dv)] f fd) (S : FnScope N (ps ++ [kw, pv]) (defScope st))
    (hb0 : ∀ (D : Addr) (doc pm : Value) (an : Option Addr) (cdv ct : Value) (us rest : List Value), us.length = ps.length → KwS D kw (bindArgs (PySem.W.fnOf x q (defArgs st) (defBody st) (defScope st) .none (.ref D) doc pm an cdv ct) ⟨us ++ rest, []⟩) fun v => newTuple rest >>= fun t => pure (ps.zip us ++ [(kw, v), (pv, t)]))
    (hb1 : ∀ (kV doc pm : Value) (an : Option Addr) (cdv ct : Value) (us rest : List Value) (v : Value), us.length = ps.length → bindArgs (PySem.W.fnOf x q (defArgs st) (defBody st) (defScope st) .none kV doc pm an cdv ct) ⟨us ++ rest, [(kw, v)]⟩ = (newTuple rest >>= fun t => pure (ps.zip us ++ [(kw, v), (pv, t)])))
    (body : ∀ (cdv : Value) (A : Around) (outer : List Env) (s : Shared) (H : Hp) (vs : List V) (Q : VK) (E : XK), Room k (A.deeper (envOfC q (defScope st) s.heap.objs.size f cdv)) → sp vs H Q E →
      ∃ t, PSs (cxOf (L2.CX P w) P w K mg base N q (defScope st) f cdv A outer s H E) (defBody st) t ∧ t { nx := fun _ H' => Q .non H', rt := Q } (start N vs) H) : FnS P w K mg base (k + 1) f ps.length kw dv sp := by
  obtain ⟨oc, od, dV, kV, doc, pm, an, cdv, ct, osl, rfl, lk, hcd, hD, hK⟩ := F.ex
  have core : ∀ (A : Around) (outer : List Env) (s : Shared) (H : Hp) (args : Args) (u1 u2 : List Value) (ws rest : List V) (u : Value) (v : V) (Q : VK) (E : XK), Room (k + 1) A → Env0 P w K mg base A outer s H → Vals ws u1 → Vals rest u2 → RelV v u → ws.length = ps.length → rest.length ≤ sizeLine →
      (∀ (A' : Around) (Ex : Value → Shared → Prop) (Q' : List (Str × Value) → Shared → Prop), wpAny (model P w) A' (newTuple u2 >>= fun t => pure (ps.zip u1 ++ [(kw, u), (pv, t)])) Q' Ex s → wpAny (model P w) A' (bindArgs (PySem.W.fnOf x q (defArgs st) (defBody st) (defScope st) dV kV doc pm an cdv ct) args) Q' Ex s) →
      (∀ p, H p = none → sp (ws ++ [v, .ref p]) (upd H p (.tup rest)) Q E) → codeAny (model P w) A (.call (.ref f) args) (CR (L2.CX P w) outer P w H s Q E) s := by
    intro A outer s H args u1 u2 ws rest u v Q E hr e0 r1 r2 rv hl hz hbind hq
    have hn : H s.heap.objs.size = none := e0.hok.fresh (Nat.le_refl _)
    have hl1 : u1.length = ps.length := by rw [← r1.length]; exact hl
    have hl2 : u2.length ≤ sizeLine := by rw [← r2.length]; exact hz
    refine StX.run_bnd lk hcd S hr e0 (G := fun xs H2 => ∃ p, H p = none ∧ xs = ws ++ [v, V.ref p] ∧ H2 = upd H p (.tup rest)) (fun A' Ex Q' h => hbind A' Ex Q' ?_) fun s2 H2 xs ⟨p, hp, ex, eH⟩ hr' => ?_
    · refine wpAny_bind (wpAny_newTuple (wpAny_pure ?_) hl2)
      have new : ObjOk P w (upd H s.heap.objs.size (.tup rest)) (s.heap.push ({ cls := .type "tuple", data := .seq u2.toArray } : Obj)) s.heap.objs.size (.tup rest) := ⟨hz, u2, r2, ⟨_, Heap.get?_push_size _ rfl, rfl, _, rfl⟩⟩
      have un := StX.un_laid (fs := frs outer) (s := s) (o := ({ cls := .type "tuple", data := .seq u2.toArray } : Obj)) (u := .tup rest) hn
      have z := h _ _ (ws ++ [v, V.ref s.heap.objs.size]) (u1 ++ [u, Value.ref s.heap.objs.size]) (StX.env0_laid e0 new) un rfl (fun e s' => StX.cxUp outer s H _ _ E e s' un (fun b o q => Heap.get?_push_of_some _ q) rfl) (r1.append (.cons rv (.cons rfl .nil)))
        (by rw [List.length_append, List.length_append, hl]; rfl) ⟨_, hn, rfl, rfl⟩
      rw [List.zip_append hl1.symm] at z
      exact z
    · subst ex eH
      exact body cdv A outer s2 _ _ Q E hr' (hq p hp)
  rcases hD with ⟨_, rfl⟩ | ⟨e, _⟩
  · refine ⟨fun A outer s H us vs Q E hr e0 r ⟨ws, rest, ev, hl, hz, hq⟩ => ?_, fun A outer s H us vs u v Q E hr e0 r rv ⟨ws, rest, ev, hl, hz, hq⟩ => ?_⟩
    · subst ev
      obtain ⟨u1, u2, rfl, r1, r2⟩ := StX.vals_split r
      rcases hK with e | ⟨D, rfl, hk⟩
      · cases e
      · obtain ⟨u, hu, rv⟩ := hk (kw, dv) List.mem_cons_self
        have KX : K.In s.heap := e0.mod.kin.keeps fun b o e => (e0.bs b o e).1
        refine core A outer s H _ u1 u2 ws rest u dv Q E hr e0 r1 r2 rv hl hz (fun A' Ex Q' h => ?_) hq
        obtain ⟨β, γ, k1, k2, k3, a, e1, e2, e3⟩ := hb0 D doc pm an cdv ct u1 u2 (by rw [← r1.length]; exact hl) u
        rw [e1, bind_assoc]
        refine wpAny_bind (wpAny_bind ((PySem.W.looks_nsIn (M := model P w) KX hu).here ?_))
        rw [e2]
        refine wpAny_pure ?_
        show wpAny _ _ (k2 a >>= k3) _ _ _
        rw [e3]
        exact h
    · subst ev
      obtain ⟨u1, u2, rfl, r1, r2⟩ := StX.vals_split r
      refine core A outer s H _ u1 u2 ws rest u v Q E hr e0 r1 r2 rv hl hz (fun A' Ex Q' h => ?_) hq
      rw [hb1 kV doc pm an cdv ct u1 u2 u (by rw [← r1.length]; exact hl)]
      exact h
  · exact absurd rfl e
end
/-! ### C(e, ..), C(e, .., kw = v) -/
def tMakeS (C : Addr) (n : Nat) (v : V) (sp : Sp) (E : XK) (vs : List V) (H1 : Hp) (Q : VK) : Prop := ∀ x dx, H1 x = none → H1 dx = none → dx ≠ x → ∃ ws rest, .ref x :: vs = ws ++ rest ∧ ws.length = n ∧ rest.length ≤ sizeLine ∧
  ∀ p, (upd (upd H1 dx (.own x)) x (.ins C dx [])) p = none → sp (ws ++ [v, .ref p]) (upd (upd (upd H1 dx (.own x)) x (.ins C dx [])) p (.tup rest)) (fun u H2 => u = .non ∧ Q (.ref x) H2) E
section
variable {X : Cx} {k j n : Nat} {f C : Addr} {kw : Str} {dv : V} {sp : Sp} {W : WX} {x : Str} {p pos kp : Pos} {e e2 : Expr} {es : List Expr} {t : TA} {te : TE}
theorem pe_mkS (M : Mk X.K C f) (F : FnS X.prog X.w X.K X.mg X.base k f n kw dv sp) (hr : Room j X.A) (hg : Gl X x) (hm : X.mg x = some (.ref C)) (tk : Takes X W) (ha : PA X (e :: es) t) (hk : k + 1 ≤ j := by decide) (hdb : (x == ("__debug__" : Str)) = false := by decide)
    (he : starEach (e :: es) X.env = (false, eval e X.env) :: starEach es X.env := by rfl) (hpl : (backTo pos (starEach es X.env)).any (·.1) = false := by rfl) : PE X (.Call (.Name x p) (e :: es) [] pos) (fun σ H Q => t σ H fun vs H1 => tMakeS C n dv sp (WE W σ) vs H1 Q) := by
  refine ⟨fun pins s σ H Q I h => ?_⟩
  refine wpAny_Call_Name_kw (ld_glob I hg hm ?_ hdb)
  refine PySem.W.callWith_K (h₀ := X.base) I.ok.mod.kin M.kp (thn (ha.run pos pins s σ H _ I h) fun us s1 ⟨vs, H1, I1, r, q⟩ => ⟨I1.kIn, ?_⟩) he hpl
  have hq := q (s1.heap.objs.size + 1) s1.heap.objs.size (I1.hok.fresh (Nat.le_succ _)) (I1.hok.fresh (Nat.le_refl _)) (Nat.ne_of_lt (Nat.lt_succ_self _))
  have I2 := Inv.made (C := C) I1
  have r2 : Vals (V.ref (s1.heap.objs.size + 1) :: vs) (Value.ref (s1.heap.objs.size + 1) :: us) := .cons rfl r
  have hr := hr.mono hk
  refine wpAny_call (make_map (f := f) I1.kIn M.makes M.init (beq_iff_eq.mp M.fn) (codeAny_mono (F.run0 _ X.stack _ _ (Value.ref (s1.heap.objs.size + 1) :: us) _ _ (WE W σ) (hr.make C us []) (I2.env0.make C us []) r2 hq) fun r s' hq' => ?_))
  cases r with
  | error e => exact passAt tk σ pins _ _ e s' I2 hq'
  | ok fl =>
    cases fl with
    | ret u =>
      obtain ⟨v, H', I3, rv, ev, q3⟩ := I2.after hq'
      subst ev
      exact ⟨rv, ⟨V.ref (s1.heap.objs.size + 1), H', I3, rfl, q3⟩⟩
    | next => exact False.elim hq'
    | brk => exact False.elim hq'
    | cont => exact False.elim hq'
theorem pe_mkSK (M : Mk X.K C f) (F : FnS X.prog X.w X.K X.mg X.base k f n kw dv sp) (hr : Room j X.A) (hg : Gl X x) (hm : X.mg x = some (.ref C)) (tk : Takes X W) (ha : PA X (e :: es) t) (he2 : PE X e2 te) (hk : k + 1 ≤ j := by decide) (hdb : (x == ("__debug__" : Str)) = false := by decide)
    (he : starEach (e :: es) X.env = (false, eval e X.env) :: starEach es X.env := by rfl) (hpl : ((backTo pos (starEach (e :: es) X.env)).any (·.1) || (backToKw pos (keywordEach [⟨some kw, e2, kp⟩] X.env)).any (·.1.isNone)) = false := by rfl)
    (hall : (backToKw pos (keywordEach [⟨some kw, e2, kp⟩] X.env)).all (·.1.isSome) = true := by rfl) (hks : (backToKw pos (keywordEach [⟨some kw, e2, kp⟩] X.env)).filterMap (·.1) = [kw] := by rfl) :
    PE X (.Call (.Name x p) (e :: es) [⟨some kw, e2, kp⟩] pos) (fun σ H Q => t σ H fun vs H1 => te σ H1 fun v H2 => tMakeS C n v sp (WE W σ) vs H2 Q) := by
  refine ⟨fun pins s σ H Q I h => ?_⟩
  refine wpAny_Call_Name_kw (ld_glob I hg hm ?_ hdb)
  refine PySem.W.callWith_KW (h₀ := X.base) I.ok.mod.kin M.kp hall (thn (ha.run pos pins s σ H _ I h) fun us s1 ⟨vs, H1, I1, r, q⟩ => ?_) hpl he
  refine thn ((pk_cons (nm := some kw) (kpos := kp) he2 pk_nil).run pos pins s1 σ H1 (fun zs H2 => match zs with
    | [v] => tMakeS C n v sp (WE W σ) vs H2 Q
    | _ => False) I1 q) fun ws s2 ⟨zs, H2, I2, rz, q2⟩ => ⟨I2.kIn, ?_⟩
  rw [hks]
  obtain ⟨v, rfl⟩ : ∃ v, zs = [v] := by
    match zs, q2 with
    | [], q2 => exact q2.elim
    | _ :: _ :: _, q2 => exact q2.elim
    | [v], _ => exact ⟨v, rfl⟩
  have q2 : tMakeS C n v sp (WE W σ) vs H2 Q := q2
  obtain ⟨u, rfl, rv⟩ := vals1 rz
  have hq := q2 (s2.heap.objs.size + 1) s2.heap.objs.size (I2.hok.fresh (Nat.le_succ _)) (I2.hok.fresh (Nat.le_refl _)) (Nat.ne_of_lt (Nat.lt_succ_self _))
  have I3 := Inv.made (C := C) I2
  have r2 : Vals (V.ref (s2.heap.objs.size + 1) :: vs) (Value.ref (s2.heap.objs.size + 1) :: us) := .cons rfl r
  have hr := hr.mono hk
  show wpAny _ _ (call (.ref C) us [(kw, u)]) _ _ _
  refine wpAny_call (make_map (f := f) I2.kIn M.makes M.init (beq_iff_eq.mp M.fn) (codeAny_mono (F.run1 _ X.stack _ _ (Value.ref (s2.heap.objs.size + 1) :: us) _ u v _ (WE W σ) (hr.make C us [(kw, u)]) (I3.env0.make C us [(kw, u)]) r2 rv hq) fun r s' hq' => ?_))
  cases r with
  | error e => exact passAt tk σ pins _ _ e s' I3 hq'
  | ok fl =>
    cases fl with
    | ret u =>
      obtain ⟨v, H', I4, rv, ev, q3⟩ := I3.after hq'
      subst ev
      exact ⟨rv, ⟨V.ref (s2.heap.objs.size + 1), H', I4, rfl, q3⟩⟩
    | next => exact False.elim hq'
    | brk => exact False.elim hq'
    | cont => exact False.elim hq'
end
end Sy
/-! need_same of any beds, heads_of, Trims -/
namespace Sy
open PySem PySem.Spec PyProof.Rows L2 LamX NdefX
/-- f(e, .., *xs) -/
theorem pe_calRS {X : Cx} {k j : Nat} {x : Str} {sp : Sp} {p pos : Pos} {e : Expr} {es : List Expr} {t : TA} {E : XK} (c : CalR X.prog X.w X.K X.mg X.base j x sp) (hr : Room k X.A) (tk : Takes X (fun cls d _ H => E cls d H)) (ha : PA X (e :: es) t) (hk : j ≤ k := by decide) (hg : Gl X x := by rfl) (hdb : (x == ("__debug__" : Str)) = false := by decide)
    (he : starEach (e :: es) X.env = (false, eval e X.env) :: starEach es X.env := by rfl) (hst : (backTo pos (starEach es X.env)).any (·.1) = true := by rfl) : PE X (.Call (.Name x p) (e :: es) [] pos) (fun σ H Q => t σ H fun vs H1 => sp vs H1 Q E) := by
  constructor
  intro pins s σ H Q I h
  refine wpAny_Call_Name_kw (ld_glob I hg c.at_ ?_ hdb)
  refine PySem.W.callWith_S2 (h₀ := X.base) I.ok.mod.kin c.kp (thn (ha.run pos pins s σ H _ I h) fun us s1 ⟨vs, H1, I1, r, q⟩ => ⟨I1.kIn, ?_⟩) he hst
  exact wpAny_call (run_fnR c.fn (hr.mono hk) (fun pins σ H s e s' I h => passAt tk σ pins H s e s' I h) I1 r q)
section
variable {P : Program} {w : World} {K : PySem.W.Frag} {mg : Str → Option Value} {base : Heap}
/-! need_same -/
def BdO (K : PySem.W.Frag) (H : Hp) (b : Addr) (rows : List Sy.Row) : Prop := BedAt K H b rows ∧ ∀ r ∈ rows, PyData.strOk r.1 = true
def spNeedN (K : PySem.W.Frag) : Sp := fun vs H Q E => ∃ (p b0 : Addr) (bs : List Addr) (rows : List Sy.Row) (rs : List (List Sy.Row)), vs = [.ref p] ∧ SqT K H p (.ref b0 :: bs.map V.ref) ∧ BdO K H b0 rows ∧ Paired (BdO K H) bs rs ∧ ((∀ r ∈ rs, r = rows) → Q .non H) ∧ ((∃ r ∈ rs, r ≠ rows) → RaO K H E)
theorem r_needN (T : Txt K mg) (OB : ErrB P K mg "OtherBed" "OtherBed.__init__" (clb 8 0) []) (F : DF K mg "need_same" 21) (c_same : CalM P w K mg base 1 "same" ["self", "other"] (spSameB K)) : CalR P w K mg base 3 "need_same" (spStar 0 (spNeedN K)) := by
  obtain ⟨⟨fd, F⟩, at_⟩ := F
  refine ⟨fnR_of (ps := []) F sc_need (fun kV doc pm an cdv ct => bind_star0 (B := fun l => bindArgs (PySem.W.fnOf "need_same" "need_same" (defArgs (top 21)) (defBody (top 21)) (defScope (top 21)) .none kV doc pm an cdv ct) ⟨l, []⟩) rfl (fun _ _ => rfl)) ?_, at_, F.kp⟩
  intro cdv A outer s H vs Q E hr h
  obtain ⟨p, b0, bs, rows, rs, rfl, hp, hb, hbs, hq, hE⟩ := h
  obtain ⟨mS, fS, FS, BS⟩ := c_same
  have sc := sc_need
  obtain ⟨dx, dA, tR, tK, dR, ps, b1, b2⟩ := id hb.1.ex
  refine ⟨_, (pss_one (ps_for (passes_of rfl) rfl (pi_tup (pv 0)) (pg_name (i := 1) sc.nd rfl (Or.inl rfl))
        (pss_one (ps_if (pt_not (pt_val (pe_meth (pe_ix ix_tup (pv 0) pe_int (fun _ _ => rfl)) T.bed.cl mS FS (hr.mono (by decide)) BS .nil (E := E0) (fun pins σ H s e s' I h => passL pins σ H s e s' I h) (pa_cons (pv 1) pa_nil))))
          (pss_one (ps_raise rfl (takes_of rfl rfl rfl rfl) (mk_ob OB hr rfl pass0)))
          pss_nil)))), ?_⟩
  have all : Paired (BdO K H) (b0 :: bs) (rows :: rs) := .cons hb hbs
  have hlen := paired_len all
  refine ⟨_, rfl, p, rfl, ⟨_, hp⟩, for_tup (K := K) (a := p) (xs := .ref b0 :: bs.map V.ref) (fun i σ H' => ∃ t1, σ = [some (.ref p), t1] ∧ H' = H ∧ ∀ r ∈ (rows :: rs).take i, r = rows) ⟨none, rfl, rfl, fun r z => by simp at z⟩ (fun _ _ _ _ ⟨_, _, e, _⟩ => by rw [e]; exact hp) ?_ ?_⟩
  · rintro i v σ H' hv ⟨t1, rfl, eH, hall⟩
    rw [eH]
    have hv' : ((b0 :: bs).map V.ref)[i]? = some v := hv
    obtain ⟨b, hbi, rfl⟩ := map_at hv'
    have hi := (List.getElem?_eq_some_iff.mp hbi).1
    obtain ⟨r, hri⟩ : ∃ r, (rows :: rs)[i]? = some r := ⟨_, List.getElem?_eq_getElem (by omega)⟩
    obtain ⟨b', hb', bd⟩ := paired_at all hri
    rw [hbi] at hb'
    cases hb'
    refine ⟨_, rfl, p, _, _, .ref b0, rfl, rfl, hp, atI_nat (j := 0) rfl, b0, dx, _, rfl, b1, rfl, _, rfl, b0, b, rows, r, rfl, hb.1, bd.1, hb.2, bd.2, _, rfl, ?_⟩
    by_cases e : rows = r
    · rw [decide_eq_true e]
      refine iteF ⟨_, rfl, rfl, fun z hz => ?_⟩
      rw [List.take_succ, hri] at hz
      rcases List.mem_append.mp hz with hz | hz
      · exact hall z hz
      · rw [List.mem_singleton.mp hz, e]
    · rw [decide_eq_false e]
      have hm : r ∈ rs := by
        rcases List.mem_cons.mp (List.mem_of_getElem? hri) with z | z
        · exact absurd z.symm e
        · exact z
      refine iteT fun x hx => ⟨x, rfl, upd_same, rfl, upd_same, hE ⟨r, hm, fun z => e z.symm⟩ _ fun u o z => ?_⟩
      have hu : u ≠ x := ne_of_none z hx
      rw [del_ne hu, upd_ne hu]
      exact z
  · rintro σ H' ⟨t1, rfl, eH, hall⟩
    rw [eH]
    refine hq fun r hr' => hall r ?_
    rw [List.take_of_length_le (by simp only [List.length_cons, List.length_map] at hlen ⊢; omega)]
    exact List.mem_cons_of_mem _ hr'
/-! heads_of -/
/-- the places of x, from n on -/
def hix : Nat → List Str → Str → List Nat
  | _, [], _ => []
  | n, y :: l, x => if y = x then n :: hix (n + 1) l x else hix (n + 1) l x
theorem hix_snoc (y x : Str) : ∀ (l : List Str) (n : Nat), hix n (l ++ [y]) x = if y = x then hix n l x ++ [n + l.length] else hix n l x
  | [], n => by
    show (if y = x then [n] else []) = _
    split <;> rfl
  | z :: l, n => by
    show (if z = x then n :: hix (n + 1) (l ++ [y]) x else hix (n + 1) (l ++ [y]) x) = if y = x then (if z = x then n :: hix (n + 1) l x else hix (n + 1) l x) ++ [n + (z :: l).length] else if z = x then n :: hix (n + 1) l x else hix (n + 1) l x
    rw [hix_snoc y x l (n + 1), List.length_cons, show n + 1 + l.length = n + (l.length + 1) by omega]
    by_cases h1 : z = x <;> by_cases h2 : y = x <;> simp [h1, h2]
theorem hix_len (x : Str) : ∀ (l : List Str) (n : Nat), (hix n l x).length ≤ l.length
  | [], _ => Nat.le_refl _
  | y :: l, n => by
    have := hix_len x l (n + 1)
    show (if y = x then n :: hix (n + 1) l x else hix (n + 1) l x).length ≤ l.length + 1
    split
    · rw [List.length_cons]; omega
    · omega
/-- the dict of heads -/
structure HdK (K : PySem.W.Frag) (B : Hp) (kvs : List (Key × V)) (hs : List Str) : Prop where
  z : ∀ i : Int, valV kvs (Sum.inl i : Key) = none
  no : ∀ x : Str, hix 0 hs x = [] → valV kvs (Sum.inr x : Key) = none
  yes : ∀ x : Str, hix 0 hs x ≠ [] → ∃ p, valV kvs (Sum.inr x : Key) = some (.ref p) ∧ SqT K B p (vN (hix 0 hs x))
  le : kvs.length ≤ hs.length
theorem HdK.stayT {B B' : Hp} {kvs : List (Key × V)} {hs : List Str} (h : HdK K B kvs hs) (s : StayT B B') : HdK K B' kvs hs :=
  ⟨h.z, h.no, fun x e => by obtain ⟨p, e1, e2⟩ := h.yes x e; exact ⟨p, e1, s.sqt e2⟩, h.le⟩
abbrev Trm := List Str × List Key
def hds (ts : List Trm) : List Str := ts.map fun t => t.1.headD ""
/-- members of a set of trims -/
def TmAt (K : PySem.W.Frag) (rows : List Sy.Row) (H : Hp) (x : Addr) (t : Trm) : Prop := TrmAt K H x rows t.1 t.2
theorem putK_len (k : Key) (v : V) (kvs : List (Key × V)) : (putK kvs k v).length ≤ kvs.length + 1 := by
  by_cases c : valV kvs k = none
  · rw [putK_new _ c, List.length_append]
    exact Nat.le_refl _
  · unfold putK
    split
    · rw [List.length_map]
      omega
    · rw [List.length_append]
      exact Nat.le_refl _
/-- own things that are no tuples -/
def NTu (L : List (Addr × HO)) : Prop := ∀ q ∈ L, (∀ xs, q.2 ≠ .tup xs) ∧ ∀ o u, q.2 ≠ .frz o u
theorem NTu.nil : NTu [] := fun _ h => nomatch h
theorem NTu.lst {a : Addr} {xs : List V} {L : List (Addr × HO)} (h : NTu L) : NTu ((a, .lst xs) :: L) := fun q hq => by
  rcases List.mem_cons.mp hq with rfl | hq
  · exact ⟨fun xs z => (nomatch z), fun o u z => (nomatch z)⟩
  · exact h q hq
theorem NTu.dK {a : Addr} {xs : List (Key × V)} {L : List (Addr × HO)} (h : NTu L) : NTu ((a, .dK xs) :: L) := fun q hq => by
  rcases List.mem_cons.mp hq with rfl | hq
  · exact ⟨fun xs z => (nomatch z), fun o u z => (nomatch z)⟩
  · exact h q hq
theorem sqt_cut {B H : Hp} {L : List (Addr × HO)} {p : Addr} {xs : List V} (h : Hs B L H) (nt : NTu L) (t : SqT K H p xs) : SqT K (cut L H) p xs := by
  have out : ∀ w, H p = some w → ((∃ xs, w = .tup xs) ∨ ∃ o u, w = .frz o u) → p ∉ L.map (·.1) := fun w e c hm => by
    obtain ⟨q, hq, z⟩ := List.mem_map.mp hm
    have := h.own q hq
    rw [z, e] at this
    rcases c with ⟨xs, rfl⟩ | ⟨o, u, rfl⟩
    · exact (nt q hq).1 _ (Option.some.inj this).symm
    · exact (nt q hq).2 _ _ (Option.some.inj this).symm
  rcases t with (t | ⟨o, t⟩) | t
  · exact .inl (.inl (by rw [cut_at (out _ t (.inl ⟨_, rfl⟩))]; exact t))
  · exact .inl (.inr ⟨o, by rw [cut_at (out _ t (.inr ⟨_, _, rfl⟩))]; exact t⟩)
  · exact .inr t
def spHd (K : PySem.W.Frag) : Sp := fun vs H Q _ => ∃ (m : Addr) (as : List Addr) (rows : List Sy.Row) (ts : List Trm), vs = [.ref m] ∧ SqT K H m (as.map V.ref) ∧ Paired (TmAt K rows H) as ts ∧ ts.length ≤ 100 ∧ (∀ t ∈ ts, t.1 ≠ []) ∧
  ∀ H' d kvs, Same H H' → H d = none → H' d = some (.dK kvs) → HdK K H' kvs (hds ts) → Q (.ref d) H'
abbrev N_hd : List Str := ["members", "heads", "index", "kind"]
theorem sc_hd : FnScope N_hd ["members"] (defScope (top 35)) := ⟨rfl, rfl, rfl, by decide +kernel, rfl, by decide +kernel, by decide +kernel⟩
theorem k_hd (T : Txt K mg) (TT : TxtT K) (F : DF K mg "heads_of" 35) : Cal P w K mg base 1 "heads_of" ["members"] (spHd K) := by
  refine cal_of F.1 F.2 sc_hd (fun _ _ _ _ _ _ us e => match us, e with | [_], _ => rfl) (fun vs H Q E s => by obtain ⟨_, _, _, _, rfl, _⟩ := s; rfl) ?_
  intro cdv A outer s H vs Q E hr h
  obtain ⟨m, as, rows, ts, rfl, hm, hp, hl, hne, hq⟩ := h
  have hu := hu_of hr
  have sc := sc_hd
  refine ⟨_, (pss_cons (ps_set (i := 1) sc.nd rfl (Or.inl rfl) pe_dnewK)
      (pss_cons (ps_for (passes_of rfl) rfl (pi_range1 rfl T.range (pa_cons (pe_callB call_len_seq (by rfl) T.len (by decide +kernel) (pa_cons (pv 0) pa_nil)) pa_nil)) (pg_name (i := 2) sc.nd rfl (Or.inl rfl))
        (pss_cons (ps_set (i := 3) sc.nd rfl (Or.inl rfl) (pe_ix ix_tup (pe_fld (pe_ix ix_tup (pv 0) (pv 2) (fun _ _ => rfl)) rfl) pe_int (fun _ _ => rfl)))
        (pss_one (ps_dput hu (pv 1) (pv 3) (pe_op op_catA (pe_dget2 hu (pv 1) (pv 3) (pe_tup pa_nil) ⟨rfl, rfl, rfl, rfl⟩) (pe_tup (pa_cons (pv 2) pa_nil))) rfl))))
      (pss_one (ps_ret (pv 1))))), ?_⟩
  intro d hd
  have hpl := paired_len hp
  have k1 := (Hs.start H).new (o := .dK []) hd
  refine ⟨_, rfl, m, _, rfl, .inr (Same.sqt k1.sub hm), _, rfl, by rw [List.length_map]; omega, by rw [List.length_map]; omega, for_rng (n := (as.map V.ref).length) (fun i σ H' => ∃ (t2 t3 : Option V) (kvs : List (Key × V)) (B : Hp), σ = [some (.ref m), some (.ref d), t2, t3] ∧ Same H B ∧ Hs B [(d, .dK kvs)] H' ∧ HdK K B kvs (hds (ts.take i))) ⟨none, none, [], H, rfl, Same.refl _, k1, ⟨fun _ => rfl, fun _ _ => rfl, fun _ z => absurd rfl z, Nat.zero_le _⟩⟩ ?_ ?_⟩
  · rintro i σ H1 hi ⟨t2, t3, kvs, B, rfl, sB, hh, hk⟩
    rw [List.length_map] at hi
    obtain ⟨t, ht⟩ : ∃ t, ts[i]? = some t := ⟨_, List.getElem?_eq_getElem (by omega)⟩
    obtain ⟨x, ex, tx⟩ := paired_at hp ht
    obtain ⟨dx, b, st, r, h1, h2, h3, h4⟩ := (show TrmAt K H x rows t.1 t.2 from tx).ex
    obtain ⟨y, l, el⟩ : ∃ y l, t.1 = y :: l := by
      cases e : t.1 with
      | nil => exact absurd e (hne t (List.mem_of_getElem? ht))
      | cons y l => exact ⟨y, l, rfl⟩
    have sH := sB.trans hh.sub
    refine ⟨_, rfl, _, rfl, m, _, _, .ref x, rfl, rfl, Same.sqt sH hm, atI_nat (by rw [List.getElem?_map, ex]; rfl), x, _, dx, _, _, rfl, sH _ _ h1, TT.cl, TT.nS, rfl, st, _, _, .str y, rfl, rfl, Same.sqt sH h3, atI_nat (j := 0) (by rw [el]; rfl), ?_⟩
    have htk : hds (ts.take (i + 1)) = hds (ts.take i) ++ [y] := by
      rw [List.take_succ, ht]
      unfold hds
      rw [List.map_append]
      show _ ++ [t.1.headD ""] = _
      rw [el]
      rfl
    have hln : (hds (ts.take i)).length = i := by
      unfold hds
      rw [List.length_map, List.length_take]
      omega
    refine ⟨_, rfl, d, rfl, .inl ⟨_, .inl hh.r0⟩, _, rfl, (by show 0 ≤ sizeLine; decide), fun t0 ht0 => ?_⟩
    have h5 := hh.tup (o := .tup []) ht0
    have s5 := up_same (o := .tup []) (hh.sub.free ht0)
    have e5 : SqT K (upd B t0 (.tup [])) t0 [] := SqT.of upd_same
    have hk5 := hk.stayT (StayT.of s5)
    have sB5 := sB.trans s5
    generalize upd B t0 (.tup []) = B5 at *
    refine ⟨_, DGet.k (k := Sum.inr y) h5.r0, ?_⟩
    -- what stood there, and the place
    have core : ∀ (v : V), v = (valV kvs (Sum.inr y : Key)).getD (.ref t0) → ∃ p, v = .ref p ∧ SqT K B5 p (vN (hix 0 (hds (ts.take i)) y)) := by
      intro v ev
      by_cases c : hix 0 (hds (ts.take i)) y = []
      · rw [hk5.no y c] at ev
        exact ⟨t0, ev, by rw [c]; exact e5⟩
      · obtain ⟨p, e1, e2⟩ := hk5.yes y c
        rw [e1] at ev
        exact ⟨p, ev, e2⟩
    obtain ⟨p, ep, tp⟩ := core _ rfl
    rw [ep]
    refine ⟨_, rfl, (by show 1 ≤ sizeLine; decide), fun t6 ht6 => ?_⟩
    have h6 := h5.tup (o := .tup [.int (i : Nat)]) ht6
    have s6 := up_same (o := .tup [.int (i : Nat)]) (h5.sub.free ht6)
    have e6 : SqT K (upd B5 t6 (.tup [.int (i : Nat)])) t6 [.int (i : Nat)] := SqT.of upd_same
    have tp6 := Same.sqt s6 tp
    have hk6 := hk5.stayT (StayT.of s6)
    have sB6 := sB5.trans s6
    generalize upd B5 t6 (.tup [.int (i : Nat)]) = B6 at *
    have hxl := hix_len y (hds (ts.take i)) 0
    refine cat_any (Same.sqt h6.sub tp6) (Same.sqt h6.sub e6) (by rw [List.length_map]; show _ + 1 ≤ _; omega) (fun p7 H7 s7 t7 => ?_)
    have a7 := h6.after s7
    have t7' := sqt_cut a7.2 (NTu.dK NTu.nil) t7
    have hk7 := hk6.stayT (StayT.of a7.1)
    have h7 := a7.2
    have sB7 := sB6.trans a7.1
    generalize cut [(d, .dK kvs)] H7 = B7 at *
    refine ⟨_, rfl, _, rfl, d, _, rfl, DPut.k (k := Sum.inr y) h7.r0 (by have := hk7.le; rw [hln] at this; rw [sizeLine_eq]; omega), _, _, _, B7, rfl, sB7, h7.w0, ?_⟩
    have es : vN (hix 0 (hds (ts.take i)) y) ++ [V.int (i : Nat)] = vN (hix 0 (hds (ts.take (i + 1))) y) := by
      rw [htk, hix_snoc, if_pos rfl, hln, vN, vN, List.map_append, Nat.zero_add]
      rfl
    rw [es] at t7'
    refine ⟨fun z => ?_, fun x hx => ?_, fun x hx => ?_, ?_⟩
    · rw [valV_put, if_neg (fun e => by cases e)]
      exact hk7.z z
    · by_cases c : x = y
      · subst c
        rw [htk, hix_snoc, if_pos rfl] at hx
        simp at hx
      · rw [valV_put, if_neg (fun e => c (Sum.inr.inj e))]
        rw [htk, hix_snoc, if_neg (fun z => c z.symm)] at hx
        exact hk7.no x hx
    · by_cases c : x = y
      · subst c
        exact ⟨p7, by rw [valV_put, if_pos rfl], t7'⟩
      · rw [valV_put, if_neg (fun e => c (Sum.inr.inj e))]
        rw [htk, hix_snoc, if_neg (fun z => c z.symm)] at hx ⊢
        exact hk7.yes x hx
    · have h1 := putK_len (Sum.inr y) (.ref p7) kvs
      have h2 := hk7.le
      rw [htk, List.length_append]
      show _ ≤ _ + 1
      omega
  · rintro σ H1 ⟨t2, t3, kvs, B, rfl, sB, hh, hk⟩
    rw [List.length_map, List.take_of_length_le (by omega)] at hk
    exact ⟨_, rfl, hq H1 d kvs (sB.trans hh.sub) hd hh.r0 (hk.stayT (StayT.of hh.sub))⟩
end
end Sy
/-! _law_result -/
namespace Sy
open PySem PySem.Spec PyProof.Rows L2
theorem rgV_nats (n : Nat) : rgV 0 (n : Int) = vN (List.range n) := by
  unfold rgV vN
  have e : (((n : Nat) : Int) - 0).toNat = n := by omega
  rw [e]
  exact List.map_congr_left fun i _ => by show V.int (0 + (i : Int)) = _; rw [Int.zero_add]
theorem map_erase {α β : Type} (f : α → β) : ∀ (l : List α) (i : Nat), (l.map f).eraseIdx i = (l.eraseIdx i).map f
  | [], _ => rfl
  | _ :: _, 0 => rfl
  | x :: l, i + 1 => by
    show f x :: (l.map f).eraseIdx i = f x :: (l.eraseIdx i).map f
    rw [map_erase f l i]
/-- a result begun: n branches to come, met the numbers that stand in it -/
structure PreK (rows : List Sy.Row) (h : Nat) (ks : List Key) (n : Nat) (met : List Int) : Prop where
  fa : ∀ rest, faK rows (okH (h : Int)) 1 0 (ks ++ rest) = faK rows (okH (h : Int)) n ks.length rest
  rep : ∀ rest, repK [] 0 (ks ++ rest) = repK met ks.length rest
theorem PreK.nil {rows : List Sy.Row} {h : Nat} : PreK rows h [] 1 [] := ⟨fun _ => rfl, fun _ => rfl⟩
section
variable {rows : List Sy.Row} {h n : Nat} {ks : List Key} {met : List Int}
theorem PreK.kind (p : PreK rows h ks n met) (hn : 0 < n) {x : Str} (hx : isK rows x = true) : PreK rows h (ks ++ [.inr x]) (n - 1 + ar rows x) met where
  fa rest := by
    rw [List.append_assoc, p.fa, List.length_append]
    show faK rows (okH (h : Int)) n ks.length (.inr x :: rest) = _
    rw [faK, if_neg (by omega), if_neg (fun z => by have := z.1; unfold isKK at this; simp only at this; rw [hx] at this; cases this)]
    rfl
  rep rest := by
    rw [List.append_assoc, p.rep, List.length_append]
    rfl
theorem PreK.hole (p : PreK rows h ks n met) (hn : 0 < n) {m : Nat} (hm : m < h) (nm : (m : Int) ∉ met) : PreK rows h (ks ++ [.inl (m : Int)]) (n - 1) ((m : Int) :: met) where
  fa rest := by
    rw [List.append_assoc, p.fa, List.length_append]
    show faK rows (okH (h : Int)) n ks.length (.inl (m : Int) :: rest) = _
    have e : okH (h : Int) (.inl (m : Int)) = true := by
      show (decide (0 ≤ (m : Int)) && decide ((m : Int) < (h : Int))) = true
      rw [decide_eq_true (by omega), decide_eq_true (by omega)]
      rfl
    rw [faK, if_neg (by omega), if_neg (fun z => by rw [e] at z; cases z.2)]
    rfl
  rep rest := by
    rw [List.append_assoc, p.rep, List.length_append]
    show repK met ks.length (.inl (m : Int) :: rest) = _
    rw [repK, if_neg nm]
    rfl
theorem PreK.done (p : PreK rows h ks 0 met) : rfK rows (h : Int) ks = -1 := by
  have f := p.fa []
  have r := p.rep []
  rw [List.append_nil] at f r
  rw [faK] at f
  rw [repK] at r
  have f : faK rows (okH (h : Int)) 1 0 ks = -1 := by rw [f]; exact if_neg (by omega)
  unfold rfK
  rw [r, f]
  exact if_neg (by omega)
end
/-- a result as the law makes it for a stump -/
structure RsOk (rows : List Sy.Row) (l : List Str) (ks : List Key) : Prop where
  rf : rfK rows (l.count ("*" : Str) : Nat) ks = -1
  kn : knK rows ks < knK rows (kS l)
  le : ks.length ≤ 6
  wd : ∀ x, Sum.inr x ∈ ks → Wd x
theorem knK_snoc {rows : List Sy.Row} {ks : List Key} (k : Key) : knK rows (ks ++ [k]) = knK rows ks + if isKK rows k = true then 1 else 0 := by
  unfold knK
  rw [List.filter_append, List.length_append]
  cases c : isKK rows k <;> simp [c]
theorem knK_stump {rows : List Sy.Row} (st : isK rows "*" = false) : ∀ {l : List Str}, (∀ x ∈ l, isK rows x = true ∨ x = "*") → knK rows (kS l) + l.count ("*" : Str) = l.length
  | [], _ => rfl
  | x :: l, h => by
    have ih := knK_stump st (l := l) fun y hy => h y (List.mem_cons_of_mem _ hy)
    have e : knK rows (kS (x :: l)) = knK rows (kS l) + if isK rows x = true then 1 else 0 := by
      unfold knK
      show ((Sum.inr x :: kS l).filter (isKK rows)).length = _
      rw [List.filter_cons]
      show (if isK rows x = true then Sum.inr x :: (kS l).filter (isKK rows) else (kS l).filter (isKK rows)).length = _
      split <;> simp
    rw [e, List.count_cons, List.length_cons]
    by_cases c : x = ("*" : Str)
    · subst c
      rw [st]
      simp
      omega
    · have k := (h x List.mem_cons_self).resolve_right c
      rw [k]
      simp [c]
      omega
section
variable {P : Program} {w : World} {K : PySem.W.Frag} {mg : Str → Option Value} {base : Heap}
def spRsL (K : PySem.W.Frag) : Sp := fun vs H Q _ => ∃ (c g q p : Addr) (rows : List Sy.Row) (l : List Str), vs = [.ref g, .ref q, .ref p] ∧ Bag c g H ∧ q ≠ g ∧ RL K H q rows ∧ KdsOk rows ∧ StpOk rows l 6 ∧ SqZ K H p (l.map V.str) ∧
  ∀ r ks H', RsOk rows l ks → Dr c g H H' → SqT K H' r (ks.map kV) → Q (.ref r) H'
abbrev N_rsL : List Str := ["_law_bag_here", "_law_kinds_here", "_law_stump_here", "_law_free", "_law_room", "_law_row", "_law_need", "_law_k", "_law_choice", "_law_at", "_law_one"]
theorem sc_rsL : FnScope N_rsL ["_law_bag_here", "_law_kinds_here", "_law_stump_here"] (defScope (top 46)) := ⟨rfl, rfl, rfl, by decide +kernel, rfl, by decide +kernel, by decide +kernel⟩
theorem k_rsL (T : Txt K mg) (F : DF K mg "_law_result" 46) (c_law_pick : Cal P w K mg base 1 "_law_pick" ["_law_bag_here", "_law_limit"] spPick) : Cal P w K mg base 2 "_law_result" ["_law_bag_here", "_law_kinds_here", "_law_stump_here"] (spRsL K) := by
  refine cal_of F.1 F.2 sc_rsL (fun _ _ _ _ _ _ us e => match us, e with | [_, _, _], _ => rfl) (fun vs H Q E s => by obtain ⟨_, _, _, _, _, _, rfl, _⟩ := s; rfl) ?_
  intro cdv A outer s H vs Q E hr h
  obtain ⟨c, g, q, p, rows, l, rfl, hg, hne, hRL, ok, stp, hp, hq⟩ := h
  have sc := sc_rsL
  refine ⟨_, (pss_cons (ps_set (i := 3) sc.nd rfl (Or.inr rfl) (pe_listRg rfl (by rfl) T.list (prg_1 rfl T.range (pe_bmT PySem.F.slot_tuple_count PySem.F.type_tuple_count mt_tcount (pv 2) (pa_cons pe_str pa_nil)))))
      (pss_cons (ps_set (i := 4) sc.nd rfl (Or.inr rfl) (pe_op op_sub (pe_op op_sub (pe_callB call_len_seq (by rfl) T.len (by decide +kernel) (pa_cons (pv 2) pa_nil)) (pe_callB call_len_seq (by rfl) T.len (by decide +kernel) (pa_cons (pv 3) pa_nil))) pe_int))
      (pss_cons (ps_set (i := 5) sc.nd rfl (Or.inl rfl) (pe_tup pa_nil))
      (pss_cons (ps_set (i := 6) sc.nd rfl (Or.inr rfl) pe_int)
      (pss_cons (ps_for (passes_of rfl) rfl (pi_range1 rfl T.range (pa_cons (pe_callB call_len_seq (by rfl) T.len (by decide +kernel) (pa_cons (pv 2) pa_nil)) pa_nil)) (pg_name (i := 7) sc.nd rfl (Or.inl rfl))
        (pss_cons (ps_if (pt_cmpR op_eq (pv 6) pe_int (nomark _))
          (pss_one ps_break)
          pss_nil)
        (pss_cons (ps_setLc (i := 8) (own := [("_law_one", 10)]) (g := gName 10) rfl sc.nd rfl rfl (sw_true rfl rfl rfl (by decide +kernel)) (pi_list (pv 1)) (blkOk_by (N := N_rsL) (sc := defScope (top 46)) (by decide +kernel)) (fun _ _ _ _ _ => (pg_name (i := 10) sc.nd rfl (Or.inl rfl))) (fun _ _ _ _ _ => (pts_one (PW.pt (pw_and (pt_cmpR op_gt (pv 4) pe_int (nomark _)) (pw_and1 (pt_cmpR op_le (pe_op op_add (pv 6) (pe_ixTK K rfl (pv 10) pe_int (fun _ _ => rfl))) (pe_op op_add (pv 4) (pe_callB (call_lenK K rfl) (by rfl) T.len (by decide +kernel) (pa_cons (pv 3) pa_nil))) (nomark _))))))) (fun _ _ _ _ _ => (pv 10)))
        (pss_cons (ps_set (i := 9) sc.nd rfl (Or.inl rfl) (pe_cal c_law_pick hr (pa_cons (pv 0) (pa_cons (pe_op op_add (pe_callB call_len_seq (by rfl) T.len (by decide +kernel) (pa_cons (pv 8) pa_nil)) (pe_op op_mul pe_int (pe_callB call_len_seq (by rfl) T.len (by decide +kernel) (pa_cons (pv 3) pa_nil)))) pa_nil))))
        (pss_one (ps_if (pt_cmpR op_lt (pv 9) (pe_callB call_len_seq (by rfl) T.len (by decide +kernel) (pa_cons (pv 8) pa_nil)) (nomark _))
          (pss_cons (ps_set (i := 5) sc.nd rfl (Or.inl rfl) (pe_op op_catA (pv 5) (pe_tup (pa_cons (pe_ix ix_tup (pe_ix ix_list (pv 8) (pv 9) (fun _ _ => rfl)) pe_int (fun _ _ => rfl)) pa_nil))))
          (pss_cons (ps_set (i := 6) sc.nd rfl (Or.inr rfl) (pe_op op_add (pe_op op_sub (pv 6) pe_int) (pe_ix ix_tup (pe_ix ix_list (pv 8) (pv 9) (fun _ _ => rfl)) pe_int (fun _ _ => rfl))))
          (pss_one (ps_set (i := 4) sc.nd rfl (Or.inr rfl) (pe_op op_sub (pv 4) pe_int)))))
          (pss_cons (ps_set (i := 5) sc.nd rfl (Or.inl rfl) (pe_op op_catA (pv 5) (pe_tup (pa_cons (pe_bm PySem.F.plainAttrs_list PySem.F.slot_list_pop PySem.F.type_list_pop mt_popAt (pv 3) (pa_cons (pe_op op_fdiv (pe_op op_sub (pv 9) (pe_callB call_len_seq (by rfl) T.len (by decide +kernel) (pa_cons (pv 8) pa_nil))) pe_int) pa_nil)) pa_nil))))
          (pss_one (ps_set (i := 6) sc.nd rfl (Or.inr rfl) (pe_op op_sub (pv 6) pe_int))))))))))
      (pss_one (ps_ret (pv 5)))))))), ?_⟩
  obtain ⟨x0, h0, bc0, pr, rfl, hL, hat⟩ := hg.takeR hne hRL
  have hp0 : SqZ K (L2.del H g) p (l.map V.str) := by
    obtain ⟨⟨x, e⟩, _⟩ := hg
    exact hp.stay (stay_del e)
  have hle := ok.le
  rw [List.length_map] at hle
  have nd := ok.ok.nd
  generalize hB0 : L2.del H g = B0 at *
  have st := star_nk ok
  have kst := knK_stump st (l := l) fun x hx => (stp.wd x hx).imp (·.1) id
  have l6 := stp.le
  have l2 : 1 ≤ knK (pr.map (·.2)) (kS l) := by
    obtain ⟨x, t, rfl, hx, _⟩ := stp.hd
    have e : knK (pr.map (·.2)) (kS (x :: t)) = knK (pr.map (·.2)) (kS t) + 1 := by
      unfold knK
      show ((Sum.inr x :: kS t).filter (isKK (pr.map (·.2)))).length = _
      rw [List.filter_cons]
      show (if isK (pr.map (·.2)) x = true then Sum.inr x :: (kS t).filter (isKK (pr.map (·.2))) else (kS t).filter (isKK (pr.map (·.2)))).length = _
      rw [if_pos hx]
      rfl
    omega
  generalize hholes : l.count ("*" : Str) = hs at *
  have hlen2 : 2 ≤ l.length := by
    obtain ⟨x, t, rfl, hx, ha⟩ := stp.hd
    cases t with
    | cons y t => simp only [List.length_cons]; omega
    | nil =>
      have := stp.ck
      rw [fa, if_neg (by omega), if_neg (fun z => by rw [hx] at z; cases z.1), fa, if_pos (by omega)] at this
      omega
  refine ⟨_, rfl, ⟨p, _, rfl, hp.sq, hp.nd⟩, p, _, _, rfl, rfl, hp.sq, rfl, flat_strs l, (hs : Int), by rw [countP_strs, hholes], RgOk.of_le (by omega) (by omega) (by omega) (by omega), fun F hF => ?_⟩
  rw [rgV_nats]
  have h1 := (h0.new (o := .lst (vN (List.range hs))) hF).swap
  refine ⟨_, rfl, p, _, rfl, .inr (Same.sqt h1.sub hp0.sq), _, rfl, F, _, rfl, .inl (SqL.of h1.r1), _, _, rfl, rfl, _, _, rfl, rfl, ?_⟩
  refine ⟨(by show 0 ≤ sizeLine; decide), fun r0 hr0 => ?_⟩
  have h2 := h1.tup (o := .tup []) hr0
  have s2 := up_same (o := .tup []) (h1.sub.free hr0)
  have e2 : SqT K (upd B0 r0 (.tup [])) r0 [] := SqT.of upd_same
  generalize upd B0 r0 (.tup []) = B2 at *
  have er : (((l.map V.str).length : Nat) : Int) - ((vN (List.range hs)).length : Nat) - 1 = ((knK (pr.map (·.2)) (kS l) - 1 : Nat) : Int) := by
    rw [List.length_map, List.length_map, List.length_range]
    omega
  have fin : ∀ (ks : List Key) (met : List Int) (room i : Nat) (r : Addr) (x : Int × Int × Int) (B H' : Hp) (fr : List Nat), PreK (pr.map (·.2)) hs ks 0 met → knK (pr.map (·.2)) ks + room + 1 = knK (pr.map (·.2)) (kS l) → ks.length ≤ 6 → (∀ x, Sum.inr x ∈ ks → Wd x) → SqT K B r (ks.map kV) → Same B0 B → Hs B [(g, bagO c x), (F, .lst (vN fr))] H' → Q (.ref r) H' :=
    fun ks met room i r x B H' fr h1 h2 h3 h4 h5 h6 h7 => hq r ks H' ⟨by rw [hholes]; exact h1.done, by omega, h3, h4⟩ (h7.isDr (by rw [hB0]; exact h6)) (Same.sqt h7.sub h5)
  refine ⟨_, rfl, p, _, rfl, .inr (Same.sqt h2.sub (Same.sqt s2 hp0.sq)), _, rfl, by rw [List.length_map]; omega, by rw [List.length_map]; omega, for_rng (n := (l.map V.str).length) (fun i σ H' => ∃ (t7 t8 t9 : Option V) (ks : List Key) (n room : Nat) (met : List Int) (fr : List Nat) (r : Addr) (x : Int × Int × Int) (B : Hp), σ = [some (.ref g), some (.ref q), some (.ref p), some (.ref F), some (.int (room : Nat)), some (.ref r), some (.int (n : Nat)), t7, t8, t9, none] ∧
      room + fr.length + i + 1 = l.length ∧ n ≤ room + fr.length ∧ PreK (pr.map (·.2)) hs ks n met ∧ (∀ m ∈ fr, m < hs) ∧ fr.Nodup ∧ (∀ m ∈ fr, (m : Int) ∉ met) ∧ knK (pr.map (·.2)) ks + room + 1 = knK (pr.map (·.2)) (kS l) ∧ ks.length = i ∧ (∀ x, Sum.inr x ∈ ks → Wd x) ∧ SqT K B r (ks.map kV) ∧ Same B0 B ∧ Hs B [(g, bagO c x), (F, .lst (vN fr))] H')
    ⟨none, none, none, [], 1, knK (pr.map (·.2)) (kS l) - 1, [], List.range hs, r0, x0, B2, by rw [← er]; rfl, by rw [List.length_range]; omega, by rw [List.length_range]; omega, PreK.nil, fun m hm => List.mem_range.mp hm, List.nodup_range, fun _ _ z => (nomatch z), by show 0 + _ + 1 = _; omega, rfl, fun _ z => (nomatch z), e2, s2, h2⟩ ?_ ?_⟩
  · rintro i σ H5 hi ⟨t7, t8, t9, ks, n, room, met, fr, r, x, B, rfl, hsum, hn, hpre, hfr, hfn, hfm, hkn, hkl, hwd, zr, sB, hh⟩
    rw [List.length_map] at hi
    refine ⟨_, rfl, rfl, _, rfl, if_dec (fun c0 => ?_) (fun c0 => ?_)⟩
    · have c0 : n = 0 := by have := V.int.inj c0; omega
      subst c0
      exact ⟨_, rfl, fin ks met room i r x B H5 fr hpre hkn (by omega) hwd zr sB hh⟩
    have c0 : 0 < n := Nat.pos_of_ne_zero fun z => c0 (by rw [z]; rfl)
    have hLB := sB _ _ hL
    have hatB := hat.mono sB
    have hpB := hp0.same sB
    refine ⟨_, rfl, q, rfl, ⟨_, SqL.of (hh.sub _ _ hLB)⟩, fun D5 hD5 => ?_⟩
    have hS := Hs.start H5
    refine lc_filt (K := K) (xs := pr) (f := fun z => V.ref z.1) (out := fun z => V.ref z.1) (keep := fun z => decide (0 < room ∧ n + z.2.2 ≤ room + fr.length)) hS hD5 (fun _ _ z => z.sub _ _ (hh.sub _ _ hLB)) (by omega) (fun z hz H' s' R1 R2 k1 k2 => ?_) (fun H6 h6 => ?_)
    · have tz := Same.sqt s' (Same.sqt hh.sub (hatB.at_ z hz))
      refine ⟨_, rfl, _, _, rfl, rfl, _, rfl, if_dec (fun c1 => ?_) (fun c1 => k2 (decide_eq_false (by omega)))⟩
      refine ⟨_, rfl, _, rfl, z.1, _, _, _, rfl, rfl, tz, atI_nat (j := 1) rfl, _, _, rfl, rfl, _, rfl, _, rfl, F, _, rfl, .inl (SqL.of (s' _ _ hh.r1)), _, _, rfl, rfl, _, _, rfl, rfl, _, rfl, ?_⟩
      rw [List.length_map]
      exact if_dec (fun c2 => ⟨_, rfl, k1 (decide_eq_true (by omega))⟩) (fun c2 => k2 (decide_eq_false (by omega)))
    · have a6 := hh.after h6.sub
      have h7 := a6.2
      have e7 : (cut [(g, bagO c x), (F, .lst (vN fr))] H6) D5 = some (.lst ((pr.filter fun z => decide (0 < room ∧ n + z.2.2 ≤ room + fr.length)).map fun z => V.ref z.1)) := by
        rw [cut_at (hh.out_new hD5)]
        exact h6.r0
      have s7 := a6.1
      generalize cut [(g, bagO c x), (F, .lst (vN fr))] H6 = B7 at *
      have cle := List.length_filter_le (fun z : Addr × Sy.Row => decide (0 < room ∧ n + z.2.2 ≤ room + fr.length)) pr
      have cpos : fr.length = 0 → 0 < (pr.filter fun z => decide (0 < room ∧ n + z.2.2 ≤ room + fr.length)).length := fun z0 => by
        obtain ⟨r', hr', e0⟩ := ok.ok.lf
        obtain ⟨z, hz, rfl⟩ := List.mem_map.mp hr'
        exact List.length_pos_of_mem (List.mem_filter.mpr ⟨hz, decide_eq_true (by omega)⟩)
      have hchm : ∀ z ∈ pr.filter (fun z => decide (0 < room ∧ n + z.2.2 ≤ room + fr.length)), z ∈ pr ∧ 0 < room ∧ n + z.2.2 ≤ room + fr.length := fun z hm => by
        obtain ⟨a, b⟩ := List.mem_filter.mp hm
        exact ⟨a, of_decide_eq_true b⟩
      generalize hch : pr.filter (fun z => decide (0 < room ∧ n + z.2.2 ≤ room + fr.length)) = ch at *
      have e2c : (((ch.map fun z => V.ref z.1).length : Nat) : Int) + (2 : Int) * (((vN fr).length : Nat) : Int) = ((ch.length + 2 * fr.length : Nat) : Int) := by rw [List.length_map, List.length_map]; omega
      refine ⟨_, rfl, _, rfl, D5, _, rfl, .inl (SqL.of (h7.sub _ _ e7)), _, rfl, F, _, rfl, .inl (SqL.of h7.r1), _, _, rfl, rfl, .inl (by decide), _, _, rfl, rfl, c, g, ch.length + 2 * fr.length, by show [V.ref g, V.int ((((ch.map fun z => V.ref z.1).length : Nat) : Int) + (2 : Int) * (((vN fr).length : Nat) : Int))] = _; rw [e2c], h7.bag (bc0.mono (sB.trans s7)), ?_, by omega, fun at_ H8 hat8 d8 => ?_⟩
      · by_cases z0 : fr.length = 0
        · have := cpos z0
          omega
        · omega
      obtain ⟨x8, B8, s8, h8⟩ := h7.dr0 d8
      have sB8 := (sB.trans s7).trans s8
      have zr8 := Same.sqt (s7.trans s8) zr
      have eD8 := h8.sub _ _ (s8 _ _ e7)
      refine ⟨_, rfl, _, rfl, D5, _, rfl, .inl (SqL.of eD8), _, _, rfl, rfl, _, rfl, ?_⟩
      rw [List.length_map]
      refine if_dec (fun c9 => ?_) (fun c9 => ?_)
      · have c9 : at_ < ch.length := by omega
        obtain ⟨zc, ezc⟩ : ∃ z, ch[at_]? = some z := ⟨_, List.getElem?_eq_getElem c9⟩
        have hzc := hchm zc (List.mem_of_getElem? ezc)
        have tzc := (hat.mono sB8).at_ zc hzc.1
        obtain ⟨kc, ac⟩ := row_at nd (List.mem_map_of_mem hzc.1)
        have wc := ok.wd zc.2 (List.mem_map_of_mem hzc.1)
        have atc : atI (ch.map fun z => V.ref z.1) ((at_ : Nat) : Int) = some (.ref zc.1) := atI_nat (by rw [List.getElem?_map, ezc]; rfl)
        refine ⟨_, rfl, _, rfl, _, rfl, D5, _, _, .ref zc.1, rfl, rfl, SqL.of eD8, atc, zc.1, _, _, _, rfl, rfl, Same.sqt h8.sub tzc, atI_nat (j := 0) rfl, (by show 1 ≤ sizeLine; decide), fun p9 hp9 => ?_⟩
        have h9 := h8.tup (o := .tup [.str zc.2.1]) hp9
        have s9 := up_same (o := .tup [.str zc.2.1]) (h8.sub.free hp9)
        have e9 : SqT K (upd B8 p9 (.tup [.str zc.2.1])) p9 [.str zc.2.1] := SqT.of upd_same
        generalize upd B8 p9 (.tup [.str zc.2.1]) = B9 at *
        refine cat_any (Same.sqt h9.sub (Same.sqt s9 zr8)) (Same.sqt h9.sub e9) (by rw [List.length_map]; show _ + 1 ≤ _; omega) (fun p10 H10 s10 t10 => ?_)
        have a10 := h9.after s10
        have t10' := sqt_cut a10.2 (NTu.lst (NTu.lst NTu.nil)) t10
        have h10 := a10.2
        have sB10 := (sB8.trans s9).trans a10.1
        have eD10 := h10.sub _ _ (a10.1 _ _ (s9 _ _ (s8 _ _ e7)))
        have tz10 := Same.sqt h10.sub ((hat.mono sB10).at_ zc hzc.1)
        have en : ((n : Int) - 1 + (zc.2.2 : Nat)) = ((n - 1 + zc.2.2 : Nat) : Int) := by omega
        have erm : ((room : Int) - 1) = ((room - 1 : Nat) : Int) := by omega
        have el : (ks ++ [Sum.inr zc.2.1]).map kV = ks.map kV ++ [V.str zc.2.1] := by rw [List.map_append]; rfl
        refine ⟨_, rfl, _, _, rfl, rfl, _, rfl, _, rfl, D5, _, _, .ref zc.1, rfl, rfl, SqL.of eD10, atc, zc.1, _, _, _, rfl, rfl, tz10, atI_nat (j := 1) rfl, _, _, rfl, rfl, _, rfl, _, _, rfl, rfl, ?_⟩
        refine ⟨_, _, _, ks ++ [Sum.inr zc.2.1], n - 1 + zc.2.2, room - 1, met, fr, p10, x8, _, by rw [← en, ← erm]; rfl, by omega, by omega, ?_, hfr, hfn, hfm, ?_, by rw [List.length_append, hkl]; rfl, fun y hy => ?_, by rw [el]; exact t10', sB10, h10⟩
        · have := hpre.kind c0 kc
          rw [ac] at this
          exact this
        · rw [knK_snoc]
          show _ + (if isK (pr.map (·.2)) zc.2.1 = true then 1 else 0) + (room - 1) + 1 = _
          rw [if_pos kc]
          omega
        · rcases List.mem_append.mp hy with hy | hy
          · exact hwd y hy
          · have := Sum.inr.inj (List.mem_singleton.mp hy)
            rw [this]
            exact wc
      · have hj : (at_ - ch.length) / 2 < fr.length := by omega
        obtain ⟨m, em⟩ : ∃ m, fr[(at_ - ch.length) / 2]? = some m := ⟨_, List.getElem?_eq_getElem hj⟩
        have hm := List.mem_of_getElem? em
        have ei : (((at_ : Nat) : Int) - ((ch.map fun z => V.ref z.1).length : Nat)) / 2 = (((at_ - ch.length) / 2 : Nat) : Int) := by rw [List.length_map]; omega
        have ej : (vN fr)[(at_ - ch.length) / 2]? = some (V.int (m : Nat)) := by unfold vN; rw [List.getElem?_map, em]; rfl
        have e64 : (2 : Int) ^ 63 = 9223372036854775808 := by decide
        have es1 : seqIndex? (((at_ - ch.length) / 2 : Nat) : Int) (vN fr).length = some ((at_ - ch.length) / 2) := by
          rw [List.length_map]
          rw [seqIndex_of (by omega) (by omega)]
          rfl
        refine ⟨_, rfl, _, rfl, .inl ⟨rfl, _, SqL.of h8.r1⟩, _, rfl, _, rfl, D5, _, rfl, .inl (SqL.of eD8), _, _, rfl, rfl, _, _, rfl, rfl, ⟨by decide, by decide⟩, F, vN fr, (((at_ - ch.length) / 2 : Nat) : Int), (at_ - ch.length) / 2, .int (m : Nat), rfl, by show [V.int ((((at_ : Nat) : Int) - ((ch.map fun z => V.ref z.1).length : Nat)) / 2)] = _; rw [ei], h8.r1, by omega, by omega, es1, ej, (by show 1 ≤ sizeLine; decide), fun p9 hp9 => ?_⟩
        have er2 : (vN fr).eraseIdx ((at_ - ch.length) / 2) = vN (fr.eraseIdx ((at_ - ch.length) / 2)) := by
          exact map_erase _ _ _
        rw [er2] at hp9 ⊢
        have h8' : Hs B8 [(g, bagO c x8), (F, .lst (vN (fr.eraseIdx ((at_ - ch.length) / 2))))] _ := h8.w1
        have h9 := h8'.tup (o := .tup [.int (m : Nat)]) hp9
        have s9 := up_same (o := .tup [.int (m : Nat)]) (h8'.sub.free hp9)
        have e9 : SqT K (upd B8 p9 (.tup [.int (m : Nat)])) p9 [.int (m : Nat)] := SqT.of upd_same
        generalize upd B8 p9 (.tup [.int (m : Nat)]) = B9 at *
        refine cat_any (Same.sqt h9.sub (Same.sqt s9 zr8)) (Same.sqt h9.sub e9) (by rw [List.length_map]; show _ + 1 ≤ _; omega) (fun p10 H10 s10 t10 => ?_)
        have a10 := h9.after s10
        have t10' := sqt_cut a10.2 (NTu.lst (NTu.lst NTu.nil)) t10
        have h10 := a10.2
        have sB10 := (sB8.trans s9).trans a10.1
        have en : ((n : Int) - 1) = ((n - 1 : Nat) : Int) := by omega
        have el : (ks ++ [Sum.inl (m : Int)]).map kV = ks.map kV ++ [V.int (m : Nat)] := by rw [List.map_append]; rfl
        have lf := List.length_eraseIdx_of_lt hj
        have sub := (fr.eraseIdx_sublist ((at_ - ch.length) / 2)).subset
        refine ⟨_, rfl, _, _, rfl, rfl, ?_⟩
        refine ⟨_, _, _, ks ++ [Sum.inl (m : Int)], n - 1, room, (m : Int) :: met, fr.eraseIdx ((at_ - ch.length) / 2), p10, x8, _, by rw [← en]; rfl, by omega, by omega, hpre.hole c0 (hfr m hm) (hfm m hm), fun y hy => hfr y (sub hy), hfn.sublist (fr.eraseIdx_sublist _), fun y hy z => ?_, ?_, by rw [List.length_append, hkl]; rfl, fun y hy => ?_, by rw [el]; exact t10', sB10, h10⟩
        · rcases List.mem_cons.mp z with z | z
          · have z : y = m := by omega
            subst z
            obtain ⟨k, hk, ek⟩ := List.mem_eraseIdx_iff_getElem.mp hy
            obtain ⟨hk1, ek1⟩ := List.getElem?_eq_some_iff.mp em
            have := (List.getElem_inj hfn).mp (ek.2.trans ek1.symm)
            exact ek.1 this
          · exact hfm y (sub hy) z
        · rw [knK_snoc]
          show _ + (if isKK (pr.map (·.2)) (.inl (m : Int)) = true then 1 else 0) + room + 1 = _
          rw [if_neg (fun z => by cases z)]
          omega
        · rcases List.mem_append.mp hy with hy | hy
          · exact hwd y hy
          · exact absurd (List.mem_singleton.mp hy) (fun z => by cases z)
  · rintro i σ ⟨t7, t8, t9, ks, n, room, met, fr, r, x, B, rfl, hsum, _⟩
    rw [List.length_map] at hsum
    omega
end
end Sy
/-! _law_tame -/
namespace Sy
open PySem PySem.Spec PyProof.Rows L2
/-- a trim as the law makes it -/
def GdT (rows : List Sy.Row) (m : Nat) (t : Trm) : Prop := StpOk rows t.1 m ∧ RsOk rows t.1 t.2
/-- its rows as a pair -/
def PrAt (K : PySem.W.Frag) (H : Hp) (p : Addr) (t : Trm) : Prop := ∃ s r, SqT K H p [.ref s, .ref r] ∧ SqZ K H s (t.1.map V.str) ∧ SqT K H r (t.2.map kV)
theorem PrAt.stay {K : PySem.W.Frag} {H H' : Hp} {p : Addr} {t : Trm} (h : PrAt K H p t) (s : Stay H H') : PrAt K H' p t := by
  obtain ⟨a, b, h1, h2, h3⟩ := h
  exact ⟨a, b, s.sqt h1, h2.stay s, s.sqt h3⟩
theorem PrAt.same {K : PySem.W.Frag} {H H' : Hp} {p : Addr} {t : Trm} (h : PrAt K H p t) (s : Same H H') : PrAt K H' p t := h.stay (Stay.of s)
theorem Pre.holes {rows : List Sy.Row} (e : ar rows "*" = 0) : ∀ (k : Nat) {l : List Str} {n : Nat}, Pre rows l n → k ≤ n → Pre rows (l ++ List.replicate k ("*" : Str)) (n - k)
  | 0, l, n, h, _ => by rw [List.replicate_zero, List.append_nil]; exact h
  | k + 1, l, n, h, hk => by
    have := Pre.holes e k (h.hole (by omega) e) (by omega)
    rw [List.append_assoc] at this
    rw [List.replicate_succ, show n - (k + 1) = n - 1 - k by omega]
    exact this
theorem wd_star {x : Str} (h : Wd x) : x ≠ "*" := fun e => by
  rw [e] at h
  exact absurd (h.2.2 42 (by decide +kernel)) (by unfold Lt; omega)
section
variable {rows : List Sy.Row} {x z : Str} {n at_ m : Nat}
def tmL (x z : Str) (n at_ : Nat) : List Str := x :: (List.replicate at_ ("*" : Str) ++ [z] ++ List.replicate (n - 1 - at_) ("*" : Str))
theorem tmL_ok (ok : KdsOk rows) (hx : (x, n) ∈ rows) (hz : (z, 0) ∈ rows) (ha : at_ < n) (hm : n < m) : StpOk rows (tmL x z n at_) m ∧ (tmL x z n at_).count ("*" : Str) = n - 1 ∧ knK rows (kS (tmL x z n at_)) = 2 := by
  obtain ⟨kx, ax⟩ := row_at ok.ok.nd hx
  obtain ⟨kz, az⟩ := row_at ok.ok.nd hz
  simp only at kx ax kz az
  have wx : Wd x := ok.wd _ hx
  have wz : Wd z := ok.wd _ hz
  have st := ar_star ok
  have len : (tmL x z n at_).length = n + 1 := by
    unfold tmL
    simp only [List.length_cons, List.length_append, List.length_replicate, List.length_nil]
    omega
  have wd : ∀ y ∈ tmL x z n at_, isK rows y = true ∧ Wd y ∨ y = "*" := by
    intro y hy
    unfold tmL at hy
    simp only [List.mem_cons, List.mem_append, List.mem_replicate, List.not_mem_nil, or_false] at hy
    rcases hy with rfl | (⟨_, rfl⟩ | rfl) | ⟨_, rfl⟩
    · exact .inl ⟨kx, wx⟩
    · exact .inr rfl
    · exact .inl ⟨kz, wz⟩
    · exact .inr rfl
  have sp : StpOk rows (tmL x z n at_) m := by
    refine ⟨?_, by omega, wd, x, _, rfl, kx, by omega⟩
    have p1 := (Pre.nil (rows := rows)).kind (by decide) kx
    rw [ax, show 1 - 1 + n = n by omega] at p1
    have p2 := Pre.holes st at_ p1 (by omega)
    have p3 := p2.kind (by omega) kz
    rw [az] at p3
    have p4 := Pre.holes st (n - 1 - at_) p3 (by omega)
    rw [show n - at_ - 1 + 0 - (n - 1 - at_) = 0 by omega] at p4
    have e : [] ++ [x] ++ List.replicate at_ ("*" : Str) ++ [z] ++ List.replicate (n - 1 - at_) ("*" : Str) = tmL x z n at_ := by
      unfold tmL
      simp
    rw [e] at p4
    exact p4.done
  have cnt : (tmL x z n at_).count ("*" : Str) = n - 1 := by
    unfold tmL
    rw [List.count_cons, List.count_append, List.count_append, List.count_replicate_self, List.count_replicate_self]
    have h1 : (x == ("*" : Str)) = false := beq_eq_false_iff_ne.mpr (wd_star wx)
    have h2 : List.count ("*" : Str) [z] = 0 := List.count_eq_zero.mpr (fun h => wd_star wz (List.mem_singleton.mp h).symm)
    rw [h1, h2]
    simp
    omega
  refine ⟨sp, cnt, ?_⟩
  have := knK_stump (star_nk ok) (l := tmL x z n at_) fun y hy => (wd y hy).imp (·.1) id
  rw [cnt, len] at this
  omega
/-- the results of tame trims -/
theorem tm_hole (ok : KdsOk rows) (hx : (x, n) ∈ rows) (hz : (z, 0) ∈ rows) (ha : at_ < n) (hn : 1 < n) (hm : n < m) : GdT rows m (tmL x z n at_, [.inl 0]) := by
  obtain ⟨h1, h2, h3⟩ := tmL_ok ok hx hz ha hm
  refine ⟨h1, ?_, ?_, (by show 1 ≤ 6; decide), fun y hy => ?_⟩
  · show rfK rows ((tmL x z n at_).count ("*" : Str) : Nat) _ = _
    rw [h2]
    exact ((PreK.nil (rows := rows) (h := n - 1)).hole (m := 0) (by decide) (by omega) (fun z => nomatch z)).done
  · show _ < knK rows (kS (tmL x z n at_))
    rw [h3]
    show 0 < 2
    decide
  · exact absurd (List.mem_singleton.mp hy) (fun z => by cases z)
theorem knK_1 {y : Str} (h : isK rows y = true) : knK rows [.inr y] = 1 := by
  have := knK_snoc (rows := rows) (ks := []) (.inr y)
  rw [if_pos (show isKK rows (.inr y) = true from h)] at this
  exact this
theorem tm_zero (ok : KdsOk rows) (hx : (x, n) ∈ rows) (hz : (z, 0) ∈ rows) (ha : at_ < n) (hm : n < m) : GdT rows m (tmL x z n at_, [.inr z]) := by
  obtain ⟨h1, h2, h3⟩ := tmL_ok ok hx hz ha hm
  obtain ⟨kz, az⟩ := row_at ok.ok.nd hz
  refine ⟨h1, ?_, ?_, (by show 1 ≤ 6; decide), fun y hy => ?_⟩
  · have p := (PreK.nil (rows := rows) (h := (tmL x z n at_).count ("*" : Str))).kind (by decide) kz
    rw [az] at p
    exact p.done
  · show _ < knK rows (kS (tmL x z n at_))
    rw [h3, knK_1 kz]
    decide
  · rw [Sum.inr.inj (List.mem_singleton.mp hy)]
    exact ok.wd _ hz
theorem tm_twice (ok : KdsOk rows) (hx : (x, 1) ∈ rows) (hm : 3 ≤ m) : GdT rows m ([x, x, ("*" : Str)], [.inr x, .inl 0]) := by
  obtain ⟨kx, ax⟩ := row_at ok.ok.nd hx
  have wx : Wd x := ok.wd _ hx
  simp only at kx ax
  have cnt : ([x, x, ("*" : Str)] : List Str).count ("*" : Str) = 1 := by
    have h1 : (x == ("*" : Str)) = false := beq_eq_false_iff_ne.mpr (wd_star wx)
    rw [List.count_cons, List.count_cons, h1]
    rfl
  have wd : ∀ y ∈ ([x, x, ("*" : Str)] : List Str), isK rows y = true ∧ Wd y ∨ y = "*" := by
    intro y hy
    simp only [List.mem_cons, List.not_mem_nil, or_false] at hy
    rcases hy with rfl | rfl | rfl
    · exact .inl ⟨kx, wx⟩
    · exact .inl ⟨kx, wx⟩
    · exact .inr rfl
  have kn := knK_stump (star_nk ok) (l := [x, x, ("*" : Str)]) fun y hy => (wd y hy).imp (·.1) id
  rw [cnt] at kn
  refine ⟨⟨?_, hm, wd, x, _, rfl, kx, by rw [ax]; decide⟩, ?_, ?_, (by show 2 ≤ 6; decide), fun y hy => ?_⟩
  · have p1 := (Pre.nil (rows := rows)).kind (by decide) kx
    rw [ax] at p1
    have p2 := p1.kind (by decide) kx
    rw [ax] at p2
    exact (p2.hole (by decide) (ar_star ok)).done
  · show rfK rows (([x, x, ("*" : Str)] : List Str).count ("*" : Str) : Nat) _ = _
    rw [cnt]
    have p1 := (PreK.nil (rows := rows) (h := 1)).kind (by decide) kx
    rw [ax] at p1
    exact (p1.hole (m := 0) (by decide) (by decide) (fun z => nomatch z)).done
  · have e := knK_snoc (rows := rows) (ks := [.inr x]) (.inl 0)
    rw [knK_1 kx] at e
    show knK rows ([Sum.inr x] ++ [Sum.inl 0]) < knK rows (kS [x, x, ("*" : Str)])
    rw [e]
    have : isKK rows (.inl 0) = false := rfl
    rw [this]
    have : ([x, x, ("*" : Str)] : List Str).length = 3 := rfl
    rw [if_neg (by decide)]
    omega
  · simp only [List.mem_cons, List.not_mem_nil, or_false, reduceCtorEq] at hy
    rw [Sum.inr.inj hy]
    exact wx
end
section
variable {P : Program} {w : World} {K : PySem.W.Frag} {mg : Str → Option Value} {base : Heap}
theorem rep_any {H : Hp} {Q : VK} {l : Addr} {v : V} {k : Nat} (hk : k ≤ 1000) (h : SqT K H l [v]) (q : ∀ p H', Same H H' → SqT K H' p (List.replicate k v) → Q (.ref p) H') : rRepG K (.ref l) (.int (k : Nat)) H Q := by
  refine ⟨l, k, [v], rfl, rfl, h, by omega, by omega, ?_, (by show 1 ≤ 1000000; decide), fun c => ?_, fun c p hp => ?_⟩
  · show 1 * _ ≤ _
    omega
  · have c : k = 1 := by
      rcases c with c | c
      · cases c
      · omega
    subst c
    exact q _ _ (Same.refl H) h
  · refine q _ _ (up_same hp) ?_
    have e : (List.replicate (k : Int).toNat [v]).flatten = List.replicate k v := by
      rw [show (k : Int).toNat = k by omega]
      exact List.flatten_replicate_singleton
    rw [e]
    exact SqT.of upd_same
theorem rep_anyI {H : Hp} {Q : VK} {l : Addr} {v : V} {i : Int} {k : Nat} (e : i = (k : Nat)) (hk : k ≤ 1000) (h : SqT K H l [v]) (q : ∀ p H', Same H H' → SqT K H' p (List.replicate k v) → Q (.ref p) H') : rRepG K (.ref l) (.int i) H Q := by
  subst e
  exact rep_any hk h q
def spTame (K : PySem.W.Frag) : Sp := fun vs H Q _ => ∃ (c g q : Addr) (z : Str) (most : Nat) (rows roots : List Sy.Row), vs = [.ref g, .ref q, .str z] ∧ Bag c g H ∧ q ≠ g ∧ RL K H q roots ∧ roots ≠ [] ∧ (∀ r ∈ roots, r ∈ rows ∧ 0 < r.2 ∧ r.2 < most) ∧ 4 ≤ most ∧ roots.length ≤ 5 ∧ KdsOk rows ∧ (z, 0) ∈ rows ∧
  ∀ p t H', GdT rows most t → Dr c g H H' → PrAt K H' p t → Q (.ref p) H'
abbrev N_tame : List Str := ["_law_bag_here", "_law_roots", "_law_zero", "_law_pair_here", "_law_at", "_law_stump_here"]
theorem sc_tame : FnScope N_tame ["_law_bag_here", "_law_roots", "_law_zero"] (defScope (top 47)) := ⟨rfl, rfl, rfl, by decide +kernel, rfl, by decide +kernel, by decide +kernel⟩
theorem k_tame (T : Txt K mg) (F : DF K mg "_law_tame" 47) (c_law_pick : Cal P w K mg base 1 "_law_pick" ["_law_bag_here", "_law_limit"] spPick) : Cal P w K mg base 2 "_law_tame" ["_law_bag_here", "_law_roots", "_law_zero"] (spTame K) := by
  refine cal_of F.1 F.2 sc_tame (fun _ _ _ _ _ _ us e => match us, e with | [_, _, _], _ => rfl) (fun vs H Q E s => by obtain ⟨_, _, _, _, _, _, _, rfl, _⟩ := s; rfl) ?_
  intro cdv A outer s H vs Q E hr h
  obtain ⟨c, g, q, z, most, rows, roots, rfl, hg, hne, hRL, hne0, hrt, hmost, hlen, ok, hz, hq⟩ := h
  have sc := sc_tame
  refine ⟨_, (pss_cons (ps_set (i := 3) sc.nd rfl (Or.inl rfl) (pe_ix ix_list (pv 1) (pe_cal c_law_pick hr (pa_cons (pv 0) (pa_cons (pe_callB call_len_seq (by rfl) T.len (by decide +kernel) (pa_cons (pv 1) pa_nil)) pa_nil))) (fun _ _ => rfl)))
      (pss_cons (ps_cut (ps_if (PW.pt (pw_and (pt_cmpR op_eq (pe_ix ix_tup (pv 3) pe_int (fun _ _ => rfl)) pe_int (nomark _)) (pw_and1 (pt_cmpR op_eq (pe_cal c_law_pick hr (pa_cons (pv 0) (pa_cons pe_int pa_nil))) pe_int (nomark _)))))
        (pss_one (ps_ret (pe_tup (pa_cons (pe_tupZ (pa_cons (pe_ix ix_tup (pv 3) pe_int (fun _ _ => rfl)) (pa_cons (pe_ix ix_tup (pv 3) pe_int (fun _ _ => rfl)) (pa_cons pe_str pa_nil)))) (pa_cons (pe_tup (pa_cons (pe_ix ix_tup (pv 3) pe_int (fun _ _ => rfl)) (pa_cons pe_int pa_nil))) pa_nil)))))
        pss_nil))
      (pss_cons (ps_set (i := 4) sc.nd rfl (Or.inl rfl) (pe_cal c_law_pick hr (pa_cons (pv 0) (pa_cons (pe_ix ix_tup (pv 3) pe_int (fun _ _ => rfl)) pa_nil))))
      (pss_cons (ps_set (i := 5) sc.nd rfl (Or.inl rfl) (pe_op op_catZ (pe_op op_catZ (pe_op op_catZ (pe_tupZ (pa_cons (pe_ix ix_tup (pv 3) pe_int (fun _ _ => rfl)) pa_nil)) (pe_op op_repG (pe_tup (pa_cons pe_str pa_nil)) (pv 4))) (pe_tup (pa_cons (pv 2) pa_nil))) (pe_op op_repG (pe_tup (pa_cons pe_str pa_nil)) (pe_op op_sub (pe_op op_sub (pe_ix ix_tup (pv 3) pe_int (fun _ _ => rfl)) pe_int) (pv 4)))))
      (pss_cons (ps_cut (ps_if (PW.pt (pw_and (pt_cmpR op_gt (pe_ix ix_tup (pv 3) pe_int (fun _ _ => rfl)) pe_int (nomark _)) (pw_and1 (pt_cmpR op_eq (pe_cal c_law_pick hr (pa_cons (pv 0) (pa_cons pe_int pa_nil))) pe_int (nomark _)))))
        (pss_one (ps_ret (pe_tup (pa_cons (pv 5) (pa_cons (pe_tup (pa_cons pe_int pa_nil)) pa_nil)))))
        pss_nil))
      (pss_one (ps_ret (pe_tup (pa_cons (pv 5) (pa_cons (pe_tup (pa_cons (pv 2) pa_nil)) pa_nil)))))))))), ?_⟩
  obtain ⟨x0, h0, bc0, pr, epr, hL, hat⟩ := hg.takeR hne hRL
  generalize hB0 : L2.del H g = B0 at *
  have hlen : pr.length ≤ 5 := by rw [← epr, List.length_map] at hlen; exact hlen
  have hpos : 0 < pr.length := by
    cases pr with
    | nil => exact absurd epr.symm hne0
    | cons a b => exact Nat.succ_pos _
  refine ⟨_, rfl, _, rfl, _, rfl, q, _, rfl, .inl (SqL.of (h0.sub _ _ hL)), c, g, pr.length, by rw [List.length_map], h0.bag bc0, hpos, by omega, fun j H1 hj d1 => ?_⟩
  obtain ⟨x1, B1, s1, h1⟩ := h0.dr0 d1
  obtain ⟨zr, ezr⟩ : ∃ z, pr[j]? = some z := ⟨_, List.getElem?_eq_getElem hj⟩
  have hzr := List.mem_of_getElem? ezr
  refine ⟨q, _, _, .ref zr.1, rfl, rfl, SqL.of (h1.sub _ _ (s1 _ _ hL)), atI_nat (by rw [List.getElem?_map, ezr]; rfl), ?_⟩
  obtain ⟨hrow, hn0, hnm⟩ := hrt zr.2 (by rw [← epr]; exact List.mem_map_of_mem hzr)
  obtain ⟨a, x, n⟩ := zr
  simp only at hrow hn0 hnm ezr
  have hn3 : n ≤ 3 := ok.ok.br _ hrow
  have ta : SqT K B1 a [.str x, .int (n : Nat)] := (hat.mono s1).at_ _ hzr
  refine ⟨fun σ' H' => ∃ (x : Int × Int × Int) (B : Hp), σ' = [some (.ref g), some (.ref q), some (.str z), some (.ref a), none, none] ∧ Same B1 B ∧ Hs B [(g, bagO c x)] H', ⟨_, rfl, a, _, _, _, rfl, rfl, Same.sqt h1.sub ta, atI_nat (j := 1) rfl, rfl, _, rfl, if_dec (fun c1 => ?_) (fun c1 => ⟨x1, B1, rfl, Same.refl _, h1⟩)⟩, ?_⟩
  · have c1 : n = 1 := by have := V.int.inj c1; omega
    subst c1
    refine ⟨_, rfl, c, g, 2, rfl, h1.bag (bc0.mono s1), by decide, by decide, fun k H2 hk d2 => ?_⟩
    obtain ⟨x2, B2, s2, h2⟩ := h1.dr0 d2
    refine ⟨rfl, _, rfl, if_dec (fun c2 => ?_) (fun c2 => ⟨x2, B2, rfl, s2, h2⟩)⟩
    have ta2 := Same.sqt (s2.trans h2.sub) ta
    refine ⟨_, rfl, a, _, _, _, rfl, rfl, ta2, atI_nat (j := 0) rfl, _, rfl, a, _, _, _, rfl, rfl, ta2, atI_nat (j := 0) rfl, (by show 3 ≤ sizeLine; decide), fun p3 H3 n3 => ?_⟩
    obtain ⟨B3, s3, h3, z3⟩ := h2.sqz (K := K) (AllL.cons AllL.nil) n3.same n3.sqz
    refine ⟨_, rfl, a, _, _, _, rfl, rfl, Same.sqt n3.same ta2, atI_nat (j := 0) rfl, (by show 2 ≤ sizeLine; decide), fun p4 hp4 => ?_⟩
    have h4 := h3.tup (o := .tup [.str x, .int 0]) hp4
    have s4 := up_same (o := .tup [.str x, .int 0]) (h3.sub.free hp4)
    have e4 : SqT K (upd B3 p4 (.tup [.str x, .int 0])) p4 [.str x, .int 0] := SqT.of upd_same
    generalize upd B3 p4 (.tup [.str x, .int 0]) = B4 at *
    refine ⟨(by show 2 ≤ sizeLine; decide), fun p5 hp5 => ?_⟩
    have h5 := h4.tup (o := .tup [.ref p3, .ref p4]) hp5
    have s5 := up_same (o := .tup [.ref p3, .ref p4]) (h4.sub.free hp5)
    have e5 : SqT K (upd B4 p5 (.tup [.ref p3, .ref p4])) p5 [.ref p3, .ref p4] := SqT.of upd_same
    generalize upd B4 p5 (.tup [.ref p3, .ref p4]) = B5 at *
    exact hq p5 ([x, x, ("*" : Str)], [.inr x, .inl 0]) _ (tm_twice ok hrow (by omega)) (h5.isDr (by rw [hB0]; exact (((s1.trans s2).trans s3).trans s4).trans s5)) ⟨p3, p4, Same.sqt h5.sub e5, z3.same ((s4.trans s5).trans h5.sub), Same.sqt (s5.trans h5.sub) e4⟩
  rintro _ H2 ⟨x2, B2, rfl, s2, h2⟩
  have ta2 := Same.sqt s2 ta
  refine ⟨_, rfl, _, rfl, a, _, _, _, rfl, rfl, Same.sqt h2.sub ta2, atI_nat (j := 1) rfl, c, g, n, rfl, h2.bag (bc0.mono (s1.trans s2)), hn0, by omega, fun at_ H3 hat3 d3 => ?_⟩
  obtain ⟨x3, B3, s3, h3⟩ := h2.dr0 d3
  have ta3 := Same.sqt (s3.trans h3.sub) ta2
  refine ⟨_, rfl, a, _, _, _, rfl, rfl, ta3, atI_nat (j := 0) rfl, (by show 1 ≤ sizeLine; decide), fun p4 H4 n4 => ?_⟩
  obtain ⟨B4, s4, h4, z4⟩ := h3.sqz (K := K) (AllL.cons AllL.nil) n4.same n4.sqz
  refine ⟨(by show 1 ≤ sizeLine; decide), fun p5 hp5 => ?_⟩
  have h5 := h4.tup (o := .tup [.str "*"]) hp5
  have s5 := up_same (o := .tup [.str "*"]) (h4.sub.free hp5)
  have e5 : SqT K (upd B4 p5 (.tup [.str "*"])) p5 [.str "*"] := SqT.of upd_same
  generalize upd B4 p5 (.tup [.str "*"]) = B5 at *
  refine ⟨_, rfl, rep_any (by omega) (Same.sqt h5.sub e5) (fun p6 H6 s6 t6 => ?_)⟩
  have a6 := h5.after s6
  have t6' := sqt_cut a6.2 (NTu.lst NTu.nil) t6
  have h6 := a6.2
  have s6' := a6.1
  generalize cut [(g, bagO c x3)] H6 = B6 at *
  refine catZ_l (z4.same ((s5.trans s6').trans h6.sub)) (fun z => nomatch z) t6 (by rw [List.length_replicate]; show 1 + _ ≤ _; omega) (fun p7 H7 s7 z7 => ?_)
  obtain ⟨B7, s7', h7, z7'⟩ := h6.sqz (K := K) (AllL.cons AllL.nil) s7 z7
  refine ⟨_, rfl, (by show 1 ≤ sizeLine; decide), fun p8 hp8 => ?_⟩
  have h8 := h7.tup (o := .tup [.str z]) hp8
  have s8 := up_same (o := .tup [.str z]) (h7.sub.free hp8)
  have e8 : SqT K (upd B7 p8 (.tup [.str z])) p8 [.str z] := SqT.of upd_same
  generalize upd B7 p8 (.tup [.str z]) = B8 at *
  refine catZ_l (z7'.same (s8.trans h8.sub)) (fun z => nomatch z) (Same.sqt h8.sub e8) (by rw [List.length_append, List.length_replicate]; show 1 + _ + 1 ≤ _; omega) (fun p9 H9 s9 z9 => ?_)
  obtain ⟨B9, s9', h9, z9'⟩ := h8.sqz (K := K) (AllL.cons AllL.nil) s9 z9
  refine ⟨(by show 1 ≤ sizeLine; decide), fun p10 hp10 => ?_⟩
  have h10 := h9.tup (o := .tup [.str "*"]) hp10
  have s10 := up_same (o := .tup [.str "*"]) (h9.sub.free hp10)
  have e10 : SqT K (upd B9 p10 (.tup [.str "*"])) p10 [.str "*"] := SqT.of upd_same
  generalize upd B9 p10 (.tup [.str "*"]) = B10 at *
  have sB10 := ((((((s3.trans s4).trans s5).trans s6').trans s7').trans s8).trans s9').trans s10
  have ta10 := Same.sqt (sB10.trans h10.sub) ta2
  have en : ((n : Int) - 1 - (at_ : Nat)) = ((n - 1 - at_ : Nat) : Int) := by omega
  have e10' := Same.sqt h10.sub e10
  refine ⟨_, rfl, a, _, _, _, rfl, rfl, ta10, atI_nat (j := 1) rfl, _, _, rfl, rfl, _, rfl, _, _, rfl, rfl, ?_⟩
  refine rep_anyI en (by omega) e10' (fun p11 H11 s11 t11 => ?_)
  have a11 := h10.after s11
  have t11' := sqt_cut a11.2 (NTu.lst NTu.nil) t11
  have h11 := a11.2
  have s11' := a11.1
  generalize cut [(g, bagO c x3)] H11 = B11 at *
  refine catZ_l (z9'.same ((s10.trans s11').trans h11.sub)) (fun z => nomatch z) t11 (by rw [List.length_append, List.length_append, List.length_replicate, List.length_replicate]; show 1 + _ + 1 + _ ≤ _; omega) (fun p12 H12 s12 z12 => ?_)
  obtain ⟨B12, s12', h12, z12'⟩ := h11.sqz (K := K) (AllL.cons AllL.nil) s12 z12
  have sB12 := (sB10.trans s11').trans s12'
  have el : [V.str x] ++ List.replicate at_ (V.str "*") ++ [V.str z] ++ List.replicate (n - 1 - at_) (V.str "*") = (tmL x z n at_).map V.str := by
    unfold tmL
    simp
  have el : _ ++ _ ++ _ ++ _ = (tmL x z n at_).map V.str := el
  rw [el] at z12'
  have sG := (s1.trans s2).trans sB12
  have fin : ∀ (k : Key) (pk p : Addr) (y : Int × Int × Int) (B H' : Hp), GdT rows most (tmL x z n at_, [k]) → Same B12 B → Hs B [(g, bagO c y)] H' → SqT K H' pk [kV k] → SqT K H' p [.ref p12, .ref pk] → Q (.ref p) H' := fun k pk p y B H' h1 h2 h3 h4 h5 => hq p _ H' h1 (h3.isDr (by rw [hB0]; exact sG.trans h2)) ⟨p12, pk, h5, z12'.same (h2.trans h3.sub), h4⟩
  refine ⟨fun σ' H' => ∃ (x : Int × Int × Int) (B : Hp), σ' = [some (.ref g), some (.ref q), some (.str z), some (.ref a), some (.int (at_ : Nat)), some (.ref p12)] ∧ Same B12 B ∧ Hs B [(g, bagO c x)] H', ⟨_, rfl, a, _, _, _, rfl, rfl, Same.sqt (sB12.trans h12.sub) ta2, atI_nat (j := 1) rfl, _, _, rfl, rfl, _, rfl, if_dec (fun c1 => ?_) (fun c1 => ⟨x3, B12, rfl, Same.refl _, h12⟩)⟩, ?_⟩
  · refine ⟨_, rfl, c, g, 2, rfl, h12.bag (bc0.mono sG), by decide, by decide, fun k H13 hk d13 => ?_⟩
    obtain ⟨x13, B13, s13, h13⟩ := h12.dr0 d13
    refine ⟨rfl, _, rfl, if_dec (fun c2 => ?_) (fun c2 => ⟨x13, B13, rfl, s13, h13⟩)⟩
    refine ⟨_, rfl, (by show 1 ≤ sizeLine; decide), fun p14 hp14 => ?_⟩
    have h14 := h13.tup (o := .tup [.int 0]) hp14
    have s14 := up_same (o := .tup [.int 0]) (h13.sub.free hp14)
    have e14 : SqT K (upd B13 p14 (.tup [.int 0])) p14 [.int 0] := SqT.of upd_same
    generalize upd B13 p14 (.tup [.int 0]) = B14 at *
    refine ⟨(by show 2 ≤ sizeLine; decide), fun p15 hp15 => ?_⟩
    have h15 := h14.tup (o := .tup [.ref p12, .ref p14]) hp15
    have s15 := up_same (o := .tup [.ref p12, .ref p14]) (h14.sub.free hp15)
    exact fin (.inl 0) p14 p15 _ _ _ (tm_hole ok hrow hz hat3 (by omega) hnm) ((s13.trans s14).trans s15) h15 (Same.sqt (s15.trans h15.sub) e14) (SqT.of upd_same)
  · rintro _ H13 ⟨x13, B13, rfl, s13, h13⟩
    refine ⟨_, rfl, _, rfl, (by show 1 ≤ sizeLine; decide), fun p14 hp14 => ?_⟩
    have h14 := h13.tup (o := .tup [.str z]) hp14
    have s14 := up_same (o := .tup [.str z]) (h13.sub.free hp14)
    have e14 : SqT K (upd B13 p14 (.tup [.str z])) p14 [.str z] := SqT.of upd_same
    generalize upd B13 p14 (.tup [.str z]) = B14 at *
    refine ⟨(by show 2 ≤ sizeLine; decide), fun p15 hp15 => ?_⟩
    have h15 := h14.tup (o := .tup [.ref p12, .ref p14]) hp15
    have s15 := up_same (o := .tup [.ref p12, .ref p14]) (h14.sub.free hp15)
    exact fin (.inr z) p14 p15 _ _ _ (tm_zero ok hrow hz hat3 hnm) ((s13.trans s14).trans s15) h15 (Same.sqt (s15.trans h15.sub) e14) (SqT.of upd_same)
end
end Sy
/-! _law_made -/
namespace Sy
open PySem PySem.Spec PyProof.Rows L2
def kD : Key → PyData
  | .inl i => .int i
  | .inr x => .str x
theorem ImA.keys {K : PySem.W.Frag} {H : Hp} : ∀ ks : List Key, ImA K H (ks.map kV) (ks.map kD)
  | [] => .nil
  | .inl i :: ks => .cons (.int i) (ImA.keys ks)
  | .inr x :: ks => .cons (.str x) (ImA.keys ks)
theorem lay_keys : ∀ {ks : List Key}, (∀ x, Sum.inr x ∈ ks → PyData.strOk x = true) → PyData.canLayAll0 (ks.map kD) = true ∧ PyData.depthAll (ks.map kD) ≤ 1
  | [], _ => ⟨rfl, Nat.zero_le _⟩
  | .inl i :: ks, h => by
    have ih := lay_keys (ks := ks) fun x hx => h x (List.mem_cons_of_mem _ hx)
    rw [List.map_cons]
    show (PyData.canLay0 (PyData.int i) && PyData.canLayAll0 (ks.map kD)) = true ∧ max (PyData.depth (PyData.int i)) (PyData.depthAll (ks.map kD)) ≤ 1
    simp only [PyData.canLay0, PyData.depth, Bool.true_and]
    exact ⟨ih.1, by omega⟩
  | .inr x :: ks, h => by
    have ih := lay_keys (ks := ks) fun x hx => h x (List.mem_cons_of_mem _ hx)
    rw [List.map_cons]
    show (PyData.canLay0 (PyData.str x) && PyData.canLayAll0 (ks.map kD)) = true ∧ max (PyData.depth (PyData.str x)) (PyData.depthAll (ks.map kD)) ≤ 1
    simp only [PyData.canLay0, PyData.depth, h x List.mem_cons_self, Bool.true_and]
    exact ⟨ih.1, by omega⟩
/-- a trim's rows as data -/
def PrD (t : Trm) : PyData := .tuple [DS t.1, .tuple (t.2.map kD)]
theorem PrAt.im {K : PySem.W.Frag} {H : Hp} {p : Addr} {t : Trm} (h : PrAt K H p t) : Im K H (.ref p) (PrD t) := by
  obtain ⟨s, r, h1, h2, h3⟩ := h
  exact .tup h1 (.cons (Im.strs h2.sq) (.cons (.tup h3 (ImA.keys _)) .nil))
theorem prs_im {K : PySem.W.Frag} {H : Hp} : ∀ {as : List Addr} {ts : List Trm}, Paired (PrAt K H) as ts → ImA K H (as.map V.ref) (ts.map PrD)
  | _, _, .nil => .nil
  | _, _, .cons a b => .cons a.im (prs_im b)
theorem GdT.sok {rows : List Sy.Row} {m : Nat} {t : Trm} (h : GdT rows m t) : (∀ x ∈ t.1, PyData.strOk x = true) ∧ ∀ x, Sum.inr x ∈ t.2 → PyData.strOk x = true :=
  ⟨fun x hx => (h.1.ws x hx).sok, fun x hx => (h.2.wd x hx).sok⟩
theorem lay_prs {ts : List Trm} (h : ∀ t ∈ ts, (∀ x ∈ t.1, PyData.strOk x = true) ∧ ∀ x, Sum.inr x ∈ t.2 → PyData.strOk x = true) : PyData.canLayAll0 (ts.map PrD) = true ∧ PyData.depthAll (ts.map PrD) ≤ 3 := by
  induction ts with
  | nil => exact ⟨rfl, Nat.zero_le _⟩
  | cons t ts ih =>
    have ih := ih fun y hy => h y (List.mem_cons_of_mem _ hy)
    obtain ⟨h1, h2⟩ := h t List.mem_cons_self
    have l1 := lay_strs h1
    have l2 := lay_keys h2
    rw [List.map_cons]
    show (PyData.canLay0 (PrD t) && PyData.canLayAll0 (ts.map PrD)) = true ∧ max (PyData.depth (PrD t)) (PyData.depthAll (ts.map PrD)) ≤ 3
    have hp : PyData.canLay0 (PrD t) = true ∧ PyData.depth (PrD t) ≤ 3 := by
      unfold PrD DS
      simp only [PyData.canLay0, PyData.depth, PyData.canLayAll0, PyData.depthAll, l1.1, l2.1, Bool.and_self, true_and]
      omega
    rw [hp.1, Bool.true_and]
    exact ⟨ih.1, by omega⟩
theorem lay_L {ds : List PyData} (h : PyData.canLayAll0 ds = true ∧ PyData.depthAll ds ≤ 3) : SeqAt.shaped (.list ds) = true := by
  unfold SeqAt.shaped
  simp only [PyData.canLay0, PyData.depth]
  rw [h.1, Bool.true_and]
  exact decide_eq_true (by omega)
/-- a list of such pairs -/
def ML (K : PySem.W.Frag) (H : Hp) (p : Addr) (ts : List Trm) : Prop := ∃ as : List Addr, H p = some (.lst (as.map V.ref)) ∧ Paired (PrAt K H) as ts
theorem paired_snoc {α β : Type} {R : α → β → Prop} {a : α} {b : β} (r : R a b) : ∀ {as : List α} {bs : List β}, Paired R as bs → Paired R (as ++ [a]) (bs ++ [b])
  | _, _, .nil => .cons r .nil
  | _, _, .cons x y => .cons x (paired_snoc r y)
theorem KdsOk.sok {rows : List Sy.Row} (ok : KdsOk rows) : ∀ r ∈ rows, PyData.strOk r.1 = true := fun r hr => (ok.wd r hr).sok
section
variable {P : Program} {w : World} {K : PySem.W.Frag} {mg : Str → Option Value} {base : Heap}
def spMade (K : PySem.W.Frag) : Sp := fun vs H Q _ => ∃ (c g q : Addr) (most : Nat) (rows : List Sy.Row), vs = [.ref g, .ref q, .int (most : Nat)] ∧ Bag c g H ∧ q ≠ g ∧ RL K H q rows ∧ KdsOk rows ∧ 4 ≤ most ∧ most ≤ 6 ∧
  ∀ p ts H', (∀ t ∈ ts, GdT rows most t) → ts.length ≤ 4 → Dr c g H H' → H p = none → ML K H' p ts → Q (.ref p) H'
abbrev N_made : List Str := ["_law_bag_here", "_law_kinds_here", "_law_most", "_law_roots", "_law_leaves", "_law_tame_here", "_law_zero", "_law_made_here", "_law_k", "_law_stump_here", "_law_pair_here"]
theorem sc_made : FnScope N_made ["_law_bag_here", "_law_kinds_here", "_law_most"] (defScope (top 48)) := ⟨rfl, rfl, rfl, by decide +kernel, rfl, by decide +kernel, by decide +kernel⟩
theorem k_made (T : Txt K mg) (F : DF K mg "_law_made" 48) (c_law_pick : Cal P w K mg base 1 "_law_pick" ["_law_bag_here", "_law_limit"] spPick) (c_law_tame : Cal P w K mg base 2 "_law_tame" ["_law_bag_here", "_law_roots", "_law_zero"] (spTame K)) (c_law_stump : Cal P w K mg base 2 "_law_stump" ["_law_bag_here", "_law_kinds_here", "_law_most"] (spStL K))
    (c_law_result : Cal P w K mg base 2 "_law_result" ["_law_bag_here", "_law_kinds_here", "_law_stump_here"] (spRsL K)) : Cal P w K mg base 3 "_law_made" ["_law_bag_here", "_law_kinds_here", "_law_most"] (spMade K) := by
  refine cal_of F.1 F.2 sc_made (fun _ _ _ _ _ _ us e => match us, e with | [_, _, _], _ => rfl) (fun vs H Q E s => by obtain ⟨_, _, _, _, _, rfl, _⟩ := s; rfl) ?_
  intro cdv A outer s H vs Q E hr h
  obtain ⟨c, g, q, most, rows, rfl, hg, hne, hRL, ok, hm4, hm6, hq⟩ := h
  have sc := sc_made
  refine ⟨_, (pss_cons (ps_setLc (i := 3) (own := [("_law_pair_here", 10)]) (g := gName 10) rfl sc.nd rfl rfl (sw_true rfl rfl rfl (by decide +kernel)) (pi_list (pv 1)) (blkOk_by (N := N_made) (sc := defScope (top 48)) (by decide +kernel)) (fun _ _ _ _ _ => (pg_name (i := 10) sc.nd rfl (Or.inl rfl))) (fun _ _ _ _ _ => (pts_one (pt_chain op_lt op_lt pe_int (pe_ixTK K rfl (pv 10) pe_int (fun _ _ => rfl)) (pv 2)))) (fun _ _ _ _ _ => (pv 10)))
      (pss_cons (ps_if (pt_cmpR (op_eqD hr.units) (pv 3) (pe_lst pa_nil) (nomark _))
        (pss_one (ps_ret (pe_lst pa_nil)))
        pss_nil)
      (pss_cons (ps_setLc (i := 4) (own := [("_law_pair_here", 10)]) (g := gName 10) rfl sc.nd rfl rfl (sw_true rfl rfl rfl (by decide +kernel)) (pi_list (pv 1)) (blkOk_by (N := N_made) (sc := defScope (top 48)) (by decide +kernel)) (fun _ _ _ _ _ => (pg_name (i := 10) sc.nd rfl (Or.inl rfl))) (fun _ _ _ _ _ => (pts_one (pt_cmpR op_eq (pe_ixTK K rfl (pv 10) pe_int (fun _ _ => rfl)) pe_int (nomark _)))) (fun _ _ _ _ _ => (pe_ixTK K rfl (pv 10) pe_int (fun _ _ => rfl))))
      (pss_cons (ps_set (i := 5) sc.nd rfl (Or.inl rfl) (pe_cmpR op_eq (pe_cal c_law_pick hr (pa_cons (pv 0) (pa_cons pe_int pa_nil))) pe_int (nomark _)))
      (pss_cons (ps_set (i := 6) sc.nd rfl (Or.inl rfl) (pe_ix ix_list (pv 4) (pe_cal c_law_pick hr (pa_cons (pv 0) (pa_cons (pe_callB call_len_seq (by rfl) T.len (by decide +kernel) (pa_cons (pv 4) pa_nil)) pa_nil))) (fun _ _ => rfl)))
      (pss_cons (ps_set (i := 7) sc.nd rfl (Or.inl rfl) (pe_lst pa_nil))
      (pss_cons (ps_for (passes_of rfl) rfl (pi_range1 rfl T.range (pa_cons (pe_ix ix_tup (pe_tup (pa_cons pe_int (pa_cons pe_int (pa_cons pe_int (pa_cons pe_int (pa_cons pe_int (pa_cons pe_int (pa_cons pe_int (pa_cons pe_int pa_nil))))))))) (pe_cal c_law_pick hr (pa_cons (pv 0) (pa_cons pe_int pa_nil))) (fun _ _ => rfl)) pa_nil)) (pg_name (i := 8) sc.nd rfl (Or.inl rfl))
        (pss_one (ps_if (pt_val (pv 5))
          (pss_one (ps_expr (pe_bm PySem.F.plainAttrs_list PySem.F.slot_list_append PySem.F.type_list_append mt_append (pv 7) (pa_cons (pe_cal c_law_tame hr (pa_cons (pv 0) (pa_cons (pv 3) (pa_cons (pv 6) pa_nil)))) pa_nil))))
          (pss_cons (ps_set (i := 9) sc.nd rfl (Or.inl rfl) (pe_cal c_law_stump hr (pa_cons (pv 0) (pa_cons (pv 1) (pa_cons (pv 2) pa_nil)))))
          (pss_one (ps_expr (pe_bm PySem.F.plainAttrs_list PySem.F.slot_list_append PySem.F.type_list_append mt_append (pv 7) (pa_cons (pe_tup (pa_cons (pv 9) (pa_cons (pe_cal c_law_result hr (pa_cons (pv 0) (pa_cons (pv 1) (pa_cons (pv 9) pa_nil)))) pa_nil))) pa_nil))))))))
      (pss_cons (ps_cut (ps_if (PW.pt (pw_and (pt_cmpR (op_neD hr.units) (pv 7) (pe_lst pa_nil) (nomark _)) (pw_and1 (pt_cmpR op_eq (pe_cal c_law_pick hr (pa_cons (pv 0) (pa_cons pe_int pa_nil))) pe_int (nomark _)))))
        (pss_one (ps_expr (pe_bm PySem.F.plainAttrs_list PySem.F.slot_list_append PySem.F.type_list_append mt_append (pv 7) (pa_cons (pe_ix ix_list (pv 7) pe_int (fun _ _ => rfl)) pa_nil))))
        pss_nil))
      (pss_one (ps_ret (pv 7))))))))))), ?_⟩
  obtain ⟨x0, h0, bc0, pr, rfl, hL, hat⟩ := hg.takeR hne hRL
  have hgH : H g = some (bagO c x0) := h0.r0
  have hle := ok.le
  rw [List.length_map] at hle
  have nd := ok.ok.nd
  have new0 : ∀ {B H' : Hp} {M : Addr}, Same (L2.del H g) B → Same B H' → H' g ≠ none → H' M = none → H M = none := fun {B H' M} s1 s2 n1 n2 => by
    have e : M ≠ g := fun z => n1 (by rw [← z]; exact n2)
    have := s1.free (s2.free n2)
    rw [del_ne e] at this
    exact this
  generalize hB0 : L2.del H g = B0 at *
  refine ⟨_, rfl, q, rfl, ⟨_, SqL.of (h0.sub _ _ hL)⟩, fun D hD => lc_filt (K := K) (xs := pr) (f := fun z => V.ref z.1) (out := fun z => V.ref z.1) (keep := fun z => decide (0 < z.2.2 ∧ z.2.2 < most)) h0 hD (fun _ _ z => z.sub _ _ hL) (by omega) (fun z hz H' s' R1 R2 k1 k2 => ?_) (fun H1 h1 => ?_)⟩
  · have tz := Same.sqt s' (hat.at_ z hz)
    refine ⟨_, rfl, z.1, _, _, _, rfl, rfl, tz, atI_nat (j := 1) rfl, _, _, rfl, rfl, _, rfl, if_dec (fun c1 => ?_) (fun c1 => ?_)⟩
    · refine ⟨_, rfl, _, _, rfl, rfl, _, rfl, if_dec (fun c2 => ?_) (fun c2 => ?_)⟩
      · exact ⟨_, rfl, k1 (decide_eq_true ⟨by omega, by omega⟩)⟩
      · exact k2 (decide_eq_false (by omega))
    · exact ⟨_, rfl, k2 (decide_eq_false (by omega))⟩
  have hDg : D ≠ g := fun z => by rw [z, hgH] at hD; cases hD
  have hgv := h1.give
  have h2 := hgv.2
  have s2 := hgv.1
  have hfl := List.length_filter_le (fun z : Addr × Sy.Row => decide (0 < z.2.2 ∧ z.2.2 < most)) pr
  have hroot : ∀ z ∈ pr.filter (fun z => decide (0 < z.2.2 ∧ z.2.2 < most)), z ∈ pr ∧ 0 < z.2.2 ∧ z.2.2 < most := fun z hz => by
    obtain ⟨a, b⟩ := List.mem_filter.mp hz
    exact ⟨a, of_decide_eq_true b⟩
  have eD : upd B0 D (.lst ((pr.filter fun z => decide (0 < z.2.2 ∧ z.2.2 < most)).map fun z => V.ref z.1)) D = some (.lst ((pr.filter fun z => decide (0 < z.2.2 ∧ z.2.2 < most)).map fun z => V.ref z.1)) := upd_same
  generalize upd B0 D (.lst ((pr.filter fun z => decide (0 < z.2.2 ∧ z.2.2 < most)).map fun z => V.ref z.1)) = B1 at *
  generalize hroots : pr.filter (fun z => decide (0 < z.2.2 ∧ z.2.2 < most)) = roots at *
  have hatR : RwP K B1 roots := ⟨fun z hz => (hat.mono s2).at_ z (hroot z hz).1⟩
  have hatRi : ImA K B1 (roots.map fun z => V.ref z.1) ((roots.map (·.2)).map RowD) := by
    have := Im.rowsD hatR.paired
    rw [List.map_map] at this
    exact this
  refine ⟨_, rfl, (by show 0 ≤ sizeLine; decide), fun E0 hE0 => ?_⟩
  have h3 := h2.lay (o := .lst []) hE0
  have layR : SeqAt.shaped (.list ((roots.map (·.2)).map RowD)) = true := by
    have := lay_rows (rows := roots.map (·.2)) fun r hr' => by
      obtain ⟨z, hz, rfl⟩ := List.mem_map.mp hr'
      exact ok.sok _ (List.mem_map_of_mem (hroot z hz).1)
    exact lay_L ⟨this.1, by omega⟩
  have dpR : Dp K (upd H1 E0 (.lst [])) (.ref D) (.list ((roots.map (·.2)).map RowD)) := .lst (SqL.of (h3.sub _ _ eD)) (ImA.dp (ImA.mono (Stay.of h3.sub) hatRi))
  refine ⟨_, .list [], dpR, .lst (SqL.of upd_same) .nil, layR, lay_L ⟨rfl, by decide⟩, _, rfl, ?_⟩
  cases hR0 : roots with
  | nil =>
    refine iteT ⟨by decide, fun M hM => ?_⟩
    have h4 := h3.new (o := .lst []) hM
    refine hq M [] _ (fun _ z => nomatch z) (by decide) (h4.swap.isDr (by rw [hB0]; exact s2)) (new0 s2 h3.sub (by rw [h3.r0]; exact fun z => nomatch z) hM) ⟨[], upd_same, .nil⟩
  | cons r0 rs =>
    rw [← hR0]
    refine if_bool (fun z => ?_) (fun _ => ?_)
    · rw [hR0] at z
      cases z
    have hE0g : upd H1 E0 (.lst []) g = some (bagO c x0) := h3.r0
    refine ⟨_, rfl, q, rfl, ⟨_, SqL.of (h3.sub _ _ (s2 _ _ hL))⟩, fun V4 hV4 => lc_filt (K := K) (xs := pr) (f := fun z => V.ref z.1) (out := fun z => V.str z.2.1) (keep := fun z => decide (z.2.2 = 0)) h3 hV4 (fun _ _ z => z.sub _ _ (s2 _ _ hL)) (by omega) (fun z hz H' s' R1 R2 k1 k2 => ?_) (fun H4 h4 => ?_)⟩
    · have tz := Same.sqt (s2.trans s') (hat.at_ z hz)
      refine ⟨_, rfl, z.1, _, _, _, rfl, rfl, tz, atI_nat (j := 1) rfl, rfl, _, rfl, if_dec (fun c1 => ?_) (fun c1 => ?_)⟩
      · exact ⟨_, rfl, z.1, _, _, _, rfl, rfl, tz, atI_nat (j := 0) rfl, k1 (decide_eq_true (by have := V.int.inj c1; omega))⟩
      · exact k2 (decide_eq_false (fun e => c1 (by rw [e]; rfl)))
    have h5 := h4.give.2
    have s5 := h4.give.1
    have hleaf : ∀ z ∈ pr.filter (fun z => decide (z.2.2 = 0)), z ∈ pr ∧ z.2.2 = 0 := fun z hz => by
      obtain ⟨a, b⟩ := List.mem_filter.mp hz
      exact ⟨a, of_decide_eq_true b⟩
    have hlf := List.length_filter_le (fun z : Addr × Sy.Row => decide (z.2.2 = 0)) pr
    have hlp : 0 < (pr.filter fun z => decide (z.2.2 = 0)).length := by
      obtain ⟨r', hr', e0⟩ := ok.ok.lf
      obtain ⟨z, hz, rfl⟩ := List.mem_map.mp hr'
      exact List.length_pos_of_mem (List.mem_filter.mpr ⟨hz, decide_eq_true e0⟩)
    have e5 : upd B1 V4 (.lst ((pr.filter fun z => decide (z.2.2 = 0)).map fun z => V.str z.2.1)) V4 = some (.lst ((pr.filter fun z => decide (z.2.2 = 0)).map fun z => V.str z.2.1)) := upd_same
    generalize upd B1 V4 (.lst ((pr.filter fun z => decide (z.2.2 = 0)).map fun z => V.str z.2.1)) = B5 at *
    generalize hlv : pr.filter (fun z => decide (z.2.2 = 0)) = lv at *
    refine ⟨_, rfl, c, g, 3, rfl, h5.bag (bc0.mono (s2.trans s5)), by decide, by decide, fun k6 H6 hk6 d6 => ?_⟩
    obtain ⟨x6, B6, s6, h6⟩ := h5.dr0 d6
    refine ⟨rfl, ?_⟩
    generalize decide (V.int (k6 : Nat) = V.int 2) = tm
    refine ⟨_, rfl, _, rfl, _, rfl, V4, _, rfl, .inl (SqL.of (h6.sub _ _ (s6 _ _ e5))), c, g, lv.length, by rw [List.length_map], h6.bag (bc0.mono ((s2.trans s5).trans s6)), hlp, by omega, fun j7 H7 hj7 d7 => ?_⟩
    obtain ⟨x7, B7, s7, h7⟩ := h6.dr0 d7
    obtain ⟨zl, ezl⟩ : ∃ z, lv[j7]? = some z := ⟨_, List.getElem?_eq_getElem hj7⟩
    have hzl := hleaf zl (List.mem_of_getElem? ezl)
    have hz0 : (zl.2.1, 0) ∈ pr.map (·.2) := by
      have := List.mem_map_of_mem (f := fun z : Addr × Sy.Row => z.2) hzl.1
      rw [show zl.2 = (zl.2.1, zl.2.2) from rfl, hzl.2] at this
      exact this
    refine ⟨V4, _, _, .str zl.2.1, rfl, rfl, SqL.of (h7.sub _ _ (s7 _ _ (s6 _ _ e5))), atI_nat (by rw [List.getElem?_map, ezl]; rfl), ?_⟩
    refine ⟨by decide, fun M hM => ?_⟩
    have h8 := (h7.new (o := .lst []) hM).swap
    have s07 := ((s2.trans s5).trans s6).trans s7
    have hMn : H M = none := new0 s07 h7.sub (by rw [h7.r0]; exact fun z => nomatch z) hM
    refine ⟨(by show 8 ≤ sizeLine; decide), fun p9 hp9 => ?_⟩
    have h9 := h8.tup (o := .tup (vN [3, 2, 1, 2, 0, 1, 3, 2])) hp9
    have s9 := up_same (o := .tup (vN [3, 2, 1, 2, 0, 1, 3, 2])) (h8.sub.free hp9)
    have e9 : upd B7 p9 (.tup (vN [3, 2, 1, 2, 0, 1, 3, 2])) p9 = some (.tup (vN [3, 2, 1, 2, 0, 1, 3, 2])) := upd_same
    generalize upd B7 p9 (.tup (vN [3, 2, 1, 2, 0, 1, 3, 2])) = B9 at *
    refine ⟨_, rfl, c, g, 8, rfl, h9.bag (bc0.mono (s07.trans s9)), by decide, by decide, fun j H10 hj d10 => ?_⟩
    obtain ⟨x10, B10, s10, h10⟩ := h9.dr0 d10
    obtain ⟨m, hm, em⟩ := menu_at (L := [3, 2, 1, 2, 0, 1, 3, 2]) hj
    have hm : m ≤ 3 := by simp only [List.mem_cons, List.not_mem_nil, or_false] at hm; omega
    refine ⟨p9, _, _, _, rfl, rfl, SqT.of (h10.sub _ _ (s10 _ _ e9)), atI_nat em, ?_⟩
    have s010 := (s07.trans s9).trans s10
    have s110 := ((s5.trans s6).trans s7).trans (s9.trans s10)
    refine ⟨_, rfl, by omega, by omega, for_rng (n := m)
      (fun i σ H' => ∃ (t8 t9 : Option V) (as : List Addr) (ts : List Trm) (x : Int × Int × Int) (B : Hp), σ = [some (.ref g), some (.ref q), some (.int (most : Nat)), some (.ref D), some (.ref V4), some (.bl tm), some (.str zl.2.1), some (.ref M), t8, t9, none] ∧ ts.length = i ∧ (∀ t ∈ ts, GdT (pr.map (·.2)) most t) ∧ Paired (PrAt K B) as ts ∧ Same B10 B ∧ Hs B [(g, bagO c x), (M, .lst (as.map V.ref))] H')
      ⟨none, none, [], [], x10, B10, rfl, rfl, fun _ z => (nomatch z), .nil, Same.refl _, h10⟩ ?_ ?_⟩
    · rintro i σ H11 hi ⟨t8, t9, as, ts, x, B, rfl, hl, hgd, hpa, sB, hh⟩
      have hal := paired_len hpa
      have sB0 := s010.trans sB
      have hput : ∀ (t9' : Option V) (p : Addr) (t : Trm) (x' : Int × Int × Int) (B' H' : Hp), GdT (pr.map (·.2)) most t → PrAt K B' p t → Same B B' → Hs B' [(g, bagO c x'), (M, .lst (as.map V.ref))] H' → rAppend (.ref M) [.ref p] H' (fun v H'' => ∃ (t8 t9 : Option V) (as : List Addr) (ts : List Trm) (x : Int × Int × Int) (B : Hp), [some (V.ref g), some (.ref q), some (.int (most : Nat)), some (.ref D), some (.ref V4), some (.bl tm), some (.str zl.2.1), some (.ref M), some (.int (i : Nat)), t9', none] = [some (.ref g), some (.ref q), some (.int (most : Nat)), some (.ref D), some (.ref V4), some (.bl tm), some (.str zl.2.1), some (.ref M), t8, t9, none] ∧ ts.length = i + 1 ∧ (∀ t ∈ ts, GdT (pr.map (·.2)) most t) ∧ Paired (PrAt K B) as ts ∧ Same B10 B ∧ Hs B [(g, bagO c x), (M, .lst (as.map V.ref))] H'') := fun t9' p t x' B' H' gt pt sb hh' => by
        refine ⟨M, _, _, rfl, rfl, hh'.r1, by rw [List.length_map, hal, sizeLine_eq]; omega, _, _, as ++ [p], ts ++ [t], x', B', rfl, by rw [List.length_append, hl]; rfl, fun y hy => ?_, paired_snoc pt (Paired.mapP hpa fun _ _ r => r.same sb), sB.trans sb, ?_⟩
        · rcases List.mem_append.mp hy with hy | hy
          · exact hgd y hy
          · rw [List.mem_singleton.mp hy]
            exact gt
        · rw [List.map_append]
          exact hh'.w1
      have bagN := hh.bag (bc0.mono sB0)
      refine ⟨_, rfl, _, rfl, ?_⟩
      cases tm with
      | true =>
        refine iteT ⟨_, rfl, .inl ⟨rfl, _, SqL.of hh.r1⟩, _, rfl, _, rfl, _, rfl, c, g, D, zl.2.1, most, pr.map (·.2), roots.map (·.2), rfl, bagN, hDg, ⟨roots, rfl, hh.sub _ _ (sB _ _ (s110 _ _ eD)), hatR.mono ((s110.trans sB).trans hh.sub)⟩, (by rw [hR0]; exact fun z => nomatch z), fun r hr' => ?_, hm4, by rw [List.length_map]; omega, ok, hz0, fun p t H12 gt d12 pt => ?_⟩
        · obtain ⟨z, hz, rfl⟩ := List.mem_map.mp hr'
          have := hroot z hz
          exact ⟨List.mem_map_of_mem this.1, this.2⟩
        · obtain ⟨x12, B12, s12, h12, st12, _⟩ := hh.drN (AllL.cons AllL.nil) d12
          exact hput t9 p t x12 B12 H12 gt (pt.stay st12) s12 h12
      | false =>
        refine iteF ⟨_, rfl, _, rfl, _, rfl, c, g, q, most, pr.map (·.2), rfl, bagN, hne, ⟨pr, rfl, hh.sub _ _ (sB0 _ _ hL), hat.mono (sB0.trans hh.sub)⟩, ok, hm6, ⟨r0.2, ?_, ?_⟩, fun p l H12 so d12 zp => ?_⟩
        · exact List.mem_map_of_mem (hroot r0 (by rw [hR0]; exact List.mem_cons_self)).1
        · exact (hroot r0 (by rw [hR0]; exact List.mem_cons_self)).2
        obtain ⟨x12, B12, s12, h12, st12, _⟩ := hh.drN (AllL.cons AllL.nil) d12
        have zp12 := zp.stay st12
        have sB12 := sB0.trans s12
        refine ⟨_, rfl, .inl ⟨rfl, _, SqL.of h12.r1⟩, _, rfl, _, rfl, _, rfl, _, rfl, c, g, q, p, pr.map (·.2), l, rfl, h12.bag (bc0.mono sB12), hne, ⟨pr, rfl, h12.sub _ _ (sB12 _ _ hL), hat.mono (sB12.trans h12.sub)⟩, ok, ⟨so.ck, by have := so.le; omega, so.wd, so.hd⟩, zp, fun r ks H13 rs d13 sr => ?_⟩
        obtain ⟨x13, B13, s13, h13, st13, _⟩ := h12.drN (AllL.cons AllL.nil) d13
        have sr13 := st13.sqt sr
        refine ⟨(by show 2 ≤ sizeLine; decide), fun p14 hp14 => ?_⟩
        have h14 := h13.tup (o := .tup [.ref p, .ref r]) hp14
        have s14 := up_same (o := .tup [.ref p, .ref r]) (h13.sub.free hp14)
        exact hput (some (.ref p)) p14 (l, ks) x13 _ _ ⟨so, rs⟩ ⟨p, r, SqT.of upd_same, zp12.same (s13.trans s14), Same.sqt s14 sr13⟩ ((s12.trans s13).trans s14) h14
    · rintro σ H11 ⟨t8, t9, as, ts, x, B, rfl, hl, hgd, hpa, sB, hh⟩
      have sB0 := s010.trans sB
      have sok := fun t ht => (hgd t ht).sok
      refine ⟨fun σ' H' => ∃ (as : List Addr) (ts : List Trm) (x : Int × Int × Int) (B' : Hp), σ' = [some (.ref g), some (.ref q), some (.int (most : Nat)), some (.ref D), some (.ref V4), some (.bl tm), some (.str zl.2.1), some (.ref M), t8, t9, none] ∧ ts.length ≤ 4 ∧ (∀ t ∈ ts, GdT (pr.map (·.2)) most t) ∧ Paired (PrAt K B') as ts ∧ Same B B' ∧ Hs B' [(g, bagO c x), (M, .lst (as.map V.ref))] H',
        ⟨_, rfl, (by show 0 ≤ sizeLine; decide), fun E2 hE2 => ?_⟩, ?_⟩
      · have h12 := hh.lay (o := .lst []) hE2
        have dpT : Dp K (upd H11 E2 (.lst [])) (.ref M) (.list (ts.map PrD)) := .lst (SqL.of h12.r1) (ImA.dp (prs_im (Paired.mapP hpa fun _ _ r => r.same h12.sub)))
        refine ⟨_, .list [], dpT, .lst (SqL.of upd_same) .nil, lay_L (lay_prs sok), lay_L ⟨rfl, by decide⟩, _, rfl, ?_⟩
        have hal := paired_len hpa
        cases ts with
        | nil => exact iteF ⟨as, [], x, B, rfl, by decide, hgd, hpa, Same.refl _, h12⟩
        | cons t0 tr =>
          cases hpa with
          | cons r0' rr =>
            rename_i a0 ar
            refine iteT ⟨_, rfl, c, g, 8, rfl, h12.bag (bc0.mono sB0), by decide, by decide, fun k H13 hk d13 => ?_⟩
            obtain ⟨x13, B13, s13, h13⟩ := h12.dr0 d13
            refine ⟨rfl, _, rfl, if_dec (fun c1 => ?_) (fun c1 => ⟨a0 :: ar, t0 :: tr, x13, B13, rfl, by omega, hgd, Paired.mapP (.cons r0' rr) fun _ _ r => r.same s13, s13, h13⟩)⟩
            refine ⟨_, rfl, .inl ⟨rfl, _, SqL.of h13.r1⟩, _, rfl, M, _, _, .ref a0, rfl, rfl, SqL.of h13.r1, atI_nat (j := 0) rfl, M, _, _, rfl, rfl, h13.r1, by rw [List.length_map, hal, sizeLine_eq]; omega, (a0 :: ar) ++ [a0], (t0 :: tr) ++ [t0], x13, B13, rfl, by rw [List.length_append]; show _ + 1 ≤ 4; omega, fun y hy => ?_, paired_snoc (r0'.same s13) (Paired.mapP (.cons r0' rr) fun _ _ r => r.same s13), s13, ?_⟩
            · rcases List.mem_append.mp hy with hy | hy
              · exact hgd y hy
              · rw [List.mem_singleton.mp hy]
                exact hgd t0 List.mem_cons_self
            · rw [List.map_append]
              exact h13.w1
      · rintro _ H12 ⟨as, ts, x, B', rfl, hl, hgd, hpa, sB', hh⟩
        exact ⟨_, rfl, hq M ts H12 hgd hl (hh.isDr (by rw [hB0]; exact sB0.trans sB')) hMn ⟨as, hh.r1, Paired.mapP hpa fun _ _ r => r.same hh.sub⟩⟩
end
end Sy
/-! _law_bent -/
namespace Sy
open PySem PySem.Spec PyProof.Rows L2
/-- a tuple, without a dict where C -/
structure SqC (K : PySem.W.Frag) (H : Hp) (p : Addr) (xs : List V) (C : Prop) : Prop where
  sq : SqT K H p xs
  nd : C → NoD H p
theorem SqC.stay {K : PySem.W.Frag} {H H' : Hp} {p : Addr} {xs : List V} {C : Prop} (h : SqC K H p xs C) (s : Stay H H') : SqC K H' p xs C := ⟨s.sqt h.sq, fun c => (h.nd c).mono s⟩
theorem SqC.same {K : PySem.W.Frag} {H H' : Hp} {p : Addr} {xs : List V} {C : Prop} (h : SqC K H p xs C) (s : Same H H') : SqC K H' p xs C := h.stay (Stay.of s)
theorem NewT.sqc {K : PySem.W.Frag} {H H' : Hp} {p : Addr} {xs : List V} {C : Prop} (h : NewT H p xs H') : SqC K H' p xs C := ⟨h.sqt, fun _ => h.nod⟩
theorem SqZ.sqc {K : PySem.W.Frag} {H : Hp} {p : Addr} {xs : List V} {C : Prop} (h : SqZ K H p xs) : SqC K H p xs C := ⟨h.sq, fun _ => h.nd⟩
theorem SqC.z {K : PySem.W.Frag} {H : Hp} {p : Addr} {xs : List V} (h : SqC K H p xs True) : SqZ K H p xs := ⟨h.sq, h.nd trivial⟩
theorem Hs.sqc {K : PySem.W.Frag} {B H H' : Hp} {L : List (Addr × HO)} {p : Addr} {xs : List V} {C : Prop} (h : Hs B L H) (al : AllL L) (s : Same H H') (z : SqC K H' p xs C) : ∃ B', Same B B' ∧ Hs B' L H' ∧ SqC K B' p xs C :=
  ⟨_, (h.after s).1, (h.after s).2, z.stay (stay_cut h al s)⟩
section
variable {K : PySem.W.Frag} {H : Hp} {a b : Addr} {xs ys : List V} {Q : VK} {C : Prop}
theorem slC {lo hi : Option Int} {zs : List V} (hz : cutV xs lo hi = zs) (h : SqC K H a xs C) (q : ∀ p H', Same H H' → SqC K H' p zs C → Q (.ref p) H') : rSlZ K (.ref a) lo hi H Q := by
  subst hz
  refine ⟨a, xs, rfl, h.sq, fun c => q _ _ (Same.refl H) ⟨?_, h.nd⟩, fun _ p H' n => q _ _ n.same n.sqc⟩
  unfold cutV
  rw [c.1, c.2, List.drop_zero, Nat.sub_zero, List.take_length]
  exact h.sq
theorem catC (h : SqC K H a xs C) (g : SqC K H b ys C) (hs : xs.length + ys.length ≤ 1000000) (q : ∀ p H', Same H H' → SqC K H' p (xs ++ ys) C → Q (.ref p) H') : rCatZ K (.ref a) (.ref b) H Q :=
  ⟨a, b, xs, ys, rfl, rfl, h.sq, g.sq, by rw [sizeLine_eq]; omega, fun c => q _ _ (Same.refl H) (by rw [c]; exact g), fun _ c => q _ _ (Same.refl H) (by rw [c, List.append_nil]; exact h), fun _ _ p H' n => q _ _ n.same n.sqc⟩
end
theorem cutV_keys (ks : List Key) (lo hi : Option Int) : ∃ ks' : List Key, cutV (ks.map kV) lo hi = ks'.map kV ∧ ks'.length ≤ ks.length ∧ ∀ k ∈ ks', k ∈ ks := by
  refine ⟨(ks.drop (HT.sIx (ks.map kV).length 0 lo)).take (HT.sIx (ks.map kV).length (ks.map kV).length hi - HT.sIx (ks.map kV).length 0 lo), ?_, ?_, fun k hk => List.mem_of_mem_drop (List.mem_of_mem_take hk)⟩
  · unfold cutV
    rw [List.map_take, List.map_drop]
  · rw [List.length_take, List.length_drop]
    omega
theorem sok_add {x y : Str} (hx : PyData.strOk x = true) (hy : PyData.strOk y = true) : PyData.strOk (x ++ y) = true := by
  have e : (x ++ y).cps = x.cps ++ y.cps := rfl
  unfold PyData.strOk at *
  rw [e, Array.all_append, hx, hy]
  rfl
section
variable {P : Program} {w : World} {K : PySem.W.Frag} {mg : Str → Option Value} {base : Heap}
def spBent (K : PySem.W.Frag) : Sp := fun vs H Q _ => ∃ (c g q p o : Addr) (rows : List Sy.Row) (ks os : List Key) (C : Prop) (PP : Key → Prop), vs = [.ref g, .ref q, .ref p, .ref o] ∧ Bag c g H ∧ q ≠ g ∧ o ≠ g ∧ RL K H q rows ∧ KdsOk rows ∧ SqC K H p (ks.map kV) C ∧ H o = some (.lst (os.map kV)) ∧ os.length ≤ 5 ∧ ks.length ≤ 10000 ∧
  (∀ x, PyData.strOk x = true → PP (.inr x)) ∧ (∀ k ∈ ks, PP k) ∧ (∀ k ∈ os, PP k) ∧ ∀ (p' : Addr) (ks' : List Key) (H' : Hp), ks'.length ≤ 2 * ks.length + 1 → (∀ k ∈ ks', PP k) → Dr c g H H' → SqC K H' p' (ks'.map kV) C → Q (.ref p') H'
abbrev N_bent : List Str := ["_law_bag_here", "_law_kinds_here", "_law_row", "_law_others", "_law_strange", "_law_entry", "_law_at", "_law_turn"]
theorem sc_bent : FnScope N_bent ["_law_bag_here", "_law_kinds_here", "_law_row", "_law_others"] (defScope (top 53)) := ⟨rfl, rfl, rfl, by decide +kernel, rfl, by decide +kernel, by decide +kernel⟩
theorem k_bent (T : Txt K mg) (F : DF K mg "_law_bent" 53) (c_law_pick : Cal P w K mg base 1 "_law_pick" ["_law_bag_here", "_law_limit"] spPick) : Cal P w K mg base 2 "_law_bent" ["_law_bag_here", "_law_kinds_here", "_law_row", "_law_others"] (spBent K) := by
  refine cal_of F.1 F.2 sc_bent (fun _ _ _ _ _ _ us e => match us, e with | [_, _, _, _], _ => rfl) (fun vs H Q E s => by obtain ⟨_, _, _, _, _, _, _, _, _, _, rfl, _⟩ := s; rfl) ?_
  intro cdv A outer s H vs Q E hr h
  obtain ⟨c, g, q, p, o, rows, ks, os, C, PP, rfl, hg, hne, hno, hRL, ok, hp, ho, hol, hkl, hps, hpk, hpo, hq⟩ := h
  have sc := sc_bent
  refine ⟨_, (pss_cons (ps_set (i := 4) sc.nd rfl (Or.inl rfl) (pe_op op_cat (pe_lst (pa_cons pe_str (pa_cons pe_str (pa_cons pe_str (pa_cons (pe_ix ix_tup (pe_ix ix_list (pv 1) pe_int (fun _ _ => rfl)) pe_int (fun _ _ => rfl)) (pa_cons (pe_ix ix_tup (pe_ix ix_list (pv 1) (pe_op op_sub (pe_callB call_len_seq (by rfl) T.len (by decide +kernel) (pa_cons (pv 1) pa_nil)) pe_int) (fun _ _ => rfl)) pe_int (fun _ _ => rfl)) (pa_cons (pe_op op_add_str (pe_ix ix_tup (pe_ix ix_list (pv 1) pe_int (fun _ _ => rfl)) pe_int (fun _ _ => rfl)) pe_str) pa_nil))))))) (pv 3)))
      (pss_cons (ps_set (i := 5) sc.nd rfl (Or.inl rfl) (pe_ix ix_list (pv 4) (pe_cal c_law_pick hr (pa_cons (pv 0) (pa_cons (pe_callB call_len_seq (by rfl) T.len (by decide +kernel) (pa_cons (pv 4) pa_nil)) pa_nil))) (fun _ _ => rfl)))
      (pss_cons (ps_set (i := 6) sc.nd rfl (Or.inl rfl) (pe_cal c_law_pick hr (pa_cons (pv 0) (pa_cons (pe_op op_add (pe_callB call_len_seq (by rfl) T.len (by decide +kernel) (pa_cons (pv 2) pa_nil)) pe_int) pa_nil))))
      (pss_cons (ps_set (i := 7) sc.nd rfl (Or.inl rfl) (pe_cal c_law_pick hr (pa_cons (pv 0) (pa_cons pe_int pa_nil))))
      (pss_cons (ps_if (pt_cmpR op_eq (pv 7) pe_int (nomark _))
        (pss_one (ps_ret (pe_op op_catZ (pe_slice sl_tupZ (pv 2) po_none (po_some (pv 6))) (pe_slice sl_tupZ (pv 2) (po_some (pe_op op_add (pv 6) pe_int)) po_none))))
        pss_nil)
      (pss_cons (ps_if (pt_cmpR op_eq (pv 7) pe_int (nomark _))
        (pss_one (ps_ret (pe_op op_catZ (pe_op op_catZ (pe_slice sl_tupZ (pv 2) po_none (po_some (pv 6))) (pe_tupZ (pa_cons (pv 5) pa_nil))) (pe_slice sl_tupZ (pv 2) (po_some (pv 6)) po_none))))
        pss_nil)
      (pss_one (ps_ret (pe_op op_catZ (pe_op op_catZ (pe_slice sl_tupZ (pv 2) po_none (po_some (pv 6))) (pe_tupZ (pa_cons (pv 5) pa_nil))) (pe_slice sl_tupZ (pv 2) (po_some (pe_op op_add (pv 6) pe_int)) po_none)))))))))), ?_⟩
  obtain ⟨x0, h0, bc0, pr, rfl, hL, hat⟩ := hg.takeR hne hRL
  have hp0 : SqC K (L2.del H g) p (ks.map kV) C := by
    obtain ⟨⟨x, e⟩, _⟩ := hg
    exact hp.stay (stay_del e)
  have ho0 : L2.del H g o = some (.lst (os.map kV)) := by rw [del_ne hno]; exact ho
  have hge := ok.ge
  have hle := ok.le
  rw [List.length_map] at hge hle
  generalize hB0 : L2.del H g = B0 at *
  obtain ⟨⟨a0, r0⟩, e0⟩ : ∃ z, pr[0]? = some z := ⟨_, List.getElem?_eq_getElem (by omega)⟩
  obtain ⟨⟨a1, r1⟩, e1⟩ : ∃ z, pr[pr.length - 1]? = some z := ⟨_, List.getElem?_eq_getElem (by omega)⟩
  have m0 := List.mem_of_getElem? e0
  have m1 := List.mem_of_getElem? e1
  have t0 : SqT K H a0 [.str r0.1, .int (r0.2 : Nat)] := Same.sqt h0.sub (hat.at_ _ m0)
  have t1 : SqT K H a1 [.str r1.1, .int (r1.2 : Nat)] := Same.sqt h0.sub (hat.at_ _ m1)
  have w0 : Wd r0.1 := ok.wd _ (List.mem_map_of_mem m0)
  have w1 : Wd r1.1 := ok.wd _ (List.mem_map_of_mem m1)
  have LH := SqL.of (K := K) (h0.sub _ _ hL)
  have em1 : (((pr.map fun z => V.ref z.1).length : Nat) : Int) - 1 = ((pr.length - 1 : Nat) : Int) := by rw [List.length_map]; omega
  have at0 : atI (pr.map fun z => V.ref z.1) ((0 : Nat) : Int) = some (.ref a0) := atI_nat (by rw [List.getElem?_map, e0]; rfl)
  have at1 : atI (pr.map fun z => V.ref z.1) ((((pr.map fun z => V.ref z.1).length : Nat) : Int) - 1) = some (.ref a1) := by
    rw [em1]
    exact atI_nat (by rw [List.getElem?_map, e1]; rfl)
  have l0 := w0.2.1
  have l0' := len_tl r0.1
  refine ⟨_, rfl, q, _, _, .ref a0, rfl, rfl, LH, at0, a0, _, _, _, rfl, rfl, t0, atI_nat (j := 0) rfl, ?_⟩
  refine ⟨_, rfl, _, rfl, q, _, rfl, .inl LH, _, _, rfl, rfl, q, _, _, .ref a1, rfl, rfl, LH, at1, a1, _, _, _, rfl, rfl, t1, atI_nat (j := 0) rfl, ?_⟩
  refine ⟨_, rfl, q, _, _, .ref a0, rfl, rfl, LH, at0, a0, _, _, _, rfl, rfl, t0, atI_nat (j := 0) rfl, _, _, rfl, rfl, ?_, (by show 6 ≤ sizeLine; decide), fun S1 hS1 => ?_⟩
  · have : (Str.length "q") = 1 := rfl
    rw [sizeLine_eq]
    omega
  have h1 := h0.lay (o := .lst [.str "nokindhere", .str "*", .str "", .str r0.1, .str r1.1, .str (r0.1 ++ "q")]) hS1
  have eS1 : upd H S1 (.lst [.str "nokindhere", .str "*", .str "", .str r0.1, .str r1.1, .str (r0.1 ++ "q")]) S1 = some (.lst [.str "nokindhere", .str "*", .str "", .str r0.1, .str r1.1, .str (r0.1 ++ "q")]) := upd_same
  have eST : ([.str "nokindhere", .str "*", .str "", .str r0.1, .str r1.1, .str (r0.1 ++ "q")] : List V) ++ os.map kV = (([.inr "nokindhere", .inr "*", .inr "", .inr r0.1, .inr r1.1, .inr (r0.1 ++ "q")] : List Key) ++ os).map kV := by
    rw [List.map_append]
    rfl
  have hST : ∀ k ∈ ([.inr "nokindhere", .inr "*", .inr "", .inr r0.1, .inr r1.1, .inr (r0.1 ++ "q")] : List Key) ++ os, PP k := by
    intro k hk
    rcases List.mem_append.mp hk with hk | hk
    · simp only [List.mem_cons, List.not_mem_nil, or_false] at hk
      rcases hk with rfl | rfl | rfl | rfl | rfl | rfl
      · exact hps _ (by decide +kernel)
      · exact hps _ (by decide +kernel)
      · exact hps _ (by decide +kernel)
      · exact hps _ w0.sok
      · exact hps _ w1.sok
      · exact hps _ (sok_add w0.sok (by decide +kernel))
    · exact hpo k hk
  have hSTl : (([.inr "nokindhere", .inr "*", .inr "", .inr r0.1, .inr r1.1, .inr (r0.1 ++ "q")] : List Key) ++ os).length = 6 + os.length := by
    rw [List.length_append]
    rfl
  generalize upd H S1 (.lst [.str "nokindhere", .str "*", .str "", .str r0.1, .str r1.1, .str (r0.1 ++ "q")]) = H1 at *
  refine ⟨_, rfl, S1, o, _, _, rfl, rfl, eS1, h1.sub _ _ ho0, by rw [List.length_map, sizeLine_eq]; show 6 + _ ≤ _; omega, fun S hS => ?_⟩
  rw [eST]
  generalize hst : ([.inr "nokindhere", .inr "*", .inr "", .inr r0.1, .inr r1.1, .inr (r0.1 ++ "q")] : List Key) ++ os = st at *
  have g2 := (h1.new (o := .lst (st.map kV)) hS).give
  have s2 := g2.1
  have h2 := g2.2
  have eS2 : upd B0 S (.lst (st.map kV)) S = some (.lst (st.map kV)) := upd_same
  generalize upd B0 S (.lst (st.map kV)) = B2 at *
  refine ⟨_, rfl, _, rfl, _, rfl, S, _, rfl, .inl (SqL.of (h2.sub _ _ eS2)), c, g, st.length, by rw [List.length_map], h2.bag (bc0.mono s2), by omega, by omega, fun j H3 hj d3 => ?_⟩
  obtain ⟨x3, B3, s3, h3⟩ := h2.dr0 d3
  obtain ⟨k0, ek0⟩ : ∃ k, st[j]? = some k := ⟨_, List.getElem?_eq_getElem hj⟩
  have pk0 := hST k0 (List.mem_of_getElem? ek0)
  refine ⟨S, _, _, kV k0, rfl, rfl, SqL.of (h3.sub _ _ (s3 _ _ eS2)), atI_nat (by rw [List.getElem?_map, ek0]; rfl), ?_⟩
  have hp3 := hp0.same (s2.trans s3)
  refine ⟨_, rfl, _, rfl, p, _, rfl, .inr (Same.sqt h3.sub hp3.sq), _, _, rfl, rfl, c, g, ks.length + 1, by rw [List.length_map]; rfl, h3.bag (bc0.mono (s2.trans s3)), by omega, by omega, fun at_ H4 hat4 d4 => ?_⟩
  obtain ⟨x4, B4, s4, h4⟩ := h3.dr0 d4
  refine ⟨_, rfl, c, g, 3, rfl, h4.bag (bc0.mono ((s2.trans s3).trans s4)), by decide, by decide, fun tn H5 htn d5 => ?_⟩
  obtain ⟨x5, B5, s5, h5⟩ := h4.dr0 d5
  have sB5 := ((s2.trans s3).trans s4).trans s5
  have hp5 := (hp0.same sB5).same h5.sub
  -- a slice, and what is put behind it
  obtain ⟨l1, el1, ll1, lm1⟩ := cutV_keys ks none (some (at_ : Int))
  have fin : ∀ (p' : Addr) (ks' : List Key) (B' H' : Hp), ks'.length ≤ 2 * ks.length + 1 → (∀ k ∈ ks', PP k) → Same B5 B' → Hs B' [(g, bagO c x5)] H' → SqC K H' p' (ks'.map kV) C → Q (.ref p') H' := fun p' ks' B' H' h1 h2 h3 h4 h5 => hq p' ks' H' h1 h2 (h4.isDr (by rw [hB0]; exact sB5.trans h3)) h5
  have hPP : ∀ l2 : List Key, (∀ k ∈ l2, k ∈ ks) → ∀ k ∈ l1 ++ [k0] ++ l2, PP k := by
    intro l2 h2 k hk
    rcases List.mem_append.mp hk with hk | hk
    · rcases List.mem_append.mp hk with hk | hk
      · exact hpk k (lm1 k hk)
      · rw [List.mem_singleton.mp hk]
        exact pk0
    · exact hpk k (h2 k hk)
  have hlen : ∀ l2 : List Key, l2.length ≤ ks.length → (l1 ++ [k0] ++ l2).length ≤ 2 * ks.length + 1 := by
    intro l2 h2
    rw [List.length_append, List.length_append]
    show _ + 1 + _ ≤ _
    omega
  refine ⟨_, rfl, rfl, _, rfl, if_dec (fun c1 => ?_) (fun c1 => ?_)⟩
  · obtain ⟨l2, el2, ll2, lm2⟩ := cutV_keys ks (some ((at_ : Int) + 1)) none
    refine ⟨_, rfl, _, rfl, _, rfl, slC el1 hp5 (fun p6 H6 s6 t6 => ?_)⟩
    refine ⟨_, rfl, _, rfl, _, _, rfl, rfl, _, rfl, ?_⟩
    simp only [tNoPart]
    refine slC (hi := none) el2 (hp5.same s6) (fun p7 H7 s7 t7 => ?_)
    refine catC (t6.same s7) t7 (by rw [List.length_map, List.length_map]; omega) (fun p8 H8 s8 t8 => ?_)
    have a8 := h5.after ((s6.trans s7).trans s8)
    refine fin p8 (l1 ++ l2) _ H8 (by rw [List.length_append]; omega) (fun k hk => ?_) a8.1 a8.2 (by rw [List.map_append]; exact t8)
    rcases List.mem_append.mp hk with hk | hk
    · exact hpk k (lm1 k hk)
    · exact hpk k (lm2 k hk)
  · refine ⟨_, rfl, rfl, _, rfl, if_dec (fun c2 => ?_) (fun c2 => ?_)⟩
    · obtain ⟨l2, el2, ll2, lm2⟩ := cutV_keys ks (some (at_ : Int)) none
      refine ⟨_, rfl, _, rfl, _, rfl, slC el1 hp5 (fun p6 H6 s6 t6 => ⟨_, rfl, (by show 1 ≤ sizeLine; decide), fun p7 H7 n7 => ?_⟩)⟩
      refine catC (t6.same n7.same) n7.sqc (by rw [List.length_map]; show _ + 1 ≤ _; omega) (fun p8 H8 s8 t8 => ?_)
      have s58 := (s6.trans n7.same).trans s8
      refine ⟨_, rfl, _, rfl, _, rfl, ?_⟩
      simp only [tNoPart]
      refine slC (hi := none) el2 (hp5.same s58) (fun p9 H9 s9 t9 => ?_)
      refine catC (t8.same s9) t9 (by rw [List.length_append, List.length_map, List.length_map]; show _ + 1 + _ ≤ _; omega) (fun p10 H10 s10 t10 => ?_)
      have a10 := h5.after ((s58.trans s9).trans s10)
      exact fin p10 (l1 ++ [k0] ++ l2) _ H10 (hlen l2 ll2) (hPP l2 lm2) a10.1 a10.2 (by rw [List.map_append, List.map_append]; exact t10)
    · obtain ⟨l2, el2, ll2, lm2⟩ := cutV_keys ks (some ((at_ : Int) + 1)) none
      refine ⟨_, rfl, _, rfl, _, rfl, slC el1 hp5 (fun p6 H6 s6 t6 => ⟨_, rfl, (by show 1 ≤ sizeLine; decide), fun p7 H7 n7 => ?_⟩)⟩
      refine catC (t6.same n7.same) n7.sqc (by rw [List.length_map]; show _ + 1 ≤ _; omega) (fun p8 H8 s8 t8 => ?_)
      have s58 := (s6.trans n7.same).trans s8
      refine ⟨_, rfl, _, rfl, _, _, rfl, rfl, _, rfl, ?_⟩
      simp only [tNoPart]
      refine slC (hi := none) el2 (hp5.same s58) (fun p9 H9 s9 t9 => ?_)
      refine catC (t8.same s9) t9 (by rw [List.length_append, List.length_map, List.length_map]; show _ + 1 + _ ≤ _; omega) (fun p10 H10 s10 t10 => ?_)
      have a10 := h5.after ((s58.trans s9).trans s10)
      exact fin p10 (l1 ++ [k0] ++ l2) _ H10 (hlen l2 ll2) (hPP l2 lm2) a10.1 a10.2 (by rw [List.map_append, List.map_append]; exact t10)
end
end Sy
/-! _law_tagged, _law_chain -/
namespace Sy
open PySem PySem.Spec PyProof.Rows L2
section
variable {P : Program} {w : World} {K : PySem.W.Frag} {mg : Str → Option Value} {base : Heap}
def spTag (K : PySem.W.Frag) : Sp := fun vs H Q _ => ∃ (p : Addr) (l : List Str), vs = [.ref p] ∧ SqT K H p (l.map V.str) ∧ l.length ≤ 10000 ∧ (∀ x ∈ l, PyData.strOk x = true) ∧ ∀ (p' : Addr) (ks : List Key) (H' : Hp), ks.length = l.length → (∀ x, Sum.inr x ∈ ks → PyData.strOk x = true) → Same H H' → SqT K H' p' (ks.map kV) → Q (.ref p') H'
abbrev N_tag : List Str := ["_law_row", "_law_built", "_law_tag", "_law_entry"]
theorem sc_tag : FnScope N_tag ["_law_row"] (defScope (top 50)) := ⟨rfl, rfl, rfl, by decide +kernel, rfl, by decide +kernel, by decide +kernel⟩
theorem k_tag (T : Txt K mg) (F : DF K mg "_law_tagged" 50) : Cal P w K mg base 1 "_law_tagged" ["_law_row"] (spTag K) := by
  refine cal_of F.1 F.2 sc_tag (fun _ _ _ _ _ _ us e => match us, e with | [_], _ => rfl) (fun vs H Q E s => by obtain ⟨_, _, rfl, _⟩ := s; rfl) ?_
  intro cdv A outer s H vs Q E hr h
  obtain ⟨p, l, rfl, hp, hl, hok, hq⟩ := h
  have sc := sc_tag
  refine ⟨_, (pss_cons (ps_set (i := 1) sc.nd rfl (Or.inl rfl) (pe_tup pa_nil))
      (pss_cons (ps_set (i := 2) sc.nd rfl (Or.inl rfl) pe_int)
      (pss_cons (ps_for (passes_of rfl) rfl (pi_tup (pv 0)) (pg_name (i := 3) sc.nd rfl (Or.inl rfl))
        (pss_one (ps_if (pt_cmpR op_eq (pv 3) pe_str (nomark _))
          (pss_cons (ps_set (i := 1) sc.nd rfl (Or.inl rfl) (pe_op op_catA (pv 1) (pe_tup (pa_cons (pv 2) pa_nil))))
          (pss_one (ps_set (i := 2) sc.nd rfl (Or.inl rfl) (pe_op op_add (pv 2) pe_int))))
          (pss_one (ps_set (i := 1) sc.nd rfl (Or.inl rfl) (pe_op op_catA (pv 1) (pe_tup (pa_cons (pv 3) pa_nil))))))))
      (pss_one (ps_ret (pv 1)))))), ?_⟩
  refine ⟨(by show 0 ≤ sizeLine; decide), fun r0 hr0 => ?_⟩
  have s0 := up_same (o := .tup []) hr0
  have e0 : SqT K (upd H r0 (.tup [])) r0 [] := SqT.of upd_same
  generalize upd H r0 (.tup []) = H0 at *
  refine ⟨_, rfl, p, rfl, ⟨_, Same.sqt s0 hp⟩, for_tup (K := K) (a := p) (xs := l.map V.str) (fun i σ H' => ∃ (t3 : Option V) (r : Addr) (n : Nat) (ks : List Key), σ = [some (.ref p), some (.ref r), some (.int (n : Nat)), t3] ∧ Same H0 H' ∧ SqT K H' r (ks.map kV) ∧ ks.length = i ∧ ∀ x, Sum.inr x ∈ ks → PyData.strOk x = true) ⟨none, r0, 0, [], rfl, Same.refl _, e0, rfl, fun _ z => (nomatch z)⟩ (fun _ _ _ _ ⟨_, _, _, _, _, s', _⟩ => Same.sqt (s0.trans s') hp) ?_ ?_⟩
  · rintro i v σ H1 hv ⟨t3, r, n, ks, rfl, s1, zr, hk, hw⟩
    obtain ⟨x, ex, rfl⟩ := map_at hv
    have hi := (List.getElem?_eq_some_iff.mp ex).1
    refine ⟨_, rfl, rfl, _, rfl, if_dec (fun c => ?_) (fun c => ?_)⟩
    · refine ⟨_, rfl, _, rfl, (by show 1 ≤ sizeLine; decide), fun p4 hp4 => ?_⟩
      have s4 := up_same (o := .tup [.int (n : Nat)]) hp4
      refine cat_any (Same.sqt s4 zr) (SqT.of upd_same) (by rw [List.length_map]; show _ + 1 ≤ _; omega) (fun p5 H5 s5 t5 => ?_)
      refine ⟨_, rfl, _, _, rfl, rfl, _, p5, n + 1, ks ++ [.inl (n : Int)], rfl, (s1.trans s4).trans s5, by rw [List.map_append]; exact t5, by rw [List.length_append, hk]; rfl, fun y hy => ?_⟩
      rcases List.mem_append.mp hy with hy | hy
      · exact hw y hy
      · exact absurd (List.mem_singleton.mp hy) (fun z => by cases z)
    · refine ⟨_, rfl, _, rfl, (by show 1 ≤ sizeLine; decide), fun p4 hp4 => ?_⟩
      have s4 := up_same (o := .tup [.str x]) hp4
      refine cat_any (Same.sqt s4 zr) (SqT.of upd_same) (by rw [List.length_map]; show _ + 1 ≤ _; omega) (fun p5 H5 s5 t5 => ?_)
      refine ⟨_, p5, n, ks ++ [.inr x], rfl, (s1.trans s4).trans s5, by rw [List.map_append]; exact t5, by rw [List.length_append, hk]; rfl, fun y hy => ?_⟩
      rcases List.mem_append.mp hy with hy | hy
      · exact hw y hy
      · rw [Sum.inr.inj (List.mem_singleton.mp hy)]
        exact hok x (List.mem_of_getElem? ex)
  · rintro σ H1 ⟨t3, r, n, ks, rfl, s1, zr, hk, hw⟩
    exact ⟨_, rfl, hq r ks H1 (by rw [hk, List.length_map]) hw (s0.trans s1) zr⟩
/-! _law_chain -/
def spChn (K : PySem.W.Frag) : Sp := fun vs H Q _ => ∃ (a : Addr) (x : Str) (n many at_ : Nat), vs = [.ref a, .int (many : Nat), .int (at_ : Nat)] ∧ SqT K H a [.str x, .int (n : Nat)] ∧ at_ < n ∧ n ≤ 3 ∧ many ≤ 300 ∧ PyData.strOk x = true ∧ ∀ (p : Addr) (l : List Str) (H' : Hp), l.length ≤ 1000 → (∀ x ∈ l, PyData.strOk x = true) → Same H H' → SqZ K H' p (l.map V.str) → Q (.ref p) H'
abbrev N_chn : List Str := ["_law_pair_here", "_law_many", "_law_at", "_law_row", "_law_k"]
theorem sc_chn : FnScope N_chn ["_law_pair_here", "_law_many", "_law_at"] (defScope (top 52)) := ⟨rfl, rfl, rfl, by decide +kernel, rfl, by decide +kernel, by decide +kernel⟩
theorem k_chn (T : Txt K mg) (F : DF K mg "_law_chain" 52) : Cal P w K mg base 1 "_law_chain" ["_law_pair_here", "_law_many", "_law_at"] (spChn K) := by
  refine cal_of F.1 F.2 sc_chn (fun _ _ _ _ _ _ us e => match us, e with | [_, _, _], _ => rfl) (fun vs H Q E s => by obtain ⟨_, _, _, _, _, rfl, _⟩ := s; rfl) ?_
  intro cdv A outer s H vs Q E hr h
  obtain ⟨a, x, n, many, at_, rfl, ha, hat, hn, hm, hx, hq⟩ := h
  have sc := sc_chn
  refine ⟨_, (pss_cons (ps_set (i := 3) sc.nd rfl (Or.inl rfl) (pe_tupZ (pa_cons pe_str pa_nil)))
      (pss_cons (ps_for (passes_of rfl) rfl (pi_range1 rfl T.range (pa_cons (pv 1) pa_nil)) (pg_name (i := 4) sc.nd rfl (Or.inl rfl))
        (pss_one (ps_set (i := 3) sc.nd rfl (Or.inl rfl) (pe_op op_catZ (pe_op op_catZ (pe_op op_catZ (pe_tupZ (pa_cons (pe_ix ix_tup (pv 0) pe_int (fun _ _ => rfl)) pa_nil)) (pe_op op_repG (pe_tup (pa_cons pe_str pa_nil)) (pv 2))) (pv 3)) (pe_op op_repG (pe_tup (pa_cons pe_str pa_nil)) (pe_op op_sub (pe_op op_sub (pe_ix ix_tup (pv 0) pe_int (fun _ _ => rfl)) pe_int) (pv 2)))))))
      (pss_one (ps_ret (pv 3))))), ?_⟩
  refine ⟨(by show 1 ≤ sizeLine; decide), fun p0 H0 n0 => ?_⟩
  refine ⟨_, rfl, _, rfl, by omega, by omega, for_rng (n := many) (fun i σ H' => ∃ (t4 : Option V) (p : Addr) (l : List Str), σ = [some (.ref a), some (.int (many : Nat)), some (.int (at_ : Nat)), some (.ref p), t4] ∧ Same H H' ∧ SqZ K H' p (l.map V.str) ∧ l.length ≤ 1 + i * 3 ∧ ∀ x ∈ l, PyData.strOk x = true) ⟨none, p0, ["*"], rfl, n0.same, n0.sqz, by decide, fun y hy => by rw [List.mem_singleton.mp hy]; decide +kernel⟩ ?_ ?_⟩
  · rintro i σ H1 hi ⟨t4, p, l, rfl, s1, zp, hl, hw⟩
    have ta1 := Same.sqt s1 ha
    refine ⟨_, rfl, a, _, _, _, rfl, rfl, ta1, atI_nat (j := 0) rfl, (by show 1 ≤ sizeLine; decide), fun p2 H2 n2 => ?_⟩
    refine ⟨(by show 1 ≤ sizeLine; decide), fun p3 hp3 => ?_⟩
    have s3 := up_same (o := .tup [.str "*"]) hp3
    have e3 : SqT K (upd H2 p3 (.tup [.str "*"])) p3 [.str "*"] := SqT.of upd_same
    generalize upd H2 p3 (.tup [.str "*"]) = H3 at *
    refine ⟨_, rfl, rep_any (by omega) e3 (fun p4 H4 s4 t4 => ?_)⟩
    refine catZ_l (n2.sqz.same (s3.trans s4)) (fun z => nomatch z) t4 (by rw [List.length_replicate]; show 1 + _ ≤ _; omega) (fun p5 H5 s5 z5 => ?_)
    have s25 := (s3.trans s4).trans s5
    refine ⟨_, rfl, catZ_l z5 (fun z => nomatch z) (Same.sqt (n2.same.trans s25) zp.sq) (by rw [List.length_append, List.length_replicate, List.length_map]; show 1 + _ + _ ≤ _; omega) (fun p6 H6 s6 z6 => ?_)⟩
    refine ⟨(by show 1 ≤ sizeLine; decide), fun p7 hp7 => ?_⟩
    have s7 := up_same (o := .tup [.str "*"]) hp7
    have e7 : SqT K (upd H6 p7 (.tup [.str "*"])) p7 [.str "*"] := SqT.of upd_same
    generalize upd H6 p7 (.tup [.str "*"]) = H7 at *
    have s27 := (s25.trans s6).trans s7
    have en : ((n : Int) - 1 - (at_ : Nat)) = ((n - 1 - at_ : Nat) : Int) := by omega
    refine ⟨_, rfl, a, _, _, _, rfl, rfl, Same.sqt (n2.same.trans s27) ta1, atI_nat (j := 1) rfl, _, _, rfl, rfl, _, rfl, _, _, rfl, rfl, ?_⟩
    refine rep_anyI en (by omega) e7 (fun p8 H8 s8 t8 => ?_)
    refine catZ_l (z6.same (s7.trans s8)) (fun z => nomatch z) t8 (by rw [List.length_append, List.length_append, List.length_replicate, List.length_replicate, List.length_map]; show 1 + _ + _ + _ ≤ _; omega) (fun p9 H9 s9 z9 => ?_)
    have el : [V.str x] ++ List.replicate at_ (V.str "*") ++ l.map V.str ++ List.replicate (n - 1 - at_) (V.str "*") = ([x] ++ List.replicate at_ ("*" : Str) ++ l ++ List.replicate (n - 1 - at_) ("*" : Str)).map V.str := by simp
    have el : _ ++ _ ++ _ ++ _ = ([x] ++ List.replicate at_ ("*" : Str) ++ l ++ List.replicate (n - 1 - at_) ("*" : Str)).map V.str := el
    rw [el] at z9
    refine ⟨_, p9, _, rfl, (((s1.trans n2.same).trans s27).trans s8).trans s9, z9, ?_, fun y hy => ?_⟩
    · simp only [List.length_append, List.length_cons, List.length_nil, List.length_replicate]
      omega
    · simp only [List.mem_append, List.mem_cons, List.not_mem_nil, or_false, List.mem_replicate] at hy
      rcases hy with ((rfl | ⟨_, rfl⟩) | hy) | ⟨_, rfl⟩
      · exact hx
      · decide +kernel
      · exact hw y hy
      · decide +kernel
  · rintro σ H1 ⟨t4, p, l, rfl, s1, zp, hl, hw⟩
    exact ⟨_, rfl, hq p l H1 (by omega) hw s1 zp⟩
end
end Sy
/-! _law_pair -/
namespace Sy
open PySem PySem.Spec PyProof.Rows L2
def okS (k : Key) : Prop := ∃ x, k = .inr x ∧ PyData.strOk x = true
def okR (k : Key) : Prop := ∀ x, k = .inr x → PyData.strOk x = true
theorem okS_list : ∀ {ks : List Key}, (∀ k ∈ ks, okS k) → ∃ l : List Str, ks = kS l ∧ ∀ x ∈ l, PyData.strOk x = true
  | [], _ => ⟨[], rfl, fun _ z => nomatch z⟩
  | k :: ks, h => by
    obtain ⟨l, e, hl⟩ := okS_list fun y hy => h y (List.mem_cons_of_mem _ hy)
    obtain ⟨x, ex, hx⟩ := h k List.mem_cons_self
    refine ⟨x :: l, by rw [e, ex]; rfl, fun y hy => ?_⟩
    rcases List.mem_cons.mp hy with rfl | hy
    · exact hx
    · exact hl y hy
theorem okS_of {l : List Str} (h : ∀ x ∈ l, PyData.strOk x = true) : ∀ k ∈ kS l, okS k := fun k hk => by
  obtain ⟨x, hx, rfl⟩ := List.mem_map.mp hk
  exact ⟨x, rfl, h x hx⟩
/-- rows that the law gives to Trim -/
structure PrOk (t : Trm) (n : Nat) : Prop where
  l1 : t.1.length ≤ n
  l2 : t.2.length ≤ n
  k1 : ∀ x ∈ t.1, PyData.strOk x = true
  k2 : ∀ x, Sum.inr x ∈ t.2 → PyData.strOk x = true
theorem le_two {i n n' : Nat} (hi : i < 2) (h0 : i = 0 → n ≤ 1000) (h1 : i = 1 → n ≤ 2001) (h : n' ≤ 2 * n + 1) : n' ≤ 4003 := by
  rcases (show i = 0 ∨ i = 1 by omega) with z | z
  · have := h0 z
    omega
  · have := h1 z
    omega
section
variable {P : Program} {w : World} {K : PySem.W.Frag} {mg : Str → Option Value} {base : Heap}
def spPr (K : PySem.W.Frag) : Sp := fun vs H Q _ => ∃ (c g q : Addr) (rows : List Sy.Row), vs = [.ref g, .ref q] ∧ Bag c g H ∧ q ≠ g ∧ RL K H q rows ∧ KdsOk rows ∧ ∀ (p : Addr) (t : Trm) (H' : Hp), PrOk t 10000 → Dr c g H H' → PrAt K H' p t → Q (.ref p) H'
abbrev N_pr : List Str := ["_law_bag_here", "_law_kinds_here", "_law_most", "_law_pair_here", "_law_roots", "_law_stump_here", "_law_result_here", "_law_many", "_law_at", "_law_k"]
theorem sc_pr : FnScope N_pr ["_law_bag_here", "_law_kinds_here"] (defScope (top 54)) := ⟨rfl, rfl, rfl, by decide +kernel, rfl, by decide +kernel, by decide +kernel⟩
theorem k_pr (T : Txt K mg) (F : DF K mg "_law_pair" 54) (c_law_pick : Cal P w K mg base 1 "_law_pick" ["_law_bag_here", "_law_limit"] spPick) (c_law_stump : Cal P w K mg base 2 "_law_stump" ["_law_bag_here", "_law_kinds_here", "_law_most"] (spStL K))
    (c_law_result : Cal P w K mg base 2 "_law_result" ["_law_bag_here", "_law_kinds_here", "_law_stump_here"] (spRsL K)) (c_law_bent : Cal P w K mg base 2 "_law_bent" ["_law_bag_here", "_law_kinds_here", "_law_row", "_law_others"] (spBent K)) (c_law_tagged : Cal P w K mg base 1 "_law_tagged" ["_law_row"] (spTag K)) (c_law_chain : Cal P w K mg base 1 "_law_chain" ["_law_pair_here", "_law_many", "_law_at"] (spChn K)) : Cal P w K mg base 3 "_law_pair" ["_law_bag_here", "_law_kinds_here"] (spPr K) := by
  refine cal_of F.1 F.2 sc_pr (fun _ _ _ _ _ _ us e => match us, e with | [_, _], _ => rfl) (fun vs H Q E s => by obtain ⟨_, _, _, _, rfl, _⟩ := s; rfl) ?_
  intro cdv A outer s H vs Q E hr h
  obtain ⟨c, g, q, rows, rfl, hg, hne, hRL, ok, hq⟩ := h
  have sc := sc_pr
  refine ⟨_, (pss_cons (ps_set (i := 2) sc.nd rfl (Or.inr rfl) (pe_ix ix_tup (pe_tup (pa_cons pe_int (pa_cons pe_int pa_nil))) (pe_cal c_law_pick hr (pa_cons (pv 0) (pa_cons pe_int pa_nil))) (fun _ _ => rfl)))
      (pss_cons (ps_setLc (i := 4) (own := [("_law_pair_here", 3)]) (g := gName 3) rfl sc.nd rfl rfl (sw_true rfl rfl rfl (by decide +kernel)) (pi_list (pv 1)) (blkOk_by (N := N_pr) (sc := defScope (top 54)) (by decide +kernel)) (fun _ _ _ _ _ => (pg_name (i := 3) sc.nd rfl (Or.inl rfl))) (fun _ _ _ _ _ => (pts_one (pt_chain op_lt op_lt pe_int (pe_ixTK K rfl (pv 3) pe_int (fun _ _ => rfl)) (pv 2)))) (fun _ _ _ _ _ => (pv 3)))
      (pss_cons (ps_set (i := 5) sc.nd rfl (Or.inl rfl) (pe_tupZ (pa_cons (pe_ix ix_tup (pe_ix ix_list (pv 1) pe_int (fun _ _ => rfl)) pe_int (fun _ _ => rfl)) pa_nil)))
      (pss_cons (ps_set (i := 6) sc.nd rfl (Or.inl rfl) (pe_tup (pa_cons (pe_ix ix_tup (pe_ix ix_list (pv 1) (pe_op op_sub (pe_callB call_len_seq (by rfl) T.len (by decide +kernel) (pa_cons (pv 1) pa_nil)) pe_int) (fun _ _ => rfl)) pe_int (fun _ _ => rfl)) pa_nil)))
      (pss_cons (ps_cut (ps_if (PW.pt (pw_and (pt_cmpR (op_neD hr.units) (pv 4) (pe_lst pa_nil) (nomark _)) (pw_and1 (pt_cmpR op_eq (pe_cal c_law_pick hr (pa_cons (pv 0) (pa_cons pe_int pa_nil))) pe_int (nomark _)))))
        (pss_cons (ps_set (i := 3) sc.nd rfl (Or.inl rfl) (pe_ix ix_list (pv 4) (pe_cal c_law_pick hr (pa_cons (pv 0) (pa_cons (pe_callB call_len_seq (by rfl) T.len (by decide +kernel) (pa_cons (pv 4) pa_nil)) pa_nil))) (fun _ _ => rfl)))
        (pss_cons (ps_set (i := 7) sc.nd rfl (Or.inl rfl) (pe_op op_add (pe_op op_fdiv pe_int (pe_ix ix_tup (pv 3) pe_int (fun _ _ => rfl))) (pe_cal c_law_pick hr (pa_cons (pv 0) (pa_cons pe_int pa_nil)))))
        (pss_cons (ps_set (i := 8) sc.nd rfl (Or.inl rfl) (pe_cal c_law_pick hr (pa_cons (pv 0) (pa_cons (pe_ix ix_tup (pv 3) pe_int (fun _ _ => rfl)) pa_nil))))
        (pss_cons (ps_set (i := 5) sc.nd rfl (Or.inl rfl) (pe_cal c_law_chain hr (pa_cons (pv 3) (pa_cons (pv 7) (pa_cons (pv 8) pa_nil)))))
        (pss_one (ps_set (i := 6) sc.nd rfl (Or.inl rfl) (pe_cal c_law_tagged hr (pa_cons (pe_cal c_law_chain hr (pa_cons (pv 3) (pa_cons (pe_op op_add (pe_op op_sub (pv 7) pe_int) (pe_cal c_law_pick hr (pa_cons (pv 0) (pa_cons pe_int pa_nil)))) (pa_cons (pv 8) pa_nil)))) pa_nil))))))))
        (pss_one (ps_if (pt_cmpR (op_neD hr.units) (pv 4) (pe_lst pa_nil) (nomark _))
          (pss_cons (ps_set (i := 5) sc.nd rfl (Or.inl rfl) (pe_cal c_law_stump hr (pa_cons (pv 0) (pa_cons (pv 1) (pa_cons (pv 2) pa_nil)))))
          (pss_one (ps_set (i := 6) sc.nd rfl (Or.inl rfl) (pe_cal c_law_result hr (pa_cons (pv 0) (pa_cons (pv 1) (pa_cons (pv 5) pa_nil)))))))
          pss_nil))))
      (pss_cons (ps_for (passes_of rfl) rfl (pi_range1 rfl T.range (pa_cons (pe_ix ix_tup (pe_tup (pa_cons pe_int (pa_cons pe_int (pa_cons pe_int (pa_cons pe_int pa_nil))))) (pe_cal c_law_pick hr (pa_cons (pv 0) (pa_cons pe_int pa_nil))) (fun _ _ => rfl)) pa_nil)) (pg_name (i := 9) sc.nd rfl (Or.inl rfl))
        (pss_one (ps_set (i := 5) sc.nd rfl (Or.inl rfl) (pe_cal c_law_bent hr (pa_cons (pv 0) (pa_cons (pv 1) (pa_cons (pv 5) (pa_cons (pe_lst pa_nil) pa_nil))))))))
      (pss_cons (ps_for (passes_of rfl) rfl (pi_range1 rfl T.range (pa_cons (pe_ix ix_tup (pe_tup (pa_cons pe_int (pa_cons pe_int (pa_cons pe_int (pa_cons pe_int pa_nil))))) (pe_cal c_law_pick hr (pa_cons (pv 0) (pa_cons pe_int pa_nil))) (fun _ _ => rfl)) pa_nil)) (pg_name (i := 9) sc.nd rfl (Or.inl rfl))
        (pss_one (ps_set (i := 6) sc.nd rfl (Or.inl rfl) (pe_cal c_law_bent hr (pa_cons (pv 0) (pa_cons (pv 1) (pa_cons (pv 6) (pa_cons (pe_lst (pa_cons (pe_un un_neg pe_int) (pa_cons pe_int (pa_cons pe_int (pa_cons pe_int (pa_cons pe_int pa_nil)))))) pa_nil))))))))
      (pss_one (ps_ret (pe_tup (pa_cons (pv 5) (pa_cons (pv 6) pa_nil)))))))))))), ?_⟩
  obtain ⟨x0, h0, bc0, pr, rfl, hL, hat⟩ := hg.takeR hne hRL
  have hge := ok.ge
  have hle := ok.le
  rw [List.length_map] at hge hle
  have nd := ok.ok.nd
  generalize hB0 : L2.del H g = B0 at *
  obtain ⟨⟨a0, r0⟩, e0⟩ : ∃ z, pr[0]? = some z := ⟨_, List.getElem?_eq_getElem (by omega)⟩
  obtain ⟨⟨a1, r1⟩, e1⟩ : ∃ z, pr[pr.length - 1]? = some z := ⟨_, List.getElem?_eq_getElem (by omega)⟩
  have m0 := List.mem_of_getElem? e0
  have m1 := List.mem_of_getElem? e1
  have w0 : Wd r0.1 := ok.wd _ (List.mem_map_of_mem m0)
  have w1 : Wd r1.1 := ok.wd _ (List.mem_map_of_mem m1)
  have em1 : (((pr.map fun z => V.ref z.1).length : Nat) : Int) - 1 = ((pr.length - 1 : Nat) : Int) := by rw [List.length_map]; omega
  have at0 : atI (pr.map fun z => V.ref z.1) ((0 : Nat) : Int) = some (.ref a0) := atI_nat (by rw [List.getElem?_map, e0]; rfl)
  have at1 : atI (pr.map fun z => V.ref z.1) ((((pr.map fun z => V.ref z.1).length : Nat) : Int) - 1) = some (.ref a1) := by
    rw [em1]
    exact atI_nat (by rw [List.getElem?_map, e1]; rfl)
  refine ⟨(by show 2 ≤ sizeLine; decide), fun p1 hp1 => ?_⟩
  have h1 := h0.tup (o := .tup (vN [4, 6])) hp1
  have s1 := up_same (o := .tup (vN [4, 6])) (h0.sub.free hp1)
  have ep1 : upd B0 p1 (.tup (vN [4, 6])) p1 = some (.tup (vN [4, 6])) := upd_same
  generalize upd B0 p1 (.tup (vN [4, 6])) = B1 at *
  refine ⟨_, rfl, c, g, 2, rfl, h1.bag (bc0.mono s1), by decide, by decide, fun j H2 hj d2 => ?_⟩
  obtain ⟨x2, B2, s2, h2⟩ := h1.dr0 d2
  obtain ⟨most, hmost, emost⟩ := menu_at (L := [4, 6]) hj
  have hmost : most = 4 ∨ most = 6 := by simpa using hmost
  refine ⟨p1, _, _, _, rfl, rfl, SqT.of (h2.sub _ _ (s2 _ _ ep1)), atI_nat emost, ?_⟩
  have s02 := s1.trans s2
  refine ⟨_, rfl, q, rfl, ⟨_, SqL.of (h2.sub _ _ (s02 _ _ hL))⟩, fun D hD => lc_filt (K := K) (xs := pr) (f := fun z => V.ref z.1) (out := fun z => V.ref z.1) (keep := fun z => decide (0 < z.2.2 ∧ z.2.2 < most)) h2 hD (fun _ _ z => z.sub _ _ (s02 _ _ hL)) (by omega) (fun z hz H' s' R1 R2 k1 k2 => ?_) (fun H3 h3 => ?_)⟩
  · have tz := Same.sqt (s02.trans s') (hat.at_ z hz)
    refine ⟨_, rfl, z.1, _, _, _, rfl, rfl, tz, atI_nat (j := 1) rfl, _, _, rfl, rfl, _, rfl, if_dec (fun c1 => ?_) (fun c1 => ?_)⟩
    · refine ⟨_, rfl, _, _, rfl, rfl, _, rfl, if_dec (fun c2 => ?_) (fun c2 => ?_)⟩
      · exact ⟨_, rfl, k1 (decide_eq_true ⟨by omega, by omega⟩)⟩
      · exact k2 (decide_eq_false (by omega))
    · exact ⟨_, rfl, k2 (decide_eq_false (by omega))⟩
  have hgv := h3.give
  have h4 := hgv.2
  have s4 := hgv.1
  have hroot : ∀ z ∈ pr.filter (fun z => decide (0 < z.2.2 ∧ z.2.2 < most)), z ∈ pr ∧ 0 < z.2.2 ∧ z.2.2 < most := fun z hz => by
    obtain ⟨a, b⟩ := List.mem_filter.mp hz
    exact ⟨a, of_decide_eq_true b⟩
  have hfl := List.length_filter_le (fun z : Addr × Sy.Row => decide (0 < z.2.2 ∧ z.2.2 < most)) pr
  have eD : upd B2 D (.lst ((pr.filter fun z => decide (0 < z.2.2 ∧ z.2.2 < most)).map fun z => V.ref z.1)) D = some (.lst ((pr.filter fun z => decide (0 < z.2.2 ∧ z.2.2 < most)).map fun z => V.ref z.1)) := upd_same
  generalize upd B2 D (.lst ((pr.filter fun z => decide (0 < z.2.2 ∧ z.2.2 < most)).map fun z => V.ref z.1)) = B4 at *
  generalize hroots : pr.filter (fun z => decide (0 < z.2.2 ∧ z.2.2 < most)) = roots at *
  have s04 := s02.trans s4
  have hatR : RwP K B4 roots := ⟨fun z hz => (hat.mono s04).at_ z (hroot z hz).1⟩
  have hatRi : ImA K B4 (roots.map fun z => V.ref z.1) ((roots.map (·.2)).map RowD) := by
    have := Im.rowsD hatR.paired
    rw [List.map_map] at this
    exact this
  have layR : SeqAt.shaped (.list ((roots.map (·.2)).map RowD)) = true := by
    have := lay_rows (rows := roots.map (·.2)) fun r hr' => by
      obtain ⟨z, hz, rfl⟩ := List.mem_map.mp hr'
      exact ok.sok _ (List.mem_map_of_mem (hroot z hz).1)
    exact lay_L ⟨this.1, by omega⟩
  -- the first rows
  have T0 : SqT K H3 a0 [.str r0.1, .int (r0.2 : Nat)] := Same.sqt (s04.trans h4.sub) (hat.at_ _ m0)
  refine ⟨_, rfl, q, _, _, .ref a0, rfl, rfl, SqL.of (h4.sub _ _ (s04 _ _ hL)), at0, a0, _, _, _, rfl, rfl, T0, atI_nat (j := 0) rfl, (by show 1 ≤ sizeLine; decide), fun p5 H5 n5 => ?_⟩
  obtain ⟨B5, s5, h5, z5⟩ := h4.sqz (K := K) (AllL.cons AllL.nil) n5.same n5.sqz
  have T1 : SqT K H5 a1 [.str r1.1, .int (r1.2 : Nat)] := Same.sqt ((s04.trans s5).trans h5.sub) (hat.at_ _ m1)
  have L5 := SqL.of (K := K) (h5.sub _ _ (s5 _ _ (s04 _ _ hL)))
  refine ⟨_, rfl, _, rfl, q, _, rfl, .inl L5, _, _, rfl, rfl, q, _, _, .ref a1, rfl, rfl, L5, at1, a1, _, _, _, rfl, rfl, T1, atI_nat (j := 0) rfl, (by show 1 ≤ sizeLine; decide), fun p6 hp6 => ?_⟩
  have h6 := h5.tup (o := .tup [.str r1.1]) hp6
  have s6 := up_same (o := .tup [.str r1.1]) (h5.sub.free hp6)
  have e6 : SqT K (upd B5 p6 (.tup [.str r1.1])) p6 ([.inr r1.1].map kV) := SqT.of upd_same
  generalize upd B5 p6 (.tup [.str r1.1]) = B6 at *
  have s46 := s5.trans s6
  refine ⟨fun σ' H' => ∃ (t3 t7 t8 : Option V) (st rs : Addr) (l : List Str) (ks : List Key) (x : Int × Int × Int) (B : Hp), σ' = [some (.ref g), some (.ref q), some (.int (most : Nat)), t3, some (.ref D), some (.ref st), some (.ref rs), t7, t8, none] ∧ PrOk (l, ks) 1000 ∧ SqZ K B st (l.map V.str) ∧ SqT K B rs (ks.map kV) ∧ Same B4 B ∧ Hs B [(g, bagO c x)] H', ⟨_, rfl, (by show 0 ≤ sizeLine; decide), fun E7 hE7 => ?_⟩, ?_⟩
  · have h7 := h6.lay (o := .lst []) hE7
    have dpR : Dp K (upd (upd H5 p6 (.tup [.str r1.1])) E7 (.lst [])) (.ref D) (.list ((roots.map (·.2)).map RowD)) := .lst (SqL.of (h7.sub _ _ (s46 _ _ eD))) (ImA.dp (ImA.mono (Stay.of (s46.trans h7.sub)) hatRi))
    refine ⟨_, .list [], dpR, .lst (SqL.of upd_same) .nil, layR, lay_L ⟨rfl, by decide⟩, _, rfl, ?_⟩
    generalize upd (upd H5 p6 (.tup [.str r1.1])) E7 (.lst []) = H7 at *
    cases hR0 : roots with
    | nil =>
      rw [hR0] at dpR eD hatRi
      refine iteF ⟨_, rfl, (by show 0 ≤ sizeLine; decide), fun E8 hE8 => ?_⟩
      have h8 := h7.lay (o := .lst []) hE8
      have dpR8 : Dp K (upd H7 E8 (.lst [])) (.ref D) (.list []) := .lst (SqL.of (h8.sub _ _ (s46 _ _ eD))) .nil
      exact ⟨_, .list [], dpR8, .lst (SqL.of upd_same) .nil, lay_L ⟨rfl, by decide⟩, lay_L ⟨rfl, by decide⟩, _, rfl, iteF ⟨none, none, none, p5, p6, [r0.1], [.inr r1.1], x2, B6, rfl, ⟨(by show 1 ≤ 1000; decide), (by show 1 ≤ 1000; decide), fun x hx => by rw [List.mem_singleton.mp hx]; exact w0.sok, fun x hx => by rw [Sum.inr.inj (List.mem_singleton.mp hx)]; exact w1.sok⟩, z5.same s6, e6, s46, h8⟩⟩
    | cons rt rts =>
      rw [← hR0]
      refine if_bool (fun _ => ?_) (fun z => absurd z (by rw [hR0]; exact fun z => nomatch z))
      have hrne : ∀ {b : Bool}, b = (!PyData.eqv (.list ((roots.map (·.2)).map RowD)) (.list [])) → b = true := fun e => by
        rw [e, hR0]
        rfl
      have s0B6 := s04.trans s46
      refine ⟨_, rfl, c, g, 8, rfl, h7.bag (bc0.mono s0B6), by decide, by decide, fun k8 H8 hk8 d8 => ?_⟩
      obtain ⟨x8, B8, s8, h8⟩ := h7.dr0 d8
      have s0B8 := s0B6.trans s8
      have s4B8 := s46.trans s8
      refine ⟨rfl, _, rfl, if_dec (fun c1 => ?_) (fun c1 => ?_)⟩
      · refine ⟨_, rfl, _, rfl, _, rfl, D, _, rfl, .inl (SqL.of (h8.sub _ _ (s4B8 _ _ eD))), c, g, roots.length, by rw [List.length_map], h8.bag (bc0.mono s0B8), by rw [hR0]; exact Nat.succ_pos _, by omega, fun j9 H9 hj9 d9 => ?_⟩
        obtain ⟨x9, B9, s9, h9⟩ := h8.dr0 d9
        obtain ⟨zr, ezr⟩ : ∃ z, roots[j9]? = some z := ⟨_, List.getElem?_eq_getElem hj9⟩
        have hzr := hroot zr (List.mem_of_getElem? ezr)
        have tz0 := hatR.at_ zr (List.mem_of_getElem? ezr)
        refine ⟨D, _, _, .ref zr.1, rfl, rfl, SqL.of (h9.sub _ _ (s9 _ _ (s4B8 _ _ eD))), atI_nat (by rw [List.getElem?_map, ezr]; rfl), ?_⟩
        obtain ⟨a, x, n⟩ := zr
        simp only at hzr tz0
        have hmr : (x, n) ∈ pr.map (·.2) := List.mem_map_of_mem hzr.1
        have hn3 : n ≤ 3 := ok.ok.br _ hmr
        have hxs : PyData.strOk x = true := ok.sok _ hmr
        have ta9 := Same.sqt ((s4B8.trans s9).trans h9.sub) tz0
        obtain ⟨m0, em0, hm0, hm0'⟩ : ∃ m0 : Nat, (199 : Int) / (n : Nat) = (m0 : Nat) ∧ 66 ≤ m0 ∧ m0 ≤ 199 := by
          rcases (show n = 1 ∨ n = 2 ∨ n = 3 by omega) with rfl | rfl | rfl
          · exact ⟨199, by decide, by decide, by decide⟩
          · exact ⟨99, by decide, by decide, by decide⟩
          · exact ⟨66, by decide, by decide, by decide⟩
        refine ⟨_, rfl, a, _, _, _, rfl, rfl, ta9, atI_nat (j := 1) rfl, _, _, rfl, rfl, ⟨by omega, by omega⟩, _, rfl, c, g, 2, rfl, h9.bag (bc0.mono (s0B8.trans s9)), by decide, by decide, fun j10 H10 hj10 d10 => ?_⟩
        obtain ⟨x10, B10, s10, h10⟩ := h9.dr0 d10
        have s4B10 := (s4B8.trans s9).trans s10
        have ta10 := Same.sqt (s4B10.trans h10.sub) tz0
        refine ⟨_, _, rfl, rfl, ?_⟩
        refine ⟨_, rfl, _, rfl, a, _, _, _, rfl, rfl, ta10, atI_nat (j := 1) rfl, c, g, n, rfl, h10.bag (bc0.mono ((s0B8.trans s9).trans s10)), hzr.2.1, by omega, fun at_ H11 hat11 d11 => ?_⟩
        obtain ⟨x11, B11, s11, h11⟩ := h10.dr0 d11
        have s4B11 := s4B10.trans s11
        have ta11 := Same.sqt (s4B11.trans h11.sub) tz0
        have em7 : (199 : Int) / (n : Nat) + (j10 : Nat) = ((m0 + j10 : Nat) : Int) := by rw [em0]; omega
        refine ⟨_, rfl, _, rfl, _, rfl, a, x, n, m0 + j10, at_, by show [V.ref a, V.int ((199 : Int) / (n : Nat) + (j10 : Nat)), V.int (at_ : Nat)] = _; rw [em7], ta11, hat11, hn3, by omega, hxs, fun pS l H12 ll lw s12 zS => ?_⟩
        obtain ⟨B12, s12', h12, zS12⟩ := h11.sqz (K := K) (AllL.cons AllL.nil) s12 zS
        have s4B12 := s4B11.trans s12'
        refine ⟨_, rfl, _, rfl, _, _, rfl, rfl, _, rfl, c, g, 2, rfl, h12.bag (bc0.mono (s04.trans s4B12)), by decide, by decide, fun j13 H13 hj13 d13 => ?_⟩
        obtain ⟨x13, B13, s13, h13⟩ := h12.dr0 d13
        have s4B13 := s4B12.trans s13
        have em8 : (199 : Int) / (n : Nat) + (j10 : Nat) - 1 + (j13 : Nat) = ((m0 + j10 - 1 + j13 : Nat) : Int) := by rw [em0]; omega
        refine ⟨_, _, rfl, rfl, _, rfl, a, x, n, m0 + j10 - 1 + j13, at_, by show [V.ref a, V.int ((199 : Int) / (n : Nat) + (j10 : Nat) - 1 + (j13 : Nat)), V.int (at_ : Nat)] = _; rw [em8], Same.sqt (s4B13.trans h13.sub) tz0, hat11, hn3, by omega, hxs, fun pU l2 H14 ll2 lw2 s14 zU => ?_⟩
        obtain ⟨B14, s14', h14, zU14⟩ := h13.sqz (K := K) (AllL.cons AllL.nil) s14 zU
        refine ⟨pU, l2, rfl, zU.sq, by omega, lw2, fun pR ks H15 lk kw s15 tR => ?_⟩
        have a15 := h14.after s15
        have tR15 := sqt_cut a15.2 (NTu.lst NTu.nil) tR
        exact ⟨_, _, _, pS, pR, l, ks, x13, _, rfl, ⟨ll, by show ks.length ≤ 1000; omega, lw, kw⟩, zS12.same ((s13.trans s14').trans a15.1), tR15, (s4B13.trans s14').trans a15.1, a15.2⟩
      · refine ⟨_, rfl, (by show 0 ≤ sizeLine; decide), fun E9 hE9 => ?_⟩
        have h9 := h8.lay (o := .lst []) hE9
        have dpR9 : Dp K (upd H8 E9 (.lst [])) (.ref D) (.list ((roots.map (·.2)).map RowD)) := .lst (SqL.of (h9.sub _ _ (s4B8 _ _ eD))) (ImA.dp (ImA.mono (Stay.of (s4B8.trans h9.sub)) hatRi))
        refine ⟨_, .list [], dpR9, .lst (SqL.of upd_same) .nil, layR, lay_L ⟨rfl, by decide⟩, _, rfl, ?_⟩
        refine if_bool (fun _ => ?_) (fun z => absurd z (by rw [hR0]; exact fun z => nomatch z))
        have hrt := hroot rt (by rw [hR0]; exact List.mem_cons_self)
        refine ⟨_, rfl, _, rfl, _, rfl, c, g, q, most, pr.map (·.2), rfl, h9.bag (bc0.mono s0B8), hne, ⟨pr, rfl, h9.sub _ _ (s0B8 _ _ hL), hat.mono (s0B8.trans h9.sub)⟩, ok, by omega, ⟨rt.2, List.mem_map_of_mem hrt.1, hrt.2⟩, fun pS l H10 so d10 zS => ?_⟩
        obtain ⟨x10, B10, s10, h10, st10, _⟩ := h9.drN AllL.nil d10
        have zS10 := zS.stay st10
        have s0B10 := s0B8.trans s10
        refine ⟨_, rfl, _, rfl, _, rfl, c, g, q, pS, pr.map (·.2), l, rfl, h10.bag (bc0.mono s0B10), hne, ⟨pr, rfl, h10.sub _ _ (s0B10 _ _ hL), hat.mono (s0B10.trans h10.sub)⟩, ok, ⟨so.ck, by have := so.le; omega, so.wd, so.hd⟩, zS, fun pR ks H11 rs d11 tR => ?_⟩
        obtain ⟨x11, B11, s11, h11, st11, _⟩ := h10.drN AllL.nil d11
        exact ⟨_, _, _, pS, pR, l, ks, x11, B11, rfl, ⟨by have := so.le; show l.length ≤ 1000; omega, by have := rs.le; show ks.length ≤ 1000; omega, fun x hx => (so.ws x hx).sok, fun x hx => (rs.wd x hx).sok⟩, zS10.same s11, st11.sqt tR, (s4B8.trans s10).trans s11, h11⟩
  · rintro _ H7 ⟨t3, t7, t8, st, rs, l, ks, x7, B7, rfl, hok, zS, tR, s7, h7⟩
    have s07 := s04.trans s7
    refine ⟨(by show 4 ≤ sizeLine; decide), fun p8 hp8 => ?_⟩
    have h8 := h7.tup (o := .tup (vN [0, 0, 1, 2])) hp8
    have s8 := up_same (o := .tup (vN [0, 0, 1, 2])) (h7.sub.free hp8)
    have e8 : upd B7 p8 (.tup (vN [0, 0, 1, 2])) p8 = some (.tup (vN [0, 0, 1, 2])) := upd_same
    generalize upd B7 p8 (.tup (vN [0, 0, 1, 2])) = B8 at *
    refine ⟨_, rfl, c, g, 4, rfl, h8.bag (bc0.mono (s07.trans s8)), by decide, by decide, fun j9 H9 hj9 d9 => ?_⟩
    obtain ⟨x9, B9, s9, h9⟩ := h8.dr0 d9
    obtain ⟨m, hm, em⟩ := menu_at (L := [0, 0, 1, 2]) hj9
    have hm : m ≤ 2 := by simp only [List.mem_cons, List.not_mem_nil, or_false] at hm; omega
    refine ⟨p8, _, _, _, rfl, rfl, SqT.of (h9.sub _ _ (s9 _ _ e8)), atI_nat em, ?_⟩
    have s79 := s8.trans s9
    have s09 := s07.trans s79
    refine ⟨_, rfl, by omega, by omega, for_rng (n := m)
      (fun i σ H' => ∃ (t9 : Option V) (st : Addr) (l : List Str) (x : Int × Int × Int) (B : Hp), σ = [some (.ref g), some (.ref q), some (.int (most : Nat)), t3, some (.ref D), some (.ref st), some (.ref rs), t7, t8, t9] ∧ (i = 0 → l.length ≤ 1000) ∧ (i = 1 → l.length ≤ 2001) ∧ l.length ≤ 4003 ∧ (∀ x ∈ l, PyData.strOk x = true) ∧ SqZ K B st (l.map V.str) ∧ Same B9 B ∧ Hs B [(g, bagO c x)] H')
      ⟨none, st, l, x9, B9, rfl, fun _ => hok.l1, fun z => (nomatch z), Nat.le_trans hok.l1 (by decide), hok.k1, zS.same s79, Same.refl _, h9⟩ ?_ ?_⟩
    · rintro i σ H10 hi ⟨t9, st, l, x, B, rfl, hl0, hl1, hl2, hw, zp, sB, hh⟩
      have s0B := s09.trans sB
      refine ⟨_, rfl, _, rfl, _, rfl, (by show 0 ≤ sizeLine; decide), fun o ho => ?_⟩
      have hog : o ≠ g := fun z => by rw [z, hh.r0] at ho; cases ho
      have h11 := hh.lay (o := .lst []) ho
      refine ⟨c, g, q, st, o, pr.map (·.2), kS l, [], True, okS, rfl, h11.bag (bc0.mono s0B), hne, hog, ⟨pr, rfl, h11.sub _ _ (s0B _ _ hL), hat.mono (s0B.trans h11.sub)⟩, ok, by rw [kS_map]; exact (zp.same h11.sub).sqc, upd_same, by decide, by rw [List.length_map]; omega, fun x hx => ⟨x, rfl, hx⟩, okS_of hw, fun _ z => (nomatch z), fun p' ks' H12 lk ek d12 t12 => ?_⟩
      obtain ⟨l', rfl, hw'⟩ := okS_list ek
      obtain ⟨x12, B12, s12, h12, st12, _⟩ := h11.drN AllL.nil d12
      rw [List.length_map, List.length_map] at lk
      have t12' := t12.z.stay st12
      rw [kS_map] at t12'
      exact ⟨_, p', l', x12, B12, rfl, fun z => absurd z (by omega), fun z => by have := hl0 (by omega); omega, le_two (by omega) hl0 hl1 lk, hw', t12', sB.trans s12, h12⟩
    · rintro σ H10 ⟨t9, st, l, x, B, rfl, hl0, hl1, hl2, hw, zp, sB, hh⟩
      have s9B := s79.trans sB
      have s0B := s07.trans s9B
      refine ⟨(by show 4 ≤ sizeLine; decide), fun p11 hp11 => ?_⟩
      have h11 := hh.tup (o := .tup (vN [0, 1, 1, 2])) hp11
      have s11 := up_same (o := .tup (vN [0, 1, 1, 2])) (hh.sub.free hp11)
      have e11 : upd B p11 (.tup (vN [0, 1, 1, 2])) p11 = some (.tup (vN [0, 1, 1, 2])) := upd_same
      generalize upd B p11 (.tup (vN [0, 1, 1, 2])) = B11 at *
      refine ⟨_, rfl, c, g, 4, rfl, h11.bag (bc0.mono (s0B.trans s11)), by decide, by decide, fun j12 H12 hj12 d12 => ?_⟩
      obtain ⟨x12, B12, s12, h12⟩ := h11.dr0 d12
      obtain ⟨m', hm', em'⟩ := menu_at (L := [0, 1, 1, 2]) hj12
      have hm' : m' ≤ 2 := by simp only [List.mem_cons, List.not_mem_nil, or_false] at hm'; omega
      refine ⟨p11, _, _, _, rfl, rfl, SqT.of (h12.sub _ _ (s12 _ _ e11)), atI_nat em', ?_⟩
      have sBB12 := s11.trans s12
      have s012 := s0B.trans sBB12
      have zp12 := zp.same sBB12
      refine ⟨_, rfl, by omega, by omega, for_rng (n := m')
        (fun i σ H' => ∃ (t9 : Option V) (rs : Addr) (ks : List Key) (x : Int × Int × Int) (B : Hp), σ = [some (.ref g), some (.ref q), some (.int (most : Nat)), t3, some (.ref D), some (.ref st), some (.ref rs), t7, t8, t9] ∧ (i = 0 → ks.length ≤ 1000) ∧ (i = 1 → ks.length ≤ 2001) ∧ ks.length ≤ 4003 ∧ (∀ k ∈ ks, okR k) ∧ SqT K B rs (ks.map kV) ∧ Same B12 B ∧ Hs B [(g, bagO c x)] H')
        ⟨t9, rs, ks, x12, B12, rfl, fun _ => hok.l2, fun z => (nomatch z), Nat.le_trans hok.l2 (by decide), fun k hk x e => hok.k2 x (by rw [← e]; exact hk), Same.sqt (s9B.trans sBB12) tR, Same.refl _, h12⟩ ?_ ?_⟩
      · rintro i σ H13 hi ⟨t9, rs, ks, x, B', rfl, hl0, hl1, hl2, hw, tr, sB', hh⟩
        have s0B' := s012.trans sB'
        refine ⟨_, rfl, _, rfl, _, rfl, _, rfl, (by show 5 ≤ sizeLine; decide), fun o ho => ?_⟩
        have hog : o ≠ g := fun z => by rw [z, hh.r0] at ho; cases ho
        have h14 := hh.lay (o := .lst (([.inl (-1), .inl 0, .inl 1, .inl 2, .inl 5] : List Key).map kV)) ho
        refine ⟨c, g, q, rs, o, pr.map (·.2), ks, [.inl (-1), .inl 0, .inl 1, .inl 2, .inl 5], False, okR, rfl, h14.bag (bc0.mono s0B'), hne, hog, ⟨pr, rfl, h14.sub _ _ (s0B' _ _ hL), hat.mono (s0B'.trans h14.sub)⟩, ok, ⟨Same.sqt h14.sub tr, fun z => z.elim⟩, upd_same, by decide, by omega, fun x hx y e => by rw [← Sum.inr.inj e]; exact hx, hw, fun k hk x e => ?_, fun p' ks' H15 lk ek d15 t15 => ?_⟩
        · rw [e] at hk
          simp at hk
        obtain ⟨x15, B15, s15, h15, st15, _⟩ := h14.drN AllL.nil d15
        exact ⟨_, p', ks', x15, B15, rfl, fun z => absurd z (by omega), fun z => by have := hl0 (by omega); omega, le_two (by omega) hl0 hl1 lk, ek, st15.sqt t15.sq, sB'.trans s15, h15⟩
      · rintro σ H13 ⟨t9, rs, ks, x, B', rfl, hl0, hl1, hl2', hw', tr, sB', hh⟩
        refine ⟨_, rfl, _, rfl, (by show 2 ≤ sizeLine; decide), fun p14 hp14 => ?_⟩
        have h14 := hh.tup (o := .tup [.ref st, .ref rs]) hp14
        have s14 := up_same (o := .tup [.ref st, .ref rs]) (hh.sub.free hp14)
        exact hq p14 (l, ks) _ ⟨by show l.length ≤ 10000; omega, by show ks.length ≤ 10000; omega, hw, fun x hx => hw' _ hx x rfl⟩ (h14.isDr (by rw [hB0]; exact (s012.trans sB').trans s14)) ⟨st, rs, SqT.of upd_same, zp12.same ((sB'.trans s14).trans h14.sub), Same.sqt (s14.trans h14.sub) tr⟩
end
end Sy
/-! _law_fault, _law_due -/
namespace Sy
open PySem PySem.Spec PyProof.Rows L2
theorem eqV_keys (k j : Key) : eqV (kV j) (kV k) = decide (j = k) := by
  cases k with
  | inl y =>
    cases j with
    | inl z =>
      by_cases h : z = y
      · subst h
        simp [kV, eqV]
      · simp [kV, eqV, h]
    | inr x => simp [kV, eqV]
  | inr y =>
    cases j with
    | inl z => simp [kV, eqV]
    | inr x =>
      by_cases h : x = y
      · subst h
        simp [kV, eqV]
      · simp [kV, eqV, h]
def inK (k : Key) (fs : List Key) : Bool := inV (kV k) (fs.map kV)
theorem inK_iff (k : Key) : ∀ fs : List Key, inK k fs = true ↔ k ∈ fs
  | [] => by simp [inK, inV]
  | j :: fs => by
    have ih := inK_iff k fs
    unfold inK inV at ih ⊢
    rw [List.map_cons, List.any_cons, Bool.or_eq_true, ih, eqV_keys, decide_eq_true_iff, List.mem_cons, eq_comm]
/-- the law's place of the first fault -/
def flK (rows : List Sy.Row) (fs : List Key) (once : Bool) : List Key → Nat → Nat → List Key → Int
  | _, m, i, [] => if m = 0 then -1 else (i : Nat)
  | met, m, i, k :: l => if m = 0 then (i : Nat) else if isKK rows k = true then flK rows fs once met (m - 1 + arK rows k) (i + 1) l else if inK k fs = true ∧ ¬(once = true ∧ inK k met = true) then flK rows fs once (met ++ [k]) (m - 1) (i + 1) l else (i : Nat)
theorem isKK_ar {rows : List Sy.Row} {k : Key} (h : isKK rows k = false) : arK rows k = 0 := by
  cases k with
  | inl z => rfl
  | inr x =>
    unfold isKK at h
    unfold arK
    unfold isK at h
    unfold ar
    cases e : rows.lookup x with
    | none => simp only [e]; rfl
    | some n => simp only [e] at h; cases h
theorem flK_star {rows : List Sy.Row} : ∀ (l : List Str) (met : List Key) (m i : Nat), flK rows [.inr "*"] false met m i (kS l) = fa rows ["*"] m i l
  | [], met, m, i => by
    show (if m = 0 then (-1 : Int) else (i : Nat)) = if 0 < m then ((i : Nat) : Int) else -1
    by_cases c : m = 0
    · rw [if_pos c, if_neg (by omega)]
    · rw [if_neg c, if_pos (by omega)]
  | x :: l, met, m, i => by
    show flK rows [.inr "*"] false met m i (.inr x :: kS l) = _
    rw [flK, fa]
    by_cases c : m = 0
    · rw [if_pos c, if_pos c]
    rw [if_neg c, if_neg c]
    cases h : isKK rows (.inr x) with
    | true =>
      rw [if_pos rfl, if_neg (fun z => by rw [show isKK rows (.inr x) = isK rows x from rfl] at h; rw [h] at z; cases z.1)]
      exact flK_star l _ _ _
    | false =>
      rw [if_neg (by decide)]
      have h' : isK rows x = false := h
      by_cases e : x = "*"
      · rw [if_pos ⟨(inK_iff _ _).mpr (by rw [e]; exact List.mem_cons_self), fun z => by cases z.1⟩, if_neg (fun z => z.2 (by rw [e]; exact List.mem_cons_self)), flK_star l]
        have : ar rows x = 0 := isKK_ar h
        rw [this]
        rfl
      · rw [if_neg (fun z => e (Sum.inr.inj (List.mem_singleton.mp ((inK_iff _ _).mp z.1)))), if_pos ⟨h', fun z => e (List.mem_singleton.mp z)⟩]
theorem faK_lo {rows : List Sy.Row} {ok : Key → Bool} : ∀ (l : List Key) (m i : Nat), faK rows ok m i l = -1 ∨ (i : Int) ≤ faK rows ok m i l
  | [], m, i => by
    rw [faK]
    split
    · exact .inr (Int.le_refl _)
    · exact .inl rfl
  | k :: l, m, i => by
    rw [faK]
    split
    · exact .inr (Int.le_refl _)
    · split
      · exact .inr (Int.le_refl _)
      · rcases faK_lo l (m - 1 + arK rows k) (i + 1) with h | h
        · exact .inl h
        · exact .inr (by omega)
theorem repK_lo : ∀ (l : List Key) (met : List Int) (i : Nat), repK met i l = -1 ∨ (i : Int) ≤ repK met i l
  | [], met, i => .inl rfl
  | .inl z :: l, met, i => by
    rw [repK]
    split
    · exact .inr (Int.le_refl _)
    · rcases repK_lo l (z :: met) (i + 1) with h | h
      · exact .inl h
      · exact .inr (by omega)
  | .inr x :: l, met, i => by
    rw [repK]
    rcases repK_lo l met (i + 1) with h | h
    · exact .inl h
    · exact .inr (by omega)
/-- of two places the first -/
def comb (p a : Int) : Int := if 0 ≤ a ∧ (p < 0 ∨ a < p) then a else p
theorem comb_lo {p a : Int} {i : Nat} (h : p = (i : Nat)) (ha : a = -1 ∨ (i : Int) ≤ a) : comb p a = (i : Nat) := by
  unfold comb
  rw [if_neg (by omega), h]
theorem okH_mem (n : Nat) (k : Key) : (k ∈ ((List.range n).map fun (j : Nat) => (Sum.inl (j : Int) : Key))) ↔ okH (n : Int) k = true := by
  cases k with
  | inl z =>
    unfold okH
    rw [Bool.and_eq_true, decide_eq_true_iff, decide_eq_true_iff, List.mem_map]
    constructor
    · rintro ⟨j, hj, e⟩
      have := List.mem_range.mp hj
      have := Sum.inl.inj e
      omega
    · rintro ⟨h1, h2⟩
      exact ⟨z.toNat, List.mem_range.mpr (by omega), by rw [show ((z.toNat : Nat) : Int) = z by omega]⟩
  | inr x =>
    constructor
    · intro h
      obtain ⟨j, _, e⟩ := List.mem_map.mp h
      cases e
    · intro h
      cases h
theorem flK_once {rows : List Sy.Row} (n : Nat) : ∀ (l : List Key) (met : List Key) (mi : List Int) (m i : Nat), (∀ z : Int, Sum.inl z ∈ met ↔ z ∈ mi) →
    flK rows ((List.range n).map fun (j : Nat) => (Sum.inl (j : Int) : Key)) true met m i l = comb (faK rows (okH (n : Int)) m i l) (repK mi i l)
  | [], met, mi, m, i, _ => by
    rw [flK, faK, repK]
    unfold comb
    by_cases c : m = 0
    · rw [if_pos c, if_neg (show ¬ 0 < m by omega), if_neg (by omega)]
    · rw [if_neg c, if_pos (show 0 < m by omega), if_neg (by omega)]
  | k :: l, met, mi, m, i, hm => by
    rw [flK, faK]
    by_cases c : m = 0
    · rw [if_pos c, if_pos c, comb_lo rfl (repK_lo _ _ _)]
    rw [if_neg c, if_neg c]
    cases h : isKK rows k with
    | true =>
      rw [if_pos rfl, if_neg (fun z => by cases z.1)]
      cases k with
      | inl z => cases h
      | inr x =>
        rw [repK]
        exact flK_once n l met mi _ _ hm
    | false =>
      rw [if_neg (by decide), isKK_ar h]
      by_cases e : okH (n : Int) k = true
      · rw [if_neg (show ¬ (false = false ∧ okH (n : Int) k = false) from fun z => by rw [e] at z; cases z.2)]
        cases k with
        | inr x => cases e
        | inl z =>
          rw [repK]
          by_cases d : z ∈ mi
          · rw [if_neg (fun y => y.2 ⟨rfl, (inK_iff _ _).mpr ((hm z).mpr d)⟩), if_pos d]
            unfold comb
            rcases faK_lo (rows := rows) (ok := okH (n : Int)) l (m - 1 + 0) (i + 1) with q | q
            · rw [q, if_pos ⟨by omega, .inl (by omega)⟩]
            · rw [if_pos ⟨by omega, .inr (by omega)⟩]
          · rw [if_pos ⟨(inK_iff _ _).mpr ((okH_mem n _).mpr e), fun y => d ((hm z).mp ((inK_iff _ _).mp y.2))⟩, if_neg d]
            refine flK_once n l _ (z :: mi) _ _ fun y => ?_
            rw [List.mem_append, List.mem_singleton, List.mem_cons, hm y]
            constructor
            · rintro (q | q)
              · exact .inr q
              · exact .inl (Sum.inl.inj q)
            · rintro (q | q)
              · exact .inr (by rw [q])
              · exact .inl q
      · rw [if_neg (fun y => e ((okH_mem n _).mp ((inK_iff _ _).mp y.1))), if_pos ⟨rfl, by cases q : okH (n : Int) k with | true => exact absurd q e | false => rfl⟩, comb_lo rfl (repK_lo _ _ _)]
theorem flK_rf (rows : List Sy.Row) (n : Nat) (l : List Key) : flK rows ((List.range n).map fun (j : Nat) => (Sum.inl (j : Int) : Key)) true [] 1 0 l = rfK rows (n : Int) l := flK_once n l [] [] 1 0 fun z => by simp
theorem flat_key (k : Key) : flatV (kV k) = true := by cases k <;> rfl
theorem flat_keys (ks : List Key) : (ks.map kV).all flatV = true := by
  rw [List.all_map, List.all_eq_true]
  intro k _
  exact flat_key k
section
variable {P : Program} {w : World} {K : PySem.W.Frag} {mg : Str → Option Value} {base : Heap}
def spFl (K : PySem.W.Frag) : Sp := fun vs H Q _ => ∃ (d p f : Addr) (rows : List Sy.Row) (ks fs : List Key) (once : Bool), vs = [.ref d, .ref p, .ref f, .bl once] ∧ H d = some (.dK (arKV rows)) ∧ SqT K H p (ks.map kV) ∧ H f = some (.lst (fs.map kV)) ∧ ks.length ≤ 10000 ∧ ∀ H', Same H H' → Q (.int (flK rows fs once [] 1 0 ks)) H'
abbrev N_fl : List Str := ["_law_arity_here", "_law_row", "_law_free", "_law_once", "_law_need", "_law_used", "_law_k"]
theorem sc_fl : FnScope N_fl ["_law_arity_here", "_law_row", "_law_free", "_law_once"] (defScope (top 55)) := ⟨rfl, rfl, rfl, by decide +kernel, rfl, by decide +kernel, by decide +kernel⟩
theorem k_fl (T : Txt K mg) (F : DF K mg "_law_fault" 55) : Cal P w K mg base 1 "_law_fault" ["_law_arity_here", "_law_row", "_law_free", "_law_once"] (spFl K) := by
  refine cal_of F.1 F.2 sc_fl (fun _ _ _ _ _ _ us e => match us, e with | [_, _, _, _], _ => rfl) (fun vs H Q E s => by obtain ⟨_, _, _, _, _, _, _, rfl, _⟩ := s; rfl) ?_
  intro cdv A outer s H vs Q E hr h
  obtain ⟨d, p, f, rows, ks, fs, once, rfl, hd, hp, hf, hl, hq⟩ := h
  have hu := hu_of hr
  have sc := sc_fl
  refine ⟨_, (pss_cons (ps_set (i := 4) sc.nd rfl (Or.inl rfl) pe_int)
      (pss_cons (ps_set (i := 5) sc.nd rfl (Or.inl rfl) (pe_lst pa_nil))
      (pss_cons (ps_for (passes_of rfl) rfl (pi_range1 rfl T.range (pa_cons (pe_callB call_len_seq (by rfl) T.len (by decide +kernel) (pa_cons (pv 1) pa_nil)) pa_nil)) (pg_name (i := 6) sc.nd rfl (Or.inl rfl))
        (pss_cons (ps_if (pt_cmpR op_eq (pv 4) pe_int (nomark _))
          (pss_one (ps_ret (pv 6)))
          pss_nil)
        (pss_one (ps_if (pt_cmp (pc_din hu (pe_ix ix_tup (pv 1) (pv 6) (fun _ _ => rfl)) (pv 0)))
          (pss_one (ps_set (i := 4) sc.nd rfl (Or.inl rfl) (pe_op op_add (pe_op op_sub (pv 4) pe_int) (pe_dget hu (pv 0) (pe_ix ix_tup (pv 1) (pv 6) (fun _ _ => rfl)) (fun _ _ => rfl)))))
          (pss_one (ps_if (PW.pt (pw_and (pt_cmpR op_in_seq (pe_ix ix_tup (pv 1) (pv 6) (fun _ _ => rfl)) (pv 2) rfl) (pw_and1 (pt_not (PW.pt (pw_and (pt_val (pv 3)) (pw_and1 (pt_cmpR op_in_seq (pe_ix ix_tup (pv 1) (pv 6) (fun _ _ => rfl)) (pv 5) rfl))))))))
            (pss_cons (ps_expr (pe_bm PySem.F.plainAttrs_list PySem.F.slot_list_append PySem.F.type_list_append mt_append (pv 5) (pa_cons (pe_ix ix_tup (pv 1) (pv 6) (fun _ _ => rfl)) pa_nil)))
            (pss_one (ps_set (i := 4) sc.nd rfl (Or.inl rfl) (pe_op op_sub (pv 4) pe_int))))
            (pss_one (ps_ret (pv 6)))))))))
      (pss_cons (ps_if (pt_cmpR op_eq (pv 4) pe_int (nomark _))
        (pss_one (ps_ret (pe_un un_neg pe_int)))
        pss_nil)
      (pss_one (ps_ret (pe_callB call_len_seq (by rfl) T.len (by decide +kernel) (pa_cons (pv 1) pa_nil)))))))), ?_⟩
  refine ⟨by decide, fun U hU => ?_⟩
  have h0 := (Hs.start H).new (o := .lst []) hU
  refine ⟨_, rfl, p, _, rfl, .inr (Same.sqt h0.sub hp), _, rfl, by rw [List.length_map]; omega, by rw [List.length_map]; omega, for_rng (n := (ks.map kV).length) (fun i σ H' => ∃ (m : Nat) (t6 : Option V) (met : List Key) (B : Hp), σ = [some (.ref d), some (.ref p), some (.ref f), some (.bl once), some (.int (m : Nat)), some (.ref U), t6] ∧ met.length ≤ i ∧ flK rows fs once [] 1 0 ks = flK rows fs once met m i (ks.drop i) ∧ Same H B ∧ Hs B [(U, .lst (met.map kV))] H')
    ⟨1, none, [], H, rfl, Nat.le_refl _, by rw [List.drop_zero], Same.refl _, h0⟩ ?_ ?_⟩
  · rintro i σ H1 hi ⟨m, t6, met, B, rfl, hml, e, sB, hh⟩
    rw [List.length_map] at hi
    obtain ⟨k, ek⟩ : ∃ k, ks[i]? = some k := ⟨_, List.getElem?_eq_getElem hi⟩
    rw [drop_of ek, flK] at e
    have sH := sB.trans hh.sub
    have tp := Same.sqt sH hp
    have fin : ∀ H', Same H1 H' → flK rows fs once [] 1 0 ks = (i : Nat) → Q (.int (i : Nat)) H' := fun H' s' ee => by
      rw [← ee]
      exact hq H' (sH.trans s')
    have atk : atI (ks.map kV) ((i : Nat) : Int) = some (kV k) := atI_nat (by rw [List.getElem?_map, ek]; rfl)
    have gD := DGet.k (k := k) (sH _ _ hd)
    rw [valV_arK] at gD
    refine ⟨_, rfl, rfl, _, rfl, if_dec (fun c => ?_) (fun c => ?_)⟩
    · have c : m = 0 := by have := V.int.inj c; omega
      rw [if_pos c] at e
      exact ⟨_, rfl, fin H1 (Same.refl _) e⟩
    have c : m ≠ 0 := fun z => c (by rw [z]; rfl)
    rw [if_neg c] at e
    refine ⟨_, rfl, _, rfl, p, _, _, _, rfl, rfl, tp, atk, _, rfl, d, _, rfl, gD, _, rfl, ?_⟩
    cases c2 : isKK rows k with
    | true =>
      rw [if_pos c2] at e
      rw [c2] at gD
      have em : ((m : Int) - 1 + (arK rows k : Nat)) = ((m - 1 + arK rows k : Nat) : Int) := by omega
      exact iteT ⟨_, rfl, _, _, rfl, rfl, _, rfl, _, rfl, _, rfl, p, _, _, _, rfl, rfl, tp, atk, d, _, rfl, gD, _, _, rfl, rfl, _, _, met, B, by show [some (V.ref d), some (V.ref p), some (V.ref f), some (V.bl once), some (V.int ((m : Int) - 1 + (arK rows k : Nat))), some (V.ref U), some (V.int (i : Nat))] = _; rw [em], by omega, e, sB, hh⟩
    | false =>
      rw [if_neg (by rw [c2]; decide)] at e
      refine iteF ⟨_, rfl, _, rfl, p, _, _, _, rfl, rfl, tp, atk, _, rfl, f, _, rfl, .inl (SqL.of (sH _ _ hf)), flat_key k, flat_keys fs, _, rfl, ?_⟩
      show if inK k fs = true then _ else _
      by_cases cf : inK k fs = true
      · rw [if_pos cf]
        have put : ¬(once = true ∧ inK k met = true) → rAppend (.ref U) [kV k] H1 (fun v H' => ∃ (m' : Nat) (t6 : Option V) (met : List Key) (B : Hp), [some (V.ref d), some (.ref p), some (.ref f), some (.bl once), some (.int ((m : Int) - 1)), some (.ref U), some (.int (i : Nat))] = [some (.ref d), some (.ref p), some (.ref f), some (.bl once), some (.int (m' : Nat)), some (.ref U), t6] ∧ met.length ≤ i + 1 ∧ flK rows fs once [] 1 0 ks = flK rows fs once met m' (i + 1) (ks.drop (i + 1)) ∧ Same H B ∧ Hs B [(U, .lst (met.map kV))] H') := fun z => by
          rw [if_pos ⟨cf, z⟩] at e
          have em : ((m : Int) - 1) = ((m - 1 : Nat) : Int) := by omega
          exact ⟨U, _, _, rfl, rfl, hh.r0, by rw [List.length_map, sizeLine_eq]; omega, m - 1, _, met ++ [k], B, by rw [em], by rw [List.length_append]; show _ + 1 ≤ _; omega, e, sB, by rw [List.map_append]; exact hh.w0⟩
        have bad : (once = true ∧ inK k met = true) → flK rows fs once [] 1 0 ks = (i : Nat) := fun z => by rw [if_neg (fun y => y.2 z)] at e; exact e
        refine ⟨_, rfl, _, rfl, ?_⟩
        cases once with
        | false =>
          refine iteF (iteT ⟨_, rfl, .inl ⟨rfl, _, SqL.of hh.r0⟩, _, rfl, _, rfl, p, _, _, _, rfl, rfl, tp, atk, ?_⟩)
          obtain ⟨a1, a2, a3, a4, a5, a6, a7, a8⟩ := put (fun z => by cases z.1)
          exact ⟨a1, a2, a3, a4, a5, a6, a7, _, rfl, _, _, rfl, rfl, a8⟩
        | true =>
          refine iteT ⟨_, rfl, _, rfl, p, _, _, _, rfl, rfl, tp, atk, _, rfl, U, _, rfl, .inl (SqL.of hh.r0), flat_key k, flat_keys met, _, rfl, ?_⟩
          cases cm : inK k met with
          | true =>
            have cm' : inV (kV k) (met.map kV) = true := cm
            rw [cm']
            exact iteF ⟨_, rfl, fin H1 (Same.refl _) (bad ⟨rfl, cm⟩)⟩
          | false =>
            have cm' : inV (kV k) (met.map kV) = false := cm
            rw [cm']
            refine iteT ⟨_, rfl, .inl ⟨rfl, _, SqL.of hh.r0⟩, _, rfl, _, rfl, p, _, _, _, rfl, rfl, tp, atk, ?_⟩
            obtain ⟨a1, a2, a3, a4, a5, a6, a7, a8⟩ := put (fun z => by rw [cm] at z; cases z.2)
            exact ⟨a1, a2, a3, a4, a5, a6, a7, _, rfl, _, _, rfl, rfl, a8⟩
      · rw [if_neg cf]
        rw [if_neg (fun z => cf z.1)] at e
        exact ⟨_, rfl, fin H1 (Same.refl _) e⟩
  · rintro σ H1 ⟨m, t6, met, B, rfl, hml, e, sB, hh⟩
    have sH := sB.trans hh.sub
    rw [List.length_map, List.drop_eq_nil_of_le (Nat.le_refl _), flK] at e
    refine ⟨_, rfl, rfl, _, rfl, if_dec (fun c => ?_) (fun c => ?_)⟩
    · have c : m = 0 := by have := V.int.inj c; omega
      rw [if_pos c] at e
      refine ⟨_, rfl, ?_⟩
      have := hq H1 sH
      rw [e] at this
      exact this
    · have c : m ≠ 0 := fun z => c (by rw [z]; rfl)
      rw [if_neg c] at e
      refine ⟨_, rfl, p, _, rfl, .inr (Same.sqt sH hp), ?_⟩
      rw [List.length_map, ← e]
      exact hq H1 sH
/-! _law_due -/
def erD : Er → PyData
  | .many x n => .tuple [.str "TooMany", .str x, .int n, .bool true]
  | .stump n => .tuple [.str "InvalidStump", .int (n : Nat), .bool true]
  | .trim i => .tuple [.str "InvalidTrim", .int i, .bool true]
def dueD (rows : List Sy.Row) (t : Trm) : PyData := match ctDue rows t.1 t.2 with
  | some e => erD e
  | none => .tuple [.str "Good", RowsD rows, DS t.1, .tuple (t.2.map kD)]
def spDue (K : PySem.W.Frag) : Sp := fun vs H Q _ => ∃ (q d a r : Addr) (rows : List Sy.Row) (l : List Str) (ks : List Key), vs = [.ref q, .ref d, .ref a, .ref r] ∧ RL K H q rows ∧ H d = some (.dK (arKV rows)) ∧ KdsOk rows ∧ SqZ K H a (l.map V.str) ∧ SqT K H r (ks.map kV) ∧ PrOk (l, ks) 10000 ∧
  ∀ v H', Same H H' → Im K H' v (dueD rows (l, ks)) → Q v H'
abbrev N_due : List Str := ["_law_kinds_here", "_law_arity_here", "_law_stump_here", "_law_result_here", "_law_place", "_law_entry"]
theorem sc_due : FnScope N_due ["_law_kinds_here", "_law_arity_here", "_law_stump_here", "_law_result_here"] (defScope (top 56)) := ⟨rfl, rfl, rfl, by decide +kernel, rfl, by decide +kernel, by decide +kernel⟩
theorem k_due (T : Txt K mg) (F : DF K mg "_law_due" 56) (c_law_fault : Cal P w K mg base 1 "_law_fault" ["_law_arity_here", "_law_row", "_law_free", "_law_once"] (spFl K)) : Cal P w K mg base 2 "_law_due" ["_law_kinds_here", "_law_arity_here", "_law_stump_here", "_law_result_here"] (spDue K) := by
  refine cal_of F.1 F.2 sc_due (fun _ _ _ _ _ _ us e => match us, e with | [_, _, _, _], _ => rfl) (fun vs H Q E s => by obtain ⟨_, _, _, _, _, _, _, rfl, _⟩ := s; rfl) ?_
  intro cdv A outer s H vs Q E hr h
  obtain ⟨q, d, a, r, rows, l, ks, rfl, hRL, hd, ok, ha, hR, hp, hq⟩ := h
  have hu := hu_of hr
  have sc := sc_due
  refine ⟨_, (pss_cons (ps_if (PW.pt (pw_or (pt_cmpR op_gt (pe_callB call_len_seq (by rfl) T.len (by decide +kernel) (pa_cons (pv 2) pa_nil)) pe_int (nomark _)) (pw_or1 (pt_cmpR op_gt (pe_callB call_len_seq (by rfl) T.len (by decide +kernel) (pa_cons (pv 3) pa_nil)) pe_int (nomark _)))))
        (pss_one (ps_ret (pe_tup (pa_cons pe_str (pa_cons pe_str (pa_cons pe_int (pa_cons pe_bl pa_nil)))))))
        pss_nil)
      (pss_cons (ps_set (i := 4) sc.nd rfl (Or.inl rfl) (pe_cal c_law_fault hr (pa_cons (pv 1) (pa_cons (pv 2) (pa_cons (pe_lst (pa_cons pe_str pa_nil)) (pa_cons pe_bl pa_nil))))))
      (pss_cons (ps_if (pt_cmpR op_ge (pv 4) pe_int (nomark _))
        (pss_one (ps_ret (pe_tup (pa_cons pe_str (pa_cons (pv 4) (pa_cons pe_bl pa_nil))))))
        pss_nil)
      (pss_cons (ps_if (pt_cmpR (op_eqD hr.units) (pv 2) (pe_tup (pa_cons pe_str pa_nil)) (nomark _))
        (pss_one (ps_ret (pe_tup (pa_cons pe_str (pa_cons (pe_un un_neg pe_int) (pa_cons pe_bl pa_nil))))))
        pss_nil)
      (pss_cons (ps_set (i := 4) sc.nd rfl (Or.inl rfl) (pe_cal c_law_fault hr (pa_cons (pv 1) (pa_cons (pv 3) (pa_cons (pe_listRg rfl (by rfl) T.list (prg_1 rfl T.range (pe_bmT PySem.F.slot_tuple_count PySem.F.type_tuple_count mt_tcount (pv 2) (pa_cons pe_str pa_nil)))) (pa_cons pe_bl pa_nil))))))
      (pss_cons (ps_if (pt_cmpR op_ge (pv 4) pe_int (nomark _))
        (pss_one (ps_ret (pe_tup (pa_cons pe_str (pa_cons (pv 4) (pa_cons pe_bl pa_nil))))))
        pss_nil)
      (pss_cons (ps_if (pt_cmpR op_ge (pe_callB call_len_seq (by rfl) T.len (by decide +kernel) (pa_cons (pe_lc (own := [("_law_entry", 5)]) (g := gName 5) rfl sc.nd (pi_tup (pv 3)) (blkOk_by (N := N_due) (sc := defScope (top 56)) (by decide +kernel)) (fun _ _ _ _ _ => (pg_name (i := 5) sc.nd rfl (Or.inl rfl))) (fun _ _ _ _ _ => (pts_one (pt_cmp (pc_din hu (pv 5) (pv 1))))) (fun _ _ _ _ _ => (pv 5))) pa_nil)) (pe_callB call_len_seq (by rfl) T.len (by decide +kernel) (pa_cons (pe_lc (own := [("_law_entry", 5)]) (g := gName 5) rfl sc.nd (pi_tup (pv 2)) (blkOk_by (N := N_due) (sc := defScope (top 56)) (by decide +kernel)) (fun _ _ _ _ _ => (pg_name (i := 5) sc.nd rfl (Or.inl rfl))) (fun _ _ _ _ _ => (pts_one (pt_cmp (pc_din hu (pv 5) (pv 1))))) (fun _ _ _ _ _ => (pv 5))) pa_nil)) (nomark _))
        (pss_one (ps_ret (pe_tup (pa_cons pe_str (pa_cons (pe_un un_neg pe_int) (pa_cons pe_bl pa_nil))))))
        pss_nil)
      (pss_one (ps_ret (pe_tup (pa_cons pe_str (pa_cons (pe_callTy call_tupZ (by rfl) T.tuple (by decide +kernel) (pa_cons (pv 0) pa_nil)) (pa_cons (pv 2) (pa_cons (pv 3) pa_nil)))))))))))))), ?_⟩
  have l1 := hp.l1
  have l2 := hp.l2
  simp only at l1 l2
  -- what is told of a fault
  have tell : ∀ (e : Er) (H' : Hp) (p : Addr) (xs : List V) (ds : List PyData), ctDue rows l ks = some e → erD e = .tuple ds → Same H H' → H' p = none → ImA K (upd H' p (.tup xs)) xs ds → Q (.ref p) (upd H' p (.tup xs)) := fun e H' p xs ds h1 h2 s' hn im => by
    refine hq _ _ (s'.trans (up_same hn)) ?_
    unfold dueD
    simp only [h1]
    rw [h2]
    exact .tup (SqT.of upd_same) im
  unfold dueD at hq
  unfold ctDue at tell hq
  simp only at hq
  have many : 200 < l.length ∨ 200 < ks.length → ∀ p, H p = none → Q (.ref p) (upd H p (.tup [.str "TooMany", .str "entries", .int 200, .bl true])) := fun z p hn => by
    refine tell (.many "entries" 200) H p _ _ ?_ rfl (Same.refl _) hn (.cons (.str _) (.cons (.str _) (.cons (.int _) (.cons (.bl _) .nil))))
    by_cases c : 200 < l.length
    · rw [if_pos c]
    · rw [if_neg c, if_pos (by omega)]
  refine ⟨_, rfl, a, _, rfl, .inr ha.sq, _, _, rfl, rfl, _, rfl, ?_⟩
  rw [List.length_map]
  refine if_dec (fun c => iteT ⟨(by show 4 ≤ sizeLine; decide), fun p hn => many (.inl (by omega)) p hn⟩) (fun c => ?_)
  refine ⟨_, rfl, r, _, rfl, .inr hR, _, _, rfl, rfl, _, rfl, ?_⟩
  rw [List.length_map]
  refine if_dec (fun c2 => ⟨(by show 4 ≤ sizeLine; decide), fun p hn => many (.inr (by omega)) p hn⟩) (fun c2 => ?_)
  rw [if_neg (by omega), if_neg (by omega)] at hq
  have tell : ∀ (e : Er) (H' : Hp) (p : Addr) (xs : List V) (ds : List PyData), (match ckS rows l with | some e => some e | none => if l = (["*"] : List Str) then some (Er.trim (-1)) else if 0 ≤ rfK rows (l.count ("*" : Str) : Nat) ks then some (.trim (rfK rows (l.count ("*" : Str) : Nat) ks)) else if knK rows (kS l) ≤ knK rows ks then some (.trim (-2)) else none) = some e → erD e = .tuple ds → Same H H' → H' p = none → ImA K (upd H' p (.tup xs)) xs ds → Q (.ref p) (upd H' p (.tup xs)) := fun e H' p xs ds h1 => by
    refine tell e H' p xs ds ?_
    rw [if_neg (by omega), if_neg (by omega)]
    exact h1
  have hck : ckS rows l = if 0 ≤ fa rows ["*"] 1 0 l then some (.stump (fa rows ["*"] 1 0 l).toNat) else none := by
    unfold ckS ckr
    rw [if_neg (by omega)]
  rw [hck] at tell hq
  refine ⟨_, rfl, _, rfl, (by show 1 ≤ sizeLine; decide), fun F0 hF0 => ?_⟩
  have s1 := up_same (o := .lst [.str "*"]) hF0
  have eF : upd H F0 (.lst [.str "*"]) F0 = some (.lst (([.inr "*"] : List Key).map kV)) := upd_same
  generalize upd H F0 (.lst [.str "*"]) = H1 at *
  refine ⟨d, a, F0, rows, kS l, [.inr "*"], false, rfl, s1 _ _ hd, by rw [kS_map]; exact Same.sqt s1 ha.sq, eF, by rw [List.length_map]; exact l1, fun H2 s2 => ?_⟩
  rw [flK_star]
  have s2 := s1.trans s2
  refine ⟨_, rfl, _, _, rfl, rfl, _, rfl, if_dec (fun c3 => ?_) (fun c3 => ?_)⟩
  · have e : ((fa rows ["*"] 1 0 l).toNat : Int) = fa rows ["*"] 1 0 l := by omega
    rw [if_pos c3] at tell
    refine ⟨_, rfl, (by show 3 ≤ sizeLine; decide), fun p hn => tell _ H2 p _ _ rfl ?_ s2 hn (.cons (.str _) (.cons (.int _) (.cons (.bl _) .nil)))⟩
    show PyData.tuple [.str "InvalidStump", .int ((fa rows ["*"] 1 0 l).toNat : Nat), .bool true] = _
    rw [e]
  rw [if_neg c3] at tell hq
  simp only at tell hq
  refine ⟨_, rfl, (by show 1 ≤ sizeLine; decide), fun p3 hp3 => ?_⟩
  have s3 := s2.trans (up_same (o := .tup [.str "*"]) hp3)
  have e3 : SqT K (upd H2 p3 (.tup [.str "*"])) p3 ((["*"] : List Str).map V.str) := SqT.of upd_same
  generalize upd H2 p3 (.tup [.str "*"]) = H3 at *
  refine ⟨DS l, DS ["*"], (Im.strs (Same.sqt s3 ha.sq)).dp, (Im.strs e3).dp, lay_DS hp.k1, lay_DS (fun x hx => by rw [List.mem_singleton.mp hx]; decide +kernel), _, rfl, ?_⟩
  rw [eqv_DS]
  refine if_dec (fun c4 => ?_) (fun c4 => ?_)
  · rw [if_pos c4] at tell
    exact ⟨_, rfl, (by show 3 ≤ sizeLine; decide), fun p hn => tell _ H3 p _ _ rfl rfl s3 hn (.cons (.str _) (.cons (.int _) (.cons (.bl _) .nil)))⟩
  rw [if_neg c4] at tell hq
  have a3 := ha.same s3
  refine ⟨_, rfl, _, rfl, _, rfl, ⟨a, _, rfl, a3.sq, a3.nd⟩, a, _, _, rfl, rfl, a3.sq, rfl, flat_strs l, (l.count ("*" : Str) : Nat), by rw [countP_strs], RgOk.of_le (by omega) (by have := List.count_le_length (a := ("*" : Str)) (l := l); omega) (by omega) (by have := List.count_le_length (a := ("*" : Str)) (l := l); omega), fun F4 hF4 => ?_⟩
  rw [rgV_nats]
  have s4 := s3.trans (up_same (o := .lst (vN (List.range (l.count ("*" : Str))))) hF4)
  have eN : vN (List.range (l.count ("*" : Str))) = ((List.range (l.count ("*" : Str))).map fun (j : Nat) => (Sum.inl (j : Int) : Key)).map kV := by
    unfold vN
    rw [List.map_map]
    rfl
  have e4 : upd H3 F4 (.lst (vN (List.range (l.count ("*" : Str))))) F4 = some (.lst (((List.range (l.count ("*" : Str))).map fun (j : Nat) => (Sum.inl (j : Int) : Key)).map kV)) := by rw [← eN]; exact upd_same
  generalize upd H3 F4 (.lst (vN (List.range (l.count ("*" : Str))))) = H4 at *
  refine ⟨d, r, F4, rows, ks, _, true, rfl, s4 _ _ hd, Same.sqt s4 hR, e4, l2, fun H5 s5 => ?_⟩
  rw [flK_rf]
  have s5 := s4.trans s5
  refine ⟨_, rfl, _, _, rfl, rfl, _, rfl, if_dec (fun c5 => ?_) (fun c5 => ?_)⟩
  · rw [if_pos c5] at tell
    exact ⟨_, rfl, (by show 3 ≤ sizeLine; decide), fun p hn => tell _ H5 p _ _ rfl rfl s5 hn (.cons (.str _) (.cons (.int _) (.cons (.bl _) .nil)))⟩
  rw [if_neg c5] at tell hq
  refine ⟨_, rfl, r, rfl, ⟨_, Same.sqt s5 hR⟩, fun D6 hD6 => lc_filtT (K := K) (xs := ks) (f := kV) (out := kV) (keep := isKK rows) (Hs.start H5) hD6 (Same.sqt s5 hR) (by omega) (fun k _ H' s' R1 R2 k1 k2 => ?_) (fun H6 h6 => ?_)⟩
  · have gD := DGet.k (k := k) ((s5.trans s') _ _ hd)
    refine ⟨_, rfl, _, rfl, d, _, rfl, gD, _, rfl, ?_⟩
    rw [valV_arK]
    cases e : isKK rows k with
    | true => exact iteT ⟨_, rfl, k1 e⟩
    | false => exact iteF (k2 e)
  refine ⟨D6, _, rfl, .inl (SqL.of h6.r0), ?_⟩
  rw [List.length_map]
  have s6 := s5.trans h6.sub
  refine ⟨_, rfl, a, rfl, ⟨_, Same.sqt s6 ha.sq⟩, fun D7 hD7 => ?_⟩
  have tS : SqT K H6 a ((kS l).map kV) := by rw [kS_map]; exact Same.sqt s6 ha.sq
  refine lc_filtT (K := K) (xs := kS l) (f := kV) (out := kV) (keep := isKK rows) (Hs.start H6) hD7 tS (by rw [List.length_map]; omega) (fun k _ H' s' R1 R2 k1 k2 => ?_) (fun H7 h7 => ?_)
  · have gD := DGet.k (k := k) ((s6.trans s') _ _ hd)
    refine ⟨_, rfl, _, rfl, d, _, rfl, gD, _, rfl, ?_⟩
    rw [valV_arK]
    cases e : isKK rows k with
    | true => exact iteT ⟨_, rfl, k1 e⟩
    | false => exact iteF (k2 e)
  refine ⟨D7, _, rfl, .inl (SqL.of h7.r0), ?_⟩
  rw [List.length_map]
  have s7 := s6.trans h7.sub
  refine ⟨_, _, rfl, rfl, _, rfl, if_dec (fun c6 => ?_) (fun c6 => ?_)⟩
  · rw [if_pos (show knK rows (kS l) ≤ knK rows ks by unfold knK; omega)] at tell
    exact ⟨_, rfl, (by show 3 ≤ sizeLine; decide), fun p hn => tell _ H7 p _ _ rfl rfl s7 hn (.cons (.str _) (.cons (.int _) (.cons (.bl _) .nil)))⟩
  rw [if_neg (show ¬ knK rows (kS l) ≤ knK rows ks by unfold knK; omega)] at hq
  obtain ⟨pr, rfl, hL, hat⟩ := hRL
  refine ⟨_, rfl, q, _, rfl, SqL.of (s7 _ _ hL), fun p8 H8 n8 => ?_⟩
  have s8 := s7.trans n8.same
  refine ⟨_, rfl, _, rfl, (by show 4 ≤ sizeLine; decide), fun p9 hp9 => ?_⟩
  have s9 := s8.trans (up_same (o := .tup [.str "Good", .ref p8, .ref a, .ref r]) hp9)
  have hR9 := Same.sqt s9 hR
  refine hq _ _ s9 ?_
  have rd : Im K (upd H8 p9 (.tup [.str "Good", .ref p8, .ref a, .ref r])) (.ref p8) (RowsD (pr.map (·.2))) := by
    have i8 : ImA K H8 (pr.map fun z => V.ref z.1) ((pr.map (·.2)).map RowD) := by
      have := Im.rowsD (hat.mono s8).paired
      rw [List.map_map] at this
      exact this
    exact .tup (Same.sqt (up_same hp9) n8.sqt) (ImA.mono (Stay.of (up_same hp9)) i8)
  exact .tup (SqT.of upd_same) (.cons (.str _) (.cons rd (.cons (Im.strs (Same.sqt s9 ha.sq)) (.cons (.tup hR9 (ImA.keys _)) .nil))))
end
end Sy
namespace Sy
open PySem PySem.Spec PyProof.Rows L2
/-- data of at most that depth -/
def Fit : Nat → PyData → Prop
  | _, .none => True
  | _, .bool _ => True
  | _, .int _ => True
  | _, .str _ => True
  | n + 1, .tuple ds => ds.length ≤ 1000000 ∧ ∀ d ∈ ds, Fit n d
  | _, _ => False
theorem tyx_tup {K : PySem.W.Frag} {H : Hp} {a : Addr} {xs : List V} (h : SqT K H a xs) : TyX K H (.ref a) (.type "tuple") := by
  rcases h with (h | ⟨o, h⟩) | ⟨o, its, n, hk, hc, _⟩
  · exact .base (.tup h)
  · exact .fTuple h
  · exact .kTuple hk hc
section
variable {P : Program} {w : World} {K : PySem.W.Frag} {mg : Str → Option Value} {base : Heap}
def spSame (K : PySem.W.Frag) (n : Nat) : Sp := fun vs H Q _ => ∃ (x y : V) (d : PyData), vs = [x, y] ∧ Im K H x d ∧ Im K H y d ∧ Fit n d ∧ Q (.bl true) H
abbrev N_same : List Str := ["_law_actual", "_law_due_here", "_law_k"]
theorem sc_same : FnScope N_same ["_law_actual", "_law_due_here"] (defScope (top 49)) := ⟨rfl, rfl, rfl, by decide +kernel, rfl, by decide +kernel, by decide +kernel⟩
/-- the names of the built-in classes that are asked for -/
structure TxtC (mg : Str → Option Value) : Prop where
  tuple : mg "tuple" = none
  bool : mg "bool" = none
  int : mg "int" = none
  str : mg "str" = none
  isinstance : mg "isinstance" = none
  len : mg "len" = none
  range : mg "range" = none
theorem k_same (T : TxtC mg) (F : DF K mg "_law_same" 49) : ∀ n : Nat, Cal P w K mg base (n + 1) "_law_same" ["_law_actual", "_law_due_here"] (spSame K n) := by
  -- what is no tuple
  have flat : ∀ (k : Nat) (cdv : Value) (A : Around) (outer : List Env) (s : Shared) (H : Hp) (E : XK), Room k (A.deeper (envOfC "_law_same" (defScope (top 49)) s.heap.objs.size (He.ga K "_law_same") cdv)) →
      ∃ t, PSs (cxOf (L2.CX P w) P w K mg base N_same "_law_same" (defScope (top 49)) (He.ga K "_law_same") cdv A outer s H E) ((defBody (top 49)).drop 2) t ∧ ∀ (D : Ends) (Q : VK) (x y : V) (d : PyData), Im K H x d → Im K H y d → D.rt = Q → (∀ ds, d ≠ .tuple ds) → d ≠ .none → Q (.bl true) H → t D [some x, some y, none] H := by
    intro k cdv A outer s H E hr
    refine ⟨_, (pss_cons (ps_if (pt_val (pe_callB call_isi (by rfl) T.isinstance (by decide +kernel) (pa_cons (pv 1) (pa_cons (pe_bltn (v := .ty "bool") (by rfl) T.bool (by decide +kernel) rfl) pa_nil))))
        (pss_one (ps_ret (pe_and (pe_callB call_isi (by rfl) T.isinstance (by decide +kernel) (pa_cons (pv 0) (pa_cons (pe_bltn (v := .ty "bool") (by rfl) T.bool (by decide +kernel) rfl) pa_nil))) (pe_one (pe_cmpR op_eq (pv 0) (pv 1) (nomark _))))))
        pss_nil)
      (pss_cons (ps_if (pt_val (pe_callB call_isi (by rfl) T.isinstance (by decide +kernel) (pa_cons (pv 1) (pa_cons (pe_bltn (v := .ty "str") (by rfl) T.str (by decide +kernel) rfl) pa_nil))))
        (pss_one (ps_ret (pe_and (pe_callB call_isi (by rfl) T.isinstance (by decide +kernel) (pa_cons (pv 0) (pa_cons (pe_bltn (v := .ty "str") (by rfl) T.str (by decide +kernel) rfl) pa_nil))) (pe_one (pe_cmpR op_eq (pv 0) (pv 1) (nomark _))))))
        pss_nil)
      (pss_one (ps_ret (pe_and (pe_callB call_isi (by rfl) T.isinstance (by decide +kernel) (pa_cons (pv 0) (pa_cons (pe_bltn (v := .ty "int") (by rfl) T.int (by decide +kernel) rfl) pa_nil))) (pe_and (pe_not (pe_callB call_isi (by rfl) T.isinstance (by decide +kernel) (pa_cons (pv 0) (pa_cons (pe_bltn (v := .ty "bool") (by rfl) T.bool (by decide +kernel) rfl) pa_nil)))) (pe_one (pe_cmpR op_eq (pv 0) (pv 1) (nomark _))))))))), ?_⟩
    intro D Q x y d ix iy hD nt nn hq
    cases ix with
    | non => exact absurd rfl nn
    | tup _ _ => exact absurd rfl (nt _)
    | bl b =>
      cases iy
      refine ⟨_, rfl, _, _, _, _, true, rfl, .ty _, .base (.bl b), kit_ty (by decide +kernel), _, rfl, iteT ?_⟩
      refine ⟨_, rfl, _, _, _, _, true, rfl, .ty _, .base (.bl b), kit_ty (by decide +kernel), _, rfl, iteT ?_⟩
      refine ⟨_, rfl, _, rfl, rfl, ?_⟩
      rw [hD, decide_eq_true rfl]
      exact hq
    | int i =>
      cases iy
      refine ⟨_, rfl, _, _, _, _, false, rfl, .ty _, .base (.int i), kit_ty (by decide +kernel), _, rfl, iteF ?_⟩
      refine ⟨_, rfl, _, _, _, _, false, rfl, .ty _, .base (.int i), kit_ty (by decide +kernel), _, rfl, iteF ?_⟩
      refine ⟨_, rfl, _, _, _, _, true, rfl, .ty _, .base (.int i), kit_ty (by decide +kernel), _, rfl, iteT ?_⟩
      refine ⟨_, rfl, _, _, _, _, false, rfl, .ty _, .base (.int i), kit_ty (by decide +kernel), _, rfl, _, rfl, iteT ?_⟩
      refine ⟨_, rfl, _, rfl, rfl, ?_⟩
      rw [hD, decide_eq_true rfl]
      exact hq
    | str z =>
      cases iy
      refine ⟨_, rfl, _, _, _, _, false, rfl, .ty _, .base (.str z), kit_ty (by decide +kernel), _, rfl, iteF ?_⟩
      refine ⟨_, rfl, _, _, _, _, true, rfl, .ty _, .base (.str z), kit_ty (by decide +kernel), _, rfl, iteT ?_⟩
      refine ⟨_, rfl, _, _, _, _, true, rfl, .ty _, .base (.str z), kit_ty (by decide +kernel), _, rfl, iteT ?_⟩
      refine ⟨_, rfl, _, rfl, rfl, ?_⟩
      rw [hD, decide_eq_true rfl]
      exact hq
  have len : ∀ n vs H Q E, spSame K n vs H Q E → vs.length = (["_law_actual", "_law_due_here"] : List Str).length := fun n vs H Q E s => by obtain ⟨_, _, _, rfl, _⟩ := s; rfl
  -- what is asked of all but a tuple
  have notT : ∀ {H : Hp} {y : V} {d : PyData}, Im K H y d → (∀ ds, d ≠ .tuple ds) → ∃ t, TyX K H y t ∧ PySem.W.kitOne K t (.type "tuple") = some false := by
    intro H y d iy nt
    cases iy with
    | non => exact ⟨_, .base .non, kit_ty (by decide +kernel)⟩
    | bl b => exact ⟨_, .base (.bl b), kit_ty (by decide +kernel)⟩
    | int i => exact ⟨_, .base (.int i), kit_ty (by decide +kernel)⟩
    | str z => exact ⟨_, .base (.str z), kit_ty (by decide +kernel)⟩
    | tup _ _ => exact absurd rfl (nt _)
  intro n
  induction n with
  | zero =>
    refine cal_of F.1 F.2 sc_same (fun _ _ _ _ _ _ us e => match us, e with | [_, _], _ => rfl) (len 0) ?_
    intro cdv A outer s H vs Q E hr h
    obtain ⟨x, y, d, rfl, ix, iy, fit, hq⟩ := h
    obtain ⟨t, pt, ht⟩ := flat 0 cdv A outer s H E hr
    refine ⟨_, (pss_cons (ps_if (pt_val (pe_callB call_isi (by rfl) T.isinstance (by decide +kernel) (pa_cons (pv 1) (pa_cons (pe_bltn (v := .ty "tuple") (by rfl) T.tuple (by decide +kernel) rfl) pa_nil))))
        (pss_cons ps_never (pss_cons ps_never (pss_one ps_never)))
        pss_nil)
      (pss_cons (ps_if (pt_cmpR op_isN (pv 1) pe_non (nomark _))
        (pss_one (ps_ret (pe_cmpR op_isN (pv 0) pe_non (nomark _))))
        pss_nil)
      pt)), ?_⟩
    have nt : ∀ ds, d ≠ .tuple ds := fun ds z => by rw [z] at fit; exact fit
    obtain ⟨ty, h1, h2⟩ := notT iy nt
    refine ⟨_, rfl, _, _, _, _, false, rfl, .ty _, h1, h2, _, rfl, iteF ⟨_, rfl, rfl, _, rfl, if_dec (fun c => ?_) (fun c => ?_)⟩⟩
    · subst c
      cases iy
      cases ix
      refine ⟨_, rfl, rfl, ?_⟩
      rw [decide_eq_true rfl]
      exact hq
    · exact ht _ Q x y d ix iy rfl nt (fun z => by subst z; cases iy; exact c rfl) hq
  | succ n ih =>
    refine cal_of F.1 F.2 sc_same (fun _ _ _ _ _ _ us e => match us, e with | [_, _], _ => rfl) (len (n + 1)) ?_
    intro cdv A outer s H vs Q E hr h
    obtain ⟨x, y, d, rfl, ix, iy, fit, hq⟩ := h
    have sc := sc_same
    obtain ⟨t, pt, ht⟩ := flat (n + 1) cdv A outer s H E hr
    refine ⟨_, (pss_cons (ps_if (pt_val (pe_callB call_isi (by rfl) T.isinstance (by decide +kernel) (pa_cons (pv 1) (pa_cons (pe_bltn (v := .ty "tuple") (by rfl) T.tuple (by decide +kernel) rfl) pa_nil))))
        (pss_cons (ps_if (PW.pt (pw_or (pt_not (pt_val (pe_callB call_isi (by rfl) T.isinstance (by decide +kernel) (pa_cons (pv 0) (pa_cons (pe_bltn (v := .ty "tuple") (by rfl) T.tuple (by decide +kernel) rfl) pa_nil))))) (pw_or1 (pt_cmpR op_ne (pe_callB call_len_seq (by rfl) T.len (by decide +kernel) (pa_cons (pv 0) pa_nil)) (pe_callB call_len_seq (by rfl) T.len (by decide +kernel) (pa_cons (pv 1) pa_nil)) (nomark _)))))
          (pss_one (ps_ret pe_bl))
          pss_nil)
        (pss_cons (ps_for (passes_of rfl) rfl (pi_range1 rfl T.range (pa_cons (pe_callB call_len_seq (by rfl) T.len (by decide +kernel) (pa_cons (pv 1) pa_nil)) pa_nil)) (pg_name (i := 2) sc.nd rfl (Or.inl rfl))
          (pss_one (ps_if (pt_not (pt_val (pe_cal ih hr (pa_cons (pe_ix ix_tup (pv 0) (pv 2) (fun _ _ => rfl)) (pa_cons (pe_ix ix_tup (pv 1) (pv 2) (fun _ _ => rfl)) pa_nil)) (Nat.le_refl _))))
            (pss_one (ps_ret pe_bl))
            pss_nil)))
        (pss_one (ps_ret pe_bl))))
        pss_nil)
      (pss_cons (ps_if (pt_cmpR op_isN (pv 1) pe_non (nomark _))
        (pss_one (ps_ret (pe_cmpR op_isN (pv 0) pe_non (nomark _))))
        pss_nil)
      pt)), ?_⟩
    by_cases nt : ∀ ds, d ≠ .tuple ds
    · obtain ⟨ty, h1, h2⟩ := notT iy nt
      refine ⟨_, rfl, _, _, _, _, false, rfl, .ty _, h1, h2, _, rfl, iteF ⟨_, rfl, rfl, _, rfl, if_dec (fun c => ?_) (fun c => ?_)⟩⟩
      · subst c
        cases iy
        cases ix
        refine ⟨_, rfl, rfl, ?_⟩
        rw [decide_eq_true rfl]
        exact hq
      · exact ht _ Q x y d ix iy rfl nt (fun z => by subst z; cases iy; exact c rfl) hq
    · obtain ⟨ds, rfl⟩ : ∃ ds, d = .tuple ds := by
        cases d with
        | tuple ds => exact ⟨ds, rfl⟩
        | _ => exact absurd (fun _ z => by cases z) nt
      obtain ⟨a, xs, rfl, ta, ia⟩ := ix.tupI
      obtain ⟨b, ys, rfl, tb, ib⟩ := iy.tupI
      have la := ia.len
      have lb := ib.len
      have hz : ds.length ≤ 1000000 := fit.1
      refine ⟨_, rfl, _, _, _, _, true, rfl, .ty _, tyx_tup tb, kit_ty (by decide +kernel), _, rfl, iteT ?_⟩
      refine ⟨_, rfl, _, _, _, _, true, rfl, .ty _, tyx_tup ta, kit_ty (by decide +kernel), _, rfl, iteF ?_⟩
      refine ⟨_, rfl, a, _, rfl, .inr ta, _, rfl, b, _, rfl, .inr tb, rfl, _, rfl, ?_⟩
      rw [la, lb, decide_eq_true rfl]
      refine iteF ⟨_, rfl, b, _, rfl, .inr tb, _, rfl, by omega, by omega, for_rng (n := ys.length) (fun i σ H' => ∃ t2, σ = [some (.ref a), some (.ref b), t2] ∧ H' = H) ⟨_, rfl, rfl⟩ ?_ ?_⟩
      · rintro i σ H1 hi ⟨t2, rfl, rfl⟩
        obtain ⟨d, ed⟩ : ∃ d, ds[i]? = some d := ⟨_, List.getElem?_eq_getElem (by omega)⟩
        obtain ⟨u, eu, iu⟩ := ia.get ed
        obtain ⟨v, ev, iv⟩ := ib.get ed
        exact ⟨_, rfl, _, rfl, a, _, _, _, rfl, rfl, ta, atI_nat eu, _, rfl, _, rfl, b, _, _, _, rfl, rfl, tb, atI_nat ev, u, v, d, rfl, iu, iv, fit.2 d (List.mem_of_getElem? ed), _, rfl, iteF ⟨_, rfl, rfl⟩⟩
      · rintro σ H1 ⟨t2, rfl, rfl⟩
        exact hq
end
end Sy
/-! isinstance of a caught own error that has fields (own rule) -/
namespace Sy
open PySem PySem.Spec PySem.Calls PySem.W PyProof.Rows L2
section
variable {prog : Program} {w : World} {A : Around} {E : Value → Shared → Prop} {s : Shared} {K : PySem.W.Frag} {x D : Addr} {ox od : Obj}
theorem findX {C : Addr} {name : Str} {a g : Value} (hc : (clsIn K C).isSome = true) (ha : findIn K (.ref C) name = some (some a)) (hg : specialIn K a "__get__" = some (some g)) (ht : takesIn K a = some true) : findObj K C (some od) name = some (.bind g a) := by
  obtain ⟨cd, hc⟩ := Option.isSome_iff_exists.mp hc
  unfold findObj
  rw [hc, Option.bind_some, ha, Option.bind_some]
  simp [hg, ht]
theorem classX {Q : Option Value → Shared → Prop} (C : ExcC K D) (X : K.In s.heap) (I : PySem.W.InstAt s.heap x ox D (some od)) (h : Q (some (.ref D)) { s with toks := s.toks + 1 }) : wpAny (model prog w) A (getAttr? (.ref x) "__class__") Q E s := by
  have hf : findObj K D (some od) "__class__" = some (.bind (.builtin "getset_descriptor.__get__") (.builtin "object.__class__")) := findX (by obtain ⟨cd, hc, _⟩ := any_some C.hd; rw [hc]; rfl) C.ha C.hn C.ht
  obtain ⟨hp, g, d, t, os⟩ := s
  have L0 := I.type (M := model prog w)
  have L1 := looks_findIn (M := model prog w) X C.hg
  have L2 := looks_findIn (M := model prog w) X C.hk
  have L3 := looks_find (M := model prog w) X I hf
  have sub : Looks (model prog w) hp (isInstance (.ref x) (.type "BaseException")) true := L0.andThen (looks_subIn X C.hs)
  have n1 : (false && onTheHeap (Value.builtin "BaseException.__getattribute__")) = false := rfl
  have n2 : (onTheHeap (Value.ref D) && Value.builtin "BaseException.__getattribute__" == Value.builtin "object.__getattribute__") = false := by
    rw [show (Value.builtin "BaseException.__getattribute__" == Value.builtin "object.__getattribute__") = false by decide +kernel]; rfl
  unfold getAttr? getAttrBy? getAttrBy
  refine wpAny_bind (wpAny_mkText (wpAny_bind (wpAny_attempt (wpAny_holding (wpAny_bind (L0.at (wpAny_bind (L1.at ?_))))))))
  show wpAny _ _ (if (onTheHeap (Value.ref D) && Value.builtin "BaseException.__getattribute__" == Value.builtin "object.__getattribute__") = true then _ else _) _ _ _
  rw [n2, if_neg Bool.false_ne_true]
  unfold getAttrByItsOwn hookBefore
  refine wpAny_bind ?_
  rw [if_pos (show onTheHeap (Value.ref D) = true from rfl)]
  refine L2.at ?_
  refine wpAny_bind (wpAny_attempt (wpAny_holding ?_))
  unfold callGetattribute
  rw [n1, if_neg Bool.false_ne_true]
  unfold boundAndCalled
  rw [PySem.F.excAttr_ValueError.ga.bind (.ref x)]
  refine wpAny_bind (wpAny_pure ?_)
  show wpAny _ _ (call (.builtin "BaseException.__getattribute__") [.ref x, .str "__class__" t]) _ _ _
  refine wpAny_call (codeAny_call_builtin PySem.F.excAttr_ValueError.ga.plain PySem.F.entry_bexc_ga ?_)
  refine @check_slot (model prog w) _ _ ⟨hp, g, d, t + 1, os⟩ "BaseException.__getattribute__" "BaseException" "__getattribute__" (.ref x) [.str "__class__" t] [] _ (by decide +kernel) (by decide +kernel) sub (PySem.F.args_bexc_ga (.ref x) (.str "__class__" t)) ?_
  unfold Builtin.«object.__getattribute__»
  refine wpAny_bind (wpAny_of_eq (a := ((Value.ref x : Value), [Value.str "__class__" t])) (by first | rfl | (simp only [slotArgs]; rfl)) ?_)
  refine wpAny_bind (wpAny_pure (wpAny_bind (L0.at (wpAny_bind (L3.at ?_)))))
  show wpAny _ _ (holding [Value.builtin "object.__class__"] (call (.builtin "getset_descriptor.__get__") [.builtin "object.__class__", .ref x, .ref D]) >>= ret) _ _ _
  refine wpAny_bind (wpAny_holding (wpAny_call (class_get (s := ⟨hp, g, d, t + 1, os⟩) (ox := ox) (od := some od) X I C.hm ?_)))
  refine wpAny_pure ?_
  show wpAny _ _ (handedOut (.ref D)) _ _ _
  rw [handedOut_of (v := .ref D) rfl]
  first
    | exact wpAny_pure (wpAny_pure h)
    | exact wpAny_pure h
    | exact wpAny_pure (wpAny_bind (wpAny_pure (wpAny_pure h)))
theorem kitX (C : ExcC K D) : KitX K (.ref x) (.ref D) (fun h => PySem.W.InstAt h x ox D (some od)) where
  ty := fun _ _ _ I => I.type
  it := fun _ _ X _ => by
    obtain ⟨cdD, hcD, _⟩ := any_some C.hd
    unfold clsIn at hcD
    split at hcD
    · rename_i c' d' cd' sl' ho
      intro A' Q' E' s' k q
      unfold isType loadHead
      exact wpAny_bind (wpAny_loadPart (k _ _ (X _ _ ho)) (wpAny_pure q))
    · cases hcD
  ne := fun h tp dd its n sl X htp => by
    obtain ⟨cdD, hcD, _⟩ := any_some C.hd
    refine Bool.eq_false_iff.mpr fun q => ?_
    have e : D = tp := Value.ref.inj (beq_iff_eq.mp q)
    subst e
    unfold clsIn at hcD
    split at hcD
    · rename_i c' d' cd' sl' ho
      have z := (X _ _ ho).symm.trans htp
      cases z
    · cases hcD
  ca := fun X I k => classX C X I k
end
/-- isinstance(e, c): which class e has is told by the reading -/
def rIsX (K : PySem.W.Frag) (a : Addr) (cls : Value) (d : Option Addr) : List V → Hp → VK → Prop := fun xs H Q => ∃ (D dd : Addr) (fs : List (Str × V)) (c : V) (cv : Value) (b : Bool), cls = .ref D ∧ d = some dd ∧ H dd = some (.xd fs) ∧ ExcC K D ∧ xs = [.ref a, c] ∧ (∀ u, RelV c u → u = cv) ∧ PySem.W.kitOne K (.ref D) cv = some b ∧ Q (.bl b) H
theorem call_isX {X : Cx} {a : Addr} {cls : Value} {d : Option Addr} {oe : Obj} {pn : List (Addr × Obj)} (hz : Zc cls d oe) (hf : ∃ vs, oe.data = .fields vs) : CallR (X.suite a ((a, oe) :: pn)) (.builtin "isinstance") (rIsX X.K a cls d) := by
  intro pins s σ H xs us Q I r h
  obtain ⟨D, dd, fs, c, cv, b, rfl, rfl, ea, C, rfl, hcv, e, q⟩ := h
  obtain ⟨u, u2, rfl, rx, rt⟩ : ∃ u u2, us = [u, u2] ∧ RelV (.ref a) u ∧ RelV c u2 := by
    cases r with
    | cons r rr => cases rr with
      | cons r' rr => cases rr; exact ⟨_, _, rfl, r, r'⟩
  cases rx
  have ec := hcv _ rt
  subst ec
  obtain ⟨hget, _⟩ := I.pin (a, oe) (List.mem_append.mpr (.inl List.mem_cons_self))
  obtain ⟨vs, hv⟩ := hf
  have hx : ObjOk X.prog X.w H s.heap dd (.xd fs) := I.hok dd _ ea
  obtain ⟨mA, hns, hr⟩ := hx
  obtain ⟨od, ho, hl⟩ := lookIn_ns hns
  have J : PySem.W.InstAt s.heap a oe D (some od) := ⟨hget, hz.1, by unfold PySem.W.notCls; rw [hv] <;> rfl, by rw [hz.2]; exact ho⟩
  exact PySem.W.kia_one (kitX C) I.kIn J e (fun z => nomatch z) fun tk => ⟨.bl b, H, I.kept (t' := tk) fun _ _ z => z, rfl, q⟩
end Sy
/-! list.count (own rule) -/
namespace Sy
open PySem PySem.Spec PyProof.Rows L2
section
variable {X : Cx}
/-- l.count(y), all flat -/
def rLCnt (K : PySem.W.Frag) : V → List V → Hp → VK → Prop := fun x xs H Q => ∃ (a : Addr) (ys : List V) (y : V), x = V.ref a ∧ xs = [y] ∧ SqL K H a ys ∧ flatV y = true ∧ ys.all flatV = true ∧ Q (.int (ys.countP fun z => eqV z y : Nat)) H
theorem mt_lcountF : MtR X "list.count" (rLCnt X.K) := by
  intro pins s σ H x xs v us Q I rx rxs h
  obtain ⟨a, ys, y, rfl, rfl, hs, fy, fys, q⟩ := h
  cases rx
  cases rxs with
  | cons ry rt =>
    rename_i uy ut
    cases rt
    obtain ⟨its, rv, ⟨⟨cls, dd, data, sl⟩, n, ho, hc, hdn, hd⟩, hlen⟩ := I.list hs
    simp only at hc hd
    subst hc hd
    refine call_meets PySem.F.slot_list_count ⟨_, ho, rfl⟩ PySem.F.entry_list_count (PySem.F.args_list_count_2 _ _) (SeqAt.list_countAt a its.toArray n dd sl uy (eqU y)) ⟨ho, fun u' hu' => mem_eqAt ry fy rv fys u' (by simpa using hu'), ?_⟩
    have e1 : its.toArray.toList.countP (eqU y) = ys.countP fun z => eqV z y := by
      rw [← countU rv fys]
    rw [e1]
    exact ⟨.int (ys.countP fun z => eqV z y : Nat), H, I.tok _, ⟨_, rfl⟩, q⟩
end
end Sy
/-! a def that is given the caught error: _law_own -/
namespace Sy
open PySem PySem.Spec PyProof.Rows L2
/-- a caught error: its place, its class, its fields -/
abbrev EV : Type := Addr × Value × Option Addr
/-- o stands at a, outside of what is tracked, and is such an error -/
def EvO (ev : EV) (p : Addr × Obj) : Prop := p.1 = ev.1 ∧ Zc ev.2.1 ev.2.2 p.2 ∧ ∃ vs, p.2.data = .fields vs
structure FnP (P : Program) (w : World) (K : PySem.W.Frag) (mg : Str → Option Value) (base : Heap) (k : Nat) (f : Addr) (fd : FuncData) (ps : List Str) (sp : EV → Sp) : Prop where
  len : ∀ ev vs H Q E, sp ev vs H Q E → vs.length = ps.length
  run : ∀ (A : Around) (outer : List Env) (s : Shared) (H : Hp) (args : Args) (us : List Value) (vs : List V) (Q : VK) (E : XK) (p : Addr × Obj) (ev : EV), L2H.RoomH k A → EvO ev p → L2H.PinOk outer H s p → Env0 P w K mg base A outer s H → BindsTo s fd args (ps.zip us) → Vals vs us → sp ev vs H Q E →
    codeAny (model P w) A (.call (.ref f) args) (CR (L2.CX P w) outer P w H s Q E) s
section
variable {P : Program} {w : World} {K : PySem.W.Frag} {mg : Str → Option Value} {base : Heap}
theorem fnP_of {x q : Str} {st : Stmt} {f : Addr} {fd : FuncData} {N ps : List Str} {k : Nat} {sp : EV → Sp} (F : FunD K x q (defArgs st) (defBody st) (defScope st) [] [] f fd) (S : FnScope N ps (defScope st)) (len : ∀ ev vs H Q E, sp ev vs H Q E → vs.length = ps.length)
    (body : ∀ (cdv : Value) (A : Around) (outer : List Env) (s : Shared) (H : Hp) (vs : List V) (Q : VK) (E : XK) (p : Addr × Obj) (ev : EV), EvO ev p → L2H.RoomH k (A.deeper (envOfC q (defScope st) s.heap.objs.size f cdv)) → sp ev vs H Q E →
      ∃ t, PSs (L2H.cxH (L2.CX P w) P w K mg base N q (defScope st) f cdv A outer s H E p) (defBody st) t ∧ t { nx := fun _ H' => Q .non H', rt := Q } (L2.start N vs) H) : FnP P w K mg base (k + 1) f fd ps sp := by
  obtain ⟨oc, od, dV, kV, doc, pm, an, cdv, ct, osl, rfl, lk, hcd, _, _⟩ := F.ex
  refine ⟨len, ?_⟩
  intro A outer s H args us vs Q E p ev hr hev hpin e0 hb r h
  have KX : K.In s.heap := e0.mod.kin.keeps fun b o e => (e0.bs b o e).1
  have lim : s.heap.NoLimit := e0.mod.nolimit.keeps fun b o e => (e0.bs b o e).1
  have S2 := S.par
  refine codeAny_call_function hr.depth (KX _ _ lk) rfl S.co S.gen rfl (PySem.W.codeRec_of KX hcd) (hb _ _ _ _ (wpAny_newFunctionEnv_cells S.kind (fun y hy => ?_) fun env he s1 x => ?_))
  · rcases S2 y.1 (List.of_mem_zip (show (y.1, y.2) ∈ ps.zip us from hy)).1 with z | z
    · exact .inl z
    · exact .inr ⟨z, PySem.W.cellsFrom_some _ _ _ (.inl z)⟩
  · subst he
    refine ⟨lim.keeps x.toInCall.keep, codeAny_func ?_⟩
    obtain ⟨t, ht, hq⟩ := body cdv A outer s H vs Q E p ev hev (hr.deeper _) h
    have I := L2H.inv_startH (CX := L2.CX P w) (E := E) S hpin e0 (len _ _ _ _ _ h) r x
    refine wpAny_mono (ht.run [] s1 (L2.start N vs) H _ I hq) (fun fl s' hs => ?_) fun e s' hs => hs
    cases fl with
    | brk =>
      obtain ⟨_, _, _, z⟩ := hs
      exact z.elim
    | cont =>
      obtain ⟨_, _, _, z⟩ := hs
      exact z.elim
    | next =>
      obtain ⟨σ', H', J, z⟩ := hs
      exact ⟨V.non, H', J.os, J.bare, J.base, J.hok, rfl, z⟩
    | ret u =>
      obtain ⟨v, σ', H', J, rv, z⟩ := hs
      exact ⟨v, H', J.os, J.bare, J.base, J.hok, rv, z⟩
end
section
variable {X : Cx} {k : Nat} {f : Addr} {fd : FuncData} {ps : List Str} {sp : EV → Sp} {x : Str} {q pos : Pos} {e : Expr} {es : List Expr} {t : TA} {p : Addr × Obj} {ev : EV}
/-- f(e, ..) in an except suite; f is given the error -/
theorem pe_calP (F : FnP X.prog X.w X.K X.mg X.base k f fd ps sp) (hr : L2H.RoomH k X.A) (hev : EvO ev p) (hp : p ∈ X.pn) (hg : Gl X x) (hm : X.mg x = some (.ref f)) (hk : PySem.W.keepIn X.K (.ref f) = true) (hb : Binds X.K fd ps [])
    (ha : PA X (e :: es) t) (hdb : (x == ("__debug__" : Str)) = false := by decide) (he : starEach (e :: es) X.env = (false, eval e X.env) :: starEach es X.env := by rfl) (hpl : (backTo pos (starEach es X.env)).any (·.1) = false := by rfl) :
    PE X (.Call (.Name x q) (e :: es) [] pos) (fun σ H Q => t σ H fun vs H1 => sp ev vs H1 Q L2.E0) := by
  constructor
  intro pins s σ H Q I h
  refine wpAny_Call_Name_kw (ld_glob I hg hm ?_ hdb)
  refine PySem.W.callWith_K (h₀ := X.base) I.ok.mod.kin hk (thn (ha.run pos pins s σ H _ I h) fun us s1 ⟨vs, H1, I1, r, hq⟩ => ⟨I1.kIn, ?_⟩) he hpl
  have hl : us.length = ps.length := by rw [← r.length]; exact F.len _ _ _ _ _ hq
  have b := hb s1 us I1.kIn (by rw [List.append_nil]; exact hl)
  rw [List.append_nil] at b
  obtain ⟨p1, p2, p3, p4, p5⟩ := I1.pin p (List.mem_append_left _ hp)
  have hpin : L2H.PinOk X.stack H1 s1 p := ⟨p1, p2, fun hm => (List.mem_cons.mp (I1.stkSub p.1 hm)).elim p3 p4, p5⟩
  refine wpAny_call (codeAny_mono (F.run X.A X.stack s1 H1 ⟨us, []⟩ us vs Q L2.E0 p ev hr hev hpin I1.env0 b r hq) fun fl s' z => ?_)
  cases fl with
  | error e => exact passL pins σ H1 s1 e s' I1 z
  | ok fl =>
    cases fl with
    | ret u => exact I1.after z
    | next => exact z.elim
    | brk => exact z.elim
    | cont => exact z.elim
/-- isinstance(e, c) of the error that is given -/
def rIsP (K : PySem.W.Frag) (ev : EV) : List V → Hp → VK → Prop := fun xs H Q => ∃ (D : Addr) (c : V) (cv : Value) (b : Bool), ev.2.1 = .ref D ∧ (ev.2.2 = none ∨ ∃ dd fs, ev.2.2 = some dd ∧ H dd = some (.xd fs)) ∧ ExcC K D ∧ xs = [.ref ev.1, c] ∧ (∀ u, RelV c u → u = cv) ∧ PySem.W.kitOne K (.ref D) cv = some b ∧ Q (.bl b) H
theorem call_isP (hev : EvO ev p) (hp : p ∈ X.pn) : CallR X (.builtin "isinstance") (rIsP X.K ev) := by
  intro pins s σ H xs us Q I r h
  obtain ⟨D, c, cv, b, e1, e2, C, rfl, hcv, e, q⟩ := h
  obtain ⟨u, u2, rfl, rx, rt⟩ : ∃ u u2, us = [u, u2] ∧ RelV (.ref ev.1) u ∧ RelV c u2 := by
    cases r with
    | cons r rr => cases rr with
      | cons r' rr => cases rr; exact ⟨_, _, rfl, r, r'⟩
  cases rx
  have ec := hcv _ rt
  subst ec
  obtain ⟨hget, _⟩ := I.pin p (List.mem_append_left _ hp)
  obtain ⟨hp1, hz, vs, hv⟩ := hev
  obtain ⟨a, oe⟩ := p
  simp only at hp1 hz hv hget
  subst hp1
  obtain ⟨a, cls, d⟩ := ev
  simp only at e1 e2 hz hget ⊢
  subst e1
  rcases e2 with e2 | ⟨dd, fs, e2, ed⟩
  · subst e2
    have J : PySem.W.InstAt s.heap a oe D none := by
      obtain ⟨oc, od, oda, osl⟩ := oe
      obtain ⟨h1, h2⟩ := hz
      dsimp only at h1 h2 hv
      subst h1 h2 hv
      exact ⟨hget, rfl, rfl, trivial⟩
    exact PySem.W.kia_one (PySem.W.handS_kitx_exc C.hg C.hk C.hs C.hd C.ha C.hn C.ht C.hm) I.kIn J e (fun z => nomatch z) fun tk => ⟨.bl b, H, I.kept (t' := tk) fun _ _ z => z, rfl, q⟩
  · subst e2
    obtain ⟨mA, hns, hr⟩ : ObjOk X.prog X.w H s.heap dd (.xd fs) := I.hok dd _ ed
    obtain ⟨od, ho, hl⟩ := lookIn_ns hns
    have J : PySem.W.InstAt s.heap a oe D (some od) := ⟨hget, hz.1, by unfold PySem.W.notCls; rw [hv] <;> rfl, by rw [hz.2]; exact ho⟩
    exact PySem.W.kia_one (kitX C) I.kIn J e (fun z => nomatch z) fun tk => ⟨.bl b, H, I.kept (t' := tk) fun _ _ z => z, rfl, q⟩
end
/-! _law_own -/
structure MetT (K : PySem.W.Frag) (mg : Str → Option Value) : Prop where
  exc : ∀ k, k < 4 → ExcC K (He.ga K (fou k))
  kit : ∀ k j, k < 4 → j < 4 → PySem.W.kitOne K (.ref (He.ga K (fou k))) (.ref (He.ga K (fou j))) = some (decide (k = j))
  exm : ∀ k j, k < 4 → j < 4 → PySem.W.exmOne K (.ref (He.ga K (fou k))) (.ref (He.ga K (fou j))) = some (decide (k = j))
  val : ∀ k, k < 4 → PySem.W.kitOne K (.ref (He.ga K (fou k))) (.type "ValueError") = some true
  yrd : ∀ k, k < 4 → PySem.W.kitOne K (.ref (He.ga K (fou k))) (.ref (He.ga K "YardError")) = some true
  at_ : ∀ k, k < 4 → mg (fou k) = some (.ref (He.ga K (fou k)))
  yard : mg "YardError" = some (.ref (He.ga K "YardError"))
  ve : mg "ValueError" = none
theorem cnt4 (k : Nat) (h : k < 4) : ([V.bl (decide (k = 0)), .bl (decide (k = 1)), .bl (decide (k = 2)), .bl (decide (k = 3))] : List V).countP (fun z => eqV z (.bl true)) = 1 := by
  match k, h with
  | 0, _ => rfl
  | 1, _ => rfl
  | 2, _ => rfl
  | 3, _ => rfl
section
variable {P : Program} {w : World} {K : PySem.W.Frag} {mg : Str → Option Value} {base : Heap}
def spOwn (K : PySem.W.Frag) : EV → Sp := fun ev vs H Q _ => ∃ i, i < 4 ∧ ev.2.1 = .ref (He.ga K (fou i)) ∧ (ev.2.2 = none ∨ ∃ dd fs, ev.2.2 = some dd ∧ H dd = some (.xd fs)) ∧ vs = [.ref ev.1] ∧ ∀ H', Same H H' → Q (.bl true) H'
abbrev N_own : List Str := ["_law_e", "_law_told"]
theorem sc_own : FnScope N_own ["_law_e"] (defScope (top 57)) := ⟨rfl, rfl, rfl, by decide +kernel, rfl, by decide +kernel, by decide +kernel⟩
theorem f_own (T : TxtC mg) (M : MetT K mg) (F : DF K mg "_law_own" 57) : ∃ fd, FnP P w K mg base 1 (He.ga K "_law_own") fd ["_law_e"] (spOwn K) ∧ L2.Binds K fd ["_law_e"] [] ∧ mg "_law_own" = some (.ref (He.ga K "_law_own")) ∧ PySem.W.keepIn K (.ref (He.ga K "_law_own")) = true := by
  obtain ⟨⟨fd, F⟩, at_⟩ := F
  refine ⟨fd, fnP_of F sc_own (fun ev vs H Q E s => by obtain ⟨_, _, _, _, rfl, _⟩ := s; rfl) ?_, F.bindsN (ps := ["_law_e"]) (fun _ _ _ _ _ _ us e => match us, e with | [_], _ => rfl), at_, F.kp⟩
  intro cdv A outer s H vs Q E p ev hev hr h
  obtain ⟨i, hi, hcls, hd, rfl, hq⟩ := h
  have sc := sc_own
  have hp : p ∈ (L2H.cxH (L2.CX P w) P w K mg base N_own "_law_own" (defScope (top 57)) (He.ga K "_law_own") cdv A outer s H E p).pn := List.mem_cons_self
  refine ⟨_, (pss_cons (ps_set (i := 1) sc.nd rfl (Or.inl rfl) (pe_lst (pa_cons (pe_callB (call_isP hev hp) (by rfl) T.isinstance (by decide +kernel) (pa_cons (pv 0) (pa_cons (pe_glob (v := .ref (He.ga K "TooMany")) rfl (M.at_ 0 (by decide)) rfl) pa_nil)))
      (pa_cons (pe_callB (call_isP hev hp) (by rfl) T.isinstance (by decide +kernel) (pa_cons (pv 0) (pa_cons (pe_glob (v := .ref (He.ga K "InvalidStump")) rfl (M.at_ 1 (by decide)) rfl) pa_nil)))
      (pa_cons (pe_callB (call_isP hev hp) (by rfl) T.isinstance (by decide +kernel) (pa_cons (pv 0) (pa_cons (pe_glob (v := .ref (He.ga K "InvalidTrim")) rfl (M.at_ 2 (by decide)) rfl) pa_nil)))
      (pa_cons (pe_callB (call_isP hev hp) (by rfl) T.isinstance (by decide +kernel) (pa_cons (pv 0) (pa_cons (pe_glob (v := .ref (He.ga K "OtherBed")) rfl (M.at_ 3 (by decide)) rfl) pa_nil))) pa_nil))))))
      (pss_one (ps_ret (pe_and (pe_cmpR op_eq (pe_bm PySem.F.plainAttrs_list PySem.F.slot_list_count PySem.F.type_list_count mt_lcountF (pv 1) (pa_cons pe_bl pa_nil)) pe_int (nomark _)) (pe_and (pe_callB (call_isP hev hp) (by rfl) T.isinstance (by decide +kernel) (pa_cons (pv 0) (pa_cons (pe_glob (v := .ref (He.ga K "YardError")) rfl M.yard rfl) pa_nil))) (pe_one (pe_callB (call_isP hev hp) (by rfl) T.isinstance (by decide +kernel) (pa_cons (pv 0) (pa_cons (pe_bltn (v := .ty "ValueError") (by rfl) M.ve (by decide +kernel) rfl) pa_nil))))))))), ?_⟩
  have C := M.exc i hi
  refine ⟨_, rfl, _, _, _, _, hcls, hd, C, rfl, fun _ z => z, M.kit i 0 hi (by decide), _, rfl, _, _, _, _, hcls, hd, C, rfl, fun _ z => z, M.kit i 1 hi (by decide), _, rfl, _, _, _, _, hcls, hd, C, rfl, fun _ z => z, M.kit i 2 hi (by decide), _, rfl, _, _, _, _, hcls, hd, C, rfl, fun _ z => z, M.kit i 3 hi (by decide), (by show 4 ≤ sizeLine; decide), fun L hL => ?_⟩
  have s1 := up_same (o := .lst [V.bl (decide (i = 0)), .bl (decide (i = 1)), .bl (decide (i = 2)), .bl (decide (i = 3))]) hL
  have e1 : upd H L (.lst [V.bl (decide (i = 0)), .bl (decide (i = 1)), .bl (decide (i = 2)), .bl (decide (i = 3))]) L = some (.lst [V.bl (decide (i = 0)), .bl (decide (i = 1)), .bl (decide (i = 2)), .bl (decide (i = 3))]) := upd_same
  have hd1 : ev.2.2 = none ∨ ∃ dd fs, ev.2.2 = some dd ∧ upd H L (.lst [V.bl (decide (i = 0)), .bl (decide (i = 1)), .bl (decide (i = 2)), .bl (decide (i = 3))]) dd = some (.xd fs) := by
    rcases hd with hd | ⟨dd, fs, a, b⟩
    · exact .inl hd
    · exact .inr ⟨dd, fs, a, s1 _ _ b⟩
  generalize upd H L (.lst [V.bl (decide (i = 0)), .bl (decide (i = 1)), .bl (decide (i = 2)), .bl (decide (i = 3))]) = H1 at *
  refine ⟨_, rfl, .inl ⟨rfl, _, SqL.of e1⟩, L, _, _, rfl, rfl, SqL.of e1, rfl, rfl, ?_⟩
  rw [cnt4 i hi]
  refine ⟨rfl, _, rfl, iteT ?_⟩
  refine ⟨_, rfl, _, _, _, _, hcls, hd1, C, rfl, fun _ z => z, M.yrd i hi, _, rfl, iteT ?_⟩
  exact ⟨_, rfl, _, _, _, _, hcls, hd1, C, rfl, fun _ z => z, M.val i hi, hq H1 s1⟩
end
end Sy
/-! try with several clauses, each with a name; what the body raises is caught by one of them -/
namespace Sy
open PySem PySem.Spec PyProof.Rows L2
abbrev ClA : Type := Value × Nat × (Addr → Value → Option Addr → TS)
def wManyA (K : PySem.W.Frag) (D : Ends) : List ClA → WX
  | [] => fun _ _ _ _ => False
  | (c, i, ts) :: r => fun cls d σ H => ∃ b, PySem.W.exmOne K cls c = some b ∧ (b = true → ∀ a, H a = none →
      ts a cls d { nx := fun σ' H' => D.nx (σ'.set i none) H', rt := D.rt, bk := fun σ' H' => D.bk (σ'.set i none) H', ct := fun σ' H' => D.ct (σ'.set i none) H' } (σ.set i (some (.ref a))) H) ∧ (b = false → wManyA K D r cls d σ H)
inductive HdsA (X : Cx) : List ExceptHandler → List ClA → Prop
  | nil : HdsA X [] []
  | cons {x n : Str} {c : Value} {i : Nat} {ts : Addr → Value → Option Addr → TS} {b₀ : Stmt} {suite : List Stmt} {np pos' : Pos} {hds : List ExceptHandler} {l : List ClA} (hi : X.N[i]? = some n) (hln : X.env.kindOf n = some .local) (hc : Names X x c)
      (hsu : ∀ (a : Addr) (oe : Obj) (cls : Value) (d : Option Addr) (pn : List (Addr × Obj)), Zc cls d oe → (∃ vs, oe.data = .fields vs) → PSs (X.suite a ((a, oe) :: pn)) (b₀ :: suite) (ts a cls d)) (r : HdsA X hds l) :
      HdsA X (.ExceptHandler (some (.Name x np)) (some n) (b₀ :: suite) pos' :: hds) ((c, i, ts) :: l)
theorem ps_try_manyA {X : Cx} {body : List Stmt} {h₀ : ExceptHandler} {hds : List ExceptHandler} {l : List ClA} {pos : Pos} {tb : WX → TS} (hs : X.stack = X.env :: X.outer) (hf : X.env.frame = some X.env.locals) (hN : X.N.Nodup)
    (hb : ∀ (W : WX) (pn : List (Addr × Obj)) (xe : Value → Shared → Prop), Takes (X.tr pn xe) W → PassesOwn (model X.prog X.w) X.A X.env xe → PSs (X.tr pn xe) body (tb W))
    (hh : HdsA X (h₀ :: hds) l) : PS X (.Try body (h₀ :: hds) [] [] pos) (fun D σ H => tb (wManyA X.K D l) D σ H) := by
  refine ⟨fun pins s σ H D I h => ?_⟩
  have ok := I.ok
  have fr0 : X.A.frames = some (X.env :: X.outer) := by rw [ok.frames, hs]
  apply wpAny_Try_except
  refine wpAny_mono ((hb (wManyA X.K D l) (X.pn ++ pins) (fun e s₁ => wpAny (model X.prog X.w) X.A (noteFrame e X.env) (fun _ s₂ => wpAny (model X.prog X.w) X.A (setFlight e none) (fun _ s₃ =>
    wpAny (model X.prog X.w) X.A (handleBy e X.env (h₀ :: hds)) (SP X pins D) X.xe s₃) X.xe s₂) X.xe s₁) (fun u s' q => ?cat) PassesOwn.looking).run [] s σ H D (I.toTry _) h) (fun f s1 q => ?fin) (fun _ _ q => q)
  case fin =>
    cases f
    case next =>
      obtain ⟨_, _, J, z⟩ := q
      exact wpAny_execs_nil ⟨_, _, J.ofTry ok, z⟩
    case brk =>
      obtain ⟨_, _, J, z⟩ := q
      exact ⟨_, _, J.ofTry ok, z⟩
    case cont =>
      obtain ⟨_, _, J, z⟩ := q
      exact ⟨_, _, J.ofTry ok, z⟩
    case ret =>
      obtain ⟨_, _, _, J, rv, z⟩ := q
      exact ⟨_, _, _, J.ofTry ok, rv, z⟩
  case cat =>
    obtain ⟨a, B, sI, pins', σ1, H1, cls, d, rfl, J', nb, up, sky, na, os, ag, hgo⟩ := q
    have J : Inv X pins σ1 H1 sI := J'.ofTry ok
    rw [hs] at sky
    show wpAny (model X.prog X.w) X.A (noteFrame (.ref a) X.env) _ _ _
    refine Sky.land Zc.steady fr0 hf sky fun h3 fl up3 => ?_
    have J3 : Inv X pins σ1 H1 { s' with heap := h3 } := J.landed nb fl.1 (up.trans up3) os ag
    obtain ⟨o3, v3, g3, z3, d3⟩ := fl.there
    have off : a ∉ frs (X.env :: X.outer) := fun hm => by
      obtain ⟨_, _, e', no⟩ := fl.2.2.1.mem hm
      rw [g3] at e'
      cases e'
      exact no _ d3
    have nL : a ≠ X.env.locals := fun z => off (List.mem_filterMap.mpr ⟨X.env, List.mem_cons_self, by rw [hf, z]⟩)
    have nF : a ∉ X.fs := fun hm => by
      obtain ⟨e, he, z⟩ := List.mem_filterMap.mp hm
      exact off (List.mem_filterMap.mpr ⟨e, List.mem_cons_of_mem _ he, z⟩)
    have S3 := J3.suite g3 d3 na nL nF
    have LT : PySem.W.Looks (model X.prog X.w) h3 (typeOf (.ref a)) cls := fun _ _ _ _ k z => wpAny_typeOf_ref (k _ _ g3) (by rw [z3.1]; exact z)
    have go : ∀ {hds' : List ExceptHandler} {l' : List ClA}, HdsA X hds' l' → wManyA X.K D l' cls d σ1 H1 → wpAny (model X.prog X.w) X.A (handleBy (.ref a) X.env hds') (SP X pins D) X.xe { s' with heap := h3 } := by
      intro hds' l' hk
      induction hk with
      | nil =>
        intro w
        exact w.elim
      | @cons x n c i ts b₀ suite np pos' hds2 l2 hi hln hc hsu r ih =>
        intro w
        obtain ⟨bb, hcat, hyes, hno⟩ := w
        refine wpAny_handleBy_cons (codeAny_handlers_test ?_) (by intro z; cases z)
        have LM := PySem.W.exm_one (M := model X.prog X.w) J3.kIn LT hcat
        have go2 : ∀ {Q E : Value → Shared → Prop}, Q c { s' with heap := h3 } → wpAny (model X.prog X.w) (X.A.mark (some (.ref a))) (eval (.Name x np) X.env) Q E { s' with heap := h3 } := fun {Q E} z => by
          rcases hc with ⟨g, dbg, m | ⟨m, v, nn⟩⟩
          · exact ld_glob (X := X.suite a ((a, o3) :: (X.pn ++ pins))) S3 g m z dbg
          · exact ld_blt (X := X.suite a ((a, o3) :: (X.pn ++ pins))) S3 g m v z nn dbg
        refine go2 (LM.here ?_)
        cases bb with
        | false =>
          show wpAny _ X.A (handleBy (.ref a) X.env hds2) _ _ _
          exact ih (hno rfl)
        | true =>
          refine codeAny_handlers_suite_as ?_
          refine HandSPX.lands_againZ fl fun h4 fl4 up4 => ?_
          have J4 : Inv X pins σ1 H1 { s' with heap := h4 } := J.landed nb fl4.1 ((up.trans up3).trans up4) os ag
          obtain ⟨o4, v4, g4, z4, d4⟩ := fl4.there
          refine store_ok (X := X.suite a ((a, o4) :: (X.pn ++ pins))) (v := .ref a) (J4.suite g4 d4 na nL nF) hN hi (.inl hln) rfl (fun s5 S5 => ?_) (.inr hln)
          refine wpAny_mono ((hsu a o4 cls d (X.pn ++ pins) z4 ⟨_, d4⟩).run [] s5 _ H1 _ S5 (hyes rfl a na)) (fun f s6 q => ?_) (fun _ _ z => z.elim)
          have shut : ∀ {σ6 : L2.St} {H6 : Hp} {R : Shared → Prop}, Inv (X.suite a ((a, o4) :: (X.pn ++ pins))) [] σ6 H6 s6 → (∀ s7, Inv X pins (σ6.set i none) H6 s7 → R s7) →
              wpAny (model X.prog X.w) X.A (do bindName X.env n .none; unbindBehindTheSuite X.env n pos') (fun _ s7 => R s7) X.xe s6 := fun S6 k => gone_ok (S6.unsuite ok) hN hi hln k
          cases f
          case next =>
            obtain ⟨_, _, S6, z⟩ := q
            exact shut S6 fun _ J7 => ⟨_, _, J7, z⟩
          case brk =>
            obtain ⟨_, _, S6, z⟩ := q
            exact shut S6 fun _ J7 => ⟨_, _, J7, z⟩
          case cont =>
            obtain ⟨_, _, S6, z⟩ := q
            exact shut S6 fun _ J7 => ⟨_, _, J7, z⟩
          case ret =>
            obtain ⟨_, _, _, S6, rv, z⟩ := q
            exact shut S6 fun _ J7 => ⟨_, _, _, J7, rv, z⟩
    exact go hh hgo
end Sy
/-! try with several clauses, with names and without; what the body raises is caught by one of them -/
namespace Sy
open PySem PySem.Spec PyProof.Rows L2
abbrev ClM : Type := Value × Option Nat × (Addr → Value → Option Addr → TS)
def wManyM (K : PySem.W.Frag) (D : Ends) : List ClM → WX
  | [] => fun _ _ _ _ => False
  | (c, none, ts) :: r => fun cls d σ H => ∃ b, PySem.W.exmOne K cls c = some b ∧ (b = true → ∀ a, H a = none → ts a cls d D σ H) ∧ (b = false → wManyM K D r cls d σ H)
  | (c, some i, ts) :: r => fun cls d σ H => ∃ b, PySem.W.exmOne K cls c = some b ∧ (b = true → ∀ a, H a = none →
      ts a cls d { nx := fun σ' H' => D.nx (σ'.set i none) H', rt := D.rt, bk := fun σ' H' => D.bk (σ'.set i none) H', ct := fun σ' H' => D.ct (σ'.set i none) H' } (σ.set i (some (.ref a))) H) ∧ (b = false → wManyM K D r cls d σ H)
inductive HdsM (X : Cx) : List ExceptHandler → List ClM → Prop
  | nil : HdsM X [] []
  | cons {x n : Str} {c : Value} {i : Nat} {ts : Addr → Value → Option Addr → TS} {b₀ : Stmt} {suite : List Stmt} {np pos' : Pos} {hds : List ExceptHandler} {l : List ClM} (hi : X.N[i]? = some n) (hln : X.env.kindOf n = some .local) (hc : Names X x c)
      (hsu : ∀ (a : Addr) (oe : Obj) (cls : Value) (d : Option Addr) (pn : List (Addr × Obj)), Zc cls d oe → (∃ vs, oe.data = .fields vs) → PSs (X.suite a ((a, oe) :: pn)) (b₀ :: suite) (ts a cls d)) (r : HdsM X hds l) :
      HdsM X (.ExceptHandler (some (.Name x np)) (some n) (b₀ :: suite) pos' :: hds) ((c, some i, ts) :: l)
  | consN {x : Str} {c : Value} {ts : Addr → Value → Option Addr → TS} {b₀ : Stmt} {suite : List Stmt} {np pos' : Pos} {hds : List ExceptHandler} {l : List ClM} (hc : Names X x c)
      (hsu : ∀ (a : Addr) (oe : Obj) (cls : Value) (d : Option Addr) (pn : List (Addr × Obj)), Zc cls d oe → (∃ vs, oe.data = .fields vs) → PSs (X.suite a ((a, oe) :: pn)) (b₀ :: suite) (ts a cls d)) (r : HdsM X hds l) :
      HdsM X (.ExceptHandler (some (.Name x np)) none (b₀ :: suite) pos' :: hds) ((c, none, ts) :: l)
theorem ps_try_mix {X : Cx} {body : List Stmt} {h₀ : ExceptHandler} {hds : List ExceptHandler} {l : List ClM} {pos : Pos} {tb : WX → TS} (hs : X.stack = X.env :: X.outer) (hf : X.env.frame = some X.env.locals) (hN : X.N.Nodup)
    (hb : ∀ (W : WX) (pn : List (Addr × Obj)) (xe : Value → Shared → Prop), Takes (X.tr pn xe) W → PassesOwn (model X.prog X.w) X.A X.env xe → PSs (X.tr pn xe) body (tb W))
    (hh : HdsM X (h₀ :: hds) l) : PS X (.Try body (h₀ :: hds) [] [] pos) (fun D σ H => tb (wManyM X.K D l) D σ H) := by
  refine ⟨fun pins s σ H D I h => ?_⟩
  have ok := I.ok
  have fr0 : X.A.frames = some (X.env :: X.outer) := by rw [ok.frames, hs]
  apply wpAny_Try_except
  refine wpAny_mono ((hb (wManyM X.K D l) (X.pn ++ pins) (fun e s₁ => wpAny (model X.prog X.w) X.A (noteFrame e X.env) (fun _ s₂ => wpAny (model X.prog X.w) X.A (setFlight e none) (fun _ s₃ =>
    wpAny (model X.prog X.w) X.A (handleBy e X.env (h₀ :: hds)) (SP X pins D) X.xe s₃) X.xe s₂) X.xe s₁) (fun u s' q => ?cat) PassesOwn.looking).run [] s σ H D (I.toTry _) h) (fun f s1 q => ?fin) (fun _ _ q => q)
  case fin =>
    cases f
    case next =>
      obtain ⟨_, _, J, z⟩ := q
      exact wpAny_execs_nil ⟨_, _, J.ofTry ok, z⟩
    case brk =>
      obtain ⟨_, _, J, z⟩ := q
      exact ⟨_, _, J.ofTry ok, z⟩
    case cont =>
      obtain ⟨_, _, J, z⟩ := q
      exact ⟨_, _, J.ofTry ok, z⟩
    case ret =>
      obtain ⟨_, _, _, J, rv, z⟩ := q
      exact ⟨_, _, _, J.ofTry ok, rv, z⟩
  case cat =>
    obtain ⟨a, B, sI, pins', σ1, H1, cls, d, rfl, J', nb, up, sky, na, os, ag, hgo⟩ := q
    have J : Inv X pins σ1 H1 sI := J'.ofTry ok
    rw [hs] at sky
    show wpAny (model X.prog X.w) X.A (noteFrame (.ref a) X.env) _ _ _
    refine Sky.land Zc.steady fr0 hf sky fun h3 fl up3 => ?_
    have J3 : Inv X pins σ1 H1 { s' with heap := h3 } := J.landed nb fl.1 (up.trans up3) os ag
    obtain ⟨o3, v3, g3, z3, d3⟩ := fl.there
    have off : a ∉ frs (X.env :: X.outer) := fun hm => by
      obtain ⟨_, _, e', no⟩ := fl.2.2.1.mem hm
      rw [g3] at e'
      cases e'
      exact no _ d3
    have nL : a ≠ X.env.locals := fun z => off (List.mem_filterMap.mpr ⟨X.env, List.mem_cons_self, by rw [hf, z]⟩)
    have nF : a ∉ X.fs := fun hm => by
      obtain ⟨e, he, z⟩ := List.mem_filterMap.mp hm
      exact off (List.mem_filterMap.mpr ⟨e, List.mem_cons_of_mem _ he, z⟩)
    have S3 := J3.suite g3 d3 na nL nF
    have LT : PySem.W.Looks (model X.prog X.w) h3 (typeOf (.ref a)) cls := fun _ _ _ _ k z => wpAny_typeOf_ref (k _ _ g3) (by rw [z3.1]; exact z)
    have go : ∀ {hds' : List ExceptHandler} {l' : List ClM}, HdsM X hds' l' → wManyM X.K D l' cls d σ1 H1 → wpAny (model X.prog X.w) X.A (handleBy (.ref a) X.env hds') (SP X pins D) X.xe { s' with heap := h3 } := by
      intro hds' l' hk
      induction hk with
      | nil =>
        intro w
        exact w.elim
      | @cons x n c i ts b₀ suite np pos' hds2 l2 hi hln hc hsu r ih =>
        intro w
        obtain ⟨bb, hcat, hyes, hno⟩ := w
        refine wpAny_handleBy_cons (codeAny_handlers_test ?_) (by intro z; cases z)
        have LM := PySem.W.exm_one (M := model X.prog X.w) J3.kIn LT hcat
        have go2 : ∀ {Q E : Value → Shared → Prop}, Q c { s' with heap := h3 } → wpAny (model X.prog X.w) (X.A.mark (some (.ref a))) (eval (.Name x np) X.env) Q E { s' with heap := h3 } := fun {Q E} z => by
          rcases hc with ⟨g, dbg, m | ⟨m, v, nn⟩⟩
          · exact ld_glob (X := X.suite a ((a, o3) :: (X.pn ++ pins))) S3 g m z dbg
          · exact ld_blt (X := X.suite a ((a, o3) :: (X.pn ++ pins))) S3 g m v z nn dbg
        refine go2 (LM.here ?_)
        cases bb with
        | false =>
          show wpAny _ X.A (handleBy (.ref a) X.env hds2) _ _ _
          exact ih (hno rfl)
        | true =>
          refine codeAny_handlers_suite_as ?_
          refine HandSPX.lands_againZ fl fun h4 fl4 up4 => ?_
          have J4 : Inv X pins σ1 H1 { s' with heap := h4 } := J.landed nb fl4.1 ((up.trans up3).trans up4) os ag
          obtain ⟨o4, v4, g4, z4, d4⟩ := fl4.there
          refine store_ok (X := X.suite a ((a, o4) :: (X.pn ++ pins))) (v := .ref a) (J4.suite g4 d4 na nL nF) hN hi (.inl hln) rfl (fun s5 S5 => ?_) (.inr hln)
          refine wpAny_mono ((hsu a o4 cls d (X.pn ++ pins) z4 ⟨_, d4⟩).run [] s5 _ H1 _ S5 (hyes rfl a na)) (fun f s6 q => ?_) (fun _ _ z => z.elim)
          have shut : ∀ {σ6 : L2.St} {H6 : Hp} {R : Shared → Prop}, Inv (X.suite a ((a, o4) :: (X.pn ++ pins))) [] σ6 H6 s6 → (∀ s7, Inv X pins (σ6.set i none) H6 s7 → R s7) →
              wpAny (model X.prog X.w) X.A (do bindName X.env n .none; unbindBehindTheSuite X.env n pos') (fun _ s7 => R s7) X.xe s6 := fun S6 k => gone_ok (S6.unsuite ok) hN hi hln k
          cases f
          case next =>
            obtain ⟨_, _, S6, z⟩ := q
            exact shut S6 fun _ J7 => ⟨_, _, J7, z⟩
          case brk =>
            obtain ⟨_, _, S6, z⟩ := q
            exact shut S6 fun _ J7 => ⟨_, _, J7, z⟩
          case cont =>
            obtain ⟨_, _, S6, z⟩ := q
            exact shut S6 fun _ J7 => ⟨_, _, J7, z⟩
          case ret =>
            obtain ⟨_, _, _, S6, rv, z⟩ := q
            exact shut S6 fun _ J7 => ⟨_, _, _, J7, rv, z⟩
      | @consN x c ts b₀ suite np pos' hds2 l2 hc hsu r ih =>
        intro w
        obtain ⟨bb, hcat, hyes, hno⟩ := w
        refine wpAny_handleBy_cons (codeAny_handlers_test ?_) (by intro z; cases z)
        have LM := PySem.W.exm_one (M := model X.prog X.w) J3.kIn LT hcat
        have go2 : ∀ {Q E : Value → Shared → Prop}, Q c { s' with heap := h3 } → wpAny (model X.prog X.w) (X.A.mark (some (.ref a))) (eval (.Name x np) X.env) Q E { s' with heap := h3 } := fun {Q E} z => by
          rcases hc with ⟨g, dbg, m | ⟨m, v, nn⟩⟩
          · exact ld_glob (X := X.suite a ((a, o3) :: (X.pn ++ pins))) S3 g m z dbg
          · exact ld_blt (X := X.suite a ((a, o3) :: (X.pn ++ pins))) S3 g m v z nn dbg
        refine go2 (LM.here ?_)
        cases bb with
        | false =>
          show wpAny _ X.A (handleBy (.ref a) X.env hds2) _ _ _
          exact ih (hno rfl)
        | true =>
          refine codeAny_handlers_suite ?_
          refine HandSPX.lands_againZ fl fun h4 fl4 up4 => ?_
          have J4 : Inv X pins σ1 H1 { s' with heap := h4 } := J.landed nb fl4.1 ((up.trans up3).trans up4) os ag
          obtain ⟨o4, v4, g4, z4, d4⟩ := fl4.there
          have S4 := J4.suite g4 d4 na nL nF
          refine wpAny_mono ((hsu a o4 cls d (X.pn ++ pins) z4 ⟨_, d4⟩).run [] _ _ H1 _ S4 (hyes rfl a na)) (fun f s6 hsp => ?_) (fun _ _ z => False.elim z)
          cases f with
          | next =>
            obtain ⟨σ6, H6, S6, q6⟩ := hsp
            exact ⟨_, _, S6.unsuite ok, q6⟩
          | brk =>
            obtain ⟨σ6, H6, S6, q6⟩ := hsp
            exact ⟨_, _, S6.unsuite ok, q6⟩
          | cont =>
            obtain ⟨σ6, H6, S6, q6⟩ := hsp
            exact ⟨_, _, S6.unsuite ok, q6⟩
          | ret u =>
            obtain ⟨v6, σ6, H6, S6, r6, q6⟩ := hsp
            exact ⟨_, _, _, S6.unsuite ok, r6, q6⟩
    exact go hh hgo
end Sy
/-! _law_asked -/
namespace Sy
open PySem PySem.Spec PyProof.Rows L2 LamX NdefX
theorem ErrB.nm {X : Cx} {x q : Str} {st : Stmt} {fs : List Str} (T : ErrB X.prog X.K X.mg x q st fs) (hg : Gl X x) (hd : (x == ("__debug__" : Str)) = false) : Names X x (.ref (He.ga X.K x)) := ⟨hg, hd, .inl T.at_⟩
theorem roomH_suite {X : Cx} {k j : Nat} {a : Addr} {pn : List (Addr × Obj)} (hr : Room k X.A) (h : j ≤ k) : L2H.RoomH j (X.suite a pn).A :=
  ⟨by have := hr.dp; show X.A.depth + 3 * j + 5 < _; omega, by have := hr.un; show X.A.units + 16 * j + 200 < _; omega⟩
theorem StayT.nod {H H' : Hp} {a : Addr} (s : StayT H H') (h : NoD H a) : NoD H' a := by
  obtain ⟨o, u, h1, h2⟩ := h
  exact ⟨o, u, s _ _ h1 (fun _ z => by cases z), h2⟩
theorem StayT.sqz {K : PySem.W.Frag} {H H' : Hp} {a : Addr} {xs : List V} (s : StayT H H') (h : SqZ K H a xs) : SqZ K H' a xs := ⟨s.sqt h.sq, s.nod h.nd⟩
/-- the rows of a bed as data -/
theorem BedAt.rowsIm {K : PySem.W.Frag} {H : Hp} {a : Addr} {rows : List Sy.Row} (b : BedAt K H a rows) : ∃ dx dA tR tK dR, H a = some (.ins (He.ga K "Bed") dx (bedF dA tR tK dR)) ∧ Im K H (.ref tR) (RowsD rows) := by
  obtain ⟨dx, dA, tR, tK, dR, ps, h1, h2, h3, h4, h5, h6⟩ := b.ex
  exact ⟨dx, dA, tR, tK, dR, h1, .tup h4 (Im.rowsD h6)⟩
section
variable {P : Program} {w : World} {K : PySem.W.Frag} {mg : Str → Option Value} {base : Heap}
def spAsk (K : PySem.W.Frag) (tb : Addr) : Sp := fun vs H Q _ => ∃ (b a r : Addr) (rows : List Sy.Row) (l : List Str) (ks : List Key), vs = [.ref b, .ref a, .ref r] ∧ BedAt K H b rows ∧ SqZ K H a (l.map V.str) ∧ SqT K H r (ks.map kV) ∧ PrOk (l, ks) 10000 ∧ TbI tb H ∧
  ∀ v H', StayT H H' → TbI tb H' → Im K H' v (dueD rows (l, ks)) → Q v H'
abbrev N_ask : List Str := ["_law_bed_here", "_law_stump_here", "_law_result_here", "_law_trim", "_law_e"]
theorem sc_ask : FnScope N_ask ["_law_bed_here", "_law_stump_here", "_law_result_here"] (defScope (top 58)) := ⟨rfl, rfl, rfl, by decide +kernel, rfl, by decide +kernel, by decide +kernel⟩
theorem k_ask {tb : Addr} {fT fdO : FuncData} (T : Txt K mg) (TT : TxtT K) (R : Ers P K mg) (M : MetT K mg) (F : DF K mg "_law_asked" 58) (MT : Mk K (He.ga K "Trim") (He.ma K (He.ga K "Trim") "__init__")) (aT : mg "Trim" = some (.ref (He.ga K "Trim")))
    (FT : FnOk P w K mg base (L2.CX P w) (5 + 1) (He.ma K (He.ga K "Trim") "__init__") fT ["self", "bed", "stump", "result"] (spInitT K tb)) (BT : L2.Binds K fT ["self", "bed", "stump", "result"] [])
    (FO : FnP P w K mg base 1 (He.ga K "_law_own") fdO ["_law_e"] (spOwn K)) (BO : L2.Binds K fdO ["_law_e"] []) (aO : mg "_law_own" = some (.ref (He.ga K "_law_own"))) (kO : PySem.W.keepIn K (.ref (He.ga K "_law_own")) = true) :
    Cal P w K mg base 8 "_law_asked" ["_law_bed_here", "_law_stump_here", "_law_result_here"] (spAsk K tb) := by
  refine cal_of F.1 F.2 sc_ask (fun _ _ _ _ _ _ us e => match us, e with | [_, _, _], _ => rfl) (fun vs H Q E s => by obtain ⟨_, _, _, _, _, _, rfl, _⟩ := s; rfl) ?_
  intro cdv A outer s H vs Q E hr h
  obtain ⟨b, a, r, rows, l, ks, rfl, hb, ha, hR, hp, tbi, hq⟩ := h
  have sc := sc_ask
  refine ⟨_, pss_cons (ps_try_mix rfl rfl sc.nd
    (fun W pn xe tk _ => pss_one (ps_set (i := 3) sc.nd rfl (Or.inl rfl) (pe_makeX MT FT hr rfl aT BT .nil tk (pa_cons (pv 0) (pa_cons (pv 1) (pa_cons (pv 2) pa_nil))))))
    (.cons (i := 4) rfl rfl (R.tm.nm rfl (by decide)) (fun ea oe cls dd pn hz hf => pss_one (ps_ret (pe_tup (pa_cons pe_str (pa_cons (pe_xf R.tm.xf (R.tm.no _ (by decide)) hz hf (pv 4)) (pa_cons (pe_xf R.tm.xf (R.tm.no _ (by decide)) hz hf (pv 4)) (pa_cons (pe_calP (ev := (ea, cls, dd)) (p := (ea, oe)) FO (roomH_suite hr (by decide)) ⟨rfl, hz, hf⟩ List.mem_cons_self rfl aO kO BO (pa_cons (pv 4) pa_nil)) pa_nil)))))))
    (.cons (i := 4) rfl rfl (R.is.nm rfl (by decide)) (fun ea oe cls dd pn hz hf => pss_one (ps_ret (pe_tup (pa_cons pe_str (pa_cons (pe_xf R.is.xf (R.is.no _ (by decide)) hz hf (pv 4)) (pa_cons (pe_calP (ev := (ea, cls, dd)) (p := (ea, oe)) FO (roomH_suite hr (by decide)) ⟨rfl, hz, hf⟩ List.mem_cons_self rfl aO kO BO (pa_cons (pv 4) pa_nil)) pa_nil))))))
    (.cons (i := 4) rfl rfl (R.tr.nm rfl (by decide)) (fun ea oe cls dd pn hz hf => pss_one (ps_ret (pe_tup (pa_cons pe_str (pa_cons (pe_xf R.tr.xf (R.tr.no _ (by decide)) hz hf (pv 4)) (pa_cons (pe_calP (ev := (ea, cls, dd)) (p := (ea, oe)) FO (roomH_suite hr (by decide)) ⟨rfl, hz, hf⟩ List.mem_cons_self rfl aO kO BO (pa_cons (pv 4) pa_nil)) pa_nil))))))
    .nil))))
    (pss_one (ps_ret (pe_tup (pa_cons pe_str (pa_cons (pe_fld (pe_fld (pv 3) rfl) rfl) (pa_cons (pe_fld (pv 3) rfl) (pa_cons (pe_fld (pv 3) rfl) pa_nil))))))), ?_⟩
  refine ⟨_, rfl, _, rfl, _, rfl, fun x dx hx hdx hne => ?_⟩
  have s1 : Same H (upd (upd H dx (.own x)) x (.ins (He.ga K "Trim") dx [])) := (up_same hdx).trans (up_same (by rw [upd_ne (fun z => hne z.symm)]; exact hx))
  have ex : upd (upd H dx (.own x)) x (.ins (He.ga K "Trim") dx []) x = some (.ins (He.ga K "Trim") dx []) := upd_same
  generalize upd (upd H dx (.own x)) x (.ins (He.ga K "Trim") dx []) = H1 at *
  have hk1 : l.length ≤ 100000 := Nat.le_trans hp.l1 (by decide)
  have hk2 : ks.length ≤ 100000 := Nat.le_trans hp.l2 (by decide)
  refine ⟨x, b, a, r, dx, rows, l, ks, rfl, ex, hb.mono (Stay.of s1), Same.sqt s1 ha.sq, (ha.same s1).nd, Same.sqt s1 hR, hp.k1, hk1, hk2, tbi.same s1, fun hn H2 kp tb2 tr => ⟨rfl, ?_⟩, fun e he => ?_⟩
  · have st : StayT H H2 := fun c o e n => kp c o (fun z => by rw [z, hx] at e; cases e) (s1 _ _ e) n
    obtain ⟨dx2, b2, a2, r2, h1, h2, h3, h4⟩ := tr.ex
    obtain ⟨dx3, dA, tR, tK, dR, h5, h6⟩ := h2.rowsIm
    refine ⟨_, rfl, x, _, dx2, _, _, rfl, h1, TT.cl, TT.nB, rfl, b2, _, dx3, _, _, rfl, h5, T.bed.cl, T.bed.nR, rfl, _, rfl, x, _, dx2, _, _, rfl, h1, TT.cl, TT.nS, rfl, _, rfl, x, _, dx2, _, _, rfl, h1, TT.cl, TT.nR, rfl, (by show 4 ≤ sizeLine; decide), fun p hp' => ?_⟩
    have s3 := up_same (o := .tup [.str "Good", .ref tR, .ref a2, .ref r2]) hp'
    refine hq _ _ (st.trans (StayT.of s3)) (tb2.same s3) ?_
    unfold dueD
    simp only [hn]
    exact .tup (SqT.of upd_same) (.cons (.str _) (.cons (h6.mono (Stay.of s3)) (.cons (Im.strs (Same.sqt s3 h3)) (.cons (.tup (Same.sqt s3 h4) (ImA.keys _)) .nil))))
  · have hq : ∀ v H', StayT H H' → TbI tb H' → Im K H' v (erD e) → Q v H' := fun v H' s' t' i => hq v H' s' t' (by unfold dueD; simp only [he]; exact i)
    intro d H2 fs ts ed im
    have st : StayT H H2 := (StayT.of s1).trans ts.st
    have tb2 := ts.tb
    cases e with
    | many y n =>
      cases im with
      | cons i1 r1 =>
        cases i1
        cases r1 with
        | cons i2 r2 =>
          cases i2
          cases r2
          refine ⟨true, R.tm.ex, fun _ ea hea => ?_, fun z => by cases z⟩
          refine ⟨_, rfl, rfl, rfl, d, _, _, rfl, ed, rfl, _, rfl, rfl, rfl, d, _, _, rfl, ed, rfl, _, rfl, 0, by decide, rfl, .inr ⟨d, _, rfl, ed⟩, rfl, fun H3 s3 => ⟨(by show 4 ≤ sizeLine; decide), fun t ht => ?_⟩⟩
          have s4 := s3.trans (up_same (o := .tup [.str "TooMany", .str y, .int (n : Nat), .bl true]) ht)
          exact hq _ _ (st.trans (StayT.of s4)) (tb2.same s4) (.tup (SqT.of upd_same) (.cons (.str _) (.cons (.str _) (.cons (.int _) (.cons (.bl _) .nil)))))
    | stump i =>
      cases im with
      | cons i1 r1 =>
        cases i1
        cases r1
        refine ⟨false, M.exm 1 0 (by decide) (by decide), (fun z => by cases z), fun _ => ⟨true, R.is.ex, fun _ ea hea => ?_, fun z => by cases z⟩⟩
        refine ⟨_, rfl, rfl, rfl, d, _, _, rfl, ed, rfl, _, rfl, 1, by decide, rfl, .inr ⟨d, _, rfl, ed⟩, rfl, fun H3 s3 => ⟨(by show 3 ≤ sizeLine; decide), fun t ht => ?_⟩⟩
        have s4 := s3.trans (up_same (o := .tup [.str "InvalidStump", .int (i : Nat), .bl true]) ht)
        exact hq _ _ (st.trans (StayT.of s4)) (tb2.same s4) (.tup (SqT.of upd_same) (.cons (.str _) (.cons (.int _) (.cons (.bl _) .nil))))
    | trim i =>
      cases im with
      | cons i1 r1 =>
        cases i1
        cases r1
        refine ⟨false, M.exm 2 0 (by decide) (by decide), (fun z => by cases z), fun _ => ⟨false, M.exm 2 1 (by decide) (by decide), (fun z => by cases z), fun _ => ⟨true, R.tr.ex, fun _ ea hea => ?_, fun z => by cases z⟩⟩⟩
        refine ⟨_, rfl, rfl, rfl, d, _, _, rfl, ed, rfl, _, rfl, 2, by decide, rfl, .inr ⟨d, _, rfl, ed⟩, rfl, fun H3 s3 => ⟨(by show 3 ≤ sizeLine; decide), fun t ht => ?_⟩⟩
        have s4 := s3.trans (up_same (o := .tup [.str "InvalidTrim", .int i, .bl true]) ht)
        exact hq _ _ (st.trans (StayT.of s4)) (tb2.same s4) (.tup (SqT.of upd_same) (.cons (.str _) (.cons (.int _) (.cons (.bl _) .nil))))
end
end Sy
/-! len(o), by an own __len__; Trims.__init__ -/
namespace Sy
open PySem PySem.Spec PyProof.Rows L2
def rLenO (C : Addr) (sp : Sp) : List V → Hp → VK → Prop := fun xs H Q => ∃ a dx fs, xs = [V.ref a] ∧ H a = some (.ins C dx fs) ∧ sp [.ref a] H (fun v H' => ∃ n : Nat, v = .int (n : Nat) ∧ n < 2 ^ 63 ∧ Q (.int (n : Nat)) H') E0
theorem call_lenO {X : Cx} {k : Nat} {C f : Addr} {fd : FuncData} {ps : List Str} {sp : Sp} (hm : Meth X.K C "__len__" f) (F : FnOk X.prog X.w X.K X.mg X.base (L2.CX X.prog X.w) k f fd ps sp) (hr : Room (k + 1) X.A) (hb : Binds X.K fd ps []) : CallR X (.builtin "len") (rLenO C sp) := by
  intro pins s σ H xs us Q I r h
  obtain ⟨a, dx, fs, rfl, ha, q⟩ := h
  obtain ⟨u, rfl, ru⟩ := vals1 r
  obtain rfl : u = Value.ref a := ru
  obtain ⟨mA, J, _⟩ := ins_get I.hok ha
  obtain ⟨od, J, _⟩ := J.look
  obtain ⟨m, hF⟩ := I.fr
  refine PySem.W.len_K hF I.ok.mod.kin J hm.at_ hm.fn ?_
  have r2 : Vals [V.ref a] [Value.ref a] := .cons rfl .nil
  refine wpAny_call (codeAny_mono (F.run X.A.in1 X.stack s H ⟨[Value.ref a], []⟩ [Value.ref a] [V.ref a] _ E0 hr.in1 I.env0.in1 ?_ r2 q) fun r s' hq => ?_)
  · have := hb s [Value.ref a] I.kIn (by rw [← F.len _ _ _ _ q]; rfl)
    exact this
  · cases r with
    | error e => exact passL pins σ H s e s' I hq
    | ok fl =>
      cases fl with
      | ret u' =>
        obtain ⟨v, H', I', rv, n, ev, hn, q3⟩ := I.after hq
        subst ev
        obtain ⟨t, rfl⟩ : ∃ t, u' = Value.int (n : Nat) t := rv
        exact ⟨⟨by omega, by omega⟩, .int (n : Nat), H', I'.kept (t' := _) (fun _ _ z => z), ⟨_, rfl⟩, q3⟩
      | next => exact False.elim hq
      | brk => exact False.elim hq
      | cont => exact False.elim hq
/-! Trims -/
structure TxtS (K : PySem.W.Frag) : Prop where
  cl : Cls K (He.ga K "Trims")
  nB : NoAttr K (He.ga K "Trims") "bed"
  nT : NoAttr K (He.ga K "Trims") "trims"
  nN : NoAttr K (He.ga K "Trims") "name"
  nH : NoAttr K (He.ga K "Trims") "_heads"
abbrev TrmZ := List Sy.Row × Trm
def TmZ (K : PySem.W.Frag) (H : Hp) (a : Addr) (z : TrmZ) : Prop := TrmAt K H a z.1 z.2.1 z.2.2 ∧ ∀ r ∈ z.1, PyData.strOk r.1 = true
theorem TrmAt.del {K : PySem.W.Frag} {H : Hp} {x a C dx : Addr} {rows : List Sy.Row} {l : List Str} {ks : List Key} (t : TrmAt K H a rows l ks) (hx : H x = some (.ins C dx [])) : TrmAt K (L2.del H x) a rows l ks := by
  obtain ⟨d, b, s, r, h1, h2, h3, h4⟩ := t.ex
  refine ⟨d, b, s, r, ?_, h2.del hx, sqt_del h3 hx, sqt_del h4 hx⟩
  rw [del_ne]
  · exact h1
  · intro z
    rw [z, hx] at h1
    injection h1 with h1
    injection h1 with _ _ h1
    cases h1
theorem TrmAt.mono {K : PySem.W.Frag} {H H' : Hp} {a : Addr} {rows : List Sy.Row} {l : List Str} {ks : List Key} (t : TrmAt K H a rows l ks) (s : Same H H') : TrmAt K H' a rows l ks := (StayT.of s).trm t
/-- a set of trims stands at x -/
structure TrmsAt (K : PySem.W.Frag) (H : Hp) (x : Addr) (rows : List Sy.Row) (ts : List Trm) (nm : Str) : Prop where
  ex : ∃ (dx b p d : Addr) (as : List Addr) (kvs : List (Key × V)), H x = some (.ins (He.ga K "Trims") dx [("bed", .ref b), ("trims", .ref p), ("name", .str nm), ("_heads", .ref d)]) ∧ BedAt K H b rows ∧ SqT K H p (as.map V.ref) ∧ Paired (TmAt K rows H) as ts ∧ H d = some (.dK kvs) ∧ HdK K H kvs (hds ts)
def Keep (x : Addr) (H H' : Hp) : Prop := ∀ a o, a ≠ x → H a = some o → H' a = some o
/-- what a set of trims owes: another bed, too many -/
def spInitS (K : PySem.W.Frag) : Sp := fun vs H Q E => ∃ (x b p dx : Addr) (nm : Str) (as : List Addr) (rows : List Sy.Row) (zs : List TrmZ), vs = [.ref x, .ref b, .str nm, .ref p] ∧ H x = some (.ins (He.ga K "Trims") dx []) ∧ BdO K H b rows ∧ SqT K H p (as.map V.ref) ∧ Paired (TmZ K H) as zs ∧ zs.length ≤ 100 ∧ (∀ z ∈ zs, z.2.1 ≠ []) ∧
  ((∃ z ∈ zs, z.1 ≠ rows) → ∀ H', Keep x H H' → E (.ref (He.ga K "OtherBed")) none H') ∧
  ((∀ z ∈ zs, z.1 = rows) → 8 < zs.length → ∀ d H' fs, Keep x H H' → H' d = some (.xd fs) → ImF K H' fs (Er.many "trims" 8).fds → E (.ref (He.ga K "TooMany")) (some d) H') ∧
  ((∀ z ∈ zs, z.1 = rows) → zs.length ≤ 8 → ∀ H', Keep x H H' → TrmsAt K H' x rows (zs.map (·.2)) nm → Q .non H')
theorem paired_get {α β γ : Type} {R : α → β → Prop} {S : α → γ → β → Prop} (h : ∀ a b, R a b → ∃ c, S a c b) : ∀ {as : List α} {bs : List β}, Paired R as bs → ∃ cs : List γ, cs.length = as.length ∧ Paired (fun (p : α × γ) b => S p.1 p.2 b) (as.zip cs) bs
  | _, _, .nil => ⟨[], rfl, .nil⟩
  | _, _, .cons a r => by
    obtain ⟨cs, h1, h2⟩ := paired_get h r
    obtain ⟨c, hc⟩ := h _ _ a
    exact ⟨c :: cs, by rw [List.length_cons, List.length_cons, h1], .cons hc h2⟩
section
variable {P : Program} {w : World} {K : PySem.W.Frag} {mg : Str → Option Value} {base : Heap}
abbrev N_initS : List Str := ["self", "bed", "name", "trims", "beds", "trim"]
theorem sc_initS : FnScope N_initS ((["self", "bed"] : List Str) ++ (["name", "trims"] : List Str)) (defScope (clb 37 0)) := ⟨rfl, rfl, rfl, by decide +kernel, rfl, by decide +kernel, by decide +kernel⟩
theorem s_initS (T : Txt K mg) (S : TxtM mg) (TT : TxtT K) (TS : TxtS K) (R : Ers P K mg) (F : ∃ fd, FunD K "__init__" "Trims.__init__" (defArgs (clb 37 0)) (defBody (clb 37 0)) (defScope (clb 37 0)) [] [("name", .str "trims")] (He.ma K (He.ga K "Trims") "__init__") fd)
    (c_need : CalR P w K mg base 3 "need_same" (spStar 0 (spNeedN K))) (c_heads_of : Cal P w K mg base 1 "heads_of" ["members"] (spHd K)) : FnS P w K mg base (3 + 1) (He.ma K (He.ga K "Trims") "__init__") 2 "name" (.str "trims") (spInitS K) := by
  obtain ⟨fd, F⟩ := F
  refine fnS_of (ps := ["self", "bed"]) F sc_initS (fun D doc pm an cdv ct us rest h v => match us, h, rest with
    | [a, b], _, [] => ⟨_, _, _, _, _, _, rfl, rfl, rfl⟩
    | [a, b], _, r :: rs => ⟨_, _, _, _, _, _, rfl, rfl, rfl⟩) (fun kV doc pm an cdv ct us rest v h => match us, h, rest with
    | [a, b], _, [] => rfl
    | [a, b], _, r :: rs => rfl) ?_
  intro cdv A outer s H vs Q E hr h
  obtain ⟨x, b, p, dx, nm, as, rows, zs, rfl, hx, hb, hp, hz, hl, hne, hO, hM, hq⟩ := h
  have sc := sc_initS
  refine ⟨_, (pss_cons (ps_setLc (i := 4) (own := [("trim", 5)]) (g := gName 5) rfl sc.nd rfl rfl (sw_true rfl rfl rfl (by decide +kernel)) (pi_tup (pv 3)) (blkOk_by (N := N_initS) (sc := defScope (clb 37 0)) (by decide +kernel)) (fun _ _ _ _ _ => (pg_name (i := 5) sc.nd rfl (Or.inl rfl))) (fun _ _ _ _ _ => pts_nil) (fun _ _ _ _ _ => (pe_fldK K rfl (pv 5) rfl)))
      (pss_cons (ps_expr (pe_calRS c_need hr (takes_of rfl rfl rfl rfl) (pa_cons (pv 1) (StX.pa_star (pv 4) pa_nil))))
      (pss_cons (ps_if (pt_cmpR op_gt (pe_callB call_len_seq (by rfl) T.len (by decide +kernel) (pa_cons (pv 3) pa_nil)) (pe_gint rfl S.mt) (nomark _))
        (pss_one (ps_raise rfl (takes_of rfl rfl rfl rfl) (mk_tm R.tm hr rfl (pa_cons pe_str (pa_cons (pe_gint rfl S.mt) pa_nil)) pass0)))
        pss_nil)
      (pss_cons (ps_fld (pv 0) (pv 1) rfl)
      (pss_cons (ps_fld (pv 0) (pv 3) rfl)
      (pss_cons (ps_fld (pv 0) (pv 2) rfl)
      (pss_one (ps_fld (pv 0) (pe_cal c_heads_of hr (pa_cons (pv 3) pa_nil)) rfl)))))))), ?_⟩
  have k0 : Hs (L2.del H x) [(x, .ins (He.ga K "Trims") dx [])] H := (Hs.start H).take hx
  have hp0 := sqt_del hp hx
  have hb0 : BdO K (L2.del H x) b rows := ⟨hb.1.del hx, hb.2⟩
  have hz0 : Paired (TmZ K (L2.del H x)) as zs := Paired.mapP hz fun _ _ t => ⟨t.1.del hx, t.2⟩
  have keep0 : ∀ {B' H' : Hp}, Same (L2.del H x) B' → Same B' H' → Keep x H H' := fun s1 s2 a o n e => s2 _ _ (s1 _ _ (by rw [del_ne n]; exact e))
  generalize hB : L2.del H x = B at *
  obtain ⟨bs, hbl, hbz⟩ := paired_get (S := fun a b (z : TrmZ) => (∃ d s r, B a = some (.ins (He.ga K "Trim") d [("bed", .ref b), ("stump", .ref s), ("result", .ref r)])) ∧ BdO K B b z.1) (fun a z t => by
    obtain ⟨d, b, s, r, h1, h2, _, _⟩ := t.1.ex
    exact ⟨b, ⟨d, s, r, h1⟩, h2, t.2⟩) hz0
  have hzl := paired_len hz0
  refine ⟨_, rfl, p, rfl, ⟨_, Same.sqt k0.sub hp0⟩, fun D hD => lc_it walk_tup (fun i H' => Hs B [(D, .lst ((bs.take i).map V.ref)), (x, .ins (He.ga K "Trims") dx [])] H') (k0.new hD) (fun _ _ _ z => Same.sqt z.sub hp0) ?_ ?_⟩
  · rintro i v H2 _ hi hh ⟨rfl, hv⟩
    rw [List.length_map] at hi
    obtain ⟨z, ez⟩ : ∃ z, zs[i]? = some z := ⟨_, List.getElem?_eq_getElem (by omega)⟩
    obtain ⟨⟨a, b'⟩, e1, ⟨d, s', r', e2⟩, e3⟩ := paired_at hbz ez
    rw [List.getElem?_zip_eq_some] at e1
    rw [List.getElem?_map, e1.1] at hv
    cases hv
    refine ⟨rfl, ?_⟩
    simp only [tYes, if_true]
    refine ⟨_, rfl, a, _, d, _, _, rfl, hh.sub _ _ e2, TT.cl, TT.nB, rfl, _, hh.r0, by rw [List.length_map, List.length_take, sizeLine_eq]; omega, ?_⟩
    rw [List.take_succ, e1.2, List.map_append]
    exact hh.w0
  intro H2 hh
  rw [List.length_map, ← hbl, List.take_length] at hh
  have hbs : Paired (BdO K B) bs (zs.map (·.1)) := by
    have go : ∀ {as bs : List Addr} {zs : List TrmZ}, bs.length = as.length → Paired (fun (p : Addr × Addr) (z : TrmZ) => (∃ d s r, B p.1 = some (.ins (He.ga K "Trim") d [("bed", .ref p.2), ("stump", .ref s), ("result", .ref r)])) ∧ BdO K B p.2 z.1) (as.zip bs) zs → Paired (BdO K B) bs (zs.map (·.1)) := by
      intro as
      induction as with
      | nil =>
        intro bs zs h1 h2
        cases bs with
        | nil =>
          cases h2
          exact .nil
        | cons b bs => cases h1
      | cons a as ih =>
        intro bs zs h1 h2
        cases bs with
        | nil => cases h1
        | cons b bs =>
          cases h2 with
          | cons r t => exact .cons r.2 (ih (by simpa using h1) t)
    exact go hbl hbz
  refine ⟨_, rfl, _, rfl, D, _, rfl, .inr (SqL.of hh.r0), ?_⟩
  refine ⟨[], .ref b :: bs.map V.ref, ?_, rfl, by rw [List.length_cons, List.length_map, sizeLine_eq]; omega, fun q hq' => ?_⟩
  · show V.ref b :: (bs.map V.ref ++ []) = _
    rw [List.append_nil]
    rfl
  have h3 := hh.tup (o := .tup (.ref b :: bs.map V.ref)) hq'
  have s3 := up_same (o := .tup (.ref b :: bs.map V.ref)) (hh.sub.free hq')
  have e3 : upd B q (.tup (.ref b :: bs.map V.ref)) q = some (.tup (.ref b :: bs.map V.ref)) := upd_same
  have eH3 : upd H2 q (.tup (.ref b :: bs.map V.ref)) q = some (.tup (.ref b :: bs.map V.ref)) := upd_same
  have s23 := up_same (o := .tup (.ref b :: bs.map V.ref)) hq'
  generalize upd H2 q (.tup (.ref b :: bs.map V.ref)) = H3 at *
  generalize upd B q (.tup (.ref b :: bs.map V.ref)) = B3 at *
  have sB3 := s3.trans h3.sub
  refine ⟨q, b, bs, rows, zs.map (·.1), rfl, SqT.of eH3, ⟨hb0.1.mono (Stay.of sB3), hb0.2⟩, Paired.mapP hbs fun _ _ z => ⟨z.1.mono (Stay.of sB3), z.2⟩, fun hall => ?_, fun ⟨r, hr', ne⟩ H' s' => ?_⟩
  · have hall : ∀ z ∈ zs, z.1 = rows := fun z hz => hall _ (List.mem_map_of_mem hz)
    refine ⟨_, rfl, p, _, rfl, .inr (Same.sqt sB3 hp0), _, _, rfl, rfl, _, rfl, if_dec (fun c => ?_) (fun c => ?_)⟩
    · rw [List.length_map] at c
      refine mk_ra (fun _ _ => ⟨_, _, rfl, by decide +kernel, by decide +kernel, by decide +kernel, rfl⟩) (by show 2 ≤ 1000; decide) (fun d H' s' ed => hM hall (by omega) d H' _ (keep0 (Same.refl _) (sB3.trans s')) ed (.cons (.int _) (.cons (.str _) .nil)))
    · rw [List.length_map] at c
      refine ⟨_, rfl, _, rfl, x, _, dx, _, rfl, h3.r1, TS.cl, TS.nB, by decide, ?_⟩
      have h4 := h3.w1 (o' := .ins (He.ga K "Trims") dx (putF "bed" (.ref b) []))
      refine ⟨_, rfl, _, rfl, x, _, dx, _, rfl, h4.r1, TS.cl, TS.nT, (by show 1 < 1000; decide), ?_⟩
      have h5 := h4.w1 (o' := .ins (He.ga K "Trims") dx [("bed", .ref b), ("trims", .ref p)])
      refine ⟨_, rfl, _, rfl, x, _, dx, _, rfl, h5.r1, TS.cl, TS.nN, (by show 2 < 1000; decide), ?_⟩
      have h6 := h5.w1 (o' := .ins (He.ga K "Trims") dx [("bed", .ref b), ("trims", .ref p), ("name", .str nm)])
      have s6 := s3.trans h6.sub
      have tms : Paired (TmAt K rows B) as (zs.map (·.2)) := by
        have go : ∀ {as : List Addr} {zs : List TrmZ}, (∀ z ∈ zs, z.1 = rows) → Paired (TmZ K B) as zs → Paired (TmAt K rows B) as (zs.map (·.2)) := by
          intro as
          induction as with
          | nil => intro zs _ h; cases h; exact .nil
          | cons a as ih =>
            intro zs hz h
            cases h with
            | cons r t => exact .cons (by have := r.1; rw [hz _ List.mem_cons_self] at this; exact this) (ih (fun z h => hz z (List.mem_cons_of_mem _ h)) t)
        exact go hall hz0
      refine ⟨_, rfl, p, as, rows, zs.map (·.2), rfl, Same.sqt s6 hp0, Paired.mapP tms fun _ _ t => t.mono s6, by rw [List.length_map]; exact hl, fun t ht => ?_, fun H7 d kvs s7 nd ed hd => ?_⟩
      · obtain ⟨z, hz', rfl⟩ := List.mem_map.mp ht
        exact hne z hz'
      have a7 := h6.after s7
      refine ⟨_, rfl, x, _, dx, _, rfl, s7 _ _ h6.r1, TS.cl, TS.nH, (by show 3 < 1000; decide), ?_⟩
      have sB7 := s6.trans s7
      generalize hH8 : upd H7 x _ = H8
      have e8 : H8 x = some (.ins (He.ga K "Trims") dx [("bed", .ref b), ("trims", .ref p), ("name", .str nm), ("_heads", .ref d)]) := by rw [← hH8]; exact upd_same
      have n8 : ∀ a o, a ≠ x → H7 a = some o → H8 a = some o := fun a o n e => by rw [← hH8, upd_ne n]; exact e
      have sB8 : Same B H8 := fun a o e => n8 a o (fun z => by rw [z, ← hB, del_same] at e; cases e) (sB7 _ _ e)
      have x7 := s7 _ _ h6.r1
      have dne : d ≠ x := fun z => by rw [z, x7] at ed; cases ed
      refine hq hall (by omega) H8 (keep0 (Same.refl _) sB8) ⟨dx, b, p, d, as, kvs, e8, hb0.1.mono (Stay.of sB8), Same.sqt sB8 hp0, Paired.mapP tms fun _ _ t => t.mono sB8, n8 _ _ dne ed, ?_⟩
      refine ⟨hd.z, hd.no, fun y hy => ?_, hd.le⟩
      obtain ⟨p9, e1, e2⟩ := hd.yes y hy
      have dl : Same (L2.del H7 x) H8 := fun a o e => by
        by_cases z : a = x
        · rw [z, del_same] at e
          cases e
        · rw [del_ne z] at e
          exact n8 a o z e
      exact ⟨p9, e1, Same.sqt dl (sqt_del e2 x7)⟩
  · obtain ⟨z, hz', rfl⟩ := List.mem_map.mp hr'
    exact hO ⟨z, hz', ne⟩ H' (keep0 (Same.refl _) (sB3.trans s'))
end
end Sy
/-! Trims(..), len of it, _law_set, _law_shown -/
namespace Sy
open PySem PySem.Spec PyProof.Rows L2 LamX NdefX
section
variable {P : Program} {w : World} {K : PySem.W.Frag} {mg : Str → Option Value} {base : Heap}
/-- what Trims(bed, .., name = nm) promises -/
theorem mkS_of {H : Hp} {b : Addr} {as : List Addr} {nm : Str} {rows : List Sy.Row} {zs : List TrmZ} {Q : VK} {E : XK} (hb : BdO K H b rows) (hz : Paired (TmZ K H) as zs) (hl : zs.length ≤ 100) (hne : ∀ z ∈ zs, z.2.1 ≠ [])
    (hO : (∃ z ∈ zs, z.1 ≠ rows) → RaO K H E) (hM : (∀ z ∈ zs, z.1 = rows) → 8 < zs.length → RaE K (.many "trims" 8) H E) (hq : (∀ z ∈ zs, z.1 = rows) → zs.length ≤ 8 → ∀ x H', Same H H' → H x = none → TrmsAt K H' x rows (zs.map (·.2)) nm → Q (.ref x) H') :
    tMakeS (He.ga K "Trims") 2 (.str nm) (spInitS K) E (.ref b :: as.map V.ref) H Q := by
  intro x dx hx hdx hn
  have hpl := paired_len hz
  refine ⟨[.ref x, .ref b], as.map V.ref, rfl, rfl, by rw [List.length_map, sizeLine_eq]; omega, fun p hp => ?_⟩
  have s1 : Same H (upd (upd H dx (.own x)) x (.ins (He.ga K "Trims") dx [])) := (up_same hdx).trans (up_same (by rw [upd_ne (fun z => hn z.symm)]; exact hx))
  have ex : upd (upd H dx (.own x)) x (.ins (He.ga K "Trims") dx []) x = some (.ins (He.ga K "Trims") dx []) := upd_same
  generalize upd (upd H dx (.own x)) x (.ins (He.ga K "Trims") dx []) = H1 at *
  have s2 := up_same (o := .tup (as.map V.ref)) hp
  have ep : SqT K (upd H1 p (.tup (as.map V.ref))) p (as.map V.ref) := SqT.of upd_same
  have ex2 := s2 _ _ ex
  generalize upd H1 p (.tup (as.map V.ref)) = H2 at *
  have s12 := s1.trans s2
  have kp : ∀ {H'}, Keep x H2 H' → Same H H' := fun k a o e => k a o (fun z => by rw [z, hx] at e; cases e) (s12 _ _ e)
  exact ⟨x, b, p, dx, nm, as, rows, zs, rfl, ex2, ⟨hb.1.mono (Stay.of s12), hb.2⟩, ep, Paired.mapP hz fun _ _ t => ⟨t.1.mono s12, t.2⟩, hl, hne, fun z H' k => hO z H' (kp k), fun z c d H' fs k ed im => hM z c d H' fs (kp k) ed im, fun z c H' k t => ⟨rfl, hq z c x H' (kp k) hx t⟩⟩
/-! len of a set -/
def spLenS (K : PySem.W.Frag) : Sp := fun vs H Q _ => ∃ (x : Addr) (rows : List Sy.Row) (ts : List Trm) (nm : Str), vs = [.ref x] ∧ TrmsAt K H x rows ts nm ∧ Q (.int (ts.length : Nat)) H
abbrev N_lenS : List Str := ["self"]
theorem sc_lenS : FnScope N_lenS ["self"] (defScope (clb 37 1)) := ⟨rfl, rfl, rfl, by decide +kernel, rfl, by decide +kernel, by decide +kernel⟩
theorem f_lenS (T : Txt K mg) (TS : TxtS K) (F : MC K "Trims" "__len__" "Trims.__len__" (clb 37 1)) : ∃ fd, FnOk P w K mg base (L2.CX P w) 1 (He.ma K (He.ga K "Trims") "__len__") fd ["self"] (spLenS K) ∧ L2.Binds K fd ["self"] [] := by
  obtain ⟨me, fd, F⟩ := F
  refine ⟨fd, F.ok sc_lenS (fun vs H Q E s => by obtain ⟨_, _, _, _, rfl, _⟩ := s; rfl) ?_, F.bindsN (ps := ["self"]) (fun _ _ _ _ _ _ us e => match us, e with | [_], _ => rfl)⟩
  intro cdv A outer s H vs Q E hr h
  obtain ⟨x, rows, ts, nm, rfl, t, hq⟩ := h
  refine ⟨_, (pss_one (ps_ret (pe_callB call_len_seq (by rfl) T.len (by decide +kernel) (pa_cons (pe_fld (pv 0) rfl) pa_nil)))), ?_⟩
  obtain ⟨dx, b, p, d, as, kvs, h1, h2, h3, h4, h5, h6⟩ := t.ex
  refine ⟨_, rfl, x, _, dx, _, _, rfl, h1, TS.cl, TS.nT, rfl, p, _, rfl, .inr h3, ?_⟩
  rw [List.length_map, paired_len h4]
  exact hq
/-! _law_set -/
def spSet (K : PySem.W.Frag) : Sp := fun vs H Q E => ∃ (b f : Addr) (as : List Addr) (rows : List Sy.Row) (zs : List TrmZ), vs = [.ref b, .ref f] ∧ BdO K H b rows ∧ H f = some (.lst (as.map V.ref)) ∧ Paired (TmZ K H) as zs ∧ (zs.length = 1 ∨ zs.length = 2 ∨ zs.length = 3 ∨ zs.length = 8 ∨ zs.length = 9) ∧ (∀ z ∈ zs, z.2.1 ≠ []) ∧
  ((∃ z ∈ zs, z.1 ≠ rows) → RaO K H E) ∧ ((∀ z ∈ zs, z.1 = rows) → 8 < zs.length → RaE K (.many "trims" 8) H E) ∧ ((∀ z ∈ zs, z.1 = rows) → zs.length ≤ 8 → ∀ x H', Same H H' → TrmsAt K H' x rows (zs.map (·.2)) "trims" → Q (.ref x) H')
abbrev N_set : List Str := ["_law_bed_here", "_law_given", "_law_most"]
theorem sc_set : FnScope N_set ["_law_bed_here", "_law_given"] (defScope (top 59)) := ⟨rfl, rfl, rfl, by decide +kernel, rfl, by decide +kernel, by decide +kernel⟩
theorem k_set (T : Txt K mg) (F : DF K mg "_law_set" 59) (MS : Mk K (He.ga K "Trims") (He.ma K (He.ga K "Trims") "__init__")) (aS : mg "Trims" = some (.ref (He.ga K "Trims"))) (FS : FnS P w K mg base (3 + 1) (He.ma K (He.ga K "Trims") "__init__") 2 "name" (.str "trims") (spInitS K)) :
    Cal P w K mg base 6 "_law_set" ["_law_bed_here", "_law_given"] (spSet K) := by
  refine cal_of F.1 F.2 sc_set (fun _ _ _ _ _ _ us e => match us, e with | [_, _], _ => rfl) (fun vs H Q E s => by obtain ⟨_, _, _, _, _, rfl, _⟩ := s; rfl) ?_
  intro cdv A outer s H vs Q E hr h
  obtain ⟨b, f, as, rows, zs, rfl, hb, hf, hz, hlen, hne, hO, hM, hq⟩ := h
  have sc := sc_set
  have hpl := paired_len hz
  refine ⟨_, (pss_cons (ps_if (pt_cmpR op_eq (pe_callB call_len_seq (by rfl) T.len (by decide +kernel) (pa_cons (pv 1) pa_nil)) pe_int (nomark _))
        (pss_one (ps_ret (pe_mkS MS FS hr rfl aS (takes_of rfl rfl rfl rfl) (pa_cons (pv 0) (pa_cons (pe_ix ix_list (pv 1) pe_int (fun _ _ => rfl)) pa_nil)))))
        pss_nil)
      (pss_cons (ps_if (pt_cmpR op_eq (pe_callB call_len_seq (by rfl) T.len (by decide +kernel) (pa_cons (pv 1) pa_nil)) pe_int (nomark _))
        (pss_one (ps_ret (pe_mkS MS FS hr rfl aS (takes_of rfl rfl rfl rfl) (pa_cons (pv 0) (pa_cons (pe_ix ix_list (pv 1) pe_int (fun _ _ => rfl)) (pa_cons (pe_ix ix_list (pv 1) pe_int (fun _ _ => rfl)) pa_nil))))))
        pss_nil)
      (pss_cons (ps_if (pt_cmpR op_eq (pe_callB call_len_seq (by rfl) T.len (by decide +kernel) (pa_cons (pv 1) pa_nil)) pe_int (nomark _))
        (pss_one (ps_ret (pe_mkS MS FS hr rfl aS (takes_of rfl rfl rfl rfl) (pa_cons (pv 0) (pa_cons (pe_ix ix_list (pv 1) pe_int (fun _ _ => rfl)) (pa_cons (pe_ix ix_list (pv 1) pe_int (fun _ _ => rfl)) (pa_cons (pe_ix ix_list (pv 1) pe_int (fun _ _ => rfl)) pa_nil)))))))
        pss_nil)
      (pss_cons (ps_set (i := 2) sc.nd rfl (Or.inl rfl) (pe_lst (pa_cons (pe_ix ix_list (pv 1) pe_int (fun _ _ => rfl)) (pa_cons (pe_ix ix_list (pv 1) pe_int (fun _ _ => rfl)) (pa_cons (pe_ix ix_list (pv 1) pe_int (fun _ _ => rfl)) (pa_cons (pe_ix ix_list (pv 1) pe_int (fun _ _ => rfl)) (pa_cons (pe_ix ix_list (pv 1) pe_int (fun _ _ => rfl)) (pa_cons (pe_ix ix_list (pv 1) pe_int (fun _ _ => rfl)) (pa_cons (pe_ix ix_list (pv 1) pe_int (fun _ _ => rfl)) (pa_cons (pe_ix ix_list (pv 1) pe_int (fun _ _ => rfl)) pa_nil))))))))))
      (pss_cons (ps_if (pt_cmpR op_eq (pe_callB call_len_seq (by rfl) T.len (by decide +kernel) (pa_cons (pv 1) pa_nil)) pe_int (nomark _))
        (pss_one (ps_ret (pe_mkS MS FS hr rfl aS (takes_of rfl rfl rfl rfl) (pa_cons (pv 0) (pa_cons (pe_ix ix_list (pv 2) pe_int (fun _ _ => rfl)) (pa_cons (pe_ix ix_list (pv 2) pe_int (fun _ _ => rfl)) (pa_cons (pe_ix ix_list (pv 2) pe_int (fun _ _ => rfl)) (pa_cons (pe_ix ix_list (pv 2) pe_int (fun _ _ => rfl)) (pa_cons (pe_ix ix_list (pv 2) pe_int (fun _ _ => rfl)) (pa_cons (pe_ix ix_list (pv 2) pe_int (fun _ _ => rfl)) (pa_cons (pe_ix ix_list (pv 2) pe_int (fun _ _ => rfl)) (pa_cons (pe_ix ix_list (pv 2) pe_int (fun _ _ => rfl)) pa_nil))))))))))))
        pss_nil)
      (pss_one (ps_ret (pe_mkS MS FS hr rfl aS (takes_of rfl rfl rfl rfl) (pa_cons (pv 0) (pa_cons (pe_ix ix_list (pv 2) pe_int (fun _ _ => rfl)) (pa_cons (pe_ix ix_list (pv 2) pe_int (fun _ _ => rfl)) (pa_cons (pe_ix ix_list (pv 2) pe_int (fun _ _ => rfl)) (pa_cons (pe_ix ix_list (pv 2) pe_int (fun _ _ => rfl)) (pa_cons (pe_ix ix_list (pv 2) pe_int (fun _ _ => rfl)) (pa_cons (pe_ix ix_list (pv 2) pe_int (fun _ _ => rfl)) (pa_cons (pe_ix ix_list (pv 2) pe_int (fun _ _ => rfl)) (pa_cons (pe_ix ix_list (pv 2) pe_int (fun _ _ => rfl)) (pa_cons (pe_ix ix_list (pv 1) pe_int (fun _ _ => rfl)) pa_nil)))))))))))))))))), ?_⟩
  rcases hlen with hlen | hlen | hlen | hlen | hlen
  · obtain ⟨a0, rfl⟩ : ∃ a0, as = [a0] := match as, (show as.length = 1 by omega) with | [a0], _ => ⟨_, rfl⟩
    exact ⟨_, rfl, f, _, rfl, .inl (SqL.of hf), rfl, _, rfl, if_dec (fun _ => ⟨_, rfl, _, rfl, f, _, _, .ref a0, rfl, rfl, SqL.of hf, atI_nat (j := 0) rfl, mkS_of (as := [a0]) hb hz (by omega) hne hO hM fun h1 h2 x H' s' _ t => hq h1 h2 x H' s' t⟩) (fun c => absurd rfl c)⟩
  · obtain ⟨a0, a1, rfl⟩ : ∃ a0 a1, as = [a0, a1] := match as, (show as.length = 2 by omega) with | [a0, a1], _ => ⟨_, _, rfl⟩
    exact ⟨_, rfl, f, _, rfl, .inl (SqL.of hf), rfl, _, rfl, if_dec (fun c => absurd (V.int.inj c) (by show ¬ ((2 : Nat) : Int) = 1; decide)) (fun _ => ⟨_, rfl, f, _, rfl, .inl (SqL.of hf), rfl, _, rfl, if_dec (fun _ => ⟨_, rfl, _, rfl, f, _, _, .ref a0, rfl, rfl, SqL.of hf, atI_nat (j := 0) rfl, _, rfl, f, _, _, .ref a1, rfl, rfl, SqL.of hf, atI_nat (j := 1) rfl, mkS_of (as := [a0, a1]) hb hz (by omega) hne hO hM fun h1 h2 x H' s' _ t => hq h1 h2 x H' s' t⟩) (fun c => absurd rfl c)⟩)⟩
  · obtain ⟨a0, a1, a2, rfl⟩ : ∃ a0 a1 a2, as = [a0, a1, a2] := match as, (show as.length = 3 by omega) with | [a0, a1, a2], _ => ⟨_, _, _, rfl⟩
    exact ⟨_, rfl, f, _, rfl, .inl (SqL.of hf), rfl, _, rfl, if_dec (fun c => absurd (V.int.inj c) (by show ¬ ((3 : Nat) : Int) = 1; decide)) (fun _ => ⟨_, rfl, f, _, rfl, .inl (SqL.of hf), rfl, _, rfl, if_dec (fun c => absurd (V.int.inj c) (by show ¬ ((3 : Nat) : Int) = 2; decide)) (fun _ => ⟨_, rfl, f, _, rfl, .inl (SqL.of hf), rfl, _, rfl, if_dec (fun _ => ⟨_, rfl, _, rfl, f, _, _, .ref a0, rfl, rfl, SqL.of hf, atI_nat (j := 0) rfl, _, rfl, f, _, _, .ref a1, rfl, rfl, SqL.of hf, atI_nat (j := 1) rfl, _, rfl, f, _, _, .ref a2, rfl, rfl, SqL.of hf, atI_nat (j := 2) rfl, mkS_of (as := [a0, a1, a2]) hb hz (by omega) hne hO hM fun h1 h2 x H' s' _ t => hq h1 h2 x H' s' t⟩) (fun c => absurd rfl c)⟩)⟩)⟩
  · obtain ⟨a0, a1, a2, a3, a4, a5, a6, a7, rfl⟩ : ∃ a0 a1 a2 a3 a4 a5 a6 a7, as = [a0, a1, a2, a3, a4, a5, a6, a7] := match as, (show as.length = 8 by omega) with | [a0, a1, a2, a3, a4, a5, a6, a7], _ => ⟨_, _, _, _, _, _, _, _, rfl⟩
    refine ⟨_, rfl, f, _, rfl, .inl (SqL.of hf), rfl, _, rfl, if_dec (fun c => absurd (V.int.inj c) (by show ¬ ((8 : Nat) : Int) = 1; decide)) (fun _ => ⟨_, rfl, f, _, rfl, .inl (SqL.of hf), rfl, _, rfl, if_dec (fun c => absurd (V.int.inj c) (by show ¬ ((8 : Nat) : Int) = 2; decide)) (fun _ => ⟨_, rfl, f, _, rfl, .inl (SqL.of hf), rfl, _, rfl, if_dec (fun c => absurd (V.int.inj c) (by show ¬ ((8 : Nat) : Int) = 3; decide)) (fun _ => ?_)⟩)⟩)⟩
    refine ⟨_, rfl, f, _, _, .ref a0, rfl, rfl, SqL.of hf, atI_nat (j := 0) rfl, _, rfl, f, _, _, .ref a1, rfl, rfl, SqL.of hf, atI_nat (j := 1) rfl, _, rfl, f, _, _, .ref a2, rfl, rfl, SqL.of hf, atI_nat (j := 2) rfl, _, rfl, f, _, _, .ref a3, rfl, rfl, SqL.of hf, atI_nat (j := 3) rfl, _, rfl, f, _, _, .ref a4, rfl, rfl, SqL.of hf, atI_nat (j := 4) rfl, _, rfl, f, _, _, .ref a5, rfl, rfl, SqL.of hf, atI_nat (j := 5) rfl, _, rfl, f, _, _, .ref a6, rfl, rfl, SqL.of hf, atI_nat (j := 6) rfl, _, rfl, f, _, _, .ref a7, rfl, rfl, SqL.of hf, atI_nat (j := 7) rfl, (by show 8 ≤ sizeLine; decide), fun mo hmo => ?_⟩
    have s1 := up_same (o := .lst [.ref a0, .ref a1, .ref a2, .ref a3, .ref a4, .ref a5, .ref a6, .ref a7]) hmo
    have e1 : upd H mo (.lst [.ref a0, .ref a1, .ref a2, .ref a3, .ref a4, .ref a5, .ref a6, .ref a7]) mo = some (.lst [.ref a0, .ref a1, .ref a2, .ref a3, .ref a4, .ref a5, .ref a6, .ref a7]) := upd_same
    generalize upd H mo (.lst [.ref a0, .ref a1, .ref a2, .ref a3, .ref a4, .ref a5, .ref a6, .ref a7]) = H1 at *
    have hf1 := s1 _ _ hf
    have hb1 : BdO K H1 b rows := ⟨hb.1.mono (Stay.of s1), hb.2⟩
    have hz1 := Paired.mapP (G := TmZ K H1) hz fun _ _ t => ⟨t.1.mono s1, t.2⟩
    exact ⟨_, rfl, f, _, rfl, .inl (SqL.of hf1), rfl, _, rfl, if_dec (fun _ => ⟨_, rfl, _, rfl, mo, _, _, .ref a0, rfl, rfl, SqL.of e1, atI_nat (j := 0) rfl, _, rfl, mo, _, _, .ref a1, rfl, rfl, SqL.of e1, atI_nat (j := 1) rfl, _, rfl, mo, _, _, .ref a2, rfl, rfl, SqL.of e1, atI_nat (j := 2) rfl, _, rfl, mo, _, _, .ref a3, rfl, rfl, SqL.of e1, atI_nat (j := 3) rfl, _, rfl, mo, _, _, .ref a4, rfl, rfl, SqL.of e1, atI_nat (j := 4) rfl, _, rfl, mo, _, _, .ref a5, rfl, rfl, SqL.of e1, atI_nat (j := 5) rfl, _, rfl, mo, _, _, .ref a6, rfl, rfl, SqL.of e1, atI_nat (j := 6) rfl, _, rfl, mo, _, _, .ref a7, rfl, rfl, SqL.of e1, atI_nat (j := 7) rfl, mkS_of (as := [a0, a1, a2, a3, a4, a5, a6, a7]) hb1 hz1 (by omega) hne (fun z H' s' => hO z H' (s1.trans s')) (fun z c d H' fs s' => hM z c d H' fs (s1.trans s')) fun h1 h2 x H' s' _ t => hq h1 h2 x H' (s1.trans s') t⟩) (fun c => absurd rfl c)⟩
  · obtain ⟨a0, a1, a2, a3, a4, a5, a6, a7, a8, rfl⟩ : ∃ a0 a1 a2 a3 a4 a5 a6 a7 a8, as = [a0, a1, a2, a3, a4, a5, a6, a7, a8] := match as, (show as.length = 9 by omega) with | [a0, a1, a2, a3, a4, a5, a6, a7, a8], _ => ⟨_, _, _, _, _, _, _, _, _, rfl⟩
    refine ⟨_, rfl, f, _, rfl, .inl (SqL.of hf), rfl, _, rfl, if_dec (fun c => absurd (V.int.inj c) (by show ¬ ((9 : Nat) : Int) = 1; decide)) (fun _ => ⟨_, rfl, f, _, rfl, .inl (SqL.of hf), rfl, _, rfl, if_dec (fun c => absurd (V.int.inj c) (by show ¬ ((9 : Nat) : Int) = 2; decide)) (fun _ => ⟨_, rfl, f, _, rfl, .inl (SqL.of hf), rfl, _, rfl, if_dec (fun c => absurd (V.int.inj c) (by show ¬ ((9 : Nat) : Int) = 3; decide)) (fun _ => ?_)⟩)⟩)⟩
    refine ⟨_, rfl, f, _, _, .ref a0, rfl, rfl, SqL.of hf, atI_nat (j := 0) rfl, _, rfl, f, _, _, .ref a1, rfl, rfl, SqL.of hf, atI_nat (j := 1) rfl, _, rfl, f, _, _, .ref a2, rfl, rfl, SqL.of hf, atI_nat (j := 2) rfl, _, rfl, f, _, _, .ref a3, rfl, rfl, SqL.of hf, atI_nat (j := 3) rfl, _, rfl, f, _, _, .ref a4, rfl, rfl, SqL.of hf, atI_nat (j := 4) rfl, _, rfl, f, _, _, .ref a5, rfl, rfl, SqL.of hf, atI_nat (j := 5) rfl, _, rfl, f, _, _, .ref a6, rfl, rfl, SqL.of hf, atI_nat (j := 6) rfl, _, rfl, f, _, _, .ref a7, rfl, rfl, SqL.of hf, atI_nat (j := 7) rfl, (by show 8 ≤ sizeLine; decide), fun mo hmo => ?_⟩
    have s1 := up_same (o := .lst [.ref a0, .ref a1, .ref a2, .ref a3, .ref a4, .ref a5, .ref a6, .ref a7]) hmo
    have e1 : upd H mo (.lst [.ref a0, .ref a1, .ref a2, .ref a3, .ref a4, .ref a5, .ref a6, .ref a7]) mo = some (.lst [.ref a0, .ref a1, .ref a2, .ref a3, .ref a4, .ref a5, .ref a6, .ref a7]) := upd_same
    generalize upd H mo (.lst [.ref a0, .ref a1, .ref a2, .ref a3, .ref a4, .ref a5, .ref a6, .ref a7]) = H1 at *
    have hf1 := s1 _ _ hf
    have hb1 : BdO K H1 b rows := ⟨hb.1.mono (Stay.of s1), hb.2⟩
    have hz1 := Paired.mapP (G := TmZ K H1) hz fun _ _ t => ⟨t.1.mono s1, t.2⟩
    exact ⟨_, rfl, f, _, rfl, .inl (SqL.of hf1), rfl, _, rfl, if_dec (fun c => absurd (V.int.inj c) (by show ¬ ((9 : Nat) : Int) = 8; decide)) (fun _ => ⟨_, rfl, _, rfl, mo, _, _, .ref a0, rfl, rfl, SqL.of e1, atI_nat (j := 0) rfl, _, rfl, mo, _, _, .ref a1, rfl, rfl, SqL.of e1, atI_nat (j := 1) rfl, _, rfl, mo, _, _, .ref a2, rfl, rfl, SqL.of e1, atI_nat (j := 2) rfl, _, rfl, mo, _, _, .ref a3, rfl, rfl, SqL.of e1, atI_nat (j := 3) rfl, _, rfl, mo, _, _, .ref a4, rfl, rfl, SqL.of e1, atI_nat (j := 4) rfl, _, rfl, mo, _, _, .ref a5, rfl, rfl, SqL.of e1, atI_nat (j := 5) rfl, _, rfl, mo, _, _, .ref a6, rfl, rfl, SqL.of e1, atI_nat (j := 6) rfl, _, rfl, mo, _, _, .ref a7, rfl, rfl, SqL.of e1, atI_nat (j := 7) rfl, _, rfl, f, _, _, .ref a8, rfl, rfl, SqL.of hf1, atI_nat (j := 8) rfl, mkS_of (as := [a0, a1, a2, a3, a4, a5, a6, a7, a8]) hb1 hz1 (by omega) hne (fun z H' s' => hO z H' (s1.trans s')) (fun z c d H' fs s' => hM z c d H' fs (s1.trans s')) fun h1 h2 x H' s' _ t => hq h1 h2 x H' (s1.trans s') t⟩)⟩
/-! _law_shown -/
/-- a set of trims as data -/
def trD (rows : List Sy.Row) (t : Trm) : PyData := .tuple [RowsD rows, DS t.1, .tuple (t.2.map kD)]
def shD (rows : List Sy.Row) (ts : List Trm) (nm : Str) : PyData := .tuple [.str "Good", RowsD rows, .tuple (ts.map (trD rows)), .str nm, .int (ts.length : Nat)]
def spSh (K : PySem.W.Frag) : Sp := fun vs H Q _ => ∃ (x : Addr) (rows : List Sy.Row) (ts : List Trm) (nm : Str), vs = [.ref x] ∧ TrmsAt K H x rows ts nm ∧ ts.length ≤ 100 ∧ ∀ v H', Same H H' → Im K H' v (shD rows ts nm) → Q v H'
abbrev N_sh : List Str := ["_law_held", "_law_pairs", "_law_trim"]
theorem sc_sh : FnScope N_sh ["_law_held"] (defScope (top 60)) := ⟨rfl, rfl, rfl, by decide +kernel, rfl, by decide +kernel, by decide +kernel⟩
theorem k_sh {fL : FuncData} (T : Txt K mg) (C : TxtC mg) (TT : TxtT K) (TS : TxtS K) (mL : Meth K (He.ga K "Trims") "__len__" (He.ma K (He.ga K "Trims") "__len__")) (FL : FnOk P w K mg base (L2.CX P w) 1 (He.ma K (He.ga K "Trims") "__len__") fL ["self"] (spLenS K)) (BL : L2.Binds K fL ["self"] []) (F : DF K mg "_law_shown" 60) : Cal P w K mg base 3 "_law_shown" ["_law_held"] (spSh K) := by
  refine cal_of F.1 F.2 sc_sh (fun _ _ _ _ _ _ us e => match us, e with | [_], _ => rfl) (fun vs H Q E s => by obtain ⟨_, _, _, _, rfl, _⟩ := s; rfl) ?_
  intro cdv A outer s H vs Q E hr h
  obtain ⟨x, rows, ts, nm, rfl, t, hl, hq⟩ := h
  have sc := sc_sh
  refine ⟨_, (pss_cons (ps_if (pt_not (pt_val (pe_callB call_isi (by rfl) T.isinstance (by decide +kernel) (pa_cons (pe_fld (pv 0) rfl) (pa_cons (pe_bltn (v := .ty "tuple") (by rfl) T.tuple (by decide +kernel) rfl) pa_nil)))))
        (pss_one (ps_ret (pe_tup (pa_cons pe_str pa_nil))))
        pss_nil)
      (pss_cons (ps_setLc (i := 1) (own := [("_law_trim", 2)]) (g := gName 2) rfl sc.nd rfl rfl (sw_true rfl rfl rfl (by decide +kernel)) (pi_tup (pe_fld (pv 0) rfl)) (blkOk_by (N := N_sh) (sc := defScope (top 60)) (by decide +kernel)) (fun _ _ _ _ _ => (pg_name (i := 2) sc.nd rfl (Or.inl rfl))) (fun _ _ _ _ _ => pts_nil) (fun _ _ _ _ _ => (pe_tup (pa_cons (pe_fldK K rfl (pe_fldK K rfl (pv 2) rfl) rfl) (pa_cons (pe_fldK K rfl (pv 2) rfl) (pa_cons (pe_fldK K rfl (pv 2) rfl) pa_nil))))))
      (pss_one (ps_ret (pe_tup (pa_cons pe_str (pa_cons (pe_fld (pe_fld (pv 0) rfl) rfl) (pa_cons (pe_callTy call_tupZ (by rfl) T.tuple (by decide +kernel) (pa_cons (pv 1) pa_nil)) (pa_cons (pe_fld (pv 0) rfl) (pa_cons (pe_callB (call_lenO mL FL (hr.mono (by decide)) BL) (by rfl) T.len (by decide +kernel) (pa_cons (pv 0) pa_nil)) pa_nil)))))))))), ?_⟩
  obtain ⟨dx, b, p, d, as, kvs, h1, h2, h3, h4, h5, h6⟩ := id t.ex
  have hpl := paired_len h4
  refine ⟨_, rfl, x, _, dx, _, _, rfl, h1, TS.cl, TS.nT, rfl, _, _, _, _, true, rfl, .ty _, tyx_tup h3, kit_ty (by decide +kernel), _, rfl, iteF ?_⟩
  refine ⟨_, rfl, x, _, dx, _, _, rfl, h1, TS.cl, TS.nT, rfl, p, rfl, ⟨_, h3⟩, fun D hD => ?_⟩
  have k0 := (Hs.start H).new (o := .lst []) hD
  refine lc_it walk_tup (fun i H' => ∃ (ps : List Addr) (B : Hp), ps.length = i ∧ Paired (fun q t => Im K B (.ref q) (trD rows t)) ps (ts.take i) ∧ Same H B ∧ Hs B [(D, .lst (ps.map V.ref))] H') ⟨[], H, rfl, .nil, Same.refl _, k0⟩ (fun _ _ _ ⟨_, _, _, _, s', hh⟩ => Same.sqt (s'.trans hh.sub) h3) ?_ ?_
  · rintro i v H2 _ hi ⟨ps, B, hps, hpd, sB, hh⟩ ⟨rfl, hv⟩
    rw [List.length_map] at hi
    obtain ⟨z, ez⟩ : ∃ z, ts[i]? = some z := ⟨_, List.getElem?_eq_getElem (by omega)⟩
    obtain ⟨y, ey, ty⟩ := paired_at h4 ez
    rw [List.getElem?_map, ey] at hv
    cases hv
    obtain ⟨dx2, b2, a2, r2, g1, g2, g3, g4⟩ := (show TrmAt K H y rows z.1 z.2 from ty).ex
    obtain ⟨dx3, dA, tR, tK, dR, g5, g6⟩ := g2.rowsIm
    have sH := sB.trans hh.sub
    refine ⟨rfl, ?_⟩
    simp only [tYes, if_true]
    refine ⟨_, rfl, y, _, dx2, _, _, rfl, sH _ _ g1, TT.cl, TT.nB, rfl, b2, _, dx3, _, _, rfl, sH _ _ g5, T.bed.cl, T.bed.nR, rfl, _, rfl, y, _, dx2, _, _, rfl, sH _ _ g1, TT.cl, TT.nS, rfl, _, rfl, y, _, dx2, _, _, rfl, sH _ _ g1, TT.cl, TT.nR, rfl, (by show 3 ≤ sizeLine; decide), fun q hq' => ?_⟩
    have h9 := hh.tup (o := .tup [.ref tR, .ref a2, .ref r2]) hq'
    have s9 := up_same (o := .tup [.ref tR, .ref a2, .ref r2]) (hh.sub.free hq')
    have sB9 := sB.trans s9
    refine ⟨_, h9.r0, by rw [List.length_map, hps, sizeLine_eq]; omega, ps ++ [q], _, by rw [List.length_append, hps]; rfl, ?_, sB9, by rw [List.map_append]; exact h9.w0⟩
    rw [List.take_succ, ez]
    exact paired_snoc (.tup (SqT.of upd_same) (.cons (g6.mono (Stay.of sB9)) (.cons (Im.strs (Same.sqt sB9 g3)) (.cons (.tup (Same.sqt sB9 g4) (ImA.keys _)) .nil)))) (Paired.mapP hpd fun _ _ r => r.mono (Stay.of s9))
  · rintro H2 ⟨ps, B, hps, hpd, sB, hh⟩
    rw [List.length_map] at hps hpd
    rw [List.take_of_length_le (by omega)] at hpd
    have sH := sB.trans hh.sub
    obtain ⟨dx3, dA, tR, tK, dR, g5, g6⟩ := (h2.mono (Stay.of sH)).rowsIm
    refine ⟨_, rfl, x, _, dx, _, _, rfl, sH _ _ h1, TS.cl, TS.nB, rfl, b, _, dx3, _, _, rfl, g5, T.bed.cl, T.bed.nR, rfl, _, rfl, D, _, rfl, SqL.of hh.r0, fun l4 H4 n4 => ?_⟩
    have s4 := sH.trans n4.same
    have t4 : TrmsAt K H4 x rows ts nm := by
      refine ⟨dx, b, p, d, as, kvs, s4 _ _ h1, h2.mono (Stay.of s4), Same.sqt s4 h3, Paired.mapP h4 fun _ _ r => r.mono s4, s4 _ _ h5, h6.stayT (StayT.of s4)⟩
    refine ⟨_, rfl, x, _, dx, _, _, rfl, s4 _ _ h1, TS.cl, TS.nN, rfl, _, rfl, x, dx, _, rfl, s4 _ _ h1, x, rows, ts, nm, rfl, t4, ts.length, rfl, by omega, (by show 5 ≤ sizeLine; decide), fun q hq' => ?_⟩
    have s5 := s4.trans (up_same (o := .tup [.str "Good", .ref tR, .ref l4, .str nm, .int (ts.length : Nat)]) hq')
    have s45 := up_same (o := .tup [.str "Good", .ref tR, .ref l4, .str nm, .int (ts.length : Nat)]) hq'
    refine hq _ _ s5 (.tup (SqT.of upd_same) (.cons (.str _) (.cons (g6.mono (Stay.of (n4.same.trans s45))) (.cons (.tup (Same.sqt s45 n4.sqt) ?_) (.cons (.str _) (.cons (.int _) .nil))))))
    have go : ∀ {H' : Hp} {ps : List Addr} {ts : List Trm}, Paired (fun q t => Im K H' (.ref q) (trD rows t)) ps ts → ImA K H' (ps.map V.ref) (ts.map (trD rows)) := by
      intro H' ps ts h
      induction h with
      | nil => exact .nil
      | cons a _ ih => exact .cons a ih
    exact ImA.mono (Stay.of ((hh.sub.trans n4.same).trans s45)) (go hpd)
end
end Sy
/-! _law_set_asked -/
namespace Sy
open PySem PySem.Spec PyProof.Rows L2 LamX NdefX
section
variable {P : Program} {w : World} {K : PySem.W.Frag} {mg : Str → Option Value} {base : Heap}
def obD : PyData := .tuple [.str "OtherBed", .bool true]
def tmD : PyData := .tuple [.str "TooMany", .str "trims", .int 8, .bool true]
def dSA (rows : List Sy.Row) (zs : List TrmZ) : PyData := if zs.all (fun z => decide (z.1 = rows)) = true then (if 8 < zs.length then tmD else shD rows (zs.map (·.2)) "trims") else obD
theorem all_rows {rows : List Sy.Row} {zs : List TrmZ} : zs.all (fun z => decide (z.1 = rows)) = true ↔ ∀ z ∈ zs, z.1 = rows := by
  rw [List.all_eq_true]
  exact ⟨fun h z hz => of_decide_eq_true (h z hz), fun h z hz => decide_eq_true (h z hz)⟩
def spSA (K : PySem.W.Frag) : Sp := fun vs H Q _ => ∃ (b f : Addr) (as : List Addr) (rows : List Sy.Row) (zs : List TrmZ), vs = [.ref b, .ref f] ∧ BdO K H b rows ∧ H f = some (.lst (as.map V.ref)) ∧ Paired (TmZ K H) as zs ∧ (zs.length = 1 ∨ zs.length = 2 ∨ zs.length = 3 ∨ zs.length = 8 ∨ zs.length = 9) ∧ (∀ z ∈ zs, z.2.1 ≠ []) ∧
  ∀ v H', Same H H' → Im K H' v (dSA rows zs) → Q v H'
abbrev N_sa : List Str := ["_law_bed_here", "_law_given", "_law_e"]
theorem sc_sa : FnScope N_sa ["_law_bed_here", "_law_given"] (defScope (top 61)) := ⟨rfl, rfl, rfl, by decide +kernel, rfl, by decide +kernel, by decide +kernel⟩
theorem k_sa {fdO : FuncData} (R : Ers P K mg) (OB : ErrB P K mg "OtherBed" "OtherBed.__init__" (clb 8 0) []) (M : MetT K mg) (F : DF K mg "_law_set_asked" 61) (c_law_set : Cal P w K mg base 6 "_law_set" ["_law_bed_here", "_law_given"] (spSet K)) (c_law_shown : Cal P w K mg base 3 "_law_shown" ["_law_held"] (spSh K))
    (FO : FnP P w K mg base 1 (He.ga K "_law_own") fdO ["_law_e"] (spOwn K)) (BO : L2.Binds K fdO ["_law_e"] []) (aO : mg "_law_own" = some (.ref (He.ga K "_law_own"))) (kO : PySem.W.keepIn K (.ref (He.ga K "_law_own")) = true) :
    Cal P w K mg base 7 "_law_set_asked" ["_law_bed_here", "_law_given"] (spSA K) := by
  refine cal_of F.1 F.2 sc_sa (fun _ _ _ _ _ _ us e => match us, e with | [_, _], _ => rfl) (fun vs H Q E s => by obtain ⟨_, _, _, _, _, rfl, _⟩ := s; rfl) ?_
  intro cdv A outer s H vs Q E hr h
  obtain ⟨b, f, as, rows, zs, rfl, hb, hf, hz, hlen, hne, hall⟩ := h
  have hO : (∃ z ∈ zs, z.1 ≠ rows) → ∀ v H', Same H H' → Im K H' v obD → Q v H' := fun ⟨z, hz, hn⟩ v H' s' i => hall v H' s' (by
    unfold dSA
    rw [if_neg (fun a => hn (all_rows.mp a z hz))]
    exact i)
  have hM : (∀ z ∈ zs, z.1 = rows) → 8 < zs.length → ∀ v H', Same H H' → Im K H' v tmD → Q v H' := fun a c v H' s' i => hall v H' s' (by
    unfold dSA
    rw [if_pos (all_rows.mpr a), if_pos c]
    exact i)
  have hq : (∀ z ∈ zs, z.1 = rows) → zs.length ≤ 8 → ∀ v H', Same H H' → Im K H' v (shD rows (zs.map (·.2)) "trims") → Q v H' := fun a c v H' s' i => hall v H' s' (by
    unfold dSA
    rw [if_pos (all_rows.mpr a), if_neg (by omega)]
    exact i)
  have sc := sc_sa
  refine ⟨_, pss_one (ps_try_mix rfl rfl sc.nd
    (fun W pn xe tk _ => pss_one (ps_ret (pe_calX c_law_shown hr tk (pa_cons (pe_calX c_law_set hr tk (pa_cons (pv 0) (pa_cons (pv 1) pa_nil))) pa_nil))))
    (.cons (i := 2) rfl rfl (R.tm.nm rfl (by decide)) (fun ea oe cls dd pn hz hf => pss_one (ps_ret (pe_tup (pa_cons pe_str (pa_cons (pe_xf R.tm.xf (R.tm.no _ (by decide)) hz hf (pv 2)) (pa_cons (pe_xf R.tm.xf (R.tm.no _ (by decide)) hz hf (pv 2)) (pa_cons (pe_calP (ev := (ea, cls, dd)) (p := (ea, oe)) FO (roomH_suite hr (by decide)) ⟨rfl, hz, hf⟩ List.mem_cons_self rfl aO kO BO (pa_cons (pv 2) pa_nil)) pa_nil)))))))
    (.cons (i := 2) rfl rfl (OB.nm rfl (by decide)) (fun ea oe cls dd pn hz hf => pss_one (ps_ret (pe_tup (pa_cons pe_str (pa_cons (pe_calP (ev := (ea, cls, dd)) (p := (ea, oe)) FO (roomH_suite hr (by decide)) ⟨rfl, hz, hf⟩ List.mem_cons_self rfl aO kO BO (pa_cons (pv 2) pa_nil)) pa_nil)))))
    .nil))), ?_⟩
  refine ⟨_, rfl, _, rfl, b, f, as, rows, zs, rfl, hb, hf, hz, hlen, hne, fun ne H1 s1 => ?_, fun all c d H1 fs s1 ed im => ?_, fun all c x H1 s1 t => ?_⟩
  · refine ⟨false, M.exm 3 0 (by decide) (by decide), (fun z => by cases z), fun _ => ⟨true, OB.ex, fun _ ea hea => ?_, fun z => by cases z⟩⟩
    refine ⟨_, rfl, 3, by decide, rfl, .inl rfl, rfl, fun H3 s3 => ⟨(by show 2 ≤ sizeLine; decide), fun t ht => ?_⟩⟩
    exact hO ne _ _ ((s1.trans s3).trans (up_same (o := .tup [.str "OtherBed", .bl true]) ht)) (.tup (SqT.of upd_same) (.cons (.str _) (.cons (.bl _) .nil)))
  · cases im with
    | cons i1 r1 =>
      cases i1
      cases r1 with
      | cons i2 r2 =>
        cases i2
        cases r2
        refine ⟨true, R.tm.ex, fun _ ea hea => ?_, fun z => by cases z⟩
        refine ⟨_, rfl, rfl, rfl, d, _, _, rfl, ed, rfl, _, rfl, rfl, rfl, d, _, _, rfl, ed, rfl, _, rfl, 0, by decide, rfl, .inr ⟨d, _, rfl, ed⟩, rfl, fun H3 s3 => ⟨(by show 4 ≤ sizeLine; decide), fun t ht => ?_⟩⟩
        exact hM all c _ _ ((s1.trans s3).trans (up_same (o := .tup [.str "TooMany", .str "trims", .int (8 : Nat), .bl true]) ht)) (.tup (SqT.of upd_same) (.cons (.str _) (.cons (.str _) (.cons (.int _) (.cons (.bl _) .nil)))))
  · exact ⟨x, rows, _, _, rfl, t, by rw [List.length_map]; omega, fun v H' s' i => hq all c v H' (s1.trans s') i⟩
end
end Sy
/-! list(reversed(a list)) (own rule) -/
namespace Sy
open PySem PySem.Spec PyProof.Rows L2 RT
section
variable {prog : Program} {w : World} {A : Around} {E : Value → Shared → Prop} {s : Shared}
theorem extend_rev {R : Result → Shared → Prop} (hh : A.handled = none) {it l : Addr} {items : Array Value} (S : Addr) (res : Value) (c₀ : Nat) (hS : s.heap.get? S = some { cls := .type "list", data := .seq #[] c₀ })
    (hit : s.heap.IsRevIter it l ((items.size : Int) - 1)) (hl : s.heap.IsList l items) (hne : l ≠ it) (hSi : S ≠ it) (hSl : S ≠ l)
    (hR : ∀ h' tk acc' c', (∀ b o, b ≠ S → b ≠ it → s.heap.get? b = some o → h'.get? b = some o) → h'.get? S = some { cls := .type "list", dict := none, data := .seq acc' c', slots := #[] } →
      ItemsOf (fun i v => items[items.size - 1 - i]? = some v) acc' items.size → R (.ok (.ret res)) { s with heap := h', toks := tk }) (hn : items.size ≤ sizeLine) :
    wpAny (model prog w) A.in1 (Builtin.List.listExtendWith (.ref S) (.ref it) res)
      (fun fin s' => match fin with | .done f => R (.ok f) s' | .again c' => c'.quiet = true ∧ codeAny (model prog w) A c' R s') (fun e s' => R (.error e) s') s := by
  have W := (Walks.listRev (prog := prog) (w := w) (A := A.in1) hh it l hne items).toS
  have hSf : S ∉ [it, l] := by simp only [List.mem_cons, List.not_mem_nil, or_false, not_or]; exact ⟨hSi, hSl⟩
  have hT : s.TypeIs (.ref it) "list_reverseiterator" := Heap.IsRevIter.typeIs (s := s) hit
  have h1 : Builtin.List.listSameRef (.ref S) (.ref it) = false := by simp [Builtin.List.listSameRef, hSi]
  unfold Builtin.List.listExtendWith
  refine wpAny_bind (wpAny_typeOf hT ?_)
  rw [if_neg (by rw [h1]; decide)]
  refine wpAny_bind (wpAny_pyIter_revIter hit ?_)
  refine wpAny_bind (wpAny_holding ?_)
  unfold Builtin.List.listLengthHint
  refine wpAny_bind (wpAny_specialOf hT nolen_lri ?_)
  show wpAny _ A.in1 (specialOf (Value.ref it) (Str.ofString "__length_hint__") >>= _) _ _ _
  refine wpAny_bind (wpAny_specialOf hT hint_lri ?_)
  generalize hid : ("list_reverseiterator.__length_hint__" : String) = id0
  wp_delta
  rw [show splitId id0 = some ("list_reverseiterator", "__length_hint__") from by subst hid; decide +kernel]
  subst hid
  refine wpAny_bind (wpAny_isInstance (b := true) hT (by rw [isSubtype_type]; kernel_rfl) ?_)
  refine wpAny_pure ?_
  rw [if_neg (by decide)]
  have e0 : ((items.size : Nat) : Int) - 1 - ((0 : Nat) : Int) = (items.size : Int) - 1 := by omega
  refine wpAny_pure ⟨plainId_quiet F.plain_extend_loop _, codeAny_extend_loopS W hn _ hSf _ items.size 0 _ _ _ rfl (Nat.zero_le _) ⟨Nat.zero_le _, by rw [e0]; exact hit, hl⟩ hS (ItemsOf.nil _) fun s' acc' c' hm hS' hacc => ?_⟩
  rw [Moved.eq_with hm]
  refine hR s'.heap s'.toks acc' c' (fun b o hb hb2 e => hm.heap b o (fun hmem => ?_) e) hS' hacc
  rcases List.mem_cons.mp hmem with e' | hmem
  · exact hb e'
  · exact hb2 (List.mem_singleton.mp hmem)
theorem call_list_rev {it l : Addr} {items : Array Value} {Q : Value → Shared → Prop} (hh : A.handled = none) (hit : s.heap.IsRevIter it l ((items.size : Int) - 1)) (hl : s.heap.IsList l items) (hne : l ≠ it) (hn : items.size ≤ sizeLine)
    (hQ : ∀ h' tk acc' c', (∀ b o, b ≠ it → s.heap.get? b = some o → h'.get? b = some o) →
      h'.get? s.heap.objs.size = some { cls := .type "list", dict := none, data := .seq acc' c', slots := #[] } → ItemsOf (fun i v => items[items.size - 1 - i]? = some v) acc' items.size → Q (.ref s.heap.objs.size) { s with heap := h', toks := tk }) :
    wpAny (model prog w) A (call (.type "list") [.ref it]) Q E s := by
  refine callType_codes (Q₁ := fun obj s₁ => obj = .ref s.heap.objs.size ∧ s₁ = { s with heap := s.heap.push { cls := .type "list", data := .seq #[] } }) PySem.F.called_list (PySem.F.typeCall_list_1 _) PySem.F.entry_list_init
    (code_list_new _ ⟨rfl, rfl⟩) fun obj s₁ h₁ => ?_
  obtain ⟨rfl, rfl⟩ := h₁
  have hS : (s.heap.push { cls := .type "list", data := .seq #[] }).get? s.heap.objs.size = some { cls := .type "list", data := .seq #[] } := Heap.get?_push_size _ rfl
  obtain ⟨oi, hoi, _⟩ := id hit
  obtain ⟨ol, hol, _⟩ := id hl
  have hSi : s.heap.objs.size ≠ it := Nat.ne_of_gt (Heap.lt_size hoi)
  have hSl : s.heap.objs.size ≠ l := Nat.ne_of_gt (Heap.lt_size hol)
  refine ⟨⟨_, hS, rfl⟩, PySem.F.args_list_init_2 _ _, ?_⟩
  generalize hH : s.heap.push { cls := .type "list", data := .seq #[] } = h0 at *
  have hit0 : h0.IsRevIter it l ((items.size : Int) - 1) := hit.at fun o e => by rw [← hH]; exact Heap.get?_push_of_some _ e
  have hl0 : h0.IsList l items := by rw [← hH]; exact hl.push _
  show wpAny _ _ (do let old ← Builtin.List.listItems (.ref s.heap.objs.size); Builtin.List.listUpdate (.ref s.heap.objs.size) (fun _ => #[]); letGo old.toList.reverse; Builtin.List.listExtendWith (.ref s.heap.objs.size) (.ref it) .none) _ _ _
  refine wpAny_bind ?_
  unfold Builtin.List.listItems
  refine wpAny_bind (wpAny_seqItems hS rfl (wpAny_pure ?_))
  show wpAny _ _ (updateSeq s.heap.objs.size (fun _ => #[]) >>= fun _ => letGo (#[] : Array Value).toList.reverse >>= fun _ => Builtin.List.listExtendWith (.ref s.heap.objs.size) (.ref it) .none) _ _ _
  refine wpAny_bind (wpAny_updateSeq hS rfl ?_)
  have hS₂ := Heap.get?_update_self (Obj.mapSeq (fun _ => (#[] : Array Value))) hS rfl
  have oth : ∀ b o, b ≠ s.heap.objs.size → h0.get? b = some o → (h0.update s.heap.objs.size (Obj.mapSeq (fun _ => (#[] : Array Value)))).get? b = some o :=
    fun b o hb e => (Heap.get?_update_other _ _ (Ne.symm hb)).trans e
  refine wpAny_bind (wpAny_letGo ?_)
  refine extend_rev (A := A.in1) hh s.heap.objs.size .none _ hS₂ (hit0.at fun o e => oth _ o hSi.symm e) ?_ hne hSi hSl (fun h' tk acc' c' hk hS' hacc => ?_) hn
  · exact hl0.extBut (fun b o hb e => oth b o hb e) hSl.symm
  · exact ⟨rfl, hQ h' tk acc' c' (fun b o hb e => hk b o (Nat.ne_of_lt (Heap.lt_size e)) hb (oth b o (Nat.ne_of_lt (Heap.lt_size e)) (by rw [← hH]; exact Heap.get?_push_of_some _ e))) hS' hacc⟩
end
def tLstRev (K : PySem.W.Frag) (te : TE) : TE := fun σ H Q => te σ H fun v H1 => ∃ (a : Addr) (xs : List V), v = .ref a ∧ SqL K H1 a xs ∧ ∀ q, H1 q = none → Q (.ref q) (upd H1 q (.lst xs.reverse))
theorem pe_lstRev {X : Cx} {e : Expr} {te : TE} {p p2 pos pos2 : Pos} (hc : X.calm = true) (hg : Gl X "list") (hm : X.mg "list" = none) (hg2 : Gl X "reversed") (hm2 : X.mg "reversed" = none) (he : PE X e te)
    (hs : starEach [e] X.env = (false, eval e X.env) :: starEach [] X.env := by rfl)
    (hs2 : starEach [.Call (.Name "reversed" p2) [e] [] pos2] X.env = (false, eval (.Call (.Name "reversed" p2) [e] [] pos2) X.env) :: starEach [] X.env := by rfl) :
    PE X (.Call (.Name "list" p) [.Call (.Name "reversed" p2) [e] [] pos2] [] pos) (tLstRev X.K te) := by
  refine ⟨fun pins s σ H Q I h => ?_⟩
  refine Call_ (ld_blt I hg hm boot_list (PyProof.Rows.callWith_type1 (args_cons (Call_ (ld_blt I hg2 hm2 PyProof.Rows.boot_reversed (PyProof.Rows.callWith_type1 (args_cons (thn (he.run pins s σ H _ I h) fun u s1 ⟨v, H1, I1, r1, q1⟩ => args_nil ?_) hs) hs rfl))) hs2) hs2 rfl))
  obtain ⟨a, xs, ev, hq, q⟩ := q1
  subst ev
  obtain rfl : u = Value.ref a := r1
  obtain ⟨its, rv, p', hz⟩ := I1.list hq
  refine call_reversed_list p'.isList (args_nil ?_)
  have k0 : ∀ b o, s1.heap.get? b = some o → (s1.heap.push (revObj a ((its.toArray.size : Int) - 1))).get? b = some o := fun b o e => Heap.get?_push_of_some _ e
  have I2 : Inv X pins σ H1 { s1 with heap := s1.heap.push (revObj a ((its.toArray.size : Int) - 1)) } := I1.kept (t' := s1.toks) k0
  obtain ⟨f0, f1, f2, f3, f4, f5⟩ := I1.fpOk (H' := H1) (b := s1.heap.objs.size) (Nat.le_refl _) (I1.hok.fresh (Nat.le_refl _))
  have hl := p'.isList
  obtain ⟨ol, hol, _⟩ := id hl
  have hne : a ≠ s1.heap.objs.size := Nat.ne_of_lt (Heap.lt_size hol)
  have hn : its.toArray.size ≤ sizeLine := by rw [List.size_toArray, ← rv.length]; exact hz
  refine call_list_rev (s := { s1 with heap := s1.heap.push (revObj a ((its.toArray.size : Int) - 1)) }) (I1.ok.hd hc) ⟨_, Heap.get?_push_size _ rfl, rfl, rfl⟩ (hl.push _) hne hn fun h' tk acc c' hk hS hi => ?_
  have ez : (s1.heap.push (revObj a ((its.toArray.size : Int) - 1))).objs.size = s1.heap.objs.size + 1 := Heap.size_push ..
  have new : ObjOk X.prog X.w (upd H1 (s1.heap.push (revObj a ((its.toArray.size : Int) - 1))).objs.size (.lst xs.reverse)) h' (s1.heap.push (revObj a ((its.toArray.size : Int) - 1))).objs.size (.lst xs.reverse) := by
    refine ⟨by rw [List.length_reverse]; exact hz, acc.toList, c', vals_rev rv hi, ?_⟩
    rw [Array.toArray_toList]
    exact hS
  have I3 := I2.turnedNew (t' := tk) (ch := [s1.heap.objs.size]) (T := (s1.heap.push (revObj a ((its.toArray.size : Int) - 1))).objs.size) (fun b o hb e => hk b o (fun z => hb (by simp [z])) e) (fun b hb => by
    rw [List.mem_singleton.mp hb]
    exact ⟨f0, f1, f2, f3, f4, f5⟩) (Nat.le_refl _) new
  exact ⟨.ref _, _, I3, rfl, q _ (I2.hok.fresh (Nat.le_refl _))⟩
end Sy
/-! _law_other -/
namespace Sy
open PySem PySem.Spec PyProof.Rows L2
/-- the kinds of another bed -/
def Oth2 (rows rows' : List Sy.Row) : Prop := KdsOk rows' ∧ rows' ≠ rows ∧ ∀ r ∈ rows, r ∈ rows'
theorem oth_rev {rows : List Sy.Row} (ok : KdsOk rows) : Oth2 rows rows.reverse := by
  have nd := ok.ok.nd
  refine ⟨⟨⟨fun r hr => ok.ok.nm r (List.mem_reverse.mp hr), fun r hr => ok.ok.br r (List.mem_reverse.mp hr), by rw [List.map_reverse, List.nodup_iff_pairwise_ne, List.pairwise_reverse]; exact (List.nodup_iff_pairwise_ne.mp nd).imp fun h => Ne.symm h, ?_, by rw [List.length_reverse]; exact ok.ok.le⟩, fun r hr => ok.wd r (List.mem_reverse.mp hr), by rw [List.length_reverse]; exact ok.ge, by rw [List.length_reverse]; exact ok.le⟩, fun e => ?_, fun r hr => List.mem_reverse.mpr hr⟩
  · obtain ⟨r, hr, e⟩ := ok.ok.lf
    exact ⟨r, List.mem_reverse.mpr hr, e⟩
  · have ge := ok.ge
    have h1 : rows.reverse[0]? = rows[rows.length - 1 - 0]? := List.getElem?_reverse (by omega)
    rw [e] at h1
    have i0 : rows[0]? = some rows[0] := List.getElem?_eq_getElem (by omega)
    have i1 : rows[rows.length - 1 - 0]? = some rows[rows.length - 1 - 0] := List.getElem?_eq_getElem (by omega)
    have hn : rows.Nodup := by
      rw [List.nodup_iff_pairwise_ne, List.pairwise_map] at nd
      exact List.nodup_iff_pairwise_ne.mpr (nd.imp fun h z => h (by rw [z]))
    rw [i0, i1] at h1
    have := (List.getElem_inj hn).mp (Option.some.inj h1)
    omega
theorem oth_more {rows : List Sy.Row} (ok : KdsOk rows) (l4 : rows.length ≤ 4) {x : Str} {n : Nat} (hx : Wd x) (hn : x ∉ rows.map (·.1)) (n3 : n ≤ 3) : Oth2 rows (rows ++ [(x, n)]) := by
  refine ⟨⟨⟨fun r hr => ?_, fun r hr => ?_, ?_, ?_, by rw [List.length_append]; show _ + 1 ≤ 8; omega⟩, fun r hr => ?_, by rw [List.length_append]; have := ok.ge; show _ ≤ _ + 1; omega, by rw [List.length_append]; show _ + 1 ≤ _; omega⟩, fun e => ?_, fun r hr => List.mem_append_left _ hr⟩
  · rcases List.mem_append.mp hr with hr | hr
    · exact ok.ok.nm r hr
    · rw [List.mem_singleton.mp hr]
      exact hx.ok
  · rcases List.mem_append.mp hr with hr | hr
    · exact ok.ok.br r hr
    · rw [List.mem_singleton.mp hr]
      exact n3
  · rw [List.map_append, List.nodup_append]
    exact ⟨ok.ok.nd, by simp, fun a ha b hb e => hn (by rw [List.mem_singleton.mp hb] at e; rw [show x = a from e.symm]; exact ha)⟩
  · obtain ⟨r, hr, e⟩ := ok.ok.lf
    exact ⟨r, List.mem_append_left _ hr, e⟩
  · rcases List.mem_append.mp hr with hr | hr
    · exact ok.wd r hr
    · rw [List.mem_singleton.mp hr]
      exact hx
  · have := congrArg List.length e
    rw [List.length_append] at this
    have h1 : ([(x, n)] : List Sy.Row).length = 1 := rfl
    omega
section
variable {P : Program} {w : World} {K : PySem.W.Frag} {mg : Str → Option Value} {base : Heap}
def spOt (K : PySem.W.Frag) : Sp := fun vs H Q _ => ∃ (c g q : Addr) (rows : List Sy.Row), vs = [.ref g, .ref q] ∧ Bag c g H ∧ q ≠ g ∧ RL K H q rows ∧ KdsOk rows ∧ rows.length ≤ 4 ∧ ∀ (p : Addr) (rows' : List Sy.Row) (H' : Hp), Oth2 rows rows' → Dr c g H H' → RL K H' p rows' → Q (.ref p) H'
abbrev N_ot : List Str := ["_law_bag_here", "_law_kinds_here", "_law_words_here", "_law_spare", "_law_pair_here", "_law_one"]
theorem sc_ot : FnScope N_ot ["_law_bag_here", "_law_kinds_here"] (defScope (top 62)) := ⟨rfl, rfl, rfl, by decide +kernel, rfl, by decide +kernel, by decide +kernel⟩
theorem k_ot (T : Txt K mg) (F : DF K mg "_law_other" 62) (c_law_pick : Cal P w K mg base 1 "_law_pick" ["_law_bag_here", "_law_limit"] spPick) : Cal P w K mg base 2 "_law_other" ["_law_bag_here", "_law_kinds_here"] (spOt K) := by
  refine cal_of F.1 F.2 sc_ot (fun _ _ _ _ _ _ us e => match us, e with | [_, _], _ => rfl) (fun vs H Q E s => by obtain ⟨_, _, _, _, rfl, _⟩ := s; rfl) ?_
  intro cdv A outer s H vs Q E hr h
  obtain ⟨c, g, q, rows, rfl, hg, hne, hRL, ok, l4, hq⟩ := h
  have sc := sc_ot
  refine ⟨_, (pss_cons (ps_if (pt_cmpR op_eq (pe_cal c_law_pick hr (pa_cons (pv 0) (pa_cons pe_int pa_nil))) pe_int (nomark _))
        (pss_one (ps_ret (pe_lstRev rfl rfl T.list rfl T.reversed (pv 1))))
        pss_nil)
      (pss_cons (ps_set (i := 2) sc.nd rfl (Or.inr rfl) (pe_lc (own := [("_law_pair_here", 4)]) (g := gName 4) rfl sc.nd (pi_list (pv 1)) (blkOk_by (N := N_ot) (sc := defScope (top 62)) (by decide +kernel)) (fun _ _ _ _ _ => (pg_name (i := 4) sc.nd rfl (Or.inl rfl))) (fun _ _ _ _ _ => pts_nil) (fun _ _ _ _ _ => (pe_ixTK K rfl (pv 4) pe_int (fun _ _ => rfl)))))
      (pss_cons (ps_set (i := 3) sc.nd rfl (Or.inl rfl) (pe_ix ix_list (pe_lc (own := [("_law_one", 5)]) (g := gName 5) rfl sc.nd (pi_tup (pe_tup (pa_cons pe_str (pa_cons pe_str (pa_cons pe_str (pa_cons pe_str (pa_cons pe_str pa_nil))))))) (blkOk_by (N := N_ot) (sc := defScope (top 62)) (by decide +kernel)) (fun _ _ _ _ _ => (pg_name (i := 5) sc.nd rfl (Or.inl rfl))) (fun _ _ _ _ _ => (pts_one (pt_cmpR (op_notInK K rfl) (pv 5) (pv 2) rfl))) (fun _ _ _ _ _ => (pv 5))) pe_int (fun _ _ => rfl)))
      (pss_one (ps_ret (pe_op op_cat (pv 1) (pe_lst (pa_cons (pe_tup (pa_cons (pv 3) (pa_cons (pe_cal c_law_pick hr (pa_cons (pv 0) (pa_cons pe_int pa_nil))) pa_nil))) pa_nil)))))))), ?_⟩
  obtain ⟨x0, h0, bc0, pr, rfl, hL, hat⟩ := hg.takeR hne hRL
  rw [List.length_map] at l4
  generalize hB0 : L2.del H g = B0 at *
  refine ⟨_, rfl, c, g, 2, rfl, h0.bag bc0, by decide, by decide, fun j H1 hj d1 => ⟨rfl, _, rfl, if_dec (fun c1 => ?_) (fun c1 => ?_)⟩⟩
  · obtain ⟨x1, B1, s1, h1⟩ := h0.dr0 d1
    refine ⟨_, rfl, q, _, rfl, SqL.of (h1.sub _ _ (s1 _ _ hL)), fun R hR => ?_⟩
    have h2 := h1.new (o := .lst ((pr.map fun z => V.ref z.1).reverse)) hR
    refine hq R (pr.map (·.2)).reverse _ (oth_rev ok) (h2.swap.isDr (by rw [hB0]; exact s1)) ⟨pr.reverse, by rw [List.map_reverse], by rw [List.map_reverse]; exact h2.r0, ⟨fun z hz => Same.sqt (s1.trans h2.sub) (hat.at_ z (List.mem_reverse.mp hz))⟩⟩
  · obtain ⟨x1, B1, s1, h1⟩ := h0.dr0 d1
    refine ⟨_, rfl, q, rfl, ⟨_, SqL.of (h1.sub _ _ (s1 _ _ hL))⟩, fun D hD => lc_maps (K := K) (xs := pr) (f := fun z => V.ref z.1) (out := fun z => V.str z.2.1) h1 hD (fun _ _ z => z.sub _ _ (s1 _ _ hL)) (by omega) (fun z hz H' s' R1 k1 => ?_) (fun H2 h2 => ?_)⟩
    · exact ⟨_, rfl, z.1, _, _, _, rfl, rfl, Same.sqt (s1.trans s') (hat.at_ z hz), atI_nat (j := 0) rfl, k1⟩
    have eW : (pr.map fun z => V.str z.2.1) = ((pr.map (·.2)).map (·.1)).map V.str := by rw [List.map_map, List.map_map]; rfl
    rw [eW] at h2
    have g3 := h2.give
    have h3 := g3.2
    have s3 := g3.1
    have e3 : upd B1 D (.lst (((pr.map (·.2)).map (·.1)).map V.str)) D = some (.lst (((pr.map (·.2)).map (·.1)).map V.str)) := upd_same
    generalize upd B1 D (.lst (((pr.map (·.2)).map (·.1)).map V.str)) = B3 at *
    refine ⟨(by show 5 ≤ sizeLine; decide), fun p hp => ?_⟩
    have h4 := h3.tup (o := .tup (five.map V.str)) hp
    have s4 := up_same (o := .tup (five.map V.str)) (h3.sub.free hp)
    have e4 : upd B3 p (.tup (five.map V.str)) p = some (.tup (five.map V.str)) := upd_same
    have s34 := up_same (o := .tup (five.map V.str)) hp
    have eH4 : upd H2 p (.tup [.str "q", .str "w", .str "e", .str "r", .str "t"]) = upd H2 p (.tup (five.map V.str)) := rfl
    rw [eH4]
    generalize upd B3 p (.tup (five.map V.str)) = B4 at *
    generalize upd H2 p (.tup (five.map V.str)) = H4 at *
    obtain ⟨y, r, ey, ny, wy⟩ := five_free (ws := (pr.map (·.2)).map (·.1)) (by rw [List.length_map, List.length_map]; omega)
    have eD4 := s4 _ _ e3
    refine ⟨p, rfl, ⟨_, SqT.of (h4.sub _ _ e4)⟩, fun D5 hD5 => lc_filtT (K := K) (xs := five) (f := V.str) (out := V.str) (keep := fun y => decide (y ∉ (pr.map (·.2)).map (·.1))) h4 hD5 (SqT.of e4) (by decide) (fun z _ H5 s5 R1 R2 k1 k2 => ?_) (fun H5 h5 => ?_)⟩
    · refine ⟨_, rfl, _, rfl, D, _, rfl, .inl (SqL.of (s5 _ _ eD4)), rfl, by simp [flatV], _, rfl, ?_⟩
      rw [inV_strs]
      by_cases e : z ∈ (pr.map (·.2)).map (·.1)
      · rw [decide_eq_true e]
        exact iteF (k2 (decide_eq_false fun z => z e))
      · rw [decide_eq_false e]
        exact iteT ⟨_, rfl, k1 (decide_eq_true e)⟩
    rw [ey] at h5
    have h5e := h5.r0
    have h6 := h5.drop
    refine ⟨D5, _, _, .str y, rfl, rfl, SqL.of h5e, atI_nat (j := 0) rfl, ?_⟩
    have sB4 := ((s1.trans s3).trans s4)
    refine ⟨_, rfl, _, rfl, _, rfl, c, g, 4, rfl, h6.bag (bc0.mono sB4), by decide, by decide, fun n H7 hn d7 => ⟨(by show 2 ≤ sizeLine; decide), fun t ht => ?_⟩⟩
    obtain ⟨x7, B7, s7, h7⟩ := h6.dr0 d7
    have h8 := h7.tup (o := .tup [.str y, .int (n : Nat)]) ht
    have s8 := up_same (o := .tup [.str y, .int (n : Nat)]) (h7.sub.free ht)
    have e8 : SqT K (upd B7 t (.tup [.str y, .int (n : Nat)])) t [.str y, .int (n : Nat)] := SqT.of upd_same
    generalize upd B7 t (.tup [.str y, .int (n : Nat)]) = B8 at *
    refine ⟨(by show 1 ≤ sizeLine; decide), fun E9 hE9 => ?_⟩
    have h9 := h8.lay (o := .lst [.ref t]) hE9
    have sB8 := (sB4.trans s7).trans s8
    refine ⟨q, E9, _, _, rfl, rfl, h9.sub _ _ (sB8 _ _ hL), upd_same, by rw [List.length_map, sizeLine_eq]; show _ + 1 ≤ _; omega, fun R hR => ?_⟩
    have h10 := h9.new (o := .lst ((pr.map fun z => V.ref z.1) ++ [.ref t])) hR
    refine hq R (pr.map (·.2) ++ [(y, n)]) _ (oth_more ok (by rw [List.length_map]; exact l4) wy ny (by omega)) (h10.swap.isDr (by rw [hB0]; exact sB8)) ⟨pr ++ [(t, (y, n))], by rw [List.map_append]; rfl, by rw [List.map_append]; exact h10.r0, ⟨fun z hz => ?_⟩⟩
    rcases List.mem_append.mp hz with hz | hz
    · exact Same.sqt (sB8.trans h10.sub) (hat.at_ z hz)
    · rw [List.mem_singleton.mp hz]
      exact Same.sqt h10.sub e8
end
end Sy
/-! the law's state between calls: the bag, own lists, what is known for good -/
namespace Sy
open PySem PySem.Spec PyProof.Rows L2 LamX NdefX
theorem TbI.stay {tb : Addr} {H H' : Hp} (t : TbI tb H) (s : Stay H H') : TbI tb H' := by
  obtain ⟨ps, h1, h2, h3⟩ := t
  refine ⟨ps, s _ _ h1 (fun _ z => by cases z), h2, fun pos cv hc => ?_⟩
  obtain ⟨c, e1, e2⟩ := h3 pos cv hc
  exact ⟨c, e1, s _ _ e2 (fun _ z => by unfold CodeO at z; cases z)⟩
abbrev OL : Type := List (Addr × List V)
structure Ls (tb c g : Addr) (O : OL) (B H : Hp) : Prop where
  st : StayT B H
  dm : ∀ a, H a = none → B a = none
  gB : B g = none
  nO : ∀ z ∈ O, B z.1 = none
  own : ∀ z ∈ O, H z.1 = some (.lst z.2)
  nd : (O.map (·.1)).Nodup
  gO : g ∉ O.map (·.1)
  cl : Cells c B
  gH : ∃ x, H g = some (bagO c x)
  tb : TbI tb H
theorem lst_nt {xs : List V} (qs : Array Value) : HO.lst xs ≠ .tbl qs := fun z => by cases z
section
variable {tb c g p : Addr} {O : OL} {B H H' : Hp} {xs ys : List V}
theorem Ls.bag (l : Ls tb c g O B H) : Bag c g H := by
  obtain ⟨zs, e⟩ := l.cl
  refine ⟨l.gH, fun z => ?_, zs, l.st _ _ e fun _ z => by cases z⟩
  rw [z, l.gB] at e
  cases e
theorem Ls.start (b : Bag c g H) (t : TbI tb H) : Ls tb c g [] (L2.del H g) H := by
  obtain ⟨⟨x, e⟩, ne, zs, e2⟩ := b
  refine ⟨fun a o h _ => ?_, fun a h => ?_, del_same, fun _ z => (nomatch z), fun _ z => (nomatch z), List.nodup_nil, fun z => (nomatch z), ⟨zs, by rw [del_ne ne]; exact e2⟩, ⟨x, e⟩, t⟩
  · by_cases z : a = g
    · rw [z, del_same] at h
      cases h
    · rw [del_ne z] at h
      exact h
  · by_cases z : a = g
    · rw [z, del_same]
    · rw [del_ne z]
      exact h
def cutB (g : Addr) (O : OL) (H : Hp) : Hp := fun a => if a = g ∨ a ∈ O.map (·.1) then none else H a
theorem Ls.go (l : Ls tb c g O B H) (h1 : ∀ a o, a ≠ g → H a = some o → (∀ qs, o ≠ .tbl qs) → H' a = some o) (h2 : ∃ x, H' g = some (bagO c x)) (t : TbI tb H') : ∃ B', StayT B B' ∧ Ls tb c g O B' H' ∧ Stay H' B' ∧ ∀ a o, a ≠ g → a ∉ O.map (·.1) → H' a = some o → B' a = some o := by
  have out : ∀ a o, a ≠ g → a ∉ O.map (·.1) → H' a = some o → cutB g O H' a = some o := fun a o n1 n2 e => by
    unfold cutB
    rw [if_neg (fun z => z.elim n1 n2)]
    exact e
  have own' : ∀ z ∈ O, H' z.1 = some (.lst z.2) := fun z hz => h1 _ _ (fun e => l.gO (by rw [← e]; exact List.mem_map_of_mem hz)) (l.own z hz) lst_nt
  have sB : StayT B (cutB g O H') := fun a o e n => by
    have n1 : a ≠ g := fun z => by rw [z, l.gB] at e; cases e
    refine out a o n1 (fun hm => ?_) (h1 a o n1 (l.st a o e n) n)
    obtain ⟨z, hz, ez⟩ := List.mem_map.mp hm
    have := l.nO z hz
    rw [ez, e] at this
    cases this
  obtain ⟨x, ex⟩ := h2
  refine ⟨cutB g O H', sB, ⟨fun a o e _ => ?_, fun a e => ?_, if_pos (.inl rfl), fun z hz => if_pos (.inr (List.mem_map_of_mem hz)), own', l.nd, l.gO, ?_, ⟨x, ex⟩, t⟩, fun a w e n => ?_, out⟩
  · unfold cutB at e
    split at e
    · cases e
    · exact e
  · unfold cutB
    split
    · rfl
    · exact e
  · obtain ⟨zs, e⟩ := l.cl
    exact ⟨zs, sB _ _ e lst_nt⟩
  · refine out a w (fun z => ?_) (fun hm => ?_) e
    · rw [z, ex] at e
      exact n _ (Option.some.inj e).symm
    · obtain ⟨z, hz, ez⟩ := List.mem_map.mp hm
      have := own' z hz
      rw [ez, e] at this
      exact n _ (Option.some.inj this)
theorem Ls.dr (l : Ls tb c g O B H) (d : Dr c g H H') : ∃ B', StayT B B' ∧ Ls tb c g O B' H' ∧ Stay H' B' ∧ ∀ a o, a ≠ g → a ∉ O.map (·.1) → H' a = some o → B' a = some o := by
  obtain ⟨x, c1, c2⟩ := d
  refine l.go (fun a o n e _ => c2 a o n e) ⟨x, c1⟩ (l.tb.stay fun a o e n => c2 a o (fun z => ?_) e)
  obtain ⟨y, ey⟩ := l.gH
  rw [z, ey] at e
  exact n _ (Option.some.inj e).symm
theorem Ls.sT (l : Ls tb c g O B H) (s : StayT H H') (t : TbI tb H') : ∃ B', StayT B B' ∧ Ls tb c g O B' H' ∧ Stay H' B' ∧ ∀ a o, a ≠ g → a ∉ O.map (·.1) → H' a = some o → B' a = some o := by
  obtain ⟨y, ey⟩ := l.gH
  exact l.go (fun a o _ e n => s a o e n) ⟨y, s _ _ ey lst_nt⟩ t
theorem Ls.same (l : Ls tb c g O B H) (s : Same H H') : ∃ B', StayT B B' ∧ Ls tb c g O B' H' ∧ Stay H' B' ∧ ∀ a o, a ≠ g → a ∉ O.map (·.1) → H' a = some o → B' a = some o :=
  l.sT (StayT.of s) (l.tb.same s)
theorem Ls.new (l : Ls tb c g O B H) (hp : H p = none) : Ls tb c g ((p, xs) :: O) B (upd H p (.lst xs)) := by
  have s := up_same (o := .lst xs) hp
  obtain ⟨y, ey⟩ := l.gH
  refine ⟨l.st.trans (StayT.of s), fun a e => l.dm a (Same.free s e), l.gB, fun z hz => ?_, fun z hz => ?_, ?_, fun hm => ?_, l.cl, ⟨y, s _ _ ey⟩, l.tb.same s⟩
  · rcases List.mem_cons.mp hz with rfl | hz
    · exact l.dm _ hp
    · exact l.nO z hz
  · rcases List.mem_cons.mp hz with rfl | hz
    · exact upd_same
    · exact s _ _ (l.own z hz)
  · refine List.nodup_cons.mpr ⟨fun hm => ?_, l.nd⟩
    obtain ⟨z, hz, ez⟩ := List.mem_map.mp hm
    have := l.own z hz
    rw [ez, hp] at this
    cases this
  · rcases List.mem_cons.mp hm with e | hm
    · have e : g = p := e
      rw [← e, ey] at hp
      cases hp
    · exact l.gO hm
theorem Ls.put (l : Ls tb c g ((p, xs) :: O) B H) : Ls tb c g ((p, ys) :: O) B (upd H p (.lst ys)) := by
  have ep := l.own (p, xs) List.mem_cons_self
  have pg : g ≠ p := fun z => l.gO (by rw [z]; exact List.mem_cons_self)
  obtain ⟨y, ey⟩ := l.gH
  have nd := List.nodup_cons.mp l.nd
  refine ⟨fun a o e n => ?_, fun a e => ?_, l.gB, fun z hz => ?_, fun z hz => ?_, l.nd, l.gO, l.cl, ⟨y, by rw [upd_ne pg]; exact ey⟩, l.tb.stay fun a o e n => ?_⟩
  · rw [upd_ne (fun z => by rw [z, l.nO (p, xs) List.mem_cons_self] at e; cases e)]
    exact l.st a o e n
  · by_cases z : a = p
    · rw [z, upd_same] at e
      cases e
    · rw [upd_ne z] at e
      exact l.dm a e
  · rcases List.mem_cons.mp hz with rfl | hz
    · exact l.nO (p, xs) List.mem_cons_self
    · exact l.nO z (List.mem_cons_of_mem _ hz)
  · rcases List.mem_cons.mp hz with rfl | hz
    · exact upd_same
    · rw [upd_ne (fun e => nd.1 (List.mem_map.mpr ⟨z, hz, e⟩))]
      exact l.own z (List.mem_cons_of_mem _ hz)
  · rw [upd_ne (fun z => by rw [z, ep] at e; exact n _ (Option.some.inj e).symm)]
    exact e
theorem Ls.swap {z1 z2 : Addr × List V} (l : Ls tb c g (z1 :: z2 :: O) B H) : Ls tb c g (z2 :: z1 :: O) B H := by
  have pm : ∀ z, z ∈ z2 :: z1 :: O → z ∈ z1 :: z2 :: O := fun z hz => by
    simp only [List.mem_cons] at hz ⊢
    rcases hz with h | h | h
    · exact .inr (.inl h)
    · exact .inl h
    · exact .inr (.inr h)
  refine ⟨l.st, l.dm, l.gB, fun z hz => l.nO z (pm z hz), fun z hz => l.own z (pm z hz), ?_, fun hm => ?_, l.cl, l.gH, l.tb⟩
  · have := l.nd
    simp only [List.map_cons] at this ⊢
    exact (List.Perm.nodup_iff (List.Perm.swap _ _ _)).mp this
  · obtain ⟨z, hz, e⟩ := List.mem_map.mp hm
    exact l.gO (by rw [← e]; exact List.mem_map_of_mem (pm z hz))
end
/-! what is known -/
section
variable {K : PySem.W.Frag} {H H' : Hp}
theorem StayT.pr {p : Addr} {t : Trm} (s : StayT H H') (h : PrAt K H p t) : PrAt K H' p t := by
  obtain ⟨a, b, h1, h2, h3⟩ := h
  exact ⟨a, b, s.sqt h1, s.sqz h2, s.sqt h3⟩
theorem StayT.rl {q : Addr} {rows : List Sy.Row} (s : StayT H H') (h : RL K H q rows) : RL K H' q rows := by
  obtain ⟨pr, h1, h2, h3⟩ := h
  exact ⟨pr, h1, s _ _ h2 lst_nt, ⟨fun z hz => s.sqt (h3.at_ z hz)⟩⟩
theorem StayT.ml {p : Addr} {ts : List Trm} (s : StayT H H') (h : ML K H p ts) : ML K H' p ts := by
  obtain ⟨as, h1, h2⟩ := h
  exact ⟨as, s _ _ h1 lst_nt, Paired.mapP h2 fun _ _ r => s.pr r⟩
theorem StayT.bdo {a : Addr} {rows : List Sy.Row} (s : StayT H H') (h : BdO K H a rows) : BdO K H' a rows := ⟨s.bed h.1, h.2⟩
theorem StayT.tmz {a : Addr} {z : TrmZ} (s : StayT H H') (h : TmZ K H a z) : TmZ K H' a z := ⟨s.trm h.1, h.2⟩
/-- from the heap to what is known for good -/
theorem RL.base {q : Addr} {rows : List Sy.Row} (h : RL K H q rows) (s : Stay H H') (e : ∀ o, H q = some o → H' q = some o) : RL K H' q rows := by
  obtain ⟨pr, h1, h2, h3⟩ := h
  exact ⟨pr, h1, e _ h2, h3.stay s⟩
theorem ML.base {q : Addr} {ts : List Trm} (h : ML K H q ts) (s : Stay H H') (e : ∀ o, H q = some o → H' q = some o) : ML K H' q ts := by
  obtain ⟨as, h1, h2⟩ := h
  exact ⟨as, e _ h1, Paired.mapP h2 fun _ _ r => r.stay s⟩
end
/-! a good trim over a bed that has its kinds -/
section
variable {rows rows' : List Sy.Row}
theorem kinds_agree (ok : KdsOk rows) (ok' : KdsOk rows') (h : ∀ r ∈ rows, r ∈ rows') {x : Str} (hx : isK rows x = true ∨ x = "*") : isK rows' x = isK rows x ∧ ar rows' x = ar rows x := by
  rcases hx with hx | rfl
  · obtain ⟨n, e⟩ : ∃ n, rows.lookup x = some n := by
      unfold isK at hx
      cases e : rows.lookup x with
      | none => rw [e] at hx; cases hx
      | some n => exact ⟨n, rfl⟩
    have hm : (x, n) ∈ rows := by
      clear ok ok' h hx
      induction rows with
      | nil => cases e
      | cons r rs ih =>
        rw [lookup_cons] at e
        split at e
        · rename_i c
          rw [← Option.some.inj e, ← c]
          exact List.mem_cons_self
        · exact List.mem_cons_of_mem _ (ih e)
    obtain ⟨a1, a2⟩ := row_at ok.ok.nd hm
    obtain ⟨b1, b2⟩ := row_at ok'.ok.nd (h _ hm)
    exact ⟨by rw [show isK rows' x = true from b1, show isK rows x = true from a1], by rw [show ar rows' x = n from b2, show ar rows x = n from a2]⟩
  · rw [star_nk ok, star_nk ok', ar_star ok, ar_star ok']
    exact ⟨rfl, rfl⟩
theorem fa_congr {lv : List Str} : ∀ (l : List Str) (m i : Nat), (∀ x ∈ l, isK rows' x = isK rows x ∧ ar rows' x = ar rows x) → fa rows' lv m i l = fa rows lv m i l
  | [], _, _, _ => rfl
  | x :: l, m, i, h => by
    obtain ⟨h1, h2⟩ := h x List.mem_cons_self
    rw [fa, fa, h1, h2, fa_congr l _ _ fun y hy => h y (List.mem_cons_of_mem _ hy)]
theorem faK_congr {ok : Key → Bool} : ∀ (l : List Key) (m i : Nat), (∀ x ∈ l, isKK rows' x = isKK rows x ∧ arK rows' x = arK rows x) → faK rows' ok m i l = faK rows ok m i l
  | [], _, _, _ => rfl
  | x :: l, m, i, h => by
    obtain ⟨h1, h2⟩ := h x List.mem_cons_self
    rw [faK, faK, h1, h2, faK_congr l _ _ fun y hy => h y (List.mem_cons_of_mem _ hy)]
theorem faK_neg {ok : Key → Bool} : ∀ (l : List Key) (m i : Nat), faK rows ok m i l = -1 → ∀ k ∈ l, isKK rows k = true ∨ ok k = true
  | [], _, _, _, k, hk => nomatch hk
  | x :: l, m, i, h, k, hk => by
    rw [faK] at h
    split at h
    · omega
    · split at h
      · omega
      · rename_i c
        rcases List.mem_cons.mp hk with rfl | hk
        · cases e1 : isKK rows k with
          | true => exact .inl rfl
          | false =>
            cases e2 : ok k with
            | true => exact .inr rfl
            | false => exact absurd ⟨e1, e2⟩ c
        · exact faK_neg l _ _ h k hk
theorem gd_due {m : Nat} {t : Trm} (ok : KdsOk rows) (ok' : KdsOk rows') (h : ∀ r ∈ rows, r ∈ rows') (hm : m ≤ 6) (gt : GdT rows m t) : ctDue rows' t.1 t.2 = none := by
  obtain ⟨l, ks⟩ := t
  obtain ⟨so, ro⟩ := gt
  simp only at so ro ⊢
  have le := so.le
  have le2 := ro.le
  have ag : ∀ x ∈ l, isK rows' x = isK rows x ∧ ar rows' x = ar rows x := fun x hx => kinds_agree ok ok' h ((so.wd x hx).imp (·.1) id)
  have fn : faK rows (okH (l.count ("*" : Str) : Nat)) 1 0 ks = -1 := by
    have := ro.rf
    unfold rfK at this
    split at this
    · omega
    · exact this
  have agK : ∀ k ∈ ks, isKK rows' k = isKK rows k ∧ arK rows' k = arK rows k := fun k hk => by
    cases k with
    | inl z => exact ⟨rfl, rfl⟩
    | inr x =>
      rcases faK_neg ks 1 0 fn _ hk with z | z
      · exact kinds_agree ok ok' h (.inl z)
      · cases z
  have rf' : rfK rows' (l.count ("*" : Str) : Nat) ks = -1 := by
    have := ro.rf
    unfold rfK at this ⊢
    rw [faK_congr ks 1 0 agK]
    exact this
  have kn : ∀ ks : List Key, (∀ k ∈ ks, isKK rows' k = isKK rows k) → knK rows' ks = knK rows ks := fun ks h => by
    unfold knK
    rw [List.filter_congr h]
  have kn1 := kn ks fun k hk => (agK k hk).1
  have kn2 := kn (kS l) fun k hk => by
    obtain ⟨x, hx, rfl⟩ := List.mem_map.mp hk
    exact (ag x hx).1
  have k3 := ro.kn
  have ck : ckS rows' l = none := by
    unfold ckS ckr
    rw [if_neg (by omega), fa_congr l 1 0 ag, so.ck, if_neg (by omega)]
  unfold ctDue
  rw [if_neg (by omega), if_neg (by omega), ck]
  simp only
  rw [rf', if_neg (fun e => ?_), if_neg (by omega), if_neg (by omega)]
  obtain ⟨x, t, e2, hx, _⟩ := so.hd
  rw [e] at e2
  have : x = "*" := by
    have := (List.cons.inj e2).1
    exact this.symm
  rw [this, star_nk ok] at hx
  cases hx
end
end Sy
/-! _law_sets -/
namespace Sy
open PySem PySem.Spec PyProof.Rows L2 LamX NdefX
/-! depths -/
theorem fit_strs (n : Nat) (l : List Str) : ∀ d ∈ l.map PyData.str, Fit n d := fun d hd => by
  obtain ⟨x, _, rfl⟩ := List.mem_map.mp hd
  cases n <;> trivial
theorem fit_keys (n : Nat) (ks : List Key) : ∀ d ∈ ks.map kD, Fit n d := fun d hd => by
  obtain ⟨k, _, rfl⟩ := List.mem_map.mp hd
  cases k <;> cases n <;> trivial
theorem fit_DS (n : Nat) {l : List Str} (h : l.length ≤ 1000000) : Fit (n + 1) (DS l) := ⟨by rw [List.length_map]; exact h, fit_strs n l⟩
theorem fit_row (n : Nat) (r : Sy.Row) : Fit (n + 1) (RowD r) := ⟨by show 2 ≤ 1000000; decide, fun d hd => by
  simp only [List.mem_cons, List.not_mem_nil, or_false] at hd
  rcases hd with rfl | rfl <;> cases n <;> trivial⟩
theorem fit_rows (n : Nat) {rows : List Sy.Row} (h : rows.length ≤ 1000000) : Fit (n + 2) (RowsD rows) := ⟨by rw [List.length_map]; exact h, fun d hd => by
  obtain ⟨r, _, rfl⟩ := List.mem_map.mp hd
  exact fit_row n r⟩
theorem fit_str (n : Nat) (x : Str) : Fit n (.str x) := by cases n <;> trivial
theorem fit_int (n : Nat) (x : Int) : Fit n (.int x) := by cases n <;> trivial
theorem fit_bool (n : Nat) (x : Bool) : Fit n (.bool x) := by cases n <;> trivial
theorem fit_tr (n : Nat) {rows : List Sy.Row} {t : Trm} (h : rows.length ≤ 1000000) (h1 : t.1.length ≤ 1000000) (h2 : t.2.length ≤ 1000000) : Fit (n + 3) (trD rows t) := ⟨by show 3 ≤ 1000000; decide, fun d hd => by
  simp only [List.mem_cons, List.not_mem_nil, or_false] at hd
  rcases hd with rfl | rfl | rfl
  · exact fit_rows n h
  · exact fit_DS (n + 1) h1
  · exact ⟨by rw [List.length_map]; exact h2, fit_keys (n + 1) _⟩⟩
theorem fit_sh (n : Nat) {rows : List Sy.Row} {ts : List Trm} {nm : Str} (h : rows.length ≤ 1000000) (hl : ts.length ≤ 1000000) (ht : ∀ t ∈ ts, t.1.length ≤ 1000000 ∧ t.2.length ≤ 1000000) : Fit (n + 5) (shD rows ts nm) := ⟨by show 5 ≤ 1000000; decide, fun d hd => by
  simp only [List.mem_cons, List.not_mem_nil, or_false] at hd
  rcases hd with rfl | rfl | rfl | rfl | rfl
  · exact fit_str _ _
  · exact fit_rows (n + 2) h
  · refine ⟨by rw [List.length_map]; exact hl, fun d hd => ?_⟩
    obtain ⟨t, ht', rfl⟩ := List.mem_map.mp hd
    exact fit_tr n h (ht t ht').1 (ht t ht').2
  · exact fit_str _ _
  · exact fit_int _ _⟩
theorem fit_sa (n : Nat) {rows : List Sy.Row} {zs : List TrmZ} (h : rows.length ≤ 1000000) (hl : zs.length ≤ 1000000) (ht : ∀ z ∈ zs, z.2.1.length ≤ 1000000 ∧ z.2.2.length ≤ 1000000) : Fit (n + 5) (dSA rows zs) := by
  unfold dSA
  split
  · split
    · exact ⟨by show 4 ≤ 1000000; decide, fun d hd => by
        simp only [List.mem_cons, List.not_mem_nil, or_false] at hd
        rcases hd with rfl | rfl | rfl | rfl
        · exact fit_str _ _
        · exact fit_str _ _
        · exact fit_int _ _
        · exact fit_bool _ _⟩
    · refine fit_sh n h (by rw [List.length_map]; exact hl) fun t ht' => ?_
      obtain ⟨z, hz, rfl⟩ := List.mem_map.mp ht'
      exact ht z hz
  · exact ⟨by show 2 ≤ 1000000; decide, fun d hd => by
      simp only [List.mem_cons, List.not_mem_nil, or_false] at hd
      rcases hd with rfl | rfl
      · exact fit_str _ _
      · exact fit_bool _ _⟩
/-- what Trim(..) promises where it is good -/
theorem mkT_of {K : PySem.W.Frag} {tb b a r : Addr} {H : Hp} {rows : List Sy.Row} {l : List Str} {ks : List Key} {Q : Addr → Hp → Prop} {E : XK} (hb : BedAt K H b rows) (ha : SqZ K H a (l.map V.str)) (hR : SqT K H r (ks.map kV)) (hp : PrOk (l, ks) 10000) (tbi : TbI tb H) (due : ctDue rows l ks = none)
    (hq : ∀ x H', StayT H H' → TbI tb H' → TrmAt K H' x rows l ks → Q x H') : ∀ x dx, H x = none → H dx = none → dx ≠ x → spInitT K tb (.ref x :: ([.ref b, .ref a, .ref r] ++ [])) (upd (upd H dx (.own x)) x (.ins (He.ga K "Trim") dx [])) (fun v H2 => v = .non ∧ Q x H2) E := by
  intro x dx hx hdx hne
  have s1 : Same H (upd (upd H dx (.own x)) x (.ins (He.ga K "Trim") dx [])) := (up_same hdx).trans (up_same (by rw [upd_ne (fun z => hne z.symm)]; exact hx))
  have ex : upd (upd H dx (.own x)) x (.ins (He.ga K "Trim") dx []) x = some (.ins (He.ga K "Trim") dx []) := upd_same
  generalize upd (upd H dx (.own x)) x (.ins (He.ga K "Trim") dx []) = H1 at *
  have l1 := hp.l1
  have l2 := hp.l2
  simp only at l1 l2
  refine ⟨x, b, a, r, dx, rows, l, ks, rfl, ex, hb.mono (Stay.of s1), Same.sqt s1 ha.sq, (ha.same s1).nd, Same.sqt s1 hR, hp.k1, by omega, by omega, tbi.same s1, fun _ H2 kp tb2 tr => ⟨rfl, ?_⟩, fun e he => by rw [due] at he; cases he⟩
  exact hq x H2 (fun c o e n => kp c o (fun z => by rw [z, hx] at e; cases e) (s1 _ _ e) n) tb2 tr
theorem TrmAt.stay {K : PySem.W.Frag} {H H' : Hp} {x : Addr} {rows : List Sy.Row} {l : List Str} {ks : List Key} (h : TrmAt K H x rows l ks) (s : Stay H H') : TrmAt K H' x rows l ks := by
  obtain ⟨dx, b, st, r, h1, h2, h3, h4⟩ := h.ex
  exact ⟨dx, b, st, r, s _ _ h1 (fun _ z => by cases z), h2.mono s, s.sqt h3, s.sqt h4⟩
/-- what is known in _law_sets -/
structure Fs (K : PySem.W.Frag) (rows rows' : List Sy.Row) (ts : List Trm) (q a o M p6 : Addr) (B : Hp) : Prop where
  rl : RL K B q rows
  ba : BdO K B a rows
  bo : BdO K B o rows'
  ml : ML K B M ts
  im : Im K B (.ref p6) (RowsD rows)
theorem Fs.mono {K : PySem.W.Frag} {rows rows' : List Sy.Row} {ts : List Trm} {q a o M p6 : Addr} {B B' : Hp} (f : Fs K rows rows' ts q a o M p6 B) (s : StayT B B') : Fs K rows rows' ts q a o M p6 B' :=
  ⟨s.rl f.rl, s.bdo f.ba, s.bdo f.bo, s.ml f.ml, s.im f.im⟩
theorem GdT.prok {rows : List Sy.Row} {m : Nat} {t : Trm} (h : GdT rows m t) (hm : m ≤ 6) : PrOk t 10000 := by
  have h1 := h.1.le
  have h2 := h.2.le
  exact ⟨by omega, by omega, h.sok.1, h.sok.2⟩
theorem GdT.ne {rows : List Sy.Row} {m : Nat} {t : Trm} (h : GdT rows m t) : t.1 ≠ [] := by
  obtain ⟨x, l, e, _⟩ := h.1.hd
  rw [e]
  exact fun z => nomatch z
section
variable {P : Program} {w : World} {K : PySem.W.Frag} {mg : Str → Option Value} {base : Heap}
def spSs (K : PySem.W.Frag) (tb : Addr) : Sp := fun vs H Q _ => ∃ (c g q a : Addr) (rows : List Sy.Row), vs = [.ref g, .ref q, .ref a] ∧ Bag c g H ∧ q ≠ g ∧ RL K H q rows ∧ KdsOk rows ∧ rows.length ≤ 4 ∧ BdO K H a rows ∧ TbI tb H ∧ ∀ H', Q (.bl true) H'
abbrev N_ss : List Str := ["_law_bag_here", "_law_kinds_here", "_law_bed_here", "_law_made_here", "_law_other_here", "_law_word_here", "_law_rows", "_law_many", "_law_strange", "_law_given", "_law_pairs", "_law_k", "_law_pair_here", "_law_due_here", "_law_held"]
theorem sc_ss : FnScope N_ss ["_law_bag_here", "_law_kinds_here", "_law_bed_here"] (defScope (top 63)) := ⟨rfl, rfl, rfl, by decide +kernel, rfl, by decide +kernel, by decide +kernel⟩
theorem k_ss {tb : Addr} {fT : FuncData} (T : Txt K mg) (F : DF K mg "_law_sets" 63) (MT : Mk K (He.ga K "Trim") (He.ma K (He.ga K "Trim") "__init__")) (aT : mg "Trim" = some (.ref (He.ga K "Trim")))
    (FT : FnOk P w K mg base (L2.CX P w) (5 + 1) (He.ma K (He.ga K "Trim") "__init__") fT ["self", "bed", "stump", "result"] (spInitT K tb)) (BT : L2.Binds K fT ["self", "bed", "stump", "result"] [])
    (MS : Mk K (He.ga K "Trims") (He.ma K (He.ga K "Trims") "__init__")) (aS : mg "Trims" = some (.ref (He.ga K "Trims"))) (FS : FnS P w K mg base (3 + 1) (He.ma K (He.ga K "Trims") "__init__") 2 "name" (.str "trims") (spInitS K))
    (c_law_pick : Cal P w K mg base 1 "_law_pick" ["_law_bag_here", "_law_limit"] spPick) (c_law_made : Cal P w K mg base 3 "_law_made" ["_law_bag_here", "_law_kinds_here", "_law_most"] (spMade K)) (c_law_bed : Cal P w K mg base 5 "_law_bed" ["_law_kinds_here"] (spBedL K))
    (c_law_other : Cal P w K mg base 2 "_law_other" ["_law_bag_here", "_law_kinds_here"] (spOt K)) (c_law_word : Cal P w K mg base 2 "_law_word" ["_law_bag_here"] spWord) (c_law_same : Cal P w K mg base (5 + 1) "_law_same" ["_law_actual", "_law_due_here"] (spSame K 5)) (c_law_shown : Cal P w K mg base 3 "_law_shown" ["_law_held"] (spSh K))
    (c_law_set_asked : Cal P w K mg base 7 "_law_set_asked" ["_law_bed_here", "_law_given"] (spSA K)) : Cal P w K mg base 8 "_law_sets" ["_law_bag_here", "_law_kinds_here", "_law_bed_here"] (spSs K tb) := by
  refine cal_of F.1 F.2 sc_ss (fun _ _ _ _ _ _ us e => match us, e with | [_, _, _], _ => rfl) (fun vs H Q E s => by obtain ⟨_, _, _, _, _, rfl, _⟩ := s; rfl) ?_
  intro cdv A outer s H vs Q E hr h
  obtain ⟨c, g, q, a, rows, rfl, hg, hne, hRL, ok, l4, hb, tbi, hq⟩ := h
  have sc := sc_ss
  refine ⟨_, (pss_cons (ps_set (i := 3) sc.nd rfl (Or.inl rfl) (pe_cal c_law_made hr (pa_cons (pv 0) (pa_cons (pv 1) (pa_cons pe_int pa_nil)))))
      (pss_cons (ps_set (i := 4) sc.nd rfl (Or.inl rfl) (pe_cal c_law_bed hr (pa_cons (pe_cal c_law_other hr (pa_cons (pv 0) (pa_cons (pv 1) pa_nil))) pa_nil)))
      (pss_cons (ps_set (i := 5) sc.nd rfl (Or.inl rfl) (pe_cal c_law_word hr (pa_cons (pv 0) pa_nil)))
      (pss_cons (ps_set (i := 6) sc.nd rfl (Or.inl rfl) (pe_callTy call_tupZ (by rfl) T.tuple (by decide +kernel) (pa_cons (pv 1) pa_nil)))
      (pss_cons (ps_if (pt_not (pt_val (pe_cal c_law_same hr (pa_cons (pe_cal c_law_shown hr (pa_cons (pe_mkS MS FS hr rfl aS (takes_of rfl rfl rfl rfl) (pa_cons (pv 2) pa_nil)) pa_nil)) (pa_cons (pe_tup (pa_cons pe_str (pa_cons (pv 6) (pa_cons (pe_tup pa_nil) (pa_cons pe_str (pa_cons pe_int pa_nil)))))) pa_nil)))))
        (pss_one (ps_ret pe_bl))
        pss_nil)
      (pss_cons (ps_if (pt_cmpR (op_eqD hr.units) (pv 3) (pe_lst pa_nil) (nomark _))
        (pss_one (ps_ret (pe_cal c_law_same hr (pa_cons (pe_cal c_law_shown hr (pa_cons (pe_mkSK MS FS hr rfl aS (takes_of rfl rfl rfl rfl) (pa_cons (pv 2) pa_nil) (pv 5)) pa_nil)) (pa_cons (pe_tup (pa_cons pe_str (pa_cons (pv 6) (pa_cons (pe_tup pa_nil) (pa_cons (pv 5) (pa_cons pe_int pa_nil)))))) pa_nil)))))
        pss_nil)
      (pss_cons (ps_set (i := 7) sc.nd rfl (Or.inl rfl) (pe_ix ix_tup (pe_tup (pa_cons pe_int (pa_cons pe_int (pa_cons pe_int (pa_cons pe_int (pa_cons pe_int (pa_cons pe_int (pa_cons pe_int pa_nil)))))))) (pe_cal c_law_pick hr (pa_cons (pv 0) (pa_cons pe_int pa_nil))) (fun _ _ => rfl)))
      (pss_cons (ps_set (i := 8) sc.nd rfl (Or.inl rfl) (pe_cal c_law_pick hr (pa_cons (pv 0) (pa_cons (pe_op op_mul pe_int (pv 7)) pa_nil))))
      (pss_cons (ps_set (i := 9) sc.nd rfl (Or.inl rfl) (pe_lst pa_nil))
      (pss_cons (ps_set (i := 10) sc.nd rfl (Or.inl rfl) (pe_lst pa_nil))
      (pss_cons (ps_for (passes_of rfl) rfl (pi_range1 rfl T.range (pa_cons (pv 7) pa_nil)) (pg_name (i := 11) sc.nd rfl (Or.inl rfl))
        (pss_cons (ps_set (i := 12) sc.nd rfl (Or.inl rfl) (pe_ix ix_list (pv 3) (pe_op op_mod (pe_callTy call_int1 (by rfl) T.int (by decide +kernel) (pa_cons (pv 11) pa_nil)) (pe_callB call_len_seq (by rfl) T.len (by decide +kernel) (pa_cons (pv 3) pa_nil))) (fun _ _ => rfl)))
        (pss_cons (ps_expr (pe_bm PySem.F.plainAttrs_list PySem.F.slot_list_append PySem.F.type_list_append mt_append (pv 10) (pa_cons (pe_tup (pa_cons (pv 6) (pa_cons (pe_ix ix_tup (pv 12) pe_int (fun _ _ => rfl)) (pa_cons (pe_ix ix_tup (pv 12) pe_int (fun _ _ => rfl)) pa_nil)))) pa_nil)))
        (pss_one (ps_if (pt_cmpR op_eq (pv 11) (pv 8) (nomark _))
          (pss_one (ps_expr (pe_bm PySem.F.plainAttrs_list PySem.F.slot_list_append PySem.F.type_list_append mt_append (pv 9) (pa_cons (pe_makeX MT FT hr rfl aT BT .nil (takes_of rfl rfl rfl rfl) (pa_cons (pv 4) (pa_cons (pe_ix ix_tup (pv 12) pe_int (fun _ _ => rfl)) (pa_cons (pe_ix ix_tup (pv 12) pe_int (fun _ _ => rfl)) pa_nil)))) pa_nil))))
          (pss_one (ps_if (pt_cmpR op_eq (pe_cal c_law_pick hr (pa_cons (pv 0) (pa_cons pe_int pa_nil))) pe_int (nomark _))
            (pss_one (ps_expr (pe_bm PySem.F.plainAttrs_list PySem.F.slot_list_append PySem.F.type_list_append mt_append (pv 9) (pa_cons (pe_makeX MT FT hr rfl aT BT .nil (takes_of rfl rfl rfl rfl) (pa_cons (pe_cal c_law_bed hr (pa_cons (pv 1) pa_nil)) (pa_cons (pe_ix ix_tup (pv 12) pe_int (fun _ _ => rfl)) (pa_cons (pe_ix ix_tup (pv 12) pe_int (fun _ _ => rfl)) pa_nil)))) pa_nil))))
            (pss_one (ps_expr (pe_bm PySem.F.plainAttrs_list PySem.F.slot_list_append PySem.F.type_list_append mt_append (pv 9) (pa_cons (pe_makeX MT FT hr rfl aT BT .nil (takes_of rfl rfl rfl rfl) (pa_cons (pv 2) (pa_cons (pe_ix ix_tup (pv 12) pe_int (fun _ _ => rfl)) (pa_cons (pe_ix ix_tup (pv 12) pe_int (fun _ _ => rfl)) pa_nil)))) pa_nil)))))))))))
      (pss_cons (ps_set (i := 13) sc.nd rfl (Or.inl rfl) (pe_tup (pa_cons pe_str (pa_cons (pv 6) (pa_cons (pe_callTy call_tupZ (by rfl) T.tuple (by decide +kernel) (pa_cons (pv 10) pa_nil)) (pa_cons pe_str (pa_cons (pv 7) pa_nil)))))))
      (pss_cons (ps_cut (ps_if (pt_cmpR op_gt (pv 7) pe_int (nomark _))
        (pss_one (ps_set (i := 13) sc.nd rfl (Or.inl rfl) (pe_tup (pa_cons pe_str (pa_cons pe_str (pa_cons pe_int (pa_cons pe_bl pa_nil)))))))
        pss_nil))
      (pss_cons (ps_cut (ps_if (pt_cmpR op_lt (pv 8) (pv 7) (nomark _))
        (pss_one (ps_set (i := 13) sc.nd rfl (Or.inl rfl) (pe_tup (pa_cons pe_str (pa_cons pe_bl pa_nil)))))
        pss_nil))
      (pss_cons (ps_if (pt_not (pt_val (pe_cal c_law_same hr (pa_cons (pe_cal c_law_set_asked hr (pa_cons (pv 2) (pa_cons (pv 9) pa_nil))) (pa_cons (pv 13) pa_nil)))))
        (pss_one (ps_ret pe_bl))
        pss_nil)
      (pss_cons (ps_set (i := 12) sc.nd rfl (Or.inl rfl) (pe_ix ix_list (pv 3) (pe_op op_sub (pe_callB call_len_seq (by rfl) T.len (by decide +kernel) (pa_cons (pv 3) pa_nil)) pe_int) (fun _ _ => rfl)))
      (pss_cons (ps_set (i := 14) sc.nd rfl (Or.inl rfl) (pe_mkSK MS FS hr rfl aS (takes_of rfl rfl rfl rfl) (pa_cons (pv 2) (pa_cons (pe_makeX MT FT hr rfl aT BT .nil (takes_of rfl rfl rfl rfl) (pa_cons (pv 2) (pa_cons (pe_ix ix_tup (pv 12) pe_int (fun _ _ => rfl)) (pa_cons (pe_ix ix_tup (pv 12) pe_int (fun _ _ => rfl)) pa_nil)))) pa_nil)) (pv 5)))
      (pss_one (ps_ret (pe_cal c_law_same hr (pa_cons (pe_cal c_law_shown hr (pa_cons (pv 14) pa_nil)) (pa_cons (pe_tup (pa_cons pe_str (pa_cons (pv 6) (pa_cons (pe_tup (pa_cons (pe_tup (pa_cons (pv 6) (pa_cons (pe_ix ix_tup (pv 12) pe_int (fun _ _ => rfl)) (pa_cons (pe_ix ix_tup (pv 12) pe_int (fun _ _ => rfl)) pa_nil)))) pa_nil)) (pa_cons (pv 5) (pa_cons pe_int pa_nil)))))) pa_nil)))))))))))))))))))))), ?_⟩
  obtain ⟨x0, e0⟩ := hg.1
  have s0 : Stay H (L2.del H g) := stay_del e0
  have L0 := Ls.start hg tbi
  have rl0 : RL K (L2.del H g) q rows := hRL.base s0 fun o e => by rw [del_ne hne]; exact e
  have ba0 : BdO K (L2.del H g) a rows := ⟨hb.1.mono s0, hb.2⟩
  have ten : ∀ {B' : Hp}, StayT (L2.del H g) B' → RL K B' q rows ∧ BdO K B' a rows := fun st => ⟨st.rl rl0, st.bdo ba0⟩
  generalize L2.del H g = B0 at *
  -- made
  refine ⟨_, rfl, _, rfl, c, g, q, 4, rows, rfl, hg, hne, hRL, ok, by decide, by decide, fun M ts H1 hgd hts d1 hMn hml => ?_⟩
  have hMg : M ≠ g := fun z => by rw [z, e0] at hMn; cases hMn
  obtain ⟨B1, sB1, L1, st1, out1⟩ := L0.dr d1
  have ml1 : ML K B1 M ts := hml.base st1 fun o e => out1 M o hMg (fun z => nomatch z) e
  -- other
  refine ⟨_, rfl, _, rfl, c, g, q, rows, rfl, L1.bag, hne, L1.st.rl (ten sB1).1, ok, l4, fun p rows' H2 hoth d2 hRL2 => ?_⟩
  obtain ⟨ok', nrow, sub⟩ := hoth
  obtain ⟨B2, sB2, L2', st2, out2⟩ := L1.dr d2
  refine ⟨p, rows', rfl, hRL2, ok', fun o H3 s3 hbo => ?_⟩
  obtain ⟨B3, sB3, L3, st3, out3⟩ := L2'.same s3
  have bo3 : BdO K B3 o rows' := ⟨hbo.mono st3, ok'.sok⟩
  -- the word
  refine ⟨_, rfl, c, g, rfl, L3.bag, fun y H4 hy d4 => ?_⟩
  obtain ⟨B4, sB4, L4, st4, out4⟩ := L3.dr d4
  have s04 := ((sB1.trans sB2).trans sB3).trans sB4
  -- the rows
  obtain ⟨pr, epr, hL4, hat4⟩ := id (L4.st.rl (ten s04).1)
  refine ⟨_, rfl, q, _, rfl, SqL.of hL4, fun p6 H5 n5 => ?_⟩
  obtain ⟨B5, sB5, L5, st5, out5⟩ := L4.same n5.same
  have s05 := s04.trans sB5
  have im5 : Im K B5 (.ref p6) (RowsD rows) := by
    have i4 : ImA K H4 (pr.map fun z => V.ref z.1) (rows.map RowD) := by
      have := Im.rowsD hat4.paired
      rw [List.map_map, epr] at this
      exact this
    exact Im.mono st5 (.tup n5.sqt (ImA.mono (Stay.of n5.same) i4))
  have fs : Fs K rows rows' ts q a o M p6 B5 := ⟨(ten s05).1, (ten s05).2, (sB4.trans sB5).bdo bo3, (((sB2.trans sB3).trans sB4).trans sB5).ml ml1, im5⟩
  clear im5 s05 bo3 ml1 ten out1 out2 out3 out4 out5 st1 st2 st3 st4 st5
  have hrl : rows.length ≤ 1000000 := by omega
  -- a set without trims
  refine ⟨_, rfl, ?_⟩
  dsimp only [tNil]
  refine mkS_of (as := []) (zs := []) (L5.st.bdo fs.ba) .nil (by decide) (fun _ z => nomatch z) (fun ⟨_, z, _⟩ => nomatch z) (fun _ z => absurd z (by decide)) fun _ _ x6 H6 s6 _ t6 => ?_
  refine ⟨x6, rows, _, _, rfl, t6, by decide, fun v7 H7 s7 i7 => ?_⟩
  obtain ⟨B7, sB7, L7, _, _⟩ := L5.same (s6.trans s7)
  have fs7 := fs.mono sB7
  refine ⟨_, rfl, (by show 0 ≤ sizeLine; decide), fun p8 hp8 => ⟨(by show 5 ≤ sizeLine; decide), fun p9 hp9 => ?_⟩⟩
  have s8 := up_same (o := .tup []) hp8
  have s9 := up_same (o := .tup [.str "Good", .ref p6, .ref p8, .str "trims", .int 0]) hp9
  have e8 : SqT K (upd H7 p8 (.tup [])) p8 [] := SqT.of upd_same
  have e9 : SqT K (upd (upd H7 p8 (.tup [])) p9 (.tup [.str "Good", .ref p6, .ref p8, .str "trims", .int 0])) p9 [.str "Good", .ref p6, .ref p8, .str "trims", .int 0] := SqT.of upd_same
  have s79 := s8.trans s9
  generalize upd (upd H7 p8 (.tup [])) p9 (.tup [.str "Good", .ref p6, .ref p8, .str "trims", .int 0]) = H9 at *
  obtain ⟨B9, sB9, L9, _, _⟩ := L7.same s79
  have fs9 := fs7.mono sB9
  have i6 : Im K H9 (.ref p6) (RowsD rows) := L9.st.im fs9.im
  refine ⟨v7, .ref p9, _, rfl, i7.mono (Stay.of s79), .tup e9 (.cons (.str _) (.cons i6 (.cons (.tup (Same.sqt s9 e8) .nil) (.cons (.str _) (.cons (.int _) .nil))))), fit_sh 0 hrl (by decide) (fun _ z => nomatch z), _, rfl, iteF ?_⟩
  -- is there a trim
  refine ⟨_, rfl, (by show 0 ≤ sizeLine; decide), fun E10 hE10 => ?_⟩
  have s10 := up_same (o := .lst []) hE10
  have e10 : upd H9 E10 (.lst []) E10 = some (.lst []) := upd_same
  generalize upd H9 E10 (.lst []) = H10 at *
  obtain ⟨B10, sB10, L10, _, _⟩ := L9.same s10
  have fs10 := fs9.mono sB10
  obtain ⟨as, hM10, hpa⟩ := id (L10.st.ml fs10.ml)
  have hal := paired_len hpa
  have dpT : Dp K H10 (.ref M) (.list (ts.map PrD)) := .lst (SqL.of hM10) (ImA.dp (prs_im hpa))
  refine ⟨_, .list [], dpT, .lst (SqL.of e10) .nil, lay_L (lay_prs fun t ht => (hgd t ht).sok), lay_L ⟨rfl, by decide⟩, _, rfl, ?_⟩
  cases hts0 : ts with
  | nil =>
    refine iteT ⟨_, rfl, ?_⟩
    dsimp only [tNil]
    refine ⟨_, rfl, ?_⟩
    refine mkS_of (as := []) (zs := []) (L10.st.bdo fs10.ba) .nil (by decide) (fun _ z => nomatch z) (fun ⟨_, z, _⟩ => nomatch z) (fun _ z => absurd z (by decide)) fun _ _ x11 H11 s11 _ t11 => ?_
    refine ⟨x11, rows, _, _, rfl, t11, by decide, fun v12 H12 s12 i12 => ?_⟩
    obtain ⟨B12, sB12, L12, _, _⟩ := L10.same (s11.trans s12)
    have fs12 := fs10.mono sB12
    refine ⟨_, rfl, (by show 0 ≤ sizeLine; decide), fun p13 hp13 => ⟨_, rfl, (by show 5 ≤ sizeLine; decide), fun p14 hp14 => ?_⟩⟩
    have s13 := up_same (o := .tup []) hp13
    have s14 := up_same (o := .tup [.str "Good", .ref p6, .ref p13, .str y, .int 0]) hp14
    have e13 : SqT K (upd H12 p13 (.tup [])) p13 [] := SqT.of upd_same
    refine ⟨v12, .ref p14, _, rfl, i12.mono (Stay.of (s13.trans s14)), .tup (SqT.of upd_same) (.cons (.str _) (.cons ((L12.st.im fs12.im).mono (Stay.of (s13.trans s14))) (.cons (.tup (Same.sqt s14 e13) .nil) (.cons (.str _) (.cons (.int _) .nil))))), fit_sh 0 hrl (by decide) (fun _ z => nomatch z), hq _⟩
  | cons t0 tr =>
    rw [← hts0]
    have hnpos : 0 < ts.length := by rw [hts0]; exact Nat.succ_pos _
    refine if_bool (fun z => absurd z (by rw [hts0]; exact fun z => nomatch z)) (fun _ => ?_)
    clear hM10 hpa as hal dpT
    -- how many, which one
    refine ⟨(by show 7 ≤ sizeLine; decide), fun p11 hp11 => ?_⟩
    have s11 := up_same (o := .tup (vN [2, 9, 1, 8, 3, 9, 8])) hp11
    have e11 : upd H10 p11 (.tup (vN [2, 9, 1, 8, 3, 9, 8])) p11 = some (.tup (vN [2, 9, 1, 8, 3, 9, 8])) := upd_same
    have eH11 : upd H10 p11 (.tup [.int 2, .int 9, .int 1, .int 8, .int 3, .int 9, .int 8]) = upd H10 p11 (.tup (vN [2, 9, 1, 8, 3, 9, 8])) := rfl
    rw [eH11]
    generalize upd H10 p11 (.tup (vN [2, 9, 1, 8, 3, 9, 8])) = H11 at *
    obtain ⟨B11, sB11, L11, st11, _⟩ := L10.same s11
    have t11 : SqT K B11 p11 (vN [2, 9, 1, 8, 3, 9, 8]) := st11.sqt (SqT.of e11)
    refine ⟨_, rfl, c, g, 7, rfl, L11.bag, by decide, by decide, fun j12 H12 hj12 d12 => ?_⟩
    obtain ⟨B12, sB12, L12, _, _⟩ := L11.dr d12
    obtain ⟨m, hm, em⟩ := menu_at (L := [2, 9, 1, 8, 3, 9, 8]) hj12
    have hm : m = 1 ∨ m = 2 ∨ m = 3 ∨ m = 8 ∨ m = 9 := by simp only [List.mem_cons, List.not_mem_nil, or_false] at hm; omega
    refine ⟨p11, _, _, _, rfl, rfl, L12.st.sqt (sB12.sqt t11), atI_nat em, ?_⟩
    have em2 : (2 : Int) * (m : Nat) = ((2 * m : Nat) : Int) := by omega
    refine ⟨_, rfl, _, rfl, _, _, rfl, rfl, .inl (by decide), c, g, 2 * m, by show [V.ref g, V.int ((2 : Int) * (m : Nat))] = _; rw [em2], L12.bag, by omega, by omega, fun sg H13 hsg d13 => ?_⟩
    obtain ⟨B13, sB13, L13, _, _⟩ := L12.dr d13
    have fs13 := fs10.mono ((sB11.trans sB12).trans sB13)
    refine ⟨by decide, fun G hG => ⟨by decide, fun Z hZ => ?_⟩⟩
    have L14 := L13.new (xs := []) hG
    have L15 := (L14.new (xs := []) hZ).swap
    refine ⟨_, rfl, _, rfl, by omega, by omega, for_rng (n := m)
      (fun i σ H' => ∃ (t11 t12 : Option V) (gs qs : List Addr) (zs : List TrmZ) (B : Hp), σ = [some (.ref g), some (.ref q), some (.ref a), some (.ref M), some (.ref o), some (.str y), some (.ref p6), some (.int (m : Nat)), some (.int (sg : Nat)), some (.ref G), some (.ref Z), t11, t12, none, none] ∧
        zs.length = i ∧ Paired (TmZ K B) gs zs ∧ Paired (fun q t => Im K B (.ref q) (trD rows t)) qs (zs.map (·.2)) ∧ (∀ z ∈ zs, GdT rows 4 z.2) ∧ (i ≤ sg → ∀ z ∈ zs, z.1 = rows) ∧ (sg < i → ∃ z ∈ zs, z.1 = rows') ∧ Fs K rows rows' ts q a o M p6 B ∧ Ls tb c g [(G, gs.map V.ref), (Z, qs.map V.ref)] B H')
      ⟨none, none, [], [], [], B13, rfl, rfl, .nil, .nil, fun _ z => (nomatch z), fun _ _ z => (nomatch z), fun z => absurd z (by omega), fs13, L15⟩ ?_ ?_⟩
    · rintro i σ H16 hi ⟨t11, t12, gs, qs, zs, B, rfl, hzl, hgs, hqs, hgz, hall, hex, fsB, LB⟩
      obtain ⟨as, hMB, hpaB⟩ := id fsB.ml
      have hM := LB.st _ _ hMB lst_nt
      have hal := paired_len hpaB
      have hkm : i % ts.length < ts.length := Nat.mod_lt _ hnpos
      obtain ⟨t, et⟩ : ∃ t, ts[i % ts.length]? = some t := ⟨_, List.getElem?_eq_getElem hkm⟩
      obtain ⟨x, ex, px⟩ := paired_at hpaB et
      have gt := hgd t (List.mem_of_getElem? et)
      have emod : ((i : Nat) : Int) % (((as.map V.ref).length : Nat) : Int) = ((i % ts.length : Nat) : Int) := by
        rw [List.length_map, hal]
        exact (Int.natCast_emod i ts.length).symm
      refine ⟨_, rfl, _, rfl, .inl ⟨_, rfl, _, rfl, M, _, rfl, .inl (SqL.of hM), _, _, rfl, rfl, (by show (0 : Int) < ((as.map V.ref).length : Nat); rw [List.length_map, hal]; omega), M, _, _, .ref x, rfl, rfl, SqL.of hM, ?_, ?_⟩⟩
      · rw [emod]
        exact atI_nat (by rw [List.getElem?_map, ex]; rfl)
      obtain ⟨sA, rA, q1, q2, q3⟩ := id px
      have p1 := LB.st.sqt q1
      have p2 := LB.st.sqz q2
      have p3 := LB.st.sqt q3
      have hqs1 := paired_len hqs
      rw [List.length_map] at hqs1
      have hgs1 := paired_len hgs
      have im6 := LB.st.im fsB.im
      have oG := LB.own (G, gs.map V.ref) List.mem_cons_self
      have oZ := LB.own (Z, qs.map V.ref) (List.mem_cons_of_mem _ List.mem_cons_self)
      refine ⟨_, rfl, .inl ⟨rfl, _, SqL.of oZ⟩, _, rfl, _, rfl, x, _, _, _, rfl, rfl, p1, atI_nat (j := 0) rfl, _, rfl, x, _, _, _, rfl, rfl, p1, atI_nat (j := 1) rfl, (by show 3 ≤ sizeLine; decide), fun u hu => ?_⟩
      have su := up_same (o := .tup [.ref p6, .ref sA, .ref rA]) hu
      have iu : Im K (upd H16 u (.tup [.ref p6, .ref sA, .ref rA])) (.ref u) (trD rows t) := .tup (SqT.of upd_same) (.cons (im6.mono (Stay.of su)) (.cons (Im.strs (Same.sqt su p2.sq)) (.cons (.tup (Same.sqt su p3) (ImA.keys _)) .nil)))
      obtain ⟨B17, sB17, L17, st17, _⟩ := LB.same su
      generalize upd H16 u (.tup [.ref p6, .ref sA, .ref rA]) = H17 at *
      have L18 := (L17.swap.put (ys := (qs ++ [u]).map V.ref)).swap
      have fs17 := fsB.mono sB17
      have hgs17 := Paired.mapP (G := TmZ K B17) hgs fun _ _ r => sB17.tmz r
      have hqs17 : Paired (fun q t => Im K B17 (.ref q) (trD rows t)) (qs ++ [u]) (zs.map (·.2) ++ [t]) := paired_snoc (R := fun q t => Im K B17 (V.ref q) (trD rows t)) (iu.mono st17) (Paired.mapP hqs fun _ _ r => sB17.im r)
      have oZ17 := L17.own (Z, qs.map V.ref) (List.mem_cons_of_mem _ List.mem_cons_self)
      refine ⟨Z, _, _, rfl, rfl, oZ17, by rw [List.length_map, sizeLine_eq]; omega, ?_⟩
      have eZ : (qs ++ [u]).map V.ref = qs.map V.ref ++ [.ref u] := by rw [List.map_append]; rfl
      rw [eZ] at L18
      generalize hH18 : upd H17 Z (.lst (qs.map V.ref ++ [.ref u])) = H18 at *
      have fin : ∀ (x' : Addr) (rb : List Sy.Row) (B' H' : Hp), StayT B17 B' → Ls tb c g [(G, gs.map V.ref), (Z, qs.map V.ref ++ [.ref u])] B' H' → TmZ K B' x' (rb, t) → (i ≠ sg → rb = rows) → (i = sg → rb = rows') → rAppend (.ref G) [.ref x'] H' (fun v H'' => ∃ (t11 t12 : Option V) (gs qs : List Addr) (zs : List TrmZ) (B : Hp), [some (V.ref g), some (.ref q), some (.ref a), some (.ref M), some (.ref o), some (.str y), some (.ref p6), some (.int (m : Nat)), some (.int (sg : Nat)), some (.ref G), some (.ref Z), some (.int (i : Nat)), some (.ref x), none, none] = [some (.ref g), some (.ref q), some (.ref a), some (.ref M), some (.ref o), some (.str y), some (.ref p6), some (.int (m : Nat)), some (.int (sg : Nat)), some (.ref G), some (.ref Z), t11, t12, none, none] ∧
          zs.length = i + 1 ∧ Paired (TmZ K B) gs zs ∧ Paired (fun q t => Im K B (.ref q) (trD rows t)) qs (zs.map (·.2)) ∧ (∀ z ∈ zs, GdT rows 4 z.2) ∧ (i + 1 ≤ sg → ∀ z ∈ zs, z.1 = rows) ∧ (sg < i + 1 → ∃ z ∈ zs, z.1 = rows') ∧ Fs K rows rows' ts q a o M p6 B ∧ Ls tb c g [(G, gs.map V.ref), (Z, qs.map V.ref)] B H'') := fun x' rb B' H' s' L' tm c1 c2 => by
        refine ⟨G, _, _, rfl, rfl, L'.own (G, gs.map V.ref) List.mem_cons_self, by rw [List.length_map, sizeLine_eq]; omega, _, _, gs ++ [x'], qs ++ [u], zs ++ [(rb, t)], B', rfl, by rw [List.length_append, hzl]; rfl, paired_snoc tm (Paired.mapP hgs17 fun _ _ r => s'.tmz r), by rw [List.map_append]; exact Paired.mapP hqs17 fun _ _ r => s'.im r, fun z hz => ?_, fun hi' z hz => ?_, fun hi' => ?_, fs17.mono s', by rw [List.map_append, eZ]; exact L'.put⟩
        · rcases List.mem_append.mp hz with hz | hz
          · exact hgz z hz
          · rw [List.mem_singleton.mp hz]
            exact gt
        · rcases List.mem_append.mp hz with hz | hz
          · exact hall (by omega) z hz
          · rw [List.mem_singleton.mp hz]
            exact c1 (by omega)
        · by_cases e : i = sg
          · exact ⟨_, List.mem_append_right _ List.mem_cons_self, c2 e⟩
          · obtain ⟨z, hz, ez⟩ := hex (by omega)
            exact ⟨z, List.mem_append_left _ hz, ez⟩
      have oG18 := L18.own (G, gs.map V.ref) List.mem_cons_self
      have tk := gt.prok (by decide)
      have r1 := L18.st.sqt (sB17.sqt q1)
      have r2 := L18.st.sqz (sB17.sqz q2)
      have r3 := L18.st.sqt (sB17.sqt q3)
      refine ⟨_, rfl, _, rfl, rfl, _, rfl, if_dec (fun c1 => ?_) (fun c1 => ?_)⟩
      · have c1 : i = sg := by have := V.int.inj c1; omega
        refine ⟨_, rfl, .inl ⟨rfl, _, SqL.of oG18⟩, _, rfl, _, rfl, x, _, _, _, rfl, rfl, r1, atI_nat (j := 0) rfl, _, rfl, x, _, _, _, rfl, rfl, r1, atI_nat (j := 1) rfl, ?_⟩
        dsimp only [tNil]
        refine mkT_of (L18.st.bdo fs17.bo).1 r2 r3 tk L18.tb (gd_due ok ok' sub (by decide) gt) fun x' H' s' t' tr => ?_
        obtain ⟨B', sB', L', st', _⟩ := L18.sT s' t'
        exact fin x' rows' B' H' sB' L' ⟨tr.stay st', ok'.sok⟩ (fun n => absurd c1 n) (fun _ => rfl)
      · have c1 : i ≠ sg := fun z => c1 (by rw [z])
        refine ⟨_, rfl, c, g, 2, rfl, L18.bag, by decide, by decide, fun k19 H19 hk19 d19 => ?_⟩
        obtain ⟨B19, sB19, L19, _, _⟩ := L18.dr d19
        have fs19 := fs17.mono sB19
        have u1 := L19.st.sqt ((sB17.trans sB19).sqt q1)
        have u2 := L19.st.sqz ((sB17.trans sB19).sqz q2)
        have u3 := L19.st.sqt ((sB17.trans sB19).sqt q3)
        have oG19 := L19.own (G, gs.map V.ref) List.mem_cons_self
        refine ⟨rfl, _, rfl, if_dec (fun c2 => ?_) (fun c2 => ?_)⟩
        · refine ⟨_, rfl, .inl ⟨rfl, _, SqL.of oG19⟩, _, rfl, q, rows, rfl, L19.st.rl fs19.rl, ok, fun b' H20 s20 hb' => ?_⟩
          obtain ⟨B20, sB20, L20, _, _⟩ := L19.same s20
          refine ⟨_, rfl, x, _, _, _, rfl, rfl, Same.sqt s20 u1, atI_nat (j := 0) rfl, _, rfl, x, _, _, _, rfl, rfl, Same.sqt s20 u1, atI_nat (j := 1) rfl, ?_⟩
          dsimp only [tNil]
          refine mkT_of hb' (u2.same s20) (Same.sqt s20 u3) tk L20.tb (gd_due ok ok (fun _ h => h) (by decide) gt) fun x' H' s' t' tr => ?_
          obtain ⟨B', sB', L', st', _⟩ := L20.sT s' t'
          exact fin x' rows B' H' ((sB19.trans sB20).trans sB') L' ⟨tr.stay st', ok.sok⟩ (fun _ => rfl) (fun n => absurd n c1)
        · refine ⟨_, rfl, .inl ⟨rfl, _, SqL.of oG19⟩, _, rfl, _, rfl, x, _, _, _, rfl, rfl, u1, atI_nat (j := 0) rfl, _, rfl, x, _, _, _, rfl, rfl, u1, atI_nat (j := 1) rfl, ?_⟩
          dsimp only [tNil]
          refine mkT_of (L19.st.bdo fs19.ba).1 u2 u3 tk L19.tb (gd_due ok ok (fun _ h => h) (by decide) gt) fun x' H' s' t' tr => ?_
          obtain ⟨B', sB', L', st', _⟩ := L19.sT s' t'
          exact fin x' rows B' H' (sB19.trans sB') L' ⟨tr.stay st', ok.sok⟩ (fun _ => rfl) (fun n => absurd n c1)
    · rintro σ H16 ⟨t11, t12, gs, qs, zs, B, rfl, hzl, hgs, hqs, hgz, hall, hex, fsB, LB⟩
      have hlm : (zs.map (·.2)).length = m := by rw [List.length_map]; exact hzl
      have hgs1 := paired_len hgs
      have oZ := LB.own (Z, qs.map V.ref) (List.mem_cons_of_mem _ List.mem_cons_self)
      have hsize : ∀ t ∈ zs.map (·.2), t.1.length ≤ 1000000 ∧ t.2.length ≤ 1000000 := fun t ht => by
        obtain ⟨z, hz, rfl⟩ := List.mem_map.mp ht
        have h1 := (hgz z hz).1.le
        have h2 := (hgz z hz).2.le
        exact ⟨by omega, by omega⟩
      refine ⟨_, rfl, _, rfl, Z, _, rfl, SqL.of oZ, fun p17 H17 n17 => ⟨_, rfl, (by show 5 ≤ sizeLine; decide), fun p18 hp18 => ?_⟩⟩
      have s18 := up_same (o := .tup [.str "Good", .ref p6, .ref p17, .str "trims", .int (m : Nat)]) hp18
      have s16 := n17.same.trans s18
      have i18 : Im K (upd H17 p18 (.tup [.str "Good", .ref p6, .ref p17, .str "trims", .int (m : Nat)])) (.ref p18) (shD rows (zs.map (·.2)) "trims") := by
        unfold shD
        rw [hlm]
        have go : ∀ {H' : Hp} {ps : List Addr} {ts : List Trm}, Paired (fun q t => Im K H' (.ref q) (trD rows t)) ps ts → ImA K H' (ps.map V.ref) (ts.map (trD rows)) := by
          intro H' ps ts h
          induction h with
          | nil => exact .nil
          | cons a _ ih => exact .cons a ih
        have iq := (go (Paired.mapP (G := fun q t => Im K H16 (V.ref q) (trD rows t)) hqs fun _ _ r => LB.st.im r)).mono (Stay.of s16)
        exact .tup (SqT.of upd_same) (.cons (.str _) (.cons ((LB.st.im fsB.im).mono (Stay.of s16)) (.cons (.tup (Same.sqt s18 n17.sqt) iq) (.cons (.str _) (.cons (.int _) .nil)))))
      obtain ⟨B18, sB18, L18, st18, _⟩ := LB.same s16
      have j18 := i18.mono st18
      generalize upd H17 p18 (.tup [.str "Good", .ref p6, .ref p17, .str "trims", .int (m : Nat)]) = H18 at *
      refine ⟨fun σ' H' => ∃ (v : V) (B' : Hp), σ' = [some (.ref g), some (.ref q), some (.ref a), some (.ref M), some (.ref o), some (.str y), some (.ref p6), some (.int (m : Nat)), some (.int (sg : Nat)), some (.ref G), some (.ref Z), t11, t12, some v, none] ∧ StayT B18 B' ∧ Ls tb c g [(G, gs.map V.ref), (Z, qs.map V.ref)] B' H' ∧ Im K B' v (if 8 < m then tmD else shD rows (zs.map (·.2)) "trims"),
        ⟨_, rfl, _, _, rfl, rfl, _, rfl, if_dec (fun c1 => ⟨(by show 4 ≤ sizeLine; decide), fun p19 hp19 => ?_⟩) (fun c1 => ⟨_, B18, rfl, StayT.refl _, L18, by rw [if_neg (by omega)]; exact j18⟩)⟩, ?_⟩
      · obtain ⟨B19, sB19, L19, st19, _⟩ := L18.same (up_same (o := .tup [.str "TooMany", .str "trims", .int 8, .bl true]) hp19)
        refine ⟨_, B19, rfl, sB19, L19, ?_⟩
        rw [if_pos (by omega)]
        exact Im.mono st19 (.tup (SqT.of upd_same) (.cons (.str _) (.cons (.str _) (.cons (.int _) (.cons (.bl _) .nil)))))
      rintro _ H19 ⟨v19, B19, rfl, sB19, L19, j19⟩
      have eD : dSA rows zs = if sg < m then obD else if 8 < m then tmD else shD rows (zs.map (·.2)) "trims" := by
        unfold dSA
        by_cases cs : sg < m
        · rw [if_pos cs, if_neg]
          intro z
          obtain ⟨z', hz', ez'⟩ := hex cs
          have := all_rows.mp z z' hz'
          exact nrow (ez'.symm.trans this)
        · rw [if_neg cs, if_pos (all_rows.mpr (hall (by omega))), hzl]
      refine ⟨fun σ' H' => ∃ (v : V) (B' : Hp), σ' = [some (.ref g), some (.ref q), some (.ref a), some (.ref M), some (.ref o), some (.str y), some (.ref p6), some (.int (m : Nat)), some (.int (sg : Nat)), some (.ref G), some (.ref Z), t11, t12, some v, none] ∧ StayT B19 B' ∧ Ls tb c g [(G, gs.map V.ref), (Z, qs.map V.ref)] B' H' ∧ Im K B' v (dSA rows zs),
        ⟨_, rfl, _, rfl, _, _, rfl, rfl, _, rfl, if_dec (fun c1 => ⟨(by show 2 ≤ sizeLine; decide), fun p20 hp20 => ?_⟩) (fun c1 => ⟨_, B19, rfl, StayT.refl _, L19, by rw [eD, if_neg (by omega)]; exact j19⟩)⟩, ?_⟩
      · obtain ⟨B20, sB20, L20, st20, _⟩ := L19.same (up_same (o := .tup [.str "OtherBed", .bl true]) hp20)
        refine ⟨_, B20, rfl, sB20, L20, ?_⟩
        rw [eD, if_pos (by omega)]
        exact Im.mono st20 (.tup (SqT.of upd_same) (.cons (.str _) (.cons (.bl _) .nil)))
      rintro _ H20 ⟨v20, B20, rfl, sB20, L20, j20⟩
      have sBB := (sB18.trans sB19).trans sB20
      have fs20 := fsB.mono sBB
      have oG := L20.own (G, gs.map V.ref) List.mem_cons_self
      refine ⟨_, rfl, _, rfl, a, G, gs, rows, zs, rfl, L20.st.bdo fs20.ba, oG, Paired.mapP hgs fun _ _ r => L20.st.tmz (sBB.tmz r), by omega, fun z hz => (hgz z hz).ne, fun v21 H21 s21 i21 => ?_⟩
      obtain ⟨B21, sB21, L21, _, _⟩ := L20.same s21
      have fs21 := fs20.mono sB21
      refine ⟨_, rfl, v21, v20, _, rfl, i21, L21.st.im (sB21.im j20), fit_sa 0 hrl (by omega) (fun z hz => hsize _ (List.mem_map_of_mem hz)), _, rfl, iteF ?_⟩
      -- the last trim alone
      obtain ⟨as, hMB, hpaB⟩ := id fs21.ml
      have hM := L21.st _ _ hMB lst_nt
      have hal := paired_len hpaB
      obtain ⟨t, et⟩ : ∃ t, ts[ts.length - 1]? = some t := ⟨_, List.getElem?_eq_getElem (by omega)⟩
      obtain ⟨x, ex, px⟩ := paired_at hpaB et
      have gt := hgd t (List.mem_of_getElem? et)
      have tk := gt.prok (by decide)
      have elast : (((as.map V.ref).length : Nat) : Int) - 1 = ((ts.length - 1 : Nat) : Int) := by rw [List.length_map, hal]; omega
      refine ⟨_, rfl, _, rfl, M, _, rfl, .inl (SqL.of hM), _, _, rfl, rfl, M, _, _, .ref x, rfl, rfl, SqL.of hM, ?_, ?_⟩
      · rw [elast]
        exact atI_nat (by rw [List.getElem?_map, ex]; rfl)
      obtain ⟨sA, rA, q1, q2, q3⟩ := id px
      have r1 := L21.st.sqt q1
      refine ⟨_, rfl, _, rfl, _, rfl, x, _, _, _, rfl, rfl, r1, atI_nat (j := 0) rfl, _, rfl, x, _, _, _, rfl, rfl, r1, atI_nat (j := 1) rfl, ?_⟩
      dsimp only [tNil]
      refine mkT_of (L21.st.bdo fs21.ba).1 (L21.st.sqz q2) (L21.st.sqt q3) tk L21.tb (gd_due ok ok (fun _ h => h) (by decide) gt) fun x' H22 s22 t22 tr => ?_
      obtain ⟨B22, sB22, L22, st22, _⟩ := L21.sT s22 t22
      have fs22 := fs21.mono sB22
      refine ⟨_, rfl, ?_⟩
      refine mkS_of (as := [x']) (zs := [(rows, t)]) (L22.st.bdo fs22.ba) (.cons ⟨tr, ok.sok⟩ .nil) (by show 1 ≤ 100; decide) (fun z hz => by rw [List.mem_singleton.mp hz]; exact gt.ne) (fun ⟨z, hz, hn⟩ => absurd (by rw [List.mem_singleton.mp hz]) hn) (fun _ z => absurd z (by show ¬ 8 < 1; decide)) fun _ _ x23 H23 s23 _ t23 => ?_
      refine ⟨_, rfl, x23, rows, _, _, rfl, t23, (by show 1 ≤ 100; decide), fun v24 H24 s24 i24 => ?_⟩
      obtain ⟨B24, sB24, L24, _, _⟩ := L22.same (s23.trans s24)
      have fs24 := fs22.mono sB24
      have sQ := sB22.trans sB24
      have u1 := L24.st.sqt (sQ.sqt q1)
      have im24 := L24.st.im fs24.im
      refine ⟨_, rfl, _, rfl, _, rfl, x, _, _, _, rfl, rfl, u1, atI_nat (j := 0) rfl, _, rfl, x, _, _, _, rfl, rfl, u1, atI_nat (j := 1) rfl, (by show 3 ≤ sizeLine; decide), fun p25 hp25 => ⟨(by show 1 ≤ sizeLine; decide), fun p26 hp26 => ⟨_, rfl, (by show 5 ≤ sizeLine; decide), fun p27 hp27 => ?_⟩⟩⟩
      have s25 := up_same (o := .tup [.ref p6, .ref sA, .ref rA]) hp25
      have i25 : Im K (upd H24 p25 (.tup [.ref p6, .ref sA, .ref rA])) (.ref p25) (trD rows t) := .tup (SqT.of upd_same) (.cons (im24.mono (Stay.of s25)) (.cons (Im.strs (Same.sqt s25 (L24.st.sqz (sQ.sqz q2)).sq)) (.cons (.tup (Same.sqt s25 (L24.st.sqt (sQ.sqt q3))) (ImA.keys _)) .nil)))
      generalize upd H24 p25 (.tup [.ref p6, .ref sA, .ref rA]) = H25 at *
      have s26 := up_same (o := .tup [.ref p25]) hp26
      have i26 : Im K (upd H25 p26 (.tup [.ref p25])) (.ref p26) (.tuple [trD rows t]) := .tup (SqT.of upd_same) (.cons (i25.mono (Stay.of s26)) .nil)
      generalize upd H25 p26 (.tup [.ref p25]) = H26 at *
      have s27 := up_same (o := .tup [.str "Good", .ref p6, .ref p26, .str y, .int 1]) hp27
      have s2427 := (s25.trans s26).trans s27
      exact ⟨v24, .ref p27, _, rfl, i24.mono (Stay.of s2427), .tup (SqT.of upd_same) (.cons (.str _) (.cons (im24.mono (Stay.of s2427)) (.cons (i26.mono (Stay.of s27)) (.cons (.str _) (.cons (.int _) .nil))))), fit_sh 0 hrl (by show 1 ≤ 1000000; decide) (fun t' ht' => by
        rw [List.mem_singleton.mp ht']
        have h1 := gt.1.le
        have h2 := gt.2.le
        exact ⟨by show t.1.length ≤ 1000000; omega, by show t.2.length ≤ 1000000; omega⟩), hq _⟩
end
end Sy
/-! the law -/
namespace Sy
open PySem PySem.Spec PyProof.Rows L2 LamX NdefX
theorem fit_er (n : Nat) (e : Er) : Fit (n + 3) (erD e) := by
  cases e with
  | many x k => exact ⟨by show 4 ≤ 1000000; decide, fun d hd => by
      simp only [List.mem_cons, List.not_mem_nil, or_false] at hd
      rcases hd with rfl | rfl | rfl | rfl
      · exact fit_str _ _
      · exact fit_str _ _
      · exact fit_int _ _
      · exact fit_bool _ _⟩
  | stump i => exact ⟨by show 3 ≤ 1000000; decide, fun d hd => by
      simp only [List.mem_cons, List.not_mem_nil, or_false] at hd
      rcases hd with rfl | rfl | rfl
      · exact fit_str _ _
      · exact fit_int _ _
      · exact fit_bool _ _⟩
  | trim i => exact ⟨by show 3 ≤ 1000000; decide, fun d hd => by
      simp only [List.mem_cons, List.not_mem_nil, or_false] at hd
      rcases hd with rfl | rfl | rfl
      · exact fit_str _ _
      · exact fit_int _ _
      · exact fit_bool _ _⟩
theorem fit_due (n : Nat) {rows : List Sy.Row} {t : Trm} (h : rows.length ≤ 1000000) (h1 : t.1.length ≤ 1000000) (h2 : t.2.length ≤ 1000000) : Fit (n + 3) (dueD rows t) := by
  unfold dueD
  split
  · exact fit_er n _
  · exact ⟨by show 4 ≤ 1000000; decide, fun d hd => by
      simp only [List.mem_cons, List.not_mem_nil, or_false] at hd
      rcases hd with rfl | rfl | rfl | rfl
      · exact fit_str _ _
      · exact fit_rows n h
      · exact fit_DS (n + 1) h1
      · exact ⟨by rw [List.length_map]; exact h2, fit_keys (n + 1) _⟩⟩
section
variable {P : Program} {w : World} {K : PySem.W.Frag} {mg : Str → Option Value} {base : Heap}
def spLaw (K : PySem.W.Frag) (tb : Addr) : Sp := fun vs H Q _ => ∃ (s : Addr) (zs : List Int), vs = [.ref s] ∧ SqL K H s (zs.map V.int) ∧ zs.length ≤ 100000 ∧ TbI tb H ∧ ∀ H', Q (.bl true) H'
abbrev N_law : List Str := ["_law_script", "_law_bag_here", "_law_kinds_here", "_law_arity_here", "_law_bed_here", "_law_k", "_law_pair_here", "_law_due_here"]
theorem sc_law : FnScope N_law ["_law_script"] (defScope (top 64)) := ⟨rfl, rfl, rfl, by decide +kernel, rfl, by decide +kernel, by decide +kernel⟩
theorem k_law {tb : Addr} (T : Txt K mg) {fd : FuncData} (F : FunD K "law" "law" (defArgs (top 64)) (defBody (top 64)) (defScope (top 64)) [] [] (He.ga K "law") fd)
    (c_law_bag : Cal P w K mg base 1 "_law_bag" ["_law_script"] (spBag K)) (c_law_kinds : Cal P w K mg base 4 "_law_kinds" ["_law_bag_here"] (spKinds K)) (c_law_arity : Cal P w K mg base 1 "_law_arity" ["_law_kinds_here"] (spArD K)) (c_law_bed : Cal P w K mg base 5 "_law_bed" ["_law_kinds_here"] (spBedL K))
    (c_law_pair : Cal P w K mg base 3 "_law_pair" ["_law_bag_here", "_law_kinds_here"] (spPr K)) (c_law_due : Cal P w K mg base 2 "_law_due" ["_law_kinds_here", "_law_arity_here", "_law_stump_here", "_law_result_here"] (spDue K)) (c_law_asked : Cal P w K mg base 8 "_law_asked" ["_law_bed_here", "_law_stump_here", "_law_result_here"] (spAsk K tb))
    (c_law_same : ∀ n : Nat, Cal P w K mg base (n + 1) "_law_same" ["_law_actual", "_law_due_here"] (spSame K n)) (c_law_sets : Cal P w K mg base 8 "_law_sets" ["_law_bag_here", "_law_kinds_here", "_law_bed_here"] (spSs K tb)) : FnOk P w K mg base (L2.CX P w) (8 + 1) (He.ga K "law") fd ["_law_script"] (spLaw K tb) := by
  refine F.ok sc_law (fun vs H Q E s => by obtain ⟨_, _, rfl, _⟩ := s; rfl) ?_
  intro cdv A outer s H vs Q E hr h
  obtain ⟨sa, zs, rfl, hs, hl, tbi, hq⟩ := h
  have sc := sc_law
  have c3 := c_law_same 3
  refine ⟨_, (pss_cons (ps_set (i := 1) sc.nd rfl (Or.inl rfl) (pe_cal c_law_bag hr (pa_cons (pv 0) pa_nil)))
      (pss_cons (ps_set (i := 2) sc.nd rfl (Or.inl rfl) (pe_cal c_law_kinds hr (pa_cons (pv 1) pa_nil)))
      (pss_cons (ps_set (i := 3) sc.nd rfl (Or.inl rfl) (pe_cal c_law_arity hr (pa_cons (pv 2) pa_nil)))
      (pss_cons (ps_set (i := 4) sc.nd rfl (Or.inl rfl) (pe_cal c_law_bed hr (pa_cons (pv 2) pa_nil)))
      (pss_cons (ps_for (passes_of rfl) rfl (pi_range1 rfl T.range (pa_cons pe_int pa_nil)) (pg_name (i := 5) sc.nd rfl (Or.inl rfl))
        (pss_cons (ps_set (i := 6) sc.nd rfl (Or.inl rfl) (pe_cal c_law_pair hr (pa_cons (pv 1) (pa_cons (pv 2) pa_nil))))
        (pss_cons (ps_set (i := 7) sc.nd rfl (Or.inl rfl) (pe_cal c_law_due hr (pa_cons (pv 2) (pa_cons (pv 3) (pa_cons (pe_ix ix_tup (pv 6) pe_int (fun _ _ => rfl)) (pa_cons (pe_ix ix_tup (pv 6) pe_int (fun _ _ => rfl)) pa_nil))))))
        (pss_one (ps_if (pt_not (pt_val (pe_cal c3 hr (pa_cons (pe_cal c_law_asked hr (pa_cons (pv 4) (pa_cons (pe_ix ix_tup (pv 6) pe_int (fun _ _ => rfl)) (pa_cons (pe_ix ix_tup (pv 6) pe_int (fun _ _ => rfl)) pa_nil)))) (pa_cons (pv 7) pa_nil)))))
          (pss_one (ps_ret pe_bl))
          pss_nil)))))
      (pss_one (ps_ret (pe_cal c_law_sets hr (pa_cons (pv 1) (pa_cons (pv 2) (pa_cons (pv 4) pa_nil))))))))))), ?_⟩
  refine ⟨_, rfl, sa, zs, rfl, hs, fun H1 c g s1 bag1 hg => ?_⟩
  have L1 := Ls.start bag1 (tbi.same s1)
  refine ⟨_, rfl, c, g, rfl, bag1, fun q rows H2 ok l4 d2 hqn hRL => ?_⟩
  have hqg : q ≠ g := fun z => by
    obtain ⟨⟨x, e⟩, _⟩ := bag1
    rw [z, e] at hqn
    cases hqn
  obtain ⟨B2, sB2, L2', st2, out2⟩ := L1.dr d2
  have rl2 : RL K B2 q rows := hRL.base st2 fun o e => out2 q o hqg (fun z => nomatch z) e
  refine ⟨_, rfl, q, rows, rfl, hRL, ok.ok.nd, by omega, fun d H3 s3 ed => ?_⟩
  obtain ⟨B3, sB3, L3, st3, out3⟩ := L2'.same s3
  have ed3 := st3 _ _ ed (fun _ z => by cases z)
  refine ⟨_, rfl, q, rows, rfl, L3.st.rl (sB3.rl rl2), ok, fun a H4 s4 hb => ?_⟩
  obtain ⟨B4, sB4, L4, st4, out4⟩ := L3.same s4
  have rl4 := sB4.rl (sB3.rl rl2)
  have ed4 := sB4 _ _ ed3 (fun _ z => by cases z)
  have ba4 : BdO K B4 a rows := ⟨hb.mono st4, ok.sok⟩
  refine ⟨_, rfl, by omega, by omega, for_rng (n := 3) (fun i σ H' => ∃ (t5 t6 t7 : Option V) (B : Hp), σ = [some (.ref sa), some (.ref g), some (.ref q), some (.ref d), some (.ref a), t5, t6, t7] ∧ StayT B4 B ∧ Ls tb c g [] B H') ⟨none, none, none, B4, rfl, StayT.refl _, L4⟩ ?_ ?_⟩
  · rintro i σ H5 hi ⟨t5, t6, t7, B, rfl, sB, LB⟩
    refine ⟨_, rfl, _, rfl, c, g, q, rows, rfl, LB.bag, hqg, LB.st.rl (sB.rl rl4), ok, fun p t H6 hpo d6 hpr => ?_⟩
    obtain ⟨B6, sB6, L6, st6, _⟩ := LB.dr d6
    obtain ⟨sA, rA, q1, q2, q3⟩ := id hpr
    obtain ⟨l, ks⟩ := t
    have r1 := st6.sqt q1
    have r2 := q2.stay st6
    have r3 := st6.sqt q3
    have s46 := sB.trans sB6
    refine ⟨_, rfl, _, rfl, _, rfl, p, _, _, _, rfl, rfl, q1, atI_nat (j := 0) rfl, _, rfl, p, _, _, _, rfl, rfl, q1, atI_nat (j := 1) rfl, q, d, sA, rA, rows, l, ks, rfl, L6.st.rl (s46.rl rl4), L6.st _ _ (s46 _ _ ed4 (fun _ z => by cases z)) (fun _ z => by cases z), ok, q2, q3, hpo, fun v H7 s7 i7 => ?_⟩
    obtain ⟨B7, sB7, L7, st7, _⟩ := L6.same s7
    have s47 := s46.trans sB7
    have i7' := i7.mono st7
    refine ⟨_, rfl, _, rfl, p, _, _, _, rfl, rfl, L7.st.sqt (sB7.sqt r1), atI_nat (j := 0) rfl, _, rfl, p, _, _, _, rfl, rfl, L7.st.sqt (sB7.sqt r1), atI_nat (j := 1) rfl, a, sA, rA, rows, l, ks, rfl, (L7.st.bdo (s47.bdo ba4)).1, L7.st.sqz (sB7.sqz r2), L7.st.sqt (sB7.sqt r3), hpo, L7.tb, fun v8 H8 s8 t8 i8 => ?_⟩
    obtain ⟨B8, sB8, L8, st8, _⟩ := L7.sT s8 t8
    have l1 := hpo.l1
    have l2 := hpo.l2
    refine ⟨_, rfl, v8, v, _, rfl, i8, L8.st.im (sB8.im i7'), fit_due 0 (by omega) (by omega) (by omega), _, rfl, iteF ⟨_, _, _, B8, rfl, s47.trans sB8, L8⟩⟩
  · rintro σ H5 ⟨t5, t6, t7, B, rfl, sB, LB⟩
    exact ⟨_, rfl, _, rfl, _, rfl, c, g, q, a, rows, rfl, LB.bag, hqg, LB.st.rl (sB.rl rl4), ok, l4, LB.st.bdo (sB.bdo ba4), LB.tb, hq⟩
end
end Sy
/-! the head's facts, own errors with an __init__ among them -/
namespace Sy
open PySem PySem.Spec PyProof.Rows L2
theorem oexB_ok {K : PySem.W.Frag} {C : Addr} (h : oexB K C = true) : ∃ nm q N bs bm sn sub ab col dd k0 k1 k2 k3 k5, K.lookup C = some (excClassObj nm q C N bs bm true sn sub ab col dd k0 k1 k2 k3 k5 "ValueError.__new__") ∧ HandSPX.refsVE bm = true := by
  unfold oexB at h
  split at h
  · rename_i t dd cd sl ho
    split at h
    · rename_i C' bm k0 k1 k2 k3 n k5 hm hs
      simp only [Bool.and_eq_true, decide_eq_true_eq, Bool.not_eq_true'] at h
      obtain ⟨h1, h2, h3, h4, h5, h6⟩ := h
      obtain ⟨nm, bs, mro, ns, qn, hd, sn, sub, ab, col, del⟩ := cd
      dsimp only at hm h4 h5
      subst hm h4 h5 h1 h2 h3
      have hsl : sl = #[k0, k1, k2, k3, some (.builtin "ValueError.__new__"), k5] := by
        obtain ⟨z⟩ := sl
        simp only at hs
        rw [hs]
      subst hsl
      exact ⟨nm, qn, ns, bs, bm, sn, sub, ab, col, dd, k0, k1, k2, k3, k5, ho, h6⟩
    · cases h
  · cases h
theorem initB_ok {K : PySem.W.Frag} {file : Str} {d : ErD} (e : erW K d.x = d.val) (h : initB K file d.x d.q = true) : ∃ (cc cd : Addr) (oc : Value) (od : Option Addr) (kV doc pm : Value) (an : Option Addr) (ct : Value) (osl : Array (Option Value)),
    K.lookup (iniA K d.x) = some ⟨oc, od, .func (PySem.W.fnX "__init__" d.q (defArgs d.st) (defBody d.st) (defScope d.st) [("__class__", cc)] .none kV doc pm an (.ref cd) ct), osl⟩ ∧ PySem.W.codeIn K (.ref cd) d.q = true ∧
    (∃ (cl : Value) (dd : Option Addr) (vs : Array Value) (sl : Array (Option Value)) (fi : Str) (tf : Tok), K.lookup cd = some ⟨cl, dd, .fields vs, sl⟩ ∧ vs[2]? = some (.str fi tf) ∧ (file == fi) = true) ∧ ∃ (cl : Value) (dd : Option Addr) (sl : Array (Option Value)), K.lookup cc = some ⟨cl, dd, .cell (some (.ref (He.ga K d.x))), sl⟩ := by
  unfold initB at h
  unfold erW at e
  split at h
  · rename_i oc od fd osl ho
    rw [ho] at e
    obtain ⟨n1, n2, n3, n4, n5, n6, n7, n8, n9, n10, n11, n12, n13, n14, n15⟩ := fd
    have e2 : (some (n1, n2, n3, n4, n5, n6, n7.map (·.1), n15) : FnE) = d.val := e
    unfold ErD.val at e2
    simp only [Option.some.injEq, Prod.mk.injEq] at e2
    obtain ⟨e1, e2, e3, e4, e5, e6, e7, e8⟩ := e2
    simp only [Bool.and_eq_true] at h
    obtain ⟨h1, h2, h3, h4⟩ := h
    have hd : n8 = .none := by
      split at h4
      · first | rfl | assumption
      · cases h4
    unfold fileB at h2
    split at h2
    · rename_i cd
      unfold cellB at h3
      split at h3
      · rename_i y cc
        have hy : y = "__class__" := by simpa using e7
        subst hy
        split at h3
        · rename_i cl2 dd2 D sl2 hc
          have hD := of_decide_eq_true h3
          subst hD
          split at h2
          · rename_i cl dd vs sl hv
            split at h2
            · rename_i fi tf hf
              subst e1 e2 e3 e4 e5 e6 e8 hd
              exact ⟨cc, cd, oc, od, n9, n10, n11, n12, n14, osl, ho, h1, ⟨cl, dd, vs, sl, fi, tf, hv, hf, h2⟩, ⟨cl2, dd2, sl2, hc⟩⟩
            · cases h2
          · cases h2
        · cases h3
      · cases h3
    · cases h2
  · cases h
theorem ErD.errB {P : Program} {K : PySem.W.Frag} {h : Heap} {mg : Str → Option Value} {d : ErD} (X : K.In h) (G : h.Ns mainGlobals mg) (e : erW K d.x = d.val) (c : d.ok P.main.file K = true) (mS : mg "super" = none) (top : (P.main.scope.names.lookup ("super" : Str)).isSome = false) : ErrB P K mg d.x d.q d.st d.fs := by
  obtain ⟨c1, c⟩ := Bool.and_eq_true_iff.mp c
  obtain ⟨c2, c⟩ := Bool.and_eq_true_iff.mp c
  obtain ⟨c3, c⟩ := Bool.and_eq_true_iff.mp c
  obtain ⟨c4, c⟩ := Bool.and_eq_true_iff.mp c
  obtain ⟨c5, c⟩ := Bool.and_eq_true_iff.mp c
  obtain ⟨c6, c⟩ := Bool.and_eq_true_iff.mp c
  obtain ⟨c7, c⟩ := Bool.and_eq_true_iff.mp c
  obtain ⟨c8, c⟩ := Bool.and_eq_true_iff.mp c
  obtain ⟨c9, c⟩ := Bool.and_eq_true_iff.mp c
  obtain ⟨c10, c⟩ := Bool.and_eq_true_iff.mp c
  obtain ⟨c11, c⟩ := Bool.and_eq_true_iff.mp c
  obtain ⟨c12, c⟩ := Bool.and_eq_true_iff.mp c
  obtain ⟨c13, c⟩ := Bool.and_eq_true_iff.mp c
  obtain ⟨c14, c⟩ := Bool.and_eq_true_iff.mp c
  obtain ⟨c15, c⟩ := Bool.and_eq_true_iff.mp c
  obtain ⟨c16, c17⟩ := Bool.and_eq_true_iff.mp c
  obtain ⟨cc, cd, oc, od, kV, doc, pm, an, ct, osl, l1, l2, l3, l4⟩ := initB_ok e c12
  refine ⟨⟨cc, cd, kV, doc, pm, an, ct, ⟨⟨oc, od, .none, kV, doc, pm, an, ct, osl, rfl, l1⟩, l2, l3, l4, ?_, of_decide_eq_true c14, He.eqO_ok c15, of_decide_eq_true c16, He.eqO_ok c17, ⟨oexB_ok c7, He.eqO_ok c8, of_decide_eq_true c9, of_decide_eq_true c10, c11⟩⟩⟩, He.eqO_ok c2, of_decide_eq_true c3, PySem.W.mg_of X G (He.eqO_ok c1), of_decide_eq_true c4, xfB_ok c5, fun f hf => He.eqO_ok (List.all_eq_true.mp c6 f hf), mS, top⟩
  unfold PySem.W.isClsIn at c13
  exact Option.isSome_iff_exists.mp c13
/-! isinstance and except of the errors -/
theorem excB_ok {K : PySem.W.Frag} {D : Addr} (c : excB K D = true) : ExcC K D := by
  obtain ⟨c1, c⟩ := Bool.and_eq_true_iff.mp c
  obtain ⟨c2, c⟩ := Bool.and_eq_true_iff.mp c
  obtain ⟨c3, c⟩ := Bool.and_eq_true_iff.mp c
  obtain ⟨c4, c⟩ := Bool.and_eq_true_iff.mp c
  obtain ⟨c5, c⟩ := Bool.and_eq_true_iff.mp c
  obtain ⟨c6, c⟩ := Bool.and_eq_true_iff.mp c
  obtain ⟨c7, c8⟩ := Bool.and_eq_true_iff.mp c
  exact ⟨He.eqO_ok c1, He.eqO_ok c2, of_decide_eq_true c3, c4, He.eqO_ok c5, He.eqO_ok c6, of_decide_eq_true c7, of_decide_eq_true c8⟩
theorem metB_ok {K : PySem.W.Frag} {mg : Str → Option Value} (c : metB K = true) (h0 : ∀ k, k < 4 → mg (fou k) = some (.ref (He.ga K (fou k)))) (h1 : mg "YardError" = some (.ref (He.ga K "YardError"))) (h2 : mg "ValueError" = none) : (∃ p, tabP K "result_fault" = some p) ∧ MetT K mg := by
  obtain ⟨ct, c⟩ := Bool.and_eq_true_iff.mp c
  have q : ∀ k, k < 4 → ExcC K (He.ga K (fou k)) ∧ PySem.W.kitOne K (.ref (He.ga K (fou k))) (.type "ValueError") = some true ∧ PySem.W.kitOne K (.ref (He.ga K (fou k))) (.ref (He.ga K "YardError")) = some true ∧ ∀ j, j < 4 → PySem.W.kitOne K (.ref (He.ga K (fou k))) (.ref (He.ga K (fou j))) = some (decide (k = j)) ∧ PySem.W.exmOne K (.ref (He.ga K (fou k))) (.ref (He.ga K (fou j))) = some (decide (k = j)) := fun k hk => by
    have c := List.all_eq_true.mp c k (List.mem_range.mpr hk)
    obtain ⟨c1, c⟩ := Bool.and_eq_true_iff.mp c
    obtain ⟨c2, c⟩ := Bool.and_eq_true_iff.mp c
    obtain ⟨c3, c4⟩ := Bool.and_eq_true_iff.mp c
    exact ⟨excB_ok c1, of_decide_eq_true c2, of_decide_eq_true c3, fun j hj => of_decide_eq_true (List.all_eq_true.mp c4 j (List.mem_range.mpr hj))⟩
  exact ⟨Option.isSome_iff_exists.mp ct, ⟨fun k hk => (q k hk).1, fun k j hk hj => ((q k hk).2.2.2 j hj).1, fun k j hk hj => ((q k hk).2.2.2 j hj).2, fun k hk => (q k hk).2.1, fun k hk => (q k hk).2.2.1, h0, h1, h2⟩⟩
/-! the code object of a def, its table -/
/-- the def x stands at a, its code object's table is empty -/
def HasTab (mg : Str → Option Value) (x : Str) (h : Heap) : Prop := ∃ a o fd c P, mg x = some (.ref a) ∧ h.get? a = some o ∧ o.data = .func fd ∧ fd.code = .ref c ∧ h.IsCode c P #[] ∧ h.TableAt c P #[]
theorem tab_facts {K : PySem.W.Frag} {h : Heap} {mg : Str → Option Value} {x : Str} {i : Nat} {p : Addr} (X : K.In h) (m : tabP K x = some p) (F : DF K mg x i) (T : HasTab mg x h) :
    ∃ c : Addr, FDc K x (top i) c ∧ h.get? p = some { cls := .none, data := .fields #[] } ∧ K.lookup p = none ∧ PySem.W.CodeHd h c p := by
  obtain ⟨⟨fd, F⟩, g⟩ := F
  obtain ⟨a, o, fd', c, P, e1, e2, e3, e4, hc, ht⟩ := T
  rw [g] at e1
  cases e1
  have F0 := F
  obtain ⟨oc, od, dV, kV, doc, pm, an, cdv, ct, osl, rfl, lk, hcd, _, _⟩ := F.ex
  have k1 := X _ _ lk
  rw [k1] at e2
  cases e2
  cases e3
  have e4 : cdv = .ref c := e4
  unfold tabP at m
  rw [lk] at m
  subst e4
  simp only at m
  split at m
  · rename_i cl dd vs sl hk
    split at m
    · rename_i P' hv
      split at m
      · rename_i hn
        have m := Option.some.inj m
        subst m
        have hn := Option.isNone_iff_eq_none.mp hn
        have ht2 := ht.2
        obtain ⟨o2, vs2, f1, _, f3, f4⟩ := ht.1
        have k2 := X _ _ hk
        rw [k2] at f1
        cases f1
        cases f3
        rw [hv] at f4
        cases f4
        exact ⟨c, ⟨_, F0, rfl⟩, ht2, hn, .of hc ht⟩
      · cases m
    · cases m
  · cases m
open LamX in
/-- a law's walk with the table of the def x2 -/
theorem walk_ofT2 {l : PySem.W.OpenLaw} {n k : Nat} {q : Program} {loose : List Str} {XP : (Str → Option Value) → Heap → Prop} {YP : World → Heap → Prop} {d : DefRec} {CX : CXT} {x x2 : Str}
    (hn : l.most = some n) (hn2 : n ≤ sizeLine) (hdf : d.params.defaults = []) (hr : Room k callerA) (hrec : ((recsOf q).any fun e => e.name == x2) = true)
    (F : ∀ (w : World) (mg : Str → Option Value) (fa : Addr) (h : Heap), YP w h → h.Ns mainGlobals mg → mg d.name = some (.ref fa) → HasTab mg x2 h → ∃ K : PySem.W.Frag, K.In h ∧ LamX.LawAtS l w K CX k n x mg fa h)
    (hCX : ∀ (H : Hp) (s : Shared) (e : Value) (s' : Shared), CX [] H s (fun _ _ _ => False) e s' → False) :
    PySem.W.WalkO q loose XP YP l.row.toRowW d [] (fun f vs => PySem.call f vs) := by
  refine Att.attach_callB hn hdf fun w s₀ s₁ mg mb fa o pm cd doc a vs ns G Y ho hd hcd hmg hobj hints hlen hbits hg => ?_
  obtain ⟨dL, hm, hn1⟩ := List.any_eq_true.mp hrec
  have hn3 : dL.name = x2 := beq_iff_eq.mp hn1
  have tab := G.T.tab dL hm
  rw [hn3] at tab
  obtain ⟨K, KX, fd, cs, sp, hT, nT, C, hb, hsp, hF⟩ := F w mg fa _ Y G.T.g hmg tab
  exact LamX.law_callTs KX G.T.g G.T.b G.T.builtins G.T.nolimit hg hT nT C G.T.bmain hobj hints (Nat.le_trans hlen hn2) hr hF hb (fun H hH hS => hsp H a ns hlen hbits hH hS) fun H e s' => hCX H s₁ e s'
section
variable {file : Str} {fa : List He.Fa} {fn : List He.DefD} {er : List ErD} {K : PySem.W.Frag}
theorem SaysX.d (c : SaysX file fa fn er K) : He.SaysD fa fn K := congrArg (fun z : AlX => z.1) c
theorem SaysX.met (c : SaysX file fa fn er K) : metB K = true := (Bool.and_eq_true_iff.mp (show ((er.all fun d => d.ok file K) && metB K) = true from congrArg (fun z : AlX => z.2.1) c)).2
theorem SaysX.err_ (c : SaysX file fa fn er K) (i : Nat) {d : ErD} (h : er[i]? = some d := by rfl) : erW K d.x = d.val ∧ d.ok file K = true := by
  have c0 : ((er.all fun d => d.ok file K) && metB K) = true := congrArg (fun z : AlX => z.2.1) c
  have c1 := (Bool.and_eq_true_iff.mp c0).1
  have c2 : (er.map fun d => erW K d.x) = er.map ErD.val := congrArg (fun z : AlX => z.2.2) c
  refine ⟨?_, List.all_eq_true.mp c1 d (List.mem_of_getElem? h)⟩
  have e2 : (er.map fun d => erW K d.x)[i]? = (er.map ErD.val)[i]? := by rw [c2]
  rw [List.getElem?_map, List.getElem?_map, h] at e2
  exact Option.some.inj e2
end
/-- a def that lets nothing out -/
theorem fn_calm {P : Program} {w : World} {K : PySem.W.Frag} {mg : Str → Option Value} {base : Heap} {k : Nat} {f : Addr} {fd : FuncData} {ps : List Str} {sp : Sp} (F : FnOk P w K mg base (L2.CX P w) k f fd ps sp) (h : ∀ vs H Q E, sp vs H Q E → sp vs H Q E0) : FnOk P w K mg base CX0 k f fd ps sp := by
  obtain ⟨len, run⟩ := F
  refine ⟨len, fun A outer s H args us vs Q E hr e0 hb r hsp => codeAny_mono (run A outer s H args us vs Q E0 hr e0 hb r (h _ _ _ _ hsp)) fun x s' z => ?_⟩
  cases x with
  | ok fl => cases fl <;> exact z
  | error e =>
    obtain ⟨_, _, _, _, _, _, _, _, _, _, _, _, q⟩ := z
    exact q.elim
end Sy
set_option maxHeartbeats 0
namespace Sy.En
open Sy PySem PySem.Spec PyProof.Rows L2
theorem facts {P : Program} {w : World} {K : PySem.W.Frag} {h : Heap} {mg : Str → Option Value} {f : Addr} (hfile : P.main.file = R.prog.main.file) (top_ : (P.main.scope.names.lookup ("super" : Str)).isSome = false) (X : K.In h) (G : h.Ns mainGlobals mg) (hfa : mg ("law" : Str) = some (.ref f)) (c : SaysX R.prog.main.file fa fn ers K) (htab : HasTab mg "result_fault" h) :
    ∃ (fd : FuncData) (cc tb : Addr), h.get? tb = some { cls := .none, data := .fields #[] } ∧ K.lookup tb = none ∧ PySem.W.CodeHd h cc tb ∧ (∀ (s : Shared) (v : Value), BindsTo s fd ⟨[v], []⟩ [("_law_script", v)]) ∧
      ∀ base : Heap, K.In base → base.Ns mainGlobals mg → LamX.TabB base mg cc tb → FnOk P w K mg base CX0 9 f fd ["_law_script"] (spLaw K tb) := by
  have D := c.d
  have e := hfa.symm.trans (He.glo_ok X G (D.fact 38 (f := .glo "law") rfl))
  cases e
  have f_only_letters : DF K mg "only_letters" 18 := ⟨D.def_ 0 (d := dOf "only_letters" 18) rfl, He.glo_ok X G (D.fact 0 (f := .glo "only_letters") rfl)⟩
  have f_is_name : DF K mg "is_name" 19 := ⟨D.def_ 1 (d := dOf "is_name" 19) rfl, He.glo_ok X G (D.fact 1 (f := .glo "is_name") rfl)⟩
  have f_need_same : DF K mg "need_same" 21 := ⟨D.def_ 2 (d := dOf "need_same" 21) rfl, He.glo_ok X G (D.fact 2 (f := .glo "need_same") rfl)⟩
  have f_check_count : DF K mg "check_count" 23 := ⟨D.def_ 3 (d := dOf "check_count" 23) rfl, He.glo_ok X G (D.fact 3 (f := .glo "check_count") rfl)⟩
  have f_arity : DF K mg "arity" 24 := ⟨D.def_ 4 (d := dOf "arity" 24) rfl, He.glo_ok X G (D.fact 4 (f := .glo "arity") rfl)⟩
  have f_knots_of : DF K mg "knots_of" 25 := ⟨D.def_ 5 (d := dOf "knots_of" 25) rfl, He.glo_ok X G (D.fact 5 (f := .glo "knots_of") rfl)⟩
  have f_fault : DF K mg "fault" 26 := ⟨D.def_ 6 (d := dOf "fault" 26) rfl, He.glo_ok X G (D.fact 6 (f := .glo "fault") rfl)⟩
  have f_fault_among : DF K mg "fault_among" 27 := ⟨D.def_ 7 (d := dOf "fault_among" 27) rfl, He.glo_ok X G (D.fact 7 (f := .glo "fault_among") rfl)⟩
  have f_check_stump : DF K mg "check_stump" 30 := ⟨D.def_ 8 (d := dOf "check_stump" 30) rfl, He.glo_ok X G (D.fact 8 (f := .glo "check_stump") rfl)⟩
  have f_first_repeat : DF K mg "first_repeat" 32 := ⟨D.def_ 9 (d := dOf "first_repeat" 32) rfl, He.glo_ok X G (D.fact 9 (f := .glo "first_repeat") rfl)⟩
  have f_result_fault : DF K mg "result_fault" 33 := ⟨D.def_ 10 (d := dOf "result_fault" 33) rfl, He.glo_ok X G (D.fact 10 (f := .glo "result_fault") rfl)⟩
  have f_check_trim : DF K mg "check_trim" 34 := ⟨D.def_ 11 (d := dOf "check_trim" 34) rfl, He.glo_ok X G (D.fact 11 (f := .glo "check_trim") rfl)⟩
  have f_heads_of : DF K mg "heads_of" 35 := ⟨D.def_ 12 (d := dOf "heads_of" 35) rfl, He.glo_ok X G (D.fact 12 (f := .glo "heads_of") rfl)⟩
  have f_law_bag : DF K mg "_law_bag" 39 := ⟨D.def_ 13 (d := dOf "_law_bag" 39) rfl, He.glo_ok X G (D.fact 13 (f := .glo "_law_bag") rfl)⟩
  have f_law_pick : DF K mg "_law_pick" 40 := ⟨D.def_ 14 (d := dOf "_law_pick" 40) rfl, He.glo_ok X G (D.fact 14 (f := .glo "_law_pick") rfl)⟩
  have f_law_word : DF K mg "_law_word" 41 := ⟨D.def_ 15 (d := dOf "_law_word" 41) rfl, He.glo_ok X G (D.fact 15 (f := .glo "_law_word") rfl)⟩
  have f_law_words : DF K mg "_law_words" 42 := ⟨D.def_ 16 (d := dOf "_law_words" 42) rfl, He.glo_ok X G (D.fact 16 (f := .glo "_law_words") rfl)⟩
  have f_law_kinds : DF K mg "_law_kinds" 43 := ⟨D.def_ 17 (d := dOf "_law_kinds" 43) rfl, He.glo_ok X G (D.fact 17 (f := .glo "_law_kinds") rfl)⟩
  have f_law_arity : DF K mg "_law_arity" 44 := ⟨D.def_ 18 (d := dOf "_law_arity" 44) rfl, He.glo_ok X G (D.fact 18 (f := .glo "_law_arity") rfl)⟩
  have f_law_stump : DF K mg "_law_stump" 45 := ⟨D.def_ 19 (d := dOf "_law_stump" 45) rfl, He.glo_ok X G (D.fact 19 (f := .glo "_law_stump") rfl)⟩
  have f_law_result : DF K mg "_law_result" 46 := ⟨D.def_ 20 (d := dOf "_law_result" 46) rfl, He.glo_ok X G (D.fact 20 (f := .glo "_law_result") rfl)⟩
  have f_law_tame : DF K mg "_law_tame" 47 := ⟨D.def_ 21 (d := dOf "_law_tame" 47) rfl, He.glo_ok X G (D.fact 21 (f := .glo "_law_tame") rfl)⟩
  have f_law_made : DF K mg "_law_made" 48 := ⟨D.def_ 22 (d := dOf "_law_made" 48) rfl, He.glo_ok X G (D.fact 22 (f := .glo "_law_made") rfl)⟩
  have f_law_same : DF K mg "_law_same" 49 := ⟨D.def_ 23 (d := dOf "_law_same" 49) rfl, He.glo_ok X G (D.fact 23 (f := .glo "_law_same") rfl)⟩
  have f_law_tagged : DF K mg "_law_tagged" 50 := ⟨D.def_ 24 (d := dOf "_law_tagged" 50) rfl, He.glo_ok X G (D.fact 24 (f := .glo "_law_tagged") rfl)⟩
  have f_law_bed : DF K mg "_law_bed" 51 := ⟨D.def_ 25 (d := dOf "_law_bed" 51) rfl, He.glo_ok X G (D.fact 25 (f := .glo "_law_bed") rfl)⟩
  have f_law_chain : DF K mg "_law_chain" 52 := ⟨D.def_ 26 (d := dOf "_law_chain" 52) rfl, He.glo_ok X G (D.fact 26 (f := .glo "_law_chain") rfl)⟩
  have f_law_bent : DF K mg "_law_bent" 53 := ⟨D.def_ 27 (d := dOf "_law_bent" 53) rfl, He.glo_ok X G (D.fact 27 (f := .glo "_law_bent") rfl)⟩
  have f_law_pair : DF K mg "_law_pair" 54 := ⟨D.def_ 28 (d := dOf "_law_pair" 54) rfl, He.glo_ok X G (D.fact 28 (f := .glo "_law_pair") rfl)⟩
  have f_law_fault : DF K mg "_law_fault" 55 := ⟨D.def_ 29 (d := dOf "_law_fault" 55) rfl, He.glo_ok X G (D.fact 29 (f := .glo "_law_fault") rfl)⟩
  have f_law_due : DF K mg "_law_due" 56 := ⟨D.def_ 30 (d := dOf "_law_due" 56) rfl, He.glo_ok X G (D.fact 30 (f := .glo "_law_due") rfl)⟩
  have f_law_own : DF K mg "_law_own" 57 := ⟨D.def_ 31 (d := dOf "_law_own" 57) rfl, He.glo_ok X G (D.fact 31 (f := .glo "_law_own") rfl)⟩
  have f_law_asked : DF K mg "_law_asked" 58 := ⟨D.def_ 32 (d := dOf "_law_asked" 58) rfl, He.glo_ok X G (D.fact 32 (f := .glo "_law_asked") rfl)⟩
  have f_law_set : DF K mg "_law_set" 59 := ⟨D.def_ 33 (d := dOf "_law_set" 59) rfl, He.glo_ok X G (D.fact 33 (f := .glo "_law_set") rfl)⟩
  have f_law_shown : DF K mg "_law_shown" 60 := ⟨D.def_ 34 (d := dOf "_law_shown" 60) rfl, He.glo_ok X G (D.fact 34 (f := .glo "_law_shown") rfl)⟩
  have f_law_set_asked : DF K mg "_law_set_asked" 61 := ⟨D.def_ 35 (d := dOf "_law_set_asked" 61) rfl, He.glo_ok X G (D.fact 35 (f := .glo "_law_set_asked") rfl)⟩
  have f_law_other : DF K mg "_law_other" 62 := ⟨D.def_ 36 (d := dOf "_law_other" 62) rfl, He.glo_ok X G (D.fact 36 (f := .glo "_law_other") rfl)⟩
  have f_law_sets : DF K mg "_law_sets" 63 := ⟨D.def_ 37 (d := dOf "_law_sets" 63) rfl, He.glo_ok X G (D.fact 37 (f := .glo "_law_sets") rfl)⟩
  have f_law : DF K mg "law" 64 := ⟨D.def_ 38 (d := dOf "law" 64) rfl, He.glo_ok X G (D.fact 38 (f := .glo "law") rfl)⟩
  have m_init : MB K "__init__" "Bed.__init__" (clb 20 0) := ⟨He.meth_ok (D.fact 68 (f := .meth "Bed" "__init__") rfl), D.def_ 39 (d := dMe "__init__" "Bed.__init__" 0) rfl⟩
  have m_leaves : MB K "leaves" "Bed.leaves" (clb 20 3) := ⟨He.meth_ok (D.fact 69 (f := .meth "Bed" "leaves") rfl), D.def_ 40 (d := dMe "leaves" "Bed.leaves" 3) rfl⟩
  have m_same : MB K "same" "Bed.same" (clb 20 6) := ⟨He.meth_ok (D.fact 70 (f := .meth "Bed" "same") rfl), D.def_ 41 (d := dMe "same" "Bed.same" 6) rfl⟩
  have n_len : mg "len" = none := He.free_ok X G (D.fact 39 (f := .free "len") rfl)
  have n_range : mg "range" = none := He.free_ok X G (D.fact 40 (f := .free "range") rfl)
  have n_reversed : mg "reversed" = none := He.free_ok X G (D.fact 41 (f := .free "reversed") rfl)
  have n_enumerate : mg "enumerate" = none := He.free_ok X G (D.fact 42 (f := .free "enumerate") rfl)
  have n_tuple : mg "tuple" = none := He.free_ok X G (D.fact 43 (f := .free "tuple") rfl)
  have n_list : mg "list" = none := He.free_ok X G (D.fact 44 (f := .free "list") rfl)
  have n_int : mg "int" = none := He.free_ok X G (D.fact 45 (f := .free "int") rfl)
  have n_abs : mg "abs" = none := He.free_ok X G (D.fact 46 (f := .free "abs") rfl)
  have n_max : mg "max" = none := He.free_ok X G (D.fact 47 (f := .free "max") rfl)
  have n_isinstance : mg "isinstance" = none := He.free_ok X G (D.fact 48 (f := .free "isinstance") rfl)
  have n_bool : mg "bool" = none := He.free_ok X G (D.fact 49 (f := .free "bool") rfl)
  have n_str : mg "str" = none := He.free_ok X G (D.fact 50 (f := .free "str") rfl)
  have n_super : mg "super" = none := He.free_ok X G (D.fact 51 (f := .free "super") rfl)
  have n_ValueError : mg "ValueError" = none := He.free_ok X G (D.fact 52 (f := .free "ValueError") rfl)
  have T : Txt K mg := ⟨⟨He.cls_ok (D.fact 62 (f := .cls "Bed") rfl), He.noat_ok (D.fact 64 (f := .noat "Bed" "arities") rfl), He.noat_ok (D.fact 65 (f := .noat "Bed" "rows") rfl), He.noat_ok (D.fact 66 (f := .noat "Bed" "kinds") rfl), He.noat_ok (D.fact 67 (f := .noat "Bed" "ranks") rfl)⟩, n_len, n_range, n_reversed, n_enumerate, n_tuple, n_list, n_int, n_abs, n_max, n_isinstance, He.int_ok X G (D.fact 53 (f := .int "MOST_KNOTS" 2000) rfl), He.int_ok X G (D.fact 54 (f := .int "MOST_KINDS" 8) rfl), He.int_ok X G (D.fact 55 (f := .int "MOST_BRANCHES" 3) rfl), He.int_ok X G (D.fact 56 (f := .int "LONGEST_NAME" 8) rfl)⟩
  have TC : TxtC mg := ⟨n_tuple, n_bool, n_int, n_str, n_isinstance, n_len, n_range⟩
  have TXM : TxtM mg := ⟨He.str_ok X G (D.fact 59 (f := .str "HOLE" "*") rfl), He.int_ok X G (D.fact 57 (f := .int "MOST_ENTRIES" 200) rfl), He.int_ok X G (D.fact 58 (f := .int "MOST_TRIMS" 8) rfl), n_bool, n_str⟩
  have e_TooMany : ErrB P K mg "TooMany" "TooMany.__init__" (clb 9 0) ["what", "limit"] := ErD.errB (d := ⟨"TooMany", "TooMany.__init__", clb 9 0, ["what", "limit"]⟩) X G (c.err_ 0 rfl).1 (by rw [hfile]; exact (c.err_ 0 rfl).2) n_super top_
  have e_InvalidStump : ErrB P K mg "InvalidStump" "InvalidStump.__init__" (clb 4 0) ["place"] := ErD.errB (d := ⟨"InvalidStump", "InvalidStump.__init__", clb 4 0, ["place"]⟩) X G (c.err_ 1 rfl).1 (by rw [hfile]; exact (c.err_ 1 rfl).2) n_super top_
  have e_InvalidTrim : ErrB P K mg "InvalidTrim" "InvalidTrim.__init__" (clb 5 0) ["place"] := ErD.errB (d := ⟨"InvalidTrim", "InvalidTrim.__init__", clb 5 0, ["place"]⟩) X G (c.err_ 2 rfl).1 (by rw [hfile]; exact (c.err_ 2 rfl).2) n_super top_
  have e_OtherBed : ErrB P K mg "OtherBed" "OtherBed.__init__" (clb 8 0) [] := ErD.errB (d := ⟨"OtherBed", "OtherBed.__init__", clb 8 0, []⟩) X G (c.err_ 3 rfl).1 (by rw [hfile]; exact (c.err_ 3 rfl).2) n_super top_
  have R : Ers P K mg := ⟨e_TooMany, e_InvalidTrim, e_InvalidStump⟩
  obtain ⟨⟨tb, et⟩, MT⟩ := metB_ok (mg := mg) c.met (fun k hk => match k, hk with | 0, _ => e_TooMany.at_ | 1, _ => e_InvalidStump.at_ | 2, _ => e_InvalidTrim.at_ | 3, _ => e_OtherBed.at_) (He.glo_ok X G (D.fact 60 (f := .glo "YardError") rfl)) n_ValueError
  have MkT := He.mkr_ok (D.fact 73 (f := .mkr "Trim") rfl)
  have gTrim := He.glo_ok X G (D.fact 71 (f := .glo "Trim") rfl)
  have TT : TxtT K := ⟨He.cls_ok (D.fact 72 (f := .cls "Trim") rfl), He.noat_ok (D.fact 74 (f := .noat "Trim" "bed") rfl), He.noat_ok (D.fact 75 (f := .noat "Trim" "stump") rfl), He.noat_ok (D.fact 76 (f := .noat "Trim" "result") rfl)⟩
  have MkS := He.mkr_ok (D.fact 80 (f := .mkr "Trims") rfl)
  have gTrims := He.glo_ok X G (D.fact 78 (f := .glo "Trims") rfl)
  have TS : TxtS K := ⟨He.cls_ok (D.fact 79 (f := .cls "Trims") rfl), He.noat_ok (D.fact 81 (f := .noat "Trims" "bed") rfl), He.noat_ok (D.fact 82 (f := .noat "Trims" "trims") rfl), He.noat_ok (D.fact 83 (f := .noat "Trims" "name") rfl), He.noat_ok (D.fact 84 (f := .noat "Trims" "_heads") rfl)⟩
  have mT_init : MC K "Trim" "__init__" "Trim.__init__" (clb 36 0) := ⟨He.meth_ok (D.fact 77 (f := .meth "Trim" "__init__") rfl), D.def_ 42 (d := dMeC "Trim" "__init__" "Trim.__init__" 36 0 []) rfl⟩
  have FDS := D.def_ 43 (d := dMeC "Trims" "__init__" "Trims.__init__" 37 0 [("name", .str "trims")]) rfl
  have mS_len : MC K "Trims" "__len__" "Trims.__len__" (clb 37 1) := ⟨He.meth_ok (D.fact 86 (f := .meth "Trims" "__len__") rfl), D.def_ 44 (d := dMeC "Trims" "__len__" "Trims.__len__" 37 1 []) rfl⟩
  have M := He.mkr_ok (D.fact 63 (f := .mkr "Bed") rfl)
  have gBed := He.glo_ok X G (D.fact 61 (f := .glo "Bed") rfl)
  obtain ⟨fd, FD1⟩ := f_law.1
  have b := FunD.bindsA (ps := ["_law_script"]) FD1 fun _ _ _ _ _ _ us hl => match us, hl with | [_], _ => rfl
  obtain ⟨cc, FC, hT, hN, hC⟩ := tab_facts X et f_result_fault htab
  refine ⟨fd, cc, tb, hT, hN, hC, fun s v => b s [v] rfl, fun base _ _ TB => ?_⟩
  have c_arity := k_arity (P := P) (w := w) (base := base) T f_arity 
  have c_fault_among := k_fault (P := P) (w := w) (base := base) T f_fault_among c_arity 
  have c_check_count := k_count (P := P) (w := w) (base := base) T e_TooMany f_check_count 
  have c_check_stump := k_checkS (P := P) (w := w) (base := base) T TXM.hole R f_check_stump c_check_count c_fault_among 
  have c_only_letters := k_letters (P := P) (w := w) (base := base) f_only_letters 
  have c_is_name := k_name (P := P) (w := w) (base := base) T f_is_name c_only_letters 
  have cm_leaves := k_leaves (P := P) (w := w) (base := base) T m_leaves 
  have c_init := r_init (P := P) (w := w) (base := base) T m_init c_is_name cm_leaves 
  have c_law_bag := k_bag (P := P) (w := w) (base := base) T f_law_bag 
  have c_law_pick := k_pick (P := P) (w := w) (base := base) T f_law_pick 
  have c_law_word := k_word (P := P) (w := w) (base := base) T f_law_word c_law_pick 
  have c_law_words := k_words (P := P) (w := w) (base := base) T f_law_words c_law_pick c_law_word 
  have c_law_kinds := k_kinds (P := P) (w := w) (base := base) T f_law_kinds c_law_pick c_law_words 
  have c_law_arity := k_arD (P := P) (w := w) (base := base) f_law_arity 
  have c_law_bed := k_bedL (P := P) (w := w) (base := base) T M gBed c_init f_law_bed 
  have c_law_stump := k_stL (P := P) (w := w) (base := base) T f_law_stump c_law_pick 
  have c_knots_of := k_knots (P := P) (w := w) (base := base) T f_knots_of 
  have c_fault := k_fa (P := P) (w := w) (base := base) T f_fault c_arity 
  have c_first_repeat := k_rep (P := P) (w := w) (base := base) T f_first_repeat 
  have c_result_fault := k_rf (P := P) (w := w) (base := base) T TB FC f_result_fault.2 c_fault c_first_repeat 
  have cm_same := k_sameB (P := P) (w := w) (base := base) T m_same 
  have c_check_trim := k_ct (P := P) (w := w) (base := base) T TXM R f_check_trim c_check_stump c_result_fault c_knots_of 
  obtain ⟨fT, FT, BT⟩ := f_initT (P := P) (w := w) (base := base) TT mT_init c_check_trim
  have c_need_same := r_needN (P := P) (w := w) (base := base) T e_OtherBed f_need_same cm_same 
  have c_heads_of := k_hd (P := P) (w := w) (base := base) T TT f_heads_of 
  have c_law_result := k_rsL (P := P) (w := w) (base := base) T f_law_result c_law_pick 
  have c_law_tame := k_tame (P := P) (w := w) (base := base) T f_law_tame c_law_pick 
  have c_law_made := k_made (P := P) (w := w) (base := base) T f_law_made c_law_pick c_law_tame c_law_stump c_law_result 
  have c_law_bent := k_bent (P := P) (w := w) (base := base) T f_law_bent c_law_pick 
  have c_law_tagged := k_tag (P := P) (w := w) (base := base) T f_law_tagged 
  have c_law_chain := k_chn (P := P) (w := w) (base := base) T f_law_chain 
  have c_law_pair := k_pr (P := P) (w := w) (base := base) T f_law_pair c_law_pick c_law_stump c_law_result c_law_bent c_law_tagged c_law_chain 
  have c_law_fault := k_fl (P := P) (w := w) (base := base) T f_law_fault 
  have c_law_due := k_due (P := P) (w := w) (base := base) T f_law_due c_law_fault 
  have c_law_same := k_same (P := P) (w := w) (base := base) TC f_law_same 
  obtain ⟨fdO, FO, BO, aO, kO⟩ := f_own (P := P) (w := w) (base := base) TC MT f_law_own
  have c_law_asked := k_ask (P := P) (w := w) (base := base) T TT R MT f_law_asked MkT gTrim FT BT FO BO aO kO 
  have FS := s_initS (P := P) (w := w) (base := base) T TXM TT TS R FDS c_need_same c_heads_of
  obtain ⟨fL, FL, BL⟩ := f_lenS (P := P) (w := w) (base := base) T TS mS_len
  have c_law_set := k_set (P := P) (w := w) (base := base) T f_law_set MkS gTrims FS 
  have c_law_shown := k_sh (P := P) (w := w) (base := base) T TC TT TS mS_len.me FL BL f_law_shown 
  have c_law_set_asked := k_sa (P := P) (w := w) (base := base) R e_OtherBed MT f_law_set_asked c_law_set c_law_shown FO BO aO kO 
  have c_law_other := k_ot (P := P) (w := w) (base := base) T f_law_other c_law_pick 
  have c_law_sets := k_ss (P := P) (w := w) (base := base) T f_law_sets MkT gTrim FT BT MkS gTrims FS c_law_pick c_law_made c_law_bed c_law_other c_law_word (c_law_same 5) c_law_shown c_law_set_asked 
  have c_law := k_law (P := P) (w := w) (base := base) T FD1 c_law_bag c_law_kinds c_law_arity c_law_bed c_law_pair c_law_due c_law_asked c_law_same c_law_sets 
  exact fn_calm c_law fun vs H Q E q => q
end Sy.En
open PySem PySem.W PySem.Calls PyProof.Rows
theorem PySem.Challenge.cw_shearyard_k29_trims_refused_at_first_fau_holds : PySem.Challenge.rw_shearyard_k29_trims_refused_at_first_fau.Holds := by
  w_on; o_law
  refine HandSHeadRun.head_any (r := OpenLaw.row PySem.Challenge.rw_shearyard_k29_trims_refused_at_first_fau) (q := view (OpenLaw.row PySem.Challenge.rw_shearyard_k29_trims_refused_at_first_fau).prog [33, 64]) (H := Sy.En.hk) (ob := Sy.En.ob) (M := 30000) (loose := Sy.En.loose1 ++ Sy.En.loose2) (d := HandSHeadRun.topDef (OpenLaw.row PySem.Challenge.rw_shearyard_k29_trims_refused_at_first_fau).prog 64) (kwd := []) Sy.En.ob_eq
    (by kernel_rfl) (fun s => by kernel_rfl) Sy.En.run (by kernel_rfl) (by kernel_rfl) (by kernel_rfl) (by rfl) (by first | assumption | decide +kernel) (by decide +kernel) ⟨rfl, rfl, rfl, rfl, rfl, by decide +kernel⟩ ?hw ?hc
  case hw => w_witness2
  case hc =>
    refine Sy.walk_ofT2 (l := PySem.Challenge.rw_shearyard_k29_trims_refused_at_first_fau) (n := 63) (k := 9) (x := "_law_script") (x2 := "result_fault") (CX := L2.CX0) rfl (by decide) (by kernel_rfl) ⟨rfl, by decide, by decide⟩ (by kernel_rfl) ?F (fun _ _ _ _ z => z)
    intro w mg fa h Y G hmg0 htab
    obtain ⟨K, KX, c⟩ := Y
    have hmg : mg ("law" : PySem.Str) = some (.ref fa) := by
      have e : (HandSHeadRun.topDef (OpenLaw.row PySem.Challenge.rw_shearyard_k29_trims_refused_at_first_fau).prog 64).name = ("law" : PySem.Str) := by kernel_rfl
      rw [← e]
      exact hmg0
    obtain ⟨fd, cc, tb, hT, hN, hC, hb, hF⟩ := Sy.En.facts (P := (PySem.Challenge.rw_shearyard_k29_trims_refused_at_first_fau).prog) (w := w) rfl (by kernel_rfl) KX G hmg c htab
    have one : ∀ {Q : Addr × Addr → Prop}, Q (cc, tb) → ∀ p ∈ [(cc, tb)], Q p := fun hQ p hp => by rw [List.mem_singleton.mp hp]; exact hQ
    exact ⟨K, KX, fd, [(cc, tb)], Sy.spLaw K tb, one hT, one hN, one hC, hb, fun H a ns hl _ hH hS => ⟨a, ns, rfl, hS, Nat.le_trans hl (by decide), ⟨_, hH _ (List.mem_singleton.mpr rfl), Sy.TbOk.nil _ _⟩, fun _ => rfl⟩, fun base a1 a2 a3 => hF base a1 a2 (a3 _ (List.mem_singleton.mpr rfl))⟩
