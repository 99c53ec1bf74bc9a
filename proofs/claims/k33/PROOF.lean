import PyProof.Rows.All
import Wide.All
import OpenK.AllK
import Wide.FinOn
import KE.KStateDown
import HandS.ForMost
import HandS.ForExc
import HandS.Walk
import HandS.StrMore
import HandS.Star
import KE.GoesEnum
import HandS.ExcInit
import HandS.Nested
import KE.KExcSuper
import HandS.TupMul
import HandS.TupAny
import HandS.FStrTup
import HandS.FStr
import HandS.Deep
import HandS.IsInst
import HandS.RevRange
import HandS.DictComp
import HandS.Defaults
import HandS.Flow
import HandS.HeadHook1
import HandS.HeadHook2
import HandS.Ends
import HandS.Words
import HandS.WordsExc
import HandS.Head0
import HandS.Head1
import HandS.Head2
import HandS.HeadEnd
import HandS.ExcField
import KE.DataMinMax
import HandS.More
import KE.DataMinKey
import HandS.MakeKwOnly
import HandS.Conv
import HandS.EndTab
import PySem.Challenge.RW_shearyard_k33_peaks_in_order
set_option Elab.async false
set_option linter.all false
set_option maxRecDepth 100000
set_option maxHeartbeats 4000000
/-! enumerate over a tuple (own rule) -/
namespace Sy
open PySem PySem.Spec PyProof.Rows L2
open AutoSeq1 (wpAny_loadPart')
theorem enumNew {v : Value} {o : Obj} {Hh : Heap → Prop} (B : Begins v o Hh) : Meets (Builtin.«enumerate.__new__» ⟨[.type "enumerate", v], []⟩) (fun _ R s => Hh s.heap ∧
    R (.ok (.ret (.ref (s.heap.push o).objs.size))) { s with heap := (s.heap.push o).push { cls := .type "enumerate", data := .fields #[.none, .bool false, .ref s.heap.objs.size, rawInt 0, .none, .none] } }) :=
  .of_wp fun prog w A R s hs => by
    obtain ⟨hp, g, d, tk, os⟩ := s
    obtain ⟨h1, hR⟩ := hs
    have hsub := sub_enumerate
    have it1 : ∀ {A' : Around} {E : Value → Shared → Prop} {Q : Value → Shared → Prop}, Q (.ref hp.objs.size) ⟨hp.push o, g, d, tk, os⟩ → wpAny (model prog w) A' (pyIter v) Q E ⟨hp, g, d, tk, os⟩ := fun q => B.iter prog w _ _ ⟨hp, g, d, tk, os⟩ _ h1 q
    wp_walk using it1
    refine wpAny_stack_any fun st => wpAny_pure ?_
    split
    · rename_i c _ _ _ _ _
      cases (c == Value.type "enumerate") <;> (wp_walk using it1; exact ⟨_, rfl, hR⟩)
    · (wp_walk using it1; exact ⟨_, rfl, hR⟩)
theorem enumCall {prog : Program} {w : World} {A : Around} {E : Value → Shared → Prop} {s : Shared} {v : Value} {o : Obj} {Hh : Heap → Prop} {Q : Value → Shared → Prop} (B : Begins v o Hh) (h1 : Hh s.heap)
    (h : ∀ h', IsEnum h' (s.heap.objs.size + 1) s.heap.objs.size 0 .none → h'.get? s.heap.objs.size = some o → (∀ b ob, s.heap.get? b = some ob → h'.get? b = some ob) → Q (.ref (s.heap.objs.size + 1)) { s with heap := h' }) :
    wpAny (model prog w) A (call (.type "enumerate") [v]) Q E s := by
  refine callType_new F.called_enumerate (by decide) (F.typeCall_enumerate_1 _) (F.newCall_enumerate_1 _) (fun obj => F.args_object_init_2 obj _) F.entry_enumerate_new (enumNew B) ⟨h1, ?_⟩
  have hz : (s.heap.push o).objs.size = s.heap.objs.size + 1 := Heap.size_push ..
  show _ ∧ _
  rw [hz]
  have he : IsEnum ((s.heap.push o).push { cls := .type "enumerate", data := .fields #[.none, .bool false, .ref s.heap.objs.size, rawInt 0, .none, .none] }) (s.heap.objs.size + 1) s.heap.objs.size 0 .none := by
    have q := Heap.get?_push_size (s.heap.push o) (o := { cls := .type "enumerate", data := .fields #[.none, .bool false, .ref s.heap.objs.size, rawInt 0, .none, .none] }) rfl
    rw [hz] at q
    exact q
  exact ⟨⟨_, he, rfl⟩, h _ he (Heap.get?_push_of_some _ (Heap.get?_push_size _ B.free)) fun b ob x => Heap.get?_push_of_some _ (Heap.get?_push_of_some _ x)⟩
/-- the tuple at a, each item in a new pair -/
def ItE (K : PySem.W.Frag) (a : Addr) : It :=
  ⟨fun i H => ∃ (xs : List V) (x : V), SqT K H a xs ∧ xs[i]? = some x,
   fun i H v H' => ∃ T x, v = .ref T ∧ H T = none ∧ H' = upd H T (.tup [.int (i : Nat), x]) ∧ ∀ xs, SqT K H a xs → xs[i]? = some x,
   fun i H => ∃ xs : List V, SqT K H a xs ∧ xs.length ≤ i⟩
theorem turnE {P : Program} {w : World} {K : PySem.W.Frag} {elts : List Expr} {kk : Nat} {tpos : Pos} (a e it : Addr) :
    Turn P w K (.Tuple elts kk tpos) (ItE K a) [e, it] e (fun i h => (∃ old, IsEnum h e it ((i : Nat) : Int) old) ∧ h.IsTupleIter it a i ∧ e ≠ it ∧ a ≠ it ∧ a ≠ e) where
  mem := by simp
  obj := fun i h st b hb => by
    obtain ⟨⟨old, he⟩, ⟨o, ho, hc, hd⟩, _⟩ := st
    rcases (show b = e ∨ b = it by simpa using hb) with z | z
    · subst z; exact ⟨_, he, fun v q => nomatch q⟩
    · subst z; exact ⟨o, ho, fun v q => by rw [hd] at q; cases q⟩
  keep := fun i h h' st k => by
    obtain ⟨⟨old, he⟩, hi, n1⟩ := st
    exact ⟨⟨old, k e (by simp) _ he⟩, hi.at fun o q => k it (by simp) o q, n1⟩
  item := by
    intro X hP hw hK hc i pins s σ H E I hf st hg
    subst hP hw hK
    obtain ⟨⟨old, he⟩, hit, hne, ha1, ha2⟩ := st
    obtain ⟨xs, x, hq, hx⟩ := hg
    obtain ⟨its, rv, p, hz⟩ := I.tuple hq
    obtain ⟨u, hu, ru⟩ := rv.get hx
    have hlen : i < its.toArray.size := by
      rw [List.size_toArray]
      exact (List.getElem?_eq_some_iff.mp hu).1
    have D := Draws.tuple (prog := X.prog) (w := X.w) (A := X.A.in1) (by have q := I.ok.hd hc; exact q) it a ha1 its.toArray
    have hel : e < s.heap.objs.size := Heap.lt_size he
    have hil : it < s.heap.objs.size := by obtain ⟨_, q, _⟩ := hit; exact Heap.lt_size q
    refine wpAny_pyNext_enum_itemC D he ⟨hit, p⟩ hlen hne (by simp [hne, Ne.symm ha2]) fun y h' tk hP ho st' hT hsz hk => ?_
    have ey : y = u := by
      have z : its.toArray[i]? = some u := by simpa using hu
      exact Option.some.inj (hP.symm.trans z)
    subst ey
    refine ⟨_, rfl, wpAny_letOwnedTupleGo_enum (s := { s with heap := h', toks := tk + 1 }) ho fun h'' he' sb => ?_⟩
    have hT2 : h''.get? s.heap.objs.size = some { cls := .type "tuple", data := .seq #[.int i tk, y] } := (sb.2 _ (Nat.ne_of_gt hel)).trans hT
    have new : ObjOk X.prog X.w (upd H s.heap.objs.size (.tup [.int (i : Nat), x])) h'' s.heap.objs.size (.tup [.int (i : Nat), x]) :=
      ⟨by show 2 ≤ sizeLine; decide, [.int i tk, y], .cons ⟨_, rfl⟩ (.cons ru .nil), ⟨_, hT2, rfl, _, rfl⟩⟩
    have I1 : Inv X pins σ (upd H s.heap.objs.size (.tup [.int (i : Nat), x])) { s with heap := h'', toks := tk + 1 } :=
      I.turnedNew (ch := [e, it]) (fun b ob hb q => by
        have hb' : b ≠ e ∧ b ≠ it := by simpa using hb
        exact (sb.2 b hb'.1).trans (hk b ob hb'.1 hb'.2 q)) hf (Nat.le_refl _) new
    refine ⟨.ref s.heap.objs.size, _, I1, rfl, ⟨_, x, rfl, I.hok.fresh (Nat.le_refl _), rfl, fun ys hy => by rw [I.tuple_inj hy hq]; exact hx⟩, ⟨⟨y, ?_⟩, st'.1.at fun o q => (sb.2 it (Ne.symm hne)).trans q, hne, ha1, ha2⟩, fun b hb => ?_⟩
    · have e1 : ((i + 1 : Nat) : Int) = (i : Int) + 1 := by omega
      rw [e1]
      exact he'
    · have hb' : b < s.heap.objs.size := by
        rcases (show b = e ∨ b = it by simpa using hb) with z | z <;> (rw [z]; assumption)
      rw [upd_ne (Nat.ne_of_lt hb')]
      exact (hf b hb).1
  done := by
    intro X hP hw hK hc i pins s σ H E I hf st hg
    subst hP hw hK
    obtain ⟨⟨old, he⟩, hit, hne, ha1, ha2⟩ := st
    obtain ⟨xs, hq, hx⟩ := hg
    obtain ⟨its, rv, p, hz⟩ := I.tuple hq
    obtain ⟨f0, f1, f2, f3, f4, f5⟩ := hf it (by simp)
    have hl := rv.length
    have hT : s.TypeIs (.ref e) "enumerate" := ⟨_, he, rfl⟩
    unfold pyNext
    refine wpAny_bind (wpAny_attempt (wpAny_callSpecial?_slot (name := Str.ofString "__next__") hT F.slot_enumerate_next (wpAny_call_entry F.slot_enumerate_next hT F.entry_enumerate_next ?_ (F.args_enumerate_next_1 _))))
    show wpAny _ _ (field (.ref e) 2 >>= _) _ _ _
    refine wpAny_bind (wpAny_field he rfl (x := .ref it) rfl ?_)
    refine wpAny_bind (wpAny_nextOf_tuple_end (I.ok.hd hc) hit p (by simp; omega) fun h' x he' hx' => ?_)
    obtain ⟨o, ho, hcl⟩ := hx'
    refine wpAny_bind (wpAny_isInstance (T := "StopIteration") (b := true) ⟨o, ho, hcl⟩ isSubtype_stop ?_)
    exact wpAny_pure ⟨rfl, I.turned (t' := s.toks) (fun b ob hb q => he' b ob hb q) f0 f1 f3 f4 f5⟩
  self := fun A i s Q E st h => by
    obtain ⟨⟨_, he⟩, _⟩ := st
    exact wpAny_pyIter_enum he h
/-- for i, x in enumerate(t), t a tuple -/
def iEnumT (K : PySem.W.Frag) (ta : TA) : TI := fun σ H R => ta σ H fun vs H1 => ∃ a xs, vs = [.ref a] ∧ SqT K H1 a xs ∧ R (ItE K a) H1
theorem pi_enumT {X : Cx} {e : Expr} {ta : TA} {p pos tpos : Pos} {elts : List Expr} {kk : Nat} (hg : Gl X "enumerate") (hm : X.mg "enumerate" = none) (ha : PA X [e] ta) (hs : starEach [e] X.env = [(false, eval e X.env)] := by rfl) :
    PI X (.Tuple elts kk tpos) (.Call (.Name "enumerate" p) [e] [] pos) (iEnumT X.K ta) := by
  refine ⟨fun pins s σ H R I h => ?_⟩
  refine Call_ (ld_blt I hg hm boot_enumerate (PyProof.Rows.callWith_type1 (thn (ha.run pos pins s σ H _ I h) fun us s1 ⟨vs, H1, I1, r1, a, xs, ex, hq, q⟩ => ?_) hs rfl))
  subst ex
  cases r1 with
  | cons r rr =>
    cases rr
    cases r
    obtain ⟨its, rv, p', hz⟩ := I1.tuple hq
    have hal : a < s1.heap.objs.size := by obtain ⟨_, z, _⟩ := p'; exact Heap.lt_size z
    refine enumCall (begins_tuple a its.toArray) p' fun h' he hit hk => wpAny_pyIter_enum he ?_
    have I2 : Inv X pins σ H1 { s1 with heap := h' } := I1.kept (t' := s1.toks) hk
    refine ⟨s1.heap.objs.size + 1, [s1.heap.objs.size + 1, s1.heap.objs.size], _, _, H1, rfl, I2, turnE a (s1.heap.objs.size + 1) s1.heap.objs.size, ⟨⟨.none, he⟩, ⟨_, hit, rfl, rfl⟩, Nat.succ_ne_self _, Nat.ne_of_lt hal, Nat.ne_of_lt (Nat.lt_succ_of_lt hal)⟩, fun b hb => ?_, q⟩
    have hle : s1.heap.objs.size ≤ b := by
      rcases (show b = s1.heap.objs.size + 1 ∨ b = s1.heap.objs.size by simpa using hb) with z | z <;> (rw [z]; first | exact Nat.le_refl _ | exact Nat.le_add_right _ _)
    exact I1.fpOk hle (I1.hok.fresh hle)
theorem walkE {K : PySem.W.Frag} {a : Addr} {xs : List V} : Walk (ItE K a) xs.length (fun H => SqT K H a xs) (YPair (fun i => some (.int (i : Nat))) (fun i => xs[i]?)) :=
  ⟨fun i H hi h => ⟨xs, xs[i], h, by simp [hi]⟩, fun H h => ⟨xs, h, Nat.le_refl _⟩, fun i H x H' hi h y => by
    obtain ⟨T, z, e1, e2, e3, e4⟩ := y
    exact ⟨T, _, z, e1, e2, e3, rfl, e4 xs h⟩⟩
end Sy
/-! super().__init__(..) as the first row of an own error's __init__ (own rule) -/
namespace Sy
open PySem PySem.Spec PyProof.Rows L2 NdefX
/-- what the written part says of the error's class at D and its __init__ at f (its cell at cc, its code at cd) -/
structure SupF (P : Program) (K : PySem.W.Frag) (D f cc cd : Addr) (qual : Str) (pa : Arguments) (bo : List Stmt) (sc : Scope) (fd : FuncData) : Prop where
  ex : ∃ (oc : Value) (od : Option Addr) (dV kV doc pm : Value) (an : Option Addr) (ct : Value) (osl : Array (Option Value)),
    fd = PySem.W.fnX "__init__" qual pa bo sc [("__class__", cc)] dV kV doc pm an (.ref cd) ct ∧ K.lookup f = some ⟨oc, od, .func fd, osl⟩
  co : PySem.W.codeIn K (.ref cd) qual = true
  file : ∃ (cl : Value) (dd : Option Addr) (vs : Array Value) (sl : Array (Option Value)) (fi : Str) (tf : Tok), K.lookup cd = some ⟨cl, dd, .fields vs, sl⟩ ∧ vs[2]? = some (.str fi tf) ∧ ((P.main.file : Str) == fi) = true
  cell : ∃ (cl : Value) (dd : Option Addr) (sl : Array (Option Value)), K.lookup cc = some ⟨cl, dd, .cell (some (.ref D)), sl⟩
  isc : ∃ c, PySem.W.clsIn K D = some c
  sub : PySem.W.mroIn K D (.ref D) = some true
  sup : PySem.W.ks_superIn K D D "__init__" = some (some (.builtin "ValueError.__init__"))
  ve : PySem.W.subIn K (.ref D) (.type "ValueError") = some true
  opq : PySem.W.nsIn K cStatics "thirdparty.any" = some none
  oex : OexC K D
section
variable {P : Program} {w : World} {K : PySem.W.Frag} {mg : Str → Option Value} {base : Heap} {CX : CXT} {k : Nat} {D f cc cd : Addr} {qual : Str} {pa : Arguments} {bo rest : List Stmt} {sc : Scope} {fd : FuncData} {N ps : List Str} {sp : Sp} {e : Expr} {es : List Expr} {q0 q1 q2 q3 q4 : Pos} {p0 : Arg}
theorem fn_sup (T : SupF P K D f cc cd qual pa bo sc fd) (S : NScope N ps ["__class__"] sc) (hbo : bo = .Expr (.Call (.Attribute (.Call (.Name "super" q0) [] [] q1) "__init__" q2) (e :: es) [] q3) q4 :: rest)
    (hp : (pa.posonlyargs ++ pa.args).head? = some p0) (hps : N[0]? = some p0.arg) (hp1 : sc.names.lookup p0.arg = some .local) (hks : sc.names.lookup ("super" : Str) = some .globalImplicit) (mS : mg "super" = none) (top : (P.main.scope.names.lookup ("super" : Str)).isSome = false)
    (len : ∀ vs H Q E, sp vs H Q E → vs.length = ps.length)
    {pl : Sem Bool} (hev : ∀ env : Env, eval (.Call (.Attribute (.Call (.Name "super" q0) [] [] q1) "__init__" q2) (e :: es) [] q3) env = (do
      let ov ← attributeBase (.Call (.Name "super" q0) [] [] q1) "__init__" env (eval (.Call (.Name "super" q0) [] [] q1) env)
      standAt q2.atName
      let (f, first) ← holding [ov] (getMethod ov "__init__" pl)
      callWith q3 f first (backTo q3 (starEach (e :: es) env)) []))
    (he : ∀ env : Env, starEach (e :: es) env = (false, eval e env) :: starEach es env) (hpl : ∀ (env : Env) (pos : Pos), (backTo pos (starEach es env)).any (·.1) = false)
    (hbody : ∀ (A : Around) (outer : List Env) (s : Shared) (H : Hp) (vs : List V) (Q : VK) (E : XK), Room k (A.deeper (envF ⟨"__init__", qual, pa, bo, sc, [("__class__", cc)], cd⟩ f s.heap.objs.size)) → sp vs H Q E →
      ∃ ta t, PA (ncx CX P w K mg base N ⟨"__init__", qual, pa, bo, sc, [("__class__", cc)], cd⟩ f A outer s H E) (e :: es) ta ∧ PSs (ncx CX P w K mg base N ⟨"__init__", qual, pa, bo, sc, [("__class__", cc)], cd⟩ f A outer s H E) rest t ∧
        ∃ a vr, vs = .ref a :: vr ∧ H a = some (exo a D none) ∧ ta (startF N vs [some (.ref D)]) H fun ws H1 => ws.length ≤ 1000 ∧ H1 a = some (exo a D none) ∧ t { nx := fun _ H' => Q .non H', rt := Q } (startF N vs [some (.ref D)]) H1) :
    FnOk P w K mg base CX (k + 1) f fd ps sp := by
  obtain ⟨oc, od, dV, kV, doc, pm, an, ct, osl, rfl, lk⟩ := T.ex
  refine ⟨len, fun A outer s H args us vs Q E hr e0 hb r hsp => ?_⟩
  have hl := len _ _ _ _ hsp
  have KX : K.In s.heap := e0.mod.kin.keeps fun b o e => (e0.bs b o e).1
  have lim : s.heap.NoLimit := e0.mod.nolimit.keeps fun b o e => (e0.bs b o e).1
  obtain ⟨cl1, dd1, sl1, hcell⟩ := T.cell
  have hcn : H cc = none := (e0.bs _ _ (e0.mod.kin _ _ hcell)).2
  have CA : CellsAt [("__class__", cc)] ["__class__"] [some (.ref D)] s.heap H := by
    refine ⟨rfl, fun y c e => ?_, fun x y c e1 e2 => ?_, fun i y hi => ?_⟩
    · simp only [List.lookup] at e
      split at e
      · cases e; exact ⟨hcn, _, _, KX _ _ hcell, rfl⟩
      · cases e
    · simp only [List.lookup] at e1 e2
      split at e1
      · split at e2
        · rename_i z1 _ z2
          exact (beq_iff_eq.mp z1).trans (beq_iff_eq.mp z2).symm
        · cases e2
      · cases e1
    · cases i with
      | zero =>
        cases hi
        refine ⟨cc, rfl, fun v ev => ?_⟩
        cases ev
        exact ⟨.ref D, rfl, _, KX _ _ hcell, rfl⟩
      | succ n => simp at hi
  obtain ⟨ta, t, hA, hS, a, vr, rfl, hea, hq⟩ := hbody A outer s H _ Q E (hr.deeper _) hsp
  refine ks_codeAny_call_defAt hr.depth (KX _ _ lk) rfl lim (PySem.W.codeRec_of KX T.co) rfl hb S.nocell (fun ⟨n, _⟩ hy => S.par n (List.of_mem_zip hy).1) (fun h0 hns hk => ?_) S.co S.gen S.kind
  have I : Inv (ncx CX P w K mg base N ⟨"__init__", qual, pa, bo, sc, [("__class__", cc)], cd⟩ f A outer s H E) [] (startF N (.ref a :: vr) [some (.ref D)]) H { s with heap := h0, toks := s.toks + (ps.zip us).length } := inv_startN S hr.hd e0 hl r CA hns hk
  show _root_.PySem.wpAt _ (A.deeper (envF ⟨"__init__", qual, pa, bo, sc, [("__class__", cc)], cd⟩ f s.heap.objs.size)) (.func bo (envF ⟨"__init__", qual, pa, bo, sc, [("__class__", cc)], cd⟩ f s.heap.objs.size)) (execs bo (envF ⟨"__init__", qual, pa, bo, sc, [("__class__", cc)], cd⟩ f s.heap.objs.size)) _ _ _
  generalize hX : ncx CX P w K mg base N ⟨"__init__", qual, pa, bo, sc, [("__class__", cc)], cd⟩ f A outer s H E = X at *
  have hXe : X.env = envF ⟨"__init__", qual, pa, bo, sc, [("__class__", cc)], cd⟩ f s.heap.objs.size := by rw [← hX] <;> rfl
  have hXA : X.A = A.deeper (envF ⟨"__init__", qual, pa, bo, sc, [("__class__", cc)], cd⟩ f s.heap.objs.size) := by rw [← hX] <;> rfl
  have hK : X.K = K := by rw [← hX] <;> rfl
  have hP : X.prog = P := by rw [← hX] <;> rfl
  have hW : X.w = w := by rw [← hX] <;> rfl
  have hmg : X.mg = mg := by rw [← hX] <;> rfl
  have hN : X.N = N := by rw [← hX] <;> rfl
  have hxe : X.xe = fun e s' => wpAny (model P w) (A.deeper (envF ⟨"__init__", qual, pa, bo, sc, [("__class__", cc)], cd⟩ f s.heap.objs.size)) (leaving (envF ⟨"__init__", qual, pa, bo, sc, [("__class__", cc)], cd⟩ f s.heap.objs.size) e) (fun _ s'' => CX outer H s E e s'') (fun e' s'' => CX outer H s E e' s'') s' := by rw [← hX] <;> rfl
  have hs0 : X.s_0 = s := by rw [← hX] <;> rfl
  have hH0 : X.H_0 = H := by rw [← hX] <;> rfl
  have hstk : X.stack = envF ⟨"__init__", qual, pa, bo, sc, [("__class__", cc)], cd⟩ f s.heap.objs.size :: outer := by rw [← hX] <;> rfl
  have hfs : X.fs = frs outer := by rw [← hX] <;> rfl
  have hex : X.ex = [] := by rw [← hX] <;> rfl
  obtain ⟨cl2, dd2, vs2, sl2, fi, tf, hcode, hvs, hfi⟩ := T.file
  obtain ⟨cdD, hcd⟩ := T.isc
  obtain ⟨m, hm, hlook⟩ := I.loc
  obtain ⟨u0, ru0, hu0⟩ := hlook 0 p0.arg (.ref a) (by rw [hN]; exact hps) rfl (by rw [hXe]; exact .inl hp1)
  obtain rfl : u0 = Value.ref a := ru0
  have hself : m p0.arg = some (.ref a) := by
    rcases hu0 with ⟨_, z⟩ | ⟨z, _⟩
    · exact z
    · rw [hXe] at z
      have z1 : sc.names.lookup p0.arg = some .cell ∨ sc.names.lookup p0.arg = some .free := z
      rw [hp1] at z1
      rcases z1 with z1 | z1 <;> cases z1
  have kin : K.In h0 := by have q := I.kIn; rw [hK] at q; exact q
  rw [hXe] at hm
  subst hbo
  refine ks_wpAt_execs_cons (ks_wpAt_Expr_any (ks_wpAt_MethodCall ?_ (hev _)) (hi := by simp [interactive, S.kind]))
  obtain ⟨oD, hD1, hD2⟩ : ∃ oD, h0.get? D = some oD ∧ oD.data = .cls cdD := by
    unfold PySem.W.clsIn at hcd
    split at hcd
    · rename_i c d cd' sl ho
      cases hcd
      exact ⟨_, kin _ _ ho, rfl⟩
    · cases hcd
  obtain ⟨t1, hoe⟩ := exo_at I.hok hea
  have IA : PySem.W.InstAt h0 a ({ cls := .ref D, dict := none, data := .fields #[.ref t1, .none, .none, .none, .bool false, .none] } : Obj) D none := ⟨hoe, rfl, rfl, trivial⟩
  refine ks_wpAt_super_base hks (S.frk _ List.mem_cons_self) (by decide) rfl (hk _ _ (KX _ _ lk)) rfl hp rfl (hk _ _ (KX _ _ hcode)) rfl hvs hfi top ?_
  obtain ⟨mb, hb1, hb2⟩ := I.mod.blt
  have hbs : mb "super" = some (.type "super") := (hb2 ("super" : Str) (by decide)).trans (by first | boot_by_name | rfl | decide +kernel)
  refine PySem.W.ks_loadName_global S.kind hks (PySem.Calls.loadGlobal_builtin (mg := mg) (by have q := I.mod.glob.keeps I.bk; rw [hmg] at q; exact q) mS (hb1.keeps I.bk) hbs ⟨rfl, ?_⟩)
  refine wpAny_loadName_free S.kind (S.frk _ List.mem_cons_self) rfl ⟨_, kin _ _ hcell, rfl⟩ ?_
  refine wpAny_loadName_local S.kind hp1 hm hself ?_
  refine ks_wpAny_isType_cls hD1 hD2 ⟨rfl, ?_⟩
  refine ks_wpAny_call_super hD1 hD2 hoe rfl (fun c z => by cases z) (PySem.W.looks_mroIn kin T.sub) (fun h1 hso kp1 => ?_)
  have I1 := I.kept (h' := h1) (t' := s.toks + (ps.zip us).length) kp1
  have kin1 : K.In h1 := by have q := I1.kIn; rw [hK] at q; exact q
  have hoe1 := kp1 _ _ hoe
  have hsup := T.sup
  unfold PySem.W.ks_superIn at hsup
  rw [hcd] at hsup
  have IA1 : PySem.W.InstAt h1 a ({ cls := .ref D, dict := none, data := .fields #[.ref t1, .none, .none, .none, .bool false, .none] } : Obj) D none := ⟨hoe1, rfl, rfl, trivial⟩
  refine PySem.W.kxs_getMethod PySem.W.kxs_ValueError hso (PySem.W.looks_opaque kin1 T.opq) (l₀ := cdD.mro) (fun A Q E s k q => wpAny_bind ((PySem.W.looks_clsIn kin1 hcd) A _ E s k (wpAny_pure q))) rfl kin1 hsup (IA1.type.andThen (PySem.W.looks_subIn kin1 T.ve)) (PySem.W.ks_ne kin1 IA1 hcd) (by decide) ?_
  have kp2 : ∀ b o, h1.get? b = some o → (h1.push (PySem.W.kxs_mw "ValueError.__init__" a)).get? b = some o := fun b o z => Heap.get?_push_of_some _ z
  have hu : (h1.push (PySem.W.kxs_mw "ValueError.__init__" a)).get? h1.objs.size = some (PySem.W.kxs_mw "ValueError.__init__" a) := Heap.get?_push_at rfl rfl
  have I2 := I1.kept (h' := h1.push (PySem.W.kxs_mw "ValueError.__init__" a)) (t' := s.toks + (ps.zip us).length + 1) kp2
  have hfresh : H h1.objs.size = none := I1.hok.fresh (Nat.le_refl _)
  have hsz : h1.objs.size ≠ X.env.locals := Nat.ne_of_gt I1.lt
  have I3 : Inv X [(h1.objs.size, PySem.W.kxs_mw "ValueError.__init__" a)] (startF N (.ref a :: vr) [some (.ref D)]) H ⟨h1.push (PySem.W.kxs_mw "ValueError.__init__" a), s.gens, s.drawn, s.toks + (ps.zip us).length + 1, s.os⟩ := I2.pins_of fun p hp => by
    have hp' : p = (h1.objs.size, PySem.W.kxs_mw "ValueError.__init__" a) := by simpa using hp
    subst hp'
    exact ⟨hu, hfresh, hsz, I1.nofs (Nat.le_refl _), fun v z => by cases z⟩
  rw [← hP, ← hW]
  rw [he]
  refine PySem.W.kxs_callWith (i := "ValueError.__init__") (x := a) (by show (false || (backTo q3 (starEach es _)).any (·.1)) = false; rw [hpl]; rfl) ?_
  have hA2 := hA.run q3 _ _ _ _ (fun ws H1 => ws.length ≤ 1000 ∧ H1 a = some (exo a D none) ∧ t { nx := fun _ H' => Q .non H', rt := Q } (startF N (.ref a :: vr) [some (.ref D)]) H1) I3 hq
  rw [hXe, he, hXA, hxe] at hA2
  refine PySem.Calls.evalArgs_plain (wpAny_mono hA2 (fun us3 s3 h3 => ?_) (fun _ _ z => by rw [hP, hW]; exact z))
  obtain ⟨ws, H3, J, rv, hlen, hea3, hq3⟩ := h3
  have hu3 : s3.heap.get? h1.objs.size = some (PySem.W.kxs_mw "ValueError.__init__" a) := (J.pin _ (List.mem_append_right _ (List.mem_singleton.mpr rfl))).1
  refine ⟨hu3, ?_⟩
  have J0 : Inv X [] (startF N (.ref a :: vr) [some (.ref D)]) H3 s3 := J.pins_of fun p hp => by simp at hp
  have hus : us3.length ≤ sizeLine := by
    rw [← rv.length, sizeLine_eq]
    omega
  show wpAny _ _ (call (.ref h1.objs.size) us3) _ _ s3
  obtain ⟨nm, q, Nn, bs, bm, sn, sub, ab, col, dd, k0, k1, k2, k3, k5, hC, hbm⟩ := T.oex.cls
  have kin3 : K.In s3.heap := by have q := J0.kIn; rw [hK] at q; exact q
  obtain ⟨t3, ho3⟩ := exo_at J0.hok hea3
  obtain ⟨hp3, g3, d3, tk3, os3⟩ := s3
  refine wpAny_call (codeAny_of_tree ?_)
  show wpAny _ _ (callAny (.ref h1.objs.size) ⟨us3, []⟩) _ _ _
  simp only [callAny]
  refine wpAny_bind (wpAny_load hu3 ?_)
  simp only [PySem.W.kxs_mw, show (Value.type "method-wrapper" == Value.type "method" || Value.type "method-wrapper" == Value.type "builtin_function_or_method" || Value.type "method-wrapper" == Value.type "method-wrapper") = true by decide, if_true]
  refine PySem.W.KFB.if_so (by decide) ?_
  refine wpAny_bind (PySem.W.check_bound_init F.excBase_ValueError.toExcCallFacts (kin3 _ _ hC) ho3 rfl ?_)
  refine wpAny_bind (wpAny_pure (wpAny_pure ?_))
  refine ⟨plainId_quiet F.excBase_ValueError.init.plain _, codeAny_builtin F.excBase_ValueError.initEntry ?_⟩
  refine PySem.W.exc_init_tree (cls := .ref D) (t0 := t3) (dv := none) (c2 := .none) (c3 := .none) (b4 := .bool false) ho3 hus fun h4 kp4 hx4 _ => ?_
  have J4 := J0.write (t' := tk3) (x := a) (e := a) (o := exo a D none) (by rw [hea3]; exact True.intro) (.inl rfl) kp4 ⟨_, hx4⟩ (exo_ok hx4)
  have eu : upd H3 a (exo a D none) = H3 := by
    funext b
    by_cases hb : b = a
    · rw [hb, upd_same, hea3]
    · rw [upd_ne hb]
  rw [eu] at J4
  have hS4 := hS.run _ _ _ _ { nx := fun _ H' => Q .non H', rt := Q } J4 hq3
  rw [hXe, hXA, hxe, hP, hW] at hS4
  show _root_.PySem.wpAt _ _ _ _ _ _ _
  rw [hP, hW]
  refine wpAt_of_wpAny (wpAny_mono hS4 (fun fl s' hs => ?_) fun _ _ z => z)
  have fin : ∀ {σ' : L2.St} {H' : Hp} {v : V} {u : Value}, Inv X [] σ' H' s' → RelV v u → Q v H' → CE outer P w H s Q u s' := fun {σ' H' v u} J rv q => by
    have b1 := J.base
    have o1 := J.os
    have k1 := J.hok
    rw [hfs, hex, hH0, hs0] at b1
    rw [hs0] at o1
    rw [hP, hW] at k1
    exact ⟨v, H', o1, J.bare, b1, k1, rv, q⟩
  cases fl with
  | ret u =>
    obtain ⟨v, σ', H', J, rv, q⟩ := hs
    exact fin J rv q
  | next =>
    obtain ⟨σ', H', J, q⟩ := hs
    exact fin (v := V.non) (u := Value.none) J rfl q
  | brk =>
    obtain ⟨_, _, _, q⟩ := hs
    exact False.elim q
  | cont =>
    obtain ⟨_, _, _, q⟩ := hs
    exact False.elim q
end
end Sy
/-! tuple.count, tuple * int of any size, a tuple of ints in an f-string (own rules) -/
namespace Sy
open PySem PySem.Spec PyProof.Rows L2
open AutoSeq1 (wpAny_loadPart')
section
variable {X : Cx}
/-- t.count(y), all flat -/
def rTCnt (K : PySem.W.Frag) : V → List V → Hp → VK → Prop := fun x xs H Q => ∃ (a : Addr) (ys : List V) (y : V), x = V.ref a ∧ xs = [y] ∧ SqT K H a ys ∧ flatV y = true ∧ ys.all flatV = true ∧ Q (.int (ys.countP fun z => eqV z y : Nat)) H
theorem countU {y : V} : ∀ {ys : List V} {its : List Value}, Vals ys its → ys.all flatV = true → its.countP (eqU y) = ys.countP fun z => eqV z y
  | [], _, r, _ => by cases r; rfl
  | z :: ys, _, r, f => by
    cases r with
    | cons r1 r2 =>
      have f' := Bool.and_eq_true_iff.mp (show (flatV z && ys.all flatV) = true from f)
      rw [List.countP_cons, List.countP_cons, countU r2 f'.2, eqU_of r1 f'.1]
theorem mt_tcount : MtR X "tuple.count" (rTCnt X.K) := by
  intro pins s σ H x xs v us Q I rx rxs h
  obtain ⟨a, ys, y, rfl, rfl, hs, fy, fys, q⟩ := h
  cases rx
  cases rxs with
  | cons ry rt =>
    rename_i uy ut
    cases rt
    obtain ⟨its, rv, ⟨⟨cls, dd, data, sl⟩, ho, hc, n, hd⟩, hlen⟩ := I.tuple hs
    simp only at hc hd
    subst hc hd
    refine call_meets PySem.F.slot_tuple_count ⟨_, ho, rfl⟩ PySem.F.entry_tuple_count (PySem.F.args_tuple_count_2 _ _) (SeqAt.tuple_countAt a its.toArray n dd sl uy (eqU y)) ⟨ho, fun u' hu' => mem_eqAt ry fy rv fys u' (by simpa using hu'), ?_⟩
    have e1 : its.toArray.toList.countP (eqU y) = ys.countP fun z => eqV z y := by
      rw [← countU rv fys]
    rw [e1]
    exact ⟨.int (ys.countP fun z => eqV z y : Nat), H, I.tok _, ⟨_, rfl⟩, q⟩
/-! tuple * int -/
theorem tupMul1 (l : Addr) (items : Array Value) (n : Nat) (dd : Option Addr) (sl : Array (Option Value)) (x : Int) (u : Tok) (c0 : (decide (x < -(2 ^ 63)) || decide (x ≥ 2 ^ 63)) = false) (c1 : (items.isEmpty || x == 1) = true) :
    Meets (Builtin.«tuple.__mul__» ⟨[.ref l, .int x u], []⟩) (fun _ R s => s.heap.get? l = some { cls := .type "tuple", dict := dd, data := .seq items n, slots := sl } ∧ R (.ok (.ret (Value.ref l))) s) :=
  .of_wp fun prog w A R s h => by
    obtain ⟨hp, g, d, tk, os⟩ := s
    obtain ⟨hl, h⟩ := h
    have f1 := AutoSeq1.idx_int
    wp_walk using wpAny_loadPart' hl
    repeat (first
      | (refine wpAny_ite_false (decide_eq_false (by rw [c0]; exact Bool.false_ne_true)) ?_; wp_walk using wpAny_loadPart' hl)
      | (refine wpAny_ite_true (decide_eq_true c1) ?_; wp_walk using wpAny_loadPart' hl))
    all_goals exact ⟨_, rfl, h⟩
theorem tupMul0 (l : Addr) (items : Array Value) (n : Nat) (dd : Option Addr) (sl : Array (Option Value)) (x : Int) (u : Tok) (c0 : (decide (x < -(2 ^ 63)) || decide (x ≥ 2 ^ 63)) = false) (c1 : (items.isEmpty || x == 1) = false) (c2 : (decide (x ≤ 0) || items.isEmpty) = true) :
    Meets (Builtin.«tuple.__mul__» ⟨[.ref l, .int x u], []⟩) (fun _ R s => s.heap.get? l = some { cls := .type "tuple", dict := dd, data := .seq items n, slots := sl } ∧
      R (.ok (.ret (Value.ref s.heap.objs.size))) { s with heap := s.heap.push { cls := Value.type "tuple", data := Data.seq #[] } }) :=
  .of_wp fun prog w A R s h => by
    obtain ⟨hp, g, d, tk, os⟩ := s
    obtain ⟨hl, h⟩ := h
    have f1 := AutoSeq1.idx_int
    wp_walk using wpAny_loadPart' hl
    repeat (first
      | (refine wpAny_ite_false (decide_eq_false (by rw [c0]; exact Bool.false_ne_true)) ?_; wp_walk using wpAny_loadPart' hl)
      | (refine wpAny_ite_false (decide_eq_false (by rw [c1]; exact Bool.false_ne_true)) ?_; wp_walk using wpAny_loadPart' hl)
      | (refine wpAny_ite_true (decide_eq_true c2) ?_; wp_walk using wpAny_loadPart' hl))
    all_goals exact ⟨_, rfl, h⟩
/-- t * k: t itself where k is 1 or t is empty -/
def rRepG (K : PySem.W.Frag) : R2 := fun x y H Q => ∃ l k xs, x = .ref l ∧ y = .int k ∧ SqT K H l xs ∧ -(2 ^ 63) ≤ k ∧ k < 2 ^ 63 ∧ xs.length * k.toNat ≤ 1000000 ∧ xs.length ≤ 1000000 ∧
  ((xs = [] ∨ k = 1) → Q (.ref l) H) ∧ (¬(xs = [] ∨ k = 1) → ∀ p, H p = none → Q (.ref p) (upd H p (.tup (List.replicate k.toNat xs).flatten)))
theorem op_repG : OpR X (binaryOp .Mult) (rRepG X.K) := by
  intro pins s σ H x y v u Q I rx ry h
  obtain ⟨l, k, xs, rfl, rfl, hT, h1, h2, hz, hzl, qa, qb⟩ := h
  cases rx
  obtain ⟨t, rfl⟩ := ry
  obtain ⟨its, r, ⟨⟨cls, dd, data, sl⟩, ho, hc, n, hd⟩, hs⟩ := I.tuple hT
  simp only at hc hd
  subst hc hd
  have hle : its.length = xs.length := r.length.symm
  have c0 : (decide (k < -(2 ^ 63)) || decide (k ≥ 2 ^ 63)) = false := by
    rw [decide_eq_false (by omega), decide_eq_false (by omega)] <;> rfl
  have run : ∀ {Bb : Builtin} {R : Value → Shared → Prop}, Builtin.«tuple.__mul__» = Bb → wpAny (model X.prog X.w) X.A (call (.builtin "tuple.__mul__") [.ref l, .int k t]) R X.xe s → wpAny (model X.prog X.w) X.A (binaryOp .Mult (.ref l) (.int k t)) R X.xe s := fun _ hw =>
    wpAny_binaryOp_repeat_ref (T := "tuple") (U := "int") (by decide) ⟨_, ho, rfl⟩ (fun s' => typeIs_int s' k t) noFill_tuple_mul F.fills_int_mul F.slot_int_rmul repeat_tuple F.slot_int_index.lookup
      (call_meets F.slot_int_rmul (typeIs_int s k t) F.entry_int_rmul (F.args_int_rmul_2 _ _) (int_rmul_tuple k t l its.toArray n dd sl) ⟨ho, rfl, ⟨_, ho, rfl⟩, hw⟩)
  have eE : its.toArray.isEmpty = decide (xs = []) := by
    cases xs with
    | nil => cases r; rfl
    | cons a b => cases r; rfl
  by_cases hc : xs = [] ∨ k = 1
  · refine run rfl (call_meets F.slot_tuple_mul ⟨_, ho, rfl⟩ F.entry_tuple_mul (F.args_tuple_mul_2 _ _) (tupMul1 l its.toArray n dd sl k t c0 ?_) ⟨ho, ?_⟩)
    · rw [eE]
      rcases hc with hc | hc
      · rw [decide_eq_true hc, Bool.true_or]
      · rw [hc]
        exact Bool.or_true _
    · exact ⟨.ref l, H, I, rfl, qa hc⟩
  · have c1 : (its.toArray.isEmpty || k == 1) = false := by
      rw [eE, decide_eq_false (fun z => hc (.inl z)), Bool.false_or]
      exact beq_eq_false_iff_ne.mpr fun z => hc (.inr z)
    by_cases hk : k ≤ 0
    · refine run rfl (call_meets F.slot_tuple_mul ⟨_, ho, rfl⟩ F.entry_tuple_mul (F.args_tuple_mul_2 _ _) (tupMul0 l its.toArray n dd sl k t c0 c1 (by rw [decide_eq_true hk, Bool.true_or])) ⟨ho, ?_⟩)
      have e0 : k.toNat = 0 := by omega
      have q := qb hc _ (I.hok.fresh (Nat.le_refl _))
      rw [e0] at q
      refine ⟨.ref s.heap.objs.size, _, I.laid (t' := s.toks) (o := .tup (List.replicate 0 xs).flatten) (fun b ob q => Heap.get?_push_of_some _ q) (Nat.le_refl _) ?_, rfl, q⟩
      exact ⟨Nat.zero_le _, [], .nil, IsTup.new _ _⟩
    · have h3 : ((its.toArray.size : Nat) : Int) * k ≤ 1000000 := by
        rw [List.size_toArray, hle]
        have e1 : ((xs.length : Nat) : Int) * k = ((xs.length * k.toNat : Nat) : Int) := by
          rw [Int.natCast_mul, Int.toNat_of_nonneg (by omega)]
        rw [e1]
        generalize xs.length * k.toNat = m at hz ⊢
        omega
      have flen : (List.replicate k.toNat its).flatten.length ≤ 1000000 := by
        rw [PyProof.Rows.lm_len_rep_flat, hle, Nat.mul_comm]
        exact hz
      have sl24 := sizeLine_eq
      refine run rfl (call_meets F.slot_tuple_mul ⟨_, ho, rfl⟩ F.entry_tuple_mul (F.args_tuple_mul_2 _ _) (tuple_mulW l its.toArray n dd sl k t c0 c1 (by rw [decide_eq_false hk, Bool.false_or, eE]; exact decide_eq_false fun z => hc (.inl z)) (by omega) (by unfold Builtin.Tuple.tupleTooMany; exact decide_eq_false (by omega)) (by rw [size_rep, List.size_toArray]; omega)) ⟨ho, ?_⟩)
      rw [size_rep]
      refine ⟨.ref s.heap.objs.size, _, I.laid (t' := s.toks) (o := .tup (List.replicate k.toNat xs).flatten) (fun b ob q => Heap.get?_push_of_some _ q) (Nat.le_refl _) ?_, rfl, qb hc _ (I.hok.fresh (Nat.le_refl _))⟩
      exact ⟨by rw [PyProof.Rows.lm_len_rep_flat, Nat.mul_comm]; omega, _, r.rep k.toNat, IsTup.new _ _⟩
/-! a tuple of ints in an f-string -/
theorem reprInts {prog : Program} {w : World} : ∀ {l : List Int} {its : List Value}, Vals (l.map V.int) its → (∀ y ∈ l, y.natAbs.log2 < 1920) → ReprAll prog w its (l.map fun y => (toString y : Str))
  | [], _, r, _ => by
    cases r
    exact .nil
  | y :: l, _, r, h => by
    cases r with
    | cons r1 r2 =>
      obtain ⟨t, rfl⟩ := r1
      exact .cons (ReprIs.int t (h y List.mem_cons_self)) (reprInts r2 fun z hz => h z (List.mem_cons_of_mem _ hz))
theorem piledInts : ∀ l : List Int, (∀ y ∈ l, y.natAbs.log2 < 1920) → piled (l.map fun y => (toString y : Str)) ≤ 1923 * l.length
  | [], _ => Nat.zero_le _
  | y :: l, h => by
    have h1 := int_text_len_1921 (h y List.mem_cons_self)
    have h2 := piledInts l fun z hz => h z (List.mem_cons_of_mem _ hz)
    rw [List.map_cons, piled_cons, List.length_cons]
    omega
def tFmtI (K : PySem.W.Frag) (te : TE) : TE := fun σ H Q => te σ H fun x H1 => ∃ (a : Addr) (l : List Int), x = .ref a ∧ SqT K H1 a (l.map V.int) ∧ (∀ y ∈ l, y.natAbs.log2 < 1920) ∧ l.length ≤ 5000 ∧ ∀ m : Str, m.length ≤ 9700000 → Q (.str m) H1
theorem pe_fmtI {e : Expr} {te : TE} {pos : Pos} {k : Nat} (hr : Room k X.A) (he : PE X e te) : PE X (.FormattedValue e (-1) none pos) (tFmtI X.K te) := by
  refine ⟨fun pins s σ H Q I h => ?_⟩
  refine wpAny_FormattedValue_plain (thn (he.run pins s σ H _ I h) fun v s1 hv => ?_)
  obtain ⟨x, H1, I1, r1, a, l, rfl, ht, hc, hz, q⟩ := hv
  cases r1
  obtain ⟨its, rv, ⟨o, ho, hcl, n, hd⟩, _⟩ := I1.tuple ht
  have hp := piledInts l hc
  have htx := fmt_text (l.map fun y => (toString y : Str))
  have hu := hr.units
  have hsl := sizeLine_eq
  refine fmt_tuple (ts := l.map fun y => (toString y : Str)) (by omega) ho hcl hd (reprInts rv hc) (by omega) fun m u tk hm => ⟨.str m, H1, I1.tok _, ⟨u, rfl⟩, q m (by omega)⟩
end
end Sy
/-! own core: heaps, data that never changes, callables, forms of loops -/
namespace Sy
open PySem PySem.Spec PyProof.Rows L2
/-! ### heaps -/
theorem up_same {H : Hp} {p : Addr} {o : HO} (h : H p = none) : Same H (upd H p o) := fun b x e => by
  rw [upd_ne (ne_of_none e h)]
  exact e
theorem Same.sqt {K : PySem.W.Frag} {H H' : Hp} {a : Addr} {xs : List V} (e : Same H H') (h : SqT K H a xs) : SqT K H' a xs := by
  rcases h with (h | ⟨o, h⟩) | h
  · exact .inl (.inl (e _ _ h))
  · exact .inl (.inr ⟨o, e _ _ h⟩)
  · exact .inr h
/-- what is no list of one's own stays -/
def Stay (H H' : Hp) : Prop := ∀ a o, H a = some o → (∀ xs, o ≠ .lst xs) → H' a = some o
theorem Stay.of {H H' : Hp} (s : Same H H') : Stay H H' := fun a o h _ => s a o h
theorem Stay.refl (H : Hp) : Stay H H := fun _ _ h _ => h
theorem Stay.trans {H H1 H2 : Hp} (a : Stay H H1) (b : Stay H1 H2) : Stay H H2 := fun c o h n => b c o (a c o h n) n
theorem Stay.lst {H : Hp} {p : Addr} {xs : List V} {o : HO} (h : H p = some (.lst xs)) : Stay H (upd H p o) := fun a x e n => by
  rw [upd_ne]
  · exact e
  · intro z
    rw [z, h] at e
    exact n _ (Option.some.inj e).symm
theorem Stay.new {H : Hp} {p : Addr} {o : HO} (h : H p = none) : Stay H (upd H p o) := Stay.of (up_same h)
theorem Stay.sqt {K : PySem.W.Frag} {H H' : Hp} {a : Addr} {xs : List V} (e : Stay H H') (h : SqT K H a xs) : SqT K H' a xs := by
  rcases h with (h | ⟨o, h⟩) | h
  · exact .inl (.inl (e _ _ h fun _ z => by cases z))
  · exact .inl (.inr ⟨o, e _ _ h fun _ z => by cases z⟩)
  · exact .inr h
/-! ### data that never changes -/
mutual
inductive Im (K : PySem.W.Frag) (H : Hp) : V → PyData → Prop
  | non : Im K H .non .none
  | bl (b : Bool) : Im K H (.bl b) (.bool b)
  | int (i : Int) : Im K H (.int i) (.int i)
  | str (x : Str) : Im K H (.str x) (.str x)
  | tup {a : Addr} {xs : List V} {ds : List PyData} : SqT K H a xs → ImA K H xs ds → Im K H (.ref a) (.tuple ds)
inductive ImA (K : PySem.W.Frag) (H : Hp) : List V → List PyData → Prop
  | nil : ImA K H [] []
  | cons {v : V} {vs : List V} {d : PyData} {ds : List PyData} : Im K H v d → ImA K H vs ds → ImA K H (v :: vs) (d :: ds)
end
mutual
theorem Im.mono {K : PySem.W.Frag} {H H' : Hp} (s : Stay H H') : ∀ {v : V} {d : PyData}, Im K H v d → Im K H' v d
  | _, _, .non => .non
  | _, _, .bl b => .bl b
  | _, _, .int i => .int i
  | _, _, .str x => .str x
  | _, _, .tup h a => .tup (s.sqt h) (ImA.mono s a)
theorem ImA.mono {K : PySem.W.Frag} {H H' : Hp} (s : Stay H H') : ∀ {vs : List V} {ds : List PyData}, ImA K H vs ds → ImA K H' vs ds
  | _, _, .nil => .nil
  | _, _, .cons a b => .cons (Im.mono s a) (ImA.mono s b)
end
mutual
theorem Im.dp {K : PySem.W.Frag} {H : Hp} : ∀ {v : V} {d : PyData}, Im K H v d → Dp K H v d
  | _, _, .non => .non
  | _, _, .bl b => .bl b
  | _, _, .int i => .int i
  | _, _, .str x => .str x
  | _, _, .tup h a => .tup h (ImA.dp a)
theorem ImA.dp {K : PySem.W.Frag} {H : Hp} : ∀ {vs : List V} {ds : List PyData}, ImA K H vs ds → DpAll K H vs ds
  | _, _, .nil => .nil
  | _, _, .cons a b => .cons (Im.dp a) (ImA.dp b)
end
theorem ImA.len {K : PySem.W.Frag} {H : Hp} : ∀ {vs : List V} {ds : List PyData}, ImA K H vs ds → vs.length = ds.length
  | _, _, .nil => rfl
  | _, _, .cons _ b => by rw [List.length_cons, List.length_cons, ImA.len b]
theorem ImA.get {K : PySem.W.Frag} {H : Hp} : ∀ {vs : List V} {ds : List PyData} {i : Nat} {d : PyData}, ImA K H vs ds → ds[i]? = some d → ∃ v, vs[i]? = some v ∧ Im K H v d
  | _, _, _, _, .nil, e => by simp at e
  | _, _, 0, _, .cons a _, e => by simp at e; subst e; exact ⟨_, rfl, a⟩
  | _, _, i + 1, d, .cons _ b, e => by
    obtain ⟨v, h1, h2⟩ := ImA.get (i := i) (d := d) b (by simpa using e)
    exact ⟨v, by simpa using h1, h2⟩
theorem ImA.app {K : PySem.W.Frag} {H : Hp} : ∀ {vs ws : List V} {ds es : List PyData}, ImA K H vs ds → ImA K H ws es → ImA K H (vs ++ ws) (ds ++ es)
  | _, _, _, _, .nil, b => b
  | _, _, _, _, .cons a r, b => .cons a (ImA.app r b)
theorem ImA.strs {K : PySem.W.Frag} {H : Hp} : ∀ l : List Str, ImA K H (l.map V.str) (l.map PyData.str)
  | [] => .nil
  | x :: l => .cons (.str x) (ImA.strs l)
theorem ImA.ints {K : PySem.W.Frag} {H : Hp} : ∀ l : List Int, ImA K H (l.map V.int) (l.map PyData.int)
  | [] => .nil
  | x :: l => .cons (.int x) (ImA.ints l)
theorem Im.strs {K : PySem.W.Frag} {H : Hp} {a : Addr} {l : List Str} (h : SqT K H a (l.map V.str)) : Im K H (.ref a) (.tuple (l.map PyData.str)) := .tup h (ImA.strs l)
theorem Im.ints {K : PySem.W.Frag} {H : Hp} {a : Addr} {l : List Int} (h : SqT K H a (l.map V.int)) : Im K H (.ref a) (.tuple (l.map PyData.int)) := .tup h (ImA.ints l)
/-! ### known for good, and own -/
structure Hs (B : Hp) (L : List (Addr × HO)) (H : Hp) : Prop where
  sub : Same B H
  own : ∀ q ∈ L, H q.1 = some q.2
  nd : (L.map (·.1)).Nodup
  ap : ∀ q ∈ L, B q.1 = none
section
variable {B B' H H' : Hp} {L : List (Addr × HO)} {p : Addr} {o o' : HO} {x y z u : Addr × HO}
theorem Hs.start (H : Hp) : Hs H [] H := ⟨Same.refl H, fun _ h => (nomatch h), List.nodup_nil, fun _ h => (nomatch h)⟩
theorem Hs.ne_of_new (h : Hs B L H) (hp : H p = none) : ∀ q ∈ L, q.1 ≠ p := fun q hq z => by
  have e := h.own q hq
  rw [z, hp] at e
  cases e
theorem Hs.new (h : Hs B L H) (hp : H p = none) : Hs B ((p, o) :: L) (upd H p o) where
  sub := h.sub.trans (up_same hp)
  own := fun q hq => by
    rcases List.mem_cons.mp hq with rfl | hq
    · exact upd_same
    · rw [upd_ne (h.ne_of_new hp q hq)]
      exact h.own q hq
  nd := List.nodup_cons.mpr ⟨fun hm => by
    obtain ⟨q, hq, e⟩ := List.mem_map.mp hm
    exact h.ne_of_new hp q hq e, h.nd⟩
  ap := fun q hq => by
    rcases List.mem_cons.mp hq with rfl | hq
    · exact h.sub.free hp
    · exact h.ap q hq
theorem Hs.tup (h : Hs B L H) (hp : H p = none) : Hs (upd B p o) L (upd H p o) where
  sub := fun b w e => by
    by_cases hb : b = p
    · subst hb
      rw [upd_same] at e ⊢
      exact e
    · rw [upd_ne hb] at e ⊢
      exact h.sub b w e
  own := fun q hq => by
    rw [upd_ne (h.ne_of_new hp q hq)]
    exact h.own q hq
  nd := h.nd
  ap := fun q hq => by
    rw [upd_ne (h.ne_of_new hp q hq)]
    exact h.ap q hq
/-- what is laid and never told of again -/
theorem Hs.lay (h : Hs B L H) (hp : H p = none) : Hs B L (upd H p o) where
  sub := h.sub.trans (up_same hp)
  own := fun q hq => by
    rw [upd_ne (h.ne_of_new hp q hq)]
    exact h.own q hq
  nd := h.nd
  ap := h.ap
theorem Hs.swap (h : Hs B (x :: y :: L) H) : Hs B (y :: x :: L) H :=
  ⟨h.sub, fun q hq => h.own q (by simp only [List.mem_cons] at hq ⊢; rcases hq with a | a | a <;> simp [a]),
   (List.Perm.swap _ _ _).nodup_iff.mp (by simpa using h.nd), fun q hq => h.ap q (by simp only [List.mem_cons] at hq ⊢; rcases hq with a | a | a <;> simp [a])⟩
theorem Hs.perm {L' : List (Addr × HO)} (h : Hs B L H) (pm : L.Perm L') : Hs B L' H :=
  ⟨h.sub, fun q hq => h.own q (pm.mem_iff.mpr hq), (pm.map _).nodup_iff.mp h.nd, fun q hq => h.ap q (pm.mem_iff.mpr hq)⟩
theorem Hs.r0 (h : Hs B ((p, o) :: L) H) : H p = some o := h.own (p, o) List.mem_cons_self
theorem Hs.r1 (h : Hs B (x :: (p, o) :: L) H) : H p = some o := h.own (p, o) (by simp)
theorem Hs.r2 (h : Hs B (x :: y :: (p, o) :: L) H) : H p = some o := h.own (p, o) (by simp)
theorem Hs.r3 (h : Hs B (x :: y :: z :: (p, o) :: L) H) : H p = some o := h.own (p, o) (by simp)
theorem Hs.r4 (h : Hs B (x :: y :: z :: u :: (p, o) :: L) H) : H p = some o := h.own (p, o) (by simp)
theorem Hs.w0 (h : Hs B ((p, o) :: L) H) : Hs B ((p, o') :: L) (upd H p o') where
  sub := fun b w e => by
    rw [upd_ne]
    · exact h.sub b w e
    · intro q
      have := h.ap (p, o) List.mem_cons_self
      rw [q, this] at e
      cases e
  own := fun q hq => by
    rcases List.mem_cons.mp hq with rfl | hq
    · exact upd_same
    · have nd := List.nodup_cons.mp h.nd
      rw [upd_ne]
      · exact h.own q (List.mem_cons_of_mem _ hq)
      · intro e
        exact nd.1 (List.mem_map.mpr ⟨q, hq, e⟩)
  nd := h.nd
  ap := fun q hq => by
    rcases List.mem_cons.mp hq with rfl | hq
    · exact h.ap (p, o) List.mem_cons_self
    · exact h.ap q (List.mem_cons_of_mem _ hq)
theorem Hs.w1 (h : Hs B (x :: (p, o) :: L) H) : Hs B (x :: (p, o') :: L) (upd H p o') := h.swap.w0.swap
theorem Hs.w2 (h : Hs B (x :: y :: (p, o) :: L) H) : Hs B (x :: y :: (p, o') :: L) (upd H p o') :=
  (h.perm (L' := (p, o) :: x :: y :: L) ((List.Perm.cons _ (List.Perm.swap _ _ _)).trans (List.Perm.swap _ _ _))).w0.perm ((List.Perm.swap _ _ _).trans (List.Perm.cons _ (List.Perm.swap _ _ _)))
theorem Hs.drop (h : Hs B (x :: L) H) : Hs B L H := ⟨h.sub, fun q hq => h.own q (List.mem_cons_of_mem _ hq), (List.nodup_cons.mp h.nd).2, fun q hq => h.ap q (List.mem_cons_of_mem _ hq)⟩
/-- own no more: known for good -/
theorem Hs.give (h : Hs B ((p, o) :: L) H) : Same B (upd B p o) ∧ Hs (upd B p o) L H := by
  have hp : B p = none := h.ap (p, o) List.mem_cons_self
  refine ⟨up_same hp, fun b w e => ?_, fun q hq => h.own q (List.mem_cons_of_mem _ hq), (List.nodup_cons.mp h.nd).2, fun q hq => ?_⟩
  · by_cases hb : b = p
    · subst hb
      rw [upd_same] at e
      rw [h.r0]
      exact e
    · rw [upd_ne hb] at e
      exact h.sub b w e
  · rw [upd_ne]
    · exact h.ap q (List.mem_cons_of_mem _ hq)
    · intro e
      exact (List.nodup_cons.mp h.nd).1 (List.mem_map.mpr ⟨q, hq, e⟩)
/-- a known list (an argument that the def changes) becomes own -/
theorem Hs.take (h : Hs B L H) (hb : B p = some o) : Hs (L2.del B p) ((p, o) :: L) H where
  sub := fun b w e => by
    unfold L2.del at e
    split at e
    · cases e
    · exact h.sub b w e
  own := fun q hq => by
    rcases List.mem_cons.mp hq with rfl | hq
    · exact h.sub _ _ hb
    · exact h.own q hq
  nd := by
    refine List.nodup_cons.mpr ⟨fun hm => ?_, h.nd⟩
    obtain ⟨q, hq, e⟩ := List.mem_map.mp hm
    have e2 := h.ap q hq
    rw [e, hb] at e2
    cases e2
  ap := fun q hq => by
    rcases List.mem_cons.mp hq with rfl | hq
    · exact del_same
    · unfold L2.del
      split
      · rfl
      · exact h.ap q hq
theorem stay_del {xs : List V} (hb : B p = some (.lst xs)) : Stay B (L2.del B p) := fun a w e n => by
  rw [del_ne]
  · exact e
  · intro z
    rw [z, hb] at e
    exact n _ (Option.some.inj e).symm
/-! behind a call -/
def cut (L : List (Addr × HO)) (H : Hp) : Hp := fun a => if a ∈ L.map (·.1) then none else H a
theorem cut_at {a : Addr} (h : a ∉ L.map (·.1)) : cut L H a = H a := if_neg h
theorem cut_in {a : Addr} (h : a ∈ L.map (·.1)) : cut L H a = none := if_pos h
theorem Hs.out (h : Hs B L H) {a : Addr} {w : HO} (e : B a = some w) : a ∉ L.map (·.1) := fun hm => by
  obtain ⟨q, hq, z⟩ := List.mem_map.mp hm
  have := h.ap q hq
  rw [z, e] at this
  cases this
theorem Hs.out_new (h : Hs B L H) {a : Addr} (e : H a = none) : a ∉ L.map (·.1) := fun hm => by
  obtain ⟨q, hq, z⟩ := List.mem_map.mp hm
  have := h.own q hq
  rw [z, e] at this
  cases this
/-- a call that changes nothing tracked -/
theorem Hs.after (h : Hs B L H) (s : Same H H') : Same B (cut L H') ∧ Hs (cut L H') L H' :=
  ⟨fun a w e => by rw [cut_at (h.out e)]; exact s a w (h.sub a w e), fun a w e => by
    unfold cut at e
    split at e
    · cases e
    · exact e, fun q hq => s _ _ (h.own q hq), h.nd, fun q hq => cut_in (List.mem_map_of_mem hq)⟩
/-- .. that changes the one at p -/
def Chg (p : Addr) (o' : HO) (H H' : Hp) : Prop := H' p = some o' ∧ ∀ a w, a ≠ p → H a = some w → H' a = some w
theorem Hs.chg (h : Hs B ((p, o) :: L) H) (s : Chg p o' H H') : Same B (cut ((p, o') :: L) H') ∧ Hs (cut ((p, o') :: L) H') ((p, o') :: L) H' := by
  have kk : ((p, o') :: L).map (·.1) = ((p, o) :: L).map (·.1) := rfl
  refine ⟨fun a w e => ?_, fun a w e => ?_, fun q hq => ?_, by rw [kk]; exact h.nd, fun q hq => cut_in (List.mem_map_of_mem hq)⟩
  · have ho := h.out e
    rw [cut_at (by rw [kk]; exact ho)]
    exact s.2 a w (fun z => ho (by rw [z]; simp)) (h.sub a w e)
  · unfold cut at e
    split at e
    · cases e
    · exact e
  · rcases List.mem_cons.mp hq with rfl | hq
    · exact s.1
    · refine s.2 _ _ (fun z => (List.nodup_cons.mp h.nd).1 (List.mem_map.mpr ⟨q, hq, z⟩)) (h.own q (List.mem_cons_of_mem _ hq))
theorem Chg.stay {xs : List V} (c : Chg p o' H H') (hb : H p = some (.lst xs)) : Stay H H' := fun a w e n => c.2 a w (fun z => by
  rw [z, hb] at e
  exact n _ (Option.some.inj e).symm) e
/-- at a def's end -/
theorem Hs.same (h : Hs B L H') (s : Same H B) : Same H H' := s.trans h.sub
theorem Hs.isChg {B0 : Hp} (h : Hs B ((p, o') :: L) H') (s : Same (L2.del B0 p) B) : Chg p o' B0 H' :=
  ⟨h.r0, fun a w hne e => h.sub a w (s a w (by rw [del_ne hne]; exact e))⟩
theorem Chg.trans {o1 o2 : HO} {H1 H2 : Hp} (a : Chg p o1 H H1) (b : Chg p o2 H1 H2) : Chg p o2 H H2 := ⟨b.1, fun c w n e => b.2 c w n (a.2 c w n e)⟩
end
/-- lists of one's own are lists -/
def AllL (L : List (Addr × HO)) : Prop := ∀ q ∈ L, ∃ xs, q.2 = .lst xs
theorem stay_cut {L : List (Addr × HO)} {B H H' : Hp} (h : Hs B L H) (al : AllL L) (s : Same H H') : Stay H' (cut L H') := fun a w e n => by
  rw [cut_at]
  · exact e
  · intro hm
    obtain ⟨q, hq, z⟩ := List.mem_map.mp hm
    obtain ⟨xs, hx⟩ := al q hq
    have := s _ _ (h.own q hq)
    rw [z, e, hx] at this
    exact n _ (Option.some.inj this)
theorem stay_cutC {L : List (Addr × HO)} {p : Addr} {o o' : HO} {B H H' : Hp} (h : Hs B ((p, o) :: L) H) (al : AllL ((p, o') :: L)) (s : Chg p o' H H') : Stay H' (cut ((p, o') :: L) H') := fun a w e n => by
  rw [cut_at]
  · exact e
  · intro hm
    obtain ⟨q, hq, z⟩ := List.mem_map.mp hm
    obtain ⟨xs, hx⟩ := al q hq
    have := (h.chg s).2.own q hq
    rw [z, e, hx] at this
    exact n _ (Option.some.inj this)
theorem AllL.nil : AllL [] := fun _ h => (nomatch h)
theorem AllL.cons {p : Addr} {xs : List V} {L : List (Addr × HO)} (h : AllL L) : AllL ((p, .lst xs) :: L) := fun q hq => by
  rcases List.mem_cons.mp hq with rfl | hq
  · exact ⟨xs, rfl⟩
  · exact h q hq
/-! ### callables: a module's def -/
structure Cal (P : Program) (w : World) (K : PySem.W.Frag) (mg : Str → Option Value) (base : Heap) (k : Nat) (x : Str) (ps : List Str) (sp : Sp) : Prop where
  fn : ∃ fd, FnOk P w K mg base (L2.CX P w) k (He.ga K x) fd ps sp ∧ Binds K fd ps []
  at_ : mg x = some (.ref (He.ga K x))
  kp : PySem.W.keepIn K (.ref (He.ga K x)) = true
theorem Cal.mono {P : Program} {w : World} {K : PySem.W.Frag} {mg : Str → Option Value} {base : Heap} {j k : Nat} {x : Str} {ps : List Str} {sp : Sp} (c : Cal P w K mg base j x ps sp) (h : j ≤ k) : Cal P w K mg base k x ps sp :=
  ⟨let ⟨fd, a, b⟩ := c.fn; ⟨fd, a.mono h, b⟩, c.at_, c.kp⟩
section
variable {X : Cx} {k j : Nat} {x : Str} {ps : List Str} {sp : Sp} {p pos : Pos} {e : Expr} {es : List Expr} {t : TA} {W : WX}
/-- f(..) that raises nothing -/
theorem pe_cal (c : Cal X.prog X.w X.K X.mg X.base j x ps sp) (hr : Room k X.A) (ha : PA X (e :: es) t) (hk : j ≤ k := by decide) (hg : Gl X x := by rfl) (hdb : (x == ("__debug__" : Str)) = false := by decide)
    (he : starEach (e :: es) X.env = (false, eval e X.env) :: starEach es X.env := by rfl) (hpl : (backTo pos (starEach es X.env)).any (·.1) = false := by rfl) : PE X (.Call (.Name x p) (e :: es) [] pos) (tCallS sp (fun _ => E0) t) := by
  obtain ⟨fd, F, b⟩ := c.fn
  exact pe_callS F (hr.mono hk) hg c.at_ c.kp b (fun σ => fun pins H s e s' I h => passL pins σ H s e s' I h) ha hdb he hpl
/-- f(..) that may raise -/
theorem pe_calX (c : Cal X.prog X.w X.K X.mg X.base j x ps sp) (hr : Room k X.A) (tk : Takes X W) (ha : PA X (e :: es) t) (hk : j ≤ k := by decide) (hg : Gl X x := by rfl) (hdb : (x == ("__debug__" : Str)) = false := by decide)
    (he : starEach (e :: es) X.env = (false, eval e X.env) :: starEach es X.env := by rfl) (hpl : (backTo pos (starEach es X.env)).any (·.1) = false := by rfl) : PE X (.Call (.Name x p) (e :: es) [] pos) (tCallS sp (WE W) t) := by
  obtain ⟨fd, F, b⟩ := c.fn
  exact pe_callS F (hr.mono hk) hg c.at_ c.kp b (fun σ => passAt tk σ) ha hdb he hpl
end
/-! ### steps of a reading -/
section
variable {σ : L2.St} {H : Hp} {D : Ends} {Q : VK} {K : PySem.W.Frag}
theorem if_dec {p : Prop} [Decidable p] {A B : Prop} (a : p → A) (b : ¬p → B) : if decide p = true then A else B := by
  by_cases h : p
  · rw [decide_eq_true h]
    exact iteT (a h)
  · rw [decide_eq_false h]
    exact iteF (b h)
theorem if_ndec {p : Prop} [Decidable p] {A B : Prop} (a : ¬p → A) (b : p → B) : if (!decide p) = true then A else B := by
  by_cases h : p
  · rw [decide_eq_true h]
    exact iteF (b h)
  · rw [decide_eq_false h]
    exact iteT (a h)
theorem if_bool {c : Bool} {A B : Prop} (a : c = true → A) (b : c = false → B) : if c = true then A else B := by
  cases c with
  | true => exact iteT (a rfl)
  | false => exact iteF (b rfl)
end
end Sy
/-! defs of the top; a bed as an object -/
namespace Sy
open PySem PySem.Spec PyProof.Rows L2
/-- the def x of the top, by its row st -/
def FD (K : PySem.W.Frag) (x : Str) (st : Stmt) : Prop := ∃ fd, FunD K x x (defArgs st) (defBody st) (defScope st) [] [] (He.ga K x) fd
theorem cal_of {P : Program} {w : World} {K : PySem.W.Frag} {mg : Str → Option Value} {base : Heap} {x : Str} {st : Stmt} {N ps : List Str} {k : Nat} {sp : Sp} (F : FD K x st) (hm : mg x = some (.ref (He.ga K x))) (S : FnScope N ps (defScope st))
    (hb : ∀ (kV doc pm : Value) (an : Option Addr) (cdv ct : Value) (us : List Value), us.length = ps.length → bindArgs (PySem.W.fnOf x x (defArgs st) (defBody st) (defScope st) .none kV doc pm an cdv ct) ⟨us, []⟩ = pure (ps.zip us))
    (len : ∀ vs H Q E, sp vs H Q E → vs.length = ps.length)
    (body : ∀ (cdv : Value) (A : Around) (outer : List Env) (s : Shared) (H : Hp) (vs : List V) (Q : VK) (E : XK), Room k (A.deeper (envOfC x (defScope st) s.heap.objs.size (He.ga K x) cdv)) → sp vs H Q E →
      ∃ t, PSs (cxOf (L2.CX P w) P w K mg base N x (defScope st) (He.ga K x) cdv A outer s H E) (defBody st) t ∧ t { nx := fun _ H' => Q .non H', rt := Q } (start N vs) H) : Cal P w K mg base (k + 1) x ps sp := by
  obtain ⟨fd, F⟩ := F
  exact ⟨⟨fd, F.ok S len body, F.bindsN hb⟩, hm, F.kp⟩
/-! ### a bed -/
abbrev Row := Str × Nat
/-- the number of branches, 0 if it is no kind -/
def ar (rows : List Sy.Row) (x : Str) : Nat := (rows.lookup x).getD 0
def isK (rows : List Sy.Row) (x : Str) : Bool := (rows.lookup x).isSome
def arKV (rows : List Sy.Row) : List (Key × V) := rows.map fun r => (Sum.inr r.1, V.int (r.2 : Nat))
def rkKV : Nat → List Sy.Row → List (Key × V)
  | _, [] => []
  | n, r :: rs => (Sum.inr r.1, V.int (n : Nat)) :: rkKV (n + 1) rs
/-- the place of a kind -/
def rk : Nat → List Sy.Row → Str → Option Nat
  | _, [], _ => none
  | n, r :: rs, x => if r.1 = x then some n else rk (n + 1) rs x
theorem lookup_cons (r : Sy.Row) (rs : List Sy.Row) (x : Str) : (r :: rs).lookup x = if r.1 = x then some r.2 else rs.lookup x := by
  obtain ⟨a, b⟩ := r
  by_cases h : a = x
  · subst h
    simp [List.lookup]
  · rw [if_neg h]
    have h2 : (x == a) = false := beq_eq_false_iff_ne.mpr fun z => h z.symm
    simp [List.lookup, h2]
theorem valV_cons {κ : Type} [DecidableEq κ] (k : κ) (v : V) (l : List (κ × V)) (x : κ) : valV ((k, v) :: l) x = if k = x then some v else valV l x := by
  unfold valV
  rw [List.find?_cons]
  by_cases h : k = x
  · subst h
    simp
  · simp [h]
theorem valV_ar (x : Str) : ∀ rows : List Sy.Row, valV (arKV rows) (Sum.inr x : Key) = (rows.lookup x).map fun n => V.int (n : Nat)
  | [] => rfl
  | r :: rs => by
    show valV ((Sum.inr r.1, V.int (r.2 : Nat)) :: arKV rs) (Sum.inr x : Key) = _
    rw [valV_cons, lookup_cons, valV_ar x rs]
    by_cases h : r.1 = x
    · subst h
      simp
    · rw [if_neg h, if_neg]
      exact fun z => h (Sum.inr.inj z)
theorem valV_rk (x : Str) : ∀ (n : Nat) (rows : List Sy.Row), valV (rkKV n rows) (Sum.inr x : Key) = (rk n rows x).map fun n => V.int (n : Nat)
  | _, [] => rfl
  | n, r :: rs => by
    show valV ((Sum.inr r.1, V.int (n : Nat)) :: rkKV (n + 1) rs) (Sum.inr x : Key) = _
    rw [valV_cons, valV_rk x (n + 1) rs]
    show _ = (if r.1 = x then some n else rk (n + 1) rs x).map _
    by_cases h : r.1 = x
    · subst h
      simp
    · rw [if_neg h, if_neg]
      exact fun z => h (Sum.inr.inj z)
/-- the fields, in the order in which __init__ stores them -/
def bedF (dA tR tK dR : Addr) : List (Str × V) := [("arities", .ref dA), ("rows", .ref tR), ("kinds", .ref tK), ("ranks", .ref dR)]
/-- a bed stands at a -/
structure BedAt (K : PySem.W.Frag) (H : Hp) (a : Addr) (rows : List Sy.Row) : Prop where
  ex : ∃ (dx dA tR tK dR : Addr) (ps : List Addr), H a = some (.ins (He.ga K "Bed") dx (bedF dA tR tK dR)) ∧ H dA = some (.dK (arKV rows)) ∧ H dR = some (.dK (rkKV 0 rows)) ∧ SqT K H tR (ps.map V.ref) ∧ SqT K H tK (rows.map fun r => V.str r.1) ∧
    Paired (fun p (r : Sy.Row) => SqT K H p [.str r.1, .int (r.2 : Nat)]) ps rows
theorem BedAt.mono {K : PySem.W.Frag} {H H' : Hp} {a : Addr} {rows : List Sy.Row} (s : Stay H H') (b : BedAt K H a rows) : BedAt K H' a rows := by
  obtain ⟨dx, dA, tR, tK, dR, ps, h1, h2, h3, h4, h5, h6⟩ := b.ex
  exact ⟨dx, dA, tR, tK, dR, ps, s _ _ h1 (fun _ z => nomatch z), s _ _ h2 (fun _ z => nomatch z), s _ _ h3 (fun _ z => nomatch z), s.sqt h4, s.sqt h5, Paired.mapP h6 fun _ _ z => s.sqt z⟩
/-- what the walk asks of the top: the class Bed -/
structure BedT (K : PySem.W.Frag) : Prop where
  cl : Cls K (He.ga K "Bed")
  nA : NoAttr K (He.ga K "Bed") "arities"
  nR : NoAttr K (He.ga K "Bed") "rows"
  nK : NoAttr K (He.ga K "Bed") "kinds"
  nRk : NoAttr K (He.ga K "Bed") "ranks"
section
variable {K : PySem.W.Frag} {σ : L2.St} {H : Hp} {Q : VK} {i : Nat} {a : Addr} {rows : List Sy.Row}
/-- bed.arities, the bed in slot i -/
theorem bed_ar (T : BedT K) (b : BedAt K H a rows) (hi : σ[i]? = some (some (.ref a))) (h : ∀ dA, H dA = some (.dK (arKV rows)) → Q (.ref dA) H) : tFld K (tVar i) "arities" σ H Q := by
  obtain ⟨dx, dA, tR, tK, dR, ps, h1, h2, h3, h4, h5, h6⟩ := b.ex
  exact ⟨_, hi, a, _, dx, _, _, rfl, h1, T.cl, T.nA, rfl, h dA h2⟩
theorem bed_rk (T : BedT K) (b : BedAt K H a rows) (hi : σ[i]? = some (some (.ref a))) (h : ∀ dR, H dR = some (.dK (rkKV 0 rows)) → Q (.ref dR) H) : tFld K (tVar i) "ranks" σ H Q := by
  obtain ⟨dx, dA, tR, tK, dR, ps, h1, h2, h3, h4, h5, h6⟩ := b.ex
  exact ⟨_, hi, a, _, dx, _, _, rfl, h1, T.cl, T.nRk, rfl, h dR h3⟩
theorem bed_kd (T : BedT K) (b : BedAt K H a rows) (hi : σ[i]? = some (some (.ref a))) (h : ∀ tK, SqT K H tK (rows.map fun r => V.str r.1) → Q (.ref tK) H) : tFld K (tVar i) "kinds" σ H Q := by
  obtain ⟨dx, dA, tR, tK, dR, ps, h1, h2, h3, h4, h5, h6⟩ := b.ex
  exact ⟨_, hi, a, _, dx, _, _, rfl, h1, T.cl, T.nK, rfl, h tK h5⟩
end
end Sy
namespace Sy
open PySem PySem.Spec PyProof.Rows L2
theorem pe_gint {X : Cx} {x : Str} {i : Int} {pos : Pos} (hg : Gl X x) (hm : ∃ t, X.mg x = some (.int i t)) (hd : (x == ("__debug__" : Str)) = false := by decide) : PE X (.Name x pos) (tC (.int i)) := by
  obtain ⟨t, hm⟩ := hm
  exact pe_glob hg hm ⟨_, rfl⟩ hd
theorem pe_gstr {X : Cx} {x z : Str} {pos : Pos} (hg : Gl X x) (hm : ∃ t, X.mg x = some (.str z t)) (hd : (x == ("__debug__" : Str)) = false := by decide) : PE X (.Name x pos) (tC (.str z)) := by
  obtain ⟨t, hm⟩ := hm
  exact pe_glob hg hm ⟨_, rfl⟩ hd
/-- built-in names and constants that the module leaves alone -/
structure Txt (K : PySem.W.Frag) (mg : Str → Option Value) : Prop where
  bed : BedT K
  len : mg "len" = none
  range : mg "range" = none
  reversed : mg "reversed" = none
  enumerate : mg "enumerate" = none
  tuple : mg "tuple" = none
  list : mg "list" = none
  int : mg "int" = none
  abs : mg "abs" = none
  max : mg "max" = none
  isinstance : mg "isinstance" = none
  MOST_KNOTS : ∃ t, mg "MOST_KNOTS" = some (.int 2000 t)
  MOST_KINDS : ∃ t, mg "MOST_KINDS" = some (.int 8 t)
  MOST_BRANCHES : ∃ t, mg "MOST_BRANCHES" = some (.int 3 t)
  LONGEST_NAME : ∃ t, mg "LONGEST_NAME" = some (.int 8 t)
/-! loops, in the form that a reading asks for -/
abbrev Loop (J : It) (g : TG) (tb : TS) (D : Ends) (σ : L2.St) (H : Hp) : Prop := ∃ W : Nat → Nat → L2.St → Hp → Prop, (∃ m, W 0 m σ H) ∧ ∀ i m σ H, W i m σ H → (J.stop i H ∧ D.nx σ H) ∨
  (J.go i H ∧ ∃ N : L2.St → Hp → Prop, (∀ σ' H', N σ' H' → ∃ m', m' < m ∧ W (i + 1) m' σ' H') ∧ ∀ x H', J.yld i H x H' → g x σ H' fun σ2 H2 => tb { D with nx := N, ct := N, bk := D.nx } σ2 H2)
/-- for i, x in enumerate(t) -/
theorem for_enumT {K : PySem.W.Frag} {si sj : Nat} {tb : TS} {D : Ends} {σ : L2.St} {H : Hp} {a : Addr} {xs : List V} (Pv : Nat → L2.St → Hp → Prop)
    (h0 : Pv 0 σ H) (hG : ∀ i σ H, i ≤ xs.length → Pv i σ H → SqT K H a xs)
    (hs : ∀ i x σ H T, xs[i]? = some x → Pv i σ H → H T = none → tb { D with nx := Pv (i + 1), ct := Pv (i + 1), bk := D.nx } ((σ.set si (some (.int (i : Nat)))).set sj (some x)) (upd H T (.tup [.int (i : Nat), x])))
    (hd : ∀ σ H, Pv xs.length σ H → D.nx σ H) : Loop (ItE K a) (gTup K 2 (gCons (gName si) (gCons (gName sj) gNil))) tb D σ H := by
  refine for_it walkE Pv h0 hG (fun i v σ H H' hi hp y => ?_) hd
  obtain ⟨T, x, z, rfl, hT, rfl, e1, e2⟩ := y
  cases e1
  exact ⟨T, _, rfl, SqT.of upd_same, rfl, _, _, rfl, _, _, rfl, rfl, hs i z σ H T e2 hp hT⟩
/-- .. over a list that the body leaves alone -/
theorem for_enumL {K : PySem.W.Frag} {si sj : Nat} {tb : TS} {D : Ends} {σ : L2.St} {H : Hp} {a : Addr} {xs : List V} (Pv : Nat → L2.St → Hp → Prop)
    (h0 : Pv 0 σ H) (hG : ∀ i σ H, i ≤ xs.length → Pv i σ H → SqL K H a xs)
    (hs : ∀ i x σ H T, xs[i]? = some x → Pv i σ H → H T = none → tb { D with nx := Pv (i + 1), ct := Pv (i + 1), bk := D.nx } ((σ.set si (some (.int (i : Nat)))).set sj (some x)) (upd H T (.tup [.int (i : Nat), x])))
    (hd : ∀ σ H, Pv xs.length σ H → D.nx σ H) : Loop (Ite K a) (gTup K 2 (gCons (gName si) (gCons (gName sj) gNil))) tb D σ H := by
  refine for_it walk_enum Pv h0 hG (fun i v σ H H' hi hp y => ?_) hd
  obtain ⟨T, x, z, rfl, hT, rfl, e1, e2⟩ := y
  cases e1
  exact ⟨T, _, rfl, SqT.of upd_same, rfl, _, _, rfl, _, _, rfl, rfl, hs i z σ H T e2 hp hT⟩
/-- for k in range(n) -/
theorem for_rng {si : Nat} {tb : TS} {D : Ends} {σ : L2.St} {H : Hp} {n : Nat} (Pv : Nat → L2.St → Hp → Prop) (h0 : Pv 0 σ H)
    (hs : ∀ (i : Nat) σ H, i < n → Pv i σ H → tb { D with nx := Pv (i + 1), ct := Pv (i + 1), bk := D.nx } (σ.set si (some (.int (i : Nat)))) H)
    (hd : ∀ σ H, Pv n σ H → D.nx σ H) : Loop (Itr 0 n) (gName si) tb D σ H := by
  refine for_range Pv h0 (fun i σ H hi hp => ?_) hd
  have e : (0 : Int) + (i : Nat) = (i : Nat) := by omega
  have q := hs i σ _ hi hp
  rw [← e] at q
  exact q
/-- for k in reversed(range(n)) -/
theorem for_rrng {si : Nat} {tb : TS} {D : Ends} {σ : L2.St} {H : Hp} {n : Nat} (Pv : Nat → L2.St → Hp → Prop) (h0 : Pv n σ H)
    (hs : ∀ (i : Nat) σ H, i < n → Pv (i + 1) σ H → tb { D with nx := Pv i, ct := Pv i, bk := D.nx } (σ.set si (some (.int (i : Nat)))) H)
    (hd : ∀ σ H, Pv 0 σ H → D.nx σ H) : Loop (Itc (0 + (((n : Int) - 0).toNat : Int) - 1) (-1) (((n : Int) - 0).toNat)) (gName si) tb D σ H := by
  have e0 : (((n : Nat) : Int) - 0).toNat = n := by omega
  rw [e0]
  refine for_it walk_rangeC (fun j σ H => Pv (n - j) σ H) h0 (fun _ _ _ _ _ => trivial) (fun j v σ H H' hj hp y => ?_) (fun σ H q => ?_)
  · obtain ⟨rfl, rfl⟩ := y
    have e : (0 : Int) + (n : Nat) - 1 + (j : Nat) * -1 = ((n - 1 - j : Nat) : Int) := by omega
    have e1 : n - j = (n - 1 - j) + 1 := by omega
    rw [e1] at hp
    have q := hs (n - 1 - j) σ _ (by omega) hp
    rw [← e] at q
    have e2 : n - (j + 1) = n - 1 - j := by omega
    show tb { D with nx := fun σ H => Pv (n - (j + 1)) σ H, ct := fun σ H => Pv (n - (j + 1)) σ H, bk := D.nx } _ _
    rw [e2]
    exact q
  · rw [Nat.sub_self] at q
    exact hd σ H q
end Sy
namespace Sy
open PySem PySem.Spec PyProof.Rows L2
def top (i : Nat) : Stmt := PySem.Challenge.pw_shearyard_k33_peaks_in_order.main.body.getD i (.Pass ⟨0, 0, 0, 0⟩)
end Sy
/-! what the head's run looks at (the run is proved early: it wants much memory) -/
namespace Sy
open PySem PySem.Spec PyProof.Rows L2
def clb (i j : Nat) : Stmt := match top i with
  | .ClassDef _ _ _ b _ _ _ _ _ _ _ => b.getD j (.Pass ⟨0, 0, 0, 0⟩)
  | s => s
abbrev iniA (K : PySem.W.Frag) (x : Str) : Addr := He.ma K (He.ga K x) "__init__"
structure ErD where
  x : Str
  q : Str
  st : Stmt
  fs : List Str
abbrev FnE : Type := Option (Str × Str × Arguments × FuncBody × Scope × Addr × List Str × Addr)
def ErD.val (d : ErD) : FnE := some ("__init__", d.q, defArgs d.st, .stmts (defBody d.st), defScope d.st, mainGlobals, ["__class__"], builtinsNs)
def erW (K : PySem.W.Frag) (x : Str) : FnE := match K.lookup (iniA K x) with
  | some ⟨_, _, .func fd, _⟩ => some (fd.name, fd.qualname, fd.params, fd.body, fd.scope, fd.globals, fd.closure.map (·.1), fd.builtins)
  | _ => none
/-- the class object -/
def oexB (K : PySem.W.Frag) (C : Addr) : Bool := match K.lookup C with
  | some ⟨.type t, _, .cls cd, sl⟩ => (match cd.mro, sl.toList with
    | .ref C' :: bm, [_, _, _, _, some (.builtin n), _] => decide (t = "type") && (decide (C' = C) && (decide (n = "ValueError.__new__") && (!cd.hasDel && (cd.hasDict && HandSPX.refsVE bm))))
    | _, _ => false)
  | _ => false
/-- what stands in the code object, in the cell -/
def fileB (K : PySem.W.Frag) (file : Str) (cd : Value) : Bool := match cd with
  | .ref c => (match K.lookup c with
    | some ⟨_, _, .fields vs, _⟩ => (match (vs[2]? : Option Value) with
      | some (.str fi _) => (file == fi)
      | _ => false)
    | _ => false)
  | _ => false
def cellB (K : PySem.W.Frag) (C : Addr) (cl : List (Str × Addr)) : Bool := match cl with
  | [(_, cc)] => (match K.lookup cc with
    | some ⟨_, _, .cell (some (.ref D)), _⟩ => decide (D = C)
    | _ => false)
  | _ => false
def initB (K : PySem.W.Frag) (file x q : Str) : Bool := match K.lookup (iniA K x) with
  | some ⟨_, _, .func fd, _⟩ => PySem.W.codeIn K fd.code q && (fileB K file fd.code && (cellB K (He.ga K x) fd.closure && (match fd.defaults with
    | .none => true
    | _ => false)))
  | _ => false
def ErD.ok (file : Str) (K : PySem.W.Frag) (d : ErD) : Bool :=
  He.eqO (PySem.W.nsIn K mainGlobals d.x) (some (some (.ref (He.ga K d.x)))) && (He.eqO (PySem.W.findIn K (.ref (He.ga K d.x)) "__init__") (some (some (.ref (iniA K d.x)))) && (decide (PySem.W.typeIn K (.ref (iniA K d.x)) = some (.type "function")) &&
  (decide (PySem.W.exmOne K (.ref (He.ga K d.x)) (.ref (He.ga K d.x)) = some true) && (xfB K (He.ga K d.x) && ((d.fs.all fun f => He.eqO (PySem.W.findIn K (.ref (He.ga K d.x)) f) (some none)) && (oexB K (He.ga K d.x) &&
  (He.eqO (PySem.W.findIn K (.ref (He.ga K d.x)) "__setattr__") (some (some (.builtin "object.__setattr__"))) && (decide (PySem.W.subIn K (.ref (He.ga K d.x)) (.type "BaseException") = some true) && (decide (PySem.W.typeIn K (.ref (He.ga K d.x)) = some (.type "type")) && (PySem.W.keepIn K (.ref (He.ga K d.x)) &&
  (initB K file d.x d.q && (PySem.W.isClsIn K (He.ga K d.x) && (decide (PySem.W.mroIn K (He.ga K d.x) (.ref (He.ga K d.x)) = some true) && (He.eqO (PySem.W.ks_superIn K (He.ga K d.x) (He.ga K d.x) "__init__") (some (some (.builtin "ValueError.__init__"))) &&
  (decide (PySem.W.subIn K (.ref (He.ga K d.x)) (.type "ValueError") = some true) && He.eqO (PySem.W.nsIn K cStatics "thirdparty.any") (some none))))))))))))))))
def excB (K : PySem.W.Frag) (D : Addr) : Bool :=
  He.eqO (PySem.W.findIn K (.ref D) "__getattribute__") (some (some (.builtin "BaseException.__getattribute__"))) && (He.eqO (PySem.W.findIn K (.ref D) "__getattr__") (some none) && (decide (PySem.W.subIn K (.ref D) (.type "BaseException") = some true) && (PySem.W.hasDictIn K D &&
  (He.eqO (PySem.W.findIn K (.ref D) "__class__") (some (some (.builtin "object.__class__"))) && (He.eqO (PySem.W.specialIn K (.builtin "object.__class__") "__get__") (some (some (.builtin "getset_descriptor.__get__"))) && (decide (PySem.W.takesIn K (.builtin "object.__class__") = some true) && decide (PySem.W.mroIn K D (.type "object") = some true)))))))
/-- the table of the code object of the def x, if it is none of the known things -/
def tabP (K : PySem.W.Frag) (x : Str) : Option Addr := match K.lookup (He.ga K x) with
  | some ⟨_, _, .func fd, _⟩ => (match fd.code with
    | .ref c => (match K.lookup c with
      | some ⟨_, _, .fields vs, _⟩ => (match (vs[11]? : Option Value) with
        | some (.ref P) => if (K.lookup P).isNone = true then some P else none
        | _ => none)
      | _ => none)
    | _ => none)
  | _ => none
def metB (K : PySem.W.Frag) : Bool := (tabP K "result_fault").isSome
/-! the Hook -/
abbrev AlX : Type := He.AlD × (Bool × List FnE)
def obsX (file : Str) (fa : List He.Fa) (fn : List He.DefD) (er : List ErD) (K : PySem.W.Frag) : AlX := (He.obsD fa fn K, ((er.all fun d => d.ok file K) && metB K, er.map fun d => erW K d.x))
def valX (fn : List He.DefD) (er : List ErD) : AlX := (He.valD fn, (true, er.map ErD.val))
def SaysX (file : Str) (fa : List He.Fa) (fn : List He.DefD) (er : List ErD) (K : PySem.W.Frag) : Prop := obsX file fa fn er K = valX fn er
def obsXG (file : Str) (as : List Addr) (fa : List He.Fa) (fn : List He.DefD) (er : List ErD) (g : Addr → Option Obj) : AlX := obsX file fa fn er (He.frG g as)
def hookX (file : Str) (as : List Addr) (fa : List He.Fa) (fn : List He.DefD) (er : List ErD) : PySem.W.Hook where
  α := AlX
  obs := fun s => obsXG file as fa fn er s.heap.get?
  val := fun _ => valX fn er
  says := fun _ h => ∃ K : PySem.W.Frag, K.In h ∧ SaysX file fa fn er K
  of := fun _ _ e => ⟨_, He.frG_in, e⟩
  keeps := fun _ _ _ ⟨K, hK, c⟩ k => ⟨K, PySem.W.Frag.In.keeps hK k, c⟩
theorem obsXG_eq {file : Str} {as : List Addr} {fa : List He.Fa} {fn : List He.DefD} {er : List ErD} {g : Addr → Option Obj} {s : Shared} (h : ∀ a, g a = s.heap.get? a) : obsXG file as fa fn er g = (hookX file as fa fn er).obs s := by
  have e : g = s.heap.get? := funext h
  rw [e]
  rfl
end Sy
set_option maxHeartbeats 0
namespace Sy.En
open Sy PySem PySem.Spec PyProof.Rows L2
abbrev dOf (x : Str) (i : Nat) : He.DefD := ⟨(x, none), x, x, defArgs (top i), defBody (top i), defScope (top i), [], []⟩
abbrev dOfD (x : Str) (i : Nat) (dv : List He.Dv) : He.DefD := ⟨(x, none), x, x, defArgs (top i), defBody (top i), defScope (top i), dv, []⟩
abbrev dMe (m q : Str) (j : Nat) : He.DefD := ⟨("Bed", some m), m, q, defArgs (clb 35 j), defBody (clb 35 j), defScope (clb 35 j), [], []⟩
abbrev dMeC (C m q : Str) (i j : Nat) (kw : List (Str × He.Dv)) : He.DefD := ⟨(C, some m), m, q, defArgs (clb i j), defBody (clb i j), defScope (clb i j), [], kw⟩
def fn : List He.DefD := [dOf "check_count" 16, dOf "arity" 17, dOf "knots_of" 18, dOf "fault" 19, dOf "fault_among" 20, dOf "spans" 21, dOf "span_stop" 22, dOf "kids" 23, dOf "row_paths" 24, dOf "swapped" 25, dOf "check_stump" 28, dOf "united" 29, dOf "only_letters" 33, dOf "is_name" 34, dOf "need_same" 36, dOf "numbered" 38, dOf "first_repeat" 39, dOf "result_fault" 40, dOf "check_trim" 41, dOf "heads_of" 42, dOf "peaks_of" 46, dOf "peaks" 47, dOf "_law_bag" 49, dOf "_law_pick" 50, dOf "_law_word" 51, dOf "_law_words" 52, dOf "_law_kinds" 53, dOf "_law_arity" 54, dOf "_law_bed" 55, dOf "_law_stump" 56, dOf "_law_result" 57, dOf "_law_tame" 58, dOf "_law_made" 59, dOf "_law_held" 60, dOf "_law_stops" 61, dOf "_law_paths" 62, dOf "_law_tagged" 66, dOf "_law_union" 67, dOf "_law_peaks" 68, dOf "_law_same" 69, dOf "law" 70, dMe "__init__" "Bed.__init__" 0, dMe "leaves" "Bed.leaves" 3, dMe "same" "Bed.same" 6, dMeC "Trim" "__init__" "Trim.__init__" 43 0 [], dMeC "Trims" "__init__" "Trims.__init__" 44 0 [("name", .str "trims")]]
def fa : List He.Fa := [.glo "check_count", .glo "arity", .glo "knots_of", .glo "fault", .glo "fault_among", .glo "spans", .glo "span_stop", .glo "kids", .glo "row_paths", .glo "swapped", .glo "check_stump", .glo "united", .glo "only_letters", .glo "is_name", .glo "need_same", .glo "numbered", .glo "first_repeat", .glo "result_fault", .glo "check_trim", .glo "heads_of", .glo "peaks_of", .glo "peaks", .glo "_law_bag", .glo "_law_pick", .glo "_law_word", .glo "_law_words", .glo "_law_kinds", .glo "_law_arity", .glo "_law_bed", .glo "_law_stump", .glo "_law_result", .glo "_law_tame", .glo "_law_made", .glo "_law_held", .glo "_law_stops", .glo "_law_paths", .glo "_law_tagged", .glo "_law_union", .glo "_law_peaks", .glo "_law_same", .glo "law", .free "len", .free "range", .free "reversed", .free "enumerate", .free "tuple", .free "list", .free "int", .free "abs", .free "max", .free "isinstance", .free "bool", .free "str", .free "super", .int "MOST_KNOTS" 2000, .int "MOST_KINDS" 8, .int "MOST_BRANCHES" 3, .int "LONGEST_NAME" 8, .int "MOST_ENTRIES" 200, .int "MOST_TRIMS" 8, .str "HOLE" "*", .glo "Bed", .cls "Bed", .mkr "Bed", .noat "Bed" "arities", .noat "Bed" "rows", .noat "Bed" "kinds", .noat "Bed" "ranks", .meth "Bed" "__init__", .meth "Bed" "leaves", .meth "Bed" "same", .glo "Trim", .cls "Trim", .mkr "Trim", .noat "Trim" "bed", .noat "Trim" "stump", .noat "Trim" "result", .meth "Trim" "__init__", .glo "Trims", .cls "Trims", .mkr "Trims", .noat "Trims" "bed", .noat "Trims" "trims", .noat "Trims" "name", .noat "Trims" "_heads", .meth "Trims" "__init__"]
def ers : List ErD := [⟨"TooMany", "TooMany.__init__", clb 9 0, ["what", "limit"]⟩, ⟨"InvalidStump", "InvalidStump.__init__", clb 4 0, ["place"]⟩, ⟨"InvalidTrim", "InvalidTrim.__init__", clb 5 0, ["place"]⟩, ⟨"OtherBed", "OtherBed.__init__", clb 8 0, []⟩]
abbrev R : PySem.W.OpenRow := PySem.W.OpenLaw.row PySem.Challenge.rw_shearyard_k33_peaks_in_order
/-- the addresses that the facts look at -/
def lit0 : List Addr := [3, 6, 4, 21, 31, 53, 74, 95, 116, 137, 158, 179, 188, 195, 200, 207, 214, 219, 226, 233, 238, 245, 252, 259, 266, 273, 337, 348, 355, 362, 369, 376, 383, 400, 434, 445, 452, 457, 464, 471, 476, 481, 488, 495, 500, 505, 512, 517, 522, 527, 534, 541, 548, 555, 562, 569, 576, 583, 590, 0, 20, 30, 52, 73, 94, 115, 136, 157, 178, 187, 194, 199, 206, 213, 218, 225, 232, 237, 244, 251, 258, 265, 272, 336, 347, 354, 361, 368, 375, 382, 399, 433, 444, 451, 456, 463, 470, 475, 480, 487, 494, 499, 504, 511, 516, 521, 526, 533, 540, 547, 554, 561, 568, 575, 582, 589, 15, 17, 18, 19, 29, 32, 50, 51, 71, 72, 92, 93, 113, 114, 134, 135, 155, 156, 176, 177, 182, 184, 185, 186, 189, 191, 192, 193, 196, 198, 201, 203, 204, 205, 208, 210, 211, 212, 215, 217, 220, 222, 223, 224, 227, 229, 230, 231, 234, 236, 239, 241, 242, 243, 246, 248, 249, 250, 253, 255, 256, 257, 260, 262, 263, 264, 267, 269, 270, 271, 285, 294, 303, 308, 315, 322, 329, 334, 335, 338, 339, 342, 344, 345]
def lit1 : List Addr := [346, 349, 351, 352, 353, 356, 358, 359, 360, 363, 365, 366, 367, 370, 372, 373, 374, 377, 379, 380, 381, 397, 398, 401, 402, 417, 424, 431, 432, 435, 436, 439, 441, 442, 443, 446, 448, 449, 450, 453, 455, 458, 460, 461, 462, 465, 467, 468, 469, 472, 474, 477, 479, 482, 484, 485, 486, 489, 491, 492, 493, 496, 498, 501, 503, 506, 508, 509, 510, 513, 515, 518, 520, 523, 525, 528, 530, 531, 532, 535, 537, 538, 539, 542, 544, 545, 546, 549, 551, 552, 553, 556, 558, 559, 560, 563, 565, 566, 567, 570, 572, 573, 574, 577, 579, 580, 581, 584, 586, 587, 588, 49, 38, 70, 59, 91, 80, 112, 101, 133, 122, 154, 143, 175, 164, 284, 292, 293, 302, 307, 314, 321, 328, 333, 396, 416, 412, 423, 430, 44, 46, 47, 48, 65, 67, 68, 69, 86, 88, 89, 90, 107, 109, 110, 111, 128, 130, 131, 132, 149, 151, 152, 153, 170, 172, 173, 174, 281, 283, 291, 295, 301, 304, 306, 309, 311, 312, 313, 316, 318, 319, 320, 323, 325, 326, 327, 330, 332, 391, 393, 394, 395, 413, 415, 418, 420, 421, 422, 425, 427]
def lit2 : List Addr := [428, 429, 2]
def lit : List Addr := lit0 ++ lit1 ++ lit2
abbrev hk : PySem.W.Hook := hookX R.prog.main.file lit fa fn ers
def ob (s : PySem.W.SharedT) : AlX := obsXG R.prog.main.file lit fa fn ers (HandSHeadRun.getT s)
theorem ob_eq (s : PySem.W.SharedT) : ob s = hk.obs s.abs := obsXG_eq (HandSHeadRun.getT_eq s)
def loose1 : List Str := ["_wall", "YardError", "InvalidBed", "InvalidStump", "InvalidTrim", "InvalidText", "UnknownKind", "OtherBed", "TooMany", "MOST_KINDS", "MOST_BRANCHES", "MOST_KNOTS", "MOST_ENTRIES", "MOST_TRIMS", "check_count", "arity", "knots_of", "fault", "fault_among", "spans", "span_stop", "kids", "row_paths", "swapped", "HOLE", "check_stump", "united", "LONGEST_NAME", "DIGITS", "only_letters"]
def loose2 : List Str := ["is_name", "Bed", "need_same", "numbered", "first_repeat", "check_trim", "heads_of", "Trim", "Trims", "peaks_of", "peaks", "_law_bag", "_law_pick", "_law_word", "_law_words", "_law_kinds", "_law_arity", "_law_bed", "_law_stump", "_law_result", "_law_tame", "_law_made", "_law_held", "_law_stops", "_law_paths", "_law_fits", "_law_cut", "_law_places", "_law_tagged", "_law_union"]
def loose3 : List Str := ["_law_peaks", "_law_same"]
theorem run (w : World) : HandSHeadRun.RunEq R (PySem.W.view R.prog [40, 70]) hk ob 30000 (loose1 ++ loose2 ++ loose3) w := by
  intro os
  kernel_rfl
end Sy.En
namespace Sy
open PySem PySem.Spec PyProof.Rows L2
/-- a def of the top, by its place -/
abbrev DF (K : PySem.W.Frag) (mg : Str → Option Value) (x : Str) (i : Nat) : Prop := FD K x (top i) ∧ mg x = some (.ref (He.ga K x))
section
variable {P : Program} {w : World} {K : PySem.W.Frag} {mg : Str → Option Value} {base : Heap}
def arK (rows : List Sy.Row) : Key → Nat
  | .inl _ => 0
  | .inr x => ar rows x
def isKK (rows : List Sy.Row) : Key → Bool
  | .inl _ => false
  | .inr x => isK rows x
theorem valV_arI (z : Int) : ∀ rows : List Sy.Row, valV (arKV rows) (Sum.inl z : Key) = none
  | [] => rfl
  | r :: rs => by
    show valV ((Sum.inr r.1, V.int (r.2 : Nat)) :: arKV rs) (Sum.inl z : Key) = none
    rw [valV_cons, if_neg (fun z => by cases z), valV_arI z rs]
theorem valV_arK (k : Key) (rows : List Sy.Row) : valV (arKV rows) k = if isKK rows k = true then some (.int (arK rows k : Nat)) else none := by
  cases k with
  | inl z => rw [valV_arI]; rfl
  | inr x =>
    show valV (arKV rows) (Sum.inr x : Key) = if isK rows x = true then some (.int (ar rows x : Nat)) else none
    rw [valV_ar]
    unfold isK ar
    cases rows.lookup x <;> rfl
theorem arK_zero {rows : List Sy.Row} {k : Key} (h : isKK rows k = false) : arK rows k = 0 := by
  cases k with
  | inl z => rfl
  | inr x =>
    have h : (rows.lookup x).isSome = false := h
    show (rows.lookup x).getD 0 = 0
    cases e : rows.lookup x with
    | none => rfl
    | some n => rw [e] at h; cases h
def spArity (K : PySem.W.Frag) : Sp := fun vs H Q _ => ∃ (a : Addr) (rows : List Sy.Row) (k : Key), vs = [.ref a, kV k] ∧ BedAt K H a rows ∧ Q (.int (arK rows k : Nat)) H
theorem sc_arity : FnScope ["bed", "entry"] ["bed", "entry"] (defScope (top 17)) := ⟨rfl, rfl, rfl, by decide +kernel, rfl, by decide +kernel, by decide +kernel⟩
theorem k_arity (T : Txt K mg) (F : DF K mg "arity" 17) : Cal P w K mg base 1 "arity" ["bed", "entry"] (spArity K) := by
  refine cal_of F.1 F.2 sc_arity (fun _ _ _ _ _ _ us e => match us, e with | [_, _], _ => rfl) (fun vs H Q E s => by obtain ⟨a, rows, x, rfl, _⟩ := s; rfl) ?_
  intro cdv A outer s H vs Q E hr h
  obtain ⟨a, rows, x, rfl, hb, hq⟩ := h
  have hu := hu_of hr
  refine ⟨_, pss_one (ps_ret (pe_dget2 hu (pe_fld (pv 0) rfl) (pv 1) pe_int ⟨rfl, rfl, rfl, rfl⟩)), ?_⟩
  obtain ⟨dx, dA, tR, tK, dR, ps, h1, hd, h3, h4, h5, h6⟩ := hb.ex
  refine ⟨_, rfl, a, _, dx, _, _, rfl, h1, T.bed.cl, T.bed.nA, rfl, dA, rfl, .inl ⟨_, .inl hd⟩, _, rfl, _, DGet.k (k := x) hd, ?_⟩
  rw [valV_arK]
  cases c : isKK rows x with
  | true => exact hq
  | false =>
    rw [arK_zero c] at hq
    exact hq
end
end Sy
namespace Sy
open PySem PySem.Spec PyProof.Rows L2
section
variable {P : Program} {w : World} {K : PySem.W.Frag} {mg : Str → Option Value} {base : Heap}
/-! fault_among -/
def fa (rows : List Sy.Row) (lv : List Str) : Nat → Nat → List Str → Int
  | m, i, [] => if 0 < m then (i : Nat) else -1
  | m, i, x :: l => if m = 0 then (i : Nat) else if isK rows x = false ∧ x ∉ lv then (i : Nat) else fa rows lv (m - 1 + ar rows x) (i + 1) l
def spFault (K : PySem.W.Frag) : Sp := fun vs H Q _ => ∃ a r v rows l lv, vs = [.ref a, .ref r, .ref v] ∧ BedAt K H a rows ∧ SqT K H r (l.map V.str) ∧ SqT K H v (lv.map V.str) ∧ ∀ H', Same H H' → Q (.int (fa rows lv 1 0 l)) H'
abbrev N_fault : List Str := ["bed", "row", "leaves", "missing", "index", "entry"]
theorem sc_fault : FnScope N_fault ["bed", "row", "leaves"] (defScope (top 20)) := ⟨rfl, rfl, rfl, by decide +kernel, rfl, by decide +kernel, by decide +kernel⟩
theorem map_at {α β : Type} {f : α → β} {l : List α} {i : Nat} {y : β} (h : (l.map f)[i]? = some y) : ∃ x, l[i]? = some x ∧ y = f x := by
  rw [List.getElem?_map] at h
  cases e : l[i]? with
  | none => rw [e] at h; cases h
  | some x => rw [e] at h; exact ⟨x, rfl, (Option.some.inj h).symm⟩
theorem inV_strs (y : Str) (lv : List Str) : inV (.str y) (lv.map V.str) = decide (y ∈ lv) := by
  unfold inV
  induction lv with
  | nil => rfl
  | cons x l ih =>
    rw [List.map_cons, List.any_cons, ih]
    have : eqV (V.str x) (V.str y) = decide (x = y) := by
      by_cases h : x = y
      · subst h
        simp [eqV]
      · simp [eqV, h]
    rw [this]
    simp [List.mem_cons, eq_comm]
theorem drop_of {α : Type} {l : List α} {i : Nat} {x : α} (h : l[i]? = some x) : l.drop i = x :: l.drop (i + 1) := by
  obtain ⟨hi, e⟩ := List.getElem?_eq_some_iff.mp h
  rw [List.drop_eq_getElem_cons hi, e]
theorem k_fault (T : Txt K mg) (F : DF K mg "fault_among" 20) (c_arity : Cal P w K mg base 1 "arity" ["bed", "entry"] (spArity K)) : Cal P w K mg base 2 "fault_among" ["bed", "row", "leaves"] (spFault K) := by
  refine cal_of F.1 F.2 sc_fault (fun _ _ _ _ _ _ us e => match us, e with | [_, _, _], _ => rfl) (fun vs H Q E s => by obtain ⟨_, _, _, _, _, _, rfl, _⟩ := s; rfl) ?_
  intro cdv A outer s H vs Q E hr h
  obtain ⟨a, r, v, rows, l, lv, rfl, hb, hR, hL, hq⟩ := h
  have hu := hu_of hr
  have sc := sc_fault
  refine ⟨_, (pss_cons (ps_set (i := 3) sc.nd rfl (Or.inl rfl) pe_int)
      (pss_cons (ps_for (passes_of rfl) rfl (pi_enumT (by rfl) T.enumerate (pa_cons (pv 1) pa_nil)) (pg_tup rfl (pgs_cons (pg_name (i := 4) sc.nd rfl (Or.inl rfl)) (pgs_cons (pg_name (i := 5) sc.nd rfl (Or.inl rfl)) pgs_nil)))
        (pss_cons (ps_if (pt_cmpR op_eq (pv 3) pe_int (nomark _))
          (pss_one (ps_ret (pv 4)))
          pss_nil)
        (pss_cons (ps_if (PW.pt (pw_and (pt_cmp (pc_dnotin hu (pv 5) (pe_fld (pv 0) rfl))) (pw_and1 (pt_cmpR op_notIn_seq (pv 5) (pv 2) rfl))))
          (pss_one (ps_ret (pv 4)))
          pss_nil)
        (pss_one (ps_set (i := 3) sc.nd rfl (Or.inl rfl) (pe_op op_add (pe_op op_sub (pv 3) pe_int) (pe_cal c_arity hr (pa_cons (pv 0) (pa_cons (pv 5) pa_nil)))))))))
      (pss_cons (ps_if (pt_cmpR op_gt (pv 3) pe_int (nomark _))
        (pss_one (ps_ret (pe_callB call_len_seq (by rfl) T.len (by decide +kernel) (pa_cons (pv 1) pa_nil))))
        pss_nil)
      (pss_one (ps_ret (pe_un un_neg pe_int)))))), ?_⟩
  refine ⟨_, rfl, r, _, rfl, hR, for_enumT (K := K) (fun i σ H' => ∃ (m : Nat) (z : Int) (s4 s5 : Option V), σ = [some (.ref a), some (.ref r), some (.ref v), some (.int z), s4, s5] ∧ z = (m : Nat) ∧ Same H H' ∧ fa rows lv m i (l.drop i) = fa rows lv 1 0 l) ⟨1, 1, none, none, rfl, rfl, Same.refl H, by rw [List.drop_zero]⟩ (fun i σ H' _ ⟨_, _, _, _, _, _, s, _⟩ => Same.sqt s hR) ?_ ?_⟩
  · intro i x σ H' Tt hx ⟨m, _, s4, s5, hσ, rfl, sm, e⟩ hT
    obtain ⟨y, hy, rfl⟩ := map_at hx
    subst hσ
    rw [drop_of hy] at e
    refine ⟨_, rfl, rfl, _, rfl, if_dec (fun c => ?_) (fun c => ?_)⟩
    · rw [fa, if_pos (by have := V.int.inj c; omega)] at e
      refine ⟨_, rfl, ?_⟩
      rw [e]
      exact hq _ (sm.trans (up_same hT))
    · have c : m ≠ 0 := fun z => c (by rw [z]; rfl)
      rw [fa, if_neg c] at e
      have sm2 : Same H (upd H' Tt (.tup [.int (i : Nat), .str y])) := sm.trans (up_same hT)
      have hb2 := hb.mono (Stay.of sm2)
      obtain ⟨dx, dA, tR, tK, dR, ps, h1, hd, h3, h4, h5, h6⟩ := hb2.ex
      refine ⟨_, rfl, _, rfl, a, _, dx, _, _, rfl, h1, T.bed.cl, T.bed.nA, rfl, dA, _, rfl, DGet.k (k := Sum.inr y) hd, _, rfl, ?_⟩
      have stop : isK rows y = false → y ∉ lv → Q (.int (i : Nat)) (upd H' Tt (.tup [.int (i : Nat), .str y])) := fun z1 z2 => by
        rw [if_pos ⟨z1, z2⟩] at e
        have q := hq _ sm2
        rw [← e] at q
        exact q
      have em : ((m : Int) - 1 + (ar rows y : Nat)) = ((m - 1 + ar rows y : Nat) : Int) := by omega
      have go : ¬ (isK rows y = false ∧ y ∉ lv) → fa rows lv (m - 1 + ar rows y) (i + 1) (l.drop (i + 1)) = fa rows lv 1 0 l := fun z => by
        rw [if_neg z] at e
        exact e
      refine if_bool (fun c2 => ?_) (fun c2 => ?_)
      · have c2 : isK rows y = false := by simpa [valV_ar, isK] using c2
        refine ⟨_, rfl, _, rfl, v, _, rfl, .inr (Same.sqt sm2 hL), rfl, by simp [flatV], _, rfl, ?_⟩
        refine if_bool (fun c3 => ?_) (fun c3 => ?_)
        · exact ⟨_, rfl, stop c2 (by simpa [inV_strs] using c3)⟩
        · exact ⟨_, rfl, _, _, rfl, rfl, _, rfl, _, rfl, a, rows, Sum.inr y, rfl, hb2, _, _, rfl, rfl, _, _, _, _, rfl, em, sm2, go fun z => z.2 (by simpa [inV_strs] using c3)⟩
      · have c2 : isK rows y = true := by simpa [valV_ar, isK] using c2
        exact ⟨_, rfl, _, _, rfl, rfl, _, rfl, _, rfl, a, rows, Sum.inr y, rfl, hb2, _, _, rfl, rfl, _, _, _, _, rfl, em, sm2, go fun z => by rw [c2] at z; cases z.1⟩
  · intro σ H' ⟨m, _, s4, s5, hσ, rfl, sm, e⟩
    subst hσ
    rw [List.drop_of_length_le (by simp), fa] at e
    refine ⟨_, rfl, _, _, rfl, rfl, _, rfl, if_dec (fun c => ?_) (fun c => ?_)⟩
    · rw [if_pos (by omega)] at e
      refine ⟨_, rfl, r, _, rfl, .inr (Same.sqt sm hR), ?_⟩
      have q := hq _ sm
      rw [← e] at q
      exact q
    · rw [if_neg (by omega)] at e
      refine ⟨_, rfl, ?_⟩
      have q := hq _ sm
      rw [← e] at q
      exact q
end
end Sy
namespace Sy
open PySem PySem.Spec PyProof.Rows L2
/-! more words -/
theorem ixN_nat {n j : Nat} (h : j < n) : ixN n (j : Int) = some j := by
  unfold ixN
  rw [if_pos (by omega), if_pos (by omega)]
  rfl
/-- a row of places -/
abbrev vN (l : List Nat) : List V := l.map fun n : Nat => V.int (n : Int)
def DN (l : List Nat) : PyData := .tuple (l.map fun n : Nat => PyData.int (n : Int))
def DS (l : List Str) : PyData := .tuple (l.map PyData.str)
section
variable {K : PySem.W.Frag} {H B B' : Hp} {v : V} {vs : List V} {ds : List PyData}
theorem ImA.nats : ∀ l : List Nat, ImA K H (vN l) (l.map fun n : Nat => PyData.int (n : Int))
  | [] => .nil
  | x :: l => .cons (.int _) (ImA.nats l)
theorem Im.nats {a : Addr} {l : List Nat} (h : SqT K H a (vN l)) : Im K H (.ref a) (DN l) := .tup h (ImA.nats l)
theorem Im.tupI (h : Im K H v (.tuple ds)) : ∃ a xs, v = .ref a ∧ SqT K H a xs ∧ ImA K H xs ds := by
  cases h with
  | tup h1 h2 => exact ⟨_, _, rfl, h1, h2⟩
theorem Im.intI {i : Int} (h : Im K H v (.int i)) : v = .int i := by cases h; rfl
theorem Im.strI {x : Str} (h : Im K H v (.str x)) : v = .str x := by cases h; rfl
theorem ImA.natsI : ∀ {l : List Nat} {vs : List V}, ImA K H vs (l.map fun n : Nat => PyData.int (n : Int)) → vs = vN l
  | [], _, .nil => rfl
  | _ :: _, _, .cons a b => by rw [a.intI, ImA.natsI b]; rfl
theorem ImA.strsI : ∀ {l : List Str} {vs : List V}, ImA K H vs (l.map PyData.str) → vs = l.map V.str
  | [], _, .nil => rfl
  | _ :: _, _, .cons a b => by rw [a.strI, ImA.strsI b]; rfl
theorem Im.natsI {l : List Nat} (h : Im K H v (DN l)) : ∃ a, v = .ref a ∧ SqT K H a (vN l) := by
  obtain ⟨a, xs, rfl, h1, h2⟩ := h.tupI
  rw [h2.natsI] at h1
  exact ⟨a, rfl, h1⟩
theorem Im.strsI {l : List Str} (h : Im K H v (DS l)) : ∃ a, v = .ref a ∧ SqT K H a (l.map V.str) := by
  obtain ⟨a, xs, rfl, h1, h2⟩ := h.tupI
  rw [h2.strsI] at h1
  exact ⟨a, rfl, h1⟩
theorem ImA.set : ∀ {vs : List V} {ds : List PyData} {i : Nat} {d : PyData}, ImA K H vs ds → Im K H v d → ImA K H (vs.set i v) (ds.set i d)
  | _, _, _, _, .nil, _ => .nil
  | _, _, 0, _, .cons _ b, h => .cons h b
  | _, _, i + 1, _, .cons a b, h => .cons a (ImA.set b h)
theorem ImA.snoc {d : PyData} (h : ImA K H vs ds) (g : Im K H v d) : ImA K H (vs ++ [v]) (ds ++ [d]) := h.app (.cons g .nil)
end
/-! comprehensions over a tuple -/
abbrev LcW (J : It) (g : TG) (tt : TT) (te : TE) (vs : List Nat) (σ : L2.St) (H1 : Hp) (D : Addr) (Qd : Hp → Prop) : Prop := ∃ W : Nat → Nat → Hp → Prop, (∃ m, W 0 m (upd H1 D (.lst []))) ∧ ∀ i m H, W i m H → (J.stop i H ∧ Qd H) ∨
  (J.go i H ∧ ∃ Nx : Hp → Prop, (∀ H', Nx H' → ∃ m', m' < m ∧ W (i + 1) m' H') ∧ ∀ x H', J.yld i H x H' → g x (wipe σ vs) H' fun σ2 H2 => wipe σ2 vs = wipe σ vs ∧ tt σ2 H2 fun b H3 => if b = true then te σ2 H3 fun y H4 => ∃ acc, H4 D = some (.lst acc) ∧ acc.length < sizeLine ∧ Nx (upd H4 D (.lst (acc ++ [y]))) else Nx H3)
/-- [e for x in t] -/
theorem wipe_one (σ : L2.St) (i : Nat) (v : Option V) : wipe (σ.set i v) [i] = wipe σ [i] := by
  show (σ.set i v).set i none = σ.set i none
  rw [List.set_set]
theorem lc_map {K : PySem.W.Frag} {a : Addr} {xs : List V} {si : Nat} {te : TE} {σ : L2.St} {H B : Hp} {L : List (Addr × HO)} {D : Addr} {Qd : Hp → Prop} (h : Hs B L H) (hD : H D = none) (hx : SqT K B a xs) (hsz : xs.length ≤ 1000000)
    (Pv : Nat → Hp → List V → Prop) (h0 : Pv 0 B [])
    (hs : ∀ i x B' acc H', xs[i]? = some x → Same B B' → Pv i B' acc → Hs B' ((D, .lst acc) :: L) H' →
      ∀ R : VK, (∀ y H4 B4, Same B' B4 → Hs B4 ((D, .lst acc) :: L) H4 → Pv (i + 1) B4 (acc ++ [y]) → R y H4) → te ((wipe σ [si]).set si (some x)) H' R)
    (hd : ∀ B' acc H', Same B B' → Pv xs.length B' acc → Hs B' ((D, .lst acc) :: L) H' → Qd H') : LcW (Itt K a) (gName si) tYes te [si] σ H D Qd := by
  refine lc_tup (K := K) (a := a) (xs := xs) (fun i H' => i ≤ xs.length ∧ ∃ B' acc, acc.length = i ∧ Same B B' ∧ Pv i B' acc ∧ Hs B' ((D, .lst acc) :: L) H') ⟨Nat.zero_le _, B, [], rfl, Same.refl B, h0, h.new hD⟩ ?_ ?_ ?_
  · rintro i H' _ ⟨_, B', acc, _, s, _, hh⟩
    exact Same.sqt (s.trans hh.sub) hx
  · rintro i x H' hxi ⟨hi, B', acc, ha, s, p, hh⟩
    have lt : i < xs.length := (List.getElem?_eq_some_iff.mp hxi).1
    refine ⟨wipe_one _ _ _ |>.trans (by show (σ.set si none).set si none = σ.set si none; rw [List.set_set]), ?_⟩
    simp only [tYes, if_true]
    refine hs i x B' acc H' hxi s p hh _ (fun y H4 B4 s4 h4 p4 => ?_)
    exact ⟨acc, h4.r0, by rw [sizeLine_eq]; omega, by omega, B4, acc ++ [y], by rw [List.length_append, ha]; rfl, s.trans s4, p4, h4.w0⟩
  · rintro H' ⟨_, B', acc, _, s, p, hh⟩
    exact hd B' acc H' s p hh
end Sy
/-! try: .. except X as e: suite, further clauses behind it that are not reached -/
namespace Sy
open PySem PySem.Spec PyProof.Rows L2
/-- what the body may raise: what the first clause catches -/
def wFst (K : PySem.W.Frag) (c : Value) (i : Nat) (ts : Addr → Value → Option Addr → TS) (D : Ends) : WX := fun cls d σ H => PySem.W.exmOne K cls c = some true ∧ ∀ a, H a = none →
  ts a cls d { nx := fun σ' H' => D.nx (σ'.set i none) H', rt := D.rt, bk := fun σ' H' => D.bk (σ'.set i none) H', ct := fun σ' H' => D.ct (σ'.set i none) H' } (σ.set i (some (.ref a))) H
theorem ps_try_fst {X : Cx} {x n : Str} {c : Value} {i : Nat} {body suite : List Stmt} {b₀ : Stmt} {np pos pos' : Pos} {hds : List ExceptHandler} {tb : WX → TS} {ts : Addr → Value → Option Addr → TS}
    (hs : X.stack = X.env :: X.outer) (hf : X.env.frame = some X.env.locals) (hN : X.N.Nodup) (hi : X.N[i]? = some n) (hln : X.env.kindOf n = some .local) (hc : Names X x c)
    (hb : ∀ (W : WX) (pn : List (Addr × Obj)) (xe : Value → Shared → Prop), Takes (X.tr pn xe) W → PassesOwn (model X.prog X.w) X.A X.env xe → PSs (X.tr pn xe) body (tb W))
    (hsu : ∀ (a : Addr) (oe : Obj) (cls : Value) (d : Option Addr) (pn : List (Addr × Obj)), Zc cls d oe → (∃ vs, oe.data = .fields vs) → PSs (X.suite a ((a, oe) :: pn)) (b₀ :: suite) (ts a cls d)) :
    PS X (.Try body (.ExceptHandler (some (.Name x np)) (some n) (b₀ :: suite) pos' :: hds) [] [] pos) (fun D σ H => tb (wFst X.K c i ts D) D σ H) := by
  constructor
  intro pins s σ H D I h
  have ok := I.ok
  have fr0 : X.A.frames = some (X.env :: X.outer) := by rw [ok.frames, hs]
  apply wpAny_Try_except
  refine wpAny_mono ((hb (wFst X.K c i ts D) (X.pn ++ pins) (fun e s₁ => wpAny (model X.prog X.w) X.A (noteFrame e X.env) (fun _ s₂ => wpAny (model X.prog X.w) X.A (setFlight e none) (fun _ s₃ =>
    wpAny (model X.prog X.w) X.A (handleBy e X.env (.ExceptHandler (some (.Name x np)) (some n) (b₀ :: suite) pos' :: hds)) (SP X pins D) X.xe s₃) X.xe s₂) X.xe s₁) (fun u s' q => ?cat) PassesOwn.looking).run [] s σ H D (I.toTry _) h) (fun f s1 q => ?fin) (fun _ _ q => q)
  case fin =>
    cases f
    case next =>
      obtain ⟨_, _, J, z⟩ := q
      exact wpAny_execs_nil ⟨_, _, J.ofTry ok, z⟩
    case brk =>
      obtain ⟨_, _, J, z⟩ := q
      exact ⟨_, _, J.ofTry ok, z⟩
    case cont =>
      obtain ⟨_, _, J, z⟩ := q
      exact ⟨_, _, J.ofTry ok, z⟩
    case ret =>
      obtain ⟨_, _, _, J, rv, z⟩ := q
      exact ⟨_, _, _, J.ofTry ok, rv, z⟩
  case cat =>
    obtain ⟨a, B, sI, pins', σ1, H1, cls, d, rfl, J', nb, up, sky, na, os, ag, hcat, hgo⟩ := q
    have J : Inv X pins σ1 H1 sI := J'.ofTry ok
    rw [hs] at sky
    show wpAny (model X.prog X.w) X.A (noteFrame (.ref a) X.env) _ _ _
    refine Sky.land Zc.steady fr0 hf sky fun h3 fl up3 => ?_
    have J3 : Inv X pins σ1 H1 { s' with heap := h3 } := J.landed nb fl.1 (up.trans up3) os ag
    obtain ⟨o3, v3, g3, z3, d3⟩ := fl.there
    have off : a ∉ frs (X.env :: X.outer) := fun hm => by
      obtain ⟨_, _, e', no⟩ := fl.2.2.1.mem hm
      rw [g3] at e'
      cases e'
      exact no _ d3
    have nL : a ≠ X.env.locals := fun z => off (List.mem_filterMap.mpr ⟨X.env, List.mem_cons_self, by rw [hf, z]⟩)
    have nF : a ∉ X.fs := fun hm => by
      obtain ⟨e, he, z⟩ := List.mem_filterMap.mp hm
      exact off (List.mem_filterMap.mpr ⟨e, List.mem_cons_of_mem _ he, z⟩)
    have S3 := J3.suite g3 d3 na nL nF
    refine wpAny_handleBy_cons (codeAny_handlers_test ?_) (by intro z; cases z)
    have LT : PySem.W.Looks (model X.prog X.w) h3 (typeOf (.ref a)) cls := fun _ _ _ _ k z => wpAny_typeOf_ref (k _ _ g3) (by rw [z3.1]; exact z)
    have LM := PySem.W.exm_one (M := model X.prog X.w) J3.kIn LT hcat
    have go2 : ∀ {Q E : Value → Shared → Prop}, Q c { s' with heap := h3 } → wpAny (model X.prog X.w) (X.A.mark (some (.ref a))) (eval (.Name x np) X.env) Q E { s' with heap := h3 } := fun {Q E} z => by
      rcases hc with ⟨g, dbg, m | ⟨m, v, nn⟩⟩
      · exact ld_glob (X := X.suite a ((a, o3) :: (X.pn ++ pins))) S3 g m z dbg
      · exact ld_blt (X := X.suite a ((a, o3) :: (X.pn ++ pins))) S3 g m v z nn dbg
    refine go2 (LM.here ?_)
    refine codeAny_handlers_suite_as ?_
    refine HandSPX.lands_againZ fl fun h4 fl4 up4 => ?_
    have J4 : Inv X pins σ1 H1 { s' with heap := h4 } := J.landed nb fl4.1 ((up.trans up3).trans up4) os ag
    obtain ⟨o4, v4, g4, z4, d4⟩ := fl4.there
    refine store_ok (X := X.suite a ((a, o4) :: (X.pn ++ pins))) (v := .ref a) (J4.suite g4 d4 na nL nF) hN hi (.inl hln) rfl (fun s5 S5 => ?_) (.inr hln)
    refine wpAny_mono ((hsu a o4 cls d (X.pn ++ pins) z4 ⟨_, d4⟩).run [] s5 _ H1 _ S5 (hgo a na)) (fun f s6 q => ?_) (fun _ _ z => z.elim)
    have shut : ∀ {σ6 : L2.St} {H6 : Hp} {R : Shared → Prop}, Inv (X.suite a ((a, o4) :: (X.pn ++ pins))) [] σ6 H6 s6 → (∀ s7, Inv X pins (σ6.set i none) H6 s7 → R s7) →
        wpAny (model X.prog X.w) X.A (do bindName X.env n .none; unbindBehindTheSuite X.env n pos') (fun _ s7 => R s7) X.xe s6 := fun S6 k => gone_ok (S6.unsuite ok) hN hi hln k
    cases f
    case next =>
      obtain ⟨_, _, S6, z⟩ := q
      exact shut S6 fun _ J7 => ⟨_, _, J7, z⟩
    case brk =>
      obtain ⟨_, _, S6, z⟩ := q
      exact shut S6 fun _ J7 => ⟨_, _, J7, z⟩
    case cont =>
      obtain ⟨_, _, S6, z⟩ := q
      exact shut S6 fun _ J7 => ⟨_, _, J7, z⟩
    case ret =>
      obtain ⟨_, _, _, S6, rv, z⟩ := q
      exact shut S6 fun _ J7 => ⟨_, _, _, J7, rv, z⟩
end Sy
/-! own errors: their __init__, raising them -/
namespace Sy
open PySem PySem.Spec PyProof.Rows L2
/-- the class x, its __init__ by its row, its fields -/
structure ErrB (P : Program) (K : PySem.W.Frag) (mg : Str → Option Value) (x q : Str) (st : Stmt) (fs : List Str) : Prop where
  sup : ∃ (cc cd : Addr) (kV doc pm : Value) (an : Option Addr) (ct : Value), SupF P K (He.ga K x) (iniA K x) cc cd q (defArgs st) (defBody st) (defScope st) (PySem.W.fnX "__init__" q (defArgs st) (defBody st) (defScope st) [("__class__", cc)] .none kV doc pm an (.ref cd) ct)
  iC : PySem.W.findIn K (.ref (He.ga K x)) "__init__" = some (some (.ref (iniA K x)))
  tI : PySem.W.typeIn K (.ref (iniA K x)) = some (.type "function")
  at_ : mg x = some (.ref (He.ga K x))
  ex : PySem.W.exmOne K (.ref (He.ga K x)) (.ref (He.ga K x)) = some true
  xf : XfC K (He.ga K x)
  no : ∀ f ∈ fs, PySem.W.findIn K (.ref (He.ga K x)) f = some none
  mS : mg "super" = none
  top : (P.main.scope.names.lookup ("super" : Str)).isSome = false
/-- raised: a new dict with these fields, beside what stood -/
def Ra (K : PySem.W.Frag) (x : Str) (fs : List (Str × V)) (H : Hp) (E : XK) : Prop := ∀ d H', Same H H' → H' d = some (.xd fs) → E (.ref (He.ga K x)) (some d) H'
def spInit (C : Addr) (ok : List V → Hp → List (Str × V) → Prop) : Sp := fun vs H Q _ => ∃ a us fs, vs = .ref a :: us ∧ ok us H fs ∧ H a = some (exo a C none) ∧
  ∀ dx H', H dx = none → dx ≠ a → H' a = some (exo a C (some dx)) → H' dx = some (exd dx fs) → (∀ b, b ≠ a → b ≠ dx → H' b = H b) → Q .non H'
theorem mk_ra {K : PySem.W.Frag} {x : Str} {ok : List V → Hp → List (Str × V) → Prop} {us : List V} {H : Hp} {fs : List (Str × V)} {E : XK} (hok : ∀ H', Same H H' → ok us H' fs) (hl : us.length ≤ 1000) (h : Ra K x fs H E) :
    us.length ≤ 1000 ∧ ∀ a, H a = none → spInit (He.ga K x) ok (.ref a :: (us ++ [])) (upd H a (exo a (He.ga K x) none)) (fun v H2 => v = .non ∧ ∃ (d : Addr) (fs : List (Str × V)), H2 a = some (exo a (He.ga K x) (some d)) ∧ H2 d = some (exd d fs) ∧ H d = none ∧ E (.ref (He.ga K x)) (some d) (upd (L2.del H2 a) d (.xd fs))) (fun _ _ _ => False) := by
  refine ⟨hl, fun a ha => ⟨a, us, fs, by rw [List.append_nil], hok _ (up_same ha), upd_same, fun dx H' h1 h2 h3 h4 h5 => ⟨rfl, dx, fs, h3, h4, by rw [upd_ne h2] at h1; exact h1, h dx _ (fun b o e => ?_) upd_same⟩⟩⟩
  have hb : b ≠ a := fun z => by rw [z, ha] at e; cases e
  have hd : H dx = none := by rw [upd_ne h2] at h1; exact h1
  have hb2 : b ≠ dx := fun z => by rw [z, hd] at e; cases e
  rw [upd_ne hb2, del_ne hb, h5 b hb hb2, upd_ne hb]
  exact e
section
variable {P : Program} {w : World} {K : PySem.W.Frag} {mg : Str → Option Value} {base : Heap}
/-! TooMany(what, limit) -/
def okTM : List V → Hp → List (Str × V) → Prop := fun us _ fs => ∃ (x : Str) (n : Int), us = [.str x, .int n] ∧ x.length ≤ 100 ∧ n.natAbs.log2 < 1920 ∧ (toString n : Str).length ≤ 1000 ∧ fs = ([("limit", V.int n), ("what", V.str x)] : List (Str × V))
abbrev N_tm : List Str := ["self", "what", "limit", "__class__"]
theorem sc_tm : NdefX.NScope N_tm ["self", "what", "limit"] ["__class__"] (defScope (clb 9 0)) := ⟨rfl, rfl, rfl, by decide +kernel, rfl, by decide +kernel, by decide +kernel, by decide +kernel, by decide +kernel⟩
theorem i_tm (T : ErrB P K mg "TooMany" "TooMany.__init__" (clb 9 0) ["what", "limit"]) : ∃ fd, FnOk P w K mg base CX0 1 (iniA K "TooMany") fd ["self", "what", "limit"] (spInit (He.ga K "TooMany") okTM) ∧ L2.Binds K fd ["self", "what", "limit"] [] := by
  obtain ⟨cc, cd, kV, doc, pm, an, ct, S⟩ := T.sup
  refine ⟨_, fn_sup (k := 0) S sc_tm rfl rfl rfl rfl rfl T.mS T.top (fun vs H Q E s => by obtain ⟨_, _, _, rfl, ⟨_, _, rfl, _⟩, _⟩ := s; rfl) (fun _ => rfl) (fun _ => rfl) (fun _ _ => rfl) ?_, .all fun us e => match us, e with | [_, _, _], _ => rfl⟩
  intro A outer s H vs Q E hr h
  obtain ⟨a, us, fs, rfl, ⟨x, n, rfl, hx, hn, hn2, rfl⟩, ha, hq⟩ := h
  refine ⟨_, _, pa_cons (pe_joined (.cons pe_str (.cons (pe_fmt (pv 1)) (.cons pe_str (.cons (pe_fmt (pv 2)) .nil))))) pa_nil, pss_cons (ps_ost (pv 0) (pv 1)) (pss_one (ps_ost (pv 0) (pv 2))), a, _, rfl, ha, ?_⟩
  have L1 : ((Str.empty : Str) ++ ("too many " : Str)).length = 9 := by decide +kernel
  have L2' : (": the limit is " : Str).length = 15 := by decide +kernel
  refine ⟨_, rfl, by rw [L1]; decide, _, rfl, .inl ⟨x, rfl, by rw [sizeLine_eq]; omega, _, rfl, ?_, _, rfl, ?_, _, rfl, .inr ⟨n, rfl, hn, _, rfl, ?_, (by show 1 ≤ 1000; decide), ha, _, rfl, _, rfl, a, _, rfl, S.oex, T.no _ (by decide), .inl ⟨ha, fun dx h1 h2 => ⟨_, rfl, _, rfl, a, _, rfl, S.oex, T.no _ (by decide), .inr ⟨dx, _, upd_same, by rw [upd_ne h2]; exact upd_same, (by show 1 ≤ 900; decide), hq dx _ h1 h2 ?_ upd_same ?_⟩⟩⟩⟩⟩⟩
  · rw [PySem.Str.length_append, L1, sizeLine_eq]
    omega
  · rw [PySem.Str.length_append, PySem.Str.length_append, L1, L2', sizeLine_eq]
    omega
  · rw [PySem.Str.length_append, PySem.Str.length_append, PySem.Str.length_append, L1, L2', sizeLine_eq]
    omega
  · rw [upd_ne h2.symm]
    exact upd_same
  · intro b hb hb2
    rw [upd_ne hb2, upd_ne hb, upd_ne hb2]
/-- raise TooMany(.., ..) -/
theorem mk_tm {X : Cx} {k : Nat} {p pos : Pos} {e1 e2 : Expr} {ta : TA} (T : ErrB X.prog X.K X.mg "TooMany" "TooMany.__init__" (clb 9 0) ["what", "limit"]) (hr : Room k X.A) (hg : Gl X "TooMany") (ha : PA X [e1, e2] ta)
    (hx : Passes CX0 X (fun _ _ _ => False)) (hk : 2 ≤ k := by decide) (he : starEach [e1, e2] X.env = (false, eval e1 X.env) :: starEach [e2] X.env := by rfl) (hpl : (backTo pos (starEach [e2] X.env)).any (·.1) = false := by rfl) :
    PMk X (.Call (.Name "TooMany" p) [e1, e2] [] pos) (tMkO (He.ga X.K "TooMany") (spInit (He.ga X.K "TooMany") okTM) [] ta) := by
  obtain ⟨fd, F, B⟩ := i_tm (w := X.w) (base := X.base) T
  obtain ⟨cc, cd, kV, doc, pm, an, ct, S⟩ := T.sup
  exact pmk_oex S.oex T.iC T.tI F (hr.mono hk) B .nil hx hg T.at_ ha rfl he hpl
/-! NoPath(path) -/
/-! check_count -/
def spCount (K : PySem.W.Frag) : Sp := fun vs H Q E => ∃ n : Int, vs = [.int n] ∧ (n ≤ 2000 → Q .non H) ∧ (2000 < n → Ra K "TooMany" [("limit", .int 2000), ("what", .str "knots")] H E)
theorem sc_count : FnScope ["number"] ["number"] (defScope (top 16)) := ⟨rfl, rfl, rfl, by decide +kernel, rfl, by decide +kernel, by decide +kernel⟩
theorem k_count (T : Txt K mg) (TM : ErrB P K mg "TooMany" "TooMany.__init__" (clb 9 0) ["what", "limit"]) (F : DF K mg "check_count" 16) : Cal P w K mg base 3 "check_count" ["number"] (spCount K) := by
  refine cal_of F.1 F.2 sc_count (fun _ _ _ _ _ _ us e => match us, e with | [_], _ => rfl) (fun vs H Q E s => by obtain ⟨_, rfl, _⟩ := s; rfl) ?_
  intro cdv A outer s H vs Q E hr h
  obtain ⟨n, rfl, h1, h2⟩ := h
  have sc := sc_count
  refine ⟨_, (pss_one (ps_if (pt_cmpR op_gt (pv 0) (pe_gint rfl T.MOST_KNOTS) (nomark _))
        (pss_one (ps_raise rfl (takes_of rfl rfl rfl rfl) (mk_tm TM hr rfl (pa_cons pe_str (pa_cons (pe_gint rfl T.MOST_KNOTS) pa_nil)) pass0)))
        pss_nil)), ?_⟩
  refine ⟨_, rfl, _, _, rfl, rfl, _, rfl, if_dec (fun c => ?_) (fun c => ?_)⟩
  · exact mk_ra (fun _ _ => ⟨_, _, rfl, by decide +kernel, by decide +kernel, by decide +kernel, rfl⟩) (by show 2 ≤ 1000; decide) (h2 c)
  · exact h1 (by omega)
end
end Sy
/-! < of data, min of a list of data (own rules over the library's) -/
namespace Sy
open PySem PySem.Spec PyProof.Rows L2 PySem.W
def rLtD (K : PySem.W.Frag) : R2 := fun x y H Q => ∃ d e, Dp K H x d ∧ Dp K H y e ∧ alike d e = true ∧ d ≠ .none ∧ d.depth ≤ 40 ∧ Q (.bl (dataLt d e)) H
theorem op_ltD {X : Cx} (hu : X.A.units + 65 < cLine) : OpR X (compareOp .Lt) (rLtD X.K) := by
  intro pins s σ H x y v u Q I rx ry h
  obtain ⟨d, e, hd, he, ha, hn, hl, q⟩ := h
  obtain ⟨as, r1⟩ := Dp.reads I d x v hd rx
  obtain ⟨bs, r2⟩ := Dp.reads I e y u he ry
  exact lt_data r1 r2 ha hn (by have := Nat.min_le_left d.depth e.depth; omega) ⟨.bl _, H, I, rfl, q⟩
end Sy
/-! min(l, key=lambda x: ..), the lambda with one parameter and captured cells; the table of code objects told exactly -/
namespace Sy
open PySem PySem.Spec PyProof.Rows L2 PySem.W LamX NdefX
/-- the table ps tells code objects of the name q, known in H -/
def TbOk (H : Hp) (ps : Array Value) (q : Str) : Prop := TriplesOk ps.toList ∧ ∀ (pos : Pos) (cv : Value), codeAmong pos ps.toList = some cv → ∃ c, cv = .ref c ∧ H c = some (CodeO c q)
theorem TbOk.nil (H : Hp) (q : Str) : TbOk H #[] q := ⟨True.intro, fun pos cv hc => by
  have z : codeAmong pos [] = some cv := hc
  simp [codeAmong] at z⟩
theorem codeO_nl {c : Addr} {q : Str} (xs : List V) : CodeO c q ≠ .lst xs := fun z => by
  unfold CodeO at z
  cases z
theorem TbOk.stay {H H' : Hp} {ps : Array Value} {q : Str} (t : TbOk H ps q) (s : Stay H H') : TbOk H' ps q := ⟨t.1, fun pos cv hc => by
  obtain ⟨c, e1, e2⟩ := t.2 pos cv hc
  exact ⟨c, e1, s _ _ e2 fun xs => codeO_nl xs⟩⟩
theorem TbOk.same {H H' : Hp} {ps : Array Value} {q : Str} (t : TbOk H ps q) (s : Same H H') : TbOk H' ps q := t.stay (Stay.of s)
/-- the object at f is such a lambda -/
def LamO (f : Addr) (q : Str) (params : Arguments) (body : Expr) (scope : Scope) (cl : List (Str × Addr)) (c : Addr) : HO := .ext fun h => ∃ pm ctv, h.get? f = some (kla_obj "<lambda>" q params body scope cl pm c ctv)
section
variable {X : Cx} {pins : List (Addr × Obj)} {σ : L2.St} {H : Hp} {s : Shared}
theorem inv_lam {q : Str} {params : Arguments} {body : Expr} {scope : Scope} {cl : List (Str × Addr)} {c : Addr} {h' : Heap} {t' : Nat} {pm ctv : Value} (I : Inv X pins σ H { s with heap := h', toks := t' }) :
    Inv X pins σ (upd H h'.objs.size (LamO h'.objs.size q params body scope cl c)) { s with heap := h'.push (kla_obj "<lambda>" q params body scope cl pm c ctv), toks := t' } := by
  have e : (h'.push (kla_obj "<lambda>" q params body scope cl pm c ctv)).get? h'.objs.size = some (kla_obj "<lambda>" q params body scope cl pm c ctv) := Heap.get?_push_size _ rfl
  exact I.laid (a := h'.objs.size) (t' := t') (fun b u e => Heap.get?_push_of_some _ e) (Nat.le_refl _) ⟨⟨_, _, e⟩, ⟨_, e⟩, fun h1 h2 ⟨p, z, k⟩ st => ⟨p, z, st _ k⟩⟩
theorem lam_makeC {c P : Addr} {ps : Array Value} {params : Arguments} {body : Expr} {scope : Scope} {pos : Pos} {E : Value → Shared → Prop} {Q : Value → Shared → Prop} (I : Inv X pins σ H s) (TB : TabB X.base X.mg c P) (hcode : X.env.code = .ref c)
    (hP : H P = some (.tbl ps)) (hT : TbOk H ps (X.env.qual ++ "<lambda>")) (hdef : defaultsOf params X.env = ([], [])) (hfree : ∀ y ∈ scope.names, y.2 = .free → ∃ c, X.env.cells.lookup y.1 = some c)
    (h : ∀ (f c' : Addr) (ps' : Array Value) (H1 : Hp) (s' : Shared), Inv X pins σ H1 s' → Chg P (.tbl ps') H H1 → TbOk H1 ps' (X.env.qual ++ "<lambda>") →
      H f = none → H1 f = some (LamO f (X.env.qual ++ "<lambda>") params body scope (cloFrom X.env.cells scope.names []) c') → H1 c' = some (CodeO c' (X.env.qual ++ "<lambda>")) → Q (.ref f) s') :
    wpAny (model X.prog X.w) X.A (eval (.Lambda params body scope pos) X.env) Q E s := by
  obtain ⟨ht, ha⟩ := hT
  refine PySem.W.kla_eval hdef ?_
  have bP : s.heap.BuiltinsAt X.mg P := TB.bm.keeps I.bk
  have hP' : s.heap.get? P = some { cls := .none, data := .fields ps } := I.hok P _ hP
  cases hc : codeAmong pos ps.toList with
  | none =>
    refine PySem.W.kla_makeFunction (mg := X.mg) (c := c) (P := P) (ps := ps) (closure_ok hfree) I.ok.glob (I.mod.glob.keeps I.bk) hcode (TB.code.keeps I.bk) hP' ht hc TB.gP bP fun c' ctv h' tk hx hge hlt hrec htb => ?_
    obtain ⟨c2, oc, vs, t, e2, hoc, hd, hv⟩ := hrec
    cases e2
    have hsz : s.heap.objs.size ≤ h'.objs.size := Nat.le_trans hge (Nat.le_of_lt hlt)
    have nC : H c' = none := I.hok.fresh hge
    have I1 := inv_table (t' := tk) (more := #[rawInt pos.line, rawInt pos.col, .ref c']) (h' := h') I hP (fun b o hb e => hx b o hb e) htb hge ⟨oc, vs, t, hoc, hd, hv⟩
    have nF : (upd (upd H P (.tbl (ps ++ #[rawInt pos.line, rawInt pos.col, .ref c']))) c' (CodeO c' (X.env.qual ++ "<lambda>"))) h'.objs.size = none := I1.hok.fresh (Nat.le_refl _)
    have I2 := inv_lam (pm := (X.mg "__name__").getD .none) (ctv := ctv) (q := X.env.qual ++ "<lambda>") (params := params) (body := body) (scope := scope) (cl := cloFrom X.env.cells scope.names []) (c := c') I1
    have eL : (ps ++ #[rawInt pos.line, rawInt pos.col, .ref c']).toList = ps.toList ++ [rawInt pos.line, rawInt pos.col, .ref c'] := by simp
    have cat : upd (upd (upd H P (.tbl (ps ++ #[rawInt pos.line, rawInt pos.col, .ref c']))) c' (CodeO c' (X.env.qual ++ "<lambda>"))) h'.objs.size (LamO h'.objs.size (X.env.qual ++ "<lambda>") params body scope (cloFrom X.env.cells scope.names []) c') c' = some (CodeO c' (X.env.qual ++ "<lambda>")) := by
      rw [upd_ne (Nat.ne_of_lt hlt), upd_same]
    have chg : Chg P (.tbl (ps ++ #[rawInt pos.line, rawInt pos.col, .ref c'])) H (upd (upd (upd H P (.tbl (ps ++ #[rawInt pos.line, rawInt pos.col, .ref c']))) c' (CodeO c' (X.env.qual ++ "<lambda>"))) h'.objs.size (LamO h'.objs.size (X.env.qual ++ "<lambda>") params body scope (cloFrom X.env.cells scope.names []) c')) := by
      refine ⟨?_, fun a w ne e => ?_⟩
      · have n1 : P ≠ h'.objs.size := Nat.ne_of_lt (Nat.lt_of_lt_of_le (Heap.lt_size hP') hsz)
        rw [upd_ne n1, upd_ne (ne_of_none hP nC), upd_same]
      · have e1 : upd (upd H P (.tbl (ps ++ #[rawInt pos.line, rawInt pos.col, .ref c']))) c' (CodeO c' (X.env.qual ++ "<lambda>")) a = some w := by
          rw [upd_ne (ne_of_none e nC), upd_ne ne]
          exact e
        rw [upd_ne (ne_of_none e1 nF)]
        exact e1
    refine h h'.objs.size c' _ _ _ I2 chg ⟨by rw [eL]; exact PySem.TriplesOk_snoc _ _ _ _ ht, fun p' cv hcv => ?_⟩ (I.hok.fresh hsz) upd_same cat
    rw [eL] at hcv
    rcases among_app _ ht hcv with z | z
    · obtain ⟨c0, e1, e2⟩ := ha p' cv z
      refine ⟨c0, e1, chg.2 _ _ (fun q => ?_) e2⟩
      rw [q, hP] at e2
      exact codeO_ne _ (Option.some.inj e2).symm
    · exact ⟨c', z, cat⟩
  | some cv =>
    obtain ⟨c', e, hco⟩ := ha pos cv hc
    subst e
    refine PySem.W.kla_makeFunctionHit (mg := X.mg) (c := c) (P := P) (ps := ps) (closure_ok hfree) I.ok.glob (I.mod.glob.keeps I.bk) hcode (TB.code.keeps I.bk) hP' ht hc bP fun ctv h' tk hx hsz => ?_
    have I1 : Inv X pins σ H { s with heap := h', toks := tk } := I.kept hx
    have nF : H h'.objs.size = none := I1.hok.fresh (Nat.le_refl _)
    have I2 := inv_lam (pm := (X.mg "__name__").getD .none) (ctv := ctv) (q := X.env.qual ++ "<lambda>") (params := params) (body := body) (scope := scope) (cl := cloFrom X.env.cells scope.names []) (c := c') I1
    have chg : Chg P (.tbl ps) H (upd H h'.objs.size (LamO h'.objs.size (X.env.qual ++ "<lambda>") params body scope (cloFrom X.env.cells scope.names []) c')) :=
      ⟨by rw [upd_ne (ne_of_none hP nF)]; exact hP, fun a w ne e => by rw [upd_ne (ne_of_none e nF)]; exact e⟩
    refine h h'.objs.size c' ps _ _ I2 chg ⟨ht, fun p' cv hcv => ?_⟩ nF upd_same (by rw [upd_ne (ne_of_none hco nF)]; exact hco)
    obtain ⟨c0, e1, e2⟩ := ha p' cv hcv
    exact ⟨c0, e1, by rw [upd_ne (ne_of_none e2 nF)]; exact e2⟩
/-- the lambda called with one argument; nothing tracked changes -/
theorem lam_run {N fr : List Str} {js : List Nat} {x : Str} {q : Str} {params : Arguments} {body : Expr} {scope : Scope} {cl : List (Str × Addr)} {c f : Addr} {k : Nat} {tb : TE} {v w : V} {u : Value} {E : Value → Shared → Prop} {Qq : Value → Shared → Prop}
    (I : Inv X pins σ H s) (S : NScope N [x] fr scope) (cp : Caps X cl fr js) (hr : Room (k + 2) X.A) (hf : H f = some (LamO f q params body scope cl c)) (hc : H c = some (CodeO c q))
    (hbind : ∀ (pm cv ctv : Value) (u : Value), bindArgs (kla_fn "<lambda>" q params body scope cl pm cv ctv) ⟨[u], []⟩ = pure [(x, u)])
    (hbody : ∀ (A : Around) (outer : List Env) (s : Shared) (H : Hp), Room k (A.deeper (envF ⟨"<lambda>", q, params, [], scope, cl, c⟩ f s.heap.objs.size)) → PE (ncx C8.CX0 X.prog X.w X.K X.mg X.base N ⟨"<lambda>", q, params, [], scope, cl, c⟩ f A outer s H C8.E0) body tb)
    (rv : RelV v u) (ht : tb (startF N [v] (js.map (slotAt σ))) H fun w' H' => w' = w ∧ H' = H)
    (h : ∀ u' s', Inv X pins σ H s' → Un (frs X.stack) [] H H s.heap s'.heap → RelV w u' → Qq u' s') : wpAny (model X.prog X.w) X.A.in1 (call (.ref f) [u]) Qq E s := by
  have C : CellsAt cl fr (js.map (slotAt σ)) s.heap H := cells_of I cp
  obtain ⟨⟨pm, ctv, ho⟩, _, _⟩ := I.hok f _ hf
  have hrec := codeO_at I.hok hc
  have e0 : Env0 X.prog X.w X.K X.mg X.base X.A.in1 X.stack s H := I.env0.in1
  have hr1 : Room (k + 1) X.A.in1 := hr.in1
  have rc : codeAny (model X.prog X.w) X.A.in1 (.call (.ref f) ⟨[u], []⟩) (CR C8.CX0 X.stack X.prog X.w H s (fun w' H' => w' = w ∧ H' = H) C8.E0) s := by
    refine PySem.W.kla_callFunE hr1.depth ho rfl S.co S.gen rfl hrec ?_
    rw [hbind]
    refine wpAny_pure (wpAny_newFunctionEnv S.nocell (fun y hy => ?_) (fun h₁ hns hsb => ⟨I.nolimit.fresh _ hsb, ?_⟩) S.kind)
    · rw [List.mem_singleton.mp hy]
      exact S.par x List.mem_cons_self
    show codeAny _ _ (.expr body (envF ⟨"<lambda>", q, params, [], scope, cl, c⟩ f s.heap.objs.size)) _ _
    have kp : ∀ b o, s.heap.get? b = some o → h₁.get? b = some o := fun b o e => hsb.extBut b o (Nat.ne_of_lt (Heap.lt_size e)) (Heap.get?_push_of_some _ e)
    have J : Inv (ncx C8.CX0 X.prog X.w X.K X.mg X.base N ⟨"<lambda>", q, params, [], scope, cl, c⟩ f X.A.in1 X.stack s H C8.E0) [] (startF N [v] (js.map (slotAt σ))) H { s with heap := h₁, toks := s.toks + ([(x, u)] : List (Str × Value)).length } :=
      inv_startN (ps := [x]) (us := [u]) S hr1.hd e0 rfl (.cons rv .nil) C hns kp
    refine PySem.W.kla_codeExpr (wpAny_mono ((hbody _ _ s H (hr1.deeper _)).run [] _ _ H _ J ht) (fun v s' hq => ?_) fun e s' hq => hq)
    obtain ⟨w', H', J', rv', q'⟩ := hq
    exact ⟨w', H', J'.os, J'.bare, J'.base, J'.hok, rv', q'⟩
  refine wpAny_call (codeAny_mono rc fun r s' hq => ?_)
  cases r with
  | error e => exact (show False from hq).elim
  | ok fl =>
    cases fl with
    | ret u' =>
      obtain ⟨w', H', os, bare, un, hok, rw', q1, q2⟩ := hq
      subst q1
      subst q2
      obtain ⟨w2, H2, I2, r2, q1, q2⟩ := I.after (Q := fun a b => a = w' ∧ b = H') ⟨w', H', os, bare, un, hok, rw', rfl, rfl⟩
      subst q1
      subst q2
      exact h u' s' I2 un r2
    | next => exact False.elim hq
    | brk => exact False.elim hq
    | cont => exact False.elim hq
end
theorem upd_back {H : Hp} {l : Addr} {o u : HO} (h : H l = some u) : upd (upd H l o) l u = H := by
  funext a
  by_cases e : a = l
  · rw [e, upd_same, h]
  · rw [upd_ne e, upd_ne e]
/-- all but l stays -/
def But (l : Addr) (H H' : Hp) : Prop := ∀ a o, a ≠ l → H a = some o → H' a = some o
def tMinL (K : PySem.W.Frag) (P : Addr) (q : Str) (N : List Str) (js : List Nat) (tb : TE) (te : TA) : TE := fun σ H Q => te σ H fun vs H1 => ∃ ps, H1 P = some (.tbl ps) ∧ TbOk H1 ps q ∧ ∀ ps' H2, Chg P (.tbl ps') H1 H2 → TbOk H2 ps' q →
  ∃ (l : Addr) (items ws : List V) (ds : List PyData), vs = [.ref l] ∧ H2 l = some (.lst items) ∧ 0 < items.length ∧ ws.length = items.length ∧ DpAll K H2 ws ds ∧ AlikeAll ds ∧ PyData.depthAll ds ≤ 40 ∧
    (∀ H3, But l H2 H3 → DpAll K H3 ws ds ∧ ∀ (i : Nat) (x w : V), items[i]? = some x → ws[i]? = some w → tb (startF N [x] (js.map (slotAt σ))) H3 fun w' H' => w' = w ∧ H' = H3) ∧
    ∀ x, items[argBest (fun i j => dataLt (ds.getD i .none) (ds.getD j .none)) (items.length - 1)]? = some x → Q x H2
section
variable {X : Cx}
theorem dpAll_at {K : PySem.W.Frag} {H : Hp} : ∀ {xs : List V} {ds : List PyData} {i : Nat} {x : V}, DpAll K H xs ds → xs[i]? = some x → ds[i]? = some (ds.getD i .none) ∧ Dp K H x (ds.getD i .none)
  | _, _, _, _, .nil, h => by simp at h
  | _, _, 0, _, .cons r _, h => by
    have := Option.some.inj h
    subst this
    exact ⟨rfl, r⟩
  | _, _, i + 1, _, .cons _ t, h => dpAll_at (i := i) t h
theorem vals_at {xs : List V} {us : List Value} (h : Vals xs us) {i : Nat} {u : Value} (e : us[i]? = some u) : ∃ x, xs[i]? = some x ∧ RelV x u := by
  induction h generalizing i with
  | nil => simp at e
  | cons r t ih =>
    cases i with
    | zero =>
      simp at e
      subst e
      exact ⟨_, rfl, r⟩
    | succ i => exact ih (by simpa using e)
theorem depth_mem {d : PyData} : ∀ {ds : List PyData}, d ∈ ds → d.depth ≤ PyData.depthAll ds
  | [], h => by cases h
  | x :: l, h => by
    rcases List.mem_cons.mp h with rfl | h
    · exact Nat.le_max_left _ _
    · exact Nat.le_trans (depth_mem h) (Nat.le_max_right _ _)
theorem pe_minLam {P c : Addr} {N fr : List Str} {js : List Nat} {x : Str} {params : Arguments} {body e : Expr} {scope : Scope} {lpos kp p pos : Pos} {k : Nat} {tb : TE} {te : TA}
    (hg : Gl X "min") (hm : X.mg "min" = none) (ha : PA X [e] te) (TB : TabB X.base X.mg c P) (hcode : X.env.code = .ref c) (hcalm : X.calm = true) (hr : Room (k + 3) X.A)
    (S : NScope N [x] fr scope) (hfree : ∀ y ∈ scope.names, y.2 = .free → X.env.scope.names.lookup y.1 = some .cell ∨ X.env.scope.names.lookup y.1 = some .free) (hfr : ∀ y ∈ fr, (y, NameKind.free) ∈ scope.names) (hjs : js.map (fun j => X.N[j]?) = fr.map some)
    (hdef : defaultsOf params X.env = ([], [])) (hbind : ∀ (q : Str) (cl : List (Str × Addr)) (pm cv ctv : Value) (u : Value), bindArgs (kla_fn "<lambda>" q params body scope cl pm cv ctv) ⟨[u], []⟩ = pure [(x, u)])
    (hbody : ∀ (A : Around) (outer : List Env) (s : Shared) (H : Hp) (cl : List (Str × Addr)) (c f : Addr), Room k (A.deeper (envF ⟨"<lambda>", X.env.qual ++ "<lambda>", params, [], scope, cl, c⟩ f s.heap.objs.size)) →
      PE (ncx C8.CX0 X.prog X.w X.K X.mg X.base N ⟨"<lambda>", X.env.qual ++ "<lambda>", params, [], scope, cl, c⟩ f A outer s H C8.E0) body tb)
    (he : backTo pos (starEach (e :: []) X.env) = (false, eval e X.env) :: backTo pos (starEach [] X.env) := by rfl) :
    PE X (.Call (.Name "min" p) [e] [⟨some "key", .Lambda params body scope lpos, kp⟩] pos) (tMinL X.K P (X.env.qual ++ "<lambda>") N js tb te) := by
  refine ⟨fun pins s σ H Q I h => ?_⟩
  have hfr2 : ∀ y ∈ scope.names, y.2 = .free → ∃ c, X.env.cells.lookup y.1 = some c := fun y hy e => (hfree y hy e).elim (fun z => I.ok.has _ (.inl z)) fun z => I.ok.has _ (.inr z)
  have cp : Caps X (cloFrom X.env.cells scope.names []) fr js := Caps.made I.ok hfree hfr hjs
  refine wpAny_Call_Name_kw (ld_blt I hg hm (by rfl) ?_ (by decide) (by decide))
  have hpl : (backTo pos (starEach (e :: []) X.env)).any (·.1) = false := by
    rw [he]
    rfl
  refine PyProof.Rows.callWith_kw (thn (ha.run pos pins s σ H _ I h) fun us s1 ⟨vs, H1, I1, r1, ps, hP, hT, q1⟩ => kws_cons (lam_makeC I1 TB hcode hP hT hdef hfr2 fun f c' ps' H2 s2 I2 chg tok nf hf hc => kws_nil ?_)) he hpl (by rfl) (by rfl)
  show wpAny (model X.prog X.w) X.A (call (.builtin "min") us [(Str.ofString "key", .ref f)]) _ _ _
  obtain ⟨l, items, ws, ds, rfl, hl, hn0, hwl, hds, hal, hdep, hrd, hq⟩ := q1 ps' H2 chg tok
  obtain ⟨u, rfl, rx⟩ := vals1 r1
  obtain rfl : u = Value.ref l := rx
  obtain ⟨od, I3⟩ := I2.lock hl True.intro
  have h3l : upd H2 l (.frz od (.lst items)) l = some (.frz od (.lst items)) := upd_same
  obtain ⟨its, rv, pl, hz⟩ := I3.list (.inl (.inr ⟨_, h3l⟩))
  have hnf : f ≠ l := fun z => by
    rw [z, hl] at hf
    cases hf
  have hnc : c' ≠ l := fun z => by
    rw [z, hl] at hc
    exact codeO_nl _ (Option.some.inj hc).symm
  have hf3 : upd H2 l (.frz od (.lst items)) f = some _ := (upd_ne hnf).trans hf
  have hc3 : upd H2 l (.frz od (.lst items)) c' = some _ := (upd_ne hnc).trans hc
  obtain ⟨hds3, hrd3⟩ := hrd _ fun a o ne e => (upd_ne ne).trans e
  have hu := hr.un
  have hh := I3.ok.hd hcalm
  have hlen : its.length = items.length := rv.length.symm
  refine call_min_walkK (iter_listW (A := X.A.in1) hh pl.isList fun s₃ e₃ W st hfp hw hk => ?_)
  have I4 : Inv X pins σ (upd H2 l (.frz od (.lst items))) s₃ := by
    rw [e₃]
    exact I3.kept (t' := s2.toks) fun b o e => Heap.get?_push_of_some _ e
  have sz3 : s₃.heap.objs.size = s2.heap.objs.size + 1 := by
    rw [e₃]
    exact Heap.size_push _ _
  have fpI : FpOk X pins (upd H2 l (.frz od (.lst items))) s2.heap.objs.size := I3.fpOk (Nat.le_refl _) (I3.hok.fresh (Nat.le_refl _))
  have fpS : FpOk X pins (upd H2 l (.frz od (.lst items))) s₃.heap.objs.size := I4.fpOk (Nat.le_refl _) (I4.hok.fresh (Nat.le_refl _))
  refine ⟨_, _, _, _, _, _, _, (fun s => Inv X pins σ (upd H2 l (.frz od (.lst items))) s), (fun i u _ => ∃ w, ws[i]? = some w ∧ RelV w u), (fun i j => dataLt (ds.getD i .none) (ds.getD j .none)), rfl, W, st, hfp, by rw [List.size_toArray]; omega, ?_, I4, fun v s' hPv hJ => ?_⟩
  · refine ⟨fun sa sb J m => ?_, fun i k sa sb hv m => hv, fun i v sa o Qa Ea hi hPv hJ hst hS cont => ?_, fun i j ki kj sa Qa Ea hJ hi hj hQ => ?_⟩
    · have eb : sb = { sa with heap := sb.heap, toks := sb.toks } := by
        obtain ⟨hp, g, d, tk, os⟩ := sb
        have h1 : g = sa.gens := m.gens
        have h2 : d = sa.drawn := m.drawn
        have h3 : os = sa.os := m.os
        subst h1
        subst h2
        subst h3
        rfl
      rw [eb]
      refine J.turnedL (ch := [s₃.heap.objs.size, s2.heap.objs.size]) (fun b o hb e => m.heap b o hb e) fun b hb => ?_
      rcases List.mem_cons.mp hb with rfl | hb
      · exact fpS
      · rw [List.mem_singleton.mp hb]
        exact fpI
    · have hPv' : its[i]? = some v := by simpa using hPv
      obtain ⟨xi, hxi, rxi⟩ := vals_at rv hPv'
      have hlt : i < items.length := by
        have := hi
        rw [List.size_toArray] at this
        omega
      have hwi : ws[i]? = some ws[i] := List.getElem?_eq_getElem (by omega)
      refine lam_run (k := k) hJ S cp (hr.mono (by omega)) hf3 hc3 (hbind _ _) (fun A outer s H r => hbody A outer s H _ _ _ r) rxi (hrd3 i xi _ hxi hwi) fun u' s' I' un r' => ?_
      have kp : ∀ b o, FpOk X pins (upd H2 l (.frz od (.lst items))) b → sa.heap.get? b = some o → s'.heap.get? b = some o := fun b o fp e => un.keep b o e fp.1 (fun z => (List.mem_cons.mp (hJ.stkSub b z)).elim fp.2.1 fp.2.2.1) (by simp)
      have hl' : s'.heap.IsList l its.toArray := by
        obtain ⟨e1, _⟩ := hJ.hok l _ h3l
        obtain ⟨e2, _⟩ := I'.hok l _ h3l
        obtain ⟨o1, e3, k1, k2⟩ := hst.2
        exact ⟨o1, by rw [e2, ← e1]; exact e3, k1, k2⟩
      have hI' : s'.heap.IsListIter s2.heap.objs.size l (i + 1) := by
        obtain ⟨o1, e3, k1⟩ := hst.1
        exact ⟨o1, kp _ _ fpI e3, k1⟩
      exact cont u' s' I' ⟨hI', hl'⟩ (kp _ _ fpS hS) ⟨_, hwi, r'⟩ fun j k' hv => hv
    · obtain ⟨wi, hwi, ri⟩ := hi
      obtain ⟨wj, hwj, rj⟩ := hj
      obtain ⟨mi, di⟩ := dpAll_at hds3 hwi
      obtain ⟨mj, dj⟩ := dpAll_at hds3 hwj
      obtain ⟨as, r1⟩ := Dp.reads hJ _ wi ki di ri
      obtain ⟨bs, r2⟩ := Dp.reads hJ _ wj kj dj rj
      have m1 := List.mem_of_getElem? mi
      have m2 := List.mem_of_getElem? mj
      refine lt_data r1 r2 (hal.1 _ m1 _ m2) (hal.2 _ m1) ?_ hQ
      have := Nat.min_le_left (ds.getD i .none).depth (ds.getD j .none).depth
      have := depth_mem m1
      show X.A.units + 1 + _ < _
      omega
  · have hPv' : its[argBest (fun i j => dataLt (ds.getD i .none) (ds.getD j .none)) (its.length - 1)]? = some v := by simpa using hPv
    rw [hlen] at hPv'
    obtain ⟨xi, hxi, rxi⟩ := vals_at rv hPv'
    have I5 := hJ.unlock h3l (I2.nofrz hl True.intro)
    rw [upd_back hl] at I5
    exact ⟨xi, H2, I5, rxi, hq xi hxi⟩
end
end Sy
/-! functions with captured cells that are handed to a def of the module and called there -/
namespace Sy
open PySem PySem.Spec PyProof.Rows L2 LamX NdefX
/-- the function at f, whose cells hold ws; kn: what has to be known of it -/
structure FnV (P : Program) (w : World) (K : PySem.W.Frag) (mg : Str → Option Value) (base : Heap) (k : Nat) (f : Addr) (cl : List (Str × Addr)) (fr : List Str) (ws : List (Option V)) (kn : Hp → Prop) (sp : Sp) : Prop where
  run : ∀ (A : Around) (outer : List Env) (s : Shared) (H : Hp) (us : List Value) (vs : List V) (Q : VK) (E : XK), Room k A → Env0 P w K mg base A outer s H → kn H → CellsAt cl fr ws s.heap H → Vals vs us → sp vs H Q E →
    codeAny (model P w) A (.call (.ref f) ⟨us, []⟩) (CR (L2.CX P w) outer P w H s Q E) s
  at_ : ∀ (H : Hp) (h : Heap), HOk P w H h → kn H → PySem.W.FnAt f h
  mono : ∀ H H', kn H → Stay H H' → kn H'
theorem fnO_nl {f : Addr} {F : NF} (xs : List V) : FnO f F ≠ .lst xs := fun z => by
  unfold FnO at z
  cases z
section
variable {P : Program} {w : World} {K : PySem.W.Frag} {mg : Str → Option Value} {base : Heap}
/-- a def made within a def -/
theorem fnv_of {k : Nat} {f : Addr} {F : NF} {ps fr : List Str} {ws : List (Option V)} {sp : List (Option V) → Sp} (o : NOk P w K mg base (L2.CX P w) k f F ps fr sp) :
    FnV P w K mg base k f F.cl fr ws (fun H => H f = some (FnO f F) ∧ H F.c = some (CodeO F.c F.qual)) (sp ws) where
  run A outer s H us vs Q E hr e0 kn C r q := o.run A outer s H us vs ws Q E hr e0 kn.1 kn.2 C r q
  at_ H h hok kn := by
    obtain ⟨od, sl, doc, pm, ctv, ho⟩ := fnO_at hok kn.1
    exact ⟨_, od, _, sl, ho⟩
  mono H H' kn s := ⟨s _ _ kn.1 fnO_nl, s _ _ kn.2 codeO_nl⟩
/-- promises of a def that is given such a function -/
abbrev VSp := List (Str × Addr) → List Str → List (Option V) → Sp
structure VOk (P : Program) (w : World) (K : PySem.W.Frag) (mg : Str → Option Value) (base : Heap) (k : Nat) (f : Addr) (fd : FuncData) (ps : List Str) (sp : VSp) : Prop where
  len : ∀ cl fr ws vs H Q E, sp cl fr ws vs H Q E → vs.length = ps.length
  run : ∀ (A : Around) (outer : List Env) (s : Shared) (H : Hp) (args : Args) (us : List Value) (vs : List V) (Q : VK) (E : XK) (cl : List (Str × Addr)) (fr : List Str) (ws : List (Option V)), Room k A → Env0 P w K mg base A outer s H → BindsTo s fd args (ps.zip us) →
    CellsAt cl fr ws s.heap H → (∀ y c, cl.lookup y = some c → c ∉ frs outer) → Vals vs us → sp cl fr ws vs H Q E → codeAny (model P w) A (.call (.ref f) args) (CR (L2.CX P w) outer P w H s Q E) s
theorem VOk.mono {j k : Nat} {f : Addr} {fd : FuncData} {ps : List Str} {sp : VSp} (F : VOk P w K mg base j f fd ps sp) (h : j ≤ k) : VOk P w K mg base k f fd ps sp :=
  ⟨F.len, fun A outer s H args us vs Q E cl fr ws hr => F.run A outer s H args us vs Q E cl fr ws (hr.mono h)⟩
/-- THE RULE: such a def by its body -/
theorem vn_of {k : Nat} {f : Addr} {name qual : Str} {params : Arguments} {body : List Stmt} {scope : Scope} {dV kV doc pm cdv ct oc : Value} {an od : Option Addr} {osl : Array (Option Value)} {N ps : List Str} {sp : VSp}
    (lk : K.lookup f = some ⟨oc, od, .func (PySem.W.fnOf name qual params body scope dV kV doc pm an cdv ct), osl⟩) (hcd : PySem.W.codeIn K cdv qual = true) (S : FnScope N ps scope)
    (len : ∀ cl fr ws vs H Q E, sp cl fr ws vs H Q E → vs.length = ps.length)
    (hbody : ∀ (A : Around) (outer : List Env) (s : Shared) (H : Hp) (vs : List V) (Q : VK) (E : XK) (cl : List (Str × Addr)) (fr : List Str) (ws : List (Option V)), Room k (A.deeper (envOfC qual scope s.heap.objs.size f cdv)) →
      CellsAt cl fr ws s.heap H → (∀ y c, cl.lookup y = some c → c ∉ frs outer) → sp cl fr ws vs H Q E →
      ∃ t, PSs (cxOf (L2.CX P w) P w K mg base N qual scope f cdv A outer s H E) body t ∧ t { nx := fun _ H' => Q .non H', rt := Q } (start N vs) H) :
    VOk P w K mg base (k + 1) f (PySem.W.fnOf name qual params body scope dV kV doc pm an cdv ct) ps sp := by
  refine ⟨len, fun A outer s H args us vs Q E cl fr ws hr e0 hb C nf r hsp => ?_⟩
  have hl := len _ _ _ _ _ _ _ hsp
  have KX : K.In s.heap := e0.mod.kin.keeps fun b o e => (e0.bs b o e).1
  have lim : s.heap.NoLimit := e0.mod.nolimit.keeps fun b o e => (e0.bs b o e).1
  have hkind : ∀ y ∈ ps.zip us, scope.names.lookup y.1 = some .local ∨ (scope.names.lookup y.1 = some .cell ∧ ((cellsFrom (s.heap.objs.size + 1) scope.names []).lookup y.1).isSome = true) := fun ⟨n, v⟩ hy => by
    rcases S.par n (List.of_mem_zip hy).1 with q | q
    · exact .inl q
    · exact .inr ⟨q, PySem.W.cellsFrom_some _ _ _ (.inl q)⟩
  refine codeAny_call_function hr.depth (KX _ _ lk) rfl S.co S.gen rfl (PySem.W.codeRec_of KX hcd) (hb _ _ _ _ ?_)
  refine wpAny_newFunctionEnv_cells S.kind hkind fun env he s1 x => ?_
  subst he
  refine ⟨lim.keeps x.toInCall.keep, codeAny_func ?_⟩
  obtain ⟨t, ht, hq⟩ := hbody A outer s H vs Q E cl fr ws (hr.deeper _) C nf hsp
  have I : Inv (cxOf (L2.CX P w) P w K mg base N qual scope f cdv A outer s H E) [] (start N vs) H s1 := inv_start S hr.hd e0 hl r x
  refine wpAny_mono (ht.run [] s1 (start N vs) H _ I hq) (fun fl s' hs => ?_) fun e s' hs => hs
  have fin : ∀ {σ' : L2.St} {H' : Hp} {v : V} {u : Value}, Inv (cxOf (L2.CX P w) P w K mg base N qual scope f cdv A outer s H E) [] σ' H' s' → RelV v u → Q v H' → CE outer P w H s Q u s' :=
    fun {σ' H' v u} J rv q => ⟨v, H', J.os, J.bare, J.base, J.hok, rv, q⟩
  cases fl with
  | ret u =>
    obtain ⟨v, σ', H', J, rv, q⟩ := hs
    exact fin J rv q
  | next =>
    obtain ⟨σ', H', J, q⟩ := hs
    exact fin (v := V.non) (u := Value.none) J rfl q
  | brk =>
    obtain ⟨_, _, _, q⟩ := hs
    exact False.elim q
  | cont =>
    obtain ⟨_, _, _, q⟩ := hs
    exact False.elim q
end
/-! ### the call of the parameter -/
/-- x(..), the slot i holds the function -/
def tCallV (f : Addr) (i : Nat) (kn : Hp → Prop) (sp : Sp) (t : TA) : TE := fun σ H Q => σ[i]? = some (some (.ref f)) ∧ kn H ∧ t σ H fun vs H1 => kn H1 ∧ sp vs H1 Q E0
section
variable {X : Cx} {cl : List (Str × Addr)} {fr : List Str} {ws : List (Option V)} {kn : Hp → Prop} {sp : Sp} {f : Addr} {i j k : Nat} {x : Str} {t : TA} {e : Expr} {es : List Expr} {p pos : Pos}
theorem pe_callv (Fn : FnV X.prog X.w X.K X.mg X.base k f cl fr ws kn sp) (C : CellsAt cl fr ws X.s_0.heap X.H_0) (nf : ∀ y c, cl.lookup y = some c → c ∉ X.fs) (hex : X.ex = []) (hr : Room j X.A) (hk : k ≤ j) (hN : X.N[i]? = some x) (hv : Vis X.env.scope x) (ha : PA X (e :: es) t)
    (hd : (x == ("__debug__" : Str)) = false := by decide) (hcd : (x == ("__classdict__" : Str)) = false := by decide)
    (he : starEach (e :: es) X.env = (false, eval e X.env) :: starEach es X.env := by rfl) (hpl : (backTo pos (starEach es X.env)).any (·.1) = false := by rfl) : PE X (.Call (.Name x p) (e :: es) [] pos) (tCallV f i kn sp t) := by
  refine ⟨fun pins s σ H Q I h => ?_⟩
  obtain ⟨hs, hf, ht⟩ := h
  refine wpAny_Call_Name_kw (thn ((pe_var (pos := p) hN hv hd hcd).run pins s σ H (fun v H1 => v = .ref f ∧ H1 = H) I ⟨.ref f, hs, rfl, rfl⟩) fun u s1 ⟨v, H1, I1, r1, q1⟩ => ?_)
  obtain ⟨ev, eH⟩ := q1
  subst ev
  rw [eH] at I1
  obtain rfl : u = Value.ref f := r1
  refine PySem.W.callWith_F (first := []) (Fn.at_ _ _ I1.hok hf) (thn (ha.run pos pins s1 σ H _ I1 ht) fun us s2 ⟨vs, H2, I2, r, h1, q⟩ => ⟨Fn.at_ _ _ I2.hok h1, ?_⟩) he hpl
  show wpAny _ _ (call (.ref f) us) _ _ _
  have C2 : CellsAt cl fr ws s2.heap H2 := C.later nf (fun y c _ => by rw [hex]; exact List.not_mem_nil) I2
  refine wpAny_call (codeAny_mono (Fn.run X.A X.stack s2 H2 us vs Q E0 (hr.mono hk) I2.env0 h1 C2 r q) fun r s' hq => ?_)
  cases r with
  | error e => exact passL pins σ H2 s2 e s' I2 hq
  | ok fl =>
    cases fl with
    | ret u => exact I2.after hq
    | next => exact False.elim hq
    | brk => exact False.elim hq
    | cont => exact False.elim hq
end
/-! ### the call that hands the function over -/
structure CalV (P : Program) (w : World) (K : PySem.W.Frag) (mg : Str → Option Value) (base : Heap) (k : Nat) (x : Str) (ps : List Str) (dvs : List V) (sp : VSp) : Prop where
  fn : ∃ fd ds, VOk P w K mg base k (He.ga K x) fd ps sp ∧ Binds K fd ps ds ∧ Vals dvs ds
  at_ : mg x = some (.ref (He.ga K x))
  kp : PySem.W.keepIn K (.ref (He.ga K x)) = true
theorem cells_nf {X : Cx} {pins : List (Addr × Obj)} {σ : L2.St} {H : Hp} {s : Shared} (I : Inv X pins σ H s) (hfn : ∀ y, X.fn y = true) {y : Str} {c : Addr} (h : X.env.cells.lookup y = some c) : c ∉ frs X.stack := fun hm => by
  rcases List.mem_cons.mp (I.stkSub c hm) with z | z
  · obtain ⟨v, o, ho, hd⟩ := I.cell y c h
    obtain ⟨m, ⟨o', es, ep, ho', hd', _⟩, _⟩ := I.loc
    rw [z, ho'] at ho
    cases ho
    first | (rw [hd'] at hd; cases hd) | (rw [hd] at hd'; simp at hd')
  · obtain ⟨_, o, ho, _⟩ := I.ok.funs.mem z
    have h1 := I.ok.cab y c (hfn y) h
    have h2 := Heap.lt_size ho
    exact absurd h2 (Nat.not_lt.mpr h1)
/-- x(..) that is given a function made here, with the captured names fr -/
def tCalV (sp : VSp) (cl : List (Str × Addr)) (fr : List Str) (js : List Nat) (dvs : List V) (W : WX) (t : TA) : TE := fun σ H Q => t σ H fun vs H1 => sp cl fr (js.map (slotAt σ)) (vs ++ dvs) H1 Q (WE W σ)
section
variable {X : Cx} {cl : List (Str × Addr)} {fr : List Str} {js : List Nat} {dvs : List V} {sp : VSp} {j k : Nat} {x : Str} {ps : List Str} {t : TA} {W : WX} {e : Expr} {es : List Expr} {p pos : Pos}
theorem pe_calV (c : CalV X.prog X.w X.K X.mg X.base j x ps dvs sp) (cp : X.Ok → Caps X cl fr js) (hfn : ∀ y, X.fn y = true) (hr : Room k X.A) (tk : Takes X W) (ha : PA X (e :: es) t) (hk : j ≤ k := by decide) (hg : Gl X x := by rfl) (hdb : (x == ("__debug__" : Str)) = false := by decide)
    (he : starEach (e :: es) X.env = (false, eval e X.env) :: starEach es X.env := by rfl) (hpl : (backTo pos (starEach es X.env)).any (·.1) = false := by rfl) : PE X (.Call (.Name x p) (e :: es) [] pos) (tCalV sp cl fr js dvs W t) := by
  obtain ⟨fd, ds, F, b, hd⟩ := c.fn
  refine ⟨fun pins s σ H Q I h => ?_⟩
  refine wpAny_Call_Name_kw (ld_glob I hg c.at_ ?_ hdb)
  refine PySem.W.callWith_K (h₀ := X.base) I.ok.mod.kin c.kp (thn (ha.run pos pins s σ H _ I h) fun us s1 ⟨vs, H1, I1, r, q⟩ => ⟨I1.kIn, ?_⟩) he hpl
  have r2 : Vals (vs ++ dvs) (us ++ ds) := r.append hd
  have hl : (us ++ ds).length = ps.length := by rw [← r2.length]; exact F.len _ _ _ _ _ _ _ q
  have cps := cp I1.ok
  refine wpAny_call (codeAny_mono ((F.mono hk).run X.A X.stack s1 H1 ⟨us, []⟩ (us ++ ds) (vs ++ dvs) Q (WE W σ) cl fr _ hr I1.env0 (b s1 us I1.kIn hl) (cells_of I1 cps) (fun y c e => cells_nf I1 hfn (cps.sub y c e)) r2 q) fun r s' hq => ?_)
  cases r with
  | error e => exact passAt tk σ pins H1 s1 e s' I1 hq
  | ok fl =>
    cases fl with
    | ret u => exact I1.after hq
    | next => exact False.elim hq
    | brk => exact False.elim hq
    | cont => exact False.elim hq
end
end Sy
/-! a lambda with captured cells as a value -/
namespace Sy
open PySem PySem.Spec PyProof.Rows L2 PySem.W LamX NdefX
theorem lamO_nl {f : Addr} {q : Str} {params : Arguments} {body : Expr} {scope : Scope} {cl : List (Str × Addr)} {c : Addr} (xs : List V) : LamO f q params body scope cl c ≠ .lst xs := fun z => by
  unfold LamO at z
  cases z
abbrev lamF (q : Str) (params : Arguments) (scope : Scope) (cl : List (Str × Addr)) (c : Addr) : NF := ⟨"<lambda>", q, params, [], scope, cl, c⟩
section
variable {P : Program} {w : World} {K : PySem.W.Frag} {mg : Str → Option Value} {base : Heap}
theorem fnv_lam {k : Nat} {f c : Addr} {q : Str} {params : Arguments} {body : Expr} {scope : Scope} {cl : List (Str × Addr)} {N ps fr : List Str} {ws : List (Option V)} {sp : Sp} (S : NScope N ps fr scope)
    (hbind : ∀ (pm cv ctv : Value) (us : List Value), us.length = ps.length → bindArgs (kla_fn "<lambda>" q params body scope cl pm cv ctv) ⟨us, []⟩ = pure (ps.zip us))
    (len : ∀ vs H Q E, sp vs H Q E → vs.length = ps.length)
    (hbody : ∀ (A : Around) (outer : List Env) (s : Shared) (H : Hp) (vs : List V) (Q : VK) (E : XK), Room k (A.deeper (envF (lamF q params scope cl c) f s.heap.objs.size)) → sp vs H Q E →
      ∃ t, PE (ncx (L2.CX P w) P w K mg base N (lamF q params scope cl c) f A outer s H E) body t ∧ t (startF N vs ws) H Q) :
    FnV P w K mg base (k + 1) f cl fr ws (fun H => H f = some (LamO f q params body scope cl c) ∧ H c = some (CodeO c q)) sp where
  run A outer s H us vs Q E hr e0 kn C r hsp := by
    have hl := len _ _ _ _ hsp
    have lim : s.heap.NoLimit := e0.mod.nolimit.keeps fun b o e => (e0.bs b o e).1
    obtain ⟨⟨pm, ctv, ho⟩, _, _⟩ := e0.hok f _ kn.1
    have hrec := codeO_at e0.hok kn.2
    refine PySem.W.kla_callFunE hr.depth ho rfl S.co S.gen rfl hrec ?_
    rw [hbind _ _ _ us (by rw [← r.length]; exact hl)]
    refine wpAny_pure (wpAny_newFunctionEnv S.nocell (fun ⟨n, _⟩ hy => S.par n (List.of_mem_zip hy).1) (fun h₁ hns hsb => ⟨lim.fresh _ hsb, ?_⟩) S.kind)
    show codeAny _ _ (.expr body (envF (lamF q params scope cl c) f s.heap.objs.size)) _ _
    have kp : ∀ b o, s.heap.get? b = some o → h₁.get? b = some o := fun b o e => hsb.extBut b o (Nat.ne_of_lt (Heap.lt_size e)) (Heap.get?_push_of_some _ e)
    obtain ⟨t, ht, hq⟩ := hbody A outer s H vs Q E (hr.deeper _) hsp
    have J : Inv (ncx (L2.CX P w) P w K mg base N (lamF q params scope cl c) f A outer s H E) [] (startF N vs ws) H { s with heap := h₁, toks := s.toks + (ps.zip us).length } := inv_startN S hr.hd e0 hl r C hns kp
    refine PySem.W.kla_codeExpr (wpAny_mono (ht.run [] _ _ H _ J hq) (fun v s' hs => ?_) fun e s' hs => hs)
    obtain ⟨w', H', J', rv', q'⟩ := hs
    exact ⟨w', H', J'.os, J'.bare, J'.base, J'.hok, rv', q'⟩
  at_ H h hok kn := by
    obtain ⟨⟨pm, ctv, ho⟩, _, _⟩ := hok f _ kn.1
    exact ⟨_, _, _, _, ho⟩
  mono H H' kn s := ⟨s _ _ kn.1 lamO_nl, s _ _ kn.2 codeO_nl⟩
end
section
variable {P : Program} {w : World} {K : PySem.W.Frag} {mg : Str → Option Value} {base : Heap}
theorem fnv_lamH {k : Nat} {f c : Addr} {q : Str} {params : Arguments} {body : Expr} {scope : Scope} {cl : List (Str × Addr)} {N ps fr : List Str} {ws : List (Option V)} {sp : Sp} {H1 : Hp} (_ : H1 f = some (LamO f q params body scope cl c)) (_ : H1 c = some (CodeO c q)) (S : NScope N ps fr scope)
    (hbind : ∀ (pm cv ctv : Value) (us : List Value), us.length = ps.length → bindArgs (kla_fn "<lambda>" q params body scope cl pm cv ctv) ⟨us, []⟩ = pure (ps.zip us))
    (len : ∀ vs H Q E, sp vs H Q E → vs.length = ps.length)
    (hbody : ∀ (A : Around) (outer : List Env) (s : Shared) (H : Hp) (vs : List V) (Q : VK) (E : XK), Room k (A.deeper (envF (lamF q params scope cl c) f s.heap.objs.size)) → sp vs H Q E →
      ∃ t, PE (ncx (L2.CX P w) P w K mg base N (lamF q params scope cl c) f A outer s H E) body t ∧ t (startF N vs ws) H Q) :
    FnV P w K mg base (k + 1) f cl fr ws (fun H => H f = some (LamO f q params body scope cl c) ∧ H c = some (CodeO c q)) sp := fnv_lam S hbind len hbody
theorem FnV.mono2 {j k : Nat} {f : Addr} {cl : List (Str × Addr)} {fr : List Str} {ws : List (Option V)} {kn : Hp → Prop} {sp : Sp} (o : FnV P w K mg base j f cl fr ws kn sp) (h : j ≤ k) : FnV P w K mg base k f cl fr ws kn sp :=
  ⟨fun A outer s H us vs Q E hr => o.run A outer s H us vs Q E (hr.mono h), o.at_, o.mono⟩
end
/-- the reading of a lambda as a value: its code object is new, or found in the table -/
def tLamC (P : Addr) (q : Str) (params : Arguments) (body : Expr) (scope : Scope) (cl : List (Str × Addr)) : TE := fun _ H Q => ∃ ps, H P = some (.tbl ps) ∧ TbOk H ps q ∧ ∀ (f c' : Addr) (ps' : Array Value) (H1 : Hp), Chg P (.tbl ps') H H1 → TbOk H1 ps' q →
  H f = none → H1 f = some (LamO f q params body scope cl c') → H1 c' = some (CodeO c' q) → Q (.ref f) H1
section
variable {X : Cx}
theorem pe_lamC {P c : Addr} {params : Arguments} {body : Expr} {scope : Scope} {pos : Pos} (TB : TabB X.base X.mg c P) (hcode : X.env.code = .ref c) (hfree : ∀ y ∈ scope.names, y.2 = .free → X.env.scope.names.lookup y.1 = some .cell ∨ X.env.scope.names.lookup y.1 = some .free)
    (hdef : defaultsOf params X.env = ([], [])) : PE X (.Lambda params body scope pos) (tLamC P (X.env.qual ++ "<lambda>") params body scope (cloFrom X.env.cells scope.names [])) := by
  refine ⟨fun pins s σ H Q I h => ?_⟩
  obtain ⟨ps, hP, hT, q1⟩ := h
  have hfr2 : ∀ y ∈ scope.names, y.2 = .free → ∃ c, X.env.cells.lookup y.1 = some c := fun y hy e => (hfree y hy e).elim (fun z => I.ok.has _ (.inl z)) fun z => I.ok.has _ (.inr z)
  exact lam_makeC I TB hcode hP hT hdef hfr2 fun f c' ps' H2 s2 I2 chg tok nf hf hc => ⟨V.ref f, H2, I2, rfl, q1 f c' ps' H2 chg tok nf hf hc⟩
end
end Sy
/-! outcomes that are errors -/
namespace Sy
open PySem PySem.Spec PyProof.Rows L2
/-- an error that is due -/
inductive Er
  | many (x : Str) (n : Nat)
  | stump (i : Nat)
  | trim (i : Int)
def Er.cls : Er → Str
  | .many _ _ => "TooMany"
  | .stump _ => "InvalidStump"
  | .trim _ => "InvalidTrim"
/-- its fields, the newest first -/
def Er.fds : Er → List (Str × PyData)
  | .many x n => [("limit", .int (n : Nat)), ("what", .str x)]
  | .stump i => [("place", .int (i : Nat))]
  | .trim i => [("place", .int i)]
inductive ImF (K : PySem.W.Frag) (H : Hp) : List (Str × V) → List (Str × PyData) → Prop
  | nil : ImF K H [] []
  | cons {f : Str} {v : V} {d : PyData} {fs : List (Str × V)} {ds : List (Str × PyData)} : Im K H v d → ImF K H fs ds → ImF K H ((f, v) :: fs) ((f, d) :: ds)
def RaE (K : PySem.W.Frag) (e : Er) (H : Hp) (E : XK) : Prop := ∀ d H' fs, Same H H' → H' d = some (.xd fs) → ImF K H' fs e.fds → E (.ref (He.ga K e.cls)) (some d) H'
theorem RaE.mono {K : PySem.W.Frag} {e : Er} {H H1 : Hp} {E : XK} (h : RaE K e H E) (s : Same H H1) : RaE K e H1 E := fun d H' fs s' e1 i => h d H' fs (s.trans s') e1 i
theorem ImF.mono {K : PySem.W.Frag} {H H' : Hp} (s : Same H H') : ∀ {fs : List (Str × V)} {ds : List (Str × PyData)}, ImF K H fs ds → ImF K H' fs ds
  | _, _, .nil => .nil
  | _, _, .cons a b => .cons (a.mono (Stay.of s)) (ImF.mono s b)
theorem RaE.ra {K : PySem.W.Frag} {e : Er} {H : Hp} {E : XK} {fs : List (Str × V)} (h : RaE K e H E) (i : ImF K H fs e.fds) : Ra K e.cls fs H E := fun d H' s e1 => h d H' fs s e1 (i.mono s)
section
variable {P : Program} {w : World} {K : PySem.W.Frag} {mg : Str → Option Value} {base : Heap}
theorem L0 (x : Str) : ((Str.empty : Str) ++ x).length = x.length := by rw [PySem.Str.length_append]; exact Nat.zero_add _
/-! InvalidPlant(place) -/
def okIP : List V → Hp → List (Str × V) → Prop := fun us _ fs => ∃ i : Nat, us = [.int (i : Nat)] ∧ i ≤ 1000000 ∧ fs = ([("place", V.int (i : Nat))] : List (Str × V))
set_option exponentiation.threshold 3000 in
theorem nat_log {i : Nat} (h : i ≤ 1000000) : ((i : Int).natAbs).log2 < 1920 := by
  have e : (i : Int).natAbs = i := Int.natAbs_natCast i
  rw [e]
  by_cases c : i = 0
  · rw [c]; decide
  · exact (Nat.log2_lt c).mpr (Nat.lt_of_le_of_lt h (by decide))
theorem nat_txt {i : Nat} (h : i ≤ 1000000) : (toString (i : Int) : Str).length ≤ 1921 := int_text_len_1921 (nat_log h)

theorem sc_is : NdefX.NScope ["self", "place", "__class__"] ["self", "place"] ["__class__"] (defScope (clb 4 0)) := ⟨rfl, rfl, rfl, by decide +kernel, rfl, by decide +kernel, by decide +kernel, by decide +kernel, by decide +kernel⟩
theorem i_is (T : ErrB P K mg "InvalidStump" "InvalidStump.__init__" (clb 4 0) ["place"]) : ∃ fd, FnOk P w K mg base CX0 1 (iniA K "InvalidStump") fd ["self", "place"] (spInit (He.ga K "InvalidStump") okIP) ∧ L2.Binds K fd ["self", "place"] [] := by
  obtain ⟨cc, cd, kV, doc, pm, an, ct, S⟩ := T.sup
  refine ⟨_, fn_sup (k := 0) S sc_is rfl rfl rfl rfl rfl T.mS T.top (fun vs H Q E s => by obtain ⟨_, _, _, rfl, ⟨_, rfl, _⟩, _⟩ := s; rfl) (fun _ => rfl) (fun _ => rfl) (fun _ _ => rfl) ?_, .all fun us e => match us, e with | [_, _], _ => rfl⟩
  intro A outer s H vs Q E hr h
  obtain ⟨a, us, fs, rfl, ⟨x, rfl, hx, rfl⟩, ha, hq⟩ := h
  refine ⟨_, _, pa_cons (pe_joined (.cons pe_str (.cons (pe_fmt (pv 1)) (.cons pe_str .nil)))) pa_nil, pss_one (ps_ost (pv 0) (pv 1)), a, _, rfl, ha, ?_⟩
  have L1 : ((Str.empty : Str) ++ ("not a stump from index " : Str)).length = 23 := by decide +kernel
  have L2' : (" on" : Str).length = 3 := by decide +kernel
  have htx := nat_txt hx
  refine ⟨_, rfl, by rw [L1]; decide, _, rfl, .inr ⟨(x : Int), rfl, nat_log hx, _, rfl, ?_, _, rfl, ?_, (by show 1 ≤ 1000; decide), ha, _, rfl, _, rfl, a, _, rfl, S.oex, T.no _ (by decide), .inl ⟨ha, fun dx h1 h2 => hq dx _ h1 h2 upd_same ?_ ?_⟩⟩⟩
  · rw [PySem.Str.length_append, L1, sizeLine_eq]
    omega
  · rw [PySem.Str.length_append, PySem.Str.length_append, L1, L2', sizeLine_eq]
    omega
  · rw [upd_ne h2]
    exact upd_same
  · intro b hb hb2
    rw [upd_ne hb, upd_ne hb2]
theorem mk_is {X : Cx} {k : Nat} {p pos : Pos} {e1 : Expr} {ta : TA} (T : ErrB X.prog X.K X.mg "InvalidStump" "InvalidStump.__init__" (clb 4 0) ["place"]) (hr : Room k X.A) (hg : Gl X "InvalidStump") (ha : PA X [e1] ta)
    (hx : Passes CX0 X (fun _ _ _ => False)) (hk : 2 ≤ k := by decide) (he : starEach [e1] X.env = (false, eval e1 X.env) :: starEach [] X.env := by rfl) (hpl : (backTo pos (starEach [] X.env)).any (·.1) = false := by rfl) :
    PMk X (.Call (.Name "InvalidStump" p) [e1] [] pos) (tMkO (He.ga X.K "InvalidStump") (spInit (He.ga X.K "InvalidStump") okIP) [] ta) := by
  obtain ⟨fd, F, B⟩ := i_is (w := X.w) (base := X.base) T
  obtain ⟨cc, cd, kV, doc, pm, an, ct, S⟩ := T.sup
  exact pmk_oex S.oex T.iC T.tI F (hr.mono hk) B .nil hx hg T.at_ ha rfl he hpl

/-! InvalidTrim(place) -/
def okIT : List V → Hp → List (Str × V) → Prop := fun us _ fs => ∃ i : Int, us = [.int i] ∧ (-1000000 ≤ i ∧ i ≤ 1000000) ∧ fs = ([("place", V.int i)] : List (Str × V))
set_option exponentiation.threshold 3000 in
theorem intz_log {i : Int} (h : -1000000 ≤ i ∧ i ≤ 1000000) : i.natAbs.log2 < 1920 := by
  have : i.natAbs ≤ 1000000 := by omega
  by_cases c : i.natAbs = 0
  · rw [c]; decide
  · exact (Nat.log2_lt c).mpr (Nat.lt_of_le_of_lt this (by decide))
theorem sc_itr : NdefX.NScope ["self", "place", "__class__"] ["self", "place"] ["__class__"] (defScope (clb 5 0)) := ⟨rfl, rfl, rfl, by decide +kernel, rfl, by decide +kernel, by decide +kernel, by decide +kernel, by decide +kernel⟩
theorem i_itr (T : ErrB P K mg "InvalidTrim" "InvalidTrim.__init__" (clb 5 0) ["place"]) : ∃ fd, FnOk P w K mg base CX0 1 (iniA K "InvalidTrim") fd ["self", "place"] (spInit (He.ga K "InvalidTrim") okIT) ∧ L2.Binds K fd ["self", "place"] [] := by
  obtain ⟨cc, cd, kV, doc, pm, an, ct, S⟩ := T.sup
  refine ⟨_, fn_sup (k := 0) S sc_itr rfl rfl rfl rfl rfl T.mS T.top (fun vs H Q E s => by obtain ⟨_, _, _, rfl, ⟨_, rfl, _⟩, _⟩ := s; rfl) (fun _ => rfl) (fun _ => rfl) (fun _ _ => rfl) ?_, .all fun us e => match us, e with | [_, _], _ => rfl⟩
  intro A outer s H vs Q E hr h
  obtain ⟨a, us, fs, rfl, ⟨x, rfl, hx, rfl⟩, ha, hq⟩ := h
  refine ⟨_, _, pa_cons (pe_joined (.cons pe_str (.cons (pe_fmt (pv 1)) .nil))) pa_nil, pss_one (ps_ost (pv 0) (pv 1)), a, _, rfl, ha, ?_⟩
  have L1 : ((Str.empty : Str) ++ ("invalid trim: " : Str)).length = 14 := by decide +kernel
  have htx := int_text_len_1921 (intz_log hx)
  refine ⟨_, rfl, by rw [L1]; decide, _, rfl, .inr ⟨x, rfl, intz_log hx, _, rfl, ?_, (by show 1 ≤ 1000; decide), ha, _, rfl, _, rfl, a, _, rfl, S.oex, T.no _ (by decide), .inl ⟨ha, fun dx h1 h2 => hq dx _ h1 h2 upd_same ?_ ?_⟩⟩⟩
  · rw [PySem.Str.length_append, L1, sizeLine_eq]
    omega
  · rw [upd_ne h2]
    exact upd_same
  · intro b hb hb2
    rw [upd_ne hb, upd_ne hb2]
theorem mk_itr {X : Cx} {k : Nat} {p pos : Pos} {e1 : Expr} {ta : TA} (T : ErrB X.prog X.K X.mg "InvalidTrim" "InvalidTrim.__init__" (clb 5 0) ["place"]) (hr : Room k X.A) (hg : Gl X "InvalidTrim") (ha : PA X [e1] ta)
    (hx : Passes CX0 X (fun _ _ _ => False)) (hk : 2 ≤ k := by decide) (he : starEach [e1] X.env = (false, eval e1 X.env) :: starEach [] X.env := by rfl) (hpl : (backTo pos (starEach [] X.env)).any (·.1) = false := by rfl) :
    PMk X (.Call (.Name "InvalidTrim" p) [e1] [] pos) (tMkO (He.ga X.K "InvalidTrim") (spInit (He.ga X.K "InvalidTrim") okIT) [] ta) := by
  obtain ⟨fd, F, B⟩ := i_itr (w := X.w) (base := X.base) T
  obtain ⟨cc, cd, kV, doc, pm, an, ct, S⟩ := T.sup
  exact pmk_oex S.oex T.iC T.tI F (hr.mono hk) B .nil hx hg T.at_ ha rfl he hpl
/-! the errors of the top -/
structure Ers (P : Program) (K : PySem.W.Frag) (mg : Str → Option Value) : Prop where
  tm : ErrB P K mg "TooMany" "TooMany.__init__" (clb 9 0) ["what", "limit"]
  tr : ErrB P K mg "InvalidTrim" "InvalidTrim.__init__" (clb 5 0) ["place"]
  is : ErrB P K mg "InvalidStump" "InvalidStump.__init__" (clb 4 0) ["place"]
end
end Sy
/-! plants as rows of numbers of branches: plain mathematics -/
namespace Sy
/-- how many entries n plants take that stand one behind the other -/
def sp : Nat → List Nat → Nat
  | 0, _ => 0
  | _ + 1, [] => 0
  | n + 1, a :: w => 1 + sp (n + a) w
/-- w is n plants, one behind the other -/
def Fo : Nat → List Nat → Prop
  | 0, [] => True
  | 0, _ :: _ => False
  | _ + 1, [] => False
  | n + 1, a :: w => Fo (n + a) w
theorem sp_zero (w : List Nat) : sp 0 w = 0 := by cases w <;> rfl
theorem sp_nil (n : Nat) : sp n [] = 0 := by cases n <;> rfl
theorem sp_cons (n a : Nat) (w : List Nat) : sp (n + 1) (a :: w) = 1 + sp (n + a) w := rfl
theorem sp_add : ∀ (w : List Nat) (n m : Nat), sp (n + m) w = sp n w + sp m (w.drop (sp n w))
  | w, 0, m => by rw [sp_zero, Nat.zero_add, Nat.zero_add, List.drop_zero]
  | [], n + 1, m => by simp [sp_nil]
  | a :: w, n + 1, m => by
    have e : n + 1 + m = (n + m) + 1 := by omega
    rw [e, sp_cons, sp_cons, show n + m + a = (n + a) + m by omega, sp_add w (n + a) m, Nat.add_assoc, show 1 + sp (n + a) w = sp (n + a) w + 1 by omega, List.drop_succ_cons]
theorem Fo.zero {w : List Nat} (h : Fo 0 w) : w = [] := by
  cases w with
  | nil => rfl
  | cons a w => exact h.elim
theorem Fo.le : ∀ {w : List Nat} {k m : Nat}, Fo (k + m) w → sp k w ≤ w.length ∧ Fo m (w.drop (sp k w)) ∧ Fo k (w.take (sp k w))
  | w, 0, m, h => by
    rw [Nat.zero_add] at h
    rw [sp_zero]
    exact ⟨Nat.zero_le _, h, trivial⟩
  | [], k + 1, m, h => by
    rw [show k + 1 + m = (k + m) + 1 by omega] at h
    exact h.elim
  | a :: w, k + 1, m, h => by
    rw [show k + 1 + m = (k + m) + 1 by omega] at h
    have h : Fo (k + m + a) w := h
    rw [show k + m + a = (k + a) + m by omega] at h
    have q := Fo.le h
    rw [sp_cons, show 1 + sp (k + a) w = sp (k + a) w + 1 by omega, List.drop_succ_cons, List.take_succ_cons]
    exact ⟨by rw [List.length_cons]; omega, q.2.1, q.2.2⟩
theorem Fo.sp : ∀ {w : List Nat} {m : Nat}, Fo m w → sp m w = w.length
  | [], m, _ => sp_nil m
  | a :: w, 0, h => h.elim
  | a :: w, m + 1, h => by
    rw [sp_cons, Fo.sp (w := w) (m := m + a) h, List.length_cons]
    omega
theorem Fo.app : ∀ {u v : List Nat} {n m : Nat}, Fo n u → Fo m v → Fo (n + m) (u ++ v)
  | [], v, 0, m, _, h => by rw [Nat.zero_add]; exact h
  | a :: u, v, n + 1, m, g, h => by
    have q : Fo (n + a + m) (u ++ v) := Fo.app (u := u) (n := n + a) g h
    rw [show n + 1 + m = (n + m) + 1 by omega]
    show Fo (n + m + a) (u ++ v)
    rw [show n + m + a = n + a + m by omega]
    exact q
theorem Fo.sp_app : ∀ {u : List Nat} {n : Nat} (v : List Nat), Fo n u → Sy.sp n (u ++ v) = u.length
  | [], 0, v, _ => sp_zero _
  | [], n + 1, v, h => h.elim
  | a :: u, 0, v, h => h.elim
  | a :: u, n + 1, v, h => by
    rw [List.cons_append, sp_cons, Fo.sp_app (u := u) (n := n + a) v h, List.length_cons]
    omega
theorem Fo.cut : ∀ {u v : List Nat} {n k : Nat}, Fo k u → Fo n (u ++ v) → k ≤ n ∧ Fo (n - k) v
  | [], v, n, 0, _, h => ⟨Nat.zero_le _, by simpa using h⟩
  | a :: u, v, 0, k, _, h => h.elim
  | a :: u, v, n + 1, k + 1, g, h => by
    have q := Fo.cut (u := u) (v := v) (n := n + a) (k := k + a) g h
    refine ⟨by omega, ?_⟩
    have := q.2
    rw [show n + a - (k + a) = n + 1 - (k + 1) by omega] at this
    exact this
/-- one plant of a row is put in another's place -/
theorem Fo.put : ∀ {u x y v : List Nat} {n : Nat}, Fo 1 x → Fo 1 y → Fo n (u ++ (x ++ v)) → Fo n (u ++ (y ++ v))
  | [], x, y, v, n, hx, hy, h => by
    have q := Fo.cut hx h
    have := hy.app q.2
    rw [show 1 + (n - 1) = n by omega] at this
    exact this
  | a :: u, x, y, v, 0, hx, hy, h => h.elim
  | a :: u, x, y, v, n + 1, hx, hy, h => Fo.put (u := u) (n := n + a) hx hy h
theorem Fo.pos {w : List Nat} {n : Nat} (h : Fo (n + 1) w) : 0 < w.length := by
  cases w with
  | nil => exact h.elim
  | cons a w => rw [List.length_cons]; omega
theorem Fo.at_ : ∀ {w : List Nat} {n : Nat} {i : Nat}, Fo n w → i < w.length → ∃ m, Fo (m + 1) (w.drop i)
  | a :: w, 0, _, h, _ => h.elim
  | a :: w, n + 1, 0, h, _ => ⟨n, h⟩
  | a :: w, n + 1, i + 1, h, hi => by
    rw [List.drop_succ_cons]
    exact Fo.at_ (w := w) (n := n + a) h (by rw [List.length_cons] at hi; omega)
/-- what begins within n plants ends within them -/
theorem sp_within : ∀ {w : List Nat} {n i : Nat}, i < sp n w → ∃ m, sp n w = i + sp (m + 1) (w.drop i)
  | w, 0, i, h => by rw [sp_zero] at h; omega
  | w, n + 1, 0, h => ⟨n, by simp⟩
  | [], n + 1, i + 1, h => by rw [sp_nil] at h; omega
  | a :: w, n + 1, i + 1, h => by
    rw [sp_cons] at h ⊢
    obtain ⟨m, e⟩ := sp_within (w := w) (n := n + a) (i := i) (by omega)
    exact ⟨m, by rw [List.drop_succ_cons, e]; omega⟩
/-- the number of branches at i -/
def aw (w : List Nat) (i : Nat) : Nat := w[i]?.getD 0
/-- behind the plant that begins at i -/
def en (w : List Nat) (i : Nat) : Nat := i + sp 1 (w.drop i)
/-- where the branch k of i begins -/
def kd (w : List Nat) (i k : Nat) : Nat := i + 1 + sp k (w.drop (i + 1))
theorem aw_of {w : List Nat} {i a : Nat} (h : w[i]? = some a) : aw w i = a := by rw [aw, h]; rfl
theorem drop_at {w : List Nat} {i : Nat} (h : i < w.length) : w.drop i = aw w i :: w.drop (i + 1) := by
  rw [List.drop_eq_getElem_cons h, aw, List.getElem?_eq_getElem h]
  rfl
theorem kd_zero (w : List Nat) (i : Nat) : kd w i 0 = i + 1 := by rw [kd, sp_zero]
section
variable {w : List Nat} {i j k : Nat}
theorem kd_succ : kd w i (k + 1) = en w (kd w i k) := by
  unfold kd en
  rw [sp_add, List.drop_drop]
  omega
theorem en_kd (hi : i < w.length) : kd w i (aw w i) = en w i := by
  unfold kd en
  rw [drop_at hi, sp_cons, Nat.zero_add]
  omega
theorem en_gt (hi : i < w.length) : i < en w i := by
  unfold en
  rw [drop_at hi, sp_cons]
  omega
theorem Fo.below (h : Fo 1 w) (hi : i < w.length) : ∃ m, Fo (aw w i + m) (w.drop (i + 1)) := by
  obtain ⟨m, q⟩ := h.at_ hi
  rw [drop_at hi] at q
  exact ⟨m, by rw [Nat.add_comm]; exact q⟩
theorem Fo.kd_lt (h : Fo 1 w) (hi : i < w.length) (hk : k < aw w i) : kd w i k < w.length := by
  obtain ⟨m, q⟩ := h.below hi
  rw [show aw w i + m = k + (aw w i + m - k - 1 + 1) by omega] at q
  have q := Fo.le q
  have := q.2.1.pos
  rw [List.length_drop, List.length_drop] at this
  unfold kd
  omega
theorem Fo.en_le (h : Fo 1 w) (hi : i < w.length) : en w i ≤ w.length := by
  obtain ⟨m, q⟩ := h.at_ hi
  rw [Nat.add_comm] at q
  have q := q.le
  have := q.1
  rw [List.length_drop] at this
  unfold en
  omega
theorem Fo.en0 (h : Fo 1 w) : en w 0 = w.length := by
  unfold en
  rw [List.drop_zero, h.sp]
  omega
/-- the branch that begins at i is a plant -/
theorem Fo.branch (h : Fo 1 w) (hi : i < w.length) : Fo 1 ((w.drop i).take (en w i - i)) := by
  obtain ⟨m, q⟩ := h.at_ hi
  rw [Nat.add_comm] at q
  have q := q.le.2.2
  unfold en
  rw [show i + Sy.sp 1 (w.drop i) - i = Sy.sp 1 (w.drop i) by omega]
  exact q
theorem kd_gt : i < kd w i k := by unfold kd; omega
theorem kd_lt_succ (h : Fo 1 w) (hi : i < w.length) (hk : k < aw w i) : kd w i k < kd w i (k + 1) := by
  rw [kd_succ]
  exact en_gt (h.kd_lt hi hk)
theorem kd_mono (h : Fo 1 w) (hi : i < w.length) : ∀ (d : Nat), k + d ≤ aw w i → kd w i k + d ≤ kd w i (k + d)
  | 0, _ => Nat.le_refl _
  | d + 1, hd => by
    have a := kd_mono h hi d (by omega)
    have b := kd_lt_succ h hi (k := k + d) (by omega)
    rw [show k + (d + 1) = k + d + 1 by omega]
    omega
/-- nested -/
theorem en_nest (a : i ≤ j) (b : j < en w i) : en w j ≤ en w i := by
  unfold en at b ⊢
  obtain ⟨m, e⟩ := sp_within (w := w.drop i) (n := 1) (i := j - i) (by omega)
  rw [List.drop_drop, show i + (j - i) = j by omega, Nat.add_comm m 1, sp_add] at e
  omega
theorem kd_le_en (h : Fo 1 w) (hi : i < w.length) (hk : k ≤ aw w i) : kd w i k ≤ en w i := by
  have := kd_mono h hi (k := k) (aw w i - k) (by omega)
  rw [show k + (aw w i - k) = aw w i by omega, en_kd hi] at this
  omega
/-- a place behind i and within its plant stands in one of its branches -/
theorem in_branch (hi : i < w.length) (a : i < j) : ∀ (n : Nat), j < kd w i n → ∃ k, k < n ∧ kd w i k ≤ j ∧ j < kd w i (k + 1)
  | 0, b => by rw [kd_zero] at b; omega
  | n + 1, b => by
    by_cases c : j < kd w i n
    · obtain ⟨k, h1, h2, h3⟩ := in_branch hi a n c
      exact ⟨k, by omega, h2, h3⟩
    · exact ⟨n, by omega, by omega, b⟩
/-- a knot has one place above it .. -/
theorem kd_lt_of {i2 k2 : Nat} (h : Fo 1 w) (hi : i < w.length) (hi2 : i2 < w.length) (hk : k < aw w i) (hk2 : k2 < aw w i2) (lt : i < i2) : kd w i k ≠ kd w i2 k2 := by
  intro e
  have e1 : kd w i k < en w i := by
    have := kd_le_en h hi (k := k + 1) (by omega)
    have := kd_lt_succ h hi hk
    omega
  have g2 : i2 < kd w i2 k2 := kd_gt
  have hin : i2 < kd w i (aw w i) := by rw [en_kd hi]; omega
  obtain ⟨t, h1, h2, h3⟩ := in_branch hi lt _ hin
  have n1 : en w i2 ≤ en w (kd w i t) := en_nest h2 (by rw [← kd_succ]; exact h3)
  rw [← kd_succ] at n1
  have n2 : kd w i2 k2 < en w i2 := by
    have := kd_le_en h hi2 (k := k2 + 1) (by omega)
    have := kd_lt_succ h hi2 hk2
    omega
  by_cases c : k ≤ t
  · have := kd_mono h hi (k := k) (t - k) (by omega)
    rw [show k + (t - k) = t by omega] at this
    omega
  · have := kd_mono h hi (k := t + 1) (k - (t + 1)) (by omega)
    rw [show t + 1 + (k - (t + 1)) = k by omega] at this
    omega
theorem kd_inj {i2 k2 : Nat} (h : Fo 1 w) (hi : i < w.length) (hi2 : i2 < w.length) (hk : k < aw w i) (hk2 : k2 < aw w i2) (e : kd w i k = kd w i2 k2) : i = i2 ∧ k = k2 := by
  rcases Nat.lt_trichotomy i i2 with c | c | c
  · exact absurd e (kd_lt_of h hi hi2 hk hk2 c)
  · subst c
    refine ⟨rfl, ?_⟩
    rcases Nat.lt_trichotomy k k2 with d | d | d
    · have := kd_mono h hi (k := k) (k2 - k) (by omega)
      rw [show k + (k2 - k) = k2 by omega] at this
      omega
    · exact d
    · have := kd_mono h hi (k := k2) (k - k2) (by omega)
      rw [show k2 + (k - k2) = k by omega] at this
      omega
  · exact absurd e.symm (kd_lt_of h hi2 hi hk2 hk c)
/-- .. and every knot but the root has one -/
theorem has_above (h : Fo 1 w) : ∀ (j : Nat), 0 < j → j < w.length → ∃ i k, i < j ∧ k < aw w i ∧ kd w i k = j := by
  intro j
  induction j using Nat.strongRecOn with
  | _ j ih =>
    intro h0 hj
    -- from a place i < j whose plant ends at j
    have climb : ∀ i, i < j → en w i = j → ∃ i k, i < j ∧ k < aw w i ∧ kd w i k = j := by
      intro i
      induction i using Nat.strongRecOn with
      | _ i ih2 =>
        intro hi e
        by_cases z : i = 0
        · subst z
          rw [h.en0] at e
          omega
        · obtain ⟨p, k, hp, hk, ek⟩ := ih i hi (by omega) (by omega)
          have es : kd w p (k + 1) = j := by rw [kd_succ, ek]; exact e
          by_cases c : k + 1 < aw w p
          · exact ⟨p, k + 1, by omega, c, es⟩
          · have : k + 1 = aw w p := by omega
            rw [this, en_kd (by omega)] at es
            exact ih2 p hp (by omega) es
    by_cases c : 0 < aw w (j - 1)
    · exact ⟨j - 1, 0, by omega, c, by rw [kd_zero]; omega⟩
    · refine climb (j - 1) (by omega) ?_
      rw [← en_kd (by omega), show aw w (j - 1) = 0 by omega, kd_zero]
      omega
end
/-! ### the paths -/
/-- one knot's branches get their paths -/
def stp (w : List Nat) (i : Nat) (fd : List (List Nat)) (n : Nat) : List (List Nat) := (List.range n).foldl (fun fd k => fd.set (kd w i k) (fd.getD i [] ++ [k])) fd
/-- the paths after the first n knots -/
def pth (w : List Nat) (n : Nat) : List (List Nat) := (List.range n).foldl (fun fd i => stp w i fd (aw w i)) (List.replicate w.length [])
def pths (w : List Nat) : List (List Nat) := pth w w.length
theorem stp_succ (w : List Nat) (i n : Nat) (fd : List (List Nat)) : stp w i fd (n + 1) = (stp w i fd n).set (kd w i n) ((stp w i fd n).getD i [] ++ [n]) := by
  unfold stp
  rw [List.range_succ, List.foldl_append]
  rfl
theorem pth_succ (w : List Nat) (n : Nat) : pth w (n + 1) = stp w n (pth w n) (aw w n) := by
  unfold pth
  rw [List.range_succ, List.foldl_append]
  rfl
theorem stp_zero (w : List Nat) (i : Nat) (fd : List (List Nat)) : stp w i fd 0 = fd := rfl
theorem stp_len (w : List Nat) (i : Nat) (fd : List (List Nat)) : ∀ n, (stp w i fd n).length = fd.length
  | 0 => rfl
  | n + 1 => by rw [stp_succ, List.length_set, stp_len w i fd n]
theorem pth_len (w : List Nat) : ∀ n, (pth w n).length = w.length
  | 0 => by show (List.replicate w.length []).length = _; rw [List.length_replicate]
  | n + 1 => by rw [pth_succ, stp_len, pth_len w n]
theorem getD_set_ne {α : Type} (l : List α) {i j : Nat} (v d : α) (h : i ≠ j) : (l.set i v).getD j d = l.getD j d := by
  rw [List.getD_eq_getElem?_getD, List.getElem?_set_ne h, ← List.getD_eq_getElem?_getD]
theorem getD_set_eq {α : Type} (l : List α) {i : Nat} (v d : α) (h : i < l.length) : (l.set i v).getD i d = v := by
  rw [List.getD_eq_getElem?_getD, List.getElem?_set_self h]
  rfl
/-- places up to i stay; other places stay; a branch's place -/
theorem stp_ne (w : List Nat) (i j : Nat) (fd : List (List Nat)) : ∀ n, (∀ k, k < n → kd w i k ≠ j) → (stp w i fd n).getD j [] = fd.getD j []
  | 0, _ => rfl
  | n + 1, h => by
    rw [stp_succ, getD_set_ne _ _ _ (h n (by omega))]
    exact stp_ne w i j fd n fun k hk => h k (by omega)
theorem stp_at {w : List Nat} {i k : Nat} {fd : List (List Nat)} (h : Fo 1 w) (hi : i < w.length) (hl : fd.length = w.length) (hk : k < aw w i) : ∀ n, k < n → n ≤ aw w i → (stp w i fd n).getD (kd w i k) [] = fd.getD i [] ++ [k]
  | n + 1, a, b => by
    have hs : (stp w i fd n).getD i [] = fd.getD i [] := stp_ne w i i fd n fun k _ => by have := kd_gt (w := w) (i := i) (k := k); omega
    rw [stp_succ, hs]
    by_cases c : k = n
    · subst c
      rw [getD_set_eq]
      rw [stp_len, hl]
      exact h.kd_lt hi hk
    · rw [getD_set_ne]
      · exact stp_at h hi hl hk n (by omega) (by omega)
      · intro e
        have := (kd_inj h hi hi (by omega) hk e).2
        omega
theorem pth_at {w : List Nat} {i k : Nat} (h : Fo 1 w) (hi : i < w.length) (hk : k < aw w i) : ∀ n, i < n → n ≤ w.length → (pth w n).getD (kd w i k) [] = (pth w n).getD i [] ++ [k]
  | n + 1, a, b => by
    have si : (pth w (n + 1)).getD i [] = (pth w n).getD i [] := by
      rw [pth_succ]
      exact stp_ne w n i _ _ fun t _ e => by have := kd_gt (w := w) (i := n) (k := t); omega
    rw [si]
    by_cases c : i = n
    · subst c
      rw [pth_succ]
      exact stp_at h hi (pth_len w _) hk _ hk (Nat.le_refl _)
    · rw [pth_succ, stp_ne]
      · exact pth_at h hi hk n (by omega) (by omega)
      · intro t ht e
        have := (kd_inj h (by omega) hi ht hk e).1
        omega
theorem pths_at {w : List Nat} {i k : Nat} (h : Fo 1 w) (hi : i < w.length) (hk : k < aw w i) : (pths w).getD (kd w i k) [] = (pths w).getD i [] ++ [k] := pth_at h hi hk _ hi (Nat.le_refl _)
theorem pth_root (w : List Nat) : ∀ n, (pth w n).getD 0 [] = []
  | 0 => by
    show (List.replicate w.length []).getD 0 [] = []
    cases w <;> rfl
  | n + 1 => by
    rw [pth_succ, stp_ne]
    · exact pth_root w n
    · intro k _ e
      have := kd_gt (w := w) (i := n) (k := k)
      omega
/-- where a path leads -/
def pl (w : List Nat) : Nat → List Nat → Option Nat
  | i, [] => some i
  | i, k :: p => if k < aw w i then pl w (kd w i k) p else none
theorem pl_snoc (w : List Nat) (k : Nat) : ∀ (p : List Nat) (i : Nat), pl w i (p ++ [k]) = (pl w i p).bind fun j => if k < aw w j then some (kd w j k) else none
  | [], i => rfl
  | t :: p, i => by
    show (if t < aw w i then pl w (kd w i t) (p ++ [k]) else none) = (if t < aw w i then pl w (kd w i t) p else none).bind _
    by_cases c : t < aw w i
    · rw [if_pos c, if_pos c, pl_snoc w k p]
    · rw [if_neg c, if_neg c]
      rfl
theorem pl_pths {w : List Nat} (h : Fo 1 w) : ∀ j, j < w.length → pl w 0 ((pths w).getD j []) = some j := by
  intro j
  induction j using Nat.strongRecOn with
  | _ j ih =>
    intro hj
    by_cases z : j = 0
    · subst z
      rw [show pths w = pth w w.length from rfl, pth_root]
      rfl
    · obtain ⟨i, k, hi, hk, e⟩ := has_above h j (by omega) hj
      rw [← e, pths_at h (by omega) hk, pl_snoc, ih i hi (by omega)]
      show (if k < aw w i then some (kd w i k) else none) = _
      rw [if_pos hk]
/-- a path of a plant leads to the same place in each plant that is alike up to that place -/
theorem pl_local {w w' : List Nat} (h : Fo 1 w) (h' : Fo 1 w') : ∀ (p : List Nat) (i : Nat), pl w 0 p = some i → i < w'.length → w'.take i = w.take i → pl w' 0 p = some i := by
  intro p
  induction hn : p.length generalizing p with
  | zero =>
    have : p = [] := List.length_eq_zero_iff.mp hn
    subst this
    exact fun i e _ _ => e
  | succ n ih =>
    intro i e hi a
    obtain ⟨q, k, rfl⟩ : ∃ q k, p = q ++ [k] := ⟨p.dropLast, p.getLast (by intro z; rw [z] at hn; cases hn), (List.dropLast_concat_getLast _).symm⟩
    rw [pl_snoc] at e ⊢
    cases c : pl w 0 q with
    | none => rw [c] at e; cases e
    | some j =>
      rw [c] at e
      have e : (if k < aw w j then some (kd w j k) else none) = some i := e
      by_cases hk : k < aw w j
      · rw [if_pos hk] at e
        have e := Option.some.inj e
        have hj : j < i := by rw [← e]; exact kd_gt
        have hjw : j < w.length := by
          by_cases z : j < w.length
          · exact z
          · rw [aw, List.getElem?_eq_none (by omega)] at hk
            exact absurd hk (Nat.not_lt_zero _)
        have tk : w'.take j = w.take j := by
          have := congrArg (List.take j) a
          rwa [List.take_take, List.take_take, Nat.min_eq_left (by omega)] at this
        rw [ih q (by simpa using hn) j c (by omega) tk]
        have ea : aw w' j = aw w j := by
          have := congrArg (fun l => l[j]?) a
          simp only [List.getElem?_take, hj, if_true] at this
          rw [aw, aw, this]
        have ek : kd w' j k = kd w j k := by
          obtain ⟨m, f⟩ := h.below hjw
          rw [show aw w j + m = k + (aw w j + m - k) by omega] at f
          have f := f.le.2.2
          have el : i - (j + 1) = sp k (w.drop (j + 1)) := by rw [← e, kd]; omega
          have hw : w'.drop (j + 1) = (w.drop (j + 1)).take (sp k (w.drop (j + 1))) ++ w'.drop i := by
            rw [← el, List.take_drop, show j + 1 + (i - (j + 1)) = i by omega, ← a, ← List.take_append_drop i w', List.drop_append, List.take_append_drop]
            have : (w'.take i).length = i := by rw [List.length_take]; omega
            rw [this, show j + 1 - i = 0 by omega, List.drop_zero]
          unfold kd
          rw [hw, f.sp_app, List.length_take, Nat.min_eq_left]
          rw [← el, List.length_drop]
          have := h.kd_lt hjw hk
          omega
        show (if k < aw w' j then some (kd w' j k) else none) = _
        rw [ea, if_pos hk, ek, e]
      · rw [if_neg hk] at e
        cases e
end Sy
namespace Sy
open PySem PySem.Spec PyProof.Rows L2
/-- the numbers of branches of a row's entries -/
def wt (rows : List Sy.Row) (l : List Str) : List Nat := l.map (ar rows)
def ens (w : List Nat) : List Nat := (List.range w.length).map (en w)
def kidsN (w : List Nat) (i : Nat) : List Nat := (List.range (aw w i)).map (kd w i)
def dKids (w : List Nat) : PyData := .tuple ((List.range w.length).map fun i => DN (kidsN w i))
section
variable {rows : List Sy.Row} {l : List Str} {i : Nat} {y : Str} {w : List Nat}
theorem wt_len (rows : List Sy.Row) (l : List Str) : (wt rows l).length = l.length := List.length_map ..
theorem wt_at (h : l[i]? = some y) : aw (wt rows l) i = ar rows y := aw_of (by rw [wt, List.getElem?_map, h]; rfl)
theorem ens_of {ss : List Nat} (hl : ss.length = w.length) (h : ∀ j, j < w.length → ss[j]? = some (en w j)) : ss = ens w := by
  apply List.ext_getElem?
  intro j
  by_cases hj : j < w.length
  · rw [h j hj, ens, List.getElem?_map, List.getElem?_range hj]
    rfl
  · rw [List.getElem?_eq_none (by omega), List.getElem?_eq_none (by rw [ens, List.length_map, List.length_range]; omega)]
theorem ens_at (h : i < w.length) : (ens w)[i]? = some (en w i) := by rw [ens, List.getElem?_map, List.getElem?_range h]; rfl
theorem ens_len (w : List Nat) : (ens w).length = w.length := by rw [ens, List.length_map, List.length_range]
theorem vN_at {ns : List Nat} {n : Nat} (h : ns[i]? = some n) : (vN ns)[i]? = some (.int (n : Int)) := by rw [vN, List.getElem?_map, h]; rfl
theorem vN_set (ns : List Nat) (i n : Nat) : (vN ns).set i (.int (n : Int)) = vN (ns.set i n) := by rw [vN, vN, List.map_set]
theorem aw_le (h : Fo 1 w) (hi : i < w.length) : aw w i ≤ w.length := by
  have a := kd_mono h hi (k := 0) (aw w i) (by omega)
  have b := h.en_le hi
  rw [Nat.zero_add, en_kd hi] at a
  omega
end
section
variable {P : Program} {w : World} {K : PySem.W.Frag} {mg : Str → Option Value} {base : Heap}
/-! spans -/
def spSpans (K : PySem.W.Frag) : Sp := fun vs H Q _ => ∃ a r rows l, vs = [.ref a, .ref r] ∧ BedAt K H a rows ∧ SqT K H r (l.map V.str) ∧ Fo 1 (wt rows l) ∧ l.length ≤ 2000 ∧ ∀ H' p, Same H H' → SqT K H' p (vN (ens (wt rows l))) → Q (.ref p) H'
abbrev N_spans : List Str := ["bed", "row", "_", "stops", "index", "stop"]
theorem sc_spans : FnScope N_spans ["bed", "row"] (defScope (top 21)) := ⟨rfl, rfl, rfl, by decide +kernel, rfl, by decide +kernel, by decide +kernel⟩
theorem k_spans (T : Txt K mg) (F : DF K mg "spans" 21) (c_arity : Cal P w K mg base 1 "arity" ["bed", "entry"] (spArity K)) : Cal P w K mg base 2 "spans" ["bed", "row"] (spSpans K) := by
  refine cal_of F.1 F.2 sc_spans (fun _ _ _ _ _ _ us e => match us, e with | [_, _], _ => rfl) (fun vs H Q E s => by obtain ⟨_, _, _, _, rfl, _⟩ := s; rfl) ?_
  intro cdv A outer s H vs Q E hr h
  obtain ⟨a, r, rows, l, rfl, hb, hR, hF, hsz, hq⟩ := h
  have hu := hu_of hr
  have sc := sc_spans
  refine ⟨_, (pss_cons (ps_setLc (i := 3) (own := [("_", 2)]) (g := gName 2) rfl sc.nd rfl rfl (sw_true rfl rfl rfl (by decide +kernel)) (pi_tup (pv 1)) (blkOk_by (N := N_spans) (sc := defScope (top 21)) (by decide +kernel)) (fun _ _ _ _ _ => (pg_name (i := 2) sc.nd rfl (Or.inl rfl))) (fun _ _ _ _ _ => pts_nil) (fun _ _ _ _ _ => pe_int))
      (pss_cons (ps_for (passes_of rfl) rfl (pi_revR rfl T.reversed (prg_1 rfl T.range (pe_callB call_len_seq (by rfl) T.len (by decide +kernel) (pa_cons (pv 1) pa_nil)))) (pg_name (i := 4) sc.nd rfl (Or.inl rfl))
        (pss_cons (ps_set (i := 5) sc.nd rfl (Or.inl rfl) (pe_op op_add (pv 4) pe_int))
        (pss_cons (ps_for (passes_of rfl) rfl (pi_range1 rfl T.range (pa_cons (pe_cal c_arity hr (pa_cons (pv 0) (pa_cons (pe_ix ix_tup (pv 1) (pv 4) (fun _ _ => rfl)) pa_nil))) pa_nil)) (pg_name (i := 2) sc.nd rfl (Or.inl rfl))
          (pss_one (ps_set (i := 5) sc.nd rfl (Or.inl rfl) (pe_ix ix_list (pv 3) (pv 5) (fun _ _ => rfl)))))
        (pss_one (ps_asg (pv 5) (pg_sub (pv 3) (pv 4) set_list))))))
      (pss_one (ps_ret (pe_callTy call_tuple_of (by rfl) T.tuple (by decide +kernel) (pa_cons (pv 3) pa_nil)))))), ?_⟩
  have hwl := wt_len rows l
  refine ⟨_, rfl, r, rfl, ⟨_, hR⟩, fun D hD => lc_map (si := 2) (Hs.start H) hD hR (by rw [List.length_map]; omega) (fun i _ acc => acc = vN (List.replicate i 0)) rfl ?_ ?_⟩
  · rintro i x B' acc H' hx s rfl hh R hR
    exact hR _ _ B' (Same.refl _) hh (by rw [vN, vN, List.replicate_succ', List.map_append]; rfl)
  rintro B' acc H' s2 rfl hh
  refine ⟨_, rfl, r, _, rfl, .inr (Same.sqt (s2.trans hh.sub) hR), _, rfl, by decide, by decide, by rw [List.length_map]; omega, by rw [List.length_map]; omega, for_rrng (n := (l.map V.str).length)
    (fun i σ H' => ∃ t2 t4 t5 B ss, σ = [some (.ref a), some (.ref r), t2, some (.ref D), t4, t5] ∧ Same H B ∧ Hs B [(D, .lst (vN ss))] H' ∧ ss.length = l.length ∧ ∀ j, i ≤ j → j < l.length → ss[j]? = some (en (wt rows l) j))
    ⟨none, none, none, B', List.replicate l.length 0, rfl, s2, by rw [List.length_map] at hh; exact hh, by rw [List.length_replicate], fun j a b => by rw [List.length_map] at a; omega⟩ ?_ ?_⟩
  · rintro i σ H1 hi ⟨t2, t4, t5, B, ss, rfl, sB, hh, hl, hv⟩
    rw [List.length_map] at hi
    have hiw : i < (wt rows l).length := by omega
    obtain ⟨y, hy⟩ : ∃ y, l[i]? = some y := ⟨_, List.getElem?_eq_getElem hi⟩
    have sH := sB.trans hh.sub
    have eaw : aw (wt rows l) i = ar rows y := wt_at hy
    have hal := aw_le hF hiw
    have eA : arK rows (Sum.inr y) = ar rows y := rfl
    refine ⟨_, rfl, _, _, rfl, rfl, _, rfl, _, rfl, _, rfl, r, _, _, _, rfl, rfl, Same.sqt sH hR, atI_nat (by rw [List.getElem?_map, hy]; rfl), a, rows, Sum.inr y, rfl, hb.mono (Stay.of sH), _, rfl, by omega, by omega, for_rng (n := ar rows y)
      (fun t σ H2 => ∃ u2 z, σ = [some (.ref a), some (.ref r), u2, some (.ref D), some (.int (i : Nat)), some (.int z)] ∧ z = (kd (wt rows l) i t : Nat) ∧ H2 = H1)
      ⟨_, _, rfl, by rw [kd_zero]; rfl, rfl⟩ ?_ ?_⟩
    · rintro t σ H2 ht ⟨u2, _, rfl, rfl, rfl⟩
      have hk := hF.kd_lt hiw (k := t) (by omega)
      refine ⟨_, rfl, _, rfl, D, _, _, _, rfl, rfl, SqL.of hh.r0, atI_nat (vN_at (hv _ (kd_gt) (by omega))), _, _, rfl, by rw [kd_succ], rfl⟩
    · rintro σ H2 ⟨u2, _, rfl, rfl, rfl⟩
      refine ⟨_, rfl, _, rfl, _, rfl, D, _, _, i, rfl, rfl, hh.r0, ixN_nat (by rw [List.length_map]; omega), _, _, _, B, _, rfl, sB, by rw [vN_set]; exact hh.w0, by rw [List.length_set]; exact hl, fun j a b => ?_⟩
      rw [← eaw, en_kd hiw]
      by_cases c : i = j
      · subst c
        rw [List.getElem?_set_self (by omega)]
      · rw [List.getElem?_set_ne c]
        exact hv j (by omega) b
  · rintro σ H1 ⟨t2, t4, t5, B, ss, rfl, sB, hh, hl, hv⟩
    refine ⟨_, rfl, D, _, rfl, .inl ⟨SqL.of hh.r0, fun p hp => ?_⟩⟩
    rw [ens_of (by omega) (fun j hj => hv j (Nat.zero_le _) (by omega))]
    exact hq _ _ ((sB.trans hh.sub).trans (up_same hp)) (SqT.of upd_same)
/-! span_stop -/
def spStop (K : PySem.W.Frag) : Sp := fun vs H Q _ => ∃ a r i rows l, vs = [.ref a, .ref r, .int (i : Nat)] ∧ BedAt K H a rows ∧ SqT K H r (l.map V.str) ∧ Fo 1 (wt rows l) ∧ i < l.length ∧ Q (.int (en (wt rows l) i : Nat)) H
abbrev N_stop : List Str := ["bed", "row", "place", "stop", "missing"]
theorem sc_stop : FnScope N_stop ["bed", "row", "place"] (defScope (top 22)) := ⟨rfl, rfl, rfl, by decide +kernel, rfl, by decide +kernel, by decide +kernel⟩
def muStop (n : Nat) : L2.St → Nat
  | [_, _, _, some (.int s), _] => n - s.toNat
  | _ => 0
theorem k_stop (T : Txt K mg) (F : DF K mg "span_stop" 22) (c_arity : Cal P w K mg base 1 "arity" ["bed", "entry"] (spArity K)) : Cal P w K mg base 2 "span_stop" ["bed", "row", "place"] (spStop K) := by
  refine cal_of F.1 F.2 sc_stop (fun _ _ _ _ _ _ us e => match us, e with | [_, _, _], _ => rfl) (fun vs H Q E s => by obtain ⟨_, _, _, _, _, rfl, _⟩ := s; rfl) ?_
  intro cdv A outer s H vs Q E hr h
  obtain ⟨a, r, i, rows, l, rfl, hb, hR, hF, hi, hq⟩ := h
  have hu := hu_of hr
  have sc := sc_stop
  have hwl := wt_len rows l
  refine ⟨_, (pss_cons (ps_set (i := 3) sc.nd rfl (Or.inl rfl) (pv 2))
      (pss_cons (ps_set (i := 4) sc.nd rfl (Or.inl rfl) pe_int)
      (pss_cons (ps_while (passes_of rfl) (pt_cmpR op_gt (pv 4) pe_int (nomark _))
        (pss_cons (ps_set (i := 4) sc.nd rfl (Or.inl rfl) (pe_op op_add (pe_op op_sub (pv 4) pe_int) (pe_cal c_arity hr (pa_cons (pv 0) (pa_cons (pe_ix ix_tup (pv 1) (pv 3) (fun _ _ => rfl)) pa_nil)))))
        (pss_one (ps_set (i := 3) sc.nd rfl (Or.inl rfl) (pe_op op_add (pv 3) pe_int)))))
      (pss_one (ps_ret (pv 3)))))), ?_⟩
  refine ⟨_, rfl, while_by (fun σ H' => ∃ (st m : Nat) (z1 z2 : Int), σ = [some (.ref a), some (.ref r), some (.int (i : Nat)), some (.int z1), some (.int z2)] ∧ z1 = (st : Nat) ∧ z2 = (m : Nat) ∧ H' = H ∧ st + sp m ((wt rows l).drop st) = en (wt rows l) i ∧ ∃ k, Fo (m + k) ((wt rows l).drop st)) (fun σ _ => muStop l.length σ) ⟨i, 1, _, _, rfl, rfl, rfl, rfl, rfl, by
      obtain ⟨m, q⟩ := hF.at_ (i := i) (by omega)
      exact ⟨m, by rw [Nat.add_comm]; exact q⟩⟩ ?_ (fun _ _ _ _ m ⟨v, h1, i, j, h2, h3, k, h4, q⟩ => ⟨v, h1, i, j, h2, h3, k, h4, m _ _ q⟩)⟩
  rintro σ H' ⟨st, m, _, _, rfl, rfl, rfl, rfl, e, k, f⟩
  refine ⟨_, rfl, _, _, rfl, rfl, _, rfl, if_dec (fun c => ?_) (fun c => ?_)⟩
  · obtain ⟨n, rfl⟩ : ∃ n, m = n + 1 := ⟨m - 1, by omega⟩
    rw [show n + 1 + k = (n + k) + 1 by omega] at f
    have hl := f.pos
    rw [List.length_drop] at hl
    have hs : st < l.length := by omega
    obtain ⟨y, hy⟩ : ∃ y, l[st]? = some y := ⟨_, List.getElem?_eq_getElem hs⟩
    have ey := wt_at (rows := rows) hy
    rw [drop_at (by omega)] at e f
    rw [sp_cons, ey] at e
    have f : Fo (n + k + aw (wt rows l) st) ((wt rows l).drop (st + 1)) := f
    rw [ey] at f
    have eA : arK rows (Sum.inr y) = ar rows y := rfl
    refine ⟨_, rfl, _, _, rfl, rfl, _, rfl, _, rfl, _, rfl, r, _, _, _, rfl, rfl, hR, atI_nat (by rw [List.getElem?_map, hy]; rfl), a, rows, Sum.inr y, rfl, hb, _, _, rfl, rfl, _, rfl, _, _, rfl, rfl, ⟨st + 1, n + ar rows y, _, _, rfl, rfl, by omega, rfl, by omega, k, by rw [show n + ar rows y + k = n + k + ar rows y by omega]; exact f⟩, ?_⟩
    show l.length - ((st : Int) + 1).toNat < l.length - ((st : Int)).toNat
    omega
  · obtain rfl : m = 0 := by omega
    rw [sp_zero] at e
    refine ⟨_, rfl, ?_⟩
    rw [← e] at hq
    exact hq
/-! kids -/
def spKids (K : PySem.W.Frag) : Sp := fun vs H Q _ => ∃ a r rows l, vs = [.ref a, .ref r] ∧ BedAt K H a rows ∧ SqT K H r (l.map V.str) ∧ Fo 1 (wt rows l) ∧ l.length ≤ 2000 ∧ ∀ H' v, Same H H' → Im K H' v (dKids (wt rows l)) → Q v H'
abbrev N_kids : List Str := ["bed", "row", "stops", "found", "index", "entry", "starts", "start", "_"]
theorem sc_kids : FnScope N_kids ["bed", "row"] (defScope (top 23)) := ⟨rfl, rfl, rfl, by decide +kernel, rfl, by decide +kernel, by decide +kernel⟩
theorem k_kids (T : Txt K mg) (F : DF K mg "kids" 23) (c_arity : Cal P w K mg base 1 "arity" ["bed", "entry"] (spArity K)) (c_spans : Cal P w K mg base 2 "spans" ["bed", "row"] (spSpans K)) : Cal P w K mg base 3 "kids" ["bed", "row"] (spKids K) := by
  refine cal_of F.1 F.2 sc_kids (fun _ _ _ _ _ _ us e => match us, e with | [_, _], _ => rfl) (fun vs H Q E s => by obtain ⟨_, _, _, _, rfl, _⟩ := s; rfl) ?_
  intro cdv A outer s H vs Q E hr h
  obtain ⟨a, r, rows, l, rfl, hb, hR, hF, hsz, hq⟩ := h
  have hu := hu_of hr
  have sc := sc_kids
  have hwl := wt_len rows l
  refine ⟨_, (pss_cons (ps_set (i := 2) sc.nd rfl (Or.inl rfl) (pe_cal c_spans hr (pa_cons (pv 0) (pa_cons (pv 1) pa_nil))))
      (pss_cons (ps_set (i := 3) sc.nd rfl (Or.inl rfl) (pe_lst pa_nil))
      (pss_cons (ps_for (passes_of rfl) rfl (pi_enumT (by rfl) T.enumerate (pa_cons (pv 1) pa_nil)) (pg_tup rfl (pgs_cons (pg_name (i := 4) sc.nd rfl (Or.inl rfl)) (pgs_cons (pg_name (i := 5) sc.nd rfl (Or.inl rfl)) pgs_nil)))
        (pss_cons (ps_set (i := 6) sc.nd rfl (Or.inl rfl) (pe_lst pa_nil))
        (pss_cons (ps_set (i := 7) sc.nd rfl (Or.inl rfl) (pe_op op_add (pv 4) pe_int))
        (pss_cons (ps_for (passes_of rfl) rfl (pi_range1 rfl T.range (pa_cons (pe_cal c_arity hr (pa_cons (pv 0) (pa_cons (pv 5) pa_nil))) pa_nil)) (pg_name (i := 8) sc.nd rfl (Or.inl rfl))
          (pss_cons (ps_expr (pe_bm PySem.F.plainAttrs_list PySem.F.slot_list_append PySem.F.type_list_append mt_append (pv 6) (pa_cons (pv 7) pa_nil)))
          (pss_one (ps_set (i := 7) sc.nd rfl (Or.inl rfl) (pe_ix ix_tup (pv 2) (pv 7) (fun _ _ => rfl))))))
        (pss_one (ps_expr (pe_bm PySem.F.plainAttrs_list PySem.F.slot_list_append PySem.F.type_list_append mt_append (pv 3) (pa_cons (pe_callTy call_tuple_of (by rfl) T.tuple (by decide +kernel) (pa_cons (pv 6) pa_nil)) pa_nil))))))))
      (pss_one (ps_ret (pe_callTy call_tuple_of (by rfl) T.tuple (by decide +kernel) (pa_cons (pv 3) pa_nil))))))), ?_⟩
  refine ⟨_, rfl, _, rfl, a, r, rows, l, rfl, hb, hR, hF, hsz, fun H1 p s1 hp => ?_⟩
  refine ⟨by decide, fun D hD => ?_⟩
  refine ⟨_, rfl, r, _, rfl, Same.sqt (s1.trans (up_same hD)) hR, for_enumT (K := K)
    (fun i σ H' => ∃ t4 t5 t6 t7 t8 B vs, σ = [some (.ref a), some (.ref r), some (.ref p), some (.ref D), t4, t5, t6, t7, t8] ∧ Same H1 B ∧ Hs B [(D, .lst vs)] H' ∧ ImA K B vs ((List.range i).map fun i => DN (kidsN (wt rows l) i)))
    ⟨none, none, none, none, none, H1, [], rfl, Same.refl _, (Hs.start H1).new hD, .nil⟩ (fun i σ H' _ ⟨_, _, _, _, _, B, _, _, s, h, _⟩ => Same.sqt ((s1.trans s).trans h.sub) hR) ?_ ?_⟩
  · rintro i x σ H' Tt hx ⟨t4, t5, t6, t7, t8, B, vs, rfl, sB, hh, im⟩ hT
    obtain ⟨y, hy, rfl⟩ := map_at hx
    have hi : i < l.length := (List.getElem?_eq_some_iff.mp hy).1
    have hiw : i < (wt rows l).length := by omega
    have ey := wt_at (rows := rows) hy
    have hal := aw_le hF hiw
    have hh := hh.lay (o := .tup [.int (i : Nat), .str y]) hT
    refine ⟨by decide, fun E hE => ?_⟩
    have hh := hh.new (o := .lst []) hE
    have sH := (s1.trans sB).trans hh.sub
    have eA : arK rows (Sum.inr y) = ar rows y := rfl
    refine ⟨_, rfl, _, _, rfl, rfl, _, rfl, _, rfl, a, rows, Sum.inr y, rfl, hb.mono (Stay.of sH), _, rfl, by omega, by omega, for_rng (n := ar rows y)
      (fun t σ H2 => ∃ u8 z, σ = [some (.ref a), some (.ref r), some (.ref p), some (.ref D), some (.int (i : Nat)), some (.str y), some (.ref E), some (.int z), u8] ∧ z = (kd (wt rows l) i t : Nat) ∧ Hs B [(E, .lst (vN ((List.range t).map (kd (wt rows l) i)))), (D, .lst vs)] H2)
      ⟨_, _, rfl, by rw [kd_zero]; rfl, hh⟩ ?_ ?_⟩
    · rintro t σ H2 ht ⟨u8, _, rfl, rfl, h2⟩
      have hk := hF.kd_lt hiw (k := t) (by omega)
      have s3 : Same H1 (upd H2 E (.lst (vN ((List.range t).map (kd (wt rows l) i)) ++ [.int (kd (wt rows l) i t : Nat)]))) := sB.trans (h2.w0).sub
      refine ⟨_, rfl, .inl ⟨rfl, _, SqL.of h2.r0⟩, _, rfl, E, _, _, rfl, rfl, h2.r0, by rw [sizeLine_eq, List.length_map, List.length_map, List.length_range]; omega, _, rfl, _, rfl, p, _, _, _, rfl, rfl, Same.sqt s3 hp, atI_nat (vN_at (ens_at hk)), _, _, rfl, by rw [kd_succ], ?_⟩
      rw [List.range_succ, List.map_append, vN, List.map_append]
      exact h2.w0
    · rintro σ H2 ⟨u8, _, rfl, rfl, h2⟩
      refine ⟨_, rfl, .inl ⟨rfl, _, SqL.of h2.r1⟩, _, rfl, E, _, rfl, .inl ⟨SqL.of h2.r0, fun q hq => ?_⟩⟩
      have hn := h2.tup (o := .tup (vN ((List.range (ar rows y)).map (kd (wt rows l) i)))) hq
      have sB2 : Same B (upd B q (.tup (vN ((List.range (ar rows y)).map (kd (wt rows l) i))))) := up_same (h2.sub.free hq)
      have iq : Im K (upd B q (.tup (vN ((List.range (ar rows y)).map (kd (wt rows l) i))))) (.ref q) (DN (kidsN (wt rows l) i)) := by
        rw [kidsN, ey]
        exact Im.nats (SqT.of upd_same)
      refine ⟨D, _, _, rfl, rfl, hn.r1, by rw [im.len, List.length_map, List.length_range, sizeLine_eq]; omega, _, _, _, _, _, _, _, rfl, sB.trans sB2, (hn.w1).drop, ?_⟩
      rw [List.range_succ, List.map_append]
      exact (im.mono (Stay.of sB2)).snoc iq
  · rintro σ H' ⟨t4, t5, t6, t7, t8, B, vs, rfl, sB, hh, im⟩
    refine ⟨_, rfl, D, _, rfl, .inl ⟨SqL.of hh.r0, fun q hn => ?_⟩⟩
    rw [List.length_map] at im
    have sq := hh.sub.trans (up_same (o := .tup vs) hn)
    refine hq _ _ ((s1.trans sB).trans sq) (.tup (SqT.of upd_same) ?_)
    rw [hwl]
    exact im.mono (Stay.of sq)
end
end Sy
namespace Sy
open PySem PySem.Spec PyProof.Rows L2
/-- a plant of the bed -/
structure Pln (rows : List Sy.Row) (l : List Str) : Prop where
  fo : Fo 1 (wt rows l)
  kn : ∀ x ∈ l, isK rows x = true
  le : l.length ≤ 2000
theorem fa_ok {rows : List Sy.Row} {lv : List Str} : ∀ {l : List Str} {m i : Nat}, Fo m (wt rows l) → (∀ x ∈ l, isK rows x = true) → fa rows lv m i l = -1
  | [], 0, i, _, _ => rfl
  | x :: l, m + 1, i, h, k => by
    have h : Fo (m + ar rows x) (wt rows l) := h
    rw [fa, if_neg (by omega), if_neg (fun z => by rw [k x List.mem_cons_self] at z; cases z.1)]
    exact fa_ok (m := m + 1 - 1 + ar rows x) h fun y hy => k y (List.mem_cons_of_mem _ hy)
theorem Ra.mono {K : PySem.W.Frag} {x : Str} {fs : List (Str × V)} {H H1 : Hp} {E : XK} (h : Ra K x fs H E) (s : Same H H1) : Ra K x fs H1 E := fun d H' s' e => h d H' (s.trans s') e
section
variable {P : Program} {w : World} {K : PySem.W.Frag} {mg : Str → Option Value} {base : Heap}
/-! place_of -/
/-! check_plant, check_stump -/
def ckr (tag : Nat → Er) (rows : List Sy.Row) (lv l : List Str) : Option Er := if 2000 < l.length then some (.many "knots" 2000) else if 0 ≤ fa rows lv 1 0 l then some (tag (fa rows lv 1 0 l).toNat) else none
abbrev ckS (rows : List Sy.Row) (l : List Str) : Option Er := ckr .stump rows ["*"] l
theorem fa_neg {rows : List Sy.Row} {lv : List Str} : ∀ {l : List Str} {m i : Nat}, fa rows lv m i l < 0 → Fo m (wt rows l) ∧ ∀ x ∈ l, isK rows x = true ∨ x ∈ lv
  | [], m, i, h => by
    rw [fa] at h
    by_cases c : 0 < m
    · rw [if_pos c] at h; omega
    · have : m = 0 := by omega
      subst this
      exact ⟨trivial, fun _ z => (nomatch z)⟩
  | x :: l, m, i, h => by
    rw [fa] at h
    by_cases c : m = 0
    · rw [if_pos c] at h; omega
    · rw [if_neg c] at h
      by_cases d : isK rows x = false ∧ x ∉ lv
      · rw [if_pos d] at h; omega
      · rw [if_neg d] at h
        obtain ⟨h1, h2⟩ := fa_neg h
        obtain ⟨n, rfl⟩ : ∃ n, m = n + 1 := ⟨m - 1, by omega⟩
        refine ⟨h1, fun y hy => ?_⟩
        rcases List.mem_cons.mp hy with rfl | hy
        · by_cases e : isK rows y = true
          · exact .inl e
          · refine .inr (Decidable.byContradiction fun z => d ⟨by simpa using e, z⟩)
        · exact h2 y hy
theorem fa_le {rows : List Sy.Row} {lv : List Str} : ∀ {l : List Str} {m i : Nat}, fa rows lv m i l ≤ ((i + l.length : Nat) : Int)
  | [], m, i => by rw [fa]; split <;> simp <;> omega
  | x :: l, m, i => by
    rw [fa]
    split
    · simp only [List.length_cons]; omega
    · split
      · simp only [List.length_cons]; omega
      · have := fa_le (rows := rows) (lv := lv) (l := l) (m := m - 1 + ar rows x) (i := i + 1)
        simp only [List.length_cons]
        omega
/-- a stump of the bed -/
structure Stm (rows : List Sy.Row) (l : List Str) : Prop where
  fo : Fo 1 (wt rows l)
  kn : ∀ x ∈ l, isK rows x = true ∨ x = "*"
  le : l.length ≤ 2000
theorem stm_of {rows : List Sy.Row} {l : List Str} (h : ckS rows l = none) : Stm rows l := by
  unfold ckS ckr at h
  split at h
  · cases h
  · split at h
    · cases h
    · obtain ⟨h1, h2⟩ := fa_neg (rows := rows) (lv := ["*"]) (l := l) (m := 1) (i := 0) (by omega)
      exact ⟨h1, fun x hx => (h2 x hx).imp id fun z => List.mem_singleton.mp z, by omega⟩
def spCheckE (K : PySem.W.Frag) (ck : List Sy.Row → List Str → Option Er) : Sp := fun vs H Q E => ∃ a r rows l, vs = [.ref a, .ref r] ∧ BedAt K H a rows ∧ SqT K H r (l.map V.str) ∧ (ck rows l = none → ∀ H', Same H H' → Q .non H') ∧ (∀ e, ck rows l = some e → RaE K e H E)
abbrev N_check : List Str := ["bed", "plant", "place"]
theorem im_int {H : Hp} (i : Nat) : ImF K H [("place", V.int (i : Nat))] [("place", .int (i : Nat))] := .cons (.int _) .nil
theorem im_tm {H : Hp} : ImF K H [("limit", .int 2000), ("what", .str "knots")] (Er.many "knots" 2000).fds := .cons (.int _) (.cons (.str _) .nil)
abbrev N_checkS : List Str := ["bed", "stump", "place"]
theorem sc_checkS : FnScope N_checkS ["bed", "stump"] (defScope (top 28)) := ⟨rfl, rfl, rfl, by decide +kernel, rfl, by decide +kernel, by decide +kernel⟩
theorem k_checkS (T : Txt K mg) (hole : ∃ t, mg "HOLE" = some (.str "*" t)) (R : Ers P K mg) (F : DF K mg "check_stump" 28) (c_check_count : Cal P w K mg base 3 "check_count" ["number"] (spCount K)) (c_fault_among : Cal P w K mg base 2 "fault_among" ["bed", "row", "leaves"] (spFault K)) : Cal P w K mg base 4 "check_stump" ["bed", "stump"] (spCheckE K ckS) := by
  refine cal_of F.1 F.2 sc_checkS (fun _ _ _ _ _ _ us e => match us, e with | [_, _], _ => rfl) (fun vs H Q E s => by obtain ⟨_, _, _, _, rfl, _⟩ := s; rfl) ?_
  intro cdv A outer s H vs Q E hr h
  obtain ⟨a, r, rows, l, rfl, hb, hR, hq, hE⟩ := h
  have sc := sc_checkS
  refine ⟨_, (pss_cons (ps_expr (pe_calX c_check_count hr (takes_of rfl rfl rfl rfl) (pa_cons (pe_callB call_len_seq (by rfl) T.len (by decide +kernel) (pa_cons (pv 1) pa_nil)) pa_nil)))
      (pss_cons (ps_set (i := 2) sc.nd rfl (Or.inl rfl) (pe_cal c_fault_among hr (pa_cons (pv 0) (pa_cons (pv 1) (pa_cons (pe_tup (pa_cons (pe_gstr rfl hole) pa_nil)) pa_nil)))))
      (pss_one (ps_if (pt_cmpR op_ge (pv 2) pe_int (nomark _))
        (pss_one (ps_raise rfl (takes_of rfl rfl rfl rfl) (mk_is R.is hr rfl (pa_cons (pv 2) pa_nil) pass0)))
        pss_nil)))), ?_⟩
  refine ⟨_, rfl, r, _, rfl, .inr hR, _, rfl, fun c => ?_, fun c => (hE (.many "knots" 2000) ?_).ra im_tm⟩
  · rw [List.length_map] at c
    refine ⟨_, rfl, _, rfl, by decide, fun t ht => ?_⟩
    have s1 := up_same (o := .tup [.str "*"]) ht
    refine ⟨a, r, t, rows, l, ["*"], rfl, hb.mono (Stay.of s1), Same.sqt s1 hR, SqT.of upd_same, fun H' s2 => ?_⟩
    refine ⟨_, rfl, _, _, rfl, rfl, _, rfl, if_dec (fun c2 => ?_) (fun c2 => ?_)⟩
    · have c2 : 0 ≤ fa rows ["*"] 1 0 l := c2
      have hle := fa_le (rows := rows) (lv := ["*"]) (l := l) (m := 1) (i := 0)
      obtain ⟨n, en⟩ : ∃ n : Nat, fa rows ["*"] 1 0 l = (n : Nat) := ⟨(fa rows ["*"] 1 0 l).toNat, by omega⟩
      rw [en] at hle ⊢
      refine ⟨_, rfl, mk_ra (fun _ _ => ⟨n, rfl, by omega, rfl⟩) (by show 1 ≤ 1000; decide) (((hE (.stump n) ?_).ra (im_int n)).mono (s1.trans s2))⟩
      unfold ckS ckr
      rw [if_neg (by omega), en, if_pos (by omega)]
      rfl
    · have c2 : ¬ 0 ≤ fa rows ["*"] 1 0 l := c2
      refine hq ?_ _ (s1.trans s2)
      unfold ckS ckr
      rw [if_neg (by omega), if_neg c2]
  · rw [List.length_map] at c
    unfold ckS ckr
    rw [if_pos (by omega)]
/-! plant_key, paths -/
end
end Sy
namespace Sy
open PySem PySem.Spec PyProof.Rows L2
/-- a dict comprehension over any walk -/
theorem dc_it {J : It} {n : Nat} {G : Hp → Prop} {Y : Nat → Hp → V → Hp → Prop} (w : Walk J n G Y) {g : TG} {tt : TT} {tk tv : TE} {vs : List Nat} {σ : L2.St} {H1 : Hp} {D : Addr} {Qd : Hp → Prop} (Pv : Nat → Hp → Prop) (h0 : Pv 0 (upd H1 D (.dK []))) (hG : ∀ i H, i ≤ n → Pv i H → G H)
    (hs : ∀ i x H H', i < n → Pv i H → Y i H x H' → g x (wipe σ vs) H' fun σ2 H2 => wipe σ2 vs = wipe σ vs ∧ tt σ2 H2 fun b H3 =>
      if b = true then tk σ2 H3 fun y H4 => tv σ2 H4 fun z H5 => ∃ kvs k, y = kV k ∧ H5 D = some (.dK kvs) ∧ kvs.length < sizeLine ∧ Pv (i + 1) (upd H5 D (.dK (putK kvs k z))) else Pv (i + 1) H3) (hd : ∀ H, Pv n H → Qd H) :
    ∃ W : Nat → Nat → Hp → Prop, (∃ m, W 0 m (upd H1 D (.dK []))) ∧ ∀ i m H, W i m H →
      (J.stop i H ∧ Qd H) ∨ (J.go i H ∧ ∃ Nx : Hp → Prop, (∀ H', Nx H' → ∃ m', m' < m ∧ W (i + 1) m' H') ∧ ∀ x H', J.yld i H x H' → g x (wipe σ vs) H' fun σ2 H2 => wipe σ2 vs = wipe σ vs ∧ tt σ2 H2 fun b H3 =>
        if b = true then tk σ2 H3 fun y H4 => tv σ2 H4 fun z H5 => ∃ kvs k, y = kV k ∧ H5 D = some (.dK kvs) ∧ kvs.length < sizeLine ∧ Nx (upd H5 D (.dK (putK kvs k z))) else Nx H3) := by
  refine ⟨fun i m H => i + m = n ∧ Pv i H, ⟨n, Nat.zero_add n, h0⟩, fun i m H ⟨e, p⟩ => ?_⟩
  have q := hG i H (by omega) p
  cases m with
  | zero =>
    obtain rfl : i = n := by omega
    exact .inl ⟨w.stops H q, hd H p⟩
  | succ m =>
    exact .inr ⟨w.goes i H (by omega) q, Pv (i + 1), fun H' p' => ⟨m, Nat.lt_succ_self m, by omega, p'⟩, fun x H' y => hs i x H H' (by omega) p (w.yields i H x H' (by omega) q y)⟩
theorem paired_at {α β : Type} {R : α → β → Prop} : ∀ {xs : List α} {ys : List β} {i : Nat} {y : β}, Paired R xs ys → ys[i]? = some y → ∃ x, xs[i]? = some x ∧ R x y
  | _, _, i, y, .nil, h => by simp at h
  | _, _, 0, y, .cons a _, h => by
    simp at h
    subst h
    exact ⟨_, rfl, a⟩
  | _, _, i + 1, y, .cons _ b, h => by
    obtain ⟨x, h1, h2⟩ := paired_at (i := i) b (by simpa using h)
    exact ⟨x, by simpa using h1, h2⟩
theorem paired_len {α β : Type} {R : α → β → Prop} : ∀ {xs : List α} {ys : List β}, Paired R xs ys → xs.length = ys.length
  | _, _, .nil => rfl
  | _, _, .cons _ b => by rw [List.length_cons, List.length_cons, paired_len b]
def nameOk (x : Str) : Bool := decide (x.length ≤ 8) && (Txt.isascii x && (Txt.isalpha x && Txt.islower x))
def leafs (rows : List Sy.Row) : List Str := (rows.filter fun r => decide (r.2 = 0)).map (·.1)
/-- rows of which a bed is made -/
structure RowsOk (rows : List Sy.Row) : Prop where
  nm : ∀ r ∈ rows, nameOk r.1 = true
  br : ∀ r ∈ rows, r.2 ≤ 3
  nd : (rows.map (·.1)).Nodup
  lf : ∃ r ∈ rows, r.2 = 0
  le : rows.length ≤ 8
theorem lookup_none {rows : List Sy.Row} {x : Str} (h : ∀ r ∈ rows, r.1 ≠ x) : rows.lookup x = none := by
  induction rows with
  | nil => rfl
  | cons r rs ih =>
    rw [lookup_cons, if_neg (h r List.mem_cons_self)]
    exact ih fun q hq => h q (List.mem_cons_of_mem _ hq)
theorem nodup_take {rows : List Sy.Row} (nd : (rows.map (·.1)).Nodup) {i : Nat} {r : Sy.Row} (h : rows[i]? = some r) : ∀ q ∈ rows.take i, q.1 ≠ r.1 := by
  intro q hq e
  obtain ⟨j, hj, ej⟩ := List.mem_iff_getElem.mp hq
  rw [List.length_take] at hj
  rw [List.getElem_take] at ej
  obtain ⟨hi, er⟩ := List.getElem?_eq_some_iff.mp h
  have hlt : j < rows.length := by omega
  have := List.pairwise_iff_getElem.mp nd j i (by rw [List.length_map]; omega) (by rw [List.length_map]; omega) (by omega)
  rw [List.getElem_map, List.getElem_map, ej, er] at this
  exact this e
section
variable {P : Program} {w : World} {K : PySem.W.Frag} {mg : Str → Option Value} {base : Heap}
/-! only_letters, is_name -/
def spLetters : Sp := fun vs H Q _ => ∃ x : Str, vs = [.str x] ∧ Q (.bl (Txt.isascii x && (Txt.isalpha x && Txt.islower x))) H
theorem sc_letters : FnScope ["text"] ["text"] (defScope (top 33)) := ⟨rfl, rfl, rfl, by decide +kernel, rfl, by decide +kernel, by decide +kernel⟩
theorem k_letters (F : DF K mg "only_letters" 33) : Cal P w K mg base 1 "only_letters" ["text"] spLetters := by
  refine cal_of F.1 F.2 sc_letters (fun _ _ _ _ _ _ us e => match us, e with | [_], _ => rfl) (fun vs H Q E s => by obtain ⟨_, rfl, _⟩ := s; rfl) ?_
  intro cdv A outer s H vs Q E hr h
  obtain ⟨x, rfl, hq⟩ := h
  refine ⟨_, (pss_one (ps_ret (pe_and (pe_bm0 PySem.F.plainAttrs_str PySem.F.slot_str_isascii PySem.F.type_str_isascii mt_isascii (pv 0)) (pe_and (pe_bm0 PySem.F.plainAttrs_str PySem.F.slot_str_isalpha PySem.F.type_str_isalpha mt_isalpha (pv 0)) (pe_one (pe_bm0 PySem.F.plainAttrs_str PySem.F.slot_str_islower PySem.F.type_str_islower mt_islower (pv 0))))))), ?_⟩
  refine ⟨_, rfl, rfl, x, rfl, rfl, trivial, _, rfl, if_bool (fun c1 => ?_) (fun c1 => ?_)⟩
  · rw [c1] at hq
    refine ⟨_, rfl, rfl, x, rfl, rfl, trivial, _, rfl, if_bool (fun c2 => ?_) (fun c2 => ?_)⟩
    · rw [c2] at hq
      exact ⟨_, rfl, rfl, x, rfl, rfl, trivial, hq⟩
    · rw [c2] at hq
      exact hq
  · rw [c1] at hq
    exact hq
def spName : Sp := fun vs H Q _ => ∃ x : Str, vs = [.str x] ∧ x.length ≤ 1000000 ∧ Q (.bl (nameOk x)) H
theorem sc_name : FnScope ["text"] ["text"] (defScope (top 34)) := ⟨rfl, rfl, rfl, by decide +kernel, rfl, by decide +kernel, by decide +kernel⟩
theorem k_name (T : Txt K mg) (F : DF K mg "is_name" 34) (c_only_letters : Cal P w K mg base 1 "only_letters" ["text"] spLetters) : Cal P w K mg base 2 "is_name" ["text"] spName := by
  refine cal_of F.1 F.2 sc_name (fun _ _ _ _ _ _ us e => match us, e with | [_], _ => rfl) (fun vs H Q E s => by obtain ⟨_, rfl, _⟩ := s; rfl) ?_
  intro cdv A outer s H vs Q E hr h
  obtain ⟨x, rfl, hx, hq⟩ := h
  refine ⟨_, (pss_one (ps_ret (pe_and (pe_cmpR op_le (pe_callB call_len_str (by rfl) T.len (by decide +kernel) (pa_cons (pv 0) pa_nil)) (pe_gint rfl T.LONGEST_NAME) (nomark _)) (pe_one (pe_cal c_only_letters hr (pa_cons (pv 0) pa_nil)))))), ?_⟩
  have e8 : decide ((x.length : Int) ≤ 8) = decide (x.length ≤ 8) := by
    by_cases h : x.length ≤ 8
    · rw [decide_eq_true h, decide_eq_true (by omega)]
    · rw [decide_eq_false h, decide_eq_false (by omega)]
  unfold nameOk at hq
  rw [← e8] at hq
  refine ⟨_, rfl, x, rfl, by rw [sizeLine_eq]; omega, _, _, rfl, rfl, _, rfl, if_bool (fun c1 => ?_) (fun c1 => ?_)⟩
  · rw [c1] at hq
    exact ⟨_, rfl, x, rfl, hq⟩
  · rw [c1] at hq
    exact hq
/-! methods of Bed -/
structure MB (K : PySem.W.Frag) (m q : Str) (st : Stmt) : Prop where
  me : Meth K (He.ga K "Bed") m (He.ma K (He.ga K "Bed") m)
  fn : ∃ fd, FunD K m q (defArgs st) (defBody st) (defScope st) [] [] (He.ma K (He.ga K "Bed") m) fd
structure CalM (P : Program) (w : World) (K : PySem.W.Frag) (mg : Str → Option Value) (base : Heap) (k : Nat) (m : Str) (ps : List Str) (sp : Sp) : Prop where
  me : Meth K (He.ga K "Bed") m (He.ma K (He.ga K "Bed") m)
  fn : ∃ fd, FnOk P w K mg base (L2.CX P w) k (He.ma K (He.ga K "Bed") m) fd ps sp ∧ Binds K fd ps []
theorem calM_of {m q : Str} {st : Stmt} {N ps : List Str} {k : Nat} {sp : Sp} (F : MB K m q st) (S : FnScope N ps (defScope st))
    (hb : ∀ (kV doc pm : Value) (an : Option Addr) (cdv ct : Value) (us : List Value), us.length = ps.length → bindArgs (PySem.W.fnOf m q (defArgs st) (defBody st) (defScope st) .none kV doc pm an cdv ct) ⟨us, []⟩ = pure (ps.zip us))
    (len : ∀ vs H Q E, sp vs H Q E → vs.length = ps.length)
    (body : ∀ (cdv : Value) (A : Around) (outer : List Env) (s : Shared) (H : Hp) (vs : List V) (Q : VK) (E : XK), Room k (A.deeper (envOfC q (defScope st) s.heap.objs.size (He.ma K (He.ga K "Bed") m) cdv)) → sp vs H Q E →
      ∃ t, PSs (cxOf (L2.CX P w) P w K mg base N q (defScope st) (He.ma K (He.ga K "Bed") m) cdv A outer s H E) (defBody st) t ∧ t { nx := fun _ H' => Q .non H', rt := Q } (start N vs) H) : CalM P w K mg base (k + 1) m ps sp := by
  obtain ⟨me, fd, F⟩ := F
  exact ⟨me, fd, F.ok S len body, F.bindsN hb⟩
abbrev WdB (x : Str) : Prop := x.length ≤ 100 ∧ ∀ c ∈ x.cps.toList, c < 16 ^ 8
theorem sc_branches : FnScope ["self", "kind"] ["self", "kind"] (defScope (clb 35 4)) := ⟨rfl, rfl, rfl, by decide +kernel, rfl, by decide +kernel, by decide +kernel⟩
def spLeaves (K : PySem.W.Frag) : Sp := fun vs H Q _ => ∃ (a : Addr) (rows : List Sy.Row), vs = [.ref a] ∧ BedAt K H a rows ∧ rows.length ≤ 1000 ∧ ∀ H' p, Same H H' → SqT K H' p ((leafs rows).map V.str) → Q (.ref p) H'
abbrev N_leaves : List Str := ["self", "name", "branches"]
theorem sc_leaves : FnScope N_leaves ["self"] (defScope (clb 35 3)) := ⟨rfl, rfl, rfl, by decide +kernel, rfl, by decide +kernel, by decide +kernel⟩
theorem k_leaves (T : Txt K mg) (F : MB K "leaves" "Bed.leaves" (clb 35 3)) : CalM P w K mg base 1 "leaves" ["self"] (spLeaves K) := by
  refine calM_of F sc_leaves (fun _ _ _ _ _ _ us e => match us, e with | [_], _ => rfl) (fun vs H Q E s => by obtain ⟨_, _, rfl, _⟩ := s; rfl) ?_
  intro cdv A outer s H vs Q E hr h
  obtain ⟨a, rows, rfl, hb, hl, hq⟩ := h
  have sc := sc_leaves
  obtain ⟨dx, dA, tR, tK, dR, ps, h1, hd, h3, h4, h5, h6⟩ := hb.ex
  have hpl := paired_len h6
  refine ⟨_, (pss_one (ps_ret (pe_callTy call_tuple_of (by rfl) T.tuple (by decide +kernel) (pa_cons (pe_lc (own := [("name", 1), ("branches", 2)]) (g := gTup K 2 (gCons (gName 1) (gCons (gName 2) (gNil)))) rfl sc.nd (pi_tup (pe_fld (pv 0) rfl)) (blkOk_by (N := N_leaves) (sc := defScope (clb 35 3)) (by decide +kernel)) (fun _ _ _ _ _ => (pg_tup rfl (pgs_cons (pg_name (i := 1) sc.nd rfl (Or.inl rfl)) (pgs_cons (pg_name (i := 2) sc.nd rfl (Or.inl rfl)) pgs_nil)))) (fun _ _ _ _ _ => (pts_one (pt_cmpR op_eq (pv 2) pe_int (nomark _)))) (fun _ _ _ _ _ => (pv 1))) pa_nil)))), ?_⟩
  refine ⟨_, rfl, a, _, dx, _, _, rfl, h1, T.bed.cl, T.bed.nR, rfl, tR, rfl, ⟨_, h4⟩, fun D hD => lc_it walk_tup (fun i H' => Hs H [(D, .lst ((leafs (rows.take i)).map V.str))] H') ((Hs.start H).new hD) (fun _ _ _ p => Same.sqt p.sub h4) ?_ ?_⟩
  · rintro i x H' _ hi hh ⟨rfl, hx⟩
    rw [List.length_map, hpl] at hi
    obtain ⟨r, hr'⟩ : ∃ r, rows[i]? = some r := ⟨_, List.getElem?_eq_getElem hi⟩
    obtain ⟨q, e1, tq⟩ := paired_at h6 hr'
    rw [List.getElem?_map, e1] at hx
    cases hx
    have etk : rows.take (i + 1) = rows.take i ++ [r] := by rw [List.take_succ, hr']; rfl
    have ll : (leafs (rows.take i)).length ≤ 1000 := by
      unfold leafs
      rw [List.length_map]
      have := List.length_filter_le (fun r : Sy.Row => decide (r.2 = 0)) (rows.take i)
      rw [List.length_take] at this
      omega
    refine ⟨q, _, rfl, Same.sqt hh.sub tq, rfl, _, _, rfl, _, _, rfl, rfl, rfl, _, rfl, rfl, _, rfl, if_dec (fun c => ?_) (fun c => ?_)⟩
    · refine ⟨_, rfl, _, hh.r0, by rw [List.length_map, sizeLine_eq]; omega, ?_⟩
      have c2 : r.2 = 0 := by
        have := V.int.inj c
        omega
      have : leafs (rows.take (i + 1)) = leafs (rows.take i) ++ [r.1] := by
        unfold leafs
        rw [etk, List.filter_append, List.map_append]
        simp [c2]
      rw [this, List.map_append]
      exact hh.w0
    · have c2 : ¬ r.2 = 0 := fun z => c (by rw [z]; rfl)
      have : leafs (rows.take (i + 1)) = leafs (rows.take i) := by
        unfold leafs
        rw [etk, List.filter_append, List.map_append]
        simp [c2]
      rw [this]
      exact hh
  · intro H' hh
    rw [List.length_map, hpl, List.take_length] at hh
    exact ⟨D, _, rfl, .inl ⟨SqL.of hh.r0, fun l hl => hq _ _ (hh.sub.trans (up_same hl)) (SqT.of upd_same)⟩⟩
end
end Sy
namespace Sy
open PySem PySem.Spec PyProof.Rows L2
section
variable {P : Program} {w : World} {K : PySem.W.Frag} {mg : Str → Option Value} {base : Heap}
/-- what a def with a star asks, by what its body asks -/
def spStar (n : Nat) (sp : Sp) : Sp := fun vs H Q E => ∃ ws rest, vs = ws ++ rest ∧ ws.length = n ∧ rest.length ≤ sizeLine ∧ ∀ p, H p = Option.none → sp (ws ++ [V.ref p]) (upd H p (.tup rest)) Q E
theorem fnR_of {x q pv : Str} {st : Stmt} {f : Addr} {fd : FuncData} {N ps : List Str} {k : Nat} {sp : Sp} (F : FunD K x q (defArgs st) (defBody st) (defScope st) [] [] f fd) (S : FnScope N (ps ++ [pv]) (defScope st))
    (hb : ∀ (kV doc pm : Value) (an : Option Addr) (cdv ct : Value) (us rest : List Value), us.length = ps.length → bindArgs (PySem.W.fnOf x q (defArgs st) (defBody st) (defScope st) .none kV doc pm an cdv ct) ⟨us ++ rest, []⟩ = (newTuple rest >>= fun t => pure (ps.zip us ++ [(pv, t)])))
    (body : ∀ (cdv : Value) (A : Around) (outer : List Env) (s : Shared) (H : Hp) (vs : List V) (Q : VK) (E : XK), Room k (A.deeper (envOfC q (defScope st) s.heap.objs.size f cdv)) → sp vs H Q E →
      ∃ t, PSs (cxOf (L2.CX P w) P w K mg base N q (defScope st) f cdv A outer s H E) (defBody st) t ∧ t { nx := fun _ H' => Q .non H', rt := Q } (start N vs) H) : FnR P w K mg base (L2.CX P w) (k + 1) f (spStar ps.length sp) := by
  obtain ⟨oc, od, dV, kV, doc, pm, an, cdv, ct, osl, rfl, lk, hcd, hD, hK⟩ := F.ex
  rcases hD with ⟨_, rfl⟩ | ⟨e, _⟩
  · exact StX.fn_star lk hcd S StX.cxUp (hb kV doc pm an cdv ct) fun A outer s H vs Q E hr h => body cdv A outer s H vs Q E hr h
  · exact absurd rfl e
/-! Bed.__init__ -/
def spInitB (K : PySem.W.Frag) : Sp := fun vs H Q _ => ∃ (x p dx : Addr) (ps : List Addr) (rows : List Sy.Row), vs = [.ref x, .ref p] ∧ H x = some (.ins (He.ga K "Bed") dx []) ∧ SqT K H p (ps.map V.ref) ∧ Paired (fun q (r : Sy.Row) => SqT K H q [.str r.1, .int (r.2 : Nat)]) ps rows ∧ RowsOk rows ∧
  ∀ H', (∀ a o, a ≠ x → H a = some o → H' a = some o) → BedAt K H' x rows → Q .non H'
abbrev N_init : List Str := ["self", "kinds", "place", "name", "branches", "rank"]
theorem sc_init : FnScope N_init ((["self"] : List Str) ++ (["kinds"] : List Str)) (defScope (clb 35 0)) := ⟨rfl, rfl, rfl, by decide +kernel, rfl, by decide +kernel, by decide +kernel⟩
theorem sqt_del {H : Hp} {x p C dx : Addr} {fs : List (Str × V)} {xs : List V} (h : SqT K H p xs) (hx : H x = some (.ins C dx fs)) : SqT K (L2.del H x) p xs := by
  have ne : ∀ o, H p = some o → (∀ C dx fs, o ≠ .ins C dx fs) → p ≠ x := fun o e n z => by
    rw [z, hx] at e
    exact n _ _ _ (Option.some.inj e).symm
  rcases h with (h | ⟨o, h⟩) | h
  · exact .inl (.inl (by rw [del_ne (ne _ h fun _ _ _ z => by cases z)]; exact h))
  · exact .inl (.inr ⟨o, by rw [del_ne (ne _ h fun _ _ _ z => by cases z)]; exact h⟩)
  · exact .inr h
theorem nx_le (x : Str) (h : nameOk x = true) : x.length ≤ 8 := by
  unfold nameOk at h
  exact of_decide_eq_true (Bool.and_eq_true_iff.mp h).1
theorem rkKV_snoc : ∀ (l : List Sy.Row) (n : Nat) (r : Sy.Row), rkKV n (l ++ [r]) = rkKV n l ++ [(Sum.inr r.1, V.int ((n + l.length : Nat) : Int))]
  | [], n, r => rfl
  | q :: l, n, r => by
    show (Sum.inr q.1, V.int (n : Nat)) :: rkKV (n + 1) (l ++ [r]) = _
    rw [rkKV_snoc l (n + 1) r, show n + 1 + l.length = n + (q :: l).length by rw [List.length_cons]; omega]
    rfl
theorem rkKV_len : ∀ (l : List Sy.Row) (n : Nat), (rkKV n l).length = l.length
  | [], _ => rfl
  | q :: l, n => by
    show (rkKV (n + 1) l).length + 1 = _
    rw [rkKV_len l (n + 1)]
    rfl
theorem rk_none : ∀ {l : List Sy.Row} {n : Nat} {x : Str}, (∀ q ∈ l, q.1 ≠ x) → rk n l x = none
  | [], _, _, _ => rfl
  | q :: l, n, x, h => by
    rw [rk, if_neg (h q List.mem_cons_self)]
    exact rk_none fun z hz => h z (List.mem_cons_of_mem _ hz)
theorem leafs_pos {rows : List Sy.Row} (h : ∃ r ∈ rows, r.2 = 0) : 0 < (leafs rows).length := by
  obtain ⟨r, hr, e⟩ := h
  unfold leafs
  rw [List.length_map]
  exact List.length_pos_of_mem (List.mem_filter.mpr ⟨hr, decide_eq_true e⟩)
theorem r_init (T : Txt K mg) (F : MB K "__init__" "Bed.__init__" (clb 35 0)) (c_is_name : Cal P w K mg base 2 "is_name" ["text"] spName) (c_leaves : CalM P w K mg base 1 "leaves" ["self"] (spLeaves K)) :
    FnR P w K mg base (L2.CX P w) 3 (He.ma K (He.ga K "Bed") "__init__") (spStar 1 (spInitB K)) := by
  obtain ⟨me, fd, F⟩ := F
  obtain ⟨mL, fL, FL, BL⟩ := c_leaves
  refine fnR_of (ps := ["self"]) F sc_init (fun kV doc pm an cdv ct => StX.bind_star1 (B := fun l => bindArgs (PySem.W.fnOf "__init__" "Bed.__init__" (defArgs (clb 35 0)) (defBody (clb 35 0)) (defScope (clb 35 0)) .none kV doc pm an cdv ct) ⟨l, []⟩) (fun _ => rfl) (fun _ _ _ => rfl)) ?_
  intro cdv A outer s H vs Q E hr h
  obtain ⟨x, p, dx, ps, rows, rfl, hx, hp, hpr, ok, hq⟩ := h
  have hu := hu_of hr
  have sc := sc_init
  refine ⟨_, (pss_cons (ps_if (pt_cmpR op_gt (pe_callB call_len_seq (by rfl) T.len (by decide +kernel) (pa_cons (pv 1) pa_nil)) (pe_gint rfl T.MOST_KINDS) (nomark _))
        (pss_one ps_never)
        pss_nil)
      (pss_cons (ps_fld (pv 0) pe_dnewK rfl)
      (pss_cons (ps_for (passes_of rfl) rfl (pi_enumT (by rfl) T.enumerate (pa_cons (pv 1) pa_nil)) (pg_tup rfl (pgs_cons (pg_name (i := 2) sc.nd rfl (Or.inl rfl)) (pgs_cons (pg_tup rfl (pgs_cons (pg_name (i := 3) sc.nd rfl (Or.inl rfl)) (pgs_cons (pg_name (i := 4) sc.nd rfl (Or.inl rfl)) pgs_nil))) pgs_nil)))
        (pss_cons (ps_if (pt_not (pt_val (pe_cal c_is_name hr (pa_cons (pv 3) pa_nil))))
          (pss_one ps_never)
          pss_nil)
        (pss_cons (ps_if (PW.pt (pw_or (pt_cmpR op_lt (pv 4) pe_int (nomark _)) (pw_or1 (pt_cmpR op_gt (pv 4) (pe_gint rfl T.MOST_BRANCHES) (nomark _)))))
          (pss_one ps_never)
          pss_nil)
        (pss_cons (ps_if (pt_cmp (pc_din hu (pv 3) (pe_fld (pv 0) rfl)))
          (pss_one ps_never)
          pss_nil)
        (pss_one (ps_dput hu (pe_fld (pv 0) rfl) (pv 3) (pv 4) rfl))))))
      (pss_cons (ps_fld (pv 0) (pe_callTy call_tuple_of (by rfl) T.tuple (by decide +kernel) (pa_cons (pv 1) pa_nil)) rfl)
      (pss_cons (ps_fld (pv 0) (pe_callTy call_tuple_of (by rfl) T.tuple (by decide +kernel) (pa_cons (pe_lc (own := [("name", 3), ("branches", 4)]) (g := gTup K 2 (gCons (gName 3) (gCons (gName 4) (gNil)))) rfl sc.nd (pi_tup (pv 1)) (blkOk_by (N := N_init) (sc := defScope (clb 35 0)) (by decide +kernel)) (fun _ _ _ _ _ => (pg_tup rfl (pgs_cons (pg_name (i := 3) sc.nd rfl (Or.inl rfl)) (pgs_cons (pg_name (i := 4) sc.nd rfl (Or.inl rfl)) pgs_nil)))) (fun _ _ _ _ _ => pts_nil) (fun _ _ _ _ _ => (pv 3))) pa_nil)) rfl)
      (pss_cons (ps_fld (pv 0) (pe_dc (own := [("rank", 5), ("name", 3)]) (g := gTup K 2 (gCons (gName 5) (gCons (gName 3) (gNil)))) rfl sc.nd (pi_enumT (by rfl) T.enumerate (pa_cons (pe_fld (pv 0) rfl) pa_nil)) (blkOk_by (N := N_init) (sc := defScope (clb 35 0)) (by decide +kernel)) (fun _ _ _ _ _ => (pg_tup rfl (pgs_cons (pg_name (i := 5) sc.nd rfl (Or.inl rfl)) (pgs_cons (pg_name (i := 3) sc.nd rfl (Or.inl rfl)) pgs_nil)))) (fun _ _ _ _ _ => pts_nil) (fun _ _ _ _ _ => (pv 3)) (fun _ _ _ _ _ => (pv 5))) rfl)
      (pss_one (ps_if (pt_cmpR op_eq (pe_callB call_len_seq (by rfl) T.len (by decide +kernel) (pa_cons (pe_meth0 (pv 0) T.bed.cl mL FL (hr.mono (by decide)) BL .nil (E := E0) (fun pins σ H s e s' I h => passL pins σ H s e s' I h)) pa_nil)) pe_int (nomark _))
        (pss_one ps_never)
        pss_nil)))))))), ?_⟩
  have hpl := paired_len hpr
  have hle := ok.le
  -- known for good: all but the new object
  have k0 : Hs (L2.del H x) [(x, .ins (He.ga K "Bed") dx [])] H := (Hs.start H).take hx
  have hp0 := sqt_del hp hx
  have hpr0 : Paired (fun q (r : Sy.Row) => SqT K (L2.del H x) q [.str r.1, .int (r.2 : Nat)]) ps rows := Paired.mapP hpr fun _ _ z => sqt_del z hx
  generalize hB : L2.del H x = B at *
  refine ⟨_, rfl, p, _, rfl, .inr hp, _, _, rfl, rfl, _, rfl, ?_⟩
  rw [List.length_map, hpl, decide_eq_false (by omega)]
  refine iteF fun d hd => ?_
  have k1 := k0.new (o := .dK []) hd
  refine ⟨_, rfl, x, _, dx, _, rfl, k1.r1, T.bed.cl, T.bed.nA, by decide, ?_⟩
  have k2 := k1.w1 (o' := .ins (He.ga K "Bed") dx (putF "arities" (.ref d) []))
  refine ⟨_, rfl, p, _, rfl, Same.sqt k2.sub hp0, for_it walkE (fun i σ H' => ∃ t2 t3 t4, σ = [some (.ref x), some (.ref p), t2, t3, t4, none] ∧ Hs B [(d, .dK (arKV (rows.take i))), (x, .ins (He.ga K "Bed") dx [("arities", .ref d)])] H') ⟨none, none, none, rfl, k2⟩ (fun _ _ _ _ ⟨_, _, _, _, z⟩ => Same.sqt z.sub hp0) ?_ ?_⟩
  · rintro i v σ H1 H2 hi ⟨t2, t3, t4, rfl, hh⟩ ⟨T1, u1, u2, rfl, hT, rfl, e1, e2⟩
    cases e1
    rw [List.length_map, hpl] at hi
    obtain ⟨r, hr'⟩ : ∃ r, rows[i]? = some r := ⟨_, List.getElem?_eq_getElem hi⟩
    obtain ⟨q, eq, tq⟩ := paired_at hpr0 hr'
    have e2 : (ps.map V.ref)[i]? = some u2 := e2
    rw [List.getElem?_map, eq] at e2
    cases e2
    have hm := List.mem_of_getElem? hr'
    have hh := hh.lay (o := .tup [.int (i : Nat), .ref q]) hT
    have hnone : ∀ z ∈ rows.take i, z.1 ≠ r.1 := nodup_take ok.nd hr'
    have vn : valV (arKV (rows.take i)) (Sum.inr r.1 : Key) = none := by rw [valV_ar, lookup_none hnone]; rfl
    have hbr := ok.br r hm
    have hnm := ok.nm r hm
    have etk : rows.take (i + 1) = rows.take i ++ [r] := by rw [List.take_succ, hr']; rfl
    refine ⟨T1, _, rfl, SqT.of upd_same, rfl, _, _, rfl, _, _, rfl, q, _, rfl, Same.sqt hh.sub tq, rfl, _, _, rfl, _, _, rfl, rfl, rfl, ?_⟩
    refine ⟨_, rfl, r.1, rfl, Nat.le_trans (nx_le _ hnm) (by decide), _, rfl, ?_⟩
    rw [hnm]
    refine iteF ⟨_, rfl, _, _, rfl, rfl, _, rfl, ?_⟩
    rw [decide_eq_false (by omega)]
    refine iteF ⟨_, rfl, _, _, rfl, rfl, _, rfl, ?_⟩
    rw [decide_eq_false (by omega)]
    refine iteF ⟨_, rfl, _, rfl, x, _, dx, _, _, rfl, hh.r1, T.bed.cl, T.bed.nA, rfl, d, _, rfl, DGet.k (k := Sum.inr r.1) hh.r0, _, rfl, ?_⟩
    rw [vn]
    refine iteF ⟨_, rfl, _, rfl, x, _, dx, _, _, rfl, hh.r1, T.bed.cl, T.bed.nA, rfl, _, rfl, d, _, rfl, DPut.k (k := Sum.inr r.1) hh.r0 (by unfold arKV; rw [List.length_map, List.length_take, sizeLine_eq]; omega), ?_⟩
    refine ⟨_, _, _, rfl, ?_⟩
    rw [putK_new _ vn, etk]
    unfold arKV
    rw [List.map_append]
    exact hh.w0
  · rintro σ H1 ⟨t2, t3, t4, rfl, hh⟩
    rw [List.length_map, hpl, List.take_length] at hh
    -- rows
    refine ⟨_, rfl, p, _, rfl, .inr ⟨Same.sqt hh.sub hp0, ?_⟩⟩
    refine ⟨_, rfl, x, _, dx, _, rfl, hh.r1, T.bed.cl, T.bed.nR, (by show 1 < 1000; decide), ?_⟩
    have k3 := hh.w1 (o' := .ins (He.ga K "Bed") dx [("arities", .ref d), ("rows", .ref p)])
    -- kinds
    refine ⟨_, rfl, p, rfl, ⟨_, Same.sqt k3.sub hp0⟩, fun D hD => lc_it walk_tup (fun i H' => Hs B [(D, .lst ((rows.take i).map fun r => V.str r.1)), (d, .dK (arKV rows)), (x, .ins (He.ga K "Bed") dx [("arities", .ref d), ("rows", .ref p)])] H') (k3.new hD) (fun _ _ _ z => Same.sqt z.sub hp0) ?_ ?_⟩
    · rintro i v H1 _ hi hh ⟨rfl, hv⟩
      rw [List.length_map, hpl] at hi
      obtain ⟨r, hr'⟩ : ∃ r, rows[i]? = some r := ⟨_, List.getElem?_eq_getElem hi⟩
      obtain ⟨q, eq, tq⟩ := paired_at hpr0 hr'
      rw [List.getElem?_map, eq] at hv
      cases hv
      refine ⟨q, _, rfl, Same.sqt hh.sub tq, rfl, _, _, rfl, _, _, rfl, rfl, rfl, ?_⟩
      simp only [tYes, if_true]
      refine ⟨_, rfl, _, hh.r0, by rw [List.length_map, List.length_take, sizeLine_eq]; omega, ?_⟩
      rw [List.take_succ, hr', List.map_append]
      exact hh.w0
    intro H2 hh
    rw [List.length_map, hpl, List.take_length] at hh
    refine ⟨D, _, rfl, .inl ⟨SqL.of hh.r0, fun tK hK => ?_⟩⟩
    have k4 := (hh.drop).new (o := .tup (rows.map fun r => V.str r.1)) hK
    refine ⟨_, rfl, x, _, dx, _, rfl, k4.r2, T.bed.cl, T.bed.nK, (by show 2 < 1000; decide), ?_⟩
    have k5 := k4.w2 (o' := .ins (He.ga K "Bed") dx [("arities", .ref d), ("rows", .ref p), ("kinds", .ref tK)])
    -- ranks
    refine ⟨_, rfl, x, _, dx, _, _, rfl, k5.r2, T.bed.cl, T.bed.nK, rfl, tK, _, rfl, SqT.of k5.r0, fun R hR => dc_it walkE (fun i H' => Hs B [(R, .dK (rkKV 0 (rows.take i))), (tK, .tup (rows.map fun r => V.str r.1)), (d, .dK (arKV rows)), (x, .ins (He.ga K "Bed") dx [("arities", .ref d), ("rows", .ref p), ("kinds", .ref tK)])] H') (k5.new hR) (fun _ _ _ z => SqT.of z.r1) ?_ ?_⟩
    · rintro i v H1 H2 hi hh ⟨T1, u1, u2, rfl, hT, rfl, e1, e2⟩
      cases e1
      rw [List.length_map] at hi
      obtain ⟨r, hr'⟩ : ∃ r, rows[i]? = some r := ⟨_, List.getElem?_eq_getElem hi⟩
      have e2 : (rows.map fun r => V.str r.1)[i]? = some u2 := e2
      rw [List.getElem?_map, hr'] at e2
      cases e2
      have hh := hh.lay (o := .tup [.int (i : Nat), .str r.1]) hT
      have vn : valV (rkKV 0 (rows.take i)) (Sum.inr r.1 : Key) = none := by rw [valV_rk, rk_none (nodup_take ok.nd hr')]; rfl
      refine ⟨T1, _, rfl, SqT.of upd_same, rfl, _, _, rfl, _, _, rfl, rfl, rfl, ?_⟩
      simp only [tYes, if_true]
      refine ⟨_, rfl, _, rfl, _, Sum.inr r.1, rfl, hh.r0, by rw [rkKV_len, List.length_take, sizeLine_eq]; omega, ?_⟩
      rw [putK_new _ vn, List.take_succ, hr']
      show Hs B [(R, .dK (rkKV 0 (rows.take i ++ [r]))), _, _, _] _
      rw [rkKV_snoc, List.length_take, show 0 + min i rows.length = i by omega]
      exact hh.w0
    intro H3 hh
    rw [List.length_map, List.take_length] at hh
    refine ⟨_, rfl, x, _, dx, _, rfl, hh.r3, T.bed.cl, T.bed.nRk, (by show 3 < 1000; decide), ?_⟩
    generalize hH4 : upd H3 x (.ins (He.ga K "Bed") dx (putF "ranks" (.ref R) [("arities", .ref d), ("rows", .ref p), ("kinds", .ref tK)])) = H4
    have hx4 : H4 x = some (.ins (He.ga K "Bed") dx (bedF d p tK R)) := by rw [← hH4]; exact upd_same
    have nx : ∀ a o, a ≠ x → H3 a = some o → H4 a = some o := fun a o n e => by rw [← hH4, upd_ne n]; exact e
    have sB : Same B H4 := fun a o e => nx a o (fun z => by rw [z, ← hB, del_same] at e; cases e) (hh.sub a o e)
    have nK : tK ≠ x := ne_of hh.r1 hh.r3 (by intro z; cases z)
    have nd : d ≠ x := ne_of hh.r2 hh.r3 (by intro z; cases z)
    have nR : R ≠ x := ne_of hh.r0 hh.r3 (by intro z; cases z)
    have bed : BedAt K H4 x rows := ⟨dx, d, p, tK, R, ps, hx4, nx _ _ nd hh.r2, nx _ _ nR hh.r0, Same.sqt sB hp0, SqT.of (nx _ _ nK hh.r1), Paired.mapP hpr0 fun _ _ z => Same.sqt sB z⟩
    refine ⟨_, rfl, x, dx, _, rfl, hx4, rfl, x, rows, rfl, bed, by omega, fun H5 t s5 ht => ?_⟩
    refine ⟨t, _, rfl, .inr ht, rfl, _, rfl, ?_⟩
    have := leafs_pos ok.lf
    rw [List.length_map, decide_eq_false (fun z => by have := V.int.inj z; omega)]
    refine iteF (hq _ (fun a o n e => ?_) (bed.mono (Stay.of s5)))
    refine s5 _ _ (sB _ _ ?_)
    rw [← hB, del_ne n]
    exact e
end
end Sy
namespace Sy
open PySem PySem.Spec PyProof.Rows L2
section
variable {P : Program} {w : World} {K : PySem.W.Frag} {mg : Str → Option Value} {base : Heap}
structure CalR (P : Program) (w : World) (K : PySem.W.Frag) (mg : Str → Option Value) (base : Heap) (k : Nat) (x : Str) (sp : Sp) : Prop where
  fn : FnR P w K mg base (L2.CX P w) k (He.ga K x) sp
  at_ : mg x = some (.ref (He.ga K x))
  kp : PySem.W.keepIn K (.ref (He.ga K x)) = true
/-- f(..), f with a star -/
theorem pe_calR {X : Cx} {k j : Nat} {x : Str} {sp : Sp} {p pos : Pos} {e : Expr} {es : List Expr} {t : TA} {E : XK} (c : CalR X.prog X.w X.K X.mg X.base j x sp) (hr : Room k X.A) (tk : Takes X (fun cls d _ H => E cls d H)) (ha : PA X (e :: es) t) (hk : j ≤ k := by decide) (hg : Gl X x := by rfl) (hdb : (x == ("__debug__" : Str)) = false := by decide)
    (he : starEach (e :: es) X.env = (false, eval e X.env) :: starEach es X.env := by rfl) (hpl : (backTo pos (starEach es X.env)).any (·.1) = false := by rfl) : PE X (.Call (.Name x p) (e :: es) [] pos) (fun σ H Q => t σ H fun vs H1 => sp vs H1 Q E) := by
  constructor
  intro pins s σ H Q I h
  refine wpAny_Call_Name_kw (ld_glob I hg c.at_ ?_ hdb)
  refine PySem.W.callWith_K (h₀ := X.base) I.ok.mod.kin c.kp (thn (ha.run pos pins s σ H _ I h) fun us s1 ⟨vs, H1, I1, r, q⟩ => ⟨I1.kIn, ?_⟩) he hpl
  exact wpAny_call (run_fnR c.fn (hr.mono hk) (fun pins σ H s e s' I h => passAt tk σ pins H s e s' I h) I1 r q)
/-- a bed is made -/
theorem pe_bed {X : Cx} {k : Nat} {p pos : Pos} {e : Expr} {es : List Expr} {t : TA} (M : Mk X.K (He.ga X.K "Bed") (He.ma X.K (He.ga X.K "Bed") "__init__")) (at_ : X.mg "Bed" = some (.ref (He.ga X.K "Bed")))
    (F : FnR X.prog X.w X.K X.mg X.base (L2.CX X.prog X.w) 3 (He.ma X.K (He.ga X.K "Bed") "__init__") (spStar 1 (spInitB X.K))) (hr : Room k X.A) (ha : PA X (e :: es) t) (hk : 4 ≤ k := by decide) (hg : Gl X "Bed" := by rfl)
    (he : starEach (e :: es) X.env = (false, eval e X.env) :: starEach es X.env := by rfl) (hpl : (backTo pos (starEach es X.env)).any (·.1) = false := by rfl) : PE X (.Call (.Name "Bed" p) (e :: es) [] pos) (StX.tMakeR (He.ga X.K "Bed") (spStar 1 (spInitB X.K)) E0 t) :=
  StX.pe_makeR M F (hr.mono hk) hg at_ (fun pins σ H s e s' I h => passL pins σ H s e s' I h) ha (by decide) he hpl
/-- what making it asks -/
theorem bed_of {vs : List V} {H : Hp} {Q : VK} {ps : List Addr} {rows : List Sy.Row} (ev : vs = ps.map V.ref) (hp : Paired (fun q (r : Sy.Row) => SqT K H q [.str r.1, .int (r.2 : Nat)]) ps rows) (ok : RowsOk rows) (h : ∀ H' a, Same H H' → BedAt K H' a rows → Q (.ref a) H') :
    ∀ x dx, H x = Option.none → H dx = Option.none → dx ≠ x → spStar 1 (spInitB K) (V.ref x :: vs) (upd (upd H dx (.own x)) x (.ins (He.ga K "Bed") dx [])) (fun v H2 => v = .non ∧ Q (.ref x) H2) E0 := by
  intro x dx hx hdx ne
  subst ev
  have hpl := paired_len hp
  have hle := ok.le
  have s1 : Same H (upd H dx (.own x)) := up_same hdx
  have hx1 : (upd H dx (.own x)) x = none := by rw [upd_ne ne.symm]; exact hx
  have s2 : Same H (upd (upd H dx (.own x)) x (.ins (He.ga K "Bed") dx [])) := s1.trans (up_same hx1)
  refine ⟨[.ref x], ps.map V.ref, rfl, rfl, by rw [List.length_map, sizeLine_eq]; omega, fun p hp' => ?_⟩
  have s3 := s2.trans (up_same (o := .tup (ps.map V.ref)) hp')
  have nx : x ≠ p := fun z => by rw [← z, upd_same] at hp'; cases hp'
  refine ⟨x, p, dx, ps, rows, rfl, by rw [upd_ne nx]; exact upd_same, SqT.of upd_same, Paired.mapP hp fun _ _ z => Same.sqt s3 z, ok, fun H' keep bed => ⟨rfl, h H' x (fun b o e => keep b o (fun z => ?_) (s3 _ _ e)) bed⟩⟩
  rw [z, hx] at e
  cases e
end
end Sy
namespace Sy
open PySem PySem.Spec PyProof.Rows L2
/-! rules that name K; a word between two statements; filters -/
theorem pe_ixK (K : PySem.W.Frag) {X : Cx} {a b : Expr} {ta tb : TE} {pos : Pos} (hK : X.K = K) (ha : PE X a ta) (hb : PE X b tb) (hs : PlainIx b) : PE X (.Subscript a b pos) (tOp (rIxL K) ta tb) := by
  subst hK
  exact pe_ix ix_list ha hb hs
theorem ps_cut {X : Cx} {st : Stmt} {t : TS} (h : PS X st t) : PS X st (fun D σ H => ∃ J : L2.St → Hp → Prop, t { D with nx := J } σ H ∧ ∀ σ' H', J σ' H' → D.nx σ' H') := by
  refine ⟨fun pins s σ H D I hh => ?_⟩
  obtain ⟨J, h1, h2⟩ := hh
  refine thn (h.run pins s σ H { D with nx := J } I h1) fun f s1 q => ?_
  cases f with
  | next =>
    obtain ⟨σ', H', I', q⟩ := q
    exact ⟨σ', H', I', h2 _ _ q⟩
  | ret v => exact q
  | brk => exact q
  | cont => exact q
/-- [e for x in t if c], t a tuple; nothing else is made -/
theorem lc_filtT {K : PySem.W.Frag} {α : Type} {a : Addr} {xs : List α} {f out : α → V} {keep : α → Bool} {si : Nat} {tt : TT} {te : TE} {σ : L2.St} {H B : Hp} {L : List (Addr × HO)} {D : Addr} {Qd : Hp → Prop} (h : Hs B L H) (hD : H D = none)
    (ha : SqT K B a (xs.map f)) (hsz : xs.length ≤ 100000)
    (hs : ∀ x ∈ xs, ∀ H', Same B H' → ∀ (R1 : VK) (R2 : Hp → Prop), (keep x = true → R1 (out x) H') → (keep x = false → R2 H') → tt ((wipe σ [si]).set si (some (f x))) H' fun b H3 => if b = true then te ((wipe σ [si]).set si (some (f x))) H3 R1 else R2 H3)
    (hd : ∀ H', Hs B ((D, .lst ((xs.filter keep).map out)) :: L) H' → Qd H') : LcW (Itt K a) (gName si) tt te [si] σ H D Qd := by
  refine lc_tup (K := K) (a := a) (xs := xs.map f) (fun i H' => Hs B ((D, .lst (((xs.take i).filter keep).map out)) :: L) H') (h.new hD) (fun _ _ _ z => Same.sqt z.sub ha) ?_ ?_
  · rintro i v H2 hv hh
    obtain ⟨x, hx, rfl⟩ := map_at hv
    have hi := (List.getElem?_eq_some_iff.mp hx).1
    have et : xs.take (i + 1) = xs.take i ++ [x] := by rw [List.take_succ, hx]; rfl
    have hl : ((xs.take i).filter keep).length ≤ i := by
      have := List.length_filter_le keep (xs.take i)
      rw [List.length_take] at this
      omega
    refine ⟨(by show (σ.set si none |>.set si _).set si none = σ.set si none; rw [List.set_set, List.set_set]), ?_⟩
    refine hs x (List.mem_of_getElem? hx) H2 hh.sub _ _ (fun c => ?_) (fun c => ?_)
    · refine ⟨_, hh.r0, by rw [List.length_map, sizeLine_eq]; omega, ?_⟩
      rw [et, List.filter_append, List.map_append]
      have : [x].filter keep = [x] := by simp [c]
      rw [this]
      exact hh.w0
    · rw [et, List.filter_append]
      have : [x].filter keep = [] := by simp [c]
      rw [this, List.append_nil]
      exact hh
  · intro H' hh
    rw [List.length_map, List.take_length] at hh
    exact hd H' hh
/-- [e for k in range(n) if c]; nothing else is made -/
theorem lc_filtR {out : Nat → V} {keep : Nat → Bool} {si n : Nat} {tt : TT} {te : TE} {σ : L2.St} {H B : Hp} {L : List (Addr × HO)} {D : Addr} {Qd : Hp → Prop} (h : Hs B L H) (hD : H D = none) (hsz : n ≤ 100000)
    (hs : ∀ k < n, ∀ H', Same B H' → ∀ (R1 : VK) (R2 : Hp → Prop), (keep k = true → R1 (out k) H') → (keep k = false → R2 H') → tt ((wipe σ [si]).set si (some (.int (k : Nat)))) H' fun b H3 => if b = true then te ((wipe σ [si]).set si (some (.int (k : Nat)))) H3 R1 else R2 H3)
    (hd : ∀ H', Hs B ((D, .lst (((List.range n).filter keep).map out)) :: L) H' → Qd H') : LcW (Itr 0 n) (gName si) tt te [si] σ H D Qd := by
  refine lc_it (walk_range (lo := 0) (n := n)) (fun i H' => Hs B ((D, .lst (((List.range i).filter keep).map out)) :: L) H') (h.new hD) (fun _ _ _ _ => trivial) ?_ hd
  rintro i v _ H1 hi hh ⟨rfl, rfl⟩
  simp only [Int.zero_add]
  have hl : ((List.range i).filter keep).length ≤ i := by
    have := List.length_filter_le keep (List.range i)
    rw [List.length_range] at this
    exact this
  refine ⟨(by show (σ.set si none |>.set si _).set si none = σ.set si none; rw [List.set_set, List.set_set]), ?_⟩
  refine hs i hi H1 hh.sub _ _ (fun c => ?_) (fun c => ?_)
  · refine ⟨_, hh.r0, by rw [List.length_map, sizeLine_eq]; omega, ?_⟩
    rw [List.range_succ, List.filter_append, List.map_append]
    have : [i].filter keep = [i] := by simp [c]
    rw [this]
    exact hh.w0
  · rw [List.range_succ, List.filter_append]
    have : [i].filter keep = [] := by simp [c]
    rw [this, List.append_nil]
    exact hh
/-- [e for x in xs if t], xs a list that stays; nothing else is made -/
theorem lc_filt {K : PySem.W.Frag} {α : Type} {a : Addr} {xs : List α} {f out : α → V} {keep : α → Bool} {si : Nat} {tt : TT} {te : TE} {σ : L2.St} {H B : Hp} {L : List (Addr × HO)} {D : Addr} {Qd : Hp → Prop} (h : Hs B L H) (hD : H D = none)
    (ha : ∀ H' o, Hs B ((D, o) :: L) H' → H' a = some (.lst (xs.map f))) (hsz : xs.length ≤ 100000)
    (hs : ∀ x ∈ xs, ∀ H', Same B H' → ∀ (R1 : VK) (R2 : Hp → Prop), (keep x = true → R1 (out x) H') → (keep x = false → R2 H') → tt ((wipe σ [si]).set si (some (f x))) H' fun b H3 => if b = true then te ((wipe σ [si]).set si (some (f x))) H3 R1 else R2 H3)
    (hd : ∀ H', Hs B ((D, .lst ((xs.filter keep).map out)) :: L) H' → Qd H') : LcW (Itl K a) (gName si) tt te [si] σ H D Qd := by
  refine lc_it (walk_list (K := K) (a := a) (xs := xs.map f)) (fun i H' => Hs B ((D, .lst (((xs.take i).filter keep).map out)) :: L) H') (h.new hD) (fun _ _ _ z => SqL.of (ha _ _ z)) ?_ ?_
  · rintro i v _ H2 hi hh ⟨rfl, hv⟩
    obtain ⟨x, hx, rfl⟩ := map_at hv
    rw [List.length_map] at hi
    have et : xs.take (i + 1) = xs.take i ++ [x] := by rw [List.take_succ, hx]; rfl
    have hl : ((xs.take i).filter keep).length ≤ i := by
      have := List.length_filter_le keep (xs.take i)
      rw [List.length_take] at this
      omega
    refine ⟨(by show (σ.set si none |>.set si _).set si none = σ.set si none; rw [List.set_set, List.set_set]), ?_⟩
    refine hs x (List.mem_of_getElem? hx) H2 hh.sub _ _ (fun c => ?_) (fun c => ?_)
    · refine ⟨_, hh.r0, by rw [List.length_map, sizeLine_eq]; omega, ?_⟩
      rw [et, List.filter_append, List.map_append]
      have : [x].filter keep = [x] := by simp [c]
      rw [this]
      exact hh.w0
    · rw [et, List.filter_append]
      have : [x].filter keep = [] := by simp [c]
      rw [this, List.append_nil]
      exact hh
  · intro H' hh
    rw [List.length_map, List.take_length] at hh
    exact hd H' hh
/-- .. without a test -/
theorem lc_maps {K : PySem.W.Frag} {α : Type} {a : Addr} {xs : List α} {f out : α → V} {si : Nat} {te : TE} {σ : L2.St} {H B : Hp} {L : List (Addr × HO)} {D : Addr} {Qd : Hp → Prop} (h : Hs B L H) (hD : H D = none)
    (ha : ∀ H' o, Hs B ((D, o) :: L) H' → H' a = some (.lst (xs.map f))) (hsz : xs.length ≤ 100000)
    (hs : ∀ x ∈ xs, ∀ H', Same B H' → ∀ (R1 : VK), R1 (out x) H' → te ((wipe σ [si]).set si (some (f x))) H' R1)
    (hd : ∀ H', Hs B ((D, .lst (xs.map out)) :: L) H' → Qd H') : LcW (Itl K a) (gName si) tYes te [si] σ H D Qd := by
  refine lc_filt (keep := fun _ => true) (out := out) h hD ha hsz (fun x hx H' s R1 R2 k1 _ => ?_) (fun H' hh => ?_)
  · simp only [tYes, if_true]
    exact hs x hx H' s R1 (k1 rfl)
  · rw [List.filter_eq_self.mpr (fun _ _ => rfl)] at hh
    exact hd H' hh
end Sy
/-! rules that name K (for use within comprehensions) -/
namespace Sy
open PySem PySem.Spec PyProof.Rows L2
section
variable (K : PySem.W.Frag) {X : Cx} {a b e : Expr} {ta tb : TE} {pos : Pos}
theorem pe_ixTK (hK : X.K = K) (ha : PE X a ta) (hb : PE X b tb) (hs : PlainIx b) : PE X (.Subscript a b pos) (tOp (rIxT K) ta tb) := by
  subst hK
  exact pe_ix ix_tup ha hb hs
theorem op_inK (hK : X.K = K) : OpR X (compareOp .In) (rIn K false) := by
  subst hK
  exact op_in_seq
theorem op_notInK (hK : X.K = K) : OpR X (compareOp .NotIn) (rIn K true) := by
  subst hK
  exact op_notIn_seq
theorem op_catAK (hK : X.K = K) : OpR X (binaryOp .Add) (rCatA K) := by
  subst hK
  exact op_catA
theorem pe_fldK {f : Str} (hK : X.K = K) (he : PE X e ta) (hb : attributeBase e f X.env (eval e X.env) = eval e X.env) : PE X (.Attribute e f pos) (tFld K ta f) := by
  subst hK
  exact pe_fld he hb
abbrev rLenS (K : PySem.W.Frag) : List V → Hp → VK → Prop := fun xs H Q => ∃ p ys, xs = [.ref p] ∧ (SqL K H p ys ∨ SqT K H p ys) ∧ Q (.int ys.length) H
theorem call_lenK (hK : X.K = K) : CallR X (.builtin "len") (rLenS K) := by
  subst hK
  exact call_len_seq
end
end Sy
/-! rows of texts and numbers: knots_of, fault, first_repeat -/
namespace Sy
open PySem PySem.Spec PyProof.Rows L2
/-- names of the module that trims use -/
structure TxtM (mg : Str → Option Value) : Prop where
  hole : ∃ t, mg "HOLE" = some (.str "*" t)
  me : ∃ t, mg "MOST_ENTRIES" = some (.int 200 t)
  mt : ∃ t, mg "MOST_TRIMS" = some (.int 8 t)
  bool : mg "bool" = none
  str : mg "str" = none
/-- the first place at which a row stops, its leaves being those that are ok -/
def faK (rows : List Sy.Row) (ok : Key → Bool) : Nat → Nat → List Key → Int
  | m, i, [] => if 0 < m then (i : Nat) else -1
  | m, i, k :: l => if m = 0 then (i : Nat) else if isKK rows k = false ∧ ok k = false then (i : Nat) else faK rows ok (m - 1 + arK rows k) (i + 1) l
/-- the first place of a number that was met -/
def repK : List Int → Nat → List Key → Int
  | _, _, [] => -1
  | met, i, .inl z :: l => if z ∈ met then (i : Nat) else repK (z :: met) (i + 1) l
  | met, i, .inr _ :: l => repK met (i + 1) l
theorem kV_at {l : List Key} {i : Nat} {v : V} (h : (l.map kV)[i]? = some v) : ∃ k, l[i]? = some k ∧ v = kV k := map_at h
section
variable {P : Program} {w : World} {K : PySem.W.Frag} {mg : Str → Option Value} {base : Heap}
def spKnots (K : PySem.W.Frag) : Sp := fun vs H Q _ => ∃ (a r : Addr) (rows : List Sy.Row) (l : List Key), vs = [.ref a, .ref r] ∧ BedAt K H a rows ∧ SqT K H r (l.map kV) ∧ l.length ≤ 100000 ∧ ∀ H', Same H H' → Q (.int ((l.filter (isKK rows)).length : Nat)) H'
abbrev N_knots : List Str := ["bed", "row", "entry"]
theorem sc_knots : FnScope N_knots ["bed", "row"] (defScope (top 18)) := ⟨rfl, rfl, rfl, by decide +kernel, rfl, by decide +kernel, by decide +kernel⟩
theorem k_knots (T : Txt K mg) (F : DF K mg "knots_of" 18) : Cal P w K mg base 1 "knots_of" ["bed", "row"] (spKnots K) := by
  refine cal_of F.1 F.2 sc_knots (fun _ _ _ _ _ _ us e => match us, e with | [_, _], _ => rfl) (fun vs H Q E s => by obtain ⟨_, _, _, _, rfl, _⟩ := s; rfl) ?_
  intro cdv A outer s H vs Q E hr h
  obtain ⟨a, r, rows, l, rfl, hb, hR, hl, hq⟩ := h
  have hu := hu_of hr
  have sc := sc_knots
  refine ⟨_, (pss_one (ps_ret (pe_callB call_len_seq (by rfl) T.len (by decide +kernel) (pa_cons (pe_lc (own := [("entry", 2)]) (g := gName 2) rfl sc.nd (pi_tup (pv 1)) (blkOk_by (N := N_knots) (sc := defScope (top 18)) (by decide +kernel)) (fun _ _ _ _ _ => (pg_name (i := 2) sc.nd rfl (Or.inl rfl))) (fun _ _ _ _ _ => (pts_one (pt_cmp (pc_din hu (pv 2) (pe_fldK K rfl (pv 0) rfl))))) (fun _ _ _ _ _ => (pv 2))) pa_nil)))), ?_⟩
  refine ⟨_, rfl, r, rfl, ⟨_, hR⟩, fun D hD => lc_filtT (K := K) (xs := l) (f := kV) (out := kV) (keep := isKK rows) (Hs.start H) hD hR hl (fun k _ H' s' R1 R2 k1 k2 => ?_) (fun H' hh => ?_)⟩
  · obtain ⟨dx, dA, tR, tK, dR, ps, h1, hd, h3, h4, h5, h6⟩ := (hb.mono (Stay.of s')).ex
    refine ⟨_, rfl, _, rfl, a, _, dx, _, _, rfl, h1, T.bed.cl, T.bed.nA, rfl, dA, _, rfl, DGet.k (k := k) hd, _, rfl, ?_⟩
    rw [valV_arK]
    cases e : isKK rows k with
    | true => exact iteT ⟨_, rfl, k1 e⟩
    | false => exact iteF (k2 e)
  · refine ⟨D, _, rfl, .inl (SqL.of hh.r0), ?_⟩
    rw [List.length_map]
    exact hq H' hh.sub
/-! fault -/
def spFa (P : Program) (w : World) (K : PySem.W.Frag) (mg : Str → Option Value) (base : Heap) : VSp := fun cl fr ws vs H Q _ => ∃ (a r f : Addr) (rows : List Sy.Row) (l : List Key) (ok : Key → Bool) (kn : Hp → Prop) (sp : Sp), vs = [.ref a, .ref r, .ref f] ∧ BedAt K H a rows ∧ SqT K H r (l.map kV) ∧
  FnV P w K mg base 2 f cl fr ws kn sp ∧ kn H ∧ (∀ (k : Key) (H' : Hp) (Q' : VK), k ∈ l → Same H H' → (∀ H'', Same H' H'' → Q' (.bl (ok k)) H'') → sp [kV k] H' Q' E0) ∧ ∀ H', Same H H' → Q (.int (faK rows ok 1 0 l)) H'
abbrev N_fa : List Str := ["bed", "row", "allowed", "missing", "index", "entry"]
theorem sc_fa : FnScope N_fa ["bed", "row", "allowed"] (defScope (top 19)) := ⟨rfl, rfl, rfl, by decide +kernel, rfl, by decide +kernel, by decide +kernel⟩
theorem k_fa (T : Txt K mg) (F : DF K mg "fault" 19) (c_arity : Cal P w K mg base 1 "arity" ["bed", "entry"] (spArity K)) : CalV P w K mg base 3 "fault" ["bed", "row", "allowed"] [] (spFa P w K mg base) := by
  obtain ⟨⟨fd, F⟩, hmg⟩ := F
  have B := F.bindsN (ps := ["bed", "row", "allowed"]) (fun _ _ _ _ _ _ us e => match us, e with | [_, _, _], _ => rfl)
  have kp := F.kp
  obtain ⟨oc, od, dV, kV', doc, pm, an, cdv, ct, osl, rfl, lk, hcd, _, _⟩ := F.ex
  refine ⟨⟨_, [], vn_of lk hcd sc_fa (fun cl fr ws vs H Q E s => by obtain ⟨_, _, _, _, _, _, _, _, rfl, _⟩ := s; rfl) ?_, B, .nil⟩, hmg, kp⟩
  intro A outer s H vs Q E cl fr ws hr C nf h
  have sc := sc_fa
  have hu := hu_of hr
  obtain ⟨a, r, f, rows, l, ok, kn, sp, rfl, hb, hR, FV, hkn, hf, hq⟩ := h
  refine ⟨_, (pss_cons (ps_set (i := 3) sc.nd rfl (Or.inl rfl) pe_int)
      (pss_cons (ps_for (passes_of rfl) rfl (pi_enumT (by rfl) T.enumerate (pa_cons (pv 1) pa_nil)) (pg_tup rfl (pgs_cons (pg_name (i := 4) sc.nd rfl (Or.inl rfl)) (pgs_cons (pg_name (i := 5) sc.nd rfl (Or.inl rfl)) pgs_nil)))
        (pss_cons (ps_if (pt_cmpR op_eq (pv 3) pe_int (nomark _))
          (pss_one (ps_ret (pv 4)))
          pss_nil)
        (pss_cons (ps_if (PW.pt (pw_and (pt_cmp (pc_dnotin hu (pv 5) (pe_fld (pv 0) rfl))) (pw_and1 (pt_not (pt_val (pe_callv FV C nf rfl hr (by decide) (i := 2) rfl (Or.inl rfl) (pa_cons (pv 5) pa_nil)))))))
          (pss_one (ps_ret (pv 4)))
          pss_nil)
        (pss_one (ps_set (i := 3) sc.nd rfl (Or.inl rfl) (pe_op op_add (pe_op op_sub (pv 3) pe_int) (pe_cal c_arity hr (pa_cons (pv 0) (pa_cons (pv 5) pa_nil)))))))))
      (pss_cons (ps_if (pt_cmpR op_gt (pv 3) pe_int (nomark _))
        (pss_one (ps_ret (pe_callB call_len_seq (by rfl) T.len (by decide +kernel) (pa_cons (pv 1) pa_nil))))
        pss_nil)
      (pss_one (ps_ret (pe_un un_neg pe_int)))))), ?_⟩
  refine ⟨_, rfl, r, _, rfl, hR, for_enumT (K := K) (fun i σ H' => ∃ (m : Nat) (t4 t5 : Option V), σ = [some (.ref a), some (.ref r), some (.ref f), some (.int (m : Nat)), t4, t5] ∧ Same H H' ∧ faK rows ok 1 0 l = faK rows ok m i (l.drop i)) ⟨1, none, none, rfl, Same.refl _, by rw [List.drop_zero]⟩ (fun _ _ _ _ ⟨_, _, _, _, s', _⟩ => Same.sqt s' hR) ?_ ?_⟩
  · rintro i v σ H1 T1 hv ⟨m, t4, t5, rfl, s1, e1⟩ hT
    obtain ⟨k, hk, rfl⟩ := kV_at hv
    rw [drop_of hk, faK] at e1
    have s2 := s1.trans (up_same (o := .tup [.int (i : Nat), kV k]) hT)
    generalize upd H1 T1 (.tup [.int (i : Nat), kV k]) = H2 at *
    have fin : ∀ H', Same H2 H' → faK rows ok 1 0 l = (i : Nat) → Q (.int (i : Nat)) H' := fun H' s' e => by
      rw [← e]
      exact hq H' (s2.trans s')
    refine ⟨_, rfl, rfl, _, rfl, if_dec (fun c => ?_) (fun c => ?_)⟩
    · have c : m = 0 := by have := V.int.inj c; omega
      rw [if_pos c] at e1
      exact ⟨_, rfl, fin _ (Same.refl _) e1⟩
    have c : m ≠ 0 := fun z => c (by rw [z]; rfl)
    rw [if_neg c] at e1
    obtain ⟨dx, dA, tR, tK, dR, ps, h1, hd, h3, h4, h5, h6⟩ := (hb.mono (Stay.of s2)).ex
    have em : ((m : Int) - 1 + (arK rows k : Nat)) = ((m - 1 + arK rows k : Nat) : Int) := by omega
    have hkn2 := FV.mono _ _ hkn (Stay.of s2)
    refine ⟨_, rfl, _, rfl, a, _, dx, _, _, rfl, h1, T.bed.cl, T.bed.nA, rfl, dA, _, rfl, DGet.k (k := k) hd, _, rfl, ?_⟩
    rw [valV_arK]
    cases c2 : isKK rows k with
    | true =>
      rw [if_neg (fun z => by rw [c2] at z; cases z.1)] at e1
      exact iteF ⟨_, rfl, _, _, rfl, rfl, _, rfl, _, rfl, a, rows, k, rfl, hb.mono (Stay.of s2), _, _, rfl, rfl, _, _, _, by show [some (.ref a), some (.ref r), some (.ref f), some (.int ((m : Int) - 1 + (arK rows k : Nat))), some (.int (i : Nat)), some (kV k)] = _; rw [em], s2, e1⟩
    | false =>
      refine iteT ⟨rfl, hkn2, _, rfl, hkn2, hf k H2 _ (List.mem_of_getElem? hk) s2 fun H3 s3 => ⟨_, rfl, ?_⟩⟩
      cases c3 : ok k with
      | false =>
        rw [if_pos ⟨c2, c3⟩] at e1
        exact iteT ⟨_, rfl, fin _ s3 e1⟩
      | true =>
        rw [if_neg (fun z => by rw [c3] at z; cases z.2)] at e1
        exact iteF ⟨_, rfl, _, _, rfl, rfl, _, rfl, _, rfl, a, rows, k, rfl, hb.mono (Stay.of (s2.trans s3)), _, _, rfl, rfl, _, _, _, by show [some (.ref a), some (.ref r), some (.ref f), some (.int ((m : Int) - 1 + (arK rows k : Nat))), some (.int (i : Nat)), some (kV k)] = _; rw [em], s2.trans s3, e1⟩
  · rintro σ H1 ⟨m, t4, t5, rfl, s1, e1⟩
    rw [List.length_map, List.drop_eq_nil_of_le (Nat.le_refl _), faK] at e1
    refine ⟨_, rfl, _, _, rfl, rfl, _, rfl, if_dec (fun c => ?_) (fun c => ?_)⟩
    · have c : 0 < m := by omega
      rw [if_pos c] at e1
      refine ⟨_, rfl, r, _, rfl, .inr (Same.sqt s1 hR), ?_⟩
      rw [List.length_map, ← e1]
      exact hq H1 s1
    · rw [if_neg (by omega)] at e1
      have q := hq H1 s1
      rw [e1] at q
      exact ⟨_, rfl, q⟩
end
end Sy
namespace Sy
open PySem PySem.Spec PyProof.Rows L2
/-- small letters -/
def Lt (c : Nat) : Prop := 97 ≤ c ∧ c ≤ 122
def Wd (x : Str) : Prop := 1 ≤ x.cps.toList.length ∧ x.cps.toList.length ≤ 8 ∧ ∀ c ∈ x.cps.toList, Lt c
theorem lt_uni (c : Nat) (h : Lt c) : Unicode.isAlpha c = true ∧ Unicode.isLower c = true ∧ Unicode.isUpper c = false ∧ Unicode.isTitle c = false := by
  have q : ∀ i : Fin 26, Unicode.isAlpha (97 + i.val) = true ∧ Unicode.isLower (97 + i.val) = true ∧ Unicode.isUpper (97 + i.val) = false ∧ Unicode.isTitle (97 + i.val) = false := by decide +kernel
  obtain ⟨h1, h2⟩ := h
  have := q ⟨c - 97, by omega⟩
  rw [show 97 + (c - 97) = c by omega] at this
  exact this
theorem len_tl (x : Str) : x.length = x.cps.toList.length := by
  show x.cps.size = _
  simp
theorem Wd.ok {x : Str} (h : Wd x) : nameOk x = true := by
  obtain ⟨h1, h2, h3⟩ := h
  have hl := len_tl x
  have a1 : Txt.isascii x = true := by
    unfold Txt.isascii
    rw [← Array.all_toList, List.all_eq_true]
    intro c hc
    have := (h3 c hc).2
    exact decide_eq_true (by omega)
  have a2 : Txt.isalpha x = true := by
    unfold Txt.isalpha
    rw [decide_eq_true (by omega), Bool.true_and, ← Array.all_toList, List.all_eq_true]
    exact fun c hc => (lt_uni c (h3 c hc)).1
  have a3 : Txt.islower x = true := by
    unfold Txt.islower
    rw [Bool.and_eq_true]
    constructor
    · rw [← Array.any_toList, List.any_eq_true]
      obtain ⟨c, hc⟩ : ∃ c, c ∈ x.cps.toList := List.exists_mem_of_length_pos (by omega)
      exact ⟨c, hc, (lt_uni c (h3 c hc)).2.1⟩
    · rw [← Array.any_toList, Bool.not_eq_true', List.any_eq_false]
      intro c hc
      rw [(lt_uni c (h3 c hc)).2.2.1, (lt_uni c (h3 c hc)).2.2.2]
      decide
  unfold nameOk
  rw [a1, a2, a3, decide_eq_true (by omega)]
  rfl
theorem join_one (cs : List Nat) : (Txt.join (Str.empty) (cs.map fun c => (⟨#[c]⟩ : Str))).cps.toList = cs := by
  rw [TL.join_eq]
  have h := TL.tl_join Str.empty (cs.map fun c => (⟨#[c]⟩ : Str))
  show TL.tl _ = cs
  rw [h]
  have : ∀ cs : List Nat, TL.joinL (TL.tl Str.empty) ((cs.map fun c => (⟨#[c]⟩ : Str)).map TL.tl) = cs := by
    intro cs
    induction cs with
    | nil => rfl
    | cons c cs ih =>
      cases cs with
      | nil => rfl
      | cons d ds =>
        show [c] ++ ([] ++ TL.joinL _ _) = _
        rw [List.nil_append]
        exact congrArg (fun l => [c] ++ l) ih
  exact this cs
/-- fewer than 26 words leave a letter -/
theorem nodup_le {α : Type} [DecidableEq α] : ∀ {l m : List α}, l.Nodup → (∀ x ∈ l, x ∈ m) → l.length ≤ m.length
  | [], _, _, _ => Nat.zero_le _
  | x :: l, m, h, s => by
    have hx := s x List.mem_cons_self
    have h2 := List.nodup_cons.mp h
    have := nodup_le (l := l) (m := m.erase x) h2.2 fun y hy => by
      rw [List.mem_erase_of_ne (fun z => h2.1 (by rw [← z]; exact hy))]
      exact s y (List.mem_cons_of_mem _ hy)
    rw [List.length_erase_of_mem hx] at this
    have := List.length_pos_of_mem hx
    rw [List.length_cons]
    omega
def abc : Str := "abcdefghijklmnopqrstuvwxyz"
theorem abc_at : ∀ i : Nat, i < 26 → abc.cps[i]? = some (97 + i) := by
  have q : ∀ i : Fin 26, abc.cps[i.val]? = some (97 + i.val) := by decide +kernel
  exact fun i h => q ⟨i, h⟩
theorem abc_len : abc.length = 26 := by decide +kernel
theorem abc_tl (i : Nat) (h : i < 26) : abc.cps.toList[i]? = some (97 + i) := by rw [Array.getElem?_toList]; exact abc_at i h
/-- the letters that are not taken -/
def freeL (tk : List Str) (n : Nat) : List Str := ((List.range n).map fun i => (⟨#[97 + i]⟩ : Str)).filter fun x => decide (x ∉ tk)
theorem freeL_pos (tk : List Str) (h : tk.length < 26) : ∃ x r, freeL tk 26 = x :: r ∧ x ∉ tk ∧ Wd x := by
  cases e : freeL tk 26 with
  | nil =>
    exfalso
    have all : ∀ x ∈ ((List.range 26).map fun i => (⟨#[97 + i]⟩ : Str)), x ∈ tk := fun x hx => by
      have := List.filter_eq_nil_iff.mp e x hx
      simpa using this
    have nd : ((List.range 26).map fun i => (⟨#[97 + i]⟩ : Str)).Nodup := by decide +kernel
    have := nodup_le nd all
    simp at this
    omega
  | cons x r =>
    have hm : x ∈ freeL tk 26 := by rw [e]; exact List.mem_cons_self
    unfold freeL at hm
    obtain ⟨h1, h2⟩ := List.mem_filter.mp hm
    obtain ⟨i, hi, rfl⟩ := List.mem_map.mp h1
    rw [List.mem_range] at hi
    refine ⟨_, r, rfl, of_decide_eq_true h2, ?_⟩
    refine ⟨Nat.le_refl _, by show 1 ≤ 8; decide, fun c hc => ?_⟩
    have : c = 97 + i := by simpa using hc
    subst this
    exact ⟨by omega, by omega⟩
theorem Wd.first {x y : Str} {c : Nat} (hx : Wd x) (hy : Wd y) (h8 : x.length < 8) (hc : y.cps.toList[0]? = some c) : Wd (x ++ ⟨#[c]⟩) := by
  obtain ⟨h1, h2, h3⟩ := hx
  have hl := len_tl x
  have e : (x ++ ⟨#[c]⟩ : Str).cps.toList = x.cps.toList ++ [c] := by
    show (x.cps ++ #[c]).toList = _
    simp
  have hcm := hy.2.2 c (List.mem_of_getElem? hc)
  refine ⟨?_, ?_, fun d hd => ?_⟩
  · rw [e, List.length_append]
    show 1 ≤ _ + 1
    omega
  · rw [e, List.length_append]
    show _ + 1 ≤ 8
    omega
  · rw [e] at hd
    rcases List.mem_append.mp hd with hd | hd
    · exact h3 d hd
    · rw [List.mem_singleton.mp hd]
      exact hcm
theorem Wd.cut {x : Str} (hx : Wd x) (h1 : 1 < x.length) : Wd (cutS x none (some (-1))) := by
  obtain ⟨h1', h2, h3⟩ := hx
  have hl := len_tl x
  have e : (cutS x none (some (-1))).cps.toList = x.cps.toList.take (x.length - 1) := by
    unfold cutS HT.sIx
    simp only [List.drop_zero, Nat.sub_zero]
    rw [if_pos (by decide), show ((-1 : Int) + (x.length : Int)).toNat = x.length - 1 by omega]
  refine ⟨?_, ?_, fun d hd => ?_⟩
  · rw [e, List.length_take]
    omega
  · rw [e, List.length_take]
    omega
  · rw [e] at hd
    exact h3 d (List.mem_of_mem_take hd)
end Sy
/-! data compared -/
namespace Sy
open PySem PySem.Spec PyProof.Rows L2
def RowD (r : Sy.Row) : PyData := .tuple [.str r.1, .int (r.2 : Nat)]
def RowsD (rows : List Sy.Row) : PyData := .tuple (rows.map RowD)
theorem eqv_RowD (x y : Sy.Row) : PyData.eqv (RowD x) (RowD y) = decide (x = y) := by
  obtain ⟨a, n⟩ := x
  obtain ⟨b, m⟩ := y
  unfold RowD
  simp only [PyData.eqv, PyData.eqvAll, Bool.and_true]
  by_cases h : a = b
  · subst h
    by_cases g : n = m
    · subst g
      simp
    · have : ¬ ((n : Int) = (m : Int)) := by omega
      simp [g, this]
  · have : (a == b) = false := beq_eq_false_iff_ne.mpr h
    simp [h, this]
theorem eqv_rows : ∀ (x y : List Sy.Row), PyData.eqvAll (x.map RowD) (y.map RowD) = decide (x = y)
  | [], [] => rfl
  | [], y :: ys => by simp [PyData.eqvAll]
  | x :: xs, [] => by simp [PyData.eqvAll]
  | x :: xs, y :: ys => by
    rw [List.map_cons, List.map_cons, PyData.eqvAll, eqv_RowD, eqv_rows xs ys]
    by_cases h : x = y
    · subst h
      simp
    · simp [h]
theorem lay_rows {rows : List Sy.Row} (h : ∀ r ∈ rows, PyData.strOk r.1 = true) : PyData.canLayAll0 (rows.map RowD) = true ∧ PyData.depthAll (rows.map RowD) ≤ 3 := by
  induction rows with
  | nil => exact ⟨rfl, Nat.zero_le _⟩
  | cons x l ih =>
    have ih := ih fun y hy => h y (List.mem_cons_of_mem _ hy)
    have hx := h x List.mem_cons_self
    rw [List.map_cons]
    unfold RowD at ih ⊢
    simp only [PyData.canLayAll0, PyData.depthAll, PyData.canLay0, PyData.depth, hx, Bool.true_and]
    exact ⟨ih.1, by omega⟩
theorem lay_RowsD {rows : List Sy.Row} (h : ∀ r ∈ rows, PyData.strOk r.1 = true) : SeqAt.shaped (RowsD rows) = true := by
  have := lay_rows h
  unfold SeqAt.shaped RowsD
  simp only [PyData.canLay0, PyData.depth]
  rw [this.1, Bool.true_and]
  exact decide_eq_true (by omega)
theorem Im.rowsD {K : PySem.W.Frag} {H : Hp} : ∀ {ps : List Addr} {rows : List Sy.Row}, Paired (fun q (r : Sy.Row) => SqT K H q [.str r.1, .int (r.2 : Nat)]) ps rows → ImA K H (ps.map V.ref) (rows.map RowD)
  | _, _, .nil => .nil
  | _, _, .cons a b => .cons (.tup a (.cons (.str _) (.cons (.int _) .nil))) (Im.rowsD b)
theorem Wd.sok {x : Str} (h : Wd x) : PyData.strOk x = true := by
  unfold PyData.strOk
  rw [← Array.all_toList, List.all_eq_true]
  intro c hc
  have := (h.2.2 c hc).2
  exact decide_eq_true (by omega)

/-- pairs of names -/
theorem lay_RowsL {rows : List Sy.Row} (h : ∀ r ∈ rows, PyData.strOk r.1 = true) : SeqAt.shaped (.list (rows.map RowD)) = true := by
  have := lay_rows h
  unfold SeqAt.shaped
  simp only [PyData.canLay0, PyData.depth]
  rw [this.1, Bool.true_and]
  exact decide_eq_true (by omega)
end Sy
/-! first_repeat, result_fault -/
namespace Sy
open PySem PySem.Spec PyProof.Rows L2 LamX NdefX
/-! heaps of which only tables change -/
def StayT (H H' : Hp) : Prop := ∀ a o, H a = some o → (∀ qs, o ≠ .tbl qs) → H' a = some o
theorem StayT.of {H H' : Hp} (s : Same H H') : StayT H H' := fun a o e _ => s a o e
theorem StayT.refl (H : Hp) : StayT H H := fun _ _ e _ => e
theorem StayT.trans {H H1 H2 : Hp} (a : StayT H H1) (b : StayT H1 H2) : StayT H H2 := fun x o e n => b x o (a x o e n) n
theorem Chg.stayT {H H' : Hp} {p : Addr} {ps ps' : Array Value} (c : Chg p (.tbl ps') H H') (h : H p = some (.tbl ps)) : StayT H H' := fun a o e n => c.2 a o (fun z => by
  rw [z, h] at e
  exact n _ (Option.some.inj e).symm) e
section
variable {K : PySem.W.Frag}
theorem StayT.sqt {H H' : Hp} {a : Addr} {xs : List V} (s : StayT H H') (h : SqT K H a xs) : SqT K H' a xs := by
  rcases h with (h | ⟨o, h⟩) | h
  · exact .inl (.inl (s _ _ h fun _ z => by cases z))
  · exact .inl (.inr ⟨o, s _ _ h fun _ z => by cases z⟩)
  · exact .inr h
theorem StayT.bed {H H' : Hp} {b : Addr} {rows : List Sy.Row} (s : StayT H H') (h : BedAt K H b rows) : BedAt K H' b rows := by
  obtain ⟨dx, dA, tR, tK, dR, ps, h1, h2, h3, h4, h5, h6⟩ := h.ex
  exact ⟨dx, dA, tR, tK, dR, ps, s _ _ h1 (fun _ z => by cases z), s _ _ h2 (fun _ z => by cases z), s _ _ h3 (fun _ z => by cases z), s.sqt h4, s.sqt h5, Paired.mapP h6 fun _ _ z => s.sqt z⟩
mutual
theorem StayT.im {H H' : Hp} (s : StayT H H') : ∀ {v : V} {d : PyData}, Im K H v d → Im K H' v d
  | _, _, .non => .non
  | _, _, .bl b => .bl b
  | _, _, .int i => .int i
  | _, _, .str x => .str x
  | _, _, .tup h a => .tup (s.sqt h) (StayT.imA s a)
theorem StayT.imA {H H' : Hp} (s : StayT H H') : ∀ {vs : List V} {ds : List PyData}, ImA K H vs ds → ImA K H' vs ds
  | _, _, .nil => .nil
  | _, _, .cons a b => .cons (StayT.im s a) (StayT.imA s b)
end
end
theorem TbOk.stayT {H H' : Hp} {ps : Array Value} {q : Str} (t : TbOk H ps q) (s : StayT H H') : TbOk H' ps q := ⟨t.1, fun pos cv hc => by
  obtain ⟨c, e1, e2⟩ := t.2 pos cv hc
  refine ⟨c, e1, s _ _ e2 fun qs z => ?_⟩
  unfold CodeO at z
  cases z⟩
abbrev rfQ : Str := "result_fault.<locals>.<lambda>"
/-- the table of the lambda's code objects -/
def TbI (tb : Addr) (H : Hp) : Prop := ∃ ps, H tb = some (.tbl ps) ∧ TbOk H ps rfQ
theorem TbI.same {tb : Addr} {H H' : Hp} (t : TbI tb H) (s : Same H H') : TbI tb H' := by
  obtain ⟨ps, h1, h2⟩ := t
  exact ⟨ps, s _ _ h1, h2.same s⟩
/-- what is at most a table's change -/
structure TbS (tb : Addr) (H H' : Hp) : Prop where
  st : StayT H H'
  tb : TbI tb H'
theorem TbS.of {tb : Addr} {H H' : Hp} (t : TbI tb H) (s : Same H H') : TbS tb H H' := ⟨StayT.of s, t.same s⟩
theorem TbS.same {tb : Addr} {H H1 H2 : Hp} (t : TbS tb H H1) (s : Same H1 H2) : TbS tb H H2 := ⟨t.st.trans (StayT.of s), t.tb.same s⟩
theorem TbS.pre {tb : Addr} {H H1 H2 : Hp} (s : Same H H1) (t : TbS tb H1 H2) : TbS tb H H2 := ⟨(StayT.of s).trans t.st, t.tb⟩
theorem TbS.trans {tb : Addr} {H H1 H2 : Hp} (a : TbS tb H H1) (t : TbS tb H1 H2) : TbS tb H H2 := ⟨a.st.trans t.st, t.tb⟩
theorem TbS.chg {tb : Addr} {H H' : Hp} {ps ps' : Array Value} (h : H tb = some (.tbl ps)) (c : Chg tb (.tbl ps') H H') (t : TbOk H' ps' rfQ) : TbS tb H H' := ⟨c.stayT h, ps', c.1, t⟩
/-- numbers of holes -/
def okH (n : Int) : Key → Bool
  | .inl z => decide (0 ≤ z) && decide (z < n)
  | .inr _ => false
/-- where a trim's result fails -/
def rfK (rows : List Sy.Row) (n : Int) (l : List Key) : Int := if 0 ≤ repK [] 0 l ∧ (faK rows (okH n) 1 0 l < 0 ∨ repK [] 0 l < faK rows (okH n) 1 0 l) then repK [] 0 l else faK rows (okH n) 1 0 l
/-- numbers that were met, as a dict -/
def metK (met : List Int) : List (Key × V) := met.reverse.map fun z => (Sum.inl z, V.bl true)
theorem metK_cons (z : Int) (met : List Int) : metK (z :: met) = metK met ++ [(Sum.inl z, V.bl true)] := by
  unfold metK
  rw [List.reverse_cons, List.map_append]
  rfl
theorem valV_met (z : Int) (met : List Int) : valV (metK met) (Sum.inl z : Key) = if z ∈ met then some (.bl true) else none := by
  have gen : ∀ l : List Int, valV (l.map fun z => ((Sum.inl z : Key), V.bl true)) (Sum.inl z : Key) = if z ∈ l then some (.bl true) else none := by
    intro l
    induction l with
    | nil => rfl
    | cons y l ih =>
      rw [List.map_cons, valV_cons, ih]
      by_cases e : y = z
      · subst e
        simp
      · rw [if_neg (fun q => e (Sum.inl.inj q))]
        have : z ≠ y := fun q => e q.symm
        simp [this]
  unfold metK
  rw [gen]
  simp
section
variable {P : Program} {w : World} {K : PySem.W.Frag} {mg : Str → Option Value} {base : Heap}
def spRep (K : PySem.W.Frag) : Sp := fun vs H Q _ => ∃ (r : Addr) (l : List Key), vs = [.ref r] ∧ SqT K H r (l.map kV) ∧ l.length ≤ 100000 ∧ ∀ H', Same H H' → Q (.int (repK [] 0 l)) H'
abbrev N_rep : List Str := ["row", "met", "place", "entry"]
theorem sc_rep : FnScope N_rep ["row"] (defScope (top 39)) := ⟨rfl, rfl, rfl, by decide +kernel, rfl, by decide +kernel, by decide +kernel⟩
theorem k_rep (T : Txt K mg) (F : DF K mg "first_repeat" 39) : Cal P w K mg base 1 "first_repeat" ["row"] (spRep K) := by
  refine cal_of F.1 F.2 sc_rep (fun _ _ _ _ _ _ us e => match us, e with | [_], _ => rfl) (fun vs H Q E s => by obtain ⟨_, _, rfl, _⟩ := s; rfl) ?_
  intro cdv A outer s H vs Q E hr h
  obtain ⟨r, l, rfl, hR, hl, hq⟩ := h
  have hu := hu_of hr
  have sc := sc_rep
  refine ⟨_, (pss_cons (ps_set (i := 1) sc.nd rfl (Or.inl rfl) pe_dnewK)
      (pss_cons (ps_for (passes_of rfl) rfl (pi_range1 rfl T.range (pa_cons (pe_callB call_len_seq (by rfl) T.len (by decide +kernel) (pa_cons (pv 0) pa_nil)) pa_nil)) (pg_name (i := 2) sc.nd rfl (Or.inl rfl))
        (pss_cons (ps_set (i := 3) sc.nd rfl (Or.inl rfl) (pe_ix ix_tup (pv 0) (pv 2) (fun _ _ => rfl)))
        (pss_one (ps_if (pt_val (pe_callB call_isi (by rfl) T.isinstance (by decide +kernel) (pa_cons (pv 3) (pa_cons (pe_bltn (v := .ty "int") (by rfl) T.int (by decide +kernel) rfl) pa_nil))))
          (pss_cons (ps_if (pt_cmp (pc_din hu (pv 3) (pv 1)))
            (pss_one (ps_ret (pv 2)))
            pss_nil)
          (pss_one (ps_dput hu (pv 1) (pv 3) pe_bl rfl)))
          pss_nil))))
      (pss_one (ps_ret (pe_un un_neg pe_int))))), ?_⟩
  intro d hd
  have k1 := (Hs.start H).new (o := .dK []) hd
  refine ⟨_, rfl, r, _, rfl, .inr (Same.sqt k1.sub hR), _, rfl, by rw [List.length_map]; omega, by rw [List.length_map]; omega, for_rng (n := (l.map kV).length) (fun i σ H' => ∃ (met : List Int) (t2 t3 : Option V), σ = [some (.ref r), some (.ref d), t2, t3] ∧ met.length ≤ i ∧ Hs H [(d, .dK (metK met))] H' ∧ repK [] 0 l = repK met i (l.drop i)) ⟨[], none, none, rfl, Nat.le_refl _, k1, by rw [List.drop_zero]⟩ ?_ ?_⟩
  · rintro i σ H1 hi ⟨met, t2, t3, rfl, hm, hh, e1⟩
    rw [List.length_map] at hi
    obtain ⟨k, hk⟩ : ∃ k, l[i]? = some k := ⟨_, List.getElem?_eq_getElem hi⟩
    rw [drop_of hk] at e1
    refine ⟨_, rfl, _, rfl, r, _, _, _, rfl, rfl, Same.sqt hh.sub hR, atI_nat (by rw [List.getElem?_map, hk]; rfl), ?_⟩
    cases k with
    | inr x =>
      exact ⟨_, rfl, _, _, _, _, false, rfl, .ty _, .base (.str x), kit_ty (by decide +kernel), _, rfl, iteF ⟨met, _, _, rfl, by omega, hh, e1⟩⟩
    | inl z =>
      refine ⟨_, rfl, _, _, _, _, true, rfl, .ty _, .base (.int z), kit_ty (by decide +kernel), _, rfl, iteT ⟨_, rfl, _, rfl, d, _, rfl, DGet.k (k := Sum.inl z) hh.r0, _, rfl, ?_⟩⟩
      rw [valV_met]
      rw [repK] at e1
      by_cases c : z ∈ met
      · rw [if_pos c] at e1 ⊢
        refine iteT ⟨_, rfl, ?_⟩
        have q := hq H1 hh.sub
        rw [e1] at q
        exact q
      · rw [if_neg c] at e1
        rw [if_neg c]
        have vn : valV (metK met) (Sum.inl z : Key) = none := by rw [valV_met, if_neg c]
        refine iteF ⟨_, rfl, _, rfl, d, _, rfl, DPut.k (k := Sum.inl z) hh.r0 (by unfold metK; rw [List.length_map, List.length_reverse, sizeLine_eq]; omega), z :: met, _, _, rfl, by rw [List.length_cons]; omega, ?_, e1⟩
        rw [metK_cons, putK_new _ vn]
        exact hh.w0
  · rintro σ H1 ⟨met, t2, t3, rfl, hm, hh, e1⟩
    rw [List.length_map, List.drop_eq_nil_of_le (Nat.le_refl _), repK] at e1
    have q := hq H1 hh.sub
    rw [e1] at q
    exact ⟨_, rfl, q⟩
/-! the lambda of result_fault -/
def alSc : Scope := { kind := .function, names := [(Str.ofString "entry", .local), (Str.ofString "number_of_holes", .free), (Str.ofString "isinstance", .globalImplicit), (Str.ofString "int", .globalImplicit)], isGenerator := false, isCoroutine := false, more := [] }
abbrev N_al : List Str := ["entry", "number_of_holes"]
theorem sc_al : NScope N_al ["entry"] ["number_of_holes"] alSc := nscope_by (by decide +kernel)
theorem al_free : ∀ y ∈ alSc.names, y.2 = .free → (defScope (top 40)).names.lookup y.1 = some .cell ∨ (defScope (top 40)).names.lookup y.1 = some .free := by decide +kernel
theorem al_fr : ∀ y ∈ (["number_of_holes"] : List Str), (y, NameKind.free) ∈ alSc.names := by decide +kernel
def spAl (n : Int) : Sp := fun vs H Q _ => ∃ k : Key, vs = [kV k] ∧ Q (.bl (okH n k)) H
def spRf (K : PySem.W.Frag) (tb : Addr) : Sp := fun vs H Q _ => ∃ (a r : Addr) (n : Int) (rows : List Sy.Row) (l : List Key), vs = [.ref a, .int n, .ref r] ∧ BedAt K H a rows ∧ SqT K H r (l.map kV) ∧ l.length ≤ 100000 ∧ TbI tb H ∧ ∀ H', TbS tb H H' → Q (.int (rfK rows n l)) H'
abbrev N_rf : List Str := ["bed", "number_of_holes", "result", "place", "again"]
theorem sc_rf : FnScope N_rf ["bed", "number_of_holes", "result"] (defScope (top 40)) := ⟨rfl, rfl, rfl, by decide +kernel, rfl, by decide +kernel, by decide +kernel⟩
/-- a module's def whose own code object is known -/
def FDc (K : PySem.W.Frag) (x : Str) (st : Stmt) (c : Addr) : Prop := ∃ fd, FunD K x x (defArgs st) (defBody st) (defScope st) [] [] (He.ga K x) fd ∧ fd.code = .ref c
theorem cal_ofC {x : Str} {st : Stmt} {c : Addr} {N ps : List Str} {k : Nat} {sp : Sp} (F : FDc K x st c) (hm : mg x = some (.ref (He.ga K x))) (S : FnScope N ps (defScope st))
    (hb : ∀ (kV doc pm : Value) (an : Option Addr) (cdv ct : Value) (us : List Value), us.length = ps.length → bindArgs (PySem.W.fnOf x x (defArgs st) (defBody st) (defScope st) .none kV doc pm an cdv ct) ⟨us, []⟩ = pure (ps.zip us))
    (len : ∀ vs H Q E, sp vs H Q E → vs.length = ps.length)
    (body : ∀ (A : Around) (outer : List Env) (s : Shared) (H : Hp) (vs : List V) (Q : VK) (E : XK), Room k (A.deeper (envOfC x (defScope st) s.heap.objs.size (He.ga K x) (.ref c))) → sp vs H Q E →
      ∃ t, PSs (cxOf (L2.CX P w) P w K mg base N x (defScope st) (He.ga K x) (.ref c) A outer s H E) (defBody st) t ∧ t { nx := fun _ H' => Q .non H', rt := Q } (start N vs) H) : Cal P w K mg base (k + 1) x ps sp := by
  obtain ⟨fd, F, hc⟩ := F
  have B := F.bindsN hb
  have kp := F.kp
  obtain ⟨oc, od, dV, kV, doc, pm, an, cdv, ct, osl, rfl, lk, hcd, _, _⟩ := F.ex
  have hc : cdv = .ref c := hc
  subst hc
  exact ⟨⟨_, fn_of lk hcd S len fun A outer s H vs Q E hr hsp => body A outer s H vs Q E hr hsp, B⟩, hm, kp⟩
theorem k_rf {c tb : Addr} (T : Txt K mg) (TB : TabB base mg c tb) (F : FDc K "result_fault" (top 40) c) (hmg : mg "result_fault" = some (.ref (He.ga K "result_fault"))) (c_fault : CalV P w K mg base 3 "fault" ["bed", "row", "allowed"] [] (spFa P w K mg base))
    (c_first_repeat : Cal P w K mg base 1 "first_repeat" ["row"] (spRep K)) : Cal P w K mg base 4 "result_fault" ["bed", "number_of_holes", "result"] (spRf K tb) := by
  refine cal_ofC F hmg sc_rf (fun _ _ _ _ _ _ us e => match us, e with | [_, _, _], _ => rfl) (fun vs H Q E s => by obtain ⟨_, _, _, _, _, rfl, _⟩ := s; rfl) ?_
  intro A outer s H vs Q E hr h
  obtain ⟨a, r, n, rows, l, rfl, hb, hR, hl, ⟨ps, htb, tok⟩, hq⟩ := h
  have sc := sc_rf
  refine ⟨_, (pss_cons (ps_set (i := 3) sc.nd rfl (Or.inl rfl) (pe_calV c_fault (fr := ["number_of_holes"]) (js := [1]) (fun okX => Caps.made (scope := alSc) okX al_free al_fr rfl) (fun _ => rfl) hr (takes_of rfl rfl rfl rfl) (pa_cons (pv 0) (pa_cons (pv 2) (pa_cons (pe_lamC (scope := alSc) TB rfl al_free rfl) pa_nil)))))
      (pss_cons (ps_set (i := 4) sc.nd rfl (Or.inl rfl) (pe_cal c_first_repeat hr (pa_cons (pv 2) pa_nil)))
      (pss_cons (ps_if (PW.pt (pw_and (pt_cmpR op_ge (pv 4) pe_int (nomark _)) (pw_and1 (PW.pt (pw_or (pt_cmpR op_lt (pv 3) pe_int (nomark _)) (pw_or1 (pt_cmpR op_lt (pv 4) (pv 3) (nomark _))))))))
        (pss_one (ps_ret (pv 4)))
        pss_nil)
      (pss_one (ps_ret (pv 3)))))), ?_⟩
  refine ⟨_, rfl, _, rfl, ps, htb, tok, fun f c' ps' H1 chg tok1 nf hf hc => ?_⟩
  have t1 := TbS.chg htb chg tok1
  have FN := fnv_lamH (P := P) (w := w) (K := K) (mg := mg) (base := base) (k := 0) (N := N_al) (ps := ["entry"]) (fr := ["number_of_holes"]) (ws := [some (.int n)]) (sp := spAl n) hf hc sc_al (fun _ _ _ us e => match us, e with | [_], _ => rfl) (fun vs H Q E s => by obtain ⟨_, rfl, _⟩ := s; rfl) (fun A outer s H vs Q E hr h => by
    obtain ⟨k, rfl, q⟩ := h
    refine ⟨_, pe_and (pe_callB call_isi (by rfl) T.isinstance (by decide +kernel) (pa_cons (pv 0) (pa_cons (pe_bltn (v := .ty "int") (by rfl) T.int (by decide +kernel) rfl) pa_nil))) (pe_one (pe_chain op_le op_lt pe_int (pv 0) (pv 1))), ?_⟩
    cases k with
    | inr x => exact ⟨_, rfl, _, _, _, _, false, rfl, .ty _, .base (.str x), kit_ty (by decide +kernel), _, rfl, iteF q⟩
    | inl z =>
      refine ⟨_, rfl, _, _, _, _, true, rfl, .ty _, .base (.int z), kit_ty (by decide +kernel), _, rfl, iteT ⟨_, rfl, _, _, rfl, rfl, _, rfl, if_dec (fun c => ?_) (fun c => ?_)⟩⟩
      · have e : okH n (.inl z) = decide (z < n) := by
          show (decide (0 ≤ z) && decide (z < n)) = _
          rw [decide_eq_true c, Bool.true_and]
        rw [e] at q
        exact ⟨_, rfl, _, _, rfl, rfl, q⟩
      · have e : okH n (.inl z) = false := by
          show (decide (0 ≤ z) && decide (z < n)) = _
          rw [decide_eq_false c, Bool.false_and]
        rw [e] at q
        exact q)
  refine ⟨a, r, f, rows, l, okH n, _, _, rfl, t1.st.bed hb, t1.st.sqt hR, FN.mono2 (by decide), ⟨hf, hc⟩, fun k H' Q' _ s' q => ⟨k, rfl, q H' (Same.refl _)⟩, fun H2 s2 => ?_⟩
  have t2 := t1.same s2
  refine ⟨_, rfl, r, l, rfl, t2.st.sqt hR, hl, fun H3 s3 => ?_⟩
  have t3 := t2.same s3
  have q := hq H3 t3
  refine ⟨_, rfl, _, _, rfl, rfl, _, rfl, if_dec (fun c1 => ?_) (fun c1 => ?_)⟩
  · refine ⟨_, rfl, _, _, rfl, rfl, _, rfl, if_dec (fun c2 => ?_) (fun c2 => ⟨_, rfl, _, rfl, _, _, rfl, rfl, _, rfl, if_dec (fun c3 => ?_) (fun c3 => ?_)⟩)⟩
    · unfold rfK at q
      rw [if_pos ⟨c1, .inl c2⟩] at q
      exact ⟨_, rfl, q⟩
    · unfold rfK at q
      rw [if_pos ⟨c1, .inr c3⟩] at q
      exact ⟨_, rfl, q⟩
    · unfold rfK at q
      rw [if_neg (fun z => z.2.elim c2 c3)] at q
      exact ⟨_, rfl, q⟩
  · unfold rfK at q
    rw [if_neg (fun z => c1 z.1)] at q
    exact ⟨_, rfl, q⟩
end
end Sy
/-! OtherBed, Bed.same, need_same -/
namespace L2
open PySem PySem.Spec PyProof.Rows
/-- the end of C() where no dict was made -/
theorem mk_end00 {X : Cx} {pins : List (Addr × Obj)} {σ : St} {H1 H2 : Hp} {hp hp2 h2 : Heap} {g1 g2 : Array GenState} {d1 d2 : Drawn} {t1 t2 : Nat} {os1 os2 : OsState} {a C : Addr} (I1 : Inv X pins σ H1 ⟨hp, g1, d1, t1, os1⟩)
    (ha : hp.objs.size ≤ a) (k : ∀ b o, hp.get? b = some o → hp2.get? b = some o) (un : Un (frs X.stack) [] (upd H1 a (exo a C none)) H2 hp2 h2) (hok : HOk X.prog X.w H2 h2) (ho : os2 = os1) (hb : AllBare g2)
    (ea : H2 a = some (exo a C none)) :
    ∃ (t0 : Addr) (G : Heap), Inv X pins σ (del H2 a) ⟨G, g2, d2, t2, os2⟩ ∧ (∀ b o, G.get? b = some o → h2.get? b = some o) ∧ G.get? a = none ∧
      h2.get? a = some ({ cls := .ref C, dict := none, data := .fields #[.ref t0, .none, .none, .none, .bool false, .none] } : Obj) ∧ (del H2 a) a = none := by
  obtain ⟨t0, hoe⟩ := exo_at hok ea
  have hn : H1 a = none := I1.hok.fresh ha
  obtain ⟨G, g1', g2'⟩ := restrict h2 fun b => decide (b ≠ a)
  have gk : ∀ b, b ≠ a → G.get? b = h2.get? b := fun b hb => g1' b (decide_eq_true hb)
  have ge : G.get? a = none := g2' a (by simp)
  have nha : ∀ {b : Addr} {o : Obj}, hp.get? b = some o → b ≠ a := fun {b o} z => Nat.ne_of_lt (Nat.lt_of_lt_of_le (Heap.lt_size z) ha)
  have up : ∀ {b : Addr}, b ≠ a → H1 b = none → upd H1 a (exo a C none) b = none := fun {b} hb n => by rw [upd_ne hb]; exact n
  have U : Un (frs X.stack) [] H1 (del H2 a) hp G := {
    keep := fun b o z n hf hx => by
      rw [gk b (nha z)]
      exact un.keep b o (k b o z) (up (nha z) n) hf hx
    slot := fun b o z n hf hx => by
      rw [gk b (nha z)]
      exact un.slot b o (k b o z) (up (nha z) n) hf hx
    free := fun b o z n hx => by
      rw [del_ne (nha z)]
      exact un.free b o (k b o z) (up (nha z) n) hx
    there := fun b o z hx => by
      obtain ⟨o', e⟩ := un.there b o (k b o z) hx
      exact ⟨o', by rw [gk b (nha z)]; exact e⟩
    tups := fun b xs z => by
      have hba : b ≠ a := ne_of_none z hn
      rw [del_ne hba]
      exact un.tups b xs (by rw [upd_ne hba]; exact z)
    frzs := fun b o v z => by
      have hba : b ≠ a := ne_of_none z hn
      rw [del_ne hba]
      exact un.frzs b o v (by rw [upd_ne hba]; exact z)
    tbls := fun b ps z => by
      have hba : b ≠ a := ne_of_none z hn
      rw [del_ne hba]
      exact un.tbls b ps (by rw [upd_ne hba]; exact z) }
  have hok3 : HOk X.prog X.w (del H2 a) G := fun b o z => by
    have hba : b ≠ a := fun e => by
      rw [e, del_same] at z
      cases z
    rw [del_ne hba] at z
    have noa : ∀ {c : Addr}, H2 c = some (.own b) → c ≠ a := fun {c} hc => at_ne ea hc exo_own
    exact (hok b o z).stay (fun c v hc y => by
        have hca : c ≠ a := by
          rcases hc with hc | hc
          · rw [hc]
            exact hba
          · exact noa hc
        rw [gk c hca]
        exact y)
      (fun c hc => by rw [del_ne (noa hc)]; exact hc) (fun c xs hc => by rw [del_ne (at_ne ea hc exo_tup)]; exact hc)
  have J : Inv X pins σ (del H2 a) ⟨G, g2, d2, t2, os2⟩ := I1.call' (ch := []) ho U hok3 hb (fun b z => absurd z (by simp))
  refine ⟨t0, G, J, fun b o z => ?_, ge, hoe, del_same⟩
  by_cases hba : b = a
  · rw [hba, ge] at z
    cases z
  · exact (gk b hba).symm.trans z
/-- the reading of C() without a dict -/
def tMkN (C : Addr) (sp : Sp) (dvs : List V) : St → Hp → XK → Prop := fun _ H Q => ∀ a, H a = none → sp (.ref a :: dvs) (upd H a (exo a C none)) (fun v H2 => v = .non ∧ H2 a = some (exo a C none) ∧ Q (.ref C) none (del H2 a)) (fun _ _ _ => False)
/-- an own error made without arguments -/
theorem pmk_oex0 {X : Cx} {p pos : Pos} {CX : CXT} {x : Str} {C fI : Addr} {k : Nat} {fd : FuncData} {ps : List Str} {sp : Sp} {ds : List Value} {dvs : List V} (T : OexC X.K C) (iC : PySem.W.findIn X.K (.ref C) "__init__" = some (some (.ref fI))) (tI : PySem.W.typeIn X.K (.ref fI) = some (.type "function"))
    (F1 : FnOk X.prog X.w X.K X.mg X.base CX k fI fd ps sp) (hr : Room (k + 1) X.A) (hb : Binds X.K fd ps ds) (hd : Vals dvs ds) (hx : Passes CX X (fun _ _ _ => False)) (hg : Gl X x) (hm : X.mg x = some (.ref C))
    (hdb : (x == ("__debug__" : Str)) = false := by decide) :
    PMk X (.Call (.Name x p) [] [] pos) (tMkN C sp dvs) := by
  intro pins s σ H Q I h
  obtain ⟨nm, q, N, bs, bm, sn, sub, ab, col, dd, k0, k1, k2, k3, k5, hC, hbm⟩ := T.cls
  refine wpAny_Call_Name_kw (ld_glob I hg hm ?_ hdb)
  refine PySem.W.callWith_K0 I.kIn T.kC ?_
  have q1 := h
  have I1 := I
  have r1 : Vals [] [] := .nil
  show wpAny _ _ (call (.ref C) []) _ _ _
  obtain ⟨hp, g, dr, tk, os⟩ := s
  have hsz : hp.objs.size ≤ hp.objs.size + 1 := Nat.le_succ _
  have hn : H (hp.objs.size + 1) = none := I1.hok.fresh hsz
  have hq := q1 (hp.objs.size + 1) hn
  have kk : ∀ b o, hp.get? b = some o → ((hp.push (PySem.W.kdv_tup [])).push (PySem.HandSPX.excO C hp.objs.size)).get? b = some o := fun b o e => Heap.get?_push_of_some _ (Heap.get?_push_of_some _ e)
  have hget : ((hp.push (PySem.W.kdv_tup [])).push (PySem.HandSPX.excO C hp.objs.size)).get? (hp.objs.size + 1) = some (PySem.HandSPX.excO C hp.objs.size) := by heap_get
  have I2 : Inv X pins σ (upd H (hp.objs.size + 1) (exo (hp.objs.size + 1) C none)) ⟨(hp.push (PySem.W.kdv_tup [])).push (PySem.HandSPX.excO C hp.objs.size), g, dr, tk, os⟩ :=
    I1.laid (t' := tk) (a := hp.objs.size + 1) (o := exo (hp.objs.size + 1) C none) (h' := (hp.push (PySem.W.kdv_tup [])).push (PySem.HandSPX.excO C hp.objs.size)) kk hsz (exo_ok hget)
  have r2 : Vals (V.ref (hp.objs.size + 1) :: dvs) (Value.ref (hp.objs.size + 1) :: ds) := .cons rfl hd
  have hl : ([Value.ref (hp.objs.size + 1)] ++ ds).length = ps.length := by
    have e := r2.length
    rw [F1.len _ _ _ _ hq] at e
    exact e.symm
  refine wpAny_call (PySem.HandSPX.call_own F.excBase_ValueError (fun Y => PySem.HandSPX.refsVE_contains Y bm hbm) (I1.kIn _ _ hC) (PySem.W.looks_findIn I1.kIn iC) (fun self => PySem.W.bind_fn I1.kIn self tI) (Nat.zero_le _)
    (codeAny_mono (F1.run _ X.stack _ _ ⟨[Value.ref (hp.objs.size + 1)], []⟩ ([Value.ref (hp.objs.size + 1)] ++ ds) _ _ (fun _ _ _ => False) (hr.make C [] []) (I2.env0.make C [] []) (hb _ [Value.ref (hp.objs.size + 1)] I2.kIn hl) r2 hq) fun r s' hq' => ?_))
  cases r with
  | error er => exact hx pins σ _ _ er s' I2 hq'
  | ok fl =>
    cases fl with
    | ret u =>
      obtain ⟨v, H2, os2, bare2, un2, hok2, rv, ev, ea, q2⟩ := hq'
      subst ev
      obtain ⟨h2, g2, d2, t2, os'⟩ := s'
      obtain ⟨t0, G, J, kG, ge, hoe, na⟩ := mk_end00 (d2 := d2) (t2 := t2) I1 hsz kk un2 hok2 os2 bare2 ea
      exact ⟨rv, _, _, _, ⟨G, g2, d2, t2, os'⟩, _, .ref C, none, rfl, J, kG, ge, hoe, ⟨rfl, rfl⟩, rfl, rfl, na, rfl, bare2, raises_own T.exC T.tyC, q2⟩
    | next => exact False.elim hq'
    | brk => exact False.elim hq'
    | cont => exact False.elim hq'
end L2
namespace Sy
open PySem PySem.Spec PyProof.Rows L2
section
variable {P : Program} {w : World} {K : PySem.W.Frag} {mg : Str → Option Value} {base : Heap}
/-- made without a dict: nothing but the exception itself -/
def spInit0 (C : Addr) : Sp := fun vs H Q _ => ∃ a, vs = [.ref a] ∧ H a = some (exo a C none) ∧ Q .non H
theorem sc_ob : NdefX.NScope ["self", "__class__"] ["self"] ["__class__"] (defScope (clb 8 0)) := ⟨rfl, rfl, rfl, by decide +kernel, rfl, by decide +kernel, by decide +kernel, by decide +kernel, by decide +kernel⟩
theorem i_ob (T : ErrB P K mg "OtherBed" "OtherBed.__init__" (clb 8 0) []) : ∃ fd, FnOk P w K mg base CX0 1 (iniA K "OtherBed") fd ["self"] (spInit0 (He.ga K "OtherBed")) ∧ L2.Binds K fd ["self"] [] := by
  obtain ⟨cc, cd, kV, doc, pm, an, ct, S⟩ := T.sup
  refine ⟨_, fn_sup (k := 0) S sc_ob rfl rfl rfl rfl rfl T.mS T.top (fun vs H Q E s => by obtain ⟨_, rfl, _⟩ := s; rfl) (fun _ => rfl) (fun _ => rfl) (fun _ _ => rfl) ?_, .all fun us e => match us, e with | [_], _ => rfl⟩
  intro A outer s H vs Q E hr h
  obtain ⟨a, rfl, ha, hq⟩ := h
  exact ⟨_, _, pa_cons pe_str pa_nil, pss_nil, a, _, rfl, ha, (by show 1 ≤ 1000; decide), ha, hq⟩
theorem mk_ob {X : Cx} {k : Nat} {p pos : Pos} (T : ErrB X.prog X.K X.mg "OtherBed" "OtherBed.__init__" (clb 8 0) []) (hr : Room k X.A) (hg : Gl X "OtherBed") (hx : Passes CX0 X (fun _ _ _ => False)) (hk : 2 ≤ k := by decide) :
    PMk X (.Call (.Name "OtherBed" p) [] [] pos) (tMkN (He.ga X.K "OtherBed") (spInit0 (He.ga X.K "OtherBed")) []) := by
  obtain ⟨fd, F, B⟩ := i_ob (w := X.w) (base := X.base) T
  obtain ⟨cc, cd, kV, doc, pm, an, ct, S⟩ := T.sup
  exact pmk_oex0 S.oex T.iC T.tI F (hr.mono hk) B .nil hx hg T.at_
/-- OtherBed is due -/
def RaO (K : PySem.W.Frag) (H : Hp) (E : XK) : Prop := ∀ H', Same H H' → E (.ref (He.ga K "OtherBed")) none H'
/-! Bed.same -/
def spSameB (K : PySem.W.Frag) : Sp := fun vs H Q _ => ∃ (a b : Addr) (rows rows2 : List Sy.Row), vs = [.ref a, .ref b] ∧ BedAt K H a rows ∧ BedAt K H b rows2 ∧ (∀ r ∈ rows, PyData.strOk r.1 = true) ∧ (∀ r ∈ rows2, PyData.strOk r.1 = true) ∧ Q (.bl (decide (rows = rows2))) H
theorem sc_sameB : FnScope ["self", "other"] ["self", "other"] (defScope (clb 35 6)) := ⟨rfl, rfl, rfl, by decide +kernel, rfl, by decide +kernel, by decide +kernel⟩
theorem k_sameB (T : Txt K mg) (F : MB K "same" "Bed.same" (clb 35 6)) : CalM P w K mg base 1 "same" ["self", "other"] (spSameB K) := by
  refine calM_of F sc_sameB (fun _ _ _ _ _ _ us e => match us, e with | [_, _], _ => rfl) (fun vs H Q E s => by obtain ⟨_, _, _, _, rfl, _⟩ := s; rfl) ?_
  intro cdv A outer s H vs Q E hr h
  obtain ⟨a, b, rows, rows2, rfl, hb, hb2, hs, hs2, hq⟩ := h
  obtain ⟨dx, dA, tR, tK, dR, ps, h1, hd, h3, h4, h5, h6⟩ := hb.ex
  obtain ⟨dx', dA', tR', tK', dR', ps', h1', hd', h3', h4', h5', h6'⟩ := hb2.ex
  refine ⟨_, (pss_one (ps_ret (pe_cmpR (op_eqD hr.units) (pe_fld (pv 0) rfl) (pe_fld (pv 1) rfl) (nomark _)))), ?_⟩
  refine ⟨_, rfl, a, _, dx, _, _, rfl, h1, T.bed.cl, T.bed.nR, rfl, _, rfl, b, _, dx', _, _, rfl, h1', T.bed.cl, T.bed.nR, rfl, RowsD rows, RowsD rows2, (Im.tup h4 (Im.rowsD h6)).dp, (Im.tup h4' (Im.rowsD h6')).dp, lay_RowsD hs, lay_RowsD hs2, ?_⟩
  have : PyData.eqv (RowsD rows) (RowsD rows2) = decide (rows = rows2) := by
    unfold RowsD
    rw [PyData.eqv, eqv_rows]
  rw [this]
  exact hq
/-! need_same -/
theorem sc_need : FnScope ["beds", "bed"] ((([] : List Str)) ++ (["beds"] : List Str)) (defScope (top 36)) := ⟨rfl, rfl, rfl, by decide +kernel, rfl, by decide +kernel, by decide +kernel⟩
theorem bind_star0 {B : List Value → Sem (List (Str × Value))} {pv : Str} (h0 : B [] = (newTuple [] >>= fun t => pure [(pv, t)])) (h1 : ∀ r rs, B (r :: rs) = (newTuple (r :: rs) >>= fun t => pure [(pv, t)])) :
    ∀ us rest : List Value, us.length = ([] : List Str).length → B (us ++ rest) = (newTuple rest >>= fun t => pure (([] : List Str).zip us ++ [(pv, t)]))
  | [], [], _ => h0
  | [], r :: rs, _ => h1 r rs
end
end Sy
/-! tuples of which it is known that they have no dict: methods of a tuple -/
namespace Sy
open PySem PySem.Spec PyProof.Rows L2
def NoD (H : Hp) (a : Addr) : Prop := ∃ (o : Obj) (u : HO), H a = some (.frz o u) ∧ o.dict = none
/-- a new tuple at p -/
def NewT (H : Hp) (p : Addr) (xs : List V) (H' : Hp) : Prop := H p = none ∧ ∃ o : Obj, o.dict = none ∧ H' = upd H p (.frz o (.tup xs))
theorem NewT.same {H H' : Hp} {p : Addr} {xs : List V} (h : NewT H p xs H') : Same H H' := by
  obtain ⟨h1, o, _, rfl⟩ := h
  exact up_same h1
theorem NewT.sqt {K : PySem.W.Frag} {H H' : Hp} {p : Addr} {xs : List V} (h : NewT H p xs H') : SqT K H' p xs := by
  obtain ⟨h1, o, _, rfl⟩ := h
  exact .inl (.inr ⟨o, upd_same⟩)
theorem NewT.nod {H H' : Hp} {p : Addr} {xs : List V} (h : NewT H p xs H') : NoD H' p := by
  obtain ⟨h1, o, h2, rfl⟩ := h
  exact ⟨o, _, upd_same, h2⟩
theorem NoD.mono {H H' : Hp} {a : Addr} (h : NoD H a) (s : Stay H H') : NoD H' a := by
  obtain ⟨o, u, h1, h2⟩ := h
  exact ⟨o, u, s _ _ h1 (fun _ z => by cases z), h2⟩
section
variable {X : Cx} {es : List Expr} {t : TA} {pos : Pos}
def tTupZ (t : TA) : TE := fun σ H Q => t σ H fun xs H1 => xs.length ≤ sizeLine ∧ ∀ p H', NewT H1 p xs H' → Q (.ref p) H'
theorem pe_tupZ {x1} (h : PA X es t) : PE X (.Tuple es x1 pos) (tTupZ t) := by
  constructor
  intro pins s σ H Q I hq
  refine wpAny_Tuple_spliced (thn (h.run pos pins s σ H _ I hq) fun us s1 ⟨xs, H1, I1, r, z, q⟩ => ⟨by rw [← r.length]; exact z, ?_⟩)
  have hf : H1 s1.heap.objs.size = none := I1.hok.fresh (Nat.le_refl _)
  have hg : (s1.heap.push ({ cls := .type "tuple", data := .seq us.toArray } : Obj)).get? s1.heap.objs.size = some ({ cls := .type "tuple", data := .seq us.toArray } : Obj) := Heap.get?_push_size _ rfl
  refine ⟨.ref s1.heap.objs.size, _, I1.laid (t' := s1.toks) (o := .frz ({ cls := .type "tuple", data := .seq us.toArray } : Obj) (.tup xs)) (fun b u e => Heap.get?_push_of_some _ e) (Nat.le_refl _) ?_, rfl, q _ _ ⟨hf, _, rfl, rfl⟩⟩
  exact ⟨hg, z, us, r, ⟨_, hg, rfl, _, rfl⟩⟩
def rCatZ (K : PySem.W.Frag) : R2 := fun x y H Q => ∃ a b xs ys, x = .ref a ∧ y = .ref b ∧ SqT K H a xs ∧ SqT K H b ys ∧ xs.length + ys.length ≤ sizeLine ∧
  (xs = [] → Q (.ref b) H) ∧ (xs ≠ [] → ys = [] → Q (.ref a) H) ∧ (xs ≠ [] → ys ≠ [] → ∀ p H', NewT H p (xs ++ ys) H' → Q (.ref p) H')
theorem op_catZ : OpR X (binaryOp .Add) (rCatZ X.K) := by
  intro pins s σ H x y v u Q I rx ry h
  obtain ⟨a, b, xs, ys, rfl, rfl, ha, hb, hz, q0, q1, q2⟩ := h
  by_cases hx : xs = []
  · exact op_catA pins s σ H _ _ v u Q I rx ry ⟨a, b, xs, ys, rfl, rfl, ha, hb, hz, q0, q1, fun z => absurd hx z⟩
  cases rx
  cases ry
  obtain ⟨its, r1, p1, _⟩ := I.tuple ha
  obtain ⟨its2, r2, p2, _⟩ := I.tuple hb
  refine HT.cat_tup p1 p2 (fun z => hx (r1.nil_iff.mp z)) (fun z => ⟨.ref a, H, I, rfl, q1 hx (r2.nil_iff.mp z)⟩) (fun z => ?_) (by rw [← r1.length, ← r2.length]; exact hz)
  have hg : (s.heap.push ({ cls := .type "tuple", data := .seq (its ++ its2).toArray } : Obj)).get? s.heap.objs.size = some ({ cls := .type "tuple", data := .seq (its ++ its2).toArray } : Obj) := Heap.get?_push_size _ rfl
  refine ⟨.ref s.heap.objs.size, _, I.laid (t' := s.toks) (o := .frz ({ cls := .type "tuple", data := .seq (its ++ its2).toArray } : Obj) (.tup (xs ++ ys))) (fun b ob q => Heap.get?_push_of_some _ q) (Nat.le_refl _) ?_, rfl,
    q2 hx (fun w => z (r2.nil_iff.mpr w)) _ _ ⟨I.hok.fresh (Nat.le_refl _), _, rfl, rfl⟩⟩
  exact ⟨hg, by rw [List.length_append]; exact hz, _, r1.append r2, ⟨_, hg, rfl, _, rfl⟩⟩
def rTupZ (K : PySem.W.Frag) : List V → Hp → VK → Prop := fun xs H Q => ∃ p ys, xs = [.ref p] ∧ SqL K H p ys ∧ ∀ l H', NewT H l ys H' → Q (.ref l) H'
theorem call_tupZ : CallR X (.type "tuple") (rTupZ X.K) := by
  intro pins s σ H xs us Q I r h
  obtain ⟨p, ys, rfl, hq, q⟩ := h
  obtain ⟨u, rfl, rx⟩ := vals1 r
  cases rx
  obtain ⟨its, r', pl, hz⟩ := I.list hq
  have hlen := r'.length
  refine call_tuple_list pl.isList (fun h' kp => ?_) (by simp only [List.size_toArray]; omega)
  have I1 : Inv X pins σ H { s with heap := h' } := I.kept (t' := s.toks) kp
  have hg : (h'.push ({ cls := .type "tuple", data := .seq its.toArray } : Obj)).get? h'.objs.size = some ({ cls := .type "tuple", data := .seq its.toArray } : Obj) := Heap.get?_push_size _ rfl
  have I2 : Inv X pins σ (upd H h'.objs.size (.frz ({ cls := .type "tuple", data := .seq its.toArray } : Obj) (.tup ys))) { s with heap := h'.push { cls := .type "tuple", data := .seq its.toArray } } :=
    I1.laid (t' := s.toks) (fun b o e => Heap.get?_push_of_some _ e) (Nat.le_refl _) (show ObjOk X.prog X.w _ _ _ (.frz _ (.tup ys)) from ⟨hg, hz, its, r', ⟨_, hg, rfl, _, rfl⟩⟩)
  exact ⟨.ref h'.objs.size, _, I2, rfl, q _ _ ⟨I1.hok.fresh (Nat.le_refl _), _, rfl, rfl⟩⟩
/-! t.m(..) -/
def tBMT (K : PySem.W.Frag) (r : V → List V → Hp → VK → Prop) (to : TE) (t : TA) : TE := fun σ H Q => to σ H fun x H1 => (∃ a xs, x = .ref a ∧ SqT K H1 a xs ∧ NoD H1 a) ∧ t σ H1 fun xs H2 => r x xs H2 Q
variable {o e : Expr} {to : TE} {name : Str} {apos cpos : Pos} {id : String} {r : V → List V → Hp → VK → Prop}
theorem pe_bmT (slot : Slot "tuple" name id) (hty : typeOf (.builtin id) = pure (.type "method_descriptor")) (hm : MtR X id r) (ho : PE X o to) (ha : PA X (e :: es) t)
    (hbase : attributeBase o name X.env (eval o X.env) = eval o X.env := by rfl)
    (hfew : ((backTo cpos (starEach (e :: es) X.env)).all (fun x => !x.1) && (backToKw cpos (keywordEach [] X.env)).all (fun x => x.1.isSome)
      && decide ((e :: es).length + ([] : List Keyword).length + (if ([] : List Keyword).isEmpty then 0 else 1) < 30)) = true := by rfl)
    (hline : (apos.endLine == cpos.line) = true := by rfl) (hs : starEach (e :: es) X.env = (false, eval e X.env) :: starEach es X.env := by rfl) (hplain : (backTo cpos (starEach es X.env)).any (·.1) = false := by rfl) :
    PE X (.Call (.Attribute o name apos) (e :: es) [] cpos) (tBMT X.K r to t) := by
  constructor
  intro pins s σ H Q I h
  refine wpAny_Call_method_late hbase hfew hline rfl (thn (ho.run pins s σ H _ I h) fun v s1 ⟨x, H1, I1, r1, ⟨a, xs, ex, st, ob, u, hf, hd⟩, q1⟩ => ?_)
  subst ex
  cases r1
  obtain ⟨its, _, pt, _⟩ := I1.tuple st
  refine ⟨"tuple", id, PySem.F.plainAttrs_tuple, slot, hty, pt.typeIs, fun b e => ?_, ?_⟩
  · cases e
    exact ⟨ob, (I1.hok _ _ hf).1, hd⟩
  · have hA := ha.run cpos pins s1 σ H1 _ I1 q1
    rw [hs] at hA ⊢
    refine Calls.callWith_builtin (by show (false || (backTo cpos (starEach es X.env)).any (·.1)) = false; rw [hplain]; rfl) (Calls.evalArgs_plain ?_)
    exact thn hA fun us s2 ⟨vs, H2, I2, r2, q2⟩ => hm pins s2 σ H2 (.ref a) vs _ us Q I2 rfl r2 q2
end
end Sy
/-! check_trim, Trim -/
namespace Sy
open PySem PySem.Spec PyProof.Rows L2 LamX NdefX
/-! ### C(e, ..), what is raised being wished for at the caller's slots -/
def tMakeX (C : Addr) (sp : Sp) (dvs : List V) (W : WX) (t : TA) : TE := fun σ H Q => t σ H fun vs H1 => ∀ x dx, H1 x = none → H1 dx = none → dx ≠ x →
  sp (.ref x :: (vs ++ dvs)) (upd (upd H1 dx (.own x)) x (.ins C dx [])) (fun v H2 => v = .non ∧ Q (.ref x) H2) (WE W σ)
section
variable {X : Cx} {k j : Nat} {f C : Addr} {fd : FuncData} {ps : List Str} {ds : List Value} {dvs : List V} {sp : Sp} {W : WX} {x : Str} {p pos : Pos} {e : Expr} {es : List Expr} {t : TA}
theorem run_makeX {pins : List (Addr × Obj)} {σ : L2.St} {H : Hp} {s : Shared} {Q : VK} {us : List Value} {vs : List V} (M : Mk X.K C f) (F : FnOk X.prog X.w X.K X.mg X.base (L2.CX X.prog X.w) k f fd ps sp) (hr : Room (k + 1) X.A) (hb : Binds X.K fd ps ds) (hd : Vals dvs ds)
    (tk : Takes X W) (I : Inv X pins σ H s) (r : Vals vs us)
    (h : ∀ x dx, H x = none → H dx = none → dx ≠ x → sp (.ref x :: (vs ++ dvs)) (upd (upd H dx (.own x)) x (.ins C dx [])) (fun v H2 => v = .non ∧ Q (.ref x) H2) (WE W σ)) :
    wpAny (model X.prog X.w) X.A (call (.ref C) us) (EP X pins σ Q) X.xe s := by
  have hq := h (s.heap.objs.size + 1) s.heap.objs.size (I.hok.fresh (Nat.le_succ _)) (I.hok.fresh (Nat.le_refl _)) (Nat.ne_of_lt (Nat.lt_succ_self _))
  have I2 := Inv.made (C := C) I
  have r2 : Vals (V.ref (s.heap.objs.size + 1) :: (vs ++ dvs)) (Value.ref (s.heap.objs.size + 1) :: (us ++ ds)) := .cons rfl (r.append hd)
  have hl : (Value.ref (s.heap.objs.size + 1) :: us ++ ds).length = ps.length := by
    have e := F.len _ _ _ _ hq
    rw [← e, r2.length]
    rfl
  refine wpAny_call (make_map (f := f) I.kIn M.makes M.init (beq_iff_eq.mp M.fn) (codeAny_mono (F.run _ X.stack _ _ ⟨Value.ref (s.heap.objs.size + 1) :: us, []⟩ (Value.ref (s.heap.objs.size + 1) :: (us ++ ds)) _ _ (WE W σ) (hr.make C us [])
    (I2.env0.make C us []) (hb _ (Value.ref (s.heap.objs.size + 1) :: us) I2.kIn hl) r2 hq) fun r s' hq' => ?_))
  cases r with
  | error e => exact passAt tk σ pins _ _ e s' I2 hq'
  | ok fl =>
    cases fl with
    | ret u =>
      obtain ⟨v, H', I3, rv, ev, q3⟩ := I2.after hq'
      subst ev
      exact ⟨rv, ⟨V.ref (s.heap.objs.size + 1), H', I3, rfl, q3⟩⟩
    | next => exact False.elim hq'
    | brk => exact False.elim hq'
    | cont => exact False.elim hq'
theorem pe_makeX (M : Mk X.K C f) (F : FnOk X.prog X.w X.K X.mg X.base (L2.CX X.prog X.w) k f fd ps sp) (hr : Room j X.A) (hg : Gl X x) (hm : X.mg x = some (.ref C)) (hb : Binds X.K fd ps ds) (hd : Vals dvs ds) (tk : Takes X W)
    (ha : PA X (e :: es) t) (hk : k + 1 ≤ j := by decide) (hdb : (x == ("__debug__" : Str)) = false := by decide) (he : starEach (e :: es) X.env = (false, eval e X.env) :: starEach es X.env := by rfl) (hpl : (backTo pos (starEach es X.env)).any (·.1) = false := by rfl) :
    PE X (.Call (.Name x p) (e :: es) [] pos) (tMakeX C sp dvs W t) := by
  refine ⟨fun pins s σ H Q I h => ?_⟩
  refine wpAny_Call_Name_kw (ld_glob I hg hm ?_ hdb)
  refine PySem.W.callWith_K (h₀ := X.base) I.ok.mod.kin M.kp (thn (ha.run pos pins s σ H _ I h) fun us s1 ⟨vs, H1, I1, r, q⟩ => ⟨I1.kIn, ?_⟩) he hpl
  exact run_makeX M F (hr.mono hk) hb hd tk I1 r q
end
/-! ### rows of texts -/
theorem lay_strs {l : List Str} (h : ∀ x ∈ l, PyData.strOk x = true) : PyData.canLayAll0 (l.map PyData.str) = true ∧ PyData.depthAll (l.map PyData.str) ≤ 1 := by
  induction l with
  | nil => exact ⟨rfl, Nat.zero_le _⟩
  | cons x l ih =>
    have ih := ih fun y hy => h y (List.mem_cons_of_mem _ hy)
    simp only [List.map_cons, PyData.canLayAll0, PyData.depthAll, PyData.canLay0, PyData.depth, h x List.mem_cons_self, Bool.true_and]
    exact ⟨ih.1, by omega⟩
theorem lay_DS {l : List Str} (h : ∀ x ∈ l, PyData.strOk x = true) : SeqAt.shaped (DS l) = true := by
  have := lay_strs h
  unfold SeqAt.shaped DS
  simp only [PyData.canLay0, PyData.depth]
  rw [this.1, Bool.true_and]
  exact decide_eq_true (by omega)
theorem eqv_strs : ∀ (x y : List Str), PyData.eqvAll (x.map PyData.str) (y.map PyData.str) = decide (x = y)
  | [], [] => rfl
  | [], y :: ys => by simp [PyData.eqvAll]
  | x :: xs, [] => by simp [PyData.eqvAll]
  | x :: xs, y :: ys => by
    rw [List.map_cons, List.map_cons, PyData.eqvAll, PyData.eqv, eqv_strs xs ys]
    by_cases h : x = y
    · subst h
      simp
    · simp [h]
theorem eqv_DS (x y : List Str) : PyData.eqv (DS x) (DS y) = decide (x = y) := by
  unfold DS
  rw [PyData.eqv, eqv_strs]
theorem countP_strs (y : Str) (l : List Str) : (l.map V.str).countP (fun z => eqV z (V.str y)) = l.count y := by
  induction l with
  | nil => rfl
  | cons x l ih =>
    rw [List.map_cons, List.countP_cons, List.count_cons, ih]
    have : eqV (V.str x) (V.str y) = (x == y) := by
      by_cases h : x = y
      · subst h
        simp [eqV]
      · simp [eqV, h]
    rw [this]
theorem flat_strs (l : List Str) : (l.map V.str).all flatV = true := by
  rw [List.all_map, List.all_eq_true]
  intro x _
  rfl
def knK (rows : List Sy.Row) (ks : List Key) : Nat := (ks.filter (isKK rows)).length
abbrev kS (l : List Str) : List Key := l.map Sum.inr
theorem kS_map (l : List Str) : (kS l).map kV = l.map V.str := by
  rw [List.map_map]
  rfl
/-- what a trim owes -/
def ctDue (rows : List Sy.Row) (l : List Str) (ks : List Key) : Option Er :=
  if 200 < l.length then some (.many "entries" 200) else if 200 < ks.length then some (.many "entries" 200) else match ckS rows l with
  | some e => some e
  | none => if l = (["*"] : List Str) then some (.trim (-1)) else if 0 ≤ rfK rows (l.count ("*" : Str) : Nat) ks then some (.trim (rfK rows (l.count ("*" : Str) : Nat) ks)) else if knK rows (kS l) ≤ knK rows ks then some (.trim (-2)) else none
def RaT (K : PySem.W.Frag) (tb : Addr) (e : Er) (H : Hp) (E : XK) : Prop := ∀ d H' fs, TbS tb H H' → H' d = some (.xd fs) → ImF K H' fs e.fds → E (.ref (He.ga K e.cls)) (some d) H'
theorem RaT.raE {K : PySem.W.Frag} {tb : Addr} {e : Er} {H H1 : Hp} {E : XK} (h : RaT K tb e H E) (t : TbS tb H H1) : RaE K e H1 E := fun d H' fs s ed im => h d H' fs (t.same s) ed im
theorem rfK_le {rows : List Sy.Row} {n : Int} {ks : List Key} : -1 ≤ rfK rows n ks ∧ rfK rows n ks ≤ (ks.length : Nat) := by
  have f : ∀ (l : List Key) (m i : Nat), -1 ≤ faK rows (okH n) m i l ∧ faK rows (okH n) m i l ≤ ((i + l.length : Nat) : Int) := by
    intro l
    induction l with
    | nil => intro m i; rw [faK]; split <;> simp <;> omega
    | cons k l ih =>
      intro m i
      rw [faK, List.length_cons]
      split
      · omega
      · split
        · omega
        · have := ih (m - 1 + arK rows k) (i + 1)
          omega
  have g : ∀ (l : List Key) (met : List Int) (i : Nat), -1 ≤ repK met i l ∧ repK met i l ≤ ((i + l.length : Nat) : Int) := by
    intro l
    induction l with
    | nil => intro met i; rw [repK]; simp
    | cons k l ih =>
      intro met i
      cases k with
      | inl z =>
        rw [repK, List.length_cons]
        split
        · omega
        · have := ih (z :: met) (i + 1)
          omega
      | inr x =>
        rw [repK, List.length_cons]
        have := ih met (i + 1)
        omega
  have f1 := f ks 1 0
  have g1 := g ks [] 0
  unfold rfK
  split <;> omega
section
variable {P : Program} {w : World} {K : PySem.W.Frag} {mg : Str → Option Value} {base : Heap}
def spCt (K : PySem.W.Frag) (tb : Addr) : Sp := fun vs H Q E => ∃ (a s r : Addr) (rows : List Sy.Row) (l : List Str) (ks : List Key), vs = [.ref a, .ref s, .ref r] ∧ BedAt K H a rows ∧ SqT K H s (l.map V.str) ∧ NoD H s ∧ SqT K H r (ks.map kV) ∧ (∀ x ∈ l, PyData.strOk x = true) ∧ l.length ≤ 100000 ∧ ks.length ≤ 100000 ∧ TbI tb H ∧
  (ctDue rows l ks = none → ∀ H', TbS tb H H' → Q .non H') ∧ ∀ e, ctDue rows l ks = some e → RaT K tb e H E
abbrev N_ct : List Str := ["bed", "stump", "result", "place"]
theorem sc_ct : FnScope N_ct ["bed", "stump", "result"] (defScope (top 41)) := ⟨rfl, rfl, rfl, by decide +kernel, rfl, by decide +kernel, by decide +kernel⟩
theorem im_en {H : Hp} : ImF K H [("limit", .int 200), ("what", .str "entries")] (Er.many "entries" 200).fds := .cons (.int _) (.cons (.str _) .nil)
theorem im_tr {H : Hp} {i : Int} : ImF K H [("place", .int i)] (Er.trim i).fds := .cons (.int _) .nil
theorem k_ct {tb : Addr} (T : Txt K mg) (S : TxtM mg) (R : Ers P K mg) (F : DF K mg "check_trim" 41) (c_check_stump : Cal P w K mg base 4 "check_stump" ["bed", "stump"] (spCheckE K ckS)) (c_result_fault : Cal P w K mg base 4 "result_fault" ["bed", "number_of_holes", "result"] (spRf K tb))
    (c_knots_of : Cal P w K mg base 1 "knots_of" ["bed", "row"] (spKnots K)) : Cal P w K mg base 5 "check_trim" ["bed", "stump", "result"] (spCt K tb) := by
  refine cal_of F.1 F.2 sc_ct (fun _ _ _ _ _ _ us e => match us, e with | [_, _, _], _ => rfl) (fun vs H Q E s => by obtain ⟨_, _, _, _, _, _, rfl, _⟩ := s; rfl) ?_
  intro cdv A outer s H vs Q E hr h
  obtain ⟨a, st, r, rows, l, ks, rfl, hb, hS, nd, hR, hok, hl, hkl, tbi, hq, hE⟩ := h
  have sc := sc_ct
  refine ⟨_, (pss_cons (ps_if (pt_cmpR op_gt (pe_callB call_len_seq (by rfl) T.len (by decide +kernel) (pa_cons (pv 1) pa_nil)) (pe_gint rfl S.me) (nomark _))
        (pss_one (ps_raise rfl (takes_of rfl rfl rfl rfl) (mk_tm R.tm hr rfl (pa_cons pe_str (pa_cons (pe_gint rfl S.me) pa_nil)) pass0)))
        pss_nil)
      (pss_cons (ps_if (pt_cmpR op_gt (pe_callB call_len_seq (by rfl) T.len (by decide +kernel) (pa_cons (pv 2) pa_nil)) (pe_gint rfl S.me) (nomark _))
        (pss_one (ps_raise rfl (takes_of rfl rfl rfl rfl) (mk_tm R.tm hr rfl (pa_cons pe_str (pa_cons (pe_gint rfl S.me) pa_nil)) pass0)))
        pss_nil)
      (pss_cons (ps_expr (pe_calX c_check_stump hr (takes_of rfl rfl rfl rfl) (pa_cons (pv 0) (pa_cons (pv 1) pa_nil))))
      (pss_cons (ps_if (pt_cmpR (op_eqD hr.units) (pv 1) (pe_tup (pa_cons (pe_gstr rfl S.hole) pa_nil)) (nomark _))
        (pss_one (ps_raise rfl (takes_of rfl rfl rfl rfl) (mk_itr R.tr hr rfl (pa_cons (pe_un un_neg pe_int) pa_nil) pass0)))
        pss_nil)
      (pss_cons (ps_set (i := 3) sc.nd rfl (Or.inl rfl) (pe_cal c_result_fault hr (pa_cons (pv 0) (pa_cons (pe_bmT PySem.F.slot_tuple_count PySem.F.type_tuple_count mt_tcount (pv 1) (pa_cons (pe_gstr rfl S.hole) pa_nil)) (pa_cons (pv 2) pa_nil)))))
      (pss_cons (ps_if (pt_cmpR op_ge (pv 3) pe_int (nomark _))
        (pss_one (ps_raise rfl (takes_of rfl rfl rfl rfl) (mk_itr R.tr hr rfl (pa_cons (pv 3) pa_nil) pass0)))
        pss_nil)
      (pss_one (ps_if (pt_cmpR op_ge (pe_cal c_knots_of hr (pa_cons (pv 0) (pa_cons (pv 2) pa_nil))) (pe_cal c_knots_of hr (pa_cons (pv 0) (pa_cons (pv 1) pa_nil))) (nomark _))
        (pss_one (ps_raise rfl (takes_of rfl rfl rfl rfl) (mk_itr R.tr hr rfl (pa_cons (pe_un un_neg pe_int) pa_nil) pass0)))
        pss_nil)))))))), ?_⟩
  unfold ctDue at hq hE
  have many : (∀ e, some (Er.many "entries" 200) = some e → RaT K tb e H E) → Ra K "TooMany" [("limit", .int 200), ("what", .str "entries")] H E := fun hE => ((hE _ rfl).raE (TbS.of tbi (Same.refl _))).ra im_en
  refine ⟨_, rfl, st, _, rfl, .inr hS, _, _, rfl, rfl, _, rfl, if_dec (fun c => ?_) (fun c => ?_)⟩
  · rw [List.length_map] at c
    rw [if_pos (by omega)] at hE
    exact mk_ra (fun _ _ => ⟨_, _, rfl, by decide +kernel, by decide +kernel, by decide +kernel, rfl⟩) (by show 2 ≤ 1000; decide) (many hE)
  rw [List.length_map] at c
  rw [if_neg (by omega)] at hE hq
  refine ⟨_, rfl, r, _, rfl, .inr hR, _, _, rfl, rfl, _, rfl, if_dec (fun c2 => ?_) (fun c2 => ?_)⟩
  · rw [List.length_map] at c2
    rw [if_pos (by omega)] at hE
    exact mk_ra (fun _ _ => ⟨_, _, rfl, by decide +kernel, by decide +kernel, by decide +kernel, rfl⟩) (by show 2 ≤ 1000; decide) (many hE)
  rw [List.length_map] at c2
  rw [if_neg (by omega)] at hE hq
  refine ⟨_, rfl, _, rfl, a, st, rows, l, rfl, hb, hS, fun hn H1 s1 => ?_, fun e he => ?_⟩
  · rw [hn] at hE hq
    simp only at hE hq
    have t1 := TbS.of tbi s1
    refine ⟨_, rfl, (by show 1 ≤ sizeLine; decide), fun p hp => ?_⟩
    have s2 := up_same (o := .tup [.str "*"]) hp
    have t2 := t1.same s2
    have ep : SqT K (upd H1 p (.tup [.str "*"])) p ((["*"] : List Str).map V.str) := SqT.of upd_same
    generalize upd H1 p (.tup [.str "*"]) = H2 at *
    refine ⟨DS l, DS ["*"], (Im.strs (t2.st.sqt hS)).dp, (Im.strs ep).dp, lay_DS hok, lay_DS (fun x hx => by rw [List.mem_singleton.mp hx]; decide +kernel), _, rfl, ?_⟩
    rw [eqv_DS]
    refine if_dec (fun c3 => ?_) (fun c3 => ?_)
    · rw [if_pos c3] at hE
      exact ⟨_, rfl, mk_ra (fun _ _ => ⟨-1, rfl, by omega, rfl⟩) (by show 1 ≤ 1000; decide) (((hE _ rfl).raE t2).ra im_tr)⟩
    rw [if_neg c3] at hE hq
    refine ⟨_, rfl, _, rfl, ⟨st, _, rfl, t2.st.sqt hS, (nd.mono (Stay.of (s1.trans s2)))⟩, st, _, _, rfl, rfl, t2.st.sqt hS, rfl, flat_strs l, ?_⟩
    rw [countP_strs]
    refine ⟨_, rfl, a, r, _, rows, ks, rfl, t2.st.bed hb, t2.st.sqt hR, hkl, t2.tb, fun H3 t3 => ?_⟩
    have t3 := t2.trans t3
    have hbd := rfK_le (rows := rows) (n := (l.count ("*" : Str) : Nat)) (ks := ks)
    refine ⟨_, rfl, _, _, rfl, rfl, _, rfl, if_dec (fun c4 => ?_) (fun c4 => ?_)⟩
    · rw [if_pos c4] at hE
      exact ⟨_, rfl, mk_ra (fun _ _ => ⟨_, rfl, by omega, rfl⟩) (by show 1 ≤ 1000; decide) (((hE _ rfl).raE t3).ra im_tr)⟩
    rw [if_neg c4] at hE hq
    refine ⟨_, rfl, _, rfl, a, r, rows, ks, rfl, t3.st.bed hb, t3.st.sqt hR, hkl, fun H4 s4 => ?_⟩
    have t4 := t3.same s4
    refine ⟨_, rfl, _, rfl, a, st, rows, kS l, rfl, t4.st.bed hb, by rw [kS_map]; exact t4.st.sqt hS, by rw [List.length_map]; exact hl, fun H5 s5 => ?_⟩
    have t5 := t4.same s5
    refine ⟨_, _, rfl, rfl, _, rfl, if_dec (fun c5 => ?_) (fun c5 => ?_)⟩
    · have c5 : knK rows (kS l) ≤ knK rows ks := by unfold knK; omega
      rw [if_pos c5] at hE
      exact ⟨_, rfl, mk_ra (fun _ _ => ⟨-2, rfl, by omega, rfl⟩) (by show 1 ≤ 1000; decide) (((hE _ rfl).raE t5).ra im_tr)⟩
    · have c5 : ¬ knK rows (kS l) ≤ knK rows ks := by unfold knK; omega
      rw [if_neg c5] at hq
      exact hq rfl _ t5
  · rw [he] at hE
    exact (hE e rfl).raE (TbS.of tbi (Same.refl _))
/-! Trim -/
structure TxtT (K : PySem.W.Frag) : Prop where
  cl : Cls K (He.ga K "Trim")
  nB : NoAttr K (He.ga K "Trim") "bed"
  nS : NoAttr K (He.ga K "Trim") "stump"
  nR : NoAttr K (He.ga K "Trim") "result"
/-- a trim stands at x -/
structure TrmAt (K : PySem.W.Frag) (H : Hp) (x : Addr) (rows : List Sy.Row) (l : List Str) (ks : List Key) : Prop where
  ex : ∃ dx b s r, H x = some (.ins (He.ga K "Trim") dx [("bed", .ref b), ("stump", .ref s), ("result", .ref r)]) ∧ BedAt K H b rows ∧ SqT K H s (l.map V.str) ∧ SqT K H r (ks.map kV)
theorem StayT.trm {H H' : Hp} {x : Addr} {rows : List Sy.Row} {l : List Str} {ks : List Key} (s : StayT H H') (h : TrmAt K H x rows l ks) : TrmAt K H' x rows l ks := by
  obtain ⟨dx, b, st, r, h1, h2, h3, h4⟩ := h.ex
  exact ⟨dx, b, st, r, s _ _ h1 (fun _ z => by cases z), s.bed h2, s.sqt h3, s.sqt h4⟩
theorem BedAt.del {H : Hp} {x a C dx : Addr} {rows : List Sy.Row} (b : BedAt K H a rows) (hx : H x = some (.ins C dx [])) : BedAt K (L2.del H x) a rows := by
  obtain ⟨dx', dA, tR, tK, dR, ps, h1, h2, h3, h4, h5, h6⟩ := b.ex
  have ne : ∀ {p o}, H p = some o → o ≠ .ins C dx [] → p ≠ x := fun e n z => by
    rw [z, hx] at e
    exact n (Option.some.inj e).symm
  refine ⟨dx', dA, tR, tK, dR, ps, ?_, ?_, ?_, sqt_del h4 hx, sqt_del h5 hx, Paired.mapP h6 fun _ _ z => sqt_del z hx⟩
  · rw [del_ne (ne h1 (by unfold bedF; intro z; injection z with _ _ z; cases z))]
    exact h1
  · rw [del_ne (ne h2 (by intro z; cases z))]
    exact h2
  · rw [del_ne (ne h3 (by intro z; cases z))]
    exact h3
theorem TbI.del {tb : Addr} {H : Hp} {x C dx : Addr} {fs : List (Str × V)} (t : TbI tb H) (hx : H x = some (.ins C dx fs)) : TbI tb (L2.del H x) := by
  obtain ⟨ps, h1, h2, h3⟩ := t
  have ne : ∀ {p o}, H p = some o → o ≠ .ins C dx fs → p ≠ x := fun e n z => by
    rw [z, hx] at e
    exact n (Option.some.inj e).symm
  refine ⟨ps, by rw [del_ne (ne h1 (by intro z; cases z))]; exact h1, h2, fun pos cv hc => ?_⟩
  obtain ⟨c, e1, e2⟩ := h3 pos cv hc
  refine ⟨c, e1, by rw [del_ne (ne e2 (by intro z; unfold CodeO at z; cases z))]; exact e2⟩
/-- all but x and tables stays -/
def KeepT (x : Addr) (H H' : Hp) : Prop := ∀ a o, a ≠ x → H a = some o → (∀ qs, o ≠ .tbl qs) → H' a = some o
/-- a method of the class C -/
structure MC (K : PySem.W.Frag) (C m q : Str) (st : Stmt) : Prop where
  me : Meth K (He.ga K C) m (He.ma K (He.ga K C) m)
  fn : ∃ fd, FunD K m q (defArgs st) (defBody st) (defScope st) [] [] (He.ma K (He.ga K C) m) fd
def spInitT (K : PySem.W.Frag) (tb : Addr) : Sp := fun vs H Q E => ∃ (x b s r dx : Addr) (rows : List Sy.Row) (l : List Str) (ks : List Key), vs = [.ref x, .ref b, .ref s, .ref r] ∧ H x = some (.ins (He.ga K "Trim") dx []) ∧ BedAt K H b rows ∧ SqT K H s (l.map V.str) ∧ NoD H s ∧ SqT K H r (ks.map kV) ∧ (∀ x ∈ l, PyData.strOk x = true) ∧ l.length ≤ 100000 ∧ ks.length ≤ 100000 ∧ TbI tb H ∧
  (ctDue rows l ks = none → ∀ H', KeepT x H H' → TbI tb H' → TrmAt K H' x rows l ks → Q .non H') ∧ ∀ e, ctDue rows l ks = some e → RaT K tb e H E
abbrev N_initT : List Str := ["self", "bed", "stump", "result"]
theorem sc_initT : FnScope N_initT ["self", "bed", "stump", "result"] (defScope (clb 43 0)) := ⟨rfl, rfl, rfl, by decide +kernel, rfl, by decide +kernel, by decide +kernel⟩
theorem f_initT {tb : Addr} (TT : TxtT K) (F : MC K "Trim" "__init__" "Trim.__init__" (clb 43 0)) (c_check_trim : Cal P w K mg base 5 "check_trim" ["bed", "stump", "result"] (spCt K tb)) :
    ∃ fd, FnOk P w K mg base (L2.CX P w) (5 + 1) (He.ma K (He.ga K "Trim") "__init__") fd ["self", "bed", "stump", "result"] (spInitT K tb) ∧ L2.Binds K fd ["self", "bed", "stump", "result"] [] := by
  obtain ⟨me, fd, F⟩ := F
  refine ⟨fd, F.ok sc_initT (fun vs H Q E s => by obtain ⟨_, _, _, _, _, _, _, _, rfl, _⟩ := s; rfl) ?_, F.bindsN (ps := ["self", "bed", "stump", "result"]) (fun _ _ _ _ _ _ us e => match us, e with | [_, _, _, _], _ => rfl)⟩
  intro cdv A outer s H vs Q E hr h
  obtain ⟨x, b, st, r, dx, rows, l, ks, rfl, hx, hb, hS, nd, hR, hok, hl, hkl, tbi, hq, hE⟩ := h
  have sc := sc_initT
  refine ⟨_, (pss_cons (ps_expr (pe_calX c_check_trim hr (takes_of rfl rfl rfl rfl) (pa_cons (pv 1) (pa_cons (pv 2) (pa_cons (pv 3) pa_nil)))))
      (pss_cons (ps_fld (pv 0) (pv 1) rfl)
      (pss_cons (ps_fld (pv 0) (pv 2) rfl)
      (pss_one (ps_fld (pv 0) (pv 3) rfl))))), ?_⟩
  refine ⟨_, rfl, _, rfl, _, rfl, b, st, r, rows, l, ks, rfl, hb, hS, nd, hR, hok, hl, hkl, tbi, fun hn H1 t1 => ?_, hE⟩
  have hx1 := t1.st _ _ hx (fun _ z => by cases z)
  refine ⟨_, rfl, _, rfl, x, _, dx, _, rfl, hx1, TT.cl, TT.nB, by decide, ?_⟩
  refine ⟨_, rfl, _, rfl, x, _, dx, _, rfl, upd_same, TT.cl, TT.nS, (by show 1 < 1000; decide), ?_⟩
  refine ⟨_, rfl, _, rfl, x, _, dx, _, rfl, upd_same, TT.cl, TT.nR, (by show 2 < 1000; decide), ?_⟩
  generalize hH4 : upd (upd (upd H1 x _) x _) x _ = H4
  have e4 : H4 x = some (.ins (He.ga K "Trim") dx [("bed", .ref b), ("stump", .ref st), ("result", .ref r)]) := by rw [← hH4]; exact upd_same
  have n4 : ∀ a o, a ≠ x → H1 a = some o → H4 a = some o := fun a o n e => by rw [← hH4, upd_ne n, upd_ne n, upd_ne n]; exact e
  have s4 : Same (L2.del H1 x) H4 := fun a o e => by
    by_cases z : a = x
    · rw [z, del_same] at e
      cases e
    · rw [del_ne z] at e
      exact n4 a o z e
  exact hq hn H4 (fun a o n e nt => n4 a o n (t1.st a o e nt)) ((t1.tb.del hx1).same s4) ⟨dx, b, st, r, e4, ((t1.st.bed hb).del hx1).mono (Stay.of s4), Same.sqt s4 (sqt_del (t1.st.sqt hS) hx1), Same.sqt s4 (sqt_del (t1.st.sqt hR) hx1)⟩
end
end Sy
/-! defs with a star and one keyword-only parameter behind it -/
namespace Sy
open PySem PySem.Spec PyProof.Rows L2 PySem.W
/-- t looks one name up in the dict at D; fin: what follows if it holds v -/
def KwS {α : Type} (D : Addr) (nm : Str) (t : Sem α) (fin : Value → Sem α) : Prop := ∀ v : Value, ∃ (β γ : Type) (k1 : Option Value → Sem β) (k2 : β → Sem γ) (k3 : γ → Sem α) (a : β), t = ((nsGet D nm >>= k1) >>= k2) >>= k3 ∧ k1 (some v) = pure a ∧ (k2 a >>= k3) = fin v
/-- the promise: n parameters, a star, the keyword-only kw (dv if it lacks) -/
structure FnS (P : Program) (w : World) (K : PySem.W.Frag) (mg : Str → Option Value) (base : Heap) (k : Nat) (f : Addr) (n : Nat) (kw : Str) (dv : V) (sp : Sp) : Prop where
  run0 : ∀ (A : Around) (outer : List Env) (s : Shared) (H : Hp) (us : List Value) (vs : List V) (Q : VK) (E : XK), Room k A → Env0 P w K mg base A outer s H → Vals vs us →
    (∃ ws rest, vs = ws ++ rest ∧ ws.length = n ∧ rest.length ≤ sizeLine ∧ ∀ p, H p = none → sp (ws ++ [dv, .ref p]) (upd H p (.tup rest)) Q E) → codeAny (model P w) A (.call (.ref f) ⟨us, []⟩) (CR (L2.CX P w) outer P w H s Q E) s
  run1 : ∀ (A : Around) (outer : List Env) (s : Shared) (H : Hp) (us : List Value) (vs : List V) (u : Value) (v : V) (Q : VK) (E : XK), Room k A → Env0 P w K mg base A outer s H → Vals vs us → RelV v u →
    (∃ ws rest, vs = ws ++ rest ∧ ws.length = n ∧ rest.length ≤ sizeLine ∧ ∀ p, H p = none → sp (ws ++ [v, .ref p]) (upd H p (.tup rest)) Q E) → codeAny (model P w) A (.call (.ref f) ⟨us, [(kw, u)]⟩) (CR (L2.CX P w) outer P w H s Q E) s
section
variable {P : Program} {w : World} {K : PySem.W.Frag} {mg : Str → Option Value} {base : Heap}
theorem fnS_of {x q kw pv : Str} {st : Stmt} {f : Addr} {fd : FuncData} {dv : V} {N ps : List Str} {k : Nat} {sp : Sp} (F : FunD K x q (defArgs st) (defBody st) (defScope st) [] [(kw, dv)] f fd) (S : FnScope N (ps ++ [kw, pv]) (defScope st))
    (hb0 : ∀ (D : Addr) (doc pm : Value) (an : Option Addr) (cdv ct : Value) (us rest : List Value), us.length = ps.length → KwS D kw (bindArgs (PySem.W.fnOf x q (defArgs st) (defBody st) (defScope st) .none (.ref D) doc pm an cdv ct) ⟨us ++ rest, []⟩) fun v => newTuple rest >>= fun t => pure (ps.zip us ++ [(kw, v), (pv, t)]))
    (hb1 : ∀ (kV doc pm : Value) (an : Option Addr) (cdv ct : Value) (us rest : List Value) (v : Value), us.length = ps.length → bindArgs (PySem.W.fnOf x q (defArgs st) (defBody st) (defScope st) .none kV doc pm an cdv ct) ⟨us ++ rest, [(kw, v)]⟩ = (newTuple rest >>= fun t => pure (ps.zip us ++ [(kw, v), (pv, t)])))
    (body : ∀ (cdv : Value) (A : Around) (outer : List Env) (s : Shared) (H : Hp) (vs : List V) (Q : VK) (E : XK), Room k (A.deeper (envOfC q (defScope st) s.heap.objs.size f cdv)) → sp vs H Q E →
      ∃ t, PSs (cxOf (L2.CX P w) P w K mg base N q (defScope st) f cdv A outer s H E) (defBody st) t ∧ t { nx := fun _ H' => Q .non H', rt := Q } (start N vs) H) : FnS P w K mg base (k + 1) f ps.length kw dv sp := by
  obtain ⟨oc, od, dV, kV, doc, pm, an, cdv, ct, osl, rfl, lk, hcd, hD, hK⟩ := F.ex
  have core : ∀ (A : Around) (outer : List Env) (s : Shared) (H : Hp) (args : Args) (u1 u2 : List Value) (ws rest : List V) (u : Value) (v : V) (Q : VK) (E : XK), Room (k + 1) A → Env0 P w K mg base A outer s H → Vals ws u1 → Vals rest u2 → RelV v u → ws.length = ps.length → rest.length ≤ sizeLine →
      (∀ (A' : Around) (Ex : Value → Shared → Prop) (Q' : List (Str × Value) → Shared → Prop), wpAny (model P w) A' (newTuple u2 >>= fun t => pure (ps.zip u1 ++ [(kw, u), (pv, t)])) Q' Ex s → wpAny (model P w) A' (bindArgs (PySem.W.fnOf x q (defArgs st) (defBody st) (defScope st) dV kV doc pm an cdv ct) args) Q' Ex s) →
      (∀ p, H p = none → sp (ws ++ [v, .ref p]) (upd H p (.tup rest)) Q E) → codeAny (model P w) A (.call (.ref f) args) (CR (L2.CX P w) outer P w H s Q E) s := by
    intro A outer s H args u1 u2 ws rest u v Q E hr e0 r1 r2 rv hl hz hbind hq
    have hn : H s.heap.objs.size = none := e0.hok.fresh (Nat.le_refl _)
    have hl1 : u1.length = ps.length := by rw [← r1.length]; exact hl
    have hl2 : u2.length ≤ sizeLine := by rw [← r2.length]; exact hz
    refine StX.run_bnd lk hcd S hr e0 (G := fun xs H2 => ∃ p, H p = none ∧ xs = ws ++ [v, V.ref p] ∧ H2 = upd H p (.tup rest)) (fun A' Ex Q' h => hbind A' Ex Q' ?_) fun s2 H2 xs ⟨p, hp, ex, eH⟩ hr' => ?_
    · refine wpAny_bind (wpAny_newTuple (wpAny_pure ?_) hl2)
      have new : ObjOk P w (upd H s.heap.objs.size (.tup rest)) (s.heap.push ({ cls := .type "tuple", data := .seq u2.toArray } : Obj)) s.heap.objs.size (.tup rest) := ⟨hz, u2, r2, ⟨_, Heap.get?_push_size _ rfl, rfl, _, rfl⟩⟩
      have un := StX.un_laid (fs := frs outer) (s := s) (o := ({ cls := .type "tuple", data := .seq u2.toArray } : Obj)) (u := .tup rest) hn
      have z := h _ _ (ws ++ [v, V.ref s.heap.objs.size]) (u1 ++ [u, Value.ref s.heap.objs.size]) (StX.env0_laid e0 new) un rfl (fun e s' => StX.cxUp outer s H _ _ E e s' un (fun b o q => Heap.get?_push_of_some _ q) rfl) (r1.append (.cons rv (.cons rfl .nil)))
        (by rw [List.length_append, List.length_append, hl]; rfl) ⟨_, hn, rfl, rfl⟩
      rw [List.zip_append hl1.symm] at z
      exact z
    · subst ex eH
      exact body cdv A outer s2 _ _ Q E hr' (hq p hp)
  rcases hD with ⟨_, rfl⟩ | ⟨e, _⟩
  · refine ⟨fun A outer s H us vs Q E hr e0 r ⟨ws, rest, ev, hl, hz, hq⟩ => ?_, fun A outer s H us vs u v Q E hr e0 r rv ⟨ws, rest, ev, hl, hz, hq⟩ => ?_⟩
    · subst ev
      obtain ⟨u1, u2, rfl, r1, r2⟩ := StX.vals_split r
      rcases hK with e | ⟨D, rfl, hk⟩
      · cases e
      · obtain ⟨u, hu, rv⟩ := hk (kw, dv) List.mem_cons_self
        have KX : K.In s.heap := e0.mod.kin.keeps fun b o e => (e0.bs b o e).1
        refine core A outer s H _ u1 u2 ws rest u dv Q E hr e0 r1 r2 rv hl hz (fun A' Ex Q' h => ?_) hq
        obtain ⟨β, γ, k1, k2, k3, a, e1, e2, e3⟩ := hb0 D doc pm an cdv ct u1 u2 (by rw [← r1.length]; exact hl) u
        rw [e1, bind_assoc]
        refine wpAny_bind (wpAny_bind ((PySem.W.looks_nsIn (M := model P w) KX hu).here ?_))
        rw [e2]
        refine wpAny_pure ?_
        show wpAny _ _ (k2 a >>= k3) _ _ _
        rw [e3]
        exact h
    · subst ev
      obtain ⟨u1, u2, rfl, r1, r2⟩ := StX.vals_split r
      refine core A outer s H _ u1 u2 ws rest u v Q E hr e0 r1 r2 rv hl hz (fun A' Ex Q' h => ?_) hq
      rw [hb1 kV doc pm an cdv ct u1 u2 u (by rw [← r1.length]; exact hl)]
      exact h
  · exact absurd rfl e
end
/-! ### C(e, ..), C(e, .., kw = v) -/
def tMakeS (C : Addr) (n : Nat) (v : V) (sp : Sp) (E : XK) (vs : List V) (H1 : Hp) (Q : VK) : Prop := ∀ x dx, H1 x = none → H1 dx = none → dx ≠ x → ∃ ws rest, .ref x :: vs = ws ++ rest ∧ ws.length = n ∧ rest.length ≤ sizeLine ∧
  ∀ p, (upd (upd H1 dx (.own x)) x (.ins C dx [])) p = none → sp (ws ++ [v, .ref p]) (upd (upd (upd H1 dx (.own x)) x (.ins C dx [])) p (.tup rest)) (fun u H2 => u = .non ∧ Q (.ref x) H2) E
section
variable {X : Cx} {k j n : Nat} {f C : Addr} {kw : Str} {dv : V} {sp : Sp} {W : WX} {x : Str} {p pos kp : Pos} {e e2 : Expr} {es : List Expr} {t : TA} {te : TE}
theorem pe_mkS (M : Mk X.K C f) (F : FnS X.prog X.w X.K X.mg X.base k f n kw dv sp) (hr : Room j X.A) (hg : Gl X x) (hm : X.mg x = some (.ref C)) (tk : Takes X W) (ha : PA X (e :: es) t) (hk : k + 1 ≤ j := by decide) (hdb : (x == ("__debug__" : Str)) = false := by decide)
    (he : starEach (e :: es) X.env = (false, eval e X.env) :: starEach es X.env := by rfl) (hpl : (backTo pos (starEach es X.env)).any (·.1) = false := by rfl) : PE X (.Call (.Name x p) (e :: es) [] pos) (fun σ H Q => t σ H fun vs H1 => tMakeS C n dv sp (WE W σ) vs H1 Q) := by
  refine ⟨fun pins s σ H Q I h => ?_⟩
  refine wpAny_Call_Name_kw (ld_glob I hg hm ?_ hdb)
  refine PySem.W.callWith_K (h₀ := X.base) I.ok.mod.kin M.kp (thn (ha.run pos pins s σ H _ I h) fun us s1 ⟨vs, H1, I1, r, q⟩ => ⟨I1.kIn, ?_⟩) he hpl
  have hq := q (s1.heap.objs.size + 1) s1.heap.objs.size (I1.hok.fresh (Nat.le_succ _)) (I1.hok.fresh (Nat.le_refl _)) (Nat.ne_of_lt (Nat.lt_succ_self _))
  have I2 := Inv.made (C := C) I1
  have r2 : Vals (V.ref (s1.heap.objs.size + 1) :: vs) (Value.ref (s1.heap.objs.size + 1) :: us) := .cons rfl r
  have hr := hr.mono hk
  refine wpAny_call (make_map (f := f) I1.kIn M.makes M.init (beq_iff_eq.mp M.fn) (codeAny_mono (F.run0 _ X.stack _ _ (Value.ref (s1.heap.objs.size + 1) :: us) _ _ (WE W σ) (hr.make C us []) (I2.env0.make C us []) r2 hq) fun r s' hq' => ?_))
  cases r with
  | error e => exact passAt tk σ pins _ _ e s' I2 hq'
  | ok fl =>
    cases fl with
    | ret u =>
      obtain ⟨v, H', I3, rv, ev, q3⟩ := I2.after hq'
      subst ev
      exact ⟨rv, ⟨V.ref (s1.heap.objs.size + 1), H', I3, rfl, q3⟩⟩
    | next => exact False.elim hq'
    | brk => exact False.elim hq'
    | cont => exact False.elim hq'
theorem pe_mkSK (M : Mk X.K C f) (F : FnS X.prog X.w X.K X.mg X.base k f n kw dv sp) (hr : Room j X.A) (hg : Gl X x) (hm : X.mg x = some (.ref C)) (tk : Takes X W) (ha : PA X (e :: es) t) (he2 : PE X e2 te) (hk : k + 1 ≤ j := by decide) (hdb : (x == ("__debug__" : Str)) = false := by decide)
    (he : starEach (e :: es) X.env = (false, eval e X.env) :: starEach es X.env := by rfl) (hpl : ((backTo pos (starEach (e :: es) X.env)).any (·.1) || (backToKw pos (keywordEach [⟨some kw, e2, kp⟩] X.env)).any (·.1.isNone)) = false := by rfl)
    (hall : (backToKw pos (keywordEach [⟨some kw, e2, kp⟩] X.env)).all (·.1.isSome) = true := by rfl) (hks : (backToKw pos (keywordEach [⟨some kw, e2, kp⟩] X.env)).filterMap (·.1) = [kw] := by rfl) :
    PE X (.Call (.Name x p) (e :: es) [⟨some kw, e2, kp⟩] pos) (fun σ H Q => t σ H fun vs H1 => te σ H1 fun v H2 => tMakeS C n v sp (WE W σ) vs H2 Q) := by
  refine ⟨fun pins s σ H Q I h => ?_⟩
  refine wpAny_Call_Name_kw (ld_glob I hg hm ?_ hdb)
  refine PySem.W.callWith_KW (h₀ := X.base) I.ok.mod.kin M.kp hall (thn (ha.run pos pins s σ H _ I h) fun us s1 ⟨vs, H1, I1, r, q⟩ => ?_) hpl he
  refine thn ((pk_cons (nm := some kw) (kpos := kp) he2 pk_nil).run pos pins s1 σ H1 (fun zs H2 => match zs with
    | [v] => tMakeS C n v sp (WE W σ) vs H2 Q
    | _ => False) I1 q) fun ws s2 ⟨zs, H2, I2, rz, q2⟩ => ⟨I2.kIn, ?_⟩
  rw [hks]
  obtain ⟨v, rfl⟩ : ∃ v, zs = [v] := by
    match zs, q2 with
    | [], q2 => exact q2.elim
    | _ :: _ :: _, q2 => exact q2.elim
    | [v], _ => exact ⟨v, rfl⟩
  have q2 : tMakeS C n v sp (WE W σ) vs H2 Q := q2
  obtain ⟨u, rfl, rv⟩ := vals1 rz
  have hq := q2 (s2.heap.objs.size + 1) s2.heap.objs.size (I2.hok.fresh (Nat.le_succ _)) (I2.hok.fresh (Nat.le_refl _)) (Nat.ne_of_lt (Nat.lt_succ_self _))
  have I3 := Inv.made (C := C) I2
  have r2 : Vals (V.ref (s2.heap.objs.size + 1) :: vs) (Value.ref (s2.heap.objs.size + 1) :: us) := .cons rfl r
  have hr := hr.mono hk
  show wpAny _ _ (call (.ref C) us [(kw, u)]) _ _ _
  refine wpAny_call (make_map (f := f) I2.kIn M.makes M.init (beq_iff_eq.mp M.fn) (codeAny_mono (F.run1 _ X.stack _ _ (Value.ref (s2.heap.objs.size + 1) :: us) _ u v _ (WE W σ) (hr.make C us [(kw, u)]) (I3.env0.make C us [(kw, u)]) r2 rv hq) fun r s' hq' => ?_))
  cases r with
  | error e => exact passAt tk σ pins _ _ e s' I3 hq'
  | ok fl =>
    cases fl with
    | ret u =>
      obtain ⟨v, H', I4, rv, ev, q3⟩ := I3.after hq'
      subst ev
      exact ⟨rv, ⟨V.ref (s2.heap.objs.size + 1), H', I4, rfl, q3⟩⟩
    | next => exact False.elim hq'
    | brk => exact False.elim hq'
    | cont => exact False.elim hq'
end
end Sy
namespace Sy
open PySem PySem.Spec PyProof.Rows L2
theorem stp_le {w : List Nat} {i : Nat} {fd : List (List Nat)} (h : ∀ j, (fd.getD j []).length ≤ j) : ∀ n j, ((stp w i fd n).getD j []).length ≤ j
  | 0, j => h j
  | n + 1, j => by
    have q := stp_le (w := w) (i := i) h n
    rw [stp_succ]
    by_cases c : kd w i n = j
    · rw [c]
      by_cases d : j < (stp w i fd n).length
      · rw [getD_set_eq _ _ _ d, List.length_append]
        have := q i
        have := kd_gt (w := w) (i := i) (k := n)
        show _ + 1 ≤ _
        omega
      · rw [List.getD_eq_getElem?_getD, List.getElem?_eq_none (by rw [List.length_set]; omega)]
        exact Nat.zero_le _
    · rw [getD_set_ne _ _ _ c]
      exact q j
theorem pth_le (w : List Nat) : ∀ n j, ((pth w n).getD j []).length ≤ j
  | 0, j => by
    show ((List.replicate w.length []).getD j []).length ≤ j
    rw [List.getD_eq_getElem?_getD, List.getElem?_replicate]
    split <;> exact Nat.zero_le _
  | n + 1, j => by
    rw [pth_succ]
    exact stp_le (pth_le w n) _ j
def dPaths (w : List Nat) : PyData := .tuple ((pths w).map DN)
section
variable {K : PySem.W.Frag} {H : Hp} {a b : Addr} {xs ys : List V} {Q : VK}
/-- a tuple's slice, whether it is the whole or not -/
theorem sl_any {lo hi : Option Int} {zs : List V} (hz : cutV xs lo hi = zs) (h : SqT K H a xs) (q : ∀ p H', Same H H' → SqT K H' p zs → Q (.ref p) H') : rSlA K (.ref a) lo hi H Q := by
  subst hz
  refine ⟨a, xs, rfl, h, fun c => q _ _ (Same.refl H) ?_, fun _ p hp => q _ _ (up_same hp) (SqT.of upd_same)⟩
  unfold cutV
  rw [c.1, c.2, List.drop_zero, Nat.sub_zero, List.take_length]
  exact h
theorem cat_any (h : SqT K H a xs) (g : SqT K H b ys) (hs : xs.length + ys.length ≤ 1000000) (q : ∀ p H', Same H H' → SqT K H' p (xs ++ ys) → Q (.ref p) H') : rCatA K (.ref a) (.ref b) H Q := by
  refine ⟨a, b, xs, ys, rfl, rfl, h, g, by rw [sizeLine_eq]; omega, fun c => q _ _ (Same.refl H) (by rw [c]; exact g), fun _ c => q _ _ (Same.refl H) (by rw [c, List.append_nil]; exact h), fun _ _ p hp => q _ _ (up_same hp) (SqT.of upd_same)⟩
theorem cut_take {i : Nat} (h : i ≤ xs.length) : cutV xs none (some (i : Int)) = xs.take i := by
  unfold cutV HT.sIx
  simp only [List.drop_zero, Nat.sub_zero]
  rw [if_neg (by omega), show min (i : Int).toNat xs.length = i by omega]
theorem cut_drop {i : Nat} (h : i ≤ xs.length) : cutV xs (some (i : Int)) none = xs.drop i := by
  unfold cutV HT.sIx
  simp only []
  rw [if_neg (by omega), show min (i : Int).toNat xs.length = i by omega, List.take_of_length_le]
  rw [List.length_drop]
  exact Nat.le_refl _
theorem cut_mid {i j : Nat} (h : i ≤ j) (g : j ≤ xs.length) : cutV xs (some (i : Int)) (some (j : Int)) = (xs.drop i).take (j - i) := by
  unfold cutV HT.sIx
  simp only []
  rw [if_neg (by omega), if_neg (by omega), show min (i : Int).toNat xs.length = i by omega, show min (j : Int).toNat xs.length = j by omega]
end
theorem rk_isK (x : Str) : ∀ (n : Nat) (rows : List Sy.Row), isK rows x = true → ∃ m, rk n rows x = some m
  | n, [], h => by simp [isK] at h
  | n, r :: rs, h => by
    rw [isK, lookup_cons] at h
    rw [rk]
    by_cases c : r.1 = x
    · exact ⟨n, by rw [if_pos c]⟩
    · rw [if_neg c] at h ⊢
      exact rk_isK x (n + 1) rs h
def rkD (rows : List Sy.Row) (x : Str) : Nat := (rk 0 rows x).getD rows.length
section
variable {P : Program} {w : World} {K : PySem.W.Frag} {mg : Str → Option Value} {base : Heap}
/-! row_paths -/
def spPathsR (K : PySem.W.Frag) : Sp := fun vs H Q _ => ∃ a r rows l, vs = [.ref a, .ref r] ∧ BedAt K H a rows ∧ SqT K H r (l.map V.str) ∧ Fo 1 (wt rows l) ∧ l.length ≤ 2000 ∧ ∀ H' v, Same H H' → Im K H' v (dPaths (wt rows l)) → Q v H'
abbrev N_pathsR : List Str := ["bed", "row", "found", "index", "starts", "branch", "start", "_"]
theorem sc_pathsR : FnScope N_pathsR ["bed", "row"] (defScope (top 24)) := ⟨rfl, rfl, rfl, by decide +kernel, rfl, by decide +kernel, by decide +kernel⟩
theorem k_pathsR (T : Txt K mg) (F : DF K mg "row_paths" 24) (c_kids : Cal P w K mg base 3 "kids" ["bed", "row"] (spKids K)) : Cal P w K mg base 4 "row_paths" ["bed", "row"] (spPathsR K) := by
  refine cal_of F.1 F.2 sc_pathsR (fun _ _ _ _ _ _ us e => match us, e with | [_, _], _ => rfl) (fun vs H Q E s => by obtain ⟨_, _, _, _, rfl, _⟩ := s; rfl) ?_
  intro cdv A outer s H vs Q E hr h
  obtain ⟨a, r, rows, l, rfl, hb, hR, hF, hsz, hq⟩ := h
  have hu := hu_of hr
  have sc := sc_pathsR
  have hwl := wt_len rows l
  refine ⟨_, (pss_cons (ps_setLc (i := 2) (own := [("_", 7)]) (g := gName 7) rfl sc.nd rfl rfl (sw_true rfl rfl rfl (by decide +kernel)) (pi_tup (pv 1)) (blkOk_by (N := N_pathsR) (sc := defScope (top 24)) (by decide +kernel)) (fun _ _ _ _ _ => (pg_name (i := 7) sc.nd rfl (Or.inl rfl))) (fun _ _ _ _ _ => pts_nil) (fun _ _ _ _ _ => (pe_tup pa_nil)))
      (pss_cons (ps_for (passes_of rfl) rfl (pi_enumT (by rfl) T.enumerate (pa_cons (pe_cal c_kids hr (pa_cons (pv 0) (pa_cons (pv 1) pa_nil))) pa_nil)) (pg_tup rfl (pgs_cons (pg_name (i := 3) sc.nd rfl (Or.inl rfl)) (pgs_cons (pg_name (i := 4) sc.nd rfl (Or.inl rfl)) pgs_nil)))
        (pss_one (ps_for (passes_of rfl) rfl (pi_enumT (by rfl) T.enumerate (pa_cons (pv 4) pa_nil)) (pg_tup rfl (pgs_cons (pg_name (i := 5) sc.nd rfl (Or.inl rfl)) (pgs_cons (pg_name (i := 6) sc.nd rfl (Or.inl rfl)) pgs_nil)))
          (pss_one (ps_asg (pe_tup (StX.pa_star (pe_ix ix_list (pv 2) (pv 3) (fun _ _ => rfl)) (pa_cons (pv 5) pa_nil))) (pg_sub (pv 2) (pv 6) set_list))))))
      (pss_one (ps_ret (pe_callTy call_tuple_of (by rfl) T.tuple (by decide +kernel) (pa_cons (pv 2) pa_nil)))))), ?_⟩
  refine ⟨_, rfl, r, rfl, ⟨_, hR⟩, fun D hD => lc_map (si := 7) (Hs.start H) hD hR (by rw [List.length_map]; omega) (fun i B acc => ImA K B acc (List.replicate i (DN []))) .nil ?_ ?_⟩
  · intro i x B' acc H' hx s im hh R hR
    refine ⟨by decide, fun p hp => ?_⟩
    refine hR _ _ (upd B' p (.tup [])) (up_same (hh.sub.free hp)) (hh.tup hp) ?_
    rw [List.replicate_succ']
    exact (im.mono (Stay.of (up_same (hh.sub.free hp)))).snoc (Im.nats (l := []) (SqT.of upd_same))
  intro B0 acc H0 s0 im0 h0
  rw [List.length_map] at im0
  refine ⟨_, rfl, _, rfl, a, r, rows, l, rfl, hb.mono (Stay.of (s0.trans h0.sub)), Same.sqt (s0.trans h0.sub) hR, hF, hsz, fun H1 v s1 hv => ?_⟩
  obtain ⟨h1, k1⟩ : Same B0 (cut [(D, .lst acc)] H1) ∧ Hs (cut [(D, .lst acc)] H1) [(D, .lst acc)] H1 := h0.after s1
  obtain ⟨ka, ks, rfl, kt, ki⟩ := hv.tupI
  have kin := stay_cut h0 (AllL.cons AllL.nil) s1
  have kt := kin.sqt kt
  have ki := ki.mono kin
  have kl : ks.length = l.length := by rw [ki.len, List.length_map, List.length_range, hwl]
  generalize hB1 : cut [(D, .lst acc)] H1 = B1 at *
  have im1 := im0.mono (Stay.of h1)
  refine ⟨ka, ks, rfl, Same.sqt k1.sub kt, for_enumT (K := K)
    (fun i σ H' => ∃ t3 t4 t5 t6 t7 B vs, σ = [some (.ref a), some (.ref r), some (.ref D), t3, t4, t5, t6, t7] ∧ Same B1 B ∧ Hs B [(D, .lst vs)] H' ∧ ImA K B vs ((pth (wt rows l) i).map DN))
    ⟨none, none, none, none, none, B1, acc, rfl, Same.refl _, k1, by
      show ImA K B1 acc ((List.replicate (wt rows l).length []).map DN)
      rw [List.map_replicate, hwl]
      exact im1⟩ (fun i σ H' _ ⟨_, _, _, _, _, B, _, _, s, h, _⟩ => Same.sqt (s.trans h.sub) kt) ?_ ?_⟩
  · rintro i x σ H' Tt hx ⟨t3, t4, t5, t6, t7, B, vs, rfl, sB, hh, im⟩ hT
    have hi : i < l.length := by rw [← kl]; exact (List.getElem?_eq_some_iff.mp hx).1
    have hiw : i < (wt rows l).length := by omega
    obtain ⟨z, e1, iz⟩ := ki.get (i := i) (d := DN (kidsN (wt rows l) i)) (by rw [List.getElem?_map, List.getElem?_range hiw]; rfl)
    rw [hx] at e1
    cases e1
    obtain ⟨sa, rfl, st⟩ := iz.natsI
    have hh := hh.lay (o := .tup [.int (i : Nat), .ref sa]) hT
    refine ⟨_, rfl, sa, _, rfl, Same.sqt (sB.trans hh.sub) st, for_enumT (K := K)
      (fun t σ H' => ∃ t5 t6 t7 B vs, σ = [some (.ref a), some (.ref r), some (.ref D), some (.int (i : Nat)), some (.ref sa), t5, t6, t7] ∧ Same B1 B ∧ Hs B [(D, .lst vs)] H' ∧ ImA K B vs ((stp (wt rows l) i (pth (wt rows l) i) t).map DN))
      ⟨_, _, _, B, vs, rfl, sB, hh, im⟩ (fun i σ H' _ ⟨_, _, _, B, _, _, s, h, _⟩ => Same.sqt (s.trans h.sub) st) ?_ ?_⟩
    · rintro t y σ H2 T2 hy ⟨u5, u6, u7, B2, ws, rfl, sB2, h2, i2⟩ hT2
      obtain ⟨n, hn, rfl⟩ := map_at hy
      obtain ⟨t', ht', rfl⟩ := map_at hn
      have ht : t < aw (wt rows l) i := by
        have := (List.getElem?_eq_some_iff.mp ht').1
        rwa [List.length_range] at this
      rw [List.getElem?_range ht] at ht'
      obtain rfl := Option.some.inj ht'
      have hk := hF.kd_lt hiw ht
      have h2 := h2.lay (o := .tup [.int (t : Nat), .int (kd (wt rows l) i t : Nat)]) hT2
      have wl : ws.length = l.length := by rw [i2.len, List.length_map, stp_len, pth_len, hwl]
      have fd : (stp (wt rows l) i (pth (wt rows l) i) t)[i]? = some ((stp (wt rows l) i (pth (wt rows l) i) t).getD i []) := by
        have : i < (stp (wt rows l) i (pth (wt rows l) i) t).length := by rw [stp_len, pth_len]; exact hiw
        rw [List.getD_eq_getElem?_getD, List.getElem?_eq_getElem this]
        rfl
      obtain ⟨v, ev, iv⟩ := i2.get (i := i) (d := DN ((stp (wt rows l) i (pth (wt rows l) i) t).getD i [])) (by rw [List.getElem?_map, fd]; rfl)
      obtain ⟨pa, rfl, pt⟩ := iv.natsI
      refine ⟨_, rfl, _, rfl, D, _, _, _, rfl, rfl, SqL.of h2.r0, atI_nat ev, pa, _, rfl, .inl (Same.sqt h2.sub pt), _, rfl, ?_, fun p hp => ?_⟩
      · have := stp_le (w := wt rows l) (i := i) (pth_le (wt rows l) i) t i
        rw [List.length_append, vN, List.length_map, sizeLine_eq]
        show _ + 1 ≤ _
        omega
      · have h3 := h2.tup (o := .tup (vN ((stp (wt rows l) i (pth (wt rows l) i) t).getD i []) ++ [.int (t : Nat)])) hp
        have s3 : Same B2 (upd B2 p (.tup (vN ((stp (wt rows l) i (pth (wt rows l) i) t).getD i []) ++ [.int (t : Nat)]))) := up_same (h2.sub.free hp)
        refine ⟨_, rfl, _, rfl, D, _, _, kd (wt rows l) i t, rfl, rfl, h3.r0, ixN_nat (by omega), _, _, _, _, _, rfl, sB2.trans s3, h3.w0, ?_⟩
        rw [stp_succ, List.map_set]
        refine (i2.mono (Stay.of s3)).set (Im.nats (SqT.of ?_))
        rw [upd_same, vN, vN, List.map_append]
        rfl
    · rintro σ H2 ⟨u5, u6, u7, B2, ws, rfl, sB2, h2, i2⟩
      rw [vN, List.length_map, kidsN, List.length_map, List.length_range, ← pth_succ] at i2
      exact ⟨_, _, _, _, _, B2, ws, rfl, sB2, h2, i2⟩
  · rintro σ H' ⟨t3, t4, t5, t6, t7, B, vs, rfl, sB, hh, im⟩
    refine ⟨_, rfl, D, _, rfl, .inl ⟨SqL.of hh.r0, fun q hn => ?_⟩⟩
    rw [kl, ← hwl] at im
    have sq := hh.sub.trans (up_same (o := .tup vs) hn)
    exact hq _ _ (((s0.trans h1).trans sB).trans sq) (.tup (SqT.of upd_same) (im.mono (Stay.of sq)))
/-! swapped -/
def spSwap (K : PySem.W.Frag) : Sp := fun vs H Q _ => ∃ (a r : Addr) (i : Nat) (o : Addr) (rows : List Sy.Row) (l m : List Str), vs = [.ref a, .ref r, .int (i : Nat), .ref o] ∧ BedAt K H a rows ∧ SqT K H r (l.map V.str) ∧ SqT K H o (m.map V.str) ∧ Fo 1 (wt rows l) ∧ i < l.length ∧ l.length ≤ 2000 ∧ m.length ≤ 2000 ∧
  ∀ H' p, Same H H' → SqT K H' p ((l.take i ++ m ++ l.drop (en (wt rows l) i)).map V.str) → Q (.ref p) H'
abbrev N_swap : List Str := ["bed", "row", "place", "other"]
theorem sc_swap : FnScope N_swap N_swap (defScope (top 25)) := ⟨rfl, rfl, rfl, by decide +kernel, rfl, by decide +kernel, by decide +kernel⟩
theorem k_swap (T : Txt K mg) (F : DF K mg "swapped" 25) (c_stop : Cal P w K mg base 2 "span_stop" ["bed", "row", "place"] (spStop K)) : Cal P w K mg base 3 "swapped" N_swap (spSwap K) := by
  refine cal_of F.1 F.2 sc_swap (fun _ _ _ _ _ _ us e => match us, e with | [_, _, _, _], _ => rfl) (fun vs H Q E s => by obtain ⟨_, _, _, _, _, _, _, rfl, _⟩ := s; rfl) ?_
  intro cdv A outer s H vs Q E hr h
  obtain ⟨a, r, i, o, rows, l, m, rfl, hb, hR, hO, hF, hi, hl, hm, hq⟩ := h
  have hu := hu_of hr
  have sc := sc_swap
  have hwl := wt_len rows l
  have he := hF.en_le (i := i) (by omega)
  refine ⟨_, (pss_one (ps_ret (pe_op op_catA (pe_op op_catA (pe_slice sl_tupA (pv 1) po_none (po_some (pv 2))) (pv 3)) (pe_slice sl_tupA (pv 1) (po_some (pe_cal c_stop hr (pa_cons (pv 0) (pa_cons (pv 1) (pa_cons (pv 2) pa_nil))))) po_none)))), ?_⟩
  refine ⟨_, rfl, _, rfl, _, rfl, sl_any (cut_take (by rw [List.length_map]; omega)) hR fun p1 H1 s1 t1 => ?_⟩
  refine ⟨_, rfl, cat_any t1 (Same.sqt s1 hO) (by rw [List.length_take, List.length_map, List.length_map]; omega) fun p2 H2 s2 t2 => ?_⟩
  have s12 := s1.trans s2
  refine ⟨_, rfl, _, rfl, _, rfl, _, rfl, a, r, i, rows, l, rfl, hb.mono (Stay.of s12), Same.sqt s12 hR, hF, hi, _, rfl, ?_⟩
  dsimp only [tNoPart]
  refine sl_any (cut_drop (by rw [List.length_map]; omega)) (Same.sqt s12 hR) fun p3 H3 s3 t3 => ?_
  refine cat_any (Same.sqt s3 t2) t3 (by rw [List.length_append, List.length_take, List.length_map, List.length_map, List.length_drop, List.length_map]; omega) fun p4 H4 s4 t4 => hq _ _ ((s12.trans s3).trans s4) ?_
  rw [List.map_append, List.map_append, List.map_take, List.map_drop]
  exact t4
end
end Sy
/-! need_same of any beds, heads_of, Trims -/
namespace Sy
open PySem PySem.Spec PyProof.Rows L2 LamX NdefX
/-- f(e, .., *xs) -/
theorem pe_calRS {X : Cx} {k j : Nat} {x : Str} {sp : Sp} {p pos : Pos} {e : Expr} {es : List Expr} {t : TA} {E : XK} (c : CalR X.prog X.w X.K X.mg X.base j x sp) (hr : Room k X.A) (tk : Takes X (fun cls d _ H => E cls d H)) (ha : PA X (e :: es) t) (hk : j ≤ k := by decide) (hg : Gl X x := by rfl) (hdb : (x == ("__debug__" : Str)) = false := by decide)
    (he : starEach (e :: es) X.env = (false, eval e X.env) :: starEach es X.env := by rfl) (hst : (backTo pos (starEach es X.env)).any (·.1) = true := by rfl) : PE X (.Call (.Name x p) (e :: es) [] pos) (fun σ H Q => t σ H fun vs H1 => sp vs H1 Q E) := by
  constructor
  intro pins s σ H Q I h
  refine wpAny_Call_Name_kw (ld_glob I hg c.at_ ?_ hdb)
  refine PySem.W.callWith_S2 (h₀ := X.base) I.ok.mod.kin c.kp (thn (ha.run pos pins s σ H _ I h) fun us s1 ⟨vs, H1, I1, r, q⟩ => ⟨I1.kIn, ?_⟩) he hst
  exact wpAny_call (run_fnR c.fn (hr.mono hk) (fun pins σ H s e s' I h => passAt tk σ pins H s e s' I h) I1 r q)
section
variable {P : Program} {w : World} {K : PySem.W.Frag} {mg : Str → Option Value} {base : Heap}
/-! need_same -/
def BdO (K : PySem.W.Frag) (H : Hp) (b : Addr) (rows : List Sy.Row) : Prop := BedAt K H b rows ∧ ∀ r ∈ rows, PyData.strOk r.1 = true
def spNeedN (K : PySem.W.Frag) : Sp := fun vs H Q E => ∃ (p b0 : Addr) (bs : List Addr) (rows : List Sy.Row) (rs : List (List Sy.Row)), vs = [.ref p] ∧ SqT K H p (.ref b0 :: bs.map V.ref) ∧ BdO K H b0 rows ∧ Paired (BdO K H) bs rs ∧ ((∀ r ∈ rs, r = rows) → Q .non H) ∧ ((∃ r ∈ rs, r ≠ rows) → RaO K H E)
theorem r_needN (T : Txt K mg) (OB : ErrB P K mg "OtherBed" "OtherBed.__init__" (clb 8 0) []) (F : DF K mg "need_same" 36) (c_same : CalM P w K mg base 1 "same" ["self", "other"] (spSameB K)) : CalR P w K mg base 3 "need_same" (spStar 0 (spNeedN K)) := by
  obtain ⟨⟨fd, F⟩, at_⟩ := F
  refine ⟨fnR_of (ps := []) F sc_need (fun kV doc pm an cdv ct => bind_star0 (B := fun l => bindArgs (PySem.W.fnOf "need_same" "need_same" (defArgs (top 36)) (defBody (top 36)) (defScope (top 36)) .none kV doc pm an cdv ct) ⟨l, []⟩) rfl (fun _ _ => rfl)) ?_, at_, F.kp⟩
  intro cdv A outer s H vs Q E hr h
  obtain ⟨p, b0, bs, rows, rs, rfl, hp, hb, hbs, hq, hE⟩ := h
  obtain ⟨mS, fS, FS, BS⟩ := c_same
  have sc := sc_need
  obtain ⟨dx, dA, tR, tK, dR, ps, b1, b2⟩ := id hb.1.ex
  refine ⟨_, (pss_one (ps_for (passes_of rfl) rfl (pi_tup (pv 0)) (pg_name (i := 1) sc.nd rfl (Or.inl rfl))
        (pss_one (ps_if (pt_not (pt_val (pe_meth (pe_ix ix_tup (pv 0) pe_int (fun _ _ => rfl)) T.bed.cl mS FS (hr.mono (by decide)) BS .nil (E := E0) (fun pins σ H s e s' I h => passL pins σ H s e s' I h) (pa_cons (pv 1) pa_nil))))
          (pss_one (ps_raise rfl (takes_of rfl rfl rfl rfl) (mk_ob OB hr rfl pass0)))
          pss_nil)))), ?_⟩
  have all : Paired (BdO K H) (b0 :: bs) (rows :: rs) := .cons hb hbs
  have hlen := paired_len all
  refine ⟨_, rfl, p, rfl, ⟨_, hp⟩, for_tup (K := K) (a := p) (xs := .ref b0 :: bs.map V.ref) (fun i σ H' => ∃ t1, σ = [some (.ref p), t1] ∧ H' = H ∧ ∀ r ∈ (rows :: rs).take i, r = rows) ⟨none, rfl, rfl, fun r z => by simp at z⟩ (fun _ _ _ _ ⟨_, _, e, _⟩ => by rw [e]; exact hp) ?_ ?_⟩
  · rintro i v σ H' hv ⟨t1, rfl, eH, hall⟩
    rw [eH]
    have hv' : ((b0 :: bs).map V.ref)[i]? = some v := hv
    obtain ⟨b, hbi, rfl⟩ := map_at hv'
    have hi := (List.getElem?_eq_some_iff.mp hbi).1
    obtain ⟨r, hri⟩ : ∃ r, (rows :: rs)[i]? = some r := ⟨_, List.getElem?_eq_getElem (by omega)⟩
    obtain ⟨b', hb', bd⟩ := paired_at all hri
    rw [hbi] at hb'
    cases hb'
    refine ⟨_, rfl, p, _, _, .ref b0, rfl, rfl, hp, atI_nat (j := 0) rfl, b0, dx, _, rfl, b1, rfl, _, rfl, b0, b, rows, r, rfl, hb.1, bd.1, hb.2, bd.2, _, rfl, ?_⟩
    by_cases e : rows = r
    · rw [decide_eq_true e]
      refine iteF ⟨_, rfl, rfl, fun z hz => ?_⟩
      rw [List.take_succ, hri] at hz
      rcases List.mem_append.mp hz with hz | hz
      · exact hall z hz
      · rw [List.mem_singleton.mp hz, e]
    · rw [decide_eq_false e]
      have hm : r ∈ rs := by
        rcases List.mem_cons.mp (List.mem_of_getElem? hri) with z | z
        · exact absurd z.symm e
        · exact z
      refine iteT fun x hx => ⟨x, rfl, upd_same, rfl, upd_same, hE ⟨r, hm, fun z => e z.symm⟩ _ fun u o z => ?_⟩
      have hu : u ≠ x := ne_of_none z hx
      rw [del_ne hu, upd_ne hu]
      exact z
  · rintro σ H' ⟨t1, rfl, eH, hall⟩
    rw [eH]
    refine hq fun r hr' => hall r ?_
    rw [List.take_of_length_le (by simp only [List.length_cons, List.length_map] at hlen ⊢; omega)]
    exact List.mem_cons_of_mem _ hr'
/-! heads_of -/
/-- the places of x, from n on -/
def hix : Nat → List Str → Str → List Nat
  | _, [], _ => []
  | n, y :: l, x => if y = x then n :: hix (n + 1) l x else hix (n + 1) l x
theorem hix_snoc (y x : Str) : ∀ (l : List Str) (n : Nat), hix n (l ++ [y]) x = if y = x then hix n l x ++ [n + l.length] else hix n l x
  | [], n => by
    show (if y = x then [n] else []) = _
    split <;> rfl
  | z :: l, n => by
    show (if z = x then n :: hix (n + 1) (l ++ [y]) x else hix (n + 1) (l ++ [y]) x) = if y = x then (if z = x then n :: hix (n + 1) l x else hix (n + 1) l x) ++ [n + (z :: l).length] else if z = x then n :: hix (n + 1) l x else hix (n + 1) l x
    rw [hix_snoc y x l (n + 1), List.length_cons, show n + 1 + l.length = n + (l.length + 1) by omega]
    by_cases h1 : z = x <;> by_cases h2 : y = x <;> simp [h1, h2]
theorem hix_len (x : Str) : ∀ (l : List Str) (n : Nat), (hix n l x).length ≤ l.length
  | [], _ => Nat.le_refl _
  | y :: l, n => by
    have := hix_len x l (n + 1)
    show (if y = x then n :: hix (n + 1) l x else hix (n + 1) l x).length ≤ l.length + 1
    split
    · rw [List.length_cons]; omega
    · omega
/-- the dict of heads -/
structure HdK (K : PySem.W.Frag) (B : Hp) (kvs : List (Key × V)) (hs : List Str) : Prop where
  z : ∀ i : Int, valV kvs (Sum.inl i : Key) = none
  no : ∀ x : Str, hix 0 hs x = [] → valV kvs (Sum.inr x : Key) = none
  yes : ∀ x : Str, hix 0 hs x ≠ [] → ∃ p, valV kvs (Sum.inr x : Key) = some (.ref p) ∧ SqT K B p (vN (hix 0 hs x))
  le : kvs.length ≤ hs.length
theorem HdK.stayT {B B' : Hp} {kvs : List (Key × V)} {hs : List Str} (h : HdK K B kvs hs) (s : StayT B B') : HdK K B' kvs hs :=
  ⟨h.z, h.no, fun x e => by obtain ⟨p, e1, e2⟩ := h.yes x e; exact ⟨p, e1, s.sqt e2⟩, h.le⟩
abbrev Trm := List Str × List Key
def hds (ts : List Trm) : List Str := ts.map fun t => t.1.headD ""
/-- members of a set of trims -/
def TmAt (K : PySem.W.Frag) (rows : List Sy.Row) (H : Hp) (x : Addr) (t : Trm) : Prop := TrmAt K H x rows t.1 t.2
theorem putK_len (k : Key) (v : V) (kvs : List (Key × V)) : (putK kvs k v).length ≤ kvs.length + 1 := by
  by_cases c : valV kvs k = none
  · rw [putK_new _ c, List.length_append]
    exact Nat.le_refl _
  · unfold putK
    split
    · rw [List.length_map]
      omega
    · rw [List.length_append]
      exact Nat.le_refl _
/-- own things that are no tuples -/
def NTu (L : List (Addr × HO)) : Prop := ∀ q ∈ L, (∀ xs, q.2 ≠ .tup xs) ∧ ∀ o u, q.2 ≠ .frz o u
theorem NTu.nil : NTu [] := fun _ h => nomatch h
theorem NTu.lst {a : Addr} {xs : List V} {L : List (Addr × HO)} (h : NTu L) : NTu ((a, .lst xs) :: L) := fun q hq => by
  rcases List.mem_cons.mp hq with rfl | hq
  · exact ⟨fun xs z => (nomatch z), fun o u z => (nomatch z)⟩
  · exact h q hq
theorem NTu.dK {a : Addr} {xs : List (Key × V)} {L : List (Addr × HO)} (h : NTu L) : NTu ((a, .dK xs) :: L) := fun q hq => by
  rcases List.mem_cons.mp hq with rfl | hq
  · exact ⟨fun xs z => (nomatch z), fun o u z => (nomatch z)⟩
  · exact h q hq
theorem sqt_cut {B H : Hp} {L : List (Addr × HO)} {p : Addr} {xs : List V} (h : Hs B L H) (nt : NTu L) (t : SqT K H p xs) : SqT K (cut L H) p xs := by
  have out : ∀ w, H p = some w → ((∃ xs, w = .tup xs) ∨ ∃ o u, w = .frz o u) → p ∉ L.map (·.1) := fun w e c hm => by
    obtain ⟨q, hq, z⟩ := List.mem_map.mp hm
    have := h.own q hq
    rw [z, e] at this
    rcases c with ⟨xs, rfl⟩ | ⟨o, u, rfl⟩
    · exact (nt q hq).1 _ (Option.some.inj this).symm
    · exact (nt q hq).2 _ _ (Option.some.inj this).symm
  rcases t with (t | ⟨o, t⟩) | t
  · exact .inl (.inl (by rw [cut_at (out _ t (.inl ⟨_, rfl⟩))]; exact t))
  · exact .inl (.inr ⟨o, by rw [cut_at (out _ t (.inr ⟨_, _, rfl⟩))]; exact t⟩)
  · exact .inr t
def spHd (K : PySem.W.Frag) : Sp := fun vs H Q _ => ∃ (m : Addr) (as : List Addr) (rows : List Sy.Row) (ts : List Trm), vs = [.ref m] ∧ SqT K H m (as.map V.ref) ∧ Paired (TmAt K rows H) as ts ∧ ts.length ≤ 100 ∧ (∀ t ∈ ts, t.1 ≠ []) ∧
  ∀ H' d kvs, Same H H' → H d = none → H' d = some (.dK kvs) → HdK K H' kvs (hds ts) → Q (.ref d) H'
abbrev N_hd : List Str := ["members", "heads", "index", "kind"]
theorem sc_hd : FnScope N_hd ["members"] (defScope (top 42)) := ⟨rfl, rfl, rfl, by decide +kernel, rfl, by decide +kernel, by decide +kernel⟩
theorem k_hd (T : Txt K mg) (TT : TxtT K) (F : DF K mg "heads_of" 42) : Cal P w K mg base 1 "heads_of" ["members"] (spHd K) := by
  refine cal_of F.1 F.2 sc_hd (fun _ _ _ _ _ _ us e => match us, e with | [_], _ => rfl) (fun vs H Q E s => by obtain ⟨_, _, _, _, rfl, _⟩ := s; rfl) ?_
  intro cdv A outer s H vs Q E hr h
  obtain ⟨m, as, rows, ts, rfl, hm, hp, hl, hne, hq⟩ := h
  have hu := hu_of hr
  have sc := sc_hd
  refine ⟨_, (pss_cons (ps_set (i := 1) sc.nd rfl (Or.inl rfl) pe_dnewK)
      (pss_cons (ps_for (passes_of rfl) rfl (pi_range1 rfl T.range (pa_cons (pe_callB call_len_seq (by rfl) T.len (by decide +kernel) (pa_cons (pv 0) pa_nil)) pa_nil)) (pg_name (i := 2) sc.nd rfl (Or.inl rfl))
        (pss_cons (ps_set (i := 3) sc.nd rfl (Or.inl rfl) (pe_ix ix_tup (pe_fld (pe_ix ix_tup (pv 0) (pv 2) (fun _ _ => rfl)) rfl) pe_int (fun _ _ => rfl)))
        (pss_one (ps_dput hu (pv 1) (pv 3) (pe_op op_catA (pe_dget2 hu (pv 1) (pv 3) (pe_tup pa_nil) ⟨rfl, rfl, rfl, rfl⟩) (pe_tup (pa_cons (pv 2) pa_nil))) rfl))))
      (pss_one (ps_ret (pv 1))))), ?_⟩
  intro d hd
  have hpl := paired_len hp
  have k1 := (Hs.start H).new (o := .dK []) hd
  refine ⟨_, rfl, m, _, rfl, .inr (Same.sqt k1.sub hm), _, rfl, by rw [List.length_map]; omega, by rw [List.length_map]; omega, for_rng (n := (as.map V.ref).length) (fun i σ H' => ∃ (t2 t3 : Option V) (kvs : List (Key × V)) (B : Hp), σ = [some (.ref m), some (.ref d), t2, t3] ∧ Same H B ∧ Hs B [(d, .dK kvs)] H' ∧ HdK K B kvs (hds (ts.take i))) ⟨none, none, [], H, rfl, Same.refl _, k1, ⟨fun _ => rfl, fun _ _ => rfl, fun _ z => absurd rfl z, Nat.zero_le _⟩⟩ ?_ ?_⟩
  · rintro i σ H1 hi ⟨t2, t3, kvs, B, rfl, sB, hh, hk⟩
    rw [List.length_map] at hi
    obtain ⟨t, ht⟩ : ∃ t, ts[i]? = some t := ⟨_, List.getElem?_eq_getElem (by omega)⟩
    obtain ⟨x, ex, tx⟩ := paired_at hp ht
    obtain ⟨dx, b, st, r, h1, h2, h3, h4⟩ := (show TrmAt K H x rows t.1 t.2 from tx).ex
    obtain ⟨y, l, el⟩ : ∃ y l, t.1 = y :: l := by
      cases e : t.1 with
      | nil => exact absurd e (hne t (List.mem_of_getElem? ht))
      | cons y l => exact ⟨y, l, rfl⟩
    have sH := sB.trans hh.sub
    refine ⟨_, rfl, _, rfl, m, _, _, .ref x, rfl, rfl, Same.sqt sH hm, atI_nat (by rw [List.getElem?_map, ex]; rfl), x, _, dx, _, _, rfl, sH _ _ h1, TT.cl, TT.nS, rfl, st, _, _, .str y, rfl, rfl, Same.sqt sH h3, atI_nat (j := 0) (by rw [el]; rfl), ?_⟩
    have htk : hds (ts.take (i + 1)) = hds (ts.take i) ++ [y] := by
      rw [List.take_succ, ht]
      unfold hds
      rw [List.map_append]
      show _ ++ [t.1.headD ""] = _
      rw [el]
      rfl
    have hln : (hds (ts.take i)).length = i := by
      unfold hds
      rw [List.length_map, List.length_take]
      omega
    refine ⟨_, rfl, d, rfl, .inl ⟨_, .inl hh.r0⟩, _, rfl, (by show 0 ≤ sizeLine; decide), fun t0 ht0 => ?_⟩
    have h5 := hh.tup (o := .tup []) ht0
    have s5 := up_same (o := .tup []) (hh.sub.free ht0)
    have e5 : SqT K (upd B t0 (.tup [])) t0 [] := SqT.of upd_same
    have hk5 := hk.stayT (StayT.of s5)
    have sB5 := sB.trans s5
    generalize upd B t0 (.tup []) = B5 at *
    refine ⟨_, DGet.k (k := Sum.inr y) h5.r0, ?_⟩
    -- what stood there, and the place
    have core : ∀ (v : V), v = (valV kvs (Sum.inr y : Key)).getD (.ref t0) → ∃ p, v = .ref p ∧ SqT K B5 p (vN (hix 0 (hds (ts.take i)) y)) := by
      intro v ev
      by_cases c : hix 0 (hds (ts.take i)) y = []
      · rw [hk5.no y c] at ev
        exact ⟨t0, ev, by rw [c]; exact e5⟩
      · obtain ⟨p, e1, e2⟩ := hk5.yes y c
        rw [e1] at ev
        exact ⟨p, ev, e2⟩
    obtain ⟨p, ep, tp⟩ := core _ rfl
    rw [ep]
    refine ⟨_, rfl, (by show 1 ≤ sizeLine; decide), fun t6 ht6 => ?_⟩
    have h6 := h5.tup (o := .tup [.int (i : Nat)]) ht6
    have s6 := up_same (o := .tup [.int (i : Nat)]) (h5.sub.free ht6)
    have e6 : SqT K (upd B5 t6 (.tup [.int (i : Nat)])) t6 [.int (i : Nat)] := SqT.of upd_same
    have tp6 := Same.sqt s6 tp
    have hk6 := hk5.stayT (StayT.of s6)
    have sB6 := sB5.trans s6
    generalize upd B5 t6 (.tup [.int (i : Nat)]) = B6 at *
    have hxl := hix_len y (hds (ts.take i)) 0
    refine cat_any (Same.sqt h6.sub tp6) (Same.sqt h6.sub e6) (by rw [List.length_map]; show _ + 1 ≤ _; omega) (fun p7 H7 s7 t7 => ?_)
    have a7 := h6.after s7
    have t7' := sqt_cut a7.2 (NTu.dK NTu.nil) t7
    have hk7 := hk6.stayT (StayT.of a7.1)
    have h7 := a7.2
    have sB7 := sB6.trans a7.1
    generalize cut [(d, .dK kvs)] H7 = B7 at *
    refine ⟨_, rfl, _, rfl, d, _, rfl, DPut.k (k := Sum.inr y) h7.r0 (by have := hk7.le; rw [hln] at this; rw [sizeLine_eq]; omega), _, _, _, B7, rfl, sB7, h7.w0, ?_⟩
    have es : vN (hix 0 (hds (ts.take i)) y) ++ [V.int (i : Nat)] = vN (hix 0 (hds (ts.take (i + 1))) y) := by
      rw [htk, hix_snoc, if_pos rfl, hln, vN, vN, List.map_append, Nat.zero_add]
      rfl
    rw [es] at t7'
    refine ⟨fun z => ?_, fun x hx => ?_, fun x hx => ?_, ?_⟩
    · rw [valV_put, if_neg (fun e => by cases e)]
      exact hk7.z z
    · by_cases c : x = y
      · subst c
        rw [htk, hix_snoc, if_pos rfl] at hx
        simp at hx
      · rw [valV_put, if_neg (fun e => c (Sum.inr.inj e))]
        rw [htk, hix_snoc, if_neg (fun z => c z.symm)] at hx
        exact hk7.no x hx
    · by_cases c : x = y
      · subst c
        exact ⟨p7, by rw [valV_put, if_pos rfl], t7'⟩
      · rw [valV_put, if_neg (fun e => c (Sum.inr.inj e))]
        rw [htk, hix_snoc, if_neg (fun z => c z.symm)] at hx ⊢
        exact hk7.yes x hx
    · have h1 := putK_len (Sum.inr y) (.ref p7) kvs
      have h2 := hk7.le
      rw [htk, List.length_append]
      show _ ≤ _ + 1
      omega
  · rintro σ H1 ⟨t2, t3, kvs, B, rfl, sB, hh, hk⟩
    rw [List.length_map, List.take_of_length_le (by omega)] at hk
    exact ⟨_, rfl, hq H1 d kvs (sB.trans hh.sub) hd hh.r0 (hk.stayT (StayT.of hh.sub))⟩
end
end Sy
/-! len(o), by an own __len__; Trims.__init__ -/
namespace Sy
open PySem PySem.Spec PyProof.Rows L2
def rLenO (C : Addr) (sp : Sp) : List V → Hp → VK → Prop := fun xs H Q => ∃ a dx fs, xs = [V.ref a] ∧ H a = some (.ins C dx fs) ∧ sp [.ref a] H (fun v H' => ∃ n : Nat, v = .int (n : Nat) ∧ n < 2 ^ 63 ∧ Q (.int (n : Nat)) H') E0
theorem call_lenO {X : Cx} {k : Nat} {C f : Addr} {fd : FuncData} {ps : List Str} {sp : Sp} (hm : Meth X.K C "__len__" f) (F : FnOk X.prog X.w X.K X.mg X.base (L2.CX X.prog X.w) k f fd ps sp) (hr : Room (k + 1) X.A) (hb : Binds X.K fd ps []) : CallR X (.builtin "len") (rLenO C sp) := by
  intro pins s σ H xs us Q I r h
  obtain ⟨a, dx, fs, rfl, ha, q⟩ := h
  obtain ⟨u, rfl, ru⟩ := vals1 r
  obtain rfl : u = Value.ref a := ru
  obtain ⟨mA, J, _⟩ := ins_get I.hok ha
  obtain ⟨od, J, _⟩ := J.look
  obtain ⟨m, hF⟩ := I.fr
  refine PySem.W.len_K hF I.ok.mod.kin J hm.at_ hm.fn ?_
  have r2 : Vals [V.ref a] [Value.ref a] := .cons rfl .nil
  refine wpAny_call (codeAny_mono (F.run X.A.in1 X.stack s H ⟨[Value.ref a], []⟩ [Value.ref a] [V.ref a] _ E0 hr.in1 I.env0.in1 ?_ r2 q) fun r s' hq => ?_)
  · have := hb s [Value.ref a] I.kIn (by rw [← F.len _ _ _ _ q]; rfl)
    exact this
  · cases r with
    | error e => exact passL pins σ H s e s' I hq
    | ok fl =>
      cases fl with
      | ret u' =>
        obtain ⟨v, H', I', rv, n, ev, hn, q3⟩ := I.after hq
        subst ev
        obtain ⟨t, rfl⟩ : ∃ t, u' = Value.int (n : Nat) t := rv
        exact ⟨⟨by omega, by omega⟩, .int (n : Nat), H', I'.kept (t' := _) (fun _ _ z => z), ⟨_, rfl⟩, q3⟩
      | next => exact False.elim hq
      | brk => exact False.elim hq
      | cont => exact False.elim hq
/-! Trims -/
structure TxtS (K : PySem.W.Frag) : Prop where
  cl : Cls K (He.ga K "Trims")
  nB : NoAttr K (He.ga K "Trims") "bed"
  nT : NoAttr K (He.ga K "Trims") "trims"
  nN : NoAttr K (He.ga K "Trims") "name"
  nH : NoAttr K (He.ga K "Trims") "_heads"
abbrev TrmZ := List Sy.Row × Trm
def TmZ (K : PySem.W.Frag) (H : Hp) (a : Addr) (z : TrmZ) : Prop := TrmAt K H a z.1 z.2.1 z.2.2 ∧ ∀ r ∈ z.1, PyData.strOk r.1 = true
theorem TrmAt.del {K : PySem.W.Frag} {H : Hp} {x a C dx : Addr} {rows : List Sy.Row} {l : List Str} {ks : List Key} (t : TrmAt K H a rows l ks) (hx : H x = some (.ins C dx [])) : TrmAt K (L2.del H x) a rows l ks := by
  obtain ⟨d, b, s, r, h1, h2, h3, h4⟩ := t.ex
  refine ⟨d, b, s, r, ?_, h2.del hx, sqt_del h3 hx, sqt_del h4 hx⟩
  rw [del_ne]
  · exact h1
  · intro z
    rw [z, hx] at h1
    injection h1 with h1
    injection h1 with _ _ h1
    cases h1
theorem TrmAt.mono {K : PySem.W.Frag} {H H' : Hp} {a : Addr} {rows : List Sy.Row} {l : List Str} {ks : List Key} (t : TrmAt K H a rows l ks) (s : Same H H') : TrmAt K H' a rows l ks := (StayT.of s).trm t
/-- a set of trims stands at x -/
structure TrmsAt (K : PySem.W.Frag) (H : Hp) (x : Addr) (rows : List Sy.Row) (ts : List Trm) (nm : Str) : Prop where
  ex : ∃ (dx b p d : Addr) (as : List Addr) (kvs : List (Key × V)), H x = some (.ins (He.ga K "Trims") dx [("bed", .ref b), ("trims", .ref p), ("name", .str nm), ("_heads", .ref d)]) ∧ BedAt K H b rows ∧ SqT K H p (as.map V.ref) ∧ Paired (TmAt K rows H) as ts ∧ H d = some (.dK kvs) ∧ HdK K H kvs (hds ts)
def Keep (x : Addr) (H H' : Hp) : Prop := ∀ a o, a ≠ x → H a = some o → H' a = some o
/-- what a set of trims owes: another bed, too many -/
def spInitS (K : PySem.W.Frag) : Sp := fun vs H Q E => ∃ (x b p dx : Addr) (nm : Str) (as : List Addr) (rows : List Sy.Row) (zs : List TrmZ), vs = [.ref x, .ref b, .str nm, .ref p] ∧ H x = some (.ins (He.ga K "Trims") dx []) ∧ BdO K H b rows ∧ SqT K H p (as.map V.ref) ∧ Paired (TmZ K H) as zs ∧ zs.length ≤ 100 ∧ (∀ z ∈ zs, z.2.1 ≠ []) ∧
  ((∃ z ∈ zs, z.1 ≠ rows) → ∀ H', Keep x H H' → E (.ref (He.ga K "OtherBed")) none H') ∧
  ((∀ z ∈ zs, z.1 = rows) → 8 < zs.length → ∀ d H' fs, Keep x H H' → H' d = some (.xd fs) → ImF K H' fs (Er.many "trims" 8).fds → E (.ref (He.ga K "TooMany")) (some d) H') ∧
  ((∀ z ∈ zs, z.1 = rows) → zs.length ≤ 8 → ∀ H', Keep x H H' → TrmsAt K H' x rows (zs.map (·.2)) nm → Q .non H')
theorem paired_get {α β γ : Type} {R : α → β → Prop} {S : α → γ → β → Prop} (h : ∀ a b, R a b → ∃ c, S a c b) : ∀ {as : List α} {bs : List β}, Paired R as bs → ∃ cs : List γ, cs.length = as.length ∧ Paired (fun (p : α × γ) b => S p.1 p.2 b) (as.zip cs) bs
  | _, _, .nil => ⟨[], rfl, .nil⟩
  | _, _, .cons a r => by
    obtain ⟨cs, h1, h2⟩ := paired_get h r
    obtain ⟨c, hc⟩ := h _ _ a
    exact ⟨c :: cs, by rw [List.length_cons, List.length_cons, h1], .cons hc h2⟩
section
variable {P : Program} {w : World} {K : PySem.W.Frag} {mg : Str → Option Value} {base : Heap}
abbrev N_initS : List Str := ["self", "bed", "name", "trims", "beds", "trim"]
theorem sc_initS : FnScope N_initS ((["self", "bed"] : List Str) ++ (["name", "trims"] : List Str)) (defScope (clb 44 0)) := ⟨rfl, rfl, rfl, by decide +kernel, rfl, by decide +kernel, by decide +kernel⟩
theorem s_initS (T : Txt K mg) (S : TxtM mg) (TT : TxtT K) (TS : TxtS K) (R : Ers P K mg) (F : ∃ fd, FunD K "__init__" "Trims.__init__" (defArgs (clb 44 0)) (defBody (clb 44 0)) (defScope (clb 44 0)) [] [("name", .str "trims")] (He.ma K (He.ga K "Trims") "__init__") fd)
    (c_need : CalR P w K mg base 3 "need_same" (spStar 0 (spNeedN K))) (c_heads_of : Cal P w K mg base 1 "heads_of" ["members"] (spHd K)) : FnS P w K mg base (3 + 1) (He.ma K (He.ga K "Trims") "__init__") 2 "name" (.str "trims") (spInitS K) := by
  obtain ⟨fd, F⟩ := F
  refine fnS_of (ps := ["self", "bed"]) F sc_initS (fun D doc pm an cdv ct us rest h v => match us, h, rest with
    | [a, b], _, [] => ⟨_, _, _, _, _, _, rfl, rfl, rfl⟩
    | [a, b], _, r :: rs => ⟨_, _, _, _, _, _, rfl, rfl, rfl⟩) (fun kV doc pm an cdv ct us rest v h => match us, h, rest with
    | [a, b], _, [] => rfl
    | [a, b], _, r :: rs => rfl) ?_
  intro cdv A outer s H vs Q E hr h
  obtain ⟨x, b, p, dx, nm, as, rows, zs, rfl, hx, hb, hp, hz, hl, hne, hO, hM, hq⟩ := h
  have sc := sc_initS
  refine ⟨_, (pss_cons (ps_setLc (i := 4) (own := [("trim", 5)]) (g := gName 5) rfl sc.nd rfl rfl (sw_true rfl rfl rfl (by decide +kernel)) (pi_tup (pv 3)) (blkOk_by (N := N_initS) (sc := defScope (clb 44 0)) (by decide +kernel)) (fun _ _ _ _ _ => (pg_name (i := 5) sc.nd rfl (Or.inl rfl))) (fun _ _ _ _ _ => pts_nil) (fun _ _ _ _ _ => (pe_fldK K rfl (pv 5) rfl)))
      (pss_cons (ps_expr (pe_calRS c_need hr (takes_of rfl rfl rfl rfl) (pa_cons (pv 1) (StX.pa_star (pv 4) pa_nil))))
      (pss_cons (ps_if (pt_cmpR op_gt (pe_callB call_len_seq (by rfl) T.len (by decide +kernel) (pa_cons (pv 3) pa_nil)) (pe_gint rfl S.mt) (nomark _))
        (pss_one (ps_raise rfl (takes_of rfl rfl rfl rfl) (mk_tm R.tm hr rfl (pa_cons pe_str (pa_cons (pe_gint rfl S.mt) pa_nil)) pass0)))
        pss_nil)
      (pss_cons (ps_fld (pv 0) (pv 1) rfl)
      (pss_cons (ps_fld (pv 0) (pv 3) rfl)
      (pss_cons (ps_fld (pv 0) (pv 2) rfl)
      (pss_one (ps_fld (pv 0) (pe_cal c_heads_of hr (pa_cons (pv 3) pa_nil)) rfl)))))))), ?_⟩
  have k0 : Hs (L2.del H x) [(x, .ins (He.ga K "Trims") dx [])] H := (Hs.start H).take hx
  have hp0 := sqt_del hp hx
  have hb0 : BdO K (L2.del H x) b rows := ⟨hb.1.del hx, hb.2⟩
  have hz0 : Paired (TmZ K (L2.del H x)) as zs := Paired.mapP hz fun _ _ t => ⟨t.1.del hx, t.2⟩
  have keep0 : ∀ {B' H' : Hp}, Same (L2.del H x) B' → Same B' H' → Keep x H H' := fun s1 s2 a o n e => s2 _ _ (s1 _ _ (by rw [del_ne n]; exact e))
  generalize hB : L2.del H x = B at *
  obtain ⟨bs, hbl, hbz⟩ := paired_get (S := fun a b (z : TrmZ) => (∃ d s r, B a = some (.ins (He.ga K "Trim") d [("bed", .ref b), ("stump", .ref s), ("result", .ref r)])) ∧ BdO K B b z.1) (fun a z t => by
    obtain ⟨d, b, s, r, h1, h2, _, _⟩ := t.1.ex
    exact ⟨b, ⟨d, s, r, h1⟩, h2, t.2⟩) hz0
  have hzl := paired_len hz0
  refine ⟨_, rfl, p, rfl, ⟨_, Same.sqt k0.sub hp0⟩, fun D hD => lc_it walk_tup (fun i H' => Hs B [(D, .lst ((bs.take i).map V.ref)), (x, .ins (He.ga K "Trims") dx [])] H') (k0.new hD) (fun _ _ _ z => Same.sqt z.sub hp0) ?_ ?_⟩
  · rintro i v H2 _ hi hh ⟨rfl, hv⟩
    rw [List.length_map] at hi
    obtain ⟨z, ez⟩ : ∃ z, zs[i]? = some z := ⟨_, List.getElem?_eq_getElem (by omega)⟩
    obtain ⟨⟨a, b'⟩, e1, ⟨d, s', r', e2⟩, e3⟩ := paired_at hbz ez
    rw [List.getElem?_zip_eq_some] at e1
    rw [List.getElem?_map, e1.1] at hv
    cases hv
    refine ⟨rfl, ?_⟩
    simp only [tYes, if_true]
    refine ⟨_, rfl, a, _, d, _, _, rfl, hh.sub _ _ e2, TT.cl, TT.nB, rfl, _, hh.r0, by rw [List.length_map, List.length_take, sizeLine_eq]; omega, ?_⟩
    rw [List.take_succ, e1.2, List.map_append]
    exact hh.w0
  intro H2 hh
  rw [List.length_map, ← hbl, List.take_length] at hh
  have hbs : Paired (BdO K B) bs (zs.map (·.1)) := by
    have go : ∀ {as bs : List Addr} {zs : List TrmZ}, bs.length = as.length → Paired (fun (p : Addr × Addr) (z : TrmZ) => (∃ d s r, B p.1 = some (.ins (He.ga K "Trim") d [("bed", .ref p.2), ("stump", .ref s), ("result", .ref r)])) ∧ BdO K B p.2 z.1) (as.zip bs) zs → Paired (BdO K B) bs (zs.map (·.1)) := by
      intro as
      induction as with
      | nil =>
        intro bs zs h1 h2
        cases bs with
        | nil =>
          cases h2
          exact .nil
        | cons b bs => cases h1
      | cons a as ih =>
        intro bs zs h1 h2
        cases bs with
        | nil => cases h1
        | cons b bs =>
          cases h2 with
          | cons r t => exact .cons r.2 (ih (by simpa using h1) t)
    exact go hbl hbz
  refine ⟨_, rfl, _, rfl, D, _, rfl, .inr (SqL.of hh.r0), ?_⟩
  refine ⟨[], .ref b :: bs.map V.ref, ?_, rfl, by rw [List.length_cons, List.length_map, sizeLine_eq]; omega, fun q hq' => ?_⟩
  · show V.ref b :: (bs.map V.ref ++ []) = _
    rw [List.append_nil]
    rfl
  have h3 := hh.tup (o := .tup (.ref b :: bs.map V.ref)) hq'
  have s3 := up_same (o := .tup (.ref b :: bs.map V.ref)) (hh.sub.free hq')
  have e3 : upd B q (.tup (.ref b :: bs.map V.ref)) q = some (.tup (.ref b :: bs.map V.ref)) := upd_same
  have eH3 : upd H2 q (.tup (.ref b :: bs.map V.ref)) q = some (.tup (.ref b :: bs.map V.ref)) := upd_same
  have s23 := up_same (o := .tup (.ref b :: bs.map V.ref)) hq'
  generalize upd H2 q (.tup (.ref b :: bs.map V.ref)) = H3 at *
  generalize upd B q (.tup (.ref b :: bs.map V.ref)) = B3 at *
  have sB3 := s3.trans h3.sub
  refine ⟨q, b, bs, rows, zs.map (·.1), rfl, SqT.of eH3, ⟨hb0.1.mono (Stay.of sB3), hb0.2⟩, Paired.mapP hbs fun _ _ z => ⟨z.1.mono (Stay.of sB3), z.2⟩, fun hall => ?_, fun ⟨r, hr', ne⟩ H' s' => ?_⟩
  · have hall : ∀ z ∈ zs, z.1 = rows := fun z hz => hall _ (List.mem_map_of_mem hz)
    refine ⟨_, rfl, p, _, rfl, .inr (Same.sqt sB3 hp0), _, _, rfl, rfl, _, rfl, if_dec (fun c => ?_) (fun c => ?_)⟩
    · rw [List.length_map] at c
      refine mk_ra (fun _ _ => ⟨_, _, rfl, by decide +kernel, by decide +kernel, by decide +kernel, rfl⟩) (by show 2 ≤ 1000; decide) (fun d H' s' ed => hM hall (by omega) d H' _ (keep0 (Same.refl _) (sB3.trans s')) ed (.cons (.int _) (.cons (.str _) .nil)))
    · rw [List.length_map] at c
      refine ⟨_, rfl, _, rfl, x, _, dx, _, rfl, h3.r1, TS.cl, TS.nB, by decide, ?_⟩
      have h4 := h3.w1 (o' := .ins (He.ga K "Trims") dx (putF "bed" (.ref b) []))
      refine ⟨_, rfl, _, rfl, x, _, dx, _, rfl, h4.r1, TS.cl, TS.nT, (by show 1 < 1000; decide), ?_⟩
      have h5 := h4.w1 (o' := .ins (He.ga K "Trims") dx [("bed", .ref b), ("trims", .ref p)])
      refine ⟨_, rfl, _, rfl, x, _, dx, _, rfl, h5.r1, TS.cl, TS.nN, (by show 2 < 1000; decide), ?_⟩
      have h6 := h5.w1 (o' := .ins (He.ga K "Trims") dx [("bed", .ref b), ("trims", .ref p), ("name", .str nm)])
      have s6 := s3.trans h6.sub
      have tms : Paired (TmAt K rows B) as (zs.map (·.2)) := by
        have go : ∀ {as : List Addr} {zs : List TrmZ}, (∀ z ∈ zs, z.1 = rows) → Paired (TmZ K B) as zs → Paired (TmAt K rows B) as (zs.map (·.2)) := by
          intro as
          induction as with
          | nil => intro zs _ h; cases h; exact .nil
          | cons a as ih =>
            intro zs hz h
            cases h with
            | cons r t => exact .cons (by have := r.1; rw [hz _ List.mem_cons_self] at this; exact this) (ih (fun z h => hz z (List.mem_cons_of_mem _ h)) t)
        exact go hall hz0
      refine ⟨_, rfl, p, as, rows, zs.map (·.2), rfl, Same.sqt s6 hp0, Paired.mapP tms fun _ _ t => t.mono s6, by rw [List.length_map]; exact hl, fun t ht => ?_, fun H7 d kvs s7 nd ed hd => ?_⟩
      · obtain ⟨z, hz', rfl⟩ := List.mem_map.mp ht
        exact hne z hz'
      have a7 := h6.after s7
      refine ⟨_, rfl, x, _, dx, _, rfl, s7 _ _ h6.r1, TS.cl, TS.nH, (by show 3 < 1000; decide), ?_⟩
      have sB7 := s6.trans s7
      generalize hH8 : upd H7 x _ = H8
      have e8 : H8 x = some (.ins (He.ga K "Trims") dx [("bed", .ref b), ("trims", .ref p), ("name", .str nm), ("_heads", .ref d)]) := by rw [← hH8]; exact upd_same
      have n8 : ∀ a o, a ≠ x → H7 a = some o → H8 a = some o := fun a o n e => by rw [← hH8, upd_ne n]; exact e
      have sB8 : Same B H8 := fun a o e => n8 a o (fun z => by rw [z, ← hB, del_same] at e; cases e) (sB7 _ _ e)
      have x7 := s7 _ _ h6.r1
      have dne : d ≠ x := fun z => by rw [z, x7] at ed; cases ed
      refine hq hall (by omega) H8 (keep0 (Same.refl _) sB8) ⟨dx, b, p, d, as, kvs, e8, hb0.1.mono (Stay.of sB8), Same.sqt sB8 hp0, Paired.mapP tms fun _ _ t => t.mono sB8, n8 _ _ dne ed, ?_⟩
      refine ⟨hd.z, hd.no, fun y hy => ?_, hd.le⟩
      obtain ⟨p9, e1, e2⟩ := hd.yes y hy
      have dl : Same (L2.del H7 x) H8 := fun a o e => by
        by_cases z : a = x
        · rw [z, del_same] at e
          cases e
        · rw [del_ne z] at e
          exact n8 a o z e
      exact ⟨p9, e1, Same.sqt dl (sqt_del e2 x7)⟩
  · obtain ⟨z, hz', rfl⟩ := List.mem_map.mp hr'
    exact hO ⟨z, hz', ne⟩ H' (keep0 (Same.refl _) (sB3.trans s'))
end
end Sy
/-! the law's bag: _law_bag, _law_pick -/
namespace Sy
open PySem PySem.Spec PyProof.Rows L2
/-- its cells, its counters -/
def bagO (c : Addr) (x : Int × Int × Int) : HO := .lst [.ref c, .int x.1, .int x.2.1, .int x.2.2]
def Cells (c : Addr) (H : Hp) : Prop := ∃ zs : List Int, H c = some (.lst (zs.map V.int))
def Bag (c g : Addr) (H : Hp) : Prop := (∃ x, H g = some (bagO c x)) ∧ c ≠ g ∧ Cells c H
/-- the bag at g has other counters, nothing else has changed -/
def Dr (c g : Addr) (H H' : Hp) : Prop := ∃ x, Chg g (bagO c x) H H'
theorem Cells.mono {c : Addr} {H H' : Hp} (h : Cells c H) (s : Same H H') : Cells c H' := by
  obtain ⟨zs, e⟩ := h
  exact ⟨zs, s _ _ e⟩
theorem Chg.upd {g : Addr} {o o' : HO} {H H1 : Hp} (c : Chg g o H H1) : Chg g o' H (L2.upd H1 g o') := ⟨upd_same, fun a w n e => by rw [upd_ne n]; exact c.2 a w n e⟩
theorem Chg.refl {g : Addr} {o : HO} {H : Hp} (h : H g = some o) : Chg g o H H := ⟨h, fun _ _ _ e => e⟩
theorem Bag.dr {c g : Addr} {H H' : Hp} (b : Bag c g H) (d : Dr c g H H') : Bag c g H' := by
  obtain ⟨_, ne, zs, e⟩ := b
  obtain ⟨x, cg⟩ := d
  exact ⟨⟨x, cg.1⟩, ne, zs, cg.2 _ _ ne e⟩
theorem Dr.trans {c g : Addr} {H H1 H2 : Hp} (a : Dr c g H H1) (b : Dr c g H1 H2) : Dr c g H H2 := by
  obtain ⟨x, h1⟩ := a
  obtain ⟨y, h2⟩ := b
  exact ⟨y, h1.trans h2⟩
section
variable {B H H' : Hp} {L : List (Addr × HO)} {c g : Addr} {o : HO} {x : Int × Int × Int} {z : Addr × HO}
/-- behind a draw: what is known for good, what was not there -/
theorem Hs.drN (h : Hs B ((g, o) :: L) H) (al : AllL L) (d : Dr c g H H') : ∃ x B', Same B B' ∧ Hs B' ((g, bagO c x) :: L) H' ∧ Stay H' B' ∧ ∀ q w, H q = none → H' q = some w → B' q = some w := by
  obtain ⟨x, cg⟩ := d
  have e := h.chg cg
  refine ⟨x, _, e.1, e.2, stay_cutC h (AllL.cons al) cg, fun q w n e2 => ?_⟩
  rw [cut_at]
  · exact e2
  · exact h.out_new n
theorem Hs.dr0 (h : Hs B ((g, o) :: L) H) (d : Dr c g H H') : ∃ x B', Same B B' ∧ Hs B' ((g, bagO c x) :: L) H' := by
  obtain ⟨x, cg⟩ := d
  have e := h.chg cg
  exact ⟨x, _, e.1, e.2⟩
theorem Hs.dr1 (h : Hs B (z :: (g, o) :: L) H) (d : Dr c g H H') : ∃ x B', Same B B' ∧ Hs B' (z :: (g, bagO c x) :: L) H' := by
  obtain ⟨x, B', s, h'⟩ := h.swap.dr0 d
  exact ⟨x, B', s, h'.swap⟩
theorem Hs.bag (h : Hs B ((g, bagO c x) :: L) H) (bc : Cells c B) : Bag c g H := by
  refine ⟨⟨x, h.r0⟩, ?_, bc.mono h.sub⟩
  rintro rfl
  obtain ⟨zs, e⟩ := bc
  have := h.ap _ List.mem_cons_self
  rw [e] at this
  cases this
theorem Hs.bag1 (h : Hs B (z :: (g, bagO c x) :: L) H) (bc : Cells c B) : Bag c g H := h.swap.bag bc
theorem Bag.take (h : Bag c g H) : ∃ x, Hs (L2.del H g) [(g, bagO c x)] H ∧ Cells c (L2.del H g) := by
  obtain ⟨⟨x, e⟩, ne, zs, e2⟩ := h
  exact ⟨x, (Hs.start H).take e, zs, by rw [del_ne ne]; exact e2⟩
theorem Hs.isDr {B0 : Hp} (h : Hs B ((g, bagO c x) :: L) H') (s : Same (L2.del B0 g) B) : Dr c g B0 H' := ⟨x, h.isChg s⟩
end
theorem lay_intL (l : List Int) : SeqAt.shaped (.list (l.map PyData.int)) = true := by
  have h : ∀ l : List Int, PyData.canLayAll0 (l.map PyData.int) = true ∧ PyData.depthAll (l.map PyData.int) ≤ 1 := by
    intro l
    induction l with
    | nil => exact ⟨rfl, Nat.zero_le _⟩
    | cons x l ih =>
      rw [List.map_cons]
      simp only [PyData.canLayAll0, PyData.depthAll, PyData.canLay0, PyData.depth, Bool.true_and]
      exact ⟨ih.1, by omega⟩
  unfold SeqAt.shaped
  simp only [PyData.canLay0, PyData.depth]
  rw [(h l).1, Bool.true_and]
  exact decide_eq_true (by have := (h l).2; omega)
theorem dp_ints {K : PySem.W.Frag} {H : Hp} : ∀ l : List Int, DpAll K H (l.map V.int) (l.map PyData.int)
  | [] => .nil
  | x :: l => .cons (.int x) (dp_ints l)
section
variable {P : Program} {w : World} {K : PySem.W.Frag} {mg : Str → Option Value} {base : Heap}
def spBag (K : PySem.W.Frag) : Sp := fun vs H Q _ => ∃ (s : Addr) (zs : List Int), vs = [.ref s] ∧ SqL K H s (zs.map V.int) ∧ ∀ H' c g, Same H H' → Bag c g H' → H g = none → Q (.ref g) H'
abbrev N_bag : List Str := ["_law_script", "_law_cell"]
theorem sc_bag : FnScope N_bag ["_law_script"] (defScope (top 49)) := ⟨rfl, rfl, rfl, by decide +kernel, rfl, by decide +kernel, by decide +kernel⟩
theorem k_bag (T : Txt K mg) (F : DF K mg "_law_bag" 49) : Cal P w K mg base 1 "_law_bag" ["_law_script"] (spBag K) := by
  refine cal_of F.1 F.2 sc_bag (fun _ _ _ _ _ _ us e => match us, e with | [_], _ => rfl) (fun vs H Q E s => by obtain ⟨_, _, rfl, _⟩ := s; rfl) ?_
  intro cdv A outer s H vs Q E hr h
  obtain ⟨sa, zs, rfl, hs, hq⟩ := h
  have sc := sc_bag
  refine ⟨_, (pss_one (ps_ret (pe_lst (pa_cons (pe_lc (own := [("_law_cell", 1)]) (g := gName 1) rfl sc.nd (pi_list (pe_slice sl_list (pv 0) po_none (po_some pe_int))) (blkOk_by (N := N_bag) (sc := defScope (top 49)) (by decide +kernel)) (fun _ _ _ _ _ => (pg_name (i := 1) sc.nd rfl (Or.inl rfl))) (fun _ _ _ _ _ => pts_nil) (fun _ _ _ _ _ => (pe_callTy call_int1 (by rfl) T.int (by decide +kernel) (pa_cons (pv 1) pa_nil)))) (pa_cons pe_int (pa_cons pe_int (pa_cons pe_int pa_nil))))))), ?_⟩
  refine ⟨_, rfl, _, rfl, sa, _, rfl, hs, fun p hp => ?_⟩
  have hc : cutV (zs.map V.int) none (some ((63 : Nat) : Int)) = (zs.take 63).map V.int := by
    by_cases c : 63 ≤ zs.length
    · rw [cut_take (by rw [List.length_map]; exact c), List.map_take]
    · unfold cutV HT.sIx
      simp only [List.drop_zero, Nat.sub_zero]
      rw [if_neg (by omega), List.take_of_length_le, List.take_of_length_le (by omega)]
      rw [List.length_map]
      show zs.length ≤ min ((63 : Nat) : Int).toNat zs.length
      have : ((63 : Nat) : Int).toNat = 63 := rfl
      omega
  dsimp only [tNoPart]
  have hc : cutV (zs.map V.int) none (some (63 : Int)) = (zs.take 63).map V.int := hc
  rw [hc]
  have h1 := (Hs.start H).tup (o := .lst ((zs.take 63).map V.int)) hp
  have e1 : upd H p (.lst ((zs.take 63).map V.int)) p = some (.lst ((zs.take 63).map V.int)) := upd_same
  have s1 := up_same (o := .lst ((zs.take 63).map V.int)) hp
  generalize upd H p (.lst ((zs.take 63).map V.int)) = B at *
  refine ⟨p, rfl, ⟨_, SqL.of e1⟩, fun D hD => lc_it walk_list (fun i H' => Hs B [(D, .lst (((zs.take 63).take i).map V.int))] H') (h1.new hD) (fun _ _ _ z => SqL.of (z.sub _ _ e1)) ?_ ?_⟩
  · rintro i v H2 _ hi hh ⟨rfl, hv⟩
    obtain ⟨z, hz, rfl⟩ := map_at hv
    refine ⟨rfl, ?_⟩
    simp only [tYes, if_true]
    refine ⟨_, rfl, .inl ⟨z, rfl, _, hh.r0, by rw [List.length_map, List.length_take, List.length_take, sizeLine_eq]; omega, ?_⟩⟩
    rw [List.take_succ, hz, List.map_append]
    exact hh.w0
  · rintro H2 hh
    rw [List.length_map, List.take_length] at hh
    refine ⟨(by show 4 ≤ sizeLine; decide), fun g hg => ?_⟩
    have s3 := up_same (o := .lst [.ref D, .int 0, .int 0, .int 0]) hg
    have gD : D ≠ g := hh.ne_of_new hg _ List.mem_cons_self
    refine hq _ D g (s1.trans (hh.sub.trans s3)) ⟨⟨(0, 0, 0), upd_same⟩, gD, _, s3 _ _ hh.r0⟩ (s1.free (hh.sub.free hg))
/-! _law_pick -/
def spPick : Sp := fun vs H Q _ => ∃ (c g : Addr) (n : Nat), vs = [.ref g, .int (n : Nat)] ∧ Bag c g H ∧ 1 ≤ n ∧ n < 1000000000 ∧ ∀ (r : Nat) H', r < n → Dr c g H H' → Q (.int (r : Nat)) H'
abbrev N_pick : List Str := ["_law_bag_here", "_law_limit", "_law_cells", "_law_cell", "_law_once", "_law_twice", "_law_digit"]
theorem sc_pick : FnScope N_pick ["_law_bag_here", "_law_limit"] (defScope (top 50)) := ⟨rfl, rfl, rfl, by decide +kernel, rfl, by decide +kernel, by decide +kernel⟩
theorem bat0 {c : Addr} {a b d : Int} : atI [V.ref c, .int a, .int b, .int d] (0 : Int) = some (.ref c) := atI_nat (j := 0) rfl
theorem bat1 {c : Addr} {a b d : Int} : atI [V.ref c, .int a, .int b, .int d] (1 : Int) = some (.int a) := atI_nat (j := 1) rfl
theorem bat2 {c : Addr} {a b d : Int} : atI [V.ref c, .int a, .int b, .int d] (2 : Int) = some (.int b) := atI_nat (j := 2) rfl
theorem bat3 {c : Addr} {a b d : Int} : atI [V.ref c, .int a, .int b, .int d] (3 : Int) = some (.int d) := atI_nat (j := 3) rfl
theorem bix {v0 v1 v2 v3 : V} (j : Nat) (h : j < 4) : ixN [v0, v1, v2, v3].length (j : Int) = some j := ixN_nat h
theorem mod_nat {n : Nat} (hn : 1 ≤ n) (x : Int) : ∃ k : Nat, x % (n : Int) = (k : Int) ∧ k < n := by
  have h1 := Int.emod_nonneg x (show (n : Int) ≠ 0 by omega)
  have h2 := Int.emod_lt_of_pos x (show (0 : Int) < n by omega)
  exact ⟨(x % (n : Int)).toNat, by omega, by omega⟩
theorem k_pick (T : Txt K mg) (F : DF K mg "_law_pick" 50) : Cal P w K mg base 1 "_law_pick" ["_law_bag_here", "_law_limit"] spPick := by
  refine cal_of F.1 F.2 sc_pick (fun _ _ _ _ _ _ us e => match us, e with | [_, _], _ => rfl) (fun vs H Q E s => by obtain ⟨_, _, _, rfl, _⟩ := s; rfl) ?_
  intro cdv A outer s H vs Q E hr h
  obtain ⟨c, g, n, rfl, ⟨⟨⟨x1, x2, x3⟩, hg⟩, ne, zs, hc⟩, hn, hn2, hq⟩ := h
  have sc := sc_pick
  refine ⟨_, (pss_cons (ps_asg (pe_op op_add (pe_ix ix_list (pv 0) pe_int (fun _ _ => rfl)) pe_int) (pg_sub (pv 0) pe_int set_list))
      (pss_cons (ps_set (i := 2) sc.nd rfl (Or.inl rfl) (pe_ix ix_list (pv 0) pe_int (fun _ _ => rfl)))
      (pss_cons (ps_cut (ps_if (pt_cmpR op_lt (pe_ix ix_list (pv 0) pe_int (fun _ _ => rfl)) pe_int (nomark _))
        (pss_cons (ps_set (i := 3) sc.nd rfl (Or.inl rfl) pe_int)
        (pss_cons (ps_cut (ps_if (pt_cmpR (op_neD hr.units) (pv 2) (pe_lst pa_nil) (nomark _))
          (pss_one (ps_set (i := 3) sc.nd rfl (Or.inl rfl) (pe_ix ix_list (pv 2) (pe_op op_mod (pe_callTy call_int1 (by rfl) T.int (by decide +kernel) (pa_cons (pe_ix ix_list (pv 0) pe_int (fun _ _ => rfl)) pa_nil)) (pe_callB call_len_seq (by rfl) T.len (by decide +kernel) (pa_cons (pv 2) pa_nil))) (fun _ _ => rfl))))
          pss_nil))
        (pss_cons (ps_cut (ps_if (PW.pt (pw_and (pt_cmpR op_ge (pv 3) (pe_op op_pow pe_int pe_int) (nomark _)) (pw_and1 (pt_cmpR op_lt (pe_ix ix_list (pv 0) pe_int (fun _ _ => rfl)) (pe_callB call_len_seq (by rfl) T.len (by decide +kernel) (pa_cons (pv 2) pa_nil)) (nomark _)))))
          (pss_one (ps_asg (pe_op op_sub (pv 3) (pe_op op_pow pe_int pe_int)) (pg_sub (pv 0) pe_int set_list)))
          pss_nil))
        (pss_cons (ps_asg (pe_op op_add (pe_ix ix_list (pv 0) pe_int (fun _ _ => rfl)) pe_int) (pg_sub (pv 0) pe_int set_list))
        (pss_one (ps_if (pt_cmpR op_lt (pe_ix ix_list (pv 0) pe_int (fun _ _ => rfl)) pe_int (nomark _))
          (pss_cons (ps_set (i := 4) sc.nd rfl (Or.inl rfl) (pe_op op_mod (pe_callTy call_int1 (by rfl) T.int (by decide +kernel) (pa_cons (pe_op op_add (pe_op op_add (pe_op op_mul (pv 3) pe_int) (pe_op op_mul (pe_ix ix_list (pv 0) pe_int (fun _ _ => rfl)) pe_int)) pe_int) pa_nil)) pe_int))
          (pss_cons (ps_set (i := 5) sc.nd rfl (Or.inl rfl) (pe_op op_mod (pe_callTy call_int1 (by rfl) T.int (by decide +kernel) (pa_cons (pe_op op_add (pe_op op_mul (pv 4) (pe_op op_add (pe_op op_mod (pe_callTy call_int1 (by rfl) T.int (by decide +kernel) (pa_cons (pv 4) pa_nil)) pe_int) (pe_ix ix_list (pv 0) pe_int (fun _ _ => rfl)))) (pe_op op_mul pe_int (pe_ix ix_list (pv 0) pe_int (fun _ _ => rfl)))) pa_nil)) pe_int))
          (pss_one (ps_ret (pe_op op_mod (pe_callTy call_int1 (by rfl) T.int (by decide +kernel) (pa_cons (pe_op op_fdiv (pv 5) pe_int) pa_nil)) (pv 1))))))
          pss_nil))))))
        pss_nil))
      (pss_cons (ps_set (i := 6) sc.nd rfl (Or.inl rfl) (pe_op op_mod (pe_callTy call_int1 (by rfl) T.int (by decide +kernel) (pa_cons (pe_ix ix_list (pv 0) pe_int (fun _ _ => rfl)) pa_nil)) (pv 1)))
      (pss_cons (ps_asg (pe_op op_fdiv (pe_ix ix_list (pv 0) pe_int (fun _ _ => rfl)) (pv 1)) (pg_sub (pv 0) pe_int set_list))
      (pss_one (ps_ret (pv 6)))))))), ?_⟩
  have S := SqL.of (K := K) hg
  refine ⟨_, rfl, g, _, _, _, rfl, rfl, S, bat3, _, _, rfl, rfl, _, rfl, g, _, _, 3, rfl, rfl, hg, bix 3 (by decide), ?_⟩
  have c1 : Chg g (bagO c (x1, x2, x3 + 1)) H (L2.upd H g (bagO c (x1, x2, x3 + 1))) := (Chg.refl hg).upd
  refine ⟨_, rfl, g, _, _, _, rfl, rfl, SqL.of c1.1, bat0, ?_⟩
  have hc1 : (L2.upd H g (bagO c (x1, x2, x3 + 1))) c = some (.lst (zs.map V.int)) := c1.2 _ _ ne hc
  refine ⟨fun σ' H' => ∃ (t3 t4 t5 : Option V) (y : Int × Int × Int), σ' = [some (.ref g), some (.int (n : Nat)), some (.ref c), t3, t4, t5, none] ∧ Chg g (bagO c y) H H', ⟨_, rfl, g, _, _, _, rfl, rfl, SqL.of c1.1, bat2, _, _, rfl, rfl, _, rfl, if_dec (fun q1 => ?_) (fun q1 => ⟨none, none, none, _, rfl, c1⟩)⟩, ?_⟩
  · refine ⟨fun σ' H' => ∃ (y : Int), σ' = [some (.ref g), some (.int (n : Nat)), some (.ref c), some (.int y), none, none, none] ∧ Same (L2.upd H g (bagO c (x1, x2, x3 + 1))) H', ⟨_, rfl, (by show 0 ≤ sizeLine; decide), fun p hp => ?_⟩, ?_⟩
    · have s2 := up_same (o := .lst []) hp
      refine ⟨.list (zs.map PyData.int), .list [], .lst (SqL.of (s2 _ _ hc1)) (dp_ints zs), .lst (SqL.of upd_same) .nil, lay_intL zs, lay_intL [], _, rfl, ?_⟩
      cases zs with
      | nil => exact iteF ⟨_, rfl, s2⟩
      | cons z0 zr =>
        refine iteT ?_
        have hl : (0 : Int) < (((z0 :: zr).map V.int).length : Nat) := by rw [List.length_map]; simp only [List.length_cons]; omega
        have hm := Int.emod_nonneg x1 (show (((z0 :: zr).map V.int).length : Int) ≠ 0 by omega)
        have hm2 := Int.emod_lt_of_pos x1 hl
        obtain ⟨j, hj, hj2⟩ : ∃ j : Nat, x1 % ((((z0 :: zr).map V.int).length : Nat) : Int) = (j : Int) ∧ j < ((z0 :: zr).map V.int).length := ⟨(x1 % ((((z0 :: zr).map V.int).length : Nat) : Int)).toNat, by omega, by omega⟩
        obtain ⟨zz, ez⟩ : ∃ zz, (z0 :: zr)[j]? = some zz := ⟨_, List.getElem?_eq_getElem (by rw [List.length_map] at hj2; exact hj2)⟩
        refine ⟨_, rfl, _, rfl, g, _, _, _, rfl, rfl, SqL.of (s2 _ _ c1.1), bat1, .inl ⟨x1, rfl, _, rfl, c, _, rfl, .inl (SqL.of (s2 _ _ hc1)), _, _, rfl, rfl, hl, c, _, _, .int zz, rfl, rfl, SqL.of (s2 _ _ hc1), ?_, _, rfl, s2⟩⟩
        rw [hj]
        exact atI_nat (by rw [List.getElem?_map, ez]; rfl)
    · rintro _ H2 ⟨y, rfl, s2⟩
      have c2 : Chg g (bagO c (x1, x2, x3 + 1)) H H2 := ⟨s2 _ _ c1.1, fun a w m e => s2 _ _ (c1.2 a w m e)⟩
      have hc2 := s2 _ _ hc1
      refine ⟨fun σ' H' => ∃ (b : Int), σ' = [some (.ref g), some (.int (n : Nat)), some (.ref c), some (.int y), none, none, none] ∧ Chg g (bagO c (x1, b, x3 + 1)) H H', ⟨_, rfl, _, _, rfl, rfl, ⟨by decide, by decide, by decide⟩, _, _, rfl, rfl, _, rfl, if_dec (fun q2 => ?_) (fun q2 => ⟨_, rfl, c2⟩)⟩, ?_⟩
      · refine ⟨_, rfl, g, _, _, _, rfl, rfl, SqL.of c2.1, bat1, _, rfl, c, _, rfl, .inl (SqL.of hc2), _, _, rfl, rfl, _, rfl, if_dec (fun q3 => ?_) (fun q3 => ⟨_, rfl, c2⟩)⟩
        exact ⟨_, rfl, _, _, rfl, rfl, ⟨by decide, by decide, by decide⟩, _, _, rfl, rfl, _, rfl, g, _, _, 2, rfl, rfl, c2.1, bix 2 (by decide), y - 10 ^ (Int.toNat 18), rfl, c2.upd⟩
      · rintro _ H3 ⟨b, rfl, c3⟩
        refine ⟨_, rfl, g, _, _, _, rfl, rfl, SqL.of c3.1, bat1, _, _, rfl, rfl, _, rfl, g, _, _, 1, rfl, rfl, c3.1, bix 1 (by decide), ?_⟩
        have c4 : Chg g (bagO c (x1 + 1, b, x3 + 1)) H (L2.upd H3 g (bagO c (x1 + 1, b, x3 + 1))) := c3.upd
        have S4 := SqL.of (K := K) c4.1
        refine ⟨_, rfl, g, _, _, _, rfl, rfl, S4, bat2, _, _, rfl, rfl, _, rfl, if_dec (fun q4 => ?_) (fun q4 => ⟨_, none, none, _, rfl, c4⟩)⟩
        refine ⟨_, rfl, _, _, rfl, rfl, .inr (by decide), _, rfl, g, _, _, _, rfl, rfl, S4, bat3, _, _, rfl, rfl, .inr (by decide), _, _, rfl, rfl, _, _, rfl, rfl, .inl ⟨_, rfl, _, _, rfl, rfl, (by show (0 : Int) < 2147483647; decide), ?_⟩⟩
        refine ⟨_, rfl, _, rfl, .inl ⟨_, rfl, _, _, rfl, rfl, (by show (0 : Int) < 65537; decide), _, rfl, g, _, _, _, rfl, rfl, S4, bat3, _, _, rfl, rfl, _, _, rfl, rfl, .inl ⟨by omega, by omega⟩, _, rfl, g, _, _, _, rfl, rfl, S4, bat3, _, _, rfl, rfl, .inl (by decide), _, _, rfl, rfl, .inl ⟨_, rfl, _, _, rfl, rfl, (by show (0 : Int) < 2147483629; decide), ?_⟩⟩⟩
        refine ⟨_, rfl, _, _, rfl, rfl, ⟨by decide, by decide⟩, .inl ⟨_, rfl, _, rfl, _, _, rfl, rfl, (by omega), ?_⟩⟩
        obtain ⟨k, ek, hk⟩ := mod_nat hn (((y * 48271 + (x3 + 1) * 69621 + 7) % 2147483647 * ((y * 48271 + (x3 + 1) * 69621 + 7) % 2147483647 % 65537 + (x3 + 1)) + 40692 * (x3 + 1)) % 2147483629 / 11)
        have q := hq k _ hk ⟨_, c4⟩
        rw [← ek] at q
        exact q
  · rintro _ H2 ⟨t3, t4, t5, ⟨y1, y2, y3⟩, rfl, c2⟩
    obtain ⟨k, ek, hk⟩ := mod_nat hn y2
    refine ⟨_, rfl, g, _, _, _, rfl, rfl, SqL.of c2.1, bat2, .inl ⟨y2, rfl, _, rfl, _, _, rfl, rfl, (by omega), ?_⟩⟩
    refine ⟨_, rfl, g, _, _, _, rfl, rfl, SqL.of c2.1, bat2, _, rfl, _, _, rfl, rfl, ⟨by omega, by omega⟩, _, rfl, g, _, _, 2, rfl, rfl, c2.1, bix 2 (by decide), _, rfl, ?_⟩
    have q := hq k (L2.upd H2 g (bagO c (y1, y2 / (n : Int), y3))) hk ⟨_, c2.upd⟩
    rw [← ek] at q
    exact q
end
end Sy
/-! _law_word, _law_words -/
namespace Sy
open PySem PySem.Spec PyProof.Rows L2
theorem app_tl (x : Str) (c : Nat) : (x ++ (⟨#[c]⟩ : Str)).cps.toList = x.cps.toList ++ [c] := by
  show (x.cps ++ #[c]).toList = _
  simp
theorem app_tls (x y : Str) : (x ++ y).cps.toList = x.cps.toList ++ y.cps.toList := by
  show (x.cps ++ y.cps).toList = _
  simp
theorem cutS_take {z : Str} {k : Nat} (h : k ≤ z.length) : cutS z none (some (k : Int)) = ⟨(z.cps.toList.take k).toArray⟩ := by
  unfold cutS HT.sIx
  simp only [List.drop_zero, Nat.sub_zero]
  rw [if_neg (by omega), show min (k : Int).toNat z.length = k by omega]
theorem cutS_drop {z : Str} {k : Nat} (h : k ≤ z.length) : cutS z (some (k : Int)) none = ⟨(z.cps.toList.drop k).toArray⟩ := by
  unfold cutS HT.sIx
  simp only []
  rw [if_neg (by omega), show min (k : Int).toNat z.length = k by omega, List.take_of_length_le]
  rw [List.length_drop, ← len_tl]
  exact Nat.le_refl _
/-- a word with another letter at a place -/
def setL (x : Str) (i c : Nat) : Str := cutS x none (some (i : Int)) ++ (⟨#[97 + c]⟩ : Str) ++ cutS x (some ((i + 1 : Nat) : Int)) none
theorem setL_tl {x : Str} {i c : Nat} (h : i < x.length) : (setL x i c).cps.toList = x.cps.toList.take i ++ (97 + c) :: x.cps.toList.drop (i + 1) := by
  unfold setL
  rw [cutS_take (by omega), cutS_drop (by omega), app_tls, app_tl, List.append_assoc]
  rfl
theorem setL_wd {x : Str} (h : Wd x) {i c : Nat} (hi : i < x.length) (hc : c < 26) : Wd (setL x i c) := by
  obtain ⟨h1, h2, h3⟩ := h
  have lx := len_tl x
  unfold Wd
  rw [setL_tl hi]
  refine ⟨?_, ?_, fun d hd => ?_⟩
  · simp only [List.length_append, List.length_cons, List.length_take, List.length_drop]
    omega
  · simp only [List.length_append, List.length_cons, List.length_take, List.length_drop]
    omega
  · rcases List.mem_append.mp hd with hd | hd
    · exact h3 d (List.mem_of_mem_take hd)
    · rcases List.mem_cons.mp hd with rfl | hd
      · exact ⟨by omega, by omega⟩
      · exact h3 d (List.mem_of_mem_drop hd)
theorem setL_inj {x : Str} {i c d : Nat} (hi : i < x.length) (e : setL x i c = setL x i d) : c = d := by
  have := congrArg (fun s : Str => s.cps.toList) e
  simp only [setL_tl hi] at this
  have := List.append_cancel_left this
  simp at this
  omega
theorem setL_len {x : Str} (h : Wd x) {i c : Nat} (hi : i < x.length) : (setL x i c).length = x.length := by
  have lx := len_tl x
  rw [len_tl (setL x i c), setL_tl hi]
  simp only [List.length_append, List.length_cons, List.length_take, List.length_drop]
  omega
section
variable {P : Program} {w : World} {K : PySem.W.Frag} {mg : Str → Option Value} {base : Heap}
def spWord : Sp := fun vs H Q _ => ∃ c g : Addr, vs = [.ref g] ∧ Bag c g H ∧ ∀ x H', Wd x → Dr c g H H' → Q (.str x) H'
abbrev N_word : List Str := ["_law_bag_here", "_law_letters", "_law_word_here", "_law_k"]
theorem sc_word : FnScope N_word ["_law_bag_here"] (defScope (top 51)) := ⟨rfl, rfl, rfl, by decide +kernel, rfl, by decide +kernel, by decide +kernel⟩
theorem k_word (T : Txt K mg) (F : DF K mg "_law_word" 51) (c_law_pick : Cal P w K mg base 1 "_law_pick" ["_law_bag_here", "_law_limit"] spPick) : Cal P w K mg base 2 "_law_word" ["_law_bag_here"] spWord := by
  refine cal_of F.1 F.2 sc_word (fun _ _ _ _ _ _ us e => match us, e with | [_], _ => rfl) (fun vs H Q E s => by obtain ⟨_, _, rfl, _⟩ := s; rfl) ?_
  intro cdv A outer s H vs Q E hr h
  obtain ⟨c, g, rfl, hg, hq⟩ := h
  have sc := sc_word
  refine ⟨_, (pss_cons (ps_set (i := 1) sc.nd rfl (Or.inl rfl) pe_str)
      (pss_cons (ps_set (i := 2) sc.nd rfl (Or.inl rfl) pe_str)
      (pss_cons (ps_for (passes_of rfl) rfl (pi_range1 rfl T.range (pa_cons (pe_op op_add pe_int (pe_cal c_law_pick hr (pa_cons (pv 0) (pa_cons pe_int pa_nil)))) pa_nil)) (pg_name (i := 3) sc.nd rfl (Or.inl rfl))
        (pss_one (ps_set (i := 2) sc.nd rfl (Or.inl rfl) (pe_op op_add_str (pv 2) (pe_ix ix_str (pv 1) (pe_cal c_law_pick hr (pa_cons (pv 0) (pa_cons pe_int pa_nil))) (fun _ _ => rfl))))))
      (pss_one (ps_ret (pv 2)))))), ?_⟩
  refine ⟨_, rfl, c, g, 8, rfl, hg, by decide, by decide, fun r H1 hr1 d1 => ?_⟩
  refine ⟨_, _, rfl, rfl, _, rfl, by omega, by omega, for_rng (n := (1 + (r : Int)).toNat)
    (fun i σ H' => ∃ (x : Str) (t3 : Option V), σ = [some (.ref g), some (.str abc), some (.str x), t3] ∧ x.cps.toList.length = i ∧ (∀ c ∈ x.cps.toList, Lt c) ∧ Dr c g H H')
    ⟨Str.empty, none, rfl, rfl, fun c hc => (nomatch hc), d1⟩ ?_ ?_⟩
  · rintro i σ H2 hi ⟨x, t3, rfl, hx, hlt, dr⟩
    refine ⟨_, rfl, _, rfl, _, rfl, c, g, 26, rfl, hg.dr dr, by decide, by decide, fun cc H3 hc d3 => ?_⟩
    have lx := len_tl x
    refine ⟨abc, _, 97 + cc, rfl, rfl, by decide +kernel, atI_nat (abc_tl cc hc), x, _, rfl, rfl, ?_, _, _, rfl, ?_, fun d hd => ?_, dr.trans d3⟩
    · show x.length + 1 ≤ sizeLine
      rw [sizeLine_eq]
      omega
    · rw [app_tl, List.length_append, hx]
      rfl
    · rw [app_tl] at hd
      rcases List.mem_append.mp hd with hd | hd
      · exact hlt d hd
      · rw [List.mem_singleton.mp hd]
        exact ⟨by omega, by omega⟩
  · rintro σ H2 ⟨x, t3, rfl, hx, hlt, dr⟩
    exact ⟨_, rfl, hq x _ ⟨by omega, by omega, hlt⟩ dr⟩
/-! _law_words -/
def spWords : Sp := fun vs H Q _ => ∃ (c g : Addr) (n : Nat), vs = [.ref g, .int (n : Nat)] ∧ Bag c g H ∧ n ≤ 5 ∧ ∀ (q : Addr) (ws : List Str) H', ws.length = n → ws.Nodup → (∀ x ∈ ws, Wd x) → Dr c g H H' → H q = none → H' q = some (.lst (ws.map V.str)) → Q (.ref q) H'
abbrev N_words : List Str := ["_law_bag_here", "_law_many", "_law_letters", "_law_words_here", "_law_word_here", "_law_at", "_law_first", "_law_k", "_law_one"]
theorem sc_words : FnScope N_words ["_law_bag_here", "_law_many"] (defScope (top 52)) := ⟨rfl, rfl, rfl, by decide +kernel, rfl, by decide +kernel, by decide +kernel⟩
def five : List Str := ["q", "w", "e", "r", "t"]
theorem five_wd : ∀ x ∈ five, Wd x := by
  have : ∀ x ∈ five, 1 ≤ x.cps.toList.length ∧ x.cps.toList.length ≤ 8 ∧ ∀ c ∈ x.cps.toList, 97 ≤ c ∧ c ≤ 122 := by decide +kernel
  exact this
theorem five_nd : five.Nodup := by decide +kernel
theorem five_free {ws : List Str} (h : ws.length < 5) : ∃ x r, five.filter (fun y => decide (y ∉ ws)) = x :: r ∧ x ∉ ws ∧ Wd x := by
  cases e : five.filter (fun y => decide (y ∉ ws)) with
  | nil =>
    have all : ∀ y ∈ five, y ∈ ws := fun y hy => Decidable.byContradiction fun z => by
      have : y ∈ five.filter (fun y => decide (y ∉ ws)) := List.mem_filter.mpr ⟨hy, decide_eq_true z⟩
      rw [e] at this
      cases this
    have := nodup_le five_nd all
    have l5 : five.length = 5 := rfl
    omega
  | cons x r =>
    have hm : x ∈ five.filter (fun y => decide (y ∉ ws)) := by rw [e]; exact List.mem_cons_self
    obtain ⟨h1, h2⟩ := List.mem_filter.mp hm
    exact ⟨x, r, rfl, of_decide_eq_true h2, five_wd x h1⟩
theorem k_words (T : Txt K mg) (F : DF K mg "_law_words" 52) (c_law_pick : Cal P w K mg base 1 "_law_pick" ["_law_bag_here", "_law_limit"] spPick) (c_law_word : Cal P w K mg base 2 "_law_word" ["_law_bag_here"] spWord) : Cal P w K mg base 3 "_law_words" ["_law_bag_here", "_law_many"] spWords := by
  refine cal_of F.1 F.2 sc_words (fun _ _ _ _ _ _ us e => match us, e with | [_, _], _ => rfl) (fun vs H Q E s => by obtain ⟨_, _, _, rfl, _⟩ := s; rfl) ?_
  intro cdv A outer s H vs Q E hr h
  obtain ⟨c, g, n, rfl, hg, hn, hq⟩ := h
  have sc := sc_words
  refine ⟨_, (pss_cons (ps_set (i := 2) sc.nd rfl (Or.inl rfl) pe_str)
      (pss_cons (ps_set (i := 3) sc.nd rfl (Or.inr rfl) (pe_lst pa_nil))
      (pss_cons (ps_if (pt_cmpR op_eq (pe_cal c_law_pick hr (pa_cons (pv 0) (pa_cons pe_int pa_nil))) pe_int (nomark _))
        (pss_cons (ps_set (i := 4) sc.nd rfl (Or.inl rfl) (pe_cal c_law_word hr (pa_cons (pv 0) pa_nil)))
        (pss_cons (ps_set (i := 5) sc.nd rfl (Or.inl rfl) (pe_cal c_law_pick hr (pa_cons (pv 0) (pa_cons (pe_callB call_len_str (by rfl) T.len (by decide +kernel) (pa_cons (pv 4) pa_nil)) pa_nil))))
        (pss_cons (ps_set (i := 6) sc.nd rfl (Or.inl rfl) (pe_cal c_law_pick hr (pa_cons (pv 0) (pa_cons pe_int pa_nil))))
        (pss_cons (ps_for (passes_of rfl) rfl (pi_range1 rfl T.range (pa_cons (pv 1) pa_nil)) (pg_name (i := 7) sc.nd rfl (Or.inl rfl))
          (pss_one (ps_expr (pe_bm PySem.F.plainAttrs_list PySem.F.slot_list_append PySem.F.type_list_append mt_append (pv 3) (pa_cons (pe_op op_add_str (pe_op op_add_str (pe_slice sl_str (pv 4) po_none (po_some (pv 5))) (pe_ix ix_str (pv 2) (pe_op op_mod (pe_callTy call_int1 (by rfl) T.int (by decide +kernel) (pa_cons (pe_op op_add (pv 6) (pe_op op_mul pe_int (pv 7))) pa_nil)) pe_int) (fun _ _ => rfl))) (pe_slice sl_str (pv 4) (po_some (pe_op op_add (pv 5) pe_int)) po_none)) pa_nil)))))
        (pss_one (ps_ret (pv 3)))))))
        pss_nil)
      (pss_cons (ps_for (passes_of rfl) rfl (pi_range1 rfl T.range (pa_cons (pv 1) pa_nil)) (pg_name (i := 7) sc.nd rfl (Or.inl rfl))
        (pss_cons (ps_set (i := 4) sc.nd rfl (Or.inl rfl) (pe_cal c_law_word hr (pa_cons (pv 0) pa_nil)))
        (pss_cons (ps_cut (ps_if (pt_cmpR op_in_seq (pv 4) (pv 3) rfl)
          (pss_one (ps_set (i := 4) sc.nd rfl (Or.inl rfl) (pe_ixK K rfl (pe_lc (own := [("_law_one", 8)]) (g := gName 8) rfl sc.nd (pi_tup (pe_tup (pa_cons pe_str (pa_cons pe_str (pa_cons pe_str (pa_cons pe_str (pa_cons pe_str pa_nil))))))) (blkOk_by (N := N_words) (sc := defScope (top 52)) (by decide +kernel)) (fun _ _ _ _ _ => (pg_name (i := 8) sc.nd rfl (Or.inl rfl))) (fun _ _ _ _ _ => (pts_one (pt_cmpR (op_notInK K rfl) (pv 8) (pv 3) rfl))) (fun _ _ _ _ _ => (pv 8))) pe_int (fun _ _ => rfl))))
          pss_nil))
        (pss_one (ps_expr (pe_bm PySem.F.plainAttrs_list PySem.F.slot_list_append PySem.F.type_list_append mt_append (pv 3) (pa_cons (pv 4) pa_nil)))))))
      (pss_one (ps_ret (pv 3))))))), ?_⟩
  refine ⟨by decide, fun D hD => ?_⟩
  obtain ⟨x0, h0, bc0⟩ := hg.take
  have hDg : (L2.del H g) D = none := by
    unfold L2.del
    split
    · rfl
    · exact hD
  have h1 := (h0.new (o := .lst []) hD).swap
  refine ⟨_, rfl, c, g, 2, rfl, h1.bag bc0, by decide, by decide, fun r H1 hr1 d1 => ⟨rfl, _, rfl, if_dec (fun c1 => ?_) (fun c1 => ?_)⟩⟩
  · obtain ⟨x1, B1, s1, h1⟩ := h1.dr0 d1
    refine ⟨_, rfl, c, g, rfl, h1.bag (bc0.mono s1), fun x H2 hx d2 => ?_⟩
    obtain ⟨x2, B2, s2, h2⟩ := h1.dr0 d2
    have lx := len_tl x
    have l8 := hx.2.1
    have l1 := hx.1
    have s12 := s1.trans s2
    refine ⟨_, rfl, _, rfl, x, rfl, by rw [sizeLine_eq]; omega, c, g, x.length, rfl, h2.bag (bc0.mono s12), by omega, by omega, fun at_ H3 hat d3 => ?_⟩
    obtain ⟨x3, B3, s3, h3⟩ := h2.dr0 d3
    have s13 := s12.trans s3
    refine ⟨_, rfl, c, g, 26, rfl, h3.bag (bc0.mono s13), by decide, by decide, fun f H4 hf d4 => ?_⟩
    obtain ⟨x4, B4, s4, h4⟩ := h3.dr0 d4
    have s14 := s13.trans s4
    refine ⟨_, rfl, _, rfl, by omega, by omega, for_rng (n := n)
      (fun i σ H' => ∃ t7 : Option V, σ = [some (.ref g), some (.int (n : Nat)), some (.str abc), some (.ref D), some (.str x), some (.int (at_ : Nat)), some (.int (f : Nat)), t7, none] ∧ Hs B4 [(D, .lst (((List.range i).map fun k => setL x at_ ((f + 5 * k) % 26)).map V.str)), (g, bagO c x4)] H')
      ⟨none, rfl, h4.swap⟩ ?_ ?_⟩
    · rintro i σ H5 hi ⟨t7, rfl, hh⟩
      have em : ((f : Int) + 5 * (i : Nat)) % 26 = (((f + 5 * i) % 26 : Nat) : Int) := by omega
      have hm : (f + 5 * i) % 26 < 26 := Nat.mod_lt _ (by decide)
      have ls := setL_len hx (c := (f + 5 * i) % 26) hat
      refine ⟨_, rfl, .inl ⟨rfl, _, SqL.of hh.r0⟩, ?_⟩
      refine ⟨_, rfl, _, rfl, _, rfl, x, rfl, by rw [sizeLine_eq]; omega, ?_⟩
      refine ⟨_, rfl, _, rfl, _, rfl, _, _, rfl, rfl, .inl (by decide), _, _, rfl, rfl, .inl ⟨_, rfl, _, _, rfl, rfl, (by show (0 : Int) < 26; decide), abc, _, 97 + (f + 5 * i) % 26, rfl, rfl, by decide +kernel, ?_, _, _, rfl, rfl, ?_, ?_⟩⟩
      · rw [em]
        exact atI_nat (abc_tl _ hm)
      · have := len_tl (cutS x none (some (at_ : Int)))
        rw [cutS_take (by omega)] at this
        rw [cutS_take (by omega), this, sizeLine_eq]
        simp only [List.length_take]
        show _ + 1 ≤ _
        omega
      · refine ⟨_, rfl, _, rfl, _, _, rfl, rfl, _, rfl, x, rfl, by rw [sizeLine_eq]; omega, ?_⟩
        dsimp only [tNoPart]
        refine ⟨_, _, rfl, rfl, ?_, ?_⟩
        · have e : ((at_ : Int) + 1) = ((at_ + 1 : Nat) : Int) := by omega
          have h2 := PySem.Str.length_append (cutS x none (some (at_ : Int)) ++ (⟨#[97 + (f + 5 * i) % 26]⟩ : Str)) (cutS x (some ((at_ + 1 : Nat) : Int)) none)
          have h3 : (setL x at_ ((f + 5 * i) % 26)).length = _ := h2
          rw [ls] at h3
          rw [e, ← h3, sizeLine_eq]
          omega
        · have e : ((at_ : Int) + 1) = ((at_ + 1 : Nat) : Int) := by omega
          rw [e]
          refine ⟨D, _, _, rfl, rfl, hh.r0, by rw [List.length_map, List.length_map, List.length_range, sizeLine_eq]; omega, _, rfl, ?_⟩
          rw [List.range_succ, List.map_append, List.map_append]
          exact hh.w0
    · rintro σ H5 ⟨t7, rfl, hh⟩
      refine ⟨_, rfl, hq D _ H5 (by rw [List.length_map, List.length_range]) ?_ (fun y hy => ?_) (hh.swap.isDr s14) hD hh.r0⟩
      · rw [List.nodup_iff_pairwise_ne, List.pairwise_map]
        refine List.Pairwise.imp_of_mem ?_ (List.nodup_iff_pairwise_ne.mp List.nodup_range)
        intro a b ha hb hab e
        have ha := List.mem_range.mp ha
        have hb := List.mem_range.mp hb
        have := setL_inj hat e
        omega
      · obtain ⟨k, _, rfl⟩ := List.mem_map.mp hy
        exact setL_wd hx hat (Nat.mod_lt _ (by decide))
  · obtain ⟨x1, B1, s1, h1⟩ := h1.dr0 d1
    refine ⟨_, rfl, _, rfl, by omega, by omega, for_rng (n := n)
      (fun i σ H' => ∃ (t4 t7 : Option V) (ws : List Str) (x : Int × Int × Int) (B : Hp), σ = [some (.ref g), some (.int (n : Nat)), some (.str abc), some (.ref D), t4, none, none, t7, none] ∧ ws.length = i ∧ ws.Nodup ∧ (∀ y ∈ ws, Wd y) ∧ Same (L2.del H g) B ∧ Hs B [(g, bagO c x), (D, .lst (ws.map V.str))] H')
      ⟨none, none, [], x1, B1, rfl, rfl, List.nodup_nil, fun _ z => (nomatch z), s1, h1⟩ ?_ ?_⟩
    · rintro i σ H2 hi ⟨t4, t7, ws, x2, B, rfl, hl, nd, hwd, sB, hh⟩
      refine ⟨_, rfl, c, g, rfl, hh.bag (bc0.mono sB), fun x H3 hx d3 => ?_⟩
      obtain ⟨x3, B3, s3, h3⟩ := hh.dr0 d3
      refine ⟨fun σ' H' => ∃ (y : Str) (B' : Hp), σ' = [some (.ref g), some (.int (n : Nat)), some (.str abc), some (.ref D), some (.str y), none, none, some (.int (i : Nat)), none] ∧ Wd y ∧ y ∉ ws ∧ Same B3 B' ∧ Hs B' [(g, bagO c x3), (D, .lst (ws.map V.str))] H',
        ⟨_, rfl, _, rfl, D, _, rfl, .inl (SqL.of h3.r1), rfl, by simp [flatV], _, rfl, ?_⟩, ?_⟩
      · rw [inV_strs]
        refine if_dec (fun c1 => ?_) (fun c1 => ⟨x, B3, rfl, hx, c1, Same.refl _, h3⟩)
        refine ⟨(by show 5 ≤ sizeLine; decide), fun p hp => ?_⟩
        have s4 := up_same (o := .tup [.str "q", .str "w", .str "e", .str "r", .str "t"]) hp
        have e4 : upd H3 p (.tup [.str "q", .str "w", .str "e", .str "r", .str "t"]) p = some (.tup (five.map V.str)) := upd_same
        have eD := s4 _ _ h3.r1
        generalize upd H3 p (.tup [.str "q", .str "w", .str "e", .str "r", .str "t"]) = H4 at *
        obtain ⟨y, r, ey, ny, wy⟩ := five_free (ws := ws) (by omega)
        refine ⟨p, rfl, ⟨_, SqT.of e4⟩, fun D5 hD5 => lc_filtT (K := K) (xs := five) (f := V.str) (out := V.str) (keep := fun y => decide (y ∉ ws)) (Hs.start H4) hD5 (SqT.of e4) (by decide) (fun z _ H5 s5 R1 R2 k1 k2 => ?_) (fun H5 h5 => ?_)⟩
        · refine ⟨_, rfl, _, rfl, D, _, rfl, .inl (SqL.of (s5 _ _ eD)), rfl, by simp [flatV], _, rfl, ?_⟩
          rw [inV_strs]
          by_cases e : z ∈ ws
          · rw [decide_eq_true e]
            exact iteF (k2 (by simp [e]))
          · rw [decide_eq_false e]
            exact iteT ⟨_, rfl, k1 (by simp [e])⟩
        · have h5e := h5.r0
          rw [ey] at h5e
          have a5 := h3.after (s4.trans h5.sub)
          refine ⟨D5, _, _, .str y, rfl, rfl, SqL.of h5e, atI_nat (j := 0) rfl, y, _, ?_, wy, ny, a5.1, a5.2⟩
          simp only [wipe, List.set_cons_succ, List.set_cons_zero]
      · rintro _ H5 ⟨y, B', rfl, wy, ny, sB', h5⟩
        refine ⟨_, rfl, .inl ⟨rfl, _, SqL.of h5.r1⟩, _, rfl, D, _, _, rfl, rfl, h5.r1, by rw [List.length_map, sizeLine_eq]; omega, _, _, ws ++ [y], x3, B', rfl, by rw [List.length_append, hl]; rfl, ?_, fun z hz => ?_, sB.trans (s3.trans sB'), ?_⟩
        · rw [List.nodup_append]
          exact ⟨nd, by simp, fun a ha b hb e => ny (by rw [List.mem_singleton.mp hb] at e; rw [← e]; exact ha)⟩
        · rcases List.mem_append.mp hz with hz | hz
          · exact hwd z hz
          · rw [List.mem_singleton.mp hz]
            exact wy
        · rw [List.map_append]
          exact h5.w1
    · rintro σ H2 ⟨t4, t7, ws, x2, B, rfl, hl, nd, hwd, sB, hh⟩
      exact ⟨_, rfl, hq D ws H2 hl nd hwd (hh.isDr sB) hD hh.r1⟩
end
end Sy
/-! _law_kinds, _law_arity, _law_bed -/
namespace Sy
open PySem PySem.Spec PyProof.Rows L2
theorem len2 {α : Type} : ∀ {l : List α}, l.length = 2 → ∃ a b, l = [a, b]
  | [a, b], _ => ⟨a, b, rfl⟩
theorem len3 {α : Type} : ∀ {l : List α}, l.length = 3 → ∃ a b c, l = [a, b, c]
  | [a, b, c], _ => ⟨a, b, c, rfl⟩
theorem len4 {α : Type} : ∀ {l : List α}, l.length = 4 → ∃ a b c d, l = [a, b, c, d]
  | [a, b, c, d], _ => ⟨a, b, c, d, rfl⟩
theorem len5 {α : Type} : ∀ {l : List α}, l.length = 5 → ∃ a b c d e, l = [a, b, c, d, e]
  | [a, b, c, d, e], _ => ⟨a, b, c, d, e, rfl⟩
/-- the law's rows, each with its place -/
structure RwP (K : PySem.W.Frag) (B : Hp) (pr : List (Addr × Sy.Row)) : Prop where
  at_ : ∀ z ∈ pr, SqT K B z.1 [.str z.2.1, .int (z.2.2 : Nat)]
theorem RwP.stay {K : PySem.W.Frag} {B B' : Hp} {pr : List (Addr × Sy.Row)} (h : RwP K B pr) (s : Stay B B') : RwP K B' pr := ⟨fun z hz => s.sqt (h.at_ z hz)⟩
theorem RwP.mono {K : PySem.W.Frag} {B B' : Hp} {pr : List (Addr × Sy.Row)} (h : RwP K B pr) (s : Same B B') : RwP K B' pr := h.stay (Stay.of s)
theorem RwP.paired {K : PySem.W.Frag} {H : Hp} : ∀ {pr : List (Addr × Sy.Row)}, RwP K H pr → Paired (fun q (r : Sy.Row) => SqT K H q [.str r.1, .int (r.2 : Nat)]) (pr.map (·.1)) (pr.map (·.2))
  | [], _ => .nil
  | z :: pr, h => .cons (h.at_ z List.mem_cons_self) (RwP.paired ⟨fun y hy => h.at_ y (List.mem_cons_of_mem _ hy)⟩)
/-- the law's rows as a list at q -/
def RL (K : PySem.W.Frag) (H : Hp) (q : Addr) (rows : List Sy.Row) : Prop := ∃ pr : List (Addr × Sy.Row), pr.map (·.2) = rows ∧ H q = some (.lst (pr.map fun z => V.ref z.1)) ∧ RwP K H pr
theorem RL.mono {K : PySem.W.Frag} {H H' : Hp} {q : Addr} {rows : List Sy.Row} (h : RL K H q rows) (s : Same H H') : RL K H' q rows := by
  obtain ⟨pr, h1, h2, h3⟩ := h
  exact ⟨pr, h1, s _ _ h2, h3.mono s⟩
/-- kinds as the law draws them -/
structure KdsOk (rows : List Sy.Row) : Prop where
  ok : RowsOk rows
  wd : ∀ r ∈ rows, Wd r.1
  ge : 2 ≤ rows.length
  le : rows.length ≤ 5
theorem menu_at {L : List Nat} {j : Nat} (h : j < L.length) : ∃ n ∈ L, (vN L)[j]? = some (.int (n : Nat)) :=
  ⟨L[j], List.getElem_mem _, by rw [vN, List.getElem?_map, List.getElem?_eq_getElem h]; rfl⟩
theorem inV_nats (n : Nat) (ns : List Nat) : inV (.int (n : Int)) (vN ns) = decide (n ∈ ns) := by
  unfold inV vN
  induction ns with
  | nil => rfl
  | cons x l ih =>
    rw [List.map_cons, List.any_cons, ih]
    have : eqV (V.int (x : Int)) (V.int (n : Int)) = decide (x = n) := by
      show ((x : Int) == (n : Int)) = _
      by_cases h : x = n
      · subst h
        simp
      · rw [decide_eq_false h, beq_eq_false_iff_ne]
        omega
    rw [this]
    by_cases h : x = n
    · subst h
      simp
    · have h2 : n ≠ x := fun z => h z.symm
      simp [h, h2]
theorem all_nats (l : List Nat) : (vN l).all flatV = true := by
  rw [vN, List.all_map, List.all_eq_true]
  intro x _
  rfl
theorem zip_nd : ∀ {ws : List Str} {cs : List Nat}, ws.length = cs.length → (ws.zip cs).map (·.1) = ws ∧ (ws.zip cs).map (·.2) = cs
  | [], [], _ => ⟨rfl, rfl⟩
  | x :: ws, n :: cs, h => by
    have := zip_nd (ws := ws) (cs := cs) (by simpa using h)
    simp only [List.zip_cons_cons, List.map_cons]
    exact ⟨by rw [this.1], by rw [this.2]⟩
section
variable {P : Program} {w : World} {K : PySem.W.Frag} {mg : Str → Option Value} {base : Heap}
def spKinds (K : PySem.W.Frag) : Sp := fun vs H Q _ => ∃ c g : Addr, vs = [.ref g] ∧ Bag c g H ∧ ∀ (q : Addr) (rows : List Sy.Row) H', KdsOk rows → rows.length ≤ 4 → Dr c g H H' → H q = none → RL K H' q rows → Q (.ref q) H'
abbrev N_kinds : List Str := ["_law_bag_here", "_law_counts", "_law_k", "_law_count", "_law_words_here"]
theorem sc_kinds : FnScope N_kinds ["_law_bag_here"] (defScope (top 53)) := ⟨rfl, rfl, rfl, by decide +kernel, rfl, by decide +kernel, by decide +kernel⟩
theorem k_kinds (T : Txt K mg) (F : DF K mg "_law_kinds" 53) (c_law_pick : Cal P w K mg base 1 "_law_pick" ["_law_bag_here", "_law_limit"] spPick) (c_law_words : Cal P w K mg base 3 "_law_words" ["_law_bag_here", "_law_many"] spWords) : Cal P w K mg base 4 "_law_kinds" ["_law_bag_here"] (spKinds K) := by
  refine cal_of F.1 F.2 sc_kinds (fun _ _ _ _ _ _ us e => match us, e with | [_], _ => rfl) (fun vs H Q E s => by obtain ⟨_, _, rfl, _⟩ := s; rfl) ?_
  intro cdv A outer s H vs Q E hr h
  obtain ⟨c, g, rfl, hg, hq⟩ := h
  have sc := sc_kinds
  refine ⟨_, (pss_cons (ps_set (i := 1) sc.nd rfl (Or.inr rfl) (pe_lst pa_nil))
      (pss_cons (ps_for (passes_of rfl) rfl (pi_range1 rfl T.range (pa_cons (pe_ix ix_tup (pe_tup (pa_cons pe_int (pa_cons pe_int (pa_cons pe_int (pa_cons pe_int pa_nil))))) (pe_cal c_law_pick hr (pa_cons (pv 0) (pa_cons pe_int pa_nil))) (fun _ _ => rfl)) pa_nil)) (pg_name (i := 2) sc.nd rfl (Or.inl rfl))
        (pss_cons (ps_set (i := 3) sc.nd rfl (Or.inl rfl) (pe_ix ix_tup (pe_tup (pa_cons pe_int (pa_cons pe_int (pa_cons pe_int (pa_cons pe_int (pa_cons pe_int (pa_cons pe_int (pa_cons pe_int pa_nil)))))))) (pe_cal c_law_pick hr (pa_cons (pv 0) (pa_cons pe_int pa_nil))) (fun _ _ => rfl)))
        (pss_cons (ps_cut (ps_if (PW.pt (pw_and (pt_cmpR op_eq (pv 3) pe_int (nomark _)) (pw_and1 (pt_cmpR op_in_seq pe_int (pv 1) rfl))))
          (pss_one (ps_set (i := 3) sc.nd rfl (Or.inl rfl) pe_int))
          pss_nil))
        (pss_one (ps_expr (pe_bm PySem.F.plainAttrs_list PySem.F.slot_list_append PySem.F.type_list_append mt_append (pv 1) (pa_cons (pv 3) pa_nil)))))))
      (pss_cons (ps_cut (ps_if (pt_cmpR op_notIn_seq pe_int (pv 1) rfl)
        (pss_one (ps_asg pe_int (pg_sub (pv 1) (pe_cal c_law_pick hr (pa_cons (pv 0) (pa_cons (pe_callB call_len_seq (by rfl) T.len (by decide +kernel) (pa_cons (pv 1) pa_nil)) pa_nil))) set_list)))
        pss_nil))
      (pss_cons (ps_set (i := 4) sc.nd rfl (Or.inr rfl) (pe_cal c_law_words hr (pa_cons (pv 0) (pa_cons (pe_callB call_len_seq (by rfl) T.len (by decide +kernel) (pa_cons (pv 1) pa_nil)) pa_nil))))
      (pss_one (ps_ret (pe_lc (own := [("_law_k", 2)]) (g := gName 2) rfl sc.nd (pi_range1 rfl T.range (pa_cons (pe_callB call_len_seq (by rfl) T.len (by decide +kernel) (pa_cons (pv 1) pa_nil)) pa_nil)) (blkOk_by (N := N_kinds) (sc := defScope (top 53)) (by decide +kernel)) (fun _ _ _ _ _ => (pg_name (i := 2) sc.nd rfl (Or.inl rfl))) (fun _ _ _ _ _ => pts_nil) (fun _ _ _ _ _ => (pe_tup (pa_cons (pe_ixK K rfl (pv 4) (pv 2) (fun _ _ => rfl)) (pa_cons (pe_ixK K rfl (pv 1) (pv 2) (fun _ _ => rfl)) pa_nil))))))))))), ?_⟩
  obtain ⟨x0, h0, bc0⟩ := hg.take
  refine ⟨by decide, fun D hD => ?_⟩
  have h1 := (h0.new (o := .lst []) hD).swap
  refine ⟨(by show 4 ≤ sizeLine; decide), fun p hp => ?_⟩
  have h2 := h1.tup (o := .tup (vN [2, 4, 3, 3])) hp
  have sp := up_same (o := .tup (vN [2, 4, 3, 3])) (h1.sub.free hp)
  have ep : upd (L2.del H g) p (.tup (vN [2, 4, 3, 3])) p = some (.tup (vN [2, 4, 3, 3])) := upd_same
  generalize upd (L2.del H g) p (.tup (vN [2, 4, 3, 3])) = B0 at *
  refine ⟨_, rfl, c, g, 4, rfl, h2.bag (bc0.mono sp), by decide, by decide, fun j H1 hj d1 => ?_⟩
  obtain ⟨x1, B1, s1, h3⟩ := h2.dr0 d1
  obtain ⟨m, hm, em⟩ := menu_at (L := [2, 4, 3, 3]) hj
  have hm : 2 ≤ m ∧ m ≤ 4 := by simp only [List.mem_cons, List.not_mem_nil, or_false] at hm; omega
  refine ⟨p, _, _, _, rfl, rfl, SqT.of (h3.sub _ _ (s1 _ _ ep)), atI_nat em, ?_⟩
  refine ⟨_, rfl, by omega, by omega, for_rng (n := m)
    (fun i σ H' => ∃ (t2 t3 : Option V) (cs : List Nat) (x : Int × Int × Int) (B : Hp), σ = [some (.ref g), some (.ref D), t2, t3, none] ∧ cs.length = i ∧ (∀ n ∈ cs, n ≤ 3) ∧ Same (L2.del H g) B ∧ Hs B [(g, bagO c x), (D, .lst (vN cs))] H')
    ⟨none, none, [], x1, B1, rfl, rfl, fun _ z => (nomatch z), sp.trans s1, h3⟩ ?_ ?_⟩
  · rintro i σ H2 hi ⟨t2, t3, cs, x, B, rfl, hl, hc3, sB, hh⟩
    refine ⟨(by show 7 ≤ sizeLine; decide), fun p4 hp4 => ?_⟩
    have h4 := hh.tup (o := .tup (vN [0, 2, 1, 2, 1, 0, 3])) hp4
    have s4 := up_same (o := .tup (vN [0, 2, 1, 2, 1, 0, 3])) (hh.sub.free hp4)
    have e4 : upd B p4 (.tup (vN [0, 2, 1, 2, 1, 0, 3])) p4 = some (.tup (vN [0, 2, 1, 2, 1, 0, 3])) := upd_same
    generalize upd B p4 (.tup (vN [0, 2, 1, 2, 1, 0, 3])) = B4 at *
    refine ⟨_, rfl, c, g, 7, rfl, h4.bag (bc0.mono (sB.trans s4)), by decide, by decide, fun j4 H5 hj4 d5 => ?_⟩
    obtain ⟨x5, B5, s5, h5⟩ := h4.dr0 d5
    obtain ⟨n, hn, en⟩ := menu_at (L := [0, 2, 1, 2, 1, 0, 3]) hj4
    have hn : n ≤ 3 := by simp only [List.mem_cons, List.not_mem_nil, or_false] at hn; omega
    refine ⟨p4, _, _, _, rfl, rfl, SqT.of (h5.sub _ _ (s5 _ _ e4)), atI_nat en, ?_⟩
    refine ⟨fun σ' H' => ∃ n : Nat, n ≤ 3 ∧ H' = H5 ∧ σ' = [some (.ref g), some (.ref D), some (.int (i : Nat)), some (.int (n : Nat)), none], ⟨_, rfl, rfl, _, rfl, if_dec (fun c1 => ?_) (fun c1 => ⟨n, hn, rfl, rfl⟩)⟩, ?_⟩
    · refine ⟨_, rfl, D, _, rfl, .inl (SqL.of h5.r1), rfl, all_nats cs, _, rfl, if_bool (fun _ => ⟨2, by decide, rfl, rfl⟩) (fun _ => ⟨n, hn, rfl, rfl⟩)⟩
    · rintro _ _ ⟨n, hn, rfl, rfl⟩
      refine ⟨_, rfl, .inl ⟨rfl, _, SqL.of h5.r1⟩, _, rfl, D, _, _, rfl, rfl, h5.r1, by rw [List.length_map, sizeLine_eq]; omega, _, _, cs ++ [n], x5, B5, rfl, by rw [List.length_append, hl]; rfl, fun y hy => ?_, (sB.trans s4).trans s5, ?_⟩
      · rcases List.mem_append.mp hy with hy | hy
        · exact hc3 y hy
        · rw [List.mem_singleton.mp hy]
          exact hn
      · have : vN (cs ++ [n]) = vN cs ++ [.int (n : Nat)] := by rw [vN, vN, List.map_append]; rfl
        rw [this]
        exact h5.w1
  · rintro σ H2 ⟨t2, t3, cs, x, B, rfl, hl, hc3, sB, hh⟩
    refine ⟨fun σ' H' => ∃ (cs : List Nat) (x : Int × Int × Int) (B : Hp), σ' = [some (.ref g), some (.ref D), t2, t3, none] ∧ cs.length = m ∧ (∀ n ∈ cs, n ≤ 3) ∧ 0 ∈ cs ∧ Same (L2.del H g) B ∧ Hs B [(g, bagO c x), (D, .lst (vN cs))] H',
      ⟨_, rfl, D, _, rfl, .inl (SqL.of hh.r1), rfl, all_nats cs, _, rfl, ?_⟩, ?_⟩
    · have e0 : inV (V.int 0) (vN cs) = decide (0 ∈ cs) := inV_nats 0 cs
      rw [e0]
      refine if_ndec (fun c1 => ?_) (fun c1 => ⟨cs, x, B, rfl, hl, hc3, c1, sB, hh⟩)
      refine ⟨_, rfl, _, rfl, _, rfl, D, _, rfl, .inl (SqL.of hh.r1), c, g, cs.length, by rw [List.length_map], hh.bag (bc0.mono sB), by omega, by omega, fun k H3 hk d3 => ?_⟩
      obtain ⟨x3, B3, s3, h3⟩ := hh.dr0 d3
      refine ⟨D, _, _, k, rfl, rfl, h3.r1, ixN_nat (by rw [List.length_map]; exact hk), cs.set k 0, x3, B3, rfl, by rw [List.length_set, hl], fun n hn => ?_, ?_, sB.trans s3, ?_⟩
      · rcases List.mem_or_eq_of_mem_set hn with h | h
        · exact hc3 n h
        · omega
      · exact List.mem_iff_getElem?.mpr ⟨k, by rw [List.getElem?_set_self (by omega)]⟩
      · have e : (vN cs).set k (.int 0) = vN (cs.set k 0) := vN_set cs k 0
        rw [← e]
        exact h3.w1
    · rintro _ H3 ⟨cs, x, B, rfl, hl, hc3, hz, sB, hh⟩
      refine ⟨_, rfl, _, rfl, D, _, rfl, .inl (SqL.of hh.r1), c, g, cs.length, by rw [List.length_map], hh.bag (bc0.mono sB), by omega, fun q ws H4 hw nd hwd d4 nq eq => ?_⟩
      obtain ⟨x4, B4, s4, h4, st4, new4⟩ := hh.drN (AllL.cons AllL.nil) d4
      have eqB := new4 q _ nq eq
      have h5 := h4.swap.give
      have h6 := h5.2
      have e6 : upd B4 D (.lst (vN cs)) D = some (.lst (vN cs)) := upd_same
      have q6 := h5.1 _ _ eqB
      have s6 := s4.trans h5.1
      generalize upd B4 D (.lst (vN cs)) = B6 at *
      refine ⟨_, rfl, D, _, rfl, .inl (SqL.of (h6.sub _ _ e6)), _, rfl, by rw [List.length_map]; omega, by rw [List.length_map]; omega, fun R hR => ?_⟩
      have hlen : (vN cs).length = cs.length := List.length_map ..
      have en : (((vN cs).length : Nat) : Int).toNat = cs.length := by omega
      refine lc_it (n := (((vN cs).length : Nat) : Int).toNat) walk_range (fun i H' => ∃ (pr : List (Addr × Sy.Row)) (B' : Hp), pr.map (·.2) = (ws.zip cs).take i ∧ RwP K B' pr ∧ Same B6 B' ∧ Hs B' [(R, .lst (pr.map fun z => V.ref z.1)), (g, bagO c x4)] H') ⟨[], B6, rfl, ⟨fun _ z => (nomatch z)⟩, Same.refl _, h6.new hR⟩ (fun _ _ _ _ => trivial) ?_ ?_
      · rintro i v H7 _ hi ⟨pr, B', hpr, hat, sB', hh⟩ ⟨rfl, rfl⟩
        rw [en] at hi
        obtain ⟨y, ey⟩ : ∃ y, ws[i]? = some y := ⟨_, List.getElem?_eq_getElem (by omega)⟩
        obtain ⟨n, en'⟩ : ∃ n, cs[i]? = some n := ⟨_, List.getElem?_eq_getElem hi⟩
        have e0 : (0 : Int) + (i : Nat) = (i : Nat) := by omega
        have ezip : (ws.zip cs)[i]? = some (y, n) := by rw [List.getElem?_zip_eq_some]; exact ⟨ey, en'⟩
        have hpl : pr.length ≤ 5 := by
          have := congrArg List.length hpr
          rw [List.length_map, List.length_take, List.length_zip] at this
          omega
        refine ⟨rfl, ?_⟩
        simp only [tYes, if_true]
        rw [e0]
        refine ⟨_, rfl, _, rfl, q, _, _, _, rfl, rfl, SqL.of (hh.sub _ _ (sB' _ _ q6)), atI_nat (by rw [List.getElem?_map, ey]; rfl), _, rfl, _, rfl, D, _, _, _, rfl, rfl, SqL.of (hh.sub _ _ (sB' _ _ e6)), atI_nat (by rw [List.getElem?_map, en']; rfl), by show 2 ≤ sizeLine; decide, fun p9 hp9 => ?_⟩
        have h9 := hh.tup (o := .tup [.str y, .int (n : Nat)]) hp9
        have s9 := up_same (o := .tup [.str y, .int (n : Nat)]) (hh.sub.free hp9)
        refine ⟨_, h9.r0, by rw [List.length_map, sizeLine_eq]; omega, pr ++ [(p9, (y, n))], _, ?_, ⟨fun z hz => ?_⟩, sB'.trans s9, ?_⟩
        · rw [List.map_append, hpr, List.take_succ, ezip]
          rfl
        · rcases List.mem_append.mp hz with hz | hz
          · exact Same.sqt s9 (hat.at_ z hz)
          · rw [List.mem_singleton.mp hz]
            exact SqT.of upd_same
        · rw [List.map_append]
          exact h9.w0
      · rintro H7 ⟨pr, B', hpr, hat, sB', hh⟩
        have hzl : (ws.zip cs).length = cs.length := by rw [List.length_zip]; omega
        have hpr : pr.map (·.2) = ws.zip cs := by rw [hpr, en, List.take_of_length_le (by omega)]
        obtain ⟨z1, z2⟩ := zip_nd (ws := ws) (cs := cs) hw
        have dr := hh.swap.isDr (((sB.trans s6)).trans sB')
        refine hq R (ws.zip cs) H7 ⟨⟨fun r hr => (hwd r.1 ?_).ok, fun r hr => hc3 r.2 ?_, by rw [z1]; exact nd, ?_, by omega⟩, fun r hr => hwd r.1 ?_, by omega, by omega⟩ (by omega) dr ?_ ⟨pr, hpr, hh.r0, hat.mono hh.sub⟩
        · rw [← z1]; exact List.mem_map_of_mem hr
        · rw [← z2]; exact List.mem_map_of_mem hr
        · rw [← z2] at hz
          obtain ⟨r, hr, e⟩ := List.mem_map.mp hz
          exact ⟨r, hr, e⟩
        · rw [← z1]; exact List.mem_map_of_mem hr
        · by_cases e : R = g
          · exact absurd hR (by rw [e, h6.r0]; exact fun z => nomatch z)
          · have n1 : B6 R = none := h6.sub.free hR
            have n2 := (sB.trans s6).free n1
            rw [del_ne e] at n2
            exact n2
/-! _law_arity -/
def spArD (K : PySem.W.Frag) : Sp := fun vs H Q _ => ∃ (q : Addr) (rows : List Sy.Row), vs = [.ref q] ∧ RL K H q rows ∧ (rows.map (·.1)).Nodup ∧ rows.length ≤ 8 ∧ ∀ d H', Same H H' → H' d = some (.dK (arKV rows)) → Q (.ref d) H'
abbrev N_arD : List Str := ["_law_kinds_here", "_law_arity_here", "_law_pair"]
theorem sc_arD : FnScope N_arD ["_law_kinds_here"] (defScope (top 54)) := ⟨rfl, rfl, rfl, by decide +kernel, rfl, by decide +kernel, by decide +kernel⟩
theorem k_arD (F : DF K mg "_law_arity" 54) : Cal P w K mg base 1 "_law_arity" ["_law_kinds_here"] (spArD K) := by
  refine cal_of F.1 F.2 sc_arD (fun _ _ _ _ _ _ us e => match us, e with | [_], _ => rfl) (fun vs H Q E s => by obtain ⟨_, _, rfl, _⟩ := s; rfl) ?_
  intro cdv A outer s H vs Q E hr h
  obtain ⟨q, rows, rfl, ⟨pr, rfl, hL, hP⟩, hnd, hle, hq⟩ := h
  have hu := hu_of hr
  have sc := sc_arD
  refine ⟨_, (pss_cons (ps_set (i := 1) sc.nd rfl (Or.inl rfl) pe_dnewK)
      (pss_cons (ps_for (passes_of rfl) rfl (pi_list (pv 0)) (pg_name (i := 2) sc.nd rfl (Or.inl rfl))
        (pss_one (ps_dput hu (pv 1) (pe_ix ix_tup (pv 2) pe_int (fun _ _ => rfl)) (pe_ix ix_tup (pv 2) pe_int (fun _ _ => rfl)) rfl)))
      (pss_one (ps_ret (pv 1))))), ?_⟩
  intro d hd
  have k1 := (Hs.start H).new (o := .dK []) hd
  rw [List.length_map] at hle
  refine ⟨_, rfl, q, rfl, ⟨_, SqL.of (k1.sub _ _ hL)⟩, for_list (K := K) (xs := pr.map fun z => V.ref z.1) (fun i σ H' => ∃ t2, σ = [some (.ref q), some (.ref d), t2] ∧ Hs H [(d, .dK (arKV ((pr.map (·.2)).take i)))] H') ⟨none, rfl, k1⟩ (fun _ _ _ _ ⟨_, _, z⟩ => SqL.of (z.sub _ _ hL)) ?_ ?_⟩
  · rintro i v σ H1 hv ⟨t2, rfl, hh⟩
    obtain ⟨z, ez, rfl⟩ := map_at hv
    have hm := List.mem_of_getElem? ez
    have hr' : (pr.map (·.2))[i]? = some z.2 := by rw [List.getElem?_map, ez]; rfl
    have tz := Same.sqt hh.sub (hP.at_ z hm)
    have vn : valV (arKV ((pr.map (·.2)).take i)) (Sum.inr z.2.1 : Key) = none := by rw [valV_ar, lookup_none (nodup_take hnd hr')]; rfl
    refine ⟨_, rfl, z.1, _, _, _, rfl, rfl, tz, atI_nat (j := 1) rfl, _, rfl, _, rfl, z.1, _, _, _, rfl, rfl, tz, atI_nat (j := 0) rfl, d, _, rfl, DPut.k (k := Sum.inr z.2.1) hh.r0 (by unfold arKV; rw [List.length_map, List.length_take, List.length_map, sizeLine_eq]; omega), _, rfl, ?_⟩
    rw [putK_new _ vn, List.take_succ, hr']
    unfold arKV
    rw [List.map_append]
    exact hh.w0
  · rintro σ H1 ⟨t2, rfl, hh⟩
    rw [List.length_map, List.take_of_length_le (by rw [List.length_map]; exact Nat.le_refl _)] at hh
    exact ⟨_, rfl, hq d H1 hh.sub hh.r0⟩
/-! _law_bed -/
def spBedL (K : PySem.W.Frag) : Sp := fun vs H Q _ => ∃ (q : Addr) (rows : List Sy.Row), vs = [.ref q] ∧ RL K H q rows ∧ KdsOk rows ∧ rows.length ≤ 4 ∧ ∀ a H', Same H H' → BedAt K H' a rows → Q (.ref a) H'
theorem sc_bedL : FnScope ["_law_kinds_here"] ["_law_kinds_here"] (defScope (top 55)) := ⟨rfl, rfl, rfl, by decide +kernel, rfl, by decide +kernel, by decide +kernel⟩
theorem k_bedL (T : Txt K mg) (M : Mk K (He.ga K "Bed") (He.ma K (He.ga K "Bed") "__init__")) (at_ : mg "Bed" = some (.ref (He.ga K "Bed"))) (FB : FnR P w K mg base (L2.CX P w) 3 (He.ma K (He.ga K "Bed") "__init__") (spStar 1 (spInitB K))) (F : DF K mg "_law_bed" 55) :
    Cal P w K mg base 5 "_law_bed" ["_law_kinds_here"] (spBedL K) := by
  refine cal_of F.1 F.2 sc_bedL (fun _ _ _ _ _ _ us e => match us, e with | [_], _ => rfl) (fun vs H Q E s => by obtain ⟨_, _, rfl, _⟩ := s; rfl) ?_
  intro cdv A outer s H vs Q E hr h
  obtain ⟨q, rows, rfl, ⟨pr, rfl, hL, hP⟩, rl, l4, hq⟩ := h
  refine ⟨_, (pss_cons (ps_if (pt_cmpR op_eq (pe_callB call_len_seq (by rfl) T.len (by decide +kernel) (pa_cons (pv 0) pa_nil)) pe_int (nomark _))
        (pss_one (ps_ret (pe_bed M at_ FB hr (pa_cons (pe_ix ix_list (pv 0) pe_int (fun _ _ => rfl)) (pa_cons (pe_ix ix_list (pv 0) pe_int (fun _ _ => rfl)) pa_nil)))))
        pss_nil)
      (pss_cons (ps_if (pt_cmpR op_eq (pe_callB call_len_seq (by rfl) T.len (by decide +kernel) (pa_cons (pv 0) pa_nil)) pe_int (nomark _))
        (pss_one (ps_ret (pe_bed M at_ FB hr (pa_cons (pe_ix ix_list (pv 0) pe_int (fun _ _ => rfl)) (pa_cons (pe_ix ix_list (pv 0) pe_int (fun _ _ => rfl)) (pa_cons (pe_ix ix_list (pv 0) pe_int (fun _ _ => rfl)) pa_nil))))))
        pss_nil)
      (pss_one (ps_ret (pe_bed M at_ FB hr (pa_cons (pe_ix ix_list (pv 0) pe_int (fun _ _ => rfl)) (pa_cons (pe_ix ix_list (pv 0) pe_int (fun _ _ => rfl)) (pa_cons (pe_ix ix_list (pv 0) pe_int (fun _ _ => rfl)) (pa_cons (pe_ix ix_list (pv 0) pe_int (fun _ _ => rfl)) pa_nil))))))))), ?_⟩
  have hS := SqL.of (K := K) hL
  have hl := rl.le
  have hp := rl.ge
  rw [List.length_map] at hl hp l4
  have hPp := hP.paired
  have ok := rl.ok
  have fin : ∀ H' a, Same H H' → BedAt K H' a (pr.map (·.2)) → Q (.ref a) H' := fun H' a s b => hq a H' s b
  have hl' : (pr.map fun z => V.ref z.1).length = pr.length := List.length_map ..
  refine ⟨_, rfl, q, _, rfl, .inl hS, rfl, _, rfl, if_dec (fun c => ?_) (fun c => ?_)⟩
  · have c : pr.length = 2 := by have := V.int.inj c; omega
    obtain ⟨a, b, rfl⟩ := len2 c
    exact ⟨_, rfl, q, _, _, _, rfl, rfl, hS, atI_nat (j := 0) rfl, _, rfl, q, _, _, _, rfl, rfl, hS, atI_nat (j := 1) rfl, bed_of (ps := [a.1, b.1]) rfl hPp ok fin⟩
  have c2 : pr.length ≠ 2 := fun z => c (by rw [hl', z]; rfl)
  refine ⟨_, rfl, q, _, rfl, .inl hS, rfl, _, rfl, if_dec (fun c => ?_) (fun c => ?_)⟩
  · have c : pr.length = 3 := by have := V.int.inj c; omega
    obtain ⟨a, b, c', rfl⟩ := len3 c
    exact ⟨_, rfl, q, _, _, _, rfl, rfl, hS, atI_nat (j := 0) rfl, _, rfl, q, _, _, _, rfl, rfl, hS, atI_nat (j := 1) rfl, _, rfl, q, _, _, _, rfl, rfl, hS, atI_nat (j := 2) rfl, bed_of (ps := [a.1, b.1, c'.1]) rfl hPp ok fin⟩
  have c3 : pr.length ≠ 3 := fun z => c (by rw [hl', z]; rfl)
  obtain ⟨a, b, c', d, rfl⟩ := len4 (l := pr) (by omega)
  exact ⟨_, rfl, q, _, _, _, rfl, rfl, hS, atI_nat (j := 0) rfl, _, rfl, q, _, _, _, rfl, rfl, hS, atI_nat (j := 1) rfl, _, rfl, q, _, _, _, rfl, rfl, hS, atI_nat (j := 2) rfl, _, rfl, q, _, _, _, rfl, rfl, hS, atI_nat (j := 3) rfl, bed_of (ps := [a.1, b.1, c'.1, d.1]) rfl hPp ok fin⟩
end
end Sy
/-! slices of tuples known to have no dict -/
namespace Sy
open PySem PySem.Spec PyProof.Rows L2
/-- a tuple without a dict -/
structure SqZ (K : PySem.W.Frag) (H : Hp) (p : Addr) (xs : List V) : Prop where
  sq : SqT K H p xs
  nd : NoD H p
theorem SqZ.stay {K : PySem.W.Frag} {H H' : Hp} {p : Addr} {xs : List V} (h : SqZ K H p xs) (s : Stay H H') : SqZ K H' p xs := ⟨s.sqt h.sq, h.nd.mono s⟩
theorem SqZ.same {K : PySem.W.Frag} {H H' : Hp} {p : Addr} {xs : List V} (h : SqZ K H p xs) (s : Same H H') : SqZ K H' p xs := h.stay (Stay.of s)
theorem NewT.sqz {K : PySem.W.Frag} {H H' : Hp} {p : Addr} {xs : List V} (h : NewT H p xs H') : SqZ K H' p xs := ⟨h.sqt, h.nod⟩
section
variable {X : Cx}
def rSlZ (K : PySem.W.Frag) : V → Option Int → Option Int → Hp → VK → Prop := fun x lo hi H Q => ∃ a xs, x = .ref a ∧ SqT K H a xs ∧
  (HT.sIx xs.length 0 lo = 0 ∧ HT.sIx xs.length xs.length hi = xs.length → Q (.ref a) H) ∧ (¬ (HT.sIx xs.length 0 lo = 0 ∧ HT.sIx xs.length xs.length hi = xs.length) → ∀ p H', NewT H p (cutV xs lo hi) H' → Q (.ref p) H')
theorem sl_tupZ : SlR X (rSlZ X.K) := by
  intro pins s σ H x v vl vu lo hi sl Q I rx hs pl pu h
  obtain ⟨a, xs, rfl, hx, q1, q2⟩ := h
  by_cases hw : HT.sIx xs.length 0 lo = 0 ∧ HT.sIx xs.length xs.length hi = xs.length
  · exact sl_tupA pins s σ H _ v vl vu lo hi sl Q I rx hs pl pu ⟨a, xs, rfl, hx, q1, fun z => absurd hw z⟩
  · cases rx
    obtain ⟨its, r, ht, hz⟩ := I.tuple hx
    have hlen : its.toArray.size = xs.length := by rw [List.size_toArray]; exact r.length.symm
    refine ⟨"tuple", _, PyProof.Rows.slot_tuple_getitem.lookup, ht.typeIs, ?_⟩
    refine HT.getItem_tuple_cut ht hs pl pu (by rw [hlen]; exact hw) ?_ (by rw [hlen]; exact hz)
    rw [hlen]
    have r' := (r.drop (HT.sIx xs.length 0 lo)).take (HT.sIx xs.length xs.length hi - HT.sIx xs.length 0 lo)
    have hg : (s.heap.push ({ cls := .type "tuple", data := .seq ((its.toArray.toList.drop (HT.sIx xs.length 0 lo)).take (HT.sIx xs.length xs.length hi - HT.sIx xs.length 0 lo)).toArray } : Obj)).get? s.heap.objs.size = some ({ cls := .type "tuple", data := .seq ((its.toArray.toList.drop (HT.sIx xs.length 0 lo)).take (HT.sIx xs.length xs.length hi - HT.sIx xs.length 0 lo)).toArray } : Obj) := Heap.get?_push_size _ rfl
    refine ⟨.ref s.heap.objs.size, _, I.laid (t' := s.toks) (o := .frz ({ cls := .type "tuple", data := .seq ((its.toArray.toList.drop (HT.sIx xs.length 0 lo)).take (HT.sIx xs.length xs.length hi - HT.sIx xs.length 0 lo)).toArray } : Obj) (.tup (cutV xs lo hi))) (fun b ob q => Heap.get?_push_of_some _ q) (Nat.le_refl _) ?_, rfl,
      q2 hw _ _ ⟨I.hok.fresh (Nat.le_refl _), _, rfl, rfl⟩⟩
    exact ⟨hg, Nat.le_trans (cutV_length xs lo hi) hz, _, r', ⟨_, hg, rfl, _, rfl⟩⟩
end
section
variable {K : PySem.W.Frag} {H : Hp} {a b : Addr} {xs ys : List V} {Q : VK}
theorem slZ_any {lo hi : Option Int} {zs : List V} (hz : cutV xs lo hi = zs) (h : SqZ K H a xs) (q : ∀ p H', Same H H' → SqZ K H' p zs → Q (.ref p) H') : rSlZ K (.ref a) lo hi H Q := by
  subst hz
  refine ⟨a, xs, rfl, h.sq, fun c => q _ _ (Same.refl H) ⟨?_, h.nd⟩, fun _ p H' n => q _ _ n.same n.sqz⟩
  unfold cutV
  rw [c.1, c.2, List.drop_zero, Nat.sub_zero, List.take_length]
  exact h.sq
theorem catZ_any (h : SqZ K H a xs) (g : SqZ K H b ys) (hs : xs.length + ys.length ≤ 1000000) (q : ∀ p H', Same H H' → SqZ K H' p (xs ++ ys) → Q (.ref p) H') : rCatZ K (.ref a) (.ref b) H Q :=
  ⟨a, b, xs, ys, rfl, rfl, h.sq, g.sq, by rw [sizeLine_eq]; omega, fun c => q _ _ (Same.refl H) (by rw [c]; exact g), fun _ c => q _ _ (Same.refl H) (by rw [c, List.append_nil]; exact h), fun _ _ p H' n => q _ _ n.same n.sqz⟩
theorem catZ_l (h : SqZ K H a xs) (hx : xs ≠ []) (g : SqT K H b ys) (hs : xs.length + ys.length ≤ 1000000) (q : ∀ p H', Same H H' → SqZ K H' p (xs ++ ys) → Q (.ref p) H') : rCatZ K (.ref a) (.ref b) H Q :=
  ⟨a, b, xs, ys, rfl, rfl, h.sq, g, by rw [sizeLine_eq]; omega, fun c => absurd c hx, fun _ c => q _ _ (Same.refl H) (by rw [c, List.append_nil]; exact h), fun _ _ p H' n => q _ _ n.same n.sqz⟩
end
end Sy
/-! _law_stump -/
namespace Sy
open PySem PySem.Spec PyProof.Rows L2
/-- words of stumps -/
def Ws (x : Str) : Prop := Wd x ∨ x = "*"
theorem Ws.sok {x : Str} (h : Ws x) : PyData.strOk x = true := by
  rcases h with h | rfl
  · unfold PyData.strOk
    rw [← Array.all_toList, List.all_eq_true]
    intro c hc
    have := (h.2.2 c hc).2
    exact decide_eq_true (by omega)
  · decide +kernel
theorem star_nk {rows : List Sy.Row} (h : KdsOk rows) : isK rows "*" = false := by
  unfold isK
  rw [lookup_none (fun r hr e => ?_)]
  · rfl
  · have := h.wd r hr
    rw [e] at this
    exact absurd (this.2.2 42 (by decide +kernel)) (by unfold Lt; omega)
theorem ar_star {rows : List Sy.Row} (h : KdsOk rows) : ar rows "*" = 0 := by
  have := star_nk h
  unfold isK at this
  unfold ar
  cases e : rows.lookup ("*" : Str) with
  | none => rfl
  | some n => rw [e] at this; cases this
theorem row_at {rows : List Sy.Row} (nd : (rows.map (·.1)).Nodup) {r : Sy.Row} (h : r ∈ rows) : isK rows r.1 = true ∧ ar rows r.1 = r.2 := by
  have lk : rows.lookup r.1 = some r.2 := by
    induction rows with
    | nil => cases h
    | cons q rs ih =>
      rw [lookup_cons]
      rcases List.mem_cons.mp h with rfl | h
      · rw [if_pos rfl]
      · have nd := List.nodup_cons.mp nd
        rw [if_neg (fun e => nd.1 (by show q.1 ∈ _; rw [e]; exact List.mem_map_of_mem h))]
        exact ih nd.2 h
  unfold isK ar
  rw [lk]
  exact ⟨rfl, rfl⟩
/-- a row begun, of which n branches are still to come -/
def Pre (rows : List Sy.Row) (l : List Str) (n : Nat) : Prop := ∀ rest, fa rows ["*"] 1 0 (l ++ rest) = fa rows ["*"] n l.length rest
theorem Pre.kind {rows : List Sy.Row} {l : List Str} {n : Nat} (h : Pre rows l n) (hn : 0 < n) {x : Str} (hx : isK rows x = true) : Pre rows (l ++ [x]) (n - 1 + ar rows x) := fun rest => by
  rw [List.append_assoc, h, List.length_append]
  show fa rows ["*"] n l.length (x :: rest) = _
  rw [fa, if_neg (by omega), if_neg (fun z => by rw [hx] at z; cases z.1)]
  rfl
theorem Pre.hole {rows : List Sy.Row} {l : List Str} {n : Nat} (h : Pre rows l n) (hn : 0 < n) (e : ar rows "*" = 0) : Pre rows (l ++ [("*" : Str)]) (n - 1) := fun rest => by
  rw [List.append_assoc, h, List.length_append]
  show fa rows ["*"] n l.length ("*" :: rest) = _
  rw [fa, if_neg (by omega), if_neg (fun z => z.2 List.mem_cons_self), e]
  rfl
theorem Pre.nil {rows : List Sy.Row} : Pre rows [] 1 := fun rest => rfl
theorem Pre.done {rows : List Sy.Row} {l : List Str} (h : Pre rows l 0) : fa rows ["*"] 1 0 l = -1 := by
  have := h []
  rw [List.append_nil] at this
  rw [this, fa]
  exact if_neg (by omega)
theorem Hs.sqz {K : PySem.W.Frag} {B H H' : Hp} {L : List (Addr × HO)} {p : Addr} {xs : List V} (h : Hs B L H) (al : AllL L) (s : Same H H') (z : SqZ K H' p xs) : ∃ B', Same B B' ∧ Hs B' L H' ∧ SqZ K B' p xs :=
  ⟨_, (h.after s).1, (h.after s).2, z.stay (stay_cut h al s)⟩
/-- a stump as the law makes it -/
structure StpOk (rows : List Sy.Row) (l : List Str) (m : Nat) : Prop where
  ck : fa rows ["*"] 1 0 l = -1
  le : l.length ≤ m
  wd : ∀ x ∈ l, isK rows x = true ∧ Wd x ∨ x = "*"
  hd : ∃ x t, l = x :: t ∧ isK rows x = true ∧ 0 < ar rows x
theorem StpOk.ws {rows : List Sy.Row} {l : List Str} {m : Nat} (h : StpOk rows l m) : ∀ x ∈ l, Ws x := fun x hx => (h.wd x hx).imp (·.2) id
section
variable {P : Program} {w : World} {K : PySem.W.Frag} {mg : Str → Option Value} {base : Heap}
def spStL (K : PySem.W.Frag) : Sp := fun vs H Q _ => ∃ (c g q : Addr) (most : Nat) (rows : List Sy.Row), vs = [.ref g, .ref q, .int (most : Nat)] ∧ Bag c g H ∧ q ≠ g ∧ RL K H q rows ∧ KdsOk rows ∧ most ≤ 7 ∧ (∃ r ∈ rows, 0 < r.2 ∧ r.2 < most) ∧
  ∀ p l H', StpOk rows l most → Dr c g H H' → SqZ K H' p (l.map V.str) → Q (.ref p) H'
theorem RL.del {H : Hp} {q g : Addr} {rows : List Sy.Row} {ys : List V} (h : RL K H q rows) (ne : q ≠ g) (hg : H g = some (.lst ys)) : RL K (L2.del H g) q rows := by
  obtain ⟨pr, h1, h2, h3⟩ := h
  exact ⟨pr, h1, by rw [del_ne ne]; exact h2, h3.stay (stay_del hg)⟩
theorem Bag.takeR {c g q : Addr} {H : Hp} {rows : List Sy.Row} (b : Bag c g H) (ne : q ≠ g) (h : RL K H q rows) : ∃ x, Hs (L2.del H g) [(g, bagO c x)] H ∧ Cells c (L2.del H g) ∧ RL K (L2.del H g) q rows := by
  obtain ⟨⟨x, e⟩, _⟩ := id b
  obtain ⟨y, h1, h2⟩ := b.take
  exact ⟨y, h1, h2, h.del ne e⟩
abbrev N_stL : List Str := ["_law_bag_here", "_law_kinds_here", "_law_most", "_law_pair", "_law_roots", "_law_row", "_law_need", "_law_k", "_law_choice", "_law_at", "_law_one"]
theorem sc_stL : FnScope N_stL ["_law_bag_here", "_law_kinds_here", "_law_most"] (defScope (top 56)) := ⟨rfl, rfl, rfl, by decide +kernel, rfl, by decide +kernel, by decide +kernel⟩
theorem k_stL (T : Txt K mg) (F : DF K mg "_law_stump" 56) (c_law_pick : Cal P w K mg base 1 "_law_pick" ["_law_bag_here", "_law_limit"] spPick) : Cal P w K mg base 2 "_law_stump" ["_law_bag_here", "_law_kinds_here", "_law_most"] (spStL K) := by
  refine cal_of F.1 F.2 sc_stL (fun _ _ _ _ _ _ us e => match us, e with | [_, _, _], _ => rfl) (fun vs H Q E s => by obtain ⟨_, _, _, _, _, rfl, _⟩ := s; rfl) ?_
  intro cdv A outer s H vs Q E hr h
  obtain ⟨c, g, q, most, rows, rfl, hg, hne, hRL, ok, hm6, hroot, hq⟩ := h
  have sc := sc_stL
  refine ⟨_, (pss_cons (ps_setLc (i := 4) (own := [("_law_pair", 3)]) (g := gName 3) rfl sc.nd rfl rfl (sw_true rfl rfl rfl (by decide +kernel)) (pi_list (pv 1)) (blkOk_by (N := N_stL) (sc := defScope (top 56)) (by decide +kernel)) (fun _ _ _ _ _ => (pg_name (i := 3) sc.nd rfl (Or.inl rfl))) (fun _ _ _ _ _ => (pts_one (pt_chain op_lt op_lt pe_int (pe_ixTK K rfl (pv 3) pe_int (fun _ _ => rfl)) (pv 2)))) (fun _ _ _ _ _ => (pv 3)))
      (pss_cons (ps_set (i := 3) sc.nd rfl (Or.inl rfl) (pe_ix ix_list (pv 4) (pe_cal c_law_pick hr (pa_cons (pv 0) (pa_cons (pe_callB call_len_seq (by rfl) T.len (by decide +kernel) (pa_cons (pv 4) pa_nil)) pa_nil))) (fun _ _ => rfl)))
      (pss_cons (ps_set (i := 5) sc.nd rfl (Or.inr rfl) (pe_tupZ (pa_cons (pe_ix ix_tup (pv 3) pe_int (fun _ _ => rfl)) pa_nil)))
      (pss_cons (ps_set (i := 6) sc.nd rfl (Or.inr rfl) (pe_ix ix_tup (pv 3) pe_int (fun _ _ => rfl)))
      (pss_cons (ps_for (passes_of rfl) rfl (pi_range1 rfl T.range (pa_cons (pv 2) pa_nil)) (pg_name (i := 7) sc.nd rfl (Or.inl rfl))
        (pss_cons (ps_if (pt_cmpR op_eq (pv 6) pe_int (nomark _))
          (pss_one ps_break)
          pss_nil)
        (pss_cons (ps_setLc (i := 8) (own := [("_law_one", 10)]) (g := gName 10) rfl sc.nd rfl rfl (sw_true rfl rfl rfl (by decide +kernel)) (pi_list (pv 1)) (blkOk_by (N := N_stL) (sc := defScope (top 56)) (by decide +kernel)) (fun _ _ _ _ _ => (pg_name (i := 10) sc.nd rfl (Or.inl rfl))) (fun _ _ _ _ _ => (pts_one (pt_cmpR op_le (pe_op op_add (pe_op op_add (pe_callB (call_lenK K rfl) (by rfl) T.len (by decide +kernel) (pa_cons (pv 5) pa_nil)) (pv 6)) (pe_ixTK K rfl (pv 10) pe_int (fun _ _ => rfl))) (pv 2) (nomark _)))) (fun _ _ _ _ _ => (pv 10)))
        (pss_cons (ps_set (i := 9) sc.nd rfl (Or.inl rfl) (pe_cal c_law_pick hr (pa_cons (pv 0) (pa_cons (pe_op op_mul pe_int (pe_callB call_len_seq (by rfl) T.len (by decide +kernel) (pa_cons (pv 8) pa_nil))) pa_nil))))
        (pss_one (ps_if (pt_cmpR op_lt (pv 9) (pe_callB call_len_seq (by rfl) T.len (by decide +kernel) (pa_cons (pv 8) pa_nil)) (nomark _))
          (pss_cons (ps_set (i := 5) sc.nd rfl (Or.inr rfl) (pe_op op_catZ (pv 5) (pe_tupZ (pa_cons (pe_ix ix_tup (pe_ix ix_list (pv 8) (pv 9) (fun _ _ => rfl)) pe_int (fun _ _ => rfl)) pa_nil))))
          (pss_one (ps_set (i := 6) sc.nd rfl (Or.inr rfl) (pe_op op_add (pe_op op_sub (pv 6) pe_int) (pe_ix ix_tup (pe_ix ix_list (pv 8) (pv 9) (fun _ _ => rfl)) pe_int (fun _ _ => rfl))))))
          (pss_cons (ps_set (i := 5) sc.nd rfl (Or.inr rfl) (pe_op op_catZ (pv 5) (pe_tupZ (pa_cons pe_str pa_nil))))
          (pss_one (ps_set (i := 6) sc.nd rfl (Or.inr rfl) (pe_op op_sub (pv 6) pe_int))))))))))
      (pss_one (ps_ret (pv 5)))))))), ?_⟩
  obtain ⟨x0, h0, bc0, pr, rfl, hL, hat⟩ := hg.takeR hne hRL
  have hle := ok.le
  rw [List.length_map] at hle
  have nd := ok.ok.nd
  have hHL : H q = some (.lst (pr.map fun z => V.ref z.1)) := h0.sub _ _ hL
  generalize hB0 : L2.del H g = B0 at *
  refine ⟨_, rfl, q, rfl, ⟨_, SqL.of hHL⟩, fun D hD => lc_filt (K := K) (xs := pr) (f := fun z => V.ref z.1) (out := fun z => V.ref z.1) (keep := fun z => decide (0 < z.2.2 ∧ z.2.2 < most)) h0 hD (fun _ _ z => z.sub _ _ hL) (by omega) (fun z hz H' s' R1 R2 k1 k2 => ?_) (fun H1 h1 => ?_)⟩
  · have tz := Same.sqt s' (hat.at_ z hz)
    refine ⟨_, rfl, z.1, _, _, _, rfl, rfl, tz, atI_nat (j := 1) rfl, _, _, rfl, rfl, _, rfl, if_dec (fun c1 => ?_) (fun c1 => ?_)⟩
    · refine ⟨_, rfl, _, _, rfl, rfl, _, rfl, if_dec (fun c2 => ?_) (fun c2 => ?_)⟩
      · exact ⟨_, rfl, k1 (decide_eq_true ⟨by omega, by omega⟩)⟩
      · exact k2 (decide_eq_false (by omega))
    · exact ⟨_, rfl, k2 (decide_eq_false (by omega))⟩
  · -- the roots
    have hgv := h1.give
    have h2 := hgv.2
    have s2 := hgv.1
    have eD : upd B0 D (.lst ((pr.filter fun z => decide (0 < z.2.2 ∧ z.2.2 < most)).map fun z => V.ref z.1)) D = some (.lst ((pr.filter fun z => decide (0 < z.2.2 ∧ z.2.2 < most)).map fun z => V.ref z.1)) := upd_same
    generalize upd B0 D (.lst ((pr.filter fun z => decide (0 < z.2.2 ∧ z.2.2 < most)).map fun z => V.ref z.1)) = B1 at *
    have hpos : 0 < (pr.filter fun z => decide (0 < z.2.2 ∧ z.2.2 < most)).length := by
      obtain ⟨r, hr', h1, h2⟩ := hroot
      obtain ⟨z, hz, rfl⟩ := List.mem_map.mp hr'
      exact List.length_pos_of_mem (List.mem_filter.mpr ⟨hz, decide_eq_true ⟨h1, h2⟩⟩)
    have hfl := List.length_filter_le (fun z : Addr × Sy.Row => decide (0 < z.2.2 ∧ z.2.2 < most)) pr
    generalize hroots : pr.filter (fun z => decide (0 < z.2.2 ∧ z.2.2 < most)) = roots at *
    refine ⟨_, rfl, _, rfl, _, rfl, D, _, rfl, .inl (SqL.of (h2.sub _ _ eD)), c, g, roots.length, by rw [List.length_map], h2.bag (bc0.mono s2), hpos, by omega, fun j H3 hj d3 => ?_⟩
    obtain ⟨x3, B3, s3, h3⟩ := h2.dr0 d3
    obtain ⟨zr, ezr⟩ : ∃ z, roots[j]? = some z := ⟨_, List.getElem?_eq_getElem hj⟩
    have hzr : zr ∈ pr ∧ 0 < zr.2.2 ∧ zr.2.2 < most := by
      have hm := List.mem_of_getElem? ezr
      rw [← hroots] at hm
      obtain ⟨a, b⟩ := List.mem_filter.mp hm
      exact ⟨a, of_decide_eq_true b⟩
    have s13 := s2.trans s3
    have hat3 := hat.mono s13
    have tz := hat3.at_ zr hzr.1
    refine ⟨D, _, _, .ref zr.1, rfl, rfl, SqL.of (h3.sub _ _ (s3 _ _ eD)), atI_nat (by rw [List.getElem?_map, ezr]; rfl), ?_⟩
    refine ⟨_, rfl, zr.1, _, _, _, rfl, rfl, Same.sqt h3.sub tz, atI_nat (j := 0) rfl, (by show 1 ≤ sizeLine; decide), fun p4 H4 n4 => ?_⟩
    obtain ⟨B4, s4, h4, z4⟩ := h3.sqz (K := K) (AllL.cons AllL.nil) n4.same n4.sqz
    refine ⟨_, rfl, zr.1, _, _, _, rfl, rfl, Same.sqt n4.same (Same.sqt h3.sub tz), atI_nat (j := 1) rfl, ?_⟩
    have s14 := s13.trans s4
    obtain ⟨kz, az⟩ := row_at nd (List.mem_map_of_mem hzr.1)
    have wz := ok.wd zr.2 (List.mem_map_of_mem hzr.1)
    have fin : ∀ (l : List Str) (p : Addr) (x : Int × Int × Int) (B H' : Hp), l.length ≤ most → Pre (pr.map (·.2)) l 0 → (∀ x ∈ l, isK (pr.map (·.2)) x = true ∧ Wd x ∨ x = "*") → (∃ t, l = zr.2.1 :: t) → SqZ K B p (l.map V.str) → Same B0 B → Hs B [(g, bagO c x)] H' → Q (.ref p) H' := fun l p x B H' h1 h2 h3 ⟨t, h4⟩ h5 h6 h7 =>
      hq p l H' ⟨h2.done, h1, h3, zr.2.1, t, h4, kz, by rw [az]; exact hzr.2.1⟩ (h7.isDr (by rw [hB0]; exact h6)) (h5.same h7.sub)
    refine ⟨_, rfl, _, rfl, by omega, by omega, for_rng (n := most) (fun i σ H' => ∃ (t7 t8 t9 : Option V) (l : List Str) (n : Nat) (p : Addr) (x : Int × Int × Int) (B : Hp), σ = [some (.ref g), some (.ref q), some (.int (most : Nat)), some (.ref zr.1), some (.ref D), some (.ref p), some (.int (n : Nat)), t7, t8, t9, none] ∧
        l.length = i + 1 ∧ l.length + n ≤ most ∧ Pre (pr.map (·.2)) l n ∧ (∀ x ∈ l, isK (pr.map (·.2)) x = true ∧ Wd x ∨ x = "*") ∧ (∃ t, l = zr.2.1 :: t) ∧ SqZ K B p (l.map V.str) ∧ Same B0 B ∧ Hs B [(g, bagO c x)] H')
      ⟨none, none, none, [zr.2.1], zr.2.2, p4, x3, B4, rfl, rfl, by show 1 + zr.2.2 ≤ most; omega, ?_, fun x hx => ?_, ⟨[], rfl⟩, z4, s14, h4⟩ ?_ ?_⟩
    · have := (Pre.nil (rows := pr.map (·.2))).kind (by decide) kz
      rw [az] at this
      have e : (1 - 1 + zr.2.2 : Nat) = zr.2.2 := by omega
      rw [e] at this
      exact this
    · rw [List.mem_singleton.mp hx]
      exact .inl ⟨kz, wz⟩
    · rintro i σ H5 hi ⟨t7, t8, t9, l, n, p, x, B, rfl, hl, hn, hpre, hwd, hhd, zp, sB, hh⟩
      refine ⟨_, rfl, rfl, _, rfl, if_dec (fun c0 => ?_) (fun c0 => ?_)⟩
      · have c0 : n = 0 := by have := V.int.inj c0; omega
        subst c0
        exact ⟨_, rfl, fin l p x B H5 (by omega) hpre hwd hhd zp sB hh⟩
      have c0 : 0 < n := Nat.pos_of_ne_zero fun z => c0 (by rw [z]; rfl)
      have hLB := sB _ _ hL
      have hatB := hat.mono sB
      refine ⟨_, rfl, q, rfl, ⟨_, SqL.of (hh.sub _ _ hLB)⟩, fun D5 hD5 => lc_filt (K := K) (xs := pr) (f := fun z => V.ref z.1) (out := fun z => V.ref z.1) (keep := fun z => decide (l.length + n + z.2.2 ≤ most)) hh hD5 (fun _ _ z => z.sub _ _ hLB) (by omega) (fun z hz H' s' R1 R2 k1 k2 => ?_) (fun H6 h6 => ?_)⟩
      · have tz := Same.sqt s' (hatB.at_ z hz)
        refine ⟨_, rfl, p, _, rfl, .inr (Same.sqt s' zp.sq), _, rfl, _, _, rfl, rfl, _, rfl, z.1, _, _, _, rfl, rfl, tz, atI_nat (j := 1) rfl, _, _, rfl, rfl, _, rfl, _, _, rfl, rfl, _, rfl, ?_⟩
        rw [List.length_map]
        refine if_dec (fun c1 => ⟨_, rfl, k1 (decide_eq_true (by omega))⟩) (fun c1 => k2 (decide_eq_false (by omega)))
      · have hgv := h6.give
        have h7 := hgv.2
        have s7 := hgv.1
        have e7 : upd B D5 (.lst ((pr.filter fun z => decide (l.length + n + z.2.2 ≤ most)).map fun z => V.ref z.1)) D5 = some (.lst ((pr.filter fun z => decide (l.length + n + z.2.2 ≤ most)).map fun z => V.ref z.1)) := upd_same
        generalize upd B D5 (.lst ((pr.filter fun z => decide (l.length + n + z.2.2 ≤ most)).map fun z => V.ref z.1)) = B7 at *
        have cpos : 0 < (pr.filter fun z => decide (l.length + n + z.2.2 ≤ most)).length := by
          obtain ⟨r, hr', e0⟩ := ok.ok.lf
          obtain ⟨z, hz, rfl⟩ := List.mem_map.mp hr'
          exact List.length_pos_of_mem (List.mem_filter.mpr ⟨hz, decide_eq_true (by omega)⟩)
        have cle := List.length_filter_le (fun z : Addr × Sy.Row => decide (l.length + n + z.2.2 ≤ most)) pr
        generalize hch : pr.filter (fun z => decide (l.length + n + z.2.2 ≤ most)) = ch at *
        have e2c : (2 : Int) * (((ch.map fun z => V.ref z.1).length : Nat) : Int) = ((2 * ch.length : Nat) : Int) := by rw [List.length_map]; omega
        refine ⟨_, rfl, _, rfl, D5, _, rfl, .inl (SqL.of (h7.sub _ _ e7)), _, _, rfl, rfl, .inl (by decide), c, g, 2 * ch.length, by show [V.ref g, V.int (2 * (((ch.map fun z => V.ref z.1).length : Nat) : Int))] = _; rw [e2c], h7.bag (bc0.mono (sB.trans s7)), by omega, by omega, fun at_ H8 hat8 d8 => ?_⟩
        obtain ⟨x8, B8, s8, h8⟩ := h7.dr0 d8
        have sB8 := (sB.trans s7).trans s8
        have zp8 := zp.same (s7.trans s8)
        have eD8 := h8.sub _ _ (s8 _ _ e7)
        refine ⟨_, rfl, _, rfl, D5, _, rfl, .inl (SqL.of eD8), _, _, rfl, rfl, _, rfl, ?_⟩
        rw [List.length_map]
        refine if_dec (fun c9 => ?_) (fun c9 => ?_)
        · have c9 : at_ < ch.length := by omega
          obtain ⟨zc, ezc⟩ : ∃ z, ch[at_]? = some z := ⟨_, List.getElem?_eq_getElem c9⟩
          have hzc : zc ∈ pr ∧ l.length + n + zc.2.2 ≤ most := by
            have hm := List.mem_of_getElem? ezc
            rw [← hch] at hm
            obtain ⟨a, b⟩ := List.mem_filter.mp hm
            exact ⟨a, of_decide_eq_true b⟩
          have tzc := (hat.mono sB8).at_ zc hzc.1
          obtain ⟨kc, ac⟩ := row_at nd (List.mem_map_of_mem hzc.1)
          have wc := ok.wd zc.2 (List.mem_map_of_mem hzc.1)
          have atc : atI (ch.map fun z => V.ref z.1) ((at_ : Nat) : Int) = some (.ref zc.1) := atI_nat (by rw [List.getElem?_map, ezc]; rfl)
          refine ⟨_, rfl, _, rfl, _, rfl, D5, _, _, .ref zc.1, rfl, rfl, SqL.of eD8, atc, zc.1, _, _, _, rfl, rfl, Same.sqt h8.sub tzc, atI_nat (j := 0) rfl, (by show 1 ≤ sizeLine; decide), fun p9 H9 n9 => ?_⟩
          obtain ⟨B9, s9, h9, z9⟩ := h8.sqz (K := K) (AllL.cons AllL.nil) n9.same n9.sqz
          refine catZ_l (zp8.same (s9.trans h9.sub)) (by rw [ne_eq, List.map_eq_nil_iff]; obtain ⟨t, rfl⟩ := hhd; exact fun z => nomatch z) (z9.same h9.sub).sq (by rw [List.length_map]; show _ + 1 ≤ _; omega) (fun p10 H10 s10 z10 => ?_)
          obtain ⟨B10, s10', h10, z10'⟩ := h9.sqz (K := K) (AllL.cons AllL.nil) s10 z10
          have sB10 := (sB8.trans s9).trans s10'
          have eD10 := h10.sub _ _ (s10' _ _ (s9 _ _ (s8 _ _ e7)))
          have tz10 := Same.sqt h10.sub ((hat.mono sB10).at_ zc hzc.1)
          have en : ((n : Int) - 1 + (zc.2.2 : Nat)) = ((n - 1 + zc.2.2 : Nat) : Int) := by omega
          have el : (l ++ [zc.2.1]).map V.str = l.map V.str ++ [V.str zc.2.1] := by rw [List.map_append]; rfl
          refine ⟨_, rfl, _, _, rfl, rfl, _, rfl, _, rfl, D5, _, _, .ref zc.1, rfl, rfl, SqL.of eD10, atc, zc.1, _, _, _, rfl, rfl, tz10, atI_nat (j := 1) rfl, _, _, rfl, rfl, ?_⟩
          refine ⟨_, _, _, l ++ [zc.2.1], n - 1 + zc.2.2, p10, x8, B10, by rw [← en]; rfl, by rw [List.length_append, hl]; rfl, by rw [List.length_append]; show _ + 1 + _ ≤ _; omega, ?_, fun y hy => ?_, ?_, by rw [el]; exact z10', sB10, h10⟩
          · have := hpre.kind c0 kc
            rw [ac] at this
            exact this
          · rcases List.mem_append.mp hy with hy | hy
            · exact hwd y hy
            · rw [List.mem_singleton.mp hy]
              exact .inl ⟨kc, wc⟩
          · obtain ⟨t, rfl⟩ := hhd
            exact ⟨t ++ [zc.2.1], rfl⟩
        · refine ⟨_, rfl, (by show 1 ≤ sizeLine; decide), fun p9 H9 n9 => ?_⟩
          obtain ⟨B9, s9, h9, z9⟩ := h8.sqz (K := K) (AllL.cons AllL.nil) n9.same n9.sqz
          refine catZ_l (zp8.same (s9.trans h9.sub)) (by rw [ne_eq, List.map_eq_nil_iff]; obtain ⟨t, rfl⟩ := hhd; exact fun z => nomatch z) (z9.same h9.sub).sq (by rw [List.length_map]; show _ + 1 ≤ _; omega) (fun p10 H10 s10 z10 => ?_)
          obtain ⟨B10, s10', h10, z10'⟩ := h9.sqz (K := K) (AllL.cons AllL.nil) s10 z10
          have sB10 := (sB8.trans s9).trans s10'
          have en : ((n : Int) - 1) = ((n - 1 : Nat) : Int) := by omega
          have el : (l ++ [("*" : Str)]).map V.str = l.map V.str ++ [V.str "*"] := by rw [List.map_append]; rfl
          refine ⟨_, rfl, _, _, rfl, rfl, ?_⟩
          refine ⟨_, _, _, l ++ [("*" : Str)], n - 1, p10, x8, B10, by rw [← en]; rfl, by rw [List.length_append, hl]; rfl, by rw [List.length_append]; show _ + 1 + _ ≤ _; omega, hpre.hole c0 (ar_star ok), fun y hy => ?_, ?_, by rw [el]; exact z10', sB10, h10⟩
          · rcases List.mem_append.mp hy with hy | hy
            · exact hwd y hy
            · exact .inr (List.mem_singleton.mp hy)
          · obtain ⟨t, rfl⟩ := hhd
            exact ⟨t ++ [("*" : Str)], rfl⟩
    · rintro σ H5 ⟨t7, t8, t9, l, n, p, x, B, rfl, hl, hn, _⟩
      omega
end
end Sy
/-! _law_result -/
namespace Sy
open PySem PySem.Spec PyProof.Rows L2
theorem rgV_nats (n : Nat) : rgV 0 (n : Int) = vN (List.range n) := by
  unfold rgV vN
  have e : (((n : Nat) : Int) - 0).toNat = n := by omega
  rw [e]
  exact List.map_congr_left fun i _ => by show V.int (0 + (i : Int)) = _; rw [Int.zero_add]
theorem map_erase {α β : Type} (f : α → β) : ∀ (l : List α) (i : Nat), (l.map f).eraseIdx i = (l.eraseIdx i).map f
  | [], _ => rfl
  | _ :: _, 0 => rfl
  | x :: l, i + 1 => by
    show f x :: (l.map f).eraseIdx i = f x :: (l.eraseIdx i).map f
    rw [map_erase f l i]
/-- a result begun: n branches to come, met the numbers that stand in it -/
structure PreK (rows : List Sy.Row) (h : Nat) (ks : List Key) (n : Nat) (met : List Int) : Prop where
  fa : ∀ rest, faK rows (okH (h : Int)) 1 0 (ks ++ rest) = faK rows (okH (h : Int)) n ks.length rest
  rep : ∀ rest, repK [] 0 (ks ++ rest) = repK met ks.length rest
theorem PreK.nil {rows : List Sy.Row} {h : Nat} : PreK rows h [] 1 [] := ⟨fun _ => rfl, fun _ => rfl⟩
section
variable {rows : List Sy.Row} {h n : Nat} {ks : List Key} {met : List Int}
theorem PreK.kind (p : PreK rows h ks n met) (hn : 0 < n) {x : Str} (hx : isK rows x = true) : PreK rows h (ks ++ [.inr x]) (n - 1 + ar rows x) met where
  fa rest := by
    rw [List.append_assoc, p.fa, List.length_append]
    show faK rows (okH (h : Int)) n ks.length (.inr x :: rest) = _
    rw [faK, if_neg (by omega), if_neg (fun z => by have := z.1; unfold isKK at this; simp only at this; rw [hx] at this; cases this)]
    rfl
  rep rest := by
    rw [List.append_assoc, p.rep, List.length_append]
    rfl
theorem PreK.hole (p : PreK rows h ks n met) (hn : 0 < n) {m : Nat} (hm : m < h) (nm : (m : Int) ∉ met) : PreK rows h (ks ++ [.inl (m : Int)]) (n - 1) ((m : Int) :: met) where
  fa rest := by
    rw [List.append_assoc, p.fa, List.length_append]
    show faK rows (okH (h : Int)) n ks.length (.inl (m : Int) :: rest) = _
    have e : okH (h : Int) (.inl (m : Int)) = true := by
      show (decide (0 ≤ (m : Int)) && decide ((m : Int) < (h : Int))) = true
      rw [decide_eq_true (by omega), decide_eq_true (by omega)]
      rfl
    rw [faK, if_neg (by omega), if_neg (fun z => by rw [e] at z; cases z.2)]
    rfl
  rep rest := by
    rw [List.append_assoc, p.rep, List.length_append]
    show repK met ks.length (.inl (m : Int) :: rest) = _
    rw [repK, if_neg nm]
    rfl
theorem PreK.done (p : PreK rows h ks 0 met) : rfK rows (h : Int) ks = -1 := by
  have f := p.fa []
  have r := p.rep []
  rw [List.append_nil] at f r
  rw [faK] at f
  rw [repK] at r
  have f : faK rows (okH (h : Int)) 1 0 ks = -1 := by rw [f]; exact if_neg (by omega)
  unfold rfK
  rw [r, f]
  exact if_neg (by omega)
end
/-- a result as the law makes it for a stump -/
structure RsOk (rows : List Sy.Row) (l : List Str) (ks : List Key) : Prop where
  rf : rfK rows (l.count ("*" : Str) : Nat) ks = -1
  kn : knK rows ks < knK rows (kS l)
  le : ks.length ≤ 7
  wd : ∀ x, Sum.inr x ∈ ks → Wd x
theorem knK_snoc {rows : List Sy.Row} {ks : List Key} (k : Key) : knK rows (ks ++ [k]) = knK rows ks + if isKK rows k = true then 1 else 0 := by
  unfold knK
  rw [List.filter_append, List.length_append]
  cases c : isKK rows k <;> simp [c]
theorem knK_stump {rows : List Sy.Row} (st : isK rows "*" = false) : ∀ {l : List Str}, (∀ x ∈ l, isK rows x = true ∨ x = "*") → knK rows (kS l) + l.count ("*" : Str) = l.length
  | [], _ => rfl
  | x :: l, h => by
    have ih := knK_stump st (l := l) fun y hy => h y (List.mem_cons_of_mem _ hy)
    have e : knK rows (kS (x :: l)) = knK rows (kS l) + if isK rows x = true then 1 else 0 := by
      unfold knK
      show ((Sum.inr x :: kS l).filter (isKK rows)).length = _
      rw [List.filter_cons]
      show (if isK rows x = true then Sum.inr x :: (kS l).filter (isKK rows) else (kS l).filter (isKK rows)).length = _
      split <;> simp
    rw [e, List.count_cons, List.length_cons]
    by_cases c : x = ("*" : Str)
    · subst c
      rw [st]
      simp
      omega
    · have k := (h x List.mem_cons_self).resolve_right c
      rw [k]
      simp [c]
      omega
section
variable {P : Program} {w : World} {K : PySem.W.Frag} {mg : Str → Option Value} {base : Heap}
def spRsL (K : PySem.W.Frag) : Sp := fun vs H Q _ => ∃ (c g q p : Addr) (rows : List Sy.Row) (l : List Str), vs = [.ref g, .ref q, .ref p] ∧ Bag c g H ∧ q ≠ g ∧ RL K H q rows ∧ KdsOk rows ∧ StpOk rows l 7 ∧ SqZ K H p (l.map V.str) ∧
  ∀ r ks H', RsOk rows l ks → Dr c g H H' → SqT K H' r (ks.map kV) → Q (.ref r) H'
abbrev N_rsL : List Str := ["_law_bag_here", "_law_kinds_here", "_law_stump_here", "_law_free", "_law_room", "_law_row", "_law_need", "_law_k", "_law_choice", "_law_at", "_law_one"]
theorem sc_rsL : FnScope N_rsL ["_law_bag_here", "_law_kinds_here", "_law_stump_here"] (defScope (top 57)) := ⟨rfl, rfl, rfl, by decide +kernel, rfl, by decide +kernel, by decide +kernel⟩
theorem k_rsL (T : Txt K mg) (F : DF K mg "_law_result" 57) (c_law_pick : Cal P w K mg base 1 "_law_pick" ["_law_bag_here", "_law_limit"] spPick) : Cal P w K mg base 2 "_law_result" ["_law_bag_here", "_law_kinds_here", "_law_stump_here"] (spRsL K) := by
  refine cal_of F.1 F.2 sc_rsL (fun _ _ _ _ _ _ us e => match us, e with | [_, _, _], _ => rfl) (fun vs H Q E s => by obtain ⟨_, _, _, _, _, _, rfl, _⟩ := s; rfl) ?_
  intro cdv A outer s H vs Q E hr h
  obtain ⟨c, g, q, p, rows, l, rfl, hg, hne, hRL, ok, stp, hp, hq⟩ := h
  have sc := sc_rsL
  refine ⟨_, (pss_cons (ps_set (i := 3) sc.nd rfl (Or.inr rfl) (pe_listRg rfl (by rfl) T.list (prg_1 rfl T.range (pe_bmT PySem.F.slot_tuple_count PySem.F.type_tuple_count mt_tcount (pv 2) (pa_cons pe_str pa_nil)))))
      (pss_cons (ps_set (i := 4) sc.nd rfl (Or.inr rfl) (pe_op op_sub (pe_op op_sub (pe_callB call_len_seq (by rfl) T.len (by decide +kernel) (pa_cons (pv 2) pa_nil)) (pe_callB call_len_seq (by rfl) T.len (by decide +kernel) (pa_cons (pv 3) pa_nil))) pe_int))
      (pss_cons (ps_set (i := 5) sc.nd rfl (Or.inl rfl) (pe_tup pa_nil))
      (pss_cons (ps_set (i := 6) sc.nd rfl (Or.inr rfl) pe_int)
      (pss_cons (ps_for (passes_of rfl) rfl (pi_range1 rfl T.range (pa_cons (pe_callB call_len_seq (by rfl) T.len (by decide +kernel) (pa_cons (pv 2) pa_nil)) pa_nil)) (pg_name (i := 7) sc.nd rfl (Or.inl rfl))
        (pss_cons (ps_if (pt_cmpR op_eq (pv 6) pe_int (nomark _))
          (pss_one ps_break)
          pss_nil)
        (pss_cons (ps_setLc (i := 8) (own := [("_law_one", 10)]) (g := gName 10) rfl sc.nd rfl rfl (sw_true rfl rfl rfl (by decide +kernel)) (pi_list (pv 1)) (blkOk_by (N := N_rsL) (sc := defScope (top 57)) (by decide +kernel)) (fun _ _ _ _ _ => (pg_name (i := 10) sc.nd rfl (Or.inl rfl))) (fun _ _ _ _ _ => (pts_one (PW.pt (pw_and (pt_cmpR op_gt (pv 4) pe_int (nomark _)) (pw_and1 (pt_cmpR op_le (pe_op op_add (pv 6) (pe_ixTK K rfl (pv 10) pe_int (fun _ _ => rfl))) (pe_op op_add (pv 4) (pe_callB (call_lenK K rfl) (by rfl) T.len (by decide +kernel) (pa_cons (pv 3) pa_nil))) (nomark _))))))) (fun _ _ _ _ _ => (pv 10)))
        (pss_cons (ps_set (i := 9) sc.nd rfl (Or.inl rfl) (pe_cal c_law_pick hr (pa_cons (pv 0) (pa_cons (pe_op op_add (pe_callB call_len_seq (by rfl) T.len (by decide +kernel) (pa_cons (pv 8) pa_nil)) (pe_op op_mul pe_int (pe_callB call_len_seq (by rfl) T.len (by decide +kernel) (pa_cons (pv 3) pa_nil)))) pa_nil))))
        (pss_one (ps_if (pt_cmpR op_lt (pv 9) (pe_callB call_len_seq (by rfl) T.len (by decide +kernel) (pa_cons (pv 8) pa_nil)) (nomark _))
          (pss_cons (ps_set (i := 5) sc.nd rfl (Or.inl rfl) (pe_op op_catA (pv 5) (pe_tup (pa_cons (pe_ix ix_tup (pe_ix ix_list (pv 8) (pv 9) (fun _ _ => rfl)) pe_int (fun _ _ => rfl)) pa_nil))))
          (pss_cons (ps_set (i := 6) sc.nd rfl (Or.inr rfl) (pe_op op_add (pe_op op_sub (pv 6) pe_int) (pe_ix ix_tup (pe_ix ix_list (pv 8) (pv 9) (fun _ _ => rfl)) pe_int (fun _ _ => rfl))))
          (pss_one (ps_set (i := 4) sc.nd rfl (Or.inr rfl) (pe_op op_sub (pv 4) pe_int)))))
          (pss_cons (ps_set (i := 5) sc.nd rfl (Or.inl rfl) (pe_op op_catA (pv 5) (pe_tup (pa_cons (pe_bm PySem.F.plainAttrs_list PySem.F.slot_list_pop PySem.F.type_list_pop mt_popAt (pv 3) (pa_cons (pe_op op_fdiv (pe_op op_sub (pv 9) (pe_callB call_len_seq (by rfl) T.len (by decide +kernel) (pa_cons (pv 8) pa_nil))) pe_int) pa_nil)) pa_nil))))
          (pss_one (ps_set (i := 6) sc.nd rfl (Or.inr rfl) (pe_op op_sub (pv 6) pe_int))))))))))
      (pss_one (ps_ret (pv 5)))))))), ?_⟩
  obtain ⟨x0, h0, bc0, pr, rfl, hL, hat⟩ := hg.takeR hne hRL
  have hp0 : SqZ K (L2.del H g) p (l.map V.str) := by
    obtain ⟨⟨x, e⟩, _⟩ := hg
    exact hp.stay (stay_del e)
  have hle := ok.le
  rw [List.length_map] at hle
  have nd := ok.ok.nd
  generalize hB0 : L2.del H g = B0 at *
  have st := star_nk ok
  have kst := knK_stump st (l := l) fun x hx => (stp.wd x hx).imp (·.1) id
  have l6 := stp.le
  have l2 : 1 ≤ knK (pr.map (·.2)) (kS l) := by
    obtain ⟨x, t, rfl, hx, _⟩ := stp.hd
    have e : knK (pr.map (·.2)) (kS (x :: t)) = knK (pr.map (·.2)) (kS t) + 1 := by
      unfold knK
      show ((Sum.inr x :: kS t).filter (isKK (pr.map (·.2)))).length = _
      rw [List.filter_cons]
      show (if isK (pr.map (·.2)) x = true then Sum.inr x :: (kS t).filter (isKK (pr.map (·.2))) else (kS t).filter (isKK (pr.map (·.2)))).length = _
      rw [if_pos hx]
      rfl
    omega
  generalize hholes : l.count ("*" : Str) = hs at *
  have hlen2 : 2 ≤ l.length := by
    obtain ⟨x, t, rfl, hx, ha⟩ := stp.hd
    cases t with
    | cons y t => simp only [List.length_cons]; omega
    | nil =>
      have := stp.ck
      rw [fa, if_neg (by omega), if_neg (fun z => by rw [hx] at z; cases z.1), fa, if_pos (by omega)] at this
      omega
  refine ⟨_, rfl, ⟨p, _, rfl, hp.sq, hp.nd⟩, p, _, _, rfl, rfl, hp.sq, rfl, flat_strs l, (hs : Int), by rw [countP_strs, hholes], RgOk.of_le (by omega) (by omega) (by omega) (by omega), fun F hF => ?_⟩
  rw [rgV_nats]
  have h1 := (h0.new (o := .lst (vN (List.range hs))) hF).swap
  refine ⟨_, rfl, p, _, rfl, .inr (Same.sqt h1.sub hp0.sq), _, rfl, F, _, rfl, .inl (SqL.of h1.r1), _, _, rfl, rfl, _, _, rfl, rfl, ?_⟩
  refine ⟨(by show 0 ≤ sizeLine; decide), fun r0 hr0 => ?_⟩
  have h2 := h1.tup (o := .tup []) hr0
  have s2 := up_same (o := .tup []) (h1.sub.free hr0)
  have e2 : SqT K (upd B0 r0 (.tup [])) r0 [] := SqT.of upd_same
  generalize upd B0 r0 (.tup []) = B2 at *
  have er : (((l.map V.str).length : Nat) : Int) - ((vN (List.range hs)).length : Nat) - 1 = ((knK (pr.map (·.2)) (kS l) - 1 : Nat) : Int) := by
    rw [List.length_map, List.length_map, List.length_range]
    omega
  have fin : ∀ (ks : List Key) (met : List Int) (room i : Nat) (r : Addr) (x : Int × Int × Int) (B H' : Hp) (fr : List Nat), PreK (pr.map (·.2)) hs ks 0 met → knK (pr.map (·.2)) ks + room + 1 = knK (pr.map (·.2)) (kS l) → ks.length ≤ 7 → (∀ x, Sum.inr x ∈ ks → Wd x) → SqT K B r (ks.map kV) → Same B0 B → Hs B [(g, bagO c x), (F, .lst (vN fr))] H' → Q (.ref r) H' :=
    fun ks met room i r x B H' fr h1 h2 h3 h4 h5 h6 h7 => hq r ks H' ⟨by rw [hholes]; exact h1.done, by omega, h3, h4⟩ (h7.isDr (by rw [hB0]; exact h6)) (Same.sqt h7.sub h5)
  refine ⟨_, rfl, p, _, rfl, .inr (Same.sqt h2.sub (Same.sqt s2 hp0.sq)), _, rfl, by rw [List.length_map]; omega, by rw [List.length_map]; omega, for_rng (n := (l.map V.str).length) (fun i σ H' => ∃ (t7 t8 t9 : Option V) (ks : List Key) (n room : Nat) (met : List Int) (fr : List Nat) (r : Addr) (x : Int × Int × Int) (B : Hp), σ = [some (.ref g), some (.ref q), some (.ref p), some (.ref F), some (.int (room : Nat)), some (.ref r), some (.int (n : Nat)), t7, t8, t9, none] ∧
      room + fr.length + i + 1 = l.length ∧ n ≤ room + fr.length ∧ PreK (pr.map (·.2)) hs ks n met ∧ (∀ m ∈ fr, m < hs) ∧ fr.Nodup ∧ (∀ m ∈ fr, (m : Int) ∉ met) ∧ knK (pr.map (·.2)) ks + room + 1 = knK (pr.map (·.2)) (kS l) ∧ ks.length = i ∧ (∀ x, Sum.inr x ∈ ks → Wd x) ∧ SqT K B r (ks.map kV) ∧ Same B0 B ∧ Hs B [(g, bagO c x), (F, .lst (vN fr))] H')
    ⟨none, none, none, [], 1, knK (pr.map (·.2)) (kS l) - 1, [], List.range hs, r0, x0, B2, by rw [← er]; rfl, by rw [List.length_range]; omega, by rw [List.length_range]; omega, PreK.nil, fun m hm => List.mem_range.mp hm, List.nodup_range, fun _ _ z => (nomatch z), by show 0 + _ + 1 = _; omega, rfl, fun _ z => (nomatch z), e2, s2, h2⟩ ?_ ?_⟩
  · rintro i σ H5 hi ⟨t7, t8, t9, ks, n, room, met, fr, r, x, B, rfl, hsum, hn, hpre, hfr, hfn, hfm, hkn, hkl, hwd, zr, sB, hh⟩
    rw [List.length_map] at hi
    refine ⟨_, rfl, rfl, _, rfl, if_dec (fun c0 => ?_) (fun c0 => ?_)⟩
    · have c0 : n = 0 := by have := V.int.inj c0; omega
      subst c0
      exact ⟨_, rfl, fin ks met room i r x B H5 fr hpre hkn (by omega) hwd zr sB hh⟩
    have c0 : 0 < n := Nat.pos_of_ne_zero fun z => c0 (by rw [z]; rfl)
    have hLB := sB _ _ hL
    have hatB := hat.mono sB
    have hpB := hp0.same sB
    refine ⟨_, rfl, q, rfl, ⟨_, SqL.of (hh.sub _ _ hLB)⟩, fun D5 hD5 => ?_⟩
    have hS := Hs.start H5
    refine lc_filt (K := K) (xs := pr) (f := fun z => V.ref z.1) (out := fun z => V.ref z.1) (keep := fun z => decide (0 < room ∧ n + z.2.2 ≤ room + fr.length)) hS hD5 (fun _ _ z => z.sub _ _ (hh.sub _ _ hLB)) (by omega) (fun z hz H' s' R1 R2 k1 k2 => ?_) (fun H6 h6 => ?_)
    · have tz := Same.sqt s' (Same.sqt hh.sub (hatB.at_ z hz))
      refine ⟨_, rfl, _, _, rfl, rfl, _, rfl, if_dec (fun c1 => ?_) (fun c1 => k2 (decide_eq_false (by omega)))⟩
      refine ⟨_, rfl, _, rfl, z.1, _, _, _, rfl, rfl, tz, atI_nat (j := 1) rfl, _, _, rfl, rfl, _, rfl, _, rfl, F, _, rfl, .inl (SqL.of (s' _ _ hh.r1)), _, _, rfl, rfl, _, _, rfl, rfl, _, rfl, ?_⟩
      rw [List.length_map]
      exact if_dec (fun c2 => ⟨_, rfl, k1 (decide_eq_true (by omega))⟩) (fun c2 => k2 (decide_eq_false (by omega)))
    · have a6 := hh.after h6.sub
      have h7 := a6.2
      have e7 : (cut [(g, bagO c x), (F, .lst (vN fr))] H6) D5 = some (.lst ((pr.filter fun z => decide (0 < room ∧ n + z.2.2 ≤ room + fr.length)).map fun z => V.ref z.1)) := by
        rw [cut_at (hh.out_new hD5)]
        exact h6.r0
      have s7 := a6.1
      generalize cut [(g, bagO c x), (F, .lst (vN fr))] H6 = B7 at *
      have cle := List.length_filter_le (fun z : Addr × Sy.Row => decide (0 < room ∧ n + z.2.2 ≤ room + fr.length)) pr
      have cpos : fr.length = 0 → 0 < (pr.filter fun z => decide (0 < room ∧ n + z.2.2 ≤ room + fr.length)).length := fun z0 => by
        obtain ⟨r', hr', e0⟩ := ok.ok.lf
        obtain ⟨z, hz, rfl⟩ := List.mem_map.mp hr'
        exact List.length_pos_of_mem (List.mem_filter.mpr ⟨hz, decide_eq_true (by omega)⟩)
      have hchm : ∀ z ∈ pr.filter (fun z => decide (0 < room ∧ n + z.2.2 ≤ room + fr.length)), z ∈ pr ∧ 0 < room ∧ n + z.2.2 ≤ room + fr.length := fun z hm => by
        obtain ⟨a, b⟩ := List.mem_filter.mp hm
        exact ⟨a, of_decide_eq_true b⟩
      generalize hch : pr.filter (fun z => decide (0 < room ∧ n + z.2.2 ≤ room + fr.length)) = ch at *
      have e2c : (((ch.map fun z => V.ref z.1).length : Nat) : Int) + (2 : Int) * (((vN fr).length : Nat) : Int) = ((ch.length + 2 * fr.length : Nat) : Int) := by rw [List.length_map, List.length_map]; omega
      refine ⟨_, rfl, _, rfl, D5, _, rfl, .inl (SqL.of (h7.sub _ _ e7)), _, rfl, F, _, rfl, .inl (SqL.of h7.r1), _, _, rfl, rfl, .inl (by decide), _, _, rfl, rfl, c, g, ch.length + 2 * fr.length, by show [V.ref g, V.int ((((ch.map fun z => V.ref z.1).length : Nat) : Int) + (2 : Int) * (((vN fr).length : Nat) : Int))] = _; rw [e2c], h7.bag (bc0.mono (sB.trans s7)), ?_, by omega, fun at_ H8 hat8 d8 => ?_⟩
      · by_cases z0 : fr.length = 0
        · have := cpos z0
          omega
        · omega
      obtain ⟨x8, B8, s8, h8⟩ := h7.dr0 d8
      have sB8 := (sB.trans s7).trans s8
      have zr8 := Same.sqt (s7.trans s8) zr
      have eD8 := h8.sub _ _ (s8 _ _ e7)
      refine ⟨_, rfl, _, rfl, D5, _, rfl, .inl (SqL.of eD8), _, _, rfl, rfl, _, rfl, ?_⟩
      rw [List.length_map]
      refine if_dec (fun c9 => ?_) (fun c9 => ?_)
      · have c9 : at_ < ch.length := by omega
        obtain ⟨zc, ezc⟩ : ∃ z, ch[at_]? = some z := ⟨_, List.getElem?_eq_getElem c9⟩
        have hzc := hchm zc (List.mem_of_getElem? ezc)
        have tzc := (hat.mono sB8).at_ zc hzc.1
        obtain ⟨kc, ac⟩ := row_at nd (List.mem_map_of_mem hzc.1)
        have wc := ok.wd zc.2 (List.mem_map_of_mem hzc.1)
        have atc : atI (ch.map fun z => V.ref z.1) ((at_ : Nat) : Int) = some (.ref zc.1) := atI_nat (by rw [List.getElem?_map, ezc]; rfl)
        refine ⟨_, rfl, _, rfl, _, rfl, D5, _, _, .ref zc.1, rfl, rfl, SqL.of eD8, atc, zc.1, _, _, _, rfl, rfl, Same.sqt h8.sub tzc, atI_nat (j := 0) rfl, (by show 1 ≤ sizeLine; decide), fun p9 hp9 => ?_⟩
        have h9 := h8.tup (o := .tup [.str zc.2.1]) hp9
        have s9 := up_same (o := .tup [.str zc.2.1]) (h8.sub.free hp9)
        have e9 : SqT K (upd B8 p9 (.tup [.str zc.2.1])) p9 [.str zc.2.1] := SqT.of upd_same
        generalize upd B8 p9 (.tup [.str zc.2.1]) = B9 at *
        refine cat_any (Same.sqt h9.sub (Same.sqt s9 zr8)) (Same.sqt h9.sub e9) (by rw [List.length_map]; show _ + 1 ≤ _; omega) (fun p10 H10 s10 t10 => ?_)
        have a10 := h9.after s10
        have t10' := sqt_cut a10.2 (NTu.lst (NTu.lst NTu.nil)) t10
        have h10 := a10.2
        have sB10 := (sB8.trans s9).trans a10.1
        have eD10 := h10.sub _ _ (a10.1 _ _ (s9 _ _ (s8 _ _ e7)))
        have tz10 := Same.sqt h10.sub ((hat.mono sB10).at_ zc hzc.1)
        have en : ((n : Int) - 1 + (zc.2.2 : Nat)) = ((n - 1 + zc.2.2 : Nat) : Int) := by omega
        have erm : ((room : Int) - 1) = ((room - 1 : Nat) : Int) := by omega
        have el : (ks ++ [Sum.inr zc.2.1]).map kV = ks.map kV ++ [V.str zc.2.1] := by rw [List.map_append]; rfl
        refine ⟨_, rfl, _, _, rfl, rfl, _, rfl, _, rfl, D5, _, _, .ref zc.1, rfl, rfl, SqL.of eD10, atc, zc.1, _, _, _, rfl, rfl, tz10, atI_nat (j := 1) rfl, _, _, rfl, rfl, _, rfl, _, _, rfl, rfl, ?_⟩
        refine ⟨_, _, _, ks ++ [Sum.inr zc.2.1], n - 1 + zc.2.2, room - 1, met, fr, p10, x8, _, by rw [← en, ← erm]; rfl, by omega, by omega, ?_, hfr, hfn, hfm, ?_, by rw [List.length_append, hkl]; rfl, fun y hy => ?_, by rw [el]; exact t10', sB10, h10⟩
        · have := hpre.kind c0 kc
          rw [ac] at this
          exact this
        · rw [knK_snoc]
          show _ + (if isK (pr.map (·.2)) zc.2.1 = true then 1 else 0) + (room - 1) + 1 = _
          rw [if_pos kc]
          omega
        · rcases List.mem_append.mp hy with hy | hy
          · exact hwd y hy
          · have := Sum.inr.inj (List.mem_singleton.mp hy)
            rw [this]
            exact wc
      · have hj : (at_ - ch.length) / 2 < fr.length := by omega
        obtain ⟨m, em⟩ : ∃ m, fr[(at_ - ch.length) / 2]? = some m := ⟨_, List.getElem?_eq_getElem hj⟩
        have hm := List.mem_of_getElem? em
        have ei : (((at_ : Nat) : Int) - ((ch.map fun z => V.ref z.1).length : Nat)) / 2 = (((at_ - ch.length) / 2 : Nat) : Int) := by rw [List.length_map]; omega
        have ej : (vN fr)[(at_ - ch.length) / 2]? = some (V.int (m : Nat)) := by unfold vN; rw [List.getElem?_map, em]; rfl
        have e64 : (2 : Int) ^ 63 = 9223372036854775808 := by decide
        have es1 : seqIndex? (((at_ - ch.length) / 2 : Nat) : Int) (vN fr).length = some ((at_ - ch.length) / 2) := by
          rw [List.length_map]
          rw [seqIndex_of (by omega) (by omega)]
          rfl
        refine ⟨_, rfl, _, rfl, .inl ⟨rfl, _, SqL.of h8.r1⟩, _, rfl, _, rfl, D5, _, rfl, .inl (SqL.of eD8), _, _, rfl, rfl, _, _, rfl, rfl, ⟨by decide, by decide⟩, F, vN fr, (((at_ - ch.length) / 2 : Nat) : Int), (at_ - ch.length) / 2, .int (m : Nat), rfl, by show [V.int ((((at_ : Nat) : Int) - ((ch.map fun z => V.ref z.1).length : Nat)) / 2)] = _; rw [ei], h8.r1, by omega, by omega, es1, ej, (by show 1 ≤ sizeLine; decide), fun p9 hp9 => ?_⟩
        have er2 : (vN fr).eraseIdx ((at_ - ch.length) / 2) = vN (fr.eraseIdx ((at_ - ch.length) / 2)) := by
          exact map_erase _ _ _
        rw [er2] at hp9 ⊢
        have h8' : Hs B8 [(g, bagO c x8), (F, .lst (vN (fr.eraseIdx ((at_ - ch.length) / 2))))] _ := h8.w1
        have h9 := h8'.tup (o := .tup [.int (m : Nat)]) hp9
        have s9 := up_same (o := .tup [.int (m : Nat)]) (h8'.sub.free hp9)
        have e9 : SqT K (upd B8 p9 (.tup [.int (m : Nat)])) p9 [.int (m : Nat)] := SqT.of upd_same
        generalize upd B8 p9 (.tup [.int (m : Nat)]) = B9 at *
        refine cat_any (Same.sqt h9.sub (Same.sqt s9 zr8)) (Same.sqt h9.sub e9) (by rw [List.length_map]; show _ + 1 ≤ _; omega) (fun p10 H10 s10 t10 => ?_)
        have a10 := h9.after s10
        have t10' := sqt_cut a10.2 (NTu.lst (NTu.lst NTu.nil)) t10
        have h10 := a10.2
        have sB10 := (sB8.trans s9).trans a10.1
        have en : ((n : Int) - 1) = ((n - 1 : Nat) : Int) := by omega
        have el : (ks ++ [Sum.inl (m : Int)]).map kV = ks.map kV ++ [V.int (m : Nat)] := by rw [List.map_append]; rfl
        have lf := List.length_eraseIdx_of_lt hj
        have sub := (fr.eraseIdx_sublist ((at_ - ch.length) / 2)).subset
        refine ⟨_, rfl, _, _, rfl, rfl, ?_⟩
        refine ⟨_, _, _, ks ++ [Sum.inl (m : Int)], n - 1, room, (m : Int) :: met, fr.eraseIdx ((at_ - ch.length) / 2), p10, x8, _, by rw [← en]; rfl, by omega, by omega, hpre.hole c0 (hfr m hm) (hfm m hm), fun y hy => hfr y (sub hy), hfn.sublist (fr.eraseIdx_sublist _), fun y hy z => ?_, ?_, by rw [List.length_append, hkl]; rfl, fun y hy => ?_, by rw [el]; exact t10', sB10, h10⟩
        · rcases List.mem_cons.mp z with z | z
          · have z : y = m := by omega
            subst z
            obtain ⟨k, hk, ek⟩ := List.mem_eraseIdx_iff_getElem.mp hy
            obtain ⟨hk1, ek1⟩ := List.getElem?_eq_some_iff.mp em
            have := (List.getElem_inj hfn).mp (ek.2.trans ek1.symm)
            exact ek.1 this
          · exact hfm y (sub hy) z
        · rw [knK_snoc]
          show _ + (if isKK (pr.map (·.2)) (.inl (m : Int)) = true then 1 else 0) + room + 1 = _
          rw [if_neg (fun z => by cases z)]
          omega
        · rcases List.mem_append.mp hy with hy | hy
          · exact hwd y hy
          · exact absurd (List.mem_singleton.mp hy) (fun z => by cases z)
  · rintro i σ ⟨t7, t8, t9, ks, n, room, met, fr, r, x, B, rfl, hsum, _⟩
    rw [List.length_map] at hsum
    omega
end
end Sy
/-! _law_tame -/
namespace Sy
open PySem PySem.Spec PyProof.Rows L2
/-- a trim as the law makes it -/
def GdT (rows : List Sy.Row) (m : Nat) (t : Trm) : Prop := StpOk rows t.1 m ∧ RsOk rows t.1 t.2
/-- its rows as a pair -/
def PrAt (K : PySem.W.Frag) (H : Hp) (p : Addr) (t : Trm) : Prop := ∃ s r, SqT K H p [.ref s, .ref r] ∧ SqZ K H s (t.1.map V.str) ∧ SqT K H r (t.2.map kV)
theorem PrAt.stay {K : PySem.W.Frag} {H H' : Hp} {p : Addr} {t : Trm} (h : PrAt K H p t) (s : Stay H H') : PrAt K H' p t := by
  obtain ⟨a, b, h1, h2, h3⟩ := h
  exact ⟨a, b, s.sqt h1, h2.stay s, s.sqt h3⟩
theorem PrAt.same {K : PySem.W.Frag} {H H' : Hp} {p : Addr} {t : Trm} (h : PrAt K H p t) (s : Same H H') : PrAt K H' p t := h.stay (Stay.of s)
theorem Pre.holes {rows : List Sy.Row} (e : ar rows "*" = 0) : ∀ (k : Nat) {l : List Str} {n : Nat}, Pre rows l n → k ≤ n → Pre rows (l ++ List.replicate k ("*" : Str)) (n - k)
  | 0, l, n, h, _ => by rw [List.replicate_zero, List.append_nil]; exact h
  | k + 1, l, n, h, hk => by
    have := Pre.holes e k (h.hole (by omega) e) (by omega)
    rw [List.append_assoc] at this
    rw [List.replicate_succ, show n - (k + 1) = n - 1 - k by omega]
    exact this
theorem wd_star {x : Str} (h : Wd x) : x ≠ "*" := fun e => by
  rw [e] at h
  exact absurd (h.2.2 42 (by decide +kernel)) (by unfold Lt; omega)
section
variable {rows : List Sy.Row} {x z : Str} {n at_ m : Nat}
def tmL (x z : Str) (n at_ : Nat) : List Str := x :: (List.replicate at_ ("*" : Str) ++ [z] ++ List.replicate (n - 1 - at_) ("*" : Str))
theorem tmL_ok (ok : KdsOk rows) (hx : (x, n) ∈ rows) (hz : (z, 0) ∈ rows) (ha : at_ < n) (hm : n < m) : StpOk rows (tmL x z n at_) m ∧ (tmL x z n at_).count ("*" : Str) = n - 1 ∧ knK rows (kS (tmL x z n at_)) = 2 := by
  obtain ⟨kx, ax⟩ := row_at ok.ok.nd hx
  obtain ⟨kz, az⟩ := row_at ok.ok.nd hz
  simp only at kx ax kz az
  have wx : Wd x := ok.wd _ hx
  have wz : Wd z := ok.wd _ hz
  have st := ar_star ok
  have len : (tmL x z n at_).length = n + 1 := by
    unfold tmL
    simp only [List.length_cons, List.length_append, List.length_replicate, List.length_nil]
    omega
  have wd : ∀ y ∈ tmL x z n at_, isK rows y = true ∧ Wd y ∨ y = "*" := by
    intro y hy
    unfold tmL at hy
    simp only [List.mem_cons, List.mem_append, List.mem_replicate, List.not_mem_nil, or_false] at hy
    rcases hy with rfl | (⟨_, rfl⟩ | rfl) | ⟨_, rfl⟩
    · exact .inl ⟨kx, wx⟩
    · exact .inr rfl
    · exact .inl ⟨kz, wz⟩
    · exact .inr rfl
  have sp : StpOk rows (tmL x z n at_) m := by
    refine ⟨?_, by omega, wd, x, _, rfl, kx, by omega⟩
    have p1 := (Pre.nil (rows := rows)).kind (by decide) kx
    rw [ax, show 1 - 1 + n = n by omega] at p1
    have p2 := Pre.holes st at_ p1 (by omega)
    have p3 := p2.kind (by omega) kz
    rw [az] at p3
    have p4 := Pre.holes st (n - 1 - at_) p3 (by omega)
    rw [show n - at_ - 1 + 0 - (n - 1 - at_) = 0 by omega] at p4
    have e : [] ++ [x] ++ List.replicate at_ ("*" : Str) ++ [z] ++ List.replicate (n - 1 - at_) ("*" : Str) = tmL x z n at_ := by
      unfold tmL
      simp
    rw [e] at p4
    exact p4.done
  have cnt : (tmL x z n at_).count ("*" : Str) = n - 1 := by
    unfold tmL
    rw [List.count_cons, List.count_append, List.count_append, List.count_replicate_self, List.count_replicate_self]
    have h1 : (x == ("*" : Str)) = false := beq_eq_false_iff_ne.mpr (wd_star wx)
    have h2 : List.count ("*" : Str) [z] = 0 := List.count_eq_zero.mpr (fun h => wd_star wz (List.mem_singleton.mp h).symm)
    rw [h1, h2]
    simp
    omega
  refine ⟨sp, cnt, ?_⟩
  have := knK_stump (star_nk ok) (l := tmL x z n at_) fun y hy => (wd y hy).imp (·.1) id
  rw [cnt, len] at this
  omega
/-- the results of tame trims -/
theorem tm_hole (ok : KdsOk rows) (hx : (x, n) ∈ rows) (hz : (z, 0) ∈ rows) (ha : at_ < n) (hn : 1 < n) (hm : n < m) : GdT rows m (tmL x z n at_, [.inl 0]) := by
  obtain ⟨h1, h2, h3⟩ := tmL_ok ok hx hz ha hm
  refine ⟨h1, ?_, ?_, (by show 1 ≤ 7; decide), fun y hy => ?_⟩
  · show rfK rows ((tmL x z n at_).count ("*" : Str) : Nat) _ = _
    rw [h2]
    exact ((PreK.nil (rows := rows) (h := n - 1)).hole (m := 0) (by decide) (by omega) (fun z => nomatch z)).done
  · show _ < knK rows (kS (tmL x z n at_))
    rw [h3]
    show 0 < 2
    decide
  · exact absurd (List.mem_singleton.mp hy) (fun z => by cases z)
theorem knK_1 {y : Str} (h : isK rows y = true) : knK rows [.inr y] = 1 := by
  have := knK_snoc (rows := rows) (ks := []) (.inr y)
  rw [if_pos (show isKK rows (.inr y) = true from h)] at this
  exact this
theorem tm_zero (ok : KdsOk rows) (hx : (x, n) ∈ rows) (hz : (z, 0) ∈ rows) (ha : at_ < n) (hm : n < m) : GdT rows m (tmL x z n at_, [.inr z]) := by
  obtain ⟨h1, h2, h3⟩ := tmL_ok ok hx hz ha hm
  obtain ⟨kz, az⟩ := row_at ok.ok.nd hz
  refine ⟨h1, ?_, ?_, (by show 1 ≤ 7; decide), fun y hy => ?_⟩
  · have p := (PreK.nil (rows := rows) (h := (tmL x z n at_).count ("*" : Str))).kind (by decide) kz
    rw [az] at p
    exact p.done
  · show _ < knK rows (kS (tmL x z n at_))
    rw [h3, knK_1 kz]
    decide
  · rw [Sum.inr.inj (List.mem_singleton.mp hy)]
    exact ok.wd _ hz
theorem tm_twice (ok : KdsOk rows) (hx : (x, 1) ∈ rows) (hm : 3 ≤ m) : GdT rows m ([x, x, ("*" : Str)], [.inr x, .inl 0]) := by
  obtain ⟨kx, ax⟩ := row_at ok.ok.nd hx
  have wx : Wd x := ok.wd _ hx
  simp only at kx ax
  have cnt : ([x, x, ("*" : Str)] : List Str).count ("*" : Str) = 1 := by
    have h1 : (x == ("*" : Str)) = false := beq_eq_false_iff_ne.mpr (wd_star wx)
    rw [List.count_cons, List.count_cons, h1]
    rfl
  have wd : ∀ y ∈ ([x, x, ("*" : Str)] : List Str), isK rows y = true ∧ Wd y ∨ y = "*" := by
    intro y hy
    simp only [List.mem_cons, List.not_mem_nil, or_false] at hy
    rcases hy with rfl | rfl | rfl
    · exact .inl ⟨kx, wx⟩
    · exact .inl ⟨kx, wx⟩
    · exact .inr rfl
  have kn := knK_stump (star_nk ok) (l := [x, x, ("*" : Str)]) fun y hy => (wd y hy).imp (·.1) id
  rw [cnt] at kn
  refine ⟨⟨?_, hm, wd, x, _, rfl, kx, by rw [ax]; decide⟩, ?_, ?_, (by show 2 ≤ 7; decide), fun y hy => ?_⟩
  · have p1 := (Pre.nil (rows := rows)).kind (by decide) kx
    rw [ax] at p1
    have p2 := p1.kind (by decide) kx
    rw [ax] at p2
    exact (p2.hole (by decide) (ar_star ok)).done
  · show rfK rows (([x, x, ("*" : Str)] : List Str).count ("*" : Str) : Nat) _ = _
    rw [cnt]
    have p1 := (PreK.nil (rows := rows) (h := 1)).kind (by decide) kx
    rw [ax] at p1
    exact (p1.hole (m := 0) (by decide) (by decide) (fun z => nomatch z)).done
  · have e := knK_snoc (rows := rows) (ks := [.inr x]) (.inl 0)
    rw [knK_1 kx] at e
    show knK rows ([Sum.inr x] ++ [Sum.inl 0]) < knK rows (kS [x, x, ("*" : Str)])
    rw [e]
    have : isKK rows (.inl 0) = false := rfl
    rw [this]
    have : ([x, x, ("*" : Str)] : List Str).length = 3 := rfl
    rw [if_neg (by decide)]
    omega
  · simp only [List.mem_cons, List.not_mem_nil, or_false, reduceCtorEq] at hy
    rw [Sum.inr.inj hy]
    exact wx
end
section
variable {P : Program} {w : World} {K : PySem.W.Frag} {mg : Str → Option Value} {base : Heap}
theorem rep_any {H : Hp} {Q : VK} {l : Addr} {v : V} {k : Nat} (hk : k ≤ 1000) (h : SqT K H l [v]) (q : ∀ p H', Same H H' → SqT K H' p (List.replicate k v) → Q (.ref p) H') : rRepG K (.ref l) (.int (k : Nat)) H Q := by
  refine ⟨l, k, [v], rfl, rfl, h, by omega, by omega, ?_, (by show 1 ≤ 1000000; decide), fun c => ?_, fun c p hp => ?_⟩
  · show 1 * _ ≤ _
    omega
  · have c : k = 1 := by
      rcases c with c | c
      · cases c
      · omega
    subst c
    exact q _ _ (Same.refl H) h
  · refine q _ _ (up_same hp) ?_
    have e : (List.replicate (k : Int).toNat [v]).flatten = List.replicate k v := by
      rw [show (k : Int).toNat = k by omega]
      exact List.flatten_replicate_singleton
    rw [e]
    exact SqT.of upd_same
theorem rep_anyI {H : Hp} {Q : VK} {l : Addr} {v : V} {i : Int} {k : Nat} (e : i = (k : Nat)) (hk : k ≤ 1000) (h : SqT K H l [v]) (q : ∀ p H', Same H H' → SqT K H' p (List.replicate k v) → Q (.ref p) H') : rRepG K (.ref l) (.int i) H Q := by
  subst e
  exact rep_any hk h q
def spTame (K : PySem.W.Frag) : Sp := fun vs H Q _ => ∃ (c g q : Addr) (z : Str) (most : Nat) (rows roots : List Sy.Row), vs = [.ref g, .ref q, .str z] ∧ Bag c g H ∧ q ≠ g ∧ RL K H q roots ∧ roots ≠ [] ∧ (∀ r ∈ roots, r ∈ rows ∧ 0 < r.2 ∧ r.2 < most) ∧ 4 ≤ most ∧ roots.length ≤ 5 ∧ KdsOk rows ∧ (z, 0) ∈ rows ∧
  ∀ p t H', GdT rows most t → Dr c g H H' → PrAt K H' p t → Q (.ref p) H'
abbrev N_tame : List Str := ["_law_bag_here", "_law_roots", "_law_zero", "_law_pair", "_law_at", "_law_stump_here"]
theorem sc_tame : FnScope N_tame ["_law_bag_here", "_law_roots", "_law_zero"] (defScope (top 58)) := ⟨rfl, rfl, rfl, by decide +kernel, rfl, by decide +kernel, by decide +kernel⟩
theorem k_tame (T : Txt K mg) (F : DF K mg "_law_tame" 58) (c_law_pick : Cal P w K mg base 1 "_law_pick" ["_law_bag_here", "_law_limit"] spPick) : Cal P w K mg base 2 "_law_tame" ["_law_bag_here", "_law_roots", "_law_zero"] (spTame K) := by
  refine cal_of F.1 F.2 sc_tame (fun _ _ _ _ _ _ us e => match us, e with | [_, _, _], _ => rfl) (fun vs H Q E s => by obtain ⟨_, _, _, _, _, _, _, rfl, _⟩ := s; rfl) ?_
  intro cdv A outer s H vs Q E hr h
  obtain ⟨c, g, q, z, most, rows, roots, rfl, hg, hne, hRL, hne0, hrt, hmost, hlen, ok, hz, hq⟩ := h
  have sc := sc_tame
  refine ⟨_, (pss_cons (ps_set (i := 3) sc.nd rfl (Or.inl rfl) (pe_ix ix_list (pv 1) (pe_cal c_law_pick hr (pa_cons (pv 0) (pa_cons (pe_callB call_len_seq (by rfl) T.len (by decide +kernel) (pa_cons (pv 1) pa_nil)) pa_nil))) (fun _ _ => rfl)))
      (pss_cons (ps_cut (ps_if (PW.pt (pw_and (pt_cmpR op_eq (pe_ix ix_tup (pv 3) pe_int (fun _ _ => rfl)) pe_int (nomark _)) (pw_and1 (pt_cmpR op_eq (pe_cal c_law_pick hr (pa_cons (pv 0) (pa_cons pe_int pa_nil))) pe_int (nomark _)))))
        (pss_one (ps_ret (pe_tup (pa_cons (pe_tupZ (pa_cons (pe_ix ix_tup (pv 3) pe_int (fun _ _ => rfl)) (pa_cons (pe_ix ix_tup (pv 3) pe_int (fun _ _ => rfl)) (pa_cons pe_str pa_nil)))) (pa_cons (pe_tup (pa_cons (pe_ix ix_tup (pv 3) pe_int (fun _ _ => rfl)) (pa_cons pe_int pa_nil))) pa_nil)))))
        pss_nil))
      (pss_cons (ps_set (i := 4) sc.nd rfl (Or.inl rfl) (pe_cal c_law_pick hr (pa_cons (pv 0) (pa_cons (pe_ix ix_tup (pv 3) pe_int (fun _ _ => rfl)) pa_nil))))
      (pss_cons (ps_set (i := 5) sc.nd rfl (Or.inl rfl) (pe_op op_catZ (pe_op op_catZ (pe_op op_catZ (pe_tupZ (pa_cons (pe_ix ix_tup (pv 3) pe_int (fun _ _ => rfl)) pa_nil)) (pe_op op_repG (pe_tup (pa_cons pe_str pa_nil)) (pv 4))) (pe_tup (pa_cons (pv 2) pa_nil))) (pe_op op_repG (pe_tup (pa_cons pe_str pa_nil)) (pe_op op_sub (pe_op op_sub (pe_ix ix_tup (pv 3) pe_int (fun _ _ => rfl)) pe_int) (pv 4)))))
      (pss_cons (ps_cut (ps_if (PW.pt (pw_and (pt_cmpR op_gt (pe_ix ix_tup (pv 3) pe_int (fun _ _ => rfl)) pe_int (nomark _)) (pw_and1 (pt_cmpR op_eq (pe_cal c_law_pick hr (pa_cons (pv 0) (pa_cons pe_int pa_nil))) pe_int (nomark _)))))
        (pss_one (ps_ret (pe_tup (pa_cons (pv 5) (pa_cons (pe_tup (pa_cons pe_int pa_nil)) pa_nil)))))
        pss_nil))
      (pss_one (ps_ret (pe_tup (pa_cons (pv 5) (pa_cons (pe_tup (pa_cons (pv 2) pa_nil)) pa_nil)))))))))), ?_⟩
  obtain ⟨x0, h0, bc0, pr, epr, hL, hat⟩ := hg.takeR hne hRL
  generalize hB0 : L2.del H g = B0 at *
  have hlen : pr.length ≤ 5 := by rw [← epr, List.length_map] at hlen; exact hlen
  have hpos : 0 < pr.length := by
    cases pr with
    | nil => exact absurd epr.symm hne0
    | cons a b => exact Nat.succ_pos _
  refine ⟨_, rfl, _, rfl, _, rfl, q, _, rfl, .inl (SqL.of (h0.sub _ _ hL)), c, g, pr.length, by rw [List.length_map], h0.bag bc0, hpos, by omega, fun j H1 hj d1 => ?_⟩
  obtain ⟨x1, B1, s1, h1⟩ := h0.dr0 d1
  obtain ⟨zr, ezr⟩ : ∃ z, pr[j]? = some z := ⟨_, List.getElem?_eq_getElem hj⟩
  have hzr := List.mem_of_getElem? ezr
  refine ⟨q, _, _, .ref zr.1, rfl, rfl, SqL.of (h1.sub _ _ (s1 _ _ hL)), atI_nat (by rw [List.getElem?_map, ezr]; rfl), ?_⟩
  obtain ⟨hrow, hn0, hnm⟩ := hrt zr.2 (by rw [← epr]; exact List.mem_map_of_mem hzr)
  obtain ⟨a, x, n⟩ := zr
  simp only at hrow hn0 hnm ezr
  have hn3 : n ≤ 3 := ok.ok.br _ hrow
  have ta : SqT K B1 a [.str x, .int (n : Nat)] := (hat.mono s1).at_ _ hzr
  refine ⟨fun σ' H' => ∃ (x : Int × Int × Int) (B : Hp), σ' = [some (.ref g), some (.ref q), some (.str z), some (.ref a), none, none] ∧ Same B1 B ∧ Hs B [(g, bagO c x)] H', ⟨_, rfl, a, _, _, _, rfl, rfl, Same.sqt h1.sub ta, atI_nat (j := 1) rfl, rfl, _, rfl, if_dec (fun c1 => ?_) (fun c1 => ⟨x1, B1, rfl, Same.refl _, h1⟩)⟩, ?_⟩
  · have c1 : n = 1 := by have := V.int.inj c1; omega
    subst c1
    refine ⟨_, rfl, c, g, 2, rfl, h1.bag (bc0.mono s1), by decide, by decide, fun k H2 hk d2 => ?_⟩
    obtain ⟨x2, B2, s2, h2⟩ := h1.dr0 d2
    refine ⟨rfl, _, rfl, if_dec (fun c2 => ?_) (fun c2 => ⟨x2, B2, rfl, s2, h2⟩)⟩
    have ta2 := Same.sqt (s2.trans h2.sub) ta
    refine ⟨_, rfl, a, _, _, _, rfl, rfl, ta2, atI_nat (j := 0) rfl, _, rfl, a, _, _, _, rfl, rfl, ta2, atI_nat (j := 0) rfl, (by show 3 ≤ sizeLine; decide), fun p3 H3 n3 => ?_⟩
    obtain ⟨B3, s3, h3, z3⟩ := h2.sqz (K := K) (AllL.cons AllL.nil) n3.same n3.sqz
    refine ⟨_, rfl, a, _, _, _, rfl, rfl, Same.sqt n3.same ta2, atI_nat (j := 0) rfl, (by show 2 ≤ sizeLine; decide), fun p4 hp4 => ?_⟩
    have h4 := h3.tup (o := .tup [.str x, .int 0]) hp4
    have s4 := up_same (o := .tup [.str x, .int 0]) (h3.sub.free hp4)
    have e4 : SqT K (upd B3 p4 (.tup [.str x, .int 0])) p4 [.str x, .int 0] := SqT.of upd_same
    generalize upd B3 p4 (.tup [.str x, .int 0]) = B4 at *
    refine ⟨(by show 2 ≤ sizeLine; decide), fun p5 hp5 => ?_⟩
    have h5 := h4.tup (o := .tup [.ref p3, .ref p4]) hp5
    have s5 := up_same (o := .tup [.ref p3, .ref p4]) (h4.sub.free hp5)
    have e5 : SqT K (upd B4 p5 (.tup [.ref p3, .ref p4])) p5 [.ref p3, .ref p4] := SqT.of upd_same
    generalize upd B4 p5 (.tup [.ref p3, .ref p4]) = B5 at *
    exact hq p5 ([x, x, ("*" : Str)], [.inr x, .inl 0]) _ (tm_twice ok hrow (by omega)) (h5.isDr (by rw [hB0]; exact (((s1.trans s2).trans s3).trans s4).trans s5)) ⟨p3, p4, Same.sqt h5.sub e5, z3.same ((s4.trans s5).trans h5.sub), Same.sqt (s5.trans h5.sub) e4⟩
  rintro _ H2 ⟨x2, B2, rfl, s2, h2⟩
  have ta2 := Same.sqt s2 ta
  refine ⟨_, rfl, _, rfl, a, _, _, _, rfl, rfl, Same.sqt h2.sub ta2, atI_nat (j := 1) rfl, c, g, n, rfl, h2.bag (bc0.mono (s1.trans s2)), hn0, by omega, fun at_ H3 hat3 d3 => ?_⟩
  obtain ⟨x3, B3, s3, h3⟩ := h2.dr0 d3
  have ta3 := Same.sqt (s3.trans h3.sub) ta2
  refine ⟨_, rfl, a, _, _, _, rfl, rfl, ta3, atI_nat (j := 0) rfl, (by show 1 ≤ sizeLine; decide), fun p4 H4 n4 => ?_⟩
  obtain ⟨B4, s4, h4, z4⟩ := h3.sqz (K := K) (AllL.cons AllL.nil) n4.same n4.sqz
  refine ⟨(by show 1 ≤ sizeLine; decide), fun p5 hp5 => ?_⟩
  have h5 := h4.tup (o := .tup [.str "*"]) hp5
  have s5 := up_same (o := .tup [.str "*"]) (h4.sub.free hp5)
  have e5 : SqT K (upd B4 p5 (.tup [.str "*"])) p5 [.str "*"] := SqT.of upd_same
  generalize upd B4 p5 (.tup [.str "*"]) = B5 at *
  refine ⟨_, rfl, rep_any (by omega) (Same.sqt h5.sub e5) (fun p6 H6 s6 t6 => ?_)⟩
  have a6 := h5.after s6
  have t6' := sqt_cut a6.2 (NTu.lst NTu.nil) t6
  have h6 := a6.2
  have s6' := a6.1
  generalize cut [(g, bagO c x3)] H6 = B6 at *
  refine catZ_l (z4.same ((s5.trans s6').trans h6.sub)) (fun z => nomatch z) t6 (by rw [List.length_replicate]; show 1 + _ ≤ _; omega) (fun p7 H7 s7 z7 => ?_)
  obtain ⟨B7, s7', h7, z7'⟩ := h6.sqz (K := K) (AllL.cons AllL.nil) s7 z7
  refine ⟨_, rfl, (by show 1 ≤ sizeLine; decide), fun p8 hp8 => ?_⟩
  have h8 := h7.tup (o := .tup [.str z]) hp8
  have s8 := up_same (o := .tup [.str z]) (h7.sub.free hp8)
  have e8 : SqT K (upd B7 p8 (.tup [.str z])) p8 [.str z] := SqT.of upd_same
  generalize upd B7 p8 (.tup [.str z]) = B8 at *
  refine catZ_l (z7'.same (s8.trans h8.sub)) (fun z => nomatch z) (Same.sqt h8.sub e8) (by rw [List.length_append, List.length_replicate]; show 1 + _ + 1 ≤ _; omega) (fun p9 H9 s9 z9 => ?_)
  obtain ⟨B9, s9', h9, z9'⟩ := h8.sqz (K := K) (AllL.cons AllL.nil) s9 z9
  refine ⟨(by show 1 ≤ sizeLine; decide), fun p10 hp10 => ?_⟩
  have h10 := h9.tup (o := .tup [.str "*"]) hp10
  have s10 := up_same (o := .tup [.str "*"]) (h9.sub.free hp10)
  have e10 : SqT K (upd B9 p10 (.tup [.str "*"])) p10 [.str "*"] := SqT.of upd_same
  generalize upd B9 p10 (.tup [.str "*"]) = B10 at *
  have sB10 := ((((((s3.trans s4).trans s5).trans s6').trans s7').trans s8).trans s9').trans s10
  have ta10 := Same.sqt (sB10.trans h10.sub) ta2
  have en : ((n : Int) - 1 - (at_ : Nat)) = ((n - 1 - at_ : Nat) : Int) := by omega
  have e10' := Same.sqt h10.sub e10
  refine ⟨_, rfl, a, _, _, _, rfl, rfl, ta10, atI_nat (j := 1) rfl, _, _, rfl, rfl, _, rfl, _, _, rfl, rfl, ?_⟩
  refine rep_anyI en (by omega) e10' (fun p11 H11 s11 t11 => ?_)
  have a11 := h10.after s11
  have t11' := sqt_cut a11.2 (NTu.lst NTu.nil) t11
  have h11 := a11.2
  have s11' := a11.1
  generalize cut [(g, bagO c x3)] H11 = B11 at *
  refine catZ_l (z9'.same ((s10.trans s11').trans h11.sub)) (fun z => nomatch z) t11 (by rw [List.length_append, List.length_append, List.length_replicate, List.length_replicate]; show 1 + _ + 1 + _ ≤ _; omega) (fun p12 H12 s12 z12 => ?_)
  obtain ⟨B12, s12', h12, z12'⟩ := h11.sqz (K := K) (AllL.cons AllL.nil) s12 z12
  have sB12 := (sB10.trans s11').trans s12'
  have el : [V.str x] ++ List.replicate at_ (V.str "*") ++ [V.str z] ++ List.replicate (n - 1 - at_) (V.str "*") = (tmL x z n at_).map V.str := by
    unfold tmL
    simp
  have el : _ ++ _ ++ _ ++ _ = (tmL x z n at_).map V.str := el
  rw [el] at z12'
  have sG := (s1.trans s2).trans sB12
  have fin : ∀ (k : Key) (pk p : Addr) (y : Int × Int × Int) (B H' : Hp), GdT rows most (tmL x z n at_, [k]) → Same B12 B → Hs B [(g, bagO c y)] H' → SqT K H' pk [kV k] → SqT K H' p [.ref p12, .ref pk] → Q (.ref p) H' := fun k pk p y B H' h1 h2 h3 h4 h5 => hq p _ H' h1 (h3.isDr (by rw [hB0]; exact sG.trans h2)) ⟨p12, pk, h5, z12'.same (h2.trans h3.sub), h4⟩
  refine ⟨fun σ' H' => ∃ (x : Int × Int × Int) (B : Hp), σ' = [some (.ref g), some (.ref q), some (.str z), some (.ref a), some (.int (at_ : Nat)), some (.ref p12)] ∧ Same B12 B ∧ Hs B [(g, bagO c x)] H', ⟨_, rfl, a, _, _, _, rfl, rfl, Same.sqt (sB12.trans h12.sub) ta2, atI_nat (j := 1) rfl, _, _, rfl, rfl, _, rfl, if_dec (fun c1 => ?_) (fun c1 => ⟨x3, B12, rfl, Same.refl _, h12⟩)⟩, ?_⟩
  · refine ⟨_, rfl, c, g, 2, rfl, h12.bag (bc0.mono sG), by decide, by decide, fun k H13 hk d13 => ?_⟩
    obtain ⟨x13, B13, s13, h13⟩ := h12.dr0 d13
    refine ⟨rfl, _, rfl, if_dec (fun c2 => ?_) (fun c2 => ⟨x13, B13, rfl, s13, h13⟩)⟩
    refine ⟨_, rfl, (by show 1 ≤ sizeLine; decide), fun p14 hp14 => ?_⟩
    have h14 := h13.tup (o := .tup [.int 0]) hp14
    have s14 := up_same (o := .tup [.int 0]) (h13.sub.free hp14)
    have e14 : SqT K (upd B13 p14 (.tup [.int 0])) p14 [.int 0] := SqT.of upd_same
    generalize upd B13 p14 (.tup [.int 0]) = B14 at *
    refine ⟨(by show 2 ≤ sizeLine; decide), fun p15 hp15 => ?_⟩
    have h15 := h14.tup (o := .tup [.ref p12, .ref p14]) hp15
    have s15 := up_same (o := .tup [.ref p12, .ref p14]) (h14.sub.free hp15)
    exact fin (.inl 0) p14 p15 _ _ _ (tm_hole ok hrow hz hat3 (by omega) hnm) ((s13.trans s14).trans s15) h15 (Same.sqt (s15.trans h15.sub) e14) (SqT.of upd_same)
  · rintro _ H13 ⟨x13, B13, rfl, s13, h13⟩
    refine ⟨_, rfl, _, rfl, (by show 1 ≤ sizeLine; decide), fun p14 hp14 => ?_⟩
    have h14 := h13.tup (o := .tup [.str z]) hp14
    have s14 := up_same (o := .tup [.str z]) (h13.sub.free hp14)
    have e14 : SqT K (upd B13 p14 (.tup [.str z])) p14 [.str z] := SqT.of upd_same
    generalize upd B13 p14 (.tup [.str z]) = B14 at *
    refine ⟨(by show 2 ≤ sizeLine; decide), fun p15 hp15 => ?_⟩
    have h15 := h14.tup (o := .tup [.ref p12, .ref p14]) hp15
    have s15 := up_same (o := .tup [.ref p12, .ref p14]) (h14.sub.free hp15)
    exact fin (.inr z) p14 p15 _ _ _ (tm_zero ok hrow hz hat3 hnm) ((s13.trans s14).trans s15) h15 (Same.sqt (s15.trans h15.sub) e14) (SqT.of upd_same)
end
end Sy
/-! _law_made -/
namespace Sy
open PySem PySem.Spec PyProof.Rows L2
def kD : Key → PyData
  | .inl i => .int i
  | .inr x => .str x
theorem ImA.keys {K : PySem.W.Frag} {H : Hp} : ∀ ks : List Key, ImA K H (ks.map kV) (ks.map kD)
  | [] => .nil
  | .inl i :: ks => .cons (.int i) (ImA.keys ks)
  | .inr x :: ks => .cons (.str x) (ImA.keys ks)
theorem lay_keys : ∀ {ks : List Key}, (∀ x, Sum.inr x ∈ ks → PyData.strOk x = true) → PyData.canLayAll0 (ks.map kD) = true ∧ PyData.depthAll (ks.map kD) ≤ 1
  | [], _ => ⟨rfl, Nat.zero_le _⟩
  | .inl i :: ks, h => by
    have ih := lay_keys (ks := ks) fun x hx => h x (List.mem_cons_of_mem _ hx)
    rw [List.map_cons]
    show (PyData.canLay0 (PyData.int i) && PyData.canLayAll0 (ks.map kD)) = true ∧ max (PyData.depth (PyData.int i)) (PyData.depthAll (ks.map kD)) ≤ 1
    simp only [PyData.canLay0, PyData.depth, Bool.true_and]
    exact ⟨ih.1, by omega⟩
  | .inr x :: ks, h => by
    have ih := lay_keys (ks := ks) fun x hx => h x (List.mem_cons_of_mem _ hx)
    rw [List.map_cons]
    show (PyData.canLay0 (PyData.str x) && PyData.canLayAll0 (ks.map kD)) = true ∧ max (PyData.depth (PyData.str x)) (PyData.depthAll (ks.map kD)) ≤ 1
    simp only [PyData.canLay0, PyData.depth, h x List.mem_cons_self, Bool.true_and]
    exact ⟨ih.1, by omega⟩
/-- a trim's rows as data -/
def PrD (t : Trm) : PyData := .tuple [DS t.1, .tuple (t.2.map kD)]
theorem PrAt.im {K : PySem.W.Frag} {H : Hp} {p : Addr} {t : Trm} (h : PrAt K H p t) : Im K H (.ref p) (PrD t) := by
  obtain ⟨s, r, h1, h2, h3⟩ := h
  exact .tup h1 (.cons (Im.strs h2.sq) (.cons (.tup h3 (ImA.keys _)) .nil))
theorem prs_im {K : PySem.W.Frag} {H : Hp} : ∀ {as : List Addr} {ts : List Trm}, Paired (PrAt K H) as ts → ImA K H (as.map V.ref) (ts.map PrD)
  | _, _, .nil => .nil
  | _, _, .cons a b => .cons a.im (prs_im b)
theorem GdT.sok {rows : List Sy.Row} {m : Nat} {t : Trm} (h : GdT rows m t) : (∀ x ∈ t.1, PyData.strOk x = true) ∧ ∀ x, Sum.inr x ∈ t.2 → PyData.strOk x = true :=
  ⟨fun x hx => (h.1.ws x hx).sok, fun x hx => (h.2.wd x hx).sok⟩
theorem lay_prs {ts : List Trm} (h : ∀ t ∈ ts, (∀ x ∈ t.1, PyData.strOk x = true) ∧ ∀ x, Sum.inr x ∈ t.2 → PyData.strOk x = true) : PyData.canLayAll0 (ts.map PrD) = true ∧ PyData.depthAll (ts.map PrD) ≤ 3 := by
  induction ts with
  | nil => exact ⟨rfl, Nat.zero_le _⟩
  | cons t ts ih =>
    have ih := ih fun y hy => h y (List.mem_cons_of_mem _ hy)
    obtain ⟨h1, h2⟩ := h t List.mem_cons_self
    have l1 := lay_strs h1
    have l2 := lay_keys h2
    rw [List.map_cons]
    show (PyData.canLay0 (PrD t) && PyData.canLayAll0 (ts.map PrD)) = true ∧ max (PyData.depth (PrD t)) (PyData.depthAll (ts.map PrD)) ≤ 3
    have hp : PyData.canLay0 (PrD t) = true ∧ PyData.depth (PrD t) ≤ 3 := by
      unfold PrD DS
      simp only [PyData.canLay0, PyData.depth, PyData.canLayAll0, PyData.depthAll, l1.1, l2.1, Bool.and_self, true_and]
      omega
    rw [hp.1, Bool.true_and]
    exact ⟨ih.1, by omega⟩
theorem lay_L {ds : List PyData} (h : PyData.canLayAll0 ds = true ∧ PyData.depthAll ds ≤ 3) : SeqAt.shaped (.list ds) = true := by
  unfold SeqAt.shaped
  simp only [PyData.canLay0, PyData.depth]
  rw [h.1, Bool.true_and]
  exact decide_eq_true (by omega)
/-- a list of such pairs -/
def ML (K : PySem.W.Frag) (H : Hp) (p : Addr) (ts : List Trm) : Prop := ∃ as : List Addr, H p = some (.lst (as.map V.ref)) ∧ Paired (PrAt K H) as ts
theorem paired_snoc {α β : Type} {R : α → β → Prop} {a : α} {b : β} (r : R a b) : ∀ {as : List α} {bs : List β}, Paired R as bs → Paired R (as ++ [a]) (bs ++ [b])
  | _, _, .nil => .cons r .nil
  | _, _, .cons x y => .cons x (paired_snoc r y)
theorem KdsOk.sok {rows : List Sy.Row} (ok : KdsOk rows) : ∀ r ∈ rows, PyData.strOk r.1 = true := fun r hr => (ok.wd r hr).sok
section
variable {P : Program} {w : World} {K : PySem.W.Frag} {mg : Str → Option Value} {base : Heap}
def spMade (K : PySem.W.Frag) : Sp := fun vs H Q _ => ∃ (c g q : Addr) (most : Nat) (rows : List Sy.Row), vs = [.ref g, .ref q, .int (most : Nat)] ∧ Bag c g H ∧ q ≠ g ∧ RL K H q rows ∧ KdsOk rows ∧ 4 ≤ most ∧ most ≤ 7 ∧
  ∀ p ts H', (∀ t ∈ ts, GdT rows most t) → ts.length ≤ 4 → Dr c g H H' → H p = none → ML K H' p ts → Q (.ref p) H'
abbrev N_made : List Str := ["_law_bag_here", "_law_kinds_here", "_law_most", "_law_roots", "_law_leaves", "_law_tame_here", "_law_zero", "_law_made_here", "_law_k", "_law_stump_here", "_law_pair"]
theorem sc_made : FnScope N_made ["_law_bag_here", "_law_kinds_here", "_law_most"] (defScope (top 59)) := ⟨rfl, rfl, rfl, by decide +kernel, rfl, by decide +kernel, by decide +kernel⟩
theorem k_made (T : Txt K mg) (F : DF K mg "_law_made" 59) (c_law_pick : Cal P w K mg base 1 "_law_pick" ["_law_bag_here", "_law_limit"] spPick) (c_law_tame : Cal P w K mg base 2 "_law_tame" ["_law_bag_here", "_law_roots", "_law_zero"] (spTame K)) (c_law_stump : Cal P w K mg base 2 "_law_stump" ["_law_bag_here", "_law_kinds_here", "_law_most"] (spStL K))
    (c_law_result : Cal P w K mg base 2 "_law_result" ["_law_bag_here", "_law_kinds_here", "_law_stump_here"] (spRsL K)) : Cal P w K mg base 3 "_law_made" ["_law_bag_here", "_law_kinds_here", "_law_most"] (spMade K) := by
  refine cal_of F.1 F.2 sc_made (fun _ _ _ _ _ _ us e => match us, e with | [_, _, _], _ => rfl) (fun vs H Q E s => by obtain ⟨_, _, _, _, _, rfl, _⟩ := s; rfl) ?_
  intro cdv A outer s H vs Q E hr h
  obtain ⟨c, g, q, most, rows, rfl, hg, hne, hRL, ok, hm4, hm6, hq⟩ := h
  have sc := sc_made
  refine ⟨_, (pss_cons (ps_setLc (i := 3) (own := [("_law_pair", 10)]) (g := gName 10) rfl sc.nd rfl rfl (sw_true rfl rfl rfl (by decide +kernel)) (pi_list (pv 1)) (blkOk_by (N := N_made) (sc := defScope (top 59)) (by decide +kernel)) (fun _ _ _ _ _ => (pg_name (i := 10) sc.nd rfl (Or.inl rfl))) (fun _ _ _ _ _ => (pts_one (pt_chain op_lt op_lt pe_int (pe_ixTK K rfl (pv 10) pe_int (fun _ _ => rfl)) (pv 2)))) (fun _ _ _ _ _ => (pv 10)))
      (pss_cons (ps_if (pt_cmpR (op_eqD hr.units) (pv 3) (pe_lst pa_nil) (nomark _))
        (pss_one (ps_ret (pe_lst pa_nil)))
        pss_nil)
      (pss_cons (ps_setLc (i := 4) (own := [("_law_pair", 10)]) (g := gName 10) rfl sc.nd rfl rfl (sw_true rfl rfl rfl (by decide +kernel)) (pi_list (pv 1)) (blkOk_by (N := N_made) (sc := defScope (top 59)) (by decide +kernel)) (fun _ _ _ _ _ => (pg_name (i := 10) sc.nd rfl (Or.inl rfl))) (fun _ _ _ _ _ => (pts_one (pt_cmpR op_eq (pe_ixTK K rfl (pv 10) pe_int (fun _ _ => rfl)) pe_int (nomark _)))) (fun _ _ _ _ _ => (pe_ixTK K rfl (pv 10) pe_int (fun _ _ => rfl))))
      (pss_cons (ps_set (i := 5) sc.nd rfl (Or.inl rfl) (pe_cmpR op_eq (pe_cal c_law_pick hr (pa_cons (pv 0) (pa_cons pe_int pa_nil))) pe_int (nomark _)))
      (pss_cons (ps_set (i := 6) sc.nd rfl (Or.inl rfl) (pe_ix ix_list (pv 4) (pe_cal c_law_pick hr (pa_cons (pv 0) (pa_cons (pe_callB call_len_seq (by rfl) T.len (by decide +kernel) (pa_cons (pv 4) pa_nil)) pa_nil))) (fun _ _ => rfl)))
      (pss_cons (ps_set (i := 7) sc.nd rfl (Or.inl rfl) (pe_lst pa_nil))
      (pss_cons (ps_for (passes_of rfl) rfl (pi_range1 rfl T.range (pa_cons (pe_ix ix_tup (pe_tup (pa_cons pe_int (pa_cons pe_int (pa_cons pe_int (pa_cons pe_int (pa_cons pe_int (pa_cons pe_int (pa_cons pe_int (pa_cons pe_int pa_nil))))))))) (pe_cal c_law_pick hr (pa_cons (pv 0) (pa_cons pe_int pa_nil))) (fun _ _ => rfl)) pa_nil)) (pg_name (i := 8) sc.nd rfl (Or.inl rfl))
        (pss_one (ps_if (pt_val (pv 5))
          (pss_one (ps_expr (pe_bm PySem.F.plainAttrs_list PySem.F.slot_list_append PySem.F.type_list_append mt_append (pv 7) (pa_cons (pe_cal c_law_tame hr (pa_cons (pv 0) (pa_cons (pv 3) (pa_cons (pv 6) pa_nil)))) pa_nil))))
          (pss_cons (ps_set (i := 9) sc.nd rfl (Or.inl rfl) (pe_cal c_law_stump hr (pa_cons (pv 0) (pa_cons (pv 1) (pa_cons (pv 2) pa_nil)))))
          (pss_one (ps_expr (pe_bm PySem.F.plainAttrs_list PySem.F.slot_list_append PySem.F.type_list_append mt_append (pv 7) (pa_cons (pe_tup (pa_cons (pv 9) (pa_cons (pe_cal c_law_result hr (pa_cons (pv 0) (pa_cons (pv 1) (pa_cons (pv 9) pa_nil)))) pa_nil))) pa_nil))))))))
      (pss_cons (ps_cut (ps_if (PW.pt (pw_and (pt_cmpR (op_neD hr.units) (pv 7) (pe_lst pa_nil) (nomark _)) (pw_and1 (pt_cmpR op_eq (pe_cal c_law_pick hr (pa_cons (pv 0) (pa_cons pe_int pa_nil))) pe_int (nomark _)))))
        (pss_one (ps_expr (pe_bm PySem.F.plainAttrs_list PySem.F.slot_list_append PySem.F.type_list_append mt_append (pv 7) (pa_cons (pe_ix ix_list (pv 7) pe_int (fun _ _ => rfl)) pa_nil))))
        pss_nil))
      (pss_one (ps_ret (pv 7))))))))))), ?_⟩
  obtain ⟨x0, h0, bc0, pr, rfl, hL, hat⟩ := hg.takeR hne hRL
  have hgH : H g = some (bagO c x0) := h0.r0
  have hle := ok.le
  rw [List.length_map] at hle
  have nd := ok.ok.nd
  have new0 : ∀ {B H' : Hp} {M : Addr}, Same (L2.del H g) B → Same B H' → H' g ≠ none → H' M = none → H M = none := fun {B H' M} s1 s2 n1 n2 => by
    have e : M ≠ g := fun z => n1 (by rw [← z]; exact n2)
    have := s1.free (s2.free n2)
    rw [del_ne e] at this
    exact this
  generalize hB0 : L2.del H g = B0 at *
  refine ⟨_, rfl, q, rfl, ⟨_, SqL.of (h0.sub _ _ hL)⟩, fun D hD => lc_filt (K := K) (xs := pr) (f := fun z => V.ref z.1) (out := fun z => V.ref z.1) (keep := fun z => decide (0 < z.2.2 ∧ z.2.2 < most)) h0 hD (fun _ _ z => z.sub _ _ hL) (by omega) (fun z hz H' s' R1 R2 k1 k2 => ?_) (fun H1 h1 => ?_)⟩
  · have tz := Same.sqt s' (hat.at_ z hz)
    refine ⟨_, rfl, z.1, _, _, _, rfl, rfl, tz, atI_nat (j := 1) rfl, _, _, rfl, rfl, _, rfl, if_dec (fun c1 => ?_) (fun c1 => ?_)⟩
    · refine ⟨_, rfl, _, _, rfl, rfl, _, rfl, if_dec (fun c2 => ?_) (fun c2 => ?_)⟩
      · exact ⟨_, rfl, k1 (decide_eq_true ⟨by omega, by omega⟩)⟩
      · exact k2 (decide_eq_false (by omega))
    · exact ⟨_, rfl, k2 (decide_eq_false (by omega))⟩
  have hDg : D ≠ g := fun z => by rw [z, hgH] at hD; cases hD
  have hgv := h1.give
  have h2 := hgv.2
  have s2 := hgv.1
  have hfl := List.length_filter_le (fun z : Addr × Sy.Row => decide (0 < z.2.2 ∧ z.2.2 < most)) pr
  have hroot : ∀ z ∈ pr.filter (fun z => decide (0 < z.2.2 ∧ z.2.2 < most)), z ∈ pr ∧ 0 < z.2.2 ∧ z.2.2 < most := fun z hz => by
    obtain ⟨a, b⟩ := List.mem_filter.mp hz
    exact ⟨a, of_decide_eq_true b⟩
  have eD : upd B0 D (.lst ((pr.filter fun z => decide (0 < z.2.2 ∧ z.2.2 < most)).map fun z => V.ref z.1)) D = some (.lst ((pr.filter fun z => decide (0 < z.2.2 ∧ z.2.2 < most)).map fun z => V.ref z.1)) := upd_same
  generalize upd B0 D (.lst ((pr.filter fun z => decide (0 < z.2.2 ∧ z.2.2 < most)).map fun z => V.ref z.1)) = B1 at *
  generalize hroots : pr.filter (fun z => decide (0 < z.2.2 ∧ z.2.2 < most)) = roots at *
  have hatR : RwP K B1 roots := ⟨fun z hz => (hat.mono s2).at_ z (hroot z hz).1⟩
  have hatRi : ImA K B1 (roots.map fun z => V.ref z.1) ((roots.map (·.2)).map RowD) := by
    have := Im.rowsD hatR.paired
    rw [List.map_map] at this
    exact this
  refine ⟨_, rfl, (by show 0 ≤ sizeLine; decide), fun E0 hE0 => ?_⟩
  have h3 := h2.lay (o := .lst []) hE0
  have layR : SeqAt.shaped (.list ((roots.map (·.2)).map RowD)) = true := by
    have := lay_rows (rows := roots.map (·.2)) fun r hr' => by
      obtain ⟨z, hz, rfl⟩ := List.mem_map.mp hr'
      exact ok.sok _ (List.mem_map_of_mem (hroot z hz).1)
    exact lay_L ⟨this.1, by omega⟩
  have dpR : Dp K (upd H1 E0 (.lst [])) (.ref D) (.list ((roots.map (·.2)).map RowD)) := .lst (SqL.of (h3.sub _ _ eD)) (ImA.dp (ImA.mono (Stay.of h3.sub) hatRi))
  refine ⟨_, .list [], dpR, .lst (SqL.of upd_same) .nil, layR, lay_L ⟨rfl, by decide⟩, _, rfl, ?_⟩
  cases hR0 : roots with
  | nil =>
    refine iteT ⟨by decide, fun M hM => ?_⟩
    have h4 := h3.new (o := .lst []) hM
    refine hq M [] _ (fun _ z => nomatch z) (by decide) (h4.swap.isDr (by rw [hB0]; exact s2)) (new0 s2 h3.sub (by rw [h3.r0]; exact fun z => nomatch z) hM) ⟨[], upd_same, .nil⟩
  | cons r0 rs =>
    rw [← hR0]
    refine if_bool (fun z => ?_) (fun _ => ?_)
    · rw [hR0] at z
      cases z
    have hE0g : upd H1 E0 (.lst []) g = some (bagO c x0) := h3.r0
    refine ⟨_, rfl, q, rfl, ⟨_, SqL.of (h3.sub _ _ (s2 _ _ hL))⟩, fun V4 hV4 => lc_filt (K := K) (xs := pr) (f := fun z => V.ref z.1) (out := fun z => V.str z.2.1) (keep := fun z => decide (z.2.2 = 0)) h3 hV4 (fun _ _ z => z.sub _ _ (s2 _ _ hL)) (by omega) (fun z hz H' s' R1 R2 k1 k2 => ?_) (fun H4 h4 => ?_)⟩
    · have tz := Same.sqt (s2.trans s') (hat.at_ z hz)
      refine ⟨_, rfl, z.1, _, _, _, rfl, rfl, tz, atI_nat (j := 1) rfl, rfl, _, rfl, if_dec (fun c1 => ?_) (fun c1 => ?_)⟩
      · exact ⟨_, rfl, z.1, _, _, _, rfl, rfl, tz, atI_nat (j := 0) rfl, k1 (decide_eq_true (by have := V.int.inj c1; omega))⟩
      · exact k2 (decide_eq_false (fun e => c1 (by rw [e]; rfl)))
    have h5 := h4.give.2
    have s5 := h4.give.1
    have hleaf : ∀ z ∈ pr.filter (fun z => decide (z.2.2 = 0)), z ∈ pr ∧ z.2.2 = 0 := fun z hz => by
      obtain ⟨a, b⟩ := List.mem_filter.mp hz
      exact ⟨a, of_decide_eq_true b⟩
    have hlf := List.length_filter_le (fun z : Addr × Sy.Row => decide (z.2.2 = 0)) pr
    have hlp : 0 < (pr.filter fun z => decide (z.2.2 = 0)).length := by
      obtain ⟨r', hr', e0⟩ := ok.ok.lf
      obtain ⟨z, hz, rfl⟩ := List.mem_map.mp hr'
      exact List.length_pos_of_mem (List.mem_filter.mpr ⟨hz, decide_eq_true e0⟩)
    have e5 : upd B1 V4 (.lst ((pr.filter fun z => decide (z.2.2 = 0)).map fun z => V.str z.2.1)) V4 = some (.lst ((pr.filter fun z => decide (z.2.2 = 0)).map fun z => V.str z.2.1)) := upd_same
    generalize upd B1 V4 (.lst ((pr.filter fun z => decide (z.2.2 = 0)).map fun z => V.str z.2.1)) = B5 at *
    generalize hlv : pr.filter (fun z => decide (z.2.2 = 0)) = lv at *
    refine ⟨_, rfl, c, g, 3, rfl, h5.bag (bc0.mono (s2.trans s5)), by decide, by decide, fun k6 H6 hk6 d6 => ?_⟩
    obtain ⟨x6, B6, s6, h6⟩ := h5.dr0 d6
    refine ⟨rfl, ?_⟩
    generalize decide (V.int (k6 : Nat) = V.int 2) = tm
    refine ⟨_, rfl, _, rfl, _, rfl, V4, _, rfl, .inl (SqL.of (h6.sub _ _ (s6 _ _ e5))), c, g, lv.length, by rw [List.length_map], h6.bag (bc0.mono ((s2.trans s5).trans s6)), hlp, by omega, fun j7 H7 hj7 d7 => ?_⟩
    obtain ⟨x7, B7, s7, h7⟩ := h6.dr0 d7
    obtain ⟨zl, ezl⟩ : ∃ z, lv[j7]? = some z := ⟨_, List.getElem?_eq_getElem hj7⟩
    have hzl := hleaf zl (List.mem_of_getElem? ezl)
    have hz0 : (zl.2.1, 0) ∈ pr.map (·.2) := by
      have := List.mem_map_of_mem (f := fun z : Addr × Sy.Row => z.2) hzl.1
      rw [show zl.2 = (zl.2.1, zl.2.2) from rfl, hzl.2] at this
      exact this
    refine ⟨V4, _, _, .str zl.2.1, rfl, rfl, SqL.of (h7.sub _ _ (s7 _ _ (s6 _ _ e5))), atI_nat (by rw [List.getElem?_map, ezl]; rfl), ?_⟩
    refine ⟨by decide, fun M hM => ?_⟩
    have h8 := (h7.new (o := .lst []) hM).swap
    have s07 := ((s2.trans s5).trans s6).trans s7
    have hMn : H M = none := new0 s07 h7.sub (by rw [h7.r0]; exact fun z => nomatch z) hM
    refine ⟨(by show 8 ≤ sizeLine; decide), fun p9 hp9 => ?_⟩
    have h9 := h8.tup (o := .tup (vN [3, 2, 1, 2, 0, 1, 3, 2])) hp9
    have s9 := up_same (o := .tup (vN [3, 2, 1, 2, 0, 1, 3, 2])) (h8.sub.free hp9)
    have e9 : upd B7 p9 (.tup (vN [3, 2, 1, 2, 0, 1, 3, 2])) p9 = some (.tup (vN [3, 2, 1, 2, 0, 1, 3, 2])) := upd_same
    generalize upd B7 p9 (.tup (vN [3, 2, 1, 2, 0, 1, 3, 2])) = B9 at *
    refine ⟨_, rfl, c, g, 8, rfl, h9.bag (bc0.mono (s07.trans s9)), by decide, by decide, fun j H10 hj d10 => ?_⟩
    obtain ⟨x10, B10, s10, h10⟩ := h9.dr0 d10
    obtain ⟨m, hm, em⟩ := menu_at (L := [3, 2, 1, 2, 0, 1, 3, 2]) hj
    have hm : m ≤ 3 := by simp only [List.mem_cons, List.not_mem_nil, or_false] at hm; omega
    refine ⟨p9, _, _, _, rfl, rfl, SqT.of (h10.sub _ _ (s10 _ _ e9)), atI_nat em, ?_⟩
    have s010 := (s07.trans s9).trans s10
    have s110 := ((s5.trans s6).trans s7).trans (s9.trans s10)
    refine ⟨_, rfl, by omega, by omega, for_rng (n := m)
      (fun i σ H' => ∃ (t8 t9 : Option V) (as : List Addr) (ts : List Trm) (x : Int × Int × Int) (B : Hp), σ = [some (.ref g), some (.ref q), some (.int (most : Nat)), some (.ref D), some (.ref V4), some (.bl tm), some (.str zl.2.1), some (.ref M), t8, t9, none] ∧ ts.length = i ∧ (∀ t ∈ ts, GdT (pr.map (·.2)) most t) ∧ Paired (PrAt K B) as ts ∧ Same B10 B ∧ Hs B [(g, bagO c x), (M, .lst (as.map V.ref))] H')
      ⟨none, none, [], [], x10, B10, rfl, rfl, fun _ z => (nomatch z), .nil, Same.refl _, h10⟩ ?_ ?_⟩
    · rintro i σ H11 hi ⟨t8, t9, as, ts, x, B, rfl, hl, hgd, hpa, sB, hh⟩
      have hal := paired_len hpa
      have sB0 := s010.trans sB
      have hput : ∀ (t9' : Option V) (p : Addr) (t : Trm) (x' : Int × Int × Int) (B' H' : Hp), GdT (pr.map (·.2)) most t → PrAt K B' p t → Same B B' → Hs B' [(g, bagO c x'), (M, .lst (as.map V.ref))] H' → rAppend (.ref M) [.ref p] H' (fun v H'' => ∃ (t8 t9 : Option V) (as : List Addr) (ts : List Trm) (x : Int × Int × Int) (B : Hp), [some (V.ref g), some (.ref q), some (.int (most : Nat)), some (.ref D), some (.ref V4), some (.bl tm), some (.str zl.2.1), some (.ref M), some (.int (i : Nat)), t9', none] = [some (.ref g), some (.ref q), some (.int (most : Nat)), some (.ref D), some (.ref V4), some (.bl tm), some (.str zl.2.1), some (.ref M), t8, t9, none] ∧ ts.length = i + 1 ∧ (∀ t ∈ ts, GdT (pr.map (·.2)) most t) ∧ Paired (PrAt K B) as ts ∧ Same B10 B ∧ Hs B [(g, bagO c x), (M, .lst (as.map V.ref))] H'') := fun t9' p t x' B' H' gt pt sb hh' => by
        refine ⟨M, _, _, rfl, rfl, hh'.r1, by rw [List.length_map, hal, sizeLine_eq]; omega, _, _, as ++ [p], ts ++ [t], x', B', rfl, by rw [List.length_append, hl]; rfl, fun y hy => ?_, paired_snoc pt (Paired.mapP hpa fun _ _ r => r.same sb), sB.trans sb, ?_⟩
        · rcases List.mem_append.mp hy with hy | hy
          · exact hgd y hy
          · rw [List.mem_singleton.mp hy]
            exact gt
        · rw [List.map_append]
          exact hh'.w1
      have bagN := hh.bag (bc0.mono sB0)
      refine ⟨_, rfl, _, rfl, ?_⟩
      cases tm with
      | true =>
        refine iteT ⟨_, rfl, .inl ⟨rfl, _, SqL.of hh.r1⟩, _, rfl, _, rfl, _, rfl, c, g, D, zl.2.1, most, pr.map (·.2), roots.map (·.2), rfl, bagN, hDg, ⟨roots, rfl, hh.sub _ _ (sB _ _ (s110 _ _ eD)), hatR.mono ((s110.trans sB).trans hh.sub)⟩, (by rw [hR0]; exact fun z => nomatch z), fun r hr' => ?_, hm4, by rw [List.length_map]; omega, ok, hz0, fun p t H12 gt d12 pt => ?_⟩
        · obtain ⟨z, hz, rfl⟩ := List.mem_map.mp hr'
          have := hroot z hz
          exact ⟨List.mem_map_of_mem this.1, this.2⟩
        · obtain ⟨x12, B12, s12, h12, st12, _⟩ := hh.drN (AllL.cons AllL.nil) d12
          exact hput t9 p t x12 B12 H12 gt (pt.stay st12) s12 h12
      | false =>
        refine iteF ⟨_, rfl, _, rfl, _, rfl, c, g, q, most, pr.map (·.2), rfl, bagN, hne, ⟨pr, rfl, hh.sub _ _ (sB0 _ _ hL), hat.mono (sB0.trans hh.sub)⟩, ok, hm6, ⟨r0.2, ?_, ?_⟩, fun p l H12 so d12 zp => ?_⟩
        · exact List.mem_map_of_mem (hroot r0 (by rw [hR0]; exact List.mem_cons_self)).1
        · exact (hroot r0 (by rw [hR0]; exact List.mem_cons_self)).2
        obtain ⟨x12, B12, s12, h12, st12, _⟩ := hh.drN (AllL.cons AllL.nil) d12
        have zp12 := zp.stay st12
        have sB12 := sB0.trans s12
        refine ⟨_, rfl, .inl ⟨rfl, _, SqL.of h12.r1⟩, _, rfl, _, rfl, _, rfl, _, rfl, c, g, q, p, pr.map (·.2), l, rfl, h12.bag (bc0.mono sB12), hne, ⟨pr, rfl, h12.sub _ _ (sB12 _ _ hL), hat.mono (sB12.trans h12.sub)⟩, ok, ⟨so.ck, by have := so.le; omega, so.wd, so.hd⟩, zp, fun r ks H13 rs d13 sr => ?_⟩
        obtain ⟨x13, B13, s13, h13, st13, _⟩ := h12.drN (AllL.cons AllL.nil) d13
        have sr13 := st13.sqt sr
        refine ⟨(by show 2 ≤ sizeLine; decide), fun p14 hp14 => ?_⟩
        have h14 := h13.tup (o := .tup [.ref p, .ref r]) hp14
        have s14 := up_same (o := .tup [.ref p, .ref r]) (h13.sub.free hp14)
        exact hput (some (.ref p)) p14 (l, ks) x13 _ _ ⟨so, rs⟩ ⟨p, r, SqT.of upd_same, zp12.same (s13.trans s14), Same.sqt s14 sr13⟩ ((s12.trans s13).trans s14) h14
    · rintro σ H11 ⟨t8, t9, as, ts, x, B, rfl, hl, hgd, hpa, sB, hh⟩
      have sB0 := s010.trans sB
      have sok := fun t ht => (hgd t ht).sok
      refine ⟨fun σ' H' => ∃ (as : List Addr) (ts : List Trm) (x : Int × Int × Int) (B' : Hp), σ' = [some (.ref g), some (.ref q), some (.int (most : Nat)), some (.ref D), some (.ref V4), some (.bl tm), some (.str zl.2.1), some (.ref M), t8, t9, none] ∧ ts.length ≤ 4 ∧ (∀ t ∈ ts, GdT (pr.map (·.2)) most t) ∧ Paired (PrAt K B') as ts ∧ Same B B' ∧ Hs B' [(g, bagO c x), (M, .lst (as.map V.ref))] H',
        ⟨_, rfl, (by show 0 ≤ sizeLine; decide), fun E2 hE2 => ?_⟩, ?_⟩
      · have h12 := hh.lay (o := .lst []) hE2
        have dpT : Dp K (upd H11 E2 (.lst [])) (.ref M) (.list (ts.map PrD)) := .lst (SqL.of h12.r1) (ImA.dp (prs_im (Paired.mapP hpa fun _ _ r => r.same h12.sub)))
        refine ⟨_, .list [], dpT, .lst (SqL.of upd_same) .nil, lay_L (lay_prs sok), lay_L ⟨rfl, by decide⟩, _, rfl, ?_⟩
        have hal := paired_len hpa
        cases ts with
        | nil => exact iteF ⟨as, [], x, B, rfl, by decide, hgd, hpa, Same.refl _, h12⟩
        | cons t0 tr =>
          cases hpa with
          | cons r0' rr =>
            rename_i a0 ar
            refine iteT ⟨_, rfl, c, g, 8, rfl, h12.bag (bc0.mono sB0), by decide, by decide, fun k H13 hk d13 => ?_⟩
            obtain ⟨x13, B13, s13, h13⟩ := h12.dr0 d13
            refine ⟨rfl, _, rfl, if_dec (fun c1 => ?_) (fun c1 => ⟨a0 :: ar, t0 :: tr, x13, B13, rfl, by omega, hgd, Paired.mapP (.cons r0' rr) fun _ _ r => r.same s13, s13, h13⟩)⟩
            refine ⟨_, rfl, .inl ⟨rfl, _, SqL.of h13.r1⟩, _, rfl, M, _, _, .ref a0, rfl, rfl, SqL.of h13.r1, atI_nat (j := 0) rfl, M, _, _, rfl, rfl, h13.r1, by rw [List.length_map, hal, sizeLine_eq]; omega, (a0 :: ar) ++ [a0], (t0 :: tr) ++ [t0], x13, B13, rfl, by rw [List.length_append]; show _ + 1 ≤ 4; omega, fun y hy => ?_, paired_snoc (r0'.same s13) (Paired.mapP (.cons r0' rr) fun _ _ r => r.same s13), s13, ?_⟩
            · rcases List.mem_append.mp hy with hy | hy
              · exact hgd y hy
              · rw [List.mem_singleton.mp hy]
                exact hgd t0 List.mem_cons_self
            · rw [List.map_append]
              exact h13.w1
      · rintro _ H12 ⟨as, ts, x, B', rfl, hl, hgd, hpa, sB', hh⟩
        exact ⟨_, rfl, hq M ts H12 hgd hl (hh.isDr (by rw [hB0]; exact sB0.trans sB')) hMn ⟨as, hh.r1, Paired.mapP hpa fun _ _ r => r.same hh.sub⟩⟩
end
end Sy
/-! Trims(..), len of it, _law_set, _law_shown -/
namespace Sy
open PySem PySem.Spec PyProof.Rows L2 LamX NdefX
section
variable {P : Program} {w : World} {K : PySem.W.Frag} {mg : Str → Option Value} {base : Heap}
/-- what Trims(bed, .., name = nm) promises -/
theorem mkS_of {H : Hp} {b : Addr} {as : List Addr} {nm : Str} {rows : List Sy.Row} {zs : List TrmZ} {Q : VK} {E : XK} (hb : BdO K H b rows) (hz : Paired (TmZ K H) as zs) (hl : zs.length ≤ 100) (hne : ∀ z ∈ zs, z.2.1 ≠ [])
    (hO : (∃ z ∈ zs, z.1 ≠ rows) → RaO K H E) (hM : (∀ z ∈ zs, z.1 = rows) → 8 < zs.length → RaE K (.many "trims" 8) H E) (hq : (∀ z ∈ zs, z.1 = rows) → zs.length ≤ 8 → ∀ x H', Same H H' → H x = none → TrmsAt K H' x rows (zs.map (·.2)) nm → Q (.ref x) H') :
    tMakeS (He.ga K "Trims") 2 (.str nm) (spInitS K) E (.ref b :: as.map V.ref) H Q := by
  intro x dx hx hdx hn
  have hpl := paired_len hz
  refine ⟨[.ref x, .ref b], as.map V.ref, rfl, rfl, by rw [List.length_map, sizeLine_eq]; omega, fun p hp => ?_⟩
  have s1 : Same H (upd (upd H dx (.own x)) x (.ins (He.ga K "Trims") dx [])) := (up_same hdx).trans (up_same (by rw [upd_ne (fun z => hn z.symm)]; exact hx))
  have ex : upd (upd H dx (.own x)) x (.ins (He.ga K "Trims") dx []) x = some (.ins (He.ga K "Trims") dx []) := upd_same
  generalize upd (upd H dx (.own x)) x (.ins (He.ga K "Trims") dx []) = H1 at *
  have s2 := up_same (o := .tup (as.map V.ref)) hp
  have ep : SqT K (upd H1 p (.tup (as.map V.ref))) p (as.map V.ref) := SqT.of upd_same
  have ex2 := s2 _ _ ex
  generalize upd H1 p (.tup (as.map V.ref)) = H2 at *
  have s12 := s1.trans s2
  have kp : ∀ {H'}, Keep x H2 H' → Same H H' := fun k a o e => k a o (fun z => by rw [z, hx] at e; cases e) (s12 _ _ e)
  exact ⟨x, b, p, dx, nm, as, rows, zs, rfl, ex2, ⟨hb.1.mono (Stay.of s12), hb.2⟩, ep, Paired.mapP hz fun _ _ t => ⟨t.1.mono s12, t.2⟩, hl, hne, fun z H' k => hO z H' (kp k), fun z c d H' fs k ed im => hM z c d H' fs (kp k) ed im, fun z c H' k t => ⟨rfl, hq z c x H' (kp k) hx t⟩⟩
end
end Sy
/-! the law's state between calls: the bag, own lists, what is known for good -/
namespace Sy
open PySem PySem.Spec PyProof.Rows L2 LamX NdefX
theorem StayT.nod {H H' : Hp} {a : Addr} (s : StayT H H') (h : NoD H a) : NoD H' a := by
  obtain ⟨o, u, h1, h2⟩ := h
  exact ⟨o, u, s _ _ h1 (fun _ z => by cases z), h2⟩
theorem StayT.sqz {K : PySem.W.Frag} {H H' : Hp} {a : Addr} {xs : List V} (s : StayT H H') (h : SqZ K H a xs) : SqZ K H' a xs := ⟨s.sqt h.sq, s.nod h.nd⟩
theorem TbI.stay {tb : Addr} {H H' : Hp} (t : TbI tb H) (s : Stay H H') : TbI tb H' := by
  obtain ⟨ps, h1, h2, h3⟩ := t
  refine ⟨ps, s _ _ h1 (fun _ z => by cases z), h2, fun pos cv hc => ?_⟩
  obtain ⟨c, e1, e2⟩ := h3 pos cv hc
  exact ⟨c, e1, s _ _ e2 (fun _ z => by unfold CodeO at z; cases z)⟩
abbrev OL : Type := List (Addr × List V)
structure Ls (tb c g : Addr) (O : OL) (B H : Hp) : Prop where
  st : StayT B H
  dm : ∀ a, H a = none → B a = none
  gB : B g = none
  nO : ∀ z ∈ O, B z.1 = none
  own : ∀ z ∈ O, H z.1 = some (.lst z.2)
  nd : (O.map (·.1)).Nodup
  gO : g ∉ O.map (·.1)
  cl : Cells c B
  gH : ∃ x, H g = some (bagO c x)
  tb : TbI tb H
theorem lst_nt {xs : List V} (qs : Array Value) : HO.lst xs ≠ .tbl qs := fun z => by cases z
section
variable {tb c g p : Addr} {O : OL} {B H H' : Hp} {xs ys : List V}
theorem Ls.bag (l : Ls tb c g O B H) : Bag c g H := by
  obtain ⟨zs, e⟩ := l.cl
  refine ⟨l.gH, fun z => ?_, zs, l.st _ _ e fun _ z => by cases z⟩
  rw [z, l.gB] at e
  cases e
theorem Ls.start (b : Bag c g H) (t : TbI tb H) : Ls tb c g [] (L2.del H g) H := by
  obtain ⟨⟨x, e⟩, ne, zs, e2⟩ := b
  refine ⟨fun a o h _ => ?_, fun a h => ?_, del_same, fun _ z => (nomatch z), fun _ z => (nomatch z), List.nodup_nil, fun z => (nomatch z), ⟨zs, by rw [del_ne ne]; exact e2⟩, ⟨x, e⟩, t⟩
  · by_cases z : a = g
    · rw [z, del_same] at h
      cases h
    · rw [del_ne z] at h
      exact h
  · by_cases z : a = g
    · rw [z, del_same]
    · rw [del_ne z]
      exact h
def cutB (g : Addr) (O : OL) (H : Hp) : Hp := fun a => if a = g ∨ a ∈ O.map (·.1) then none else H a
theorem Ls.go (l : Ls tb c g O B H) (h1 : ∀ a o, a ≠ g → H a = some o → (∀ qs, o ≠ .tbl qs) → H' a = some o) (h2 : ∃ x, H' g = some (bagO c x)) (t : TbI tb H') : ∃ B', StayT B B' ∧ Ls tb c g O B' H' ∧ Stay H' B' ∧ ∀ a o, a ≠ g → a ∉ O.map (·.1) → H' a = some o → B' a = some o := by
  have out : ∀ a o, a ≠ g → a ∉ O.map (·.1) → H' a = some o → cutB g O H' a = some o := fun a o n1 n2 e => by
    unfold cutB
    rw [if_neg (fun z => z.elim n1 n2)]
    exact e
  have own' : ∀ z ∈ O, H' z.1 = some (.lst z.2) := fun z hz => h1 _ _ (fun e => l.gO (by rw [← e]; exact List.mem_map_of_mem hz)) (l.own z hz) lst_nt
  have sB : StayT B (cutB g O H') := fun a o e n => by
    have n1 : a ≠ g := fun z => by rw [z, l.gB] at e; cases e
    refine out a o n1 (fun hm => ?_) (h1 a o n1 (l.st a o e n) n)
    obtain ⟨z, hz, ez⟩ := List.mem_map.mp hm
    have := l.nO z hz
    rw [ez, e] at this
    cases this
  obtain ⟨x, ex⟩ := h2
  refine ⟨cutB g O H', sB, ⟨fun a o e _ => ?_, fun a e => ?_, if_pos (.inl rfl), fun z hz => if_pos (.inr (List.mem_map_of_mem hz)), own', l.nd, l.gO, ?_, ⟨x, ex⟩, t⟩, fun a w e n => ?_, out⟩
  · unfold cutB at e
    split at e
    · cases e
    · exact e
  · unfold cutB
    split
    · rfl
    · exact e
  · obtain ⟨zs, e⟩ := l.cl
    exact ⟨zs, sB _ _ e lst_nt⟩
  · refine out a w (fun z => ?_) (fun hm => ?_) e
    · rw [z, ex] at e
      exact n _ (Option.some.inj e).symm
    · obtain ⟨z, hz, ez⟩ := List.mem_map.mp hm
      have := own' z hz
      rw [ez, e] at this
      exact n _ (Option.some.inj this)
theorem Ls.dr (l : Ls tb c g O B H) (d : Dr c g H H') : ∃ B', StayT B B' ∧ Ls tb c g O B' H' ∧ Stay H' B' ∧ ∀ a o, a ≠ g → a ∉ O.map (·.1) → H' a = some o → B' a = some o := by
  obtain ⟨x, c1, c2⟩ := d
  refine l.go (fun a o n e _ => c2 a o n e) ⟨x, c1⟩ (l.tb.stay fun a o e n => c2 a o (fun z => ?_) e)
  obtain ⟨y, ey⟩ := l.gH
  rw [z, ey] at e
  exact n _ (Option.some.inj e).symm
theorem Ls.sT (l : Ls tb c g O B H) (s : StayT H H') (t : TbI tb H') : ∃ B', StayT B B' ∧ Ls tb c g O B' H' ∧ Stay H' B' ∧ ∀ a o, a ≠ g → a ∉ O.map (·.1) → H' a = some o → B' a = some o := by
  obtain ⟨y, ey⟩ := l.gH
  exact l.go (fun a o _ e n => s a o e n) ⟨y, s _ _ ey lst_nt⟩ t
theorem Ls.same (l : Ls tb c g O B H) (s : Same H H') : ∃ B', StayT B B' ∧ Ls tb c g O B' H' ∧ Stay H' B' ∧ ∀ a o, a ≠ g → a ∉ O.map (·.1) → H' a = some o → B' a = some o :=
  l.sT (StayT.of s) (l.tb.same s)
theorem Ls.new (l : Ls tb c g O B H) (hp : H p = none) : Ls tb c g ((p, xs) :: O) B (upd H p (.lst xs)) := by
  have s := up_same (o := .lst xs) hp
  obtain ⟨y, ey⟩ := l.gH
  refine ⟨l.st.trans (StayT.of s), fun a e => l.dm a (Same.free s e), l.gB, fun z hz => ?_, fun z hz => ?_, ?_, fun hm => ?_, l.cl, ⟨y, s _ _ ey⟩, l.tb.same s⟩
  · rcases List.mem_cons.mp hz with rfl | hz
    · exact l.dm _ hp
    · exact l.nO z hz
  · rcases List.mem_cons.mp hz with rfl | hz
    · exact upd_same
    · exact s _ _ (l.own z hz)
  · refine List.nodup_cons.mpr ⟨fun hm => ?_, l.nd⟩
    obtain ⟨z, hz, ez⟩ := List.mem_map.mp hm
    have := l.own z hz
    rw [ez, hp] at this
    cases this
  · rcases List.mem_cons.mp hm with e | hm
    · have e : g = p := e
      rw [← e, ey] at hp
      cases hp
    · exact l.gO hm
theorem Ls.put (l : Ls tb c g ((p, xs) :: O) B H) : Ls tb c g ((p, ys) :: O) B (upd H p (.lst ys)) := by
  have ep := l.own (p, xs) List.mem_cons_self
  have pg : g ≠ p := fun z => l.gO (by rw [z]; exact List.mem_cons_self)
  obtain ⟨y, ey⟩ := l.gH
  have nd := List.nodup_cons.mp l.nd
  refine ⟨fun a o e n => ?_, fun a e => ?_, l.gB, fun z hz => ?_, fun z hz => ?_, l.nd, l.gO, l.cl, ⟨y, by rw [upd_ne pg]; exact ey⟩, l.tb.stay fun a o e n => ?_⟩
  · rw [upd_ne (fun z => by rw [z, l.nO (p, xs) List.mem_cons_self] at e; cases e)]
    exact l.st a o e n
  · by_cases z : a = p
    · rw [z, upd_same] at e
      cases e
    · rw [upd_ne z] at e
      exact l.dm a e
  · rcases List.mem_cons.mp hz with rfl | hz
    · exact l.nO (p, xs) List.mem_cons_self
    · exact l.nO z (List.mem_cons_of_mem _ hz)
  · rcases List.mem_cons.mp hz with rfl | hz
    · exact upd_same
    · rw [upd_ne (fun e => nd.1 (List.mem_map.mpr ⟨z, hz, e⟩))]
      exact l.own z (List.mem_cons_of_mem _ hz)
  · rw [upd_ne (fun z => by rw [z, ep] at e; exact n _ (Option.some.inj e).symm)]
    exact e
theorem Ls.swap {z1 z2 : Addr × List V} (l : Ls tb c g (z1 :: z2 :: O) B H) : Ls tb c g (z2 :: z1 :: O) B H := by
  have pm : ∀ z, z ∈ z2 :: z1 :: O → z ∈ z1 :: z2 :: O := fun z hz => by
    simp only [List.mem_cons] at hz ⊢
    rcases hz with h | h | h
    · exact .inr (.inl h)
    · exact .inl h
    · exact .inr (.inr h)
  refine ⟨l.st, l.dm, l.gB, fun z hz => l.nO z (pm z hz), fun z hz => l.own z (pm z hz), ?_, fun hm => ?_, l.cl, l.gH, l.tb⟩
  · have := l.nd
    simp only [List.map_cons] at this ⊢
    exact (List.Perm.nodup_iff (List.Perm.swap _ _ _)).mp this
  · obtain ⟨z, hz, e⟩ := List.mem_map.mp hm
    exact l.gO (by rw [← e]; exact List.mem_map_of_mem (pm z hz))
end
/-! what is known -/
section
variable {K : PySem.W.Frag} {H H' : Hp}
theorem StayT.pr {p : Addr} {t : Trm} (s : StayT H H') (h : PrAt K H p t) : PrAt K H' p t := by
  obtain ⟨a, b, h1, h2, h3⟩ := h
  exact ⟨a, b, s.sqt h1, s.sqz h2, s.sqt h3⟩
theorem StayT.rl {q : Addr} {rows : List Sy.Row} (s : StayT H H') (h : RL K H q rows) : RL K H' q rows := by
  obtain ⟨pr, h1, h2, h3⟩ := h
  exact ⟨pr, h1, s _ _ h2 lst_nt, ⟨fun z hz => s.sqt (h3.at_ z hz)⟩⟩
theorem StayT.ml {p : Addr} {ts : List Trm} (s : StayT H H') (h : ML K H p ts) : ML K H' p ts := by
  obtain ⟨as, h1, h2⟩ := h
  exact ⟨as, s _ _ h1 lst_nt, Paired.mapP h2 fun _ _ r => s.pr r⟩
theorem StayT.bdo {a : Addr} {rows : List Sy.Row} (s : StayT H H') (h : BdO K H a rows) : BdO K H' a rows := ⟨s.bed h.1, h.2⟩
theorem StayT.tmz {a : Addr} {z : TrmZ} (s : StayT H H') (h : TmZ K H a z) : TmZ K H' a z := ⟨s.trm h.1, h.2⟩
/-- from the heap to what is known for good -/
theorem RL.base {q : Addr} {rows : List Sy.Row} (h : RL K H q rows) (s : Stay H H') (e : ∀ o, H q = some o → H' q = some o) : RL K H' q rows := by
  obtain ⟨pr, h1, h2, h3⟩ := h
  exact ⟨pr, h1, e _ h2, h3.stay s⟩
theorem ML.base {q : Addr} {ts : List Trm} (h : ML K H q ts) (s : Stay H H') (e : ∀ o, H q = some o → H' q = some o) : ML K H' q ts := by
  obtain ⟨as, h1, h2⟩ := h
  exact ⟨as, e _ h1, Paired.mapP h2 fun _ _ r => r.stay s⟩
end
/-! a good trim over a bed that has its kinds -/
section
variable {rows rows' : List Sy.Row}
theorem kinds_agree (ok : KdsOk rows) (ok' : KdsOk rows') (h : ∀ r ∈ rows, r ∈ rows') {x : Str} (hx : isK rows x = true ∨ x = "*") : isK rows' x = isK rows x ∧ ar rows' x = ar rows x := by
  rcases hx with hx | rfl
  · obtain ⟨n, e⟩ : ∃ n, rows.lookup x = some n := by
      unfold isK at hx
      cases e : rows.lookup x with
      | none => rw [e] at hx; cases hx
      | some n => exact ⟨n, rfl⟩
    have hm : (x, n) ∈ rows := by
      clear ok ok' h hx
      induction rows with
      | nil => cases e
      | cons r rs ih =>
        rw [lookup_cons] at e
        split at e
        · rename_i c
          rw [← Option.some.inj e, ← c]
          exact List.mem_cons_self
        · exact List.mem_cons_of_mem _ (ih e)
    obtain ⟨a1, a2⟩ := row_at ok.ok.nd hm
    obtain ⟨b1, b2⟩ := row_at ok'.ok.nd (h _ hm)
    exact ⟨by rw [show isK rows' x = true from b1, show isK rows x = true from a1], by rw [show ar rows' x = n from b2, show ar rows x = n from a2]⟩
  · rw [star_nk ok, star_nk ok', ar_star ok, ar_star ok']
    exact ⟨rfl, rfl⟩
theorem fa_congr {lv : List Str} : ∀ (l : List Str) (m i : Nat), (∀ x ∈ l, isK rows' x = isK rows x ∧ ar rows' x = ar rows x) → fa rows' lv m i l = fa rows lv m i l
  | [], _, _, _ => rfl
  | x :: l, m, i, h => by
    obtain ⟨h1, h2⟩ := h x List.mem_cons_self
    rw [fa, fa, h1, h2, fa_congr l _ _ fun y hy => h y (List.mem_cons_of_mem _ hy)]
theorem faK_congr {ok : Key → Bool} : ∀ (l : List Key) (m i : Nat), (∀ x ∈ l, isKK rows' x = isKK rows x ∧ arK rows' x = arK rows x) → faK rows' ok m i l = faK rows ok m i l
  | [], _, _, _ => rfl
  | x :: l, m, i, h => by
    obtain ⟨h1, h2⟩ := h x List.mem_cons_self
    rw [faK, faK, h1, h2, faK_congr l _ _ fun y hy => h y (List.mem_cons_of_mem _ hy)]
theorem faK_neg {ok : Key → Bool} : ∀ (l : List Key) (m i : Nat), faK rows ok m i l = -1 → ∀ k ∈ l, isKK rows k = true ∨ ok k = true
  | [], _, _, _, k, hk => nomatch hk
  | x :: l, m, i, h, k, hk => by
    rw [faK] at h
    split at h
    · omega
    · split at h
      · omega
      · rename_i c
        rcases List.mem_cons.mp hk with rfl | hk
        · cases e1 : isKK rows k with
          | true => exact .inl rfl
          | false =>
            cases e2 : ok k with
            | true => exact .inr rfl
            | false => exact absurd ⟨e1, e2⟩ c
        · exact faK_neg l _ _ h k hk
theorem gd_due {m : Nat} {t : Trm} (ok : KdsOk rows) (ok' : KdsOk rows') (h : ∀ r ∈ rows, r ∈ rows') (hm : m ≤ 7) (gt : GdT rows m t) : ctDue rows' t.1 t.2 = none := by
  obtain ⟨l, ks⟩ := t
  obtain ⟨so, ro⟩ := gt
  simp only at so ro ⊢
  have le := so.le
  have le2 := ro.le
  have ag : ∀ x ∈ l, isK rows' x = isK rows x ∧ ar rows' x = ar rows x := fun x hx => kinds_agree ok ok' h ((so.wd x hx).imp (·.1) id)
  have fn : faK rows (okH (l.count ("*" : Str) : Nat)) 1 0 ks = -1 := by
    have := ro.rf
    unfold rfK at this
    split at this
    · omega
    · exact this
  have agK : ∀ k ∈ ks, isKK rows' k = isKK rows k ∧ arK rows' k = arK rows k := fun k hk => by
    cases k with
    | inl z => exact ⟨rfl, rfl⟩
    | inr x =>
      rcases faK_neg ks 1 0 fn _ hk with z | z
      · exact kinds_agree ok ok' h (.inl z)
      · cases z
  have rf' : rfK rows' (l.count ("*" : Str) : Nat) ks = -1 := by
    have := ro.rf
    unfold rfK at this ⊢
    rw [faK_congr ks 1 0 agK]
    exact this
  have kn : ∀ ks : List Key, (∀ k ∈ ks, isKK rows' k = isKK rows k) → knK rows' ks = knK rows ks := fun ks h => by
    unfold knK
    rw [List.filter_congr h]
  have kn1 := kn ks fun k hk => (agK k hk).1
  have kn2 := kn (kS l) fun k hk => by
    obtain ⟨x, hx, rfl⟩ := List.mem_map.mp hk
    exact (ag x hx).1
  have k3 := ro.kn
  have ck : ckS rows' l = none := by
    unfold ckS ckr
    rw [if_neg (by omega), fa_congr l 1 0 ag, so.ck, if_neg (by omega)]
  unfold ctDue
  rw [if_neg (by omega), if_neg (by omega), ck]
  simp only
  rw [rf', if_neg (fun e => ?_), if_neg (by omega), if_neg (by omega)]
  obtain ⟨x, t, e2, hx, _⟩ := so.hd
  rw [e] at e2
  have : x = "*" := by
    have := (List.cons.inj e2).1
    exact this.symm
  rw [this, star_nk ok] at hx
  cases hx
end
end Sy
/-! stumps as trees: plain mathematics -/
namespace Sy
open PySem PySem.Spec PyProof.Rows L2
inductive Tr
  | nd (x : Str) (bs : List Tr)
mutual
def pre : Tr → List Str
  | .nd x bs => x :: pres bs
def pres : List Tr → List Str
  | [] => []
  | t :: ts => pre t ++ pres ts
end
mutual
def okT (rows : List Sy.Row) : Tr → Prop
  | .nd x bs => (isK rows x = true ∨ x = "*") ∧ bs.length = ar rows x ∧ oks rows bs
def oks (rows : List Sy.Row) : List Tr → Prop
  | [] => True
  | t :: ts => okT rows t ∧ oks rows ts
end
theorem pres_app : ∀ ts us : List Tr, pres (ts ++ us) = pres ts ++ pres us
  | [], us => rfl
  | t :: ts, us => by
    show pre t ++ pres (ts ++ us) = (pre t ++ pres ts) ++ pres us
    rw [pres_app ts us, List.append_assoc]
theorem oks_app {rows : List Sy.Row} : ∀ {ts us : List Tr}, oks rows (ts ++ us) ↔ oks rows ts ∧ oks rows us
  | [], us => ⟨fun h => ⟨trivial, h⟩, fun h => h.2⟩
  | t :: ts, us => by
    show okT rows t ∧ oks rows (ts ++ us) ↔ (okT rows t ∧ oks rows ts) ∧ oks rows us
    rw [oks_app, and_assoc]
theorem oks_mem {rows : List Sy.Row} : ∀ {ts : List Tr}, oks rows ts ↔ ∀ t ∈ ts, okT rows t
  | [] => ⟨fun _ _ h => (nomatch h), fun _ => trivial⟩
  | t :: ts => by
    show okT rows t ∧ oks rows ts ↔ _
    rw [oks_mem, List.forall_mem_cons]
/-- a row that is a stump is a tree's -/
theorem trees_of {rows : List Sy.Row} : ∀ {l : List Str} {n : Nat}, Fo n (wt rows l) → (∀ x ∈ l, isK rows x = true ∨ x = "*") → ∃ ts : List Tr, ts.length = n ∧ oks rows ts ∧ pres ts = l
  | [], 0, _, _ => ⟨[], rfl, trivial, rfl⟩
  | [], n + 1, h, _ => h.elim
  | x :: l, 0, h, _ => h.elim
  | x :: l, n + 1, h, hx => by
    have h : Fo (n + ar rows x) (wt rows l) := h
    obtain ⟨ts, h1, h2, h3⟩ := trees_of h fun y hy => hx y (List.mem_cons_of_mem _ hy)
    have e : ts = ts.take (ar rows x) ++ ts.drop (ar rows x) := (List.take_append_drop _ _).symm
    rw [e, oks_app] at h2
    refine ⟨.nd x (ts.take (ar rows x)) :: ts.drop (ar rows x), by rw [List.length_cons, List.length_drop, h1]; omega, ⟨⟨hx x List.mem_cons_self, by rw [List.length_take, h1]; omega, h2.1⟩, h2.2⟩, ?_⟩
    show x :: pres (ts.take (ar rows x)) ++ pres (ts.drop (ar rows x)) = x :: l
    rw [List.cons_append, ← pres_app, ← e, h3]
mutual
theorem fo_pre {rows : List Sy.Row} : ∀ {t : Tr}, okT rows t → Fo 1 (wt rows (pre t))
  | .nd x bs, h => by
    show Fo (0 + ar rows x) (wt rows (pres bs))
    rw [Nat.zero_add, ← h.2.1]
    exact fo_pres h.2.2
theorem fo_pres {rows : List Sy.Row} : ∀ {ts : List Tr}, oks rows ts → Fo ts.length (wt rows (pres ts))
  | [], _ => trivial
  | t :: ts, h => by
    show Fo (ts.length + 1) (wt rows (pre t ++ pres ts))
    rw [show wt rows (pre t ++ pres ts) = wt rows (pre t) ++ wt rows (pres ts) from List.map_append .., Nat.add_comm]
    exact (fo_pre h.1).app (fo_pres h.2)
end
mutual
theorem kn_pre {rows : List Sy.Row} : ∀ {t : Tr}, okT rows t → ∀ x ∈ pre t, isK rows x = true ∨ x = "*"
  | .nd y bs, h, x, hx => by
    rcases List.mem_cons.mp (show x ∈ y :: pres bs from hx) with rfl | hx
    · exact h.1
    · exact kn_pres h.2.2 x hx
theorem kn_pres {rows : List Sy.Row} : ∀ {ts : List Tr}, oks rows ts → ∀ x ∈ pres ts, isK rows x = true ∨ x = "*"
  | t :: ts, h, x, hx => by
    rcases List.mem_append.mp (show x ∈ pre t ++ pres ts from hx) with hx | hx
    · exact kn_pre h.1 x hx
    · exact kn_pres h.2 x hx
end
theorem pre_pos : ∀ t : Tr, 0 < (pre t).length
  | .nd x bs => by show 0 < (x :: pres bs).length; rw [List.length_cons]; omega
theorem len_pres : ∀ ts : List Tr, ts.length ≤ (pres ts).length
  | [] => Nat.le_refl _
  | t :: ts => by
    show ts.length + 1 ≤ (pre t ++ pres ts).length
    have := len_pres ts
    have := pre_pos t
    rw [List.length_append]
    omega
/-- behind a tree -/
theorem drop_en {rows : List Sy.Row} {l : List Str} {i : Nat} {t : Tr} {ts : List Tr} (h : l.drop i = pres (t :: ts)) (ok : okT rows t) : en (wt rows l) i = i + (pre t).length ∧ l.drop (en (wt rows l) i) = pres ts ∧ (l.drop i).take (en (wt rows l) i - i) = pre t := by
  have e1 : (wt rows l).drop i = wt rows (pre t) ++ wt rows (pres ts) := by
    rw [wt, ← List.map_drop, h]
    exact List.map_append ..
  have e2 : en (wt rows l) i = i + (pre t).length := by
    unfold en
    rw [e1, (fo_pre ok).sp_app, wt_len]
  have h : l.drop i = pre t ++ pres ts := h
  refine ⟨e2, ?_, ?_⟩
  · rw [e2, ← List.drop_drop, h, List.drop_left]
  · rw [e2, Nat.add_sub_cancel_left, h, List.take_left]
/-! what stands at a path -/
def tat : List Nat → Tr → Option Str
  | [], .nd x _ => some x
  | k :: p, .nd _ bs => (bs[k]?).bind (tat p)
def kA (t : Tr) (p : List Nat) : Str := (tat p t).getD "*"
theorem tat_nil (x : Str) (bs : List Tr) : tat [] (.nd x bs) = some x := rfl
theorem tat_cons (k : Nat) (p : List Nat) (x : Str) (bs : List Tr) : tat (k :: p) (.nd x bs) = (bs[k]?).bind (tat p) := rfl
/-! common -/
mutual
def com (rows : List Sy.Row) : Tr → Tr → Tr
  | .nd x bs, .nd y cs => if isK rows x = true ∧ x = y then .nd x (comZ rows bs cs) else .nd "*" []
def comZ (rows : List Sy.Row) : List Tr → List Tr → List Tr
  | t :: ts, u :: us => com rows t u :: comZ rows ts us
  | [], _ => []
  | _ :: _, [] => []
end
/-! united -/
mutual
def uni : Tr → Tr → Option Tr
  | .nd x bs, .nd y cs => if x = "*" then some (.nd y cs) else if y = "*" then some (.nd x bs) else if x = y then (uniZ bs cs).map (.nd x) else none
def uniZ : List Tr → List Tr → Option (List Tr)
  | t :: ts, u :: us => (uni t u).bind fun a => (uniZ ts us).map fun b => a :: b
  | [], _ => some []
  | _ :: _, [] => some []
end
/-! parts -/
mutual
def beg : Tr → Tr → Option (List Tr)
  | .nd x bs, .nd y cs => if x = "*" then some [.nd y cs] else if x = y then begZ bs cs else none
def begZ : List Tr → List Tr → Option (List Tr)
  | t :: ts, u :: us => (beg t u).bind fun a => (begZ ts us).map fun b => a ++ b
  | [], _ => some []
  | _ :: _, [] => some []
end
end Sy
/-! what common, united and parts have at each path -/
namespace Sy
open PySem PySem.Spec PyProof.Rows L2
theorem ar_st {rows : List Sy.Row} (h : isK rows "*" = false) : ar rows "*" = 0 := by
  unfold isK at h
  unfold ar
  cases e : rows.lookup ("*" : Str) with
  | none => rfl
  | some n => rw [e] at h; cases h
/-- a hole has nothing below -/
theorem hole_nil {rows : List Sy.Row} (st : isK rows "*" = false) {bs : List Tr} (h : okT rows (.nd "*" bs)) : bs = [] := by
  have := h.2.1
  rw [ar_st st] at this
  exact List.length_eq_zero_iff.mp this
theorem kA_hole (p : List Nat) : kA (.nd "*" []) p = "*" := by
  cases p <;> rfl
theorem tat_hole {p : List Nat} {k : Str} (h : tat p (.nd "*" []) = some k) : p = [] ∧ k = "*" := by
  cases p with
  | nil => exact ⟨rfl, (Option.some.inj h).symm⟩
  | cons a p => cases h
theorem oks_at {rows : List Sy.Row} {ts : List Tr} (h : oks rows ts) {k : Nat} {t : Tr} (e : ts[k]? = some t) : okT rows t := oks_mem.mp h t (List.mem_of_getElem? e)
/-! common -/
theorem comZ_len {rows : List Sy.Row} : ∀ {ts us : List Tr}, ts.length = us.length → (comZ rows ts us).length = ts.length
  | [], [], _ => rfl
  | t :: ts, u :: us, h => by
    rw [comZ, List.length_cons, List.length_cons, comZ_len (by simpa using h)]
theorem comZ_at {rows : List Sy.Row} : ∀ {ts us : List Tr} {k : Nat} {v : Tr}, (comZ rows ts us)[k]? = some v → ∃ t u, ts[k]? = some t ∧ us[k]? = some u ∧ v = com rows t u
  | t :: ts, u :: us, 0, v, h => ⟨t, u, rfl, rfl, (Option.some.inj (by simpa [comZ] using h)).symm⟩
  | t :: ts, u :: us, k + 1, v, h => comZ_at (ts := ts) (us := us) (k := k) (by simpa [comZ] using h)
  | [], _, k, v, h => by simp [comZ] at h
  | _ :: _, [], k, v, h => by simp [comZ] at h
theorem comZ_get {rows : List Sy.Row} : ∀ {ts us : List Tr} {k : Nat} {t u : Tr}, ts[k]? = some t → us[k]? = some u → (comZ rows ts us)[k]? = some (com rows t u)
  | t :: ts, u :: us, 0, _, _, h, g => by cases h; cases g; rfl
  | t :: ts, u :: us, k + 1, _, _, h, g => comZ_get (ts := ts) (us := us) (k := k) (by simpa using h) (by simpa using g)
  | [], _, k, _, _, h, _ => by simp at h
  | _ :: _, [], k, _, _, _, g => by simp at g
mutual
theorem com_ok {rows : List Sy.Row} (st : isK rows "*" = false) : ∀ {t u : Tr}, okT rows t → okT rows u → okT rows (com rows t u)
  | .nd x bs, .nd y cs, h, g => by
    rw [com]
    by_cases c : isK rows x = true ∧ x = y
    · rw [if_pos c]
      obtain ⟨c1, rfl⟩ := c
      have hl : bs.length = cs.length := by rw [h.2.1, g.2.1]
      exact ⟨.inl c1, by rw [comZ_len hl]; exact h.2.1, comZ_ok st h.2.2 g.2.2⟩
    · rw [if_neg c]
      exact ⟨.inr rfl, (ar_st st).symm, trivial⟩
theorem comZ_ok {rows : List Sy.Row} (st : isK rows "*" = false) : ∀ {ts us : List Tr}, oks rows ts → oks rows us → oks rows (comZ rows ts us)
  | [], _, _, _ => trivial
  | _ :: _, [], _, _ => trivial
  | t :: ts, u :: us, h, g => ⟨com_ok st h.1 g.1, comZ_ok st h.2 g.2⟩
end
/-- where it has a kind, both have it -/
theorem com_kind {rows : List Sy.Row} : ∀ {p : List Nat} {t u : Tr} {k : Str}, tat p (com rows t u) = some k → k ≠ "*" → tat p t = some k ∧ tat p u = some k
  | [], .nd x bs, .nd y cs, k, h, hk => by
    rw [com] at h
    by_cases c : isK rows x = true ∧ x = y
    · rw [if_pos c] at h
      rw [← Option.some.inj h, ← c.2]
      exact ⟨rfl, rfl⟩
    · rw [if_neg c] at h
      exact absurd (Option.some.inj h).symm hk
  | a :: p, .nd x bs, .nd y cs, k, h, hk => by
    rw [com] at h
    by_cases c : isK rows x = true ∧ x = y
    · rw [if_pos c, tat_cons] at h
      cases e : (comZ rows bs cs)[a]? with
      | none => rw [e] at h; cases h
      | some v =>
        rw [e] at h
        obtain ⟨t, u, e1, e2, rfl⟩ := comZ_at e
        obtain ⟨g1, g2⟩ := com_kind (p := p) h hk
        rw [tat_cons, tat_cons, e1, e2]
        exact ⟨g1, g2⟩
    · rw [if_neg c] at h
      cases h
/-- where it has a hole, both have an entry, and not the same kind -/
theorem com_hole {rows : List Sy.Row} : ∀ {p : List Nat} {t u : Tr}, okT rows t → okT rows u → tat p (com rows t u) = some ("*" : Str) → ∃ a b, tat p t = some a ∧ tat p u = some b ∧ ¬ (a = b ∧ a ≠ "*")
  | [], .nd x bs, .nd y cs, h, g, e => by
    refine ⟨x, y, rfl, rfl, fun ⟨e1, e2⟩ => ?_⟩
    rw [com] at e
    rcases h.1 with k | k
    · rw [if_pos ⟨k, e1⟩] at e
      exact e2 (Option.some.inj e)
    · exact e2 k
  | a :: p, .nd x bs, .nd y cs, h, g, e => by
    rw [com] at e
    by_cases c : isK rows x = true ∧ x = y
    · rw [if_pos c, tat_cons] at e
      cases e1 : (comZ rows bs cs)[a]? with
      | none => rw [e1] at e; cases e
      | some v =>
        rw [e1] at e
        obtain ⟨t, u, f1, f2, rfl⟩ := comZ_at e1
        obtain ⟨a', b', g1, g2, g3⟩ := com_hole (p := p) (oks_at h.2.2 f1) (oks_at g.2.2 f2) e
        rw [tat_cons, tat_cons, f1, f2]
        exact ⟨a', b', g1, g2, g3⟩
    · rw [if_neg c] at e
      cases e
theorem com_some {rows : List Sy.Row} {p : List Nat} {t u : Tr} {k : Str} (ht : okT rows t) (hu : okT rows u) (h : tat p (com rows t u) = some k) : ∃ a, tat p t = some a := by
  by_cases c : k = "*"
  · subst c
    obtain ⟨a, _, e, _⟩ := com_hole ht hu h
    exact ⟨a, e⟩
  · exact ⟨k, (com_kind h c).1⟩
def comL (rows : List Sy.Row) (t : Tr) (us : List Tr) : Tr := us.foldl (com rows) t
theorem comL_ok {rows : List Sy.Row} (st : isK rows "*" = false) : ∀ {us : List Tr} {t : Tr}, okT rows t → oks rows us → okT rows (comL rows t us)
  | [], t, h, _ => h
  | u :: us, t, h, g => comL_ok st (us := us) (com_ok st h g.1) g.2
theorem comL_some {rows : List Sy.Row} (st : isK rows "*" = false) {p : List Nat} : ∀ {us : List Tr} {t : Tr} {k : Str}, okT rows t → oks rows us → tat p (comL rows t us) = some k → ∃ a, tat p t = some a
  | [], t, k, _, _, h => ⟨k, h⟩
  | u :: us, t, k, h, g, e => by
    obtain ⟨a, ha⟩ := comL_some st (us := us) (com_ok st h g.1) g.2 e
    exact com_some h g.1 ha
theorem comL_kind {rows : List Sy.Row} {p : List Nat} : ∀ {us : List Tr} {t : Tr} {k : Str}, tat p (comL rows t us) = some k → k ≠ "*" → tat p t = some k ∧ ∀ u ∈ us, tat p u = some k
  | [], t, k, h, _ => ⟨h, fun _ h => nomatch h⟩
  | u :: us, t, k, h, hk => by
    obtain ⟨h1, h2⟩ := comL_kind (us := us) (t := com rows t u) h hk
    obtain ⟨h3, h4⟩ := com_kind h1 hk
    refine ⟨h3, fun v hv => ?_⟩
    rcases List.mem_cons.mp hv with rfl | hv
    · exact h4
    · exact h2 v hv
theorem kA_of {t : Tr} {p : List Nat} {k : Str} (h : tat p t = some k) : kA t p = k := by unfold kA; rw [h]; rfl
theorem tat_of {t : Tr} {p : List Nat} (h : kA t p ≠ "*") : tat p t = some (kA t p) := by
  unfold kA at h ⊢
  cases e : tat p t with
  | none => rw [e] at h; exact absurd rfl h
  | some k => rfl
/-- at a hole they do not all have the same kind -/
theorem comL_hole {rows : List Sy.Row} (st : isK rows "*" = false) {p : List Nat} : ∀ {us : List Tr} {t : Tr}, okT rows t → oks rows us → tat p (comL rows t us) = some ("*" : Str) → ¬ (kA t p ≠ "*" ∧ ∀ u ∈ us, kA u p = kA t p)
  | [], t, _, _, h => fun z => z.1 (kA_of h)
  | u :: us, t, h, g, e => fun ⟨z1, z2⟩ => by
    have ok1 := com_ok st h g.1
    have ih := comL_hole st (us := us) ok1 g.2 e
    obtain ⟨k, hk⟩ := comL_some st ok1 g.2 e
    have e1 := tat_of z1
    have eu : kA u p = kA t p := z2 u List.mem_cons_self
    have e2 : tat p u = some (kA t p) := by rw [← eu]; exact tat_of (by rw [eu]; exact z1)
    by_cases c : k = "*"
    · subst c
      obtain ⟨a, b, f1, f2, f3⟩ := com_hole h g.1 hk
      rw [e1] at f1
      rw [e2] at f2
      exact f3 ⟨(Option.some.inj f1).symm.trans (Option.some.inj f2), by rw [← Option.some.inj f1]; exact z1⟩
    · have f1 := (com_kind hk c).1
      rw [e1] at f1
      have ek : kA (com rows t u) p = kA t p := (kA_of hk).trans (Option.some.inj f1).symm
      exact ih ⟨by rw [ek]; exact z1, fun v hv => by rw [ek]; exact z2 v (List.mem_cons_of_mem _ hv)⟩
/-! common is a meet -/
mutual
theorem com_comm {rows : List Sy.Row} : ∀ t u : Tr, com rows t u = com rows u t
  | .nd x bs, .nd y cs => by
    rw [com, com]
    by_cases c : isK rows x = true ∧ x = y
    · obtain ⟨c1, rfl⟩ := c
      rw [if_pos ⟨c1, rfl⟩, if_pos ⟨c1, rfl⟩, comZ_comm bs cs]
    · rw [if_neg c, if_neg fun z => c (by rw [← z.2]; exact ⟨z.1, rfl⟩)]
theorem comZ_comm {rows : List Sy.Row} : ∀ ts us : List Tr, comZ rows ts us = comZ rows us ts
  | [], [] => rfl
  | [], _ :: _ => rfl
  | _ :: _, [] => rfl
  | t :: ts, u :: us => by rw [comZ, comZ, com_comm t u, comZ_comm ts us]
end
mutual
theorem com_assoc {rows : List Sy.Row} (st : isK rows "*" = false) : ∀ t u v : Tr, com rows (com rows t u) v = com rows t (com rows u v)
  | .nd x bs, .nd y cs, .nd z ds => by
    have hs : ∀ (w : Tr), com rows (.nd "*" []) w = .nd "*" [] := fun w => by
      cases w with
      | nd a b => rw [com, if_neg fun q => by rw [st] at q; exact Bool.false_ne_true q.1]
    rw [com, com]
    by_cases c : isK rows x = true ∧ x = y
    · obtain ⟨c1, rfl⟩ := c
      rw [if_pos ⟨c1, rfl⟩]
      by_cases d : x = z
      · subst d
        rw [if_pos ⟨c1, rfl⟩, com, if_pos ⟨c1, rfl⟩, com, if_pos ⟨c1, rfl⟩, comZ_assoc st bs cs ds]
      · rw [if_neg fun q => d q.2, com, if_neg fun q => d q.2, com_comm, hs]
    · rw [if_neg c, hs]
      by_cases d : isK rows y = true ∧ y = z
      · rw [if_pos d, com, if_neg c]
      · rw [if_neg d, com_comm, hs]
theorem comZ_assoc {rows : List Sy.Row} (st : isK rows "*" = false) : ∀ ts us vs : List Tr, comZ rows (comZ rows ts us) vs = comZ rows ts (comZ rows us vs)
  | [], _, _ => rfl
  | _ :: _, [], [] => rfl
  | _ :: _, [], _ :: _ => rfl
  | _ :: _, _ :: _, [] => rfl
  | t :: ts, u :: us, v :: vs => by rw [comZ, comZ, comZ, comZ, com_assoc st t u v, comZ_assoc st ts us vs]
end
mutual
theorem com_self {rows : List Sy.Row} (st : isK rows "*" = false) : ∀ {t : Tr}, okT rows t → com rows t t = t
  | .nd x bs, h => by
    rw [com]
    rcases h.1 with k | k
    · rw [if_pos ⟨k, rfl⟩, comZ_self st h.2.2]
    · subst k
      rw [if_neg fun q => by rw [st] at q; exact Bool.false_ne_true q.1, hole_nil st h]
theorem comZ_self {rows : List Sy.Row} (st : isK rows "*" = false) : ∀ {ts : List Tr}, oks rows ts → comZ rows ts ts = ts
  | [], _ => rfl
  | t :: ts, h => by rw [comZ, com_self st h.1, comZ_self st h.2]
end
theorem comZ_app {rows : List Sy.Row} : ∀ {ts us vs ws : List Tr}, ts.length = us.length → comZ rows (ts ++ vs) (us ++ ws) = comZ rows ts us ++ comZ rows vs ws
  | [], [], vs, ws, _ => rfl
  | t :: ts, u :: us, vs, ws, h => by
    rw [List.cons_append, List.cons_append, comZ, comZ, comZ_app (by simpa using h)]
    rfl
end Sy
/-! united and parts: what they have at each path -/
namespace Sy
open PySem PySem.Spec PyProof.Rows L2
/-! united -/
theorem uniZ_cons {t u : Tr} {ts us vs : List Tr} (h : uniZ (t :: ts) (u :: us) = some vs) : ∃ v ws, uni t u = some v ∧ uniZ ts us = some ws ∧ vs = v :: ws := by
  rw [uniZ] at h
  cases e1 : uni t u with
  | none => rw [e1] at h; cases h
  | some v =>
    cases e2 : uniZ ts us with
    | none => rw [e1, e2] at h; cases h
    | some ws =>
      rw [e1, e2] at h
      exact ⟨v, ws, rfl, rfl, (Option.some.inj h).symm⟩
theorem uniZ_at : ∀ {ts us vs : List Tr} {k : Nat} {t u : Tr}, uniZ ts us = some vs → ts[k]? = some t → us[k]? = some u → ∃ v, vs[k]? = some v ∧ uni t u = some v
  | t :: ts, u :: us, vs, 0, _, _, h, e1, e2 => by
    obtain ⟨v, ws, h1, h2, rfl⟩ := uniZ_cons h
    cases e1
    cases e2
    exact ⟨v, rfl, h1⟩
  | t :: ts, u :: us, vs, k + 1, _, _, h, e1, e2 => by
    obtain ⟨v, ws, h1, h2, rfl⟩ := uniZ_cons h
    exact uniZ_at (k := k) h2 (by simpa using e1) (by simpa using e2)
  | [], _, _, k, _, _, _, e1, _ => by simp at e1
  | _ :: _, [], _, k, _, _, _, _, e2 => by simp at e2
theorem uniZ_len : ∀ {ts us vs : List Tr}, uniZ ts us = some vs → ts.length = us.length → vs.length = ts.length
  | [], [], vs, h, _ => by rw [← Option.some.inj h]
  | t :: ts, u :: us, vs, h, e => by
    obtain ⟨v, ws, h1, h2, rfl⟩ := uniZ_cons h
    rw [List.length_cons, List.length_cons, uniZ_len h2 (by simpa using e)]
theorem uni_nd {x y : Str} {bs cs : List Tr} : uni (.nd x bs) (.nd y cs) = if x = "*" then some (.nd y cs) else if y = "*" then some (.nd x bs) else if x = y then (uniZ bs cs).map (.nd x) else none := by rw [uni]
mutual
theorem uni_ok {rows : List Sy.Row} : ∀ {t u v : Tr}, okT rows t → okT rows u → uni t u = some v → okT rows v
  | .nd x bs, .nd y cs, v, h, g, e => by
    rw [uni_nd] at e
    by_cases c : x = "*"
    · rw [if_pos c] at e
      rw [← Option.some.inj e]
      exact g
    · rw [if_neg c] at e
      by_cases d : y = "*"
      · rw [if_pos d] at e
        rw [← Option.some.inj e]
        exact h
      · rw [if_neg d] at e
        by_cases f : x = y
        · rw [if_pos f] at e
          cases e2 : uniZ bs cs with
          | none => rw [e2] at e; cases e
          | some vs =>
            rw [e2] at e
            rw [← Option.some.inj e]
            have hl : bs.length = cs.length := by rw [h.2.1, g.2.1, f]
            exact ⟨h.1, by rw [uniZ_len e2 hl]; exact h.2.1, uniZ_ok h.2.2 g.2.2 e2⟩
        · rw [if_neg f] at e
          cases e
theorem uniZ_ok {rows : List Sy.Row} : ∀ {ts us vs : List Tr}, oks rows ts → oks rows us → uniZ ts us = some vs → oks rows vs
  | [], _, vs, _, _, e => by
    rw [uniZ] at e
    rw [← Option.some.inj e]
    trivial
  | _ :: _, [], vs, _, _, e => by
    rw [uniZ] at e
    rw [← Option.some.inj e]
    trivial
  | t :: ts, u :: us, vs, h, g, e => by
    obtain ⟨v, ws, h1, h2, rfl⟩ := uniZ_cons e
    exact ⟨uni_ok h.1 g.1 h1, uniZ_ok h.2 g.2 h2⟩
end
mutual
theorem uni_comm {rows : List Sy.Row} (st : isK rows "*" = false) : ∀ {t u : Tr}, okT rows t → okT rows u → uni t u = uni u t
  | .nd x bs, .nd y cs, h, g => by
    rw [uni_nd, uni_nd]
    by_cases c : x = "*"
    · subst c
      by_cases d : y = "*"
      · subst d
        rw [if_pos rfl, if_pos rfl, hole_nil st h, hole_nil st g]
      · rw [if_pos rfl, if_neg d, if_pos rfl]
    · by_cases d : y = "*"
      · rw [if_neg c, if_pos d, if_pos d]
      · rw [if_neg c, if_neg d, if_neg d, if_neg c]
        by_cases f : x = y
        · subst f
          rw [if_pos rfl, if_pos rfl, uniZ_comm st h.2.2 g.2.2]
        · rw [if_neg f, if_neg fun z => f z.symm]
theorem uniZ_comm {rows : List Sy.Row} (st : isK rows "*" = false) : ∀ {ts us : List Tr}, oks rows ts → oks rows us → uniZ ts us = uniZ us ts
  | [], [], _, _ => rfl
  | [], _ :: _, _, _ => rfl
  | _ :: _, [], _, _ => rfl
  | t :: ts, u :: us, h, g => by rw [uniZ, uniZ, uni_comm st h.1 g.1, uniZ_comm st h.2 g.2]
end
theorem kA_cons {x : Str} {bs : List Tr} {k : Nat} {p : List Nat} {b : Tr} (h : bs[k]? = some b) : kA (.nd x bs) (k :: p) = kA b p := by
  unfold kA
  rw [tat_cons, h]
  rfl
theorem kA_out {x : Str} {bs : List Tr} {k : Nat} {p : List Nat} (h : bs[k]? = none) : kA (.nd x bs) (k :: p) = "*" := by
  unfold kA
  rw [tat_cons, h]
  rfl
/-- the union has the one's kind, otherwise the other's -/
theorem uni_at {rows : List Sy.Row} (st : isK rows "*" = false) : ∀ {p : List Nat} {t u v : Tr}, okT rows t → okT rows u → uni t u = some v → kA v p = if kA t p ≠ "*" then kA t p else kA u p
  | p, .nd x bs, .nd y cs, v, h, g, e => by
    rw [uni_nd] at e
    by_cases c : x = "*"
    · subst c
      rw [if_pos rfl] at e
      rw [hole_nil st h, kA_hole, ← Option.some.inj e, if_neg fun z => z rfl]
    · rw [if_neg c] at e
      by_cases d : y = "*"
      · subst d
        rw [if_pos rfl] at e
        rw [hole_nil st g, kA_hole, ← Option.some.inj e]
        by_cases f : kA (.nd x bs) p = "*"
        · rw [if_neg fun z => z f, f]
        · rw [if_pos f]
      · rw [if_neg d] at e
        by_cases f : x = y
        · subst f
          rw [if_pos rfl] at e
          cases e2 : uniZ bs cs with
          | none => rw [e2] at e; cases e
          | some vs =>
            rw [e2] at e
            rw [← Option.some.inj e]
            have hl : bs.length = cs.length := by rw [h.2.1, g.2.1]
            have hv := uniZ_len e2 hl
            cases p with
            | nil => rw [show kA (.nd x bs) [] = x from rfl, if_pos c]; rfl
            | cons k p =>
              cases eb : bs[k]? with
              | none =>
                have hk : bs.length ≤ k := List.getElem?_eq_none_iff.mp eb
                rw [kA_out eb, kA_out (List.getElem?_eq_none (by omega)), if_neg fun z => z rfl, kA_out (List.getElem?_eq_none (by omega))]
              | some t =>
                have hk := (List.getElem?_eq_some_iff.mp eb).1
                have ec : cs[k]? = some cs[k] := List.getElem?_eq_getElem (by omega)
                obtain ⟨v', e3, e4⟩ := uniZ_at e2 eb ec
                rw [kA_cons e3, kA_cons eb, kA_cons ec]
                exact uni_at st (p := p) (oks_at h.2.2 eb) (oks_at g.2.2 ec) e4
        · rw [if_neg f] at e
          cases e
mutual
/-- there is none only if two kinds clash -/
theorem uni_none {rows : List Sy.Row} : ∀ {t u : Tr}, okT rows t → okT rows u → uni t u = none → ∃ p, kA t p ≠ "*" ∧ kA u p ≠ "*" ∧ kA u p ≠ kA t p
  | .nd x bs, .nd y cs, h, g, e => by
    rw [uni_nd] at e
    by_cases c : x = "*"
    · rw [if_pos c] at e
      cases e
    · rw [if_neg c] at e
      by_cases d : y = "*"
      · rw [if_pos d] at e
        cases e
      · rw [if_neg d] at e
        by_cases f : x = y
        · rw [if_pos f] at e
          cases e2 : uniZ bs cs with
          | some vs => rw [e2] at e; cases e
          | none =>
            have hl : bs.length = cs.length := by rw [h.2.1, g.2.1, f]
            obtain ⟨k, t, u, e3, e4, p, h1, h2, h3⟩ := uniZ_none hl h.2.2 g.2.2 e2
            exact ⟨k :: p, by rw [kA_cons e3]; exact h1, by rw [kA_cons e4]; exact h2, by rw [kA_cons e3, kA_cons e4]; exact h3⟩
        · exact ⟨[], c, d, fun z => f z.symm⟩
theorem uniZ_none {rows : List Sy.Row} : ∀ {ts us : List Tr}, ts.length = us.length → oks rows ts → oks rows us → uniZ ts us = none → ∃ (k : Nat) (t u : Tr), ts[k]? = some t ∧ us[k]? = some u ∧ ∃ p, kA t p ≠ "*" ∧ kA u p ≠ "*" ∧ kA u p ≠ kA t p
  | [], [], _, _, _, e => by cases e
  | t :: ts, u :: us, hl, h, g, e => by
    cases e1 : uni t u with
    | none => exact ⟨0, t, u, rfl, rfl, uni_none h.1 g.1 e1⟩
    | some v =>
      cases e2 : uniZ ts us with
      | none =>
        obtain ⟨k, t', u', a1, a2, a3⟩ := uniZ_none (by simpa using hl) h.2 g.2 e2
        exact ⟨k + 1, t', u', by simpa using a1, by simpa using a2, a3⟩
      | some ws =>
        rw [uniZ, e1, e2] at e
        cases e
end
theorem uni_clash {rows : List Sy.Row} (st : isK rows "*" = false) {t u : Tr} (h : okT rows t) (g : okT rows u) : uni t u = none ↔ ∃ p, kA t p ≠ "*" ∧ kA u p ≠ "*" ∧ kA u p ≠ kA t p := by
  refine ⟨uni_none h g, fun ⟨p, h1, h2, h3⟩ => ?_⟩
  cases e : uni t u with
  | none => rfl
  | some v =>
    have e1 := uni_at st (p := p) h g e
    rw [if_pos h1] at e1
    rw [uni_comm st h g] at e
    have e2 := uni_at st (p := p) g h e
    rw [if_pos h2] at e2
    exact absurd (e2.symm.trans e1) h3
/-! parts -/
theorem beg_nd {x y : Str} {bs cs : List Tr} : beg (.nd x bs) (.nd y cs) = if x = "*" then some [.nd y cs] else if x = y then begZ bs cs else none := by rw [beg]
theorem begZ_cons {t u : Tr} {ts us vs : List Tr} (h : begZ (t :: ts) (u :: us) = some vs) : ∃ v ws, beg t u = some v ∧ begZ ts us = some ws ∧ vs = v ++ ws := by
  rw [begZ] at h
  cases e1 : beg t u with
  | none => rw [e1] at h; cases h
  | some v =>
    cases e2 : begZ ts us with
    | none => rw [e1, e2] at h; cases h
    | some ws =>
      rw [e1, e2] at h
      exact ⟨v, ws, rfl, rfl, (Option.some.inj h).symm⟩
mutual
theorem beg_ok {rows : List Sy.Row} : ∀ {t u : Tr} {vs : List Tr}, okT rows u → beg t u = some vs → oks rows vs
  | .nd x bs, .nd y cs, vs, g, e => by
    rw [beg_nd] at e
    by_cases c : x = "*"
    · rw [if_pos c] at e
      rw [← Option.some.inj e]
      exact ⟨g, trivial⟩
    · rw [if_neg c] at e
      by_cases d : x = y
      · rw [if_pos d] at e
        exact begZ_ok g.2.2 e
      · rw [if_neg d] at e
        cases e
theorem begZ_ok {rows : List Sy.Row} : ∀ {ts us vs : List Tr}, oks rows us → begZ ts us = some vs → oks rows vs
  | [], _, vs, _, e => by
    rw [begZ] at e
    rw [← Option.some.inj e]
    trivial
  | _ :: _, [], vs, _, e => by
    rw [begZ] at e
    rw [← Option.some.inj e]
    trivial
  | t :: ts, u :: us, vs, g, e => by
    obtain ⟨v, ws, h1, h2, rfl⟩ := begZ_cons e
    exact oks_app.mpr ⟨beg_ok g.1 h1, begZ_ok g.2 h2⟩
end
mutual
theorem beg_fwd {rows : List Sy.Row} (st : isK rows "*" = false) : ∀ {p : List Nat} {t u : Tr} {vs : List Tr}, okT rows t → okT rows u → beg t u = some vs → kA t p ≠ "*" → kA u p = kA t p
  | p, .nd x bs, .nd y cs, vs, h, g, e, hp => by
    rw [beg_nd] at e
    by_cases c : x = "*"
    · subst c
      rw [hole_nil st h, kA_hole] at hp
      exact absurd rfl hp
    · rw [if_neg c] at e
      by_cases d : x = y
      · rw [if_pos d] at e
        cases p with
        | nil => exact d.symm
        | cons k p =>
          cases eb : bs[k]? with
          | none => rw [kA_out eb] at hp; exact absurd rfl hp
          | some t =>
            have hl : bs.length = cs.length := by rw [h.2.1, g.2.1, d]
            have hk := (List.getElem?_eq_some_iff.mp eb).1
            have ec : cs[k]? = some cs[k] := List.getElem?_eq_getElem (by omega)
            rw [kA_cons eb] at hp ⊢
            rw [kA_cons ec]
            exact begZ_fwd st h.2.2 g.2.2 e eb ec hp
      · rw [if_neg d] at e
        cases e
theorem begZ_fwd {rows : List Sy.Row} (st : isK rows "*" = false) : ∀ {ts us vs : List Tr} {k : Nat} {t u : Tr} {p : List Nat}, oks rows ts → oks rows us → begZ ts us = some vs → ts[k]? = some t → us[k]? = some u → kA t p ≠ "*" → kA u p = kA t p
  | t :: ts, u :: us, vs, 0, _, _, p, h, g, e, e1, e2, hp => by
    obtain ⟨v, ws, h1, h2, rfl⟩ := begZ_cons e
    cases e1
    cases e2
    exact beg_fwd st h.1 g.1 h1 hp
  | t :: ts, u :: us, vs, k + 1, _, _, p, h, g, e, e1, e2, hp => by
    obtain ⟨v, ws, h1, h2, rfl⟩ := begZ_cons e
    exact begZ_fwd st h.2 g.2 h2 (by simpa using e1) (by simpa using e2) hp
  | [], _, _, k, _, _, _, _, _, _, e1, _, _ => by simp at e1
  | _ :: _, [], _, k, _, _, _, _, _, _, _, e2, _ => by simp at e2
end
mutual
theorem beg_bwd {rows : List Sy.Row} : ∀ {t u : Tr}, okT rows t → okT rows u → (∀ p, kA t p ≠ "*" → kA u p = kA t p) → ∃ vs, beg t u = some vs
  | .nd x bs, .nd y cs, h, g, hp => by
    rw [beg_nd]
    by_cases c : x = "*"
    · exact ⟨_, if_pos c⟩
    · rw [if_neg c]
      have e0 : y = x := hp [] c
      rw [if_pos e0.symm]
      have hl : bs.length = cs.length := by rw [h.2.1, g.2.1, e0]
      exact begZ_bwd hl h.2.2 g.2.2 fun k t u e1 e2 p hq => by
        have := hp (k :: p) (by rw [kA_cons e1]; exact hq)
        rw [kA_cons e1, kA_cons e2] at this
        exact this
theorem begZ_bwd {rows : List Sy.Row} : ∀ {ts us : List Tr}, ts.length = us.length → oks rows ts → oks rows us → (∀ (k : Nat) (t u : Tr), ts[k]? = some t → us[k]? = some u → ∀ p, kA t p ≠ "*" → kA u p = kA t p) → ∃ vs, begZ ts us = some vs
  | [], [], _, _, _, _ => ⟨[], rfl⟩
  | t :: ts, u :: us, hl, h, g, hp => by
    obtain ⟨v, e1⟩ := beg_bwd h.1 g.1 (hp 0 t u rfl rfl)
    obtain ⟨ws, e2⟩ := begZ_bwd (by simpa using hl) h.2 g.2 fun k t' u' a1 a2 => hp (k + 1) t' u' (by simpa using a1) (by simpa using a2)
    exact ⟨v ++ ws, by rw [begZ, e1, e2]; rfl⟩
end
theorem beg_iff {rows : List Sy.Row} (st : isK rows "*" = false) {t u : Tr} (h : okT rows t) (g : okT rows u) : (∃ vs, beg t u = some vs) ↔ ∀ p, kA t p ≠ "*" → kA u p = kA t p :=
  ⟨fun ⟨_, e⟩ _ hp => beg_fwd st h g e hp, beg_bwd h g⟩
theorem begZ_app : ∀ {ts us vs ws : List Tr}, ts.length = us.length → begZ (ts ++ vs) (us ++ ws) = (begZ ts us).bind fun a => (begZ vs ws).map fun b => a ++ b
  | [], [], vs, ws, _ => by
    rw [begZ]
    cases h : begZ vs ws <;> simp [h]
  | t :: ts, u :: us, vs, ws, h => by
    rw [List.cons_append, List.cons_append, begZ, begZ, begZ_app (by simpa using h)]
    cases beg t u <;> cases begZ ts us <;> cases begZ vs ws <;> simp
theorem uniZ_app : ∀ {ts us vs ws : List Tr}, ts.length = us.length → uniZ (ts ++ vs) (us ++ ws) = (uniZ ts us).bind fun a => (uniZ vs ws).map fun b => a ++ b
  | [], [], vs, ws, _ => by
    rw [uniZ]
    cases h : uniZ vs ws <;> simp [h]
  | t :: ts, u :: us, vs, ws, h => by
    rw [List.cons_append, List.cons_append, uniZ, uniZ, uniZ_app (by simpa using h)]
    cases uni t u <;> cases uniZ ts us <;> cases uniZ vs ws <;> simp
end Sy
/-! two stumps read side by side: their union -/
namespace Sy
open PySem PySem.Spec PyProof.Rows L2
def Wk (u v : List Nat) (i j : Nat) : Prop := ∃ m, Fo m (u.drop i) ∧ Fo m (v.drop j)
section
variable {u v : List Nat} {i j : Nat}
theorem Wk.start (h : Fo 1 u) (g : Fo 1 v) : Wk u v 0 0 := ⟨1, h, g⟩
theorem Wk.has (h : Wk u v i j) (hi : i < u.length) : ∃ m, Fo (m + 1) (u.drop i) ∧ Fo (m + 1) (v.drop j) ∧ j < v.length := by
  obtain ⟨m, a, b⟩ := h
  cases m with
  | zero =>
    have := congrArg List.length a.zero
    rw [List.length_drop] at this
    simp at this
    omega
  | succ m =>
    refine ⟨m, a, b, ?_⟩
    have := b.pos
    rw [List.length_drop] at this
    omega
theorem Fo.go {m : Nat} (h : Fo (m + 1) (u.drop i)) (hi : i < u.length) : Fo (m + aw u i) (u.drop (i + 1)) := by
  rw [drop_at hi] at h
  exact h
theorem Fo.skip {m : Nat} (h : Fo (m + 1) (u.drop i)) : Fo m (u.drop (en u i)) ∧ en u i ≤ u.length := by
  rw [Nat.add_comm] at h
  obtain ⟨h1, h2, _⟩ := Fo.le h
  rw [List.drop_drop] at h2
  rw [List.length_drop] at h1
  refine ⟨h2, ?_⟩
  unfold en
  by_cases c : i ≤ u.length
  · omega
  · have : u.drop i = [] := List.drop_eq_nil_of_le (by omega)
    rw [this] at h
    exact absurd h (by rw [Nat.add_comm]; exact fun z => z)
theorem Wk.go (h : Wk u v i j) (hi : i < u.length) (e : aw u i = aw v j) : Wk u v (i + 1) (j + 1) := by
  obtain ⟨m, a, b, hj⟩ := h.has hi
  refine ⟨m + aw u i, a.go hi, ?_⟩
  rw [e]
  exact b.go hj
theorem Wk.skip (h : Wk u v i j) (hi : i < u.length) : Wk u v (en u i) (en v j) ∧ en u i ≤ u.length ∧ en v j ≤ v.length := by
  obtain ⟨m, a, b, hj⟩ := h.has hi
  exact ⟨⟨m, a.skip.1, b.skip.1⟩, a.skip.2, b.skip.2⟩
theorem Wk.leap (h : Wk u v i j) (hi : i < u.length) (e : aw u i = 0) : Wk u v (i + 1) (en v j) := by
  obtain ⟨m, a, b, hj⟩ := h.has hi
  have q := a.go hi
  rw [e] at q
  exact ⟨m, q, b.skip.1⟩
theorem Wk.leap2 (h : Wk u v i j) (hi : i < u.length) (e : aw v j = 0) : Wk u v (en u i) (j + 1) := by
  obtain ⟨m, a, b, hj⟩ := h.has hi
  have q := b.go hj
  rw [e] at q
  exact ⟨m, a.skip.1, q⟩
end
theorem fa_ok2 {rows : List Sy.Row} {lv : List Str} : ∀ {l : List Str} {m i : Nat}, Fo m (wt rows l) → (∀ x ∈ l, isK rows x = true ∨ x ∈ lv) → fa rows lv m i l = -1
  | [], 0, i, _, _ => rfl
  | x :: l, m + 1, i, h, k => by
    have h : Fo (m + ar rows x) (wt rows l) := h
    rw [fa, if_neg (by omega), if_neg fun z => (k x List.mem_cons_self).elim (fun q => by rw [q] at z; cases z.1) (fun q => z.2 q)]
    exact fa_ok2 (m := m + 1 - 1 + ar rows x) h fun y hy => k y (List.mem_cons_of_mem _ hy)
theorem ck_none {rows : List Sy.Row} (st : isK rows "*" = false) {t : Tr} (h : okT rows t) (hl : (pre t).length ≤ 2000) : ckS rows (pre t) = none := by
  unfold ckS ckr
  have := fa_ok2 (rows := rows) (lv := ["*"]) (l := pre t) (m := 1) (i := 0) (fo_pre h) fun x hx => (kn_pre h x hx).imp id fun z => by rw [z]; exact List.mem_singleton.mpr rfl
  rw [if_neg (by omega), if_neg (by rw [this]; decide)]
/-- two rows read side by side -/
structure Rd2 (rows : List Sy.Row) (l m : List Str) (i j : Nat) (ts us : List Tr) : Prop where
  one : l.drop i = pres ts
  two : m.drop j = pres us
  len : ts.length = us.length
  ok1 : oks rows ts
  ok2 : oks rows us
section
variable {rows : List Sy.Row} {l m : List Str} {i j : Nat} {ts us : List Tr} {x y : Str} {bs cs : List Tr}
theorem Rd2.start {t u : Tr} (h : okT rows t) (g : okT rows u) : Rd2 rows (pre t) (pre u) 0 0 [t] [u] :=
  ⟨(List.append_nil _).symm, (List.append_nil _).symm, rfl, ⟨h, trivial⟩, ⟨g, trivial⟩⟩
theorem Rd2.at_ (h : Rd2 rows l m i j ts us) (ey : l[i]? = some y) : ∃ x bs cs ts' us', m[j]? = some x ∧ ts = .nd y bs :: ts' ∧ us = .nd x cs :: us' := by
  obtain ⟨h1, h2, h3, _, _⟩ := h
  have e0 : (l.drop i)[0]? = some y := by rw [List.getElem?_drop, Nat.add_zero]; exact ey
  cases ts with
  | nil => rw [h1] at e0; cases e0
  | cons t ts =>
    cases us with
    | nil => cases h3
    | cons u us =>
      obtain ⟨a, bs⟩ := t
      obtain ⟨b, cs⟩ := u
      rw [h1] at e0
      have e1 : a = y := Option.some.inj e0
      subst e1
      refine ⟨b, bs, cs, ts, us, ?_, rfl, rfl⟩
      have : (m.drop j)[0]? = some b := by rw [h2]; rfl
      rw [List.getElem?_drop, Nat.add_zero] at this
      exact this
theorem drop_one {l : List Str} {i : Nat} {ts : List Tr} (h : l.drop i = pres (.nd y bs :: ts)) : l.drop (i + 1) = pres (bs ++ ts) := by
  rw [← List.drop_drop, h, pres_app]
  rfl
theorem Rd2.go {ts' us' : List Tr} (h : Rd2 rows l m i j (.nd y bs :: ts') (.nd y cs :: us')) : Rd2 rows l m (i + 1) (j + 1) (bs ++ ts') (cs ++ us') ∧ bs.length = cs.length := by
  obtain ⟨h1, h2, h3, h4, h5⟩ := h
  have hl : bs.length = cs.length := by rw [h4.1.2.1, h5.1.2.1]
  exact ⟨⟨drop_one h1, drop_one h2, by rw [List.length_append, List.length_append, hl]; simpa using h3, oks_app.mpr ⟨h4.1.2.2, h4.2⟩, oks_app.mpr ⟨h5.1.2.2, h5.2⟩⟩, hl⟩
theorem Rd2.skip {t u : Tr} {ts' us' : List Tr} (h : Rd2 rows l m i j (t :: ts') (u :: us')) : Rd2 rows l m (en (wt rows l) i) (en (wt rows m) j) ts' us' ∧ (l.drop i).take (en (wt rows l) i - i) = pre t ∧ (m.drop j).take (en (wt rows m) j - j) = pre u := by
  obtain ⟨h1, h2, h3, h4, h5⟩ := h
  obtain ⟨a1, a2, a3⟩ := drop_en h1 h4.1
  obtain ⟨b1, b2, b3⟩ := drop_en h2 h5.1
  exact ⟨⟨a2, b2, by simpa using h3, h4.2, h5.2⟩, a3, b3⟩
theorem Rd2.end_ (h : Rd2 rows l m i j ts us) (hi : l.length ≤ i) : ts = [] ∧ us = [] := by
  have e : pres ts = [] := by rw [← h.one]; exact List.drop_eq_nil_of_le hi
  have := len_pres ts
  rw [e] at this
  have e1 : ts = [] := List.length_eq_zero_iff.mp (Nat.le_zero.mp this)
  refine ⟨e1, ?_⟩
  have := h.len
  rw [e1] at this
  exact List.length_eq_zero_iff.mp this.symm
end
def UnI (rows : List Sy.Row) (l m : List Str) (R : Option (List Str)) (i j : Nat) (acc : List Str) : Prop := ∃ ts us, Rd2 rows l m i j ts us ∧ (uniZ ts us).map (fun v => acc ++ pres v) = R
section
variable {rows : List Sy.Row} {l m acc : List Str} {R : Option (List Str)} {i j : Nat} {x y : Str}
theorem UnI.start {t u : Tr} (h : okT rows t) (g : okT rows u) : UnI rows (pre t) (pre u) ((uni t u).map pre) 0 0 [] := by
  refine ⟨[t], [u], .start h g, ?_⟩
  rw [uniZ, uniZ]
  cases uni t u with
  | none => rfl
  | some v => show some ([] ++ (pre v ++ [])) = some (pre v); rw [List.append_nil, List.nil_append]
theorem UnI.hole1 (st : isK rows "*" = false) (h : UnI rows l m R i j acc) (ey : l[i]? = some ("*" : Str)) : en (wt rows l) i = i + 1 ∧ UnI rows l m R (i + 1) (en (wt rows m) j) (acc ++ (m.drop j).take (en (wt rows m) j - j)) := by
  obtain ⟨ts, us, r, e⟩ := h
  obtain ⟨x, bs, cs, ts', us', e1, rfl, rfl⟩ := r.at_ ey
  obtain ⟨r', f1, f2⟩ := r.skip
  have e0 := hole_nil st r.ok1.1
  subst e0
  have e2 : en (wt rows l) i = i + 1 := (drop_en r.one r.ok1.1).1
  rw [e2] at r'
  refine ⟨e2, _, _, r', ?_⟩
  rw [uniZ, uni_nd, if_pos rfl] at e
  rw [f2, ← e]
  cases uniZ ts' us' with
  | none => rfl
  | some v => show some (_ ++ pres v) = some (acc ++ (_ ++ pres v)); rw [List.append_assoc]
theorem UnI.hole2 (st : isK rows "*" = false) (h : UnI rows l m R i j acc) (ey : l[i]? = some y) (hy : y ≠ "*") (ex : m[j]? = some ("*" : Str)) : en (wt rows m) j = j + 1 ∧ UnI rows l m R (en (wt rows l) i) (j + 1) (acc ++ (l.drop i).take (en (wt rows l) i - i)) := by
  obtain ⟨ts, us, r, e⟩ := h
  obtain ⟨x, bs, cs, ts', us', e1, rfl, rfl⟩ := r.at_ ey
  rw [ex] at e1
  cases e1
  obtain ⟨r', f1, f2⟩ := r.skip
  have e0 := hole_nil st r.ok2.1
  subst e0
  have e2 : en (wt rows m) j = j + 1 := (drop_en r.two r.ok2.1).1
  rw [e2] at r'
  refine ⟨e2, _, _, r', ?_⟩
  rw [uniZ, uni_nd, if_neg hy, if_pos rfl] at e
  rw [f1, ← e]
  cases uniZ ts' us' with
  | none => rfl
  | some v => show some (_ ++ pres v) = some (acc ++ (_ ++ pres v)); rw [List.append_assoc]
theorem UnI.same (h : UnI rows l m R i j acc) (ey : l[i]? = some y) (hy : y ≠ "*") (ex : m[j]? = some y) : UnI rows l m R (i + 1) (j + 1) (acc ++ [y]) := by
  obtain ⟨ts, us, r, e⟩ := h
  obtain ⟨x, bs, cs, ts', us', e1, rfl, rfl⟩ := r.at_ ey
  rw [ex] at e1
  cases e1
  obtain ⟨r', hl⟩ := r.go
  refine ⟨_, _, r', ?_⟩
  rw [uniZ, uni_nd, if_neg hy, if_neg hy, if_pos rfl] at e
  rw [uniZ_app hl, ← e]
  cases uniZ bs cs with
  | none => rfl
  | some v =>
    cases uniZ ts' us' with
    | none => rfl
    | some w =>
      show some ((acc ++ [y]) ++ pres (v ++ w)) = some (acc ++ ((y :: pres v) ++ pres w))
      rw [pres_app, List.append_assoc]
      rfl
theorem UnI.clash (h : UnI rows l m R i j acc) (ey : l[i]? = some y) (hy : y ≠ "*") (ex : m[j]? = some x) (hx : x ≠ "*") (hn : y ≠ x) : R = none := by
  obtain ⟨ts, us, r, e⟩ := h
  obtain ⟨x', bs, cs, ts', us', e1, rfl, rfl⟩ := r.at_ ey
  rw [ex] at e1
  cases e1
  rw [uniZ, uni_nd, if_neg hy, if_neg hx, if_neg hn] at e
  exact e.symm
theorem UnI.done (h : UnI rows l m R i j acc) (hi : l.length ≤ i) : R = some acc := by
  obtain ⟨ts, us, r, e⟩ := h
  obtain ⟨rfl, rfl⟩ := r.end_ hi
  rw [← e]
  show some (acc ++ []) = some acc
  rw [List.append_nil]
theorem UnI.has (h : UnI rows l m R i j acc) (hi : i < l.length) : ∃ y x, l[i]? = some y ∧ m[j]? = some x := by
  obtain ⟨ts, us, r, e⟩ := h
  have ey := List.getElem?_eq_getElem hi
  obtain ⟨x, _, _, _, _, e1, _, _⟩ := r.at_ ey
  exact ⟨_, x, ey, e1⟩
end
theorem ar_no {rows : List Sy.Row} {x : Str} (h : isK rows x = false) : ar rows x = 0 := by
  unfold ar
  unfold isK at h
  cases e : rows.lookup x with
  | none => rfl
  | some n => rw [e] at h; cases h
theorem Hs.low {B B' H : Hp} {L : List (Addr × HO)} (h : Hs B' L H) (s : Same B B') : Hs B L H := ⟨s.trans h.sub, h.own, h.nd, fun q hq => s.free (h.ap q hq)⟩
end Sy
/-! united -/
namespace Sy
open PySem PySem.Spec PyProof.Rows L2
section
variable {P : Program} {w : World} {K : PySem.W.Frag} {mg : Str → Option Value} {base : Heap}
/-! united -/
def spUnited (K : PySem.W.Frag) : Sp := fun vs H Q E => ∃ (a r o : Addr) (rows : List Sy.Row) (t u : Tr), vs = [.ref a, .ref r, .ref o] ∧ BedAt K H a rows ∧ SqT K H r ((pre t).map V.str) ∧ SqT K H o ((pre u).map V.str) ∧ isK rows "*" = false ∧ okT rows t ∧ okT rows u ∧ (pre t).length ≤ 2000 ∧ (pre u).length ≤ 2000 ∧
  (uni t u = none → ∀ H', Same H H' → Q .non H') ∧ (∀ v, uni t u = some v → (pre v).length ≤ 2000 → ∀ H' p, Same H H' → SqT K H' p ((pre v).map V.str) → NoD H' p → Q (.ref p) H') ∧ (∀ v, uni t u = some v → 2000 < (pre v).length → RaE K (.many "knots" 2000) H E)
abbrev N_united : List Str := ["bed", "first", "second", "result", "here", "there", "here_stop", "there_stop"]
theorem sc_united : FnScope N_united ["bed", "first", "second"] (defScope (top 29)) := ⟨rfl, rfl, rfl, by decide +kernel, rfl, by decide +kernel, by decide +kernel⟩
theorem k_united (T : Txt K mg) (S : TxtM mg) (F : DF K mg "united" 29) (c_check_stump : Cal P w K mg base 4 "check_stump" ["bed", "stump"] (spCheckE K ckS)) (c_check_count : Cal P w K mg base 3 "check_count" ["number"] (spCount K)) (c_span_stop : Cal P w K mg base 2 "span_stop" ["bed", "row", "place"] (spStop K)) : Cal P w K mg base 5 "united" ["bed", "first", "second"] (spUnited K) := by
  refine cal_of F.1 F.2 sc_united (fun _ _ _ _ _ _ us e => match us, e with | [_, _, _], _ => rfl) (fun vs H Q E s => by obtain ⟨_, _, _, _, _, _, rfl, _⟩ := s; rfl) ?_
  intro cdv A outer s H vs Q E hr h
  obtain ⟨a, r, o, rows, t, u, rfl, hb, hR, hO, hst, okt, oku, hlt, hlu, hq0, hq1, hq2⟩ := h
  have cka := ck_none hst okt hlt
  have ckb := ck_none hst oku hlu
  have hU := UnI.start okt oku
  obtain ⟨R, eR⟩ : ∃ R, R = (uni t u).map pre := ⟨_, rfl⟩
  rw [← eR] at hU
  obtain ⟨l, el⟩ : ∃ l, l = pre t := ⟨_, rfl⟩
  obtain ⟨m, em⟩ : ∃ m, m = pre u := ⟨_, rfl⟩
  rw [← el] at hR hlt cka hU
  rw [← em] at hO hlu ckb hU
  have hq0 : R = none → ∀ H', Same H H' → Q .non H' := fun z => hq0 (by rw [eR] at z; cases e : uni t u with
    | none => rfl
    | some v => rw [e] at z; cases z)
  have hq1 : ∀ c, R = some c → c.length ≤ 2000 → ∀ H' p, Same H H' → SqT K H' p (c.map V.str) → NoD H' p → Q (.ref p) H' := fun c z => by
    rw [eR] at z
    cases e : uni t u with
    | none => rw [e] at z; cases z
    | some v =>
      rw [e] at z
      rw [← Option.some.inj z]
      exact hq1 v e
  have hq2 : ∀ c, R = some c → 2000 < c.length → RaE K (.many "knots" 2000) H E := fun c z => by
    rw [eR] at z
    cases e : uni t u with
    | none => rw [e] at z; cases z
    | some v =>
      rw [e] at z
      rw [← Option.some.inj z]
      exact hq2 v e
  have hu := hu_of hr
  have sc := sc_united
  have hwl := wt_len rows l
  have hwm := wt_len rows m
  refine ⟨_, (pss_cons (ps_expr (pe_calX c_check_stump hr (takes_of rfl rfl rfl rfl) (pa_cons (pv 0) (pa_cons (pv 1) pa_nil))))
      (pss_cons (ps_expr (pe_calX c_check_stump hr (takes_of rfl rfl rfl rfl) (pa_cons (pv 0) (pa_cons (pv 2) pa_nil))))
      (pss_cons (ps_set (i := 3) sc.nd rfl (Or.inl rfl) (pe_lst pa_nil))
      (pss_cons (ps_asg2 pe_int (pg_name (i := 4) sc.nd rfl (Or.inl rfl)) (pg_name (i := 5) sc.nd rfl (Or.inl rfl)))
      (pss_cons (ps_while (passes_of rfl) (pt_cmpR op_lt (pv 4) (pe_callB call_len_seq (by rfl) T.len (by decide +kernel) (pa_cons (pv 1) pa_nil)) (nomark _))
        (pss_cons (ps_set (i := 6) sc.nd rfl (Or.inl rfl) (pe_op op_add (pv 4) pe_int))
        (pss_cons (ps_set (i := 7) sc.nd rfl (Or.inl rfl) (pe_op op_add (pv 5) pe_int))
        (pss_cons (ps_if (pt_cmpR op_eq (pe_ix ix_tup (pv 1) (pv 4) (fun _ _ => rfl)) (pe_gstr rfl S.hole) (nomark _))
          (pss_cons (ps_set (i := 7) sc.nd rfl (Or.inl rfl) (pe_cal c_span_stop hr (pa_cons (pv 0) (pa_cons (pv 2) (pa_cons (pv 5) pa_nil)))))
          (pss_one (ps_expr (pe_bm PySem.F.plainAttrs_list PySem.F.slot_list_extend PySem.F.type_list_extend mt_extend (pv 3) (pa_cons (pe_callTy call_list_of (by rfl) T.list (by decide +kernel) (pa_cons (pe_slice sl_tupA (pv 2) (po_some (pv 5)) (po_some (pv 7))) pa_nil)) pa_nil)))))
          (pss_one (ps_if (pt_cmpR op_eq (pe_ix ix_tup (pv 2) (pv 5) (fun _ _ => rfl)) (pe_gstr rfl S.hole) (nomark _))
            (pss_cons (ps_set (i := 6) sc.nd rfl (Or.inl rfl) (pe_cal c_span_stop hr (pa_cons (pv 0) (pa_cons (pv 1) (pa_cons (pv 4) pa_nil)))))
            (pss_one (ps_expr (pe_bm PySem.F.plainAttrs_list PySem.F.slot_list_extend PySem.F.type_list_extend mt_extend (pv 3) (pa_cons (pe_callTy call_list_of (by rfl) T.list (by decide +kernel) (pa_cons (pe_slice sl_tupA (pv 1) (po_some (pv 4)) (po_some (pv 6))) pa_nil)) pa_nil)))))
            (pss_one (ps_if (pt_cmpR op_eq (pe_ix ix_tup (pv 1) (pv 4) (fun _ _ => rfl)) (pe_ix ix_tup (pv 2) (pv 5) (fun _ _ => rfl)) (nomark _))
              (pss_one (ps_expr (pe_bm PySem.F.plainAttrs_list PySem.F.slot_list_append PySem.F.type_list_append mt_append (pv 3) (pa_cons (pe_ix ix_tup (pv 1) (pv 4) (fun _ _ => rfl)) pa_nil))))
              (pss_one (ps_ret pe_non)))))))
        (pss_cons (ps_set (i := 4) sc.nd rfl (Or.inl rfl) (pv 6))
        (pss_one (ps_set (i := 5) sc.nd rfl (Or.inl rfl) (pv 7))))))))
      (pss_cons (ps_expr (pe_calX c_check_count hr (takes_of rfl rfl rfl rfl) (pa_cons (pe_callB call_len_seq (by rfl) T.len (by decide +kernel) (pa_cons (pv 3) pa_nil)) pa_nil)))
      (pss_one (ps_ret (pe_callTy call_tupZ (by rfl) T.tuple (by decide +kernel) (pa_cons (pv 3) pa_nil)))))))))), ?_⟩
  refine ⟨_, rfl, _, rfl, a, r, rows, l, rfl, hb, hR, fun ck1 H1 s1 => ?_, fun e c => by rw [cka] at c; cases c⟩
  refine ⟨_, rfl, _, rfl, a, o, rows, m, rfl, hb.mono (Stay.of s1), Same.sqt s1 hO, fun ck2 H2 s2 => ?_, fun e c => by rw [ckb] at c; cases c⟩
  have h1 := stm_of ck1
  have h2 := stm_of ck2
  have s12 := s1.trans s2
  have hl := h1.le
  have hm := h2.le
  refine ⟨by decide, fun D hD => ?_⟩
  have k0 := (Hs.start H2).new (o := .lst []) hD
  refine ⟨fun n σ H' => ∃ (i j : Nat) (z1 z2 : Int) (t6 t7 : Option V) (acc : List Str), n = l.length - i ∧ σ = [some (.ref a), some (.ref r), some (.ref o), some (.ref D), some (.int z1), some (.int z2), t6, t7] ∧ z1 = (i : Nat) ∧ z2 = (j : Nat) ∧ Hs H2 [(D, .lst (acc.map V.str))] H' ∧ acc.length ≤ i + j ∧ i ≤ l.length ∧ j ≤ m.length ∧ Wk (wt rows l) (wt rows m) i j ∧ UnI rows l m R i j acc,
    ⟨_, 0, 0, 0, 0, none, none, [], rfl, rfl, rfl, rfl, k0, Nat.le_refl _, Nat.zero_le _, Nat.zero_le _, Wk.start h1.fo h2.fo, hU⟩, ?_⟩
  rintro n σ H3 ⟨i, j, _, _, t6, t7, acc, rfl, rfl, rfl, rfl, hh, hal, hil, hjl, hw, hun⟩
  have sH := s12.trans hh.sub
  have hR1 := Same.sqt sH hR
  have hO1 := Same.sqt sH hO
  have hb1 := hb.mono (Stay.of sH)
  refine ⟨_, rfl, _, rfl, r, _, rfl, .inr hR1, _, _, rfl, rfl, _, rfl, if_dec (fun c => ?_) (fun c => ?_)⟩
  · rw [List.length_map] at c
    have hi : i < l.length := by omega
    have hiw : i < (wt rows l).length := by omega
    obtain ⟨_, _, _, hjw⟩ := hw.has hiw
    have hj : j < m.length := by omega
    obtain ⟨y, hy⟩ : ∃ y, l[i]? = some y := ⟨_, List.getElem?_eq_getElem hi⟩
    obtain ⟨x, hx⟩ : ∃ x, m[j]? = some x := ⟨_, List.getElem?_eq_getElem hj⟩
    have ey := wt_at (rows := rows) hy
    have ex := wt_at (rows := rows) hx
    have ay : atI (l.map V.str) ((i : Nat) : Int) = some (.str y) := atI_nat (by rw [List.getElem?_map, hy]; rfl)
    have ax : atI (m.map V.str) ((j : Nat) : Int) = some (.str x) := atI_nat (by rw [List.getElem?_map, hx]; rfl)
    obtain ⟨wsk, e1, e2⟩ := hw.skip hiw
    have gl := en_gt hiw
    have gm := en_gt hjw
    refine ⟨fun σ' H' => ∃ m', m' < l.length - i ∧ ∃ (i j : Nat) (z1 z2 : Int) (t6 t7 : Option V) (acc : List Str), m' = l.length - i ∧ σ' = [some (.ref a), some (.ref r), some (.ref o), some (.ref D), some (.int z1), some (.int z2), t6, t7] ∧ z1 = (i : Nat) ∧ z2 = (j : Nat) ∧ Hs H2 [(D, .lst (acc.map V.str))] H' ∧ acc.length ≤ i + j ∧ i ≤ l.length ∧ j ≤ m.length ∧ Wk (wt rows l) (wt rows m) i j ∧ UnI rows l m R i j acc, fun _ _ z => z, ?_⟩
    refine ⟨_, rfl, _, _, rfl, rfl, _, rfl, _, _, rfl, rfl, ?_⟩
    refine ⟨_, rfl, _, rfl, r, _, _, _, rfl, rfl, hR1, ay, rfl, _, rfl, if_dec (fun c1 => ?_) (fun c1 => ?_)⟩
    · have c1 : y = "*" := V.str.inj c1
      have e0 : aw (wt rows l) i = 0 := by rw [ey, c1]; exact ar_no hst
      refine ⟨_, rfl, _, rfl, _, rfl, a, o, j, rows, m, rfl, hb1, hO1, h2.fo, hj, ?_⟩
      refine ⟨_, rfl, .inl ⟨rfl, _, SqL.of hh.r0⟩, _, rfl, _, rfl, _, rfl, _, rfl, _, rfl, sl_any (cut_mid (by omega) (by rw [List.length_map]; omega)) hO1 fun p1 H4 s4 t1 => ?_⟩
      obtain ⟨g1, g2⟩ := hh.after s4
      have g3 := g2.low g1
      refine ⟨p1, _, rfl, .inr t1, fun q hq5 => ?_⟩
      have g4 := g3.lay (o := .lst (((m.map V.str).drop j).take (en (wt rows m) j - j))) hq5
      have el : (((m.map V.str).drop j).take (en (wt rows m) j - j)).length = en (wt rows m) j - j := by
        rw [List.length_take, List.length_drop, List.length_map]
        omega
      refine ⟨D, q, _, _, rfl, rfl, g4.r0, upd_same, by rw [el, List.length_map, sizeLine_eq]; omega, _, rfl, _, rfl, _, (by show l.length - (i + 1) < l.length - i; omega), i + 1, en (wt rows m) j, _, _, _, _, acc ++ (m.drop j).take (en (wt rows m) j - j), rfl, rfl, rfl, rfl, ?_, ?_, hi, by omega, hw.leap hiw e0, (hun.hole1 hst (by rw [hy, c1])).2⟩
      · have g5 := g4.w0 (o' := .lst (acc.map V.str ++ ((m.map V.str).drop j).take (en (wt rows m) j - j)))
        rw [List.map_append, List.map_take, List.map_drop]
        exact g5
      · rw [List.length_append, List.length_take, List.length_drop]
        omega
    · refine ⟨_, rfl, _, rfl, o, _, _, _, rfl, rfl, hO1, ax, rfl, _, rfl, if_dec (fun c2 => ?_) (fun c2 => ?_)⟩
      · have c2 : x = "*" := V.str.inj c2
        have e0 : aw (wt rows m) j = 0 := by rw [ex, c2]; exact ar_no hst
        refine ⟨_, rfl, _, rfl, _, rfl, a, r, i, rows, l, rfl, hb1, hR1, h1.fo, hi, ?_⟩
        refine ⟨_, rfl, .inl ⟨rfl, _, SqL.of hh.r0⟩, _, rfl, _, rfl, _, rfl, _, rfl, _, rfl, sl_any (cut_mid (by omega) (by rw [List.length_map]; omega)) hR1 fun p1 H4 s4 t1 => ?_⟩
        obtain ⟨g1, g2⟩ := hh.after s4
        have g3 := g2.low g1
        refine ⟨p1, _, rfl, .inr t1, fun q hq5 => ?_⟩
        have g4 := g3.lay (o := .lst (((l.map V.str).drop i).take (en (wt rows l) i - i))) hq5
        have el : (((l.map V.str).drop i).take (en (wt rows l) i - i)).length = en (wt rows l) i - i := by
          rw [List.length_take, List.length_drop, List.length_map]
          omega
        refine ⟨D, q, _, _, rfl, rfl, g4.r0, upd_same, by rw [el, List.length_map, sizeLine_eq]; omega, _, rfl, _, rfl, _, (by show l.length - en (wt rows l) i < l.length - i; omega), en (wt rows l) i, j + 1, _, _, _, _, acc ++ (l.drop i).take (en (wt rows l) i - i), rfl, rfl, rfl, rfl, ?_, ?_, by omega, hj, hw.leap2 hiw e0, (hun.hole2 hst hy (fun z => c1 (by rw [z])) (by rw [hx, c2])).2⟩
        · have g5 := g4.w0 (o' := .lst (acc.map V.str ++ ((l.map V.str).drop i).take (en (wt rows l) i - i)))
          rw [List.map_append, List.map_take, List.map_drop]
          exact g5
        · rw [List.length_append, List.length_take, List.length_drop]
          omega
      · refine ⟨_, rfl, _, rfl, r, _, _, _, rfl, rfl, hR1, ay, _, rfl, _, rfl, o, _, _, _, rfl, rfl, hO1, ax, rfl, _, rfl, if_dec (fun c3 => ?_) (fun c3 => hq0 (hun.clash hy (fun z => c1 (by rw [z])) hx (fun z => c2 (by rw [z])) (fun z => c3 (by rw [z]))) _ sH)⟩
        have exy : y = x := V.str.inj c3
        have k1 := hh.w0 (o' := .lst ((acc ++ [y]).map V.str))
        refine ⟨_, rfl, .inl ⟨rfl, _, SqL.of hh.r0⟩, _, rfl, _, rfl, r, _, _, _, rfl, rfl, hR1, ay, D, _, _, rfl, rfl, hh.r0, by rw [List.length_map, sizeLine_eq]; omega, ?_⟩
        refine ⟨_, rfl, _, rfl, _, (by show l.length - (i + 1) < l.length - i; omega), i + 1, j + 1, _, _, _, _, acc ++ [y], rfl, rfl, rfl, rfl, ?_, by simp; omega, hi, hj, hw.go hiw (by rw [ey, ex, exy]), hun.same hy (fun z => c1 (by rw [z])) (by rw [hx, exy])⟩
        rw [List.map_append] at k1 ⊢
        exact k1
  · obtain rfl : i = l.length := by rw [List.length_map] at c; omega
    have hR := hun.done (Nat.le_refl _)
    refine ⟨_, rfl, D, _, rfl, .inl (SqL.of hh.r0), _, rfl, fun c2 => ?_, fun c2 => ((hq2 acc hR ?_).mono sH).ra im_tm⟩
    · rw [List.length_map] at c2
      exact ⟨_, rfl, D, _, rfl, SqL.of hh.r0, fun p H' n => hq1 acc hR (by omega) _ _ (sH.trans n.same) n.sqt n.nod⟩
    · rw [List.length_map] at c2
      omega
end
end Sy
/-! peaks, plain; numbered -/
namespace Sy
open PySem PySem.Spec PyProof.Rows L2
open Classical in
/-- the tree whose row l is -/
noncomputable def trOf (rows : List Sy.Row) (l : List Str) : Tr := if h : ∃ t, okT rows t ∧ pre t = l then Classical.choose h else .nd "" []
theorem trOf_ok {rows : List Sy.Row} {l : List Str} (h : ∃ t, okT rows t ∧ pre t = l) : okT rows (trOf rows l) ∧ pre (trOf rows l) = l := by
  unfold trOf
  rw [dif_pos h]
  exact Classical.choose_spec h
/-- the union of two rows -/
noncomputable def unF (rows : List Sy.Row) (l m : List Str) : Option (List Str) := (uni (trOf rows l) (trOf rows m)).map pre
/-- holes as tags from n on -/
def numK : Nat → List Str → List Key
  | _, [] => []
  | n, x :: l => if x = "*" then .inl (n : Int) :: numK (n + 1) l else .inr x :: numK n l
/-- the branch at p of the row l -/
def brF (rows : List Sy.Row) (l : List Str) (p : Nat) : List Str := (l.drop p).take (en (wt rows l) p - p)
def pkD (rows : List Sy.Row) (l : List Str) (i p j : Nat) (u : List Str) : PyData := .tuple [.tuple ((numK 0 (l.take p ++ u ++ l.drop (en (wt rows l) p))).map kD), .int (i : Nat), DN ((pths (wt rows l)).getD p []), .int (j : Nat)]
noncomputable def pkG (rows : List Sy.Row) (ls : List (List Str)) (l : List Str) (i p j : Nat) : List PyData := if 0 < p ∨ i < j then (match unF rows (brF rows l p) (ls.getD j []) with
  | some u => [pkD rows l i p j u]
  | none => []) else []
noncomputable def pkJ (rows : List Sy.Row) (ls : List (List Str)) (l : List Str) (i p : Nat) : List PyData := (List.range ls.length).flatMap (pkG rows ls l i p)
noncomputable def pkQ (rows : List Sy.Row) (ls : List (List Str)) (l : List Str) (i p : Nat) : List PyData := if l.getD p "*" = "*" then [] else pkJ rows ls l i p
noncomputable def pkP (rows : List Sy.Row) (ls : List (List Str)) (i : Nat) : List PyData := (List.range (ls.getD i []).length).flatMap (pkQ rows ls (ls.getD i []) i)
noncomputable def pkL (rows : List Sy.Row) (ls : List (List Str)) : List PyData := (List.range ls.length).flatMap (pkP rows ls)
theorem flat_succ {α : Type} (f : Nat → List α) (n : Nat) : (List.range (n + 1)).flatMap f = (List.range n).flatMap f ++ f n := by
  rw [List.range_succ, List.flatMap_append]
  simp
theorem flat_nil {α : Type} {f : Nat → List α} : ∀ {n : Nat}, (∀ j, j < n → f j = []) → (List.range n).flatMap f = []
  | 0, _ => rfl
  | n + 1, h => by rw [flat_succ, flat_nil fun j hj => h j (by omega), h n (by omega)]; rfl
/-- a stump of a bed -/
structure StB (rows : List Sy.Row) (l : List Str) : Prop where
  fo : Fo 1 (wt rows l)
  kd : ∀ x ∈ l, isK rows x = true ∨ x = "*"
  le : l.length ≤ 100
theorem StB.tree {rows : List Sy.Row} {l : List Str} (h : StB rows l) : ∃ t, okT rows t ∧ pre t = l := by
  obtain ⟨ts, h1, h2, h3⟩ := trees_of h.fo h.kd
  match ts, h1 with
  | [t], _ => exact ⟨t, h2.1, by rw [← h3]; exact (List.append_nil _).symm⟩
theorem StB.br {rows : List Sy.Row} {l : List Str} (h : StB rows l) {p : Nat} (hp : p < l.length) : StB rows (brF rows l p) ∧ p < en (wt rows l) p ∧ en (wt rows l) p ≤ l.length := by
  have hw := wt_len rows l
  have fb := h.fo.branch (i := p) (by omega)
  have e1 := en_gt (w := wt rows l) (i := p) (by omega)
  have e2 := h.fo.en_le (i := p) (by omega)
  have le := h.le
  refine ⟨⟨?_, fun x hx => h.kd x (List.mem_of_mem_drop (List.mem_of_mem_take hx)), ?_⟩, e1, by omega⟩
  · have e : wt rows (brF rows l p) = ((wt rows l).drop p).take (en (wt rows l) p - p) := by
      unfold brF wt
      rw [List.map_take, List.map_drop]
    rw [e]
    exact fb
  · unfold brF
    rw [List.length_take, List.length_drop]
    omega
/-- a stump that the law makes -/
theorem stB_of {rows : List Sy.Row} (ok : KdsOk rows) {l : List Str} {m : Nat} (hm : m ≤ 100) (h : StpOk rows l m) : StB rows l := by
  have fo := fa_neg (rows := rows) (lv := ["*"]) (l := l) (m := 1) (i := 0) (by rw [h.ck]; decide)
  have le := h.le
  exact ⟨fo.1, fun x hx => (h.wd x hx).imp (·.1) id, by omega⟩
theorem StB.sok {rows : List Sy.Row} {l : List Str} (ok : KdsOk rows) (h : StB rows l) : ∀ x ∈ l, PyData.strOk x = true := fun x hx => by
  rcases h.kd x hx with c | rfl
  · have : ∃ n, rows.lookup x = some n := by
      unfold isK at c
      cases e : rows.lookup x with
      | none => rw [e] at c; cases c
      | some n => exact ⟨n, rfl⟩
    obtain ⟨n, e⟩ := this
    have hm : (x, n) ∈ rows := by
      clear c ok h
      induction rows with
      | nil => cases e
      | cons r rs ih =>
        rw [lookup_cons] at e
        split at e
        · rename_i c
          rw [← Option.some.inj e, ← c]
          exact List.mem_cons_self
        · exact List.mem_cons_of_mem _ (ih e)
    exact ok.sok _ hm
  · decide +kernel
section
variable {P : Program} {w : World} {K : PySem.W.Frag} {mg : Str → Option Value} {base : Heap}
/-! numbered -/
def spNum (K : PySem.W.Frag) : Sp := fun vs H Q _ => ∃ (p : Addr) (l : List Str), vs = [.ref p] ∧ SqT K H p (l.map V.str) ∧ l.length ≤ 10000 ∧ ∀ (p' : Addr) (H' : Hp), Same H H' → SqT K H' p' ((numK 0 l).map kV) → Q (.ref p') H'
abbrev N_num : List Str := ["row", "entries", "number", "entry"]
theorem sc_num : FnScope N_num ["row"] (defScope (top 38)) := ⟨rfl, rfl, rfl, by decide +kernel, rfl, by decide +kernel, by decide +kernel⟩
theorem k_num (T : Txt K mg) (S : TxtM mg) (F : DF K mg "numbered" 38) : Cal P w K mg base 1 "numbered" ["row"] (spNum K) := by
  refine cal_of F.1 F.2 sc_num (fun _ _ _ _ _ _ us e => match us, e with | [_], _ => rfl) (fun vs H Q E s => by obtain ⟨_, _, rfl, _⟩ := s; rfl) ?_
  intro cdv A outer s H vs Q E hr h
  obtain ⟨p, l, rfl, hp, hl, hq⟩ := h
  have sc := sc_num
  refine ⟨_, (pss_cons (ps_set (i := 1) sc.nd rfl (Or.inl rfl) (pe_lst pa_nil))
      (pss_cons (ps_set (i := 2) sc.nd rfl (Or.inl rfl) pe_int)
      (pss_cons (ps_for (passes_of rfl) rfl (pi_tup (pv 0)) (pg_name (i := 3) sc.nd rfl (Or.inl rfl))
        (pss_one (ps_if (pt_cmpR op_eq (pv 3) (pe_gstr rfl S.hole) (nomark _))
          (pss_cons (ps_expr (pe_bm PySem.F.plainAttrs_list PySem.F.slot_list_append PySem.F.type_list_append mt_append (pv 1) (pa_cons (pv 2) pa_nil)))
          (pss_one (ps_set (i := 2) sc.nd rfl (Or.inl rfl) (pe_op op_add (pv 2) pe_int))))
          (pss_one (ps_expr (pe_bm PySem.F.plainAttrs_list PySem.F.slot_list_append PySem.F.type_list_append mt_append (pv 1) (pa_cons (pv 3) pa_nil)))))))
      (pss_one (ps_ret (pe_callTy call_tuple_of (by rfl) T.tuple (by decide +kernel) (pa_cons (pv 1) pa_nil))))))), ?_⟩
  refine ⟨by decide, fun D hD => ?_⟩
  have k0 := (Hs.start H).new (o := .lst []) hD
  refine ⟨_, rfl, p, rfl, ⟨_, Same.sqt k0.sub hp⟩, for_tup (K := K) (a := p) (xs := l.map V.str) (fun i σ H' => ∃ (t3 : Option V) (n : Nat) (acc : List Key), σ = [some (.ref p), some (.ref D), some (.int (n : Nat)), t3] ∧ Hs H [(D, .lst (acc.map kV))] H' ∧ acc.length = i ∧ numK 0 l = acc ++ numK n (l.drop i)) ⟨none, 0, [], rfl, k0, rfl, by rw [List.drop_zero]; rfl⟩ (fun _ _ _ _ ⟨_, _, _, _, hh, _⟩ => Same.sqt hh.sub hp) ?_ ?_⟩
  · rintro i v σ H1 hv ⟨t3, n, acc, rfl, hh, hal, e⟩
    obtain ⟨x, ex, rfl⟩ := map_at hv
    have hi := (List.getElem?_eq_some_iff.mp ex).1
    rw [drop_of ex, numK] at e
    refine ⟨_, rfl, rfl, _, rfl, if_dec (fun c => ?_) (fun c => ?_)⟩
    · have c : x = "*" := V.str.inj c
      rw [if_pos c] at e
      refine ⟨_, rfl, .inl ⟨rfl, _, SqL.of hh.r0⟩, _, rfl, D, _, _, rfl, rfl, hh.r0, by rw [List.length_map, sizeLine_eq]; omega, _, rfl, _, _, rfl, rfl, _, n + 1, acc ++ [.inl (n : Int)], rfl, by rw [List.map_append]; exact hh.w0, by rw [List.length_append, hal]; rfl, by rw [e, List.append_assoc]; rfl⟩
    · have c : x ≠ "*" := fun z => c (by rw [z])
      rw [if_neg c] at e
      refine ⟨_, rfl, .inl ⟨rfl, _, SqL.of hh.r0⟩, _, rfl, D, _, _, rfl, rfl, hh.r0, by rw [List.length_map, sizeLine_eq]; omega, _, n, acc ++ [.inr x], rfl, by rw [List.map_append]; exact hh.w0, by rw [List.length_append, hal]; rfl, by rw [e, List.append_assoc]; rfl⟩
  · rintro σ H1 ⟨t3, n, acc, rfl, hh, hal, e⟩
    rw [List.length_map, List.drop_eq_nil_of_le (Nat.le_refl _)] at e
    have e : numK 0 l = acc := by rw [e]; exact List.append_nil _
    refine ⟨_, rfl, D, _, rfl, .inl ⟨SqL.of hh.r0, fun q hq' => hq q _ (hh.sub.trans (up_same hq')) ?_⟩⟩
    rw [e]
    exact SqT.of upd_same
end
end Sy
/-! peaks_of -/
namespace Sy
open PySem PySem.Spec PyProof.Rows L2
mutual
theorem uni_le : ∀ {t u v : Tr}, uni t u = some v → (pre v).length ≤ (pre t).length + (pre u).length
  | .nd x bs, .nd y cs, v, h => by
    rw [uni] at h
    split at h
    · rw [← Option.some.inj h]
      exact Nat.le_add_left _ _
    · split at h
      · rw [← Option.some.inj h]
        exact Nat.le_add_right _ _
      · split at h
        · cases e : uniZ bs cs with
          | none => rw [e] at h; cases h
          | some w =>
            rw [e] at h
            rw [← Option.some.inj h]
            have := uniZ_le e
            simp only [pre, List.length_cons]
            omega
        · cases h
theorem uniZ_le : ∀ {ts us vs : List Tr}, uniZ ts us = some vs → (pres vs).length ≤ (pres ts).length + (pres us).length
  | [], us, v, h => by
    rw [uniZ] at h
    rw [← Option.some.inj h]
    exact Nat.zero_le _
  | t :: ts, [], v, h => by
    rw [uniZ] at h
    rw [← Option.some.inj h]
    exact Nat.zero_le _
  | t :: ts, u :: us, v, h => by
    rw [uniZ] at h
    cases e : uni t u with
    | none => rw [e] at h; cases h
    | some a =>
      cases e2 : uniZ ts us with
      | none => rw [e, e2] at h; cases h
      | some b =>
        rw [e, e2] at h
        rw [← Option.some.inj h]
        have h1 := uni_le e
        have h2 := uniZ_le e2
        simp only [pres, List.length_append]
        omega
end
theorem flat_le {α : Type} {f : Nat → List α} {k : Nat} : ∀ {n : Nat}, (∀ j, j < n → (f j).length ≤ k) → ((List.range n).flatMap f).length ≤ n * k
  | 0, _ => Nat.zero_le _
  | n + 1, h => by
    rw [flat_succ, List.length_append, Nat.succ_mul]
    exact Nat.add_le_add (flat_le fun j hj => h j (by omega)) (h n (by omega))
theorem pkG_le (rows : List Sy.Row) (ls : List (List Str)) (l : List Str) (i p j : Nat) : (pkG rows ls l i p j).length ≤ 1 := by
  unfold pkG
  split
  · split <;> simp
  · simp
theorem pkQ_le (rows : List Sy.Row) (ls : List (List Str)) (l : List Str) (i p : Nat) : (pkQ rows ls l i p).length ≤ ls.length := by
  unfold pkQ
  split
  · simp
  · have := flat_le (f := pkG rows ls l i p) (n := ls.length) fun j _ => pkG_le rows ls l i p j
    unfold pkJ
    omega
theorem pkP_le {rows : List Sy.Row} {ls : List (List Str)} (i : Nat) (h : ∀ l ∈ ls, l.length ≤ 100) : (pkP rows ls i).length ≤ 100 * ls.length := by
  have h1 := flat_le (f := pkQ rows ls (ls.getD i []) i) (n := (ls.getD i []).length) fun p _ => pkQ_le rows ls _ i p
  have h2 : (ls.getD i []).length ≤ 100 := by
    rw [List.getD_eq_getElem?_getD]
    cases e : ls[i]? with
    | none => simp
    | some l => exact h l (List.mem_of_getElem? e)
  unfold pkP
  exact Nat.le_trans h1 (Nat.mul_le_mul_right _ h2)
theorem tIf_two {σ : L2.St} {H : Hp} {Q : VK} {p : Prop} [Decidable p] {ta tb : TE} (lo : Nat) (hA : p → ∀ Q : VK, Q (.int (lo : Nat)) H → ta σ H Q) (hB : ¬p → ∀ Q : VK, Q (.int (lo : Nat)) H → tb σ H Q) (g : Q (.int (lo : Nat)) H) : if decide p = true then ta σ H Q else tb σ H Q :=
  if_dec (fun c => hA c Q g) fun c => hB c Q g
theorem getD_at {α : Type} {l : List α} {i : Nat} {x d : α} (h : l[i]? = some x) : l.getD i d = x := by
  rw [List.getD_eq_getElem?_getD, h]
  rfl
/-- the union of two stumps, as united tells it -/
theorem unF_tr {rows : List Sy.Row} {l m : List Str} (hl : StB rows l) (hm : StB rows m) : ∃ t u, okT rows t ∧ okT rows u ∧ pre t = l ∧ pre u = m ∧ unF rows l m = (uni t u).map pre :=
  ⟨trOf rows l, trOf rows m, (trOf_ok hl.tree).1, (trOf_ok hm.tree).1, (trOf_ok hl.tree).2, (trOf_ok hm.tree).2, rfl⟩
theorem stB_len {rows : List Sy.Row} {l : List Str} (h : StB rows l) : 0 < l.length := by
  have := Fo.pos h.fo
  rwa [wt_len] at this
section
variable {P : Program} {w : World} {K : PySem.W.Frag} {mg : Str → Option Value} {base : Heap}
def spPkO (K : PySem.W.Frag) : Sp := fun vs H Q _ => ∃ (x : Addr) (i : Nat) (rows : List Sy.Row) (ts : List Trm) (nm : Str), vs = [.ref x, .int (i : Nat)] ∧ TrmsAt K H x rows ts nm ∧ i < ts.length ∧ ts.length ≤ 8 ∧ isK rows "*" = false ∧ (∀ t ∈ ts, StB rows t.1) ∧
  ∀ (H' : Hp) (D : Addr) (vs : List V), Same H H' → H D = none → H' D = some (.lst vs) → ImA K H' vs (pkP rows (ts.map (·.1)) i) → Q (.ref D) H'
abbrev N_pkO : List Str := ["trims", "index", "bed", "stump", "behind", "stump_paths", "found", "place", "branch", "lowest", "other", "union", "plant"]
theorem sc_pkO : FnScope N_pkO ["trims", "index"] (defScope (top 46)) := ⟨rfl, rfl, rfl, by decide +kernel, rfl, by decide +kernel, by decide +kernel⟩
theorem k_pkO (T : Txt K mg) (S : TxtM mg) (TT : TxtT K) (TS : TxtS K) (F : DF K mg "peaks_of" 46) (c_spans : Cal P w K mg base 2 "spans" ["bed", "row"] (spSpans K)) (c_row_paths : Cal P w K mg base 4 "row_paths" ["bed", "row"] (spPathsR K)) (c_united : Cal P w K mg base 5 "united" ["bed", "first", "second"] (spUnited K)) (c_numbered : Cal P w K mg base 1 "numbered" ["row"] (spNum K)) (c_swapped : Cal P w K mg base 3 "swapped" N_swap (spSwap K)) : Cal P w K mg base 6 "peaks_of" ["trims", "index"] (spPkO K) := by
  refine cal_of F.1 F.2 sc_pkO (fun _ _ _ _ _ _ us e => match us, e with | [_, _], _ => rfl) (fun vs H Q E s => by obtain ⟨_, _, _, _, _, rfl, _⟩ := s; rfl) ?_
  intro cdv A outer s H vs Q E hr h
  obtain ⟨x, i, rows, ts, nm, rfl, hx, hi, hlen, hst, hS, hq⟩ := h
  have hu := hu_of hr
  have sc := sc_pkO
  refine ⟨_, (pss_cons (ps_set (i := 2) sc.nd rfl (Or.inl rfl) (pe_fld (pv 0) rfl))
      (pss_cons (ps_set (i := 3) sc.nd rfl (Or.inl rfl) (pe_fld (pe_ix ix_tup (pe_fld (pv 0) rfl) (pv 1) (fun _ _ => rfl)) rfl))
      (pss_cons (ps_set (i := 4) sc.nd rfl (Or.inl rfl) (pe_cal c_spans hr (pa_cons (pv 2) (pa_cons (pv 3) pa_nil))))
      (pss_cons (ps_set (i := 5) sc.nd rfl (Or.inl rfl) (pe_cal c_row_paths hr (pa_cons (pv 2) (pa_cons (pv 3) pa_nil))))
      (pss_cons (ps_set (i := 6) sc.nd rfl (Or.inl rfl) (pe_lst pa_nil))
      (pss_cons (ps_for (passes_of rfl) rfl (pi_range1 rfl T.range (pa_cons (pe_callB call_len_seq (by rfl) T.len (by decide +kernel) (pa_cons (pv 3) pa_nil)) pa_nil)) (pg_name (i := 7) sc.nd rfl (Or.inl rfl))
        (pss_one (ps_if (pt_cmpR op_ne (pe_ix ix_tup (pv 3) (pv 7) (fun _ _ => rfl)) (pe_gstr rfl S.hole) (nomark _))
          (pss_cons (ps_set (i := 8) sc.nd rfl (Or.inl rfl) (pe_slice sl_tupA (pv 3) (po_some (pv 7)) (po_some (pe_ix ix_tup (pv 4) (pv 7) (fun _ _ => rfl)))))
          (pss_cons (ps_set (i := 9) sc.nd rfl (Or.inl rfl) (pe_ifExp (pt_cmpR op_eq (pv 7) pe_int (nomark _)) (pe_op op_add (pv 1) pe_int) pe_int))
          (pss_one (ps_for (passes_of rfl) rfl (pi_range2 (by rfl) T.range (pa_cons (pv 9) (pa_cons (pe_callB call_len_seq (by rfl) T.len (by decide +kernel) (pa_cons (pe_fld (pv 0) rfl) pa_nil)) pa_nil))) (pg_name (i := 10) sc.nd rfl (Or.inl rfl))
            (pss_cons (ps_set (i := 11) sc.nd rfl (Or.inl rfl) (pe_cal c_united hr (pa_cons (pv 2) (pa_cons (pv 8) (pa_cons (pe_fld (pe_ix ix_tup (pe_fld (pv 0) rfl) (pv 10) (fun _ _ => rfl)) rfl) pa_nil)))))
            (pss_one (ps_if (pt_cmpR op_notN (pv 11) pe_non (nomark _))
              (pss_cons (ps_set (i := 12) sc.nd rfl (Or.inl rfl) (pe_cal c_numbered hr (pa_cons (pe_cal c_swapped hr (pa_cons (pv 2) (pa_cons (pv 3) (pa_cons (pv 7) (pa_cons (pv 11) pa_nil))))) pa_nil)))
              (pss_one (ps_expr (pe_bm PySem.F.plainAttrs_list PySem.F.slot_list_append PySem.F.type_list_append mt_append (pv 6) (pa_cons (pe_tup (pa_cons (pv 12) (pa_cons (pv 1) (pa_cons (pe_ix ix_tup (pv 5) (pv 7) (fun _ _ => rfl)) (pa_cons (pv 10) pa_nil))))) pa_nil)))))
              pss_nil)))))))
          pss_nil)))
      (pss_one (ps_ret (pv 6))))))))), ?_⟩
  obtain ⟨dx, b, p, d, as, kvs, ex, hb, hp, hz, _, _⟩ := hx.ex
  have zl := paired_len hz
  have at_ : ∀ {j : Nat} {t : Trm}, ts[j]? = some t → ∃ y d b s r, atI (as.map V.ref) ((j : Nat) : Int) = some (.ref y) ∧ H y = some (.ins (He.ga K "Trim") d [("bed", .ref b), ("stump", .ref s), ("result", .ref r)]) ∧ SqT K H s (t.1.map V.str) := fun {j t} e => by
    obtain ⟨y, e1, tm⟩ := paired_at hz e
    obtain ⟨d, b, s, r, h1, _, h3, _⟩ := tm.ex
    exact ⟨y, d, b, s, r, atI_nat (by rw [List.getElem?_map, e1]; rfl), h1, h3⟩
  obtain ⟨t0, et0⟩ : ∃ t, ts[i]? = some t := ⟨_, List.getElem?_eq_getElem hi⟩
  obtain ⟨y0, dy, by0, s0, r0, ay0, ey0, hs0⟩ := at_ et0
  obtain ⟨l, hl⟩ : ∃ l, l = t0.1 := ⟨_, rfl⟩
  obtain ⟨ls, hls⟩ : ∃ ls, ls = ts.map (·.1) := ⟨_, rfl⟩
  rw [← hl] at hs0
  rw [← hls] at hq
  have eli : ls[i]? = some l := by rw [hls, List.getElem?_map, et0, hl]; rfl
  have hSl : StB rows l := by rw [hl]; exact hS _ (List.mem_of_getElem? et0)
  have hw := wt_len rows l
  have hle := hSl.le
  have lsl : ls.length = ts.length := by rw [hls, List.length_map]
  have hS2 : ∀ m ∈ ls, StB rows m := fun m hm => by
    rw [hls] at hm
    obtain ⟨t, ht, rfl⟩ := List.mem_map.mp hm
    exact hS t ht
  refine ⟨_, rfl, x, _, _, _, _, rfl, ex, TS.cl, TS.nB, rfl, ?_⟩
  refine ⟨_, rfl, x, _, _, _, _, rfl, ex, TS.cl, TS.nT, rfl, _, rfl, p, _, _, _, rfl, rfl, hp, ay0, y0, _, _, _, _, rfl, ey0, TT.cl, TT.nS, rfl, ?_⟩
  refine ⟨_, rfl, _, rfl, b, s0, rows, l, rfl, hb, hs0, hSl.fo, by omega, fun H1 q4 s1 t4 => ?_⟩
  refine ⟨_, rfl, _, rfl, b, s0, rows, l, rfl, hb.mono (Stay.of s1), Same.sqt s1 hs0, hSl.fo, by omega, fun H2 v5 s2 i5 => ?_⟩
  obtain ⟨q5, ps5, rfl, t5, im5⟩ := i5.tupI
  have s02 := s1.trans s2
  have ex2 := s02 _ _ ex
  have hb2 := hb.mono (Stay.of s02)
  have hp2 := Same.sqt s02 hp
  have hs2 := Same.sqt s02 hs0
  have t42 := Same.sqt s2 t4
  refine ⟨by decide, fun D hD => ?_⟩
  have k0 := (Hs.start H2).new (o := .lst []) hD
  refine ⟨_, rfl, s0, _, rfl, .inr (Same.sqt k0.sub hs2), _, rfl, by rw [List.length_map]; omega, by rw [List.length_map]; omega, for_rng (n := (l.map V.str).length) (fun k σ H' => ∃ (t7 t8 t9 t10 t11 t12 : Option V) (B : Hp) (vs : List V), σ = [some (.ref x), some (.int (i : Nat)), some (.ref b), some (.ref s0), some (.ref q4), some (.ref q5), some (.ref D), t7, t8, t9, t10, t11, t12] ∧ Same H2 B ∧ Hs B [(D, .lst vs)] H' ∧ ImA K B vs ((List.range k).flatMap (pkQ rows ls l i)))
    ⟨none, none, none, none, none, none, H2, [], rfl, Same.refl _, k0, .nil⟩ ?_ ?_⟩
  · rintro k σ H3 hk ⟨t7, t8, t9, t10, t11, t12, B, vs, rfl, sB, hh, im⟩
    rw [List.length_map] at hk
    have hkw : k < (wt rows l).length := by omega
    obtain ⟨y, ey⟩ : ∃ y, l[k]? = some y := ⟨_, List.getElem?_eq_getElem hk⟩
    have ay : atI (l.map V.str) ((k : Nat) : Int) = some (.str y) := atI_nat (by rw [List.getElem?_map, ey]; rfl)
    have s23 := sB.trans hh.sub
    refine ⟨_, rfl, _, rfl, s0, _, _, _, rfl, rfl, Same.sqt s23 hs2, ay, rfl, _, rfl, if_ndec (fun c => ?_) (fun c => ?_)⟩
    · have c : y ≠ "*" := fun z => c (by rw [z])
      obtain ⟨hbr, e1, e2⟩ := hSl.br hk
      have a4 : atI (vN (ens (wt rows l))) ((k : Nat) : Int) = some (.int (en (wt rows l) k : Nat)) := atI_nat (vN_at (ens_at hkw))
      refine ⟨_, rfl, _, rfl, _, rfl, _, rfl, _, rfl, q4, _, _, _, rfl, rfl, Same.sqt s23 t42, a4, _, rfl, ?_⟩
      refine sl_any (cut_mid (by omega) (by rw [List.length_map]; omega)) (Same.sqt s23 hs2) fun p8 H4 s4 t8' => ?_
      rw [← List.map_drop, ← List.map_take] at t8'
      obtain ⟨g1, g2⟩ := hh.after s4
      have h4 := g2.low g1
      have s24 := s23.trans s4
      have t8 : SqT K H4 p8 ((brF rows l k).map V.str) := t8'
      clear t8'
      obtain ⟨lo, elo⟩ : ∃ lo : Nat, lo = if k = 0 then i + 1 else 0 := ⟨_, rfl⟩
      have hlo : lo ≤ ts.length := by rw [elo]; split <;> omega
      refine ⟨_, rfl, rfl, _, rfl, tIf_two lo (fun c Q q => ?_) (fun c Q q => ?_) ?_⟩
      · have c : k = 0 := by
          have := V.int.inj c
          omega
        rw [if_pos c] at elo
        rw [elo] at q
        exact ⟨_, rfl, _, _, rfl, rfl, q⟩
      · rw [if_neg (fun z => c (by rw [z]; rfl))] at elo
        rw [elo] at q
        exact q
      have b4 := (Stay.of s4)
      refine ⟨_, rfl, _, rfl, x, _, _, _, _, rfl, s24 _ _ ex2, TS.cl, TS.nT, rfl, p, _, rfl, .inr (Same.sqt s24 hp2), _, _, rfl, ⟨by omega, by omega, by omega, by rw [List.length_map]; omega⟩, ?_⟩
      refine for_range (lo := ((lo : Nat) : Int)) (n := (((as.map V.ref).length : Int) - ((lo : Nat) : Int)).toNat) (fun t σ H' => ∃ (t10 t11 t12 : Option V) (B2 : Hp) (vs : List V), σ = [some (.ref x), some (.int (i : Nat)), some (.ref b), some (.ref s0), some (.ref q4), some (.ref q5), some (.ref D), some (.int (k : Nat)), some (.ref p8), some (.int (lo : Nat)), t10, t11, t12] ∧ Same H2 B2 ∧ Hs B2 [(D, .lst vs)] H' ∧ SqT K B2 p8 ((brF rows l k).map V.str) ∧ ImA K B2 vs ((List.range k).flatMap (pkQ rows ls l i) ++ (List.range (lo + t)).flatMap (pkG rows ls l i k))) ⟨t10, t11, t12, _, vs, rfl, sB.trans g1, g2, ?_, ?_⟩ ?_ ?_
      · exact (stay_cut hh (AllL.cons AllL.nil) s4).sqt t8
      · rw [flat_nil (n := lo + 0) (fun j hj => ?_), List.append_nil]
        · exact im.mono (Stay.of g1)
        · rw [pkG, if_neg]
          rw [elo] at hj
          split at hj <;> omega
      · rintro t σ H5 ht ⟨u10, u11, u12, B2, ws, rfl, sB2, h2, t8b, im2⟩
        rw [List.length_map, zl] at ht
        have htj : lo + t < ts.length := by omega
        have e0 : ((lo : Nat) : Int) + ((t : Nat) : Int) = ((lo + t : Nat) : Int) := by omega
        rw [e0]
        obtain ⟨j, ej⟩ : ∃ j, j = lo + t := ⟨_, rfl⟩
        have hjk : 0 < k ∨ i < j := by
          rw [ej, elo]
          split <;> omega
        rw [← ej] at htj im2 ⊢
        rw [← Nat.add_assoc, ← ej, flat_succ]
        obtain ⟨tj, etj⟩ : ∃ t, ts[j]? = some t := ⟨_, List.getElem?_eq_getElem htj⟩
        obtain ⟨yj, dj, bj, sj, rj, ayj, eyj, hsj⟩ := at_ etj
        have elj : ls.getD j [] = tj.1 := getD_at (by rw [hls, List.getElem?_map, etj]; rfl)
        have hSj : StB rows tj.1 := hS _ (List.mem_of_getElem? etj)
        obtain ⟨t1, t2, o1, o2, p1, p2, eu⟩ := unF_tr hbr hSj
        have s25 := s02.trans (sB2.trans h2.sub)
        have s25b := sB2.trans h2.sub
        have lb := hbr.le
        have lj := hSj.le
        refine ⟨_, rfl, _, rfl, _, rfl, x, _, _, _, _, rfl, s25 _ _ ex, TS.cl, TS.nT, rfl, _, rfl, p, _, _, _, rfl, rfl, Same.sqt s25 hp, ayj, yj, _, _, _, _, rfl, s25 _ _ eyj, TT.cl, TT.nS, rfl, b, p8, sj, rows, t1, t2, rfl, hb.mono (Stay.of s25), ?_, ?_, hst, o1, o2, ?_, ?_, fun en H6 s6 => ?_, fun v ev hv H6 pv' s6 tv nv => ?_, fun v ev hv => ?_⟩
        · rw [p1]
          exact Same.sqt h2.sub t8b
        · rw [p2]
          exact Same.sqt s25 hsj
        · rw [p1]
          omega
        · rw [p2]
          omega
        · obtain ⟨f1, f2⟩ := h2.after s6
          refine ⟨_, rfl, rfl, _, rfl, if_ndec (fun c => absurd rfl c) (fun _ => ⟨_, _, _, _, ws, rfl, sB2.trans f1, f2, Same.sqt f1 t8b, ?_⟩)⟩
          have : pkG rows ls l i k j = [] := by
            unfold pkG
            rw [if_pos hjk, elj, eu, en]
            rfl
          rw [this, List.append_nil]
          exact im2.mono (Stay.of f1)
        · have s26 := s25.trans s6
          have fwl : (l.take k ++ pre v ++ l.drop (en (wt rows l) k)).length ≤ 10000 := by
            rw [List.length_append, List.length_append, List.length_take, List.length_drop]
            omega
          refine ⟨_, rfl, rfl, _, rfl, if_ndec (fun _ => ?_) (fun c => nomatch c)⟩
          refine ⟨_, rfl, _, rfl, _, rfl, _, rfl, b, s0, k, pv', rows, l, pre v, rfl, hb.mono (Stay.of s26), Same.sqt s26 hs0, tv, hSl.fo, hk, by omega, hv, fun H7 p7 s7 t7 => ⟨p7, _, rfl, t7, fwl, fun p9 H8 s8 t9 => ?_⟩⟩
          have s68 := s6.trans (s7.trans s8)
          obtain ⟨f1, f2⟩ := h2.after s68
          have t9 := (stay_cut h2 (AllL.cons AllL.nil) s68).sqt t9
          generalize cut [(D, HO.lst ws)] H8 = B3 at *
          have s3B := sB2.trans f1
          obtain ⟨v5, ev5, iv5⟩ := im5.get (i := k) (d := DN ((pths (wt rows l)).getD k [])) (by
            have : k < (pths (wt rows l)).length := by rw [pths, pth_len]; exact hkw
            rw [List.getElem?_map, List.getD_eq_getElem?_getD, List.getElem?_eq_getElem this]
            rfl)
          have wsl : ws.length ≤ 1000 := by
            have a1 := flat_le (f := pkQ rows ls l i) (n := k) fun p _ => pkQ_le rows ls l i p
            have a2 := flat_le (f := pkG rows ls l i k) (n := j) fun p _ => pkG_le rows ls l i k p
            have a3 : k * ls.length ≤ 100 * 8 := Nat.mul_le_mul (by omega) (by omega)
            rw [im2.len, List.length_append]
            omega
          refine ⟨_, rfl, .inl ⟨rfl, _, SqL.of f2.r0⟩, _, rfl, _, rfl, _, rfl, _, rfl, q5, _, _, _, rfl, rfl, Same.sqt (s3B.trans f2.sub) t5, atI_nat ev5, _, rfl, (by show 4 ≤ sizeLine; decide), fun pT hT => ?_⟩
          have sT : Same B3 (upd B3 pT (.tup [.ref p9, .int (i : Nat), v5, .int (j : Nat)])) := up_same (f2.sub.free hT)
          have f3 := f2.tup (o := .tup [.ref p9, .int (i : Nat), v5, .int (j : Nat)]) hT
          refine ⟨D, _, _, rfl, rfl, f3.r0, by rw [sizeLine_eq]; omega, _, _, _, _, _, rfl, s3B.trans sT, f3.w0, Same.sqt (f1.trans sT) t8b, ?_⟩
          have : pkG rows ls l i k j = [pkD rows l i k j (pre v)] := by
            unfold pkG
            rw [if_pos hjk, elj, eu, ev]
            rfl
          rw [this, ← List.append_assoc]
          exact (im2.mono (Stay.of (f1.trans sT))).snoc (.tup (SqT.of upd_same) (.cons (.tup (Same.sqt sT t9) (ImA.keys _)) (.cons (.int _) (.cons (iv5.mono (Stay.of (s3B.trans sT))) (.cons (.int _) .nil)))))
        · have := uni_le ev
          rw [p1, p2] at this
          omega
      · rintro σ H5 ⟨u10, u11, u12, B2, ws, rfl, sB2, h2, t8b, im2⟩
        rw [List.length_map, zl] at im2
        refine ⟨_, _, _, _, _, _, B2, ws, rfl, sB2, h2, ?_⟩
        rw [flat_succ]
        rw [show lo + ((ts.length : Int) - ((lo : Nat) : Int)).toNat = ts.length by omega] at im2
        rw [pkQ, if_neg (by rw [getD_at ey]; exact c), pkJ, lsl]
        exact im2
    · have c : y = "*" := V.str.inj c
      refine ⟨_, _, _, _, _, _, B, vs, rfl, sB, hh, ?_⟩
      rw [flat_succ, pkQ, if_pos (by rw [getD_at ey]; exact c), List.append_nil]
      exact im
  · rintro σ H3 ⟨t7, t8, t9, t10, t11, t12, B, vs, rfl, sB, hh, im⟩
    rw [List.length_map] at im
    refine ⟨_, rfl, hq H3 D vs ((s02.trans sB).trans hh.sub) (Same.free s02 hD) hh.r0 ?_⟩
    rw [pkP, getD_at eli]
    exact im.mono (Stay.of hh.sub)
end
end Sy
/-! peaks -/
namespace Sy
open PySem PySem.Spec PyProof.Rows L2
section
variable {P : Program} {w : World} {K : PySem.W.Frag} {mg : Str → Option Value} {base : Heap}
def spPks (K : PySem.W.Frag) : Sp := fun vs H Q _ => ∃ (x : Addr) (rows : List Sy.Row) (ts : List Trm) (nm : Str), vs = [.ref x] ∧ TrmsAt K H x rows ts nm ∧ ts.length ≤ 8 ∧ isK rows "*" = false ∧ (∀ t ∈ ts, StB rows t.1) ∧
  ∀ (H' : Hp) (v : V), Same H H' → Im K H' v (.tuple (pkL rows (ts.map (·.1)))) → Q v H'
abbrev N_pks : List Str := ["trims", "found", "index"]
theorem sc_pks : FnScope N_pks ["trims"] (defScope (top 47)) := ⟨rfl, rfl, rfl, by decide +kernel, rfl, by decide +kernel, by decide +kernel⟩
theorem StayT.trms {H H' : Hp} {x : Addr} {rows : List Sy.Row} {ts : List Trm} {nm : Str} (s : StayT H H') (t : TrmsAt K H x rows ts nm) : TrmsAt K H' x rows ts nm := by
  obtain ⟨dx, b, p, d, as, kvs, h1, h2, h3, h4, h5, h6⟩ := t.ex
  exact ⟨dx, b, p, d, as, kvs, s _ _ h1 (fun _ z => by cases z), s.bed h2, s.sqt h3, Paired.mapP h4 fun _ _ t => s.trm t, s _ _ h5 (fun _ z => by cases z), h6.stayT s⟩
theorem TrmsAt.mono {H H' : Hp} {x : Addr} {rows : List Sy.Row} {ts : List Trm} {nm : Str} (t : TrmsAt K H x rows ts nm) (s : Same H H') : TrmsAt K H' x rows ts nm := (StayT.of s).trms t
theorem k_pks (T : Txt K mg) (S : TxtM mg) (TT : TxtT K) (TS : TxtS K) (F : DF K mg "peaks" 47) (c_peaks_of : Cal P w K mg base 6 "peaks_of" ["trims", "index"] (spPkO K)) : Cal P w K mg base 7 "peaks" ["trims"] (spPks K) := by
  refine cal_of F.1 F.2 sc_pks (fun _ _ _ _ _ _ us e => match us, e with | [_], _ => rfl) (fun vs H Q E s => by obtain ⟨_, _, _, _, rfl, _⟩ := s; rfl) ?_
  intro cdv A outer s H vs Q E hr h
  obtain ⟨x, rows, ts, nm, rfl, hx, hlen, hst, hS, hq⟩ := h
  have hu := hu_of hr
  have sc := sc_pks
  refine ⟨_, (pss_cons (ps_set (i := 1) sc.nd rfl (Or.inl rfl) (pe_lst pa_nil))
      (pss_cons (ps_for (passes_of rfl) rfl (pi_range1 rfl T.range (pa_cons (pe_callB call_len_seq (by rfl) T.len (by decide +kernel) (pa_cons (pe_fld (pv 0) rfl) pa_nil)) pa_nil)) (pg_name (i := 2) sc.nd rfl (Or.inl rfl))
        (pss_one (ps_expr (pe_bm PySem.F.plainAttrs_list PySem.F.slot_list_extend PySem.F.type_list_extend mt_extend (pv 1) (pa_cons (pe_cal c_peaks_of hr (pa_cons (pv 0) (pa_cons (pv 2) pa_nil))) pa_nil)))))
      (pss_one (ps_ret (pe_callTy call_tuple_of (by rfl) T.tuple (by decide +kernel) (pa_cons (pv 1) pa_nil)))))), ?_⟩
  obtain ⟨ls, hls⟩ : ∃ ls, ls = ts.map (·.1) := ⟨_, rfl⟩
  rw [← hls] at hq
  have lsl : ls.length = ts.length := by rw [hls, List.length_map]
  have hS2 : ∀ m ∈ ls, m.length ≤ 100 := fun m hm => by
    rw [hls] at hm
    obtain ⟨t, ht, rfl⟩ := List.mem_map.mp hm
    exact (hS t ht).le
  obtain ⟨dx, b, p, d, as, kvs, ex, hb, hp, hz, _, _⟩ := hx.ex
  have zl := paired_len hz
  refine ⟨by decide, fun D hD => ?_⟩
  have k0 := (Hs.start H).new (o := .lst []) hD
  refine ⟨_, rfl, x, _, _, _, _, rfl, k0.sub _ _ ex, TS.cl, TS.nT, rfl, p, _, rfl, .inr (Same.sqt k0.sub hp), _, rfl, by rw [List.length_map]; omega, by rw [List.length_map]; omega, for_rng (n := (as.map V.ref).length) (fun k σ H' => ∃ (t2 : Option V) (B : Hp) (vs : List V), σ = [some (.ref x), some (.ref D), t2] ∧ Same H B ∧ Hs B [(D, .lst vs)] H' ∧ ImA K B vs ((List.range k).flatMap (pkP rows ls)))
    ⟨none, H, [], rfl, Same.refl _, k0, .nil⟩ ?_ ?_⟩
  · rintro k σ H3 hk ⟨t2, B, vs, rfl, sB, hh, im⟩
    rw [List.length_map, zl] at hk
    have s13 := sB.trans hh.sub
    refine ⟨_, rfl, .inl ⟨rfl, _, SqL.of hh.r0⟩, _, rfl, _, rfl, x, k, rows, ts, nm, rfl, hx.mono s13, hk, hlen, hst, hS, fun H4 D2 ws s4 n4 e4 i4 => ?_⟩
    rw [← hls] at i4
    obtain ⟨f1, f2⟩ := hh.after s4
    have i4 := i4.mono (stay_cut hh (AllL.cons AllL.nil) s4)
    have w1 : ws.length ≤ 800 := by
      have := pkP_le (rows := rows) k hS2
      rw [i4.len]
      omega
    have w2 : vs.length ≤ 8 * 800 := by
      have := flat_le (f := pkP rows ls) (n := k) (k := 800) fun j _ => by
        have := pkP_le (rows := rows) j hS2
        omega
      have : k * 800 ≤ 8 * 800 := Nat.mul_le_mul_right _ (by omega)
      rw [im.len]
      omega
    refine ⟨D, D2, _, _, rfl, rfl, f2.r0, e4, by rw [sizeLine_eq]; omega, _, _, _, rfl, sB.trans f1, f2.w0, ?_⟩
    rw [flat_succ]
    exact (im.mono (Stay.of f1)).app i4
  · rintro σ H3 ⟨t2, B, vs, rfl, sB, hh, im⟩
    rw [List.length_map, zl, ← lsl] at im
    refine ⟨_, rfl, D, _, rfl, .inl ⟨SqL.of hh.r0, fun q hn => ?_⟩⟩
    have sq := hh.sub.trans (up_same (o := .tup vs) hn)
    exact hq _ _ (sB.trans sq) (.tup (SqT.of upd_same) (im.mono (Stay.of sq)))
end
end Sy
/-! _law_tagged, _law_chain -/
namespace Sy
open PySem PySem.Spec PyProof.Rows L2
section
variable {P : Program} {w : World} {K : PySem.W.Frag} {mg : Str → Option Value} {base : Heap}
def spTag (K : PySem.W.Frag) : Sp := fun vs H Q _ => ∃ (p : Addr) (l : List Str), vs = [.ref p] ∧ SqT K H p (l.map V.str) ∧ l.length ≤ 10000 ∧ (∀ x ∈ l, PyData.strOk x = true) ∧ ∀ (p' : Addr) (ks : List Key) (H' : Hp), ks.length = l.length → (∀ x, Sum.inr x ∈ ks → PyData.strOk x = true) → Same H H' → SqT K H' p' (ks.map kV) → Q (.ref p') H'
abbrev N_tag : List Str := ["_law_row", "_law_built", "_law_tag", "_law_entry"]
theorem sc_tag : FnScope N_tag ["_law_row"] (defScope (top 66)) := ⟨rfl, rfl, rfl, by decide +kernel, rfl, by decide +kernel, by decide +kernel⟩
theorem k_tag (T : Txt K mg) (F : DF K mg "_law_tagged" 66) : Cal P w K mg base 1 "_law_tagged" ["_law_row"] (spTag K) := by
  refine cal_of F.1 F.2 sc_tag (fun _ _ _ _ _ _ us e => match us, e with | [_], _ => rfl) (fun vs H Q E s => by obtain ⟨_, _, rfl, _⟩ := s; rfl) ?_
  intro cdv A outer s H vs Q E hr h
  obtain ⟨p, l, rfl, hp, hl, hok, hq⟩ := h
  have sc := sc_tag
  refine ⟨_, (pss_cons (ps_set (i := 1) sc.nd rfl (Or.inl rfl) (pe_tup pa_nil))
      (pss_cons (ps_set (i := 2) sc.nd rfl (Or.inl rfl) pe_int)
      (pss_cons (ps_for (passes_of rfl) rfl (pi_tup (pv 0)) (pg_name (i := 3) sc.nd rfl (Or.inl rfl))
        (pss_one (ps_if (pt_cmpR op_eq (pv 3) pe_str (nomark _))
          (pss_cons (ps_set (i := 1) sc.nd rfl (Or.inl rfl) (pe_op op_catA (pv 1) (pe_tup (pa_cons (pv 2) pa_nil))))
          (pss_one (ps_set (i := 2) sc.nd rfl (Or.inl rfl) (pe_op op_add (pv 2) pe_int))))
          (pss_one (ps_set (i := 1) sc.nd rfl (Or.inl rfl) (pe_op op_catA (pv 1) (pe_tup (pa_cons (pv 3) pa_nil))))))))
      (pss_one (ps_ret (pv 1)))))), ?_⟩
  refine ⟨(by show 0 ≤ sizeLine; decide), fun r0 hr0 => ?_⟩
  have s0 := up_same (o := .tup []) hr0
  have e0 : SqT K (upd H r0 (.tup [])) r0 [] := SqT.of upd_same
  generalize upd H r0 (.tup []) = H0 at *
  refine ⟨_, rfl, p, rfl, ⟨_, Same.sqt s0 hp⟩, for_tup (K := K) (a := p) (xs := l.map V.str) (fun i σ H' => ∃ (t3 : Option V) (r : Addr) (n : Nat) (ks : List Key), σ = [some (.ref p), some (.ref r), some (.int (n : Nat)), t3] ∧ Same H0 H' ∧ SqT K H' r (ks.map kV) ∧ ks.length = i ∧ ∀ x, Sum.inr x ∈ ks → PyData.strOk x = true) ⟨none, r0, 0, [], rfl, Same.refl _, e0, rfl, fun _ z => (nomatch z)⟩ (fun _ _ _ _ ⟨_, _, _, _, _, s', _⟩ => Same.sqt (s0.trans s') hp) ?_ ?_⟩
  · rintro i v σ H1 hv ⟨t3, r, n, ks, rfl, s1, zr, hk, hw⟩
    obtain ⟨x, ex, rfl⟩ := map_at hv
    have hi := (List.getElem?_eq_some_iff.mp ex).1
    refine ⟨_, rfl, rfl, _, rfl, if_dec (fun c => ?_) (fun c => ?_)⟩
    · refine ⟨_, rfl, _, rfl, (by show 1 ≤ sizeLine; decide), fun p4 hp4 => ?_⟩
      have s4 := up_same (o := .tup [.int (n : Nat)]) hp4
      refine cat_any (Same.sqt s4 zr) (SqT.of upd_same) (by rw [List.length_map]; show _ + 1 ≤ _; omega) (fun p5 H5 s5 t5 => ?_)
      refine ⟨_, rfl, _, _, rfl, rfl, _, p5, n + 1, ks ++ [.inl (n : Int)], rfl, (s1.trans s4).trans s5, by rw [List.map_append]; exact t5, by rw [List.length_append, hk]; rfl, fun y hy => ?_⟩
      rcases List.mem_append.mp hy with hy | hy
      · exact hw y hy
      · exact absurd (List.mem_singleton.mp hy) (fun z => by cases z)
    · refine ⟨_, rfl, _, rfl, (by show 1 ≤ sizeLine; decide), fun p4 hp4 => ?_⟩
      have s4 := up_same (o := .tup [.str x]) hp4
      refine cat_any (Same.sqt s4 zr) (SqT.of upd_same) (by rw [List.length_map]; show _ + 1 ≤ _; omega) (fun p5 H5 s5 t5 => ?_)
      refine ⟨_, p5, n, ks ++ [.inr x], rfl, (s1.trans s4).trans s5, by rw [List.map_append]; exact t5, by rw [List.length_append, hk]; rfl, fun y hy => ?_⟩
      rcases List.mem_append.mp hy with hy | hy
      · exact hw y hy
      · rw [Sum.inr.inj (List.mem_singleton.mp hy)]
        exact hok x (List.mem_of_getElem? ex)
  · rintro σ H1 ⟨t3, r, n, ks, rfl, s1, zr, hk, hw⟩
    exact ⟨_, rfl, hq r ks H1 (by rw [hk, List.length_map]) hw (s0.trans s1) zr⟩
end
end Sy
/-! _law_stops -/
namespace Sy
open PySem PySem.Spec PyProof.Rows L2
theorem Fo.uniq : ∀ {w : List Nat} {n m : Nat}, Fo n w → Fo m w → n = m
  | [], 0, 0, _, _ => rfl
  | [], 0, m + 1, _, h => h.elim
  | [], n + 1, _, h, _ => h.elim
  | a :: w, 0, _, h, _ => h.elim
  | a :: w, n + 1, 0, _, h => h.elim
  | a :: w, n + 1, m + 1, g, h => by
    have := Fo.uniq (w := w) (n := n + a) (m := m + a) g h
    omega
theorem Fo.many : ∀ {w : List Nat} {n : Nat}, Fo n w → n ≤ w.length
  | [], 0, _ => Nat.le_refl _
  | [], n + 1, h => h.elim
  | a :: w, 0, _ => Nat.zero_le _
  | a :: w, n + 1, h => by
    have := Fo.many (w := w) (n := n + a) h
    rw [List.length_cons]
    omega
/-- the stops that wait before place i, the next one last -/
structure StkE (w : List Nat) (i : Nat) (ws : List Nat) : Prop where
  ex : ∃ m, Fo m (w.drop i) ∧ ws.length = m ∧ ∀ k, k < m → ws[m - 1 - k]? = some (i + sp (k + 1) (w.drop i))
theorem StkE.start (w : List Nat) : StkE w w.length [] := ⟨0, by rw [List.drop_length]; trivial, rfl, fun k h => by omega⟩
/-- t stops are taken -/
def PopE (w : List Nat) (i m t : Nat) (ws : List Nat) : Prop := ws.length = m - t ∧ ∀ k, t ≤ k → k < m → ws[m - 1 - k]? = some (kd w i (k + 1))
theorem StkE.pop0 {w : List Nat} {i : Nat} {ws : List Nat} (hF : Fo 1 w) (hi : i < w.length) (h : StkE w (i + 1) ws) : ∃ m, Fo m (w.drop (i + 1)) ∧ aw w i ≤ m ∧ m ≤ w.length ∧ PopE w i m 0 ws := by
  obtain ⟨m, h1, h2, h3⟩ := h.ex
  obtain ⟨m2, q⟩ := hF.below hi
  have e := h1.uniq q
  have := h1.many
  rw [List.length_drop] at this
  exact ⟨m, h1, by omega, by omega, by omega, fun k _ hk => h3 k hk⟩
theorem PopE.next {w : List Nat} {i m t : Nat} {ws : List Nat} (h : PopE w i m t ws) (ht : t < m) : ws[ws.length - 1]? = some (kd w i (t + 1)) ∧ PopE w i m (t + 1) ws.dropLast := by
  obtain ⟨h1, h2⟩ := h
  refine ⟨?_, by rw [List.length_dropLast]; omega, fun k a b => ?_⟩
  · rw [h1, show m - t - 1 = m - 1 - t by omega]
    exact h2 t (Nat.le_refl _) ht
  · rw [List.getElem?_dropLast, if_pos (by omega)]
    exact h2 k (by omega) b
theorem PopE.push {w : List Nat} {i m : Nat} {ws : List Nat} (hi : i < w.length) (hF : Fo m (w.drop (i + 1))) (ha : aw w i ≤ m) (h : PopE w i m (aw w i) ws) : StkE w i (ws ++ [en w i]) := by
  obtain ⟨h1, h2⟩ := h
  have ed := drop_at hi
  refine ⟨m - aw w i + 1, ?_, by rw [List.length_append, h1]; rfl, fun k hk => ?_⟩
  · rw [ed]
    show Fo (m - aw w i + aw w i) _
    rw [show m - aw w i + aw w i = m by omega]
    exact hF
  · by_cases c : k = 0
    · subst c
      rw [List.getElem?_append_right (by omega), h1, show m - aw w i + 1 - 1 - 0 - (m - aw w i) = 0 by omega]
      rfl
    · rw [List.getElem?_append_left (by omega), ed, sp_cons]
      have := h2 (k + aw w i - 1) (by omega) (by omega)
      rw [show m - 1 - (k + aw w i - 1) = m - aw w i + 1 - 1 - k by omega] at this
      rw [this, kd, show k + aw w i - 1 + 1 = k + aw w i by omega]
      exact congrArg some (by omega)
theorem getD_ar (rows : List Sy.Row) (x : Str) : (valV (arKV rows) (Sum.inr x : Key)).getD (.int 0) = .int (ar rows x : Nat) := by
  rw [valV_ar]
  unfold ar
  cases rows.lookup x <;> rfl
section
variable {P : Program} {w : World} {K : PySem.W.Frag} {mg : Str → Option Value} {base : Heap}
def spStops (K : PySem.W.Frag) : Sp := fun vs H Q _ => ∃ (d r : Addr) (rows : List Sy.Row) (l : List Str), vs = [.ref d, .ref r] ∧ H d = some (.dK (arKV rows)) ∧ SqT K H r (l.map V.str) ∧ Fo 1 (wt rows l) ∧ l.length ≤ 2000 ∧ ∀ H' p, Same H H' → H p = none → H' p = some (.lst (vN (ens (wt rows l)))) → Q (.ref p) H'
abbrev N_stops : List Str := ["_law_arity_here", "_law_row", "_law_stops_here", "_law_waiting", "_law_k", "_law_at", "_law_stop", "_law_turn", "_law_entry"]
theorem sc_stops : FnScope N_stops ["_law_arity_here", "_law_row"] (defScope (top 61)) := ⟨rfl, rfl, rfl, by decide +kernel, rfl, by decide +kernel, by decide +kernel⟩
theorem k_stops (T : Txt K mg) (F : DF K mg "_law_stops" 61) : Cal P w K mg base 1 "_law_stops" ["_law_arity_here", "_law_row"] (spStops K) := by
  refine cal_of F.1 F.2 sc_stops (fun _ _ _ _ _ _ us e => match us, e with | [_, _], _ => rfl) (fun vs H Q E s => by obtain ⟨_, _, _, _, rfl, _⟩ := s; rfl) ?_
  intro cdv A outer s H vs Q E hr h
  obtain ⟨d, r, rows, l, rfl, hd, hR, hF, hsz, hq⟩ := h
  have hu := hu_of hr
  have sc := sc_stops
  have hwl := wt_len rows l
  refine ⟨_, (pss_cons (ps_setLc (i := 2) (own := [("_law_entry", 8)]) (g := gName 8) rfl sc.nd rfl rfl (sw_true rfl rfl rfl (by decide +kernel)) (pi_tup (pv 1)) (blkOk_by (N := N_stops) (sc := defScope (top 61)) (by decide +kernel)) (fun _ _ _ _ _ => (pg_name (i := 8) sc.nd rfl (Or.inl rfl))) (fun _ _ _ _ _ => pts_nil) (fun _ _ _ _ _ => pe_int))
      (pss_cons (ps_set (i := 3) sc.nd rfl (Or.inl rfl) (pe_lst pa_nil))
      (pss_cons (ps_for (passes_of rfl) rfl (pi_range1 rfl T.range (pa_cons (pe_callB call_len_seq (by rfl) T.len (by decide +kernel) (pa_cons (pv 1) pa_nil)) pa_nil)) (pg_name (i := 4) sc.nd rfl (Or.inl rfl))
        (pss_cons (ps_set (i := 5) sc.nd rfl (Or.inl rfl) (pe_op op_sub (pe_op op_sub (pe_callB call_len_seq (by rfl) T.len (by decide +kernel) (pa_cons (pv 1) pa_nil)) pe_int) (pv 4)))
        (pss_cons (ps_set (i := 6) sc.nd rfl (Or.inl rfl) (pe_op op_add (pv 5) pe_int))
        (pss_cons (ps_for (passes_of rfl) rfl (pi_range1 rfl T.range (pa_cons (pe_dget2 hu (pv 0) (pe_ix ix_tup (pv 1) (pv 5) (fun _ _ => rfl)) pe_int ⟨rfl, rfl, rfl, rfl⟩) pa_nil)) (pg_name (i := 7) sc.nd rfl (Or.inl rfl))
          (pss_one (ps_set (i := 6) sc.nd rfl (Or.inl rfl) (pe_bm0 PySem.F.plainAttrs_list PySem.F.slot_list_pop PySem.F.type_list_pop mt_pop (pv 3)))))
        (pss_cons (ps_asg (pv 6) (pg_sub (pv 2) (pv 5) set_list))
        (pss_one (ps_expr (pe_bm PySem.F.plainAttrs_list PySem.F.slot_list_append PySem.F.type_list_append mt_append (pv 3) (pa_cons (pv 6) pa_nil)))))))))
      (pss_one (ps_ret (pv 2)))))), ?_⟩
  refine ⟨_, rfl, r, rfl, ⟨_, hR⟩, fun D hD => lc_map (si := 8) (Hs.start H) hD hR (by rw [List.length_map]; omega) (fun i _ acc => acc = vN (List.replicate i 0)) rfl ?_ ?_⟩
  · rintro i x B' acc H' hx s rfl hh R hR
    exact hR _ _ B' (Same.refl _) hh (by rw [vN, vN, List.replicate_succ', List.map_append]; rfl)
  rintro B' acc H' s2 rfl hh
  refine ⟨by decide, fun W hW => ?_⟩
  have h1 := hh.new (o := .lst []) hW
  rw [List.length_map] at h1
  refine ⟨_, rfl, r, _, rfl, .inr (Same.sqt (s2.trans h1.sub) hR), _, rfl, by rw [List.length_map]; omega, by rw [List.length_map]; omega, for_rng (n := (l.map V.str).length)
    (fun k σ H' => ∃ (t4 t5 t6 t7 t8 : Option V) (ws ss : List Nat), σ = [some (.ref d), some (.ref r), some (.ref D), some (.ref W), t4, t5, t6, t7, t8] ∧ Hs B' [(W, .lst (vN ws)), (D, .lst (vN ss))] H' ∧ ss.length = l.length ∧ (∀ j, l.length - k ≤ j → j < l.length → ss[j]? = some (en (wt rows l) j)) ∧ StkE (wt rows l) (l.length - k) ws)
    ⟨none, none, none, none, none, [], List.replicate l.length 0, rfl, h1, by rw [List.length_replicate], fun j a b => by omega, ?_⟩ ?_ ?_⟩
  · have := StkE.start (wt rows l)
    rw [hwl] at this
    exact this
  · rintro k σ H1 hk ⟨t4, t5, t6, t7, t8, ws, ss, rfl, h2, hsl, hv, hst⟩
    rw [List.length_map] at hk
    obtain ⟨i, hi⟩ : ∃ i : Nat, i = l.length - 1 - k := ⟨_, rfl⟩
    have hil : i < l.length := by omega
    have hiw : i < (wt rows l).length := by omega
    obtain ⟨y, hy⟩ : ∃ y, l[i]? = some y := ⟨_, List.getElem?_eq_getElem hil⟩
    have eaw : aw (wt rows l) i = ar rows y := wt_at hy
    rw [show l.length - k = i + 1 by omega] at hst
    obtain ⟨m, hm1, hm2, hm3, hp0⟩ := hst.pop0 hF hiw
    have sH := s2.trans h2.sub
    have epl : ((l.map V.str).length : Int) - 1 - (k : Nat) = (i : Int) := by rw [List.length_map]; omega
    have hdH := sH _ _ hd
    have hal := aw_le hF hiw
    refine ⟨_, rfl, r, _, rfl, .inr (Same.sqt sH hR), _, _, rfl, rfl, _, rfl, _, _, rfl, rfl, ?_⟩
    refine ⟨_, rfl, _, _, rfl, rfl, ?_⟩
    refine ⟨_, rfl, d, rfl, .inl ⟨_, .inl hdH⟩, _, rfl, _, rfl, r, _, _, _, rfl, rfl, Same.sqt sH hR, by
      show atI _ (((l.map V.str).length : Int) - 1 - (k : Nat)) = _
      rw [epl]
      exact atI_nat (by rw [List.getElem?_map, hy]; rfl), _, DGet.k (k := Sum.inr y) hdH, (ar rows y : Nat), by rw [getD_ar], by omega, by omega, for_rng (n := ar rows y)
      (fun t σ H2 => ∃ (u7 : Option V) (z : Int) (us : List Nat), σ = [some (.ref d), some (.ref r), some (.ref D), some (.ref W), some (.int (k : Nat)), some (.int (i : Nat)), some (.int z), u7, t8] ∧ z = (kd (wt rows l) i t : Nat) ∧ Hs B' [(W, .lst (vN us)), (D, .lst (vN ss))] H2 ∧ PopE (wt rows l) i m t us)
      ⟨_, ((l.map V.str).length : Int) - 1 - (k : Nat) + 1, ws, by rw [← epl] <;> rfl, by rw [kd_zero]; omega, h2, hp0⟩ ?_ ?_⟩
    · rintro t σ H2 ht ⟨u7, _, us, rfl, rfl, h3, hp⟩
      obtain ⟨g1, g2⟩ := hp.next (by omega)
      refine ⟨_, rfl, .inl ⟨rfl, _, SqL.of h3.r0⟩, W, _, _, rfl, rfl, h3.r0, by rw [vN, List.length_map, List.getElem?_map, g1, Option.map_some], _, _, _, rfl, rfl, ?_, g2⟩
      have := h3.w0 (o' := .lst (vN us).dropLast)
      rw [vN, List.map_dropLast]
      exact this
    · rintro σ H2 ⟨u7, _, us, rfl, rfl, h3, hp⟩
      rw [← eaw] at hp ⊢
      have hpu := hp.push hiw hm1 hm2
      have usl := hp.1
      have h4 := h3.w1 (o' := .lst (vN (ss.set i (en (wt rows l) i))))
      rw [en_kd hiw]
      refine ⟨_, rfl, _, rfl, _, rfl, D, _, _, i, rfl, rfl, h3.r1, ixN_nat (by rw [vN, List.length_map]; omega), ?_⟩
      rw [vN_set]
      refine ⟨_, rfl, .inl ⟨rfl, _, SqL.of h4.r0⟩, _, rfl, W, _, _, rfl, rfl, h4.r0, by rw [vN, List.length_map, sizeLine_eq]; omega, _, _, _, _, _, us ++ [en (wt rows l) i], ss.set i (en (wt rows l) i), rfl, ?_, by rw [List.length_set]; exact hsl, fun j a b => ?_, ?_⟩
      · have := h4.w0 (o' := .lst (vN (us ++ [en (wt rows l) i])))
        rw [vN, vN, List.map_append] at this
        rw [vN, vN, List.map_append]
        exact this
      · by_cases c : i = j
        · subst c
          rw [List.getElem?_set_self (by omega)]
        · rw [List.getElem?_set_ne c]
          exact hv j (by omega) b
      · rw [show l.length - (k + 1) = i by omega]
        exact hpu
  · rintro σ H1 ⟨t4, t5, t6, t7, t8, ws, ss, rfl, h2, hsl, hv, hst⟩
    rw [List.length_map] at hv
    have es : ss = ens (wt rows l) := ens_of (by omega) (fun j hj => hv j (by omega) (by omega))
    refine ⟨_, rfl, hq _ _ (s2.trans h2.sub) hD ?_⟩
    rw [← es]
    exact h2.r1
end
end Sy
/-! _law_paths, _law_tagged -/
namespace Sy
open PySem PySem.Spec PyProof.Rows L2
/-- the path of the place j -/
def ptP (w : List Nat) (j : Nat) : List Nat := (pths w).getD j []
/-- the paths that wait at place i, the next one last -/
structure StkP (w : List Nat) (i : Nat) (ws : List (List Nat)) : Prop where
  ex : ∃ m, Fo m (w.drop i) ∧ ws.length = m ∧ ∀ k, k < m → ws[m - 1 - k]? = some (ptP w (i + sp k (w.drop i)))
theorem StkP.start {w : List Nat} (h : Fo 1 w) : StkP w 0 [[]] := ⟨1, h, rfl, fun k hk => by
  obtain rfl : k = 0 := by omega
  rw [sp_zero]
  show some [] = some ((pth w w.length).getD 0 [])
  rw [pth_root]⟩
theorem StkP.top {w : List Nat} {i : Nat} {ws : List (List Nat)} (hi : i < w.length) (h : StkP w i ws) : ws[ws.length - 1]? = some (ptP w i) ∧ ws.length ≤ w.length := by
  obtain ⟨m, h1, h2, h3⟩ := h.ex
  have hm : 0 < m := by
    cases m with
    | zero =>
      have := h1.zero
      have := congrArg List.length this
      rw [List.length_drop, List.length_nil] at this
      omega
    | succ m => omega
  have := h3 0 hm
  rw [sp_zero] at this
  have hl := h1.many
  rw [List.length_drop] at hl
  exact ⟨by rw [h2]; exact this, by omega⟩
/-- the branches' paths, the first last -/
def kidP (w : List Nat) (i t : Nat) : List (List Nat) := (List.range t).map fun k => ptP w i ++ [aw w i - 1 - k]
theorem kidP_succ (w : List Nat) (i t : Nat) : kidP w i (t + 1) = kidP w i t ++ [ptP w i ++ [aw w i - 1 - t]] := by
  unfold kidP
  rw [List.range_succ, List.map_append]
  rfl
theorem StkP.next {w : List Nat} {i : Nat} {ws : List (List Nat)} (hF : Fo 1 w) (hi : i < w.length) (h : StkP w i ws) : StkP w (i + 1) (ws.dropLast ++ kidP w i (aw w i)) := by
  obtain ⟨m, h1, h2, h3⟩ := h.ex
  have ed := drop_at hi
  rw [ed] at h1 h3
  cases m with
  | zero => exact h1.elim
  | succ m =>
    have h1 : Fo (m + aw w i) (w.drop (i + 1)) := h1
    have kl : (kidP w i (aw w i)).length = aw w i := by rw [kidP, List.length_map, List.length_range]
    have dl : ws.dropLast.length = m := by rw [List.length_dropLast, h2]; rfl
    refine ⟨m + aw w i, h1, by rw [List.length_append, kl, dl], fun k hk => ?_⟩
    by_cases c : k < aw w i
    · rw [List.getElem?_append_right (by omega), dl, kidP, List.getElem?_map, List.getElem?_range (by omega)]
      show some (ptP w i ++ [aw w i - 1 - (m + aw w i - 1 - k - m)]) = _
      rw [show aw w i - 1 - (m + aw w i - 1 - k - m) = k by omega]
      exact congrArg some (pths_at hF hi c).symm
    · rw [List.getElem?_append_left (by omega), List.getElem?_dropLast, if_pos (by omega)]
      have := h3 (k - aw w i + 1) (by omega)
      rw [show m + 1 - 1 - (k - aw w i + 1) = m + aw w i - 1 - k by omega, sp_cons, show k - aw w i + aw w i = k by omega] at this
      rw [this, show i + (1 + sp k (w.drop (i + 1))) = i + 1 + sp k (w.drop (i + 1)) by omega]
theorem ptP_all (w : List Nat) : (List.range w.length).map (ptP w) = pths w := by
  refine List.ext_getElem? fun j => ?_
  have hl : (pths w).length = w.length := pth_len w w.length
  rw [List.getElem?_map]
  by_cases c : j < w.length
  · rw [List.getElem?_range c, Option.map_some, ptP, List.getD_eq_getElem?_getD, List.getElem?_eq_getElem (by omega)]
    rfl
  · rw [List.getElem?_eq_none (by rw [List.length_range]; omega), List.getElem?_eq_none (by omega)]
    rfl
theorem ImA.dropL {K : PySem.W.Frag} {H : Hp} : ∀ {vs : List V} {ds : List PyData}, ImA K H vs ds → ImA K H vs.dropLast ds.dropLast
  | _, _, .nil => .nil
  | _, _, .cons a .nil => .nil
  | _, _, .cons a (.cons b c) => .cons a (ImA.dropL (.cons b c))
section
variable {P : Program} {w : World} {K : PySem.W.Frag} {mg : Str → Option Value} {base : Heap}
def spPathsL (K : PySem.W.Frag) : Sp := fun vs H Q _ => ∃ (d r : Addr) (rows : List Sy.Row) (l : List Str), vs = [.ref d, .ref r] ∧ H d = some (.dK (arKV rows)) ∧ SqT K H r (l.map V.str) ∧ Fo 1 (wt rows l) ∧ l.length ≤ 2000 ∧ ∀ H' p vs, Same H H' → H p = none → H' p = some (.lst vs) → ImA K H' vs ((pths (wt rows l)).map DN) → Q (.ref p) H'
abbrev N_pathsL : List Str := ["_law_arity_here", "_law_row", "_law_paths_here", "_law_waiting", "_law_entry", "_law_path", "_law_many", "_law_k"]
theorem sc_pathsL : FnScope N_pathsL ["_law_arity_here", "_law_row"] (defScope (top 62)) := ⟨rfl, rfl, rfl, by decide +kernel, rfl, by decide +kernel, by decide +kernel⟩
theorem k_pathsL (T : Txt K mg) (F : DF K mg "_law_paths" 62) : Cal P w K mg base 1 "_law_paths" ["_law_arity_here", "_law_row"] (spPathsL K) := by
  refine cal_of F.1 F.2 sc_pathsL (fun _ _ _ _ _ _ us e => match us, e with | [_, _], _ => rfl) (fun vs H Q E s => by obtain ⟨_, _, _, _, rfl, _⟩ := s; rfl) ?_
  intro cdv A outer s H vs Q E hr h
  obtain ⟨d, r, rows, l, rfl, hd, hR, hF, hsz, hq⟩ := h
  have hu := hu_of hr
  have sc := sc_pathsL
  have hwl := wt_len rows l
  refine ⟨_, (pss_cons (ps_set (i := 2) sc.nd rfl (Or.inl rfl) (pe_lst pa_nil))
      (pss_cons (ps_set (i := 3) sc.nd rfl (Or.inl rfl) (pe_lst (pa_cons (pe_tup pa_nil) pa_nil)))
      (pss_cons (ps_for (passes_of rfl) rfl (pi_tup (pv 1)) (pg_name (i := 4) sc.nd rfl (Or.inl rfl))
        (pss_cons (ps_set (i := 5) sc.nd rfl (Or.inl rfl) (pe_bm0 PySem.F.plainAttrs_list PySem.F.slot_list_pop PySem.F.type_list_pop mt_pop (pv 3)))
        (pss_cons (ps_expr (pe_bm PySem.F.plainAttrs_list PySem.F.slot_list_append PySem.F.type_list_append mt_append (pv 2) (pa_cons (pv 5) pa_nil)))
        (pss_cons (ps_set (i := 6) sc.nd rfl (Or.inl rfl) (pe_dget2 hu (pv 0) (pv 4) pe_int ⟨rfl, rfl, rfl, rfl⟩))
        (pss_one (ps_for (passes_of rfl) rfl (pi_range1 rfl T.range (pa_cons (pv 6) pa_nil)) (pg_name (i := 7) sc.nd rfl (Or.inl rfl))
          (pss_one (ps_expr (pe_bm PySem.F.plainAttrs_list PySem.F.slot_list_append PySem.F.type_list_append mt_append (pv 3) (pa_cons (pe_op op_catA (pv 5) (pe_tup (pa_cons (pe_op op_sub (pe_op op_sub (pv 6) pe_int) (pv 7)) pa_nil))) pa_nil))))))))))
      (pss_one (ps_ret (pv 2)))))), ?_⟩
  refine ⟨by decide, fun D hD => ?_⟩
  have k0 := (Hs.start H).new (o := .lst []) hD
  refine ⟨by decide, fun p0 hp0 => ?_⟩
  have s0 : Same H (upd H p0 (.tup [])) := up_same (k0.sub.free hp0)
  have k1 := k0.tup (o := .tup []) hp0
  refine ⟨(by show 1 ≤ sizeLine; decide), fun W hW => ?_⟩
  have k2 := k1.new (o := .lst [.ref p0]) hW
  have i0 : ImA K (upd H p0 (.tup [])) [.ref p0] ([[]].map DN) := .cons (Im.nats (l := []) (SqT.of upd_same)) .nil
  generalize upd H p0 (.tup []) = B0 at *
  refine ⟨_, rfl, r, rfl, ⟨_, Same.sqt (s0.trans k2.sub) hR⟩, for_tup (K := K) (a := r) (xs := l.map V.str) (fun i σ H' => ∃ (t4 t5 t6 t7 : Option V) (B : Hp) (ws : List (List Nat)) (vs us : List V), σ = [some (.ref d), some (.ref r), some (.ref D), some (.ref W), t4, t5, t6, t7] ∧ Same H B ∧ Hs B [(W, .lst us), (D, .lst vs)] H' ∧ StkP (wt rows l) i ws ∧ ImA K B us (ws.map DN) ∧ ImA K B vs (((List.range i).map (ptP (wt rows l))).map DN))
    ⟨none, none, none, none, B0, [[]], [], [.ref p0], rfl, s0, k2, StkP.start hF, i0, .nil⟩ (fun _ _ _ _ ⟨_, _, _, _, B, _, _, _, _, sB, z, _⟩ => Same.sqt (sB.trans z.sub) hR) ?_ ?_⟩
  · rintro i v σ H1 hv ⟨t4, t5, t6, t7, B, ws, vs, us, rfl, sB, hh, st, iu, iv⟩
    obtain ⟨y, ey, rfl⟩ := map_at hv
    have hi := (List.getElem?_eq_some_iff.mp ey).1
    have hiw : i < (wt rows l).length := by omega
    have eaw : aw (wt rows l) i = ar rows y := wt_at ey
    have hal := aw_le hF hiw
    obtain ⟨tp, wl⟩ := st.top hiw
    have ul : us.length = ws.length := by rw [iu.len, List.length_map]
    obtain ⟨vp, ep, ip⟩ := iu.get (i := ws.length - 1) (d := DN (ptP (wt rows l) i)) (by rw [List.getElem?_map, tp]; rfl)
    obtain ⟨pa, rfl, tpa⟩ := ip.natsI
    have h1 := hh.w0 (o' := .lst us.dropLast)
    refine ⟨_, rfl, .inl ⟨rfl, _, SqL.of hh.r0⟩, W, _, _, rfl, rfl, hh.r0, by rw [ul]; exact ep, ?_⟩
    have vl : vs.length = i := by rw [iv.len, List.length_map, List.length_map, List.length_range]
    have h2 := h1.w1 (o' := .lst (vs ++ [.ref pa]))
    refine ⟨_, rfl, .inl ⟨rfl, _, SqL.of h1.r1⟩, _, rfl, D, _, _, rfl, rfl, h1.r1, by rw [sizeLine_eq]; omega, ?_⟩
    have hdH := (sB.trans h2.sub) _ _ hd
    refine ⟨_, rfl, d, rfl, .inl ⟨_, .inl hdH⟩, _, rfl, _, DGet.k (k := Sum.inr y) hdH, ?_⟩
    rw [getD_ar]
    have al : ∀ {a b : Addr} {xs ys : List V}, AllL [(a, HO.lst xs), (b, HO.lst ys)] := AllL.cons (AllL.cons AllL.nil)
    have pl : (vN (ptP (wt rows l) i)).length ≤ i := by
      rw [vN, List.length_map]
      exact pth_le (wt rows l) (wt rows l).length i
    refine ⟨_, rfl, _, rfl, by omega, by omega, for_rng (n := ar rows y) (fun t σ H2 => ∃ (u7 : Option V) (B2 : Hp) (us2 : List V), σ = [some (.ref d), some (.ref r), some (.ref D), some (.ref W), some (.str y), some (.ref pa), some (.int (ar rows y : Nat)), u7] ∧ Same B B2 ∧ Hs B2 [(W, .lst us2), (D, .lst (vs ++ [.ref pa]))] H2 ∧ ImA K B2 us2 ((ws.dropLast ++ kidP (wt rows l) i t).map DN))
      ⟨_, B, _, rfl, Same.refl _, h2, ?_⟩ ?_ ?_⟩
    · rw [show kidP (wt rows l) i 0 = [] from rfl, List.append_nil, List.map_dropLast]
      exact iu.dropL
    · rintro t σ H2 ht ⟨u7, B2, us2, rfl, s2, h3, iu2⟩
      have ul2 : us2.length ≤ 10000 := by
        rw [iu2.len, List.length_map, List.length_append, List.length_dropLast, kidP, List.length_map, List.length_range]
        omega
      refine ⟨_, rfl, .inl ⟨rfl, _, SqL.of h3.r0⟩, _, rfl, _, rfl, _, _, rfl, rfl, _, rfl, _, _, rfl, rfl, (by show 1 ≤ sizeLine; decide), fun p4 hp4 => ?_⟩
      have s4 := up_same (o := .tup [.int (((ar rows y : Nat) : Int) - 1 - (t : Nat))]) hp4
      refine cat_any (Same.sqt (s2.trans (h3.sub.trans s4)) tpa) (SqT.of upd_same) (by show _ + 1 ≤ _; omega) fun p5 H5 s5 t5 => ?_
      obtain ⟨f1, f2⟩ := h3.after (s4.trans s5)
      have t5 : SqT K (cut [(W, HO.lst us2), (D, HO.lst (vs ++ [V.ref pa]))] H5) p5 (vN (ptP (wt rows l) i) ++ [V.int (((ar rows y : Nat) : Int) - 1 - (t : Nat))]) := (stay_cut h3 al (s4.trans s5)).sqt t5
      refine ⟨W, _, _, rfl, rfl, f2.r0, by rw [sizeLine_eq]; omega, _, _, _, rfl, s2.trans f1, f2.w0, ?_⟩
      rw [kidP_succ, ← List.append_assoc, List.map_append]
      refine (iu2.mono (Stay.of f1)).snoc (Im.nats ?_)
      have e1 : ((ar rows y : Nat) : Int) - 1 - (t : Nat) = ((aw (wt rows l) i - 1 - t : Nat) : Int) := by omega
      rw [e1] at t5
      rw [show vN (ptP (wt rows l) i ++ [aw (wt rows l) i - 1 - t]) = vN (ptP (wt rows l) i) ++ [V.int ((aw (wt rows l) i - 1 - t : Nat) : Int)] by rw [vN, vN, List.map_append]; rfl]
      exact t5
    · rintro σ H2 ⟨u7, B2, us2, rfl, s2, h3, iu2⟩
      rw [← eaw] at iu2
      refine ⟨_, _, _, _, B2, _, _, _, rfl, sB.trans s2, h3, st.next hF hiw, iu2, ?_⟩
      rw [List.range_succ, List.map_append, List.map_append]
      exact (iv.mono (Stay.of s2)).snoc (Im.nats (Same.sqt s2 tpa))
  · rintro σ H1 ⟨t4, t5, t6, t7, B, ws, vs, us, rfl, sB, hh, st, iu, iv⟩
    rw [List.length_map, ← hwl, ptP_all] at iv
    exact ⟨_, rfl, hq _ _ vs (sB.trans hh.sub) hD hh.r1 (iv.mono (Stay.of hh.sub))⟩
end
end Sy
/-! _law_tagged, _law_union -/
namespace Sy
open PySem PySem.Spec PyProof.Rows L2
section
variable {P : Program} {w : World} {K : PySem.W.Frag} {mg : Str → Option Value} {base : Heap}
theorem k_tagN (T : Txt K mg) (F : DF K mg "_law_tagged" 66) : Cal P w K mg base 1 "_law_tagged" ["_law_row"] (spNum K) := by
  refine cal_of F.1 F.2 sc_tag (fun _ _ _ _ _ _ us e => match us, e with | [_], _ => rfl) (fun vs H Q E s => by obtain ⟨_, _, rfl, _⟩ := s; rfl) ?_
  intro cdv A outer s H vs Q E hr h
  obtain ⟨p, l, rfl, hp, hl, hq⟩ := h
  have sc := sc_tag
  refine ⟨_, (pss_cons (ps_set (i := 1) sc.nd rfl (Or.inl rfl) (pe_tup pa_nil))
      (pss_cons (ps_set (i := 2) sc.nd rfl (Or.inl rfl) pe_int)
      (pss_cons (ps_for (passes_of rfl) rfl (pi_tup (pv 0)) (pg_name (i := 3) sc.nd rfl (Or.inl rfl))
        (pss_one (ps_if (pt_cmpR op_eq (pv 3) pe_str (nomark _))
          (pss_cons (ps_set (i := 1) sc.nd rfl (Or.inl rfl) (pe_op op_catA (pv 1) (pe_tup (pa_cons (pv 2) pa_nil))))
          (pss_one (ps_set (i := 2) sc.nd rfl (Or.inl rfl) (pe_op op_add (pv 2) pe_int))))
          (pss_one (ps_set (i := 1) sc.nd rfl (Or.inl rfl) (pe_op op_catA (pv 1) (pe_tup (pa_cons (pv 3) pa_nil))))))))
      (pss_one (ps_ret (pv 1)))))), ?_⟩
  refine ⟨(by show 0 ≤ sizeLine; decide), fun r0 hr0 => ?_⟩
  have s0 := up_same (o := .tup []) hr0
  have e0 : SqT K (upd H r0 (.tup [])) r0 [] := SqT.of upd_same
  generalize upd H r0 (.tup []) = H0 at *
  refine ⟨_, rfl, p, rfl, ⟨_, Same.sqt s0 hp⟩, for_tup (K := K) (a := p) (xs := l.map V.str) (fun i σ H' => ∃ (t3 : Option V) (r : Addr) (n : Nat) (ks : List Key), σ = [some (.ref p), some (.ref r), some (.int (n : Nat)), t3] ∧ Same H0 H' ∧ SqT K H' r (ks.map kV) ∧ ks.length = i ∧ numK 0 l = ks ++ numK n (l.drop i)) ⟨none, r0, 0, [], rfl, Same.refl _, e0, rfl, by rw [List.drop_zero]; rfl⟩ (fun _ _ _ _ ⟨_, _, _, _, _, s', _⟩ => Same.sqt (s0.trans s') hp) ?_ ?_⟩
  · rintro i v σ H1 hv ⟨t3, r, n, ks, rfl, s1, zr, hk, e⟩
    obtain ⟨x, ex, rfl⟩ := map_at hv
    have hi := (List.getElem?_eq_some_iff.mp ex).1
    rw [drop_of ex, numK] at e
    refine ⟨_, rfl, rfl, _, rfl, if_dec (fun c => ?_) (fun c => ?_)⟩
    · have c : x = "*" := V.str.inj c
      rw [if_pos c] at e
      refine ⟨_, rfl, _, rfl, (by show 1 ≤ sizeLine; decide), fun p4 hp4 => ?_⟩
      have s4 := up_same (o := .tup [.int (n : Nat)]) hp4
      refine cat_any (Same.sqt s4 zr) (SqT.of upd_same) (by rw [List.length_map]; show _ + 1 ≤ _; omega) (fun p5 H5 s5 t5 => ?_)
      exact ⟨_, rfl, _, _, rfl, rfl, _, p5, n + 1, ks ++ [.inl (n : Int)], rfl, (s1.trans s4).trans s5, by rw [List.map_append]; exact t5, by rw [List.length_append, hk]; rfl, by rw [e, List.append_assoc]; rfl⟩
    · have c : x ≠ "*" := fun z => c (by rw [z])
      rw [if_neg c] at e
      refine ⟨_, rfl, _, rfl, (by show 1 ≤ sizeLine; decide), fun p4 hp4 => ?_⟩
      have s4 := up_same (o := .tup [.str x]) hp4
      refine cat_any (Same.sqt s4 zr) (SqT.of upd_same) (by rw [List.length_map]; show _ + 1 ≤ _; omega) (fun p5 H5 s5 t5 => ?_)
      exact ⟨_, p5, n, ks ++ [.inr x], rfl, (s1.trans s4).trans s5, by rw [List.map_append]; exact t5, by rw [List.length_append, hk]; rfl, by rw [e, List.append_assoc]; rfl⟩
  · rintro σ H1 ⟨t3, r, n, ks, rfl, s1, zr, hk, e⟩
    rw [List.length_map, List.drop_eq_nil_of_le (Nat.le_refl _)] at e
    have e : numK 0 l = ks := by rw [e]; exact List.append_nil _
    exact ⟨_, rfl, hq r H1 (s0.trans s1) (by rw [e]; exact zr)⟩
/-! _law_union -/
def spUnL (K : PySem.W.Frag) : Sp := fun vs H Q _ => ∃ (d r o : Addr) (rows : List Sy.Row) (l m : List Str), vs = [.ref d, .ref r, .ref o] ∧ H d = some (.dK (arKV rows)) ∧ SqT K H r (l.map V.str) ∧ SqT K H o (m.map V.str) ∧ isK rows "*" = false ∧ StB rows l ∧ StB rows m ∧
  (unF rows l m = none → ∀ H', Same H H' → Q .non H') ∧ (∀ v, unF rows l m = some v → v.length ≤ 200 → ∀ H' p, Same H H' → SqT K H' p (v.map V.str) → Q (.ref p) H')
abbrev N_unL : List Str := ["_law_arity_here", "_law_one", "_law_two", "_law_ones", "_law_twos", "_law_row", "_law_a", "_law_b", "_law_k"]
theorem sc_unL : FnScope N_unL ["_law_arity_here", "_law_one", "_law_two"] (defScope (top 67)) := ⟨rfl, rfl, rfl, by decide +kernel, rfl, by decide +kernel, by decide +kernel⟩
theorem k_unL (T : Txt K mg) (F : DF K mg "_law_union" 67) (c_law_stops : Cal P w K mg base 1 "_law_stops" ["_law_arity_here", "_law_row"] (spStops K)) : Cal P w K mg base 2 "_law_union" ["_law_arity_here", "_law_one", "_law_two"] (spUnL K) := by
  refine cal_of F.1 F.2 sc_unL (fun _ _ _ _ _ _ us e => match us, e with | [_, _, _], _ => rfl) (fun vs H Q E s => by obtain ⟨_, _, _, _, _, _, rfl, _⟩ := s; rfl) ?_
  intro cdv A outer s H vs Q E hr h
  obtain ⟨d, r, o, rows, l, m, rfl, hd, hR, hO, hst, hSl, hSm, hq0, hq1⟩ := h
  obtain ⟨t, u, okt, oku, p1, p2, eu⟩ := unF_tr hSl hSm
  have hU := UnI.start okt oku
  rw [← eu, p1, p2] at hU
  generalize hRe : unF rows l m = R at *
  have hu := hu_of hr
  have sc := sc_unL
  have hwl := wt_len rows l
  have hwm := wt_len rows m
  have hl := hSl.le
  have hm := hSm.le
  refine ⟨_, (pss_cons (ps_set (i := 3) sc.nd rfl (Or.inl rfl) (pe_cal c_law_stops hr (pa_cons (pv 0) (pa_cons (pv 1) pa_nil))))
      (pss_cons (ps_set (i := 4) sc.nd rfl (Or.inl rfl) (pe_cal c_law_stops hr (pa_cons (pv 0) (pa_cons (pv 2) pa_nil))))
      (pss_cons (ps_set (i := 5) sc.nd rfl (Or.inl rfl) (pe_tup pa_nil))
      (pss_cons (ps_set (i := 6) sc.nd rfl (Or.inl rfl) pe_int)
      (pss_cons (ps_set (i := 7) sc.nd rfl (Or.inl rfl) pe_int)
      (pss_cons (ps_for (passes_of rfl) rfl (pi_range1 rfl T.range (pa_cons (pe_op op_add (pe_callB call_len_seq (by rfl) T.len (by decide +kernel) (pa_cons (pv 1) pa_nil)) (pe_callB call_len_seq (by rfl) T.len (by decide +kernel) (pa_cons (pv 2) pa_nil))) pa_nil)) (pg_name (i := 8) sc.nd rfl (Or.inl rfl))
        (pss_cons (ps_if (pt_cmpR op_eq (pv 6) (pe_callB call_len_seq (by rfl) T.len (by decide +kernel) (pa_cons (pv 1) pa_nil)) (nomark _))
          (pss_one ps_break)
          pss_nil)
        (pss_one (ps_if (pt_cmpR op_eq (pe_ix ix_tup (pv 1) (pv 6) (fun _ _ => rfl)) pe_str (nomark _))
          (pss_cons (ps_set (i := 5) sc.nd rfl (Or.inl rfl) (pe_op op_catA (pv 5) (pe_slice sl_tupA (pv 2) (po_some (pv 7)) (po_some (pe_ix ix_list (pv 4) (pv 7) (fun _ _ => rfl))))))
          (pss_cons (ps_set (i := 7) sc.nd rfl (Or.inl rfl) (pe_ix ix_list (pv 4) (pv 7) (fun _ _ => rfl)))
          (pss_one (ps_set (i := 6) sc.nd rfl (Or.inl rfl) (pe_op op_add (pv 6) pe_int)))))
          (pss_one (ps_if (pt_cmpR op_eq (pe_ix ix_tup (pv 2) (pv 7) (fun _ _ => rfl)) pe_str (nomark _))
            (pss_cons (ps_set (i := 5) sc.nd rfl (Or.inl rfl) (pe_op op_catA (pv 5) (pe_slice sl_tupA (pv 1) (po_some (pv 6)) (po_some (pe_ix ix_list (pv 3) (pv 6) (fun _ _ => rfl))))))
            (pss_cons (ps_set (i := 6) sc.nd rfl (Or.inl rfl) (pe_ix ix_list (pv 3) (pv 6) (fun _ _ => rfl)))
            (pss_one (ps_set (i := 7) sc.nd rfl (Or.inl rfl) (pe_op op_add (pv 7) pe_int)))))
            (pss_one (ps_if (pt_cmpR op_ne (pe_ix ix_tup (pv 1) (pv 6) (fun _ _ => rfl)) (pe_ix ix_tup (pv 2) (pv 7) (fun _ _ => rfl)) (nomark _))
              (pss_one (ps_ret pe_non))
              (pss_cons (ps_set (i := 5) sc.nd rfl (Or.inl rfl) (pe_op op_catA (pv 5) (pe_tup (pa_cons (pe_ix ix_tup (pv 1) (pv 6) (fun _ _ => rfl)) pa_nil))))
              (pss_cons (ps_set (i := 6) sc.nd rfl (Or.inl rfl) (pe_op op_add (pv 6) pe_int))
              (pss_one (ps_set (i := 7) sc.nd rfl (Or.inl rfl) (pe_op op_add (pv 7) pe_int)))))))))))))
      (pss_one (ps_ret (pv 5))))))))), ?_⟩
  refine ⟨_, rfl, _, rfl, d, r, rows, l, rfl, hd, hR, hSl.fo, by omega, fun H1 q3 s1 n3 e3 => ?_⟩
  refine ⟨_, rfl, _, rfl, d, o, rows, m, rfl, s1 _ _ hd, Same.sqt s1 hO, hSm.fo, by omega, fun H2 q4 s2 n4 e4 => ?_⟩
  have e3 := s2 _ _ e3
  have s12 := s1.trans s2
  refine ⟨(by show 0 ≤ sizeLine; decide), fun p5 hp5 => ?_⟩
  have s5 := up_same (o := .tup []) hp5
  have t5 : SqT K (upd H2 p5 (.tup [])) p5 [] := SqT.of upd_same
  have e3 := s5 _ _ e3
  have e4 := s5 _ _ e4
  have s05 := s12.trans s5
  generalize upd H2 p5 (.tup []) = H5 at *
  have hR5 := Same.sqt s05 hR
  have hO5 := Same.sqt s05 hO
  refine ⟨_, rfl, r, _, rfl, .inr hR5, _, rfl, o, _, rfl, .inr hO5, _, _, rfl, rfl, ?_⟩
  refine ⟨_, rfl, by rw [List.length_map, List.length_map]; omega, by rw [List.length_map, List.length_map]; omega, for_rng (n := (((l.map V.str).length : Int) + ((m.map V.str).length : Int)).toNat) (fun k σ H' => ∃ (i j : Nat) (t8 : Option V) (pr : Addr) (acc : List Str), σ = [some (.ref d), some (.ref r), some (.ref o), some (.ref q3), some (.ref q4), some (.ref pr), some (.int (i : Nat)), some (.int (j : Nat)), t8] ∧ Same H5 H' ∧ SqT K H' pr (acc.map V.str) ∧ k ≤ i + j ∧ i ≤ l.length ∧ j ≤ m.length ∧ acc.length ≤ i + j ∧ Wk (wt rows l) (wt rows m) i j ∧ UnI rows l m R i j acc)
    ⟨0, 0, none, p5, [], rfl, Same.refl _, t5, Nat.le_refl _, Nat.zero_le _, Nat.zero_le _, Nat.zero_le _, Wk.start hSl.fo hSm.fo, hU⟩ ?_ ?_⟩
  · rintro k σ H6 hk ⟨i, j, t8, pr, acc, rfl, s6, tr, hkij, hil, hjl, hal, hw, hun⟩
    have hR6 := Same.sqt s6 hR5
    have hO6 := Same.sqt s6 hO5
    refine ⟨_, rfl, _, rfl, r, _, rfl, .inr hR6, rfl, _, rfl, if_dec (fun c => ?_) (fun c => ?_)⟩
    · have c : i = l.length := by
        have := V.int.inj c
        rw [List.length_map] at this
        omega
      refine ⟨_, rfl, hq1 acc (hun.done (by omega)) (by omega) _ _ (s05.trans s6) tr⟩
    · have hi : i < l.length := by
        have : i ≠ l.length := fun z => c (by rw [z, List.length_map])
        omega
      have hiw : i < (wt rows l).length := by omega
      obtain ⟨_, _, _, hjw⟩ := hw.has hiw
      have hj : j < m.length := by omega
      obtain ⟨y, hy⟩ : ∃ y, l[i]? = some y := ⟨_, List.getElem?_eq_getElem hi⟩
      obtain ⟨x, hx⟩ : ∃ x, m[j]? = some x := ⟨_, List.getElem?_eq_getElem hj⟩
      have ey := wt_at (rows := rows) hy
      have ex := wt_at (rows := rows) hx
      have ay : atI (l.map V.str) ((i : Nat) : Int) = some (.str y) := atI_nat (by rw [List.getElem?_map, hy]; rfl)
      have ax : atI (m.map V.str) ((j : Nat) : Int) = some (.str x) := atI_nat (by rw [List.getElem?_map, hx]; rfl)
      have ae : atI (vN (ens (wt rows l))) ((i : Nat) : Int) = some (.int (en (wt rows l) i : Nat)) := atI_nat (vN_at (ens_at hiw))
      have af : atI (vN (ens (wt rows m))) ((j : Nat) : Int) = some (.int (en (wt rows m) j : Nat)) := atI_nat (vN_at (ens_at hjw))
      obtain ⟨wsk, e1, e2⟩ := hw.skip hiw
      have gl := en_gt hiw
      have gm := en_gt hjw
      have e36 := s6 _ _ e3
      have e46 := s6 _ _ e4
      refine ⟨_, rfl, _, rfl, r, _, _, _, rfl, rfl, hR6, ay, rfl, _, rfl, if_dec (fun c1 => ?_) (fun c1 => ?_)⟩
      · have c1 : y = "*" := V.str.inj c1
        have e0 : aw (wt rows l) i = 0 := by rw [ey, c1]; exact ar_no hst
        refine ⟨_, rfl, _, rfl, _, rfl, _, rfl, _, rfl, _, rfl, q4, _, _, _, rfl, rfl, SqL.of e46, af, _, rfl, ?_⟩
        refine sl_any (cut_mid (by omega) (by rw [List.length_map]; omega)) hO6 fun p7 H7 s7 t7 => ?_
        refine cat_any (Same.sqt s7 tr) t7 (by rw [List.length_map, List.length_take, List.length_drop, List.length_map]; omega) fun p8 H8 s8 t8' => ?_
        rw [← List.map_drop, ← List.map_take, ← List.map_append] at t8'
        refine ⟨_, rfl, _, rfl, q4, _, _, _, rfl, rfl, SqL.of (s8 _ _ (s7 _ _ e46)), af, ?_⟩
        exact ⟨_, rfl, _, _, rfl, rfl, i + 1, en (wt rows m) j, _, p8, _, rfl, (s6.trans s7).trans s8, t8', by omega, hi, by omega, by rw [List.length_append, List.length_take, List.length_drop]; omega, hw.leap hiw e0, (hun.hole1 hst (by rw [hy, c1])).2⟩
      · have n1 : y ≠ "*" := fun z => c1 (by rw [z])
        refine ⟨_, rfl, _, rfl, o, _, _, _, rfl, rfl, hO6, ax, rfl, _, rfl, if_dec (fun c2 => ?_) (fun c2 => ?_)⟩
        · have c2 : x = "*" := V.str.inj c2
          have e0 : aw (wt rows m) j = 0 := by rw [ex, c2]; exact ar_no hst
          refine ⟨_, rfl, _, rfl, _, rfl, _, rfl, _, rfl, _, rfl, q3, _, _, _, rfl, rfl, SqL.of e36, ae, _, rfl, ?_⟩
          refine sl_any (cut_mid (by omega) (by rw [List.length_map]; omega)) hR6 fun p7 H7 s7 t7 => ?_
          refine cat_any (Same.sqt s7 tr) t7 (by rw [List.length_map, List.length_take, List.length_drop, List.length_map]; omega) fun p8 H8 s8 t8' => ?_
          rw [← List.map_drop, ← List.map_take, ← List.map_append] at t8'
          refine ⟨_, rfl, _, rfl, q3, _, _, _, rfl, rfl, SqL.of (s8 _ _ (s7 _ _ e36)), ae, ?_⟩
          exact ⟨_, rfl, _, _, rfl, rfl, en (wt rows l) i, j + 1, _, p8, _, rfl, (s6.trans s7).trans s8, t8', by omega, by omega, hj, by rw [List.length_append, List.length_take, List.length_drop]; omega, hw.leap2 hiw e0, (hun.hole2 hst hy n1 (by rw [hx, c2])).2⟩
        · have n2 : x ≠ "*" := fun z => c2 (by rw [z])
          refine ⟨_, rfl, _, rfl, r, _, _, _, rfl, rfl, hR6, ay, _, rfl, _, rfl, o, _, _, _, rfl, rfl, hO6, ax, rfl, _, rfl, if_ndec (fun c3 => hq0 (hun.clash hy n1 hx n2 (fun z => c3 (by rw [z]))) _ (s05.trans s6)) (fun c3 => ?_)⟩
          have exy : y = x := V.str.inj c3
          refine ⟨_, rfl, _, rfl, _, rfl, r, _, _, _, rfl, rfl, hR6, ay, (by show 1 ≤ sizeLine; decide), fun p4 hp4 => ?_⟩
          have s7 := up_same (o := .tup [.str y]) hp4
          refine cat_any (Same.sqt s7 tr) (SqT.of upd_same) (by rw [List.length_map]; show _ + 1 ≤ _; omega) fun p8 H8 s8 t8' => ?_
          exact ⟨_, rfl, _, _, rfl, rfl, _, rfl, _, _, rfl, rfl, i + 1, j + 1, _, p8, acc ++ [y], rfl, (s6.trans s7).trans s8, by rw [List.map_append]; exact t8', by omega, hi, hj, by rw [List.length_append]; show _ + 1 ≤ _; omega, hw.go hiw (by rw [ey, ex, exy]), hun.same hy n1 (by rw [hx, exy])⟩
  · rintro σ H6 ⟨i, j, t8, pr, acc, rfl, s6, tr, hkij, hil, hjl, hal, hw, hun⟩
    rw [List.length_map, List.length_map] at hkij
    exact ⟨_, rfl, hq1 acc (hun.done (by omega)) (by omega) _ _ (s05.trans s6) tr⟩
end
end Sy
/-! _law_peaks -/
namespace Sy
open PySem PySem.Spec PyProof.Rows L2
section
variable {P : Program} {w : World} {K : PySem.W.Frag} {mg : Str → Option Value} {base : Heap}
def spPkL (K : PySem.W.Frag) : Sp := fun vs H Q _ => ∃ (d p : Addr) (rows : List Sy.Row) (ts : List Trm), vs = [.ref d, .ref p] ∧ H d = some (.dK (arKV rows)) ∧ ML K H p ts ∧ isK rows "*" = false ∧ (∀ t ∈ ts, StB rows t.1) ∧ ts.length ≤ 8 ∧
  ∀ (H' : Hp) (D : Addr) (vs : List V), Same H H' → H D = none → H' D = some (.lst vs) → ImA K H' vs (pkL rows (ts.map (·.1))) → Q (.ref D) H'
abbrev N_pkL : List Str := ["_law_arity_here", "_law_made_here", "_law_found", "_law_i", "_law_stump_here", "_law_stops_here", "_law_paths_here", "_law_at", "_law_j", "_law_met", "_law_row"]
theorem sc_pkL : FnScope N_pkL ["_law_arity_here", "_law_made_here"] (defScope (top 68)) := ⟨rfl, rfl, rfl, by decide +kernel, rfl, by decide +kernel, by decide +kernel⟩
theorem k_pkL (T : Txt K mg) (F : DF K mg "_law_peaks" 68) (c_law_stops : Cal P w K mg base 1 "_law_stops" ["_law_arity_here", "_law_row"] (spStops K)) (c_law_paths : Cal P w K mg base 1 "_law_paths" ["_law_arity_here", "_law_row"] (spPathsL K)) (c_law_tagged : Cal P w K mg base 1 "_law_tagged" ["_law_row"] (spNum K)) (c_law_union : Cal P w K mg base 2 "_law_union" ["_law_arity_here", "_law_one", "_law_two"] (spUnL K)) : Cal P w K mg base 3 "_law_peaks" ["_law_arity_here", "_law_made_here"] (spPkL K) := by
  refine cal_of F.1 F.2 sc_pkL (fun _ _ _ _ _ _ us e => match us, e with | [_, _], _ => rfl) (fun vs H Q E s => by obtain ⟨_, _, _, _, rfl, _⟩ := s; rfl) ?_
  intro cdv A outer s H vs Q E hr h
  obtain ⟨d, p, rows, ts, rfl, hd, ⟨as, hL, hz⟩, hst, hS, hlen, hq⟩ := h
  have hu := hu_of hr
  have sc := sc_pkL
  refine ⟨_, (pss_cons (ps_set (i := 2) sc.nd rfl (Or.inl rfl) (pe_lst pa_nil))
      (pss_cons (ps_for (passes_of rfl) rfl (pi_range1 rfl T.range (pa_cons (pe_callB call_len_seq (by rfl) T.len (by decide +kernel) (pa_cons (pv 1) pa_nil)) pa_nil)) (pg_name (i := 3) sc.nd rfl (Or.inl rfl))
        (pss_cons (ps_set (i := 4) sc.nd rfl (Or.inl rfl) (pe_ix ix_tup (pe_ix ix_list (pv 1) (pv 3) (fun _ _ => rfl)) pe_int (fun _ _ => rfl)))
        (pss_cons (ps_set (i := 5) sc.nd rfl (Or.inl rfl) (pe_cal c_law_stops hr (pa_cons (pv 0) (pa_cons (pv 4) pa_nil))))
        (pss_cons (ps_set (i := 6) sc.nd rfl (Or.inl rfl) (pe_cal c_law_paths hr (pa_cons (pv 0) (pa_cons (pv 4) pa_nil))))
        (pss_one (ps_for (passes_of rfl) rfl (pi_range1 rfl T.range (pa_cons (pe_callB call_len_seq (by rfl) T.len (by decide +kernel) (pa_cons (pv 4) pa_nil)) pa_nil)) (pg_name (i := 7) sc.nd rfl (Or.inl rfl))
          (pss_one (ps_if (pt_cmpR op_ne (pe_ix ix_tup (pv 4) (pv 7) (fun _ _ => rfl)) pe_str (nomark _))
            (pss_one (ps_for (passes_of rfl) rfl (pi_range1 rfl T.range (pa_cons (pe_callB call_len_seq (by rfl) T.len (by decide +kernel) (pa_cons (pv 1) pa_nil)) pa_nil)) (pg_name (i := 8) sc.nd rfl (Or.inl rfl))
              (pss_one (ps_if (PW.pt (pw_or (pt_cmpR op_gt (pv 7) pe_int (nomark _)) (pw_or1 (pt_cmpR op_lt (pv 3) (pv 8) (nomark _)))))
                (pss_cons (ps_set (i := 9) sc.nd rfl (Or.inl rfl) (pe_cal c_law_union hr (pa_cons (pv 0) (pa_cons (pe_slice sl_tupA (pv 4) (po_some (pv 7)) (po_some (pe_ix ix_list (pv 5) (pv 7) (fun _ _ => rfl)))) (pa_cons (pe_ix ix_tup (pe_ix ix_list (pv 1) (pv 8) (fun _ _ => rfl)) pe_int (fun _ _ => rfl)) pa_nil)))))
                (pss_one (ps_if (pt_cmpR op_notN (pv 9) pe_non (nomark _))
                  (pss_cons (ps_set (i := 10) sc.nd rfl (Or.inl rfl) (pe_cal c_law_tagged hr (pa_cons (pe_op op_catA (pe_op op_catA (pe_slice sl_tupA (pv 4) po_none (po_some (pv 7))) (pv 9)) (pe_slice sl_tupA (pv 4) (po_some (pe_ix ix_list (pv 5) (pv 7) (fun _ _ => rfl))) po_none)) pa_nil)))
                  (pss_one (ps_expr (pe_bm PySem.F.plainAttrs_list PySem.F.slot_list_append PySem.F.type_list_append mt_append (pv 2) (pa_cons (pe_tup (pa_cons (pv 10) (pa_cons (pv 3) (pa_cons (pe_ix ix_list (pv 6) (pv 7) (fun _ _ => rfl)) (pa_cons (pv 8) pa_nil))))) pa_nil)))))
                  pss_nil)))
                pss_nil))))
            pss_nil))))))))
      (pss_one (ps_ret (pv 2))))), ?_⟩
  have zl := paired_len hz
  have at_ : ∀ {j : Nat} {t : Trm}, ts[j]? = some t → ∃ a s r, atI (as.map V.ref) ((j : Nat) : Int) = some (.ref a) ∧ SqT K H a [.ref s, .ref r] ∧ SqT K H s (t.1.map V.str) := fun {j t} e => by
    obtain ⟨a, e1, s, r, h1, h2, _⟩ := paired_at hz e
    exact ⟨a, s, r, atI_nat (by rw [List.getElem?_map, e1]; rfl), h1, h2.sq⟩
  obtain ⟨ls, hls⟩ : ∃ ls, ls = ts.map (·.1) := ⟨_, rfl⟩
  rw [← hls] at hq
  have lsl : ls.length = ts.length := by rw [hls, List.length_map]
  have hS2 : ∀ m ∈ ls, m.length ≤ 100 := fun m hm => by
    rw [hls] at hm
    obtain ⟨t, ht, rfl⟩ := List.mem_map.mp hm
    exact (hS t ht).le
  refine ⟨by decide, fun D hD => ?_⟩
  have k0 := (Hs.start H).new (o := .lst []) hD
  have al : ∀ {xs : List V}, AllL [(D, HO.lst xs)] := AllL.cons AllL.nil
  refine ⟨_, rfl, p, _, rfl, .inl (SqL.of (k0.sub _ _ hL)), _, rfl, by rw [List.length_map]; omega, by rw [List.length_map]; omega, for_rng (n := (as.map V.ref).length) (fun i σ H' => ∃ (t3 t4 t5 t6 t7 t8 t9 t10 : Option V) (B : Hp) (vs : List V), σ = [some (.ref d), some (.ref p), some (.ref D), t3, t4, t5, t6, t7, t8, t9, t10] ∧ Same H B ∧ Hs B [(D, .lst vs)] H' ∧ ImA K B vs ((List.range i).flatMap (pkP rows ls)))
    ⟨none, none, none, none, none, none, none, none, H, [], rfl, Same.refl _, k0, .nil⟩ ?_ ?_⟩
  · rintro i σ H3 hi ⟨t3, t4, t5, t6, t7, t8, t9, t10, B, vs, rfl, sB, hh, im⟩
    rw [List.length_map, zl] at hi
    have s3 := sB.trans hh.sub
    obtain ⟨t0, et0⟩ : ∃ t, ts[i]? = some t := ⟨_, List.getElem?_eq_getElem hi⟩
    obtain ⟨a0, s0, r0, aa0, ta0, ts0⟩ := at_ et0
    obtain ⟨l, hl⟩ : ∃ l, l = t0.1 := ⟨_, rfl⟩
    rw [← hl] at ts0
    have eli : ls[i]? = some l := by rw [hls, List.getElem?_map, et0, hl]; rfl
    have hSl : StB rows l := by rw [hl]; exact hS _ (List.mem_of_getElem? et0)
    have hw := wt_len rows l
    have hle := hSl.le
    refine ⟨_, rfl, _, rfl, p, _, _, _, rfl, rfl, SqL.of (s3 _ _ hL), aa0, a0, _, _, _, rfl, rfl, Same.sqt s3 ta0, atI_nat (j := 0) rfl, ?_⟩
    refine ⟨_, rfl, _, rfl, d, s0, rows, l, rfl, s3 _ _ hd, Same.sqt s3 ts0, hSl.fo, by omega, fun H4 q5 s4 n5 e5 => ?_⟩
    have s34 := s3.trans s4
    refine ⟨_, rfl, _, rfl, d, s0, rows, l, rfl, s34 _ _ hd, Same.sqt s34 ts0, hSl.fo, by omega, fun H5 q6 ps6 s5 n6 e6 i6 => ?_⟩
    have s45 := s4.trans s5
    obtain ⟨f1, f2⟩ := hh.after s45
    have c5 : cut [(D, HO.lst vs)] H5 q5 = some (.lst (vN (ens (wt rows l)))) := by
      rw [cut_at (hh.out_new n5)]
      exact s5 _ _ e5
    have c6 : cut [(D, HO.lst vs)] H5 q6 = some (.lst ps6) := by
      rw [cut_at (hh.out_new (Same.free s4 n6))]
      exact e6
    have i6 := i6.mono (stay_cut hh al s45)
    generalize cut [(D, HO.lst vs)] H5 = B1 at *
    have sB1 := sB.trans f1
    refine ⟨_, rfl, s0, _, rfl, .inr (Same.sqt (s34.trans s5) ts0), _, rfl, by rw [List.length_map]; omega, by rw [List.length_map]; omega, for_rng (n := (l.map V.str).length) (fun k σ H' => ∃ (t7 t8 t9 t10 : Option V) (B2 : Hp) (vs : List V), σ = [some (.ref d), some (.ref p), some (.ref D), some (.int (i : Nat)), some (.ref s0), some (.ref q5), some (.ref q6), t7, t8, t9, t10] ∧ Same B1 B2 ∧ Hs B2 [(D, .lst vs)] H' ∧ ImA K B2 vs ((List.range i).flatMap (pkP rows ls) ++ (List.range k).flatMap (pkQ rows ls l i)))
      ⟨_, _, _, _, B1, vs, rfl, Same.refl _, f2, ?_⟩ ?_ ?_⟩
    · rw [show (List.range 0).flatMap (pkQ rows ls l i) = [] from rfl, List.append_nil]
      exact im.mono (Stay.of f1)
    · rintro k σ H6 hk ⟨u7, u8, u9, u10, B2, ws, rfl, sB2, h2, im2⟩
      rw [List.length_map] at hk
      have hkw : k < (wt rows l).length := by omega
      obtain ⟨y, ey⟩ : ∃ y, l[k]? = some y := ⟨_, List.getElem?_eq_getElem hk⟩
      have ay : atI (l.map V.str) ((k : Nat) : Int) = some (.str y) := atI_nat (by rw [List.getElem?_map, ey]; rfl)
      have s6 := (sB1.trans sB2).trans h2.sub
      refine ⟨_, rfl, _, rfl, s0, _, _, _, rfl, rfl, Same.sqt s6 ts0, ay, rfl, _, rfl, if_ndec (fun c => ?_) (fun c => ?_)⟩
      · have c : y ≠ "*" := fun z => c (by rw [z])
        obtain ⟨hbr, e1, e2⟩ := hSl.br hk
        have a5 : atI (vN (ens (wt rows l))) ((k : Nat) : Int) = some (.int (en (wt rows l) k : Nat)) := atI_nat (vN_at (ens_at hkw))
        refine ⟨_, rfl, p, _, rfl, .inl (SqL.of (s6 _ _ hL)), _, rfl, by rw [List.length_map]; omega, by rw [List.length_map]; omega, for_rng (n := (as.map V.ref).length) (fun j σ H' => ∃ (t8 t9 t10 : Option V) (B3 : Hp) (vs : List V), σ = [some (.ref d), some (.ref p), some (.ref D), some (.int (i : Nat)), some (.ref s0), some (.ref q5), some (.ref q6), some (.int (k : Nat)), t8, t9, t10] ∧ Same B1 B3 ∧ Hs B3 [(D, .lst vs)] H' ∧ ImA K B3 vs ((List.range i).flatMap (pkP rows ls) ++ (List.range k).flatMap (pkQ rows ls l i) ++ (List.range j).flatMap (pkG rows ls l i k)))
          ⟨_, _, _, B2, ws, rfl, sB2, h2, ?_⟩ ?_ ?_⟩
        · rw [show (List.range 0).flatMap (pkG rows ls l i k) = [] from rfl, List.append_nil]
          exact im2
        · rintro j σ H7 hj ⟨v8, v9, v10, B3, xs, rfl, sB3, h3, im3⟩
          rw [List.length_map, zl] at hj
          have s7 := (sB1.trans sB3).trans h3.sub
          obtain ⟨tj, etj⟩ : ∃ t, ts[j]? = some t := ⟨_, List.getElem?_eq_getElem hj⟩
          obtain ⟨aj, sj, rj, aaj, taj, tsj⟩ := at_ etj
          have elj : ls.getD j [] = tj.1 := getD_at (by rw [hls, List.getElem?_map, etj]; rfl)
          have hSj : StB rows tj.1 := hS _ (List.mem_of_getElem? etj)
          refine ⟨_, rfl, _, _, rfl, rfl, _, rfl, if_dec (fun c1 => ?_) (fun c1 => ?_)⟩
          · have hjk : 0 < k ∨ i < j := by
              left
              have : (0 : Int) < ((k : Nat) : Int) := c1
              omega
            have wl7 : xs.length ≤ 10000 := by
              have a1 := flat_le (f := pkP rows ls) (n := i) (k := 800) fun q _ => by
                have := pkP_le (rows := rows) q hS2
                omega
              have a2 := flat_le (f := pkQ rows ls l i) (n := k) fun q _ => pkQ_le rows ls l i q
              have a3 := flat_le (f := pkG rows ls l i k) (n := j) fun q _ => pkG_le rows ls l i k q
              have a4 : i * 800 ≤ 8 * 800 := Nat.mul_le_mul_right _ (by omega)
              have a5 : k * ls.length ≤ 100 * 8 := Nat.mul_le_mul (by omega) (by omega)
              rw [im3.len, List.length_append, List.length_append]
              omega
            have s17 := sB3.trans h3.sub
            have e57 := s17 _ _ c5
            refine iteT ⟨_, rfl, _, rfl, _, rfl, _, rfl, _, rfl, _, rfl, q5, _, _, _, rfl, rfl, SqL.of e57, a5, _, rfl, ?_⟩
            refine sl_any (cut_mid (by omega) (by rw [List.length_map]; omega)) (Same.sqt s7 ts0) fun p8 H8 s8 t8 => ?_
            rw [← List.map_drop, ← List.map_take] at t8
            have s78 := s7.trans s8
            refine ⟨_, rfl, _, rfl, p, _, _, _, rfl, rfl, SqL.of (s78 _ _ hL), aaj, aj, _, _, _, rfl, rfl, Same.sqt s78 taj, atI_nat (j := 0) rfl, d, p8, sj, rows, brF rows l k, tj.1, rfl, s78 _ _ hd, t8, Same.sqt s78 tsj, hst, hbr, hSj, fun eN H9 s9 => ?_, fun v eV hv H9 pv' s9 tv => ?_⟩
            · obtain ⟨f3, f4⟩ := h3.after (s8.trans s9)
              refine ⟨_, rfl, rfl, _, rfl, if_ndec (fun c => absurd rfl c) (fun _ => ⟨_, _, _, _, xs, rfl, sB3.trans f3, f4, ?_⟩)⟩
              have : pkG rows ls l i k j = [] := by
                unfold pkG
                rw [if_pos hjk, elj, eN]
              rw [flat_succ, this, List.append_nil]
              exact im3.mono (Stay.of f3)
            · have s79 := s78.trans s9
              refine ⟨_, rfl, rfl, _, rfl, if_ndec (fun _ => ?_) (fun c => nomatch c)⟩
              refine ⟨_, rfl, _, rfl, _, rfl, sl_any (cut_take (by rw [List.length_map]; omega)) (Same.sqt s79 ts0) fun p1 H10 s10 t1 => ?_⟩
              refine ⟨_, rfl, cat_any t1 (Same.sqt s10 tv) (by rw [List.length_take, List.length_map, List.length_map]; omega) fun p2 H11 s11 t2 => ?_⟩
              have s11b := s79.trans (s10.trans s11)
              have e511 := s11 _ _ (s10 _ _ (s9 _ _ (s8 _ _ e57)))
              refine ⟨_, rfl, _, rfl, _, rfl, q5, _, _, _, rfl, rfl, SqL.of e511, a5, _, rfl, ?_⟩
              dsimp only [tNoPart]
              refine sl_any (cut_drop (by rw [List.length_map]; omega)) (Same.sqt s11b ts0) fun p3 H12 s12 t3 => ?_
              refine cat_any (Same.sqt s12 t2) t3 (by rw [List.length_append, List.length_take, List.length_map, List.length_map, List.length_drop, List.length_map]; omega) fun p4 H13 s13 t4 => ?_
              rw [← List.map_take, ← List.map_drop, ← List.map_append, ← List.map_append] at t4
              refine ⟨p4, _, rfl, t4, by rw [List.length_append, List.length_append, List.length_take, List.length_drop]; omega, fun p9 H14 s14 t9 => ?_⟩
              have sAll := s8.trans (s9.trans (s10.trans (s11.trans (s12.trans (s13.trans s14)))))
              obtain ⟨f3, f4⟩ := h3.after sAll
              have t9 := (stay_cut h3 al sAll).sqt t9
              generalize cut [(D, HO.lst xs)] H14 = B4 at *
              have s1B := sB3.trans f3
              obtain ⟨v6, ev6, iv6⟩ := i6.get (i := k) (d := DN ((pths (wt rows l)).getD k [])) (by
                have : k < (pths (wt rows l)).length := by rw [pths, pth_len]; exact hkw
                rw [List.getElem?_map, List.getD_eq_getElem?_getD, List.getElem?_eq_getElem this]
                rfl)
              refine ⟨_, rfl, .inl ⟨rfl, _, SqL.of f4.r0⟩, _, rfl, _, rfl, _, rfl, _, rfl, q6, _, _, _, rfl, rfl, SqL.of ((s1B.trans f4.sub) _ _ c6), atI_nat ev6, _, rfl, (by show 4 ≤ sizeLine; decide), fun pT hT => ?_⟩
              have sT : Same B4 (upd B4 pT (.tup [.ref p9, .int (i : Nat), v6, .int (j : Nat)])) := up_same (f4.sub.free hT)
              have f5 := f4.tup (o := .tup [.ref p9, .int (i : Nat), v6, .int (j : Nat)]) hT
              refine ⟨D, _, _, rfl, rfl, f5.r0, by rw [sizeLine_eq]; omega, _, _, _, _, _, rfl, s1B.trans sT, f5.w0, ?_⟩
              have : pkG rows ls l i k j = [pkD rows l i k j v] := by
                unfold pkG
                rw [if_pos hjk, elj, eV]
              rw [flat_succ, this, ← List.append_assoc]
              exact (im3.mono (Stay.of (f3.trans sT))).snoc (.tup (SqT.of upd_same) (.cons (.tup (Same.sqt sT t9) (ImA.keys _)) (.cons (.int _) (.cons (iv6.mono (Stay.of (s1B.trans sT))) (.cons (.int _) .nil)))))
          · refine ⟨_, rfl, _, rfl, _, _, rfl, rfl, _, rfl, if_dec (fun c2 => ?_) (fun c2 => ?_)⟩
            · have hjk : 0 < k ∨ i < j := by
                right
                have : ((i : Nat) : Int) < ((j : Nat) : Int) := c2
                omega
              have wl7 : xs.length ≤ 10000 := by
                have a1 := flat_le (f := pkP rows ls) (n := i) (k := 800) fun q _ => by
                  have := pkP_le (rows := rows) q hS2
                  omega
                have a2 := flat_le (f := pkQ rows ls l i) (n := k) fun q _ => pkQ_le rows ls l i q
                have a3 := flat_le (f := pkG rows ls l i k) (n := j) fun q _ => pkG_le rows ls l i k q
                have a4 : i * 800 ≤ 8 * 800 := Nat.mul_le_mul_right _ (by omega)
                have a5 : k * ls.length ≤ 100 * 8 := Nat.mul_le_mul (by omega) (by omega)
                rw [im3.len, List.length_append, List.length_append]
                omega
              have s17 := sB3.trans h3.sub
              have e57 := s17 _ _ c5
              refine ⟨_, rfl, _, rfl, _, rfl, _, rfl, _, rfl, _, rfl, q5, _, _, _, rfl, rfl, SqL.of e57, a5, _, rfl, ?_⟩
              refine sl_any (cut_mid (by omega) (by rw [List.length_map]; omega)) (Same.sqt s7 ts0) fun p8 H8 s8 t8 => ?_
              rw [← List.map_drop, ← List.map_take] at t8
              have s78 := s7.trans s8
              refine ⟨_, rfl, _, rfl, p, _, _, _, rfl, rfl, SqL.of (s78 _ _ hL), aaj, aj, _, _, _, rfl, rfl, Same.sqt s78 taj, atI_nat (j := 0) rfl, d, p8, sj, rows, brF rows l k, tj.1, rfl, s78 _ _ hd, t8, Same.sqt s78 tsj, hst, hbr, hSj, fun eN H9 s9 => ?_, fun v eV hv H9 pv' s9 tv => ?_⟩
              · obtain ⟨f3, f4⟩ := h3.after (s8.trans s9)
                refine ⟨_, rfl, rfl, _, rfl, if_ndec (fun c => absurd rfl c) (fun _ => ⟨_, _, _, _, xs, rfl, sB3.trans f3, f4, ?_⟩)⟩
                have : pkG rows ls l i k j = [] := by
                  unfold pkG
                  rw [if_pos hjk, elj, eN]
                rw [flat_succ, this, List.append_nil]
                exact im3.mono (Stay.of f3)
              · have s79 := s78.trans s9
                refine ⟨_, rfl, rfl, _, rfl, if_ndec (fun _ => ?_) (fun c => nomatch c)⟩
                refine ⟨_, rfl, _, rfl, _, rfl, sl_any (cut_take (by rw [List.length_map]; omega)) (Same.sqt s79 ts0) fun p1 H10 s10 t1 => ?_⟩
                refine ⟨_, rfl, cat_any t1 (Same.sqt s10 tv) (by rw [List.length_take, List.length_map, List.length_map]; omega) fun p2 H11 s11 t2 => ?_⟩
                have s11b := s79.trans (s10.trans s11)
                have e511 := s11 _ _ (s10 _ _ (s9 _ _ (s8 _ _ e57)))
                refine ⟨_, rfl, _, rfl, _, rfl, q5, _, _, _, rfl, rfl, SqL.of e511, a5, _, rfl, ?_⟩
                dsimp only [tNoPart]
                refine sl_any (cut_drop (by rw [List.length_map]; omega)) (Same.sqt s11b ts0) fun p3 H12 s12 t3 => ?_
                refine cat_any (Same.sqt s12 t2) t3 (by rw [List.length_append, List.length_take, List.length_map, List.length_map, List.length_drop, List.length_map]; omega) fun p4 H13 s13 t4 => ?_
                rw [← List.map_take, ← List.map_drop, ← List.map_append, ← List.map_append] at t4
                refine ⟨p4, _, rfl, t4, by rw [List.length_append, List.length_append, List.length_take, List.length_drop]; omega, fun p9 H14 s14 t9 => ?_⟩
                have sAll := s8.trans (s9.trans (s10.trans (s11.trans (s12.trans (s13.trans s14)))))
                obtain ⟨f3, f4⟩ := h3.after sAll
                have t9 := (stay_cut h3 al sAll).sqt t9
                generalize cut [(D, HO.lst xs)] H14 = B4 at *
                have s1B := sB3.trans f3
                obtain ⟨v6, ev6, iv6⟩ := i6.get (i := k) (d := DN ((pths (wt rows l)).getD k [])) (by
                  have : k < (pths (wt rows l)).length := by rw [pths, pth_len]; exact hkw
                  rw [List.getElem?_map, List.getD_eq_getElem?_getD, List.getElem?_eq_getElem this]
                  rfl)
                refine ⟨_, rfl, .inl ⟨rfl, _, SqL.of f4.r0⟩, _, rfl, _, rfl, _, rfl, _, rfl, q6, _, _, _, rfl, rfl, SqL.of ((s1B.trans f4.sub) _ _ c6), atI_nat ev6, _, rfl, (by show 4 ≤ sizeLine; decide), fun pT hT => ?_⟩
                have sT : Same B4 (upd B4 pT (.tup [.ref p9, .int (i : Nat), v6, .int (j : Nat)])) := up_same (f4.sub.free hT)
                have f5 := f4.tup (o := .tup [.ref p9, .int (i : Nat), v6, .int (j : Nat)]) hT
                refine ⟨D, _, _, rfl, rfl, f5.r0, by rw [sizeLine_eq]; omega, _, _, _, _, _, rfl, s1B.trans sT, f5.w0, ?_⟩
                have : pkG rows ls l i k j = [pkD rows l i k j v] := by
                  unfold pkG
                  rw [if_pos hjk, elj, eV]
                rw [flat_succ, this, ← List.append_assoc]
                exact (im3.mono (Stay.of (f3.trans sT))).snoc (.tup (SqT.of upd_same) (.cons (.tup (Same.sqt sT t9) (ImA.keys _)) (.cons (.int _) (.cons (iv6.mono (Stay.of (s1B.trans sT))) (.cons (.int _) .nil)))))
            · refine ⟨_, _, _, B3, xs, rfl, sB3, h3, ?_⟩
              rw [flat_succ, pkG, if_neg (by omega), List.append_nil]
              exact im3
        · rintro σ H7 ⟨v8, v9, v10, B3, xs, rfl, sB3, h3, im3⟩
          rw [List.length_map, zl, ← lsl] at im3
          refine ⟨_, _, _, _, B3, xs, rfl, sB3, h3, ?_⟩
          rw [flat_succ, pkQ, if_neg (by rw [getD_at ey]; exact c), ← List.append_assoc]
          exact im3
      · have c : y = "*" := V.str.inj c
        refine ⟨_, _, _, _, B2, ws, rfl, sB2, h2, ?_⟩
        rw [flat_succ, pkQ, if_pos (by rw [getD_at ey]; exact c), List.append_nil]
        exact im2
    · rintro σ H6 ⟨u7, u8, u9, u10, B2, ws, rfl, sB2, h2, im2⟩
      rw [List.length_map] at im2
      refine ⟨_, _, _, _, _, _, _, _, B2, ws, rfl, sB1.trans sB2, h2, ?_⟩
      rw [flat_succ, pkP, getD_at eli]
      exact im2
  · rintro σ H3 ⟨t3, t4, t5, t6, t7, t8, t9, t10, B, vs, rfl, sB, hh, im⟩
    rw [List.length_map, zl, ← lsl] at im
    exact ⟨_, rfl, hq _ _ vs (sB.trans hh.sub) hD hh.r0 (im.mono (Stay.of hh.sub))⟩
end
end Sy
/-! _law_held -/
namespace Sy
open PySem PySem.Spec PyProof.Rows L2 LamX NdefX
theorem mkT_of {K : PySem.W.Frag} {tb b a r : Addr} {H : Hp} {rows : List Sy.Row} {l : List Str} {ks : List Key} {Q : Addr → Hp → Prop} {E : XK} (hb : BedAt K H b rows) (ha : SqZ K H a (l.map V.str)) (hR : SqT K H r (ks.map kV)) (k1 : ∀ x ∈ l, PyData.strOk x = true) (l1 : l.length ≤ 10000) (l2 : ks.length ≤ 10000) (tbi : TbI tb H) (due : ctDue rows l ks = none)
    (hq : ∀ x H', StayT H H' → TbI tb H' → TrmAt K H' x rows l ks → Q x H') : ∀ x dx, H x = none → H dx = none → dx ≠ x → spInitT K tb (.ref x :: ([.ref b, .ref a, .ref r] ++ [])) (upd (upd H dx (.own x)) x (.ins (He.ga K "Trim") dx [])) (fun v H2 => v = .non ∧ Q x H2) E := by
  intro x dx hx hdx hne
  have s1 : Same H (upd (upd H dx (.own x)) x (.ins (He.ga K "Trim") dx [])) := (up_same hdx).trans (up_same (by rw [upd_ne (fun z => hne z.symm)]; exact hx))
  have ex : upd (upd H dx (.own x)) x (.ins (He.ga K "Trim") dx []) x = some (.ins (He.ga K "Trim") dx []) := upd_same
  generalize upd (upd H dx (.own x)) x (.ins (He.ga K "Trim") dx []) = H1 at *
  refine ⟨x, b, a, r, dx, rows, l, ks, rfl, ex, hb.mono (Stay.of s1), Same.sqt s1 ha.sq, (ha.same s1).nd, Same.sqt s1 hR, k1, by omega, by omega, tbi.same s1, fun _ H2 kp tb2 tr => ⟨rfl, ?_⟩, fun e he => by rw [due] at he; cases he⟩
  exact hq x H2 (fun c o e n => kp c o (fun z => by rw [z, hx] at e; cases e) (s1 _ _ e) n) tb2 tr
theorem TrmAt.stay {K : PySem.W.Frag} {H H' : Hp} {x : Addr} {rows : List Sy.Row} {l : List Str} {ks : List Key} (h : TrmAt K H x rows l ks) (s : Stay H H') : TrmAt K H' x rows l ks := by
  obtain ⟨dx, b, st, r, h1, h2, h3, h4⟩ := h.ex
  exact ⟨dx, b, st, r, s _ _ h1 (fun _ z => by cases z), h2.mono s, s.sqt h3, s.sqt h4⟩
theorem stay_put {H : Hp} {D : Addr} {xs ys : List V} (h : H D = some (.lst xs)) : Stay H (upd H D (.lst ys)) := fun a w e n => by
  by_cases z : a = D
  · rw [z, h] at e
    exact absurd (Option.some.inj e).symm (n xs)
  · rw [upd_ne z]
    exact e
theorem stayT_put {H H' : Hp} {D : Addr} {ys : List V} (s : StayT H H') (hD : H D = none) : StayT H (upd H' D (.lst ys)) := fun a o e n => by
  rw [upd_ne (fun z => by rw [z, hD] at e; cases e)]
  exact s a o e n
theorem GdT.ne {rows : List Sy.Row} {m : Nat} {t : Trm} (h : GdT rows m t) : t.1 ≠ [] := by
  obtain ⟨x, l, e, _⟩ := h.1.hd
  rw [e]
  exact fun z => nomatch z
section
variable {P : Program} {w : World} {K : PySem.W.Frag} {mg : Str → Option Value} {base : Heap}
def spHeld (K : PySem.W.Frag) (tb : Addr) : Sp := fun vs H Q _ => ∃ (a M : Addr) (rows : List Sy.Row) (ts : List Trm), vs = [.ref a, .ref M] ∧ BdO K H a rows ∧ ML K H M ts ∧ KdsOk rows ∧ (∀ t ∈ ts, GdT rows 7 t) ∧ ts.length ≤ 4 ∧ TbI tb H ∧ ∀ x H', StayT H H' → TbI tb H' → TrmsAt K H' x rows ts "trims" → Q (.ref x) H'
abbrev N_held : List Str := ["_law_bed_here", "_law_made_here", "_law_given", "_law_pair"]
theorem sc_held : FnScope N_held ["_law_bed_here", "_law_made_here"] (defScope (top 60)) := ⟨rfl, rfl, rfl, by decide +kernel, rfl, by decide +kernel, by decide +kernel⟩
theorem k_held {tb : Addr} {fT : FuncData} (T : Txt K mg) (F : DF K mg "_law_held" 60) (MT : Mk K (He.ga K "Trim") (He.ma K (He.ga K "Trim") "__init__")) (aT : mg "Trim" = some (.ref (He.ga K "Trim")))
    (FT : FnOk P w K mg base (L2.CX P w) (5 + 1) (He.ma K (He.ga K "Trim") "__init__") fT ["self", "bed", "stump", "result"] (spInitT K tb)) (BT : L2.Binds K fT ["self", "bed", "stump", "result"] [])
    (MS : Mk K (He.ga K "Trims") (He.ma K (He.ga K "Trims") "__init__")) (aS : mg "Trims" = some (.ref (He.ga K "Trims"))) (FS : FnS P w K mg base (3 + 1) (He.ma K (He.ga K "Trims") "__init__") 2 "name" (.str "trims") (spInitS K)) : Cal P w K mg base 8 "_law_held" ["_law_bed_here", "_law_made_here"] (spHeld K tb) := by
  refine cal_of F.1 F.2 sc_held (fun _ _ _ _ _ _ us e => match us, e with | [_, _], _ => rfl) (fun vs H Q E s => by obtain ⟨_, _, _, _, rfl, _⟩ := s; rfl) ?_
  intro cdv A outer s H vs Q E hr h
  obtain ⟨a, M, rows, ts, rfl, hb, ⟨as, hM, hz⟩, ok, hgd, hl4, tbi, hq⟩ := h
  have sc := sc_held
  refine ⟨_, (pss_cons (ps_setLc (i := 2) (own := [("_law_pair", 3)]) (g := gName 3) rfl sc.nd rfl rfl (sw_true rfl rfl rfl (by decide +kernel)) (pi_list (pv 1)) (blkOk_by (N := N_held) (sc := defScope (top 60)) (by decide +kernel)) (fun _ _ _ _ _ => (pg_name (i := 3) sc.nd rfl (Or.inl rfl))) (fun _ _ _ _ _ => pts_nil) (fun _ _ _ _ _ => (pe_makeX MT FT hr rfl aT BT .nil LamX.takes0 (pa_cons (pv 0) (pa_cons (pe_ixTK K rfl (pv 3) pe_int (fun _ _ => rfl)) (pa_cons (pe_ixTK K rfl (pv 3) pe_int (fun _ _ => rfl)) pa_nil))))))
      (pss_cons (ps_if (pt_cmpR op_eq (pe_callB call_len_seq (by rfl) T.len (by decide +kernel) (pa_cons (pv 2) pa_nil)) pe_int (nomark _))
        (pss_one (ps_ret (pe_mkS MS FS hr rfl aS (takes_of rfl rfl rfl rfl) (pa_cons (pv 0) pa_nil))))
        pss_nil)
      (pss_cons (ps_if (pt_cmpR op_eq (pe_callB call_len_seq (by rfl) T.len (by decide +kernel) (pa_cons (pv 2) pa_nil)) pe_int (nomark _))
        (pss_one (ps_ret (pe_mkS MS FS hr rfl aS (takes_of rfl rfl rfl rfl) (pa_cons (pv 0) (pa_cons (pe_ix ix_list (pv 2) pe_int (fun _ _ => rfl)) pa_nil)))))
        pss_nil)
      (pss_cons (ps_if (pt_cmpR op_eq (pe_callB call_len_seq (by rfl) T.len (by decide +kernel) (pa_cons (pv 2) pa_nil)) pe_int (nomark _))
        (pss_one (ps_ret (pe_mkS MS FS hr rfl aS (takes_of rfl rfl rfl rfl) (pa_cons (pv 0) (pa_cons (pe_ix ix_list (pv 2) pe_int (fun _ _ => rfl)) (pa_cons (pe_ix ix_list (pv 2) pe_int (fun _ _ => rfl)) pa_nil))))))
        pss_nil)
      (pss_cons (ps_if (pt_cmpR op_eq (pe_callB call_len_seq (by rfl) T.len (by decide +kernel) (pa_cons (pv 2) pa_nil)) pe_int (nomark _))
        (pss_one (ps_ret (pe_mkS MS FS hr rfl aS (takes_of rfl rfl rfl rfl) (pa_cons (pv 0) (pa_cons (pe_ix ix_list (pv 2) pe_int (fun _ _ => rfl)) (pa_cons (pe_ix ix_list (pv 2) pe_int (fun _ _ => rfl)) (pa_cons (pe_ix ix_list (pv 2) pe_int (fun _ _ => rfl)) pa_nil)))))))
        pss_nil)
      (pss_one (ps_ret (pe_mkS MS FS hr rfl aS (takes_of rfl rfl rfl rfl) (pa_cons (pv 0) (pa_cons (pe_ix ix_list (pv 2) pe_int (fun _ _ => rfl)) (pa_cons (pe_ix ix_list (pv 2) pe_int (fun _ _ => rfl)) (pa_cons (pe_ix ix_list (pv 2) pe_int (fun _ _ => rfl)) (pa_cons (pe_ix ix_list (pv 2) pe_int (fun _ _ => rfl)) pa_nil))))))))))))), ?_⟩
  have zl := paired_len hz
  refine ⟨_, rfl, M, rfl, ⟨_, SqL.of hM⟩, fun D hD => lc_it (walk_list (K := K) (a := M) (xs := as.map V.ref)) (fun i H' => ∃ gs : List Addr, H' D = some (.lst (gs.map V.ref)) ∧ StayT H H' ∧ TbI tb H' ∧ Paired (TmZ K H') gs ((ts.take i).map fun t => (rows, t))) ⟨[], upd_same, StayT.of (up_same hD), tbi.same (up_same hD), .nil⟩ (fun _ _ _ ⟨_, _, s, _⟩ => SqL.of (s _ _ hM lst_nt)) ?_ ?_⟩
  · rintro i v _ H2 hi ⟨gs, eD, sT, tb2, hp⟩ ⟨rfl, hv⟩
    obtain ⟨x, hx, rfl⟩ := map_at hv
    rw [List.length_map] at hi
    obtain ⟨t, et⟩ : ∃ t, ts[i]? = some t := ⟨_, List.getElem?_eq_getElem (by omega)⟩
    obtain ⟨x', ex', sA, rA, q1, q2, q3⟩ := paired_at hz et
    obtain rfl : x = x' := by rw [hx] at ex'; exact Option.some.inj ex'
    have gt := hgd t (List.mem_of_getElem? et)
    have l1 := gt.1.le
    have l2 := gt.2.le
    refine ⟨rfl, ?_⟩
    simp only [tYes, if_true]
    have r1 := sT.sqt q1
    refine ⟨_, rfl, _, rfl, x, _, _, _, rfl, rfl, r1, atI_nat (j := 0) rfl, _, rfl, x, _, _, _, rfl, rfl, r1, atI_nat (j := 1) rfl, ?_⟩
    dsimp only [tNil]
    refine mkT_of (sT.bdo hb).1 (sT.sqz q2) (sT.sqt q3) gt.sok.1 (by omega) (by omega) tb2 (gd_due ok ok (fun _ h => h) (by decide) gt) fun x' H' s' t' tr => ?_
    have eD' := s' _ _ eD lst_nt
    have gl := paired_len hp
    rw [List.length_map, List.length_take] at gl
    have sp := stay_put (ys := gs.map V.ref ++ [.ref x']) eD'
    refine ⟨_, eD', by rw [List.length_map, sizeLine_eq]; omega, gs ++ [x'], by rw [upd_same, List.map_append]; rfl, stayT_put (sT.trans s') hD, t'.stay sp, ?_⟩
    rw [List.take_succ, et, List.map_append]
    exact paired_snoc ⟨tr.stay sp, ok.sok⟩ (Paired.mapP hp fun _ _ z => ⟨((s'.tmz z).1).stay sp, z.2⟩)
  · rintro H2 ⟨gs, eD, sT, tb2, hp⟩
    rw [List.length_map, zl, List.take_length] at hp
    have gl := paired_len hp
    rw [List.length_map] at gl
    have key : ∀ {Q2 : VK} {E2 : XK}, (∀ x H', StayT H H' → TbI tb H' → TrmsAt K H' x rows ts "trims" → Q2 (.ref x) H') → tMakeS (He.ga K "Trims") 2 (.str "trims") (spInitS K) E2 (.ref a :: gs.map V.ref) H2 Q2 := fun {Q2 E2} hq2 =>
      mkS_of (sT.bdo hb) hp (by rw [List.length_map]; omega) (fun z hz => by
        obtain ⟨t, ht, rfl⟩ := List.mem_map.mp hz
        exact (hgd t ht).ne) (fun ⟨z, hz, hn⟩ => by
        obtain ⟨t, ht, rfl⟩ := List.mem_map.mp hz
        exact absurd rfl hn) (fun _ z => absurd z (by rw [List.length_map]; omega)) fun _ _ x H' s' _ tr => by
        refine hq2 x H' (sT.trans (StayT.of s')) (tb2.same s') ?_
        rw [List.map_map] at tr
        have e : ts.map ((·.2) ∘ fun t => (rows, t)) = ts := by
          rw [show ((·.2) ∘ fun t : Trm => (rows, t)) = id from rfl, List.map_id]
        rw [e] at tr
        exact tr
    have eL := SqL.of (K := K) eD
    have at_ : ∀ {j : Nat} {g : Addr}, gs[j]? = some g → atI (gs.map V.ref) ((j : Nat) : Int) = some (.ref g) := fun e => atI_nat (by rw [List.getElem?_map, e]; rfl)
    refine ⟨_, rfl, D, _, rfl, .inl eL, rfl, _, rfl, if_dec (fun c => ?_) (fun c0 => ?_)⟩
    · have c : gs.length = 0 := by have := V.int.inj c; rw [List.length_map] at this; omega
      have e : gs = [] := List.length_eq_zero_iff.mp c
      rw [e] at key
      exact ⟨_, rfl, key hq⟩
    refine ⟨_, rfl, D, _, rfl, .inl eL, rfl, _, rfl, if_dec (fun c => ?_) (fun c1 => ?_)⟩
    · have c : gs.length = 1 := by have := V.int.inj c; rw [List.length_map] at this; omega
      obtain ⟨g0, e⟩ : ∃ g0, gs = [g0] := match gs, c with | [g0], _ => ⟨g0, rfl⟩
      subst e
      exact ⟨_, rfl, _, rfl, D, _, _, _, rfl, rfl, eL, at_ (j := 0) rfl, key hq⟩
    refine ⟨_, rfl, D, _, rfl, .inl eL, rfl, _, rfl, if_dec (fun c => ?_) (fun c2 => ?_)⟩
    · have c : gs.length = 2 := by have := V.int.inj c; rw [List.length_map] at this; omega
      obtain ⟨g0, g1, e⟩ : ∃ g0 g1, gs = [g0, g1] := match gs, c with | [g0, g1], _ => ⟨g0, g1, rfl⟩
      subst e
      exact ⟨_, rfl, _, rfl, D, _, _, _, rfl, rfl, eL, at_ (j := 0) rfl, _, rfl, D, _, _, _, rfl, rfl, eL, at_ (j := 1) rfl, key hq⟩
    refine ⟨_, rfl, D, _, rfl, .inl eL, rfl, _, rfl, if_dec (fun c => ?_) (fun c3 => ?_)⟩
    · have c : gs.length = 3 := by have := V.int.inj c; rw [List.length_map] at this; omega
      obtain ⟨g0, g1, g2, e⟩ : ∃ g0 g1 g2, gs = [g0, g1, g2] := match gs, c with | [g0, g1, g2], _ => ⟨g0, g1, g2, rfl⟩
      subst e
      exact ⟨_, rfl, _, rfl, D, _, _, _, rfl, rfl, eL, at_ (j := 0) rfl, _, rfl, D, _, _, _, rfl, rfl, eL, at_ (j := 1) rfl, _, rfl, D, _, _, _, rfl, rfl, eL, at_ (j := 2) rfl, key hq⟩
    · have h0 : gs.length ≠ 0 := fun z => c0 (by rw [List.length_map, z]; rfl)
      have h1 : gs.length ≠ 1 := fun z => c1 (by rw [List.length_map, z]; rfl)
      have h2 : gs.length ≠ 2 := fun z => c2 (by rw [List.length_map, z]; rfl)
      have h3 : gs.length ≠ 3 := fun z => c3 (by rw [List.length_map, z]; rfl)
      have c : gs.length = 4 := by omega
      obtain ⟨g0, g1, g2, g3, e⟩ : ∃ g0 g1 g2 g3, gs = [g0, g1, g2, g3] := match gs, c with | [g0, g1, g2, g3], _ => ⟨g0, g1, g2, g3, rfl⟩
      subst e
      exact ⟨_, rfl, _, rfl, D, _, _, _, rfl, rfl, eL, at_ (j := 0) rfl, _, rfl, D, _, _, _, rfl, rfl, eL, at_ (j := 1) rfl, _, rfl, D, _, _, _, rfl, rfl, eL, at_ (j := 2) rfl, _, rfl, D, _, _, _, rfl, rfl, eL, at_ (j := 3) rfl, key hq⟩
end
end Sy
namespace Sy
open PySem PySem.Spec PyProof.Rows L2
/-- data of at most that depth -/
def Fit : Nat → PyData → Prop
  | _, .none => True
  | _, .bool _ => True
  | _, .int _ => True
  | _, .str _ => True
  | n + 1, .tuple ds => ds.length ≤ 1000000 ∧ ∀ d ∈ ds, Fit n d
  | _, _ => False
theorem tyx_tup {K : PySem.W.Frag} {H : Hp} {a : Addr} {xs : List V} (h : SqT K H a xs) : TyX K H (.ref a) (.type "tuple") := by
  rcases h with (h | ⟨o, h⟩) | ⟨o, its, n, hk, hc, _⟩
  · exact .base (.tup h)
  · exact .fTuple h
  · exact .kTuple hk hc
section
variable {P : Program} {w : World} {K : PySem.W.Frag} {mg : Str → Option Value} {base : Heap}
def spSame (K : PySem.W.Frag) (n : Nat) : Sp := fun vs H Q _ => ∃ (x y : V) (d : PyData), vs = [x, y] ∧ Im K H x d ∧ Im K H y d ∧ Fit n d ∧ Q (.bl true) H
abbrev N_same : List Str := ["_law_actual", "_law_due", "_law_k"]
theorem sc_same : FnScope N_same ["_law_actual", "_law_due"] (defScope (top 69)) := ⟨rfl, rfl, rfl, by decide +kernel, rfl, by decide +kernel, by decide +kernel⟩
/-- the names of the built-in classes that are asked for -/
structure TxtC (mg : Str → Option Value) : Prop where
  tuple : mg "tuple" = none
  bool : mg "bool" = none
  int : mg "int" = none
  str : mg "str" = none
  isinstance : mg "isinstance" = none
  len : mg "len" = none
  range : mg "range" = none
theorem k_same (T : TxtC mg) (F : DF K mg "_law_same" 69) : ∀ n : Nat, Cal P w K mg base (n + 1) "_law_same" ["_law_actual", "_law_due"] (spSame K n) := by
  -- what is no tuple
  have flat : ∀ (k : Nat) (cdv : Value) (A : Around) (outer : List Env) (s : Shared) (H : Hp) (E : XK), Room k (A.deeper (envOfC "_law_same" (defScope (top 69)) s.heap.objs.size (He.ga K "_law_same") cdv)) →
      ∃ t, PSs (cxOf (L2.CX P w) P w K mg base N_same "_law_same" (defScope (top 69)) (He.ga K "_law_same") cdv A outer s H E) ((defBody (top 69)).drop 2) t ∧ ∀ (D : Ends) (Q : VK) (x y : V) (d : PyData), Im K H x d → Im K H y d → D.rt = Q → (∀ ds, d ≠ .tuple ds) → d ≠ .none → Q (.bl true) H → t D [some x, some y, none] H := by
    intro k cdv A outer s H E hr
    refine ⟨_, (pss_cons (ps_if (pt_val (pe_callB call_isi (by rfl) T.isinstance (by decide +kernel) (pa_cons (pv 1) (pa_cons (pe_bltn (v := .ty "bool") (by rfl) T.bool (by decide +kernel) rfl) pa_nil))))
        (pss_one (ps_ret (pe_and (pe_callB call_isi (by rfl) T.isinstance (by decide +kernel) (pa_cons (pv 0) (pa_cons (pe_bltn (v := .ty "bool") (by rfl) T.bool (by decide +kernel) rfl) pa_nil))) (pe_one (pe_cmpR op_eq (pv 0) (pv 1) (nomark _))))))
        pss_nil)
      (pss_cons (ps_if (pt_val (pe_callB call_isi (by rfl) T.isinstance (by decide +kernel) (pa_cons (pv 1) (pa_cons (pe_bltn (v := .ty "str") (by rfl) T.str (by decide +kernel) rfl) pa_nil))))
        (pss_one (ps_ret (pe_and (pe_callB call_isi (by rfl) T.isinstance (by decide +kernel) (pa_cons (pv 0) (pa_cons (pe_bltn (v := .ty "str") (by rfl) T.str (by decide +kernel) rfl) pa_nil))) (pe_one (pe_cmpR op_eq (pv 0) (pv 1) (nomark _))))))
        pss_nil)
      (pss_one (ps_ret (pe_and (pe_callB call_isi (by rfl) T.isinstance (by decide +kernel) (pa_cons (pv 0) (pa_cons (pe_bltn (v := .ty "int") (by rfl) T.int (by decide +kernel) rfl) pa_nil))) (pe_and (pe_not (pe_callB call_isi (by rfl) T.isinstance (by decide +kernel) (pa_cons (pv 0) (pa_cons (pe_bltn (v := .ty "bool") (by rfl) T.bool (by decide +kernel) rfl) pa_nil)))) (pe_one (pe_cmpR op_eq (pv 0) (pv 1) (nomark _))))))))), ?_⟩
    intro D Q x y d ix iy hD nt nn hq
    cases ix with
    | non => exact absurd rfl nn
    | tup _ _ => exact absurd rfl (nt _)
    | bl b =>
      cases iy
      refine ⟨_, rfl, _, _, _, _, true, rfl, .ty _, .base (.bl b), kit_ty (by decide +kernel), _, rfl, iteT ?_⟩
      refine ⟨_, rfl, _, _, _, _, true, rfl, .ty _, .base (.bl b), kit_ty (by decide +kernel), _, rfl, iteT ?_⟩
      refine ⟨_, rfl, _, rfl, rfl, ?_⟩
      rw [hD, decide_eq_true rfl]
      exact hq
    | int i =>
      cases iy
      refine ⟨_, rfl, _, _, _, _, false, rfl, .ty _, .base (.int i), kit_ty (by decide +kernel), _, rfl, iteF ?_⟩
      refine ⟨_, rfl, _, _, _, _, false, rfl, .ty _, .base (.int i), kit_ty (by decide +kernel), _, rfl, iteF ?_⟩
      refine ⟨_, rfl, _, _, _, _, true, rfl, .ty _, .base (.int i), kit_ty (by decide +kernel), _, rfl, iteT ?_⟩
      refine ⟨_, rfl, _, _, _, _, false, rfl, .ty _, .base (.int i), kit_ty (by decide +kernel), _, rfl, _, rfl, iteT ?_⟩
      refine ⟨_, rfl, _, rfl, rfl, ?_⟩
      rw [hD, decide_eq_true rfl]
      exact hq
    | str z =>
      cases iy
      refine ⟨_, rfl, _, _, _, _, false, rfl, .ty _, .base (.str z), kit_ty (by decide +kernel), _, rfl, iteF ?_⟩
      refine ⟨_, rfl, _, _, _, _, true, rfl, .ty _, .base (.str z), kit_ty (by decide +kernel), _, rfl, iteT ?_⟩
      refine ⟨_, rfl, _, _, _, _, true, rfl, .ty _, .base (.str z), kit_ty (by decide +kernel), _, rfl, iteT ?_⟩
      refine ⟨_, rfl, _, rfl, rfl, ?_⟩
      rw [hD, decide_eq_true rfl]
      exact hq
  have len : ∀ n vs H Q E, spSame K n vs H Q E → vs.length = (["_law_actual", "_law_due"] : List Str).length := fun n vs H Q E s => by obtain ⟨_, _, _, rfl, _⟩ := s; rfl
  -- what is asked of all but a tuple
  have notT : ∀ {H : Hp} {y : V} {d : PyData}, Im K H y d → (∀ ds, d ≠ .tuple ds) → ∃ t, TyX K H y t ∧ PySem.W.kitOne K t (.type "tuple") = some false := by
    intro H y d iy nt
    cases iy with
    | non => exact ⟨_, .base .non, kit_ty (by decide +kernel)⟩
    | bl b => exact ⟨_, .base (.bl b), kit_ty (by decide +kernel)⟩
    | int i => exact ⟨_, .base (.int i), kit_ty (by decide +kernel)⟩
    | str z => exact ⟨_, .base (.str z), kit_ty (by decide +kernel)⟩
    | tup _ _ => exact absurd rfl (nt _)
  intro n
  induction n with
  | zero =>
    refine cal_of F.1 F.2 sc_same (fun _ _ _ _ _ _ us e => match us, e with | [_, _], _ => rfl) (len 0) ?_
    intro cdv A outer s H vs Q E hr h
    obtain ⟨x, y, d, rfl, ix, iy, fit, hq⟩ := h
    obtain ⟨t, pt, ht⟩ := flat 0 cdv A outer s H E hr
    refine ⟨_, (pss_cons (ps_if (pt_val (pe_callB call_isi (by rfl) T.isinstance (by decide +kernel) (pa_cons (pv 1) (pa_cons (pe_bltn (v := .ty "tuple") (by rfl) T.tuple (by decide +kernel) rfl) pa_nil))))
        (pss_cons ps_never (pss_cons ps_never (pss_one ps_never)))
        pss_nil)
      (pss_cons (ps_if (pt_cmpR op_isN (pv 1) pe_non (nomark _))
        (pss_one (ps_ret (pe_cmpR op_isN (pv 0) pe_non (nomark _))))
        pss_nil)
      pt)), ?_⟩
    have nt : ∀ ds, d ≠ .tuple ds := fun ds z => by rw [z] at fit; exact fit
    obtain ⟨ty, h1, h2⟩ := notT iy nt
    refine ⟨_, rfl, _, _, _, _, false, rfl, .ty _, h1, h2, _, rfl, iteF ⟨_, rfl, rfl, _, rfl, if_dec (fun c => ?_) (fun c => ?_)⟩⟩
    · subst c
      cases iy
      cases ix
      refine ⟨_, rfl, rfl, ?_⟩
      rw [decide_eq_true rfl]
      exact hq
    · exact ht _ Q x y d ix iy rfl nt (fun z => by subst z; cases iy; exact c rfl) hq
  | succ n ih =>
    refine cal_of F.1 F.2 sc_same (fun _ _ _ _ _ _ us e => match us, e with | [_, _], _ => rfl) (len (n + 1)) ?_
    intro cdv A outer s H vs Q E hr h
    obtain ⟨x, y, d, rfl, ix, iy, fit, hq⟩ := h
    have sc := sc_same
    obtain ⟨t, pt, ht⟩ := flat (n + 1) cdv A outer s H E hr
    refine ⟨_, (pss_cons (ps_if (pt_val (pe_callB call_isi (by rfl) T.isinstance (by decide +kernel) (pa_cons (pv 1) (pa_cons (pe_bltn (v := .ty "tuple") (by rfl) T.tuple (by decide +kernel) rfl) pa_nil))))
        (pss_cons (ps_if (PW.pt (pw_or (pt_not (pt_val (pe_callB call_isi (by rfl) T.isinstance (by decide +kernel) (pa_cons (pv 0) (pa_cons (pe_bltn (v := .ty "tuple") (by rfl) T.tuple (by decide +kernel) rfl) pa_nil))))) (pw_or1 (pt_cmpR op_ne (pe_callB call_len_seq (by rfl) T.len (by decide +kernel) (pa_cons (pv 0) pa_nil)) (pe_callB call_len_seq (by rfl) T.len (by decide +kernel) (pa_cons (pv 1) pa_nil)) (nomark _)))))
          (pss_one (ps_ret pe_bl))
          pss_nil)
        (pss_cons (ps_for (passes_of rfl) rfl (pi_range1 rfl T.range (pa_cons (pe_callB call_len_seq (by rfl) T.len (by decide +kernel) (pa_cons (pv 1) pa_nil)) pa_nil)) (pg_name (i := 2) sc.nd rfl (Or.inl rfl))
          (pss_one (ps_if (pt_not (pt_val (pe_cal ih hr (pa_cons (pe_ix ix_tup (pv 0) (pv 2) (fun _ _ => rfl)) (pa_cons (pe_ix ix_tup (pv 1) (pv 2) (fun _ _ => rfl)) pa_nil)) (Nat.le_refl _))))
            (pss_one (ps_ret pe_bl))
            pss_nil)))
        (pss_one (ps_ret pe_bl))))
        pss_nil)
      (pss_cons (ps_if (pt_cmpR op_isN (pv 1) pe_non (nomark _))
        (pss_one (ps_ret (pe_cmpR op_isN (pv 0) pe_non (nomark _))))
        pss_nil)
      pt)), ?_⟩
    by_cases nt : ∀ ds, d ≠ .tuple ds
    · obtain ⟨ty, h1, h2⟩ := notT iy nt
      refine ⟨_, rfl, _, _, _, _, false, rfl, .ty _, h1, h2, _, rfl, iteF ⟨_, rfl, rfl, _, rfl, if_dec (fun c => ?_) (fun c => ?_)⟩⟩
      · subst c
        cases iy
        cases ix
        refine ⟨_, rfl, rfl, ?_⟩
        rw [decide_eq_true rfl]
        exact hq
      · exact ht _ Q x y d ix iy rfl nt (fun z => by subst z; cases iy; exact c rfl) hq
    · obtain ⟨ds, rfl⟩ : ∃ ds, d = .tuple ds := by
        cases d with
        | tuple ds => exact ⟨ds, rfl⟩
        | _ => exact absurd (fun _ z => by cases z) nt
      obtain ⟨a, xs, rfl, ta, ia⟩ := ix.tupI
      obtain ⟨b, ys, rfl, tb, ib⟩ := iy.tupI
      have la := ia.len
      have lb := ib.len
      have hz : ds.length ≤ 1000000 := fit.1
      refine ⟨_, rfl, _, _, _, _, true, rfl, .ty _, tyx_tup tb, kit_ty (by decide +kernel), _, rfl, iteT ?_⟩
      refine ⟨_, rfl, _, _, _, _, true, rfl, .ty _, tyx_tup ta, kit_ty (by decide +kernel), _, rfl, iteF ?_⟩
      refine ⟨_, rfl, a, _, rfl, .inr ta, _, rfl, b, _, rfl, .inr tb, rfl, _, rfl, ?_⟩
      rw [la, lb, decide_eq_true rfl]
      refine iteF ⟨_, rfl, b, _, rfl, .inr tb, _, rfl, by omega, by omega, for_rng (n := ys.length) (fun i σ H' => ∃ t2, σ = [some (.ref a), some (.ref b), t2] ∧ H' = H) ⟨_, rfl, rfl⟩ ?_ ?_⟩
      · rintro i σ H1 hi ⟨t2, rfl, rfl⟩
        obtain ⟨d, ed⟩ : ∃ d, ds[i]? = some d := ⟨_, List.getElem?_eq_getElem (by omega)⟩
        obtain ⟨u, eu, iu⟩ := ia.get ed
        obtain ⟨v, ev, iv⟩ := ib.get ed
        exact ⟨_, rfl, _, rfl, a, _, _, _, rfl, rfl, ta, atI_nat eu, _, rfl, _, rfl, b, _, _, _, rfl, rfl, tb, atI_nat ev, u, v, d, rfl, iu, iv, fit.2 d (List.mem_of_getElem? ed), _, rfl, iteF ⟨_, rfl, rfl⟩⟩
      · rintro σ H1 ⟨t2, rfl, rfl⟩
        exact hq
end
end Sy
/-! law -/
namespace Sy
open PySem PySem.Spec PyProof.Rows L2 LamX NdefX
theorem numK_len : ∀ (l : List Str) (n : Nat), (numK n l).length = l.length
  | [], _ => rfl
  | x :: l, n => by
    rw [numK]
    split <;> rw [List.length_cons, numK_len, List.length_cons]
theorem fit_int (n : Nat) (x : Int) : Fit n (.int x) := by cases n <;> trivial
theorem fit_keys (n : Nat) (ks : List Key) : ∀ d ∈ ks.map kD, Fit n d := fun d hd => by
  obtain ⟨k, _, rfl⟩ := List.mem_map.mp hd
  cases k <;> cases n <;> trivial
theorem fit_DN (n : Nat) {l : List Nat} (h : l.length ≤ 1000000) : Fit (n + 1) (DN l) := ⟨by rw [List.length_map]; exact h, fun d hd => by
  obtain ⟨k, _, rfl⟩ := List.mem_map.mp hd
  exact fit_int _ _⟩
theorem unF_le {rows : List Sy.Row} {l m u : List Str} (hl : StB rows l) (hm : StB rows m) (h : unF rows l m = some u) : u.length ≤ 200 := by
  obtain ⟨t, v, _, _, p1, p2, e⟩ := unF_tr hl hm
  rw [e] at h
  cases e2 : uni t v with
  | none => rw [e2] at h; cases h
  | some x =>
    rw [e2] at h
    have := uni_le e2
    rw [p1, p2] at this
    have h1 := hl.le
    have h2 := hm.le
    rw [← Option.some.inj h]
    omega
theorem fit_pkL {rows : List Sy.Row} {ls : List (List Str)} (h : ∀ l ∈ ls, StB rows l) (hl : ls.length ≤ 8) : Fit 3 (.tuple (pkL rows ls)) := by
  refine ⟨?_, fun d hd => ?_⟩
  · have h1 := flat_le (f := pkP rows ls) (n := ls.length) (k := 800) fun i _ => by
      have := pkP_le (rows := rows) i fun l hl => (h l hl).le
      omega
    have : ls.length * 800 ≤ 8 * 800 := Nat.mul_le_mul_right _ hl
    unfold pkL
    omega
  · unfold pkL at hd
    obtain ⟨i, hi, hd⟩ := List.mem_flatMap.mp hd
    unfold pkP at hd
    obtain ⟨p, hp, hd⟩ := List.mem_flatMap.mp hd
    have hi := List.mem_range.mp hi
    have hp := List.mem_range.mp hp
    unfold pkQ at hd
    split at hd
    · cases hd
    · unfold pkJ at hd
      obtain ⟨j, hj, hd⟩ := List.mem_flatMap.mp hd
      have hj := List.mem_range.mp hj
      have mem : ∀ {k : Nat}, k < ls.length → ls.getD k [] ∈ ls := fun {k} hk => by
        rw [List.getD_eq_getElem?_getD, List.getElem?_eq_getElem hk]
        exact List.getElem_mem hk
      have s1 := h _ (mem hi)
      have s2 := h _ (mem hj)
      generalize ls.getD i [] = l at *
      obtain ⟨b1, _, _⟩ := s1.br hp
      unfold pkG at hd
      split at hd
      · rename_i hc
        cases e : unF rows (brF rows l p) (ls.getD j []) with
        | none => rw [e] at hd; cases hd
        | some u =>
          rw [e] at hd
          have ul := unF_le b1 s2 e
          have := s1.le
          have pl : ((pths (wt rows l)).getD p []).length ≤ p := pth_le (wt rows l) (wt rows l).length p
          rw [List.mem_singleton.mp hd]
          refine ⟨by show 4 ≤ 1000000; decide, fun d hd => ?_⟩
          simp only [List.mem_cons, List.not_mem_nil, or_false] at hd
          rcases hd with rfl | rfl | rfl | rfl
          · exact ⟨by rw [List.length_map, numK_len, List.length_append, List.length_append, List.length_take, List.length_drop]; omega, fit_keys 0 _⟩
          · exact fit_int _ _
          · exact fit_DN 0 (by omega)
          · exact fit_int _ _
      · cases hd
theorem TrmsAt.stay {K : PySem.W.Frag} {H H' : Hp} {x : Addr} {rows : List Sy.Row} {ts : List Trm} {nm : Str} (t : TrmsAt K H x rows ts nm) (s : Stay H H') : TrmsAt K H' x rows ts nm := by
  obtain ⟨dx, b, p, d, as, kvs, h1, h2, h3, h4, h5, h6⟩ := t.ex
  exact ⟨dx, b, p, d, as, kvs, s _ _ h1 (fun _ z => by cases z), h2.mono s, s.sqt h3, Paired.mapP h4 fun _ _ t => TrmAt.stay t s, s _ _ h5 (fun _ z => by cases z), ⟨h6.z, h6.no, fun x e => by obtain ⟨p, e1, e2⟩ := h6.yes x e; exact ⟨p, e1, s.sqt e2⟩, h6.le⟩⟩
theorem most_at {r : Nat} (h : r < 4) : ∃ most : Nat, atI [V.int 4, V.int 7, V.int 4, V.int 4] ((r : Nat) : Int) = some (.int (most : Nat)) ∧ 4 ≤ most ∧ most ≤ 7 := by
  match r, h with
  | 0, _ => exact ⟨4, atI_nat (j := 0) rfl, by decide, by decide⟩
  | 1, _ => exact ⟨7, atI_nat (j := 1) rfl, by decide, by decide⟩
  | 2, _ => exact ⟨4, atI_nat (j := 2) rfl, by decide, by decide⟩
  | 3, _ => exact ⟨4, atI_nat (j := 3) rfl, by decide, by decide⟩
theorem GdT.up {rows : List Sy.Row} {m n : Nat} {t : Trm} (h : GdT rows m t) (hm : m ≤ n) : GdT rows n t := ⟨⟨h.1.ck, Nat.le_trans h.1.le hm, h.1.wd, h.1.hd⟩, h.2⟩
section
variable {P : Program} {w : World} {K : PySem.W.Frag} {mg : Str → Option Value} {base : Heap}
def spLaw (K : PySem.W.Frag) (tb : Addr) : Sp := fun vs H Q _ => ∃ (s : Addr) (zs : List Int), vs = [.ref s] ∧ SqL K H s (zs.map V.int) ∧ zs.length ≤ 100000 ∧ TbI tb H ∧ ∀ H', Q (.bl true) H'
abbrev N_law : List Str := ["_law_script", "_law_bag_here", "_law_kinds_here", "_law_arity_here", "_law_bed_here", "_law_first", "_law_second", "_law_ones", "_law_twos", "_law_turn", "_law_made_here", "_law_held_here", "_law_due"]
theorem sc_law : FnScope N_law ["_law_script"] (defScope (top 70)) := ⟨rfl, rfl, rfl, by decide +kernel, rfl, by decide +kernel, by decide +kernel⟩
theorem k_law {tb : Addr} (T : Txt K mg) {fd : FuncData} (F : FunD K "law" "law" (defArgs (top 70)) (defBody (top 70)) (defScope (top 70)) [] [] (He.ga K "law") fd)
    (c_law_bag : Cal P w K mg base 1 "_law_bag" ["_law_script"] (spBag K)) (c_law_kinds : Cal P w K mg base 4 "_law_kinds" ["_law_bag_here"] (spKinds K)) (c_law_arity : Cal P w K mg base 1 "_law_arity" ["_law_kinds_here"] (spArD K)) (c_law_bed : Cal P w K mg base 5 "_law_bed" ["_law_kinds_here"] (spBedL K))
    (c_law_pick : Cal P w K mg base 1 "_law_pick" ["_law_bag_here", "_law_limit"] spPick) (c_law_made : Cal P w K mg base 3 "_law_made" ["_law_bag_here", "_law_kinds_here", "_law_most"] (spMade K)) (c_law_held : Cal P w K mg base 8 "_law_held" ["_law_bed_here", "_law_made_here"] (spHeld K tb))
    (c_law_peaks : Cal P w K mg base 3 "_law_peaks" ["_law_arity_here", "_law_made_here"] (spPkL K)) (c_peaks : Cal P w K mg base 7 "peaks" ["trims"] (spPks K)) (c_law_same : Cal P w K mg base (3 + 1) "_law_same" ["_law_actual", "_law_due"] (spSame K 3)) : FnOk P w K mg base (L2.CX P w) (8 + 1) (He.ga K "law") fd ["_law_script"] (spLaw K tb) := by
  refine F.ok sc_law (fun vs H Q E s => by obtain ⟨_, _, rfl, _⟩ := s; rfl) ?_
  intro cdv A outer s H vs Q E hr h
  obtain ⟨sa, zs, rfl, hs, hl, tbi, hq⟩ := h
  have sc := sc_law
  refine ⟨_, (pss_cons (ps_set (i := 1) sc.nd rfl (Or.inl rfl) (pe_cal c_law_bag hr (pa_cons (pv 0) pa_nil)))
      (pss_cons (ps_set (i := 2) sc.nd rfl (Or.inl rfl) (pe_cal c_law_kinds hr (pa_cons (pv 1) pa_nil)))
      (pss_cons (ps_set (i := 3) sc.nd rfl (Or.inl rfl) (pe_cal c_law_arity hr (pa_cons (pv 2) pa_nil)))
      (pss_cons (ps_set (i := 4) sc.nd rfl (Or.inl rfl) (pe_cal c_law_bed hr (pa_cons (pv 2) pa_nil)))
      (pss_cons (ps_set (i := 5) sc.nd rfl (Or.inl rfl) (pe_cal c_law_made hr (pa_cons (pv 1) (pa_cons (pv 2) (pa_cons (pe_ix ix_tup (pe_tup (pa_cons pe_int (pa_cons pe_int (pa_cons pe_int (pa_cons pe_int pa_nil))))) (pe_cal c_law_pick hr (pa_cons (pv 1) (pa_cons pe_int pa_nil))) (fun _ _ => rfl)) pa_nil)))))
      (pss_cons (ps_set (i := 6) sc.nd rfl (Or.inl rfl) (pe_cal c_law_made hr (pa_cons (pv 1) (pa_cons (pv 2) (pa_cons (pe_ix ix_tup (pe_tup (pa_cons pe_int (pa_cons pe_int (pa_cons pe_int (pa_cons pe_int pa_nil))))) (pe_cal c_law_pick hr (pa_cons (pv 1) (pa_cons pe_int pa_nil))) (fun _ _ => rfl)) pa_nil)))))
      (pss_cons (ps_set (i := 7) sc.nd rfl (Or.inl rfl) (pe_cal c_law_held hr (pa_cons (pv 4) (pa_cons (pv 5) pa_nil))))
      (pss_cons (ps_set (i := 8) sc.nd rfl (Or.inl rfl) (pe_cal c_law_held hr (pa_cons (pv 4) (pa_cons (pv 6) pa_nil))))
      (pss_cons (ps_for (passes_of rfl) rfl (pi_range1 rfl T.range (pa_cons pe_int pa_nil)) (pg_name (i := 9) sc.nd rfl (Or.inl rfl))
        (pss_one (ps_for (passes_of rfl) rfl (pi_list (pe_lst (pa_cons (pe_tup (pa_cons (pv 5) (pa_cons (pv 7) pa_nil))) (pa_cons (pe_tup (pa_cons (pv 6) (pa_cons (pv 8) pa_nil))) pa_nil)))) (pg_tup rfl (pgs_cons (pg_name (i := 10) sc.nd rfl (Or.inl rfl)) (pgs_cons (pg_name (i := 11) sc.nd rfl (Or.inl rfl)) pgs_nil)))
          (pss_cons (ps_set (i := 12) sc.nd rfl (Or.inl rfl) (pe_cal c_law_peaks hr (pa_cons (pv 3) (pa_cons (pv 10) pa_nil))))
          (pss_one (ps_if (pt_not (pt_val (pe_cal c_law_same hr (pa_cons (pe_cal c_peaks hr (pa_cons (pv 11) pa_nil)) (pa_cons (pe_callTy call_tuple_of (by rfl) T.tuple (by decide +kernel) (pa_cons (pv 12) pa_nil)) pa_nil)))))
            (pss_one (ps_ret pe_bl))
            pss_nil))))))
      (pss_one (ps_ret pe_bl))))))))))), ?_⟩
  refine ⟨_, rfl, sa, zs, rfl, hs, fun H1 c g s1 bag1 hg => ?_⟩
  have L1 := Ls.start bag1 (tbi.same s1)
  refine ⟨_, rfl, c, g, rfl, bag1, fun q rows H2 ok l4 d2 hqn hRL => ?_⟩
  have hqg : q ≠ g := fun z => by
    obtain ⟨⟨x, e⟩, _⟩ := bag1
    rw [z, e] at hqn
    cases hqn
  obtain ⟨B2, sB2, L2', st2, out2⟩ := L1.dr d2
  have rl2 : RL K B2 q rows := hRL.base st2 fun o e => out2 q o hqg (fun z => nomatch z) e
  refine ⟨_, rfl, q, rows, rfl, hRL, ok.ok.nd, by omega, fun d H3 s3 ed => ?_⟩
  obtain ⟨B3, sB3, L3, st3, out3⟩ := L2'.same s3
  have ed3 := st3 _ _ ed (fun _ z => by cases z)
  refine ⟨_, rfl, q, rows, rfl, L3.st.rl (sB3.rl rl2), ok, l4, fun a H4 s4 hb => ?_⟩
  obtain ⟨B4, sB4, L4, st4, out4⟩ := L3.same s4
  have rl4 := sB4.rl (sB3.rl rl2)
  have ed4 := sB4 _ _ ed3 (fun _ z => by cases z)
  have ba4 : BdO K B4 a rows := ⟨hb.mono st4, ok.sok⟩
  have star := star_nk ok
  -- the first
  refine ⟨_, rfl, _, rfl, (by show 4 ≤ sizeLine; decide), fun p5 hp5 => ?_⟩
  obtain ⟨B5, sB5, L5, st5, _⟩ := L4.same (up_same (o := .tup [.int 4, .int 7, .int 4, .int 4]) hp5)
  have tp5 := st5.sqt (SqT.of (K := K) upd_same)
  generalize upd H4 p5 (.tup [.int 4, .int 7, .int 4, .int 4]) = H5 at *
  refine ⟨_, rfl, c, g, 4, rfl, L5.bag, by decide, by decide, fun r6 H6 hr6 d6 => ?_⟩
  obtain ⟨B6, sB6, L6, st6, _⟩ := L5.dr d6
  obtain ⟨m6, em6, hm6, hm6'⟩ := most_at hr6
  have s46 := sB5.trans sB6
  refine ⟨p5, _, _, _, rfl, rfl, L6.st.sqt (sB6.sqt tp5), em6, c, g, q, m6, rows, rfl, L6.bag, hqg, L6.st.rl (s46.rl rl4), ok, hm6, hm6', fun M1 ts1 H7 hgd1 hl1 d7 hn7 hml1 => ?_⟩
  have hg1 : M1 ≠ g := fun z => by
    obtain ⟨y, ey⟩ := L6.gH
    rw [z, ey] at hn7
    cases hn7
  obtain ⟨B7, sB7, L7, st7, out7⟩ := L6.dr d7
  have ml1 : ML K B7 M1 ts1 := hml1.base st7 fun o e => out7 M1 o hg1 (fun z => nomatch z) e
  have s47 := s46.trans sB7
  -- the second
  refine ⟨_, rfl, _, rfl, (by show 4 ≤ sizeLine; decide), fun p8 hp8 => ?_⟩
  obtain ⟨B8, sB8, L8, st8, _⟩ := L7.same (up_same (o := .tup [.int 4, .int 7, .int 4, .int 4]) hp8)
  have tp8 := st8.sqt (SqT.of (K := K) upd_same)
  generalize upd H7 p8 (.tup [.int 4, .int 7, .int 4, .int 4]) = H8 at *
  refine ⟨_, rfl, c, g, 4, rfl, L8.bag, by decide, by decide, fun r9 H9 hr9 d9 => ?_⟩
  obtain ⟨B9, sB9, L9, st9, _⟩ := L8.dr d9
  obtain ⟨m9, em9, hm9, hm9'⟩ := most_at hr9
  have s79 := sB8.trans sB9
  have s49 := s47.trans s79
  refine ⟨p8, _, _, _, rfl, rfl, L9.st.sqt (sB9.sqt tp8), em9, c, g, q, m9, rows, rfl, L9.bag, hqg, L9.st.rl (s49.rl rl4), ok, hm9, hm9', fun M2 ts2 H10 hgd2 hl2 d10 hn10 hml2 => ?_⟩
  have hg2 : M2 ≠ g := fun z => by
    obtain ⟨y, ey⟩ := L9.gH
    rw [z, ey] at hn10
    cases hn10
  obtain ⟨B10, sB10, L10, st10, out10⟩ := L9.dr d10
  have ml2 : ML K B10 M2 ts2 := hml2.base st10 fun o e => out10 M2 o hg2 (fun z => nomatch z) e
  have s7a := s79.trans sB10
  have s4a := s49.trans sB10
  -- held
  refine ⟨_, rfl, _, rfl, a, M1, rows, ts1, rfl, L10.st.bdo (s4a.bdo ba4), L10.st.ml (s7a.ml ml1), ok, fun t ht => (hgd1 t ht).up hm6', hl1, L10.tb, fun x1 H11 s11 t11 tr1 => ?_⟩
  obtain ⟨B11, sB11, L11, st11, _⟩ := L10.sT s11 t11
  have tr1 := tr1.stay st11
  refine ⟨_, rfl, _, rfl, a, M2, rows, ts2, rfl, L11.st.bdo ((s4a.trans sB11).bdo ba4), L11.st.ml (sB11.ml ml2), ok, fun t ht => (hgd2 t ht).up hm9', hl2, L11.tb, fun x2 H12 s12 t12 tr2 => ?_⟩
  obtain ⟨B12, sB12, L12, st12, _⟩ := L11.sT s12 t12
  have fd : H12 d = some (.dK (arKV rows)) := L12.st _ _ (((s4a.trans sB11).trans sB12) _ _ ed4 (fun _ z => by cases z)) (fun _ z => by cases z)
  have fm1 : ML K H12 M1 ts1 := L12.st.ml ((s7a.trans (sB11.trans sB12)).ml ml1)
  have fm2 : ML K H12 M2 ts2 := L12.st.ml ((sB11.trans sB12).ml ml2)
  have fx1 : TrmsAt K H12 x1 rows ts1 "trims" := L12.st.trms (sB12.trms tr1)
  have sb1 : ∀ t ∈ ts1, StB rows t.1 := fun t ht => stB_of ok (by omega) (hgd1 t ht).1
  have sb2 : ∀ t ∈ ts2, StB rows t.1 := fun t ht => stB_of ok (by omega) (hgd2 t ht).1
  refine ⟨_, rfl, by omega, by omega, for_rng (n := 2) (fun i σ H' => ∃ (t9 t10 t11 t12 : Option V), σ = [some (.ref sa), some (.ref g), some (.ref q), some (.ref d), some (.ref a), some (.ref M1), some (.ref M2), some (.ref x1), some (.ref x2), t9, t10, t11, t12] ∧ Same H12 H') ⟨none, none, none, none, rfl, Same.refl _⟩ ?_ ?_⟩
  · rintro i σ H13 hi ⟨t9, t10, t11', t12', rfl, s13⟩
    refine ⟨_, rfl, _, rfl, (by show 2 ≤ sizeLine; decide), fun p1 hp1 => ⟨_, rfl, _, rfl, (by show 2 ≤ sizeLine; decide), fun p2 hp2 => ⟨(by show 2 ≤ sizeLine; decide), fun G hG => ?_⟩⟩⟩
    have sa1 := up_same (o := .tup [.ref M1, .ref x1]) hp1
    have ta1 : SqT K (upd H13 p1 (.tup [.ref M1, .ref x1])) p1 [.ref M1, .ref x1] := SqT.of upd_same
    generalize upd H13 p1 (.tup [.ref M1, .ref x1]) = H14 at *
    have sa2 := up_same (o := .tup [.ref M2, .ref x2]) hp2
    have ta2 : SqT K (upd H14 p2 (.tup [.ref M2, .ref x2])) p2 [.ref M2, .ref x2] := SqT.of upd_same
    generalize upd H14 p2 (.tup [.ref M2, .ref x2]) = H15 at *
    have sa3 := up_same (o := .lst [.ref p1, .ref p2]) hG
    have eG : upd H15 G (.lst [.ref p1, .ref p2]) G = some (.lst [.ref p1, .ref p2]) := upd_same
    generalize upd H15 G (.lst [.ref p1, .ref p2]) = H16 at *
    have ta1 := Same.sqt (sa2.trans sa3) ta1
    have ta2 := Same.sqt sa3 ta2
    have s16 := s13.trans (sa1.trans (sa2.trans sa3))
    refine ⟨G, rfl, ⟨_, SqL.of eG⟩, for_list (K := K) (xs := [.ref p1, .ref p2]) (fun k σ H' => ∃ (t10 t11 t12 : Option V), σ = [some (.ref sa), some (.ref g), some (.ref q), some (.ref d), some (.ref a), some (.ref M1), some (.ref M2), some (.ref x1), some (.ref x2), some (.int (i : Nat)), t10, t11, t12] ∧ Same H16 H') ⟨_, _, _, rfl, Same.refl _⟩ (fun _ _ _ _ ⟨_, _, _, _, z⟩ => SqL.of (z _ _ eG)) ?_ ?_⟩
    · rintro k v σ H17 hv ⟨u10, u11, u12, rfl, s17⟩
      have sA := s16.trans s17
      obtain ⟨p, M, x, ts, rfl, ta, fm, fx, sb, hl⟩ : ∃ p M x ts, v = .ref p ∧ SqT K H16 p [.ref M, .ref x] ∧ ML K H12 M ts ∧ TrmsAt K H12 x rows ts "trims" ∧ (∀ t ∈ ts, StB rows t.1) ∧ ts.length ≤ 4 := by
        match k, hv with
        | 0, hv => exact ⟨p1, M1, x1, ts1, (Option.some.inj hv).symm, ta1, fm1, fx1, sb1, hl1⟩
        | 1, hv => exact ⟨p2, M2, x2, ts2, (Option.some.inj hv).symm, ta2, fm2, tr2, sb2, hl2⟩
        | k + 2, hv => cases hv
      refine ⟨p, _, rfl, Same.sqt s17 ta, rfl, _, _, rfl, _, _, rfl, rfl, ?_⟩
      have star := star_nk ok
      have fml := (StayT.of sA).ml fm
      refine ⟨_, rfl, _, rfl, d, M, rows, ts, rfl, sA _ _ fd, fml, star, sb, by omega, fun H18 D vs s18 nD eD im => ?_⟩
      have sB := sA.trans s18
      refine ⟨_, rfl, x, rows, ts, "trims", rfl, fx.mono sB, by omega, star, sb, fun H19 v19 s19 i19 => ?_⟩
      refine ⟨_, rfl, D, _, rfl, .inl ⟨SqL.of (s19 _ _ eD), fun q20 hq20 => ?_⟩⟩
      have s20 := up_same (o := .tup vs) hq20
      refine ⟨v19, .ref q20, _, rfl, i19.mono (Stay.of s20), .tup (SqT.of upd_same) (im.mono (Stay.of (s19.trans s20))), fit_pkL (fun l hl => ?_) (by rw [List.length_map]; omega), _, rfl, iteF ⟨_, _, _, rfl, ((s17.trans s18).trans s19).trans s20⟩⟩
      obtain ⟨t, ht, rfl⟩ := List.mem_map.mp hl
      exact sb t ht
    · rintro σ H17 ⟨u10, u11, u12, rfl, s17⟩
      exact ⟨_, _, _, _, rfl, s16.trans s17⟩
  · rintro σ H13 ⟨t9, t10, t11', t12', rfl, s13⟩
    exact hq _
end
end Sy
/-! the head's facts, own errors with an __init__ among them -/
namespace Sy
open PySem PySem.Spec PyProof.Rows L2
theorem oexB_ok {K : PySem.W.Frag} {C : Addr} (h : oexB K C = true) : ∃ nm q N bs bm sn sub ab col dd k0 k1 k2 k3 k5, K.lookup C = some (excClassObj nm q C N bs bm true sn sub ab col dd k0 k1 k2 k3 k5 "ValueError.__new__") ∧ HandSPX.refsVE bm = true := by
  unfold oexB at h
  split at h
  · rename_i t dd cd sl ho
    split at h
    · rename_i C' bm k0 k1 k2 k3 n k5 hm hs
      simp only [Bool.and_eq_true, decide_eq_true_eq, Bool.not_eq_true'] at h
      obtain ⟨h1, h2, h3, h4, h5, h6⟩ := h
      obtain ⟨nm, bs, mro, ns, qn, hd, sn, sub, ab, col, del⟩ := cd
      dsimp only at hm h4 h5
      subst hm h4 h5 h1 h2 h3
      have hsl : sl = #[k0, k1, k2, k3, some (.builtin "ValueError.__new__"), k5] := by
        obtain ⟨z⟩ := sl
        simp only at hs
        rw [hs]
      subst hsl
      exact ⟨nm, qn, ns, bs, bm, sn, sub, ab, col, dd, k0, k1, k2, k3, k5, ho, h6⟩
    · cases h
  · cases h
theorem initB_ok {K : PySem.W.Frag} {file : Str} {d : ErD} (e : erW K d.x = d.val) (h : initB K file d.x d.q = true) : ∃ (cc cd : Addr) (oc : Value) (od : Option Addr) (kV doc pm : Value) (an : Option Addr) (ct : Value) (osl : Array (Option Value)),
    K.lookup (iniA K d.x) = some ⟨oc, od, .func (PySem.W.fnX "__init__" d.q (defArgs d.st) (defBody d.st) (defScope d.st) [("__class__", cc)] .none kV doc pm an (.ref cd) ct), osl⟩ ∧ PySem.W.codeIn K (.ref cd) d.q = true ∧
    (∃ (cl : Value) (dd : Option Addr) (vs : Array Value) (sl : Array (Option Value)) (fi : Str) (tf : Tok), K.lookup cd = some ⟨cl, dd, .fields vs, sl⟩ ∧ vs[2]? = some (.str fi tf) ∧ (file == fi) = true) ∧ ∃ (cl : Value) (dd : Option Addr) (sl : Array (Option Value)), K.lookup cc = some ⟨cl, dd, .cell (some (.ref (He.ga K d.x))), sl⟩ := by
  unfold initB at h
  unfold erW at e
  split at h
  · rename_i oc od fd osl ho
    rw [ho] at e
    obtain ⟨n1, n2, n3, n4, n5, n6, n7, n8, n9, n10, n11, n12, n13, n14, n15⟩ := fd
    have e2 : (some (n1, n2, n3, n4, n5, n6, n7.map (·.1), n15) : FnE) = d.val := e
    unfold ErD.val at e2
    simp only [Option.some.injEq, Prod.mk.injEq] at e2
    obtain ⟨e1, e2, e3, e4, e5, e6, e7, e8⟩ := e2
    simp only [Bool.and_eq_true] at h
    obtain ⟨h1, h2, h3, h4⟩ := h
    have hd : n8 = .none := by
      split at h4
      · first | rfl | assumption
      · cases h4
    unfold fileB at h2
    split at h2
    · rename_i cd
      unfold cellB at h3
      split at h3
      · rename_i y cc
        have hy : y = "__class__" := by simpa using e7
        subst hy
        split at h3
        · rename_i cl2 dd2 D sl2 hc
          have hD := of_decide_eq_true h3
          subst hD
          split at h2
          · rename_i cl dd vs sl hv
            split at h2
            · rename_i fi tf hf
              subst e1 e2 e3 e4 e5 e6 e8 hd
              exact ⟨cc, cd, oc, od, n9, n10, n11, n12, n14, osl, ho, h1, ⟨cl, dd, vs, sl, fi, tf, hv, hf, h2⟩, ⟨cl2, dd2, sl2, hc⟩⟩
            · cases h2
          · cases h2
        · cases h3
      · cases h3
    · cases h2
  · cases h
theorem ErD.errB {P : Program} {K : PySem.W.Frag} {h : Heap} {mg : Str → Option Value} {d : ErD} (X : K.In h) (G : h.Ns mainGlobals mg) (e : erW K d.x = d.val) (c : d.ok P.main.file K = true) (mS : mg "super" = none) (top : (P.main.scope.names.lookup ("super" : Str)).isSome = false) : ErrB P K mg d.x d.q d.st d.fs := by
  obtain ⟨c1, c⟩ := Bool.and_eq_true_iff.mp c
  obtain ⟨c2, c⟩ := Bool.and_eq_true_iff.mp c
  obtain ⟨c3, c⟩ := Bool.and_eq_true_iff.mp c
  obtain ⟨c4, c⟩ := Bool.and_eq_true_iff.mp c
  obtain ⟨c5, c⟩ := Bool.and_eq_true_iff.mp c
  obtain ⟨c6, c⟩ := Bool.and_eq_true_iff.mp c
  obtain ⟨c7, c⟩ := Bool.and_eq_true_iff.mp c
  obtain ⟨c8, c⟩ := Bool.and_eq_true_iff.mp c
  obtain ⟨c9, c⟩ := Bool.and_eq_true_iff.mp c
  obtain ⟨c10, c⟩ := Bool.and_eq_true_iff.mp c
  obtain ⟨c11, c⟩ := Bool.and_eq_true_iff.mp c
  obtain ⟨c12, c⟩ := Bool.and_eq_true_iff.mp c
  obtain ⟨c13, c⟩ := Bool.and_eq_true_iff.mp c
  obtain ⟨c14, c⟩ := Bool.and_eq_true_iff.mp c
  obtain ⟨c15, c⟩ := Bool.and_eq_true_iff.mp c
  obtain ⟨c16, c17⟩ := Bool.and_eq_true_iff.mp c
  obtain ⟨cc, cd, oc, od, kV, doc, pm, an, ct, osl, l1, l2, l3, l4⟩ := initB_ok e c12
  refine ⟨⟨cc, cd, kV, doc, pm, an, ct, ⟨⟨oc, od, .none, kV, doc, pm, an, ct, osl, rfl, l1⟩, l2, l3, l4, ?_, of_decide_eq_true c14, He.eqO_ok c15, of_decide_eq_true c16, He.eqO_ok c17, ⟨oexB_ok c7, He.eqO_ok c8, of_decide_eq_true c9, of_decide_eq_true c10, c11⟩⟩⟩, He.eqO_ok c2, of_decide_eq_true c3, PySem.W.mg_of X G (He.eqO_ok c1), of_decide_eq_true c4, xfB_ok c5, fun f hf => He.eqO_ok (List.all_eq_true.mp c6 f hf), mS, top⟩
  unfold PySem.W.isClsIn at c13
  exact Option.isSome_iff_exists.mp c13
theorem metB_ok {K : PySem.W.Frag} (c : metB K = true) : ∃ p, tabP K "result_fault" = some p := Option.isSome_iff_exists.mp c
/-! the code object of a def, its table -/
/-- the def x stands at a, its code object's table is empty -/
def HasTab (mg : Str → Option Value) (x : Str) (h : Heap) : Prop := ∃ a o fd c P, mg x = some (.ref a) ∧ h.get? a = some o ∧ o.data = .func fd ∧ fd.code = .ref c ∧ h.IsCode c P #[] ∧ h.TableAt c P #[]
theorem tab_facts {K : PySem.W.Frag} {h : Heap} {mg : Str → Option Value} {x : Str} {i : Nat} {p : Addr} (X : K.In h) (m : tabP K x = some p) (F : DF K mg x i) (T : HasTab mg x h) :
    ∃ c : Addr, FDc K x (top i) c ∧ h.get? p = some { cls := .none, data := .fields #[] } ∧ K.lookup p = none ∧ PySem.W.CodeHd h c p := by
  obtain ⟨⟨fd, F⟩, g⟩ := F
  obtain ⟨a, o, fd', c, P, e1, e2, e3, e4, hc, ht⟩ := T
  rw [g] at e1
  cases e1
  have F0 := F
  obtain ⟨oc, od, dV, kV, doc, pm, an, cdv, ct, osl, rfl, lk, hcd, _, _⟩ := F.ex
  have k1 := X _ _ lk
  rw [k1] at e2
  cases e2
  cases e3
  have e4 : cdv = .ref c := e4
  unfold tabP at m
  rw [lk] at m
  subst e4
  simp only at m
  split at m
  · rename_i cl dd vs sl hk
    split at m
    · rename_i P' hv
      split at m
      · rename_i hn
        have m := Option.some.inj m
        subst m
        have hn := Option.isNone_iff_eq_none.mp hn
        have ht2 := ht.2
        obtain ⟨o2, vs2, f1, _, f3, f4⟩ := ht.1
        have k2 := X _ _ hk
        rw [k2] at f1
        cases f1
        cases f3
        rw [hv] at f4
        cases f4
        exact ⟨c, ⟨_, F0, rfl⟩, ht2, hn, .of hc ht⟩
      · cases m
    · cases m
  · cases m
open LamX in
/-- a law's walk with the table of the def x2 -/
theorem walk_ofT2 {l : PySem.W.OpenLaw} {n k : Nat} {q : Program} {loose : List Str} {XP : (Str → Option Value) → Heap → Prop} {YP : World → Heap → Prop} {d : DefRec} {CX : CXT} {x x2 : Str}
    (hn : l.most = some n) (hn2 : n ≤ sizeLine) (hdf : d.params.defaults = []) (hr : Room k callerA) (hrec : ((recsOf q).any fun e => e.name == x2) = true)
    (F : ∀ (w : World) (mg : Str → Option Value) (fa : Addr) (h : Heap), YP w h → h.Ns mainGlobals mg → mg d.name = some (.ref fa) → HasTab mg x2 h → ∃ K : PySem.W.Frag, K.In h ∧ LamX.LawAtS l w K CX k n x mg fa h)
    (hCX : ∀ (H : Hp) (s : Shared) (e : Value) (s' : Shared), CX [] H s (fun _ _ _ => False) e s' → False) :
    PySem.W.WalkO q loose XP YP l.row.toRowW d [] (fun f vs => PySem.call f vs) := by
  refine Att.attach_callB hn hdf fun w s₀ s₁ mg mb fa o pm cd doc a vs ns G Y ho hd hcd hmg hobj hints hlen hbits hg => ?_
  obtain ⟨dL, hm, hn1⟩ := List.any_eq_true.mp hrec
  have hn3 : dL.name = x2 := beq_iff_eq.mp hn1
  have tab := G.T.tab dL hm
  rw [hn3] at tab
  obtain ⟨K, KX, fd, cs, sp, hT, nT, C, hb, hsp, hF⟩ := F w mg fa _ Y G.T.g hmg tab
  exact LamX.law_callTs KX G.T.g G.T.b G.T.builtins G.T.nolimit hg hT nT C G.T.bmain hobj hints (Nat.le_trans hlen hn2) hr hF hb (fun H hH hS => hsp H a ns hlen hbits hH hS) fun H e s' => hCX H s₁ e s'
section
variable {file : Str} {fa : List He.Fa} {fn : List He.DefD} {er : List ErD} {K : PySem.W.Frag}
theorem SaysX.d (c : SaysX file fa fn er K) : He.SaysD fa fn K := congrArg (fun z : AlX => z.1) c
theorem SaysX.met (c : SaysX file fa fn er K) : metB K = true := (Bool.and_eq_true_iff.mp (show ((er.all fun d => d.ok file K) && metB K) = true from congrArg (fun z : AlX => z.2.1) c)).2
theorem SaysX.err_ (c : SaysX file fa fn er K) (i : Nat) {d : ErD} (h : er[i]? = some d := by rfl) : erW K d.x = d.val ∧ d.ok file K = true := by
  have c0 : ((er.all fun d => d.ok file K) && metB K) = true := congrArg (fun z : AlX => z.2.1) c
  have c1 := (Bool.and_eq_true_iff.mp c0).1
  have c2 : (er.map fun d => erW K d.x) = er.map ErD.val := congrArg (fun z : AlX => z.2.2) c
  refine ⟨?_, List.all_eq_true.mp c1 d (List.mem_of_getElem? h)⟩
  have e2 : (er.map fun d => erW K d.x)[i]? = (er.map ErD.val)[i]? := by rw [c2]
  rw [List.getElem?_map, List.getElem?_map, h] at e2
  exact Option.some.inj e2
end
/-- a def that lets nothing out -/
theorem fn_calm {P : Program} {w : World} {K : PySem.W.Frag} {mg : Str → Option Value} {base : Heap} {k : Nat} {f : Addr} {fd : FuncData} {ps : List Str} {sp : Sp} (F : FnOk P w K mg base (L2.CX P w) k f fd ps sp) (h : ∀ vs H Q E, sp vs H Q E → sp vs H Q E0) : FnOk P w K mg base CX0 k f fd ps sp := by
  obtain ⟨len, run⟩ := F
  refine ⟨len, fun A outer s H args us vs Q E hr e0 hb r hsp => codeAny_mono (run A outer s H args us vs Q E0 hr e0 hb r (h _ _ _ _ hsp)) fun x s' z => ?_⟩
  cases x with
  | ok fl => cases fl <;> exact z
  | error e =>
    obtain ⟨_, _, _, _, _, _, _, _, _, _, _, _, q⟩ := z
    exact q.elim
end Sy
set_option maxHeartbeats 0
namespace Sy.En
open Sy PySem PySem.Spec PyProof.Rows L2
theorem facts {P : Program} {w : World} {K : PySem.W.Frag} {h : Heap} {mg : Str → Option Value} {f : Addr} (hfile : P.main.file = R.prog.main.file) (top_ : (P.main.scope.names.lookup ("super" : Str)).isSome = false) (X : K.In h) (G : h.Ns mainGlobals mg) (hfa : mg ("law" : Str) = some (.ref f)) (c : SaysX R.prog.main.file fa fn ers K) (htab : HasTab mg "result_fault" h) :
    ∃ (fd : FuncData) (cc tb : Addr), h.get? tb = some { cls := .none, data := .fields #[] } ∧ K.lookup tb = none ∧ PySem.W.CodeHd h cc tb ∧ (∀ (s : Shared) (v : Value), BindsTo s fd ⟨[v], []⟩ [("_law_script", v)]) ∧
      ∀ base : Heap, K.In base → base.Ns mainGlobals mg → LamX.TabB base mg cc tb → FnOk P w K mg base CX0 9 f fd ["_law_script"] (spLaw K tb) := by
  have D := c.d
  have e := hfa.symm.trans (He.glo_ok X G (D.fact 40 (f := .glo "law") rfl))
  cases e
  have f_check_count : DF K mg "check_count" 16 := ⟨D.def_ 0 (d := dOf "check_count" 16) rfl, He.glo_ok X G (D.fact 0 (f := .glo "check_count") rfl)⟩
  have f_arity : DF K mg "arity" 17 := ⟨D.def_ 1 (d := dOf "arity" 17) rfl, He.glo_ok X G (D.fact 1 (f := .glo "arity") rfl)⟩
  have f_knots_of : DF K mg "knots_of" 18 := ⟨D.def_ 2 (d := dOf "knots_of" 18) rfl, He.glo_ok X G (D.fact 2 (f := .glo "knots_of") rfl)⟩
  have f_fault : DF K mg "fault" 19 := ⟨D.def_ 3 (d := dOf "fault" 19) rfl, He.glo_ok X G (D.fact 3 (f := .glo "fault") rfl)⟩
  have f_fault_among : DF K mg "fault_among" 20 := ⟨D.def_ 4 (d := dOf "fault_among" 20) rfl, He.glo_ok X G (D.fact 4 (f := .glo "fault_among") rfl)⟩
  have f_spans : DF K mg "spans" 21 := ⟨D.def_ 5 (d := dOf "spans" 21) rfl, He.glo_ok X G (D.fact 5 (f := .glo "spans") rfl)⟩
  have f_span_stop : DF K mg "span_stop" 22 := ⟨D.def_ 6 (d := dOf "span_stop" 22) rfl, He.glo_ok X G (D.fact 6 (f := .glo "span_stop") rfl)⟩
  have f_kids : DF K mg "kids" 23 := ⟨D.def_ 7 (d := dOf "kids" 23) rfl, He.glo_ok X G (D.fact 7 (f := .glo "kids") rfl)⟩
  have f_row_paths : DF K mg "row_paths" 24 := ⟨D.def_ 8 (d := dOf "row_paths" 24) rfl, He.glo_ok X G (D.fact 8 (f := .glo "row_paths") rfl)⟩
  have f_swapped : DF K mg "swapped" 25 := ⟨D.def_ 9 (d := dOf "swapped" 25) rfl, He.glo_ok X G (D.fact 9 (f := .glo "swapped") rfl)⟩
  have f_check_stump : DF K mg "check_stump" 28 := ⟨D.def_ 10 (d := dOf "check_stump" 28) rfl, He.glo_ok X G (D.fact 10 (f := .glo "check_stump") rfl)⟩
  have f_united : DF K mg "united" 29 := ⟨D.def_ 11 (d := dOf "united" 29) rfl, He.glo_ok X G (D.fact 11 (f := .glo "united") rfl)⟩
  have f_only_letters : DF K mg "only_letters" 33 := ⟨D.def_ 12 (d := dOf "only_letters" 33) rfl, He.glo_ok X G (D.fact 12 (f := .glo "only_letters") rfl)⟩
  have f_is_name : DF K mg "is_name" 34 := ⟨D.def_ 13 (d := dOf "is_name" 34) rfl, He.glo_ok X G (D.fact 13 (f := .glo "is_name") rfl)⟩
  have f_need_same : DF K mg "need_same" 36 := ⟨D.def_ 14 (d := dOf "need_same" 36) rfl, He.glo_ok X G (D.fact 14 (f := .glo "need_same") rfl)⟩
  have f_numbered : DF K mg "numbered" 38 := ⟨D.def_ 15 (d := dOf "numbered" 38) rfl, He.glo_ok X G (D.fact 15 (f := .glo "numbered") rfl)⟩
  have f_first_repeat : DF K mg "first_repeat" 39 := ⟨D.def_ 16 (d := dOf "first_repeat" 39) rfl, He.glo_ok X G (D.fact 16 (f := .glo "first_repeat") rfl)⟩
  have f_result_fault : DF K mg "result_fault" 40 := ⟨D.def_ 17 (d := dOf "result_fault" 40) rfl, He.glo_ok X G (D.fact 17 (f := .glo "result_fault") rfl)⟩
  have f_check_trim : DF K mg "check_trim" 41 := ⟨D.def_ 18 (d := dOf "check_trim" 41) rfl, He.glo_ok X G (D.fact 18 (f := .glo "check_trim") rfl)⟩
  have f_heads_of : DF K mg "heads_of" 42 := ⟨D.def_ 19 (d := dOf "heads_of" 42) rfl, He.glo_ok X G (D.fact 19 (f := .glo "heads_of") rfl)⟩
  have f_peaks_of : DF K mg "peaks_of" 46 := ⟨D.def_ 20 (d := dOf "peaks_of" 46) rfl, He.glo_ok X G (D.fact 20 (f := .glo "peaks_of") rfl)⟩
  have f_peaks : DF K mg "peaks" 47 := ⟨D.def_ 21 (d := dOf "peaks" 47) rfl, He.glo_ok X G (D.fact 21 (f := .glo "peaks") rfl)⟩
  have f_law_bag : DF K mg "_law_bag" 49 := ⟨D.def_ 22 (d := dOf "_law_bag" 49) rfl, He.glo_ok X G (D.fact 22 (f := .glo "_law_bag") rfl)⟩
  have f_law_pick : DF K mg "_law_pick" 50 := ⟨D.def_ 23 (d := dOf "_law_pick" 50) rfl, He.glo_ok X G (D.fact 23 (f := .glo "_law_pick") rfl)⟩
  have f_law_word : DF K mg "_law_word" 51 := ⟨D.def_ 24 (d := dOf "_law_word" 51) rfl, He.glo_ok X G (D.fact 24 (f := .glo "_law_word") rfl)⟩
  have f_law_words : DF K mg "_law_words" 52 := ⟨D.def_ 25 (d := dOf "_law_words" 52) rfl, He.glo_ok X G (D.fact 25 (f := .glo "_law_words") rfl)⟩
  have f_law_kinds : DF K mg "_law_kinds" 53 := ⟨D.def_ 26 (d := dOf "_law_kinds" 53) rfl, He.glo_ok X G (D.fact 26 (f := .glo "_law_kinds") rfl)⟩
  have f_law_arity : DF K mg "_law_arity" 54 := ⟨D.def_ 27 (d := dOf "_law_arity" 54) rfl, He.glo_ok X G (D.fact 27 (f := .glo "_law_arity") rfl)⟩
  have f_law_bed : DF K mg "_law_bed" 55 := ⟨D.def_ 28 (d := dOf "_law_bed" 55) rfl, He.glo_ok X G (D.fact 28 (f := .glo "_law_bed") rfl)⟩
  have f_law_stump : DF K mg "_law_stump" 56 := ⟨D.def_ 29 (d := dOf "_law_stump" 56) rfl, He.glo_ok X G (D.fact 29 (f := .glo "_law_stump") rfl)⟩
  have f_law_result : DF K mg "_law_result" 57 := ⟨D.def_ 30 (d := dOf "_law_result" 57) rfl, He.glo_ok X G (D.fact 30 (f := .glo "_law_result") rfl)⟩
  have f_law_tame : DF K mg "_law_tame" 58 := ⟨D.def_ 31 (d := dOf "_law_tame" 58) rfl, He.glo_ok X G (D.fact 31 (f := .glo "_law_tame") rfl)⟩
  have f_law_made : DF K mg "_law_made" 59 := ⟨D.def_ 32 (d := dOf "_law_made" 59) rfl, He.glo_ok X G (D.fact 32 (f := .glo "_law_made") rfl)⟩
  have f_law_held : DF K mg "_law_held" 60 := ⟨D.def_ 33 (d := dOf "_law_held" 60) rfl, He.glo_ok X G (D.fact 33 (f := .glo "_law_held") rfl)⟩
  have f_law_stops : DF K mg "_law_stops" 61 := ⟨D.def_ 34 (d := dOf "_law_stops" 61) rfl, He.glo_ok X G (D.fact 34 (f := .glo "_law_stops") rfl)⟩
  have f_law_paths : DF K mg "_law_paths" 62 := ⟨D.def_ 35 (d := dOf "_law_paths" 62) rfl, He.glo_ok X G (D.fact 35 (f := .glo "_law_paths") rfl)⟩
  have f_law_tagged : DF K mg "_law_tagged" 66 := ⟨D.def_ 36 (d := dOf "_law_tagged" 66) rfl, He.glo_ok X G (D.fact 36 (f := .glo "_law_tagged") rfl)⟩
  have f_law_union : DF K mg "_law_union" 67 := ⟨D.def_ 37 (d := dOf "_law_union" 67) rfl, He.glo_ok X G (D.fact 37 (f := .glo "_law_union") rfl)⟩
  have f_law_peaks : DF K mg "_law_peaks" 68 := ⟨D.def_ 38 (d := dOf "_law_peaks" 68) rfl, He.glo_ok X G (D.fact 38 (f := .glo "_law_peaks") rfl)⟩
  have f_law_same : DF K mg "_law_same" 69 := ⟨D.def_ 39 (d := dOf "_law_same" 69) rfl, He.glo_ok X G (D.fact 39 (f := .glo "_law_same") rfl)⟩
  have f_law : DF K mg "law" 70 := ⟨D.def_ 40 (d := dOf "law" 70) rfl, He.glo_ok X G (D.fact 40 (f := .glo "law") rfl)⟩
  have m_init : MB K "__init__" "Bed.__init__" (clb 35 0) := ⟨He.meth_ok (D.fact 68 (f := .meth "Bed" "__init__") rfl), D.def_ 41 (d := dMe "__init__" "Bed.__init__" 0) rfl⟩
  have m_leaves : MB K "leaves" "Bed.leaves" (clb 35 3) := ⟨He.meth_ok (D.fact 69 (f := .meth "Bed" "leaves") rfl), D.def_ 42 (d := dMe "leaves" "Bed.leaves" 3) rfl⟩
  have m_same : MB K "same" "Bed.same" (clb 35 6) := ⟨He.meth_ok (D.fact 70 (f := .meth "Bed" "same") rfl), D.def_ 43 (d := dMe "same" "Bed.same" 6) rfl⟩
  have n_len : mg "len" = none := He.free_ok X G (D.fact 41 (f := .free "len") rfl)
  have n_range : mg "range" = none := He.free_ok X G (D.fact 42 (f := .free "range") rfl)
  have n_reversed : mg "reversed" = none := He.free_ok X G (D.fact 43 (f := .free "reversed") rfl)
  have n_enumerate : mg "enumerate" = none := He.free_ok X G (D.fact 44 (f := .free "enumerate") rfl)
  have n_tuple : mg "tuple" = none := He.free_ok X G (D.fact 45 (f := .free "tuple") rfl)
  have n_list : mg "list" = none := He.free_ok X G (D.fact 46 (f := .free "list") rfl)
  have n_int : mg "int" = none := He.free_ok X G (D.fact 47 (f := .free "int") rfl)
  have n_abs : mg "abs" = none := He.free_ok X G (D.fact 48 (f := .free "abs") rfl)
  have n_max : mg "max" = none := He.free_ok X G (D.fact 49 (f := .free "max") rfl)
  have n_isinstance : mg "isinstance" = none := He.free_ok X G (D.fact 50 (f := .free "isinstance") rfl)
  have n_bool : mg "bool" = none := He.free_ok X G (D.fact 51 (f := .free "bool") rfl)
  have n_str : mg "str" = none := He.free_ok X G (D.fact 52 (f := .free "str") rfl)
  have n_super : mg "super" = none := He.free_ok X G (D.fact 53 (f := .free "super") rfl)
  have T : Txt K mg := ⟨⟨He.cls_ok (D.fact 62 (f := .cls "Bed") rfl), He.noat_ok (D.fact 64 (f := .noat "Bed" "arities") rfl), He.noat_ok (D.fact 65 (f := .noat "Bed" "rows") rfl), He.noat_ok (D.fact 66 (f := .noat "Bed" "kinds") rfl), He.noat_ok (D.fact 67 (f := .noat "Bed" "ranks") rfl)⟩, n_len, n_range, n_reversed, n_enumerate, n_tuple, n_list, n_int, n_abs, n_max, n_isinstance, He.int_ok X G (D.fact 54 (f := .int "MOST_KNOTS" 2000) rfl), He.int_ok X G (D.fact 55 (f := .int "MOST_KINDS" 8) rfl), He.int_ok X G (D.fact 56 (f := .int "MOST_BRANCHES" 3) rfl), He.int_ok X G (D.fact 57 (f := .int "LONGEST_NAME" 8) rfl)⟩
  have TC : TxtC mg := ⟨n_tuple, n_bool, n_int, n_str, n_isinstance, n_len, n_range⟩
  have TXM : TxtM mg := ⟨He.str_ok X G (D.fact 60 (f := .str "HOLE" "*") rfl), He.int_ok X G (D.fact 58 (f := .int "MOST_ENTRIES" 200) rfl), He.int_ok X G (D.fact 59 (f := .int "MOST_TRIMS" 8) rfl), n_bool, n_str⟩
  have e_TooMany : ErrB P K mg "TooMany" "TooMany.__init__" (clb 9 0) ["what", "limit"] := ErD.errB (d := ⟨"TooMany", "TooMany.__init__", clb 9 0, ["what", "limit"]⟩) X G (c.err_ 0 rfl).1 (by rw [hfile]; exact (c.err_ 0 rfl).2) n_super top_
  have e_InvalidStump : ErrB P K mg "InvalidStump" "InvalidStump.__init__" (clb 4 0) ["place"] := ErD.errB (d := ⟨"InvalidStump", "InvalidStump.__init__", clb 4 0, ["place"]⟩) X G (c.err_ 1 rfl).1 (by rw [hfile]; exact (c.err_ 1 rfl).2) n_super top_
  have e_InvalidTrim : ErrB P K mg "InvalidTrim" "InvalidTrim.__init__" (clb 5 0) ["place"] := ErD.errB (d := ⟨"InvalidTrim", "InvalidTrim.__init__", clb 5 0, ["place"]⟩) X G (c.err_ 2 rfl).1 (by rw [hfile]; exact (c.err_ 2 rfl).2) n_super top_
  have e_OtherBed : ErrB P K mg "OtherBed" "OtherBed.__init__" (clb 8 0) [] := ErD.errB (d := ⟨"OtherBed", "OtherBed.__init__", clb 8 0, []⟩) X G (c.err_ 3 rfl).1 (by rw [hfile]; exact (c.err_ 3 rfl).2) n_super top_
  have R : Ers P K mg := ⟨e_TooMany, e_InvalidTrim, e_InvalidStump⟩
  obtain ⟨tb, et⟩ := metB_ok c.met
  have MkT := He.mkr_ok (D.fact 73 (f := .mkr "Trim") rfl)
  have gTrim := He.glo_ok X G (D.fact 71 (f := .glo "Trim") rfl)
  have TT : TxtT K := ⟨He.cls_ok (D.fact 72 (f := .cls "Trim") rfl), He.noat_ok (D.fact 74 (f := .noat "Trim" "bed") rfl), He.noat_ok (D.fact 75 (f := .noat "Trim" "stump") rfl), He.noat_ok (D.fact 76 (f := .noat "Trim" "result") rfl)⟩
  have MkS := He.mkr_ok (D.fact 80 (f := .mkr "Trims") rfl)
  have gTrims := He.glo_ok X G (D.fact 78 (f := .glo "Trims") rfl)
  have TS : TxtS K := ⟨He.cls_ok (D.fact 79 (f := .cls "Trims") rfl), He.noat_ok (D.fact 81 (f := .noat "Trims" "bed") rfl), He.noat_ok (D.fact 82 (f := .noat "Trims" "trims") rfl), He.noat_ok (D.fact 83 (f := .noat "Trims" "name") rfl), He.noat_ok (D.fact 84 (f := .noat "Trims" "_heads") rfl)⟩
  have mT_init : MC K "Trim" "__init__" "Trim.__init__" (clb 43 0) := ⟨He.meth_ok (D.fact 77 (f := .meth "Trim" "__init__") rfl), D.def_ 44 (d := dMeC "Trim" "__init__" "Trim.__init__" 43 0 []) rfl⟩
  have FDS := D.def_ 45 (d := dMeC "Trims" "__init__" "Trims.__init__" 44 0 [("name", .str "trims")]) rfl
  have M := He.mkr_ok (D.fact 63 (f := .mkr "Bed") rfl)
  have gBed := He.glo_ok X G (D.fact 61 (f := .glo "Bed") rfl)
  obtain ⟨fd, FD1⟩ := f_law.1
  have b := FunD.bindsA (ps := ["_law_script"]) FD1 fun _ _ _ _ _ _ us hl => match us, hl with | [_], _ => rfl
  obtain ⟨cc, FC, hT, hN, hC⟩ := tab_facts X et f_result_fault htab
  refine ⟨fd, cc, tb, hT, hN, hC, fun s v => b s [v] rfl, fun base _ _ TB => ?_⟩
  have c_arity := k_arity (P := P) (w := w) (base := base) T f_arity 
  have c_fault_among := k_fault (P := P) (w := w) (base := base) T f_fault_among c_arity 
  have c_check_count := k_count (P := P) (w := w) (base := base) T e_TooMany f_check_count 
  have c_spans := k_spans (P := P) (w := w) (base := base) T f_spans c_arity 
  have c_span_stop := k_stop (P := P) (w := w) (base := base) T f_span_stop c_arity 
  have c_kids := k_kids (P := P) (w := w) (base := base) T f_kids c_arity c_spans 
  have c_check_stump := k_checkS (P := P) (w := w) (base := base) T TXM.hole R f_check_stump c_check_count c_fault_among 
  have c_only_letters := k_letters (P := P) (w := w) (base := base) f_only_letters 
  have c_is_name := k_name (P := P) (w := w) (base := base) T f_is_name c_only_letters 
  have cm_leaves := k_leaves (P := P) (w := w) (base := base) T m_leaves 
  have c_init := r_init (P := P) (w := w) (base := base) T m_init c_is_name cm_leaves 
  have c_knots_of := k_knots (P := P) (w := w) (base := base) T f_knots_of 
  have c_fault := k_fa (P := P) (w := w) (base := base) T f_fault c_arity 
  have c_first_repeat := k_rep (P := P) (w := w) (base := base) T f_first_repeat 
  have c_result_fault := k_rf (P := P) (w := w) (base := base) T TB FC f_result_fault.2 c_fault c_first_repeat 
  have cm_same := k_sameB (P := P) (w := w) (base := base) T m_same 
  have c_check_trim := k_ct (P := P) (w := w) (base := base) T TXM R f_check_trim c_check_stump c_result_fault c_knots_of 
  obtain ⟨fT, FT, BT⟩ := f_initT (P := P) (w := w) (base := base) TT mT_init c_check_trim
  have c_row_paths := k_pathsR (P := P) (w := w) (base := base) T f_row_paths c_kids 
  have c_swapped := k_swap (P := P) (w := w) (base := base) T f_swapped c_span_stop 
  have c_need_same := r_needN (P := P) (w := w) (base := base) T e_OtherBed f_need_same cm_same 
  have c_heads_of := k_hd (P := P) (w := w) (base := base) T TT f_heads_of 
  have FS := s_initS (P := P) (w := w) (base := base) T TXM TT TS R FDS c_need_same c_heads_of
  have c_law_bag := k_bag (P := P) (w := w) (base := base) T f_law_bag 
  have c_law_pick := k_pick (P := P) (w := w) (base := base) T f_law_pick 
  have c_law_word := k_word (P := P) (w := w) (base := base) T f_law_word c_law_pick 
  have c_law_words := k_words (P := P) (w := w) (base := base) T f_law_words c_law_pick c_law_word 
  have c_law_kinds := k_kinds (P := P) (w := w) (base := base) T f_law_kinds c_law_pick c_law_words 
  have c_law_arity := k_arD (P := P) (w := w) (base := base) f_law_arity 
  have c_law_bed := k_bedL (P := P) (w := w) (base := base) T M gBed c_init f_law_bed 
  have c_law_stump := k_stL (P := P) (w := w) (base := base) T f_law_stump c_law_pick 
  have c_law_result := k_rsL (P := P) (w := w) (base := base) T f_law_result c_law_pick 
  have c_law_tame := k_tame (P := P) (w := w) (base := base) T f_law_tame c_law_pick 
  have c_law_made := k_made (P := P) (w := w) (base := base) T f_law_made c_law_pick c_law_tame c_law_stump c_law_result 
  have c_united := k_united (P := P) (w := w) (base := base) T TXM f_united c_check_stump c_check_count c_span_stop 
  have c_numbered := k_num (P := P) (w := w) (base := base) T TXM f_numbered 
  have c_peaks_of := k_pkO (P := P) (w := w) (base := base) T TXM TT TS f_peaks_of c_spans c_row_paths c_united c_numbered c_swapped 
  have c_peaks := k_pks (P := P) (w := w) (base := base) T TXM TT TS f_peaks c_peaks_of 
  have c_law_stops := k_stops (P := P) (w := w) (base := base) T f_law_stops 
  have c_law_paths := k_pathsL (P := P) (w := w) (base := base) T f_law_paths 
  have c_law_tagged := k_tagN (P := P) (w := w) (base := base) T f_law_tagged 
  have c_law_union := k_unL (P := P) (w := w) (base := base) T f_law_union c_law_stops 
  have c_law_peaks := k_pkL (P := P) (w := w) (base := base) T f_law_peaks c_law_stops c_law_paths c_law_tagged c_law_union 
  have c_law_held := k_held (P := P) (w := w) (base := base) T f_law_held MkT gTrim FT BT MkS gTrims FS 
  have c_law_same := k_same (P := P) (w := w) (base := base) TC f_law_same 
  have c_law := k_law (P := P) (w := w) (base := base) T FD1 c_law_bag c_law_kinds c_law_arity c_law_bed c_law_pick c_law_made c_law_held c_law_peaks c_peaks (c_law_same 3) 
  exact fn_calm c_law fun vs H Q E q => q
end Sy.En
open PySem PySem.W PySem.Calls PyProof.Rows
theorem PySem.Challenge.cw_shearyard_k33_peaks_in_order_holds : PySem.Challenge.rw_shearyard_k33_peaks_in_order.Holds := by
  w_on; o_law
  refine HandSHeadRun.head_any (r := OpenLaw.row PySem.Challenge.rw_shearyard_k33_peaks_in_order) (q := view (OpenLaw.row PySem.Challenge.rw_shearyard_k33_peaks_in_order).prog [40, 70]) (H := Sy.En.hk) (ob := Sy.En.ob) (M := 30000) (loose := Sy.En.loose1 ++ Sy.En.loose2 ++ Sy.En.loose3) (d := HandSHeadRun.topDef (OpenLaw.row PySem.Challenge.rw_shearyard_k33_peaks_in_order).prog 70) (kwd := []) Sy.En.ob_eq
    (by kernel_rfl) (fun s => by kernel_rfl) Sy.En.run (by kernel_rfl) (by kernel_rfl) (by kernel_rfl) (by rfl) (by first | assumption | decide +kernel) (by decide +kernel) ⟨rfl, rfl, rfl, rfl, rfl, by decide +kernel⟩ ?hw ?hc
  case hw => w_witness2
  case hc =>
    refine Sy.walk_ofT2 (l := PySem.Challenge.rw_shearyard_k33_peaks_in_order) (n := 63) (k := 9) (x := "_law_script") (x2 := "result_fault") (CX := L2.CX0) rfl (by decide) (by kernel_rfl) ⟨rfl, by decide, by decide⟩ (by kernel_rfl) ?F (fun _ _ _ _ z => z)
    intro w mg fa h Y G hmg0 htab
    obtain ⟨K, KX, c⟩ := Y
    have hmg : mg ("law" : PySem.Str) = some (.ref fa) := by
      have e : (HandSHeadRun.topDef (OpenLaw.row PySem.Challenge.rw_shearyard_k33_peaks_in_order).prog 70).name = ("law" : PySem.Str) := by kernel_rfl
      rw [← e]
      exact hmg0
    obtain ⟨fd, cc, tb, hT, hN, hC, hb, hF⟩ := Sy.En.facts (P := (PySem.Challenge.rw_shearyard_k33_peaks_in_order).prog) (w := w) rfl (by kernel_rfl) KX G hmg c htab
    have one : ∀ {Q : Addr × Addr → Prop}, Q (cc, tb) → ∀ p ∈ [(cc, tb)], Q p := fun hQ p hp => by rw [List.mem_singleton.mp hp]; exact hQ
    exact ⟨K, KX, fd, [(cc, tb)], Sy.spLaw K tb, one hT, one hN, one hC, hb, fun H a ns hl _ hH hS => ⟨a, ns, rfl, hS, Nat.le_trans hl (by decide), ⟨_, hH _ (List.mem_singleton.mpr rfl), Sy.TbOk.nil _ _⟩, fun _ => rfl⟩, fun base a1 a2 a3 => hF base a1 a2 (a3 _ (List.mem_singleton.mpr rfl))⟩
