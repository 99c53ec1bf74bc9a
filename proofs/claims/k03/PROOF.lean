import PyProof.Rows.All
import Wide.All
import OpenK.AllK
import Wide.FinOn
import KE.KStateDown
import HandS.ForMost
import HandS.ForExc
import HandS.Walk
import HandS.StrMore
import HandS.Star
import KE.GoesEnum
import HandS.ExcInit
import HandS.Nested
import KE.KExcSuper
import HandS.TupMul
import HandS.TupAny
import HandS.FStrTup
import HandS.FStr
import HandS.Deep
import HandS.IsInst
import HandS.RevRange
import HandS.DictComp
import HandS.Defaults
import HandS.Flow
import HandS.HeadHook1
import HandS.HeadHook2
import HandS.Ends
import HandS.Words
import HandS.WordsExc
import HandS.Head0
import HandS.Head1
import HandS.Head2
import HandS.HeadEnd
import HandS.ExcField
import KE.GoesZip
import KE.GoesMore
import HandS.Zip
import HandS.Conv
import HandS.ReSub
import PySem.Challenge.RW_shearyard_k03_whole_common_and_united_st
set_option Elab.async false
set_option linter.all false
set_option maxRecDepth 100000
set_option maxHeartbeats 4000000
/-! enumerate over a tuple (own rule) -/
namespace Sy
open PySem PySem.Spec PyProof.Rows L2
open AutoSeq1 (wpAny_loadPart')
theorem enumNew {v : Value} {o : Obj} {Hh : Heap → Prop} (B : Begins v o Hh) : Meets (Builtin.«enumerate.__new__» ⟨[.type "enumerate", v], []⟩) (fun _ R s => Hh s.heap ∧
    R (.ok (.ret (.ref (s.heap.push o).objs.size))) { s with heap := (s.heap.push o).push { cls := .type "enumerate", data := .fields #[.none, .bool false, .ref s.heap.objs.size, rawInt 0, .none, .none] } }) :=
  .of_wp fun prog w A R s hs => by
    obtain ⟨hp, g, d, tk, os⟩ := s
    obtain ⟨h1, hR⟩ := hs
    have hsub := sub_enumerate
    have it1 : ∀ {A' : Around} {E : Value → Shared → Prop} {Q : Value → Shared → Prop}, Q (.ref hp.objs.size) ⟨hp.push o, g, d, tk, os⟩ → wpAny (model prog w) A' (pyIter v) Q E ⟨hp, g, d, tk, os⟩ := fun q => B.iter prog w _ _ ⟨hp, g, d, tk, os⟩ _ h1 q
    wp_walk using it1
    refine wpAny_stack_any fun st => wpAny_pure ?_
    split
    · rename_i c _ _ _ _ _
      cases (c == Value.type "enumerate") <;> (wp_walk using it1; exact ⟨_, rfl, hR⟩)
    · (wp_walk using it1; exact ⟨_, rfl, hR⟩)
theorem enumCall {prog : Program} {w : World} {A : Around} {E : Value → Shared → Prop} {s : Shared} {v : Value} {o : Obj} {Hh : Heap → Prop} {Q : Value → Shared → Prop} (B : Begins v o Hh) (h1 : Hh s.heap)
    (h : ∀ h', IsEnum h' (s.heap.objs.size + 1) s.heap.objs.size 0 .none → h'.get? s.heap.objs.size = some o → (∀ b ob, s.heap.get? b = some ob → h'.get? b = some ob) → Q (.ref (s.heap.objs.size + 1)) { s with heap := h' }) :
    wpAny (model prog w) A (call (.type "enumerate") [v]) Q E s := by
  refine callType_new F.called_enumerate (by decide) (F.typeCall_enumerate_1 _) (F.newCall_enumerate_1 _) (fun obj => F.args_object_init_2 obj _) F.entry_enumerate_new (enumNew B) ⟨h1, ?_⟩
  have hz : (s.heap.push o).objs.size = s.heap.objs.size + 1 := Heap.size_push ..
  show _ ∧ _
  rw [hz]
  have he : IsEnum ((s.heap.push o).push { cls := .type "enumerate", data := .fields #[.none, .bool false, .ref s.heap.objs.size, rawInt 0, .none, .none] }) (s.heap.objs.size + 1) s.heap.objs.size 0 .none := by
    have q := Heap.get?_push_size (s.heap.push o) (o := { cls := .type "enumerate", data := .fields #[.none, .bool false, .ref s.heap.objs.size, rawInt 0, .none, .none] }) rfl
    rw [hz] at q
    exact q
  exact ⟨⟨_, he, rfl⟩, h _ he (Heap.get?_push_of_some _ (Heap.get?_push_size _ B.free)) fun b ob x => Heap.get?_push_of_some _ (Heap.get?_push_of_some _ x)⟩
/-- the tuple at a, each item in a new pair -/
def ItE (K : PySem.W.Frag) (a : Addr) : It :=
  ⟨fun i H => ∃ (xs : List V) (x : V), SqT K H a xs ∧ xs[i]? = some x,
   fun i H v H' => ∃ T x, v = .ref T ∧ H T = none ∧ H' = upd H T (.tup [.int (i : Nat), x]) ∧ ∀ xs, SqT K H a xs → xs[i]? = some x,
   fun i H => ∃ xs : List V, SqT K H a xs ∧ xs.length ≤ i⟩
theorem turnE {P : Program} {w : World} {K : PySem.W.Frag} {elts : List Expr} {kk : Nat} {tpos : Pos} (a e it : Addr) :
    Turn P w K (.Tuple elts kk tpos) (ItE K a) [e, it] e (fun i h => (∃ old, IsEnum h e it ((i : Nat) : Int) old) ∧ h.IsTupleIter it a i ∧ e ≠ it ∧ a ≠ it ∧ a ≠ e) where
  mem := by simp
  obj := fun i h st b hb => by
    obtain ⟨⟨old, he⟩, ⟨o, ho, hc, hd⟩, _⟩ := st
    rcases (show b = e ∨ b = it by simpa using hb) with z | z
    · subst z; exact ⟨_, he, fun v q => nomatch q⟩
    · subst z; exact ⟨o, ho, fun v q => by rw [hd] at q; cases q⟩
  keep := fun i h h' st k => by
    obtain ⟨⟨old, he⟩, hi, n1⟩ := st
    exact ⟨⟨old, k e (by simp) _ he⟩, hi.at fun o q => k it (by simp) o q, n1⟩
  item := by
    intro X hP hw hK hc i pins s σ H E I hf st hg
    subst hP hw hK
    obtain ⟨⟨old, he⟩, hit, hne, ha1, ha2⟩ := st
    obtain ⟨xs, x, hq, hx⟩ := hg
    obtain ⟨its, rv, p, hz⟩ := I.tuple hq
    obtain ⟨u, hu, ru⟩ := rv.get hx
    have hlen : i < its.toArray.size := by
      rw [List.size_toArray]
      exact (List.getElem?_eq_some_iff.mp hu).1
    have D := Draws.tuple (prog := X.prog) (w := X.w) (A := X.A.in1) (by have q := I.ok.hd hc; exact q) it a ha1 its.toArray
    have hel : e < s.heap.objs.size := Heap.lt_size he
    have hil : it < s.heap.objs.size := by obtain ⟨_, q, _⟩ := hit; exact Heap.lt_size q
    refine wpAny_pyNext_enum_itemC D he ⟨hit, p⟩ hlen hne (by simp [hne, Ne.symm ha2]) fun y h' tk hP ho st' hT hsz hk => ?_
    have ey : y = u := by
      have z : its.toArray[i]? = some u := by simpa using hu
      exact Option.some.inj (hP.symm.trans z)
    subst ey
    refine ⟨_, rfl, wpAny_letOwnedTupleGo_enum (s := { s with heap := h', toks := tk + 1 }) ho fun h'' he' sb => ?_⟩
    have hT2 : h''.get? s.heap.objs.size = some { cls := .type "tuple", data := .seq #[.int i tk, y] } := (sb.2 _ (Nat.ne_of_gt hel)).trans hT
    have new : ObjOk X.prog X.w (upd H s.heap.objs.size (.tup [.int (i : Nat), x])) h'' s.heap.objs.size (.tup [.int (i : Nat), x]) :=
      ⟨by show 2 ≤ sizeLine; decide, [.int i tk, y], .cons ⟨_, rfl⟩ (.cons ru .nil), ⟨_, hT2, rfl, _, rfl⟩⟩
    have I1 : Inv X pins σ (upd H s.heap.objs.size (.tup [.int (i : Nat), x])) { s with heap := h'', toks := tk + 1 } :=
      I.turnedNew (ch := [e, it]) (fun b ob hb q => by
        have hb' : b ≠ e ∧ b ≠ it := by simpa using hb
        exact (sb.2 b hb'.1).trans (hk b ob hb'.1 hb'.2 q)) hf (Nat.le_refl _) new
    refine ⟨.ref s.heap.objs.size, _, I1, rfl, ⟨_, x, rfl, I.hok.fresh (Nat.le_refl _), rfl, fun ys hy => by rw [I.tuple_inj hy hq]; exact hx⟩, ⟨⟨y, ?_⟩, st'.1.at fun o q => (sb.2 it (Ne.symm hne)).trans q, hne, ha1, ha2⟩, fun b hb => ?_⟩
    · have e1 : ((i + 1 : Nat) : Int) = (i : Int) + 1 := by omega
      rw [e1]
      exact he'
    · have hb' : b < s.heap.objs.size := by
        rcases (show b = e ∨ b = it by simpa using hb) with z | z <;> (rw [z]; assumption)
      rw [upd_ne (Nat.ne_of_lt hb')]
      exact (hf b hb).1
  done := by
    intro X hP hw hK hc i pins s σ H E I hf st hg
    subst hP hw hK
    obtain ⟨⟨old, he⟩, hit, hne, ha1, ha2⟩ := st
    obtain ⟨xs, hq, hx⟩ := hg
    obtain ⟨its, rv, p, hz⟩ := I.tuple hq
    obtain ⟨f0, f1, f2, f3, f4, f5⟩ := hf it (by simp)
    have hl := rv.length
    have hT : s.TypeIs (.ref e) "enumerate" := ⟨_, he, rfl⟩
    unfold pyNext
    refine wpAny_bind (wpAny_attempt (wpAny_callSpecial?_slot (name := Str.ofString "__next__") hT F.slot_enumerate_next (wpAny_call_entry F.slot_enumerate_next hT F.entry_enumerate_next ?_ (F.args_enumerate_next_1 _))))
    show wpAny _ _ (field (.ref e) 2 >>= _) _ _ _
    refine wpAny_bind (wpAny_field he rfl (x := .ref it) rfl ?_)
    refine wpAny_bind (wpAny_nextOf_tuple_end (I.ok.hd hc) hit p (by simp; omega) fun h' x he' hx' => ?_)
    obtain ⟨o, ho, hcl⟩ := hx'
    refine wpAny_bind (wpAny_isInstance (T := "StopIteration") (b := true) ⟨o, ho, hcl⟩ isSubtype_stop ?_)
    exact wpAny_pure ⟨rfl, I.turned (t' := s.toks) (fun b ob hb q => he' b ob hb q) f0 f1 f3 f4 f5⟩
  self := fun A i s Q E st h => by
    obtain ⟨⟨_, he⟩, _⟩ := st
    exact wpAny_pyIter_enum he h
/-- for i, x in enumerate(t), t a tuple -/
def iEnumT (K : PySem.W.Frag) (ta : TA) : TI := fun σ H R => ta σ H fun vs H1 => ∃ a xs, vs = [.ref a] ∧ SqT K H1 a xs ∧ R (ItE K a) H1
theorem pi_enumT {X : Cx} {e : Expr} {ta : TA} {p pos tpos : Pos} {elts : List Expr} {kk : Nat} (hg : Gl X "enumerate") (hm : X.mg "enumerate" = none) (ha : PA X [e] ta) (hs : starEach [e] X.env = [(false, eval e X.env)] := by rfl) :
    PI X (.Tuple elts kk tpos) (.Call (.Name "enumerate" p) [e] [] pos) (iEnumT X.K ta) := by
  refine ⟨fun pins s σ H R I h => ?_⟩
  refine Call_ (ld_blt I hg hm boot_enumerate (PyProof.Rows.callWith_type1 (thn (ha.run pos pins s σ H _ I h) fun us s1 ⟨vs, H1, I1, r1, a, xs, ex, hq, q⟩ => ?_) hs rfl))
  subst ex
  cases r1 with
  | cons r rr =>
    cases rr
    cases r
    obtain ⟨its, rv, p', hz⟩ := I1.tuple hq
    have hal : a < s1.heap.objs.size := by obtain ⟨_, z, _⟩ := p'; exact Heap.lt_size z
    refine enumCall (begins_tuple a its.toArray) p' fun h' he hit hk => wpAny_pyIter_enum he ?_
    have I2 : Inv X pins σ H1 { s1 with heap := h' } := I1.kept (t' := s1.toks) hk
    refine ⟨s1.heap.objs.size + 1, [s1.heap.objs.size + 1, s1.heap.objs.size], _, _, H1, rfl, I2, turnE a (s1.heap.objs.size + 1) s1.heap.objs.size, ⟨⟨.none, he⟩, ⟨_, hit, rfl, rfl⟩, Nat.succ_ne_self _, Nat.ne_of_lt hal, Nat.ne_of_lt (Nat.lt_succ_of_lt hal)⟩, fun b hb => ?_, q⟩
    have hle : s1.heap.objs.size ≤ b := by
      rcases (show b = s1.heap.objs.size + 1 ∨ b = s1.heap.objs.size by simpa using hb) with z | z <;> (rw [z]; first | exact Nat.le_refl _ | exact Nat.le_add_right _ _)
    exact I1.fpOk hle (I1.hok.fresh hle)
theorem walkE {K : PySem.W.Frag} {a : Addr} {xs : List V} : Walk (ItE K a) xs.length (fun H => SqT K H a xs) (YPair (fun i => some (.int (i : Nat))) (fun i => xs[i]?)) :=
  ⟨fun i H hi h => ⟨xs, xs[i], h, by simp [hi]⟩, fun H h => ⟨xs, h, Nat.le_refl _⟩, fun i H x H' hi h y => by
    obtain ⟨T, z, e1, e2, e3, e4⟩ := y
    exact ⟨T, _, z, e1, e2, e3, rfl, e4 xs h⟩⟩
end Sy
/-! super().__init__(..) as the first row of an own error's __init__ (own rule) -/
namespace Sy
open PySem PySem.Spec PyProof.Rows L2 NdefX
/-- what the written part says of the error's class at D and its __init__ at f (its cell at cc, its code at cd) -/
structure SupF (P : Program) (K : PySem.W.Frag) (D f cc cd : Addr) (qual : Str) (pa : Arguments) (bo : List Stmt) (sc : Scope) (fd : FuncData) : Prop where
  ex : ∃ (oc : Value) (od : Option Addr) (dV kV doc pm : Value) (an : Option Addr) (ct : Value) (osl : Array (Option Value)),
    fd = PySem.W.fnX "__init__" qual pa bo sc [("__class__", cc)] dV kV doc pm an (.ref cd) ct ∧ K.lookup f = some ⟨oc, od, .func fd, osl⟩
  co : PySem.W.codeIn K (.ref cd) qual = true
  file : ∃ (cl : Value) (dd : Option Addr) (vs : Array Value) (sl : Array (Option Value)) (fi : Str) (tf : Tok), K.lookup cd = some ⟨cl, dd, .fields vs, sl⟩ ∧ vs[2]? = some (.str fi tf) ∧ ((P.main.file : Str) == fi) = true
  cell : ∃ (cl : Value) (dd : Option Addr) (sl : Array (Option Value)), K.lookup cc = some ⟨cl, dd, .cell (some (.ref D)), sl⟩
  isc : ∃ c, PySem.W.clsIn K D = some c
  sub : PySem.W.mroIn K D (.ref D) = some true
  sup : PySem.W.ks_superIn K D D "__init__" = some (some (.builtin "ValueError.__init__"))
  ve : PySem.W.subIn K (.ref D) (.type "ValueError") = some true
  opq : PySem.W.nsIn K cStatics "thirdparty.any" = some none
  oex : OexC K D
section
variable {P : Program} {w : World} {K : PySem.W.Frag} {mg : Str → Option Value} {base : Heap} {CX : CXT} {k : Nat} {D f cc cd : Addr} {qual : Str} {pa : Arguments} {bo rest : List Stmt} {sc : Scope} {fd : FuncData} {N ps : List Str} {sp : Sp} {e : Expr} {es : List Expr} {q0 q1 q2 q3 q4 : Pos} {p0 : Arg}
theorem fn_sup (T : SupF P K D f cc cd qual pa bo sc fd) (S : NScope N ps ["__class__"] sc) (hbo : bo = .Expr (.Call (.Attribute (.Call (.Name "super" q0) [] [] q1) "__init__" q2) (e :: es) [] q3) q4 :: rest)
    (hp : (pa.posonlyargs ++ pa.args).head? = some p0) (hps : N[0]? = some p0.arg) (hp1 : sc.names.lookup p0.arg = some .local) (hks : sc.names.lookup ("super" : Str) = some .globalImplicit) (mS : mg "super" = none) (top : (P.main.scope.names.lookup ("super" : Str)).isSome = false)
    (len : ∀ vs H Q E, sp vs H Q E → vs.length = ps.length)
    {pl : Sem Bool} (hev : ∀ env : Env, eval (.Call (.Attribute (.Call (.Name "super" q0) [] [] q1) "__init__" q2) (e :: es) [] q3) env = (do
      let ov ← attributeBase (.Call (.Name "super" q0) [] [] q1) "__init__" env (eval (.Call (.Name "super" q0) [] [] q1) env)
      standAt q2.atName
      let (f, first) ← holding [ov] (getMethod ov "__init__" pl)
      callWith q3 f first (backTo q3 (starEach (e :: es) env)) []))
    (he : ∀ env : Env, starEach (e :: es) env = (false, eval e env) :: starEach es env) (hpl : ∀ (env : Env) (pos : Pos), (backTo pos (starEach es env)).any (·.1) = false)
    (hbody : ∀ (A : Around) (outer : List Env) (s : Shared) (H : Hp) (vs : List V) (Q : VK) (E : XK), Room k (A.deeper (envF ⟨"__init__", qual, pa, bo, sc, [("__class__", cc)], cd⟩ f s.heap.objs.size)) → sp vs H Q E →
      ∃ ta t, PA (ncx CX P w K mg base N ⟨"__init__", qual, pa, bo, sc, [("__class__", cc)], cd⟩ f A outer s H E) (e :: es) ta ∧ PSs (ncx CX P w K mg base N ⟨"__init__", qual, pa, bo, sc, [("__class__", cc)], cd⟩ f A outer s H E) rest t ∧
        ∃ a vr, vs = .ref a :: vr ∧ H a = some (exo a D none) ∧ ta (startF N vs [some (.ref D)]) H fun ws H1 => ws.length ≤ 1000 ∧ H1 a = some (exo a D none) ∧ t { nx := fun _ H' => Q .non H', rt := Q } (startF N vs [some (.ref D)]) H1) :
    FnOk P w K mg base CX (k + 1) f fd ps sp := by
  obtain ⟨oc, od, dV, kV, doc, pm, an, ct, osl, rfl, lk⟩ := T.ex
  refine ⟨len, fun A outer s H args us vs Q E hr e0 hb r hsp => ?_⟩
  have hl := len _ _ _ _ hsp
  have KX : K.In s.heap := e0.mod.kin.keeps fun b o e => (e0.bs b o e).1
  have lim : s.heap.NoLimit := e0.mod.nolimit.keeps fun b o e => (e0.bs b o e).1
  obtain ⟨cl1, dd1, sl1, hcell⟩ := T.cell
  have hcn : H cc = none := (e0.bs _ _ (e0.mod.kin _ _ hcell)).2
  have CA : CellsAt [("__class__", cc)] ["__class__"] [some (.ref D)] s.heap H := by
    refine ⟨rfl, fun y c e => ?_, fun x y c e1 e2 => ?_, fun i y hi => ?_⟩
    · simp only [List.lookup] at e
      split at e
      · cases e; exact ⟨hcn, _, _, KX _ _ hcell, rfl⟩
      · cases e
    · simp only [List.lookup] at e1 e2
      split at e1
      · split at e2
        · rename_i z1 _ z2
          exact (beq_iff_eq.mp z1).trans (beq_iff_eq.mp z2).symm
        · cases e2
      · cases e1
    · cases i with
      | zero =>
        cases hi
        refine ⟨cc, rfl, fun v ev => ?_⟩
        cases ev
        exact ⟨.ref D, rfl, _, KX _ _ hcell, rfl⟩
      | succ n => simp at hi
  obtain ⟨ta, t, hA, hS, a, vr, rfl, hea, hq⟩ := hbody A outer s H _ Q E (hr.deeper _) hsp
  refine ks_codeAny_call_defAt hr.depth (KX _ _ lk) rfl lim (PySem.W.codeRec_of KX T.co) rfl hb S.nocell (fun ⟨n, _⟩ hy => S.par n (List.of_mem_zip hy).1) (fun h0 hns hk => ?_) S.co S.gen S.kind
  have I : Inv (ncx CX P w K mg base N ⟨"__init__", qual, pa, bo, sc, [("__class__", cc)], cd⟩ f A outer s H E) [] (startF N (.ref a :: vr) [some (.ref D)]) H { s with heap := h0, toks := s.toks + (ps.zip us).length } := inv_startN S hr.hd e0 hl r CA hns hk
  show _root_.PySem.wpAt _ (A.deeper (envF ⟨"__init__", qual, pa, bo, sc, [("__class__", cc)], cd⟩ f s.heap.objs.size)) (.func bo (envF ⟨"__init__", qual, pa, bo, sc, [("__class__", cc)], cd⟩ f s.heap.objs.size)) (execs bo (envF ⟨"__init__", qual, pa, bo, sc, [("__class__", cc)], cd⟩ f s.heap.objs.size)) _ _ _
  generalize hX : ncx CX P w K mg base N ⟨"__init__", qual, pa, bo, sc, [("__class__", cc)], cd⟩ f A outer s H E = X at *
  have hXe : X.env = envF ⟨"__init__", qual, pa, bo, sc, [("__class__", cc)], cd⟩ f s.heap.objs.size := by rw [← hX] <;> rfl
  have hXA : X.A = A.deeper (envF ⟨"__init__", qual, pa, bo, sc, [("__class__", cc)], cd⟩ f s.heap.objs.size) := by rw [← hX] <;> rfl
  have hK : X.K = K := by rw [← hX] <;> rfl
  have hP : X.prog = P := by rw [← hX] <;> rfl
  have hW : X.w = w := by rw [← hX] <;> rfl
  have hmg : X.mg = mg := by rw [← hX] <;> rfl
  have hN : X.N = N := by rw [← hX] <;> rfl
  have hxe : X.xe = fun e s' => wpAny (model P w) (A.deeper (envF ⟨"__init__", qual, pa, bo, sc, [("__class__", cc)], cd⟩ f s.heap.objs.size)) (leaving (envF ⟨"__init__", qual, pa, bo, sc, [("__class__", cc)], cd⟩ f s.heap.objs.size) e) (fun _ s'' => CX outer H s E e s'') (fun e' s'' => CX outer H s E e' s'') s' := by rw [← hX] <;> rfl
  have hs0 : X.s_0 = s := by rw [← hX] <;> rfl
  have hH0 : X.H_0 = H := by rw [← hX] <;> rfl
  have hstk : X.stack = envF ⟨"__init__", qual, pa, bo, sc, [("__class__", cc)], cd⟩ f s.heap.objs.size :: outer := by rw [← hX] <;> rfl
  have hfs : X.fs = frs outer := by rw [← hX] <;> rfl
  have hex : X.ex = [] := by rw [← hX] <;> rfl
  obtain ⟨cl2, dd2, vs2, sl2, fi, tf, hcode, hvs, hfi⟩ := T.file
  obtain ⟨cdD, hcd⟩ := T.isc
  obtain ⟨m, hm, hlook⟩ := I.loc
  obtain ⟨u0, ru0, hu0⟩ := hlook 0 p0.arg (.ref a) (by rw [hN]; exact hps) rfl (by rw [hXe]; exact .inl hp1)
  obtain rfl : u0 = Value.ref a := ru0
  have hself : m p0.arg = some (.ref a) := by
    rcases hu0 with ⟨_, z⟩ | ⟨z, _⟩
    · exact z
    · rw [hXe] at z
      have z1 : sc.names.lookup p0.arg = some .cell ∨ sc.names.lookup p0.arg = some .free := z
      rw [hp1] at z1
      rcases z1 with z1 | z1 <;> cases z1
  have kin : K.In h0 := by have q := I.kIn; rw [hK] at q; exact q
  rw [hXe] at hm
  subst hbo
  refine ks_wpAt_execs_cons (ks_wpAt_Expr_any (ks_wpAt_MethodCall ?_ (hev _)) (hi := by simp [interactive, S.kind]))
  obtain ⟨oD, hD1, hD2⟩ : ∃ oD, h0.get? D = some oD ∧ oD.data = .cls cdD := by
    unfold PySem.W.clsIn at hcd
    split at hcd
    · rename_i c d cd' sl ho
      cases hcd
      exact ⟨_, kin _ _ ho, rfl⟩
    · cases hcd
  obtain ⟨t1, hoe⟩ := exo_at I.hok hea
  have IA : PySem.W.InstAt h0 a ({ cls := .ref D, dict := none, data := .fields #[.ref t1, .none, .none, .none, .bool false, .none] } : Obj) D none := ⟨hoe, rfl, rfl, trivial⟩
  refine ks_wpAt_super_base hks (S.frk _ List.mem_cons_self) (by decide) rfl (hk _ _ (KX _ _ lk)) rfl hp rfl (hk _ _ (KX _ _ hcode)) rfl hvs hfi top ?_
  obtain ⟨mb, hb1, hb2⟩ := I.mod.blt
  have hbs : mb "super" = some (.type "super") := (hb2 ("super" : Str) (by decide)).trans (by first | boot_by_name | rfl | decide +kernel)
  refine PySem.W.ks_loadName_global S.kind hks (PySem.Calls.loadGlobal_builtin (mg := mg) (by have q := I.mod.glob.keeps I.bk; rw [hmg] at q; exact q) mS (hb1.keeps I.bk) hbs ⟨rfl, ?_⟩)
  refine wpAny_loadName_free S.kind (S.frk _ List.mem_cons_self) rfl ⟨_, kin _ _ hcell, rfl⟩ ?_
  refine wpAny_loadName_local S.kind hp1 hm hself ?_
  refine ks_wpAny_isType_cls hD1 hD2 ⟨rfl, ?_⟩
  refine ks_wpAny_call_super hD1 hD2 hoe rfl (fun c z => by cases z) (PySem.W.looks_mroIn kin T.sub) (fun h1 hso kp1 => ?_)
  have I1 := I.kept (h' := h1) (t' := s.toks + (ps.zip us).length) kp1
  have kin1 : K.In h1 := by have q := I1.kIn; rw [hK] at q; exact q
  have hoe1 := kp1 _ _ hoe
  have hsup := T.sup
  unfold PySem.W.ks_superIn at hsup
  rw [hcd] at hsup
  have IA1 : PySem.W.InstAt h1 a ({ cls := .ref D, dict := none, data := .fields #[.ref t1, .none, .none, .none, .bool false, .none] } : Obj) D none := ⟨hoe1, rfl, rfl, trivial⟩
  refine PySem.W.kxs_getMethod PySem.W.kxs_ValueError hso (PySem.W.looks_opaque kin1 T.opq) (l₀ := cdD.mro) (fun A Q E s k q => wpAny_bind ((PySem.W.looks_clsIn kin1 hcd) A _ E s k (wpAny_pure q))) rfl kin1 hsup (IA1.type.andThen (PySem.W.looks_subIn kin1 T.ve)) (PySem.W.ks_ne kin1 IA1 hcd) (by decide) ?_
  have kp2 : ∀ b o, h1.get? b = some o → (h1.push (PySem.W.kxs_mw "ValueError.__init__" a)).get? b = some o := fun b o z => Heap.get?_push_of_some _ z
  have hu : (h1.push (PySem.W.kxs_mw "ValueError.__init__" a)).get? h1.objs.size = some (PySem.W.kxs_mw "ValueError.__init__" a) := Heap.get?_push_at rfl rfl
  have I2 := I1.kept (h' := h1.push (PySem.W.kxs_mw "ValueError.__init__" a)) (t' := s.toks + (ps.zip us).length + 1) kp2
  have hfresh : H h1.objs.size = none := I1.hok.fresh (Nat.le_refl _)
  have hsz : h1.objs.size ≠ X.env.locals := Nat.ne_of_gt I1.lt
  have I3 : Inv X [(h1.objs.size, PySem.W.kxs_mw "ValueError.__init__" a)] (startF N (.ref a :: vr) [some (.ref D)]) H ⟨h1.push (PySem.W.kxs_mw "ValueError.__init__" a), s.gens, s.drawn, s.toks + (ps.zip us).length + 1, s.os⟩ := I2.pins_of fun p hp => by
    have hp' : p = (h1.objs.size, PySem.W.kxs_mw "ValueError.__init__" a) := by simpa using hp
    subst hp'
    exact ⟨hu, hfresh, hsz, I1.nofs (Nat.le_refl _), fun v z => by cases z⟩
  rw [← hP, ← hW]
  rw [he]
  refine PySem.W.kxs_callWith (i := "ValueError.__init__") (x := a) (by show (false || (backTo q3 (starEach es _)).any (·.1)) = false; rw [hpl]; rfl) ?_
  have hA2 := hA.run q3 _ _ _ _ (fun ws H1 => ws.length ≤ 1000 ∧ H1 a = some (exo a D none) ∧ t { nx := fun _ H' => Q .non H', rt := Q } (startF N (.ref a :: vr) [some (.ref D)]) H1) I3 hq
  rw [hXe, he, hXA, hxe] at hA2
  refine PySem.Calls.evalArgs_plain (wpAny_mono hA2 (fun us3 s3 h3 => ?_) (fun _ _ z => by rw [hP, hW]; exact z))
  obtain ⟨ws, H3, J, rv, hlen, hea3, hq3⟩ := h3
  have hu3 : s3.heap.get? h1.objs.size = some (PySem.W.kxs_mw "ValueError.__init__" a) := (J.pin _ (List.mem_append_right _ (List.mem_singleton.mpr rfl))).1
  refine ⟨hu3, ?_⟩
  have J0 : Inv X [] (startF N (.ref a :: vr) [some (.ref D)]) H3 s3 := J.pins_of fun p hp => by simp at hp
  have hus : us3.length ≤ sizeLine := by
    rw [← rv.length, sizeLine_eq]
    omega
  show wpAny _ _ (call (.ref h1.objs.size) us3) _ _ s3
  obtain ⟨nm, q, Nn, bs, bm, sn, sub, ab, col, dd, k0, k1, k2, k3, k5, hC, hbm⟩ := T.oex.cls
  have kin3 : K.In s3.heap := by have q := J0.kIn; rw [hK] at q; exact q
  obtain ⟨t3, ho3⟩ := exo_at J0.hok hea3
  obtain ⟨hp3, g3, d3, tk3, os3⟩ := s3
  refine wpAny_call (codeAny_of_tree ?_)
  show wpAny _ _ (callAny (.ref h1.objs.size) ⟨us3, []⟩) _ _ _
  simp only [callAny]
  refine wpAny_bind (wpAny_load hu3 ?_)
  simp only [PySem.W.kxs_mw, show (Value.type "method-wrapper" == Value.type "method" || Value.type "method-wrapper" == Value.type "builtin_function_or_method" || Value.type "method-wrapper" == Value.type "method-wrapper") = true by decide, if_true]
  refine PySem.W.KFB.if_so (by decide) ?_
  refine wpAny_bind (PySem.W.check_bound_init F.excBase_ValueError.toExcCallFacts (kin3 _ _ hC) ho3 rfl ?_)
  refine wpAny_bind (wpAny_pure (wpAny_pure ?_))
  refine ⟨plainId_quiet F.excBase_ValueError.init.plain _, codeAny_builtin F.excBase_ValueError.initEntry ?_⟩
  refine PySem.W.exc_init_tree (cls := .ref D) (t0 := t3) (dv := none) (c2 := .none) (c3 := .none) (b4 := .bool false) ho3 hus fun h4 kp4 hx4 _ => ?_
  have J4 := J0.write (t' := tk3) (x := a) (e := a) (o := exo a D none) (by rw [hea3]; exact True.intro) (.inl rfl) kp4 ⟨_, hx4⟩ (exo_ok hx4)
  have eu : upd H3 a (exo a D none) = H3 := by
    funext b
    by_cases hb : b = a
    · rw [hb, upd_same, hea3]
    · rw [upd_ne hb]
  rw [eu] at J4
  have hS4 := hS.run _ _ _ _ { nx := fun _ H' => Q .non H', rt := Q } J4 hq3
  rw [hXe, hXA, hxe, hP, hW] at hS4
  show _root_.PySem.wpAt _ _ _ _ _ _ _
  rw [hP, hW]
  refine wpAt_of_wpAny (wpAny_mono hS4 (fun fl s' hs => ?_) fun _ _ z => z)
  have fin : ∀ {σ' : L2.St} {H' : Hp} {v : V} {u : Value}, Inv X [] σ' H' s' → RelV v u → Q v H' → CE outer P w H s Q u s' := fun {σ' H' v u} J rv q => by
    have b1 := J.base
    have o1 := J.os
    have k1 := J.hok
    rw [hfs, hex, hH0, hs0] at b1
    rw [hs0] at o1
    rw [hP, hW] at k1
    exact ⟨v, H', o1, J.bare, b1, k1, rv, q⟩
  cases fl with
  | ret u =>
    obtain ⟨v, σ', H', J, rv, q⟩ := hs
    exact fin J rv q
  | next =>
    obtain ⟨σ', H', J, q⟩ := hs
    exact fin (v := V.non) (u := Value.none) J rfl q
  | brk =>
    obtain ⟨_, _, _, q⟩ := hs
    exact False.elim q
  | cont =>
    obtain ⟨_, _, _, q⟩ := hs
    exact False.elim q
end
end Sy
/-! tuple.count, tuple * int of any size, a tuple of ints in an f-string (own rules) -/
namespace Sy
open PySem PySem.Spec PyProof.Rows L2
open AutoSeq1 (wpAny_loadPart')
section
variable {X : Cx}
/-- t.count(y), all flat -/
def rTCnt (K : PySem.W.Frag) : V → List V → Hp → VK → Prop := fun x xs H Q => ∃ (a : Addr) (ys : List V) (y : V), x = V.ref a ∧ xs = [y] ∧ SqT K H a ys ∧ flatV y = true ∧ ys.all flatV = true ∧ Q (.int (ys.countP fun z => eqV z y : Nat)) H
theorem countU {y : V} : ∀ {ys : List V} {its : List Value}, Vals ys its → ys.all flatV = true → its.countP (eqU y) = ys.countP fun z => eqV z y
  | [], _, r, _ => by cases r; rfl
  | z :: ys, _, r, f => by
    cases r with
    | cons r1 r2 =>
      have f' := Bool.and_eq_true_iff.mp (show (flatV z && ys.all flatV) = true from f)
      rw [List.countP_cons, List.countP_cons, countU r2 f'.2, eqU_of r1 f'.1]
theorem mt_tcount : MtR X "tuple.count" (rTCnt X.K) := by
  intro pins s σ H x xs v us Q I rx rxs h
  obtain ⟨a, ys, y, rfl, rfl, hs, fy, fys, q⟩ := h
  cases rx
  cases rxs with
  | cons ry rt =>
    rename_i uy ut
    cases rt
    obtain ⟨its, rv, ⟨⟨cls, dd, data, sl⟩, ho, hc, n, hd⟩, hlen⟩ := I.tuple hs
    simp only at hc hd
    subst hc hd
    refine call_meets PySem.F.slot_tuple_count ⟨_, ho, rfl⟩ PySem.F.entry_tuple_count (PySem.F.args_tuple_count_2 _ _) (SeqAt.tuple_countAt a its.toArray n dd sl uy (eqU y)) ⟨ho, fun u' hu' => mem_eqAt ry fy rv fys u' (by simpa using hu'), ?_⟩
    have e1 : its.toArray.toList.countP (eqU y) = ys.countP fun z => eqV z y := by
      rw [← countU rv fys]
    rw [e1]
    exact ⟨.int (ys.countP fun z => eqV z y : Nat), H, I.tok _, ⟨_, rfl⟩, q⟩
/-! tuple * int -/
theorem tupMul1 (l : Addr) (items : Array Value) (n : Nat) (dd : Option Addr) (sl : Array (Option Value)) (x : Int) (u : Tok) (c0 : (decide (x < -(2 ^ 63)) || decide (x ≥ 2 ^ 63)) = false) (c1 : (items.isEmpty || x == 1) = true) :
    Meets (Builtin.«tuple.__mul__» ⟨[.ref l, .int x u], []⟩) (fun _ R s => s.heap.get? l = some { cls := .type "tuple", dict := dd, data := .seq items n, slots := sl } ∧ R (.ok (.ret (Value.ref l))) s) :=
  .of_wp fun prog w A R s h => by
    obtain ⟨hp, g, d, tk, os⟩ := s
    obtain ⟨hl, h⟩ := h
    have f1 := AutoSeq1.idx_int
    wp_walk using wpAny_loadPart' hl
    repeat (first
      | (refine wpAny_ite_false (decide_eq_false (by rw [c0]; exact Bool.false_ne_true)) ?_; wp_walk using wpAny_loadPart' hl)
      | (refine wpAny_ite_true (decide_eq_true c1) ?_; wp_walk using wpAny_loadPart' hl))
    all_goals exact ⟨_, rfl, h⟩
theorem tupMul0 (l : Addr) (items : Array Value) (n : Nat) (dd : Option Addr) (sl : Array (Option Value)) (x : Int) (u : Tok) (c0 : (decide (x < -(2 ^ 63)) || decide (x ≥ 2 ^ 63)) = false) (c1 : (items.isEmpty || x == 1) = false) (c2 : (decide (x ≤ 0) || items.isEmpty) = true) :
    Meets (Builtin.«tuple.__mul__» ⟨[.ref l, .int x u], []⟩) (fun _ R s => s.heap.get? l = some { cls := .type "tuple", dict := dd, data := .seq items n, slots := sl } ∧
      R (.ok (.ret (Value.ref s.heap.objs.size))) { s with heap := s.heap.push { cls := Value.type "tuple", data := Data.seq #[] } }) :=
  .of_wp fun prog w A R s h => by
    obtain ⟨hp, g, d, tk, os⟩ := s
    obtain ⟨hl, h⟩ := h
    have f1 := AutoSeq1.idx_int
    wp_walk using wpAny_loadPart' hl
    repeat (first
      | (refine wpAny_ite_false (decide_eq_false (by rw [c0]; exact Bool.false_ne_true)) ?_; wp_walk using wpAny_loadPart' hl)
      | (refine wpAny_ite_false (decide_eq_false (by rw [c1]; exact Bool.false_ne_true)) ?_; wp_walk using wpAny_loadPart' hl)
      | (refine wpAny_ite_true (decide_eq_true c2) ?_; wp_walk using wpAny_loadPart' hl))
    all_goals exact ⟨_, rfl, h⟩
/-- t * k: t itself where k is 1 or t is empty -/
def rRepG (K : PySem.W.Frag) : R2 := fun x y H Q => ∃ l k xs, x = .ref l ∧ y = .int k ∧ SqT K H l xs ∧ -(2 ^ 63) ≤ k ∧ k < 2 ^ 63 ∧ xs.length * k.toNat ≤ 1000000 ∧ xs.length ≤ 1000000 ∧
  ((xs = [] ∨ k = 1) → Q (.ref l) H) ∧ (¬(xs = [] ∨ k = 1) → ∀ p, H p = none → Q (.ref p) (upd H p (.tup (List.replicate k.toNat xs).flatten)))
theorem op_repG : OpR X (binaryOp .Mult) (rRepG X.K) := by
  intro pins s σ H x y v u Q I rx ry h
  obtain ⟨l, k, xs, rfl, rfl, hT, h1, h2, hz, hzl, qa, qb⟩ := h
  cases rx
  obtain ⟨t, rfl⟩ := ry
  obtain ⟨its, r, ⟨⟨cls, dd, data, sl⟩, ho, hc, n, hd⟩, hs⟩ := I.tuple hT
  simp only at hc hd
  subst hc hd
  have hle : its.length = xs.length := r.length.symm
  have c0 : (decide (k < -(2 ^ 63)) || decide (k ≥ 2 ^ 63)) = false := by
    rw [decide_eq_false (by omega), decide_eq_false (by omega)] <;> rfl
  have run : ∀ {Bb : Builtin} {R : Value → Shared → Prop}, Builtin.«tuple.__mul__» = Bb → wpAny (model X.prog X.w) X.A (call (.builtin "tuple.__mul__") [.ref l, .int k t]) R X.xe s → wpAny (model X.prog X.w) X.A (binaryOp .Mult (.ref l) (.int k t)) R X.xe s := fun _ hw =>
    wpAny_binaryOp_repeat_ref (T := "tuple") (U := "int") (by decide) ⟨_, ho, rfl⟩ (fun s' => typeIs_int s' k t) noFill_tuple_mul F.fills_int_mul F.slot_int_rmul repeat_tuple F.slot_int_index.lookup
      (call_meets F.slot_int_rmul (typeIs_int s k t) F.entry_int_rmul (F.args_int_rmul_2 _ _) (int_rmul_tuple k t l its.toArray n dd sl) ⟨ho, rfl, ⟨_, ho, rfl⟩, hw⟩)
  have eE : its.toArray.isEmpty = decide (xs = []) := by
    cases xs with
    | nil => cases r; rfl
    | cons a b => cases r; rfl
  by_cases hc : xs = [] ∨ k = 1
  · refine run rfl (call_meets F.slot_tuple_mul ⟨_, ho, rfl⟩ F.entry_tuple_mul (F.args_tuple_mul_2 _ _) (tupMul1 l its.toArray n dd sl k t c0 ?_) ⟨ho, ?_⟩)
    · rw [eE]
      rcases hc with hc | hc
      · rw [decide_eq_true hc, Bool.true_or]
      · rw [hc]
        exact Bool.or_true _
    · exact ⟨.ref l, H, I, rfl, qa hc⟩
  · have c1 : (its.toArray.isEmpty || k == 1) = false := by
      rw [eE, decide_eq_false (fun z => hc (.inl z)), Bool.false_or]
      exact beq_eq_false_iff_ne.mpr fun z => hc (.inr z)
    by_cases hk : k ≤ 0
    · refine run rfl (call_meets F.slot_tuple_mul ⟨_, ho, rfl⟩ F.entry_tuple_mul (F.args_tuple_mul_2 _ _) (tupMul0 l its.toArray n dd sl k t c0 c1 (by rw [decide_eq_true hk, Bool.true_or])) ⟨ho, ?_⟩)
      have e0 : k.toNat = 0 := by omega
      have q := qb hc _ (I.hok.fresh (Nat.le_refl _))
      rw [e0] at q
      refine ⟨.ref s.heap.objs.size, _, I.laid (t' := s.toks) (o := .tup (List.replicate 0 xs).flatten) (fun b ob q => Heap.get?_push_of_some _ q) (Nat.le_refl _) ?_, rfl, q⟩
      exact ⟨Nat.zero_le _, [], .nil, IsTup.new _ _⟩
    · have h3 : ((its.toArray.size : Nat) : Int) * k ≤ 1000000 := by
        rw [List.size_toArray, hle]
        have e1 : ((xs.length : Nat) : Int) * k = ((xs.length * k.toNat : Nat) : Int) := by
          rw [Int.natCast_mul, Int.toNat_of_nonneg (by omega)]
        rw [e1]
        generalize xs.length * k.toNat = m at hz ⊢
        omega
      have flen : (List.replicate k.toNat its).flatten.length ≤ 1000000 := by
        rw [PyProof.Rows.lm_len_rep_flat, hle, Nat.mul_comm]
        exact hz
      have sl24 := sizeLine_eq
      refine run rfl (call_meets F.slot_tuple_mul ⟨_, ho, rfl⟩ F.entry_tuple_mul (F.args_tuple_mul_2 _ _) (tuple_mulW l its.toArray n dd sl k t c0 c1 (by rw [decide_eq_false hk, Bool.false_or, eE]; exact decide_eq_false fun z => hc (.inl z)) (by omega) (by unfold Builtin.Tuple.tupleTooMany; exact decide_eq_false (by omega)) (by rw [size_rep, List.size_toArray]; omega)) ⟨ho, ?_⟩)
      rw [size_rep]
      refine ⟨.ref s.heap.objs.size, _, I.laid (t' := s.toks) (o := .tup (List.replicate k.toNat xs).flatten) (fun b ob q => Heap.get?_push_of_some _ q) (Nat.le_refl _) ?_, rfl, qb hc _ (I.hok.fresh (Nat.le_refl _))⟩
      exact ⟨by rw [PyProof.Rows.lm_len_rep_flat, Nat.mul_comm]; omega, _, r.rep k.toNat, IsTup.new _ _⟩
/-! a tuple of ints in an f-string -/
theorem reprInts {prog : Program} {w : World} : ∀ {l : List Int} {its : List Value}, Vals (l.map V.int) its → (∀ y ∈ l, y.natAbs.log2 < 1920) → ReprAll prog w its (l.map fun y => (toString y : Str))
  | [], _, r, _ => by
    cases r
    exact .nil
  | y :: l, _, r, h => by
    cases r with
    | cons r1 r2 =>
      obtain ⟨t, rfl⟩ := r1
      exact .cons (ReprIs.int t (h y List.mem_cons_self)) (reprInts r2 fun z hz => h z (List.mem_cons_of_mem _ hz))
theorem piledInts : ∀ l : List Int, (∀ y ∈ l, y.natAbs.log2 < 1920) → piled (l.map fun y => (toString y : Str)) ≤ 1923 * l.length
  | [], _ => Nat.zero_le _
  | y :: l, h => by
    have h1 := int_text_len_1921 (h y List.mem_cons_self)
    have h2 := piledInts l fun z hz => h z (List.mem_cons_of_mem _ hz)
    rw [List.map_cons, piled_cons, List.length_cons]
    omega
def tFmtI (K : PySem.W.Frag) (te : TE) : TE := fun σ H Q => te σ H fun x H1 => ∃ (a : Addr) (l : List Int), x = .ref a ∧ SqT K H1 a (l.map V.int) ∧ (∀ y ∈ l, y.natAbs.log2 < 1920) ∧ l.length ≤ 5000 ∧ ∀ m : Str, m.length ≤ 9700000 → Q (.str m) H1
theorem pe_fmtI {e : Expr} {te : TE} {pos : Pos} {k : Nat} (hr : Room k X.A) (he : PE X e te) : PE X (.FormattedValue e (-1) none pos) (tFmtI X.K te) := by
  refine ⟨fun pins s σ H Q I h => ?_⟩
  refine wpAny_FormattedValue_plain (thn (he.run pins s σ H _ I h) fun v s1 hv => ?_)
  obtain ⟨x, H1, I1, r1, a, l, rfl, ht, hc, hz, q⟩ := hv
  cases r1
  obtain ⟨its, rv, ⟨o, ho, hcl, n, hd⟩, _⟩ := I1.tuple ht
  have hp := piledInts l hc
  have htx := fmt_text (l.map fun y => (toString y : Str))
  have hu := hr.units
  have hsl := sizeLine_eq
  refine fmt_tuple (ts := l.map fun y => (toString y : Str)) (by omega) ho hcl hd (reprInts rv hc) (by omega) fun m u tk hm => ⟨.str m, H1, I1.tok _, ⟨u, rfl⟩, q m (by omega)⟩
end
end Sy
/-! own core: heaps, data that never changes, callables, forms of loops -/
namespace Sy
open PySem PySem.Spec PyProof.Rows L2
/-! ### heaps -/
theorem up_same {H : Hp} {p : Addr} {o : HO} (h : H p = none) : Same H (upd H p o) := fun b x e => by
  rw [upd_ne (ne_of_none e h)]
  exact e
theorem Same.sqt {K : PySem.W.Frag} {H H' : Hp} {a : Addr} {xs : List V} (e : Same H H') (h : SqT K H a xs) : SqT K H' a xs := by
  rcases h with (h | ⟨o, h⟩) | h
  · exact .inl (.inl (e _ _ h))
  · exact .inl (.inr ⟨o, e _ _ h⟩)
  · exact .inr h
/-- what is no list of one's own stays -/
def Stay (H H' : Hp) : Prop := ∀ a o, H a = some o → (∀ xs, o ≠ .lst xs) → H' a = some o
theorem Stay.of {H H' : Hp} (s : Same H H') : Stay H H' := fun a o h _ => s a o h
theorem Stay.refl (H : Hp) : Stay H H := fun _ _ h _ => h
theorem Stay.trans {H H1 H2 : Hp} (a : Stay H H1) (b : Stay H1 H2) : Stay H H2 := fun c o h n => b c o (a c o h n) n
theorem Stay.lst {H : Hp} {p : Addr} {xs : List V} {o : HO} (h : H p = some (.lst xs)) : Stay H (upd H p o) := fun a x e n => by
  rw [upd_ne]
  · exact e
  · intro z
    rw [z, h] at e
    exact n _ (Option.some.inj e).symm
theorem Stay.new {H : Hp} {p : Addr} {o : HO} (h : H p = none) : Stay H (upd H p o) := Stay.of (up_same h)
theorem Stay.sqt {K : PySem.W.Frag} {H H' : Hp} {a : Addr} {xs : List V} (e : Stay H H') (h : SqT K H a xs) : SqT K H' a xs := by
  rcases h with (h | ⟨o, h⟩) | h
  · exact .inl (.inl (e _ _ h fun _ z => by cases z))
  · exact .inl (.inr ⟨o, e _ _ h fun _ z => by cases z⟩)
  · exact .inr h
/-! ### data that never changes -/
mutual
inductive Im (K : PySem.W.Frag) (H : Hp) : V → PyData → Prop
  | non : Im K H .non .none
  | bl (b : Bool) : Im K H (.bl b) (.bool b)
  | int (i : Int) : Im K H (.int i) (.int i)
  | str (x : Str) : Im K H (.str x) (.str x)
  | tup {a : Addr} {xs : List V} {ds : List PyData} : SqT K H a xs → ImA K H xs ds → Im K H (.ref a) (.tuple ds)
inductive ImA (K : PySem.W.Frag) (H : Hp) : List V → List PyData → Prop
  | nil : ImA K H [] []
  | cons {v : V} {vs : List V} {d : PyData} {ds : List PyData} : Im K H v d → ImA K H vs ds → ImA K H (v :: vs) (d :: ds)
end
mutual
theorem Im.mono {K : PySem.W.Frag} {H H' : Hp} (s : Stay H H') : ∀ {v : V} {d : PyData}, Im K H v d → Im K H' v d
  | _, _, .non => .non
  | _, _, .bl b => .bl b
  | _, _, .int i => .int i
  | _, _, .str x => .str x
  | _, _, .tup h a => .tup (s.sqt h) (ImA.mono s a)
theorem ImA.mono {K : PySem.W.Frag} {H H' : Hp} (s : Stay H H') : ∀ {vs : List V} {ds : List PyData}, ImA K H vs ds → ImA K H' vs ds
  | _, _, .nil => .nil
  | _, _, .cons a b => .cons (Im.mono s a) (ImA.mono s b)
end
mutual
theorem Im.dp {K : PySem.W.Frag} {H : Hp} : ∀ {v : V} {d : PyData}, Im K H v d → Dp K H v d
  | _, _, .non => .non
  | _, _, .bl b => .bl b
  | _, _, .int i => .int i
  | _, _, .str x => .str x
  | _, _, .tup h a => .tup h (ImA.dp a)
theorem ImA.dp {K : PySem.W.Frag} {H : Hp} : ∀ {vs : List V} {ds : List PyData}, ImA K H vs ds → DpAll K H vs ds
  | _, _, .nil => .nil
  | _, _, .cons a b => .cons (Im.dp a) (ImA.dp b)
end
theorem ImA.len {K : PySem.W.Frag} {H : Hp} : ∀ {vs : List V} {ds : List PyData}, ImA K H vs ds → vs.length = ds.length
  | _, _, .nil => rfl
  | _, _, .cons _ b => by rw [List.length_cons, List.length_cons, ImA.len b]
theorem ImA.get {K : PySem.W.Frag} {H : Hp} : ∀ {vs : List V} {ds : List PyData} {i : Nat} {d : PyData}, ImA K H vs ds → ds[i]? = some d → ∃ v, vs[i]? = some v ∧ Im K H v d
  | _, _, _, _, .nil, e => by simp at e
  | _, _, 0, _, .cons a _, e => by simp at e; subst e; exact ⟨_, rfl, a⟩
  | _, _, i + 1, d, .cons _ b, e => by
    obtain ⟨v, h1, h2⟩ := ImA.get (i := i) (d := d) b (by simpa using e)
    exact ⟨v, by simpa using h1, h2⟩
theorem ImA.app {K : PySem.W.Frag} {H : Hp} : ∀ {vs ws : List V} {ds es : List PyData}, ImA K H vs ds → ImA K H ws es → ImA K H (vs ++ ws) (ds ++ es)
  | _, _, _, _, .nil, b => b
  | _, _, _, _, .cons a r, b => .cons a (ImA.app r b)
theorem ImA.strs {K : PySem.W.Frag} {H : Hp} : ∀ l : List Str, ImA K H (l.map V.str) (l.map PyData.str)
  | [] => .nil
  | x :: l => .cons (.str x) (ImA.strs l)
theorem ImA.ints {K : PySem.W.Frag} {H : Hp} : ∀ l : List Int, ImA K H (l.map V.int) (l.map PyData.int)
  | [] => .nil
  | x :: l => .cons (.int x) (ImA.ints l)
theorem Im.strs {K : PySem.W.Frag} {H : Hp} {a : Addr} {l : List Str} (h : SqT K H a (l.map V.str)) : Im K H (.ref a) (.tuple (l.map PyData.str)) := .tup h (ImA.strs l)
theorem Im.ints {K : PySem.W.Frag} {H : Hp} {a : Addr} {l : List Int} (h : SqT K H a (l.map V.int)) : Im K H (.ref a) (.tuple (l.map PyData.int)) := .tup h (ImA.ints l)
/-! ### known for good, and own -/
structure Hs (B : Hp) (L : List (Addr × HO)) (H : Hp) : Prop where
  sub : Same B H
  own : ∀ q ∈ L, H q.1 = some q.2
  nd : (L.map (·.1)).Nodup
  ap : ∀ q ∈ L, B q.1 = none
section
variable {B B' H H' : Hp} {L : List (Addr × HO)} {p : Addr} {o o' : HO} {x y z u : Addr × HO}
theorem Hs.start (H : Hp) : Hs H [] H := ⟨Same.refl H, fun _ h => (nomatch h), List.nodup_nil, fun _ h => (nomatch h)⟩
theorem Hs.ne_of_new (h : Hs B L H) (hp : H p = none) : ∀ q ∈ L, q.1 ≠ p := fun q hq z => by
  have e := h.own q hq
  rw [z, hp] at e
  cases e
theorem Hs.new (h : Hs B L H) (hp : H p = none) : Hs B ((p, o) :: L) (upd H p o) where
  sub := h.sub.trans (up_same hp)
  own := fun q hq => by
    rcases List.mem_cons.mp hq with rfl | hq
    · exact upd_same
    · rw [upd_ne (h.ne_of_new hp q hq)]
      exact h.own q hq
  nd := List.nodup_cons.mpr ⟨fun hm => by
    obtain ⟨q, hq, e⟩ := List.mem_map.mp hm
    exact h.ne_of_new hp q hq e, h.nd⟩
  ap := fun q hq => by
    rcases List.mem_cons.mp hq with rfl | hq
    · exact h.sub.free hp
    · exact h.ap q hq
theorem Hs.tup (h : Hs B L H) (hp : H p = none) : Hs (upd B p o) L (upd H p o) where
  sub := fun b w e => by
    by_cases hb : b = p
    · subst hb
      rw [upd_same] at e ⊢
      exact e
    · rw [upd_ne hb] at e ⊢
      exact h.sub b w e
  own := fun q hq => by
    rw [upd_ne (h.ne_of_new hp q hq)]
    exact h.own q hq
  nd := h.nd
  ap := fun q hq => by
    rw [upd_ne (h.ne_of_new hp q hq)]
    exact h.ap q hq
/-- what is laid and never told of again -/
theorem Hs.lay (h : Hs B L H) (hp : H p = none) : Hs B L (upd H p o) where
  sub := h.sub.trans (up_same hp)
  own := fun q hq => by
    rw [upd_ne (h.ne_of_new hp q hq)]
    exact h.own q hq
  nd := h.nd
  ap := h.ap
theorem Hs.swap (h : Hs B (x :: y :: L) H) : Hs B (y :: x :: L) H :=
  ⟨h.sub, fun q hq => h.own q (by simp only [List.mem_cons] at hq ⊢; rcases hq with a | a | a <;> simp [a]),
   (List.Perm.swap _ _ _).nodup_iff.mp (by simpa using h.nd), fun q hq => h.ap q (by simp only [List.mem_cons] at hq ⊢; rcases hq with a | a | a <;> simp [a])⟩
theorem Hs.perm {L' : List (Addr × HO)} (h : Hs B L H) (pm : L.Perm L') : Hs B L' H :=
  ⟨h.sub, fun q hq => h.own q (pm.mem_iff.mpr hq), (pm.map _).nodup_iff.mp h.nd, fun q hq => h.ap q (pm.mem_iff.mpr hq)⟩
theorem Hs.r0 (h : Hs B ((p, o) :: L) H) : H p = some o := h.own (p, o) List.mem_cons_self
theorem Hs.r1 (h : Hs B (x :: (p, o) :: L) H) : H p = some o := h.own (p, o) (by simp)
theorem Hs.r2 (h : Hs B (x :: y :: (p, o) :: L) H) : H p = some o := h.own (p, o) (by simp)
theorem Hs.r3 (h : Hs B (x :: y :: z :: (p, o) :: L) H) : H p = some o := h.own (p, o) (by simp)
theorem Hs.r4 (h : Hs B (x :: y :: z :: u :: (p, o) :: L) H) : H p = some o := h.own (p, o) (by simp)
theorem Hs.w0 (h : Hs B ((p, o) :: L) H) : Hs B ((p, o') :: L) (upd H p o') where
  sub := fun b w e => by
    rw [upd_ne]
    · exact h.sub b w e
    · intro q
      have := h.ap (p, o) List.mem_cons_self
      rw [q, this] at e
      cases e
  own := fun q hq => by
    rcases List.mem_cons.mp hq with rfl | hq
    · exact upd_same
    · have nd := List.nodup_cons.mp h.nd
      rw [upd_ne]
      · exact h.own q (List.mem_cons_of_mem _ hq)
      · intro e
        exact nd.1 (List.mem_map.mpr ⟨q, hq, e⟩)
  nd := h.nd
  ap := fun q hq => by
    rcases List.mem_cons.mp hq with rfl | hq
    · exact h.ap (p, o) List.mem_cons_self
    · exact h.ap q (List.mem_cons_of_mem _ hq)
theorem Hs.w1 (h : Hs B (x :: (p, o) :: L) H) : Hs B (x :: (p, o') :: L) (upd H p o') := h.swap.w0.swap
theorem Hs.w2 (h : Hs B (x :: y :: (p, o) :: L) H) : Hs B (x :: y :: (p, o') :: L) (upd H p o') :=
  (h.perm (L' := (p, o) :: x :: y :: L) ((List.Perm.cons _ (List.Perm.swap _ _ _)).trans (List.Perm.swap _ _ _))).w0.perm ((List.Perm.swap _ _ _).trans (List.Perm.cons _ (List.Perm.swap _ _ _)))
theorem Hs.drop (h : Hs B (x :: L) H) : Hs B L H := ⟨h.sub, fun q hq => h.own q (List.mem_cons_of_mem _ hq), (List.nodup_cons.mp h.nd).2, fun q hq => h.ap q (List.mem_cons_of_mem _ hq)⟩
/-- own no more: known for good -/
theorem Hs.give (h : Hs B ((p, o) :: L) H) : Same B (upd B p o) ∧ Hs (upd B p o) L H := by
  have hp : B p = none := h.ap (p, o) List.mem_cons_self
  refine ⟨up_same hp, fun b w e => ?_, fun q hq => h.own q (List.mem_cons_of_mem _ hq), (List.nodup_cons.mp h.nd).2, fun q hq => ?_⟩
  · by_cases hb : b = p
    · subst hb
      rw [upd_same] at e
      rw [h.r0]
      exact e
    · rw [upd_ne hb] at e
      exact h.sub b w e
  · rw [upd_ne]
    · exact h.ap q (List.mem_cons_of_mem _ hq)
    · intro e
      exact (List.nodup_cons.mp h.nd).1 (List.mem_map.mpr ⟨q, hq, e⟩)
/-- a known list (an argument that the def changes) becomes own -/
theorem Hs.take (h : Hs B L H) (hb : B p = some o) : Hs (L2.del B p) ((p, o) :: L) H where
  sub := fun b w e => by
    unfold L2.del at e
    split at e
    · cases e
    · exact h.sub b w e
  own := fun q hq => by
    rcases List.mem_cons.mp hq with rfl | hq
    · exact h.sub _ _ hb
    · exact h.own q hq
  nd := by
    refine List.nodup_cons.mpr ⟨fun hm => ?_, h.nd⟩
    obtain ⟨q, hq, e⟩ := List.mem_map.mp hm
    have e2 := h.ap q hq
    rw [e, hb] at e2
    cases e2
  ap := fun q hq => by
    rcases List.mem_cons.mp hq with rfl | hq
    · exact del_same
    · unfold L2.del
      split
      · rfl
      · exact h.ap q hq
theorem stay_del {xs : List V} (hb : B p = some (.lst xs)) : Stay B (L2.del B p) := fun a w e n => by
  rw [del_ne]
  · exact e
  · intro z
    rw [z, hb] at e
    exact n _ (Option.some.inj e).symm
/-! behind a call -/
def cut (L : List (Addr × HO)) (H : Hp) : Hp := fun a => if a ∈ L.map (·.1) then none else H a
theorem cut_at {a : Addr} (h : a ∉ L.map (·.1)) : cut L H a = H a := if_neg h
theorem cut_in {a : Addr} (h : a ∈ L.map (·.1)) : cut L H a = none := if_pos h
theorem Hs.out (h : Hs B L H) {a : Addr} {w : HO} (e : B a = some w) : a ∉ L.map (·.1) := fun hm => by
  obtain ⟨q, hq, z⟩ := List.mem_map.mp hm
  have := h.ap q hq
  rw [z, e] at this
  cases this
theorem Hs.out_new (h : Hs B L H) {a : Addr} (e : H a = none) : a ∉ L.map (·.1) := fun hm => by
  obtain ⟨q, hq, z⟩ := List.mem_map.mp hm
  have := h.own q hq
  rw [z, e] at this
  cases this
/-- a call that changes nothing tracked -/
theorem Hs.after (h : Hs B L H) (s : Same H H') : Same B (cut L H') ∧ Hs (cut L H') L H' :=
  ⟨fun a w e => by rw [cut_at (h.out e)]; exact s a w (h.sub a w e), fun a w e => by
    unfold cut at e
    split at e
    · cases e
    · exact e, fun q hq => s _ _ (h.own q hq), h.nd, fun q hq => cut_in (List.mem_map_of_mem hq)⟩
/-- .. that changes the one at p -/
def Chg (p : Addr) (o' : HO) (H H' : Hp) : Prop := H' p = some o' ∧ ∀ a w, a ≠ p → H a = some w → H' a = some w
theorem Hs.chg (h : Hs B ((p, o) :: L) H) (s : Chg p o' H H') : Same B (cut ((p, o') :: L) H') ∧ Hs (cut ((p, o') :: L) H') ((p, o') :: L) H' := by
  have kk : ((p, o') :: L).map (·.1) = ((p, o) :: L).map (·.1) := rfl
  refine ⟨fun a w e => ?_, fun a w e => ?_, fun q hq => ?_, by rw [kk]; exact h.nd, fun q hq => cut_in (List.mem_map_of_mem hq)⟩
  · have ho := h.out e
    rw [cut_at (by rw [kk]; exact ho)]
    exact s.2 a w (fun z => ho (by rw [z]; simp)) (h.sub a w e)
  · unfold cut at e
    split at e
    · cases e
    · exact e
  · rcases List.mem_cons.mp hq with rfl | hq
    · exact s.1
    · refine s.2 _ _ (fun z => (List.nodup_cons.mp h.nd).1 (List.mem_map.mpr ⟨q, hq, z⟩)) (h.own q (List.mem_cons_of_mem _ hq))
theorem Chg.stay {xs : List V} (c : Chg p o' H H') (hb : H p = some (.lst xs)) : Stay H H' := fun a w e n => c.2 a w (fun z => by
  rw [z, hb] at e
  exact n _ (Option.some.inj e).symm) e
/-- at a def's end -/
theorem Hs.same (h : Hs B L H') (s : Same H B) : Same H H' := s.trans h.sub
theorem Hs.isChg {B0 : Hp} (h : Hs B ((p, o') :: L) H') (s : Same (L2.del B0 p) B) : Chg p o' B0 H' :=
  ⟨h.r0, fun a w hne e => h.sub a w (s a w (by rw [del_ne hne]; exact e))⟩
theorem Chg.trans {o1 o2 : HO} {H1 H2 : Hp} (a : Chg p o1 H H1) (b : Chg p o2 H1 H2) : Chg p o2 H H2 := ⟨b.1, fun c w n e => b.2 c w n (a.2 c w n e)⟩
end
/-- lists of one's own are lists -/
def AllL (L : List (Addr × HO)) : Prop := ∀ q ∈ L, ∃ xs, q.2 = .lst xs
theorem stay_cut {L : List (Addr × HO)} {B H H' : Hp} (h : Hs B L H) (al : AllL L) (s : Same H H') : Stay H' (cut L H') := fun a w e n => by
  rw [cut_at]
  · exact e
  · intro hm
    obtain ⟨q, hq, z⟩ := List.mem_map.mp hm
    obtain ⟨xs, hx⟩ := al q hq
    have := s _ _ (h.own q hq)
    rw [z, e, hx] at this
    exact n _ (Option.some.inj this)
theorem stay_cutC {L : List (Addr × HO)} {p : Addr} {o o' : HO} {B H H' : Hp} (h : Hs B ((p, o) :: L) H) (al : AllL ((p, o') :: L)) (s : Chg p o' H H') : Stay H' (cut ((p, o') :: L) H') := fun a w e n => by
  rw [cut_at]
  · exact e
  · intro hm
    obtain ⟨q, hq, z⟩ := List.mem_map.mp hm
    obtain ⟨xs, hx⟩ := al q hq
    have := (h.chg s).2.own q hq
    rw [z, e, hx] at this
    exact n _ (Option.some.inj this)
theorem AllL.nil : AllL [] := fun _ h => (nomatch h)
theorem AllL.cons {p : Addr} {xs : List V} {L : List (Addr × HO)} (h : AllL L) : AllL ((p, .lst xs) :: L) := fun q hq => by
  rcases List.mem_cons.mp hq with rfl | hq
  · exact ⟨xs, rfl⟩
  · exact h q hq
/-! ### callables: a module's def -/
structure Cal (P : Program) (w : World) (K : PySem.W.Frag) (mg : Str → Option Value) (base : Heap) (k : Nat) (x : Str) (ps : List Str) (sp : Sp) : Prop where
  fn : ∃ fd, FnOk P w K mg base (L2.CX P w) k (He.ga K x) fd ps sp ∧ Binds K fd ps []
  at_ : mg x = some (.ref (He.ga K x))
  kp : PySem.W.keepIn K (.ref (He.ga K x)) = true
theorem Cal.mono {P : Program} {w : World} {K : PySem.W.Frag} {mg : Str → Option Value} {base : Heap} {j k : Nat} {x : Str} {ps : List Str} {sp : Sp} (c : Cal P w K mg base j x ps sp) (h : j ≤ k) : Cal P w K mg base k x ps sp :=
  ⟨let ⟨fd, a, b⟩ := c.fn; ⟨fd, a.mono h, b⟩, c.at_, c.kp⟩
section
variable {X : Cx} {k j : Nat} {x : Str} {ps : List Str} {sp : Sp} {p pos : Pos} {e : Expr} {es : List Expr} {t : TA} {W : WX}
/-- f(..) that raises nothing -/
theorem pe_cal (c : Cal X.prog X.w X.K X.mg X.base j x ps sp) (hr : Room k X.A) (ha : PA X (e :: es) t) (hk : j ≤ k := by decide) (hg : Gl X x := by rfl) (hdb : (x == ("__debug__" : Str)) = false := by decide)
    (he : starEach (e :: es) X.env = (false, eval e X.env) :: starEach es X.env := by rfl) (hpl : (backTo pos (starEach es X.env)).any (·.1) = false := by rfl) : PE X (.Call (.Name x p) (e :: es) [] pos) (tCallS sp (fun _ => E0) t) := by
  obtain ⟨fd, F, b⟩ := c.fn
  exact pe_callS F (hr.mono hk) hg c.at_ c.kp b (fun σ => fun pins H s e s' I h => passL pins σ H s e s' I h) ha hdb he hpl
/-- f(..) that may raise -/
theorem pe_calX (c : Cal X.prog X.w X.K X.mg X.base j x ps sp) (hr : Room k X.A) (tk : Takes X W) (ha : PA X (e :: es) t) (hk : j ≤ k := by decide) (hg : Gl X x := by rfl) (hdb : (x == ("__debug__" : Str)) = false := by decide)
    (he : starEach (e :: es) X.env = (false, eval e X.env) :: starEach es X.env := by rfl) (hpl : (backTo pos (starEach es X.env)).any (·.1) = false := by rfl) : PE X (.Call (.Name x p) (e :: es) [] pos) (tCallS sp (WE W) t) := by
  obtain ⟨fd, F, b⟩ := c.fn
  exact pe_callS F (hr.mono hk) hg c.at_ c.kp b (fun σ => passAt tk σ) ha hdb he hpl
end
/-! ### steps of a reading -/
section
variable {σ : L2.St} {H : Hp} {D : Ends} {Q : VK} {K : PySem.W.Frag}
theorem if_dec {p : Prop} [Decidable p] {A B : Prop} (a : p → A) (b : ¬p → B) : if decide p = true then A else B := by
  by_cases h : p
  · rw [decide_eq_true h]
    exact iteT (a h)
  · rw [decide_eq_false h]
    exact iteF (b h)
theorem if_ndec {p : Prop} [Decidable p] {A B : Prop} (a : ¬p → A) (b : p → B) : if (!decide p) = true then A else B := by
  by_cases h : p
  · rw [decide_eq_true h]
    exact iteF (b h)
  · rw [decide_eq_false h]
    exact iteT (a h)
theorem if_bool {c : Bool} {A B : Prop} (a : c = true → A) (b : c = false → B) : if c = true then A else B := by
  cases c with
  | true => exact iteT (a rfl)
  | false => exact iteF (b rfl)
end
end Sy
/-! defs of the top; a bed as an object -/
namespace Sy
open PySem PySem.Spec PyProof.Rows L2
/-- the def x of the top, by its row st -/
def FD (K : PySem.W.Frag) (x : Str) (st : Stmt) : Prop := ∃ fd, FunD K x x (defArgs st) (defBody st) (defScope st) [] [] (He.ga K x) fd
theorem cal_of {P : Program} {w : World} {K : PySem.W.Frag} {mg : Str → Option Value} {base : Heap} {x : Str} {st : Stmt} {N ps : List Str} {k : Nat} {sp : Sp} (F : FD K x st) (hm : mg x = some (.ref (He.ga K x))) (S : FnScope N ps (defScope st))
    (hb : ∀ (kV doc pm : Value) (an : Option Addr) (cdv ct : Value) (us : List Value), us.length = ps.length → bindArgs (PySem.W.fnOf x x (defArgs st) (defBody st) (defScope st) .none kV doc pm an cdv ct) ⟨us, []⟩ = pure (ps.zip us))
    (len : ∀ vs H Q E, sp vs H Q E → vs.length = ps.length)
    (body : ∀ (cdv : Value) (A : Around) (outer : List Env) (s : Shared) (H : Hp) (vs : List V) (Q : VK) (E : XK), Room k (A.deeper (envOfC x (defScope st) s.heap.objs.size (He.ga K x) cdv)) → sp vs H Q E →
      ∃ t, PSs (cxOf (L2.CX P w) P w K mg base N x (defScope st) (He.ga K x) cdv A outer s H E) (defBody st) t ∧ t { nx := fun _ H' => Q .non H', rt := Q } (start N vs) H) : Cal P w K mg base (k + 1) x ps sp := by
  obtain ⟨fd, F⟩ := F
  exact ⟨⟨fd, F.ok S len body, F.bindsN hb⟩, hm, F.kp⟩
/-! ### a bed -/
abbrev Row := Str × Nat
/-- the number of branches, 0 if it is no kind -/
def ar (rows : List Sy.Row) (x : Str) : Nat := (rows.lookup x).getD 0
def isK (rows : List Sy.Row) (x : Str) : Bool := (rows.lookup x).isSome
def arKV (rows : List Sy.Row) : List (Key × V) := rows.map fun r => (Sum.inr r.1, V.int (r.2 : Nat))
def rkKV : Nat → List Sy.Row → List (Key × V)
  | _, [] => []
  | n, r :: rs => (Sum.inr r.1, V.int (n : Nat)) :: rkKV (n + 1) rs
/-- the place of a kind -/
def rk : Nat → List Sy.Row → Str → Option Nat
  | _, [], _ => none
  | n, r :: rs, x => if r.1 = x then some n else rk (n + 1) rs x
theorem lookup_cons (r : Sy.Row) (rs : List Sy.Row) (x : Str) : (r :: rs).lookup x = if r.1 = x then some r.2 else rs.lookup x := by
  obtain ⟨a, b⟩ := r
  by_cases h : a = x
  · subst h
    simp [List.lookup]
  · rw [if_neg h]
    have h2 : (x == a) = false := beq_eq_false_iff_ne.mpr fun z => h z.symm
    simp [List.lookup, h2]
theorem valV_cons {κ : Type} [DecidableEq κ] (k : κ) (v : V) (l : List (κ × V)) (x : κ) : valV ((k, v) :: l) x = if k = x then some v else valV l x := by
  unfold valV
  rw [List.find?_cons]
  by_cases h : k = x
  · subst h
    simp
  · simp [h]
theorem valV_ar (x : Str) : ∀ rows : List Sy.Row, valV (arKV rows) (Sum.inr x : Key) = (rows.lookup x).map fun n => V.int (n : Nat)
  | [] => rfl
  | r :: rs => by
    show valV ((Sum.inr r.1, V.int (r.2 : Nat)) :: arKV rs) (Sum.inr x : Key) = _
    rw [valV_cons, lookup_cons, valV_ar x rs]
    by_cases h : r.1 = x
    · subst h
      simp
    · rw [if_neg h, if_neg]
      exact fun z => h (Sum.inr.inj z)
theorem valV_rk (x : Str) : ∀ (n : Nat) (rows : List Sy.Row), valV (rkKV n rows) (Sum.inr x : Key) = (rk n rows x).map fun n => V.int (n : Nat)
  | _, [] => rfl
  | n, r :: rs => by
    show valV ((Sum.inr r.1, V.int (n : Nat)) :: rkKV (n + 1) rs) (Sum.inr x : Key) = _
    rw [valV_cons, valV_rk x (n + 1) rs]
    show _ = (if r.1 = x then some n else rk (n + 1) rs x).map _
    by_cases h : r.1 = x
    · subst h
      simp
    · rw [if_neg h, if_neg]
      exact fun z => h (Sum.inr.inj z)
/-- the fields, in the order in which __init__ stores them -/
def bedF (dA tR tK dR : Addr) : List (Str × V) := [("arities", .ref dA), ("rows", .ref tR), ("kinds", .ref tK), ("ranks", .ref dR)]
/-- a bed stands at a -/
structure BedAt (K : PySem.W.Frag) (H : Hp) (a : Addr) (rows : List Sy.Row) : Prop where
  ex : ∃ (dx dA tR tK dR : Addr) (ps : List Addr), H a = some (.ins (He.ga K "Bed") dx (bedF dA tR tK dR)) ∧ H dA = some (.dK (arKV rows)) ∧ H dR = some (.dK (rkKV 0 rows)) ∧ SqT K H tR (ps.map V.ref) ∧ SqT K H tK (rows.map fun r => V.str r.1) ∧
    Paired (fun p (r : Sy.Row) => SqT K H p [.str r.1, .int (r.2 : Nat)]) ps rows
theorem BedAt.mono {K : PySem.W.Frag} {H H' : Hp} {a : Addr} {rows : List Sy.Row} (s : Stay H H') (b : BedAt K H a rows) : BedAt K H' a rows := by
  obtain ⟨dx, dA, tR, tK, dR, ps, h1, h2, h3, h4, h5, h6⟩ := b.ex
  exact ⟨dx, dA, tR, tK, dR, ps, s _ _ h1 (fun _ z => nomatch z), s _ _ h2 (fun _ z => nomatch z), s _ _ h3 (fun _ z => nomatch z), s.sqt h4, s.sqt h5, Paired.mapP h6 fun _ _ z => s.sqt z⟩
/-- what the walk asks of the top: the class Bed -/
structure BedT (K : PySem.W.Frag) : Prop where
  cl : Cls K (He.ga K "Bed")
  nA : NoAttr K (He.ga K "Bed") "arities"
  nR : NoAttr K (He.ga K "Bed") "rows"
  nK : NoAttr K (He.ga K "Bed") "kinds"
  nRk : NoAttr K (He.ga K "Bed") "ranks"
section
variable {K : PySem.W.Frag} {σ : L2.St} {H : Hp} {Q : VK} {i : Nat} {a : Addr} {rows : List Sy.Row}
/-- bed.arities, the bed in slot i -/
theorem bed_ar (T : BedT K) (b : BedAt K H a rows) (hi : σ[i]? = some (some (.ref a))) (h : ∀ dA, H dA = some (.dK (arKV rows)) → Q (.ref dA) H) : tFld K (tVar i) "arities" σ H Q := by
  obtain ⟨dx, dA, tR, tK, dR, ps, h1, h2, h3, h4, h5, h6⟩ := b.ex
  exact ⟨_, hi, a, _, dx, _, _, rfl, h1, T.cl, T.nA, rfl, h dA h2⟩
theorem bed_rk (T : BedT K) (b : BedAt K H a rows) (hi : σ[i]? = some (some (.ref a))) (h : ∀ dR, H dR = some (.dK (rkKV 0 rows)) → Q (.ref dR) H) : tFld K (tVar i) "ranks" σ H Q := by
  obtain ⟨dx, dA, tR, tK, dR, ps, h1, h2, h3, h4, h5, h6⟩ := b.ex
  exact ⟨_, hi, a, _, dx, _, _, rfl, h1, T.cl, T.nRk, rfl, h dR h3⟩
theorem bed_kd (T : BedT K) (b : BedAt K H a rows) (hi : σ[i]? = some (some (.ref a))) (h : ∀ tK, SqT K H tK (rows.map fun r => V.str r.1) → Q (.ref tK) H) : tFld K (tVar i) "kinds" σ H Q := by
  obtain ⟨dx, dA, tR, tK, dR, ps, h1, h2, h3, h4, h5, h6⟩ := b.ex
  exact ⟨_, hi, a, _, dx, _, _, rfl, h1, T.cl, T.nK, rfl, h tK h5⟩
end
end Sy
namespace Sy
open PySem PySem.Spec PyProof.Rows L2
theorem pe_gint {X : Cx} {x : Str} {i : Int} {pos : Pos} (hg : Gl X x) (hm : ∃ t, X.mg x = some (.int i t)) (hd : (x == ("__debug__" : Str)) = false := by decide) : PE X (.Name x pos) (tC (.int i)) := by
  obtain ⟨t, hm⟩ := hm
  exact pe_glob hg hm ⟨_, rfl⟩ hd
theorem pe_gstr {X : Cx} {x z : Str} {pos : Pos} (hg : Gl X x) (hm : ∃ t, X.mg x = some (.str z t)) (hd : (x == ("__debug__" : Str)) = false := by decide) : PE X (.Name x pos) (tC (.str z)) := by
  obtain ⟨t, hm⟩ := hm
  exact pe_glob hg hm ⟨_, rfl⟩ hd
/-- built-in names and constants that the module leaves alone -/
structure Txt (K : PySem.W.Frag) (mg : Str → Option Value) : Prop where
  bed : BedT K
  len : mg "len" = none
  range : mg "range" = none
  reversed : mg "reversed" = none
  enumerate : mg "enumerate" = none
  tuple : mg "tuple" = none
  list : mg "list" = none
  int : mg "int" = none
  abs : mg "abs" = none
  max : mg "max" = none
  isinstance : mg "isinstance" = none
  MOST_KNOTS : ∃ t, mg "MOST_KNOTS" = some (.int 2000 t)
  MOST_KINDS : ∃ t, mg "MOST_KINDS" = some (.int 8 t)
  MOST_BRANCHES : ∃ t, mg "MOST_BRANCHES" = some (.int 3 t)
  LONGEST_NAME : ∃ t, mg "LONGEST_NAME" = some (.int 8 t)
/-! loops, in the form that a reading asks for -/
abbrev Loop (J : It) (g : TG) (tb : TS) (D : Ends) (σ : L2.St) (H : Hp) : Prop := ∃ W : Nat → Nat → L2.St → Hp → Prop, (∃ m, W 0 m σ H) ∧ ∀ i m σ H, W i m σ H → (J.stop i H ∧ D.nx σ H) ∨
  (J.go i H ∧ ∃ N : L2.St → Hp → Prop, (∀ σ' H', N σ' H' → ∃ m', m' < m ∧ W (i + 1) m' σ' H') ∧ ∀ x H', J.yld i H x H' → g x σ H' fun σ2 H2 => tb { D with nx := N, ct := N, bk := D.nx } σ2 H2)
/-- for i, x in enumerate(t) -/
theorem for_enumT {K : PySem.W.Frag} {si sj : Nat} {tb : TS} {D : Ends} {σ : L2.St} {H : Hp} {a : Addr} {xs : List V} (Pv : Nat → L2.St → Hp → Prop)
    (h0 : Pv 0 σ H) (hG : ∀ i σ H, i ≤ xs.length → Pv i σ H → SqT K H a xs)
    (hs : ∀ i x σ H T, xs[i]? = some x → Pv i σ H → H T = none → tb { D with nx := Pv (i + 1), ct := Pv (i + 1), bk := D.nx } ((σ.set si (some (.int (i : Nat)))).set sj (some x)) (upd H T (.tup [.int (i : Nat), x])))
    (hd : ∀ σ H, Pv xs.length σ H → D.nx σ H) : Loop (ItE K a) (gTup K 2 (gCons (gName si) (gCons (gName sj) gNil))) tb D σ H := by
  refine for_it walkE Pv h0 hG (fun i v σ H H' hi hp y => ?_) hd
  obtain ⟨T, x, z, rfl, hT, rfl, e1, e2⟩ := y
  cases e1
  exact ⟨T, _, rfl, SqT.of upd_same, rfl, _, _, rfl, _, _, rfl, rfl, hs i z σ H T e2 hp hT⟩
/-- .. over a list that the body leaves alone -/
theorem for_enumL {K : PySem.W.Frag} {si sj : Nat} {tb : TS} {D : Ends} {σ : L2.St} {H : Hp} {a : Addr} {xs : List V} (Pv : Nat → L2.St → Hp → Prop)
    (h0 : Pv 0 σ H) (hG : ∀ i σ H, i ≤ xs.length → Pv i σ H → SqL K H a xs)
    (hs : ∀ i x σ H T, xs[i]? = some x → Pv i σ H → H T = none → tb { D with nx := Pv (i + 1), ct := Pv (i + 1), bk := D.nx } ((σ.set si (some (.int (i : Nat)))).set sj (some x)) (upd H T (.tup [.int (i : Nat), x])))
    (hd : ∀ σ H, Pv xs.length σ H → D.nx σ H) : Loop (Ite K a) (gTup K 2 (gCons (gName si) (gCons (gName sj) gNil))) tb D σ H := by
  refine for_it walk_enum Pv h0 hG (fun i v σ H H' hi hp y => ?_) hd
  obtain ⟨T, x, z, rfl, hT, rfl, e1, e2⟩ := y
  cases e1
  exact ⟨T, _, rfl, SqT.of upd_same, rfl, _, _, rfl, _, _, rfl, rfl, hs i z σ H T e2 hp hT⟩
/-- for k in range(n) -/
theorem for_rng {si : Nat} {tb : TS} {D : Ends} {σ : L2.St} {H : Hp} {n : Nat} (Pv : Nat → L2.St → Hp → Prop) (h0 : Pv 0 σ H)
    (hs : ∀ (i : Nat) σ H, i < n → Pv i σ H → tb { D with nx := Pv (i + 1), ct := Pv (i + 1), bk := D.nx } (σ.set si (some (.int (i : Nat)))) H)
    (hd : ∀ σ H, Pv n σ H → D.nx σ H) : Loop (Itr 0 n) (gName si) tb D σ H := by
  refine for_range Pv h0 (fun i σ H hi hp => ?_) hd
  have e : (0 : Int) + (i : Nat) = (i : Nat) := by omega
  have q := hs i σ _ hi hp
  rw [← e] at q
  exact q
/-- for k in reversed(range(n)) -/
theorem for_rrng {si : Nat} {tb : TS} {D : Ends} {σ : L2.St} {H : Hp} {n : Nat} (Pv : Nat → L2.St → Hp → Prop) (h0 : Pv n σ H)
    (hs : ∀ (i : Nat) σ H, i < n → Pv (i + 1) σ H → tb { D with nx := Pv i, ct := Pv i, bk := D.nx } (σ.set si (some (.int (i : Nat)))) H)
    (hd : ∀ σ H, Pv 0 σ H → D.nx σ H) : Loop (Itc (0 + (((n : Int) - 0).toNat : Int) - 1) (-1) (((n : Int) - 0).toNat)) (gName si) tb D σ H := by
  have e0 : (((n : Nat) : Int) - 0).toNat = n := by omega
  rw [e0]
  refine for_it walk_rangeC (fun j σ H => Pv (n - j) σ H) h0 (fun _ _ _ _ _ => trivial) (fun j v σ H H' hj hp y => ?_) (fun σ H q => ?_)
  · obtain ⟨rfl, rfl⟩ := y
    have e : (0 : Int) + (n : Nat) - 1 + (j : Nat) * -1 = ((n - 1 - j : Nat) : Int) := by omega
    have e1 : n - j = (n - 1 - j) + 1 := by omega
    rw [e1] at hp
    have q := hs (n - 1 - j) σ _ (by omega) hp
    rw [← e] at q
    have e2 : n - (j + 1) = n - 1 - j := by omega
    show tb { D with nx := fun σ H => Pv (n - (j + 1)) σ H, ct := fun σ H => Pv (n - (j + 1)) σ H, bk := D.nx } _ _
    rw [e2]
    exact q
  · rw [Nat.sub_self] at q
    exact hd σ H q
end Sy
/-! plants as rows of numbers of branches: plain mathematics -/
namespace Sy
/-- how many entries n plants take that stand one behind the other -/
def sp : Nat → List Nat → Nat
  | 0, _ => 0
  | _ + 1, [] => 0
  | n + 1, a :: w => 1 + sp (n + a) w
/-- w is n plants, one behind the other -/
def Fo : Nat → List Nat → Prop
  | 0, [] => True
  | 0, _ :: _ => False
  | _ + 1, [] => False
  | n + 1, a :: w => Fo (n + a) w
theorem sp_zero (w : List Nat) : sp 0 w = 0 := by cases w <;> rfl
theorem sp_nil (n : Nat) : sp n [] = 0 := by cases n <;> rfl
theorem sp_cons (n a : Nat) (w : List Nat) : sp (n + 1) (a :: w) = 1 + sp (n + a) w := rfl
theorem sp_add : ∀ (w : List Nat) (n m : Nat), sp (n + m) w = sp n w + sp m (w.drop (sp n w))
  | w, 0, m => by rw [sp_zero, Nat.zero_add, Nat.zero_add, List.drop_zero]
  | [], n + 1, m => by simp [sp_nil]
  | a :: w, n + 1, m => by
    have e : n + 1 + m = (n + m) + 1 := by omega
    rw [e, sp_cons, sp_cons, show n + m + a = (n + a) + m by omega, sp_add w (n + a) m, Nat.add_assoc, show 1 + sp (n + a) w = sp (n + a) w + 1 by omega, List.drop_succ_cons]
theorem Fo.zero {w : List Nat} (h : Fo 0 w) : w = [] := by
  cases w with
  | nil => rfl
  | cons a w => exact h.elim
theorem Fo.le : ∀ {w : List Nat} {k m : Nat}, Fo (k + m) w → sp k w ≤ w.length ∧ Fo m (w.drop (sp k w)) ∧ Fo k (w.take (sp k w))
  | w, 0, m, h => by
    rw [Nat.zero_add] at h
    rw [sp_zero]
    exact ⟨Nat.zero_le _, h, trivial⟩
  | [], k + 1, m, h => by
    rw [show k + 1 + m = (k + m) + 1 by omega] at h
    exact h.elim
  | a :: w, k + 1, m, h => by
    rw [show k + 1 + m = (k + m) + 1 by omega] at h
    have h : Fo (k + m + a) w := h
    rw [show k + m + a = (k + a) + m by omega] at h
    have q := Fo.le h
    rw [sp_cons, show 1 + sp (k + a) w = sp (k + a) w + 1 by omega, List.drop_succ_cons, List.take_succ_cons]
    exact ⟨by rw [List.length_cons]; omega, q.2.1, q.2.2⟩
theorem Fo.sp : ∀ {w : List Nat} {m : Nat}, Fo m w → sp m w = w.length
  | [], m, _ => sp_nil m
  | a :: w, 0, h => h.elim
  | a :: w, m + 1, h => by
    rw [sp_cons, Fo.sp (w := w) (m := m + a) h, List.length_cons]
    omega
theorem Fo.app : ∀ {u v : List Nat} {n m : Nat}, Fo n u → Fo m v → Fo (n + m) (u ++ v)
  | [], v, 0, m, _, h => by rw [Nat.zero_add]; exact h
  | a :: u, v, n + 1, m, g, h => by
    have q : Fo (n + a + m) (u ++ v) := Fo.app (u := u) (n := n + a) g h
    rw [show n + 1 + m = (n + m) + 1 by omega]
    show Fo (n + m + a) (u ++ v)
    rw [show n + m + a = n + a + m by omega]
    exact q
theorem Fo.sp_app : ∀ {u : List Nat} {n : Nat} (v : List Nat), Fo n u → Sy.sp n (u ++ v) = u.length
  | [], 0, v, _ => sp_zero _
  | [], n + 1, v, h => h.elim
  | a :: u, 0, v, h => h.elim
  | a :: u, n + 1, v, h => by
    rw [List.cons_append, sp_cons, Fo.sp_app (u := u) (n := n + a) v h, List.length_cons]
    omega
theorem Fo.cut : ∀ {u v : List Nat} {n k : Nat}, Fo k u → Fo n (u ++ v) → k ≤ n ∧ Fo (n - k) v
  | [], v, n, 0, _, h => ⟨Nat.zero_le _, by simpa using h⟩
  | a :: u, v, 0, k, _, h => h.elim
  | a :: u, v, n + 1, k + 1, g, h => by
    have q := Fo.cut (u := u) (v := v) (n := n + a) (k := k + a) g h
    refine ⟨by omega, ?_⟩
    have := q.2
    rw [show n + a - (k + a) = n + 1 - (k + 1) by omega] at this
    exact this
/-- one plant of a row is put in another's place -/
theorem Fo.put : ∀ {u x y v : List Nat} {n : Nat}, Fo 1 x → Fo 1 y → Fo n (u ++ (x ++ v)) → Fo n (u ++ (y ++ v))
  | [], x, y, v, n, hx, hy, h => by
    have q := Fo.cut hx h
    have := hy.app q.2
    rw [show 1 + (n - 1) = n by omega] at this
    exact this
  | a :: u, x, y, v, 0, hx, hy, h => h.elim
  | a :: u, x, y, v, n + 1, hx, hy, h => Fo.put (u := u) (n := n + a) hx hy h
theorem Fo.pos {w : List Nat} {n : Nat} (h : Fo (n + 1) w) : 0 < w.length := by
  cases w with
  | nil => exact h.elim
  | cons a w => rw [List.length_cons]; omega
theorem Fo.at_ : ∀ {w : List Nat} {n : Nat} {i : Nat}, Fo n w → i < w.length → ∃ m, Fo (m + 1) (w.drop i)
  | a :: w, 0, _, h, _ => h.elim
  | a :: w, n + 1, 0, h, _ => ⟨n, h⟩
  | a :: w, n + 1, i + 1, h, hi => by
    rw [List.drop_succ_cons]
    exact Fo.at_ (w := w) (n := n + a) h (by rw [List.length_cons] at hi; omega)
/-- what begins within n plants ends within them -/
theorem sp_within : ∀ {w : List Nat} {n i : Nat}, i < sp n w → ∃ m, sp n w = i + sp (m + 1) (w.drop i)
  | w, 0, i, h => by rw [sp_zero] at h; omega
  | w, n + 1, 0, h => ⟨n, by simp⟩
  | [], n + 1, i + 1, h => by rw [sp_nil] at h; omega
  | a :: w, n + 1, i + 1, h => by
    rw [sp_cons] at h ⊢
    obtain ⟨m, e⟩ := sp_within (w := w) (n := n + a) (i := i) (by omega)
    exact ⟨m, by rw [List.drop_succ_cons, e]; omega⟩
/-- the number of branches at i -/
def aw (w : List Nat) (i : Nat) : Nat := w[i]?.getD 0
/-- behind the plant that begins at i -/
def en (w : List Nat) (i : Nat) : Nat := i + sp 1 (w.drop i)
/-- where the branch k of i begins -/
def kd (w : List Nat) (i k : Nat) : Nat := i + 1 + sp k (w.drop (i + 1))
theorem aw_of {w : List Nat} {i a : Nat} (h : w[i]? = some a) : aw w i = a := by rw [aw, h]; rfl
theorem drop_at {w : List Nat} {i : Nat} (h : i < w.length) : w.drop i = aw w i :: w.drop (i + 1) := by
  rw [List.drop_eq_getElem_cons h, aw, List.getElem?_eq_getElem h]
  rfl
theorem kd_zero (w : List Nat) (i : Nat) : kd w i 0 = i + 1 := by rw [kd, sp_zero]
section
variable {w : List Nat} {i j k : Nat}
theorem kd_succ : kd w i (k + 1) = en w (kd w i k) := by
  unfold kd en
  rw [sp_add, List.drop_drop]
  omega
theorem en_kd (hi : i < w.length) : kd w i (aw w i) = en w i := by
  unfold kd en
  rw [drop_at hi, sp_cons, Nat.zero_add]
  omega
theorem en_gt (hi : i < w.length) : i < en w i := by
  unfold en
  rw [drop_at hi, sp_cons]
  omega
theorem Fo.below (h : Fo 1 w) (hi : i < w.length) : ∃ m, Fo (aw w i + m) (w.drop (i + 1)) := by
  obtain ⟨m, q⟩ := h.at_ hi
  rw [drop_at hi] at q
  exact ⟨m, by rw [Nat.add_comm]; exact q⟩
theorem Fo.kd_lt (h : Fo 1 w) (hi : i < w.length) (hk : k < aw w i) : kd w i k < w.length := by
  obtain ⟨m, q⟩ := h.below hi
  rw [show aw w i + m = k + (aw w i + m - k - 1 + 1) by omega] at q
  have q := Fo.le q
  have := q.2.1.pos
  rw [List.length_drop, List.length_drop] at this
  unfold kd
  omega
theorem Fo.en_le (h : Fo 1 w) (hi : i < w.length) : en w i ≤ w.length := by
  obtain ⟨m, q⟩ := h.at_ hi
  rw [Nat.add_comm] at q
  have q := q.le
  have := q.1
  rw [List.length_drop] at this
  unfold en
  omega
theorem Fo.en0 (h : Fo 1 w) : en w 0 = w.length := by
  unfold en
  rw [List.drop_zero, h.sp]
  omega
/-- the branch that begins at i is a plant -/
theorem Fo.branch (h : Fo 1 w) (hi : i < w.length) : Fo 1 ((w.drop i).take (en w i - i)) := by
  obtain ⟨m, q⟩ := h.at_ hi
  rw [Nat.add_comm] at q
  have q := q.le.2.2
  unfold en
  rw [show i + Sy.sp 1 (w.drop i) - i = Sy.sp 1 (w.drop i) by omega]
  exact q
theorem kd_gt : i < kd w i k := by unfold kd; omega
theorem kd_lt_succ (h : Fo 1 w) (hi : i < w.length) (hk : k < aw w i) : kd w i k < kd w i (k + 1) := by
  rw [kd_succ]
  exact en_gt (h.kd_lt hi hk)
theorem kd_mono (h : Fo 1 w) (hi : i < w.length) : ∀ (d : Nat), k + d ≤ aw w i → kd w i k + d ≤ kd w i (k + d)
  | 0, _ => Nat.le_refl _
  | d + 1, hd => by
    have a := kd_mono h hi d (by omega)
    have b := kd_lt_succ h hi (k := k + d) (by omega)
    rw [show k + (d + 1) = k + d + 1 by omega]
    omega
/-- nested -/
theorem en_nest (a : i ≤ j) (b : j < en w i) : en w j ≤ en w i := by
  unfold en at b ⊢
  obtain ⟨m, e⟩ := sp_within (w := w.drop i) (n := 1) (i := j - i) (by omega)
  rw [List.drop_drop, show i + (j - i) = j by omega, Nat.add_comm m 1, sp_add] at e
  omega
theorem kd_le_en (h : Fo 1 w) (hi : i < w.length) (hk : k ≤ aw w i) : kd w i k ≤ en w i := by
  have := kd_mono h hi (k := k) (aw w i - k) (by omega)
  rw [show k + (aw w i - k) = aw w i by omega, en_kd hi] at this
  omega
/-- a place behind i and within its plant stands in one of its branches -/
theorem in_branch (hi : i < w.length) (a : i < j) : ∀ (n : Nat), j < kd w i n → ∃ k, k < n ∧ kd w i k ≤ j ∧ j < kd w i (k + 1)
  | 0, b => by rw [kd_zero] at b; omega
  | n + 1, b => by
    by_cases c : j < kd w i n
    · obtain ⟨k, h1, h2, h3⟩ := in_branch hi a n c
      exact ⟨k, by omega, h2, h3⟩
    · exact ⟨n, by omega, by omega, b⟩
/-- a knot has one place above it .. -/
theorem kd_lt_of {i2 k2 : Nat} (h : Fo 1 w) (hi : i < w.length) (hi2 : i2 < w.length) (hk : k < aw w i) (hk2 : k2 < aw w i2) (lt : i < i2) : kd w i k ≠ kd w i2 k2 := by
  intro e
  have e1 : kd w i k < en w i := by
    have := kd_le_en h hi (k := k + 1) (by omega)
    have := kd_lt_succ h hi hk
    omega
  have g2 : i2 < kd w i2 k2 := kd_gt
  have hin : i2 < kd w i (aw w i) := by rw [en_kd hi]; omega
  obtain ⟨t, h1, h2, h3⟩ := in_branch hi lt _ hin
  have n1 : en w i2 ≤ en w (kd w i t) := en_nest h2 (by rw [← kd_succ]; exact h3)
  rw [← kd_succ] at n1
  have n2 : kd w i2 k2 < en w i2 := by
    have := kd_le_en h hi2 (k := k2 + 1) (by omega)
    have := kd_lt_succ h hi2 hk2
    omega
  by_cases c : k ≤ t
  · have := kd_mono h hi (k := k) (t - k) (by omega)
    rw [show k + (t - k) = t by omega] at this
    omega
  · have := kd_mono h hi (k := t + 1) (k - (t + 1)) (by omega)
    rw [show t + 1 + (k - (t + 1)) = k by omega] at this
    omega
theorem kd_inj {i2 k2 : Nat} (h : Fo 1 w) (hi : i < w.length) (hi2 : i2 < w.length) (hk : k < aw w i) (hk2 : k2 < aw w i2) (e : kd w i k = kd w i2 k2) : i = i2 ∧ k = k2 := by
  rcases Nat.lt_trichotomy i i2 with c | c | c
  · exact absurd e (kd_lt_of h hi hi2 hk hk2 c)
  · subst c
    refine ⟨rfl, ?_⟩
    rcases Nat.lt_trichotomy k k2 with d | d | d
    · have := kd_mono h hi (k := k) (k2 - k) (by omega)
      rw [show k + (k2 - k) = k2 by omega] at this
      omega
    · exact d
    · have := kd_mono h hi (k := k2) (k - k2) (by omega)
      rw [show k2 + (k - k2) = k by omega] at this
      omega
  · exact absurd e.symm (kd_lt_of h hi2 hi hk2 hk c)
/-- .. and every knot but the root has one -/
theorem has_above (h : Fo 1 w) : ∀ (j : Nat), 0 < j → j < w.length → ∃ i k, i < j ∧ k < aw w i ∧ kd w i k = j := by
  intro j
  induction j using Nat.strongRecOn with
  | _ j ih =>
    intro h0 hj
    -- from a place i < j whose plant ends at j
    have climb : ∀ i, i < j → en w i = j → ∃ i k, i < j ∧ k < aw w i ∧ kd w i k = j := by
      intro i
      induction i using Nat.strongRecOn with
      | _ i ih2 =>
        intro hi e
        by_cases z : i = 0
        · subst z
          rw [h.en0] at e
          omega
        · obtain ⟨p, k, hp, hk, ek⟩ := ih i hi (by omega) (by omega)
          have es : kd w p (k + 1) = j := by rw [kd_succ, ek]; exact e
          by_cases c : k + 1 < aw w p
          · exact ⟨p, k + 1, by omega, c, es⟩
          · have : k + 1 = aw w p := by omega
            rw [this, en_kd (by omega)] at es
            exact ih2 p hp (by omega) es
    by_cases c : 0 < aw w (j - 1)
    · exact ⟨j - 1, 0, by omega, c, by rw [kd_zero]; omega⟩
    · refine climb (j - 1) (by omega) ?_
      rw [← en_kd (by omega), show aw w (j - 1) = 0 by omega, kd_zero]
      omega
end
/-! ### the paths -/
/-- one knot's branches get their paths -/
def stp (w : List Nat) (i : Nat) (fd : List (List Nat)) (n : Nat) : List (List Nat) := (List.range n).foldl (fun fd k => fd.set (kd w i k) (fd.getD i [] ++ [k])) fd
/-- the paths after the first n knots -/
def pth (w : List Nat) (n : Nat) : List (List Nat) := (List.range n).foldl (fun fd i => stp w i fd (aw w i)) (List.replicate w.length [])
def pths (w : List Nat) : List (List Nat) := pth w w.length
theorem stp_succ (w : List Nat) (i n : Nat) (fd : List (List Nat)) : stp w i fd (n + 1) = (stp w i fd n).set (kd w i n) ((stp w i fd n).getD i [] ++ [n]) := by
  unfold stp
  rw [List.range_succ, List.foldl_append]
  rfl
theorem pth_succ (w : List Nat) (n : Nat) : pth w (n + 1) = stp w n (pth w n) (aw w n) := by
  unfold pth
  rw [List.range_succ, List.foldl_append]
  rfl
theorem stp_zero (w : List Nat) (i : Nat) (fd : List (List Nat)) : stp w i fd 0 = fd := rfl
theorem stp_len (w : List Nat) (i : Nat) (fd : List (List Nat)) : ∀ n, (stp w i fd n).length = fd.length
  | 0 => rfl
  | n + 1 => by rw [stp_succ, List.length_set, stp_len w i fd n]
theorem pth_len (w : List Nat) : ∀ n, (pth w n).length = w.length
  | 0 => by show (List.replicate w.length []).length = _; rw [List.length_replicate]
  | n + 1 => by rw [pth_succ, stp_len, pth_len w n]
theorem getD_set_ne {α : Type} (l : List α) {i j : Nat} (v d : α) (h : i ≠ j) : (l.set i v).getD j d = l.getD j d := by
  rw [List.getD_eq_getElem?_getD, List.getElem?_set_ne h, ← List.getD_eq_getElem?_getD]
theorem getD_set_eq {α : Type} (l : List α) {i : Nat} (v d : α) (h : i < l.length) : (l.set i v).getD i d = v := by
  rw [List.getD_eq_getElem?_getD, List.getElem?_set_self h]
  rfl
/-- places up to i stay; other places stay; a branch's place -/
theorem stp_ne (w : List Nat) (i j : Nat) (fd : List (List Nat)) : ∀ n, (∀ k, k < n → kd w i k ≠ j) → (stp w i fd n).getD j [] = fd.getD j []
  | 0, _ => rfl
  | n + 1, h => by
    rw [stp_succ, getD_set_ne _ _ _ (h n (by omega))]
    exact stp_ne w i j fd n fun k hk => h k (by omega)
theorem stp_at {w : List Nat} {i k : Nat} {fd : List (List Nat)} (h : Fo 1 w) (hi : i < w.length) (hl : fd.length = w.length) (hk : k < aw w i) : ∀ n, k < n → n ≤ aw w i → (stp w i fd n).getD (kd w i k) [] = fd.getD i [] ++ [k]
  | n + 1, a, b => by
    have hs : (stp w i fd n).getD i [] = fd.getD i [] := stp_ne w i i fd n fun k _ => by have := kd_gt (w := w) (i := i) (k := k); omega
    rw [stp_succ, hs]
    by_cases c : k = n
    · subst c
      rw [getD_set_eq]
      rw [stp_len, hl]
      exact h.kd_lt hi hk
    · rw [getD_set_ne]
      · exact stp_at h hi hl hk n (by omega) (by omega)
      · intro e
        have := (kd_inj h hi hi (by omega) hk e).2
        omega
theorem pth_at {w : List Nat} {i k : Nat} (h : Fo 1 w) (hi : i < w.length) (hk : k < aw w i) : ∀ n, i < n → n ≤ w.length → (pth w n).getD (kd w i k) [] = (pth w n).getD i [] ++ [k]
  | n + 1, a, b => by
    have si : (pth w (n + 1)).getD i [] = (pth w n).getD i [] := by
      rw [pth_succ]
      exact stp_ne w n i _ _ fun t _ e => by have := kd_gt (w := w) (i := n) (k := t); omega
    rw [si]
    by_cases c : i = n
    · subst c
      rw [pth_succ]
      exact stp_at h hi (pth_len w _) hk _ hk (Nat.le_refl _)
    · rw [pth_succ, stp_ne]
      · exact pth_at h hi hk n (by omega) (by omega)
      · intro t ht e
        have := (kd_inj h (by omega) hi ht hk e).1
        omega
theorem pths_at {w : List Nat} {i k : Nat} (h : Fo 1 w) (hi : i < w.length) (hk : k < aw w i) : (pths w).getD (kd w i k) [] = (pths w).getD i [] ++ [k] := pth_at h hi hk _ hi (Nat.le_refl _)
theorem pth_root (w : List Nat) : ∀ n, (pth w n).getD 0 [] = []
  | 0 => by
    show (List.replicate w.length []).getD 0 [] = []
    cases w <;> rfl
  | n + 1 => by
    rw [pth_succ, stp_ne]
    · exact pth_root w n
    · intro k _ e
      have := kd_gt (w := w) (i := n) (k := k)
      omega
/-- where a path leads -/
def pl (w : List Nat) : Nat → List Nat → Option Nat
  | i, [] => some i
  | i, k :: p => if k < aw w i then pl w (kd w i k) p else none
theorem pl_snoc (w : List Nat) (k : Nat) : ∀ (p : List Nat) (i : Nat), pl w i (p ++ [k]) = (pl w i p).bind fun j => if k < aw w j then some (kd w j k) else none
  | [], i => rfl
  | t :: p, i => by
    show (if t < aw w i then pl w (kd w i t) (p ++ [k]) else none) = (if t < aw w i then pl w (kd w i t) p else none).bind _
    by_cases c : t < aw w i
    · rw [if_pos c, if_pos c, pl_snoc w k p]
    · rw [if_neg c, if_neg c]
      rfl
theorem pl_pths {w : List Nat} (h : Fo 1 w) : ∀ j, j < w.length → pl w 0 ((pths w).getD j []) = some j := by
  intro j
  induction j using Nat.strongRecOn with
  | _ j ih =>
    intro hj
    by_cases z : j = 0
    · subst z
      rw [show pths w = pth w w.length from rfl, pth_root]
      rfl
    · obtain ⟨i, k, hi, hk, e⟩ := has_above h j (by omega) hj
      rw [← e, pths_at h (by omega) hk, pl_snoc, ih i hi (by omega)]
      show (if k < aw w i then some (kd w i k) else none) = _
      rw [if_pos hk]
/-- a path of a plant leads to the same place in each plant that is alike up to that place -/
theorem pl_local {w w' : List Nat} (h : Fo 1 w) (h' : Fo 1 w') : ∀ (p : List Nat) (i : Nat), pl w 0 p = some i → i < w'.length → w'.take i = w.take i → pl w' 0 p = some i := by
  intro p
  induction hn : p.length generalizing p with
  | zero =>
    have : p = [] := List.length_eq_zero_iff.mp hn
    subst this
    exact fun i e _ _ => e
  | succ n ih =>
    intro i e hi a
    obtain ⟨q, k, rfl⟩ : ∃ q k, p = q ++ [k] := ⟨p.dropLast, p.getLast (by intro z; rw [z] at hn; cases hn), (List.dropLast_concat_getLast _).symm⟩
    rw [pl_snoc] at e ⊢
    cases c : pl w 0 q with
    | none => rw [c] at e; cases e
    | some j =>
      rw [c] at e
      have e : (if k < aw w j then some (kd w j k) else none) = some i := e
      by_cases hk : k < aw w j
      · rw [if_pos hk] at e
        have e := Option.some.inj e
        have hj : j < i := by rw [← e]; exact kd_gt
        have hjw : j < w.length := by
          by_cases z : j < w.length
          · exact z
          · rw [aw, List.getElem?_eq_none (by omega)] at hk
            exact absurd hk (Nat.not_lt_zero _)
        have tk : w'.take j = w.take j := by
          have := congrArg (List.take j) a
          rwa [List.take_take, List.take_take, Nat.min_eq_left (by omega)] at this
        rw [ih q (by simpa using hn) j c (by omega) tk]
        have ea : aw w' j = aw w j := by
          have := congrArg (fun l => l[j]?) a
          simp only [List.getElem?_take, hj, if_true] at this
          rw [aw, aw, this]
        have ek : kd w' j k = kd w j k := by
          obtain ⟨m, f⟩ := h.below hjw
          rw [show aw w j + m = k + (aw w j + m - k) by omega] at f
          have f := f.le.2.2
          have el : i - (j + 1) = sp k (w.drop (j + 1)) := by rw [← e, kd]; omega
          have hw : w'.drop (j + 1) = (w.drop (j + 1)).take (sp k (w.drop (j + 1))) ++ w'.drop i := by
            rw [← el, List.take_drop, show j + 1 + (i - (j + 1)) = i by omega, ← a, ← List.take_append_drop i w', List.drop_append, List.take_append_drop]
            have : (w'.take i).length = i := by rw [List.length_take]; omega
            rw [this, show j + 1 - i = 0 by omega, List.drop_zero]
          unfold kd
          rw [hw, f.sp_app, List.length_take, Nat.min_eq_left]
          rw [← el, List.length_drop]
          have := h.kd_lt hjw hk
          omega
        show (if k < aw w' j then some (kd w' j k) else none) = _
        rw [ea, if_pos hk, ek, e]
      · rw [if_neg hk] at e
        cases e
end Sy
/-! heights, plain -/
namespace Sy
/-- hs is right at j, so far as the first t branches go -/
def HtAt (w hs : List Nat) (j t : Nat) : Prop := (∀ k, k < t → hs.getD (kd w j k) 0 + 1 ≤ hs.getD j 0) ∧ 1 ≤ hs.getD j 0 ∧ (hs.getD j 0 = 1 ∨ ∃ k, k < t ∧ hs.getD j 0 = hs.getD (kd w j k) 0 + 1)
structure HtI (w hs : List Nat) (i t : Nat) : Prop where
  len : hs.length = w.length
  up : ∀ j, i < j → j < w.length → HtAt w hs j (aw w j)
  low : ∀ j, j < i → hs.getD j 0 = 1
  at_ : HtAt w hs i t
structure HtO (w hs : List Nat) (i : Nat) : Prop where
  len : hs.length = w.length
  up : ∀ j, i ≤ j → j < w.length → HtAt w hs j (aw w j)
  low : ∀ j, j < i → hs.getD j 0 = 1
section
variable {w hs : List Nat} {i t : Nat}
theorem HtO.start (w : List Nat) : HtO w (List.replicate w.length 1) w.length :=
  ⟨by simp, fun j a b => by omega, fun j h => by rw [List.getD_eq_getElem?_getD, List.getElem?_replicate, if_pos h]; rfl⟩
theorem HtO.open_ (h : HtO w hs (i + 1)) : HtI w hs i 0 :=
  ⟨h.len, fun j a b => h.up j a b, fun j a => h.low j (by omega), fun k z => by omega, by rw [h.low i (by omega)]; exact Nat.le_refl _, .inl (h.low i (by omega))⟩
theorem HtI.close (h : HtI w hs i (aw w i)) : HtO w hs i :=
  ⟨h.len, fun j a b => by
    rcases Nat.eq_or_lt_of_le a with e | e
    · subst e
      exact h.at_
    · exact h.up j e b, h.low⟩
theorem HtI.step (h : HtI w hs i t) (hi : i < w.length) : HtI w (hs.set i (max (hs.getD i 0) (hs.getD (kd w i t) 0 + 1))) i (t + 1) := by
  have o : ∀ (v j : Nat), i < j → (hs.set i v).getD j 0 = hs.getD j 0 := fun v j hj => getD_set_ne _ _ _ (by omega)
  have e : ∀ v, (hs.set i v).getD i 0 = v := fun v => getD_set_eq _ _ _ (by rw [h.len]; exact hi)
  have g : ∀ k, i < kd w i k := fun k => kd_gt
  refine ⟨by rw [List.length_set]; exact h.len, fun j a b => ?_, fun j a => by rw [getD_set_ne _ _ _ (by omega)]; exact h.low j a, ?_⟩
  · have q := h.up j a b
    unfold HtAt at q ⊢
    rw [o _ j a]
    refine ⟨fun k hk => ?_, q.2.1, ?_⟩
    · rw [o _ _ (Nat.lt_trans a kd_gt)]
      exact q.1 k hk
    · rcases q.2.2 with r | ⟨k, hk, r⟩
      · exact .inl r
      · exact .inr ⟨k, hk, by rw [o _ _ (Nat.lt_trans a kd_gt)]; exact r⟩
  · have q := h.at_
    unfold HtAt at q ⊢
    rw [e]
    refine ⟨fun k hk => ?_, by omega, ?_⟩
    · rw [o _ _ (g k)]
      by_cases c : k = t
      · subst c
        omega
      · have := q.1 k (by omega)
        omega
    · rcases Nat.le_total (hs.getD i 0) (hs.getD (kd w i t) 0 + 1) with c | c
      · exact .inr ⟨t, by omega, by rw [o _ _ (g t)]; omega⟩
      · rcases q.2.2 with r | ⟨k, hk, r⟩
        · exact .inl (by omega)
        · exact .inr ⟨k, by omega, by rw [o _ _ (g k)]; omega⟩
theorem HtO.above (h : HtO w hs 0) (f : Fo 1 w) : ∀ j, j < w.length → ((pths w).getD j []).length + hs.getD j 0 ≤ hs.getD 0 0 := by
  intro j
  induction j using Nat.strongRecOn with
  | _ j ih =>
    intro hj
    by_cases z : j = 0
    · subst z
      rw [show pths w = pth w w.length from rfl, pth_root]
      exact Nat.le_of_eq (Nat.zero_add _)
    · obtain ⟨i, k, hi, hk, e⟩ := has_above f j (by omega) hj
      have := ih i hi (by omega)
      have q := (h.up i (Nat.zero_le _) (by omega)).1 k hk
      rw [← e, pths_at f (by omega) hk, List.length_append]
      show _ + 1 + _ ≤ _
      omega
theorem HtO.below (h : HtO w hs 0) (f : Fo 1 w) : ∀ (d i : Nat), w.length - i ≤ d → i < w.length → ∃ j, j < w.length ∧ ((pths w).getD j []).length + 1 = ((pths w).getD i []).length + hs.getD i 0
  | 0, i, a, hi => by omega
  | d + 1, i, a, hi => by
    rcases (h.up i (Nat.zero_le _) hi).2.2 with r | ⟨k, hk, r⟩
    · exact ⟨i, hi, by rw [r]⟩
    · have g : i < kd w i k := kd_gt
      have l := f.kd_lt hi hk
      obtain ⟨j, hj, e⟩ := HtO.below h f d (kd w i k) (by omega) l
      refine ⟨j, hj, ?_⟩
      rw [e, pths_at f hi hk, List.length_append, r]
      show _ + 1 + _ = _
      omega
/-- as the law counts it -/
def tall (l : List (List Nat)) : Nat := l.foldl (fun t p => if t ≤ p.length then p.length + 1 else t) 0
theorem tall_snoc (l : List (List Nat)) (p : List Nat) : tall (l ++ [p]) = if tall l ≤ p.length then p.length + 1 else tall l := by
  unfold tall
  rw [List.foldl_append]
  rfl
theorem tall_ge (l : List (List Nat)) : (∀ p ∈ l, p.length + 1 ≤ tall l) ∧ (tall l = 0 ∨ ∃ p ∈ l, p.length + 1 = tall l) := by
  suffices h : ∀ (l : List (List Nat)) (n : Nat), (n ≤ l.foldl (fun t p => if t ≤ p.length then p.length + 1 else t) n) ∧ (∀ p ∈ l, p.length + 1 ≤ l.foldl (fun t p => if t ≤ p.length then p.length + 1 else t) n) ∧
      (l.foldl (fun t p => if t ≤ p.length then p.length + 1 else t) n = n ∨ ∃ p ∈ l, p.length + 1 = l.foldl (fun t p => if t ≤ p.length then p.length + 1 else t) n) from ⟨(h l 0).2.1, (h l 0).2.2⟩
  intro l
  induction l with
  | nil => exact fun n => ⟨Nat.le_refl _, fun _ h => (nomatch h), .inl rfl⟩
  | cons x l ih =>
    intro n
    rw [List.foldl_cons]
    have q := ih (if n ≤ x.length then x.length + 1 else n)
    by_cases c : n ≤ x.length
    · rw [if_pos c] at q ⊢
      refine ⟨by omega, fun p hp => ?_, ?_⟩
      · rcases List.mem_cons.mp hp with rfl | hp
        · exact q.1
        · exact q.2.1 p hp
      · rcases q.2.2 with e | ⟨p, hp, e⟩
        · exact .inr ⟨x, List.mem_cons_self, e.symm⟩
        · exact .inr ⟨p, List.mem_cons_of_mem _ hp, e⟩
    · rw [if_neg c] at q ⊢
      refine ⟨q.1, fun p hp => ?_, ?_⟩
      · rcases List.mem_cons.mp hp with rfl | hp
        · have := q.1; omega
        · exact q.2.1 p hp
      · rcases q.2.2 with e | ⟨p, hp, e⟩
        · exact .inl e
        · exact .inr ⟨p, List.mem_cons_of_mem _ hp, e⟩
theorem HtO.tall (h : HtO w hs 0) (f : Fo 1 w) : hs.getD 0 0 = Sy.tall (pths w) := by
  have hn := f.pos
  have q := tall_ge (pths w)
  have pl : (pths w).length = w.length := pth_len w _
  have ge : ∀ j, j < w.length → ((pths w).getD j []) ∈ pths w := fun j hj => by
    rw [List.getD_eq_getElem?_getD, List.getElem?_eq_getElem (by omega)]
    exact List.getElem_mem _
  apply Nat.le_antisymm
  · obtain ⟨j, hj, e⟩ := h.below f w.length 0 (by omega) hn
    have e0 : (pths w).getD 0 [] = [] := pth_root w _
    rw [e0] at e
    have := q.1 _ (ge j hj)
    simp only [List.length_nil] at e
    omega
  · rcases q.2 with e | ⟨p, hp, e⟩
    · omega
    · obtain ⟨j, hj, ej⟩ := List.mem_iff_getElem.mp hp
      have a := h.above f j (by omega)
      have b := (h.up j (Nat.zero_le _) (by omega)).2.1
      rw [List.getD_eq_getElem?_getD (l := pths w), List.getElem?_eq_getElem hj, ej] at a
      have a : p.length + hs.getD j 0 ≤ hs.getD 0 0 := a
      omega
end
end Sy
namespace Sy
open PySem PySem.Spec PyProof.Rows L2
def top (i : Nat) : Stmt := PySem.Challenge.pw_shearyard_k03_whole_common_and_united_st.main.body.getD i (.Pass ⟨0, 0, 0, 0⟩)
end Sy
/-! what the head's run looks at (the run is proved early: it wants much memory) -/
namespace Sy
open PySem PySem.Spec PyProof.Rows L2
def clb (i j : Nat) : Stmt := match top i with
  | .ClassDef _ _ _ b _ _ _ _ _ _ _ => b.getD j (.Pass ⟨0, 0, 0, 0⟩)
  | s => s
abbrev iniA (K : PySem.W.Frag) (x : Str) : Addr := He.ma K (He.ga K x) "__init__"
structure ErD where
  x : Str
  q : Str
  st : Stmt
  fs : List Str
abbrev FnE : Type := Option (Str × Str × Arguments × FuncBody × Scope × Addr × List Str × Addr)
def ErD.val (d : ErD) : FnE := some ("__init__", d.q, defArgs d.st, .stmts (defBody d.st), defScope d.st, mainGlobals, ["__class__"], builtinsNs)
def erW (K : PySem.W.Frag) (x : Str) : FnE := match K.lookup (iniA K x) with
  | some ⟨_, _, .func fd, _⟩ => some (fd.name, fd.qualname, fd.params, fd.body, fd.scope, fd.globals, fd.closure.map (·.1), fd.builtins)
  | _ => none
/-- the class object -/
def oexB (K : PySem.W.Frag) (C : Addr) : Bool := match K.lookup C with
  | some ⟨.type t, _, .cls cd, sl⟩ => (match cd.mro, sl.toList with
    | .ref C' :: bm, [_, _, _, _, some (.builtin n), _] => decide (t = "type") && (decide (C' = C) && (decide (n = "ValueError.__new__") && (!cd.hasDel && (cd.hasDict && HandSPX.refsVE bm))))
    | _, _ => false)
  | _ => false
/-- what stands in the code object, in the cell -/
def fileB (K : PySem.W.Frag) (file : Str) (cd : Value) : Bool := match cd with
  | .ref c => (match K.lookup c with
    | some ⟨_, _, .fields vs, _⟩ => (match (vs[2]? : Option Value) with
      | some (.str fi _) => (file == fi)
      | _ => false)
    | _ => false)
  | _ => false
def cellB (K : PySem.W.Frag) (C : Addr) (cl : List (Str × Addr)) : Bool := match cl with
  | [(_, cc)] => (match K.lookup cc with
    | some ⟨_, _, .cell (some (.ref D)), _⟩ => decide (D = C)
    | _ => false)
  | _ => false
def initB (K : PySem.W.Frag) (file x q : Str) : Bool := match K.lookup (iniA K x) with
  | some ⟨_, _, .func fd, _⟩ => PySem.W.codeIn K fd.code q && (fileB K file fd.code && (cellB K (He.ga K x) fd.closure && (match fd.defaults with
    | .none => true
    | _ => false)))
  | _ => false
def ErD.ok (file : Str) (K : PySem.W.Frag) (d : ErD) : Bool :=
  He.eqO (PySem.W.nsIn K mainGlobals d.x) (some (some (.ref (He.ga K d.x)))) && (He.eqO (PySem.W.findIn K (.ref (He.ga K d.x)) "__init__") (some (some (.ref (iniA K d.x)))) && (decide (PySem.W.typeIn K (.ref (iniA K d.x)) = some (.type "function")) &&
  (decide (PySem.W.exmOne K (.ref (He.ga K d.x)) (.ref (He.ga K d.x)) = some true) && (xfB K (He.ga K d.x) && ((d.fs.all fun f => He.eqO (PySem.W.findIn K (.ref (He.ga K d.x)) f) (some none)) && (oexB K (He.ga K d.x) &&
  (He.eqO (PySem.W.findIn K (.ref (He.ga K d.x)) "__setattr__") (some (some (.builtin "object.__setattr__"))) && (decide (PySem.W.subIn K (.ref (He.ga K d.x)) (.type "BaseException") = some true) && (decide (PySem.W.typeIn K (.ref (He.ga K d.x)) = some (.type "type")) && (PySem.W.keepIn K (.ref (He.ga K d.x)) &&
  (initB K file d.x d.q && (PySem.W.isClsIn K (He.ga K d.x) && (decide (PySem.W.mroIn K (He.ga K d.x) (.ref (He.ga K d.x)) = some true) && (He.eqO (PySem.W.ks_superIn K (He.ga K d.x) (He.ga K d.x) "__init__") (some (some (.builtin "ValueError.__init__"))) &&
  (decide (PySem.W.subIn K (.ref (He.ga K d.x)) (.type "ValueError") = some true) && He.eqO (PySem.W.nsIn K cStatics "thirdparty.any") (some none))))))))))))))))
def excB (K : PySem.W.Frag) (D : Addr) : Bool :=
  He.eqO (PySem.W.findIn K (.ref D) "__getattribute__") (some (some (.builtin "BaseException.__getattribute__"))) && (He.eqO (PySem.W.findIn K (.ref D) "__getattr__") (some none) && (decide (PySem.W.subIn K (.ref D) (.type "BaseException") = some true) && (PySem.W.hasDictIn K D &&
  (He.eqO (PySem.W.findIn K (.ref D) "__class__") (some (some (.builtin "object.__class__"))) && (He.eqO (PySem.W.specialIn K (.builtin "object.__class__") "__get__") (some (some (.builtin "getset_descriptor.__get__"))) && (decide (PySem.W.takesIn K (.builtin "object.__class__") = some true) && decide (PySem.W.mroIn K D (.type "object") = some true)))))))
def metB (K : PySem.W.Frag) : Bool := true
/-! the Hook -/
abbrev AlX : Type := He.AlD × (Bool × List FnE)
def obsX (file : Str) (fa : List He.Fa) (fn : List He.DefD) (er : List ErD) (K : PySem.W.Frag) : AlX := (He.obsD fa fn K, ((er.all fun d => d.ok file K) && metB K, er.map fun d => erW K d.x))
def valX (fn : List He.DefD) (er : List ErD) : AlX := (He.valD fn, (true, er.map ErD.val))
def SaysX (file : Str) (fa : List He.Fa) (fn : List He.DefD) (er : List ErD) (K : PySem.W.Frag) : Prop := obsX file fa fn er K = valX fn er
def obsXG (file : Str) (as : List Addr) (fa : List He.Fa) (fn : List He.DefD) (er : List ErD) (g : Addr → Option Obj) : AlX := obsX file fa fn er (He.frG g as)
def hookX (file : Str) (as : List Addr) (fa : List He.Fa) (fn : List He.DefD) (er : List ErD) : PySem.W.Hook where
  α := AlX
  obs := fun s => obsXG file as fa fn er s.heap.get?
  val := fun _ => valX fn er
  says := fun _ h => ∃ K : PySem.W.Frag, K.In h ∧ SaysX file fa fn er K
  of := fun _ _ e => ⟨_, He.frG_in, e⟩
  keeps := fun _ _ _ ⟨K, hK, c⟩ k => ⟨K, PySem.W.Frag.In.keeps hK k, c⟩
theorem obsXG_eq {file : Str} {as : List Addr} {fa : List He.Fa} {fn : List He.DefD} {er : List ErD} {g : Addr → Option Obj} {s : Shared} (h : ∀ a, g a = s.heap.get? a) : obsXG file as fa fn er g = (hookX file as fa fn er).obs s := by
  have e : g = s.heap.get? := funext h
  rw [e]
  rfl
end Sy
set_option maxHeartbeats 0
namespace Sy.En
open Sy PySem PySem.Spec PyProof.Rows L2
abbrev dOf (x : Str) (i : Nat) : He.DefD := ⟨(x, none), x, x, defArgs (top i), defBody (top i), defScope (top i), [], []⟩
abbrev dMe (m q : Str) (j : Nat) : He.DefD := ⟨("Bed", some m), m, q, defArgs (clb 39 j), defBody (clb 39 j), defScope (clb 39 j), [], []⟩
def fn : List He.DefD := [dOf "check_count" 12, dOf "arity" 13, dOf "fault_among" 14, dOf "spans" 15, dOf "span_stop" 16, dOf "kids" 17, dOf "row_paths" 18, dOf "substituted" 19, dOf "side_by_side" 20, dOf "common_row" 21, dOf "entry_rank" 22, dOf "row_key" 23, dOf "check_stump" 26, dOf "stump_key" 27, dOf "holes" 28, dOf "filled" 29, dOf "begins" 30, dOf "parts" 31, dOf "common" 32, dOf "united" 33, dOf "only_letters" 37, dOf "is_name" 38, dOf "_law_bag" 41, dOf "_law_draw" 42, dOf "_law_word" 43, dOf "_law_name" 44, dOf "_law_rows" 45, dOf "_law_bed" 46, dOf "_law_number" 47, dOf "_law_plant" 48, dOf "_law_ends" 49, dOf "_law_fault" 50, dOf "_law_same" 51, dOf "_law_stump" 52, dOf "_law_paths" 53, dOf "_law_kinds" 54, dOf "_law_is_begun" 55, dOf "_law_hole_paths" 56, dOf "_law_branches_at" 57, dOf "_law_cut_down" 58, dOf "_law_pieces" 59, dOf "_law_with_pieces" 60, dOf "_law_related" 61, dOf "_law_filled" 62, dOf "_law_common" 63, dOf "_law_common_right" 64, dOf "_law_united_right" 65, dOf "_law_pair_right" 66, dOf "_law_alone_right" 67, dOf "_law_fill_right" 68, dOf "_law_short_right" 69, dOf "_law_long_met" 70, dOf "_law_long_right" 71, dOf "law" 72, dMe "__init__" "Bed.__init__" 0, dMe "leaves" "Bed.leaves" 3, dMe "branches" "Bed.branches" 4]
def fa : List He.Fa := [.glo "check_count", .glo "arity", .glo "fault_among", .glo "spans", .glo "span_stop", .glo "kids", .glo "row_paths", .glo "substituted", .glo "side_by_side", .glo "common_row", .glo "entry_rank", .glo "row_key", .glo "check_stump", .glo "stump_key", .glo "holes", .glo "filled", .glo "begins", .glo "parts", .glo "common", .glo "united", .glo "only_letters", .glo "is_name", .glo "_law_bag", .glo "_law_draw", .glo "_law_word", .glo "_law_name", .glo "_law_rows", .glo "_law_bed", .glo "_law_number", .glo "_law_plant", .glo "_law_ends", .glo "_law_fault", .glo "_law_same", .glo "_law_stump", .glo "_law_paths", .glo "_law_kinds", .glo "_law_is_begun", .glo "_law_hole_paths", .glo "_law_branches_at", .glo "_law_cut_down", .glo "_law_pieces", .glo "_law_with_pieces", .glo "_law_related", .glo "_law_filled", .glo "_law_common", .glo "_law_common_right", .glo "_law_united_right", .glo "_law_pair_right", .glo "_law_alone_right", .glo "_law_fill_right", .glo "_law_short_right", .glo "_law_long_met", .glo "_law_long_right", .glo "law", .free "len", .free "range", .free "reversed", .free "enumerate", .free "tuple", .free "list", .free "int", .free "abs", .free "max", .free "isinstance", .free "bool", .free "str", .free "super", .free "zip", .free "sum", .int "MOST_KNOTS" 2000, .int "MOST_KINDS" 8, .int "MOST_BRANCHES" 3, .int "LONGEST_NAME" 8, .str "HOLE" "*", .glo "YardError", .glo "Bed", .cls "Bed", .mkr "Bed", .noat "Bed" "arities", .noat "Bed" "rows", .noat "Bed" "kinds", .noat "Bed" "ranks", .meth "Bed" "__init__", .meth "Bed" "leaves", .meth "Bed" "branches"]
def ers : List ErD := [⟨"TooMany", "TooMany.__init__", clb 6 0, ["what", "limit"]⟩, ⟨"InvalidStump", "InvalidStump.__init__", clb 3 0, ["place"]⟩, ⟨"UnknownKind", "UnknownKind.__init__", clb 5 0, ["kind"]⟩, ⟨"WrongBranches", "WrongBranches.__init__", clb 7 0, ["wanted", "given"]⟩]
abbrev R : PySem.W.OpenRow := PySem.W.OpenLaw.row PySem.Challenge.rw_shearyard_k03_whole_common_and_united_st
/-- the addresses that the facts look at -/
def lit0 : List Addr := [3, 6, 4, 24, 46, 67, 88, 109, 130, 151, 160, 167, 174, 179, 186, 193, 198, 205, 212, 219, 226, 231, 238, 245, 250, 255, 262, 267, 274, 281, 288, 295, 359, 368, 375, 380, 385, 390, 397, 404, 409, 416, 423, 430, 437, 444, 451, 458, 463, 470, 477, 482, 489, 496, 503, 510, 515, 522, 529, 534, 541, 548, 555, 562, 569, 0, 23, 45, 66, 87, 108, 129, 150, 159, 166, 173, 178, 185, 192, 197, 204, 211, 218, 225, 230, 237, 244, 249, 254, 261, 266, 273, 280, 287, 294, 358, 367, 374, 379, 384, 389, 396, 403, 408, 415, 422, 429, 436, 443, 450, 457, 462, 469, 476, 481, 488, 495, 502, 509, 514, 521, 528, 533, 540, 547, 554, 561, 568, 22, 25, 43, 44, 64, 65, 85, 86, 106, 107, 127, 128, 148, 149, 154, 155, 156, 157, 158, 161, 162, 163, 164, 165, 168, 169, 170, 171, 172, 175, 176, 177, 180, 181, 182, 183, 184, 187, 188, 189, 190, 191, 194, 195, 196, 199, 200, 201, 202, 203, 206, 207, 208, 209, 210, 213, 214, 215, 216, 217, 220, 221, 222, 223, 224, 227, 228, 229, 232, 233, 234, 235]
def lit1 : List Addr := [236, 239, 240, 241, 242, 243, 246, 247, 248, 251, 252, 253, 256, 257, 258, 259, 260, 263, 264, 265, 268, 269, 270, 271, 272, 275, 276, 277, 278, 279, 282, 283, 284, 285, 286, 289, 290, 291, 292, 293, 307, 316, 325, 330, 337, 344, 351, 356, 357, 360, 361, 364, 365, 366, 369, 370, 371, 372, 373, 376, 377, 378, 381, 382, 383, 386, 387, 388, 391, 392, 393, 394, 395, 398, 399, 400, 401, 402, 405, 406, 407, 410, 411, 412, 413, 414, 417, 418, 419, 420, 421, 424, 425, 426, 427, 428, 431, 432, 433, 434, 435, 438, 439, 440, 441, 442, 445, 446, 447, 448, 449, 452, 453, 454, 455, 456, 459, 460, 461, 464, 465, 466, 467, 468, 471, 472, 473, 474, 475, 478, 479, 480, 483, 484, 485, 486, 487, 490, 491, 492, 493, 494, 497, 498, 499, 500, 501, 504, 505, 506, 507, 508, 511, 512, 513, 516, 517, 518, 519, 520, 523, 524, 525, 526, 527, 530, 531, 532, 535, 536, 537, 538, 539, 542, 543, 544, 545, 546, 549, 550, 551, 552, 553, 556, 557, 558, 559, 560, 563, 564, 565, 566, 567, 42, 31, 63, 52, 84, 73, 105]
def lit2 : List Addr := [94, 126, 115, 147, 136, 306, 314, 315, 324, 329, 336, 343, 350, 355, 37, 38, 39, 40, 41, 58, 59, 60, 61, 62, 79, 80, 81, 82, 83, 100, 101, 102, 103, 104, 121, 122, 123, 124, 125, 142, 143, 144, 145, 146, 303, 304, 305, 313, 317, 323, 326, 327, 328, 331, 332, 333, 334, 335, 338, 339, 340, 341, 342, 345, 346, 347, 348, 349, 352, 353, 354, 2]
def lit : List Addr := lit0 ++ lit1 ++ lit2
abbrev hk : PySem.W.Hook := hookX R.prog.main.file lit fa fn ers
def ob (s : PySem.W.SharedT) : AlX := obsXG R.prog.main.file lit fa fn ers (HandSHeadRun.getT s)
theorem ob_eq (s : PySem.W.SharedT) : ob s = hk.obs s.abs := obsXG_eq (HandSHeadRun.getT_eq s)
def loose1 : List Str := ["YardError", "InvalidBed", "InvalidStump", "InvalidText", "UnknownKind", "TooMany", "WrongBranches", "MOST_KINDS", "MOST_BRANCHES", "MOST_KNOTS", "check_count", "arity", "fault_among", "spans", "span_stop", "kids", "row_paths", "substituted", "side_by_side", "common_row", "entry_rank", "row_key", "HOLE", "check_stump", "stump_key", "holes", "filled", "begins", "parts", "common"]
def loose2 : List Str := ["united", "LONGEST_NAME", "DIGITS", "only_letters", "is_name", "Bed", "_law_bag", "_law_draw", "_law_word", "_law_name", "_law_rows", "_law_bed", "_law_number", "_law_plant", "_law_ends", "_law_fault", "_law_same", "_law_stump", "_law_paths", "_law_kinds", "_law_is_begun", "_law_hole_paths", "_law_branches_at", "_law_cut_down", "_law_pieces", "_law_with_pieces", "_law_related", "_law_filled", "_law_common", "_law_common_right"]
def loose3 : List Str := ["_law_united_right", "_law_pair_right", "_law_alone_right", "_law_fill_right", "_law_short_right", "_law_long_met", "_law_long_right"]
theorem run (w : World) : HandSHeadRun.RunEq R (PySem.W.view R.prog [72]) hk ob 30000 (loose1 ++ loose2 ++ loose3) w := by
  intro os
  kernel_rfl
end Sy.En
namespace Sy
open PySem PySem.Spec PyProof.Rows L2
/-- a def of the top, by its place -/
abbrev DF (K : PySem.W.Frag) (mg : Str → Option Value) (x : Str) (i : Nat) : Prop := FD K x (top i) ∧ mg x = some (.ref (He.ga K x))
section
variable {P : Program} {w : World} {K : PySem.W.Frag} {mg : Str → Option Value} {base : Heap}
def spArity (K : PySem.W.Frag) : Sp := fun vs H Q _ => ∃ a rows x, vs = [.ref a, .str x] ∧ BedAt K H a rows ∧ Q (.int (ar rows x : Nat)) H
theorem sc_arity : FnScope ["bed", "entry"] ["bed", "entry"] (defScope (top 13)) := ⟨rfl, rfl, rfl, by decide +kernel, rfl, by decide +kernel, by decide +kernel⟩
theorem k_arity (T : Txt K mg) (F : DF K mg "arity" 13) : Cal P w K mg base 1 "arity" ["bed", "entry"] (spArity K) := by
  refine cal_of F.1 F.2 sc_arity (fun _ _ _ _ _ _ us e => match us, e with | [_, _], _ => rfl) (fun vs H Q E s => by obtain ⟨a, rows, x, rfl, _⟩ := s; rfl) ?_
  intro cdv A outer s H vs Q E hr h
  obtain ⟨a, rows, x, rfl, hb, hq⟩ := h
  have hu := hu_of hr
  refine ⟨_, pss_one (ps_ret (pe_dget2 hu (pe_fld (pv 0) rfl) (pv 1) pe_int ⟨rfl, rfl, rfl, rfl⟩)), ?_⟩
  obtain ⟨dx, dA, tR, tK, dR, ps, h1, hd, h3, h4, h5, h6⟩ := hb.ex
  refine ⟨_, rfl, a, _, dx, _, _, rfl, h1, T.bed.cl, T.bed.nA, rfl, dA, rfl, .inl ⟨_, .inl hd⟩, _, rfl, _, DGet.k (k := Sum.inr x) hd, ?_⟩
  rw [valV_ar]
  unfold ar at hq
  cases e : rows.lookup x with
  | none => rw [e] at hq; exact hq
  | some n => rw [e] at hq; exact hq
end
end Sy
namespace Sy
open PySem PySem.Spec PyProof.Rows L2
section
variable {P : Program} {w : World} {K : PySem.W.Frag} {mg : Str → Option Value} {base : Heap}
/-! fault_among -/
def fa (rows : List Sy.Row) (lv : List Str) : Nat → Nat → List Str → Int
  | m, i, [] => if 0 < m then (i : Nat) else -1
  | m, i, x :: l => if m = 0 then (i : Nat) else if isK rows x = false ∧ x ∉ lv then (i : Nat) else fa rows lv (m - 1 + ar rows x) (i + 1) l
def spFault (K : PySem.W.Frag) : Sp := fun vs H Q _ => ∃ a r v rows l lv, vs = [.ref a, .ref r, .ref v] ∧ BedAt K H a rows ∧ SqT K H r (l.map V.str) ∧ SqT K H v (lv.map V.str) ∧ ∀ H', Same H H' → Q (.int (fa rows lv 1 0 l)) H'
abbrev N_fault : List Str := ["bed", "row", "leaves", "missing", "index", "entry"]
theorem sc_fault : FnScope N_fault ["bed", "row", "leaves"] (defScope (top 14)) := ⟨rfl, rfl, rfl, by decide +kernel, rfl, by decide +kernel, by decide +kernel⟩
theorem map_at {α β : Type} {f : α → β} {l : List α} {i : Nat} {y : β} (h : (l.map f)[i]? = some y) : ∃ x, l[i]? = some x ∧ y = f x := by
  rw [List.getElem?_map] at h
  cases e : l[i]? with
  | none => rw [e] at h; cases h
  | some x => rw [e] at h; exact ⟨x, rfl, (Option.some.inj h).symm⟩
theorem inV_strs (y : Str) (lv : List Str) : inV (.str y) (lv.map V.str) = decide (y ∈ lv) := by
  unfold inV
  induction lv with
  | nil => rfl
  | cons x l ih =>
    rw [List.map_cons, List.any_cons, ih]
    have : eqV (V.str x) (V.str y) = decide (x = y) := by
      by_cases h : x = y
      · subst h
        simp [eqV]
      · simp [eqV, h]
    rw [this]
    simp [List.mem_cons, eq_comm]
theorem drop_of {α : Type} {l : List α} {i : Nat} {x : α} (h : l[i]? = some x) : l.drop i = x :: l.drop (i + 1) := by
  obtain ⟨hi, e⟩ := List.getElem?_eq_some_iff.mp h
  rw [List.drop_eq_getElem_cons hi, e]
theorem k_fault (T : Txt K mg) (F : DF K mg "fault_among" 14) (c_arity : Cal P w K mg base 1 "arity" ["bed", "entry"] (spArity K)) : Cal P w K mg base 2 "fault_among" ["bed", "row", "leaves"] (spFault K) := by
  refine cal_of F.1 F.2 sc_fault (fun _ _ _ _ _ _ us e => match us, e with | [_, _, _], _ => rfl) (fun vs H Q E s => by obtain ⟨_, _, _, _, _, _, rfl, _⟩ := s; rfl) ?_
  intro cdv A outer s H vs Q E hr h
  obtain ⟨a, r, v, rows, l, lv, rfl, hb, hR, hL, hq⟩ := h
  have hu := hu_of hr
  have sc := sc_fault
  refine ⟨_, (pss_cons (ps_set (i := 3) sc.nd rfl (Or.inl rfl) pe_int)
      (pss_cons (ps_for (passes_of rfl) rfl (pi_enumT (by rfl) T.enumerate (pa_cons (pv 1) pa_nil)) (pg_tup rfl (pgs_cons (pg_name (i := 4) sc.nd rfl (Or.inl rfl)) (pgs_cons (pg_name (i := 5) sc.nd rfl (Or.inl rfl)) pgs_nil)))
        (pss_cons (ps_if (pt_cmpR op_eq (pv 3) pe_int (nomark _))
          (pss_one (ps_ret (pv 4)))
          pss_nil)
        (pss_cons (ps_if (PW.pt (pw_and (pt_cmp (pc_dnotin hu (pv 5) (pe_fld (pv 0) rfl))) (pw_and1 (pt_cmpR op_notIn_seq (pv 5) (pv 2) rfl))))
          (pss_one (ps_ret (pv 4)))
          pss_nil)
        (pss_one (ps_set (i := 3) sc.nd rfl (Or.inl rfl) (pe_op op_add (pe_op op_sub (pv 3) pe_int) (pe_cal c_arity hr (pa_cons (pv 0) (pa_cons (pv 5) pa_nil)))))))))
      (pss_cons (ps_if (pt_cmpR op_gt (pv 3) pe_int (nomark _))
        (pss_one (ps_ret (pe_callB call_len_seq (by rfl) T.len (by decide +kernel) (pa_cons (pv 1) pa_nil))))
        pss_nil)
      (pss_one (ps_ret (pe_un un_neg pe_int)))))), ?_⟩
  refine ⟨_, rfl, r, _, rfl, hR, for_enumT (K := K) (fun i σ H' => ∃ (m : Nat) (z : Int) (s4 s5 : Option V), σ = [some (.ref a), some (.ref r), some (.ref v), some (.int z), s4, s5] ∧ z = (m : Nat) ∧ Same H H' ∧ fa rows lv m i (l.drop i) = fa rows lv 1 0 l) ⟨1, 1, none, none, rfl, rfl, Same.refl H, by rw [List.drop_zero]⟩ (fun i σ H' _ ⟨_, _, _, _, _, _, s, _⟩ => Same.sqt s hR) ?_ ?_⟩
  · intro i x σ H' Tt hx ⟨m, _, s4, s5, hσ, rfl, sm, e⟩ hT
    obtain ⟨y, hy, rfl⟩ := map_at hx
    subst hσ
    rw [drop_of hy] at e
    refine ⟨_, rfl, rfl, _, rfl, if_dec (fun c => ?_) (fun c => ?_)⟩
    · rw [fa, if_pos (by have := V.int.inj c; omega)] at e
      refine ⟨_, rfl, ?_⟩
      rw [e]
      exact hq _ (sm.trans (up_same hT))
    · have c : m ≠ 0 := fun z => c (by rw [z]; rfl)
      rw [fa, if_neg c] at e
      have sm2 : Same H (upd H' Tt (.tup [.int (i : Nat), .str y])) := sm.trans (up_same hT)
      have hb2 := hb.mono (Stay.of sm2)
      obtain ⟨dx, dA, tR, tK, dR, ps, h1, hd, h3, h4, h5, h6⟩ := hb2.ex
      refine ⟨_, rfl, _, rfl, a, _, dx, _, _, rfl, h1, T.bed.cl, T.bed.nA, rfl, dA, _, rfl, DGet.k (k := Sum.inr y) hd, _, rfl, ?_⟩
      have stop : isK rows y = false → y ∉ lv → Q (.int (i : Nat)) (upd H' Tt (.tup [.int (i : Nat), .str y])) := fun z1 z2 => by
        rw [if_pos ⟨z1, z2⟩] at e
        have q := hq _ sm2
        rw [← e] at q
        exact q
      have em : ((m : Int) - 1 + (ar rows y : Nat)) = ((m - 1 + ar rows y : Nat) : Int) := by omega
      have go : ¬ (isK rows y = false ∧ y ∉ lv) → fa rows lv (m - 1 + ar rows y) (i + 1) (l.drop (i + 1)) = fa rows lv 1 0 l := fun z => by
        rw [if_neg z] at e
        exact e
      refine if_bool (fun c2 => ?_) (fun c2 => ?_)
      · have c2 : isK rows y = false := by simpa [valV_ar, isK] using c2
        refine ⟨_, rfl, _, rfl, v, _, rfl, .inr (Same.sqt sm2 hL), rfl, by simp [flatV], _, rfl, ?_⟩
        refine if_bool (fun c3 => ?_) (fun c3 => ?_)
        · exact ⟨_, rfl, stop c2 (by simpa [inV_strs] using c3)⟩
        · exact ⟨_, rfl, _, _, rfl, rfl, _, rfl, _, rfl, a, rows, y, rfl, hb2, _, _, rfl, rfl, _, _, _, _, rfl, em, sm2, go fun z => z.2 (by simpa [inV_strs] using c3)⟩
      · have c2 : isK rows y = true := by simpa [valV_ar, isK] using c2
        exact ⟨_, rfl, _, _, rfl, rfl, _, rfl, _, rfl, a, rows, y, rfl, hb2, _, _, rfl, rfl, _, _, _, _, rfl, em, sm2, go fun z => by rw [c2] at z; cases z.1⟩
  · intro σ H' ⟨m, _, s4, s5, hσ, rfl, sm, e⟩
    subst hσ
    rw [List.drop_of_length_le (by simp), fa] at e
    refine ⟨_, rfl, _, _, rfl, rfl, _, rfl, if_dec (fun c => ?_) (fun c => ?_)⟩
    · rw [if_pos (by omega)] at e
      refine ⟨_, rfl, r, _, rfl, .inr (Same.sqt sm hR), ?_⟩
      have q := hq _ sm
      rw [← e] at q
      exact q
    · rw [if_neg (by omega)] at e
      refine ⟨_, rfl, ?_⟩
      have q := hq _ sm
      rw [← e] at q
      exact q
end
end Sy
namespace Sy
open PySem PySem.Spec PyProof.Rows L2
/-! more words -/
theorem ixN_nat {n j : Nat} (h : j < n) : ixN n (j : Int) = some j := by
  unfold ixN
  rw [if_pos (by omega), if_pos (by omega)]
  rfl
/-- a row of places -/
abbrev vN (l : List Nat) : List V := l.map fun n : Nat => V.int (n : Int)
def DN (l : List Nat) : PyData := .tuple (l.map fun n : Nat => PyData.int (n : Int))
def DS (l : List Str) : PyData := .tuple (l.map PyData.str)
section
variable {K : PySem.W.Frag} {H B B' : Hp} {v : V} {vs : List V} {ds : List PyData}
theorem ImA.nats : ∀ l : List Nat, ImA K H (vN l) (l.map fun n : Nat => PyData.int (n : Int))
  | [] => .nil
  | x :: l => .cons (.int _) (ImA.nats l)
theorem Im.nats {a : Addr} {l : List Nat} (h : SqT K H a (vN l)) : Im K H (.ref a) (DN l) := .tup h (ImA.nats l)
theorem Im.tupI (h : Im K H v (.tuple ds)) : ∃ a xs, v = .ref a ∧ SqT K H a xs ∧ ImA K H xs ds := by
  cases h with
  | tup h1 h2 => exact ⟨_, _, rfl, h1, h2⟩
theorem Im.intI {i : Int} (h : Im K H v (.int i)) : v = .int i := by cases h; rfl
theorem Im.strI {x : Str} (h : Im K H v (.str x)) : v = .str x := by cases h; rfl
theorem ImA.natsI : ∀ {l : List Nat} {vs : List V}, ImA K H vs (l.map fun n : Nat => PyData.int (n : Int)) → vs = vN l
  | [], _, .nil => rfl
  | _ :: _, _, .cons a b => by rw [a.intI, ImA.natsI b]; rfl
theorem ImA.strsI : ∀ {l : List Str} {vs : List V}, ImA K H vs (l.map PyData.str) → vs = l.map V.str
  | [], _, .nil => rfl
  | _ :: _, _, .cons a b => by rw [a.strI, ImA.strsI b]; rfl
theorem Im.natsI {l : List Nat} (h : Im K H v (DN l)) : ∃ a, v = .ref a ∧ SqT K H a (vN l) := by
  obtain ⟨a, xs, rfl, h1, h2⟩ := h.tupI
  rw [h2.natsI] at h1
  exact ⟨a, rfl, h1⟩
theorem Im.strsI {l : List Str} (h : Im K H v (DS l)) : ∃ a, v = .ref a ∧ SqT K H a (l.map V.str) := by
  obtain ⟨a, xs, rfl, h1, h2⟩ := h.tupI
  rw [h2.strsI] at h1
  exact ⟨a, rfl, h1⟩
theorem ImA.set : ∀ {vs : List V} {ds : List PyData} {i : Nat} {d : PyData}, ImA K H vs ds → Im K H v d → ImA K H (vs.set i v) (ds.set i d)
  | _, _, _, _, .nil, _ => .nil
  | _, _, 0, _, .cons _ b, h => .cons h b
  | _, _, i + 1, _, .cons a b, h => .cons a (ImA.set b h)
theorem ImA.snoc {d : PyData} (h : ImA K H vs ds) (g : Im K H v d) : ImA K H (vs ++ [v]) (ds ++ [d]) := h.app (.cons g .nil)
end
/-! comprehensions over a tuple -/
abbrev LcW (J : It) (g : TG) (tt : TT) (te : TE) (vs : List Nat) (σ : L2.St) (H1 : Hp) (D : Addr) (Qd : Hp → Prop) : Prop := ∃ W : Nat → Nat → Hp → Prop, (∃ m, W 0 m (upd H1 D (.lst []))) ∧ ∀ i m H, W i m H → (J.stop i H ∧ Qd H) ∨
  (J.go i H ∧ ∃ Nx : Hp → Prop, (∀ H', Nx H' → ∃ m', m' < m ∧ W (i + 1) m' H') ∧ ∀ x H', J.yld i H x H' → g x (wipe σ vs) H' fun σ2 H2 => wipe σ2 vs = wipe σ vs ∧ tt σ2 H2 fun b H3 => if b = true then te σ2 H3 fun y H4 => ∃ acc, H4 D = some (.lst acc) ∧ acc.length < sizeLine ∧ Nx (upd H4 D (.lst (acc ++ [y]))) else Nx H3)
/-- [e for x in t] -/
theorem wipe_one (σ : L2.St) (i : Nat) (v : Option V) : wipe (σ.set i v) [i] = wipe σ [i] := by
  show (σ.set i v).set i none = σ.set i none
  rw [List.set_set]
theorem lc_map {K : PySem.W.Frag} {a : Addr} {xs : List V} {si : Nat} {te : TE} {σ : L2.St} {H B : Hp} {L : List (Addr × HO)} {D : Addr} {Qd : Hp → Prop} (h : Hs B L H) (hD : H D = none) (hx : SqT K B a xs) (hsz : xs.length ≤ 1000000)
    (Pv : Nat → Hp → List V → Prop) (h0 : Pv 0 B [])
    (hs : ∀ i x B' acc H', xs[i]? = some x → Same B B' → Pv i B' acc → Hs B' ((D, .lst acc) :: L) H' →
      ∀ R : VK, (∀ y H4 B4, Same B' B4 → Hs B4 ((D, .lst acc) :: L) H4 → Pv (i + 1) B4 (acc ++ [y]) → R y H4) → te ((wipe σ [si]).set si (some x)) H' R)
    (hd : ∀ B' acc H', Same B B' → Pv xs.length B' acc → Hs B' ((D, .lst acc) :: L) H' → Qd H') : LcW (Itt K a) (gName si) tYes te [si] σ H D Qd := by
  refine lc_tup (K := K) (a := a) (xs := xs) (fun i H' => i ≤ xs.length ∧ ∃ B' acc, acc.length = i ∧ Same B B' ∧ Pv i B' acc ∧ Hs B' ((D, .lst acc) :: L) H') ⟨Nat.zero_le _, B, [], rfl, Same.refl B, h0, h.new hD⟩ ?_ ?_ ?_
  · rintro i H' _ ⟨_, B', acc, _, s, _, hh⟩
    exact Same.sqt (s.trans hh.sub) hx
  · rintro i x H' hxi ⟨hi, B', acc, ha, s, p, hh⟩
    have lt : i < xs.length := (List.getElem?_eq_some_iff.mp hxi).1
    refine ⟨wipe_one _ _ _ |>.trans (by show (σ.set si none).set si none = σ.set si none; rw [List.set_set]), ?_⟩
    simp only [tYes, if_true]
    refine hs i x B' acc H' hxi s p hh _ (fun y H4 B4 s4 h4 p4 => ?_)
    exact ⟨acc, h4.r0, by rw [sizeLine_eq]; omega, by omega, B4, acc ++ [y], by rw [List.length_append, ha]; rfl, s.trans s4, p4, h4.w0⟩
  · rintro H' ⟨_, B', acc, _, s, p, hh⟩
    exact hd B' acc H' s p hh
end Sy
namespace Sy
open PySem PySem.Spec PyProof.Rows L2
/-- the numbers of branches of a row's entries -/
def wt (rows : List Sy.Row) (l : List Str) : List Nat := l.map (ar rows)
def ens (w : List Nat) : List Nat := (List.range w.length).map (en w)
def kidsN (w : List Nat) (i : Nat) : List Nat := (List.range (aw w i)).map (kd w i)
def dKids (w : List Nat) : PyData := .tuple ((List.range w.length).map fun i => DN (kidsN w i))
section
variable {rows : List Sy.Row} {l : List Str} {i : Nat} {y : Str} {w : List Nat}
theorem wt_len (rows : List Sy.Row) (l : List Str) : (wt rows l).length = l.length := List.length_map ..
theorem wt_at (h : l[i]? = some y) : aw (wt rows l) i = ar rows y := aw_of (by rw [wt, List.getElem?_map, h]; rfl)
theorem ens_of {ss : List Nat} (hl : ss.length = w.length) (h : ∀ j, j < w.length → ss[j]? = some (en w j)) : ss = ens w := by
  apply List.ext_getElem?
  intro j
  by_cases hj : j < w.length
  · rw [h j hj, ens, List.getElem?_map, List.getElem?_range hj]
    rfl
  · rw [List.getElem?_eq_none (by omega), List.getElem?_eq_none (by rw [ens, List.length_map, List.length_range]; omega)]
theorem ens_at (h : i < w.length) : (ens w)[i]? = some (en w i) := by rw [ens, List.getElem?_map, List.getElem?_range h]; rfl
theorem ens_len (w : List Nat) : (ens w).length = w.length := by rw [ens, List.length_map, List.length_range]
theorem vN_at {ns : List Nat} {n : Nat} (h : ns[i]? = some n) : (vN ns)[i]? = some (.int (n : Int)) := by rw [vN, List.getElem?_map, h]; rfl
theorem vN_set (ns : List Nat) (i n : Nat) : (vN ns).set i (.int (n : Int)) = vN (ns.set i n) := by rw [vN, vN, List.map_set]
theorem aw_le (h : Fo 1 w) (hi : i < w.length) : aw w i ≤ w.length := by
  have a := kd_mono h hi (k := 0) (aw w i) (by omega)
  have b := h.en_le hi
  rw [Nat.zero_add, en_kd hi] at a
  omega
end
section
variable {P : Program} {w : World} {K : PySem.W.Frag} {mg : Str → Option Value} {base : Heap}
/-! spans -/
def spSpans (K : PySem.W.Frag) : Sp := fun vs H Q _ => ∃ a r rows l, vs = [.ref a, .ref r] ∧ BedAt K H a rows ∧ SqT K H r (l.map V.str) ∧ Fo 1 (wt rows l) ∧ l.length ≤ 2000 ∧ ∀ H' p, Same H H' → SqT K H' p (vN (ens (wt rows l))) → Q (.ref p) H'
abbrev N_spans : List Str := ["bed", "row", "_", "stops", "index", "stop"]
theorem sc_spans : FnScope N_spans ["bed", "row"] (defScope (top 15)) := ⟨rfl, rfl, rfl, by decide +kernel, rfl, by decide +kernel, by decide +kernel⟩
theorem k_spans (T : Txt K mg) (F : DF K mg "spans" 15) (c_arity : Cal P w K mg base 1 "arity" ["bed", "entry"] (spArity K)) : Cal P w K mg base 2 "spans" ["bed", "row"] (spSpans K) := by
  refine cal_of F.1 F.2 sc_spans (fun _ _ _ _ _ _ us e => match us, e with | [_, _], _ => rfl) (fun vs H Q E s => by obtain ⟨_, _, _, _, rfl, _⟩ := s; rfl) ?_
  intro cdv A outer s H vs Q E hr h
  obtain ⟨a, r, rows, l, rfl, hb, hR, hF, hsz, hq⟩ := h
  have hu := hu_of hr
  have sc := sc_spans
  refine ⟨_, (pss_cons (ps_setLc (i := 3) (own := [("_", 2)]) (g := gName 2) rfl sc.nd rfl rfl (sw_true rfl rfl rfl (by decide +kernel)) (pi_tup (pv 1)) (blkOk_by (N := N_spans) (sc := defScope (top 15)) (by decide +kernel)) (fun _ _ _ _ _ => (pg_name (i := 2) sc.nd rfl (Or.inl rfl))) (fun _ _ _ _ _ => pts_nil) (fun _ _ _ _ _ => pe_int))
      (pss_cons (ps_for (passes_of rfl) rfl (pi_revR rfl T.reversed (prg_1 rfl T.range (pe_callB call_len_seq (by rfl) T.len (by decide +kernel) (pa_cons (pv 1) pa_nil)))) (pg_name (i := 4) sc.nd rfl (Or.inl rfl))
        (pss_cons (ps_set (i := 5) sc.nd rfl (Or.inl rfl) (pe_op op_add (pv 4) pe_int))
        (pss_cons (ps_for (passes_of rfl) rfl (pi_range1 rfl T.range (pa_cons (pe_cal c_arity hr (pa_cons (pv 0) (pa_cons (pe_ix ix_tup (pv 1) (pv 4) (fun _ _ => rfl)) pa_nil))) pa_nil)) (pg_name (i := 2) sc.nd rfl (Or.inl rfl))
          (pss_one (ps_set (i := 5) sc.nd rfl (Or.inl rfl) (pe_ix ix_list (pv 3) (pv 5) (fun _ _ => rfl)))))
        (pss_one (ps_asg (pv 5) (pg_sub (pv 3) (pv 4) set_list))))))
      (pss_one (ps_ret (pe_callTy call_tuple_of (by rfl) T.tuple (by decide +kernel) (pa_cons (pv 3) pa_nil)))))), ?_⟩
  have hwl := wt_len rows l
  refine ⟨_, rfl, r, rfl, ⟨_, hR⟩, fun D hD => lc_map (si := 2) (Hs.start H) hD hR (by rw [List.length_map]; omega) (fun i _ acc => acc = vN (List.replicate i 0)) rfl ?_ ?_⟩
  · rintro i x B' acc H' hx s rfl hh R hR
    exact hR _ _ B' (Same.refl _) hh (by rw [vN, vN, List.replicate_succ', List.map_append]; rfl)
  rintro B' acc H' s2 rfl hh
  refine ⟨_, rfl, r, _, rfl, .inr (Same.sqt (s2.trans hh.sub) hR), _, rfl, by decide, by decide, by rw [List.length_map]; omega, by rw [List.length_map]; omega, for_rrng (n := (l.map V.str).length)
    (fun i σ H' => ∃ t2 t4 t5 B ss, σ = [some (.ref a), some (.ref r), t2, some (.ref D), t4, t5] ∧ Same H B ∧ Hs B [(D, .lst (vN ss))] H' ∧ ss.length = l.length ∧ ∀ j, i ≤ j → j < l.length → ss[j]? = some (en (wt rows l) j))
    ⟨none, none, none, B', List.replicate l.length 0, rfl, s2, by rw [List.length_map] at hh; exact hh, by rw [List.length_replicate], fun j a b => by rw [List.length_map] at a; omega⟩ ?_ ?_⟩
  · rintro i σ H1 hi ⟨t2, t4, t5, B, ss, rfl, sB, hh, hl, hv⟩
    rw [List.length_map] at hi
    have hiw : i < (wt rows l).length := by omega
    obtain ⟨y, hy⟩ : ∃ y, l[i]? = some y := ⟨_, List.getElem?_eq_getElem hi⟩
    have sH := sB.trans hh.sub
    have eaw : aw (wt rows l) i = ar rows y := wt_at hy
    have hal := aw_le hF hiw
    refine ⟨_, rfl, _, _, rfl, rfl, _, rfl, _, rfl, _, rfl, r, _, _, _, rfl, rfl, Same.sqt sH hR, atI_nat (by rw [List.getElem?_map, hy]; rfl), a, rows, y, rfl, hb.mono (Stay.of sH), _, rfl, by omega, by omega, for_rng (n := ar rows y)
      (fun t σ H2 => ∃ u2 z, σ = [some (.ref a), some (.ref r), u2, some (.ref D), some (.int (i : Nat)), some (.int z)] ∧ z = (kd (wt rows l) i t : Nat) ∧ H2 = H1)
      ⟨_, _, rfl, by rw [kd_zero]; rfl, rfl⟩ ?_ ?_⟩
    · rintro t σ H2 ht ⟨u2, _, rfl, rfl, rfl⟩
      have hk := hF.kd_lt hiw (k := t) (by omega)
      refine ⟨_, rfl, _, rfl, D, _, _, _, rfl, rfl, SqL.of hh.r0, atI_nat (vN_at (hv _ (kd_gt) (by omega))), _, _, rfl, by rw [kd_succ], rfl⟩
    · rintro σ H2 ⟨u2, _, rfl, rfl, rfl⟩
      refine ⟨_, rfl, _, rfl, _, rfl, D, _, _, i, rfl, rfl, hh.r0, ixN_nat (by rw [List.length_map]; omega), _, _, _, B, _, rfl, sB, by rw [vN_set]; exact hh.w0, by rw [List.length_set]; exact hl, fun j a b => ?_⟩
      rw [← eaw, en_kd hiw]
      by_cases c : i = j
      · subst c
        rw [List.getElem?_set_self (by omega)]
      · rw [List.getElem?_set_ne c]
        exact hv j (by omega) b
  · rintro σ H1 ⟨t2, t4, t5, B, ss, rfl, sB, hh, hl, hv⟩
    refine ⟨_, rfl, D, _, rfl, .inl ⟨SqL.of hh.r0, fun p hp => ?_⟩⟩
    rw [ens_of (by omega) (fun j hj => hv j (Nat.zero_le _) (by omega))]
    exact hq _ _ ((sB.trans hh.sub).trans (up_same hp)) (SqT.of upd_same)
/-! span_stop -/
def spStop (K : PySem.W.Frag) : Sp := fun vs H Q _ => ∃ a r i rows l, vs = [.ref a, .ref r, .int (i : Nat)] ∧ BedAt K H a rows ∧ SqT K H r (l.map V.str) ∧ Fo 1 (wt rows l) ∧ i < l.length ∧ Q (.int (en (wt rows l) i : Nat)) H
abbrev N_stop : List Str := ["bed", "row", "place", "stop", "missing"]
theorem sc_stop : FnScope N_stop ["bed", "row", "place"] (defScope (top 16)) := ⟨rfl, rfl, rfl, by decide +kernel, rfl, by decide +kernel, by decide +kernel⟩
def muStop (n : Nat) : L2.St → Nat
  | [_, _, _, some (.int s), _] => n - s.toNat
  | _ => 0
theorem k_stop (T : Txt K mg) (F : DF K mg "span_stop" 16) (c_arity : Cal P w K mg base 1 "arity" ["bed", "entry"] (spArity K)) : Cal P w K mg base 2 "span_stop" ["bed", "row", "place"] (spStop K) := by
  refine cal_of F.1 F.2 sc_stop (fun _ _ _ _ _ _ us e => match us, e with | [_, _, _], _ => rfl) (fun vs H Q E s => by obtain ⟨_, _, _, _, _, rfl, _⟩ := s; rfl) ?_
  intro cdv A outer s H vs Q E hr h
  obtain ⟨a, r, i, rows, l, rfl, hb, hR, hF, hi, hq⟩ := h
  have hu := hu_of hr
  have sc := sc_stop
  have hwl := wt_len rows l
  refine ⟨_, (pss_cons (ps_set (i := 3) sc.nd rfl (Or.inl rfl) (pv 2))
      (pss_cons (ps_set (i := 4) sc.nd rfl (Or.inl rfl) pe_int)
      (pss_cons (ps_while (passes_of rfl) (pt_cmpR op_gt (pv 4) pe_int (nomark _))
        (pss_cons (ps_set (i := 4) sc.nd rfl (Or.inl rfl) (pe_op op_add (pe_op op_sub (pv 4) pe_int) (pe_cal c_arity hr (pa_cons (pv 0) (pa_cons (pe_ix ix_tup (pv 1) (pv 3) (fun _ _ => rfl)) pa_nil)))))
        (pss_one (ps_set (i := 3) sc.nd rfl (Or.inl rfl) (pe_op op_add (pv 3) pe_int)))))
      (pss_one (ps_ret (pv 3)))))), ?_⟩
  refine ⟨_, rfl, while_by (fun σ H' => ∃ (st m : Nat) (z1 z2 : Int), σ = [some (.ref a), some (.ref r), some (.int (i : Nat)), some (.int z1), some (.int z2)] ∧ z1 = (st : Nat) ∧ z2 = (m : Nat) ∧ H' = H ∧ st + sp m ((wt rows l).drop st) = en (wt rows l) i ∧ ∃ k, Fo (m + k) ((wt rows l).drop st)) (fun σ _ => muStop l.length σ) ⟨i, 1, _, _, rfl, rfl, rfl, rfl, rfl, by
      obtain ⟨m, q⟩ := hF.at_ (i := i) (by omega)
      exact ⟨m, by rw [Nat.add_comm]; exact q⟩⟩ ?_ (fun _ _ _ _ m ⟨v, h1, i, j, h2, h3, k, h4, q⟩ => ⟨v, h1, i, j, h2, h3, k, h4, m _ _ q⟩)⟩
  rintro σ H' ⟨st, m, _, _, rfl, rfl, rfl, rfl, e, k, f⟩
  refine ⟨_, rfl, _, _, rfl, rfl, _, rfl, if_dec (fun c => ?_) (fun c => ?_)⟩
  · obtain ⟨n, rfl⟩ : ∃ n, m = n + 1 := ⟨m - 1, by omega⟩
    rw [show n + 1 + k = (n + k) + 1 by omega] at f
    have hl := f.pos
    rw [List.length_drop] at hl
    have hs : st < l.length := by omega
    obtain ⟨y, hy⟩ : ∃ y, l[st]? = some y := ⟨_, List.getElem?_eq_getElem hs⟩
    have ey := wt_at (rows := rows) hy
    rw [drop_at (by omega)] at e f
    rw [sp_cons, ey] at e
    have f : Fo (n + k + aw (wt rows l) st) ((wt rows l).drop (st + 1)) := f
    rw [ey] at f
    refine ⟨_, rfl, _, _, rfl, rfl, _, rfl, _, rfl, _, rfl, r, _, _, _, rfl, rfl, hR, atI_nat (by rw [List.getElem?_map, hy]; rfl), a, rows, y, rfl, hb, _, _, rfl, rfl, _, rfl, _, _, rfl, rfl, ⟨st + 1, n + ar rows y, _, _, rfl, rfl, by omega, rfl, by omega, k, by rw [show n + ar rows y + k = n + k + ar rows y by omega]; exact f⟩, ?_⟩
    show l.length - ((st : Int) + 1).toNat < l.length - ((st : Int)).toNat
    omega
  · obtain rfl : m = 0 := by omega
    rw [sp_zero] at e
    refine ⟨_, rfl, ?_⟩
    rw [← e] at hq
    exact hq
/-! kids -/
def spKids (K : PySem.W.Frag) : Sp := fun vs H Q _ => ∃ a r rows l, vs = [.ref a, .ref r] ∧ BedAt K H a rows ∧ SqT K H r (l.map V.str) ∧ Fo 1 (wt rows l) ∧ l.length ≤ 2000 ∧ ∀ H' v, Same H H' → Im K H' v (dKids (wt rows l)) → Q v H'
abbrev N_kids : List Str := ["bed", "row", "stops", "found", "index", "entry", "starts", "start", "_"]
theorem sc_kids : FnScope N_kids ["bed", "row"] (defScope (top 17)) := ⟨rfl, rfl, rfl, by decide +kernel, rfl, by decide +kernel, by decide +kernel⟩
theorem k_kids (T : Txt K mg) (F : DF K mg "kids" 17) (c_arity : Cal P w K mg base 1 "arity" ["bed", "entry"] (spArity K)) (c_spans : Cal P w K mg base 2 "spans" ["bed", "row"] (spSpans K)) : Cal P w K mg base 3 "kids" ["bed", "row"] (spKids K) := by
  refine cal_of F.1 F.2 sc_kids (fun _ _ _ _ _ _ us e => match us, e with | [_, _], _ => rfl) (fun vs H Q E s => by obtain ⟨_, _, _, _, rfl, _⟩ := s; rfl) ?_
  intro cdv A outer s H vs Q E hr h
  obtain ⟨a, r, rows, l, rfl, hb, hR, hF, hsz, hq⟩ := h
  have hu := hu_of hr
  have sc := sc_kids
  have hwl := wt_len rows l
  refine ⟨_, (pss_cons (ps_set (i := 2) sc.nd rfl (Or.inl rfl) (pe_cal c_spans hr (pa_cons (pv 0) (pa_cons (pv 1) pa_nil))))
      (pss_cons (ps_set (i := 3) sc.nd rfl (Or.inl rfl) (pe_lst pa_nil))
      (pss_cons (ps_for (passes_of rfl) rfl (pi_enumT (by rfl) T.enumerate (pa_cons (pv 1) pa_nil)) (pg_tup rfl (pgs_cons (pg_name (i := 4) sc.nd rfl (Or.inl rfl)) (pgs_cons (pg_name (i := 5) sc.nd rfl (Or.inl rfl)) pgs_nil)))
        (pss_cons (ps_set (i := 6) sc.nd rfl (Or.inl rfl) (pe_lst pa_nil))
        (pss_cons (ps_set (i := 7) sc.nd rfl (Or.inl rfl) (pe_op op_add (pv 4) pe_int))
        (pss_cons (ps_for (passes_of rfl) rfl (pi_range1 rfl T.range (pa_cons (pe_cal c_arity hr (pa_cons (pv 0) (pa_cons (pv 5) pa_nil))) pa_nil)) (pg_name (i := 8) sc.nd rfl (Or.inl rfl))
          (pss_cons (ps_expr (pe_bm PySem.F.plainAttrs_list PySem.F.slot_list_append PySem.F.type_list_append mt_append (pv 6) (pa_cons (pv 7) pa_nil)))
          (pss_one (ps_set (i := 7) sc.nd rfl (Or.inl rfl) (pe_ix ix_tup (pv 2) (pv 7) (fun _ _ => rfl))))))
        (pss_one (ps_expr (pe_bm PySem.F.plainAttrs_list PySem.F.slot_list_append PySem.F.type_list_append mt_append (pv 3) (pa_cons (pe_callTy call_tuple_of (by rfl) T.tuple (by decide +kernel) (pa_cons (pv 6) pa_nil)) pa_nil))))))))
      (pss_one (ps_ret (pe_callTy call_tuple_of (by rfl) T.tuple (by decide +kernel) (pa_cons (pv 3) pa_nil))))))), ?_⟩
  refine ⟨_, rfl, _, rfl, a, r, rows, l, rfl, hb, hR, hF, hsz, fun H1 p s1 hp => ?_⟩
  refine ⟨by decide, fun D hD => ?_⟩
  refine ⟨_, rfl, r, _, rfl, Same.sqt (s1.trans (up_same hD)) hR, for_enumT (K := K)
    (fun i σ H' => ∃ t4 t5 t6 t7 t8 B vs, σ = [some (.ref a), some (.ref r), some (.ref p), some (.ref D), t4, t5, t6, t7, t8] ∧ Same H1 B ∧ Hs B [(D, .lst vs)] H' ∧ ImA K B vs ((List.range i).map fun i => DN (kidsN (wt rows l) i)))
    ⟨none, none, none, none, none, H1, [], rfl, Same.refl _, (Hs.start H1).new hD, .nil⟩ (fun i σ H' _ ⟨_, _, _, _, _, B, _, _, s, h, _⟩ => Same.sqt ((s1.trans s).trans h.sub) hR) ?_ ?_⟩
  · rintro i x σ H' Tt hx ⟨t4, t5, t6, t7, t8, B, vs, rfl, sB, hh, im⟩ hT
    obtain ⟨y, hy, rfl⟩ := map_at hx
    have hi : i < l.length := (List.getElem?_eq_some_iff.mp hy).1
    have hiw : i < (wt rows l).length := by omega
    have ey := wt_at (rows := rows) hy
    have hal := aw_le hF hiw
    have hh := hh.lay (o := .tup [.int (i : Nat), .str y]) hT
    refine ⟨by decide, fun E hE => ?_⟩
    have hh := hh.new (o := .lst []) hE
    have sH := (s1.trans sB).trans hh.sub
    refine ⟨_, rfl, _, _, rfl, rfl, _, rfl, _, rfl, a, rows, y, rfl, hb.mono (Stay.of sH), _, rfl, by omega, by omega, for_rng (n := ar rows y)
      (fun t σ H2 => ∃ u8 z, σ = [some (.ref a), some (.ref r), some (.ref p), some (.ref D), some (.int (i : Nat)), some (.str y), some (.ref E), some (.int z), u8] ∧ z = (kd (wt rows l) i t : Nat) ∧ Hs B [(E, .lst (vN ((List.range t).map (kd (wt rows l) i)))), (D, .lst vs)] H2)
      ⟨_, _, rfl, by rw [kd_zero]; rfl, hh⟩ ?_ ?_⟩
    · rintro t σ H2 ht ⟨u8, _, rfl, rfl, h2⟩
      have hk := hF.kd_lt hiw (k := t) (by omega)
      have s3 : Same H1 (upd H2 E (.lst (vN ((List.range t).map (kd (wt rows l) i)) ++ [.int (kd (wt rows l) i t : Nat)]))) := sB.trans (h2.w0).sub
      refine ⟨_, rfl, .inl ⟨rfl, _, SqL.of h2.r0⟩, _, rfl, E, _, _, rfl, rfl, h2.r0, by rw [sizeLine_eq, List.length_map, List.length_map, List.length_range]; omega, _, rfl, _, rfl, p, _, _, _, rfl, rfl, Same.sqt s3 hp, atI_nat (vN_at (ens_at hk)), _, _, rfl, by rw [kd_succ], ?_⟩
      rw [List.range_succ, List.map_append, vN, List.map_append]
      exact h2.w0
    · rintro σ H2 ⟨u8, _, rfl, rfl, h2⟩
      refine ⟨_, rfl, .inl ⟨rfl, _, SqL.of h2.r1⟩, _, rfl, E, _, rfl, .inl ⟨SqL.of h2.r0, fun q hq => ?_⟩⟩
      have hn := h2.tup (o := .tup (vN ((List.range (ar rows y)).map (kd (wt rows l) i)))) hq
      have sB2 : Same B (upd B q (.tup (vN ((List.range (ar rows y)).map (kd (wt rows l) i))))) := up_same (h2.sub.free hq)
      have iq : Im K (upd B q (.tup (vN ((List.range (ar rows y)).map (kd (wt rows l) i))))) (.ref q) (DN (kidsN (wt rows l) i)) := by
        rw [kidsN, ey]
        exact Im.nats (SqT.of upd_same)
      refine ⟨D, _, _, rfl, rfl, hn.r1, by rw [im.len, List.length_map, List.length_range, sizeLine_eq]; omega, _, _, _, _, _, _, _, rfl, sB.trans sB2, (hn.w1).drop, ?_⟩
      rw [List.range_succ, List.map_append]
      exact (im.mono (Stay.of sB2)).snoc iq
  · rintro σ H' ⟨t4, t5, t6, t7, t8, B, vs, rfl, sB, hh, im⟩
    refine ⟨_, rfl, D, _, rfl, .inl ⟨SqL.of hh.r0, fun q hn => ?_⟩⟩
    rw [List.length_map] at im
    have sq := hh.sub.trans (up_same (o := .tup vs) hn)
    refine hq _ _ ((s1.trans sB).trans sq) (.tup (SqT.of upd_same) ?_)
    rw [hwl]
    exact im.mono (Stay.of sq)
end
end Sy
namespace Sy
open PySem PySem.Spec PyProof.Rows L2
theorem stp_le {w : List Nat} {i : Nat} {fd : List (List Nat)} (h : ∀ j, (fd.getD j []).length ≤ j) : ∀ n j, ((stp w i fd n).getD j []).length ≤ j
  | 0, j => h j
  | n + 1, j => by
    have q := stp_le (w := w) (i := i) h n
    rw [stp_succ]
    by_cases c : kd w i n = j
    · rw [c]
      by_cases d : j < (stp w i fd n).length
      · rw [getD_set_eq _ _ _ d, List.length_append]
        have := q i
        have := kd_gt (w := w) (i := i) (k := n)
        show _ + 1 ≤ _
        omega
      · rw [List.getD_eq_getElem?_getD, List.getElem?_eq_none (by rw [List.length_set]; omega)]
        exact Nat.zero_le _
    · rw [getD_set_ne _ _ _ c]
      exact q j
theorem pth_le (w : List Nat) : ∀ n j, ((pth w n).getD j []).length ≤ j
  | 0, j => by
    show ((List.replicate w.length []).getD j []).length ≤ j
    rw [List.getD_eq_getElem?_getD, List.getElem?_replicate]
    split <;> exact Nat.zero_le _
  | n + 1, j => by
    rw [pth_succ]
    exact stp_le (pth_le w n) _ j
def dPaths (w : List Nat) : PyData := .tuple ((pths w).map DN)
section
variable {K : PySem.W.Frag} {H : Hp} {a b : Addr} {xs ys : List V} {Q : VK}
/-- a tuple's slice, whether it is the whole or not -/
theorem sl_any {lo hi : Option Int} {zs : List V} (hz : cutV xs lo hi = zs) (h : SqT K H a xs) (q : ∀ p H', Same H H' → SqT K H' p zs → Q (.ref p) H') : rSlA K (.ref a) lo hi H Q := by
  subst hz
  refine ⟨a, xs, rfl, h, fun c => q _ _ (Same.refl H) ?_, fun _ p hp => q _ _ (up_same hp) (SqT.of upd_same)⟩
  unfold cutV
  rw [c.1, c.2, List.drop_zero, Nat.sub_zero, List.take_length]
  exact h
theorem cat_any (h : SqT K H a xs) (g : SqT K H b ys) (hs : xs.length + ys.length ≤ 1000000) (q : ∀ p H', Same H H' → SqT K H' p (xs ++ ys) → Q (.ref p) H') : rCatA K (.ref a) (.ref b) H Q := by
  refine ⟨a, b, xs, ys, rfl, rfl, h, g, by rw [sizeLine_eq]; omega, fun c => q _ _ (Same.refl H) (by rw [c]; exact g), fun _ c => q _ _ (Same.refl H) (by rw [c, List.append_nil]; exact h), fun _ _ p hp => q _ _ (up_same hp) (SqT.of upd_same)⟩
theorem cut_take {i : Nat} (h : i ≤ xs.length) : cutV xs none (some (i : Int)) = xs.take i := by
  unfold cutV HT.sIx
  simp only [List.drop_zero, Nat.sub_zero]
  rw [if_neg (by omega), show min (i : Int).toNat xs.length = i by omega]
theorem cut_drop {i : Nat} (h : i ≤ xs.length) : cutV xs (some (i : Int)) none = xs.drop i := by
  unfold cutV HT.sIx
  simp only []
  rw [if_neg (by omega), show min (i : Int).toNat xs.length = i by omega, List.take_of_length_le]
  rw [List.length_drop]
  exact Nat.le_refl _
theorem cut_mid {i j : Nat} (h : i ≤ j) (g : j ≤ xs.length) : cutV xs (some (i : Int)) (some (j : Int)) = (xs.drop i).take (j - i) := by
  unfold cutV HT.sIx
  simp only []
  rw [if_neg (by omega), if_neg (by omega), show min (i : Int).toNat xs.length = i by omega, show min (j : Int).toNat xs.length = j by omega]
end
theorem rk_isK (x : Str) : ∀ (n : Nat) (rows : List Sy.Row), isK rows x = true → ∃ m, rk n rows x = some m
  | n, [], h => by simp [isK] at h
  | n, r :: rs, h => by
    rw [isK, lookup_cons] at h
    rw [rk]
    by_cases c : r.1 = x
    · exact ⟨n, by rw [if_pos c]⟩
    · rw [if_neg c] at h ⊢
      exact rk_isK x (n + 1) rs h
def rkD (rows : List Sy.Row) (x : Str) : Nat := (rk 0 rows x).getD rows.length
section
variable {P : Program} {w : World} {K : PySem.W.Frag} {mg : Str → Option Value} {base : Heap}
/-! row_paths -/
def spPathsR (K : PySem.W.Frag) : Sp := fun vs H Q _ => ∃ a r rows l, vs = [.ref a, .ref r] ∧ BedAt K H a rows ∧ SqT K H r (l.map V.str) ∧ Fo 1 (wt rows l) ∧ l.length ≤ 2000 ∧ ∀ H' v, Same H H' → Im K H' v (dPaths (wt rows l)) → Q v H'
abbrev N_pathsR : List Str := ["bed", "row", "found", "index", "starts", "branch", "start", "_"]
theorem sc_pathsR : FnScope N_pathsR ["bed", "row"] (defScope (top 18)) := ⟨rfl, rfl, rfl, by decide +kernel, rfl, by decide +kernel, by decide +kernel⟩
theorem k_pathsR (T : Txt K mg) (F : DF K mg "row_paths" 18) (c_kids : Cal P w K mg base 3 "kids" ["bed", "row"] (spKids K)) : Cal P w K mg base 4 "row_paths" ["bed", "row"] (spPathsR K) := by
  refine cal_of F.1 F.2 sc_pathsR (fun _ _ _ _ _ _ us e => match us, e with | [_, _], _ => rfl) (fun vs H Q E s => by obtain ⟨_, _, _, _, rfl, _⟩ := s; rfl) ?_
  intro cdv A outer s H vs Q E hr h
  obtain ⟨a, r, rows, l, rfl, hb, hR, hF, hsz, hq⟩ := h
  have hu := hu_of hr
  have sc := sc_pathsR
  have hwl := wt_len rows l
  refine ⟨_, (pss_cons (ps_setLc (i := 2) (own := [("_", 7)]) (g := gName 7) rfl sc.nd rfl rfl (sw_true rfl rfl rfl (by decide +kernel)) (pi_tup (pv 1)) (blkOk_by (N := N_pathsR) (sc := defScope (top 18)) (by decide +kernel)) (fun _ _ _ _ _ => (pg_name (i := 7) sc.nd rfl (Or.inl rfl))) (fun _ _ _ _ _ => pts_nil) (fun _ _ _ _ _ => (pe_tup pa_nil)))
      (pss_cons (ps_for (passes_of rfl) rfl (pi_enumT (by rfl) T.enumerate (pa_cons (pe_cal c_kids hr (pa_cons (pv 0) (pa_cons (pv 1) pa_nil))) pa_nil)) (pg_tup rfl (pgs_cons (pg_name (i := 3) sc.nd rfl (Or.inl rfl)) (pgs_cons (pg_name (i := 4) sc.nd rfl (Or.inl rfl)) pgs_nil)))
        (pss_one (ps_for (passes_of rfl) rfl (pi_enumT (by rfl) T.enumerate (pa_cons (pv 4) pa_nil)) (pg_tup rfl (pgs_cons (pg_name (i := 5) sc.nd rfl (Or.inl rfl)) (pgs_cons (pg_name (i := 6) sc.nd rfl (Or.inl rfl)) pgs_nil)))
          (pss_one (ps_asg (pe_tup (StX.pa_star (pe_ix ix_list (pv 2) (pv 3) (fun _ _ => rfl)) (pa_cons (pv 5) pa_nil))) (pg_sub (pv 2) (pv 6) set_list))))))
      (pss_one (ps_ret (pe_callTy call_tuple_of (by rfl) T.tuple (by decide +kernel) (pa_cons (pv 2) pa_nil)))))), ?_⟩
  refine ⟨_, rfl, r, rfl, ⟨_, hR⟩, fun D hD => lc_map (si := 7) (Hs.start H) hD hR (by rw [List.length_map]; omega) (fun i B acc => ImA K B acc (List.replicate i (DN []))) .nil ?_ ?_⟩
  · intro i x B' acc H' hx s im hh R hR
    refine ⟨by decide, fun p hp => ?_⟩
    refine hR _ _ (upd B' p (.tup [])) (up_same (hh.sub.free hp)) (hh.tup hp) ?_
    rw [List.replicate_succ']
    exact (im.mono (Stay.of (up_same (hh.sub.free hp)))).snoc (Im.nats (l := []) (SqT.of upd_same))
  intro B0 acc H0 s0 im0 h0
  rw [List.length_map] at im0
  refine ⟨_, rfl, _, rfl, a, r, rows, l, rfl, hb.mono (Stay.of (s0.trans h0.sub)), Same.sqt (s0.trans h0.sub) hR, hF, hsz, fun H1 v s1 hv => ?_⟩
  obtain ⟨h1, k1⟩ : Same B0 (cut [(D, .lst acc)] H1) ∧ Hs (cut [(D, .lst acc)] H1) [(D, .lst acc)] H1 := h0.after s1
  obtain ⟨ka, ks, rfl, kt, ki⟩ := hv.tupI
  have kin := stay_cut h0 (AllL.cons AllL.nil) s1
  have kt := kin.sqt kt
  have ki := ki.mono kin
  have kl : ks.length = l.length := by rw [ki.len, List.length_map, List.length_range, hwl]
  generalize hB1 : cut [(D, .lst acc)] H1 = B1 at *
  have im1 := im0.mono (Stay.of h1)
  refine ⟨ka, ks, rfl, Same.sqt k1.sub kt, for_enumT (K := K)
    (fun i σ H' => ∃ t3 t4 t5 t6 t7 B vs, σ = [some (.ref a), some (.ref r), some (.ref D), t3, t4, t5, t6, t7] ∧ Same B1 B ∧ Hs B [(D, .lst vs)] H' ∧ ImA K B vs ((pth (wt rows l) i).map DN))
    ⟨none, none, none, none, none, B1, acc, rfl, Same.refl _, k1, by
      show ImA K B1 acc ((List.replicate (wt rows l).length []).map DN)
      rw [List.map_replicate, hwl]
      exact im1⟩ (fun i σ H' _ ⟨_, _, _, _, _, B, _, _, s, h, _⟩ => Same.sqt (s.trans h.sub) kt) ?_ ?_⟩
  · rintro i x σ H' Tt hx ⟨t3, t4, t5, t6, t7, B, vs, rfl, sB, hh, im⟩ hT
    have hi : i < l.length := by rw [← kl]; exact (List.getElem?_eq_some_iff.mp hx).1
    have hiw : i < (wt rows l).length := by omega
    obtain ⟨z, e1, iz⟩ := ki.get (i := i) (d := DN (kidsN (wt rows l) i)) (by rw [List.getElem?_map, List.getElem?_range hiw]; rfl)
    rw [hx] at e1
    cases e1
    obtain ⟨sa, rfl, st⟩ := iz.natsI
    have hh := hh.lay (o := .tup [.int (i : Nat), .ref sa]) hT
    refine ⟨_, rfl, sa, _, rfl, Same.sqt (sB.trans hh.sub) st, for_enumT (K := K)
      (fun t σ H' => ∃ t5 t6 t7 B vs, σ = [some (.ref a), some (.ref r), some (.ref D), some (.int (i : Nat)), some (.ref sa), t5, t6, t7] ∧ Same B1 B ∧ Hs B [(D, .lst vs)] H' ∧ ImA K B vs ((stp (wt rows l) i (pth (wt rows l) i) t).map DN))
      ⟨_, _, _, B, vs, rfl, sB, hh, im⟩ (fun i σ H' _ ⟨_, _, _, B, _, _, s, h, _⟩ => Same.sqt (s.trans h.sub) st) ?_ ?_⟩
    · rintro t y σ H2 T2 hy ⟨u5, u6, u7, B2, ws, rfl, sB2, h2, i2⟩ hT2
      obtain ⟨n, hn, rfl⟩ := map_at hy
      obtain ⟨t', ht', rfl⟩ := map_at hn
      have ht : t < aw (wt rows l) i := by
        have := (List.getElem?_eq_some_iff.mp ht').1
        rwa [List.length_range] at this
      rw [List.getElem?_range ht] at ht'
      obtain rfl := Option.some.inj ht'
      have hk := hF.kd_lt hiw ht
      have h2 := h2.lay (o := .tup [.int (t : Nat), .int (kd (wt rows l) i t : Nat)]) hT2
      have wl : ws.length = l.length := by rw [i2.len, List.length_map, stp_len, pth_len, hwl]
      have fd : (stp (wt rows l) i (pth (wt rows l) i) t)[i]? = some ((stp (wt rows l) i (pth (wt rows l) i) t).getD i []) := by
        have : i < (stp (wt rows l) i (pth (wt rows l) i) t).length := by rw [stp_len, pth_len]; exact hiw
        rw [List.getD_eq_getElem?_getD, List.getElem?_eq_getElem this]
        rfl
      obtain ⟨v, ev, iv⟩ := i2.get (i := i) (d := DN ((stp (wt rows l) i (pth (wt rows l) i) t).getD i [])) (by rw [List.getElem?_map, fd]; rfl)
      obtain ⟨pa, rfl, pt⟩ := iv.natsI
      refine ⟨_, rfl, _, rfl, D, _, _, _, rfl, rfl, SqL.of h2.r0, atI_nat ev, pa, _, rfl, .inl (Same.sqt h2.sub pt), _, rfl, ?_, fun p hp => ?_⟩
      · have := stp_le (w := wt rows l) (i := i) (pth_le (wt rows l) i) t i
        rw [List.length_append, vN, List.length_map, sizeLine_eq]
        show _ + 1 ≤ _
        omega
      · have h3 := h2.tup (o := .tup (vN ((stp (wt rows l) i (pth (wt rows l) i) t).getD i []) ++ [.int (t : Nat)])) hp
        have s3 : Same B2 (upd B2 p (.tup (vN ((stp (wt rows l) i (pth (wt rows l) i) t).getD i []) ++ [.int (t : Nat)]))) := up_same (h2.sub.free hp)
        refine ⟨_, rfl, _, rfl, D, _, _, kd (wt rows l) i t, rfl, rfl, h3.r0, ixN_nat (by omega), _, _, _, _, _, rfl, sB2.trans s3, h3.w0, ?_⟩
        rw [stp_succ, List.map_set]
        refine (i2.mono (Stay.of s3)).set (Im.nats (SqT.of ?_))
        rw [upd_same, vN, vN, List.map_append]
        rfl
    · rintro σ H2 ⟨u5, u6, u7, B2, ws, rfl, sB2, h2, i2⟩
      rw [vN, List.length_map, kidsN, List.length_map, List.length_range, ← pth_succ] at i2
      exact ⟨_, _, _, _, _, B2, ws, rfl, sB2, h2, i2⟩
  · rintro σ H' ⟨t3, t4, t5, t6, t7, B, vs, rfl, sB, hh, im⟩
    refine ⟨_, rfl, D, _, rfl, .inl ⟨SqL.of hh.r0, fun q hn => ?_⟩⟩
    rw [kl, ← hwl] at im
    have sq := hh.sub.trans (up_same (o := .tup vs) hn)
    exact hq _ _ (((s0.trans h1).trans sB).trans sq) (.tup (SqT.of upd_same) (im.mono (Stay.of sq)))
/-! swapped -/
/-! entry_rank, row_key -/
def spRank (K : PySem.W.Frag) : Sp := fun vs H Q _ => ∃ a x rows, vs = [.ref a, .str x] ∧ BedAt K H a rows ∧ Q (.int (rkD rows x : Nat)) H
theorem sc_rank : FnScope ["bed", "entry"] ["bed", "entry"] (defScope (top 22)) := ⟨rfl, rfl, rfl, by decide +kernel, rfl, by decide +kernel, by decide +kernel⟩
theorem k_rank (T : Txt K mg) (F : DF K mg "entry_rank" 22) : Cal P w K mg base 1 "entry_rank" ["bed", "entry"] (spRank K) := by
  refine cal_of F.1 F.2 sc_rank (fun _ _ _ _ _ _ us e => match us, e with | [_, _], _ => rfl) (fun vs H Q E s => by obtain ⟨_, _, _, rfl, _⟩ := s; rfl) ?_
  intro cdv A outer s H vs Q E hr h
  obtain ⟨a, x, rows, rfl, hb, hq⟩ := h
  have hu := hu_of hr
  obtain ⟨dx, dA, tR, tK, dR, ps, h1, hd, h3, h4, h5, h6⟩ := hb.ex
  refine ⟨_, (pss_cons (ps_if (pt_cmp (pc_din hu (pv 1) (pe_fld (pv 0) rfl)))
        (pss_one (ps_ret (pe_dget hu (pe_fld (pv 0) rfl) (pv 1) (fun _ _ => rfl))))
        pss_nil)
      (pss_cons (ps_if (pt_val (pe_callB call_isi (by rfl) T.isinstance (by decide +kernel) (pa_cons (pv 1) (pa_cons (pe_bltn (v := .ty "int") (by rfl) T.int (by decide +kernel) rfl) pa_nil))))
        (pss_one ps_never)
        pss_nil)
      (pss_one (ps_ret (pe_callB call_len_seq (by rfl) T.len (by decide +kernel) (pa_cons (pe_fld (pv 0) rfl) pa_nil)))))), ?_⟩
  refine ⟨_, rfl, _, rfl, a, _, dx, _, _, rfl, h1, T.bed.cl, T.bed.nRk, rfl, dR, _, rfl, DGet.k (k := Sum.inr x) h3, _, rfl, ?_⟩
  cases hn : rk 0 rows x with
  | some n =>
    have hv : valV (rkKV 0 rows) (Sum.inr x : Key) = some (.int (n : Nat)) := by rw [valV_rk, hn]; rfl
    rw [hv]
    refine iteT ⟨_, rfl, a, _, dx, _, _, rfl, h1, T.bed.cl, T.bed.nRk, rfl, _, rfl, dR, .int (n : Nat), rfl, ?_, ?_⟩
    · rw [← hv]
      exact DGet.k (k := Sum.inr x) h3
    · rw [rkD, hn] at hq
      exact hq
  | none =>
    have hv : valV (rkKV 0 rows) (Sum.inr x : Key) = none := by rw [valV_rk, hn]; rfl
    rw [hv]
    refine iteF ⟨_, rfl, _, _, _, _, false, rfl, .ty _, .base (.str x), kit_ty (by decide +kernel), _, rfl, iteF ?_⟩
    refine ⟨_, rfl, a, _, dx, _, _, rfl, h1, T.bed.cl, T.bed.nK, rfl, tK, _, rfl, .inr h5, ?_⟩
    rw [rkD, hn] at hq
    rw [List.length_map]
    exact hq
def spKey (K : PySem.W.Frag) : Sp := fun vs H Q _ => ∃ (a r : Addr) (rows : List Sy.Row) (l : List Str), vs = [.ref a, .ref r] ∧ BedAt K H a rows ∧ SqT K H r (l.map V.str) ∧ l.length ≤ 2000 ∧ ∀ H' v, Same H H' → Im K H' v (.tuple [.int (l.length : Nat), DN (l.map (rkD rows))]) → Q v H'
abbrev N_key : List Str := ["bed", "row", "entry"]
theorem sc_key : FnScope N_key ["bed", "row"] (defScope (top 23)) := ⟨rfl, rfl, rfl, by decide +kernel, rfl, by decide +kernel, by decide +kernel⟩
theorem k_key (T : Txt K mg) (F : DF K mg "row_key" 23) (c_entry_rank : Cal P w K mg base 1 "entry_rank" ["bed", "entry"] (spRank K)) : Cal P w K mg base 2 "row_key" ["bed", "row"] (spKey K) := by
  refine cal_of F.1 F.2 sc_key (fun _ _ _ _ _ _ us e => match us, e with | [_, _], _ => rfl) (fun vs H Q E s => by obtain ⟨_, _, _, _, rfl, _⟩ := s; rfl) ?_
  intro cdv A outer s H vs Q E hr h
  obtain ⟨a, r, rows, l, rfl, hb, hR, hl, hq⟩ := h
  have hu := hu_of hr
  have sc := sc_key
  refine ⟨_, (pss_one (ps_ret (pe_tup (pa_cons (pe_callB call_len_seq (by rfl) T.len (by decide +kernel) (pa_cons (pv 1) pa_nil)) (pa_cons (pe_callTy call_tuple_of (by rfl) T.tuple (by decide +kernel) (pa_cons (pe_lc (own := [("entry", 2)]) (g := gName 2) rfl sc.nd (pi_tup (pv 1)) (blkOk_by (N := N_key) (sc := defScope (top 23)) (by decide +kernel)) (fun _ _ _ _ _ => (pg_name (i := 2) sc.nd rfl (Or.inl rfl))) (fun _ _ _ _ _ => pts_nil) (fun _ _ _ _ _ => (pe_cal c_entry_rank hr (pa_cons (pv 0) (pa_cons (pv 2) pa_nil))))) pa_nil)) pa_nil))))), ?_⟩
  refine ⟨_, rfl, r, _, rfl, .inr hR, _, rfl, r, rfl, ⟨_, hR⟩, fun D hD => lc_map (si := 2) (Hs.start H) hD hR (by rw [List.length_map]; omega) (fun i B acc => acc = vN ((l.take i).map (rkD rows))) rfl ?_ ?_⟩
  · rintro i x B' acc H' hx s rfl hh R hR
    obtain ⟨y, hy, rfl⟩ := map_at hx
    have hi : i < l.length := (List.getElem?_eq_some_iff.mp hy).1
    refine ⟨_, rfl, _, rfl, a, y, rows, rfl, hb.mono (Stay.of (s.trans hh.sub)), ?_⟩
    refine hR _ _ B' (Same.refl _) hh ?_
    rw [List.take_succ, hy, List.map_append, vN, vN, List.map_append]
    rfl
  · rintro B' acc H1 s1 rfl hh
    rw [List.length_map, List.take_length] at hh
    refine ⟨D, _, rfl, .inl ⟨SqL.of hh.r0, fun p hp => ⟨(by show 2 ≤ sizeLine; decide), fun q hn => ?_⟩⟩⟩
    have sA := (s1.trans hh.sub).trans (up_same (o := .tup (vN (l.map (rkD rows)))) hp)
    refine hq _ _ (sA.trans (up_same hn)) (.tup (SqT.of upd_same) (.cons ?_ (.cons (Im.nats (Same.sqt (up_same hn) (SqT.of upd_same))) .nil)))
    rw [List.length_map]
    exact .int _
end
end Sy
/-! try: .. except X as e: suite, further clauses behind it that are not reached -/
namespace Sy
open PySem PySem.Spec PyProof.Rows L2
/-- what the body may raise: what the first clause catches -/
def wFst (K : PySem.W.Frag) (c : Value) (i : Nat) (ts : Addr → Value → Option Addr → TS) (D : Ends) : WX := fun cls d σ H => PySem.W.exmOne K cls c = some true ∧ ∀ a, H a = none →
  ts a cls d { nx := fun σ' H' => D.nx (σ'.set i none) H', rt := D.rt, bk := fun σ' H' => D.bk (σ'.set i none) H', ct := fun σ' H' => D.ct (σ'.set i none) H' } (σ.set i (some (.ref a))) H
theorem ps_try_fst {X : Cx} {x n : Str} {c : Value} {i : Nat} {body suite : List Stmt} {b₀ : Stmt} {np pos pos' : Pos} {hds : List ExceptHandler} {tb : WX → TS} {ts : Addr → Value → Option Addr → TS}
    (hs : X.stack = X.env :: X.outer) (hf : X.env.frame = some X.env.locals) (hN : X.N.Nodup) (hi : X.N[i]? = some n) (hln : X.env.kindOf n = some .local) (hc : Names X x c)
    (hb : ∀ (W : WX) (pn : List (Addr × Obj)) (xe : Value → Shared → Prop), Takes (X.tr pn xe) W → PassesOwn (model X.prog X.w) X.A X.env xe → PSs (X.tr pn xe) body (tb W))
    (hsu : ∀ (a : Addr) (oe : Obj) (cls : Value) (d : Option Addr) (pn : List (Addr × Obj)), Zc cls d oe → (∃ vs, oe.data = .fields vs) → PSs (X.suite a ((a, oe) :: pn)) (b₀ :: suite) (ts a cls d)) :
    PS X (.Try body (.ExceptHandler (some (.Name x np)) (some n) (b₀ :: suite) pos' :: hds) [] [] pos) (fun D σ H => tb (wFst X.K c i ts D) D σ H) := by
  constructor
  intro pins s σ H D I h
  have ok := I.ok
  have fr0 : X.A.frames = some (X.env :: X.outer) := by rw [ok.frames, hs]
  apply wpAny_Try_except
  refine wpAny_mono ((hb (wFst X.K c i ts D) (X.pn ++ pins) (fun e s₁ => wpAny (model X.prog X.w) X.A (noteFrame e X.env) (fun _ s₂ => wpAny (model X.prog X.w) X.A (setFlight e none) (fun _ s₃ =>
    wpAny (model X.prog X.w) X.A (handleBy e X.env (.ExceptHandler (some (.Name x np)) (some n) (b₀ :: suite) pos' :: hds)) (SP X pins D) X.xe s₃) X.xe s₂) X.xe s₁) (fun u s' q => ?cat) PassesOwn.looking).run [] s σ H D (I.toTry _) h) (fun f s1 q => ?fin) (fun _ _ q => q)
  case fin =>
    cases f
    case next =>
      obtain ⟨_, _, J, z⟩ := q
      exact wpAny_execs_nil ⟨_, _, J.ofTry ok, z⟩
    case brk =>
      obtain ⟨_, _, J, z⟩ := q
      exact ⟨_, _, J.ofTry ok, z⟩
    case cont =>
      obtain ⟨_, _, J, z⟩ := q
      exact ⟨_, _, J.ofTry ok, z⟩
    case ret =>
      obtain ⟨_, _, _, J, rv, z⟩ := q
      exact ⟨_, _, _, J.ofTry ok, rv, z⟩
  case cat =>
    obtain ⟨a, B, sI, pins', σ1, H1, cls, d, rfl, J', nb, up, sky, na, os, ag, hcat, hgo⟩ := q
    have J : Inv X pins σ1 H1 sI := J'.ofTry ok
    rw [hs] at sky
    show wpAny (model X.prog X.w) X.A (noteFrame (.ref a) X.env) _ _ _
    refine Sky.land Zc.steady fr0 hf sky fun h3 fl up3 => ?_
    have J3 : Inv X pins σ1 H1 { s' with heap := h3 } := J.landed nb fl.1 (up.trans up3) os ag
    obtain ⟨o3, v3, g3, z3, d3⟩ := fl.there
    have off : a ∉ frs (X.env :: X.outer) := fun hm => by
      obtain ⟨_, _, e', no⟩ := fl.2.2.1.mem hm
      rw [g3] at e'
      cases e'
      exact no _ d3
    have nL : a ≠ X.env.locals := fun z => off (List.mem_filterMap.mpr ⟨X.env, List.mem_cons_self, by rw [hf, z]⟩)
    have nF : a ∉ X.fs := fun hm => by
      obtain ⟨e, he, z⟩ := List.mem_filterMap.mp hm
      exact off (List.mem_filterMap.mpr ⟨e, List.mem_cons_of_mem _ he, z⟩)
    have S3 := J3.suite g3 d3 na nL nF
    refine wpAny_handleBy_cons (codeAny_handlers_test ?_) (by intro z; cases z)
    have LT : PySem.W.Looks (model X.prog X.w) h3 (typeOf (.ref a)) cls := fun _ _ _ _ k z => wpAny_typeOf_ref (k _ _ g3) (by rw [z3.1]; exact z)
    have LM := PySem.W.exm_one (M := model X.prog X.w) J3.kIn LT hcat
    have go2 : ∀ {Q E : Value → Shared → Prop}, Q c { s' with heap := h3 } → wpAny (model X.prog X.w) (X.A.mark (some (.ref a))) (eval (.Name x np) X.env) Q E { s' with heap := h3 } := fun {Q E} z => by
      rcases hc with ⟨g, dbg, m | ⟨m, v, nn⟩⟩
      · exact ld_glob (X := X.suite a ((a, o3) :: (X.pn ++ pins))) S3 g m z dbg
      · exact ld_blt (X := X.suite a ((a, o3) :: (X.pn ++ pins))) S3 g m v z nn dbg
    refine go2 (LM.here ?_)
    refine codeAny_handlers_suite_as ?_
    refine HandSPX.lands_againZ fl fun h4 fl4 up4 => ?_
    have J4 : Inv X pins σ1 H1 { s' with heap := h4 } := J.landed nb fl4.1 ((up.trans up3).trans up4) os ag
    obtain ⟨o4, v4, g4, z4, d4⟩ := fl4.there
    refine store_ok (X := X.suite a ((a, o4) :: (X.pn ++ pins))) (v := .ref a) (J4.suite g4 d4 na nL nF) hN hi (.inl hln) rfl (fun s5 S5 => ?_) (.inr hln)
    refine wpAny_mono ((hsu a o4 cls d (X.pn ++ pins) z4 ⟨_, d4⟩).run [] s5 _ H1 _ S5 (hgo a na)) (fun f s6 q => ?_) (fun _ _ z => z.elim)
    have shut : ∀ {σ6 : L2.St} {H6 : Hp} {R : Shared → Prop}, Inv (X.suite a ((a, o4) :: (X.pn ++ pins))) [] σ6 H6 s6 → (∀ s7, Inv X pins (σ6.set i none) H6 s7 → R s7) →
        wpAny (model X.prog X.w) X.A (do bindName X.env n .none; unbindBehindTheSuite X.env n pos') (fun _ s7 => R s7) X.xe s6 := fun S6 k => gone_ok (S6.unsuite ok) hN hi hln k
    cases f
    case next =>
      obtain ⟨_, _, S6, z⟩ := q
      exact shut S6 fun _ J7 => ⟨_, _, J7, z⟩
    case brk =>
      obtain ⟨_, _, S6, z⟩ := q
      exact shut S6 fun _ J7 => ⟨_, _, J7, z⟩
    case cont =>
      obtain ⟨_, _, S6, z⟩ := q
      exact shut S6 fun _ J7 => ⟨_, _, J7, z⟩
    case ret =>
      obtain ⟨_, _, _, S6, rv, z⟩ := q
      exact shut S6 fun _ J7 => ⟨_, _, _, J7, rv, z⟩
end Sy
/-! own errors: their __init__, raising them -/
namespace Sy
open PySem PySem.Spec PyProof.Rows L2
/-- the class x, its __init__ by its row, its fields -/
structure ErrB (P : Program) (K : PySem.W.Frag) (mg : Str → Option Value) (x q : Str) (st : Stmt) (fs : List Str) : Prop where
  sup : ∃ (cc cd : Addr) (kV doc pm : Value) (an : Option Addr) (ct : Value), SupF P K (He.ga K x) (iniA K x) cc cd q (defArgs st) (defBody st) (defScope st) (PySem.W.fnX "__init__" q (defArgs st) (defBody st) (defScope st) [("__class__", cc)] .none kV doc pm an (.ref cd) ct)
  iC : PySem.W.findIn K (.ref (He.ga K x)) "__init__" = some (some (.ref (iniA K x)))
  tI : PySem.W.typeIn K (.ref (iniA K x)) = some (.type "function")
  at_ : mg x = some (.ref (He.ga K x))
  ex : PySem.W.exmOne K (.ref (He.ga K x)) (.ref (He.ga K x)) = some true
  xf : XfC K (He.ga K x)
  no : ∀ f ∈ fs, PySem.W.findIn K (.ref (He.ga K x)) f = some none
  mS : mg "super" = none
  top : (P.main.scope.names.lookup ("super" : Str)).isSome = false
/-- raised: a new dict with these fields, beside what stood -/
def Ra (K : PySem.W.Frag) (x : Str) (fs : List (Str × V)) (H : Hp) (E : XK) : Prop := ∀ d H', Same H H' → H' d = some (.xd fs) → E (.ref (He.ga K x)) (some d) H'
def spInit (C : Addr) (ok : List V → Hp → List (Str × V) → Prop) : Sp := fun vs H Q _ => ∃ a us fs, vs = .ref a :: us ∧ ok us H fs ∧ H a = some (exo a C none) ∧
  ∀ dx H', H dx = none → dx ≠ a → H' a = some (exo a C (some dx)) → H' dx = some (exd dx fs) → (∀ b, b ≠ a → b ≠ dx → H' b = H b) → Q .non H'
theorem mk_ra {K : PySem.W.Frag} {x : Str} {ok : List V → Hp → List (Str × V) → Prop} {us : List V} {H : Hp} {fs : List (Str × V)} {E : XK} (hok : ∀ H', Same H H' → ok us H' fs) (hl : us.length ≤ 1000) (h : Ra K x fs H E) :
    us.length ≤ 1000 ∧ ∀ a, H a = none → spInit (He.ga K x) ok (.ref a :: (us ++ [])) (upd H a (exo a (He.ga K x) none)) (fun v H2 => v = .non ∧ ∃ (d : Addr) (fs : List (Str × V)), H2 a = some (exo a (He.ga K x) (some d)) ∧ H2 d = some (exd d fs) ∧ H d = none ∧ E (.ref (He.ga K x)) (some d) (upd (L2.del H2 a) d (.xd fs))) (fun _ _ _ => False) := by
  refine ⟨hl, fun a ha => ⟨a, us, fs, by rw [List.append_nil], hok _ (up_same ha), upd_same, fun dx H' h1 h2 h3 h4 h5 => ⟨rfl, dx, fs, h3, h4, by rw [upd_ne h2] at h1; exact h1, h dx _ (fun b o e => ?_) upd_same⟩⟩⟩
  have hb : b ≠ a := fun z => by rw [z, ha] at e; cases e
  have hd : H dx = none := by rw [upd_ne h2] at h1; exact h1
  have hb2 : b ≠ dx := fun z => by rw [z, hd] at e; cases e
  rw [upd_ne hb2, del_ne hb, h5 b hb hb2, upd_ne hb]
  exact e
section
variable {P : Program} {w : World} {K : PySem.W.Frag} {mg : Str → Option Value} {base : Heap}
/-! TooMany(what, limit) -/
def okTM : List V → Hp → List (Str × V) → Prop := fun us _ fs => ∃ (x : Str) (n : Int), us = [.str x, .int n] ∧ x.length ≤ 100 ∧ n.natAbs.log2 < 1920 ∧ (toString n : Str).length ≤ 1000 ∧ fs = ([("limit", V.int n), ("what", V.str x)] : List (Str × V))
abbrev N_tm : List Str := ["self", "what", "limit", "__class__"]
theorem sc_tm : NdefX.NScope N_tm ["self", "what", "limit"] ["__class__"] (defScope (clb 6 0)) := ⟨rfl, rfl, rfl, by decide +kernel, rfl, by decide +kernel, by decide +kernel, by decide +kernel, by decide +kernel⟩
theorem i_tm (T : ErrB P K mg "TooMany" "TooMany.__init__" (clb 6 0) ["what", "limit"]) : ∃ fd, FnOk P w K mg base CX0 1 (iniA K "TooMany") fd ["self", "what", "limit"] (spInit (He.ga K "TooMany") okTM) ∧ L2.Binds K fd ["self", "what", "limit"] [] := by
  obtain ⟨cc, cd, kV, doc, pm, an, ct, S⟩ := T.sup
  refine ⟨_, fn_sup (k := 0) S sc_tm rfl rfl rfl rfl rfl T.mS T.top (fun vs H Q E s => by obtain ⟨_, _, _, rfl, ⟨_, _, rfl, _⟩, _⟩ := s; rfl) (fun _ => rfl) (fun _ => rfl) (fun _ _ => rfl) ?_, .all fun us e => match us, e with | [_, _, _], _ => rfl⟩
  intro A outer s H vs Q E hr h
  obtain ⟨a, us, fs, rfl, ⟨x, n, rfl, hx, hn, hn2, rfl⟩, ha, hq⟩ := h
  refine ⟨_, _, pa_cons (pe_joined (.cons pe_str (.cons (pe_fmt (pv 1)) (.cons pe_str (.cons (pe_fmt (pv 2)) .nil))))) pa_nil, pss_cons (ps_ost (pv 0) (pv 1)) (pss_one (ps_ost (pv 0) (pv 2))), a, _, rfl, ha, ?_⟩
  have L1 : ((Str.empty : Str) ++ ("too many " : Str)).length = 9 := by decide +kernel
  have L2' : (": the limit is " : Str).length = 15 := by decide +kernel
  refine ⟨_, rfl, by rw [L1]; decide, _, rfl, .inl ⟨x, rfl, by rw [sizeLine_eq]; omega, _, rfl, ?_, _, rfl, ?_, _, rfl, .inr ⟨n, rfl, hn, _, rfl, ?_, (by show 1 ≤ 1000; decide), ha, _, rfl, _, rfl, a, _, rfl, S.oex, T.no _ (by decide), .inl ⟨ha, fun dx h1 h2 => ⟨_, rfl, _, rfl, a, _, rfl, S.oex, T.no _ (by decide), .inr ⟨dx, _, upd_same, by rw [upd_ne h2]; exact upd_same, (by show 1 ≤ 900; decide), hq dx _ h1 h2 ?_ upd_same ?_⟩⟩⟩⟩⟩⟩
  · rw [PySem.Str.length_append, L1, sizeLine_eq]
    omega
  · rw [PySem.Str.length_append, PySem.Str.length_append, L1, L2', sizeLine_eq]
    omega
  · rw [PySem.Str.length_append, PySem.Str.length_append, PySem.Str.length_append, L1, L2', sizeLine_eq]
    omega
  · rw [upd_ne h2.symm]
    exact upd_same
  · intro b hb hb2
    rw [upd_ne hb2, upd_ne hb, upd_ne hb2]
/-- raise TooMany(.., ..) -/
theorem mk_tm {X : Cx} {k : Nat} {p pos : Pos} {e1 e2 : Expr} {ta : TA} (T : ErrB X.prog X.K X.mg "TooMany" "TooMany.__init__" (clb 6 0) ["what", "limit"]) (hr : Room k X.A) (hg : Gl X "TooMany") (ha : PA X [e1, e2] ta)
    (hx : Passes CX0 X (fun _ _ _ => False)) (hk : 2 ≤ k := by decide) (he : starEach [e1, e2] X.env = (false, eval e1 X.env) :: starEach [e2] X.env := by rfl) (hpl : (backTo pos (starEach [e2] X.env)).any (·.1) = false := by rfl) :
    PMk X (.Call (.Name "TooMany" p) [e1, e2] [] pos) (tMkO (He.ga X.K "TooMany") (spInit (He.ga X.K "TooMany") okTM) [] ta) := by
  obtain ⟨fd, F, B⟩ := i_tm (w := X.w) (base := X.base) T
  obtain ⟨cc, cd, kV, doc, pm, an, ct, S⟩ := T.sup
  exact pmk_oex S.oex T.iC T.tI F (hr.mono hk) B .nil hx hg T.at_ ha rfl he hpl
/-! NoPath(path) -/
/-! check_count -/
def spCount (K : PySem.W.Frag) : Sp := fun vs H Q E => ∃ n : Int, vs = [.int n] ∧ (n ≤ 2000 → Q .non H) ∧ (2000 < n → Ra K "TooMany" [("limit", .int 2000), ("what", .str "knots")] H E)
theorem sc_count : FnScope ["number"] ["number"] (defScope (top 12)) := ⟨rfl, rfl, rfl, by decide +kernel, rfl, by decide +kernel, by decide +kernel⟩
theorem k_count (T : Txt K mg) (TM : ErrB P K mg "TooMany" "TooMany.__init__" (clb 6 0) ["what", "limit"]) (F : DF K mg "check_count" 12) : Cal P w K mg base 3 "check_count" ["number"] (spCount K) := by
  refine cal_of F.1 F.2 sc_count (fun _ _ _ _ _ _ us e => match us, e with | [_], _ => rfl) (fun vs H Q E s => by obtain ⟨_, rfl, _⟩ := s; rfl) ?_
  intro cdv A outer s H vs Q E hr h
  obtain ⟨n, rfl, h1, h2⟩ := h
  have sc := sc_count
  refine ⟨_, (pss_one (ps_if (pt_cmpR op_gt (pv 0) (pe_gint rfl T.MOST_KNOTS) (nomark _))
        (pss_one (ps_raise rfl (takes_of rfl rfl rfl rfl) (mk_tm TM hr rfl (pa_cons pe_str (pa_cons (pe_gint rfl T.MOST_KNOTS) pa_nil)) pass0)))
        pss_nil)), ?_⟩
  refine ⟨_, rfl, _, _, rfl, rfl, _, rfl, if_dec (fun c => ?_) (fun c => ?_)⟩
  · exact mk_ra (fun _ _ => ⟨_, _, rfl, by decide +kernel, by decide +kernel, by decide +kernel, rfl⟩) (by show 2 ≤ 1000; decide) (h2 c)
  · exact h1 (by omega)
end
end Sy
/-! outcomes that are errors -/
namespace Sy
open PySem PySem.Spec PyProof.Rows L2
/-- an error that is due -/
inductive Er
  | many
  | plant (i : Nat)
  | stump (i : Nat)
  | path (zs : List Int)
  | kind (x : Str)
  | wrong (a b : Nat)
def Er.cls : Er → Str
  | .many => "TooMany"
  | .plant _ => "InvalidPlant"
  | .stump _ => "InvalidStump"
  | .path _ => "NoPath"
  | .kind _ => "UnknownKind"
  | .wrong _ _ => "WrongBranches"
/-- its fields, the newest first -/
def Er.fds : Er → List (Str × PyData)
  | .many => [("limit", .int 2000), ("what", .str "knots")]
  | .plant i => [("place", .int (i : Nat))]
  | .stump i => [("place", .int (i : Nat))]
  | .path zs => [("path", .tuple (zs.map PyData.int))]
  | .kind x => [("kind", .str x)]
  | .wrong a b => [("given", .int (b : Nat)), ("wanted", .int (a : Nat))]
/-- what the law calls it -/
def Er.dat : Er → PyData
  | .many => .tuple [.str "many", .str "knots", .int 2000]
  | .plant i => .tuple [.str "plant", .int (i : Nat)]
  | .stump i => .tuple [.str "stump", .int (i : Nat)]
  | .path zs => .tuple [.str "path", .tuple (zs.map PyData.int)]
  | .kind x => .tuple [.str "kind", .str x]
  | .wrong a b => .tuple [.str "wrong", .int (a : Nat), .int (b : Nat)]
inductive ImF (K : PySem.W.Frag) (H : Hp) : List (Str × V) → List (Str × PyData) → Prop
  | nil : ImF K H [] []
  | cons {f : Str} {v : V} {d : PyData} {fs : List (Str × V)} {ds : List (Str × PyData)} : Im K H v d → ImF K H fs ds → ImF K H ((f, v) :: fs) ((f, d) :: ds)
def RaE (K : PySem.W.Frag) (e : Er) (H : Hp) (E : XK) : Prop := ∀ d H' fs, Same H H' → H' d = some (.xd fs) → ImF K H' fs e.fds → E (.ref (He.ga K e.cls)) (some d) H'
theorem RaE.mono {K : PySem.W.Frag} {e : Er} {H H1 : Hp} {E : XK} (h : RaE K e H E) (s : Same H H1) : RaE K e H1 E := fun d H' fs s' e1 i => h d H' fs (s.trans s') e1 i
theorem ImF.mono {K : PySem.W.Frag} {H H' : Hp} (s : Same H H') : ∀ {fs : List (Str × V)} {ds : List (Str × PyData)}, ImF K H fs ds → ImF K H' fs ds
  | _, _, .nil => .nil
  | _, _, .cons a b => .cons (a.mono (Stay.of s)) (ImF.mono s b)
theorem RaE.ra {K : PySem.W.Frag} {e : Er} {H : Hp} {E : XK} {fs : List (Str × V)} (h : RaE K e H E) (i : ImF K H fs e.fds) : Ra K e.cls fs H E := fun d H' s e1 => h d H' fs s e1 (i.mono s)
section
variable {P : Program} {w : World} {K : PySem.W.Frag} {mg : Str → Option Value} {base : Heap}
theorem L0 (x : Str) : ((Str.empty : Str) ++ x).length = x.length := by rw [PySem.Str.length_append]; exact Nat.zero_add _
/-! InvalidPlant(place) -/
def okIP : List V → Hp → List (Str × V) → Prop := fun us _ fs => ∃ i : Nat, us = [.int (i : Nat)] ∧ i ≤ 1000000 ∧ fs = ([("place", V.int (i : Nat))] : List (Str × V))
set_option exponentiation.threshold 3000 in
theorem nat_log {i : Nat} (h : i ≤ 1000000) : ((i : Int).natAbs).log2 < 1920 := by
  have e : (i : Int).natAbs = i := Int.natAbs_natCast i
  rw [e]
  by_cases c : i = 0
  · rw [c]; decide
  · exact (Nat.log2_lt c).mpr (Nat.lt_of_le_of_lt h (by decide))
theorem nat_txt {i : Nat} (h : i ≤ 1000000) : (toString (i : Int) : Str).length ≤ 1921 := int_text_len_1921 (nat_log h)

theorem sc_is : NdefX.NScope ["self", "place", "__class__"] ["self", "place"] ["__class__"] (defScope (clb 3 0)) := ⟨rfl, rfl, rfl, by decide +kernel, rfl, by decide +kernel, by decide +kernel, by decide +kernel, by decide +kernel⟩
theorem i_is (T : ErrB P K mg "InvalidStump" "InvalidStump.__init__" (clb 3 0) ["place"]) : ∃ fd, FnOk P w K mg base CX0 1 (iniA K "InvalidStump") fd ["self", "place"] (spInit (He.ga K "InvalidStump") okIP) ∧ L2.Binds K fd ["self", "place"] [] := by
  obtain ⟨cc, cd, kV, doc, pm, an, ct, S⟩ := T.sup
  refine ⟨_, fn_sup (k := 0) S sc_is rfl rfl rfl rfl rfl T.mS T.top (fun vs H Q E s => by obtain ⟨_, _, _, rfl, ⟨_, rfl, _⟩, _⟩ := s; rfl) (fun _ => rfl) (fun _ => rfl) (fun _ _ => rfl) ?_, .all fun us e => match us, e with | [_, _], _ => rfl⟩
  intro A outer s H vs Q E hr h
  obtain ⟨a, us, fs, rfl, ⟨x, rfl, hx, rfl⟩, ha, hq⟩ := h
  refine ⟨_, _, pa_cons (pe_joined (.cons pe_str (.cons (pe_fmt (pv 1)) (.cons pe_str .nil)))) pa_nil, pss_one (ps_ost (pv 0) (pv 1)), a, _, rfl, ha, ?_⟩
  have L1 : ((Str.empty : Str) ++ ("not a stump from index " : Str)).length = 23 := by decide +kernel
  have L2' : (" on" : Str).length = 3 := by decide +kernel
  have htx := nat_txt hx
  refine ⟨_, rfl, by rw [L1]; decide, _, rfl, .inr ⟨(x : Int), rfl, nat_log hx, _, rfl, ?_, _, rfl, ?_, (by show 1 ≤ 1000; decide), ha, _, rfl, _, rfl, a, _, rfl, S.oex, T.no _ (by decide), .inl ⟨ha, fun dx h1 h2 => hq dx _ h1 h2 upd_same ?_ ?_⟩⟩⟩
  · rw [PySem.Str.length_append, L1, sizeLine_eq]
    omega
  · rw [PySem.Str.length_append, PySem.Str.length_append, L1, L2', sizeLine_eq]
    omega
  · rw [upd_ne h2]
    exact upd_same
  · intro b hb hb2
    rw [upd_ne hb, upd_ne hb2]
theorem mk_is {X : Cx} {k : Nat} {p pos : Pos} {e1 : Expr} {ta : TA} (T : ErrB X.prog X.K X.mg "InvalidStump" "InvalidStump.__init__" (clb 3 0) ["place"]) (hr : Room k X.A) (hg : Gl X "InvalidStump") (ha : PA X [e1] ta)
    (hx : Passes CX0 X (fun _ _ _ => False)) (hk : 2 ≤ k := by decide) (he : starEach [e1] X.env = (false, eval e1 X.env) :: starEach [] X.env := by rfl) (hpl : (backTo pos (starEach [] X.env)).any (·.1) = false := by rfl) :
    PMk X (.Call (.Name "InvalidStump" p) [e1] [] pos) (tMkO (He.ga X.K "InvalidStump") (spInit (He.ga X.K "InvalidStump") okIP) [] ta) := by
  obtain ⟨fd, F, B⟩ := i_is (w := X.w) (base := X.base) T
  obtain ⟨cc, cd, kV, doc, pm, an, ct, S⟩ := T.sup
  exact pmk_oex S.oex T.iC T.tI F (hr.mono hk) B .nil hx hg T.at_ ha rfl he hpl

/-! UnknownKind(kind) -/
def okUK : List V → Hp → List (Str × V) → Prop := fun us _ fs => ∃ x : Str, us = [.str x] ∧ (x.length ≤ 100 ∧ ∀ c ∈ x.cps.toList, c < 16 ^ 8) ∧ fs = ([("kind", V.str x)] : List (Str × V))

theorem sc_uk : NdefX.NScope ["self", "kind", "__class__"] ["self", "kind"] ["__class__"] (defScope (clb 5 0)) := ⟨rfl, rfl, rfl, by decide +kernel, rfl, by decide +kernel, by decide +kernel, by decide +kernel, by decide +kernel⟩
theorem i_uk (T : ErrB P K mg "UnknownKind" "UnknownKind.__init__" (clb 5 0) ["kind"]) : ∃ fd, FnOk P w K mg base CX0 1 (iniA K "UnknownKind") fd ["self", "kind"] (spInit (He.ga K "UnknownKind") okUK) ∧ L2.Binds K fd ["self", "kind"] [] := by
  obtain ⟨cc, cd, kV, doc, pm, an, ct, S⟩ := T.sup
  refine ⟨_, fn_sup (k := 0) S sc_uk rfl rfl rfl rfl rfl T.mS T.top (fun vs H Q E s => by obtain ⟨_, _, _, rfl, ⟨_, rfl, _⟩, _⟩ := s; rfl) (fun _ => rfl) (fun _ => rfl) (fun _ _ => rfl) ?_, .all fun us e => match us, e with | [_, _], _ => rfl⟩
  intro A outer s H vs Q E hr h
  obtain ⟨a, us, fs, rfl, ⟨x, rfl, hx, rfl⟩, ha, hq⟩ := h
  refine ⟨_, _, pa_cons (pe_joined (.cons pe_str (.cons (pe_fmtR (pv 1)) .nil))) pa_nil, pss_one (ps_ost (pv 0) (pv 1)), a, _, rfl, ha, ?_⟩
  have L1 : ((Str.empty : Str) ++ ("unknown kind: " : Str)).length = 14 := by decide +kernel
  have htx := StrLaws.reprText_len x hx.2
  have hxl := hx.1
  refine ⟨_, rfl, by rw [L1]; decide, _, rfl, .inl ⟨x, rfl, by rw [sizeLine_eq]; omega, _, rfl, ?_, (by show 1 ≤ 1000; decide), ha, _, rfl, _, rfl, a, _, rfl, S.oex, T.no _ (by decide), .inl ⟨ha, fun dx h1 h2 => hq dx _ h1 h2 upd_same ?_ ?_⟩⟩⟩
  · rw [PySem.Str.length_append, L1, sizeLine_eq]
    omega
  · rw [upd_ne h2]
    exact upd_same
  · intro b hb hb2
    rw [upd_ne hb, upd_ne hb2]
theorem mk_uk {X : Cx} {k : Nat} {p pos : Pos} {e1 : Expr} {ta : TA} (T : ErrB X.prog X.K X.mg "UnknownKind" "UnknownKind.__init__" (clb 5 0) ["kind"]) (hr : Room k X.A) (hg : Gl X "UnknownKind") (ha : PA X [e1] ta)
    (hx : Passes CX0 X (fun _ _ _ => False)) (hk : 2 ≤ k := by decide) (he : starEach [e1] X.env = (false, eval e1 X.env) :: starEach [] X.env := by rfl) (hpl : (backTo pos (starEach [] X.env)).any (·.1) = false := by rfl) :
    PMk X (.Call (.Name "UnknownKind" p) [e1] [] pos) (tMkO (He.ga X.K "UnknownKind") (spInit (He.ga X.K "UnknownKind") okUK) [] ta) := by
  obtain ⟨fd, F, B⟩ := i_uk (w := X.w) (base := X.base) T
  obtain ⟨cc, cd, kV, doc, pm, an, ct, S⟩ := T.sup
  exact pmk_oex S.oex T.iC T.tI F (hr.mono hk) B .nil hx hg T.at_ ha rfl he hpl

/-! WrongBranches(wanted, given) -/
def okWB : List V → Hp → List (Str × V) → Prop := fun us _ fs => ∃ a b : Nat, us = [.int (a : Nat), .int (b : Nat)] ∧ a ≤ 1000000 ∧ b ≤ 1000000 ∧ fs = ([("given", V.int (b : Nat)), ("wanted", V.int (a : Nat))] : List (Str × V))
abbrev N_wb : List Str := ["self", "wanted", "given", "__class__"]
theorem sc_wb : NdefX.NScope N_wb ["self", "wanted", "given"] ["__class__"] (defScope (clb 7 0)) := ⟨rfl, rfl, rfl, by decide +kernel, rfl, by decide +kernel, by decide +kernel, by decide +kernel, by decide +kernel⟩
theorem i_wb (T : ErrB P K mg "WrongBranches" "WrongBranches.__init__" (clb 7 0) ["wanted", "given"]) : ∃ fd, FnOk P w K mg base CX0 1 (iniA K "WrongBranches") fd ["self", "wanted", "given"] (spInit (He.ga K "WrongBranches") okWB) ∧ L2.Binds K fd ["self", "wanted", "given"] [] := by
  obtain ⟨cc, cd, kV, doc, pm, an, ct, S⟩ := T.sup
  refine ⟨_, fn_sup (k := 0) S sc_wb rfl rfl rfl rfl rfl T.mS T.top (fun vs H Q E s => by obtain ⟨_, _, _, rfl, ⟨_, _, rfl, _⟩, _⟩ := s; rfl) (fun _ => rfl) (fun _ => rfl) (fun _ _ => rfl) ?_, .all fun us e => match us, e with | [_, _, _], _ => rfl⟩
  intro A outer s H vs Q E hr h
  obtain ⟨a, us, fs, rfl, ⟨x, n, rfl, hx, hn, rfl⟩, ha, hq⟩ := h
  refine ⟨_, _, pa_cons (pe_joined (.cons (pe_fmt (pv 1)) (.cons pe_str (.cons (pe_fmt (pv 2)) (.cons pe_str .nil))))) pa_nil, pss_cons (ps_ost (pv 0) (pv 1)) (pss_one (ps_ost (pv 0) (pv 2))), a, _, rfl, ha, ?_⟩
  have L1 : (" branches expected, " : Str).length = 20 := by decide +kernel
  have L2' : (" given" : Str).length = 6 := by decide +kernel
  have e0 : (Str.empty : Str).length = 0 := rfl
  have tx := nat_txt hx
  have tn := nat_txt hn
  refine ⟨_, rfl, .inr ⟨(x : Int), rfl, nat_log hx, _, rfl, ?_, _, rfl, ?_, _, rfl, .inr ⟨(n : Int), rfl, nat_log hn, _, rfl, ?_, _, rfl, ?_, (by show 1 ≤ 1000; decide), ha, _, rfl, _, rfl, a, _, rfl, S.oex, T.no _ (by decide), .inl ⟨ha, fun dx h1 h2 => ⟨_, rfl, _, rfl, a, _, rfl, S.oex, T.no _ (by decide), .inr ⟨dx, _, upd_same, by rw [upd_ne h2]; exact upd_same, (by show 1 ≤ 900; decide), hq dx _ h1 h2 ?_ upd_same ?_⟩⟩⟩⟩⟩⟩
  · rw [PySem.Str.length_append, e0, sizeLine_eq]
    omega
  · rw [PySem.Str.length_append, PySem.Str.length_append, e0, L1, sizeLine_eq]
    omega
  · rw [PySem.Str.length_append, PySem.Str.length_append, PySem.Str.length_append, e0, L1, sizeLine_eq]
    omega
  · rw [PySem.Str.length_append, PySem.Str.length_append, PySem.Str.length_append, PySem.Str.length_append, e0, L1, L2', sizeLine_eq]
    omega
  · rw [upd_ne h2.symm]
    exact upd_same
  · intro b hb hb2
    rw [upd_ne hb2, upd_ne hb, upd_ne hb2]
theorem mk_wb {X : Cx} {k : Nat} {p pos : Pos} {e1 e2 : Expr} {ta : TA} (T : ErrB X.prog X.K X.mg "WrongBranches" "WrongBranches.__init__" (clb 7 0) ["wanted", "given"]) (hr : Room k X.A) (hg : Gl X "WrongBranches") (ha : PA X [e1, e2] ta)
    (hx : Passes CX0 X (fun _ _ _ => False)) (hk : 2 ≤ k := by decide) (he : starEach [e1, e2] X.env = (false, eval e1 X.env) :: starEach [e2] X.env := by rfl) (hpl : (backTo pos (starEach [e2] X.env)).any (·.1) = false := by rfl) :
    PMk X (.Call (.Name "WrongBranches" p) [e1, e2] [] pos) (tMkO (He.ga X.K "WrongBranches") (spInit (He.ga X.K "WrongBranches") okWB) [] ta) := by
  obtain ⟨fd, F, B⟩ := i_wb (w := X.w) (base := X.base) T
  obtain ⟨cc, cd, kV, doc, pm, an, ct, S⟩ := T.sup
  exact pmk_oex S.oex T.iC T.tI F (hr.mono hk) B .nil hx hg T.at_ ha rfl he hpl
/-! the errors of the top -/
structure Ers (P : Program) (K : PySem.W.Frag) (mg : Str → Option Value) : Prop where
  tm : ErrB P K mg "TooMany" "TooMany.__init__" (clb 6 0) ["what", "limit"]
  is : ErrB P K mg "InvalidStump" "InvalidStump.__init__" (clb 3 0) ["place"]
  uk : ErrB P K mg "UnknownKind" "UnknownKind.__init__" (clb 5 0) ["kind"]
  wb : ErrB P K mg "WrongBranches" "WrongBranches.__init__" (clb 7 0) ["wanted", "given"]
end
end Sy
namespace Sy
open PySem PySem.Spec PyProof.Rows L2
/-- where a path of any numbers leads -/
def pz (w : List Nat) : Nat → List Int → Option Nat
  | i, [] => some i
  | i, z :: zs => if 0 ≤ z ∧ z < (aw w i : Nat) then pz w (kd w i z.toNat) zs else none
/-- a plant of the bed -/
structure Pln (rows : List Sy.Row) (l : List Str) : Prop where
  fo : Fo 1 (wt rows l)
  kn : ∀ x ∈ l, isK rows x = true
  le : l.length ≤ 2000
theorem fa_ok {rows : List Sy.Row} {lv : List Str} : ∀ {l : List Str} {m i : Nat}, Fo m (wt rows l) → (∀ x ∈ l, isK rows x = true) → fa rows lv m i l = -1
  | [], 0, i, _, _ => rfl
  | x :: l, m + 1, i, h, k => by
    have h : Fo (m + ar rows x) (wt rows l) := h
    rw [fa, if_neg (by omega), if_neg (fun z => by rw [k x List.mem_cons_self] at z; cases z.1)]
    exact fa_ok (m := m + 1 - 1 + ar rows x) h fun y hy => k y (List.mem_cons_of_mem _ hy)
theorem kidsN_len (w : List Nat) (i : Nat) : (kidsN w i).length = aw w i := by rw [kidsN, List.length_map, List.length_range]
theorem kidsN_at {w : List Nat} {i k : Nat} (h : k < aw w i) : (kidsN w i)[k]? = some (kd w i k) := by rw [kidsN, List.getElem?_map, List.getElem?_range h]; rfl
theorem Ra.mono {K : PySem.W.Frag} {x : Str} {fs : List (Str × V)} {H H1 : Hp} {E : XK} (h : Ra K x fs H E) (s : Same H H1) : Ra K x fs H1 E := fun d H' s' e => h d H' (s.trans s') e
section
variable {K : PySem.W.Frag} {H : Hp} {v : V} {w : List Nat} {i : Nat}
/-- kids' answer, by its places -/
theorem kids_get (h : Im K H v (dKids w)) : ∃ a ks, v = .ref a ∧ SqT K H a ks ∧ ks.length = w.length ∧ ∀ i, i < w.length → ∃ b, ks[i]? = some (.ref b) ∧ SqT K H b (vN (kidsN w i)) := by
  obtain ⟨a, ks, rfl, h1, h2⟩ := h.tupI
  refine ⟨a, ks, rfl, h1, by rw [h2.len, List.length_map, List.length_range], fun i hi => ?_⟩
  obtain ⟨z, e, iz⟩ := h2.get (i := i) (d := DN (kidsN w i)) (by rw [List.getElem?_map, List.getElem?_range hi]; rfl)
  obtain ⟨b, rfl, t⟩ := iz.natsI
  exact ⟨b, e, t⟩
end
section
variable {P : Program} {w : World} {K : PySem.W.Frag} {mg : Str → Option Value} {base : Heap}
/-! place_of -/
/-! check_plant, check_stump -/
def ckr (tag : Nat → Er) (rows : List Sy.Row) (lv l : List Str) : Option Er := if 2000 < l.length then some .many else if 0 ≤ fa rows lv 1 0 l then some (tag (fa rows lv 1 0 l).toNat) else none
abbrev ckP (rows : List Sy.Row) (l : List Str) : Option Er := ckr .plant rows [] l
abbrev ckS (rows : List Sy.Row) (l : List Str) : Option Er := ckr .stump rows ["*"] l
theorem fa_neg {rows : List Sy.Row} {lv : List Str} : ∀ {l : List Str} {m i : Nat}, fa rows lv m i l < 0 → Fo m (wt rows l) ∧ ∀ x ∈ l, isK rows x = true ∨ x ∈ lv
  | [], m, i, h => by
    rw [fa] at h
    by_cases c : 0 < m
    · rw [if_pos c] at h; omega
    · have : m = 0 := by omega
      subst this
      exact ⟨trivial, fun _ z => (nomatch z)⟩
  | x :: l, m, i, h => by
    rw [fa] at h
    by_cases c : m = 0
    · rw [if_pos c] at h; omega
    · rw [if_neg c] at h
      by_cases d : isK rows x = false ∧ x ∉ lv
      · rw [if_pos d] at h; omega
      · rw [if_neg d] at h
        obtain ⟨h1, h2⟩ := fa_neg h
        obtain ⟨n, rfl⟩ : ∃ n, m = n + 1 := ⟨m - 1, by omega⟩
        refine ⟨h1, fun y hy => ?_⟩
        rcases List.mem_cons.mp hy with rfl | hy
        · by_cases e : isK rows y = true
          · exact .inl e
          · refine .inr (Decidable.byContradiction fun z => d ⟨by simpa using e, z⟩)
        · exact h2 y hy
theorem fa_le {rows : List Sy.Row} {lv : List Str} : ∀ {l : List Str} {m i : Nat}, fa rows lv m i l ≤ ((i + l.length : Nat) : Int)
  | [], m, i => by rw [fa]; split <;> simp <;> omega
  | x :: l, m, i => by
    rw [fa]
    split
    · simp only [List.length_cons]; omega
    · split
      · simp only [List.length_cons]; omega
      · have := fa_le (rows := rows) (lv := lv) (l := l) (m := m - 1 + ar rows x) (i := i + 1)
        simp only [List.length_cons]
        omega
theorem pln_of {rows : List Sy.Row} {l : List Str} (h : ckP rows l = none) : Pln rows l := by
  unfold ckP ckr at h
  split at h
  · cases h
  · split at h
    · cases h
    · obtain ⟨h1, h2⟩ := fa_neg (rows := rows) (lv := []) (l := l) (m := 1) (i := 0) (by omega)
      exact ⟨h1, fun x hx => (h2 x hx).elim id fun z => (nomatch z), by omega⟩
/-- a stump of the bed -/
structure Stm (rows : List Sy.Row) (l : List Str) : Prop where
  fo : Fo 1 (wt rows l)
  kn : ∀ x ∈ l, isK rows x = true ∨ x = "*"
  le : l.length ≤ 2000
theorem stm_of {rows : List Sy.Row} {l : List Str} (h : ckS rows l = none) : Stm rows l := by
  unfold ckS ckr at h
  split at h
  · cases h
  · split at h
    · cases h
    · obtain ⟨h1, h2⟩ := fa_neg (rows := rows) (lv := ["*"]) (l := l) (m := 1) (i := 0) (by omega)
      exact ⟨h1, fun x hx => (h2 x hx).imp id fun z => List.mem_singleton.mp z, by omega⟩
def spCheckE (K : PySem.W.Frag) (ck : List Sy.Row → List Str → Option Er) : Sp := fun vs H Q E => ∃ a r rows l, vs = [.ref a, .ref r] ∧ BedAt K H a rows ∧ SqT K H r (l.map V.str) ∧ (ck rows l = none → ∀ H', Same H H' → Q .non H') ∧ (∀ e, ck rows l = some e → RaE K e H E)
abbrev N_check : List Str := ["bed", "plant", "place"]
theorem im_int {H : Hp} (i : Nat) : ImF K H [("place", V.int (i : Nat))] [("place", .int (i : Nat))] := .cons (.int _) .nil
theorem im_tm {H : Hp} : ImF K H [("limit", .int 2000), ("what", .str "knots")] Er.many.fds := .cons (.int _) (.cons (.str _) .nil)
abbrev N_checkS : List Str := ["bed", "stump", "place"]
theorem sc_checkS : FnScope N_checkS ["bed", "stump"] (defScope (top 26)) := ⟨rfl, rfl, rfl, by decide +kernel, rfl, by decide +kernel, by decide +kernel⟩
theorem k_checkS (T : Txt K mg) (hole : ∃ t, mg "HOLE" = some (.str "*" t)) (R : Ers P K mg) (F : DF K mg "check_stump" 26) (c_check_count : Cal P w K mg base 3 "check_count" ["number"] (spCount K)) (c_fault_among : Cal P w K mg base 2 "fault_among" ["bed", "row", "leaves"] (spFault K)) : Cal P w K mg base 4 "check_stump" ["bed", "stump"] (spCheckE K ckS) := by
  refine cal_of F.1 F.2 sc_checkS (fun _ _ _ _ _ _ us e => match us, e with | [_, _], _ => rfl) (fun vs H Q E s => by obtain ⟨_, _, _, _, rfl, _⟩ := s; rfl) ?_
  intro cdv A outer s H vs Q E hr h
  obtain ⟨a, r, rows, l, rfl, hb, hR, hq, hE⟩ := h
  have sc := sc_checkS
  refine ⟨_, (pss_cons (ps_expr (pe_calX c_check_count hr (takes_of rfl rfl rfl rfl) (pa_cons (pe_callB call_len_seq (by rfl) T.len (by decide +kernel) (pa_cons (pv 1) pa_nil)) pa_nil)))
      (pss_cons (ps_set (i := 2) sc.nd rfl (Or.inl rfl) (pe_cal c_fault_among hr (pa_cons (pv 0) (pa_cons (pv 1) (pa_cons (pe_tup (pa_cons (pe_gstr rfl hole) pa_nil)) pa_nil)))))
      (pss_one (ps_if (pt_cmpR op_ge (pv 2) pe_int (nomark _))
        (pss_one (ps_raise rfl (takes_of rfl rfl rfl rfl) (mk_is R.is hr rfl (pa_cons (pv 2) pa_nil) pass0)))
        pss_nil)))), ?_⟩
  refine ⟨_, rfl, r, _, rfl, .inr hR, _, rfl, fun c => ?_, fun c => (hE .many ?_).ra im_tm⟩
  · rw [List.length_map] at c
    refine ⟨_, rfl, _, rfl, by decide, fun t ht => ?_⟩
    have s1 := up_same (o := .tup [.str "*"]) ht
    refine ⟨a, r, t, rows, l, ["*"], rfl, hb.mono (Stay.of s1), Same.sqt s1 hR, SqT.of upd_same, fun H' s2 => ?_⟩
    refine ⟨_, rfl, _, _, rfl, rfl, _, rfl, if_dec (fun c2 => ?_) (fun c2 => ?_)⟩
    · have c2 : 0 ≤ fa rows ["*"] 1 0 l := c2
      have hle := fa_le (rows := rows) (lv := ["*"]) (l := l) (m := 1) (i := 0)
      obtain ⟨n, en⟩ : ∃ n : Nat, fa rows ["*"] 1 0 l = (n : Nat) := ⟨(fa rows ["*"] 1 0 l).toNat, by omega⟩
      rw [en] at hle ⊢
      refine ⟨_, rfl, mk_ra (fun _ _ => ⟨n, rfl, by omega, rfl⟩) (by show 1 ≤ 1000; decide) (((hE (.stump n) ?_).ra (im_int n)).mono (s1.trans s2))⟩
      unfold ckS ckr
      rw [if_neg (by omega), en, if_pos (by omega)]
      rfl
    · have c2 : ¬ 0 ≤ fa rows ["*"] 1 0 l := c2
      refine hq ?_ _ (s1.trans s2)
      unfold ckS ckr
      rw [if_neg (by omega), if_neg c2]
  · rw [List.length_map] at c
    unfold ckS ckr
    rw [if_pos (by omega)]
/-! plant_key, paths -/
end
end Sy
/-! stumps as trees: plain mathematics -/
namespace Sy
open PySem PySem.Spec PyProof.Rows L2
inductive Tr
  | nd (x : Str) (bs : List Tr)
mutual
def pre : Tr → List Str
  | .nd x bs => x :: pres bs
def pres : List Tr → List Str
  | [] => []
  | t :: ts => pre t ++ pres ts
end
mutual
def okT (rows : List Sy.Row) : Tr → Prop
  | .nd x bs => (isK rows x = true ∨ x = "*") ∧ bs.length = ar rows x ∧ oks rows bs
def oks (rows : List Sy.Row) : List Tr → Prop
  | [] => True
  | t :: ts => okT rows t ∧ oks rows ts
end
theorem pres_app : ∀ ts us : List Tr, pres (ts ++ us) = pres ts ++ pres us
  | [], us => rfl
  | t :: ts, us => by
    show pre t ++ pres (ts ++ us) = (pre t ++ pres ts) ++ pres us
    rw [pres_app ts us, List.append_assoc]
theorem oks_app {rows : List Sy.Row} : ∀ {ts us : List Tr}, oks rows (ts ++ us) ↔ oks rows ts ∧ oks rows us
  | [], us => ⟨fun h => ⟨trivial, h⟩, fun h => h.2⟩
  | t :: ts, us => by
    show okT rows t ∧ oks rows (ts ++ us) ↔ (okT rows t ∧ oks rows ts) ∧ oks rows us
    rw [oks_app, and_assoc]
theorem oks_mem {rows : List Sy.Row} : ∀ {ts : List Tr}, oks rows ts ↔ ∀ t ∈ ts, okT rows t
  | [] => ⟨fun _ _ h => (nomatch h), fun _ => trivial⟩
  | t :: ts => by
    show okT rows t ∧ oks rows ts ↔ _
    rw [oks_mem, List.forall_mem_cons]
/-- a row that is a stump is a tree's -/
theorem trees_of {rows : List Sy.Row} : ∀ {l : List Str} {n : Nat}, Fo n (wt rows l) → (∀ x ∈ l, isK rows x = true ∨ x = "*") → ∃ ts : List Tr, ts.length = n ∧ oks rows ts ∧ pres ts = l
  | [], 0, _, _ => ⟨[], rfl, trivial, rfl⟩
  | [], n + 1, h, _ => h.elim
  | x :: l, 0, h, _ => h.elim
  | x :: l, n + 1, h, hx => by
    have h : Fo (n + ar rows x) (wt rows l) := h
    obtain ⟨ts, h1, h2, h3⟩ := trees_of h fun y hy => hx y (List.mem_cons_of_mem _ hy)
    have e : ts = ts.take (ar rows x) ++ ts.drop (ar rows x) := (List.take_append_drop _ _).symm
    rw [e, oks_app] at h2
    refine ⟨.nd x (ts.take (ar rows x)) :: ts.drop (ar rows x), by rw [List.length_cons, List.length_drop, h1]; omega, ⟨⟨hx x List.mem_cons_self, by rw [List.length_take, h1]; omega, h2.1⟩, h2.2⟩, ?_⟩
    show x :: pres (ts.take (ar rows x)) ++ pres (ts.drop (ar rows x)) = x :: l
    rw [List.cons_append, ← pres_app, ← e, h3]
mutual
theorem fo_pre {rows : List Sy.Row} : ∀ {t : Tr}, okT rows t → Fo 1 (wt rows (pre t))
  | .nd x bs, h => by
    show Fo (0 + ar rows x) (wt rows (pres bs))
    rw [Nat.zero_add, ← h.2.1]
    exact fo_pres h.2.2
theorem fo_pres {rows : List Sy.Row} : ∀ {ts : List Tr}, oks rows ts → Fo ts.length (wt rows (pres ts))
  | [], _ => trivial
  | t :: ts, h => by
    show Fo (ts.length + 1) (wt rows (pre t ++ pres ts))
    rw [show wt rows (pre t ++ pres ts) = wt rows (pre t) ++ wt rows (pres ts) from List.map_append .., Nat.add_comm]
    exact (fo_pre h.1).app (fo_pres h.2)
end
mutual
theorem kn_pre {rows : List Sy.Row} : ∀ {t : Tr}, okT rows t → ∀ x ∈ pre t, isK rows x = true ∨ x = "*"
  | .nd y bs, h, x, hx => by
    rcases List.mem_cons.mp (show x ∈ y :: pres bs from hx) with rfl | hx
    · exact h.1
    · exact kn_pres h.2.2 x hx
theorem kn_pres {rows : List Sy.Row} : ∀ {ts : List Tr}, oks rows ts → ∀ x ∈ pres ts, isK rows x = true ∨ x = "*"
  | t :: ts, h, x, hx => by
    rcases List.mem_append.mp (show x ∈ pre t ++ pres ts from hx) with hx | hx
    · exact kn_pre h.1 x hx
    · exact kn_pres h.2 x hx
end
theorem pre_pos : ∀ t : Tr, 0 < (pre t).length
  | .nd x bs => by show 0 < (x :: pres bs).length; rw [List.length_cons]; omega
theorem len_pres : ∀ ts : List Tr, ts.length ≤ (pres ts).length
  | [] => Nat.le_refl _
  | t :: ts => by
    show ts.length + 1 ≤ (pre t ++ pres ts).length
    have := len_pres ts
    have := pre_pos t
    rw [List.length_append]
    omega
/-- behind a tree -/
theorem drop_en {rows : List Sy.Row} {l : List Str} {i : Nat} {t : Tr} {ts : List Tr} (h : l.drop i = pres (t :: ts)) (ok : okT rows t) : en (wt rows l) i = i + (pre t).length ∧ l.drop (en (wt rows l) i) = pres ts ∧ (l.drop i).take (en (wt rows l) i - i) = pre t := by
  have e1 : (wt rows l).drop i = wt rows (pre t) ++ wt rows (pres ts) := by
    rw [wt, ← List.map_drop, h]
    exact List.map_append ..
  have e2 : en (wt rows l) i = i + (pre t).length := by
    unfold en
    rw [e1, (fo_pre ok).sp_app, wt_len]
  have h : l.drop i = pre t ++ pres ts := h
  refine ⟨e2, ?_, ?_⟩
  · rw [e2, ← List.drop_drop, h, List.drop_left]
  · rw [e2, Nat.add_sub_cancel_left, h, List.take_left]
/-! what stands at a path -/
def tat : List Nat → Tr → Option Str
  | [], .nd x _ => some x
  | k :: p, .nd _ bs => (bs[k]?).bind (tat p)
def kA (t : Tr) (p : List Nat) : Str := (tat p t).getD "*"
theorem tat_nil (x : Str) (bs : List Tr) : tat [] (.nd x bs) = some x := rfl
theorem tat_cons (k : Nat) (p : List Nat) (x : Str) (bs : List Tr) : tat (k :: p) (.nd x bs) = (bs[k]?).bind (tat p) := rfl
/-! common -/
mutual
def com (rows : List Sy.Row) : Tr → Tr → Tr
  | .nd x bs, .nd y cs => if isK rows x = true ∧ x = y then .nd x (comZ rows bs cs) else .nd "*" []
def comZ (rows : List Sy.Row) : List Tr → List Tr → List Tr
  | t :: ts, u :: us => com rows t u :: comZ rows ts us
  | [], _ => []
  | _ :: _, [] => []
end
/-! united -/
mutual
def uni : Tr → Tr → Option Tr
  | .nd x bs, .nd y cs => if x = "*" then some (.nd y cs) else if y = "*" then some (.nd x bs) else if x = y then (uniZ bs cs).map (.nd x) else none
def uniZ : List Tr → List Tr → Option (List Tr)
  | t :: ts, u :: us => (uni t u).bind fun a => (uniZ ts us).map fun b => a :: b
  | [], _ => some []
  | _ :: _, [] => some []
end
/-! parts -/
mutual
def beg : Tr → Tr → Option (List Tr)
  | .nd x bs, .nd y cs => if x = "*" then some [.nd y cs] else if x = y then begZ bs cs else none
def begZ : List Tr → List Tr → Option (List Tr)
  | t :: ts, u :: us => (beg t u).bind fun a => (begZ ts us).map fun b => a ++ b
  | [], _ => some []
  | _ :: _, [] => some []
end
end Sy
/-! what common, united and parts have at each path -/
namespace Sy
open PySem PySem.Spec PyProof.Rows L2
theorem ar_st {rows : List Sy.Row} (h : isK rows "*" = false) : ar rows "*" = 0 := by
  unfold isK at h
  unfold ar
  cases e : rows.lookup ("*" : Str) with
  | none => rfl
  | some n => rw [e] at h; cases h
/-- a hole has nothing below -/
theorem hole_nil {rows : List Sy.Row} (st : isK rows "*" = false) {bs : List Tr} (h : okT rows (.nd "*" bs)) : bs = [] := by
  have := h.2.1
  rw [ar_st st] at this
  exact List.length_eq_zero_iff.mp this
theorem kA_hole (p : List Nat) : kA (.nd "*" []) p = "*" := by
  cases p <;> rfl
theorem tat_hole {p : List Nat} {k : Str} (h : tat p (.nd "*" []) = some k) : p = [] ∧ k = "*" := by
  cases p with
  | nil => exact ⟨rfl, (Option.some.inj h).symm⟩
  | cons a p => cases h
theorem oks_at {rows : List Sy.Row} {ts : List Tr} (h : oks rows ts) {k : Nat} {t : Tr} (e : ts[k]? = some t) : okT rows t := oks_mem.mp h t (List.mem_of_getElem? e)
/-! common -/
theorem comZ_len {rows : List Sy.Row} : ∀ {ts us : List Tr}, ts.length = us.length → (comZ rows ts us).length = ts.length
  | [], [], _ => rfl
  | t :: ts, u :: us, h => by
    rw [comZ, List.length_cons, List.length_cons, comZ_len (by simpa using h)]
theorem comZ_at {rows : List Sy.Row} : ∀ {ts us : List Tr} {k : Nat} {v : Tr}, (comZ rows ts us)[k]? = some v → ∃ t u, ts[k]? = some t ∧ us[k]? = some u ∧ v = com rows t u
  | t :: ts, u :: us, 0, v, h => ⟨t, u, rfl, rfl, (Option.some.inj (by simpa [comZ] using h)).symm⟩
  | t :: ts, u :: us, k + 1, v, h => comZ_at (ts := ts) (us := us) (k := k) (by simpa [comZ] using h)
  | [], _, k, v, h => by simp [comZ] at h
  | _ :: _, [], k, v, h => by simp [comZ] at h
theorem comZ_get {rows : List Sy.Row} : ∀ {ts us : List Tr} {k : Nat} {t u : Tr}, ts[k]? = some t → us[k]? = some u → (comZ rows ts us)[k]? = some (com rows t u)
  | t :: ts, u :: us, 0, _, _, h, g => by cases h; cases g; rfl
  | t :: ts, u :: us, k + 1, _, _, h, g => comZ_get (ts := ts) (us := us) (k := k) (by simpa using h) (by simpa using g)
  | [], _, k, _, _, h, _ => by simp at h
  | _ :: _, [], k, _, _, _, g => by simp at g
mutual
theorem com_ok {rows : List Sy.Row} (st : isK rows "*" = false) : ∀ {t u : Tr}, okT rows t → okT rows u → okT rows (com rows t u)
  | .nd x bs, .nd y cs, h, g => by
    rw [com]
    by_cases c : isK rows x = true ∧ x = y
    · rw [if_pos c]
      obtain ⟨c1, rfl⟩ := c
      have hl : bs.length = cs.length := by rw [h.2.1, g.2.1]
      exact ⟨.inl c1, by rw [comZ_len hl]; exact h.2.1, comZ_ok st h.2.2 g.2.2⟩
    · rw [if_neg c]
      exact ⟨.inr rfl, (ar_st st).symm, trivial⟩
theorem comZ_ok {rows : List Sy.Row} (st : isK rows "*" = false) : ∀ {ts us : List Tr}, oks rows ts → oks rows us → oks rows (comZ rows ts us)
  | [], _, _, _ => trivial
  | _ :: _, [], _, _ => trivial
  | t :: ts, u :: us, h, g => ⟨com_ok st h.1 g.1, comZ_ok st h.2 g.2⟩
end
/-- where it has a kind, both have it -/
theorem com_kind {rows : List Sy.Row} : ∀ {p : List Nat} {t u : Tr} {k : Str}, tat p (com rows t u) = some k → k ≠ "*" → tat p t = some k ∧ tat p u = some k
  | [], .nd x bs, .nd y cs, k, h, hk => by
    rw [com] at h
    by_cases c : isK rows x = true ∧ x = y
    · rw [if_pos c] at h
      rw [← Option.some.inj h, ← c.2]
      exact ⟨rfl, rfl⟩
    · rw [if_neg c] at h
      exact absurd (Option.some.inj h).symm hk
  | a :: p, .nd x bs, .nd y cs, k, h, hk => by
    rw [com] at h
    by_cases c : isK rows x = true ∧ x = y
    · rw [if_pos c, tat_cons] at h
      cases e : (comZ rows bs cs)[a]? with
      | none => rw [e] at h; cases h
      | some v =>
        rw [e] at h
        obtain ⟨t, u, e1, e2, rfl⟩ := comZ_at e
        obtain ⟨g1, g2⟩ := com_kind (p := p) h hk
        rw [tat_cons, tat_cons, e1, e2]
        exact ⟨g1, g2⟩
    · rw [if_neg c] at h
      cases h
/-- where it has a hole, both have an entry, and not the same kind -/
theorem com_hole {rows : List Sy.Row} : ∀ {p : List Nat} {t u : Tr}, okT rows t → okT rows u → tat p (com rows t u) = some ("*" : Str) → ∃ a b, tat p t = some a ∧ tat p u = some b ∧ ¬ (a = b ∧ a ≠ "*")
  | [], .nd x bs, .nd y cs, h, g, e => by
    refine ⟨x, y, rfl, rfl, fun ⟨e1, e2⟩ => ?_⟩
    rw [com] at e
    rcases h.1 with k | k
    · rw [if_pos ⟨k, e1⟩] at e
      exact e2 (Option.some.inj e)
    · exact e2 k
  | a :: p, .nd x bs, .nd y cs, h, g, e => by
    rw [com] at e
    by_cases c : isK rows x = true ∧ x = y
    · rw [if_pos c, tat_cons] at e
      cases e1 : (comZ rows bs cs)[a]? with
      | none => rw [e1] at e; cases e
      | some v =>
        rw [e1] at e
        obtain ⟨t, u, f1, f2, rfl⟩ := comZ_at e1
        obtain ⟨a', b', g1, g2, g3⟩ := com_hole (p := p) (oks_at h.2.2 f1) (oks_at g.2.2 f2) e
        rw [tat_cons, tat_cons, f1, f2]
        exact ⟨a', b', g1, g2, g3⟩
    · rw [if_neg c] at e
      cases e
theorem com_some {rows : List Sy.Row} {p : List Nat} {t u : Tr} {k : Str} (ht : okT rows t) (hu : okT rows u) (h : tat p (com rows t u) = some k) : ∃ a, tat p t = some a := by
  by_cases c : k = "*"
  · subst c
    obtain ⟨a, _, e, _⟩ := com_hole ht hu h
    exact ⟨a, e⟩
  · exact ⟨k, (com_kind h c).1⟩
def comL (rows : List Sy.Row) (t : Tr) (us : List Tr) : Tr := us.foldl (com rows) t
theorem comL_ok {rows : List Sy.Row} (st : isK rows "*" = false) : ∀ {us : List Tr} {t : Tr}, okT rows t → oks rows us → okT rows (comL rows t us)
  | [], t, h, _ => h
  | u :: us, t, h, g => comL_ok st (us := us) (com_ok st h g.1) g.2
theorem comL_some {rows : List Sy.Row} (st : isK rows "*" = false) {p : List Nat} : ∀ {us : List Tr} {t : Tr} {k : Str}, okT rows t → oks rows us → tat p (comL rows t us) = some k → ∃ a, tat p t = some a
  | [], t, k, _, _, h => ⟨k, h⟩
  | u :: us, t, k, h, g, e => by
    obtain ⟨a, ha⟩ := comL_some st (us := us) (com_ok st h g.1) g.2 e
    exact com_some h g.1 ha
theorem comL_kind {rows : List Sy.Row} {p : List Nat} : ∀ {us : List Tr} {t : Tr} {k : Str}, tat p (comL rows t us) = some k → k ≠ "*" → tat p t = some k ∧ ∀ u ∈ us, tat p u = some k
  | [], t, k, h, _ => ⟨h, fun _ h => nomatch h⟩
  | u :: us, t, k, h, hk => by
    obtain ⟨h1, h2⟩ := comL_kind (us := us) (t := com rows t u) h hk
    obtain ⟨h3, h4⟩ := com_kind h1 hk
    refine ⟨h3, fun v hv => ?_⟩
    rcases List.mem_cons.mp hv with rfl | hv
    · exact h4
    · exact h2 v hv
theorem kA_of {t : Tr} {p : List Nat} {k : Str} (h : tat p t = some k) : kA t p = k := by unfold kA; rw [h]; rfl
theorem tat_of {t : Tr} {p : List Nat} (h : kA t p ≠ "*") : tat p t = some (kA t p) := by
  unfold kA at h ⊢
  cases e : tat p t with
  | none => rw [e] at h; exact absurd rfl h
  | some k => rfl
/-- at a hole they do not all have the same kind -/
theorem comL_hole {rows : List Sy.Row} (st : isK rows "*" = false) {p : List Nat} : ∀ {us : List Tr} {t : Tr}, okT rows t → oks rows us → tat p (comL rows t us) = some ("*" : Str) → ¬ (kA t p ≠ "*" ∧ ∀ u ∈ us, kA u p = kA t p)
  | [], t, _, _, h => fun z => z.1 (kA_of h)
  | u :: us, t, h, g, e => fun ⟨z1, z2⟩ => by
    have ok1 := com_ok st h g.1
    have ih := comL_hole st (us := us) ok1 g.2 e
    obtain ⟨k, hk⟩ := comL_some st ok1 g.2 e
    have e1 := tat_of z1
    have eu : kA u p = kA t p := z2 u List.mem_cons_self
    have e2 : tat p u = some (kA t p) := by rw [← eu]; exact tat_of (by rw [eu]; exact z1)
    by_cases c : k = "*"
    · subst c
      obtain ⟨a, b, f1, f2, f3⟩ := com_hole h g.1 hk
      rw [e1] at f1
      rw [e2] at f2
      exact f3 ⟨(Option.some.inj f1).symm.trans (Option.some.inj f2), by rw [← Option.some.inj f1]; exact z1⟩
    · have f1 := (com_kind hk c).1
      rw [e1] at f1
      have ek : kA (com rows t u) p = kA t p := (kA_of hk).trans (Option.some.inj f1).symm
      exact ih ⟨by rw [ek]; exact z1, fun v hv => by rw [ek]; exact z2 v (List.mem_cons_of_mem _ hv)⟩
/-! common is a meet -/
mutual
theorem com_comm {rows : List Sy.Row} : ∀ t u : Tr, com rows t u = com rows u t
  | .nd x bs, .nd y cs => by
    rw [com, com]
    by_cases c : isK rows x = true ∧ x = y
    · obtain ⟨c1, rfl⟩ := c
      rw [if_pos ⟨c1, rfl⟩, if_pos ⟨c1, rfl⟩, comZ_comm bs cs]
    · rw [if_neg c, if_neg fun z => c (by rw [← z.2]; exact ⟨z.1, rfl⟩)]
theorem comZ_comm {rows : List Sy.Row} : ∀ ts us : List Tr, comZ rows ts us = comZ rows us ts
  | [], [] => rfl
  | [], _ :: _ => rfl
  | _ :: _, [] => rfl
  | t :: ts, u :: us => by rw [comZ, comZ, com_comm t u, comZ_comm ts us]
end
mutual
theorem com_assoc {rows : List Sy.Row} (st : isK rows "*" = false) : ∀ t u v : Tr, com rows (com rows t u) v = com rows t (com rows u v)
  | .nd x bs, .nd y cs, .nd z ds => by
    have hs : ∀ (w : Tr), com rows (.nd "*" []) w = .nd "*" [] := fun w => by
      cases w with
      | nd a b => rw [com, if_neg fun q => by rw [st] at q; exact Bool.false_ne_true q.1]
    rw [com, com]
    by_cases c : isK rows x = true ∧ x = y
    · obtain ⟨c1, rfl⟩ := c
      rw [if_pos ⟨c1, rfl⟩]
      by_cases d : x = z
      · subst d
        rw [if_pos ⟨c1, rfl⟩, com, if_pos ⟨c1, rfl⟩, com, if_pos ⟨c1, rfl⟩, comZ_assoc st bs cs ds]
      · rw [if_neg fun q => d q.2, com, if_neg fun q => d q.2, com_comm, hs]
    · rw [if_neg c, hs]
      by_cases d : isK rows y = true ∧ y = z
      · rw [if_pos d, com, if_neg c]
      · rw [if_neg d, com_comm, hs]
theorem comZ_assoc {rows : List Sy.Row} (st : isK rows "*" = false) : ∀ ts us vs : List Tr, comZ rows (comZ rows ts us) vs = comZ rows ts (comZ rows us vs)
  | [], _, _ => rfl
  | _ :: _, [], [] => rfl
  | _ :: _, [], _ :: _ => rfl
  | _ :: _, _ :: _, [] => rfl
  | t :: ts, u :: us, v :: vs => by rw [comZ, comZ, comZ, comZ, com_assoc st t u v, comZ_assoc st ts us vs]
end
mutual
theorem com_self {rows : List Sy.Row} (st : isK rows "*" = false) : ∀ {t : Tr}, okT rows t → com rows t t = t
  | .nd x bs, h => by
    rw [com]
    rcases h.1 with k | k
    · rw [if_pos ⟨k, rfl⟩, comZ_self st h.2.2]
    · subst k
      rw [if_neg fun q => by rw [st] at q; exact Bool.false_ne_true q.1, hole_nil st h]
theorem comZ_self {rows : List Sy.Row} (st : isK rows "*" = false) : ∀ {ts : List Tr}, oks rows ts → comZ rows ts ts = ts
  | [], _ => rfl
  | t :: ts, h => by rw [comZ, com_self st h.1, comZ_self st h.2]
end
theorem comZ_app {rows : List Sy.Row} : ∀ {ts us vs ws : List Tr}, ts.length = us.length → comZ rows (ts ++ vs) (us ++ ws) = comZ rows ts us ++ comZ rows vs ws
  | [], [], vs, ws, _ => rfl
  | t :: ts, u :: us, vs, ws, h => by
    rw [List.cons_append, List.cons_append, comZ, comZ, comZ_app (by simpa using h)]
    rfl
end Sy
/-! united and parts: what they have at each path -/
namespace Sy
open PySem PySem.Spec PyProof.Rows L2
/-! united -/
theorem uniZ_cons {t u : Tr} {ts us vs : List Tr} (h : uniZ (t :: ts) (u :: us) = some vs) : ∃ v ws, uni t u = some v ∧ uniZ ts us = some ws ∧ vs = v :: ws := by
  rw [uniZ] at h
  cases e1 : uni t u with
  | none => rw [e1] at h; cases h
  | some v =>
    cases e2 : uniZ ts us with
    | none => rw [e1, e2] at h; cases h
    | some ws =>
      rw [e1, e2] at h
      exact ⟨v, ws, rfl, rfl, (Option.some.inj h).symm⟩
theorem uniZ_at : ∀ {ts us vs : List Tr} {k : Nat} {t u : Tr}, uniZ ts us = some vs → ts[k]? = some t → us[k]? = some u → ∃ v, vs[k]? = some v ∧ uni t u = some v
  | t :: ts, u :: us, vs, 0, _, _, h, e1, e2 => by
    obtain ⟨v, ws, h1, h2, rfl⟩ := uniZ_cons h
    cases e1
    cases e2
    exact ⟨v, rfl, h1⟩
  | t :: ts, u :: us, vs, k + 1, _, _, h, e1, e2 => by
    obtain ⟨v, ws, h1, h2, rfl⟩ := uniZ_cons h
    exact uniZ_at (k := k) h2 (by simpa using e1) (by simpa using e2)
  | [], _, _, k, _, _, _, e1, _ => by simp at e1
  | _ :: _, [], _, k, _, _, _, _, e2 => by simp at e2
theorem uniZ_len : ∀ {ts us vs : List Tr}, uniZ ts us = some vs → ts.length = us.length → vs.length = ts.length
  | [], [], vs, h, _ => by rw [← Option.some.inj h]
  | t :: ts, u :: us, vs, h, e => by
    obtain ⟨v, ws, h1, h2, rfl⟩ := uniZ_cons h
    rw [List.length_cons, List.length_cons, uniZ_len h2 (by simpa using e)]
theorem uni_nd {x y : Str} {bs cs : List Tr} : uni (.nd x bs) (.nd y cs) = if x = "*" then some (.nd y cs) else if y = "*" then some (.nd x bs) else if x = y then (uniZ bs cs).map (.nd x) else none := by rw [uni]
mutual
theorem uni_ok {rows : List Sy.Row} : ∀ {t u v : Tr}, okT rows t → okT rows u → uni t u = some v → okT rows v
  | .nd x bs, .nd y cs, v, h, g, e => by
    rw [uni_nd] at e
    by_cases c : x = "*"
    · rw [if_pos c] at e
      rw [← Option.some.inj e]
      exact g
    · rw [if_neg c] at e
      by_cases d : y = "*"
      · rw [if_pos d] at e
        rw [← Option.some.inj e]
        exact h
      · rw [if_neg d] at e
        by_cases f : x = y
        · rw [if_pos f] at e
          cases e2 : uniZ bs cs with
          | none => rw [e2] at e; cases e
          | some vs =>
            rw [e2] at e
            rw [← Option.some.inj e]
            have hl : bs.length = cs.length := by rw [h.2.1, g.2.1, f]
            exact ⟨h.1, by rw [uniZ_len e2 hl]; exact h.2.1, uniZ_ok h.2.2 g.2.2 e2⟩
        · rw [if_neg f] at e
          cases e
theorem uniZ_ok {rows : List Sy.Row} : ∀ {ts us vs : List Tr}, oks rows ts → oks rows us → uniZ ts us = some vs → oks rows vs
  | [], _, vs, _, _, e => by
    rw [uniZ] at e
    rw [← Option.some.inj e]
    trivial
  | _ :: _, [], vs, _, _, e => by
    rw [uniZ] at e
    rw [← Option.some.inj e]
    trivial
  | t :: ts, u :: us, vs, h, g, e => by
    obtain ⟨v, ws, h1, h2, rfl⟩ := uniZ_cons e
    exact ⟨uni_ok h.1 g.1 h1, uniZ_ok h.2 g.2 h2⟩
end
mutual
theorem uni_comm {rows : List Sy.Row} (st : isK rows "*" = false) : ∀ {t u : Tr}, okT rows t → okT rows u → uni t u = uni u t
  | .nd x bs, .nd y cs, h, g => by
    rw [uni_nd, uni_nd]
    by_cases c : x = "*"
    · subst c
      by_cases d : y = "*"
      · subst d
        rw [if_pos rfl, if_pos rfl, hole_nil st h, hole_nil st g]
      · rw [if_pos rfl, if_neg d, if_pos rfl]
    · by_cases d : y = "*"
      · rw [if_neg c, if_pos d, if_pos d]
      · rw [if_neg c, if_neg d, if_neg d, if_neg c]
        by_cases f : x = y
        · subst f
          rw [if_pos rfl, if_pos rfl, uniZ_comm st h.2.2 g.2.2]
        · rw [if_neg f, if_neg fun z => f z.symm]
theorem uniZ_comm {rows : List Sy.Row} (st : isK rows "*" = false) : ∀ {ts us : List Tr}, oks rows ts → oks rows us → uniZ ts us = uniZ us ts
  | [], [], _, _ => rfl
  | [], _ :: _, _, _ => rfl
  | _ :: _, [], _, _ => rfl
  | t :: ts, u :: us, h, g => by rw [uniZ, uniZ, uni_comm st h.1 g.1, uniZ_comm st h.2 g.2]
end
theorem kA_cons {x : Str} {bs : List Tr} {k : Nat} {p : List Nat} {b : Tr} (h : bs[k]? = some b) : kA (.nd x bs) (k :: p) = kA b p := by
  unfold kA
  rw [tat_cons, h]
  rfl
theorem kA_out {x : Str} {bs : List Tr} {k : Nat} {p : List Nat} (h : bs[k]? = none) : kA (.nd x bs) (k :: p) = "*" := by
  unfold kA
  rw [tat_cons, h]
  rfl
/-- the union has the one's kind, otherwise the other's -/
theorem uni_at {rows : List Sy.Row} (st : isK rows "*" = false) : ∀ {p : List Nat} {t u v : Tr}, okT rows t → okT rows u → uni t u = some v → kA v p = if kA t p ≠ "*" then kA t p else kA u p
  | p, .nd x bs, .nd y cs, v, h, g, e => by
    rw [uni_nd] at e
    by_cases c : x = "*"
    · subst c
      rw [if_pos rfl] at e
      rw [hole_nil st h, kA_hole, ← Option.some.inj e, if_neg fun z => z rfl]
    · rw [if_neg c] at e
      by_cases d : y = "*"
      · subst d
        rw [if_pos rfl] at e
        rw [hole_nil st g, kA_hole, ← Option.some.inj e]
        by_cases f : kA (.nd x bs) p = "*"
        · rw [if_neg fun z => z f, f]
        · rw [if_pos f]
      · rw [if_neg d] at e
        by_cases f : x = y
        · subst f
          rw [if_pos rfl] at e
          cases e2 : uniZ bs cs with
          | none => rw [e2] at e; cases e
          | some vs =>
            rw [e2] at e
            rw [← Option.some.inj e]
            have hl : bs.length = cs.length := by rw [h.2.1, g.2.1]
            have hv := uniZ_len e2 hl
            cases p with
            | nil => rw [show kA (.nd x bs) [] = x from rfl, if_pos c]; rfl
            | cons k p =>
              cases eb : bs[k]? with
              | none =>
                have hk : bs.length ≤ k := List.getElem?_eq_none_iff.mp eb
                rw [kA_out eb, kA_out (List.getElem?_eq_none (by omega)), if_neg fun z => z rfl, kA_out (List.getElem?_eq_none (by omega))]
              | some t =>
                have hk := (List.getElem?_eq_some_iff.mp eb).1
                have ec : cs[k]? = some cs[k] := List.getElem?_eq_getElem (by omega)
                obtain ⟨v', e3, e4⟩ := uniZ_at e2 eb ec
                rw [kA_cons e3, kA_cons eb, kA_cons ec]
                exact uni_at st (p := p) (oks_at h.2.2 eb) (oks_at g.2.2 ec) e4
        · rw [if_neg f] at e
          cases e
mutual
/-- there is none only if two kinds clash -/
theorem uni_none {rows : List Sy.Row} : ∀ {t u : Tr}, okT rows t → okT rows u → uni t u = none → ∃ p, kA t p ≠ "*" ∧ kA u p ≠ "*" ∧ kA u p ≠ kA t p
  | .nd x bs, .nd y cs, h, g, e => by
    rw [uni_nd] at e
    by_cases c : x = "*"
    · rw [if_pos c] at e
      cases e
    · rw [if_neg c] at e
      by_cases d : y = "*"
      · rw [if_pos d] at e
        cases e
      · rw [if_neg d] at e
        by_cases f : x = y
        · rw [if_pos f] at e
          cases e2 : uniZ bs cs with
          | some vs => rw [e2] at e; cases e
          | none =>
            have hl : bs.length = cs.length := by rw [h.2.1, g.2.1, f]
            obtain ⟨k, t, u, e3, e4, p, h1, h2, h3⟩ := uniZ_none hl h.2.2 g.2.2 e2
            exact ⟨k :: p, by rw [kA_cons e3]; exact h1, by rw [kA_cons e4]; exact h2, by rw [kA_cons e3, kA_cons e4]; exact h3⟩
        · exact ⟨[], c, d, fun z => f z.symm⟩
theorem uniZ_none {rows : List Sy.Row} : ∀ {ts us : List Tr}, ts.length = us.length → oks rows ts → oks rows us → uniZ ts us = none → ∃ (k : Nat) (t u : Tr), ts[k]? = some t ∧ us[k]? = some u ∧ ∃ p, kA t p ≠ "*" ∧ kA u p ≠ "*" ∧ kA u p ≠ kA t p
  | [], [], _, _, _, e => by cases e
  | t :: ts, u :: us, hl, h, g, e => by
    cases e1 : uni t u with
    | none => exact ⟨0, t, u, rfl, rfl, uni_none h.1 g.1 e1⟩
    | some v =>
      cases e2 : uniZ ts us with
      | none =>
        obtain ⟨k, t', u', a1, a2, a3⟩ := uniZ_none (by simpa using hl) h.2 g.2 e2
        exact ⟨k + 1, t', u', by simpa using a1, by simpa using a2, a3⟩
      | some ws =>
        rw [uniZ, e1, e2] at e
        cases e
end
theorem uni_clash {rows : List Sy.Row} (st : isK rows "*" = false) {t u : Tr} (h : okT rows t) (g : okT rows u) : uni t u = none ↔ ∃ p, kA t p ≠ "*" ∧ kA u p ≠ "*" ∧ kA u p ≠ kA t p := by
  refine ⟨uni_none h g, fun ⟨p, h1, h2, h3⟩ => ?_⟩
  cases e : uni t u with
  | none => rfl
  | some v =>
    have e1 := uni_at st (p := p) h g e
    rw [if_pos h1] at e1
    rw [uni_comm st h g] at e
    have e2 := uni_at st (p := p) g h e
    rw [if_pos h2] at e2
    exact absurd (e2.symm.trans e1) h3
/-! parts -/
theorem beg_nd {x y : Str} {bs cs : List Tr} : beg (.nd x bs) (.nd y cs) = if x = "*" then some [.nd y cs] else if x = y then begZ bs cs else none := by rw [beg]
theorem begZ_cons {t u : Tr} {ts us vs : List Tr} (h : begZ (t :: ts) (u :: us) = some vs) : ∃ v ws, beg t u = some v ∧ begZ ts us = some ws ∧ vs = v ++ ws := by
  rw [begZ] at h
  cases e1 : beg t u with
  | none => rw [e1] at h; cases h
  | some v =>
    cases e2 : begZ ts us with
    | none => rw [e1, e2] at h; cases h
    | some ws =>
      rw [e1, e2] at h
      exact ⟨v, ws, rfl, rfl, (Option.some.inj h).symm⟩
mutual
theorem beg_ok {rows : List Sy.Row} : ∀ {t u : Tr} {vs : List Tr}, okT rows u → beg t u = some vs → oks rows vs
  | .nd x bs, .nd y cs, vs, g, e => by
    rw [beg_nd] at e
    by_cases c : x = "*"
    · rw [if_pos c] at e
      rw [← Option.some.inj e]
      exact ⟨g, trivial⟩
    · rw [if_neg c] at e
      by_cases d : x = y
      · rw [if_pos d] at e
        exact begZ_ok g.2.2 e
      · rw [if_neg d] at e
        cases e
theorem begZ_ok {rows : List Sy.Row} : ∀ {ts us vs : List Tr}, oks rows us → begZ ts us = some vs → oks rows vs
  | [], _, vs, _, e => by
    rw [begZ] at e
    rw [← Option.some.inj e]
    trivial
  | _ :: _, [], vs, _, e => by
    rw [begZ] at e
    rw [← Option.some.inj e]
    trivial
  | t :: ts, u :: us, vs, g, e => by
    obtain ⟨v, ws, h1, h2, rfl⟩ := begZ_cons e
    exact oks_app.mpr ⟨beg_ok g.1 h1, begZ_ok g.2 h2⟩
end
mutual
theorem beg_fwd {rows : List Sy.Row} (st : isK rows "*" = false) : ∀ {p : List Nat} {t u : Tr} {vs : List Tr}, okT rows t → okT rows u → beg t u = some vs → kA t p ≠ "*" → kA u p = kA t p
  | p, .nd x bs, .nd y cs, vs, h, g, e, hp => by
    rw [beg_nd] at e
    by_cases c : x = "*"
    · subst c
      rw [hole_nil st h, kA_hole] at hp
      exact absurd rfl hp
    · rw [if_neg c] at e
      by_cases d : x = y
      · rw [if_pos d] at e
        cases p with
        | nil => exact d.symm
        | cons k p =>
          cases eb : bs[k]? with
          | none => rw [kA_out eb] at hp; exact absurd rfl hp
          | some t =>
            have hl : bs.length = cs.length := by rw [h.2.1, g.2.1, d]
            have hk := (List.getElem?_eq_some_iff.mp eb).1
            have ec : cs[k]? = some cs[k] := List.getElem?_eq_getElem (by omega)
            rw [kA_cons eb] at hp ⊢
            rw [kA_cons ec]
            exact begZ_fwd st h.2.2 g.2.2 e eb ec hp
      · rw [if_neg d] at e
        cases e
theorem begZ_fwd {rows : List Sy.Row} (st : isK rows "*" = false) : ∀ {ts us vs : List Tr} {k : Nat} {t u : Tr} {p : List Nat}, oks rows ts → oks rows us → begZ ts us = some vs → ts[k]? = some t → us[k]? = some u → kA t p ≠ "*" → kA u p = kA t p
  | t :: ts, u :: us, vs, 0, _, _, p, h, g, e, e1, e2, hp => by
    obtain ⟨v, ws, h1, h2, rfl⟩ := begZ_cons e
    cases e1
    cases e2
    exact beg_fwd st h.1 g.1 h1 hp
  | t :: ts, u :: us, vs, k + 1, _, _, p, h, g, e, e1, e2, hp => by
    obtain ⟨v, ws, h1, h2, rfl⟩ := begZ_cons e
    exact begZ_fwd st h.2 g.2 h2 (by simpa using e1) (by simpa using e2) hp
  | [], _, _, k, _, _, _, _, _, _, e1, _, _ => by simp at e1
  | _ :: _, [], _, k, _, _, _, _, _, _, _, e2, _ => by simp at e2
end
mutual
theorem beg_bwd {rows : List Sy.Row} : ∀ {t u : Tr}, okT rows t → okT rows u → (∀ p, kA t p ≠ "*" → kA u p = kA t p) → ∃ vs, beg t u = some vs
  | .nd x bs, .nd y cs, h, g, hp => by
    rw [beg_nd]
    by_cases c : x = "*"
    · exact ⟨_, if_pos c⟩
    · rw [if_neg c]
      have e0 : y = x := hp [] c
      rw [if_pos e0.symm]
      have hl : bs.length = cs.length := by rw [h.2.1, g.2.1, e0]
      exact begZ_bwd hl h.2.2 g.2.2 fun k t u e1 e2 p hq => by
        have := hp (k :: p) (by rw [kA_cons e1]; exact hq)
        rw [kA_cons e1, kA_cons e2] at this
        exact this
theorem begZ_bwd {rows : List Sy.Row} : ∀ {ts us : List Tr}, ts.length = us.length → oks rows ts → oks rows us → (∀ (k : Nat) (t u : Tr), ts[k]? = some t → us[k]? = some u → ∀ p, kA t p ≠ "*" → kA u p = kA t p) → ∃ vs, begZ ts us = some vs
  | [], [], _, _, _, _ => ⟨[], rfl⟩
  | t :: ts, u :: us, hl, h, g, hp => by
    obtain ⟨v, e1⟩ := beg_bwd h.1 g.1 (hp 0 t u rfl rfl)
    obtain ⟨ws, e2⟩ := begZ_bwd (by simpa using hl) h.2 g.2 fun k t' u' a1 a2 => hp (k + 1) t' u' (by simpa using a1) (by simpa using a2)
    exact ⟨v ++ ws, by rw [begZ, e1, e2]; rfl⟩
end
theorem beg_iff {rows : List Sy.Row} (st : isK rows "*" = false) {t u : Tr} (h : okT rows t) (g : okT rows u) : (∃ vs, beg t u = some vs) ↔ ∀ p, kA t p ≠ "*" → kA u p = kA t p :=
  ⟨fun ⟨_, e⟩ _ hp => beg_fwd st h g e hp, beg_bwd h g⟩
theorem begZ_app : ∀ {ts us vs ws : List Tr}, ts.length = us.length → begZ (ts ++ vs) (us ++ ws) = (begZ ts us).bind fun a => (begZ vs ws).map fun b => a ++ b
  | [], [], vs, ws, _ => by
    rw [begZ]
    cases h : begZ vs ws <;> simp [h]
  | t :: ts, u :: us, vs, ws, h => by
    rw [List.cons_append, List.cons_append, begZ, begZ, begZ_app (by simpa using h)]
    cases beg t u <;> cases begZ ts us <;> cases begZ vs ws <;> simp
theorem uniZ_app : ∀ {ts us vs ws : List Tr}, ts.length = us.length → uniZ (ts ++ vs) (us ++ ws) = (uniZ ts us).bind fun a => (uniZ vs ws).map fun b => a ++ b
  | [], [], vs, ws, _ => by
    rw [uniZ]
    cases h : uniZ vs ws <;> simp [h]
  | t :: ts, u :: us, vs, ws, h => by
    rw [List.cons_append, List.cons_append, uniZ, uniZ, uniZ_app (by simpa using h)]
    cases uni t u <;> cases uniZ ts us <;> cases uniZ vs ws <;> simp
end Sy
/-! tuples of which it is known that they have no dict: methods of a tuple -/
namespace Sy
open PySem PySem.Spec PyProof.Rows L2
def NoD (H : Hp) (a : Addr) : Prop := ∃ (o : Obj) (u : HO), H a = some (.frz o u) ∧ o.dict = none
/-- a new tuple at p -/
def NewT (H : Hp) (p : Addr) (xs : List V) (H' : Hp) : Prop := H p = none ∧ ∃ o : Obj, o.dict = none ∧ H' = upd H p (.frz o (.tup xs))
theorem NewT.same {H H' : Hp} {p : Addr} {xs : List V} (h : NewT H p xs H') : Same H H' := by
  obtain ⟨h1, o, _, rfl⟩ := h
  exact up_same h1
theorem NewT.sqt {K : PySem.W.Frag} {H H' : Hp} {p : Addr} {xs : List V} (h : NewT H p xs H') : SqT K H' p xs := by
  obtain ⟨h1, o, _, rfl⟩ := h
  exact .inl (.inr ⟨o, upd_same⟩)
theorem NewT.nod {H H' : Hp} {p : Addr} {xs : List V} (h : NewT H p xs H') : NoD H' p := by
  obtain ⟨h1, o, h2, rfl⟩ := h
  exact ⟨o, _, upd_same, h2⟩
theorem NoD.mono {H H' : Hp} {a : Addr} (h : NoD H a) (s : Stay H H') : NoD H' a := by
  obtain ⟨o, u, h1, h2⟩ := h
  exact ⟨o, u, s _ _ h1 (fun _ z => by cases z), h2⟩
section
variable {X : Cx} {es : List Expr} {t : TA} {pos : Pos}
def tTupZ (t : TA) : TE := fun σ H Q => t σ H fun xs H1 => xs.length ≤ sizeLine ∧ ∀ p H', NewT H1 p xs H' → Q (.ref p) H'
theorem pe_tupZ {x1} (h : PA X es t) : PE X (.Tuple es x1 pos) (tTupZ t) := by
  constructor
  intro pins s σ H Q I hq
  refine wpAny_Tuple_spliced (thn (h.run pos pins s σ H _ I hq) fun us s1 ⟨xs, H1, I1, r, z, q⟩ => ⟨by rw [← r.length]; exact z, ?_⟩)
  have hf : H1 s1.heap.objs.size = none := I1.hok.fresh (Nat.le_refl _)
  have hg : (s1.heap.push ({ cls := .type "tuple", data := .seq us.toArray } : Obj)).get? s1.heap.objs.size = some ({ cls := .type "tuple", data := .seq us.toArray } : Obj) := Heap.get?_push_size _ rfl
  refine ⟨.ref s1.heap.objs.size, _, I1.laid (t' := s1.toks) (o := .frz ({ cls := .type "tuple", data := .seq us.toArray } : Obj) (.tup xs)) (fun b u e => Heap.get?_push_of_some _ e) (Nat.le_refl _) ?_, rfl, q _ _ ⟨hf, _, rfl, rfl⟩⟩
  exact ⟨hg, z, us, r, ⟨_, hg, rfl, _, rfl⟩⟩
def rCatZ (K : PySem.W.Frag) : R2 := fun x y H Q => ∃ a b xs ys, x = .ref a ∧ y = .ref b ∧ SqT K H a xs ∧ SqT K H b ys ∧ xs.length + ys.length ≤ sizeLine ∧
  (xs = [] → Q (.ref b) H) ∧ (xs ≠ [] → ys = [] → Q (.ref a) H) ∧ (xs ≠ [] → ys ≠ [] → ∀ p H', NewT H p (xs ++ ys) H' → Q (.ref p) H')
theorem op_catZ : OpR X (binaryOp .Add) (rCatZ X.K) := by
  intro pins s σ H x y v u Q I rx ry h
  obtain ⟨a, b, xs, ys, rfl, rfl, ha, hb, hz, q0, q1, q2⟩ := h
  by_cases hx : xs = []
  · exact op_catA pins s σ H _ _ v u Q I rx ry ⟨a, b, xs, ys, rfl, rfl, ha, hb, hz, q0, q1, fun z => absurd hx z⟩
  cases rx
  cases ry
  obtain ⟨its, r1, p1, _⟩ := I.tuple ha
  obtain ⟨its2, r2, p2, _⟩ := I.tuple hb
  refine HT.cat_tup p1 p2 (fun z => hx (r1.nil_iff.mp z)) (fun z => ⟨.ref a, H, I, rfl, q1 hx (r2.nil_iff.mp z)⟩) (fun z => ?_) (by rw [← r1.length, ← r2.length]; exact hz)
  have hg : (s.heap.push ({ cls := .type "tuple", data := .seq (its ++ its2).toArray } : Obj)).get? s.heap.objs.size = some ({ cls := .type "tuple", data := .seq (its ++ its2).toArray } : Obj) := Heap.get?_push_size _ rfl
  refine ⟨.ref s.heap.objs.size, _, I.laid (t' := s.toks) (o := .frz ({ cls := .type "tuple", data := .seq (its ++ its2).toArray } : Obj) (.tup (xs ++ ys))) (fun b ob q => Heap.get?_push_of_some _ q) (Nat.le_refl _) ?_, rfl,
    q2 hx (fun w => z (r2.nil_iff.mpr w)) _ _ ⟨I.hok.fresh (Nat.le_refl _), _, rfl, rfl⟩⟩
  exact ⟨hg, by rw [List.length_append]; exact hz, _, r1.append r2, ⟨_, hg, rfl, _, rfl⟩⟩
def rTupZ (K : PySem.W.Frag) : List V → Hp → VK → Prop := fun xs H Q => ∃ p ys, xs = [.ref p] ∧ SqL K H p ys ∧ ∀ l H', NewT H l ys H' → Q (.ref l) H'
theorem call_tupZ : CallR X (.type "tuple") (rTupZ X.K) := by
  intro pins s σ H xs us Q I r h
  obtain ⟨p, ys, rfl, hq, q⟩ := h
  obtain ⟨u, rfl, rx⟩ := vals1 r
  cases rx
  obtain ⟨its, r', pl, hz⟩ := I.list hq
  have hlen := r'.length
  refine call_tuple_list pl.isList (fun h' kp => ?_) (by simp only [List.size_toArray]; omega)
  have I1 : Inv X pins σ H { s with heap := h' } := I.kept (t' := s.toks) kp
  have hg : (h'.push ({ cls := .type "tuple", data := .seq its.toArray } : Obj)).get? h'.objs.size = some ({ cls := .type "tuple", data := .seq its.toArray } : Obj) := Heap.get?_push_size _ rfl
  have I2 : Inv X pins σ (upd H h'.objs.size (.frz ({ cls := .type "tuple", data := .seq its.toArray } : Obj) (.tup ys))) { s with heap := h'.push { cls := .type "tuple", data := .seq its.toArray } } :=
    I1.laid (t' := s.toks) (fun b o e => Heap.get?_push_of_some _ e) (Nat.le_refl _) (show ObjOk X.prog X.w _ _ _ (.frz _ (.tup ys)) from ⟨hg, hz, its, r', ⟨_, hg, rfl, _, rfl⟩⟩)
  exact ⟨.ref h'.objs.size, _, I2, rfl, q _ _ ⟨I1.hok.fresh (Nat.le_refl _), _, rfl, rfl⟩⟩
/-! t.m(..) -/
def tBMT (K : PySem.W.Frag) (r : V → List V → Hp → VK → Prop) (to : TE) (t : TA) : TE := fun σ H Q => to σ H fun x H1 => (∃ a xs, x = .ref a ∧ SqT K H1 a xs ∧ NoD H1 a) ∧ t σ H1 fun xs H2 => r x xs H2 Q
variable {o e : Expr} {to : TE} {name : Str} {apos cpos : Pos} {id : String} {r : V → List V → Hp → VK → Prop}
theorem pe_bmT (slot : Slot "tuple" name id) (hty : typeOf (.builtin id) = pure (.type "method_descriptor")) (hm : MtR X id r) (ho : PE X o to) (ha : PA X (e :: es) t)
    (hbase : attributeBase o name X.env (eval o X.env) = eval o X.env := by rfl)
    (hfew : ((backTo cpos (starEach (e :: es) X.env)).all (fun x => !x.1) && (backToKw cpos (keywordEach [] X.env)).all (fun x => x.1.isSome)
      && decide ((e :: es).length + ([] : List Keyword).length + (if ([] : List Keyword).isEmpty then 0 else 1) < 30)) = true := by rfl)
    (hline : (apos.endLine == cpos.line) = true := by rfl) (hs : starEach (e :: es) X.env = (false, eval e X.env) :: starEach es X.env := by rfl) (hplain : (backTo cpos (starEach es X.env)).any (·.1) = false := by rfl) :
    PE X (.Call (.Attribute o name apos) (e :: es) [] cpos) (tBMT X.K r to t) := by
  constructor
  intro pins s σ H Q I h
  refine wpAny_Call_method_late hbase hfew hline rfl (thn (ho.run pins s σ H _ I h) fun v s1 ⟨x, H1, I1, r1, ⟨a, xs, ex, st, ob, u, hf, hd⟩, q1⟩ => ?_)
  subst ex
  cases r1
  obtain ⟨its, _, pt, _⟩ := I1.tuple st
  refine ⟨"tuple", id, PySem.F.plainAttrs_tuple, slot, hty, pt.typeIs, fun b e => ?_, ?_⟩
  · cases e
    exact ⟨ob, (I1.hok _ _ hf).1, hd⟩
  · have hA := ha.run cpos pins s1 σ H1 _ I1 q1
    rw [hs] at hA ⊢
    refine Calls.callWith_builtin (by show (false || (backTo cpos (starEach es X.env)).any (·.1)) = false; rw [hplain]; rfl) (Calls.evalArgs_plain ?_)
    exact thn hA fun us s2 ⟨vs, H2, I2, r2, q2⟩ => hm pins s2 σ H2 (.ref a) vs _ us Q I2 rfl r2 q2
end
end Sy
namespace Sy
open PySem PySem.Spec PyProof.Rows L2
def brn (w : List Nat) (l : List Str) (i : Nat) : List Str := (l.drop i).take (en w i - i)
section
variable {P : Program} {w : World} {K : PySem.W.Frag} {mg : Str → Option Value} {base : Heap}
/-! height -/
/-! counted -/
theorem eqV_strs (x y : Str) : eqV (V.str x) (V.str y) = (x == y) := by
  show (x == y) = _
  rfl
theorem countP_strs (y : Str) (l : List Str) : (l.map V.str).countP (fun z => eqV z (V.str y)) = l.count y := by
  rw [List.countP_map, List.count]
  congr 1
theorem all_strs (l : List Str) : (l.map V.str).all flatV = true := by
  rw [List.all_map, List.all_eq_true]
  intro x _
  rfl
/-! branches_of -/
/-! branch_at, replaced -/
end
end Sy
namespace Sy
open PySem PySem.Spec PyProof.Rows L2
/-- a dict comprehension over any walk -/
theorem dc_it {J : It} {n : Nat} {G : Hp → Prop} {Y : Nat → Hp → V → Hp → Prop} (w : Walk J n G Y) {g : TG} {tt : TT} {tk tv : TE} {vs : List Nat} {σ : L2.St} {H1 : Hp} {D : Addr} {Qd : Hp → Prop} (Pv : Nat → Hp → Prop) (h0 : Pv 0 (upd H1 D (.dK []))) (hG : ∀ i H, i ≤ n → Pv i H → G H)
    (hs : ∀ i x H H', i < n → Pv i H → Y i H x H' → g x (wipe σ vs) H' fun σ2 H2 => wipe σ2 vs = wipe σ vs ∧ tt σ2 H2 fun b H3 =>
      if b = true then tk σ2 H3 fun y H4 => tv σ2 H4 fun z H5 => ∃ kvs k, y = kV k ∧ H5 D = some (.dK kvs) ∧ kvs.length < sizeLine ∧ Pv (i + 1) (upd H5 D (.dK (putK kvs k z))) else Pv (i + 1) H3) (hd : ∀ H, Pv n H → Qd H) :
    ∃ W : Nat → Nat → Hp → Prop, (∃ m, W 0 m (upd H1 D (.dK []))) ∧ ∀ i m H, W i m H →
      (J.stop i H ∧ Qd H) ∨ (J.go i H ∧ ∃ Nx : Hp → Prop, (∀ H', Nx H' → ∃ m', m' < m ∧ W (i + 1) m' H') ∧ ∀ x H', J.yld i H x H' → g x (wipe σ vs) H' fun σ2 H2 => wipe σ2 vs = wipe σ vs ∧ tt σ2 H2 fun b H3 =>
        if b = true then tk σ2 H3 fun y H4 => tv σ2 H4 fun z H5 => ∃ kvs k, y = kV k ∧ H5 D = some (.dK kvs) ∧ kvs.length < sizeLine ∧ Nx (upd H5 D (.dK (putK kvs k z))) else Nx H3) := by
  refine ⟨fun i m H => i + m = n ∧ Pv i H, ⟨n, Nat.zero_add n, h0⟩, fun i m H ⟨e, p⟩ => ?_⟩
  have q := hG i H (by omega) p
  cases m with
  | zero =>
    obtain rfl : i = n := by omega
    exact .inl ⟨w.stops H q, hd H p⟩
  | succ m =>
    exact .inr ⟨w.goes i H (by omega) q, Pv (i + 1), fun H' p' => ⟨m, Nat.lt_succ_self m, by omega, p'⟩, fun x H' y => hs i x H H' (by omega) p (w.yields i H x H' (by omega) q y)⟩
theorem paired_at {α β : Type} {R : α → β → Prop} : ∀ {xs : List α} {ys : List β} {i : Nat} {y : β}, Paired R xs ys → ys[i]? = some y → ∃ x, xs[i]? = some x ∧ R x y
  | _, _, i, y, .nil, h => by simp at h
  | _, _, 0, y, .cons a _, h => by
    simp at h
    subst h
    exact ⟨_, rfl, a⟩
  | _, _, i + 1, y, .cons _ b, h => by
    obtain ⟨x, h1, h2⟩ := paired_at (i := i) b (by simpa using h)
    exact ⟨x, by simpa using h1, h2⟩
theorem paired_len {α β : Type} {R : α → β → Prop} : ∀ {xs : List α} {ys : List β}, Paired R xs ys → xs.length = ys.length
  | _, _, .nil => rfl
  | _, _, .cons _ b => by rw [List.length_cons, List.length_cons, paired_len b]
def nameOk (x : Str) : Bool := decide (x.length ≤ 8) && (Txt.isascii x && (Txt.isalpha x && Txt.islower x))
def leafs (rows : List Sy.Row) : List Str := (rows.filter fun r => decide (r.2 = 0)).map (·.1)
/-- rows of which a bed is made -/
structure RowsOk (rows : List Sy.Row) : Prop where
  nm : ∀ r ∈ rows, nameOk r.1 = true
  br : ∀ r ∈ rows, r.2 ≤ 3
  nd : (rows.map (·.1)).Nodup
  lf : ∃ r ∈ rows, r.2 = 0
  le : rows.length ≤ 8
theorem lookup_none {rows : List Sy.Row} {x : Str} (h : ∀ r ∈ rows, r.1 ≠ x) : rows.lookup x = none := by
  induction rows with
  | nil => rfl
  | cons r rs ih =>
    rw [lookup_cons, if_neg (h r List.mem_cons_self)]
    exact ih fun q hq => h q (List.mem_cons_of_mem _ hq)
theorem nodup_take {rows : List Sy.Row} (nd : (rows.map (·.1)).Nodup) {i : Nat} {r : Sy.Row} (h : rows[i]? = some r) : ∀ q ∈ rows.take i, q.1 ≠ r.1 := by
  intro q hq e
  obtain ⟨j, hj, ej⟩ := List.mem_iff_getElem.mp hq
  rw [List.length_take] at hj
  rw [List.getElem_take] at ej
  obtain ⟨hi, er⟩ := List.getElem?_eq_some_iff.mp h
  have hlt : j < rows.length := by omega
  have := List.pairwise_iff_getElem.mp nd j i (by rw [List.length_map]; omega) (by rw [List.length_map]; omega) (by omega)
  rw [List.getElem_map, List.getElem_map, ej, er] at this
  exact this e
section
variable {P : Program} {w : World} {K : PySem.W.Frag} {mg : Str → Option Value} {base : Heap}
/-! only_letters, is_name -/
def spLetters : Sp := fun vs H Q _ => ∃ x : Str, vs = [.str x] ∧ Q (.bl (Txt.isascii x && (Txt.isalpha x && Txt.islower x))) H
theorem sc_letters : FnScope ["text"] ["text"] (defScope (top 37)) := ⟨rfl, rfl, rfl, by decide +kernel, rfl, by decide +kernel, by decide +kernel⟩
theorem k_letters (F : DF K mg "only_letters" 37) : Cal P w K mg base 1 "only_letters" ["text"] spLetters := by
  refine cal_of F.1 F.2 sc_letters (fun _ _ _ _ _ _ us e => match us, e with | [_], _ => rfl) (fun vs H Q E s => by obtain ⟨_, rfl, _⟩ := s; rfl) ?_
  intro cdv A outer s H vs Q E hr h
  obtain ⟨x, rfl, hq⟩ := h
  refine ⟨_, (pss_one (ps_ret (pe_and (pe_bm0 PySem.F.plainAttrs_str PySem.F.slot_str_isascii PySem.F.type_str_isascii mt_isascii (pv 0)) (pe_and (pe_bm0 PySem.F.plainAttrs_str PySem.F.slot_str_isalpha PySem.F.type_str_isalpha mt_isalpha (pv 0)) (pe_one (pe_bm0 PySem.F.plainAttrs_str PySem.F.slot_str_islower PySem.F.type_str_islower mt_islower (pv 0))))))), ?_⟩
  refine ⟨_, rfl, rfl, x, rfl, rfl, trivial, _, rfl, if_bool (fun c1 => ?_) (fun c1 => ?_)⟩
  · rw [c1] at hq
    refine ⟨_, rfl, rfl, x, rfl, rfl, trivial, _, rfl, if_bool (fun c2 => ?_) (fun c2 => ?_)⟩
    · rw [c2] at hq
      exact ⟨_, rfl, rfl, x, rfl, rfl, trivial, hq⟩
    · rw [c2] at hq
      exact hq
  · rw [c1] at hq
    exact hq
def spName : Sp := fun vs H Q _ => ∃ x : Str, vs = [.str x] ∧ x.length ≤ 1000000 ∧ Q (.bl (nameOk x)) H
theorem sc_name : FnScope ["text"] ["text"] (defScope (top 38)) := ⟨rfl, rfl, rfl, by decide +kernel, rfl, by decide +kernel, by decide +kernel⟩
theorem k_name (T : Txt K mg) (F : DF K mg "is_name" 38) (c_only_letters : Cal P w K mg base 1 "only_letters" ["text"] spLetters) : Cal P w K mg base 2 "is_name" ["text"] spName := by
  refine cal_of F.1 F.2 sc_name (fun _ _ _ _ _ _ us e => match us, e with | [_], _ => rfl) (fun vs H Q E s => by obtain ⟨_, rfl, _⟩ := s; rfl) ?_
  intro cdv A outer s H vs Q E hr h
  obtain ⟨x, rfl, hx, hq⟩ := h
  refine ⟨_, (pss_one (ps_ret (pe_and (pe_cmpR op_le (pe_callB call_len_str (by rfl) T.len (by decide +kernel) (pa_cons (pv 0) pa_nil)) (pe_gint rfl T.LONGEST_NAME) (nomark _)) (pe_one (pe_cal c_only_letters hr (pa_cons (pv 0) pa_nil)))))), ?_⟩
  have e8 : decide ((x.length : Int) ≤ 8) = decide (x.length ≤ 8) := by
    by_cases h : x.length ≤ 8
    · rw [decide_eq_true h, decide_eq_true (by omega)]
    · rw [decide_eq_false h, decide_eq_false (by omega)]
  unfold nameOk at hq
  rw [← e8] at hq
  refine ⟨_, rfl, x, rfl, by rw [sizeLine_eq]; omega, _, _, rfl, rfl, _, rfl, if_bool (fun c1 => ?_) (fun c1 => ?_)⟩
  · rw [c1] at hq
    exact ⟨_, rfl, x, rfl, hq⟩
  · rw [c1] at hq
    exact hq
/-! methods of Bed -/
structure MB (K : PySem.W.Frag) (m q : Str) (st : Stmt) : Prop where
  me : Meth K (He.ga K "Bed") m (He.ma K (He.ga K "Bed") m)
  fn : ∃ fd, FunD K m q (defArgs st) (defBody st) (defScope st) [] [] (He.ma K (He.ga K "Bed") m) fd
structure CalM (P : Program) (w : World) (K : PySem.W.Frag) (mg : Str → Option Value) (base : Heap) (k : Nat) (m : Str) (ps : List Str) (sp : Sp) : Prop where
  me : Meth K (He.ga K "Bed") m (He.ma K (He.ga K "Bed") m)
  fn : ∃ fd, FnOk P w K mg base (L2.CX P w) k (He.ma K (He.ga K "Bed") m) fd ps sp ∧ Binds K fd ps []
theorem calM_of {m q : Str} {st : Stmt} {N ps : List Str} {k : Nat} {sp : Sp} (F : MB K m q st) (S : FnScope N ps (defScope st))
    (hb : ∀ (kV doc pm : Value) (an : Option Addr) (cdv ct : Value) (us : List Value), us.length = ps.length → bindArgs (PySem.W.fnOf m q (defArgs st) (defBody st) (defScope st) .none kV doc pm an cdv ct) ⟨us, []⟩ = pure (ps.zip us))
    (len : ∀ vs H Q E, sp vs H Q E → vs.length = ps.length)
    (body : ∀ (cdv : Value) (A : Around) (outer : List Env) (s : Shared) (H : Hp) (vs : List V) (Q : VK) (E : XK), Room k (A.deeper (envOfC q (defScope st) s.heap.objs.size (He.ma K (He.ga K "Bed") m) cdv)) → sp vs H Q E →
      ∃ t, PSs (cxOf (L2.CX P w) P w K mg base N q (defScope st) (He.ma K (He.ga K "Bed") m) cdv A outer s H E) (defBody st) t ∧ t { nx := fun _ H' => Q .non H', rt := Q } (start N vs) H) : CalM P w K mg base (k + 1) m ps sp := by
  obtain ⟨me, fd, F⟩ := F
  exact ⟨me, fd, F.ok S len body, F.bindsN hb⟩
abbrev WdB (x : Str) : Prop := x.length ≤ 100 ∧ ∀ c ∈ x.cps.toList, c < 16 ^ 8
def spBranches (K : PySem.W.Frag) : Sp := fun vs H Q E => ∃ (a : Addr) (rows : List Sy.Row) (x : Str), vs = [.ref a, .str x] ∧ BedAt K H a rows ∧ WdB x ∧ (isK rows x = true → Q (.int (ar rows x : Nat)) H) ∧ (isK rows x = false → RaE K (.kind x) H E)
theorem sc_branches : FnScope ["self", "kind"] ["self", "kind"] (defScope (clb 39 4)) := ⟨rfl, rfl, rfl, by decide +kernel, rfl, by decide +kernel, by decide +kernel⟩
theorem k_branches (T : Txt K mg) (R : Ers P K mg) (F : MB K "branches" "Bed.branches" (clb 39 4)) : CalM P w K mg base 3 "branches" ["self", "kind"] (spBranches K) := by
  refine calM_of F sc_branches (fun _ _ _ _ _ _ us e => match us, e with | [_, _], _ => rfl) (fun vs H Q E s => by obtain ⟨_, _, _, rfl, _⟩ := s; rfl) ?_
  intro cdv A outer s H vs Q E hr h
  obtain ⟨a, rows, x, rfl, hb, hx, hq, hE⟩ := h
  have hu := hu_of hr
  obtain ⟨dx, dA, tR, tK, dR, ps, h1, hd, h3, h4, h5, h6⟩ := hb.ex
  refine ⟨_, (pss_cons (ps_if (pt_cmp (pc_dnotin hu (pv 1) (pe_fld (pv 0) rfl)))
        (pss_one (ps_raise rfl (takes_of rfl rfl rfl rfl) (mk_uk R.uk hr rfl (pa_cons (pv 1) pa_nil) pass0)))
        pss_nil)
      (pss_one (ps_ret (pe_dget hu (pe_fld (pv 0) rfl) (pv 1) (fun _ _ => rfl))))), ?_⟩
  refine ⟨_, rfl, _, rfl, a, _, dx, _, _, rfl, h1, T.bed.cl, T.bed.nA, rfl, dA, _, rfl, DGet.k (k := Sum.inr x) hd, _, rfl, ?_⟩
  cases e : rows.lookup x with
  | none =>
    have hv : valV (arKV rows) (Sum.inr x : Key) = none := by rw [valV_ar, e]; rfl
    rw [hv]
    refine iteT ⟨_, rfl, mk_ra (fun _ _ => ⟨x, rfl, hx, rfl⟩) (by show 1 ≤ 1000; decide) ((hE (by unfold isK; rw [e]; rfl)).ra (.cons (.str _) .nil))⟩
  | some n =>
    have hv : valV (arKV rows) (Sum.inr x : Key) = some (.int (n : Nat)) := by rw [valV_ar, e]; rfl
    rw [hv]
    refine iteF ⟨_, rfl, a, _, dx, _, _, rfl, h1, T.bed.cl, T.bed.nA, rfl, _, rfl, dA, .int (n : Nat), rfl, ?_, ?_⟩
    · rw [← hv]
      exact DGet.k (k := Sum.inr x) hd
    · have q := hq (by unfold isK; rw [e]; rfl)
      have : ar rows x = n := by unfold ar; rw [e]; rfl
      rw [this] at q
      exact q
def spLeaves (K : PySem.W.Frag) : Sp := fun vs H Q _ => ∃ (a : Addr) (rows : List Sy.Row), vs = [.ref a] ∧ BedAt K H a rows ∧ rows.length ≤ 1000 ∧ ∀ H' p, Same H H' → SqT K H' p ((leafs rows).map V.str) → Q (.ref p) H'
abbrev N_leaves : List Str := ["self", "name", "branches"]
theorem sc_leaves : FnScope N_leaves ["self"] (defScope (clb 39 3)) := ⟨rfl, rfl, rfl, by decide +kernel, rfl, by decide +kernel, by decide +kernel⟩
theorem k_leaves (T : Txt K mg) (F : MB K "leaves" "Bed.leaves" (clb 39 3)) : CalM P w K mg base 1 "leaves" ["self"] (spLeaves K) := by
  refine calM_of F sc_leaves (fun _ _ _ _ _ _ us e => match us, e with | [_], _ => rfl) (fun vs H Q E s => by obtain ⟨_, _, rfl, _⟩ := s; rfl) ?_
  intro cdv A outer s H vs Q E hr h
  obtain ⟨a, rows, rfl, hb, hl, hq⟩ := h
  have sc := sc_leaves
  obtain ⟨dx, dA, tR, tK, dR, ps, h1, hd, h3, h4, h5, h6⟩ := hb.ex
  have hpl := paired_len h6
  refine ⟨_, (pss_one (ps_ret (pe_callTy call_tuple_of (by rfl) T.tuple (by decide +kernel) (pa_cons (pe_lc (own := [("name", 1), ("branches", 2)]) (g := gTup K 2 (gCons (gName 1) (gCons (gName 2) (gNil)))) rfl sc.nd (pi_tup (pe_fld (pv 0) rfl)) (blkOk_by (N := N_leaves) (sc := defScope (clb 39 3)) (by decide +kernel)) (fun _ _ _ _ _ => (pg_tup rfl (pgs_cons (pg_name (i := 1) sc.nd rfl (Or.inl rfl)) (pgs_cons (pg_name (i := 2) sc.nd rfl (Or.inl rfl)) pgs_nil)))) (fun _ _ _ _ _ => (pts_one (pt_cmpR op_eq (pv 2) pe_int (nomark _)))) (fun _ _ _ _ _ => (pv 1))) pa_nil)))), ?_⟩
  refine ⟨_, rfl, a, _, dx, _, _, rfl, h1, T.bed.cl, T.bed.nR, rfl, tR, rfl, ⟨_, h4⟩, fun D hD => lc_it walk_tup (fun i H' => Hs H [(D, .lst ((leafs (rows.take i)).map V.str))] H') ((Hs.start H).new hD) (fun _ _ _ p => Same.sqt p.sub h4) ?_ ?_⟩
  · rintro i x H' _ hi hh ⟨rfl, hx⟩
    rw [List.length_map, hpl] at hi
    obtain ⟨r, hr'⟩ : ∃ r, rows[i]? = some r := ⟨_, List.getElem?_eq_getElem hi⟩
    obtain ⟨q, e1, tq⟩ := paired_at h6 hr'
    rw [List.getElem?_map, e1] at hx
    cases hx
    have etk : rows.take (i + 1) = rows.take i ++ [r] := by rw [List.take_succ, hr']; rfl
    have ll : (leafs (rows.take i)).length ≤ 1000 := by
      unfold leafs
      rw [List.length_map]
      have := List.length_filter_le (fun r : Sy.Row => decide (r.2 = 0)) (rows.take i)
      rw [List.length_take] at this
      omega
    refine ⟨q, _, rfl, Same.sqt hh.sub tq, rfl, _, _, rfl, _, _, rfl, rfl, rfl, _, rfl, rfl, _, rfl, if_dec (fun c => ?_) (fun c => ?_)⟩
    · refine ⟨_, rfl, _, hh.r0, by rw [List.length_map, sizeLine_eq]; omega, ?_⟩
      have c2 : r.2 = 0 := by
        have := V.int.inj c
        omega
      have : leafs (rows.take (i + 1)) = leafs (rows.take i) ++ [r.1] := by
        unfold leafs
        rw [etk, List.filter_append, List.map_append]
        simp [c2]
      rw [this, List.map_append]
      exact hh.w0
    · have c2 : ¬ r.2 = 0 := fun z => c (by rw [z]; rfl)
      have : leafs (rows.take (i + 1)) = leafs (rows.take i) := by
        unfold leafs
        rw [etk, List.filter_append, List.map_append]
        simp [c2]
      rw [this]
      exact hh
  · intro H' hh
    rw [List.length_map, hpl, List.take_length] at hh
    exact ⟨D, _, rfl, .inl ⟨SqL.of hh.r0, fun l hl => hq _ _ (hh.sub.trans (up_same hl)) (SqT.of upd_same)⟩⟩
end
end Sy
namespace Sy
open PySem PySem.Spec PyProof.Rows L2
section
variable {P : Program} {w : World} {K : PySem.W.Frag} {mg : Str → Option Value} {base : Heap}
/-- what a def with a star asks, by what its body asks -/
def spStar (n : Nat) (sp : Sp) : Sp := fun vs H Q E => ∃ ws rest, vs = ws ++ rest ∧ ws.length = n ∧ rest.length ≤ sizeLine ∧ ∀ p, H p = Option.none → sp (ws ++ [V.ref p]) (upd H p (.tup rest)) Q E
theorem fnR_of {x q pv : Str} {st : Stmt} {f : Addr} {fd : FuncData} {N ps : List Str} {k : Nat} {sp : Sp} (F : FunD K x q (defArgs st) (defBody st) (defScope st) [] [] f fd) (S : FnScope N (ps ++ [pv]) (defScope st))
    (hb : ∀ (kV doc pm : Value) (an : Option Addr) (cdv ct : Value) (us rest : List Value), us.length = ps.length → bindArgs (PySem.W.fnOf x q (defArgs st) (defBody st) (defScope st) .none kV doc pm an cdv ct) ⟨us ++ rest, []⟩ = (newTuple rest >>= fun t => pure (ps.zip us ++ [(pv, t)])))
    (body : ∀ (cdv : Value) (A : Around) (outer : List Env) (s : Shared) (H : Hp) (vs : List V) (Q : VK) (E : XK), Room k (A.deeper (envOfC q (defScope st) s.heap.objs.size f cdv)) → sp vs H Q E →
      ∃ t, PSs (cxOf (L2.CX P w) P w K mg base N q (defScope st) f cdv A outer s H E) (defBody st) t ∧ t { nx := fun _ H' => Q .non H', rt := Q } (start N vs) H) : FnR P w K mg base (L2.CX P w) (k + 1) f (spStar ps.length sp) := by
  obtain ⟨oc, od, dV, kV, doc, pm, an, cdv, ct, osl, rfl, lk, hcd, hD, hK⟩ := F.ex
  rcases hD with ⟨_, rfl⟩ | ⟨e, _⟩
  · exact StX.fn_star lk hcd S StX.cxUp (hb kV doc pm an cdv ct) fun A outer s H vs Q E hr h => body cdv A outer s H vs Q E hr h
  · exact absurd rfl e
/-! Bed.__init__ -/
def spInitB (K : PySem.W.Frag) : Sp := fun vs H Q _ => ∃ (x p dx : Addr) (ps : List Addr) (rows : List Sy.Row), vs = [.ref x, .ref p] ∧ H x = some (.ins (He.ga K "Bed") dx []) ∧ SqT K H p (ps.map V.ref) ∧ Paired (fun q (r : Sy.Row) => SqT K H q [.str r.1, .int (r.2 : Nat)]) ps rows ∧ RowsOk rows ∧
  ∀ H', (∀ a o, a ≠ x → H a = some o → H' a = some o) → BedAt K H' x rows → Q .non H'
abbrev N_init : List Str := ["self", "kinds", "place", "name", "branches", "rank"]
theorem sc_init : FnScope N_init ((["self"] : List Str) ++ (["kinds"] : List Str)) (defScope (clb 39 0)) := ⟨rfl, rfl, rfl, by decide +kernel, rfl, by decide +kernel, by decide +kernel⟩
theorem sqt_del {H : Hp} {x p C dx : Addr} {fs : List (Str × V)} {xs : List V} (h : SqT K H p xs) (hx : H x = some (.ins C dx fs)) : SqT K (L2.del H x) p xs := by
  have ne : ∀ o, H p = some o → (∀ C dx fs, o ≠ .ins C dx fs) → p ≠ x := fun o e n z => by
    rw [z, hx] at e
    exact n _ _ _ (Option.some.inj e).symm
  rcases h with (h | ⟨o, h⟩) | h
  · exact .inl (.inl (by rw [del_ne (ne _ h fun _ _ _ z => by cases z)]; exact h))
  · exact .inl (.inr ⟨o, by rw [del_ne (ne _ h fun _ _ _ z => by cases z)]; exact h⟩)
  · exact .inr h
theorem nx_le (x : Str) (h : nameOk x = true) : x.length ≤ 8 := by
  unfold nameOk at h
  exact of_decide_eq_true (Bool.and_eq_true_iff.mp h).1
theorem rkKV_snoc : ∀ (l : List Sy.Row) (n : Nat) (r : Sy.Row), rkKV n (l ++ [r]) = rkKV n l ++ [(Sum.inr r.1, V.int ((n + l.length : Nat) : Int))]
  | [], n, r => rfl
  | q :: l, n, r => by
    show (Sum.inr q.1, V.int (n : Nat)) :: rkKV (n + 1) (l ++ [r]) = _
    rw [rkKV_snoc l (n + 1) r, show n + 1 + l.length = n + (q :: l).length by rw [List.length_cons]; omega]
    rfl
theorem rkKV_len : ∀ (l : List Sy.Row) (n : Nat), (rkKV n l).length = l.length
  | [], _ => rfl
  | q :: l, n => by
    show (rkKV (n + 1) l).length + 1 = _
    rw [rkKV_len l (n + 1)]
    rfl
theorem rk_none : ∀ {l : List Sy.Row} {n : Nat} {x : Str}, (∀ q ∈ l, q.1 ≠ x) → rk n l x = none
  | [], _, _, _ => rfl
  | q :: l, n, x, h => by
    rw [rk, if_neg (h q List.mem_cons_self)]
    exact rk_none fun z hz => h z (List.mem_cons_of_mem _ hz)
theorem leafs_pos {rows : List Sy.Row} (h : ∃ r ∈ rows, r.2 = 0) : 0 < (leafs rows).length := by
  obtain ⟨r, hr, e⟩ := h
  unfold leafs
  rw [List.length_map]
  exact List.length_pos_of_mem (List.mem_filter.mpr ⟨hr, decide_eq_true e⟩)
theorem r_init (T : Txt K mg) (F : MB K "__init__" "Bed.__init__" (clb 39 0)) (c_is_name : Cal P w K mg base 2 "is_name" ["text"] spName) (c_leaves : CalM P w K mg base 1 "leaves" ["self"] (spLeaves K)) :
    FnR P w K mg base (L2.CX P w) 3 (He.ma K (He.ga K "Bed") "__init__") (spStar 1 (spInitB K)) := by
  obtain ⟨me, fd, F⟩ := F
  obtain ⟨mL, fL, FL, BL⟩ := c_leaves
  refine fnR_of (ps := ["self"]) F sc_init (fun kV doc pm an cdv ct => StX.bind_star1 (B := fun l => bindArgs (PySem.W.fnOf "__init__" "Bed.__init__" (defArgs (clb 39 0)) (defBody (clb 39 0)) (defScope (clb 39 0)) .none kV doc pm an cdv ct) ⟨l, []⟩) (fun _ => rfl) (fun _ _ _ => rfl)) ?_
  intro cdv A outer s H vs Q E hr h
  obtain ⟨x, p, dx, ps, rows, rfl, hx, hp, hpr, ok, hq⟩ := h
  have hu := hu_of hr
  have sc := sc_init
  refine ⟨_, (pss_cons (ps_if (pt_cmpR op_gt (pe_callB call_len_seq (by rfl) T.len (by decide +kernel) (pa_cons (pv 1) pa_nil)) (pe_gint rfl T.MOST_KINDS) (nomark _))
        (pss_one ps_never)
        pss_nil)
      (pss_cons (ps_fld (pv 0) pe_dnewK rfl)
      (pss_cons (ps_for (passes_of rfl) rfl (pi_enumT (by rfl) T.enumerate (pa_cons (pv 1) pa_nil)) (pg_tup rfl (pgs_cons (pg_name (i := 2) sc.nd rfl (Or.inl rfl)) (pgs_cons (pg_tup rfl (pgs_cons (pg_name (i := 3) sc.nd rfl (Or.inl rfl)) (pgs_cons (pg_name (i := 4) sc.nd rfl (Or.inl rfl)) pgs_nil))) pgs_nil)))
        (pss_cons (ps_if (pt_not (pt_val (pe_cal c_is_name hr (pa_cons (pv 3) pa_nil))))
          (pss_one ps_never)
          pss_nil)
        (pss_cons (ps_if (PW.pt (pw_or (pt_cmpR op_lt (pv 4) pe_int (nomark _)) (pw_or1 (pt_cmpR op_gt (pv 4) (pe_gint rfl T.MOST_BRANCHES) (nomark _)))))
          (pss_one ps_never)
          pss_nil)
        (pss_cons (ps_if (pt_cmp (pc_din hu (pv 3) (pe_fld (pv 0) rfl)))
          (pss_one ps_never)
          pss_nil)
        (pss_one (ps_dput hu (pe_fld (pv 0) rfl) (pv 3) (pv 4) rfl))))))
      (pss_cons (ps_fld (pv 0) (pe_callTy call_tuple_of (by rfl) T.tuple (by decide +kernel) (pa_cons (pv 1) pa_nil)) rfl)
      (pss_cons (ps_fld (pv 0) (pe_callTy call_tuple_of (by rfl) T.tuple (by decide +kernel) (pa_cons (pe_lc (own := [("name", 3), ("branches", 4)]) (g := gTup K 2 (gCons (gName 3) (gCons (gName 4) (gNil)))) rfl sc.nd (pi_tup (pv 1)) (blkOk_by (N := N_init) (sc := defScope (clb 39 0)) (by decide +kernel)) (fun _ _ _ _ _ => (pg_tup rfl (pgs_cons (pg_name (i := 3) sc.nd rfl (Or.inl rfl)) (pgs_cons (pg_name (i := 4) sc.nd rfl (Or.inl rfl)) pgs_nil)))) (fun _ _ _ _ _ => pts_nil) (fun _ _ _ _ _ => (pv 3))) pa_nil)) rfl)
      (pss_cons (ps_fld (pv 0) (pe_dc (own := [("rank", 5), ("name", 3)]) (g := gTup K 2 (gCons (gName 5) (gCons (gName 3) (gNil)))) rfl sc.nd (pi_enumT (by rfl) T.enumerate (pa_cons (pe_fld (pv 0) rfl) pa_nil)) (blkOk_by (N := N_init) (sc := defScope (clb 39 0)) (by decide +kernel)) (fun _ _ _ _ _ => (pg_tup rfl (pgs_cons (pg_name (i := 5) sc.nd rfl (Or.inl rfl)) (pgs_cons (pg_name (i := 3) sc.nd rfl (Or.inl rfl)) pgs_nil)))) (fun _ _ _ _ _ => pts_nil) (fun _ _ _ _ _ => (pv 3)) (fun _ _ _ _ _ => (pv 5))) rfl)
      (pss_one (ps_if (pt_cmpR op_eq (pe_callB call_len_seq (by rfl) T.len (by decide +kernel) (pa_cons (pe_meth0 (pv 0) T.bed.cl mL FL (hr.mono (by decide)) BL .nil (E := E0) (fun pins σ H s e s' I h => passL pins σ H s e s' I h)) pa_nil)) pe_int (nomark _))
        (pss_one ps_never)
        pss_nil)))))))), ?_⟩
  have hpl := paired_len hpr
  have hle := ok.le
  -- known for good: all but the new object
  have k0 : Hs (L2.del H x) [(x, .ins (He.ga K "Bed") dx [])] H := (Hs.start H).take hx
  have hp0 := sqt_del hp hx
  have hpr0 : Paired (fun q (r : Sy.Row) => SqT K (L2.del H x) q [.str r.1, .int (r.2 : Nat)]) ps rows := Paired.mapP hpr fun _ _ z => sqt_del z hx
  generalize hB : L2.del H x = B at *
  refine ⟨_, rfl, p, _, rfl, .inr hp, _, _, rfl, rfl, _, rfl, ?_⟩
  rw [List.length_map, hpl, decide_eq_false (by omega)]
  refine iteF fun d hd => ?_
  have k1 := k0.new (o := .dK []) hd
  refine ⟨_, rfl, x, _, dx, _, rfl, k1.r1, T.bed.cl, T.bed.nA, by decide, ?_⟩
  have k2 := k1.w1 (o' := .ins (He.ga K "Bed") dx (putF "arities" (.ref d) []))
  refine ⟨_, rfl, p, _, rfl, Same.sqt k2.sub hp0, for_it walkE (fun i σ H' => ∃ t2 t3 t4, σ = [some (.ref x), some (.ref p), t2, t3, t4, none] ∧ Hs B [(d, .dK (arKV (rows.take i))), (x, .ins (He.ga K "Bed") dx [("arities", .ref d)])] H') ⟨none, none, none, rfl, k2⟩ (fun _ _ _ _ ⟨_, _, _, _, z⟩ => Same.sqt z.sub hp0) ?_ ?_⟩
  · rintro i v σ H1 H2 hi ⟨t2, t3, t4, rfl, hh⟩ ⟨T1, u1, u2, rfl, hT, rfl, e1, e2⟩
    cases e1
    rw [List.length_map, hpl] at hi
    obtain ⟨r, hr'⟩ : ∃ r, rows[i]? = some r := ⟨_, List.getElem?_eq_getElem hi⟩
    obtain ⟨q, eq, tq⟩ := paired_at hpr0 hr'
    have e2 : (ps.map V.ref)[i]? = some u2 := e2
    rw [List.getElem?_map, eq] at e2
    cases e2
    have hm := List.mem_of_getElem? hr'
    have hh := hh.lay (o := .tup [.int (i : Nat), .ref q]) hT
    have hnone : ∀ z ∈ rows.take i, z.1 ≠ r.1 := nodup_take ok.nd hr'
    have vn : valV (arKV (rows.take i)) (Sum.inr r.1 : Key) = none := by rw [valV_ar, lookup_none hnone]; rfl
    have hbr := ok.br r hm
    have hnm := ok.nm r hm
    have etk : rows.take (i + 1) = rows.take i ++ [r] := by rw [List.take_succ, hr']; rfl
    refine ⟨T1, _, rfl, SqT.of upd_same, rfl, _, _, rfl, _, _, rfl, q, _, rfl, Same.sqt hh.sub tq, rfl, _, _, rfl, _, _, rfl, rfl, rfl, ?_⟩
    refine ⟨_, rfl, r.1, rfl, Nat.le_trans (nx_le _ hnm) (by decide), _, rfl, ?_⟩
    rw [hnm]
    refine iteF ⟨_, rfl, _, _, rfl, rfl, _, rfl, ?_⟩
    rw [decide_eq_false (by omega)]
    refine iteF ⟨_, rfl, _, _, rfl, rfl, _, rfl, ?_⟩
    rw [decide_eq_false (by omega)]
    refine iteF ⟨_, rfl, _, rfl, x, _, dx, _, _, rfl, hh.r1, T.bed.cl, T.bed.nA, rfl, d, _, rfl, DGet.k (k := Sum.inr r.1) hh.r0, _, rfl, ?_⟩
    rw [vn]
    refine iteF ⟨_, rfl, _, rfl, x, _, dx, _, _, rfl, hh.r1, T.bed.cl, T.bed.nA, rfl, _, rfl, d, _, rfl, DPut.k (k := Sum.inr r.1) hh.r0 (by unfold arKV; rw [List.length_map, List.length_take, sizeLine_eq]; omega), ?_⟩
    refine ⟨_, _, _, rfl, ?_⟩
    rw [putK_new _ vn, etk]
    unfold arKV
    rw [List.map_append]
    exact hh.w0
  · rintro σ H1 ⟨t2, t3, t4, rfl, hh⟩
    rw [List.length_map, hpl, List.take_length] at hh
    -- rows
    refine ⟨_, rfl, p, _, rfl, .inr ⟨Same.sqt hh.sub hp0, ?_⟩⟩
    refine ⟨_, rfl, x, _, dx, _, rfl, hh.r1, T.bed.cl, T.bed.nR, (by show 1 < 1000; decide), ?_⟩
    have k3 := hh.w1 (o' := .ins (He.ga K "Bed") dx [("arities", .ref d), ("rows", .ref p)])
    -- kinds
    refine ⟨_, rfl, p, rfl, ⟨_, Same.sqt k3.sub hp0⟩, fun D hD => lc_it walk_tup (fun i H' => Hs B [(D, .lst ((rows.take i).map fun r => V.str r.1)), (d, .dK (arKV rows)), (x, .ins (He.ga K "Bed") dx [("arities", .ref d), ("rows", .ref p)])] H') (k3.new hD) (fun _ _ _ z => Same.sqt z.sub hp0) ?_ ?_⟩
    · rintro i v H1 _ hi hh ⟨rfl, hv⟩
      rw [List.length_map, hpl] at hi
      obtain ⟨r, hr'⟩ : ∃ r, rows[i]? = some r := ⟨_, List.getElem?_eq_getElem hi⟩
      obtain ⟨q, eq, tq⟩ := paired_at hpr0 hr'
      rw [List.getElem?_map, eq] at hv
      cases hv
      refine ⟨q, _, rfl, Same.sqt hh.sub tq, rfl, _, _, rfl, _, _, rfl, rfl, rfl, ?_⟩
      simp only [tYes, if_true]
      refine ⟨_, rfl, _, hh.r0, by rw [List.length_map, List.length_take, sizeLine_eq]; omega, ?_⟩
      rw [List.take_succ, hr', List.map_append]
      exact hh.w0
    intro H2 hh
    rw [List.length_map, hpl, List.take_length] at hh
    refine ⟨D, _, rfl, .inl ⟨SqL.of hh.r0, fun tK hK => ?_⟩⟩
    have k4 := (hh.drop).new (o := .tup (rows.map fun r => V.str r.1)) hK
    refine ⟨_, rfl, x, _, dx, _, rfl, k4.r2, T.bed.cl, T.bed.nK, (by show 2 < 1000; decide), ?_⟩
    have k5 := k4.w2 (o' := .ins (He.ga K "Bed") dx [("arities", .ref d), ("rows", .ref p), ("kinds", .ref tK)])
    -- ranks
    refine ⟨_, rfl, x, _, dx, _, _, rfl, k5.r2, T.bed.cl, T.bed.nK, rfl, tK, _, rfl, SqT.of k5.r0, fun R hR => dc_it walkE (fun i H' => Hs B [(R, .dK (rkKV 0 (rows.take i))), (tK, .tup (rows.map fun r => V.str r.1)), (d, .dK (arKV rows)), (x, .ins (He.ga K "Bed") dx [("arities", .ref d), ("rows", .ref p), ("kinds", .ref tK)])] H') (k5.new hR) (fun _ _ _ z => SqT.of z.r1) ?_ ?_⟩
    · rintro i v H1 H2 hi hh ⟨T1, u1, u2, rfl, hT, rfl, e1, e2⟩
      cases e1
      rw [List.length_map] at hi
      obtain ⟨r, hr'⟩ : ∃ r, rows[i]? = some r := ⟨_, List.getElem?_eq_getElem hi⟩
      have e2 : (rows.map fun r => V.str r.1)[i]? = some u2 := e2
      rw [List.getElem?_map, hr'] at e2
      cases e2
      have hh := hh.lay (o := .tup [.int (i : Nat), .str r.1]) hT
      have vn : valV (rkKV 0 (rows.take i)) (Sum.inr r.1 : Key) = none := by rw [valV_rk, rk_none (nodup_take ok.nd hr')]; rfl
      refine ⟨T1, _, rfl, SqT.of upd_same, rfl, _, _, rfl, _, _, rfl, rfl, rfl, ?_⟩
      simp only [tYes, if_true]
      refine ⟨_, rfl, _, rfl, _, Sum.inr r.1, rfl, hh.r0, by rw [rkKV_len, List.length_take, sizeLine_eq]; omega, ?_⟩
      rw [putK_new _ vn, List.take_succ, hr']
      show Hs B [(R, .dK (rkKV 0 (rows.take i ++ [r]))), _, _, _] _
      rw [rkKV_snoc, List.length_take, show 0 + min i rows.length = i by omega]
      exact hh.w0
    intro H3 hh
    rw [List.length_map, List.take_length] at hh
    refine ⟨_, rfl, x, _, dx, _, rfl, hh.r3, T.bed.cl, T.bed.nRk, (by show 3 < 1000; decide), ?_⟩
    generalize hH4 : upd H3 x (.ins (He.ga K "Bed") dx (putF "ranks" (.ref R) [("arities", .ref d), ("rows", .ref p), ("kinds", .ref tK)])) = H4
    have hx4 : H4 x = some (.ins (He.ga K "Bed") dx (bedF d p tK R)) := by rw [← hH4]; exact upd_same
    have nx : ∀ a o, a ≠ x → H3 a = some o → H4 a = some o := fun a o n e => by rw [← hH4, upd_ne n]; exact e
    have sB : Same B H4 := fun a o e => nx a o (fun z => by rw [z, ← hB, del_same] at e; cases e) (hh.sub a o e)
    have nK : tK ≠ x := ne_of hh.r1 hh.r3 (by intro z; cases z)
    have nd : d ≠ x := ne_of hh.r2 hh.r3 (by intro z; cases z)
    have nR : R ≠ x := ne_of hh.r0 hh.r3 (by intro z; cases z)
    have bed : BedAt K H4 x rows := ⟨dx, d, p, tK, R, ps, hx4, nx _ _ nd hh.r2, nx _ _ nR hh.r0, Same.sqt sB hp0, SqT.of (nx _ _ nK hh.r1), Paired.mapP hpr0 fun _ _ z => Same.sqt sB z⟩
    refine ⟨_, rfl, x, dx, _, rfl, hx4, rfl, x, rows, rfl, bed, by omega, fun H5 t s5 ht => ?_⟩
    refine ⟨t, _, rfl, .inr ht, rfl, _, rfl, ?_⟩
    have := leafs_pos ok.lf
    rw [List.length_map, decide_eq_false (fun z => by have := V.int.inj z; omega)]
    refine iteF (hq _ (fun a o n e => ?_) (bed.mono (Stay.of s5)))
    refine s5 _ _ (sB _ _ ?_)
    rw [← hB, del_ne n]
    exact e
end
end Sy
namespace Sy
open PySem PySem.Spec PyProof.Rows L2
section
variable {P : Program} {w : World} {K : PySem.W.Frag} {mg : Str → Option Value} {base : Heap}
structure CalR (P : Program) (w : World) (K : PySem.W.Frag) (mg : Str → Option Value) (base : Heap) (k : Nat) (x : Str) (sp : Sp) : Prop where
  fn : FnR P w K mg base (L2.CX P w) k (He.ga K x) sp
  at_ : mg x = some (.ref (He.ga K x))
  kp : PySem.W.keepIn K (.ref (He.ga K x)) = true
/-- f(..), f with a star -/
theorem pe_calR {X : Cx} {k j : Nat} {x : Str} {sp : Sp} {p pos : Pos} {e : Expr} {es : List Expr} {t : TA} {E : XK} (c : CalR X.prog X.w X.K X.mg X.base j x sp) (hr : Room k X.A) (tk : Takes X (fun cls d _ H => E cls d H)) (ha : PA X (e :: es) t) (hk : j ≤ k := by decide) (hg : Gl X x := by rfl) (hdb : (x == ("__debug__" : Str)) = false := by decide)
    (he : starEach (e :: es) X.env = (false, eval e X.env) :: starEach es X.env := by rfl) (hpl : (backTo pos (starEach es X.env)).any (·.1) = false := by rfl) : PE X (.Call (.Name x p) (e :: es) [] pos) (fun σ H Q => t σ H fun vs H1 => sp vs H1 Q E) := by
  constructor
  intro pins s σ H Q I h
  refine wpAny_Call_Name_kw (ld_glob I hg c.at_ ?_ hdb)
  refine PySem.W.callWith_K (h₀ := X.base) I.ok.mod.kin c.kp (thn (ha.run pos pins s σ H _ I h) fun us s1 ⟨vs, H1, I1, r, q⟩ => ⟨I1.kIn, ?_⟩) he hpl
  exact wpAny_call (run_fnR c.fn (hr.mono hk) (fun pins σ H s e s' I h => passAt tk σ pins H s e s' I h) I1 r q)
/-- a bed is made -/
theorem pe_bed {X : Cx} {k : Nat} {p pos : Pos} {e : Expr} {es : List Expr} {t : TA} (M : Mk X.K (He.ga X.K "Bed") (He.ma X.K (He.ga X.K "Bed") "__init__")) (at_ : X.mg "Bed" = some (.ref (He.ga X.K "Bed")))
    (F : FnR X.prog X.w X.K X.mg X.base (L2.CX X.prog X.w) 3 (He.ma X.K (He.ga X.K "Bed") "__init__") (spStar 1 (spInitB X.K))) (hr : Room k X.A) (ha : PA X (e :: es) t) (hk : 4 ≤ k := by decide) (hg : Gl X "Bed" := by rfl)
    (he : starEach (e :: es) X.env = (false, eval e X.env) :: starEach es X.env := by rfl) (hpl : (backTo pos (starEach es X.env)).any (·.1) = false := by rfl) : PE X (.Call (.Name "Bed" p) (e :: es) [] pos) (StX.tMakeR (He.ga X.K "Bed") (spStar 1 (spInitB X.K)) E0 t) :=
  StX.pe_makeR M F (hr.mono hk) hg at_ (fun pins σ H s e s' I h => passL pins σ H s e s' I h) ha (by decide) he hpl
/-- what making it asks -/
theorem bed_of {vs : List V} {H : Hp} {Q : VK} {ps : List Addr} {rows : List Sy.Row} (ev : vs = ps.map V.ref) (hp : Paired (fun q (r : Sy.Row) => SqT K H q [.str r.1, .int (r.2 : Nat)]) ps rows) (ok : RowsOk rows) (h : ∀ H' a, Same H H' → BedAt K H' a rows → Q (.ref a) H') :
    ∀ x dx, H x = Option.none → H dx = Option.none → dx ≠ x → spStar 1 (spInitB K) (V.ref x :: vs) (upd (upd H dx (.own x)) x (.ins (He.ga K "Bed") dx [])) (fun v H2 => v = .non ∧ Q (.ref x) H2) E0 := by
  intro x dx hx hdx ne
  subst ev
  have hpl := paired_len hp
  have hle := ok.le
  have s1 : Same H (upd H dx (.own x)) := up_same hdx
  have hx1 : (upd H dx (.own x)) x = none := by rw [upd_ne ne.symm]; exact hx
  have s2 : Same H (upd (upd H dx (.own x)) x (.ins (He.ga K "Bed") dx [])) := s1.trans (up_same hx1)
  refine ⟨[.ref x], ps.map V.ref, rfl, rfl, by rw [List.length_map, sizeLine_eq]; omega, fun p hp' => ?_⟩
  have s3 := s2.trans (up_same (o := .tup (ps.map V.ref)) hp')
  have nx : x ≠ p := fun z => by rw [← z, upd_same] at hp'; cases hp'
  refine ⟨x, p, dx, ps, rows, rfl, by rw [upd_ne nx]; exact upd_same, SqT.of upd_same, Paired.mapP hp fun _ _ z => Same.sqt s3 z, ok, fun H' keep bed => ⟨rfl, h H' x (fun b o e => keep b o (fun z => ?_) (s3 _ _ e)) bed⟩⟩
  rw [z, hx] at e
  cases e
/-! planted -/
/-- first invalid piece -/
def fstE (ck : List Str → Option Er) : List (List Str) → Option Er
  | [] => none
  | l :: ls => match ck l with
    | some e => some e
    | none => fstE ck ls
theorem fstE_at {ck : List Str → Option Er} {e : Er} {l : List Str} : ∀ {ls : List (List Str)} {i : Nat}, (∀ z ∈ ls.take i, ck z = none) → ls[i]? = some l → ck l = some e → fstE ck ls = some e
  | [], _, _, h, _ => by simp at h
  | z :: zs, 0, _, h, c => by
    simp at h
    subst h
    rw [fstE, c]
  | z :: zs, i + 1, a, h, c => by
    rw [fstE, a z (by simp)]
    exact fstE_at (i := i) (fun y hy => a y (by simp [hy])) (by simpa using h) c
theorem fstE_none {ck : List Str → Option Er} : ∀ {ls : List (List Str)}, (∀ z ∈ ls, ck z = none) → fstE ck ls = none
  | [], _ => rfl
  | z :: zs, h => by
    rw [fstE, h z List.mem_cons_self]
    exact fstE_none fun y hy => h y (List.mem_cons_of_mem _ hy)
theorem flat_le {m : Nat} : ∀ {ls : List (List Str)}, (∀ l ∈ ls, l.length ≤ m) → ls.flatten.length ≤ m * ls.length
  | [], _ => Nat.zero_le _
  | l :: ls, h => by
    have a := h l List.mem_cons_self
    have b := flat_le fun z hz => h z (List.mem_cons_of_mem l hz)
    rw [List.flatten_cons, List.length_append, List.length_cons, Nat.mul_succ]
    omega
theorem ar_le {rows : List Sy.Row} {m : Nat} (h : ∀ r ∈ rows, r.2 ≤ m) (x : Str) : ar rows x ≤ m := by
  unfold ar
  induction rows with
  | nil => exact Nat.zero_le _
  | cons r rs ih =>
    rw [lookup_cons]
    split
    · exact h r List.mem_cons_self
    · exact ih fun z hz => h z (List.mem_cons_of_mem _ hz)
end
end Sy
namespace Sy
open PySem PySem.Spec PyProof.Rows L2
structure TxtS (mg : Str → Option Value) : Prop where
  hole : ∃ t, mg "HOLE" = some (.str "*" t)
  zip : mg "zip" = none
  sum : mg "sum" = none
  str : mg "str" = none
theorem ixN_last (n : Nat) : ixN (n + 1) (-1) = some n := by
  unfold ixN
  rw [if_neg (by omega), if_pos (by omega)]
  congr 1
  omega
theorem atI_last {α : Type} (xs : List α) (y : α) : atI (xs ++ [y]) (-1) = some y := by
  unfold atI
  rw [List.length_append]
  show ((ixN (xs.length + 1) (-1)).bind _) = _
  rw [ixN_last]
  simp
section
variable {P : Program} {w : World} {K : PySem.W.Frag} {mg : Str → Option Value} {base : Heap}
/-! stump_key -/
def spKeyS (K : PySem.W.Frag) : Sp := fun vs H Q E => ∃ (a r : Addr) (rows : List Sy.Row) (l : List Str), vs = [.ref a, .ref r] ∧ BedAt K H a rows ∧ SqT K H r (l.map V.str) ∧ (ckS rows l = none → ∀ H' v, Same H H' → Im K H' v (.tuple [.int (l.length : Nat), DN (l.map (rkD rows))]) → Q v H') ∧ (∀ e, ckS rows l = some e → RaE K e H E)
theorem sc_keyS : FnScope ["bed", "stump"] ["bed", "stump"] (defScope (top 27)) := ⟨rfl, rfl, rfl, by decide +kernel, rfl, by decide +kernel, by decide +kernel⟩
theorem k_keyS (T : Txt K mg) (F : DF K mg "stump_key" 27) (c_check_stump : Cal P w K mg base 4 "check_stump" ["bed", "stump"] (spCheckE K ckS)) (c_row_key : Cal P w K mg base 2 "row_key" ["bed", "row"] (spKey K)) : Cal P w K mg base 5 "stump_key" ["bed", "stump"] (spKeyS K) := by
  refine cal_of F.1 F.2 sc_keyS (fun _ _ _ _ _ _ us e => match us, e with | [_, _], _ => rfl) (fun vs H Q E s => by obtain ⟨_, _, _, _, rfl, _⟩ := s; rfl) ?_
  intro cdv A outer s H vs Q E hr h
  obtain ⟨a, r, rows, l, rfl, hb, hR, hq, hE⟩ := h
  refine ⟨_, (pss_cons (ps_expr (pe_calX c_check_stump hr (takes_of rfl rfl rfl rfl) (pa_cons (pv 0) (pa_cons (pv 1) pa_nil))))
      (pss_one (ps_ret (pe_cal c_row_key hr (pa_cons (pv 0) (pa_cons (pv 1) pa_nil)))))), ?_⟩
  exact ⟨_, rfl, _, rfl, a, r, rows, l, rfl, hb, hR, fun ck H1 s1 => ⟨_, rfl, _, rfl, a, r, rows, l, rfl, hb.mono (Stay.of s1), Same.sqt s1 hR, (stm_of ck).le, fun H2 v s2 hv => hq ck _ v (s1.trans s2) hv⟩, hE⟩
/-! joined_text -/
theorem sum_le {m : Nat} : ∀ {ws : List Str}, (∀ x ∈ ws, x.length ≤ m) → (ws.map (·.length)).sum ≤ m * ws.length
  | [], _ => Nat.zero_le _
  | x :: ws, h => by
    have a := h x List.mem_cons_self
    have b := sum_le fun z hz => h z (List.mem_cons_of_mem x hz)
    rw [List.map_cons, List.sum_cons, List.length_cons, Nat.mul_succ]
    omega
theorem vN_snoc (ms : List Nat) (m : Nat) : vN (ms ++ [m]) = vN ms ++ [.int (m : Nat)] := by rw [vN, vN, List.map_append]; rfl
end
end Sy
/-! zip of a list and a tuple of one length (own rule) -/
namespace Sy
open PySem PySem.Spec PyProof.Rows L2
def ItM (K : PySem.W.Frag) (a b : Addr) : It :=
  ⟨fun i H => ∃ (xs ys : List V) (x y : V), SqL K H a xs ∧ SqT K H b ys ∧ xs[i]? = some x ∧ ys[i]? = some y,
   fun i H v H' => ∃ T x y, v = .ref T ∧ H T = none ∧ H' = upd H T (.tup [x, y]) ∧ (∀ xs, SqL K H a xs → xs[i]? = some x) ∧ ∀ ys, SqT K H b ys → ys[i]? = some y,
   fun i H => ∃ xs ys : List V, SqL K H a xs ∧ SqT K H b ys ∧ xs.length = i ∧ ys.length = i⟩
theorem turnM {P : Program} {w : World} {K : PySem.W.Frag} {elts : List Expr} {kk : Nat} {tpos : Pos} {a b z TI TO i1 i2 : Addr} (D : ZipSep2 z TI TO i1 i2 [i1, a] [i2, b]) :
    Turn P w K (.Tuple elts kk tpos) (ItM K a b) [z, TI, TO, i1, i2] z (fun i h => IsZip h z TI TO .none ∧ IsTupOf2 h TI (.ref i1) (.ref i2) ∧ (∃ x y, IsTupOf2 h TO x y) ∧ h.IsListIter i1 a i ∧ h.IsTupleIter i2 b i ∧ a ≠ i1 ∧ b ≠ i2) where
  mem := by simp
  obj := fun i h st c hc => by
    obtain ⟨hz, hTI, ⟨x, y, hTO⟩, ⟨o1, e1, _, d1⟩, ⟨o2, e2, _, d2⟩, _⟩ := st
    rcases (show c = z ∨ c = TI ∨ c = TO ∨ c = i1 ∨ c = i2 by simpa using hc) with q | q | q | q | q <;> subst q
    · exact ⟨_, hz, fun v q => nomatch q⟩
    · exact ⟨_, hTI, fun v q => nomatch q⟩
    · exact ⟨_, hTO, fun v q => nomatch q⟩
    · exact ⟨o1, e1, fun v q => by rw [d1] at q; cases q⟩
    · exact ⟨o2, e2, fun v q => by rw [d2] at q; cases q⟩
  keep := fun i h h' st k => by
    obtain ⟨hz, hTI, ⟨x, y, hTO⟩, h1, h2, n⟩ := st
    exact ⟨k z (by simp) _ hz, k TI (by simp) _ hTI, ⟨x, y, k TO (by simp) _ hTO⟩, h1.at fun o q => k i1 (by simp) o q, h2.at fun o q => k i2 (by simp) o q, n⟩
  item := by
    intro X hP hw hK hc i pins s σ H E I hf st hg
    subst hP hw hK
    obtain ⟨hz, hTI, ⟨x0, y0, hTO⟩, h1, h2, na, nb⟩ := st
    obtain ⟨xs, ys, x, y, hqx, hqy, hx, hy⟩ := hg
    obtain ⟨its, rv, p, _⟩ := I.list hqx
    obtain ⟨its2, rv2, p2, _⟩ := I.tuple hqy
    obtain ⟨u, hu, ru⟩ := rv.get hx
    obtain ⟨u2, hu2, ru2⟩ := rv2.get hy
    have D1 := Draws.list (prog := X.prog) (w := X.w) (A := X.A.in1) (by have q := I.ok.hd hc; exact q) i1 a na its.toArray
    have D2 := Draws.tuple (prog := X.prog) (w := X.w) (A := X.A.in1) (by have q := I.ok.hd hc; exact q) i2 b nb its2.toArray
    have l1 : i < its.toArray.size := by rw [List.size_toArray]; exact (List.getElem?_eq_some_iff.mp hu).1
    have l2 : i < its2.toArray.size := by rw [List.size_toArray]; exact (List.getElem?_eq_some_iff.mp hu2).1
    have hzl : z < s.heap.objs.size := Heap.lt_size hz
    have hTIl : TI < s.heap.objs.size := Heap.lt_size hTI
    have hTOl : TO < s.heap.objs.size := Heap.lt_size hTO
    have h1l : i1 < s.heap.objs.size := by obtain ⟨_, q, _⟩ := h1; exact Heap.lt_size q
    have h2l : i2 < s.heap.objs.size := by obtain ⟨_, q, _⟩ := h2; exact Heap.lt_size q
    refine wpAny_pyNext_zipD2_item D D1 D2 hz hTI hTO ⟨h1, p.isList⟩ ⟨h2, p2⟩ l1 l2 fun v1 v2 h' tk e1 e2 hz' hTO' st1 st2 hT hsz hk => ?_
    have ev1 : v1 = u := by
      have q : its.toArray[i]? = some u := by simpa using hu
      exact Option.some.inj (e1.symm.trans q)
    have ev2 : v2 = u2 := by
      have q : its2.toArray[i]? = some u2 := by simpa using hu2
      exact Option.some.inj (e2.symm.trans q)
    subst ev1 ev2
    refine ⟨_, rfl, wpAny_letOwnedTupleGo_zip (s := { s with heap := h', toks := tk }) hz' fun h'' z'' sb => ?_⟩
    have hT2 : h''.get? s.heap.objs.size = some { cls := .type "tuple", data := .seq #[v1, v2] } := (sb.2 _ (Nat.ne_of_gt hzl)).trans hT
    have new : ObjOk X.prog X.w (upd H s.heap.objs.size (.tup [x, y])) h'' s.heap.objs.size (.tup [x, y]) :=
      ⟨by show 2 ≤ sizeLine; decide, [v1, v2], .cons ru (.cons ru2 .nil), ⟨_, hT2, rfl, _, rfl⟩⟩
    have I1 : Inv X pins σ (upd H s.heap.objs.size (.tup [x, y])) { s with heap := h'', toks := tk } :=
      I.turnedNew (ch := [z, TI, TO, i1, i2]) (fun c o hb q => by
        have hb' : c ≠ z ∧ c ≠ TI ∧ c ≠ TO ∧ c ≠ i1 ∧ c ≠ i2 := by simpa using hb
        exact (sb.2 c hb'.1).trans (hk c o hb'.1 hb'.2.2.1 hb'.2.2.2.1 hb'.2.2.2.2 q)) hf (Nat.le_refl _) new
    have n1z : i1 ≠ z := fun e => D.zf1 (by rw [e]; simp)
    have n2z : i2 ≠ z := fun e => D.zf2 (by rw [e]; simp)
    refine ⟨.ref s.heap.objs.size, _, I1, rfl, ⟨_, x, y, rfl, I.hok.fresh (Nat.le_refl _), rfl, fun l hl => by rw [I.list_inj hl hqx]; exact hx, fun l hl => by rw [I.tuple_inj hl hqy]; exact hy⟩, ⟨z'', ?_, ⟨v1, v2, ?_⟩, ?_, ?_, na, nb⟩, fun c hcm => ?_⟩
    · exact (sb.2 _ D.TIz).trans (hk _ _ D.TIz D.TITO D.TIi1 D.TIi2 hTI)
    · exact (sb.2 _ D.TOz).trans hTO'
    · exact st1.1.at fun o q => (sb.2 _ n1z).trans q
    · exact st2.1.at fun o q => (sb.2 _ n2z).trans q
    · have hlt : c < s.heap.objs.size := by
        rcases (show c = z ∨ c = TI ∨ c = TO ∨ c = i1 ∨ c = i2 by simpa using hcm) with q | q | q | q | q <;> (rw [q]; assumption)
      rw [upd_ne (Nat.ne_of_lt hlt)]
      exact (hf c hcm).1
  done := by
    intro X hP hw hK hc i pins s σ H E I hf st hg
    subst hP hw hK
    obtain ⟨hz, hTI, ⟨x0, y0, hTO⟩, h1, h2, na, nb⟩ := st
    obtain ⟨xs, ys, hqx, hqy, e1, e2⟩ := hg
    obtain ⟨its, rv, p, _⟩ := I.list hqx
    obtain ⟨its2, rv2, p2, _⟩ := I.tuple hqy
    have l1 := rv.length
    have l2 := rv2.length
    have D1 := Draws.list (prog := X.prog) (w := X.w) (A := X.A.in1) (by have q := I.ok.hd hc; exact q) i1 a na its.toArray
    have D2 := Draws.tuple (prog := X.prog) (w := X.w) (A := X.A.in1) (by have q := I.ok.hd hc; exact q) i2 b nb its2.toArray
    exact wpAny_pyNext_zipD2_end D D1 D2 hz hTI hTO ⟨h1, p.isList⟩ ⟨h2, p2⟩ (by simp; omega) (by simp; omega) (.inl (by simp; omega)) fun h' tk hk => ⟨rfl, I.turnedL (ch := [z, TI, TO, i1, i2]) (fun c o hb q => by
      have hb' : c ≠ z ∧ c ≠ TI ∧ c ≠ TO ∧ c ≠ i1 ∧ c ≠ i2 := by simpa using hb
      exact hk c o hb'.1 hb'.2.2.1 hb'.2.2.2.1 hb'.2.2.2.2 q) hf⟩
  self := fun A i s Q E st h => wpAny_pyIter_zip st.1 h
def iZipM (K : PySem.W.Frag) (ta : TA) : TI := fun σ H R => ta σ H fun vs H1 => ∃ a b xs ys, vs = [.ref a, .ref b] ∧ SqL K H1 a xs ∧ SqT K H1 b ys ∧ R (ItM K a b) H1
theorem pi_zipM {X : Cx} {e e2 : Expr} {ta : TA} {p pos tpos : Pos} {elts : List Expr} {kk : Nat} (hg : Gl X "zip") (hm : X.mg "zip" = none) (ha : PA X [e, e2] ta)
    (hs : starEach [e, e2] X.env = (false, eval e X.env) :: starEach [e2] X.env := by rfl) (hpl : (backTo pos (starEach [e2] X.env)).any (·.1) = false := by rfl) :
    PI X (.Tuple elts kk tpos) (.Call (.Name "zip" p) [e, e2] [] pos) (iZipM X.K ta) := by
  refine ⟨fun pins s σ H R I h => ?_⟩
  refine Call_ (ld_blt I hg hm PyProof.Rows.boot_zip (PyProof.Rows.callWith_type1 (thn (ha.run pos pins s σ H _ I h) fun us s1 ⟨vs, H1, I1, r1, q1⟩ => ?_) hs hpl))
  obtain ⟨a, b, xs, ys, rfl, hqx, hqy, q⟩ := q1
  obtain ⟨u, u2, rfl, r, r'⟩ : ∃ u u2, us = [u, u2] ∧ RelV (.ref a) u ∧ RelV (.ref b) u2 := by
    cases r1 with
    | cons r rr => cases rr with
      | cons r' rr => cases rr; exact ⟨_, _, rfl, r, r'⟩
  cases r
  cases r'
  obtain ⟨its, rv, p1, _⟩ := I1.list hqx
  obtain ⟨its2, rv2, p2, _⟩ := I1.tuple hqy
  have hal : a < s1.heap.objs.size := p1.lt
  have hbl : b < s1.heap.objs.size := by obtain ⟨_, q, _⟩ := id p2; exact Heap.lt_size q
  refine zip_begins2 (begins_list a its.toArray) (begins_tuple b its2.toArray) p1.isList p2 fun h' hz hTI hTO h1 h2 hsz hk => wpAny_pyIter_zip hz ?_
  have I2 : Inv X pins σ H1 { s1 with heap := h' } := I1.kept (t' := s1.toks) hk
  have fresh : ∀ c, c ∈ [s1.heap.objs.size + 4, s1.heap.objs.size + 2, s1.heap.objs.size + 3, s1.heap.objs.size, s1.heap.objs.size + 1] → FpOk X pins H1 c := fun c hcm => by
    have hle : s1.heap.objs.size ≤ c := by
      rcases (show c = s1.heap.objs.size + 4 ∨ c = s1.heap.objs.size + 2 ∨ c = s1.heap.objs.size + 3 ∨ c = s1.heap.objs.size ∨ c = s1.heap.objs.size + 1 by simpa using hcm) with z | z | z | z | z <;> (rw [z]; first | exact Nat.le_refl _ | exact Nat.le_add_right _ _)
    exact I1.fpOk hle (I1.hok.fresh hle)
  have sep := zip_sep2 (N := s1.heap.objs.size) (fp1 := [a]) (fp2 := [b]) (fun c hc => by rw [List.mem_singleton.mp hc]; exact hal) (fun c hc => by rw [List.mem_singleton.mp hc]; exact hbl)
  have na : a ≠ s1.heap.objs.size := Nat.ne_of_lt hal
  have nb : b ≠ s1.heap.objs.size + 1 := Nat.ne_of_lt (Nat.lt_succ_of_lt hbl)
  exact ⟨s1.heap.objs.size + 4, _, _, _, H1, rfl, I2, turnM sep, ⟨hz, hTI, ⟨_, _, hTO⟩, ⟨_, h1, rfl, rfl⟩, ⟨_, h2, rfl, rfl⟩, na, nb⟩, fresh, q⟩
theorem walk_zipM {K : PySem.W.Frag} {a b : Addr} {xs ys : List V} {n : Nat} (h1 : n = xs.length) (h2 : n = ys.length) : Walk (ItM K a b) n (fun H => SqL K H a xs ∧ SqT K H b ys) (YPair (fun i => xs[i]?) (fun i => ys[i]?)) := by
  refine ⟨fun i _ hi q => ?_, fun _ q => ⟨xs, ys, q.1, q.2, h1.symm, h2.symm⟩, fun i H v H' _ q y => ?_⟩
  · have h1 : i < xs.length := by omega
    have h2 : i < ys.length := by omega
    exact ⟨xs, ys, xs[i], ys[i], q.1, q.2, by simp [h1], by simp [h2]⟩
  · obtain ⟨T, x, z, h1, h2, h3, h4, h5⟩ := y
    exact ⟨T, x, z, h1, h2, h3, h4 xs q.1, h5 ys q.2⟩
end Sy
/-! filling holes, plain -/
namespace Sy
open PySem PySem.Spec PyProof.Rows L2
theorem take_at {α : Type} {l : List α} {i : Nat} {x : α} (h : l[i]? = some x) : l.take (i + 1) = l.take i ++ [x] := by rw [List.take_succ, h]; rfl
def plc : Nat → List Str → List Nat
  | _, [] => []
  | n, x :: l => if x = "*" then n :: plc (n + 1) l else plc (n + 1) l
def fillW : List Str → List (List Str) → List Str
  | [], _ => []
  | x :: l, ls => if x = "*" then ls.headD [] ++ fillW l ls.tail else x :: fillW l ls
def orOne (o : Option (List Str)) (x : Str) : List Str := match o with
  | some p => p
  | none => [x]
def subL (f : Nat → Option (List Str)) : Nat → List Str → List Str
  | _, [] => []
  | n, x :: l => orOne (f n) x ++ subL f (n + 1) l
def lkN : List (Nat × List Str) → Nat → Option (List Str)
  | [], _ => none
  | z :: r, n => if z.1 = n then some z.2 else lkN r n
theorem plc_app : ∀ (a b : List Str) (n : Nat), plc n (a ++ b) = plc n a ++ plc (n + a.length) b
  | [], b, n => rfl
  | x :: a, b, n => by
    rw [List.cons_append, plc, plc, plc_app a b (n + 1), List.length_cons, show n + 1 + a.length = n + (a.length + 1) by omega]
    split <;> rfl
theorem plc_len : ∀ (l : List Str) (n : Nat), (plc n l).length = l.count ("*" : Str)
  | [], n => rfl
  | x :: l, n => by
    rw [plc, List.count_cons]
    by_cases c : x = "*"
    · rw [if_pos c, List.length_cons, plc_len l (n + 1), c]
      simp
    · rw [if_neg c, plc_len l (n + 1)]
      simp [c]
theorem plc_ge : ∀ {l : List Str} {n m : Nat}, m ∈ plc n l → n ≤ m ∧ m < n + l.length
  | [], n, m, h => by cases h
  | x :: l, n, m, h => by
    rw [plc] at h
    rw [List.length_cons]
    by_cases c : x = "*"
    · rw [if_pos c] at h
      rcases List.mem_cons.mp h with rfl | h
      · omega
      · have := plc_ge h; omega
    · rw [if_neg c] at h
      have := plc_ge h; omega
theorem plc_nd : ∀ (l : List Str) (n : Nat), (plc n l).Nodup
  | [], n => List.nodup_nil
  | x :: l, n => by
    rw [plc]
    split
    · refine List.nodup_cons.mpr ⟨fun h => ?_, plc_nd l (n + 1)⟩
      have := plc_ge h
      omega
    · exact plc_nd l (n + 1)
theorem subL_app (f : Nat → Option (List Str)) : ∀ (a b : List Str) (n : Nat), subL f n (a ++ b) = subL f n a ++ subL f (n + a.length) b
  | [], b, n => rfl
  | x :: a, b, n => by
    rw [List.cons_append, subL, subL, subL_app f a b (n + 1), List.length_cons, show n + 1 + a.length = n + (a.length + 1) by omega, List.append_assoc]
theorem subL_congr {f g : Nat → Option (List Str)} : ∀ {l : List Str} {n : Nat}, (∀ i, n ≤ i → f i = g i) → subL f n l = subL g n l
  | [], _, _ => rfl
  | x :: l, n, h => by rw [subL, subL, h n (Nat.le_refl _), subL_congr fun i hi => h i (by omega)]
theorem subL_take {f : Nat → Option (List Str)} {l : List Str} {i : Nat} {x : Str} (h : l[i]? = some x) : subL f 0 (l.take (i + 1)) = subL f 0 (l.take i) ++ orOne (f i) x := by
  have hi : i < l.length := (List.getElem?_eq_some_iff.mp h).1
  rw [take_at h, subL_app, List.length_take, show 0 + min i l.length = i by omega, subL, subL, List.append_nil]
theorem subL_le {f : Nat → Option (List Str)} {l : List Str} {i : Nat} : (subL f 0 (l.take i)).length ≤ (subL f 0 l).length := by
  have : subL f 0 l = subL f 0 (l.take i) ++ subL f (0 + (l.take i).length) (l.drop i) := by rw [← subL_app, List.take_append_drop]
  rw [this, List.length_append]
  omega
theorem lkN_none : ∀ {r : List (Nat × List Str)} {n : Nat}, (∀ z ∈ r, z.1 ≠ n) → lkN r n = none
  | [], _, _ => rfl
  | z :: r, n, h => by rw [lkN, if_neg (h z List.mem_cons_self), lkN_none fun y hy => h y (List.mem_cons_of_mem _ hy)]
theorem sub_fill : ∀ (l : List Str) (n : Nat) (ls : List (List Str)), (plc n l).length = ls.length → subL (lkN ((plc n l).zip ls)) n l = fillW l ls
  | [], n, ls, h => rfl
  | x :: l, n, ls, h => by
    rw [plc] at h ⊢
    rw [subL, fillW]
    by_cases c : x = "*"
    · rw [if_pos c] at h
      rw [if_pos c, if_pos c]
      match ls, h with
      | p :: ps, h =>
        rw [List.zip_cons_cons, lkN, if_pos rfl]
        show p ++ _ = p ++ fillW l ps
        rw [← sub_fill l (n + 1) ps (by simpa using h)]
        rw [subL_congr fun i hi => ?_]
        rw [lkN, if_neg (by show n ≠ i; omega)]
    · rw [if_neg c] at h
      rw [if_neg c, if_neg c, lkN_none fun z hz => ?_, sub_fill l (n + 1) ls h]
      · rfl
      · have := plc_ge (List.of_mem_zip (a := z.1) (b := z.2) hz).1
        omega
theorem fillW_len : ∀ (l : List Str) (ls : List (List Str)), (fillW l ls).length ≤ l.length + ls.flatten.length
  | [], ls => Nat.zero_le _
  | x :: l, ls => by
    rw [fillW]
    by_cases c : x = "*"
    · rw [if_pos c]
      match ls with
      | [] =>
        have := fillW_len l []
        show (fillW l []).length ≤ _
        simp only [List.length_cons]
        omega
      | p :: ps =>
        have := fillW_len l ps
        show (p ++ fillW l ps).length ≤ _
        rw [List.length_append, List.flatten_cons, List.length_append, List.length_cons]
        omega
    · rw [if_neg c, List.length_cons, List.length_cons]
      have := fillW_len l ls
      omega
def iKV (cs : List (Nat × Addr)) : List (Key × V) := cs.map fun c => (Sum.inl (c.1 : Int), V.ref c.2)
def lkA : List (Nat × Addr) → Nat → Option Addr
  | [], _ => none
  | z :: r, n => if z.1 = n then some z.2 else lkA r n
theorem valV_iKV (n : Nat) : ∀ cs : List (Nat × Addr), valV (iKV cs) (Sum.inl (n : Int) : Key) = (lkA cs n).map V.ref
  | [] => rfl
  | c :: cs => by
    show valV ((Sum.inl (c.1 : Int), V.ref c.2) :: iKV cs) (Sum.inl (n : Int) : Key) = _
    rw [valV_cons, lkA, valV_iKV n cs]
    by_cases h : c.1 = n
    · rw [if_pos h, if_pos (by rw [h])]
      rfl
    · rw [if_neg h, if_neg (fun z => h (by have := Sum.inl.inj z; omega))]
theorem lkA_none : ∀ {r : List (Nat × Addr)} {n : Nat}, (∀ z ∈ r, z.1 ≠ n) → lkA r n = none
  | [], _, _ => rfl
  | z :: r, n, h => by rw [lkA, if_neg (h z List.mem_cons_self), lkA_none fun y hy => h y (List.mem_cons_of_mem _ hy)]
theorem lk_paired {R : Addr → List Str → Prop} : ∀ {ps : List Nat} {bs : List Addr} {ls : List (List Str)} {n : Nat}, Paired R bs ls → (lkA (ps.zip bs) n = none ∧ lkN (ps.zip ls) n = none) ∨ ∃ b p, lkA (ps.zip bs) n = some b ∧ lkN (ps.zip ls) n = some p ∧ R b p
  | [], _, _, _, _ => .inl ⟨by simp [lkA], by simp [lkN]⟩
  | m :: ps, _, _, n, .nil => .inl ⟨by simp [lkA], by simp [lkN]⟩
  | m :: ps, b :: bs, l :: ls, n, .cons h t => by
    rw [List.zip_cons_cons, List.zip_cons_cons, lkA, lkN]
    by_cases c : m = n
    · exact .inr ⟨b, l, if_pos c, if_pos c, h⟩
    · rw [if_neg c, if_neg c]
      exact lk_paired t
end Sy
/-! filled; the paths of a row's entries -/
namespace Sy
open PySem PySem.Spec PyProof.Rows L2
theorem fillW_cons {x : Str} {l : List Str} {ps : List (List Str)} (h : x ≠ "*") : fillW (x :: l) ps = x :: fillW l ps := by rw [fillW, if_neg h]
theorem fillW_hole {l : List Str} {p : List Str} {ps : List (List Str)} : fillW ("*" :: l) (p :: ps) = p ++ fillW l ps := by rw [fillW, if_pos rfl]; rfl
mutual
theorem fill_beg {rows : List Sy.Row} (st : isK rows "*" = false) : ∀ {t u : Tr} {vs : List Tr}, okT rows t → okT rows u → beg t u = some vs → ∀ (rest : List Str) (more : List (List Str)), fillW (pre t ++ rest) (vs.map pre ++ more) = pre u ++ fillW rest more
  | .nd x bs, .nd y cs, vs, h, g, e, rest, more => by
    rw [beg_nd] at e
    by_cases c : x = "*"
    · subst c
      rw [if_pos rfl] at e
      rw [hole_nil st h, ← Option.some.inj e]
      exact fillW_hole
    · rw [if_neg c] at e
      by_cases d : x = y
      · subst d
        rw [if_pos rfl] at e
        have hl : bs.length = cs.length := by rw [h.2.1, g.2.1]
        show fillW (x :: (pres bs ++ rest)) _ = x :: (pres cs ++ fillW rest more)
        rw [fillW_cons c, fill_begZ st hl h.2.2 g.2.2 e]
      · rw [if_neg d] at e
        cases e
theorem fill_begZ {rows : List Sy.Row} (st : isK rows "*" = false) : ∀ {ts us vs : List Tr}, ts.length = us.length → oks rows ts → oks rows us → begZ ts us = some vs → ∀ (rest : List Str) (more : List (List Str)), fillW (pres ts ++ rest) (vs.map pre ++ more) = pres us ++ fillW rest more
  | [], [], vs, _, _, _, e, rest, more => by
    rw [begZ] at e
    rw [← Option.some.inj e]
    rfl
  | t :: ts, u :: us, vs, hl, h, g, e, rest, more => by
    obtain ⟨v, ws, h1, h2, rfl⟩ := begZ_cons e
    show fillW ((pre t ++ pres ts) ++ rest) _ = (pre u ++ pres us) ++ _
    rw [List.append_assoc, List.map_append, List.append_assoc, fill_beg st h.1 g.1 h1, fill_begZ st (by simpa using hl) h.2 g.2 h2, List.append_assoc]
end
theorem count_pre {x : Str} {bs : List Tr} (h : x ≠ "*") : (pre (.nd x bs)).count ("*" : Str) = (pres bs).count ("*" : Str) := by
  show (x :: pres bs).count ("*" : Str) = _
  rw [List.count_cons, if_neg (by simpa using h), Nat.add_zero]
mutual
theorem beg_fill {rows : List Sy.Row} (st : isK rows "*" = false) : ∀ {t : Tr} {ps : List Tr}, okT rows t → oks rows ps → ps.length = (pre t).count ("*" : Str) → ∃ u, okT rows u ∧ pre u = fillW (pre t) (ps.map pre) ∧ beg t u = some ps
  | .nd x bs, ps, h, g, hl => by
    by_cases c : x = "*"
    · subst c
      have e0 := hole_nil st h
      subst e0
      have hl : ps.length = 1 := hl
      obtain ⟨u, rfl⟩ := List.length_eq_one_iff.mp hl
      refine ⟨u, g.1, ?_, ?_⟩
      · show _ = fillW ("*" :: []) [pre u]
        rw [fillW_hole]
        exact (List.append_nil _).symm
      · cases u with
        | nd y cs => rw [beg_nd, if_pos rfl]
    · rw [count_pre c] at hl
      obtain ⟨us, h1, h2, h3, h4⟩ := beg_fillZ st h.2.2 g hl
      refine ⟨.nd x us, ⟨h.1, by rw [h1]; exact h.2.1, h2⟩, ?_, ?_⟩
      · show x :: pres us = fillW (x :: pres bs) _
        rw [fillW_cons c, h3]
      · rw [beg_nd, if_neg c, if_pos rfl, h4]
theorem beg_fillZ {rows : List Sy.Row} (st : isK rows "*" = false) : ∀ {ts ps : List Tr}, oks rows ts → oks rows ps → ps.length = (pres ts).count ("*" : Str) → ∃ us : List Tr, us.length = ts.length ∧ oks rows us ∧ pres us = fillW (pres ts) (ps.map pre) ∧ begZ ts us = some ps
  | [], ps, _, _, hl => by
    have e0 : ps = [] := List.length_eq_zero_iff.mp hl
    subst e0
    exact ⟨[], rfl, trivial, rfl, rfl⟩
  | t :: ts, ps, h, g, hl => by
    have hl : ps.length = (pre t ++ pres ts).count ("*" : Str) := hl
    rw [List.count_append] at hl
    have e : ps = ps.take ((pre t).count ("*" : Str)) ++ ps.drop ((pre t).count ("*" : Str)) := (List.take_append_drop _ _).symm
    generalize ps.take ((pre t).count ("*" : Str)) = p1 at e
    generalize hd : ps.drop ((pre t).count ("*" : Str)) = p2 at e
    have hd2 : p2.length = (pres ts).count ("*" : Str) := by rw [← hd, List.length_drop]; omega
    subst e
    have hd1 : p1.length = (pre t).count ("*" : Str) := by rw [List.length_append] at hl; omega
    obtain ⟨g1, g2⟩ := oks_app.mp g
    obtain ⟨u, a1, a2, a3⟩ := beg_fill st h.1 g1 hd1
    obtain ⟨us, b1, b2, b3, b4⟩ := beg_fillZ st h.2 g2 hd2
    refine ⟨u :: us, by rw [List.length_cons, List.length_cons, b1], ⟨a1, b2⟩, ?_, by rw [begZ, a3, b4]; rfl⟩
    show pre u ++ pres us = fillW (pre t ++ pres ts) _
    have := fill_beg st h.1 a1 a3 (pres ts) (p2.map pre)
    rw [List.map_append, this, b3]
end
/-! paths -/
mutual
def apT : Tr → List (List Nat)
  | .nd _ bs => [] :: apZ 0 bs
def apZ : Nat → List Tr → List (List Nat)
  | _, [] => []
  | k, t :: ts => (apT t).map (k :: ·) ++ apZ (k + 1) ts
end
mutual
theorem apT_len : ∀ t : Tr, (apT t).length = (pre t).length
  | .nd x bs => by
    show (([] : List Nat) :: apZ 0 bs).length = (x :: pres bs).length
    rw [List.length_cons, List.length_cons, apZ_len]
theorem apZ_len : ∀ {k : Nat} (ts : List Tr), (apZ k ts).length = (pres ts).length
  | _, [] => rfl
  | k, t :: ts => by
    show ((apT t).map (k :: ·) ++ apZ (k + 1) ts).length = (pre t ++ pres ts).length
    rw [List.length_append, List.length_append, List.length_map, apT_len t, apZ_len ts]
end
mutual
theorem apT_tat : ∀ {t : Tr} {j : Nat} {p : List Nat}, (apT t)[j]? = some p → tat p t = (pre t)[j]?
  | .nd x bs, 0, p, h => by
    have h : ([] : List Nat) = p := Option.some.inj h
    subst h
    rfl
  | .nd x bs, j + 1, p, h => by
    obtain ⟨k, q, t, e1, e2, e3, e4⟩ := apZ_tat (k := 0) (ts := bs) (j := j) (p := p) h
    subst e1
    rw [Nat.sub_zero] at e3
    rw [tat_cons, e3]
    show tat q t = (pres bs)[j]?
    exact e4
theorem apZ_tat : ∀ {k : Nat} {ts : List Tr} {j : Nat} {p : List Nat}, (apZ k ts)[j]? = some p → ∃ (a : Nat) (q : List Nat) (t : Tr), p = a :: q ∧ k ≤ a ∧ ts[a - k]? = some t ∧ tat q t = (pres ts)[j]?
  | k, [], j, p, h => by simp [apZ] at h
  | k, t :: ts, j, p, h => by
    have h : ((apT t).map (k :: ·) ++ apZ (k + 1) ts)[j]? = some p := h
    by_cases c : j < (apT t).length
    · rw [List.getElem?_append_left (by rw [List.length_map]; exact c), List.getElem?_map] at h
      cases e : (apT t)[j]? with
      | none => rw [e] at h; cases h
      | some q =>
        rw [e] at h
        refine ⟨k, q, t, (Option.some.inj h).symm, Nat.le_refl _, by rw [Nat.sub_self]; rfl, ?_⟩
        show _ = (pre t ++ pres ts)[j]?
        rw [List.getElem?_append_left (by rw [← apT_len]; exact c)]
        exact apT_tat e
    · rw [List.getElem?_append_right (by rw [List.length_map]; omega), List.length_map] at h
      obtain ⟨a, q, u, e1, e2, e3, e4⟩ := apZ_tat h
      refine ⟨a, q, u, e1, by omega, ?_, ?_⟩
      · rw [show a - k = (a - (k + 1)) + 1 by omega, List.getElem?_cons_succ]
        exact e3
      · show _ = (pre t ++ pres ts)[j]?
        rw [List.getElem?_append_right (by rw [← apT_len]; omega), ← apT_len]
        exact e4
end
theorem apZ_has : ∀ {k a : Nat} {ts : List Tr} {q : List Nat} {t : Tr}, ts[a]? = some t → q ∈ apT t → (k + a) :: q ∈ apZ k ts
  | k, 0, t :: ts, q, _, h, g => by
    cases h
    exact List.mem_append_left _ (List.mem_map.mpr ⟨q, g, rfl⟩)
  | k, a + 1, t :: ts, q, u, h, g => by
    have := apZ_has (k := k + 1) (a := a) (ts := ts) (by simpa using h) g
    rw [show k + 1 + a = k + (a + 1) by omega] at this
    exact List.mem_append_right _ this
  | k, a, [], q, _, h, _ => by simp at h
theorem apT_has : ∀ {p : List Nat} {t : Tr} {x : Str}, tat p t = some x → p ∈ apT t
  | [], .nd y bs, x, h => List.mem_cons_self
  | k :: p, .nd y bs, x, h => by
    rw [tat_cons] at h
    cases e : bs[k]? with
    | none => rw [e] at h; cases h
    | some b =>
      rw [e] at h
      have := apZ_has (k := 0) e (apT_has (p := p) h)
      rw [Nat.zero_add] at this
      exact List.mem_cons_of_mem _ this
/-! the same paths as by the places -/
theorem kd_pres {rows : List Sy.Row} {w : List Nat} {o k : Nat} {bs : List Tr} {rest : List Nat} (h : w.drop (o + 1) = wt rows (pres bs) ++ rest) (ok : oks rows bs) (hk : k ≤ bs.length) : kd w o k = o + 1 + (pres (bs.take k)).length := by
  unfold kd
  have e : bs = bs.take k ++ bs.drop k := (List.take_append_drop _ _).symm
  have ok2 := ok
  rw [e, oks_app] at ok2
  rw [h]
  conv => lhs; rw [e, pres_app, show wt rows (pres (bs.take k) ++ pres (bs.drop k)) = wt rows (pres (bs.take k)) ++ wt rows (pres (bs.drop k)) from List.map_append .., List.append_assoc]
  have hf := fo_pres ok2.1
  rw [List.length_take, Nat.min_eq_left hk] at hf
  rw [hf.sp_app, wt_len]
mutual
theorem pl_ap {rows : List Sy.Row} {w : List Nat} : ∀ {t : Tr} {o : Nat} {rest : List Nat}, okT rows t → w.drop o = wt rows (pre t) ++ rest → ∀ {j : Nat} {p : List Nat}, (apT t)[j]? = some p → pl w o p = some (o + j)
  | .nd x bs, o, rest, ok, h, 0, p, e => by
    have e : ([] : List Nat) = p := Option.some.inj e
    subst e
    rfl
  | .nd x bs, o, rest, ok, h, j + 1, p, e => by
    have h : w.drop o = ar rows x :: (wt rows (pres bs) ++ rest) := h
    have hd : w.drop (o + 1) = wt rows (pres bs) ++ rest := by
      rw [← List.drop_drop, h]
      rfl
    have ho : o < w.length := by
      have := congrArg List.length h
      rw [List.length_drop, List.length_cons] at this
      omega
    have ha : aw w o = ar rows x := by
      have := drop_at ho
      rw [h] at this
      injection this with e1 _
      exact e1.symm
    obtain ⟨a, q, e1, e2, e3⟩ := pl_apZ (rows := rows) (w := w) (ts := bs) (k := 0) (o := o + 1) ok.2.2 hd e
    subst e1
    rw [Nat.sub_zero] at e3
    have e2 : a < bs.length := by omega
    show (if a < aw w o then pl w (kd w o a) q else none) = _
    rw [if_pos (by rw [ha, ← ok.2.1]; exact e2), kd_pres hd ok.2.2 (Nat.le_of_lt e2), e3, show o + 1 + j = o + (j + 1) by omega]
theorem pl_apZ {rows : List Sy.Row} {w : List Nat} : ∀ {ts : List Tr} {k o : Nat} {rest : List Nat}, oks rows ts → w.drop o = wt rows (pres ts) ++ rest → ∀ {j : Nat} {p : List Nat}, (apZ k ts)[j]? = some p → ∃ (a : Nat) (q : List Nat), p = a :: q ∧ (k ≤ a ∧ a < k + ts.length) ∧ pl w (o + (pres (ts.take (a - k))).length) q = some (o + j)
  | [], k, o, rest, _, _, j, p, e => by simp [apZ] at e
  | t :: ts, k, o, rest, ok, h, j, p, e => by
    have e : ((apT t).map (k :: ·) ++ apZ (k + 1) ts)[j]? = some p := e
    have h : w.drop o = wt rows (pre t ++ pres ts) ++ rest := h
    rw [show wt rows (pre t ++ pres ts) = wt rows (pre t) ++ wt rows (pres ts) from List.map_append .., List.append_assoc] at h
    by_cases c : j < (apT t).length
    · rw [List.getElem?_append_left (by rw [List.length_map]; exact c), List.getElem?_map] at e
      cases e0 : (apT t)[j]? with
      | none => rw [e0] at e; cases e
      | some q =>
        rw [e0] at e
        refine ⟨k, q, (Option.some.inj e).symm, ⟨Nat.le_refl _, by rw [List.length_cons]; omega⟩, ?_⟩
        rw [Nat.sub_self]
        exact pl_ap ok.1 h e0
    · rw [List.getElem?_append_right (by rw [List.length_map]; omega), List.length_map] at e
      have hd : w.drop (o + (pre t).length) = wt rows (pres ts) ++ rest := by
        rw [← List.drop_drop, h]
        have := wt_len rows (pre t)
        rw [← this, List.drop_left]
      obtain ⟨a, q, e1, ⟨e2, e2'⟩, e3⟩ := pl_apZ (k := k + 1) ok.2 hd e
      refine ⟨a, q, e1, ⟨by omega, by rw [List.length_cons]; omega⟩, ?_⟩
      rw [show a - k = (a - (k + 1)) + 1 by omega, List.take_succ_cons]
      show pl w (o + (pre t ++ pres _).length) q = _
      rw [List.length_append, ← Nat.add_assoc, e3, apT_len]
      congr 1
      have := apT_len t
      omega
end
theorem pl_bound {w : List Nat} (h : Fo 1 w) : ∀ {p : List Nat} {i j : Nat}, i < w.length → pl w i p = some j → j < w.length
  | [], i, j, hi, e => by rw [← Option.some.inj e]; exact hi
  | k :: p, i, j, hi, e => by
    have e : (if k < aw w i then pl w (kd w i k) p else none) = some j := e
    by_cases c : k < aw w i
    · rw [if_pos c] at e
      exact pl_bound h (h.kd_lt hi c) e
    · rw [if_neg c] at e
      cases e
theorem pths_of_pl {w : List Nat} (h : Fo 1 w) (h0 : 0 < w.length) : ∀ (n : Nat) {p : List Nat} {j : Nat}, p.length = n → pl w 0 p = some j → (pths w).getD j [] = p
  | 0, p, j, hn, e => by
    have : p = [] := List.length_eq_zero_iff.mp hn
    subst this
    rw [← Option.some.inj e]
    exact pth_root w _
  | n + 1, p, j, hn, e => by
    have hp : p ≠ [] := fun z => by rw [z] at hn; cases hn
    obtain ⟨q, k, rfl⟩ : ∃ q k, p = q ++ [k] := ⟨p.dropLast, p.getLast hp, (List.dropLast_concat_getLast hp).symm⟩
    rw [pl_snoc] at e
    cases e1 : pl w 0 q with
    | none => rw [e1] at e; cases e
    | some i =>
      rw [e1] at e
      have e : (if k < aw w i then some (kd w i k) else none) = some j := e
      by_cases c : k < aw w i
      · rw [if_pos c] at e
        rw [← Option.some.inj e, pths_at h (pl_bound h h0 e1) c, pths_of_pl h h0 n (by simpa using hn) e1]
      · rw [if_neg c] at e
        cases e
theorem pths_len (w : List Nat) : (pths w).length = w.length := pth_len w _
theorem pths_ap {rows : List Sy.Row} {t : Tr} (ok : okT rows t) : pths (wt rows (pre t)) = apT t := by
  have hF := fo_pre ok
  have hl := wt_len rows (pre t)
  refine List.ext_getElem (by rw [pths_len, hl, apT_len]) fun j h1 h2 => ?_
  have e := List.getElem?_eq_getElem h2
  have hp := pl_ap (w := wt rows (pre t)) (o := 0) (rest := []) ok (by rw [List.append_nil]; rfl) e
  rw [Nat.zero_add] at hp
  have := pths_of_pl hF (by rw [hl]; exact pre_pos t) _ rfl hp
  rw [List.getD_eq_getElem?_getD, List.getElem?_eq_getElem h1] at this
  exact this
end Sy
/-! the holes' paths, the branches at them; chains -/
namespace Sy
open PySem PySem.Spec PyProof.Rows L2
/-- the paths of a row's holes -/
def hpR (F : List (List Nat)) (l : List Str) : List (List Nat) := ((F.zip l).filter fun z => decide (z.2 = ("*" : Str))).map (·.1)
theorem hpR_app {F G : List (List Nat)} {l m : List Str} (h : F.length = l.length) : hpR (F ++ G) (l ++ m) = hpR F l ++ hpR G m := by
  unfold hpR
  rw [List.zip_append h, List.filter_append, List.map_append]
theorem hpR_map {k : Nat} : ∀ {F : List (List Nat)} {l : List Str}, hpR (F.map (k :: ·)) l = (hpR F l).map (k :: ·)
  | [], l => rfl
  | p :: F, [] => rfl
  | p :: F, x :: l => by
    have ih := hpR_map (k := k) (F := F) (l := l)
    unfold hpR at ih ⊢
    rw [List.map_cons, List.zip_cons_cons, List.zip_cons_cons, List.filter_cons, List.filter_cons]
    by_cases c : x = "*"
    · rw [if_pos (decide_eq_true c), if_pos (decide_eq_true c), List.map_cons, List.map_cons, List.map_cons, ih]
    · rw [if_neg (by simpa using c), if_neg (by simpa using c), ih]
mutual
def hpT : Tr → List (List Nat)
  | .nd x bs => (if x = "*" then [[]] else []) ++ hpZ 0 bs
def hpZ : Nat → List Tr → List (List Nat)
  | _, [] => []
  | k, t :: ts => (hpT t).map (k :: ·) ++ hpZ (k + 1) ts
end
mutual
theorem hpT_eq : ∀ t : Tr, hpR (apT t) (pre t) = hpT t
  | .nd x bs => by
    show hpR (([] : List Nat) :: apZ 0 bs) (x :: pres bs) = (if x = "*" then [[]] else []) ++ hpZ 0 bs
    rw [show (([] : List Nat) :: apZ 0 bs) = [[]] ++ apZ 0 bs from rfl, show x :: pres bs = [x] ++ pres bs from rfl, hpR_app rfl, hpZ_eq]
    congr 1
    unfold hpR
    by_cases c : x = "*"
    · rw [if_pos c]; simp [c]
    · rw [if_neg c]; simp [c]
theorem hpZ_eq : ∀ {k : Nat} (ts : List Tr), hpR (apZ k ts) (pres ts) = hpZ k ts
  | k, [] => rfl
  | k, t :: ts => by
    show hpR ((apT t).map (k :: ·) ++ apZ (k + 1) ts) (pre t ++ pres ts) = (hpT t).map (k :: ·) ++ hpZ (k + 1) ts
    rw [hpR_app (by rw [List.length_map, apT_len]), hpR_map, hpT_eq t, hpZ_eq ts]
end
/-- the branch at a path -/
def sub : List Nat → Tr → Option Tr
  | [], t => some t
  | k :: p, .nd _ bs => (bs[k]?).bind (sub p)
theorem sub_cons (k : Nat) (p : List Nat) (x : Str) (bs : List Tr) : sub (k :: p) (.nd x bs) = (bs[k]?).bind (sub p) := rfl
theorem sub_tat : ∀ {p : List Nat} {t v : Tr}, sub p t = some v → ∃ x, tat p t = some x
  | [], .nd x bs, v, _ => ⟨x, rfl⟩
  | k :: p, .nd x bs, v, h => by
    rw [sub_cons] at h
    rw [tat_cons]
    cases e : bs[k]? with
    | none => rw [e] at h; cases h
    | some b => rw [e] at h; exact sub_tat (p := p) h
mutual
/-- what the other one has at the holes -/
theorem beg_sub {rows : List Sy.Row} (st : isK rows "*" = false) : ∀ {t u : Tr} {vs : List Tr}, okT rows t → okT rows u → beg t u = some vs → (hpT t).map (fun p => sub p u) = vs.map some
  | .nd x bs, .nd y cs, vs, h, g, e => by
    rw [beg_nd] at e
    by_cases c : x = "*"
    · subst c
      rw [if_pos rfl] at e
      rw [hole_nil st h, ← Option.some.inj e]
      rfl
    · rw [if_neg c] at e
      by_cases d : x = y
      · rw [if_pos d] at e
        have hl : bs.length = cs.length := by rw [h.2.1, g.2.1, d]
        show List.map _ ((if x = "*" then [[]] else []) ++ hpZ 0 bs) = _
        rw [if_neg c, List.nil_append]
        exact begZ_sub st (ds := []) hl h.2.2 g.2.2 e
      · rw [if_neg d] at e
        cases e
theorem begZ_sub {rows : List Sy.Row} (st : isK rows "*" = false) : ∀ {ts us vs ds : List Tr} {x : Str}, ts.length = us.length → oks rows ts → oks rows us → begZ ts us = some vs → (hpZ ds.length ts).map (fun p => sub p (.nd x (ds ++ us))) = vs.map some
  | [], [], vs, ds, x, _, _, _, e => by
    rw [begZ] at e
    rw [← Option.some.inj e]
    rfl
  | t :: ts, u :: us, vs, ds, x, hl, h, g, e => by
    obtain ⟨v, ws, h1, h2, rfl⟩ := begZ_cons e
    show List.map _ ((hpT t).map (ds.length :: ·) ++ hpZ (ds.length + 1) ts) = _
    rw [List.map_append, List.map_append, List.map_map, ← beg_sub st h.1 g.1 h1]
    congr 1
    · refine List.map_congr_left fun p _ => ?_
      show sub (ds.length :: p) (.nd x (ds ++ u :: us)) = sub p u
      rw [sub_cons, List.getElem?_append_right (Nat.le_refl _), Nat.sub_self]
      rfl
    · have := begZ_sub st (ds := ds ++ [u]) (x := x) (by simpa using hl) h.2 g.2 h2
      rw [List.length_append, List.append_assoc] at this
      exact this
end
mutual
/-- the row of a branch -/
theorem ap_sub {rows : List Sy.Row} : ∀ {t : Tr} {j : Nat} {p : List Nat}, okT rows t → (apT t)[j]? = some p → ∃ v rest, sub p t = some v ∧ okT rows v ∧ (pre t).drop j = pre v ++ rest
  | .nd x bs, 0, p, ok, h => by
    have h : ([] : List Nat) = p := Option.some.inj h
    subst h
    exact ⟨.nd x bs, [], rfl, ok, by rw [List.append_nil]; rfl⟩
  | .nd x bs, j + 1, p, ok, h => by
    obtain ⟨k, q, t, v, rest, e1, e2, e3, e4, e5, e6⟩ := apZ_sub (k := 0) (ts := bs) (j := j) (p := p) ok.2.2 h
    subst e1
    rw [Nat.sub_zero] at e3
    refine ⟨v, rest, ?_, e5, e6⟩
    rw [sub_cons, e3]
    exact e4
theorem apZ_sub {rows : List Sy.Row} : ∀ {k : Nat} {ts : List Tr} {j : Nat} {p : List Nat}, oks rows ts → (apZ k ts)[j]? = some p → ∃ (a : Nat) (q : List Nat) (t v : Tr) (rest : List Str), p = a :: q ∧ k ≤ a ∧ ts[a - k]? = some t ∧ sub q t = some v ∧ okT rows v ∧ (pres ts).drop j = pre v ++ rest
  | k, [], j, p, _, h => by simp [apZ] at h
  | k, t :: ts, j, p, ok, h => by
    have h : ((apT t).map (k :: ·) ++ apZ (k + 1) ts)[j]? = some p := h
    by_cases c : j < (apT t).length
    · rw [List.getElem?_append_left (by rw [List.length_map]; exact c), List.getElem?_map] at h
      cases e : (apT t)[j]? with
      | none => rw [e] at h; cases h
      | some q =>
        rw [e] at h
        obtain ⟨v, rest, f1, f2, f3⟩ := ap_sub ok.1 e
        refine ⟨k, q, t, v, rest ++ pres ts, (Option.some.inj h).symm, Nat.le_refl _, by rw [Nat.sub_self]; rfl, f1, f2, ?_⟩
        show (pre t ++ pres ts).drop j = _
        rw [List.drop_append_of_le_length (by rw [← apT_len]; omega), f3, List.append_assoc]
    · rw [List.getElem?_append_right (by rw [List.length_map]; omega), List.length_map] at h
      obtain ⟨a, q, u, v, rest, e1, e2, e3, e4, e5, e6⟩ := apZ_sub ok.2 h
      refine ⟨a, q, u, v, rest, e1, by omega, ?_, e4, e5, ?_⟩
      · rw [show a - k = (a - (k + 1)) + 1 by omega, List.getElem?_cons_succ]
        exact e3
      · show (pre t ++ pres ts).drop j = _
        rw [List.drop_append, List.drop_eq_nil_of_le (by rw [← apT_len]; omega), List.nil_append, ← apT_len]
        exact e6
end
theorem sub_brn {rows : List Sy.Row} {t v : Tr} {j : Nat} {p : List Nat} (ok : okT rows t) (h : (apT t)[j]? = some p) (e : sub p t = some v) : brn (wt rows (pre t)) (pre t) j = pre v := by
  obtain ⟨v', rest, e1, e2, e3⟩ := ap_sub ok h
  rw [e] at e1
  cases e1
  unfold brn en
  have e4 : (wt rows (pre t)).drop j = wt rows (pre v) ++ wt rows rest := by
    rw [wt, ← List.map_drop, e3]
    exact List.map_append ..
  rw [e4, (fo_pre e2).sp_app, wt_len, Nat.add_sub_cancel_left, e3, List.take_left]
/-! chains -/
def chn (x last : Str) : Nat → Tr
  | 0 => .nd last []
  | n + 1 => .nd x [chn x last n]
theorem chn_pre (x last : Str) : ∀ n, pre (chn x last n) = List.replicate n x ++ [last]
  | 0 => rfl
  | n + 1 => by
    show x :: (pre (chn x last n) ++ []) = _
    rw [List.append_nil, chn_pre x last n]
    rfl
theorem chn_ok {rows : List Sy.Row} {x last : Str} (hx : isK rows x = true) (h1 : ar rows x = 1) (hl : isK rows last = true ∨ last = "*") (h0 : ar rows last = 0) : ∀ n, okT rows (chn x last n)
  | 0 => ⟨hl, h0.symm, trivial⟩
  | n + 1 => ⟨.inl hx, h1.symm, chn_ok hx h1 hl h0 n, trivial⟩
section
variable {rows : List Sy.Row} {x last : Str} (st : isK rows "*" = false) (hx : isK rows x = true) (hn : x ≠ last)
theorem x_ne (st : isK rows "*" = false) (hx : isK rows x = true) : x ≠ "*" := fun z => by rw [z, st] at hx; cases hx
include st hx hn
theorem beg_chn : ∀ m n : Nat, beg (chn x "*" m) (chn x last n) = if m ≤ n then some [chn x last (n - m)] else none
  | 0, 0 => rfl
  | 0, n + 1 => by
    show beg (.nd "*" []) (.nd x [chn x last n]) = _
    rw [beg_nd, if_pos rfl, if_pos (Nat.zero_le _)]
    rfl
  | m + 1, 0 => by
    show beg (.nd x [chn x "*" m]) (.nd last []) = _
    rw [beg_nd, if_neg (x_ne st hx), if_neg hn, if_neg (by omega)]
  | m + 1, n + 1 => by
    show beg (.nd x [chn x "*" m]) (.nd x [chn x last n]) = _
    rw [beg_nd, if_neg (x_ne st hx), if_pos rfl, begZ, begZ, beg_chn m n]
    by_cases c : m ≤ n
    · rw [if_pos c, if_pos (by omega), show n + 1 - (m + 1) = n - m by omega]
      rfl
    · rw [if_neg c, if_neg (by omega)]
      rfl
theorem uni_chn : ∀ m n : Nat, uni (chn x "*" m) (chn x last n) = if m ≤ n then some (chn x last n) else if last = "*" then some (chn x "*" m) else none
  | 0, 0 => by
    show uni (.nd "*" []) (.nd last []) = _
    rw [uni_nd, if_pos rfl, if_pos (Nat.le_refl _)]
    rfl
  | 0, n + 1 => by
    show uni (.nd "*" []) (.nd x [chn x last n]) = _
    rw [uni_nd, if_pos rfl, if_pos (Nat.zero_le _)]
    rfl
  | m + 1, 0 => by
    show uni (.nd x [chn x "*" m]) (.nd last []) = _
    rw [uni_nd, if_neg (x_ne st hx), if_neg (show ¬ m + 1 ≤ 0 by omega), if_neg hn]
    by_cases c : last = "*"
    · rw [if_pos c, if_pos c]; rfl
    · rw [if_neg c, if_neg c]
  | m + 1, n + 1 => by
    show uni (.nd x [chn x "*" m]) (.nd x [chn x last n]) = _
    rw [uni_nd, if_neg (x_ne st hx), if_neg (x_ne st hx), if_pos rfl, uniZ, uniZ, uni_chn m n]
    by_cases c : m ≤ n
    · rw [if_pos c, if_pos (by omega)]
      rfl
    · rw [if_neg c, if_neg (show ¬ m + 1 ≤ n + 1 by omega)]
      by_cases d : last = "*"
      · rw [if_pos d, if_pos d]; rfl
      · rw [if_neg d, if_neg d]; rfl
theorem com_chn : ∀ m n : Nat, com rows (chn x "*" m) (chn x last n) = chn x "*" (min m n)
  | 0, 0 => by
    show com rows (.nd "*" []) (.nd last []) = _
    rw [com, if_neg fun q => by rw [st] at q; exact Bool.false_ne_true q.1]
    rfl
  | 0, n + 1 => by
    show com rows (.nd "*" []) (.nd x [chn x last n]) = _
    rw [com, if_neg fun q => by rw [st] at q; exact Bool.false_ne_true q.1, Nat.zero_min]
    rfl
  | m + 1, 0 => by
    show com rows (.nd x [chn x "*" m]) (.nd last []) = _
    rw [com, if_neg fun q => hn q.2, Nat.min_zero]
    rfl
  | m + 1, n + 1 => by
    show com rows (.nd x [chn x "*" m]) (.nd x [chn x last n]) = _
    rw [com, if_pos ⟨hx, rfl⟩, comZ, comZ, com_chn m n, show min (m + 1) (n + 1) = min m n + 1 by omega]
    rfl
theorem beg_chn2 : ∀ n m : Nat, beg (chn x last n) (chn x "*" m) = if last = "*" ∧ n ≤ m then some [chn x "*" (m - n)] else none
  | 0, m => by
    by_cases c : last = "*"
    · rw [if_pos ⟨c, Nat.zero_le _⟩]
      subst c
      cases m with
      | zero => rfl
      | succ m =>
        show beg (.nd "*" []) (.nd x [chn x "*" m]) = _
        rw [beg_nd, if_pos rfl]
        rfl
    · rw [if_neg fun z => c z.1]
      cases m with
      | zero =>
        show beg (.nd last []) (.nd "*" []) = _
        rw [beg_nd, if_neg c, if_neg c]
      | succ m =>
        show beg (.nd last []) (.nd x [chn x "*" m]) = _
        rw [beg_nd, if_neg c, if_neg fun z => hn z.symm]
  | n + 1, 0 => by
    show beg (.nd x [chn x last n]) (.nd "*" []) = _
    rw [beg_nd, if_neg (x_ne st hx), if_neg (x_ne st hx), if_neg (by omega)]
  | n + 1, m + 1 => by
    show beg (.nd x [chn x last n]) (.nd x [chn x "*" m]) = _
    rw [beg_nd, if_neg (x_ne st hx), if_pos rfl, begZ, begZ, beg_chn2 n m]
    by_cases c : last = "*" ∧ n ≤ m
    · rw [if_pos c, if_pos ⟨c.1, by omega⟩, show m + 1 - (n + 1) = m - n by omega]
      rfl
    · rw [if_neg c, if_neg fun z => c ⟨z.1, by omega⟩]
      rfl
theorem hp_chn : ∀ m : Nat, hpT (chn x "*" m) = [List.replicate m 0]
  | 0 => rfl
  | m + 1 => by
    show (if x = "*" then [[]] else []) ++ hpZ 0 [chn x "*" m] = _
    rw [if_neg (x_ne st hx), hpZ, hp_chn m, hpZ]
    rfl
end
end Sy
/-! what the loops over two rows know -/
namespace Sy
open PySem PySem.Spec PyProof.Rows L2
theorem fa_ok2 {rows : List Sy.Row} {lv : List Str} : ∀ {l : List Str} {m i : Nat}, Fo m (wt rows l) → (∀ x ∈ l, isK rows x = true ∨ x ∈ lv) → fa rows lv m i l = -1
  | [], 0, i, _, _ => rfl
  | x :: l, m + 1, i, h, k => by
    have h : Fo (m + ar rows x) (wt rows l) := h
    rw [fa, if_neg (by omega), if_neg fun z => (k x List.mem_cons_self).elim (fun q => by rw [q] at z; cases z.1) (fun q => z.2 q)]
    exact fa_ok2 (m := m + 1 - 1 + ar rows x) h fun y hy => k y (List.mem_cons_of_mem _ hy)
theorem ck_none {rows : List Sy.Row} (st : isK rows "*" = false) {t : Tr} (h : okT rows t) (hl : (pre t).length ≤ 2000) : ckS rows (pre t) = none := by
  unfold ckS ckr
  have := fa_ok2 (rows := rows) (lv := ["*"]) (l := pre t) (m := 1) (i := 0) (fo_pre h) fun x hx => (kn_pre h x hx).imp id fun z => by rw [z]; exact List.mem_singleton.mpr rfl
  rw [if_neg (by omega), if_neg (by rw [this]; decide)]
theorem val_isK (rows : List Sy.Row) (x : Str) : (valV (arKV rows) (Sum.inr x : Key)).isSome = isK rows x := by
  rw [valV_ar]
  unfold isK
  cases rows.lookup x <;> rfl
/-- two rows read side by side -/
structure Rd2 (rows : List Sy.Row) (l m : List Str) (i j : Nat) (ts us : List Tr) : Prop where
  one : l.drop i = pres ts
  two : m.drop j = pres us
  len : ts.length = us.length
  ok1 : oks rows ts
  ok2 : oks rows us
section
variable {rows : List Sy.Row} {l m : List Str} {i j : Nat} {ts us : List Tr} {x y : Str} {bs cs : List Tr}
theorem Rd2.start {t u : Tr} (h : okT rows t) (g : okT rows u) : Rd2 rows (pre t) (pre u) 0 0 [t] [u] :=
  ⟨(List.append_nil _).symm, (List.append_nil _).symm, rfl, ⟨h, trivial⟩, ⟨g, trivial⟩⟩
theorem Rd2.at_ (h : Rd2 rows l m i j ts us) (ey : l[i]? = some y) : ∃ x bs cs ts' us', m[j]? = some x ∧ ts = .nd y bs :: ts' ∧ us = .nd x cs :: us' := by
  obtain ⟨h1, h2, h3, _, _⟩ := h
  have e0 : (l.drop i)[0]? = some y := by rw [List.getElem?_drop, Nat.add_zero]; exact ey
  cases ts with
  | nil => rw [h1] at e0; cases e0
  | cons t ts =>
    cases us with
    | nil => cases h3
    | cons u us =>
      obtain ⟨a, bs⟩ := t
      obtain ⟨b, cs⟩ := u
      rw [h1] at e0
      have e1 : a = y := Option.some.inj e0
      subst e1
      refine ⟨b, bs, cs, ts, us, ?_, rfl, rfl⟩
      have : (m.drop j)[0]? = some b := by rw [h2]; rfl
      rw [List.getElem?_drop, Nat.add_zero] at this
      exact this
theorem drop_one {l : List Str} {i : Nat} {ts : List Tr} (h : l.drop i = pres (.nd y bs :: ts)) : l.drop (i + 1) = pres (bs ++ ts) := by
  rw [← List.drop_drop, h, pres_app]
  rfl
theorem Rd2.go {ts' us' : List Tr} (h : Rd2 rows l m i j (.nd y bs :: ts') (.nd y cs :: us')) : Rd2 rows l m (i + 1) (j + 1) (bs ++ ts') (cs ++ us') ∧ bs.length = cs.length := by
  obtain ⟨h1, h2, h3, h4, h5⟩ := h
  have hl : bs.length = cs.length := by rw [h4.1.2.1, h5.1.2.1]
  exact ⟨⟨drop_one h1, drop_one h2, by rw [List.length_append, List.length_append, hl]; simpa using h3, oks_app.mpr ⟨h4.1.2.2, h4.2⟩, oks_app.mpr ⟨h5.1.2.2, h5.2⟩⟩, hl⟩
theorem Rd2.skip {t u : Tr} {ts' us' : List Tr} (h : Rd2 rows l m i j (t :: ts') (u :: us')) : Rd2 rows l m (en (wt rows l) i) (en (wt rows m) j) ts' us' ∧ (l.drop i).take (en (wt rows l) i - i) = pre t ∧ (m.drop j).take (en (wt rows m) j - j) = pre u := by
  obtain ⟨h1, h2, h3, h4, h5⟩ := h
  obtain ⟨a1, a2, a3⟩ := drop_en h1 h4.1
  obtain ⟨b1, b2, b3⟩ := drop_en h2 h5.1
  exact ⟨⟨a2, b2, by simpa using h3, h4.2, h5.2⟩, a3, b3⟩
theorem Rd2.end_ (h : Rd2 rows l m i j ts us) (hi : l.length ≤ i) : ts = [] ∧ us = [] := by
  have e : pres ts = [] := by rw [← h.one]; exact List.drop_eq_nil_of_le hi
  have := len_pres ts
  rw [e] at this
  have e1 : ts = [] := List.length_eq_zero_iff.mp (Nat.le_zero.mp this)
  refine ⟨e1, ?_⟩
  have := h.len
  rw [e1] at this
  exact List.length_eq_zero_iff.mp this.symm
end
/-! common_row -/
def CmI (rows : List Sy.Row) (l m : List Str) (R : List Str) (i j : Nat) (acc : List Str) : Prop := ∃ ts us, Rd2 rows l m i j ts us ∧ acc ++ pres (comZ rows ts us) = R
section
variable {rows : List Sy.Row} {l m R acc : List Str} {i j : Nat} {x y : Str}
theorem CmI.start {t u : Tr} (h : okT rows t) (g : okT rows u) : CmI rows (pre t) (pre u) (pre (com rows t u)) 0 0 [] :=
  ⟨[t], [u], .start h g, by rw [List.nil_append]; exact List.append_nil _⟩
theorem CmI.same (h : CmI rows l m R i j acc) (ey : l[i]? = some y) (ex : m[j]? = some y) (hk : isK rows y = true) : CmI rows l m R (i + 1) (j + 1) (acc ++ [y]) := by
  obtain ⟨ts, us, r, e⟩ := h
  obtain ⟨x, bs, cs, ts', us', e1, rfl, rfl⟩ := r.at_ ey
  rw [ex] at e1
  cases e1
  obtain ⟨r', hl⟩ := r.go
  refine ⟨_, _, r', ?_⟩
  rw [comZ, com, if_pos ⟨hk, rfl⟩] at e
  have e : acc ++ (y :: pres (comZ rows bs cs) ++ pres (comZ rows ts' us')) = R := e
  rw [comZ_app hl, pres_app, List.append_assoc]
  exact e
theorem CmI.skip (h : CmI rows l m R i j acc) (ey : l[i]? = some y) (ex : m[j]? = some x) (hk : ¬ (isK rows y = true ∧ y = x)) : CmI rows l m R (en (wt rows l) i) (en (wt rows m) j) (acc ++ [("*" : Str)]) := by
  obtain ⟨ts, us, r, e⟩ := h
  obtain ⟨x', bs, cs, ts', us', e1, rfl, rfl⟩ := r.at_ ey
  rw [ex] at e1
  cases e1
  refine ⟨_, _, r.skip.1, ?_⟩
  rw [comZ, com, if_neg hk] at e
  rw [List.append_assoc]
  exact e
theorem CmI.done (h : CmI rows l m R i j acc) (hi : l.length ≤ i) : acc = R := by
  obtain ⟨ts, us, r, e⟩ := h
  obtain ⟨rfl, rfl⟩ := r.end_ hi
  rw [← e]
  exact (List.append_nil _).symm
end
/-! united -/
def UnI (rows : List Sy.Row) (l m : List Str) (R : Option (List Str)) (i j : Nat) (acc : List Str) : Prop := ∃ ts us, Rd2 rows l m i j ts us ∧ (uniZ ts us).map (fun v => acc ++ pres v) = R
section
variable {rows : List Sy.Row} {l m acc : List Str} {R : Option (List Str)} {i j : Nat} {x y : Str}
theorem UnI.start {t u : Tr} (h : okT rows t) (g : okT rows u) : UnI rows (pre t) (pre u) ((uni t u).map pre) 0 0 [] := by
  refine ⟨[t], [u], .start h g, ?_⟩
  rw [uniZ, uniZ]
  cases uni t u with
  | none => rfl
  | some v => show some ([] ++ (pre v ++ [])) = some (pre v); rw [List.append_nil, List.nil_append]
theorem UnI.hole1 (st : isK rows "*" = false) (h : UnI rows l m R i j acc) (ey : l[i]? = some ("*" : Str)) : en (wt rows l) i = i + 1 ∧ UnI rows l m R (i + 1) (en (wt rows m) j) (acc ++ (m.drop j).take (en (wt rows m) j - j)) := by
  obtain ⟨ts, us, r, e⟩ := h
  obtain ⟨x, bs, cs, ts', us', e1, rfl, rfl⟩ := r.at_ ey
  obtain ⟨r', f1, f2⟩ := r.skip
  have e0 := hole_nil st r.ok1.1
  subst e0
  have e2 : en (wt rows l) i = i + 1 := (drop_en r.one r.ok1.1).1
  rw [e2] at r'
  refine ⟨e2, _, _, r', ?_⟩
  rw [uniZ, uni_nd, if_pos rfl] at e
  rw [f2, ← e]
  cases uniZ ts' us' with
  | none => rfl
  | some v => show some (_ ++ pres v) = some (acc ++ (_ ++ pres v)); rw [List.append_assoc]
theorem UnI.hole2 (st : isK rows "*" = false) (h : UnI rows l m R i j acc) (ey : l[i]? = some y) (hy : y ≠ "*") (ex : m[j]? = some ("*" : Str)) : en (wt rows m) j = j + 1 ∧ UnI rows l m R (en (wt rows l) i) (j + 1) (acc ++ (l.drop i).take (en (wt rows l) i - i)) := by
  obtain ⟨ts, us, r, e⟩ := h
  obtain ⟨x, bs, cs, ts', us', e1, rfl, rfl⟩ := r.at_ ey
  rw [ex] at e1
  cases e1
  obtain ⟨r', f1, f2⟩ := r.skip
  have e0 := hole_nil st r.ok2.1
  subst e0
  have e2 : en (wt rows m) j = j + 1 := (drop_en r.two r.ok2.1).1
  rw [e2] at r'
  refine ⟨e2, _, _, r', ?_⟩
  rw [uniZ, uni_nd, if_neg hy, if_pos rfl] at e
  rw [f1, ← e]
  cases uniZ ts' us' with
  | none => rfl
  | some v => show some (_ ++ pres v) = some (acc ++ (_ ++ pres v)); rw [List.append_assoc]
theorem UnI.same (h : UnI rows l m R i j acc) (ey : l[i]? = some y) (hy : y ≠ "*") (ex : m[j]? = some y) : UnI rows l m R (i + 1) (j + 1) (acc ++ [y]) := by
  obtain ⟨ts, us, r, e⟩ := h
  obtain ⟨x, bs, cs, ts', us', e1, rfl, rfl⟩ := r.at_ ey
  rw [ex] at e1
  cases e1
  obtain ⟨r', hl⟩ := r.go
  refine ⟨_, _, r', ?_⟩
  rw [uniZ, uni_nd, if_neg hy, if_neg hy, if_pos rfl] at e
  rw [uniZ_app hl, ← e]
  cases uniZ bs cs with
  | none => rfl
  | some v =>
    cases uniZ ts' us' with
    | none => rfl
    | some w =>
      show some ((acc ++ [y]) ++ pres (v ++ w)) = some (acc ++ ((y :: pres v) ++ pres w))
      rw [pres_app, List.append_assoc]
      rfl
theorem UnI.clash (h : UnI rows l m R i j acc) (ey : l[i]? = some y) (hy : y ≠ "*") (ex : m[j]? = some x) (hx : x ≠ "*") (hn : y ≠ x) : R = none := by
  obtain ⟨ts, us, r, e⟩ := h
  obtain ⟨x', bs, cs, ts', us', e1, rfl, rfl⟩ := r.at_ ey
  rw [ex] at e1
  cases e1
  rw [uniZ, uni_nd, if_neg hy, if_neg hx, if_neg hn] at e
  exact e.symm
theorem UnI.done (h : UnI rows l m R i j acc) (hi : l.length ≤ i) : R = some acc := by
  obtain ⟨ts, us, r, e⟩ := h
  obtain ⟨rfl, rfl⟩ := r.end_ hi
  rw [← e]
  show some (acc ++ []) = some acc
  rw [List.append_nil]
theorem UnI.has (h : UnI rows l m R i j acc) (hi : i < l.length) : ∃ y x, l[i]? = some y ∧ m[j]? = some x := by
  obtain ⟨ts, us, r, e⟩ := h
  have ey := List.getElem?_eq_getElem hi
  obtain ⟨x, _, _, _, _, e1, _, _⟩ := r.at_ ey
  exact ⟨_, x, ey, e1⟩
end
/-! side_by_side -/
mutual
def sbs (rows : List Sy.Row) : Tr → Tr → Option (List (List Str × List Str))
  | .nd x bs, .nd y cs => if isK rows x = true ∧ isK rows y = true then (if x = y then sbsZ rows bs cs else none) else some [(pre (.nd x bs), pre (.nd y cs))]
def sbsZ (rows : List Sy.Row) : List Tr → List Tr → Option (List (List Str × List Str))
  | t :: ts, u :: us => (sbs rows t u).bind fun a => (sbsZ rows ts us).map fun b => a ++ b
  | [], _ => some []
  | _ :: _, [] => some []
end
theorem sbs_nd {rows : List Sy.Row} {x y : Str} {bs cs : List Tr} : sbs rows (.nd x bs) (.nd y cs) = if isK rows x = true ∧ isK rows y = true then (if x = y then sbsZ rows bs cs else none) else some [(pre (.nd x bs), pre (.nd y cs))] := by rw [sbs]
theorem sbsZ_app {rows : List Sy.Row} : ∀ {ts us vs ws : List Tr}, ts.length = us.length → sbsZ rows (ts ++ vs) (us ++ ws) = (sbsZ rows ts us).bind fun a => (sbsZ rows vs ws).map fun b => a ++ b
  | [], [], vs, ws, _ => by
    rw [sbsZ]
    cases h : sbsZ rows vs ws <;> simp [h]
  | t :: ts, u :: us, vs, ws, h => by
    rw [List.cons_append, List.cons_append, sbsZ, sbsZ, sbsZ_app (by simpa using h)]
    cases sbs rows t u <;> cases sbsZ rows ts us <;> cases sbsZ rows vs ws <;> simp
/-- what parts makes of the pairs -/
def ptsR (o : Option (List (List Str × List Str))) : Option (List (List Str)) := o.bind fun ds => if ∀ z ∈ ds, z.1 = [("*" : Str)] then some (ds.map (·.2)) else none
theorem pts_bind {o1 o2 : Option (List (List Str × List Str))} : ptsR (o1.bind fun a => o2.map fun b => a ++ b) = (ptsR o1).bind fun a => (ptsR o2).map fun b => a ++ b := by
  cases o1 with
  | none => rfl
  | some a =>
    cases o2 with
    | none =>
      show none = (ptsR (some a)).bind fun a => none
      cases ptsR (some a) <;> rfl
    | some b =>
      unfold ptsR
      show (if ∀ z ∈ a ++ b, z.1 = [("*" : Str)] then some ((a ++ b).map (·.2)) else none) = (if ∀ z ∈ a, z.1 = [("*" : Str)] then some (a.map (·.2)) else none).bind fun a => (if ∀ z ∈ b, z.1 = [("*" : Str)] then some (b.map (·.2)) else none).map fun b => a ++ b
      by_cases c : ∀ z ∈ a, z.1 = [("*" : Str)]
      · by_cases d : ∀ z ∈ b, z.1 = [("*" : Str)]
        · rw [if_pos c, if_pos d, if_pos fun z hz => (List.mem_append.mp hz).elim (c z) (d z), List.map_append]
          rfl
        · rw [if_pos c, if_neg d, if_neg fun q => d fun z hz => q z (List.mem_append_right _ hz)]
          rfl
      · rw [if_neg c, if_neg fun q => c fun z hz => q z (List.mem_append_left _ hz)]
        rfl
mutual
theorem sbs_beg {rows : List Sy.Row} (st : isK rows "*" = false) : ∀ {t u : Tr}, okT rows t → okT rows u → ptsR (sbs rows t u) = (beg t u).map (·.map pre)
  | .nd x bs, .nd y cs, h, g => by
    rw [sbs_nd, beg_nd]
    by_cases c : x = "*"
    · subst c
      rw [if_neg fun q => by rw [st] at q; exact Bool.false_ne_true q.1, if_pos rfl, hole_nil st h]
      show (if ∀ z ∈ [(pre (Tr.nd "*" []), pre (Tr.nd y cs))], z.1 = [("*" : Str)] then some _ else none) = _
      rw [if_pos fun z hz => by rw [List.mem_singleton.mp hz]; rfl]
      rfl
    · have hx : isK rows x = true := h.1.resolve_right c
      rw [if_neg c]
      by_cases d : isK rows y = true
      · rw [if_pos ⟨hx, d⟩]
        by_cases e : x = y
        · have hl : bs.length = cs.length := by rw [h.2.1, g.2.1, e]
          rw [if_pos e, if_pos e]
          exact sbsZ_beg st hl h.2.2 g.2.2
        · rw [if_neg e, if_neg e]
          rfl
      · rw [if_neg fun q => d q.2, if_neg fun q => d (by rw [← q]; exact hx)]
        show (if ∀ z ∈ [(pre (Tr.nd x bs), pre (Tr.nd y cs))], z.1 = [("*" : Str)] then some _ else none) = none
        rw [if_neg fun q => by
          have := q _ List.mem_cons_self
          have this : x :: pres bs = [("*" : Str)] := this
          injection this with e1 _
          exact c e1]
theorem sbsZ_beg {rows : List Sy.Row} (st : isK rows "*" = false) : ∀ {ts us : List Tr}, ts.length = us.length → oks rows ts → oks rows us → ptsR (sbsZ rows ts us) = (begZ ts us).map (·.map pre)
  | [], [], _, _, _ => by
    rw [sbsZ, begZ]
    show (if ∀ z ∈ ([] : List (List Str × List Str)), z.1 = [("*" : Str)] then some _ else none) = _
    rw [if_pos fun z hz => nomatch hz]
    rfl
  | t :: ts, u :: us, hl, h, g => by
    rw [sbsZ, begZ, pts_bind, sbs_beg st h.1 g.1, sbsZ_beg st (by simpa using hl) h.2 g.2]
    cases beg t u <;> cases begZ ts us <;> simp
end
def SdI (rows : List Sy.Row) (l m : List Str) (R : Option (List (List Str × List Str))) (i j : Nat) (ds : List (List Str × List Str)) : Prop := ∃ ts us, Rd2 rows l m i j ts us ∧ (sbsZ rows ts us).map (fun v => ds ++ v) = R
section
variable {rows : List Sy.Row} {l m : List Str} {ds : List (List Str × List Str)} {R : Option (List (List Str × List Str))} {i j : Nat} {x y : Str}
theorem SdI.start {t u : Tr} (h : okT rows t) (g : okT rows u) : SdI rows (pre t) (pre u) (sbs rows t u) 0 0 [] := by
  refine ⟨[t], [u], .start h g, ?_⟩
  rw [sbsZ, sbsZ]
  cases sbs rows t u with
  | none => rfl
  | some v => show some ([] ++ (v ++ [])) = some v; rw [List.append_nil, List.nil_append]
theorem SdI.same (h : SdI rows l m R i j ds) (ey : l[i]? = some y) (ex : m[j]? = some y) (hk : isK rows y = true) : SdI rows l m R (i + 1) (j + 1) ds := by
  obtain ⟨ts, us, r, e⟩ := h
  obtain ⟨x, bs, cs, ts', us', e1, rfl, rfl⟩ := r.at_ ey
  rw [ex] at e1
  cases e1
  obtain ⟨r', hl⟩ := r.go
  refine ⟨_, _, r', ?_⟩
  rw [sbsZ, sbs_nd, if_pos ⟨hk, hk⟩, if_pos rfl] at e
  rw [sbsZ_app hl]
  exact e
theorem SdI.clash (h : SdI rows l m R i j ds) (ey : l[i]? = some y) (ex : m[j]? = some x) (hy : isK rows y = true) (hx : isK rows x = true) (hn : y ≠ x) : R = none := by
  obtain ⟨ts, us, r, e⟩ := h
  obtain ⟨x', bs, cs, ts', us', e1, rfl, rfl⟩ := r.at_ ey
  rw [ex] at e1
  cases e1
  rw [sbsZ, sbs_nd, if_pos ⟨hy, hx⟩, if_neg hn] at e
  exact e.symm
theorem SdI.pair (h : SdI rows l m R i j ds) (ey : l[i]? = some y) (ex : m[j]? = some x) (hk : ¬ (isK rows y = true ∧ isK rows x = true)) : SdI rows l m R (en (wt rows l) i) (en (wt rows m) j) (ds ++ [((l.drop i).take (en (wt rows l) i - i), (m.drop j).take (en (wt rows m) j - j))]) := by
  obtain ⟨ts, us, r, e⟩ := h
  obtain ⟨x', bs, cs, ts', us', e1, rfl, rfl⟩ := r.at_ ey
  rw [ex] at e1
  cases e1
  obtain ⟨r', f1, f2⟩ := r.skip
  refine ⟨_, _, r', ?_⟩
  rw [sbsZ, sbs_nd, if_neg hk] at e
  rw [f1, f2, ← e]
  cases sbsZ rows ts' us' with
  | none => rfl
  | some v => show some (_ ++ v) = some (ds ++ (_ ++ v)); rw [List.append_assoc]
theorem SdI.done (h : SdI rows l m R i j ds) (hi : l.length ≤ i) : R = some ds := by
  obtain ⟨ts, us, r, e⟩ := h
  obtain ⟨rfl, rfl⟩ := r.end_ hi
  rw [← e]
  show some (ds ++ []) = some ds
  rw [List.append_nil]
end
end Sy
namespace Sy
open PySem PySem.Spec PyProof.Rows L2 RZ
theorem walk_zipT {K : PySem.W.Frag} {a b : Addr} {xs ys : List V} {n : Nat} (h1 : n = xs.length) (h2 : n = ys.length) : Walk (ItzT K a b) n (fun H => SqT K H a xs ∧ SqT K H b ys) (YPair (fun i => xs[i]?) (fun i => ys[i]?)) := by
  refine ⟨fun i _ hi q => ?_, fun _ q => ⟨xs, ys, q.1, q.2, by omega⟩, fun i H v H' _ q y => ?_⟩
  · have h1 : i < xs.length := by omega
    have h2 : i < ys.length := by omega
    exact ⟨xs, ys, xs[i], ys[i], q.1, q.2, by simp [h1], by simp [h2]⟩
  · obtain ⟨T, x, z, h1, h2, h3, h4, h5⟩ := y
    exact ⟨T, x, z, h1, h2, h3, h4 xs q.1, h5 ys q.2⟩
theorem hpR_take {F : List (List Nat)} {l : List Str} {i : Nat} {p : List Nat} {y : Str} (h1 : F[i]? = some p) (h2 : l[i]? = some y) (hl : (F.take i).length = (l.take i).length) : hpR (F.take (i + 1)) (l.take (i + 1)) = hpR (F.take i) (l.take i) ++ if y = "*" then [p] else [] := by
  rw [take_at h1, take_at h2, hpR_app hl]
  congr 1
  unfold hpR
  by_cases c : y = "*" <;> simp [c]
section
variable {P : Program} {w : World} {K : PySem.W.Frag} {mg : Str → Option Value} {base : Heap}
/-! written -/
/-! holes -/
def spHoles (K : PySem.W.Frag) : Sp := fun vs H Q E => ∃ (a r : Addr) (rows : List Sy.Row) (l : List Str), vs = [.ref a, .ref r] ∧ BedAt K H a rows ∧ SqT K H r (l.map V.str) ∧ (ckS rows l = none → ∀ H' v, Same H H' → Im K H' v (.tuple ((hpR (pths (wt rows l)) l).map DN)) → Q v H') ∧ (∀ e, ckS rows l = some e → RaE K e H E)
abbrev N_holes : List Str := ["bed", "stump", "path", "entry"]
theorem sc_holes : FnScope N_holes ["bed", "stump"] (defScope (top 28)) := ⟨rfl, rfl, rfl, by decide +kernel, rfl, by decide +kernel, by decide +kernel⟩
theorem k_holes (T : Txt K mg) (S : TxtS mg) (F : DF K mg "holes" 28) (c_check_stump : Cal P w K mg base 4 "check_stump" ["bed", "stump"] (spCheckE K ckS)) (c_row_paths : Cal P w K mg base 4 "row_paths" ["bed", "row"] (spPathsR K)) : Cal P w K mg base 5 "holes" ["bed", "stump"] (spHoles K) := by
  refine cal_of F.1 F.2 sc_holes (fun _ _ _ _ _ _ us e => match us, e with | [_, _], _ => rfl) (fun vs H Q E s => by obtain ⟨_, _, _, _, rfl, _⟩ := s; rfl) ?_
  intro cdv A outer s H vs Q E hr h
  obtain ⟨a, r, rows, l, rfl, hb, hR, hq, hE⟩ := h
  have sc := sc_holes
  refine ⟨_, (pss_cons (ps_expr (pe_calX c_check_stump hr (takes_of rfl rfl rfl rfl) (pa_cons (pv 0) (pa_cons (pv 1) pa_nil))))
      (pss_one (ps_ret (pe_callTy call_tuple_of (by rfl) T.tuple (by decide +kernel) (pa_cons (pe_lc (own := [("path", 2), ("entry", 3)]) (g := gTup K 2 (gCons (gName 2) (gCons (gName 3) (gNil)))) rfl sc.nd (pi_zipA (by rfl) S.zip (pa_cons (pe_cal c_row_paths hr (pa_cons (pv 0) (pa_cons (pv 1) pa_nil))) (pa_cons (pv 1) pa_nil))) (blkOk_by (N := N_holes) (sc := defScope (top 28)) (by decide +kernel)) (fun _ _ _ _ _ => (pg_tup rfl (pgs_cons (pg_name (i := 2) sc.nd rfl (Or.inl rfl)) (pgs_cons (pg_name (i := 3) sc.nd rfl (Or.inl rfl)) pgs_nil)))) (fun _ _ _ _ _ => (pts_one (pt_cmpR op_eq (pv 3) (pe_gstr rfl S.hole) (nomark _)))) (fun _ _ _ _ _ => (pv 2))) pa_nil))))), ?_⟩
  refine ⟨_, rfl, _, rfl, a, r, rows, l, rfl, hb, hR, fun ck H1 s1 => ?_, hE⟩
  have hst := stm_of ck
  have hl := hst.le
  have hwl := wt_len rows l
  refine ⟨_, rfl, _, rfl, a, r, rows, l, rfl, hb.mono (Stay.of s1), Same.sqt s1 hR, hst.fo, hl, fun H2 v s2 hv => ?_⟩
  have s12 := s1.trans s2
  obtain ⟨pa, ks, rfl, kt, ki⟩ := hv.tupI
  have kl : ks.length = l.length := by rw [ki.len, List.length_map, pths, pth_len, hwl]
  have hR2 := Same.sqt s12 hR
  refine ⟨_, rfl, pa, r, _, _, rfl, .inr ⟨kt, hR2, fun D hD => ?_⟩⟩
  refine lc_it (walk_zipT (K := K) (n := l.length) kl.symm (List.length_map _).symm) (fun i H' => ∃ B acc, Same H2 B ∧ Hs B [(D, .lst acc)] H' ∧ ImA K B acc ((hpR ((pths (wt rows l)).take i) (l.take i)).map DN) ∧ acc.length ≤ i) ⟨H2, [], Same.refl _, (Hs.start H2).new hD, .nil, Nat.le_refl _⟩ (fun _ _ _ ⟨B, _, s, h, _⟩ => ⟨Same.sqt (s.trans h.sub) kt, Same.sqt (s.trans h.sub) hR2⟩) ?_ ?_
  · rintro i x H3 H4 hi ⟨B, acc, sB, hh, im, hal⟩ ⟨Tt, x1, y1, rfl, hT, rfl, e1, e2⟩
    obtain ⟨y, hy, rfl⟩ := map_at e2
    obtain ⟨d, e0⟩ : ∃ d, (pths (wt rows l))[i]? = some d := by
      have : i < (pths (wt rows l)).length := by rw [pths_len, hwl]; omega
      exact ⟨_, List.getElem?_eq_getElem this⟩
    have ed : ((pths (wt rows l)).map DN)[i]? = some (DN d) := by rw [List.getElem?_map, e0]; rfl
    have tk := hpR_take (F := pths (wt rows l)) e0 hy (by rw [List.length_take, List.length_take, pths_len, hwl])
    obtain ⟨x2, ex2, ix⟩ := ki.get ed
    have e1 : ks[i]? = some x1 := e1
    rw [e1] at ex2
    cases ex2
    have hh := hh.lay (o := .tup [x1, .str y]) hT
    refine ⟨Tt, _, rfl, SqT.of upd_same, rfl, _, _, rfl, _, _, rfl, rfl, rfl, ?_⟩
    refine ⟨_, rfl, rfl, _, rfl, if_dec (fun c => ?_) (fun c => ?_)⟩
    · have c : y = "*" := V.str.inj c
      refine ⟨_, rfl, acc, hh.r0, by rw [sizeLine_eq]; omega, B, acc ++ [x1], sB, hh.w0, ?_, ?_⟩
      · rw [tk, if_pos c, List.map_append]
        exact im.snoc (ix.mono (Stay.of sB))
      · rw [List.length_append]; exact Nat.succ_le_succ hal
    · refine ⟨B, acc, sB, hh, ?_, by omega⟩
      rw [tk, if_neg fun z => c (by rw [z]), List.append_nil]
      exact im
  · rintro H3 ⟨B, acc, sB, hh, im, hal⟩
    have tl : (pths (wt rows l)).take l.length = pths (wt rows l) := List.take_of_length_le (by rw [pths_len, hwl]; exact Nat.le_refl _)
    rw [List.take_length, tl] at im
    refine ⟨D, _, rfl, .inl ⟨SqL.of hh.r0, fun p hp => ?_⟩⟩
    have sp := hh.sub.trans (up_same (o := .tup acc) hp)
    exact hq ck _ _ ((s12.trans sB).trans sp) (.tup (SqT.of upd_same) (im.mono (Stay.of sp)))
end
end Sy
namespace Sy
open PySem PySem.Spec PyProof.Rows L2 RZ
section
variable {P : Program} {w : World} {K : PySem.W.Frag} {mg : Str → Option Value} {base : Heap}
/-! substituted -/
def spSub (K : PySem.W.Frag) : Sp := fun vs H Q _ => ∃ (r d : Addr) (l : List Str) (cs : List (Nat × Addr)) (f : Nat → Option (List Str)), vs = [.ref r, .ref d] ∧ SqT K H r (l.map V.str) ∧ H d = some (.dK (iKV cs)) ∧ (∀ i, (lkA cs i = none ∧ f i = none) ∨ ∃ b p, lkA cs i = some b ∧ f i = some p ∧ SqT K H b (p.map V.str)) ∧ (subL f 0 l).length ≤ 1000000 ∧
  ∀ H' p, Same H H' → SqT K H' p ((subL f 0 l).map V.str) → Q (.ref p) H'
abbrev N_sub : List Str := ["row", "changes", "result", "index", "entry"]
theorem sc_sub : FnScope N_sub ["row", "changes"] (defScope (top 19)) := ⟨rfl, rfl, rfl, by decide +kernel, rfl, by decide +kernel, by decide +kernel⟩
theorem k_sub (T : Txt K mg) (F : DF K mg "substituted" 19) : Cal P w K mg base 1 "substituted" ["row", "changes"] (spSub K) := by
  refine cal_of F.1 F.2 sc_sub (fun _ _ _ _ _ _ us e => match us, e with | [_, _], _ => rfl) (fun vs H Q E s => by obtain ⟨_, _, _, _, _, rfl, _⟩ := s; rfl) ?_
  intro cdv A outer s H vs Q E hr h
  obtain ⟨r, d, l, cs, f, rfl, hR, hd, hf, hlen, hq⟩ := h
  have hu := hu_of hr
  have sc := sc_sub
  refine ⟨_, (pss_cons (ps_set (i := 2) sc.nd rfl (Or.inl rfl) (pe_lst pa_nil))
      (pss_cons (ps_for (passes_of rfl) rfl (pi_enumT (by rfl) T.enumerate (pa_cons (pv 0) pa_nil)) (pg_tup rfl (pgs_cons (pg_name (i := 3) sc.nd rfl (Or.inl rfl)) (pgs_cons (pg_name (i := 4) sc.nd rfl (Or.inl rfl)) pgs_nil)))
        (pss_one (ps_if (pt_cmp (pc_din hu (pv 3) (pv 1)))
          (pss_one (ps_expr (pe_bm PySem.F.plainAttrs_list PySem.F.slot_list_extend PySem.F.type_list_extend mt_extend (pv 2) (pa_cons (pe_callTy call_list_of (by rfl) T.list (by decide +kernel) (pa_cons (pe_dget hu (pv 1) (pv 3) (fun _ _ => rfl)) pa_nil)) pa_nil))))
          (pss_one (ps_expr (pe_bm PySem.F.plainAttrs_list PySem.F.slot_list_append PySem.F.type_list_append mt_append (pv 2) (pa_cons (pv 4) pa_nil)))))))
      (pss_one (ps_ret (pe_callTy call_tuple_of (by rfl) T.tuple (by decide +kernel) (pa_cons (pv 2) pa_nil)))))), ?_⟩
  refine ⟨by decide, fun D hD => ?_⟩
  have h1 := (Hs.start H).new (o := .lst []) hD
  refine ⟨_, rfl, r, _, rfl, Same.sqt h1.sub hR, for_enumT (K := K) (xs := l.map V.str) (fun i σ H' => ∃ t3 t4, σ = [some (.ref r), some (.ref d), some (.ref D), t3, t4] ∧ Hs H [(D, .lst ((subL f 0 (l.take i)).map V.str))] H') ⟨none, none, rfl, h1⟩ (fun _ _ _ _ ⟨_, _, _, h⟩ => Same.sqt h.sub hR) ?_ ?_⟩
  · rintro i x σ H1 Tt hx ⟨t3, t4, rfl, hh⟩ hT
    obtain ⟨y, hy, rfl⟩ := map_at hx
    have hh := hh.lay (o := .tup [.int (i : Nat), .str y]) hT
    have hd1 := hh.sub _ _ hd
    have le1 := subL_le (f := f) (l := l) (i := i + 1)
    have tk := subL_take (f := f) hy
    have tl : (subL f 0 (l.take i)).length + (orOne (f i) y).length ≤ 1000000 := by
      rw [tk, List.length_append] at le1
      omega
    have vi := valV_iKV i cs
    refine ⟨_, rfl, _, rfl, d, _, rfl, DGet.k (k := Sum.inl (i : Int)) hd1, _, rfl, ?_⟩
    rcases hf i with ⟨e1, e2⟩ | ⟨b, p, e1, e2, tp⟩
    · rw [vi, e1]
      refine iteF ⟨_, rfl, .inl ⟨rfl, _, SqL.of hh.r0⟩, _, rfl, D, _, _, rfl, rfl, hh.r0, ?_, _, _, rfl, ?_⟩
      · rw [List.length_map, sizeLine_eq]
        omega
      · rw [tk, e2, List.map_append]
        exact hh.w0
    · have vs : valV (iKV cs) (Sum.inl (i : Int) : Key) = some (.ref b) := by rw [vi, e1]; rfl
      rw [vs]
      refine iteT ⟨_, rfl, .inl ⟨rfl, _, SqL.of hh.r0⟩, _, rfl, _, rfl, d, .ref b, rfl, ?_, b, _, rfl, .inr (Same.sqt hh.sub tp), fun m hm2 => ?_⟩
      · rw [← vs]
        exact DGet.k (k := Sum.inl (i : Int)) hd1
      · have g3 := hh.lay (o := .lst (p.map V.str)) hm2
        rw [e2] at tl tk
        have tl : (subL f 0 (l.take i)).length + p.length ≤ 1000000 := tl
        refine ⟨D, m, _, _, rfl, rfl, g3.r0, upd_same, ?_, _, _, rfl, ?_⟩
        · rw [List.length_map, List.length_map, sizeLine_eq]
          omega
        · rw [tk, List.map_append]
          exact g3.w0
  · rintro σ H1 ⟨t3, t4, rfl, hh⟩
    rw [List.length_map, List.take_length] at hh
    exact ⟨_, rfl, D, _, rfl, .inl ⟨SqL.of hh.r0, fun p hp => hq _ _ (hh.sub.trans (up_same hp)) (SqT.of upd_same)⟩⟩
/-! filled -/
def fillDue (rows : List Sy.Row) (l : List Str) (ls : List (List Str)) : Option Er := match ckS rows l with
  | some e => some e
  | none => if ls.length ≠ l.count ("*" : Str) then some (.wrong (l.count ("*" : Str)) ls.length) else match fstE (ckS rows) ls with
    | some e => some e
    | none => if 2000 < l.length - ls.length + ls.flatten.length then some .many else none
def spFilled (K : PySem.W.Frag) : Sp := fun vs H Q E => ∃ (a r b : Addr) (rows : List Sy.Row) (l : List Str) (bs : List Addr) (ls : List (List Str)), vs = [.ref a, .ref r, .ref b] ∧ BedAt K H a rows ∧ SqT K H r (l.map V.str) ∧ SqT K H b (bs.map V.ref) ∧ Paired (fun q (l : List Str) => SqT K H q (l.map V.str)) bs ls ∧ ls.length ≤ 100 ∧
  (fillDue rows l ls = none → ∀ H' p, Same H H' → SqT K H' p ((fillW l ls).map V.str) → Q (.ref p) H') ∧ (∀ e, fillDue rows l ls = some e → RaE K e H E)
abbrev N_filled : List Str := ["bed", "stump", "pieces", "places", "piece", "changes", "place", "index", "entry"]
theorem sc_filled : FnScope N_filled ((["bed", "stump"] : List Str) ++ (["pieces"] : List Str)) (defScope (top 29)) := ⟨rfl, rfl, rfl, by decide +kernel, rfl, by decide +kernel, by decide +kernel⟩
theorem flat_len (ls : List (List Str)) : ls.flatten.length = (ls.map (·.length)).sum := List.length_flatten
theorem sum_int (ns : List Nat) : (ns.map fun n : Nat => (n : Int)).sum = ((ns.sum : Nat) : Int) := by
  induction ns with
  | nil => rfl
  | cons n ns ih => rw [List.map_cons, List.sum_cons, List.sum_cons, ih]; omega
theorem r_filled (T : Txt K mg) (S : TxtS mg) (R : Ers P K mg) (F : DF K mg "filled" 29) (c_check_stump : Cal P w K mg base 4 "check_stump" ["bed", "stump"] (spCheckE K ckS)) (c_check_count : Cal P w K mg base 3 "check_count" ["number"] (spCount K)) (c_substituted : Cal P w K mg base 1 "substituted" ["row", "changes"] (spSub K)) :
    CalR P w K mg base 5 "filled" (spStar 2 (spFilled K)) := by
  obtain ⟨⟨fd, F⟩, at_⟩ := F
  refine ⟨fnR_of (ps := ["bed", "stump"]) F sc_filled (fun kV doc pm an cdv ct => StX.bind_star2 (B := fun l => bindArgs (PySem.W.fnOf "filled" "filled" (defArgs (top 29)) (defBody (top 29)) (defScope (top 29)) .none kV doc pm an cdv ct) ⟨l, []⟩) (fun _ _ => rfl) (fun _ _ _ _ => rfl)) ?_, at_, F.kp⟩
  intro cdv A outer s H vs Q E hr h
  obtain ⟨a, r, b, rows, l, bs, ls, rfl, hb, hR, hB, hP, hl2, hq, hE⟩ := h
  have hu := hu_of hr
  have sc := sc_filled
  refine ⟨_, (pss_cons (ps_expr (pe_calX c_check_stump hr (takes_of rfl rfl rfl rfl) (pa_cons (pv 0) (pa_cons (pv 1) pa_nil))))
      (pss_cons (ps_setLc (i := 3) (own := [("index", 7), ("entry", 8)]) (g := gTup K 2 (gCons (gName 7) (gCons (gName 8) (gNil)))) rfl sc.nd rfl rfl (sw_true rfl rfl rfl (by decide +kernel)) (pi_enumT (by rfl) T.enumerate (pa_cons (pv 1) pa_nil)) (blkOk_by (N := N_filled) (sc := defScope (top 29)) (by decide +kernel)) (fun _ _ _ _ _ => (pg_tup rfl (pgs_cons (pg_name (i := 7) sc.nd rfl (Or.inl rfl)) (pgs_cons (pg_name (i := 8) sc.nd rfl (Or.inl rfl)) pgs_nil)))) (fun _ _ _ _ _ => (pts_one (pt_cmpR op_eq (pv 8) (pe_gstr rfl S.hole) (nomark _)))) (fun _ _ _ _ _ => (pv 7)))
      (pss_cons (ps_if (pt_cmpR op_ne (pe_callB call_len_seq (by rfl) T.len (by decide +kernel) (pa_cons (pv 2) pa_nil)) (pe_callB call_len_seq (by rfl) T.len (by decide +kernel) (pa_cons (pv 3) pa_nil)) (nomark _))
        (pss_one (ps_raise rfl (takes_of rfl rfl rfl rfl) (mk_wb R.wb hr rfl (pa_cons (pe_callB call_len_seq (by rfl) T.len (by decide +kernel) (pa_cons (pv 3) pa_nil)) (pa_cons (pe_callB call_len_seq (by rfl) T.len (by decide +kernel) (pa_cons (pv 2) pa_nil)) pa_nil)) pass0)))
        pss_nil)
      (pss_cons (ps_for (passes_of rfl) rfl (pi_tup (pv 2)) (pg_name (i := 4) sc.nd rfl (Or.inl rfl))
        (pss_one (ps_expr (pe_calX c_check_stump hr (takes_of rfl rfl rfl rfl) (pa_cons (pv 0) (pa_cons (pv 4) pa_nil))))))
      (pss_cons (ps_expr (pe_calX c_check_count hr (takes_of rfl rfl rfl rfl) (pa_cons (pe_op op_add (pe_op op_sub (pe_callB call_len_seq (by rfl) T.len (by decide +kernel) (pa_cons (pv 1) pa_nil)) (pe_callB call_len_seq (by rfl) T.len (by decide +kernel) (pa_cons (pv 2) pa_nil))) (pe_callB (cr_sum rfl) (by rfl) S.sum (by decide +kernel) (pa_cons (pe_lc (own := [("piece", 4)]) (g := gName 4) (te := tCB (fun xs H Q => ∃ p ys, xs = [V.ref p] ∧ (SqL K H p ys ∨ SqT K H p ys) ∧ Q (V.int (ys.length : Nat)) H) (tCons (tVar 4) tNil)) rfl sc.nd (pi_tup (pv 2)) (blkOk_by (N := N_filled) (sc := defScope (top 29)) (by decide +kernel)) (fun _ _ _ _ _ => (pg_name (i := 4) sc.nd rfl (Or.inl rfl))) (fun _ _ _ _ _ => pts_nil) (fun _ _ _ _ _ => (pe_callB call_len_seq (by rfl) T.len (by decide +kernel) (pa_cons (pv 4) pa_nil)))) pa_nil))) pa_nil)))
      (pss_cons (ps_set (i := 5) sc.nd rfl (Or.inl rfl) pe_dnewK)
      (pss_cons (ps_for (passes_of rfl) rfl (pi_zipM (by rfl) S.zip (pa_cons (pv 3) (pa_cons (pv 2) pa_nil))) (pg_tup rfl (pgs_cons (pg_name (i := 6) sc.nd rfl (Or.inl rfl)) (pgs_cons (pg_name (i := 4) sc.nd rfl (Or.inl rfl)) pgs_nil)))
        (pss_one (ps_dput hu (pv 5) (pv 6) (pv 4) rfl)))
      (pss_one (ps_ret (pe_cal c_substituted hr (pa_cons (pv 1) (pa_cons (pv 5) pa_nil)))))))))))), ?_⟩
  have hbl := paired_len hP
  refine ⟨_, rfl, _, rfl, a, r, rows, l, rfl, hb, hR, fun ck H1 s1 => ?_, fun e c => hE e (by unfold fillDue; rw [c])⟩
  have hst := stm_of ck
  have hll := hst.le
  have hR1 := Same.sqt s1 hR
  refine ⟨_, rfl, r, _, rfl, hR1, fun D hD => lc_it walkE (fun i H' => Hs H1 [(D, .lst (vN (plc 0 (l.take i))))] H') ((Hs.start H1).new hD) (fun _ _ _ h => Same.sqt h.sub hR1) ?_ ?_⟩
  · rintro i x H2 H3 hi hh ⟨Tt, u1, u2, rfl, hT, rfl, e1, e2⟩
    cases e1
    have e2 : (l.map V.str)[i]? = some u2 := e2
    obtain ⟨y, hy, rfl⟩ := map_at e2
    rw [List.length_map] at hi
    have hh := hh.lay (o := .tup [.int (i : Nat), .str y]) hT
    have pa : plc 0 (l.take (i + 1)) = plc 0 (l.take i) ++ plc i [y] := by
      rw [take_at hy, plc_app, List.length_take, show 0 + min i l.length = i by omega]
    have pl := plc_len (l.take i) 0
    have pc := List.count_le_length (a := ("*" : Str)) (l := l.take i)
    rw [List.length_take] at pc
    refine ⟨Tt, _, rfl, SqT.of upd_same, rfl, _, _, rfl, _, _, rfl, rfl, rfl, ?_⟩
    refine ⟨_, rfl, rfl, _, rfl, if_dec (fun c => ?_) (fun c => ?_)⟩
    · have c : y = "*" := V.str.inj c
      refine ⟨_, rfl, _, hh.r0, by rw [List.length_map, sizeLine_eq]; omega, ?_⟩
      rw [pa, plc, if_pos c, plc, vN_snoc]
      exact hh.w0
    · have c : ¬ y = "*" := fun z => c (by rw [z])
      rw [pa, plc, if_neg c, plc, List.append_nil]
      exact hh
  intro H2 h2
  rw [List.length_map, List.take_length] at h2
  have plen := plc_len l 0
  have hcl := List.count_le_length (a := ("*" : Str)) (l := l)
  generalize hps : plc 0 l = ps at *
  have s2 := s1.trans h2.sub
  have hB2 := Same.sqt s2 hB
  refine ⟨_, rfl, b, _, rfl, .inr hB2, _, rfl, D, _, rfl, .inl (SqL.of h2.r0), rfl, _, rfl, ?_⟩
  rw [List.length_map, List.length_map, hbl, plen]
  refine if_ndec (fun c => ?_) (fun c => ?_)
  · have c : ls.length ≠ l.count ("*" : Str) := fun z => c (by rw [z])
    refine ⟨_, rfl, D, _, rfl, .inl (SqL.of h2.r0), _, rfl, b, _, rfl, .inr hB2, mk_ra (fun _ _ => ⟨l.count ("*" : Str), ls.length, by rw [List.length_map, List.length_map, hbl, plen], by omega, by omega, rfl⟩) (by show 2 ≤ 1000; decide) (((hE (.wrong (l.count ("*" : Str)) ls.length) (by unfold fillDue; rw [ck]; exact if_pos c)).mono s2).ra (.cons (.int _) (.cons (.int _) .nil)))⟩
  have hn : ls.length = l.count ("*" : Str) := by have := V.int.inj c; omega
  have due : fillDue rows l ls = match fstE (ckS rows) ls with
      | some e => some e
      | none => if 2000 < l.length - ls.length + ls.flatten.length then some .many else none := by
    unfold fillDue
    rw [ck]
    exact if_neg (fun z => z hn)
  -- each piece is looked at
  refine ⟨_, rfl, b, rfl, ⟨_, hB2⟩, for_tup (K := K) (a := b) (xs := bs.map V.ref) (fun i σ H' => ∃ t4 B, σ = [some (.ref a), some (.ref r), some (.ref b), some (.ref D), t4, none, none, none, none] ∧ Same H1 B ∧ Hs B [(D, .lst (vN ps))] H' ∧ ∀ z ∈ ls.take i, ckS rows z = none) ⟨none, H1, rfl, Same.refl H1, h2, fun _ z => (nomatch z)⟩ (fun _ _ _ _ ⟨_, _, _, s, z, _⟩ => Same.sqt ((s1.trans s).trans z.sub) hB) ?_ ?_⟩
  · rintro i v σ H3 hv ⟨t4, B, rfl, sB, hh, hpl⟩
    obtain ⟨q, eq, rfl⟩ := map_at hv
    have hi : i < ls.length := by rw [← hbl]; exact (List.getElem?_eq_some_iff.mp eq).1
    obtain ⟨z, el⟩ : ∃ z, ls[i]? = some z := ⟨_, List.getElem?_eq_getElem hi⟩
    obtain ⟨q2, eq2, tq⟩ := paired_at hP el
    rw [eq] at eq2
    cases eq2
    have sH := (s1.trans sB).trans hh.sub
    refine ⟨_, rfl, _, rfl, a, q, rows, z, rfl, hb.mono (Stay.of sH), Same.sqt sH tq, fun ck2 H4 s4 => ?_, fun e c => (hE e (by rw [due, fstE_at hpl el c])).mono sH⟩
    obtain ⟨g1, g2⟩ := hh.after s4
    refine ⟨_, _, rfl, sB.trans g1, g2, fun y hy => ?_⟩
    rw [take_at el] at hy
    rcases List.mem_append.mp hy with hy | hy
    · exact hpl y hy
    · rw [show y = z by simpa using hy]
      exact ck2
  rintro σ H3 ⟨t4, B, rfl, sB, hh, hpl⟩
  rw [List.length_map, hbl, List.take_length] at hpl
  rw [fstE_none hpl] at due
  have due : fillDue rows l ls = if 2000 < l.length - ls.length + ls.flatten.length then some .many else none := due
  have sH := (s1.trans sB).trans hh.sub
  have hfl := flat_le (m := 2000) (ls := ls) fun z hz => (stm_of (hpl z hz)).le
  have hB3 := Same.sqt (s1.trans sB) hB
  -- how many they are together
  refine ⟨_, rfl, r, _, rfl, .inr (Same.sqt sH hR), _, rfl, b, _, rfl, .inr (Same.sqt sH hB), _, _, rfl, rfl, ?_⟩
  refine ⟨_, rfl, b, rfl, ⟨_, Same.sqt sH hB⟩, fun D2 hD2 => lc_map (si := 4) hh hD2 hB3 (by rw [List.length_map]; omega) (fun i B' acc => acc = vN ((ls.take i).map (·.length))) rfl ?_ ?_⟩
  · rintro i x B' acc H4 hx s4 rfl h4 R hR4
    obtain ⟨q, eq, rfl⟩ := map_at hx
    have hi : i < ls.length := by rw [← hbl]; exact (List.getElem?_eq_some_iff.mp eq).1
    obtain ⟨z, el⟩ : ∃ z, ls[i]? = some z := ⟨_, List.getElem?_eq_getElem hi⟩
    obtain ⟨q2, eq2, tq⟩ := paired_at hP el
    rw [eq] at eq2
    cases eq2
    refine ⟨_, rfl, q, _, rfl, .inr (Same.sqt (((s1.trans sB).trans s4).trans h4.sub) tq), hR4 _ _ B' (Same.refl _) h4 ?_⟩
    rw [take_at el, List.map_append, vN, vN, List.map_append, List.length_map]
    rfl
  rintro B' acc H4 s4 rfl h4
  rw [List.length_map, hbl, List.take_length] at h4
  have s04 := ((s1.trans sB).trans s4).trans h4.sub
  refine ⟨D2, (ls.map (·.length)).map fun n : Nat => (n : Int), rfl, SqL.of (by rw [h4.r0, vN, List.map_map, List.map_map, List.map_map]; rfl), _, _, rfl, rfl, _, rfl, fun c => ?_, fun c => ((hE .many ?_).mono s04).ra im_tm⟩
  · rw [sum_int, List.length_map, List.length_map, hbl, ← flat_len] at c
    have dn : fillDue rows l ls = none := by rw [due, if_neg (by omega)]
    have hq := hq dn
    have h5 := h4.drop
    intro d hd
    have h6 := h5.new (o := .dK []) hd
    have hP1 : Paired (fun q (l : List Str) => SqT K H1 q (l.map V.str)) bs ls := Paired.mapP hP fun _ _ z => Same.sqt s1 z
    have sB4 := sB.trans s4
    have pbl : ps.length = (bs.map V.ref).length := by rw [List.length_map, hbl, hn, plen]
    have nd : ps.Nodup := by rw [← hps]; exact plc_nd l 0
    refine ⟨_, rfl, _, rfl, D, b, _, _, rfl, SqL.of h6.r1, Same.sqt ((s1.trans sB4).trans h6.sub) hB, for_it (walk_zipM (K := K) (n := (vN ps).length) rfl (by rw [List.length_map]; exact pbl)) (fun i σ H' => ∃ t4 t6, σ = [some (.ref a), some (.ref r), some (.ref b), some (.ref D), t4, some (.ref d), t6, none, none] ∧ Hs B' [(d, .dK (iKV ((ps.zip bs).take i))), (D, .lst (vN ps))] H') ⟨_, _, rfl, h6⟩ (fun _ _ _ _ ⟨_, _, _, z⟩ => ⟨SqL.of z.r1, Same.sqt ((s1.trans sB4).trans z.sub) hB⟩) ?_ ?_⟩
    · rintro i v σ H5 H6 hi ⟨t4, t6, rfl, hh⟩ ⟨T1, u1, u2, rfl, hT, rfl, e1, e2⟩
      have e1 : (vN ps)[i]? = some u1 := e1
      have e2 : (bs.map V.ref)[i]? = some u2 := e2
      obtain ⟨m, em, rfl⟩ := map_at e1
      obtain ⟨q, eq, rfl⟩ := map_at e2
      have hh := hh.lay (o := .tup [.int (m : Nat), .ref q]) hT
      have ez : (ps.zip bs)[i]? = some (m, q) := by rw [List.getElem?_zip_eq_some]; exact ⟨em, eq⟩
      have vn : valV (iKV ((ps.zip bs).take i)) (Sum.inl (m : Int) : Key) = none := by
        rw [valV_iKV, lkA_none fun z hz => ?_]
        · rfl
        · obtain ⟨j, hj, e⟩ := List.mem_iff_getElem.mp hz
          rw [List.getElem_take] at e
          rw [List.length_take] at hj
          intro e3
          have ej : (ps.zip bs)[j]? = some z := by rw [← e]; exact List.getElem?_eq_getElem (by omega)
          obtain ⟨ej1, _⟩ := List.getElem?_zip_eq_some.mp ej
          rw [e3] at ej1
          have hjp : j < ps.length := (List.getElem?_eq_some_iff.mp ej1).1
          have hip : i < ps.length := (List.getElem?_eq_some_iff.mp em).1
          have := (List.getElem?_inj hjp nd).mp (ej1.trans em.symm)
          omega
      have zsz : (iKV ((ps.zip bs).take i)).length < sizeLine := by
        rw [iKV, List.length_map, List.length_take, List.length_zip, sizeLine_eq]
        omega
      refine ⟨T1, _, rfl, SqT.of upd_same, rfl, _, _, rfl, _, _, rfl, rfl, ?_⟩
      refine ⟨_, rfl, _, rfl, _, rfl, d, _, rfl, DPut.k (k := Sum.inl (m : Int)) hh.r0 zsz, _, _, rfl, ?_⟩
      rw [putK_new _ vn]
      have := hh.w0 (o' := .dK (iKV ((ps.zip bs).take (i + 1))))
      rw [take_at ez, iKV, List.map_append] at this
      rw [take_at ez]
      rw [iKV, List.map_append]
      exact this
    · rintro σ H5 ⟨t4, t6, rfl, hh⟩
      have sH5 := (s1.trans sB4).trans hh.sub
      have ef : (ps.zip bs).take (vN ps).length = ps.zip bs := List.take_of_length_le (by rw [List.length_zip, List.length_map]; omega)
      rw [ef] at hh
      have sub := sub_fill l 0 ls (by rw [hps, plen, hn])
      rw [hps] at sub
      have fl := fillW_len l ls
      refine ⟨_, rfl, _, rfl, r, d, l, ps.zip bs, lkN (ps.zip ls), rfl, Same.sqt sH5 hR, hh.r0, fun i => ?_, by rw [sub]; omega, fun H7 p s7 tp => hq _ _ (sH5.trans s7) (by rw [sub] at tp; exact tp)⟩
      exact lk_paired (Paired.mapP hP fun _ _ z => Same.sqt sH5 z)
  · rw [sum_int, List.length_map, List.length_map, hbl, ← flat_len] at c
    rw [due, if_pos (by omega)]
end
end Sy
namespace Sy
open PySem PySem.Spec PyProof.Rows L2
/-- the law's bag of draws -/
def BagOk (l : List Int) : Prop := ∃ a b c d r, l = a :: b :: c :: d :: r ∧ 0 ≤ a ∧ 4 ≤ d ∧ ∀ x ∈ r, 0 ≤ x
/-- a bag stands at g -/
def Bag (g : Addr) (H : Hp) : Prop := ∃ l : List Int, BagOk l ∧ H g = some (.lst (l.map V.int))
/-- the bag at g is another one, nothing else has changed -/
def Dr (g : Addr) (H H' : Hp) : Prop := ∃ l : List Int, BagOk l ∧ Chg g (.lst (l.map V.int)) H H'
theorem Chg.upd {g : Addr} {o o' : HO} {H H1 : Hp} (c : Chg g o H H1) : Chg g o' H (L2.upd H1 g o') := ⟨upd_same, fun a w n e => by rw [upd_ne n]; exact c.2 a w n e⟩
theorem Chg.refl {g : Addr} {o : HO} {H : Hp} (h : H g = some o) : Chg g o H H := ⟨h, fun _ _ _ e => e⟩
section
variable {P : Program} {w : World} {K : PySem.W.Frag} {mg : Str → Option Value} {base : Heap}
def spDraw : Sp := fun vs H Q _ => ∃ (g : Addr) (n : Nat), vs = [.ref g, .int (n : Nat)] ∧ Bag g H ∧ 1 ≤ n ∧ n < 1000000000 ∧ ∀ (r : Nat) H', r < n → Dr g H H' → Q (.int (r : Nat)) H'
abbrev N_draw : List Str := ["_law_bag_here", "_law_size", "_law_cell", "_law_digit", "_law_mixed"]
theorem sc_draw : FnScope N_draw ["_law_bag_here", "_law_size"] (defScope (top 42)) := ⟨rfl, rfl, rfl, by decide +kernel, rfl, by decide +kernel, by decide +kernel⟩
theorem at0 {a b c d : Int} {r : List Int} : atI ((a :: b :: c :: d :: r).map V.int) (0 : Int) = some (.int a) := atI_nat (j := 0) rfl
theorem at1 {a b c d : Int} {r : List Int} : atI ((a :: b :: c :: d :: r).map V.int) (1 : Int) = some (.int b) := atI_nat (j := 1) rfl
theorem at2 {a b c d : Int} {r : List Int} : atI ((a :: b :: c :: d :: r).map V.int) (2 : Int) = some (.int c) := atI_nat (j := 2) rfl
theorem at3 {a b c d : Int} {r : List Int} : atI ((a :: b :: c :: d :: r).map V.int) (3 : Int) = some (.int d) := atI_nat (j := 3) rfl
theorem ix4 {a b c d : Int} {r : List Int} (j : Nat) (h : j < 4) : ixN ((a :: b :: c :: d :: r).map V.int).length (j : Int) = some j := ixN_nat (by rw [List.length_map]; simp only [List.length_cons]; omega)
theorem k_draw (T : Txt K mg) (F : DF K mg "_law_draw" 42) : Cal P w K mg base 1 "_law_draw" ["_law_bag_here", "_law_size"] spDraw := by
  refine cal_of F.1 F.2 sc_draw (fun _ _ _ _ _ _ us e => match us, e with | [_, _], _ => rfl) (fun vs H Q E s => by obtain ⟨_, _, rfl, _⟩ := s; rfl) ?_
  intro cdv A outer s H vs Q E hr h
  obtain ⟨g, n, rfl, ⟨l0, ⟨a, b, c, d, r, rfl, ha, hd, hrs⟩, hg⟩, hn, hn2, hq⟩ := h
  have sc := sc_draw
  -- what follows the first if
  have tail : ∃ t, PSs (cxOf (L2.CX P w) P w K mg base N_draw "_law_draw" (defScope (top 42)) (He.ga K "_law_draw") cdv A outer s H E) ((defBody (top 42)).drop 2) t ∧
      ∀ (t2 : Option V) (H1 : Hp) (a b c d : Int), 0 ≤ a → 4 ≤ d → Chg g (.lst ((a :: b :: c :: d :: r).map V.int)) H H1 → t { nx := fun _ H' => Q .non H', rt := Q } [some (.ref g), some (.int (n : Nat)), t2, none, none] H1 := by
    refine ⟨_, (pss_cons (ps_if (pt_cmpR op_gt (pe_ix ix_list (pv 0) pe_int (fun _ _ => rfl)) pe_int (nomark _))
        (pss_cons (ps_set (i := 3) sc.nd rfl (Or.inl rfl) (pe_op op_mod (pe_callTy call_int1 (by rfl) T.int (by decide +kernel) (pa_cons (pe_ix ix_list (pv 0) pe_int (fun _ _ => rfl)) pa_nil)) (pv 1)))
        (pss_cons (ps_asg (pe_op op_fdiv (pe_ix ix_list (pv 0) pe_int (fun _ _ => rfl)) (pv 1)) (pg_sub (pv 0) pe_int set_list))
        (pss_one (ps_ret (pv 3)))))
        pss_nil)
      (pss_cons (ps_set (i := 4) sc.nd rfl (Or.inl rfl) (pe_op op_mod (pe_callTy call_int1 (by rfl) T.int (by decide +kernel) (pa_cons (pe_op op_add (pe_op op_add (pe_op op_mul (pe_ix ix_list (pv 0) pe_int (fun _ _ => rfl)) pe_int) (pe_op op_mul (pe_ix ix_list (pv 0) pe_int (fun _ _ => rfl)) pe_int)) pe_int) pa_nil)) pe_int))
      (pss_cons (ps_set (i := 4) sc.nd rfl (Or.inl rfl) (pe_op op_mod (pe_callTy call_int1 (by rfl) T.int (by decide +kernel) (pa_cons (pe_op op_add (pe_op op_mul (pv 4) (pe_op op_add (pe_op op_fdiv (pv 4) pe_int) pe_int)) (pe_ix ix_list (pv 0) pe_int (fun _ _ => rfl))) pa_nil)) pe_int))
      (pss_one (ps_ret (pe_op op_mod (pe_callTy call_int1 (by rfl) T.int (by decide +kernel) (pa_cons (pe_op op_fdiv (pv 4) pe_int) pa_nil)) (pv 1))))))), ?_⟩
    intro t2 H1 a b c d ha hd cg
    have dr : Dr g H H1 := ⟨_, ⟨a, b, c, d, r, rfl, ha, hd, hrs⟩, cg⟩
    have S := SqL.of (K := K) cg.1
    have modr : ∀ x : Int, ∃ k : Nat, x % (n : Int) = (k : Int) ∧ k < n := fun x => by
      have h1 := Int.emod_nonneg x (show (n : Int) ≠ 0 by omega)
      have h2 := Int.emod_lt_of_pos x (show (0 : Int) < n by omega)
      exact ⟨(x % (n : Int)).toNat, by omega, by omega⟩
    refine ⟨_, rfl, g, _, _, _, rfl, rfl, S, at0, _, _, rfl, rfl, _, rfl, if_dec (fun c1 => ?_) (fun c1 => ?_)⟩
    · obtain ⟨k, ek, hk⟩ := modr a
      refine ⟨_, rfl, g, _, _, _, rfl, rfl, S, at0, .inl ⟨a, rfl, _, rfl, _, _, rfl, rfl, (by omega), ?_⟩⟩
      refine ⟨_, rfl, g, _, _, _, rfl, rfl, S, at0, _, rfl, _, _, rfl, rfl, ⟨by omega, by omega⟩, _, rfl, g, _, _, 0, rfl, rfl, cg.1, ix4 0 (by decide), _, rfl, ?_⟩
      have q := hq k (L2.upd H1 g (.lst ((a / (n : Int) :: b :: c :: d :: r).map V.int))) hk ⟨_, ⟨_, b, c, d, r, rfl, Int.ediv_nonneg ha (by omega), hd, hrs⟩, cg.upd⟩
      rw [← ek] at q
      exact q
    · refine ⟨_, rfl, g, _, _, _, rfl, rfl, S, at1, _, _, rfl, rfl, .inr (by decide), _, rfl, g, _, _, _, rfl, rfl, S, at2, _, _, rfl, rfl, .inr (by decide), _, _, rfl, rfl, _, _, rfl, rfl, .inl ⟨_, rfl, _, _, rfl, rfl, (by show (0 : Int) < 2147483647; decide), ?_⟩⟩
      refine ⟨_, rfl, _, rfl, _, _, rfl, rfl, ⟨by decide, by decide⟩, _, _, rfl, rfl, _, _, rfl, rfl, .inl ⟨by omega, by omega⟩, _, rfl, g, _, _, _, rfl, rfl, S, at2, _, _, rfl, rfl, .inl ⟨_, rfl, _, _, rfl, rfl, (by show (0 : Int) < 2147483399; decide), ?_⟩⟩
      refine ⟨_, rfl, _, _, rfl, rfl, ⟨by decide, by decide⟩, .inl ⟨_, rfl, _, rfl, _, _, rfl, rfl, (by omega), ?_⟩⟩
      generalize ((b * 1103515245 + c * 1640531527 + 12345) % 2147483647 * ((b * 1103515245 + c * 1640531527 + 12345) % 2147483647 / 65536 + 3) + c) % 2147483399 / 64 = m
      obtain ⟨k, ek, hk⟩ := modr m
      have q := hq k H1 hk dr
      rw [← ek] at q
      exact q
  obtain ⟨t, pt, ht⟩ := tail
  refine ⟨_, (pss_cons (ps_asg (pe_op op_add (pe_ix ix_list (pv 0) pe_int (fun _ _ => rfl)) pe_int) (pg_sub (pv 0) pe_int set_list))
      (pss_cons (ps_if (PW.pt (pw_and (pt_cmpR op_eq (pe_ix ix_list (pv 0) pe_int (fun _ _ => rfl)) pe_int (nomark _)) (pw_and1 (pt_cmpR op_lt (pe_ix ix_list (pv 0) pe_int (fun _ _ => rfl)) (pe_callB call_len_seq (by rfl) T.len (by decide +kernel) (pa_cons (pv 0) pa_nil)) (nomark _)))))
        (pss_cons (ps_set (i := 2) sc.nd rfl (Or.inl rfl) (pe_ix ix_list (pv 0) (pe_ix ix_list (pv 0) pe_int (fun _ _ => rfl)) (fun _ _ => rfl)))
        (pss_cons (ps_asg (pe_op op_add (pe_ix ix_list (pv 0) pe_int (fun _ _ => rfl)) pe_int) (pg_sub (pv 0) pe_int set_list))
        (pss_one (ps_if (pt_cmpR op_lt (pv 2) (pe_op op_pow pe_int pe_int) (nomark _))
          (pss_one (ps_asg (pe_op op_mod (pe_callTy call_int1 (by rfl) T.int (by decide +kernel) (pa_cons (pe_op op_add (pe_op op_add (pe_op op_mul (pe_ix ix_list (pv 0) pe_int (fun _ _ => rfl)) pe_int) (pv 2)) pe_int) pa_nil)) pe_int) (pg_sub (pv 0) pe_int set_list)))
          (pss_one (ps_asg (pv 2) (pg_sub (pv 0) pe_int set_list)))))))
        pss_nil)
      pt)), ?_⟩
  have S := SqL.of (K := K) hg
  refine ⟨_, rfl, g, _, _, _, rfl, rfl, S, at2, _, _, rfl, rfl, _, rfl, g, _, _, 2, rfl, rfl, hg, ix4 2 (by decide), ?_⟩
  have c1 : Chg g (.lst ((a :: b :: (c + 1) :: d :: r).map V.int)) H (L2.upd H g (.lst ((a :: b :: (c + 1) :: d :: r).map V.int))) := (Chg.refl hg).upd
  have S1 := SqL.of (K := K) c1.1
  refine ⟨_, rfl, g, _, _, _, rfl, rfl, S1, at0, rfl, _, rfl, if_dec (fun q1 => ?_) (fun q1 => ?_)⟩
  · refine ⟨_, rfl, g, _, _, _, rfl, rfl, S1, at3, _, rfl, g, _, rfl, .inl S1, _, _, rfl, rfl, _, rfl, if_dec (fun q2 => ?_) (fun q2 => ?_)⟩
    · rw [List.length_map] at q2
      simp only [List.length_cons] at q2
      obtain ⟨j, hj⟩ : ∃ j : Nat, d = ((j + 4 : Nat) : Int) := ⟨(d - 4).toNat, by omega⟩
      obtain ⟨x, ex⟩ : ∃ x, r[j]? = some x := ⟨_, List.getElem?_eq_getElem (by omega)⟩
      have hx := hrs x (List.mem_of_getElem? ex)
      have ad : atI ((a :: b :: (c + 1) :: d :: r).map V.int) d = some (.int x) := by
        rw [hj]
        exact atI_nat (by rw [List.getElem?_map]; show (r[j]?).map V.int = _; rw [ex]; rfl)
      refine ⟨_, rfl, _, rfl, g, _, _, _, rfl, rfl, S1, at3, g, _, _, _, rfl, rfl, S1, ad, ?_⟩
      refine ⟨_, rfl, g, _, _, _, rfl, rfl, S1, at3, _, _, rfl, rfl, _, rfl, g, _, _, 3, rfl, rfl, c1.1, ix4 3 (by decide), ?_⟩
      have c2 : Chg g (.lst ((a :: b :: (c + 1) :: (d + 1) :: r).map V.int)) H (L2.upd (L2.upd H g (.lst ((a :: b :: (c + 1) :: d :: r).map V.int))) g (.lst ((a :: b :: (c + 1) :: (d + 1) :: r).map V.int))) := c1.upd
      have S2 := SqL.of (K := K) c2.1
      refine ⟨_, rfl, _, _, rfl, rfl, ⟨by decide, by decide, by decide⟩, _, _, rfl, rfl, _, rfl, if_dec (fun q3 => ?_) (fun q3 => ?_)⟩
      · refine ⟨_, rfl, g, _, _, _, rfl, rfl, S2, at1, _, _, rfl, rfl, .inr (by decide), _, rfl, _, _, rfl, rfl, _, _, rfl, rfl, .inl ⟨_, rfl, _, _, rfl, rfl, (by show (0 : Int) < 1000000007; decide), _, rfl, g, _, _, 1, rfl, rfl, c2.1, ix4 1 (by decide), ht _ _ _ _ _ _ ha (by omega) c2.upd⟩⟩
      · exact ⟨_, rfl, _, rfl, g, _, _, 0, rfl, rfl, c2.1, ix4 0 (by decide), ht _ _ _ _ _ _ hx (by omega) c2.upd⟩
    · exact ht _ _ _ _ _ _ ha hd c1
  · exact ht _ _ _ _ _ _ ha hd c1
end
end Sy
namespace Sy
open PySem PySem.Spec PyProof.Rows L2
/-- small letters -/
def Lt (c : Nat) : Prop := 97 ≤ c ∧ c ≤ 122
def Wd (x : Str) : Prop := 1 ≤ x.cps.toList.length ∧ x.cps.toList.length ≤ 8 ∧ ∀ c ∈ x.cps.toList, Lt c
theorem lt_uni (c : Nat) (h : Lt c) : Unicode.isAlpha c = true ∧ Unicode.isLower c = true ∧ Unicode.isUpper c = false ∧ Unicode.isTitle c = false := by
  have q : ∀ i : Fin 26, Unicode.isAlpha (97 + i.val) = true ∧ Unicode.isLower (97 + i.val) = true ∧ Unicode.isUpper (97 + i.val) = false ∧ Unicode.isTitle (97 + i.val) = false := by decide +kernel
  obtain ⟨h1, h2⟩ := h
  have := q ⟨c - 97, by omega⟩
  rw [show 97 + (c - 97) = c by omega] at this
  exact this
theorem len_tl (x : Str) : x.length = x.cps.toList.length := by
  show x.cps.size = _
  simp
theorem Wd.ok {x : Str} (h : Wd x) : nameOk x = true := by
  obtain ⟨h1, h2, h3⟩ := h
  have hl := len_tl x
  have a1 : Txt.isascii x = true := by
    unfold Txt.isascii
    rw [← Array.all_toList, List.all_eq_true]
    intro c hc
    have := (h3 c hc).2
    exact decide_eq_true (by omega)
  have a2 : Txt.isalpha x = true := by
    unfold Txt.isalpha
    rw [decide_eq_true (by omega), Bool.true_and, ← Array.all_toList, List.all_eq_true]
    exact fun c hc => (lt_uni c (h3 c hc)).1
  have a3 : Txt.islower x = true := by
    unfold Txt.islower
    rw [Bool.and_eq_true]
    constructor
    · rw [← Array.any_toList, List.any_eq_true]
      obtain ⟨c, hc⟩ : ∃ c, c ∈ x.cps.toList := List.exists_mem_of_length_pos (by omega)
      exact ⟨c, hc, (lt_uni c (h3 c hc)).2.1⟩
    · rw [← Array.any_toList, Bool.not_eq_true', List.any_eq_false]
      intro c hc
      rw [(lt_uni c (h3 c hc)).2.2.1, (lt_uni c (h3 c hc)).2.2.2]
      decide
  unfold nameOk
  rw [a1, a2, a3, decide_eq_true (by omega)]
  rfl
theorem join_one (cs : List Nat) : (Txt.join (Str.empty) (cs.map fun c => (⟨#[c]⟩ : Str))).cps.toList = cs := by
  rw [TL.join_eq]
  have h := TL.tl_join Str.empty (cs.map fun c => (⟨#[c]⟩ : Str))
  show TL.tl _ = cs
  rw [h]
  have : ∀ cs : List Nat, TL.joinL (TL.tl Str.empty) ((cs.map fun c => (⟨#[c]⟩ : Str)).map TL.tl) = cs := by
    intro cs
    induction cs with
    | nil => rfl
    | cons c cs ih =>
      cases cs with
      | nil => rfl
      | cons d ds =>
        show [c] ++ ([] ++ TL.joinL _ _) = _
        rw [List.nil_append]
        exact congrArg (fun l => [c] ++ l) ih
  exact this cs
/-- fewer than 26 words leave a letter -/
theorem nodup_le {α : Type} [DecidableEq α] : ∀ {l m : List α}, l.Nodup → (∀ x ∈ l, x ∈ m) → l.length ≤ m.length
  | [], _, _, _ => Nat.zero_le _
  | x :: l, m, h, s => by
    have hx := s x List.mem_cons_self
    have h2 := List.nodup_cons.mp h
    have := nodup_le (l := l) (m := m.erase x) h2.2 fun y hy => by
      rw [List.mem_erase_of_ne (fun z => h2.1 (by rw [← z]; exact hy))]
      exact s y (List.mem_cons_of_mem _ hy)
    rw [List.length_erase_of_mem hx] at this
    have := List.length_pos_of_mem hx
    rw [List.length_cons]
    omega
def abc : Str := "abcdefghijklmnopqrstuvwxyz"
theorem abc_at : ∀ i : Nat, i < 26 → abc.cps[i]? = some (97 + i) := by
  have q : ∀ i : Fin 26, abc.cps[i.val]? = some (97 + i.val) := by decide +kernel
  exact fun i h => q ⟨i, h⟩
theorem abc_len : abc.length = 26 := by decide +kernel
theorem abc_tl (i : Nat) (h : i < 26) : abc.cps.toList[i]? = some (97 + i) := by rw [Array.getElem?_toList]; exact abc_at i h
/-- the letters that are not taken -/
def freeL (tk : List Str) (n : Nat) : List Str := ((List.range n).map fun i => (⟨#[97 + i]⟩ : Str)).filter fun x => decide (x ∉ tk)
theorem freeL_pos (tk : List Str) (h : tk.length < 26) : ∃ x r, freeL tk 26 = x :: r ∧ x ∉ tk ∧ Wd x := by
  cases e : freeL tk 26 with
  | nil =>
    exfalso
    have all : ∀ x ∈ ((List.range 26).map fun i => (⟨#[97 + i]⟩ : Str)), x ∈ tk := fun x hx => by
      have := List.filter_eq_nil_iff.mp e x hx
      simpa using this
    have nd : ((List.range 26).map fun i => (⟨#[97 + i]⟩ : Str)).Nodup := by decide +kernel
    have := nodup_le nd all
    simp at this
    omega
  | cons x r =>
    have hm : x ∈ freeL tk 26 := by rw [e]; exact List.mem_cons_self
    unfold freeL at hm
    obtain ⟨h1, h2⟩ := List.mem_filter.mp hm
    obtain ⟨i, hi, rfl⟩ := List.mem_map.mp h1
    rw [List.mem_range] at hi
    refine ⟨_, r, rfl, of_decide_eq_true h2, ?_⟩
    refine ⟨Nat.le_refl _, by show 1 ≤ 8; decide, fun c hc => ?_⟩
    have : c = 97 + i := by simpa using hc
    subst this
    exact ⟨by omega, by omega⟩
theorem Wd.first {x y : Str} {c : Nat} (hx : Wd x) (hy : Wd y) (h8 : x.length < 8) (hc : y.cps.toList[0]? = some c) : Wd (x ++ ⟨#[c]⟩) := by
  obtain ⟨h1, h2, h3⟩ := hx
  have hl := len_tl x
  have e : (x ++ ⟨#[c]⟩ : Str).cps.toList = x.cps.toList ++ [c] := by
    show (x.cps ++ #[c]).toList = _
    simp
  have hcm := hy.2.2 c (List.mem_of_getElem? hc)
  refine ⟨?_, ?_, fun d hd => ?_⟩
  · rw [e, List.length_append]
    show 1 ≤ _ + 1
    omega
  · rw [e, List.length_append]
    show _ + 1 ≤ 8
    omega
  · rw [e] at hd
    rcases List.mem_append.mp hd with hd | hd
    · exact h3 d hd
    · rw [List.mem_singleton.mp hd]
      exact hcm
theorem Wd.cut {x : Str} (hx : Wd x) (h1 : 1 < x.length) : Wd (cutS x none (some (-1))) := by
  obtain ⟨h1', h2, h3⟩ := hx
  have hl := len_tl x
  have e : (cutS x none (some (-1))).cps.toList = x.cps.toList.take (x.length - 1) := by
    unfold cutS HT.sIx
    simp only [List.drop_zero, Nat.sub_zero]
    rw [if_pos (by decide), show ((-1 : Int) + (x.length : Int)).toNat = x.length - 1 by omega]
  refine ⟨?_, ?_, fun d hd => ?_⟩
  · rw [e, List.length_take]
    omega
  · rw [e, List.length_take]
    omega
  · rw [e] at hd
    exact h3 d (List.mem_of_mem_take hd)
end Sy
namespace Sy
open PySem PySem.Spec PyProof.Rows L2
section
variable {B H H' : Hp} {L : List (Addr × HO)} {g : Addr} {o : HO} {x : Addr × HO}
theorem Hs.dr0 (h : Hs B ((g, o) :: L) H) (d : Dr g H H') : ∃ l B', BagOk l ∧ Same B B' ∧ Hs B' ((g, .lst (l.map V.int)) :: L) H' ∧ B' = cut ((g, .lst (l.map V.int)) :: L) H' := by
  obtain ⟨l, hl, c⟩ := d
  have := h.chg c
  exact ⟨l, _, hl, this.1, this.2, rfl⟩
theorem Hs.dr1 (h : Hs B (x :: (g, o) :: L) H) (d : Dr g H H') : ∃ l B', BagOk l ∧ Same B B' ∧ Hs B' (x :: (g, .lst (l.map V.int)) :: L) H' := by
  obtain ⟨l, B', hl, s, h', _⟩ := h.swap.dr0 d
  exact ⟨l, B', hl, s, h'.swap⟩
theorem Hs.bag (h : Hs B ((g, .lst ((l : List Int).map V.int)) :: L) H) (hl : BagOk l) : Bag g H := ⟨l, hl, h.r0⟩
theorem Bag.take (h : Bag g H) : ∃ l, BagOk l ∧ Hs (L2.del H g) [(g, .lst (l.map V.int))] H := by
  obtain ⟨l, hl, e⟩ := h
  exact ⟨l, hl, (Hs.start H).take e⟩
end
section
variable {P : Program} {w : World} {K : PySem.W.Frag} {mg : Str → Option Value} {base : Heap}
def spWord : Sp := fun vs H Q _ => ∃ g : Addr, vs = [.ref g] ∧ Bag g H ∧ ∀ x H', Wd x → Dr g H H' → Q (.str x) H'
abbrev N_word : List Str := ["_law_bag_here", "_law_letters", "_law_k"]
theorem sc_word : FnScope N_word ["_law_bag_here"] (defScope (top 43)) := ⟨rfl, rfl, rfl, by decide +kernel, rfl, by decide +kernel, by decide +kernel⟩
theorem k_word (T : Txt K mg) (F : DF K mg "_law_word" 43) (c_law_draw : Cal P w K mg base 1 "_law_draw" ["_law_bag_here", "_law_size"] spDraw) : Cal P w K mg base 2 "_law_word" ["_law_bag_here"] spWord := by
  refine cal_of F.1 F.2 sc_word (fun _ _ _ _ _ _ us e => match us, e with | [_], _ => rfl) (fun vs H Q E s => by obtain ⟨_, rfl, _⟩ := s; rfl) ?_
  intro cdv A outer s H vs Q E hr h
  obtain ⟨g, rfl, hg, hq⟩ := h
  have sc := sc_word
  refine ⟨_, (pss_cons (ps_set (i := 1) sc.nd rfl (Or.inr rfl) pe_str)
      (pss_one (ps_ret (pe_join pe_str (pe_lc (own := [("_law_k", 2)]) (g := gName 2) rfl sc.nd (pi_range1 rfl T.range (pa_cons (pe_op op_add pe_int (pe_cal c_law_draw hr (pa_cons (pv 0) (pa_cons pe_int pa_nil)))) pa_nil)) (blkOk_by (N := N_word) (sc := defScope (top 43)) (by decide +kernel)) (fun _ _ _ _ _ => (pg_name (i := 2) sc.nd rfl (Or.inl rfl))) (fun _ _ _ _ _ => pts_nil) (fun _ _ _ _ _ => (pe_ix ix_str (pv 1) (pe_cal c_law_draw hr (pa_cons (pv 0) (pa_cons pe_int pa_nil))) (fun _ _ => rfl)))))))), ?_⟩
  obtain ⟨l0, hl0, h0⟩ := hg.take
  refine ⟨⟨_, rfl⟩, _, rfl, g, 8, rfl, hg, by decide, by decide, fun r H1 hr1 d1 => ?_⟩
  obtain ⟨l1, B1, hl1, s1, h1, _⟩ := h0.dr0 d1
  refine ⟨_, _, rfl, rfl, _, rfl, by omega, by omega, fun D hD => lc_it (n := (1 + (r : Int)).toNat) walk_range (fun i H' => ∃ (cs : List Nat) (B : Hp) (l : List Int), BagOk l ∧ cs.length = i ∧ (∀ c ∈ cs, Lt c) ∧ Same B1 B ∧ Hs B [(D, .lst ((cs.map fun c => (⟨#[c]⟩ : Str)).map V.str)), (g, .lst (l.map V.int))] H')
    ⟨[], B1, l1, hl1, rfl, fun _ z => (nomatch z), Same.refl _, h1.new hD⟩ (fun _ _ _ _ => trivial) ?_ ?_⟩
  · rintro i v H2 _ hi ⟨cs, B, l, hl, hcs, hlt, sB, hh⟩ ⟨rfl, rfl⟩
    refine ⟨rfl, ?_⟩
    simp only [tYes, if_true]
    refine ⟨_, rfl, _, rfl, g, 26, rfl, hh.swap.bag hl, by decide, by decide, fun c H3 hc d3 => ?_⟩
    obtain ⟨l3, B3, hl3, s3, h3⟩ := hh.dr1 d3
    refine ⟨abc, _, 97 + c, rfl, rfl, by decide +kernel, atI_nat (abc_tl c hc), _, h3.r0, by rw [List.length_map, List.length_map, sizeLine_eq]; omega, cs ++ [97 + c], B3, l3, hl3, by rw [List.length_append, hcs]; rfl, fun d hd => ?_, sB.trans s3, ?_⟩
    · rcases List.mem_append.mp hd with hd | hd
      · exact hlt d hd
      · rw [List.mem_singleton.mp hd]
        exact ⟨by omega, by omega⟩
    · rw [List.map_append, List.map_append]
      exact h3.w0
  · rintro H2 ⟨cs, B, l, hl, hcs, hlt, sB, hh⟩
    have hj := join_one cs
    have hsum : ((cs.map fun c => (⟨#[c]⟩ : Str)).map (·.length)).sum = cs.length := by
      clear hj hcs hlt hh
      induction cs with
      | nil => rfl
      | cons c cs ih =>
        rw [List.map_cons, List.map_cons, List.sum_cons, ih, List.length_cons]
        show 1 + _ = _
        omega
    refine ⟨Str.empty, D, (cs.map fun c => (⟨#[c]⟩ : Str)), rfl, rfl, .inl (SqL.of hh.r0), ?_, hq _ _ ⟨?_, ?_, ?_⟩ ⟨l, hl, (hh.drop).isChg (s1.trans sB)⟩⟩
    · rw [hsum]
      show _ + _ * 0 ≤ _
      omega
    · rw [hj]; omega
    · rw [hj]; omega
    · rw [hj]; exact hlt
def spNameL (K : PySem.W.Frag) : Sp := fun vs H Q _ => ∃ (g t : Addr) (tk : List Str), vs = [.ref g, .ref t] ∧ Bag g H ∧ g ≠ t ∧ H t = some (.lst (tk.map V.str)) ∧ (∀ x ∈ tk, Wd x) ∧ tk.length ≤ 20 ∧ ∀ x H', Wd x → x ∉ tk → Dr g H H' → Q (.str x) H'
abbrev N_nameL : List Str := ["_law_bag_here", "_law_taken", "_law_word_here", "_law_near", "_law_elder", "_law_one"]
theorem sc_nameL : FnScope N_nameL ["_law_bag_here", "_law_taken"] (defScope (top 44)) := ⟨rfl, rfl, rfl, by decide +kernel, rfl, by decide +kernel, by decide +kernel⟩
theorem freeL_succ (tk : List Str) (n : Nat) : freeL tk (n + 1) = if (⟨#[97 + n]⟩ : Str) ∈ tk then freeL tk n else freeL tk n ++ [(⟨#[97 + n]⟩ : Str)] := by
  unfold freeL
  rw [List.range_succ, List.map_append, List.filter_append]
  by_cases h : (⟨#[97 + n]⟩ : Str) ∈ tk
  · rw [if_pos h]
    simp [h]
  · rw [if_neg h]
    simp [h]
theorem freeL_le (tk : List Str) (n : Nat) : (freeL tk n).length ≤ n := by
  unfold freeL
  have := List.length_filter_le (fun x : Str => decide (x ∉ tk)) ((List.range n).map fun i => (⟨#[97 + i]⟩ : Str))
  rw [List.length_map, List.length_range] at this
  exact this
theorem k_nameL (T : Txt K mg) (F : DF K mg "_law_name" 44) (c_law_draw : Cal P w K mg base 1 "_law_draw" ["_law_bag_here", "_law_size"] spDraw) (c_law_word : Cal P w K mg base 2 "_law_word" ["_law_bag_here"] spWord) : Cal P w K mg base 3 "_law_name" ["_law_bag_here", "_law_taken"] (spNameL K) := by
  refine cal_of F.1 F.2 sc_nameL (fun _ _ _ _ _ _ us e => match us, e with | [_, _], _ => rfl) (fun vs H Q E s => by obtain ⟨_, _, _, rfl, _⟩ := s; rfl) ?_
  intro cdv A outer s H vs Q E hr h
  obtain ⟨g, tA, tk, rfl, hg, hne, hT, hW, hlen, hq⟩ := h
  have sc := sc_nameL
  obtain ⟨l0, hl0, h0⟩ := hg.take
  have hT0 : (L2.del H g) tA = some (.lst (tk.map V.str)) := by rw [del_ne hne.symm]; exact hT
  -- what follows the first if
  have tail : ∃ t, PSs (cxOf (L2.CX P w) P w K mg base N_nameL "_law_name" (defScope (top 44)) (He.ga K "_law_name") cdv A outer s H E) ((defBody (top 44)).drop 3) t ∧
      ∀ (t3 t4 : Option V) (H1 B : Hp) (l : List Int) (x : Str), Wd x → BagOk l → Same (L2.del H g) B → Hs B [(g, .lst (l.map V.int))] H1 → t { nx := fun _ H' => Q .non H', rt := Q } [some (.ref g), some (.ref tA), some (.str x), t3, t4, none] H1 := by
    refine ⟨_, (pss_cons (ps_if (pt_cmpR op_in_seq (pv 2) (pv 1) rfl)
        (pss_one (ps_set (i := 2) sc.nd rfl (Or.inl rfl) (pe_ix ix_list (pe_lc (own := [("_law_one", 5)]) (g := gName 5) (tt := tTest (tOp (rIn K true) (tVar 5) (tVar 1))) rfl sc.nd (pi_str pe_str) (blkOk_by (N := N_nameL) (sc := defScope (top 44)) (by decide +kernel)) (fun _ _ _ _ _ => (pg_name (i := 5) sc.nd rfl (Or.inl rfl))) (fun _ _ _ _ _ => (pts_one (pt_cmpR op_notIn_seq (pv 5) (pv 1) rfl))) (fun _ _ _ _ _ => (pv 5))) pe_int (fun _ _ => rfl))))
        pss_nil)
      (pss_one (ps_ret (pv 2)))), ?_⟩
    intro t3 t4 H1 B l x hx hl sB hh
    have hT1 : H1 tA = some (.lst (tk.map V.str)) := hh.sub _ _ (sB _ _ hT0)
    refine ⟨_, rfl, _, rfl, tA, _, rfl, .inl (SqL.of hT1), rfl, all_strs tk, _, rfl, ?_⟩
    show if inV (V.str x) (tk.map V.str) = true then _ else _
    rw [inV_strs]
    refine if_dec (fun c => ?_) (fun c => ?_)
    · refine ⟨_, rfl, fun D hD => lc_it walk_str (fun i H' => Hs B [(D, .lst ((freeL tk i).map V.str)), (g, .lst (l.map V.int))] H') (hh.new hD) (fun _ _ _ _ => trivial) ?_ ?_⟩
      · rintro i v _ H2 hi h2 ⟨rfl, c, hc, rfl⟩
        have hi26 : i < 26 := by
          have := abc_len
          exact hi
        rw [show ("abcdefghijklmnopqrstuvwxyz" : Str).cps[i]? = some (97 + i) from abc_at i hi26] at hc
        cases hc
        have hT2 : H2 tA = some (.lst (tk.map V.str)) := h2.sub _ _ (sB _ _ hT0)
        refine ⟨rfl, _, rfl, _, rfl, tA, _, rfl, .inl (SqL.of hT2), rfl, all_strs tk, _, rfl, ?_⟩
        show if (!inV (V.str ⟨#[97 + i]⟩) (tk.map V.str)) = true then _ else _
        rw [inV_strs]
        refine if_ndec (fun c => ?_) (fun c => ?_)
        · refine ⟨_, rfl, _, h2.r0, ?_, ?_⟩
          · have := freeL_le tk i
            rw [List.length_map, sizeLine_eq]
            omega
          · rw [freeL_succ, if_neg c, List.map_append]
            exact h2.w0
        · show Hs _ _ _
          rw [freeL_succ, if_pos c]
          exact h2
      · intro H2 h2
        rw [show ("abcdefghijklmnopqrstuvwxyz" : Str).cps.size = 26 from abc_len] at h2
        obtain ⟨y, r, e, hy, hyw⟩ := freeL_pos tk (by omega)
        rw [e] at h2
        refine ⟨D, _, _, _, rfl, rfl, SqL.of h2.r0, atI_nat (j := 0) rfl, _, rfl, hq y _ hyw hy ⟨l, hl, (h2.drop).isChg sB⟩⟩
    · exact ⟨_, rfl, hq x _ hx c ⟨l, hl, hh.isChg sB⟩⟩
  obtain ⟨t, pt, ht⟩ := tail
  refine ⟨_, (pss_cons (ps_set (i := 2) sc.nd rfl (Or.inl rfl) (pe_cal c_law_word hr (pa_cons (pv 0) pa_nil)))
      (pss_cons (ps_set (i := 3) sc.nd rfl (Or.inl rfl) (pe_cal c_law_draw hr (pa_cons (pv 0) (pa_cons pe_int pa_nil))))
      (pss_cons (ps_if (PW.pt (pw_and (pt_truth (pv 1) (by intro _; rfl)) (pw_and1 (pt_cmpR op_lt (pv 3) pe_int (nomark _)))))
        (pss_cons (ps_set (i := 4) sc.nd rfl (Or.inl rfl) (pe_ix ix_list (pv 1) (pe_cal c_law_draw hr (pa_cons (pv 0) (pa_cons (pe_callB call_len_seq (by rfl) T.len (by decide +kernel) (pa_cons (pv 1) pa_nil)) pa_nil))) (fun _ _ => rfl)))
        (pss_one (ps_if (PW.pt (pw_and (pt_cmpR op_eq (pv 3) pe_int (nomark _)) (pw_and1 (pt_cmpR op_lt (pe_callB call_len_str (by rfl) T.len (by decide +kernel) (pa_cons (pv 4) pa_nil)) pe_int (nomark _)))))
          (pss_one (ps_set (i := 2) sc.nd rfl (Or.inl rfl) (pe_op op_add_str (pv 4) (pe_ix ix_str (pv 2) pe_int (fun _ _ => rfl)))))
          (pss_one (ps_if (pt_cmpR op_gt (pe_callB call_len_str (by rfl) T.len (by decide +kernel) (pa_cons (pv 4) pa_nil)) pe_int (nomark _))
            (pss_one (ps_set (i := 2) sc.nd rfl (Or.inl rfl) (pe_slice sl_str (pv 4) po_none (po_some (pe_un un_neg pe_int)))))
            pss_nil)))))
        pss_nil)
      pt))), ?_⟩
  refine ⟨_, rfl, g, rfl, hg, fun x H1 hx d1 => ?_⟩
  obtain ⟨l1, B1, hl1, s1, h1, _⟩ := h0.dr0 d1
  refine ⟨_, rfl, g, 4, rfl, h1.bag hl1, by decide, by decide, fun n H2 hn d2 => ?_⟩
  obtain ⟨l2, B2, hl2, s2, h2, _⟩ := h1.dr0 d2
  have sB2 := s1.trans s2
  have hT2 : H2 tA = some (.lst (tk.map V.str)) := h2.sub _ _ (sB2 _ _ hT0)
  refine ⟨_, rfl, _, .inl ⟨_, SqL.of hT2, rfl⟩, if_bool (fun c1 => ?_) (fun c1 => ?_)⟩
  · refine ⟨_, rfl, _, _, rfl, rfl, _, rfl, if_dec (fun c2 => ?_) (fun c2 => ?_)⟩
    · have hpos : 0 < tk.length := by
        cases tk with
        | nil => simp at c1
        | cons a b => simp
      refine ⟨_, rfl, _, rfl, _, rfl, tA, _, rfl, .inl (SqL.of hT2), g, tk.length, by rw [List.length_map], h2.bag hl2, hpos, by omega, fun j H3 hj d3 => ?_⟩
      obtain ⟨l3, B3, hl3, s3, h3, _⟩ := h2.dr0 d3
      have sB3 := sB2.trans s3
      have hT3 : H3 tA = some (.lst (tk.map V.str)) := h3.sub _ _ (sB3 _ _ hT0)
      obtain ⟨el, hel⟩ : ∃ y, tk[j]? = some y := ⟨_, List.getElem?_eq_getElem hj⟩
      have wel := hW el (List.mem_of_getElem? hel)
      have lel := len_tl el
      have hsz : el.length ≤ sizeLine := by rw [sizeLine_eq, lel]; have := wel.2.1; omega
      refine ⟨tA, _, _, _, rfl, rfl, SqL.of hT3, atI_nat (by rw [List.getElem?_map, hel]; rfl), ?_⟩
      have more : ∀ H4, H4 = H3 → True := fun _ _ => trivial
      have two : ∀ D : Prop, D → D := fun _ h => h
      refine ⟨_, rfl, rfl, _, rfl, if_dec (fun c3 => ?_) (fun c3 => ?_)⟩
      · refine ⟨_, rfl, el, rfl, hsz, _, _, rfl, rfl, _, rfl, if_dec (fun c4 => ?_) (fun c4 => ?_)⟩
        · have hx0 : 0 < x.cps.toList.length := hx.1
          obtain ⟨c, hc⟩ : ∃ c, x.cps.toList[0]? = some c := ⟨_, List.getElem?_eq_getElem hx0⟩
          have lx := len_tl x
          refine ⟨_, rfl, _, rfl, x, _, c, rfl, rfl, by rw [sizeLine_eq, lx]; have := hx.2.1; omega, atI_nat (j := 0) hc, el, _, rfl, rfl, ?_, ht _ _ _ B3 l3 _ (wel.first hx (by omega) hc) hl3 sB3 h3⟩
          show el.length + 1 ≤ sizeLine
          rw [sizeLine_eq, lel]
          have := wel.2.1
          omega
        · refine ⟨_, rfl, el, rfl, hsz, _, _, rfl, rfl, _, rfl, if_dec (fun c5 => ?_) (fun c5 => ?_)⟩
          · exact ⟨_, rfl, _, rfl, _, rfl, el, rfl, hsz, ht _ _ _ B3 l3 _ (wel.cut (by omega)) hl3 sB3 h3⟩
          · exact ht _ _ _ B3 l3 _ hx hl3 sB3 h3
      · refine ⟨_, rfl, el, rfl, hsz, _, _, rfl, rfl, _, rfl, if_dec (fun c5 => ?_) (fun c5 => ?_)⟩
        · exact ⟨_, rfl, _, rfl, _, rfl, el, rfl, hsz, ht _ _ _ B3 l3 _ (wel.cut (by omega)) hl3 sB3 h3⟩
        · exact ht _ _ _ B3 l3 _ hx hl3 sB3 h3
    · exact ht _ _ _ B2 l2 _ hx hl2 sB2 h2
  · exact ht _ _ _ B2 l2 _ hx hl2 sB2 h2
end
end Sy
namespace Sy
open PySem PySem.Spec PyProof.Rows L2
section
variable {B H H' : Hp} {L : List (Addr × HO)} {g : Addr} {o : HO} {x y z : Addr × HO}
theorem Hs.rot (h : Hs B (x :: y :: z :: L) H) : Hs B (y :: z :: x :: L) H := h.perm ((List.Perm.swap _ _ _).trans (List.Perm.cons _ (List.Perm.swap _ _ _)))
theorem Hs.isDr (h : Hs B L H') {l : List Int} (hl : BagOk l) (m : (g, HO.lst (l.map V.int)) ∈ L) (s : Same (L2.del H g) B) : Dr g H H' := ⟨l, hl, h.own _ m, fun a w n e => h.sub _ _ (s _ _ (by rw [del_ne n]; exact e))⟩
end
theorem inV_nat (n : Nat) (ns : List Nat) : inV (.int (n : Int)) (vN ns) = decide (n ∈ ns) := by
  unfold inV vN
  induction ns with
  | nil => rfl
  | cons x l ih =>
    rw [List.map_cons, List.any_cons, ih]
    have : eqV (V.int (x : Int)) (V.int (n : Int)) = decide (x = n) := by
      show ((x : Int) == (n : Int)) = _
      by_cases h : x = n
      · subst h
        simp
      · rw [decide_eq_false h, beq_eq_false_iff_ne]
        omega
    rw [this]
    by_cases h : x = n
    · subst h
      simp
    · have h2 : n ≠ x := fun z => h z.symm
      simp [h, h2]
theorem all_nats (l : List Nat) : (vN l).all flatV = true := by
  rw [vN, List.all_map, List.all_eq_true]
  intro x _
  rfl
/-- rows as the law draws them -/
structure RowsL (rows : List Sy.Row) (most : Nat) : Prop where
  ok : RowsOk rows
  wd : ∀ r ∈ rows, Wd r.1
  le : rows.length ≤ most
  pos : 0 < rows.length
section
variable {P : Program} {w : World} {K : PySem.W.Frag} {mg : Str → Option Value} {base : Heap}
def spRows (K : PySem.W.Frag) : Sp := fun vs H Q _ => ∃ (g : Addr) (most : Nat), vs = [.ref g, .int (most : Nat)] ∧ Bag g H ∧ 1 ≤ most ∧ most ≤ 8 ∧ ∀ (q : Addr) (ps : List Addr) (rows : List Sy.Row) H', RowsL rows most → Dr g H H' → q ≠ g → H' q = some (.lst (ps.map V.ref)) →
  Paired (fun p (r : Sy.Row) => SqT K H' p [.str r.1, .int (r.2 : Nat)]) ps rows → Q (.ref q) H'
abbrev N_rows : List Str := ["_law_bag_here", "_law_most", "_law_names", "_law_numbers", "_law_k", "_law_place"]
theorem sc_rows : FnScope N_rows ["_law_bag_here", "_law_most"] (defScope (top 45)) := ⟨rfl, rfl, rfl, by decide +kernel, rfl, by decide +kernel, by decide +kernel⟩
theorem seven (j : Nat) (h : j < 7) : ∃ n : Nat, ([.int 0, .int 1, .int 2, .int 0, .int 2, .int 1, .int 3] : List V)[j]? = some (.int (n : Int)) ∧ n ≤ 3 := by
  match j, h with
  | 0, _ => exact ⟨0, rfl, by decide⟩
  | 1, _ => exact ⟨1, rfl, by decide⟩
  | 2, _ => exact ⟨2, rfl, by decide⟩
  | 3, _ => exact ⟨0, rfl, by decide⟩
  | 4, _ => exact ⟨2, rfl, by decide⟩
  | 5, _ => exact ⟨1, rfl, by decide⟩
  | 6, _ => exact ⟨3, rfl, by decide⟩
theorem k_rows (T : Txt K mg) (F : DF K mg "_law_rows" 45) (c_law_draw : Cal P w K mg base 1 "_law_draw" ["_law_bag_here", "_law_size"] spDraw) (c_law_name : Cal P w K mg base 3 "_law_name" ["_law_bag_here", "_law_taken"] (spNameL K)) : Cal P w K mg base 4 "_law_rows" ["_law_bag_here", "_law_most"] (spRows K) := by
  refine cal_of F.1 F.2 sc_rows (fun _ _ _ _ _ _ us e => match us, e with | [_, _], _ => rfl) (fun vs H Q E s => by obtain ⟨_, _, rfl, _⟩ := s; rfl) ?_
  intro cdv A outer s H vs Q E hr h
  obtain ⟨g, most, rfl, hg, hm1, hm8, hq⟩ := h
  have sc := sc_rows
  obtain ⟨l0, hl0, h0⟩ := hg.take
  generalize hB0 : L2.del H g = B0 at *
  -- the last row
  have fin : ∃ t, PSs (cxOf (L2.CX P w) P w K mg base N_rows "_law_rows" (defScope (top 45)) (He.ga K "_law_rows") cdv A outer s H E) ((defBody (top 45)).drop 4) t ∧
      ∀ (D1 D2 : Addr) (t4 t5 : Option V) (H1 B : Hp) (l : List Int) (nm : List Str) (ns : List Nat), BagOk l → nm.length = ns.length → 0 < nm.length → nm.length ≤ most → nm.Nodup → (∀ x ∈ nm, Wd x) → (∀ n ∈ ns, n ≤ 3) → 0 ∈ ns → Same B0 B →
        Hs B [(g, .lst (l.map V.int)), (D1, .lst (nm.map V.str)), (D2, .lst (vN ns))] H1 → t { nx := fun _ H' => Q .non H', rt := Q } [some (.ref g), some (.int (most : Nat)), some (.ref D1), some (.ref D2), t4, t5] H1 := by
    refine ⟨_, (pss_one (ps_ret (pe_lc (own := [("_law_k", 4)]) (g := gName 4) (te := tTup (tCons (tOp (rIxL K) (tVar 2) (tVar 4)) (tCons (tOp (rIxL K) (tVar 3) (tVar 4)) tNil))) rfl sc.nd (pi_range1 rfl T.range (pa_cons (pe_callB call_len_seq (by rfl) T.len (by decide +kernel) (pa_cons (pv 2) pa_nil)) pa_nil)) (blkOk_by (N := N_rows) (sc := defScope (top 45)) (by decide +kernel)) (fun _ _ _ _ _ => (pg_name (i := 4) sc.nd rfl (Or.inl rfl))) (fun _ _ _ _ _ => pts_nil) (fun _ _ _ _ _ => (pe_tup (pa_cons (pe_ix ix_list (pv 2) (pv 4) (fun _ _ => rfl)) (pa_cons (pe_ix ix_list (pv 3) (pv 4) (fun _ _ => rfl)) pa_nil))))))), ?_⟩
    intro D1 D2 t4 t5 H1 B l nm ns hl hnn hpos hmost hnd hwd h3 hzero sB hh
    refine ⟨_, rfl, D1, _, rfl, .inl (SqL.of hh.r1), _, rfl, by omega, by rw [List.length_map]; omega, fun q hq1 => lc_it (n := ((nm.map V.str).length : Int).toNat) walk_range (fun i H' => ∃ (B2 : Hp) (ps : List Addr), Same B B2 ∧ Hs B2 [(q, .lst (ps.map V.ref)), (g, .lst (l.map V.int)), (D1, .lst (nm.map V.str)), (D2, .lst (vN ns))] H' ∧ Paired (fun p (r : Sy.Row) => SqT K B2 p [.str r.1, .int (r.2 : Nat)]) ps ((nm.zip ns).take i))
      ⟨B, [], Same.refl _, hh.new hq1, .nil⟩ (fun _ _ _ _ => trivial) ?_ ?_⟩
    · rintro i v _ H2 hi ⟨B2, ps, s2, h2, pp⟩ ⟨rfl, rfl⟩
      have hi : i < nm.length := by
        rw [List.length_map] at hi
        omega
      obtain ⟨x, hx⟩ : ∃ x, nm[i]? = some x := ⟨_, List.getElem?_eq_getElem hi⟩
      obtain ⟨n, hn⟩ : ∃ n, ns[i]? = some n := ⟨_, List.getElem?_eq_getElem (by omega)⟩
      have hz : (nm.zip ns)[i]? = some (x, n) := by rw [List.getElem?_zip_eq_some]; exact ⟨hx, hn⟩
      have e0 : (0 : Int) + (i : Nat) = (i : Nat) := by omega
      have ppl := paired_len pp
      rw [List.length_take, List.length_zip] at ppl
      refine ⟨rfl, ?_⟩
      simp only [tYes, if_true]
      refine ⟨_, rfl, _, rfl, D1, _, _, _, rfl, rfl, SqL.of h2.r2, by rw [e0]; exact atI_nat (by rw [List.getElem?_map, hx]; rfl), _, rfl, _, rfl, D2, _, _, _, rfl, rfl, SqL.of h2.r3, by rw [e0]; exact atI_nat (vN_at hn), (by show 2 ≤ sizeLine; decide), fun p hp => ?_⟩
      have h3' := h2.tup (o := .tup [.str x, .int (n : Nat)]) hp
      have s3 : Same B2 (upd B2 p (.tup [.str x, .int (n : Nat)])) := up_same (h2.sub.free hp)
      refine ⟨_, h3'.r0, by rw [List.length_map, sizeLine_eq]; omega, _, ps ++ [p], s2.trans s3, by rw [List.map_append]; exact h3'.w0, ?_⟩
      rw [List.take_succ, hz]
      exact Paired.snoc (Paired.mapP pp fun _ _ z => Same.sqt s3 z) (SqT.of upd_same)
    · rintro H2 ⟨B2, ps, s2, h2, pp⟩
      rw [List.length_map, show ((nm.length : Int)).toNat = nm.length by omega, List.take_of_length_le (by rw [List.length_zip]; omega)] at pp
      have zf : (nm.zip ns).map (·.1) = nm := List.map_fst_zip (by omega)
      have zl : (nm.zip ns).length = nm.length := by rw [List.length_zip]; omega
      have mem1 : ∀ r ∈ nm.zip ns, r.1 ∈ nm := fun r hr => (List.of_mem_zip (a := r.1) (b := r.2) hr).1
      have mem2 : ∀ r ∈ nm.zip ns, r.2 ∈ ns := fun r hr => (List.of_mem_zip (a := r.1) (b := r.2) hr).2
      refine hq q ps (nm.zip ns) H2 ⟨⟨fun r hr => (hwd _ (mem1 r hr)).ok, fun r hr => h3 _ (mem2 r hr), by rw [zf]; exact hnd, ?_, by omega⟩, fun r hr => hwd _ (mem1 r hr), by omega, by omega⟩ (h2.isDr hl (by simp) (by rw [hB0]; exact sB.trans s2)) ?_ h2.r0 (Paired.mapP pp fun _ _ z => Same.sqt h2.sub z)
      · obtain ⟨j, hj, ej⟩ := List.mem_iff_getElem.mp hzero
        have hj2 : j < nm.length := by omega
        refine ⟨(nm[j], ns[j]), List.mem_iff_getElem.mpr ⟨j, by rw [List.length_zip]; omega, List.getElem_zip⟩, ej⟩
      · have := (List.nodup_cons.mp h2.nd).1
        exact fun z => this (by rw [z]; simp)
  obtain ⟨tf, pf, hf⟩ := fin
  refine ⟨_, (pss_cons (ps_set (i := 2) sc.nd rfl (Or.inr rfl) (pe_lst pa_nil))
      (pss_cons (ps_set (i := 3) sc.nd rfl (Or.inr rfl) (pe_lst pa_nil))
      (pss_cons (ps_for (passes_of rfl) rfl (pi_range1 rfl T.range (pa_cons (pe_op op_add pe_int (pe_cal c_law_draw hr (pa_cons (pv 0) (pa_cons (pv 1) pa_nil)))) pa_nil)) (pg_name (i := 4) sc.nd rfl (Or.inl rfl))
        (pss_cons (ps_expr (pe_bm PySem.F.plainAttrs_list PySem.F.slot_list_append PySem.F.type_list_append mt_append (pv 2) (pa_cons (pe_cal c_law_name hr (pa_cons (pv 0) (pa_cons (pv 2) pa_nil))) pa_nil)))
        (pss_one (ps_expr (pe_bm PySem.F.plainAttrs_list PySem.F.slot_list_append PySem.F.type_list_append mt_append (pv 3) (pa_cons (pe_ix ix_list (pe_lst (pa_cons pe_int (pa_cons pe_int (pa_cons pe_int (pa_cons pe_int (pa_cons pe_int (pa_cons pe_int (pa_cons pe_int pa_nil)))))))) (pe_cal c_law_draw hr (pa_cons (pv 0) (pa_cons pe_int pa_nil))) (fun _ _ => rfl)) pa_nil))))))
      (pss_cons (ps_if (pt_cmpR op_notIn_seq pe_int (pv 3) rfl)
        (pss_cons (ps_set (i := 5) sc.nd rfl (Or.inl rfl) (pe_cal c_law_draw hr (pa_cons (pv 0) (pa_cons (pe_callB call_len_seq (by rfl) T.len (by decide +kernel) (pa_cons (pv 3) pa_nil)) pa_nil))))
        (pss_one (ps_asg pe_int (pg_sub (pv 3) (pv 5) set_list))))
        pss_nil)
      pf)))), ?_⟩
  refine ⟨by decide, fun D1 hD1 => ⟨by decide, fun D2 hD2 => ?_⟩⟩
  have h1 := ((h0.new (o := .lst []) hD1).swap.new (o := .lst []) hD2).rot
  refine ⟨_, rfl, _, rfl, g, most, rfl, h1.bag hl0, hm1, by omega, fun r H1 hr1 d1 => ?_⟩
  obtain ⟨l1, B1, hl1, s1, h1, _⟩ := h1.dr0 d1
  refine ⟨_, _, rfl, rfl, _, rfl, by omega, by omega, for_rng (n := (1 + (r : Int)).toNat)
    (fun i σ H' => ∃ t4 B l nm ns, σ = [some (.ref g), some (.int (most : Nat)), some (.ref D1), some (.ref D2), t4, none] ∧ BagOk l ∧ nm.length = i ∧ ns.length = i ∧ nm.Nodup ∧ (∀ x ∈ nm, Wd x) ∧ (∀ n ∈ ns, n ≤ 3) ∧ Same B0 B ∧ Hs B [(g, .lst (l.map V.int)), (D1, .lst (nm.map V.str)), (D2, .lst (vN ns))] H')
    ⟨none, B1, l1, [], [], rfl, hl1, rfl, rfl, List.nodup_nil, fun _ z => (nomatch z), fun _ z => (nomatch z), s1, h1⟩ ?_ ?_⟩
  · rintro i σ H2 hi ⟨t4, B, l, nm, ns, rfl, hl, en, es, nd, wd, n3, sB, hh⟩
    have hne : g ≠ D1 := by
      have := (List.nodup_cons.mp hh.nd).1
      exact fun z => this (by rw [z]; simp)
    refine ⟨_, rfl, .inl ⟨rfl, _, SqL.of hh.r1⟩, _, rfl, _, rfl, g, D1, nm, rfl, hh.bag hl, hne, hh.r1, wd, by omega, fun x H3 hx hxn d3 => ?_⟩
    obtain ⟨l3, B3, hl3, s3, h3, _⟩ := hh.dr0 d3
    refine ⟨D1, _, _, rfl, rfl, h3.r1, by rw [List.length_map, sizeLine_eq]; omega, ?_⟩
    have h4 := h3.w1 (o' := .lst (nm.map V.str ++ [.str x]))
    refine ⟨_, rfl, .inl ⟨rfl, _, SqL.of h4.r2⟩, by decide, fun p hp => ?_⟩
    have h5 := h4.lay (o := .lst [.int 0, .int 1, .int 2, .int 0, .int 2, .int 1, .int 3]) hp
    refine ⟨_, rfl, g, 7, rfl, h5.bag hl3, by decide, by decide, fun j H6 hj d6 => ?_⟩
    have hp6 : H6 p = some (.lst [.int 0, .int 1, .int 2, .int 0, .int 2, .int 1, .int 3]) := by
      obtain ⟨_, _, c⟩ := d6
      exact c.2 _ _ (h4.ne_of_new hp (g, .lst (l3.map V.int)) (by simp)).symm upd_same
    obtain ⟨l6, B6, hl6, s6, h6, _⟩ := h5.dr0 d6
    obtain ⟨n, hn, hn3⟩ := seven j hj
    refine ⟨p, _, _, _, rfl, rfl, SqL.of hp6, atI_nat hn, D2, _, _, rfl, rfl, h6.r2, by rw [List.length_map, sizeLine_eq]; omega, _, _, _, nm ++ [x], ns ++ [n], rfl, hl6, by rw [List.length_append, en]; rfl, by rw [List.length_append, es]; rfl, ?_, fun y hy => ?_, fun y hy => ?_, (sB.trans s3).trans s6, ?_⟩
    · exact List.nodup_append.mpr ⟨nd, by simp, fun a ha b hb => by rw [List.mem_singleton.mp hb]; exact fun z => hxn (z ▸ ha)⟩
    · rcases List.mem_append.mp hy with hy | hy
      · exact wd y hy
      · rw [List.mem_singleton.mp hy]; exact hx
    · rcases List.mem_append.mp hy with hy | hy
      · exact n3 y hy
      · rw [List.mem_singleton.mp hy]; exact hn3
    · rw [List.map_append, vN, List.map_append]
      exact h6.w2
  · rintro σ H2 ⟨t4, B, l, nm, ns, rfl, hl, en, es, nd, wd, n3, sB, hh⟩
    refine ⟨_, rfl, D2, _, rfl, .inl (SqL.of hh.r2), rfl, all_nats ns, _, rfl, ?_⟩
    show if (!inV (V.int ((0 : Nat) : Int)) (vN ns)) = true then _ else _
    rw [inV_nat]
    refine if_ndec (fun c => ?_) (fun c => ?_)
    · refine ⟨_, rfl, _, rfl, D2, _, rfl, .inl (SqL.of hh.r2), g, ns.length, by rw [vN, List.length_map], hh.bag hl, by omega, by omega, fun j H3 hj d3 => ?_⟩
      obtain ⟨l3, B3, hl3, s3, h3, _⟩ := hh.dr0 d3
      refine ⟨_, rfl, _, rfl, D2, _, _, j, rfl, rfl, h3.r2, ixN_nat (by rw [List.length_map]; exact hj), ?_⟩
      refine hf D1 D2 _ _ _ B3 l3 nm (ns.set j 0) hl3 (by rw [List.length_set]; omega) (by omega) (by omega) nd wd (fun y hy => ?_) ?_ (sB.trans s3) ?_
      · rcases List.mem_or_eq_of_mem_set hy with hy | hy
        · exact n3 y hy
        · omega
      · exact List.mem_iff_getElem.mpr ⟨j, by rw [List.length_set]; exact hj, List.getElem_set_self ..⟩
      · rw [← vN_set]
        exact h3.w2
    · exact hf D1 D2 _ _ _ B l nm ns hl (by omega) (by omega) (by omega) nd wd n3 c sB hh
end
end Sy
namespace Sy
open PySem PySem.Spec PyProof.Rows L2
/-- the law's rows as a list at q -/
def RL (K : PySem.W.Frag) (H : Hp) (q : Addr) (rows : List Sy.Row) : Prop := ∃ ps : List Addr, H q = some (.lst (ps.map V.ref)) ∧ Paired (fun p (r : Sy.Row) => SqT K H p [.str r.1, .int (r.2 : Nat)]) ps rows
theorem RL.mono {K : PySem.W.Frag} {H H' : Hp} {q : Addr} {rows : List Sy.Row} (h : RL K H q rows) (s : Same H H') : RL K H' q rows := by
  obtain ⟨ps, h1, h2⟩ := h
  exact ⟨ps, s _ _ h1, Paired.mapP h2 fun _ _ z => Same.sqt s z⟩
theorem sqt_delL {K : PySem.W.Frag} {H : Hp} {g p : Addr} {xs ys : List V} (h : SqT K H p xs) (hg : H g = some (.lst ys)) : SqT K (L2.del H g) p xs := (stay_del hg).sqt h
theorem RL.del {K : PySem.W.Frag} {H : Hp} {q g : Addr} {rows : List Sy.Row} {ys : List V} (h : RL K H q rows) (ne : q ≠ g) (hg : H g = some (.lst ys)) : RL K (L2.del H g) q rows := by
  obtain ⟨ps, h1, h2⟩ := h
  exact ⟨ps, by rw [del_ne ne]; exact h1, Paired.mapP h2 fun _ _ z => sqt_delL z hg⟩
/-- the number of branches, -1 if it is no kind -/
def numb (rows : List Sy.Row) (x : Str) : Int := match rows.lookup x with
  | some n => (n : Int)
  | none => -1
theorem numb_ar {rows : List Sy.Row} {x : Str} (h : isK rows x = true) : numb rows x = (ar rows x : Nat) := by
  unfold numb ar
  unfold isK at h
  cases e : rows.lookup x with
  | none => rw [e] at h; cases h
  | some n => rfl
section
variable {P : Program} {w : World} {K : PySem.W.Frag} {mg : Str → Option Value} {base : Heap}
/-! _law_bag -/
def spBag (K : PySem.W.Frag) : Sp := fun vs H Q _ => ∃ (s : Addr) (zs : List Int), vs = [.ref s] ∧ SqL K H s (zs.map V.int) ∧ zs.length ≤ 100000 ∧ ∀ g H', H g = none → Same H H' → Bag g H' → Q (.ref g) H'
abbrev N_bag : List Str := ["_law_script", "_law_cell"]
theorem sc_bag : FnScope N_bag ["_law_script"] (defScope (top 41)) := ⟨rfl, rfl, rfl, by decide +kernel, rfl, by decide +kernel, by decide +kernel⟩
theorem k_bag (T : Txt K mg) (F : DF K mg "_law_bag" 41) : Cal P w K mg base 1 "_law_bag" ["_law_script"] (spBag K) := by
  refine cal_of F.1 F.2 sc_bag (fun _ _ _ _ _ _ us e => match us, e with | [_], _ => rfl) (fun vs H Q E s => by obtain ⟨_, _, rfl, _⟩ := s; rfl) ?_
  intro cdv A outer s H vs Q E hr h
  obtain ⟨sa, zs, rfl, hs, hl, hq⟩ := h
  have sc := sc_bag
  refine ⟨_, (pss_one (ps_ret (pe_op op_cat (pe_lst (pa_cons pe_int (pa_cons pe_int (pa_cons pe_int (pa_cons pe_int pa_nil))))) (pe_lc (own := [("_law_cell", 1)]) (g := gName 1) rfl sc.nd (pi_list (pv 0)) (blkOk_by (N := N_bag) (sc := defScope (top 41)) (by decide +kernel)) (fun _ _ _ _ _ => (pg_name (i := 1) sc.nd rfl (Or.inl rfl))) (fun _ _ _ _ _ => pts_nil) (fun _ _ _ _ _ => (pe_callB call_abs (by rfl) T.abs (by decide +kernel) (pa_cons (pe_callTy call_int1 (by rfl) T.int (by decide +kernel) (pa_cons (pv 1) pa_nil)) pa_nil))))))), ?_⟩
  refine ⟨(by show 4 ≤ sizeLine; decide), fun p hp => ?_⟩
  have h1 := (Hs.start H).new (o := .lst [.int 0, .int 0, .int 0, .int 4]) hp
  refine ⟨_, rfl, sa, rfl, ⟨_, Same.seq h1.sub hs⟩, fun D hD => lc_it walk_list (fun i H' => ∃ ys : List Int, ys.length = i ∧ (∀ y ∈ ys, 0 ≤ y) ∧ Hs H [(D, .lst (ys.map V.int)), (p, .lst [.int 0, .int 0, .int 0, .int 4])] H') ⟨[], rfl, fun _ z => (nomatch z), h1.new hD⟩ (fun _ _ _ ⟨_, _, _, z⟩ => Same.seq z.sub hs) ?_ ?_⟩
  · rintro i v H2 _ hi ⟨ys, hy, hp0, hh⟩ ⟨rfl, hv⟩
    obtain ⟨z, _, rfl⟩ := map_at hv
    rw [List.length_map] at hi
    refine ⟨rfl, ?_⟩
    simp only [tYes, if_true]
    refine ⟨_, rfl, .inl ⟨z, rfl, z, rfl, _, hh.r0, by rw [List.length_map, sizeLine_eq]; omega, ys ++ [if z < 0 then -z else z], by rw [List.length_append, hy]; rfl, fun y hy => ?_, ?_⟩⟩
    · rcases List.mem_append.mp hy with hy | hy
      · exact hp0 y hy
      · rw [List.mem_singleton.mp hy]
        split <;> omega
    · rw [List.map_append]
      exact hh.w0
  · rintro H2 ⟨ys, hy, hp0, hh⟩
    rw [List.length_map] at hy
    refine ⟨p, D, _, _, rfl, rfl, hh.r1, hh.r0, by rw [List.length_map, sizeLine_eq]; show 4 + _ ≤ _; omega, fun g hg => hq g _ (hh.sub.free hg) (hh.sub.trans (up_same hg)) ⟨0 :: 0 :: 0 :: 4 :: ys, ⟨0, 0, 0, 4, ys, rfl, by decide, by decide, hp0⟩, upd_same⟩⟩
/-! _law_bed -/
def spBed (K : PySem.W.Frag) : Sp := fun vs H Q _ => ∃ (q : Addr) (rows : List Sy.Row), vs = [.ref q] ∧ RL K H q rows ∧ RowsOk rows ∧ 0 < rows.length ∧ ∀ H' a, Same H H' → BedAt K H' a rows → Q (.ref a) H'
theorem sc_bed : FnScope ["_law_rows_here"] ["_law_rows_here"] (defScope (top 46)) := ⟨rfl, rfl, rfl, by decide +kernel, rfl, by decide +kernel, by decide +kernel⟩
theorem k_bed (T : Txt K mg) (M : Mk K (He.ga K "Bed") (He.ma K (He.ga K "Bed") "__init__")) (at_ : mg "Bed" = some (.ref (He.ga K "Bed"))) (FI : FnR P w K mg base (L2.CX P w) 3 (He.ma K (He.ga K "Bed") "__init__") (spStar 1 (spInitB K))) (F : DF K mg "_law_bed" 46) :
    Cal P w K mg base 5 "_law_bed" ["_law_rows_here"] (spBed K) := by
  refine cal_of F.1 F.2 sc_bed (fun _ _ _ _ _ _ us e => match us, e with | [_], _ => rfl) (fun vs H Q E s => by obtain ⟨_, _, rfl, _⟩ := s; rfl) ?_
  intro cdv A outer s H vs Q E hr h
  obtain ⟨q, rows, rfl, ⟨ps, hL, hp⟩, ok, hpos, hq⟩ := h
  have hpl := paired_len hp
  have hle := ok.le
  refine ⟨_, (pss_cons (ps_if (pt_cmpR op_eq (pe_callB call_len_seq (by rfl) T.len (by decide +kernel) (pa_cons (pv 0) pa_nil)) pe_int (nomark _))
        (pss_one (ps_ret (pe_bed M at_ FI hr (pa_cons (pe_ix ix_list (pv 0) pe_int (fun _ _ => rfl)) pa_nil))))
        pss_nil)
      (pss_cons (ps_if (pt_cmpR op_eq (pe_callB call_len_seq (by rfl) T.len (by decide +kernel) (pa_cons (pv 0) pa_nil)) pe_int (nomark _))
        (pss_one (ps_ret (pe_bed M at_ FI hr (pa_cons (pe_ix ix_list (pv 0) pe_int (fun _ _ => rfl)) (pa_cons (pe_ix ix_list (pv 0) pe_int (fun _ _ => rfl)) pa_nil)))))
        pss_nil)
      (pss_cons (ps_if (pt_cmpR op_eq (pe_callB call_len_seq (by rfl) T.len (by decide +kernel) (pa_cons (pv 0) pa_nil)) pe_int (nomark _))
        (pss_one (ps_ret (pe_bed M at_ FI hr (pa_cons (pe_ix ix_list (pv 0) pe_int (fun _ _ => rfl)) (pa_cons (pe_ix ix_list (pv 0) pe_int (fun _ _ => rfl)) (pa_cons (pe_ix ix_list (pv 0) pe_int (fun _ _ => rfl)) pa_nil))))))
        pss_nil)
      (pss_cons (ps_if (pt_cmpR op_eq (pe_callB call_len_seq (by rfl) T.len (by decide +kernel) (pa_cons (pv 0) pa_nil)) pe_int (nomark _))
        (pss_one (ps_ret (pe_bed M at_ FI hr (pa_cons (pe_ix ix_list (pv 0) pe_int (fun _ _ => rfl)) (pa_cons (pe_ix ix_list (pv 0) pe_int (fun _ _ => rfl)) (pa_cons (pe_ix ix_list (pv 0) pe_int (fun _ _ => rfl)) (pa_cons (pe_ix ix_list (pv 0) pe_int (fun _ _ => rfl)) pa_nil)))))))
        pss_nil)
      (pss_cons (ps_if (pt_cmpR op_eq (pe_callB call_len_seq (by rfl) T.len (by decide +kernel) (pa_cons (pv 0) pa_nil)) pe_int (nomark _))
        (pss_one (ps_ret (pe_bed M at_ FI hr (pa_cons (pe_ix ix_list (pv 0) pe_int (fun _ _ => rfl)) (pa_cons (pe_ix ix_list (pv 0) pe_int (fun _ _ => rfl)) (pa_cons (pe_ix ix_list (pv 0) pe_int (fun _ _ => rfl)) (pa_cons (pe_ix ix_list (pv 0) pe_int (fun _ _ => rfl)) (pa_cons (pe_ix ix_list (pv 0) pe_int (fun _ _ => rfl)) pa_nil))))))))
        pss_nil)
      (pss_cons (ps_if (pt_cmpR op_eq (pe_callB call_len_seq (by rfl) T.len (by decide +kernel) (pa_cons (pv 0) pa_nil)) pe_int (nomark _))
        (pss_one (ps_ret (pe_bed M at_ FI hr (pa_cons (pe_ix ix_list (pv 0) pe_int (fun _ _ => rfl)) (pa_cons (pe_ix ix_list (pv 0) pe_int (fun _ _ => rfl)) (pa_cons (pe_ix ix_list (pv 0) pe_int (fun _ _ => rfl)) (pa_cons (pe_ix ix_list (pv 0) pe_int (fun _ _ => rfl)) (pa_cons (pe_ix ix_list (pv 0) pe_int (fun _ _ => rfl)) (pa_cons (pe_ix ix_list (pv 0) pe_int (fun _ _ => rfl)) pa_nil)))))))))
        pss_nil)
      (pss_cons (ps_if (pt_cmpR op_eq (pe_callB call_len_seq (by rfl) T.len (by decide +kernel) (pa_cons (pv 0) pa_nil)) pe_int (nomark _))
        (pss_one (ps_ret (pe_bed M at_ FI hr (pa_cons (pe_ix ix_list (pv 0) pe_int (fun _ _ => rfl)) (pa_cons (pe_ix ix_list (pv 0) pe_int (fun _ _ => rfl)) (pa_cons (pe_ix ix_list (pv 0) pe_int (fun _ _ => rfl)) (pa_cons (pe_ix ix_list (pv 0) pe_int (fun _ _ => rfl)) (pa_cons (pe_ix ix_list (pv 0) pe_int (fun _ _ => rfl)) (pa_cons (pe_ix ix_list (pv 0) pe_int (fun _ _ => rfl)) (pa_cons (pe_ix ix_list (pv 0) pe_int (fun _ _ => rfl)) pa_nil))))))))))
        pss_nil)
      (pss_one (ps_ret (pe_bed M at_ FI hr (pa_cons (pe_ix ix_list (pv 0) pe_int (fun _ _ => rfl)) (pa_cons (pe_ix ix_list (pv 0) pe_int (fun _ _ => rfl)) (pa_cons (pe_ix ix_list (pv 0) pe_int (fun _ _ => rfl)) (pa_cons (pe_ix ix_list (pv 0) pe_int (fun _ _ => rfl)) (pa_cons (pe_ix ix_list (pv 0) pe_int (fun _ _ => rfl)) (pa_cons (pe_ix ix_list (pv 0) pe_int (fun _ _ => rfl)) (pa_cons (pe_ix ix_list (pv 0) pe_int (fun _ _ => rfl)) (pa_cons (pe_ix ix_list (pv 0) pe_int (fun _ _ => rfl)) pa_nil)))))))))))))))))), ?_⟩
  refine ⟨_, rfl, q, _, rfl, .inl (SqL.of hL), rfl, _, rfl, if_dec (fun c => ?_) (fun c1 => ?_)⟩
  · have en : ps.length = 1 := by
      have := V.int.inj c
      rw [List.length_map] at this
      omega
    obtain ⟨p0, rfl⟩ : ∃ p0, ps = [p0] := by
      match ps, en with
      | [p0], _ => exact ⟨_, rfl⟩
    exact ⟨_, rfl, q, _, _, _, rfl, rfl, SqL.of hL, atI_nat (j := 0) rfl, bed_of (ps := [p0]) rfl hp ok hq⟩
  refine ⟨_, rfl, q, _, rfl, .inl (SqL.of hL), rfl, _, rfl, if_dec (fun c => ?_) (fun c2 => ?_)⟩
  · have en : ps.length = 2 := by
      have := V.int.inj c
      rw [List.length_map] at this
      omega
    obtain ⟨p0, p1, rfl⟩ : ∃ p0 p1, ps = [p0, p1] := by
      match ps, en with
      | [p0, p1], _ => exact ⟨_, _, rfl⟩
    exact ⟨_, rfl, q, _, _, _, rfl, rfl, SqL.of hL, atI_nat (j := 0) rfl, _, rfl, q, _, _, _, rfl, rfl, SqL.of hL, atI_nat (j := 1) rfl, bed_of (ps := [p0, p1]) rfl hp ok hq⟩
  refine ⟨_, rfl, q, _, rfl, .inl (SqL.of hL), rfl, _, rfl, if_dec (fun c => ?_) (fun c3 => ?_)⟩
  · have en : ps.length = 3 := by
      have := V.int.inj c
      rw [List.length_map] at this
      omega
    obtain ⟨p0, p1, p2, rfl⟩ : ∃ p0 p1 p2, ps = [p0, p1, p2] := by
      match ps, en with
      | [p0, p1, p2], _ => exact ⟨_, _, _, rfl⟩
    exact ⟨_, rfl, q, _, _, _, rfl, rfl, SqL.of hL, atI_nat (j := 0) rfl, _, rfl, q, _, _, _, rfl, rfl, SqL.of hL, atI_nat (j := 1) rfl, _, rfl, q, _, _, _, rfl, rfl, SqL.of hL, atI_nat (j := 2) rfl, bed_of (ps := [p0, p1, p2]) rfl hp ok hq⟩
  refine ⟨_, rfl, q, _, rfl, .inl (SqL.of hL), rfl, _, rfl, if_dec (fun c => ?_) (fun c4 => ?_)⟩
  · have en : ps.length = 4 := by
      have := V.int.inj c
      rw [List.length_map] at this
      omega
    obtain ⟨p0, p1, p2, p3, rfl⟩ : ∃ p0 p1 p2 p3, ps = [p0, p1, p2, p3] := by
      match ps, en with
      | [p0, p1, p2, p3], _ => exact ⟨_, _, _, _, rfl⟩
    exact ⟨_, rfl, q, _, _, _, rfl, rfl, SqL.of hL, atI_nat (j := 0) rfl, _, rfl, q, _, _, _, rfl, rfl, SqL.of hL, atI_nat (j := 1) rfl, _, rfl, q, _, _, _, rfl, rfl, SqL.of hL, atI_nat (j := 2) rfl, _, rfl, q, _, _, _, rfl, rfl, SqL.of hL, atI_nat (j := 3) rfl, bed_of (ps := [p0, p1, p2, p3]) rfl hp ok hq⟩
  refine ⟨_, rfl, q, _, rfl, .inl (SqL.of hL), rfl, _, rfl, if_dec (fun c => ?_) (fun c5 => ?_)⟩
  · have en : ps.length = 5 := by
      have := V.int.inj c
      rw [List.length_map] at this
      omega
    obtain ⟨p0, p1, p2, p3, p4, rfl⟩ : ∃ p0 p1 p2 p3 p4, ps = [p0, p1, p2, p3, p4] := by
      match ps, en with
      | [p0, p1, p2, p3, p4], _ => exact ⟨_, _, _, _, _, rfl⟩
    exact ⟨_, rfl, q, _, _, _, rfl, rfl, SqL.of hL, atI_nat (j := 0) rfl, _, rfl, q, _, _, _, rfl, rfl, SqL.of hL, atI_nat (j := 1) rfl, _, rfl, q, _, _, _, rfl, rfl, SqL.of hL, atI_nat (j := 2) rfl, _, rfl, q, _, _, _, rfl, rfl, SqL.of hL, atI_nat (j := 3) rfl, _, rfl, q, _, _, _, rfl, rfl, SqL.of hL, atI_nat (j := 4) rfl, bed_of (ps := [p0, p1, p2, p3, p4]) rfl hp ok hq⟩
  refine ⟨_, rfl, q, _, rfl, .inl (SqL.of hL), rfl, _, rfl, if_dec (fun c => ?_) (fun c6 => ?_)⟩
  · have en : ps.length = 6 := by
      have := V.int.inj c
      rw [List.length_map] at this
      omega
    obtain ⟨p0, p1, p2, p3, p4, p5, rfl⟩ : ∃ p0 p1 p2 p3 p4 p5, ps = [p0, p1, p2, p3, p4, p5] := by
      match ps, en with
      | [p0, p1, p2, p3, p4, p5], _ => exact ⟨_, _, _, _, _, _, rfl⟩
    exact ⟨_, rfl, q, _, _, _, rfl, rfl, SqL.of hL, atI_nat (j := 0) rfl, _, rfl, q, _, _, _, rfl, rfl, SqL.of hL, atI_nat (j := 1) rfl, _, rfl, q, _, _, _, rfl, rfl, SqL.of hL, atI_nat (j := 2) rfl, _, rfl, q, _, _, _, rfl, rfl, SqL.of hL, atI_nat (j := 3) rfl, _, rfl, q, _, _, _, rfl, rfl, SqL.of hL, atI_nat (j := 4) rfl, _, rfl, q, _, _, _, rfl, rfl, SqL.of hL, atI_nat (j := 5) rfl, bed_of (ps := [p0, p1, p2, p3, p4, p5]) rfl hp ok hq⟩
  refine ⟨_, rfl, q, _, rfl, .inl (SqL.of hL), rfl, _, rfl, if_dec (fun c => ?_) (fun c7 => ?_)⟩
  · have en : ps.length = 7 := by
      have := V.int.inj c
      rw [List.length_map] at this
      omega
    obtain ⟨p0, p1, p2, p3, p4, p5, p6, rfl⟩ : ∃ p0 p1 p2 p3 p4 p5 p6, ps = [p0, p1, p2, p3, p4, p5, p6] := by
      match ps, en with
      | [p0, p1, p2, p3, p4, p5, p6], _ => exact ⟨_, _, _, _, _, _, _, rfl⟩
    exact ⟨_, rfl, q, _, _, _, rfl, rfl, SqL.of hL, atI_nat (j := 0) rfl, _, rfl, q, _, _, _, rfl, rfl, SqL.of hL, atI_nat (j := 1) rfl, _, rfl, q, _, _, _, rfl, rfl, SqL.of hL, atI_nat (j := 2) rfl, _, rfl, q, _, _, _, rfl, rfl, SqL.of hL, atI_nat (j := 3) rfl, _, rfl, q, _, _, _, rfl, rfl, SqL.of hL, atI_nat (j := 4) rfl, _, rfl, q, _, _, _, rfl, rfl, SqL.of hL, atI_nat (j := 5) rfl, _, rfl, q, _, _, _, rfl, rfl, SqL.of hL, atI_nat (j := 6) rfl, bed_of (ps := [p0, p1, p2, p3, p4, p5, p6]) rfl hp ok hq⟩
  have en : ps.length = 8 := by
    have d1 : ps.length ≠ 1 := fun z => c1 (by rw [List.length_map, z]; rfl)
    have d2 : ps.length ≠ 2 := fun z => c2 (by rw [List.length_map, z]; rfl)
    have d3 : ps.length ≠ 3 := fun z => c3 (by rw [List.length_map, z]; rfl)
    have d4 : ps.length ≠ 4 := fun z => c4 (by rw [List.length_map, z]; rfl)
    have d5 : ps.length ≠ 5 := fun z => c5 (by rw [List.length_map, z]; rfl)
    have d6 : ps.length ≠ 6 := fun z => c6 (by rw [List.length_map, z]; rfl)
    have d7 : ps.length ≠ 7 := fun z => c7 (by rw [List.length_map, z]; rfl)
    omega
  obtain ⟨p0, p1, p2, p3, p4, p5, p6, p7, rfl⟩ : ∃ p0 p1 p2 p3 p4 p5 p6 p7, ps = [p0, p1, p2, p3, p4, p5, p6, p7] := by
    match ps, en with
    | [p0, p1, p2, p3, p4, p5, p6, p7], _ => exact ⟨_, _, _, _, _, _, _, _, rfl⟩
  exact ⟨_, rfl, q, _, _, _, rfl, rfl, SqL.of hL, atI_nat (j := 0) rfl, _, rfl, q, _, _, _, rfl, rfl, SqL.of hL, atI_nat (j := 1) rfl, _, rfl, q, _, _, _, rfl, rfl, SqL.of hL, atI_nat (j := 2) rfl, _, rfl, q, _, _, _, rfl, rfl, SqL.of hL, atI_nat (j := 3) rfl, _, rfl, q, _, _, _, rfl, rfl, SqL.of hL, atI_nat (j := 4) rfl, _, rfl, q, _, _, _, rfl, rfl, SqL.of hL, atI_nat (j := 5) rfl, _, rfl, q, _, _, _, rfl, rfl, SqL.of hL, atI_nat (j := 6) rfl, _, rfl, q, _, _, _, rfl, rfl, SqL.of hL, atI_nat (j := 7) rfl, bed_of (ps := [p0, p1, p2, p3, p4, p5, p6, p7]) rfl hp ok hq⟩
/-! _law_number -/
def spNum (K : PySem.W.Frag) : Sp := fun vs H Q _ => ∃ (q : Addr) (rows : List Sy.Row) (x : Str), vs = [.ref q, .str x] ∧ RL K H q rows ∧ Q (.int (numb rows x)) H
abbrev N_num : List Str := ["_law_rows_here", "_law_word_here", "_law_row"]
theorem sc_num : FnScope N_num ["_law_rows_here", "_law_word_here"] (defScope (top 47)) := ⟨rfl, rfl, rfl, by decide +kernel, rfl, by decide +kernel, by decide +kernel⟩
theorem numb_cons (r : Sy.Row) (l : List Sy.Row) (x : Str) : numb (r :: l) x = if r.1 = x then (r.2 : Int) else numb l x := by
  unfold numb
  rw [lookup_cons]
  by_cases h : r.1 = x
  · rw [if_pos h, if_pos h]
  · rw [if_neg h, if_neg h]
theorem k_num (T : Txt K mg) (F : DF K mg "_law_number" 47) : Cal P w K mg base 1 "_law_number" ["_law_rows_here", "_law_word_here"] (spNum K) := by
  refine cal_of F.1 F.2 sc_num (fun _ _ _ _ _ _ us e => match us, e with | [_, _], _ => rfl) (fun vs H Q E s => by obtain ⟨_, _, _, rfl, _⟩ := s; rfl) ?_
  intro cdv A outer s H vs Q E hr h
  obtain ⟨q, rows, x, rfl, ⟨ps, hL, hp⟩, hq⟩ := h
  have sc := sc_num
  have hpl := paired_len hp
  refine ⟨_, (pss_cons (ps_for (passes_of rfl) rfl (pi_list (pv 0)) (pg_name (i := 2) sc.nd rfl (Or.inl rfl))
        (pss_one (ps_if (pt_cmpR op_eq (pe_ix ix_tup (pv 2) pe_int (fun _ _ => rfl)) (pv 1) (nomark _))
          (pss_one (ps_ret (pe_ix ix_tup (pv 2) pe_int (fun _ _ => rfl))))
          pss_nil)))
      (pss_one (ps_ret (pe_un un_neg pe_int)))), ?_⟩
  refine ⟨_, rfl, q, rfl, ⟨_, SqL.of hL⟩, for_list (K := K) (xs := ps.map V.ref) (fun i σ H' => ∃ t2, σ = [some (.ref q), some (.str x), t2] ∧ H' = H ∧ numb (rows.drop i) x = numb rows x) ⟨none, rfl, rfl, by rw [List.drop_zero]⟩ (fun _ _ _ _ ⟨_, _, e, _⟩ => e ▸ SqL.of hL) ?_ ?_⟩
  · rintro i v σ _ hv ⟨t2, rfl, rfl, e⟩
    obtain ⟨p, ep, rfl⟩ := map_at hv
    have hi : i < rows.length := by rw [← hpl]; exact (List.getElem?_eq_some_iff.mp ep).1
    obtain ⟨r, er⟩ : ∃ r, rows[i]? = some r := ⟨_, List.getElem?_eq_getElem hi⟩
    obtain ⟨p2, ep2, tp⟩ := paired_at hp er
    rw [ep] at ep2
    cases ep2
    rw [drop_of er, numb_cons] at e
    refine ⟨_, rfl, p, _, _, _, rfl, rfl, tp, atI_nat (j := 0) rfl, _, rfl, rfl, _, rfl, if_dec (fun c => ?_) (fun c => ?_)⟩
    · rw [if_pos (V.str.inj c)] at e
      rw [← e] at hq
      exact ⟨_, rfl, p, _, _, _, rfl, rfl, tp, atI_nat (j := 1) rfl, hq⟩
    · rw [if_neg (fun z => c (by rw [z]))] at e
      exact ⟨_, rfl, rfl, e⟩
  · rintro σ _ ⟨t2, rfl, rfl, e⟩
    rw [List.length_map, hpl, List.drop_length] at e
    have e : (-1 : Int) = numb rows x := e
    rw [← e] at hq
    exact ⟨_, rfl, hq⟩
end
end Sy
namespace Sy
open PySem PySem.Spec PyProof.Rows L2
theorem Dr.same {g : Addr} {H H1 H2 : Hp} (d : Dr g H H1) (s : Same H1 H2) : Dr g H H2 := by
  obtain ⟨l, hl, c⟩ := d
  exact ⟨l, hl, s _ _ c.1, fun a w n e => s _ _ (c.2 a w n e)⟩
theorem Dr.trans {g : Addr} {H H1 H2 : Hp} (a : Dr g H H1) (b : Dr g H1 H2) : Dr g H H2 := by
  obtain ⟨l, _, c⟩ := a
  obtain ⟨m, hm, d⟩ := b
  exact ⟨m, hm, Chg.trans c d⟩
theorem Dr.bag {g : Addr} {H H1 : Hp} (d : Dr g H H1) : Bag g H1 := by
  obtain ⟨l, hl, c⟩ := d
  exact ⟨l, hl, c.1⟩
/-- a comprehension over a list, with a test; nothing else is made -/
theorem lc_filt {K : PySem.W.Frag} {α : Type} {a : Addr} {xs : List α} {f out : α → V} {keep : α → Bool} {si : Nat} {tt : TT} {te : TE} {σ : L2.St} {H B : Hp} {L : List (Addr × HO)} {D : Addr} {Qd : Hp → Prop} (h : Hs B L H) (hD : H D = none) (ha : B a = some (.lst (xs.map f))) (hsz : xs.length ≤ 100000)
    (hs : ∀ x ∈ xs, ∀ H', Same B H' → ∀ (R1 : VK) (R2 : Hp → Prop), (keep x = true → R1 (out x) H') → (keep x = false → R2 H') → tt ((wipe σ [si]).set si (some (f x))) H' fun b H3 => if b = true then te ((wipe σ [si]).set si (some (f x))) H3 R1 else R2 H3)
    (hd : ∀ H', Hs B ((D, .lst ((xs.filter keep).map out)) :: L) H' → Qd H') : LcW (Itl K a) (gName si) tt te [si] σ H D Qd := by
  refine lc_it (walk_list (K := K) (a := a) (xs := xs.map f)) (fun i H' => Hs B ((D, .lst (((xs.take i).filter keep).map out)) :: L) H') (h.new hD) (fun _ _ _ z => SqL.of (z.sub _ _ ha)) ?_ ?_
  · rintro i v _ H2 hi hh ⟨rfl, hv⟩
    obtain ⟨x, hx, rfl⟩ := map_at hv
    rw [List.length_map] at hi
    have et : xs.take (i + 1) = xs.take i ++ [x] := by rw [List.take_succ, hx]; rfl
    have hl : ((xs.take i).filter keep).length ≤ i := by
      have := List.length_filter_le keep (xs.take i)
      rw [List.length_take] at this
      omega
    refine ⟨(by show (σ.set si none |>.set si _).set si none = σ.set si none; rw [List.set_set, List.set_set]), ?_⟩
    refine hs x (List.mem_of_getElem? hx) H2 hh.sub _ _ (fun c => ?_) (fun c => ?_)
    · refine ⟨_, hh.r0, by rw [List.length_map, sizeLine_eq]; omega, ?_⟩
      rw [et, List.filter_append, List.map_append]
      have : [x].filter keep = [x] := by simp [c]
      rw [this]
      exact hh.w0
    · rw [et, List.filter_append]
      have : [x].filter keep = [] := by simp [c]
      rw [this, List.append_nil]
      exact hh
  · intro H' hh
    rw [List.length_map, List.take_length] at hh
    exact hd H' hh
theorem lookup_mem {rows : List Sy.Row} (nd : (rows.map (·.1)).Nodup) {r : Sy.Row} (hr : r ∈ rows) : rows.lookup r.1 = some r.2 := by
  induction rows with
  | nil => cases hr
  | cons q rs ih =>
    rw [List.map_cons, List.nodup_cons] at nd
    rw [lookup_cons]
    rcases List.mem_cons.mp hr with rfl | hr
    · rw [if_pos rfl]
    · rw [if_neg, ih nd.2 hr]
      exact fun z => nd.1 (by rw [z]; exact List.mem_map_of_mem hr)
/-- words as the law makes them -/
def Wx (x : Str) : Prop := x.cps.toList.length ≤ 10 ∧ ∀ c ∈ x.cps.toList, c < 1000
theorem Wd.wx {x : Str} (h : Wd x) : Wx x := ⟨by have := h.2.1; omega, fun c hc => by have := (h.2.2 c hc).2; omega⟩
theorem Wx.hole : Wx "*" := ⟨by decide +kernel, by decide +kernel⟩
/-- a row of words at p -/
structure Rw (K : PySem.W.Frag) (H : Hp) (p : Addr) (l : List Str) : Prop where
  sq : SqT K H p (l.map V.str)
  nd : NoD H p
  wx : ∀ x ∈ l, Wx x
/-- an entry with its number of branches -/
structure KdR (rows : List Sy.Row) (r : Sy.Row) : Prop where
  wx : Wx r.1
  kd : isK rows r.1 = true ∨ r.1 ∈ [("*" : Str)]
  ar : ar rows r.1 = r.2
theorem KdR.of {rows : List Sy.Row} (nd : (rows.map (·.1)).Nodup) {r : Sy.Row} (w : Wx r.1) (hr : r ∈ rows) : KdR rows r := by
  have hlk := lookup_mem nd hr
  exact ⟨w, .inl (by unfold isK; rw [hlk]; rfl), by unfold Sy.ar; rw [hlk]; rfl⟩
theorem isK_mem : ∀ {rows : List Sy.Row} {y : Str}, isK rows y = true → ∃ r ∈ rows, r.1 = y
  | [], _, h => by cases h
  | r :: rs, y, h => by
    unfold isK at h
    rw [lookup_cons] at h
    by_cases c : r.1 = y
    · exact ⟨r, List.mem_cons_self, c⟩
    · rw [if_neg c] at h
      obtain ⟨q, hq, e⟩ := isK_mem (rows := rs) (y := y) h
      exact ⟨q, List.mem_cons_of_mem _ hq, e⟩
theorem no_hole {rows : List Sy.Row} (ok : RowsOk rows) : isK rows "*" = false := by
  cases e : isK rows "*" with
  | false => rfl
  | true =>
    obtain ⟨r, hr, h⟩ := isK_mem e
    have := ok.nm r hr
    rw [h] at this
    exact absurd this (by decide +kernel)
theorem KdR.hole {rows : List Sy.Row} (ok : RowsOk rows) : KdR rows ("*", 0) := by
  have := no_hole ok
  refine ⟨Wx.hole, .inr (List.mem_singleton.mpr rfl), ?_⟩
  unfold isK at this
  unfold Sy.ar
  show (rows.lookup ("*" : Str)).getD 0 = 0
  cases e : rows.lookup ("*" : Str) with
  | none => rfl
  | some n => rw [e] at this; cases this
section
variable {P : Program} {w : World} {K : PySem.W.Frag} {mg : Str → Option Value} {base : Heap}
/-! _law_plant -/
def spPlantL (K : PySem.W.Frag) : Sp := fun vs H Q _ => ∃ (g q : Addr) (most : Nat) (wh : Bool) (rows : List Sy.Row), vs = [.ref g, .ref q, .int (most : Nat), .bl wh] ∧ Bag g H ∧ q ≠ g ∧ RL K H q rows ∧ RowsOk rows ∧ (∀ r ∈ rows, Wx r.1) ∧ 1 ≤ most ∧ most ≤ 2000 ∧
  ∀ l p H', 1 ≤ l.length → l.length ≤ most → fa rows ["*"] 1 0 l < 0 → Dr g H H' → Rw K H' p l → Q (.ref p) H'
abbrev N_plantL : List Str := ["_law_bag_here", "_law_rows_here", "_law_most", "_law_with_holes", "_law_menu", "_law_least", "_law_plant_here", "_law_need", "_law_k", "_law_room", "_law_let", "_law_wide", "_law_chosen", "_law_row"]
theorem sc_plantL : FnScope N_plantL ["_law_bag_here", "_law_rows_here", "_law_most", "_law_with_holes"] (defScope (top 48)) := ⟨rfl, rfl, rfl, by decide +kernel, rfl, by decide +kernel, by decide +kernel⟩
def sBody : Stmt → List Stmt
  | .For _ _ b _ _ => b
  | .If _ b _ _ => b
  | .While _ b _ _ => b
  | _ => []
theorem k_plantL (T : Txt K mg) (F : DF K mg "_law_plant" 48) (c_law_draw : Cal P w K mg base 1 "_law_draw" ["_law_bag_here", "_law_size"] spDraw) : Cal P w K mg base 2 "_law_plant" ["_law_bag_here", "_law_rows_here", "_law_most", "_law_with_holes"] (spPlantL K) := by
  refine cal_of F.1 F.2 sc_plantL (fun _ _ _ _ _ _ us e => match us, e with | [_, _, _, _], _ => rfl) (fun vs H Q E s => by obtain ⟨_, _, _, _, _, rfl, _⟩ := s; rfl) ?_
  intro cdv A outer s H vs Q E hr h
  obtain ⟨g, q, most, wh, rows, rfl, hg, hqg, hRL, ok, hwx, hm1, hm2, hq⟩ := h
  have sc := sc_plantL
  -- a knot is drawn out of the list in slot 10
  have last : ∃ t, PSs (cxOf (L2.CX P w) P w K mg base N_plantL "_law_plant" (defScope (top 48)) (He.ga K "_law_plant") cdv A outer s H E) ((sBody ((sBody ((defBody (top 48)).getD 5 (.Pass ⟨0, 0, 0, 0⟩))).getD 0 (.Pass ⟨0, 0, 0, 0⟩))).drop 4) t ∧
      ∀ (D : Ends) (PL E : Addr) (cs : List (Addr × Sy.Row)) (B H1 : Hp) (lb : List Int) (pl : List Str) (need : Int) (t4 t5 t8 t9 t11 t12 : Option V), BagOk lb → 0 < cs.length → cs.length ≤ 9 → B E = some (.lst (cs.map fun z => V.ref z.1)) → (∀ z ∈ cs, SqT K B z.1 [.str z.2.1, .int (z.2.2 : Nat)]) →
        Hs B [(g, .lst (lb.map V.int)), (PL, .lst (pl.map V.str))] H1 → pl.length ≤ 2000 →
        (∀ z ∈ cs, ∀ (B' H' : Hp) (lb' : List Int), BagOk lb' → Same B B' → Hs B' [(g, .lst (lb'.map V.int)), (PL, .lst ((pl ++ [z.2.1]).map V.str))] H' →
          D.nx [some (.ref g), some (.ref q), some (.int (most : Nat)), some (.bl wh), t4, t5, some (.ref PL), some (.int (need + (z.2.2 : Nat) - 1)), t8, t9, some (.ref E), t11, some (.ref z.1), none] H') →
        t D [some (.ref g), some (.ref q), some (.int (most : Nat)), some (.bl wh), t4, t5, some (.ref PL), some (.int need), t8, t9, some (.ref E), t11, t12, none] H1 := by
    refine ⟨_, (pss_cons (ps_set (i := 12) sc.nd rfl (Or.inl rfl) (pe_ix ix_list (pv 10) (pe_cal c_law_draw hr (pa_cons (pv 0) (pa_cons (pe_callB call_len_seq (by rfl) T.len (by decide +kernel) (pa_cons (pv 10) pa_nil)) pa_nil))) (fun _ _ => rfl)))
          (pss_cons (ps_expr (pe_bm PySem.F.plainAttrs_list PySem.F.slot_list_append PySem.F.type_list_append mt_append (pv 6) (pa_cons (pe_ix ix_tup (pv 12) pe_int (fun _ _ => rfl)) pa_nil)))
          (pss_one (ps_set (i := 7) sc.nd rfl (Or.inl rfl) (pe_op op_sub (pe_op op_add (pv 7) (pe_ix ix_tup (pv 12) pe_int (fun _ _ => rfl))) pe_int))))), ?_⟩
    intro D PL E cs B H1 lb pl need t4 t5 t8 t9 t11 t12 hlb hc0 hc8 hE hz hh hpl hnx
    refine ⟨_, rfl, _, rfl, _, rfl, E, _, rfl, .inl (SqL.of (hh.sub _ _ hE)), g, cs.length, by rw [List.length_map], hh.bag hlb, hc0, by omega, fun j H2 hj d2 => ?_⟩
    obtain ⟨l2, B2, hl2, s2, h2, _⟩ := hh.dr0 d2
    obtain ⟨z, ez⟩ : ∃ z, cs[j]? = some z := ⟨_, List.getElem?_eq_getElem hj⟩
    have hm := List.mem_of_getElem? ez
    have tz := Same.sqt (s2.trans h2.sub) (hz z hm)
    refine ⟨E, _, _, _, rfl, rfl, SqL.of (h2.sub _ _ (s2 _ _ hE)), atI_nat (by rw [List.getElem?_map, ez]; rfl), ?_⟩
    refine ⟨_, rfl, .inl ⟨rfl, _, SqL.of h2.r1⟩, _, rfl, z.1, _, _, _, rfl, rfl, tz, atI_nat (j := 0) rfl, PL, _, _, rfl, rfl, h2.r1, by rw [List.length_map, sizeLine_eq]; omega, ?_⟩
    have h3 := h2.w1 (o' := .lst (pl.map V.str ++ [.str z.2.1]))
    have tz3 := Same.sqt (s2.trans h3.sub) (hz z hm)
    refine ⟨_, rfl, _, rfl, z.1, _, _, _, rfl, rfl, tz3, atI_nat (j := 1) rfl, _, _, rfl, rfl, _, _, rfl, rfl, hnx z hm B2 _ l2 hl2 s2 ?_⟩
    rw [List.map_append]
    exact h3
  obtain ⟨tL, pL, hLast⟩ := last
  have rest : ∃ t, PSs (cxOf (L2.CX P w) P w K mg base N_plantL "_law_plant" (defScope (top 48)) (He.ga K "_law_plant") cdv A outer s H E) ((defBody (top 48)).drop 2) t ∧
      ∀ (M : Addr) (pr : List (Addr × Sy.Row)) (B1 H1 : Hp) (l0 : List Int), BagOk l0 → Same (L2.del H g) B1 → Hs B1 [(g, .lst (l0.map V.int))] H1 → B1 M = some (.lst (pr.map fun z => V.ref z.1)) → (∀ z ∈ pr, SqT K B1 z.1 [.str z.2.1, .int (z.2.2 : Nat)]) → (∀ z ∈ pr, KdR rows z.2) → (∃ z ∈ pr, z.2.2 = 0) → pr.length ≤ 9 →
        t { nx := fun _ H' => Q .non H', rt := Q } [some (.ref g), some (.ref q), some (.int (most : Nat)), some (.bl wh), some (.ref M), none, none, none, none, none, none, none, none, none] H1 := by
    refine ⟨_, (pss_cons (ps_set (i := 5) sc.nd rfl (Or.inl rfl) (pe_cal c_law_draw hr (pa_cons (pv 0) (pa_cons (pe_op op_add (pv 2) pe_int) pa_nil))))
      (pss_cons (ps_set (i := 6) sc.nd rfl (Or.inl rfl) (pe_lst pa_nil))
      (pss_cons (ps_set (i := 7) sc.nd rfl (Or.inl rfl) pe_int)
      (pss_cons (ps_for (passes_of rfl) rfl (pi_range1 rfl T.range (pa_cons (pv 2) pa_nil)) (pg_name (i := 8) sc.nd rfl (Or.inl rfl))
        (pss_one (ps_if (pt_cmpR op_gt (pv 7) pe_int (nomark _))
          (pss_cons (ps_set (i := 9) sc.nd rfl (Or.inr rfl) (pe_op op_sub (pe_op op_sub (pv 2) (pe_callB call_len_seq (by rfl) T.len (by decide +kernel) (pa_cons (pv 6) pa_nil))) (pv 7)))
          (pss_cons (ps_setLc (i := 10) (own := [("_law_row", 13)]) (g := gName 13) (tt := tTest (tOp (rI0 fun i j => V.bl (decide (i ≤ j))) (tOp (rIxT K) (tVar 13) (tC (.int 1))) (tVar 9))) rfl sc.nd rfl rfl (sw_true rfl rfl rfl (by decide +kernel)) (pi_list (pv 4)) (blkOk_by (N := N_plantL) (sc := defScope (top 48)) (by decide +kernel)) (fun _ _ _ _ _ => (pg_name (i := 13) sc.nd rfl (Or.inl rfl))) (fun _ _ _ _ _ => (pts_one (pt_cmpR op_le (pe_ix ix_tup (pv 13) pe_int (fun _ _ => rfl)) (pv 9) (nomark _)))) (fun _ _ _ _ _ => (pv 13)))
          (pss_cons (ps_setLc (i := 11) (own := [("_law_row", 13)]) (g := gName 13) (tt := tTest (tOp (rI0 fun i j => V.bl (decide (j < i))) (tOp (rIxT K) (tVar 13) (tC (.int 1))) (tC (.int 0)))) rfl sc.nd rfl rfl (sw_true rfl rfl rfl (by decide +kernel)) (pi_list (pv 10)) (blkOk_by (N := N_plantL) (sc := defScope (top 48)) (by decide +kernel)) (fun _ _ _ _ _ => (pg_name (i := 13) sc.nd rfl (Or.inl rfl))) (fun _ _ _ _ _ => (pts_one (pt_cmpR op_gt (pe_ix ix_tup (pv 13) pe_int (fun _ _ => rfl)) pe_int (nomark _)))) (fun _ _ _ _ _ => (pv 13)))
          (pss_cons (ps_if (PW.pt (pw_and (pt_truth (pv 11) (by intro _; rfl)) (pw_and (pt_cmpR op_eq (pv 7) pe_int (nomark _)) (pw_and1 (pt_cmpR op_lt (pe_op op_add (pe_callB call_len_seq (by rfl) T.len (by decide +kernel) (pa_cons (pv 6) pa_nil)) pe_int) (pv 5) (nomark _))))))
            (pss_one (ps_set (i := 10) sc.nd rfl (Or.inl rfl) (pv 11)))
            pss_nil)
          pL))))
          pss_nil)))
      (pss_one (ps_ret (pe_callTy call_tupZ (by rfl) T.tuple (by decide +kernel) (pa_cons (pv 6) pa_nil)))))))), ?_⟩
    intro M pr B1 H1 l0 hl0 sB1 hB1 hMB zs zw zleaf zlen
    refine ⟨_, rfl, _, rfl, _, _, rfl, rfl, g, most + 1, rfl, hB1.bag hl0, by omega, by omega, fun least H2 hle d2 => ?_⟩
    obtain ⟨l2, B2, hl2, s2, h2, _⟩ := hB1.dr0 d2
    refine ⟨by decide, fun PL hPL => ?_⟩
    have h3 := (h2.new (o := .lst []) hPL).swap
    have sB2 := sB1.trans s2
    refine ⟨_, rfl, _, rfl, by omega, by omega, for_rng (n := most)
      (fun i σ H' => ∃ (need : Nat) (z7 : Int) (t8 t9 t10 t11 t12 : Option V) (B : Hp) (lb : List Int) (pl : List Str), σ = [some (.ref g), some (.ref q), some (.int (most : Nat)), some (.bl wh), some (.ref M), some (.int (least : Nat)), some (.ref PL), some (.int z7), t8, t9, t10, t11, t12, none] ∧ z7 = (need : Nat) ∧ BagOk lb ∧ Same B2 B ∧ Hs B [(g, .lst (lb.map V.int)), (PL, .lst (pl.map V.str))] H' ∧
        pl.length + need ≤ most ∧ (need = 0 ∨ pl.length = i) ∧ 0 < pl.length + need ∧ (∀ x ∈ pl, Wx x) ∧ ∀ v, fa rows ["*"] 1 0 (pl ++ v) = fa rows ["*"] need pl.length v)
      ⟨1, 1, none, none, none, none, none, B2, l2, [], rfl, rfl, hl2, Same.refl _, h3, by show 0 + 1 ≤ most; omega, .inr rfl, by show 0 < 0 + 1; decide, fun _ z => (nomatch z), fun _ => rfl⟩ ?_ ?_⟩
    · rintro i σ H3 hi ⟨need, _, t8, t9, t10, t11, t12, B, lb, pl, rfl, rfl, hlb, sB, hh, hroom, hdone, hps0, hkn, hfo⟩
      refine ⟨_, rfl, _, _, rfl, rfl, _, rfl, if_dec (fun c => ?_) (fun c => ?_)⟩
      · obtain ⟨n, rfl⟩ : ∃ n, need = n + 1 := ⟨need - 1, by omega⟩
        have hpi : pl.length = i := by omega
        obtain ⟨room, hroomE⟩ : ∃ room : Int, room = (most : Int) - ((pl.map V.str).length : Nat) - ((n + 1 : Nat) : Int) := ⟨_, rfl⟩
        have hroom2 : (pl.length : Int) + (n + 1) + room = most := by
          rw [List.length_map] at hroomE
          omega
        have sB3 := s2.trans sB
        have tz : ∀ z ∈ pr, ∀ H', Same B H' → SqT K H' z.1 [.str z.2.1, .int (z.2.2 : Nat)] := fun z hz H' s' => Same.sqt (sB3.trans s') (zs z hz)
        refine ⟨_, rfl, _, rfl, PL, _, rfl, .inl (SqL.of hh.r1), _, _, rfl, rfl, _, rfl, _, _, rfl, rfl, ?_⟩
        refine ⟨_, rfl, M, rfl, ⟨_, SqL.of (hh.sub _ _ (sB _ _ (s2 _ _ hMB)))⟩, fun D1 hD1 => lc_filt (si := 13) (f := fun z : Addr × Sy.Row => V.ref z.1) (out := fun z => V.ref z.1) (keep := fun z => decide ((z.2.2 : Int) ≤ room)) hh hD1 (sB _ _ (s2 _ _ hMB)) (by omega) ?_ ?_⟩
        · intro z hz H' s' R1 R2 k1 k2
          refine ⟨_, rfl, z.1, _, _, _, rfl, rfl, tz z hz H' s', atI_nat (j := 1) rfl, _, rfl, _, _, rfl, rfl, _, rfl, if_dec (fun c => ?_) (fun c => ?_)⟩
          · exact ⟨_, rfl, k1 (decide_eq_true (by omega))⟩
          · exact k2 (decide_eq_false (by omega))
        intro H4 h4
        obtain ⟨s5, h5⟩ := h4.give
        have e5 : (upd B D1 (.lst ((pr.filter fun z => decide ((z.2.2 : Int) ≤ room)).map fun z => V.ref z.1))) D1 = some (.lst ((pr.filter fun z => decide ((z.2.2 : Int) ≤ room)).map fun z => V.ref z.1)) := upd_same
        generalize upd B D1 (.lst ((pr.filter fun z => decide ((z.2.2 : Int) ≤ room)).map fun z => V.ref z.1)) = B5 at *
        generalize hlet : (pr.filter fun z => decide ((z.2.2 : Int) ≤ room)) = lt at *
        have ltm : ∀ z ∈ lt, z ∈ pr ∧ (z.2.2 : Int) ≤ room := fun z hz => by
          rw [← hlet] at hz
          have := List.mem_filter.mp hz
          exact ⟨this.1, of_decide_eq_true this.2⟩
        have ltpos : 0 < lt.length := by
          obtain ⟨z, hz, e⟩ := zleaf
          rw [← hlet]
          exact List.length_pos_of_mem (List.mem_filter.mpr ⟨hz, decide_eq_true (by omega)⟩)
        have ltlen : lt.length ≤ 9 := by
          rw [← hlet]
          have := List.length_filter_le (fun z : Addr × Sy.Row => decide ((z.2.2 : Int) ≤ room)) pr
          omega
        have sB5 := sB3.trans s5
        have tz5 : ∀ z ∈ pr, ∀ H', Same B5 H' → SqT K H' z.1 [.str z.2.1, .int (z.2.2 : Nat)] := fun z hz H' s' => Same.sqt (sB5.trans s') (zs z hz)
        refine ⟨_, rfl, D1, rfl, ⟨_, SqL.of (h5.sub _ _ e5)⟩, fun D2 hD2 => lc_filt (si := 13) (f := fun z : Addr × Sy.Row => V.ref z.1) (out := fun z => V.ref z.1) (keep := fun z => decide (0 < z.2.2)) h5 hD2 e5 (by omega) ?_ ?_⟩
        · intro z hz H' s' R1 R2 k1 k2
          refine ⟨_, rfl, z.1, _, _, _, rfl, rfl, tz5 z (ltm z hz).1 H' s', atI_nat (j := 1) rfl, _, _, rfl, rfl, _, rfl, if_dec (fun c => ?_) (fun c => ?_)⟩
          · exact ⟨_, rfl, k1 (decide_eq_true (by omega))⟩
          · exact k2 (decide_eq_false (by omega))
        intro H6 h6
        obtain ⟨s7, h7⟩ := h6.give
        have e7 : (upd B5 D2 (.lst ((lt.filter fun z => decide (0 < z.2.2)).map fun z => V.ref z.1))) D2 = some (.lst ((lt.filter fun z => decide (0 < z.2.2)).map fun z => V.ref z.1)) := upd_same
        generalize upd B5 D2 (.lst ((lt.filter fun z => decide (0 < z.2.2)).map fun z => V.ref z.1)) = B7 at *
        generalize hwide : (lt.filter fun z => decide (0 < z.2.2)) = wd at *
        have wdm : ∀ z ∈ wd, z ∈ lt := fun z hz => by
          rw [← hwide] at hz
          exact (List.mem_filter.mp hz).1
        have wdlen : wd.length ≤ 9 := by
          rw [← hwide]
          have := List.length_filter_le (fun z : Addr × Sy.Row => decide (0 < z.2.2)) lt
          omega
        have wz : ∀ z ∈ wd, SqT K B7 z.1 [.str z.2.1, .int (z.2.2 : Nat)] := fun z hz => Same.sqt (sB5.trans s7) (zs z (ltm z (wdm z hz)).1)
        have lz : ∀ z ∈ lt, SqT K B7 z.1 [.str z.2.1, .int (z.2.2 : Nat)] := fun z hz => Same.sqt (sB5.trans s7) (zs z (ltm z hz).1)
        have sB7 : Same B2 B7 := (sB.trans s5).trans s7
        have go : ∀ z ∈ lt, ∀ (B' H' : Hp) (lb' : List Int) (x8 x9 x10 x11 x12 : Option V), BagOk lb' → Same B7 B' → Hs B' [(g, .lst (lb'.map V.int)), (PL, .lst ((pl ++ [z.2.1]).map V.str))] H' →
            ∃ (need : Nat) (z7 : Int) (t8 t9 t10 t11 t12 : Option V) (B : Hp) (lb : List Int) (pl' : List Str), [some (.ref g), some (.ref q), some (.int (most : Nat)), some (.bl wh), some (.ref M), some (.int (least : Nat)), some (.ref PL), some (.int (((n + 1 : Nat) : Int) + (z.2.2 : Nat) - 1)), x8, x9, x10, x11, x12, none] = [some (.ref g), some (.ref q), some (.int (most : Nat)), some (.bl wh), some (.ref M), some (.int (least : Nat)), some (.ref PL), some (.int z7), t8, t9, t10, t11, t12, none] ∧ z7 = (need : Nat) ∧ BagOk lb ∧ Same B2 B ∧ Hs B [(g, .lst (lb.map V.int)), (PL, .lst (pl'.map V.str))] H' ∧
              pl'.length + need ≤ most ∧ (need = 0 ∨ pl'.length = i + 1) ∧ 0 < pl'.length + need ∧ (∀ x ∈ pl', Wx x) ∧ ∀ v, fa rows ["*"] 1 0 (pl' ++ v) = fa rows ["*"] need pl'.length v := by
          intro z hz B' H' lb' x8 x9 x10 x11 x12 hlb' s' h'
          have hm := ltm z hz
          have hr2 := hm.2
          refine ⟨n + z.2.2, _, _, _, _, _, _, B', lb', pl ++ [z.2.1], rfl, by omega, hlb', sB7.trans s', h', ?_, .inr ?_, ?_, fun x hx => ?_, fun v => ?_⟩
          · rw [List.length_append]
            show pl.length + 1 + _ ≤ _
            omega
          · rw [List.length_append, hpi]
            rfl
          · rw [List.length_append]
            show 0 < pl.length + 1 + _
            omega
          · rcases List.mem_append.mp hx with hx | hx
            · exact hkn x hx
            · rw [List.mem_singleton.mp hx]
              exact (zw z hm.1).wx
          · obtain ⟨_, k1, k2⟩ := zw z hm.1
            rw [List.append_assoc, hfo]
            show fa rows ["*"] (n + 1) pl.length (z.2.1 :: v) = _
            rw [fa, if_neg (by omega), if_neg (fun y => k1.elim (fun a => by rw [a] at y; cases y.1) fun a => y.2 a), k2, List.length_append]
            rfl
        have byLet : ∀ D : Ends, (∀ z ∈ lt, ∀ (B' H' : Hp) (lb' : List Int), BagOk lb' → Same B7 B' → Hs B' [(g, .lst (lb'.map V.int)), (PL, .lst ((pl ++ [z.2.1]).map V.str))] H' → ∀ x10 x12, D.nx [some (.ref g), some (.ref q), some (.int (most : Nat)), some (.bl wh), some (.ref M), some (.int (least : Nat)), some (.ref PL), some (.int (((n + 1 : Nat) : Int) + (z.2.2 : Nat) - 1)), some (.int (i : Nat)), some (.int ((most : Int) - ((pl.map V.str).length : Nat) - ((n + 1 : Nat) : Int))), x10, some (.ref D2), x12, none] H') →
            tL D [some (.ref g), some (.ref q), some (.int (most : Nat)), some (.bl wh), some (.ref M), some (.int (least : Nat)), some (.ref PL), some (.int ((n + 1 : Nat) : Int)), some (.int (i : Nat)), some (.int ((most : Int) - ((pl.map V.str).length : Nat) - ((n + 1 : Nat) : Int))), some (.ref D1), some (.ref D2), t12, none] H6 := fun D k =>
          hLast D PL D1 lt B7 H6 lb pl _ _ _ _ _ _ _ hlb ltpos ltlen (s7 _ _ e5) lz h7 (by omega) fun z hz B' H' lb' a b c => k z hz B' H' lb' a b c _ _
        refine ⟨_, rfl, _, .inl ⟨_, SqL.of (h7.sub _ _ e7), rfl⟩, if_bool (fun c1 => ?_) (fun c1 => ?_)⟩
        · have wpos : 0 < wd.length := by
            cases wd with
            | nil => simp at c1
            | cons a b => simp
          refine ⟨_, rfl, rfl, _, rfl, if_dec (fun c2 => ?_) (fun c2 => ?_)⟩
          · refine ⟨_, rfl, PL, _, rfl, .inl (SqL.of h7.r1), _, _, rfl, rfl, _, rfl, _, _, rfl, rfl, _, rfl, if_dec (fun c3 => ?_) (fun c3 => ?_)⟩
            · refine ⟨_, rfl, hLast _ PL D2 wd B7 H6 lb pl _ _ _ _ _ _ _ hlb wpos wdlen e7 wz h7 (by omega) fun z hz B' H' lb' a b c => go z (wdm z hz) B' H' lb' _ _ _ _ _ a b c⟩
            · exact byLet _ fun z hz B' H' lb' a b c _ _ => go z hz B' H' lb' _ _ _ _ _ a b c
          · exact byLet _ fun z hz B' H' lb' a b c _ _ => go z hz B' H' lb' _ _ _ _ _ a b c
        · exact byLet _ fun z hz B' H' lb' a b c _ _ => go z hz B' H' lb' _ _ _ _ _ a b c
      · have : need = 0 := by omega
        exact ⟨need, _, _, _, _, _, _, B, lb, pl, rfl, rfl, hlb, sB, hh, hroom, .inl this, hps0, hkn, hfo⟩
    · rintro σ H3 ⟨need, _, t8, t9, t10, t11, t12, B, lb, pl, rfl, rfl, hlb, sB, hh, hroom, hdone, hps0, hkn, hfo⟩
      refine ⟨_, rfl, PL, _, rfl, SqL.of hh.r1, fun p H4 hn => hq pl p H4 (by omega) (by omega) ?_ ?_ ⟨hn.sqt, hn.nod, hkn⟩⟩
      · have z := hfo []
        have : need = 0 := by omega
        rw [List.append_nil, this, fa, if_neg (by omega)] at z
        omega
      · exact (hh.isDr hlb (by simp) (sB2.trans sB)).same hn.same
  obtain ⟨tR, pR, hR⟩ := rest
  refine ⟨_, (pss_cons (ps_set (i := 4) sc.nd rfl (Or.inl rfl) (pe_callTy call_list_of (by rfl) T.list (by decide +kernel) (pa_cons (pv 1) pa_nil)))
      (pss_cons (ps_if (pt_val (pv 3))
        (pss_one (ps_expr (pe_bm PySem.F.plainAttrs_list PySem.F.slot_list_append PySem.F.type_list_append mt_append (pv 4) (pa_cons (pe_tup (pa_cons pe_str (pa_cons pe_int pa_nil))) pa_nil))))
        pss_nil)
      pR)), ?_⟩
  obtain ⟨ps, hL, hP⟩ := id hRL
  have hpl := paired_len hP
  obtain ⟨l0, hl0, h0⟩ := hg.take
  have hB0 := hRL.del hqg h0.r0
  generalize hB : L2.del H g = B0 at hB0 h0
  have sd0 : Same (L2.del H g) B0 := by rw [hB]; exact Same.refl _
  obtain ⟨ps0, hL0, hP0⟩ := hB0
  have hps : ps0 = ps := by
    have e1 := h0.sub _ _ hL0
    rw [hL] at e1
    have e2 := HO.lst.inj (Option.some.inj e1)
    exact ((List.map_inj_right (fun a b z => V.ref.inj z)).mp e2).symm
  subst hps
  -- pairs of address and row
  generalize hpr : ps0.zip rows = pr at *
  have zf : pr.map (fun z => V.ref z.1) = ps0.map V.ref := by
    have : pr.map (·.1) = ps0 := by rw [← hpr]; exact List.map_fst_zip (by omega)
    rw [← this, List.map_map]
    rfl
  have zr : ∀ z ∈ pr, z.2 ∈ rows := fun z hz => by
    rw [← hpr] at hz
    exact (List.of_mem_zip (a := z.1) (b := z.2) hz).2
  have zs : ∀ z ∈ pr, SqT K B0 z.1 [.str z.2.1, .int (z.2.2 : Nat)] := fun z hz => by
    rw [← hpr] at hz
    obtain ⟨i, hi, e⟩ := List.mem_iff_getElem.mp hz
    rw [List.getElem_zip] at e
    rw [List.length_zip] at hi
    obtain ⟨p2, e2, t⟩ := paired_at hP0 (i := i) (y := rows[i]) (List.getElem?_eq_getElem (by omega))
    rw [List.getElem?_eq_getElem (by omega)] at e2
    have : z.1 = p2 := by rw [← e]; exact Option.some.inj e2
    have e3 : z.2 = rows[i] := by rw [← e]
    rw [this, e3]
    exact t
  have zleaf : ∃ z ∈ pr, z.2.2 = 0 := by
    obtain ⟨r, hr', e⟩ := ok.lf
    obtain ⟨i, hi, ei⟩ := List.mem_iff_getElem.mp hr'
    refine ⟨(ps0[i]'(by omega), rows[i]), ?_, by rw [ei]; exact e⟩
    rw [← hpr]
    exact List.mem_iff_getElem.mpr ⟨i, by rw [List.length_zip]; omega, List.getElem_zip⟩
  have zlen : pr.length ≤ 8 := by rw [← hpr, List.length_zip]; have := ok.le; omega
  have zw : ∀ z ∈ pr, KdR rows z.2 := fun z hz => KdR.of ok.nd (hwx _ (zr z hz)) (zr z hz)
  refine ⟨_, rfl, q, _, rfl, .inl (SqL.of hL), fun M hM => ?_⟩
  rw [← zf]
  have h1 := h0.new (o := .lst (pr.map fun z => V.ref z.1)) hM
  refine ⟨_, rfl, _, rfl, if_bool (fun c => ?_) (fun c => ?_)⟩
  · refine ⟨_, rfl, .inl ⟨rfl, _, SqL.of h1.r0⟩, (by show 2 ≤ sizeLine; decide), fun p hp => ?_⟩
    have s2 : Same B0 (upd B0 p (.tup [.str "*", .int 0])) := up_same (h1.sub.free hp)
    have h2 := h1.tup (o := .tup [.str "*", .int 0]) hp
    refine ⟨M, _, _, rfl, rfl, h2.r0, by rw [List.length_map, sizeLine_eq]; omega, ?_⟩
    have em : (pr ++ [(p, (("*" : Str), 0))]).map (fun z : Addr × Sy.Row => V.ref z.1) = pr.map (fun z : Addr × Sy.Row => V.ref z.1) ++ [V.ref p] := List.map_append
    have h3 := (h2.w0 (o' := .lst (pr.map (fun z : Addr × Sy.Row => V.ref z.1) ++ [V.ref p]))).give
    have h4 := h3.2
    refine hR M (pr ++ [(p, (("*" : Str), 0))]) _ _ l0 hl0 (sd0.trans (s2.trans h3.1)) h4 (by rw [em]; exact upd_same) (fun z hz => ?_) (fun z hz => ?_) ?_ ?_
    · have h5 := h3.1
      rcases List.mem_append.mp hz with hz | hz
      · exact Same.sqt (s2.trans h5) (zs z hz)
      · rw [List.mem_singleton.mp hz]
        exact Same.sqt h5 (SqT.of upd_same)
    · rcases List.mem_append.mp hz with hz | hz
      · exact zw z hz
      · rw [List.mem_singleton.mp hz]
        exact KdR.hole ok
    · exact ⟨(p, (("*" : Str), 0)), by simp, rfl⟩
    · rw [List.length_append]
      show pr.length + 1 ≤ 9
      omega
  · have h2 := h1.give
    exact hR M pr _ _ l0 hl0 (sd0.trans h2.1) h2.2 upd_same (fun z hz => Same.sqt h2.1 (zs z hz)) zw zleaf (by omega)
end
end Sy
/-! slices and repeats of tuples whose dict is known; rows of words -/
namespace Sy
open PySem PySem.Spec PyProof.Rows L2
section
variable {X : Cx}
/-- t[lo:hi]: the whole of it is t itself -/
def rSlZ (K : PySem.W.Frag) : V → Option Int → Option Int → Hp → VK → Prop := fun x lo hi H Q => ∃ a xs, x = .ref a ∧ SqT K H a xs ∧
  (HT.sIx xs.length 0 lo = 0 ∧ HT.sIx xs.length xs.length hi = xs.length → Q (.ref a) H) ∧ (¬ (HT.sIx xs.length 0 lo = 0 ∧ HT.sIx xs.length xs.length hi = xs.length) → ∀ p H', NewT H p (cutV xs lo hi) H' → Q (.ref p) H')
theorem sl_tupZ : SlR X (rSlZ X.K) := by
  intro pins s σ H x v vl vu lo hi sl Q I rx hs pl pu h
  obtain ⟨a, xs, rfl, hx, q1, q2⟩ := h
  by_cases hw : HT.sIx xs.length 0 lo = 0 ∧ HT.sIx xs.length xs.length hi = xs.length
  · exact sl_tupA pins s σ H _ v vl vu lo hi sl Q I rx hs pl pu ⟨a, xs, rfl, hx, q1, fun z => absurd hw z⟩
  cases rx
  obtain ⟨its, r, ht, hz⟩ := I.tuple hx
  have hlen : its.toArray.size = xs.length := by rw [List.size_toArray]; exact r.length.symm
  refine ⟨"tuple", _, PyProof.Rows.slot_tuple_getitem.lookup, ht.typeIs, ?_⟩
  refine HT.getItem_tuple_cut ht hs pl pu (by rw [hlen]; exact hw) ?_ (by rw [hlen]; exact hz)
  rw [hlen]
  have hg : (s.heap.push ({ cls := .type "tuple", data := .seq ((its.toArray.toList.drop (HT.sIx xs.length 0 lo)).take (HT.sIx xs.length xs.length hi - HT.sIx xs.length 0 lo)).toArray } : Obj)).get? s.heap.objs.size = some ({ cls := .type "tuple", data := .seq ((its.toArray.toList.drop (HT.sIx xs.length 0 lo)).take (HT.sIx xs.length xs.length hi - HT.sIx xs.length 0 lo)).toArray } : Obj) := Heap.get?_push_size _ rfl
  refine ⟨.ref s.heap.objs.size, _, I.laid (t' := s.toks) (o := .frz ({ cls := .type "tuple", data := .seq ((its.toArray.toList.drop (HT.sIx xs.length 0 lo)).take (HT.sIx xs.length xs.length hi - HT.sIx xs.length 0 lo)).toArray } : Obj) (.tup (cutV xs lo hi))) (fun b ob q => Heap.get?_push_of_some _ q) (Nat.le_refl _) ?_, rfl, q2 hw _ _ ⟨I.hok.fresh (Nat.le_refl _), _, rfl, rfl⟩⟩
  exact ⟨hg, Nat.le_trans (cutV_length xs lo hi) hz, _, (r.drop (HT.sIx xs.length 0 lo)).take (HT.sIx xs.length xs.length hi - HT.sIx xs.length 0 lo), ⟨_, hg, rfl, _, rfl⟩⟩
/-- t * k, k from 1 -/
def rRepZ (K : PySem.W.Frag) : R2 := fun x y H Q => ∃ (l : Addr) (k : Nat) (xs : List V), x = .ref l ∧ y = .int (k : Nat) ∧ SqT K H l xs ∧ 1 ≤ k ∧ k ≤ 1000000 ∧ xs.length * k ≤ 1000000 ∧ xs ≠ [] ∧ xs.length ≤ 1000000 ∧
  (k = 1 → Q (.ref l) H) ∧ (k ≠ 1 → ∀ p H', NewT H p (List.replicate k xs).flatten H' → Q (.ref p) H')
theorem op_repZ : OpR X (binaryOp .Mult) (rRepZ X.K) := by
  intro pins s σ H x y v u Q I rx ry h
  obtain ⟨l, k, xs, rfl, rfl, hT, h1, h2, hz, hne, hzl, qa, qb⟩ := h
  by_cases hk : k = 1
  · exact op_repG pins s σ H _ _ v u Q I rx ry ⟨l, _, xs, rfl, rfl, hT, by omega, by omega, by rw [show ((k : Nat) : Int).toNat = k by omega]; exact hz, hzl, fun _ => qa hk, fun z => absurd (.inr (by omega)) z⟩
  cases rx
  obtain ⟨t, rfl⟩ := ry
  obtain ⟨its, r, ⟨⟨cls, dd, data, sl⟩, ho, hc, n, hd⟩, hs⟩ := I.tuple hT
  simp only at hc hd
  subst hc hd
  have hle : its.length = xs.length := r.length.symm
  have c0 : (decide ((k : Int) < -(2 ^ 63)) || decide ((k : Int) ≥ 2 ^ 63)) = false := by
    rw [decide_eq_false (by omega), decide_eq_false (by omega)] <;> rfl
  have run : ∀ {Bb : Builtin} {R : Value → Shared → Prop}, Builtin.«tuple.__mul__» = Bb → wpAny (model X.prog X.w) X.A (call (.builtin "tuple.__mul__") [.ref l, .int k t]) R X.xe s → wpAny (model X.prog X.w) X.A (binaryOp .Mult (.ref l) (.int k t)) R X.xe s := fun _ hw =>
    wpAny_binaryOp_repeat_ref (T := "tuple") (U := "int") (by decide) ⟨_, ho, rfl⟩ (fun s' => typeIs_int s' k t) noFill_tuple_mul F.fills_int_mul F.slot_int_rmul repeat_tuple F.slot_int_index.lookup
      (call_meets F.slot_int_rmul (typeIs_int s k t) F.entry_int_rmul (F.args_int_rmul_2 _ _) (int_rmul_tuple k t l its.toArray n dd sl) ⟨ho, rfl, ⟨_, ho, rfl⟩, hw⟩)
  have eE : its.toArray.isEmpty = decide (xs = []) := by
    cases xs with
    | nil => cases r; rfl
    | cons a b => cases r; rfl
  have c1 : (its.toArray.isEmpty || (k : Int) == 1) = false := by
    rw [eE, decide_eq_false hne, Bool.false_or]
    exact beq_eq_false_iff_ne.mpr fun z => hk (by omega)
  have ek : ((k : Int)).toNat = k := by omega
  have h3 : ((its.toArray.size : Nat) : Int) * (k : Int) ≤ 1000000 := by
    rw [List.size_toArray, hle, ← Int.natCast_mul]
    generalize xs.length * k = m at hz ⊢
    omega
  have flen : (List.replicate k its).flatten.length ≤ 1000000 := by
    rw [PyProof.Rows.lm_len_rep_flat, hle, Nat.mul_comm]
    exact hz
  have sl24 := sizeLine_eq
  refine run rfl (call_meets F.slot_tuple_mul ⟨_, ho, rfl⟩ F.entry_tuple_mul (F.args_tuple_mul_2 _ _) (tuple_mulW l its.toArray n dd sl k t c0 c1 (by rw [decide_eq_false (by omega), Bool.false_or, eE]; exact decide_eq_false hne) (by omega) (by unfold Builtin.Tuple.tupleTooMany; exact decide_eq_false (by omega)) (by rw [size_rep, List.size_toArray, ek]; omega)) ⟨ho, ?_⟩)
  rw [size_rep, ek]
  have hg : (s.heap.push ({ cls := .type "tuple", data := .seq (List.replicate k its).flatten.toArray } : Obj)).get? s.heap.objs.size = some ({ cls := .type "tuple", data := .seq (List.replicate k its).flatten.toArray } : Obj) := Heap.get?_push_size _ rfl
  refine ⟨.ref s.heap.objs.size, _, I.laid (t' := s.toks) (o := .frz ({ cls := .type "tuple", data := .seq (List.replicate k its).flatten.toArray } : Obj) (.tup (List.replicate k xs).flatten)) (fun b ob q => Heap.get?_push_of_some _ q) (Nat.le_refl _) ?_, rfl, qb hk _ _ ⟨I.hok.fresh (Nat.le_refl _), _, rfl, rfl⟩⟩
  exact ⟨hg, by rw [PyProof.Rows.lm_len_rep_flat, Nat.mul_comm]; omega, _, r.rep k, ⟨_, hg, rfl, _, rfl⟩⟩
end
/-! rows of words -/
section
variable {K : PySem.W.Frag} {H H' : Hp} {a b p : Addr} {l m : List Str} {Q : VK} {lo hi : Option Int}
theorem Rw.mono (h : Rw K H p l) (s : Same H H') : Rw K H' p l := ⟨Same.sqt s h.sq, h.nd.mono (Stay.of s), h.wx⟩
theorem NewT.rw (h : NewT H p (l.map V.str) H') (w : ∀ x ∈ l, Wx x) : Rw K H' p l := ⟨h.sqt, h.nod, w⟩
theorem cut_strs (l : List Str) (lo hi : Option Int) : cutV (l.map V.str) lo hi = ((l.drop (HT.sIx l.length 0 lo)).take (HT.sIx l.length l.length hi - HT.sIx l.length 0 lo)).map V.str := by
  unfold cutV
  rw [List.length_map, List.map_take, List.map_drop]
/-- a slice of a row: again a row, no longer than it -/
theorem slZ_rw (h : Rw K H a l) (q : ∀ p H' m, Same H H' → Rw K H' p m → m.length ≤ l.length → Q (.ref p) H') : rSlZ K (.ref a) lo hi H Q := by
  refine ⟨a, _, rfl, h.sq, fun _ => q a H l (Same.refl H) h (Nat.le_refl _), fun _ p H' n => ?_⟩
  rw [cut_strs] at n
  refine q p H' _ n.same (n.rw fun x hx => h.wx x (List.mem_of_mem_drop (List.mem_of_mem_take hx))) ?_
  rw [List.length_take, List.length_drop]
  omega
theorem catZ_rw (h : Rw K H a l) (g : Rw K H b m) (hs : l.length + m.length ≤ 1000000) (q : ∀ p H', Same H H' → Rw K H' p (l ++ m) → Q (.ref p) H') : rCatZ K (.ref a) (.ref b) H Q := by
  refine ⟨a, b, _, _, rfl, rfl, h.sq, g.sq, by rw [List.length_map, List.length_map, sizeLine_eq]; omega, fun c => ?_, fun _ c => ?_, fun _ _ p H' n => ?_⟩
  · rw [List.map_eq_nil_iff] at c
    subst c
    exact q b H (Same.refl H) g
  · rw [List.map_eq_nil_iff] at c
    subst c
    refine q a H (Same.refl H) ?_
    rw [List.append_nil]
    exact h
  · rw [← List.map_append] at n
    exact q p H' n.same (n.rw fun x hx => (List.mem_append.mp hx).elim (h.wx x) (g.wx x))
theorem repZ_rw {k : Nat} (h : Rw K H a l) (hk : 1 ≤ k) (hk2 : k ≤ 3000) (hl : l ≠ []) (hl2 : l.length ≤ 100) (q : ∀ p H' m, Same H H' → Rw K H' p m → m.length = k * l.length → Q (.ref p) H') : rRepZ K (.ref a) (.int (k : Nat)) H Q := by
  have hm := Nat.mul_le_mul hl2 hk2
  refine ⟨a, k, _, rfl, rfl, h.sq, hk, by omega, by rw [List.length_map]; omega, fun z => hl (List.map_eq_nil_iff.mp z), by rw [List.length_map]; omega, fun c => ?_, fun _ p H' n => ?_⟩
  · subst c
    exact q a H l (Same.refl H) h (by omega)
  · rw [show (List.replicate k (l.map V.str)).flatten = ((List.replicate k l).flatten).map V.str by rw [List.map_flatten, List.map_replicate]] at n
    refine q p H' _ n.same (n.rw fun x hx => ?_) ?_
    · obtain ⟨z, hz, hx⟩ := List.mem_flatten.mp hx
      rw [(List.mem_replicate.mp hz).2] at hx
      exact h.wx x hx
    · rw [List.length_flatten, List.map_replicate, List.sum_replicate_nat]
end
end Sy
namespace Sy
open PySem PySem.Spec PyProof.Rows L2
/-- the leaves beside the kinds -/
def lvs (wh : Bool) : List Str := if wh = true then ["*"] else []
/-- the number of branches of a word, holes allowed or not -/
def numW (rows : List Sy.Row) (wh : Bool) (x : Str) : Int := if wh = true ∧ x = "*" then 0 else numb rows x
theorem isK_false {rows : List Sy.Row} {x : Str} (h : isK rows x = false) : rows.lookup x = none := by
  unfold isK at h
  cases e : rows.lookup x with
  | none => rfl
  | some n => rw [e] at h; cases h
theorem numb_no {rows : List Sy.Row} {x : Str} (h : isK rows x = false) : numb rows x = -1 ∧ ar rows x = 0 := by
  have := isK_false h
  unfold numb ar
  rw [this]
  exact ⟨rfl, rfl⟩
theorem numW_neg {rows : List Sy.Row} {wh : Bool} {x : Str} (hs : isK rows "*" = false) : (numW rows wh x < 0 ↔ (isK rows x = false ∧ x ∉ lvs wh)) ∧ (0 ≤ numW rows wh x → numW rows wh x = (ar rows x : Nat)) := by
  unfold numW
  by_cases h : wh = true ∧ x = "*"
  · rw [if_pos h]
    obtain ⟨rfl, rfl⟩ := h
    refine ⟨⟨fun z => by omega, fun z => absurd (show ("*" : Str) ∈ lvs true by simp [lvs]) z.2⟩, fun _ => ?_⟩
    rw [(numb_no hs).2]
    rfl
  · rw [if_neg h]
    have hn : x ∉ lvs wh := by
      unfold lvs
      split
      · rename_i c
        simp only [List.mem_singleton]
        exact fun z => h ⟨c, z⟩
      · exact fun z => nomatch z
    cases e : isK rows x with
    | true =>
      rw [numb_ar e]
      exact ⟨⟨fun z => by omega, fun z => by cases z.1⟩, fun _ => rfl⟩
    | false =>
      rw [(numb_no e).1]
      exact ⟨⟨fun _ => ⟨rfl, hn⟩, fun _ => by omega⟩, fun z => by omega⟩
section
variable {P : Program} {w : World} {K : PySem.W.Frag} {mg : Str → Option Value} {base : Heap}
def spFaultL (K : PySem.W.Frag) : Sp := fun vs H Q _ => ∃ (q r : Addr) (wh : Bool) (rows : List Sy.Row) (l : List Str), vs = [.ref q, .ref r, .bl wh] ∧ RL K H q rows ∧ SqT K H r (l.map V.str) ∧ isK rows "*" = false ∧ l.length ≤ 100000 ∧ Q (.int (fa rows (lvs wh) 1 0 l)) H
abbrev N_faultL : List Str := ["_law_rows_here", "_law_plant_here", "_law_with_holes", "_law_need", "_law_place", "_law_many"]
theorem sc_faultL : FnScope N_faultL ["_law_rows_here", "_law_plant_here", "_law_with_holes"] (defScope (top 50)) := ⟨rfl, rfl, rfl, by decide +kernel, rfl, by decide +kernel, by decide +kernel⟩
theorem k_faultL (T : Txt K mg) (F : DF K mg "_law_fault" 50) (c_law_number : Cal P w K mg base 1 "_law_number" ["_law_rows_here", "_law_word_here"] (spNum K)) : Cal P w K mg base 2 "_law_fault" ["_law_rows_here", "_law_plant_here", "_law_with_holes"] (spFaultL K) := by
  refine cal_of F.1 F.2 sc_faultL (fun _ _ _ _ _ _ us e => match us, e with | [_, _, _], _ => rfl) (fun vs H Q E s => by obtain ⟨_, _, _, _, _, rfl, _⟩ := s; rfl) ?_
  intro cdv A outer s H vs Q E hr h
  obtain ⟨q, r, wh, rows, l, rfl, hRL, hR, hs, hlen, hq⟩ := h
  have sc := sc_faultL
  have rest : ∃ t, PSs (cxOf (L2.CX P w) P w K mg base N_faultL "_law_fault" (defScope (top 50)) (He.ga K "_law_fault") cdv A outer s H E) ((sBody ((defBody (top 50)).getD 1 (.Pass ⟨0, 0, 0, 0⟩))).drop 2) t ∧
      ∀ (D : Ends) (i need : Nat) (x : Str) (z : Int), z = numW rows wh x → (need = 0 ∨ numW rows wh x < 0 → D.rt (.int (i : Nat)) H) → (0 < need → 0 ≤ numW rows wh x → D.nx [some (.ref q), some (.ref r), some (.bl wh), some (.int ((need - 1 + ar rows x : Nat) : Int)), some (.int (i : Nat)), some (.int z)] H) →
        t D [some (.ref q), some (.ref r), some (.bl wh), some (.int (need : Nat)), some (.int (i : Nat)), some (.int z)] H := by
    refine ⟨_, (pss_cons (ps_if (PW.pt (pw_or (pt_cmpR op_eq (pv 3) pe_int (nomark _)) (pw_or1 (pt_cmpR op_lt (pv 5) pe_int (nomark _)))))
          (pss_one (ps_ret (pv 4)))
          pss_nil)
        (pss_one (ps_set (i := 3) sc.nd rfl (Or.inl rfl) (pe_op op_sub (pe_op op_add (pv 3) (pv 5)) pe_int)))), ?_⟩
    intro D i need x z hz h1 h2
    have hw := (numW_neg (rows := rows) (wh := wh) (x := x) hs).2
    refine ⟨_, rfl, rfl, _, rfl, if_dec (fun c => ?_) (fun c => ?_)⟩
    · have : need = 0 := by have := V.int.inj c; omega
      exact ⟨_, rfl, h1 (.inl this)⟩
    · have hn : need ≠ 0 := fun e => c (by rw [e]; rfl)
      refine ⟨_, rfl, _, _, rfl, rfl, _, rfl, if_dec (fun c => ?_) (fun c => ?_)⟩
      · exact ⟨_, rfl, h1 (.inr (by omega))⟩
      · have h0 : 0 ≤ numW rows wh x := by omega
        have e := hw h0
        refine ⟨_, rfl, _, rfl, _, _, rfl, rfl, _, _, rfl, rfl, ?_⟩
        have q := h2 (by omega) h0
        rw [show ((need - 1 + ar rows x : Nat) : Int) = (need : Int) + z - 1 by omega] at q
        exact q
  obtain ⟨tR, pR, hRest⟩ := rest
  refine ⟨_, (pss_cons (ps_set (i := 3) sc.nd rfl (Or.inl rfl) pe_int)
      (pss_cons (ps_for (passes_of rfl) rfl (pi_range1 rfl T.range (pa_cons (pe_callB call_len_seq (by rfl) T.len (by decide +kernel) (pa_cons (pv 1) pa_nil)) pa_nil)) (pg_name (i := 4) sc.nd rfl (Or.inl rfl))
        (pss_cons (ps_set (i := 5) sc.nd rfl (Or.inl rfl) (pe_cal c_law_number hr (pa_cons (pv 0) (pa_cons (pe_ix ix_tup (pv 1) (pv 4) (fun _ _ => rfl)) pa_nil))))
        (pss_cons (ps_if (PW.pt (pw_and (pt_val (pv 2)) (pw_and1 (pt_cmpR op_eq (pe_ix ix_tup (pv 1) (pv 4) (fun _ _ => rfl)) pe_str (nomark _)))))
          (pss_one (ps_set (i := 5) sc.nd rfl (Or.inl rfl) pe_int))
          pss_nil)
        pR)))
      (pss_cons (ps_if (pt_cmpR op_gt (pv 3) pe_int (nomark _))
        (pss_one (ps_ret (pe_callB call_len_seq (by rfl) T.len (by decide +kernel) (pa_cons (pv 1) pa_nil))))
        pss_nil)
      (pss_one (ps_ret (pe_un un_neg pe_int)))))), ?_⟩
  refine ⟨_, rfl, r, _, rfl, .inr hR, _, rfl, by omega, by rw [List.length_map]; omega, for_rng (n := (l.map V.str).length)
    (fun i σ H' => ∃ (need : Nat) (t4 t5 : Option V), σ = [some (.ref q), some (.ref r), some (.bl wh), some (.int (need : Nat)), t4, t5] ∧ H' = H ∧ fa rows (lvs wh) need i (l.drop i) = fa rows (lvs wh) 1 0 l)
    ⟨1, none, none, rfl, rfl, by rw [List.drop_zero]⟩ ?_ ?_⟩
  · rintro i σ H2 hi ⟨need, t4, t5, rfl, rfl, e⟩
    rw [List.length_map] at hi
    obtain ⟨x, ex⟩ : ∃ x, l[i]? = some x := ⟨_, List.getElem?_eq_getElem hi⟩
    rw [drop_of ex, fa] at e
    have ea : atI (l.map V.str) (i : Nat) = some (.str x) := atI_nat (by rw [List.getElem?_map, ex]; rfl)
    have hw := (numW_neg (rows := rows) (wh := wh) (x := x) hs)
    have goal : ∀ (D : Ends), D.rt = Q → (∀ (need : Nat) (t4 t5 : Option V), fa rows (lvs wh) need (i + 1) (l.drop (i + 1)) = fa rows (lvs wh) 1 0 l → D.nx [some (.ref q), some (.ref r), some (.bl wh), some (.int (need : Nat)), t4, t5] H2) →
        ∀ z, z = numW rows wh x → tR D [some (.ref q), some (.ref r), some (.bl wh), some (.int (need : Nat)), some (.int (i : Nat)), some (.int z)] H2 := by
      intro D hD hn z hz
      refine hRest D i need x z hz (fun c => ?_) (fun c1 c2 => hn _ _ _ ?_)
      · rw [hD]
        by_cases c0 : need = 0
        · rw [if_pos c0] at e
          rw [← e] at hq
          exact hq
        · rw [if_neg c0, if_pos (hw.1.mp (c.resolve_left c0))] at e
          rw [← e] at hq
          exact hq
      · rw [if_neg (by omega), if_neg (fun y => by have := hw.1.mpr y; omega)] at e
        exact e
    refine ⟨_, rfl, _, rfl, _, rfl, r, _, _, _, rfl, rfl, hR, ea, q, rows, x, rfl, hRL, ?_⟩
    refine ⟨_, rfl, wh, rfl, if_bool (fun c1 => ?_) (fun c1 => ?_)⟩
    · refine ⟨_, rfl, _, rfl, r, _, _, _, rfl, rfl, hR, ea, rfl, _, rfl, if_dec (fun c2 => ?_) (fun c2 => ?_)⟩
      · refine goal _ ?_ ?_ 0 ?_
        · rfl
        · exact fun need t4 t5 e' => ⟨need, t4, t5, rfl, rfl, e'⟩
        · unfold numW
          rw [if_pos ⟨c1, V.str.inj c2⟩]
      · refine goal _ ?_ ?_ _ ?_
        · rfl
        · exact fun need t4 t5 e' => ⟨need, t4, t5, rfl, rfl, e'⟩
        · unfold numW
          rw [if_neg fun y => c2 (by rw [y.2])]
    · refine goal _ ?_ ?_ _ ?_
      · rfl
      · exact fun need t4 t5 e' => ⟨need, t4, t5, rfl, rfl, e'⟩
      · unfold numW
        rw [if_neg fun y => by rw [c1] at y; cases y.1]
  · rintro σ _ ⟨need, t4, t5, rfl, rfl, e⟩
    rw [List.length_map, List.drop_length, fa] at e
    refine ⟨_, rfl, _, _, rfl, rfl, _, rfl, if_dec (fun c => ?_) (fun c => ?_)⟩
    · rw [if_pos (by omega)] at e
      rw [← e] at hq
      exact ⟨_, rfl, r, _, rfl, .inr hR, by rw [List.length_map]; exact hq⟩
    · rw [if_neg (by omega)] at e
      rw [← e] at hq
      exact ⟨_, rfl, hq⟩
end
end Sy
namespace Sy
open PySem PySem.Spec PyProof.Rows L2
/-- data of at most that depth -/
def Fit : Nat → PyData → Prop
  | _, .none => True
  | _, .bool _ => True
  | _, .int _ => True
  | _, .str _ => True
  | n + 1, .tuple ds => ds.length ≤ 1000000 ∧ ∀ d ∈ ds, Fit n d
  | _, _ => False
theorem tyx_tup {K : PySem.W.Frag} {H : Hp} {a : Addr} {xs : List V} (h : SqT K H a xs) : TyX K H (.ref a) (.type "tuple") := by
  rcases h with (h | ⟨o, h⟩) | ⟨o, its, n, hk, hc, _⟩
  · exact .base (.tup h)
  · exact .fTuple h
  · exact .kTuple hk hc
section
variable {P : Program} {w : World} {K : PySem.W.Frag} {mg : Str → Option Value} {base : Heap}
def spSame (K : PySem.W.Frag) (n : Nat) : Sp := fun vs H Q _ => ∃ (x y : V) (d : PyData), vs = [x, y] ∧ Im K H x d ∧ Im K H y d ∧ Fit n d ∧ Q (.bl true) H
abbrev N_same : List Str := ["_law_told", "_law_due", "_law_k"]
theorem sc_same : FnScope N_same ["_law_told", "_law_due"] (defScope (top 51)) := ⟨rfl, rfl, rfl, by decide +kernel, rfl, by decide +kernel, by decide +kernel⟩
/-- the names of the built-in classes that are asked for -/
structure TxtC (mg : Str → Option Value) : Prop where
  tuple : mg "tuple" = none
  bool : mg "bool" = none
  int : mg "int" = none
  str : mg "str" = none
  isinstance : mg "isinstance" = none
  len : mg "len" = none
  range : mg "range" = none
theorem k_same (T : TxtC mg) (F : DF K mg "_law_same" 51) : ∀ n : Nat, Cal P w K mg base (n + 1) "_law_same" ["_law_told", "_law_due"] (spSame K n) := by
  -- what is no tuple
  have flat : ∀ (k : Nat) (cdv : Value) (A : Around) (outer : List Env) (s : Shared) (H : Hp) (E : XK), Room k (A.deeper (envOfC "_law_same" (defScope (top 51)) s.heap.objs.size (He.ga K "_law_same") cdv)) →
      ∃ t, PSs (cxOf (L2.CX P w) P w K mg base N_same "_law_same" (defScope (top 51)) (He.ga K "_law_same") cdv A outer s H E) ((defBody (top 51)).drop 2) t ∧ ∀ (D : Ends) (Q : VK) (x y : V) (d : PyData), Im K H x d → Im K H y d → D.rt = Q → (∀ ds, d ≠ .tuple ds) → d ≠ .none → Q (.bl true) H → t D [some x, some y, none] H := by
    intro k cdv A outer s H E hr
    refine ⟨_, (pss_cons (ps_if (pt_val (pe_callB call_isi (by rfl) T.isinstance (by decide +kernel) (pa_cons (pv 1) (pa_cons (pe_bltn (v := .ty "bool") (by rfl) T.bool (by decide +kernel) rfl) pa_nil))))
        (pss_one (ps_ret (pe_and (pe_callB call_isi (by rfl) T.isinstance (by decide +kernel) (pa_cons (pv 0) (pa_cons (pe_bltn (v := .ty "bool") (by rfl) T.bool (by decide +kernel) rfl) pa_nil))) (pe_one (pe_cmpR op_eq (pv 0) (pv 1) (nomark _))))))
        pss_nil)
      (pss_cons (ps_if (pt_val (pe_callB call_isi (by rfl) T.isinstance (by decide +kernel) (pa_cons (pv 1) (pa_cons (pe_bltn (v := .ty "int") (by rfl) T.int (by decide +kernel) rfl) pa_nil))))
        (pss_one (ps_ret (pe_and (pe_callB call_isi (by rfl) T.isinstance (by decide +kernel) (pa_cons (pv 0) (pa_cons (pe_bltn (v := .ty "int") (by rfl) T.int (by decide +kernel) rfl) pa_nil))) (pe_and (pe_not (pe_callB call_isi (by rfl) T.isinstance (by decide +kernel) (pa_cons (pv 0) (pa_cons (pe_bltn (v := .ty "bool") (by rfl) T.bool (by decide +kernel) rfl) pa_nil)))) (pe_one (pe_cmpR op_eq (pv 0) (pv 1) (nomark _)))))))
        pss_nil)
      (pss_one (ps_ret (pe_and (pe_callB call_isi (by rfl) T.isinstance (by decide +kernel) (pa_cons (pv 0) (pa_cons (pe_bltn (v := .ty "str") (by rfl) T.str (by decide +kernel) rfl) pa_nil))) (pe_one (pe_cmpR op_eq (pv 0) (pv 1) (nomark _)))))))), ?_⟩
    intro D Q x y d ix iy hD nt nn hq
    cases ix with
    | non => exact absurd rfl nn
    | tup _ _ => exact absurd rfl (nt _)
    | bl b =>
      cases iy
      refine ⟨_, rfl, _, _, _, _, true, rfl, .ty _, .base (.bl b), kit_ty (by decide +kernel), _, rfl, iteT ?_⟩
      refine ⟨_, rfl, _, _, _, _, true, rfl, .ty _, .base (.bl b), kit_ty (by decide +kernel), _, rfl, iteT ?_⟩
      refine ⟨_, rfl, _, rfl, rfl, ?_⟩
      rw [hD, decide_eq_true rfl]
      exact hq
    | int i =>
      cases iy
      refine ⟨_, rfl, _, _, _, _, false, rfl, .ty _, .base (.int i), kit_ty (by decide +kernel), _, rfl, iteF ?_⟩
      refine ⟨_, rfl, _, _, _, _, true, rfl, .ty _, .base (.int i), kit_ty (by decide +kernel), _, rfl, iteT ?_⟩
      refine ⟨_, rfl, _, _, _, _, true, rfl, .ty _, .base (.int i), kit_ty (by decide +kernel), _, rfl, iteT ?_⟩
      refine ⟨_, rfl, _, _, _, _, false, rfl, .ty _, .base (.int i), kit_ty (by decide +kernel), _, rfl, _, rfl, iteT ?_⟩
      refine ⟨_, rfl, _, rfl, rfl, ?_⟩
      rw [hD, decide_eq_true rfl]
      exact hq
    | str z =>
      cases iy
      refine ⟨_, rfl, _, _, _, _, false, rfl, .ty _, .base (.str z), kit_ty (by decide +kernel), _, rfl, iteF ?_⟩
      refine ⟨_, rfl, _, _, _, _, false, rfl, .ty _, .base (.str z), kit_ty (by decide +kernel), _, rfl, iteF ?_⟩
      refine ⟨_, rfl, _, _, _, _, true, rfl, .ty _, .base (.str z), kit_ty (by decide +kernel), _, rfl, iteT ?_⟩
      refine ⟨_, rfl, _, rfl, rfl, ?_⟩
      rw [hD, decide_eq_true rfl]
      exact hq
  have len : ∀ n vs H Q E, spSame K n vs H Q E → vs.length = (["_law_told", "_law_due"] : List Str).length := fun n vs H Q E s => by obtain ⟨_, _, _, rfl, _⟩ := s; rfl
  -- what is asked of all but a tuple
  have notT : ∀ {H : Hp} {y : V} {d : PyData}, Im K H y d → (∀ ds, d ≠ .tuple ds) → ∃ t, TyX K H y t ∧ PySem.W.kitOne K t (.type "tuple") = some false := by
    intro H y d iy nt
    cases iy with
    | non => exact ⟨_, .base .non, kit_ty (by decide +kernel)⟩
    | bl b => exact ⟨_, .base (.bl b), kit_ty (by decide +kernel)⟩
    | int i => exact ⟨_, .base (.int i), kit_ty (by decide +kernel)⟩
    | str z => exact ⟨_, .base (.str z), kit_ty (by decide +kernel)⟩
    | tup _ _ => exact absurd rfl (nt _)
  intro n
  induction n with
  | zero =>
    refine cal_of F.1 F.2 sc_same (fun _ _ _ _ _ _ us e => match us, e with | [_, _], _ => rfl) (len 0) ?_
    intro cdv A outer s H vs Q E hr h
    obtain ⟨x, y, d, rfl, ix, iy, fit, hq⟩ := h
    obtain ⟨t, pt, ht⟩ := flat 0 cdv A outer s H E hr
    refine ⟨_, (pss_cons (ps_if (pt_cmpR op_isN (pv 1) pe_non (nomark _))
        (pss_one (ps_ret (pe_cmpR op_isN (pv 0) pe_non (nomark _))))
        pss_nil)
      (pss_cons (ps_if (pt_val (pe_callB call_isi (by rfl) T.isinstance (by decide +kernel) (pa_cons (pv 1) (pa_cons (pe_bltn (v := .ty "tuple") (by rfl) T.tuple (by decide +kernel) rfl) pa_nil))))
        (pss_cons ps_never (pss_cons ps_never (pss_one ps_never)))
        pss_nil)
      pt)), ?_⟩
    have nt : ∀ ds, d ≠ .tuple ds := fun ds z => by rw [z] at fit; exact fit
    refine ⟨_, rfl, rfl, _, rfl, if_dec (fun c => ?_) (fun c => ?_)⟩
    · subst c
      cases iy
      cases ix
      refine ⟨_, rfl, rfl, ?_⟩
      rw [decide_eq_true rfl]
      exact hq
    · obtain ⟨ty, h1, h2⟩ := notT iy nt
      exact ⟨_, rfl, _, _, _, _, false, rfl, .ty _, h1, h2, _, rfl, iteF (ht _ Q x y d ix iy rfl nt (fun z => by subst z; cases iy; exact c rfl) hq)⟩
  | succ n ih =>
    refine cal_of F.1 F.2 sc_same (fun _ _ _ _ _ _ us e => match us, e with | [_, _], _ => rfl) (len (n + 1)) ?_
    intro cdv A outer s H vs Q E hr h
    obtain ⟨x, y, d, rfl, ix, iy, fit, hq⟩ := h
    have sc := sc_same
    obtain ⟨t, pt, ht⟩ := flat (n + 1) cdv A outer s H E hr
    refine ⟨_, (pss_cons (ps_if (pt_cmpR op_isN (pv 1) pe_non (nomark _))
        (pss_one (ps_ret (pe_cmpR op_isN (pv 0) pe_non (nomark _))))
        pss_nil)
      (pss_cons (ps_if (pt_val (pe_callB call_isi (by rfl) T.isinstance (by decide +kernel) (pa_cons (pv 1) (pa_cons (pe_bltn (v := .ty "tuple") (by rfl) T.tuple (by decide +kernel) rfl) pa_nil))))
        (pss_cons (ps_if (PW.pt (pw_or (pt_not (pt_val (pe_callB call_isi (by rfl) T.isinstance (by decide +kernel) (pa_cons (pv 0) (pa_cons (pe_bltn (v := .ty "tuple") (by rfl) T.tuple (by decide +kernel) rfl) pa_nil))))) (pw_or1 (pt_cmpR op_ne (pe_callB call_len_seq (by rfl) T.len (by decide +kernel) (pa_cons (pv 0) pa_nil)) (pe_callB call_len_seq (by rfl) T.len (by decide +kernel) (pa_cons (pv 1) pa_nil)) (nomark _)))))
          (pss_one (ps_ret pe_bl))
          pss_nil)
        (pss_cons (ps_for (passes_of rfl) rfl (pi_range1 rfl T.range (pa_cons (pe_callB call_len_seq (by rfl) T.len (by decide +kernel) (pa_cons (pv 1) pa_nil)) pa_nil)) (pg_name (i := 2) sc.nd rfl (Or.inl rfl))
          (pss_one (ps_if (pt_not (pt_val (pe_cal ih hr (pa_cons (pe_ix ix_tup (pv 0) (pv 2) (fun _ _ => rfl)) (pa_cons (pe_ix ix_tup (pv 1) (pv 2) (fun _ _ => rfl)) pa_nil)) (Nat.le_refl _))))
            (pss_one (ps_ret pe_bl))
            pss_nil)))
        (pss_one (ps_ret pe_bl))))
        pss_nil)
      pt)), ?_⟩
    refine ⟨_, rfl, rfl, _, rfl, if_dec (fun c => ?_) (fun c => ?_)⟩
    · subst c
      cases iy
      cases ix
      refine ⟨_, rfl, rfl, ?_⟩
      rw [decide_eq_true rfl]
      exact hq
    by_cases nt : ∀ ds, d ≠ .tuple ds
    · obtain ⟨ty, h1, h2⟩ := notT iy nt
      exact ⟨_, rfl, _, _, _, _, false, rfl, .ty _, h1, h2, _, rfl, iteF (ht _ Q x y d ix iy rfl nt (fun z => by subst z; cases iy; exact c rfl) hq)⟩
    · obtain ⟨ds, rfl⟩ : ∃ ds, d = .tuple ds := by
        cases d with
        | tuple ds => exact ⟨ds, rfl⟩
        | _ => exact absurd (fun _ z => by cases z) nt
      obtain ⟨a, xs, rfl, ta, ia⟩ := ix.tupI
      obtain ⟨b, ys, rfl, tb, ib⟩ := iy.tupI
      have la := ia.len
      have lb := ib.len
      have hz : ds.length ≤ 1000000 := fit.1
      refine ⟨_, rfl, _, _, _, _, true, rfl, .ty _, tyx_tup tb, kit_ty (by decide +kernel), _, rfl, iteT ?_⟩
      refine ⟨_, rfl, _, _, _, _, true, rfl, .ty _, tyx_tup ta, kit_ty (by decide +kernel), _, rfl, iteF ?_⟩
      refine ⟨_, rfl, a, _, rfl, .inr ta, _, rfl, b, _, rfl, .inr tb, rfl, _, rfl, ?_⟩
      rw [la, lb, decide_eq_true rfl]
      refine iteF ⟨_, rfl, b, _, rfl, .inr tb, _, rfl, by omega, by omega, for_rng (n := ys.length) (fun i σ H' => ∃ t2, σ = [some (.ref a), some (.ref b), t2] ∧ H' = H) ⟨_, rfl, rfl⟩ ?_ ?_⟩
      · rintro i σ H1 hi ⟨t2, rfl, rfl⟩
        obtain ⟨d, ed⟩ : ∃ d, ds[i]? = some d := ⟨_, List.getElem?_eq_getElem (by omega)⟩
        obtain ⟨u, eu, iu⟩ := ia.get ed
        obtain ⟨v, ev, iv⟩ := ib.get ed
        exact ⟨_, rfl, _, rfl, a, _, _, _, rfl, rfl, ta, atI_nat eu, _, rfl, _, rfl, b, _, _, _, rfl, rfl, tb, atI_nat ev, u, v, d, rfl, iu, iv, fit.2 d (List.mem_of_getElem? ed), _, rfl, iteF ⟨_, rfl, rfl⟩⟩
      · rintro σ H1 ⟨t2, rfl, rfl⟩
        exact hq
end
end Sy
namespace Sy
open PySem PySem.Spec PyProof.Rows L2
theorem flat_one {α : Type} (n : Nat) (x : α) : (List.replicate n [x]).flatten = List.replicate n x := by
  induction n with
  | zero => rfl
  | succ n ih => rw [List.replicate_succ, List.flatten_cons, ih]; rfl
section
variable {P : Program} {w : World} {K : PySem.W.Frag} {mg : Str → Option Value} {base : Heap}
/-! _law_some_plant -/
/-! _law_paths -/
theorem ImA.rep {K : PySem.W.Frag} {H : Hp} {v : V} {d : PyData} (h : Im K H v d) : ∀ n : Nat, ImA K H (List.replicate n v) (List.replicate n d)
  | 0 => .nil
  | n + 1 => by
    rw [List.replicate_succ, List.replicate_succ]
    exact .cons h (ImA.rep h n)
end
end Sy
namespace Sy
open PySem PySem.Spec PyProof.Rows L2
/-! rules that name K; a word between two statements; filters -/
theorem pe_ixK (K : PySem.W.Frag) {X : Cx} {a b : Expr} {ta tb : TE} {pos : Pos} (hK : X.K = K) (ha : PE X a ta) (hb : PE X b tb) (hs : PlainIx b) : PE X (.Subscript a b pos) (tOp (rIxL K) ta tb) := by
  subst hK
  exact pe_ix ix_list ha hb hs
theorem ps_cut {X : Cx} {st : Stmt} {t : TS} (h : PS X st t) : PS X st (fun D σ H => ∃ J : L2.St → Hp → Prop, t { D with nx := J } σ H ∧ ∀ σ' H', J σ' H' → D.nx σ' H') := by
  refine ⟨fun pins s σ H D I hh => ?_⟩
  obtain ⟨J, h1, h2⟩ := hh
  refine thn (h.run pins s σ H { D with nx := J } I h1) fun f s1 q => ?_
  cases f with
  | next =>
    obtain ⟨σ', H', I', q⟩ := q
    exact ⟨σ', H', I', h2 _ _ q⟩
  | ret v => exact q
  | brk => exact q
  | cont => exact q
/-- [e for x in t if c], t a tuple; nothing else is made -/
theorem lc_filtT {K : PySem.W.Frag} {α : Type} {a : Addr} {xs : List α} {f out : α → V} {keep : α → Bool} {si : Nat} {tt : TT} {te : TE} {σ : L2.St} {H B : Hp} {L : List (Addr × HO)} {D : Addr} {Qd : Hp → Prop} (h : Hs B L H) (hD : H D = none)
    (ha : SqT K B a (xs.map f)) (hsz : xs.length ≤ 100000)
    (hs : ∀ x ∈ xs, ∀ H', Same B H' → ∀ (R1 : VK) (R2 : Hp → Prop), (keep x = true → R1 (out x) H') → (keep x = false → R2 H') → tt ((wipe σ [si]).set si (some (f x))) H' fun b H3 => if b = true then te ((wipe σ [si]).set si (some (f x))) H3 R1 else R2 H3)
    (hd : ∀ H', Hs B ((D, .lst ((xs.filter keep).map out)) :: L) H' → Qd H') : LcW (Itt K a) (gName si) tt te [si] σ H D Qd := by
  refine lc_tup (K := K) (a := a) (xs := xs.map f) (fun i H' => Hs B ((D, .lst (((xs.take i).filter keep).map out)) :: L) H') (h.new hD) (fun _ _ _ z => Same.sqt z.sub ha) ?_ ?_
  · rintro i v H2 hv hh
    obtain ⟨x, hx, rfl⟩ := map_at hv
    have hi := (List.getElem?_eq_some_iff.mp hx).1
    have et : xs.take (i + 1) = xs.take i ++ [x] := by rw [List.take_succ, hx]; rfl
    have hl : ((xs.take i).filter keep).length ≤ i := by
      have := List.length_filter_le keep (xs.take i)
      rw [List.length_take] at this
      omega
    refine ⟨(by show (σ.set si none |>.set si _).set si none = σ.set si none; rw [List.set_set, List.set_set]), ?_⟩
    refine hs x (List.mem_of_getElem? hx) H2 hh.sub _ _ (fun c => ?_) (fun c => ?_)
    · refine ⟨_, hh.r0, by rw [List.length_map, sizeLine_eq]; omega, ?_⟩
      rw [et, List.filter_append, List.map_append]
      have : [x].filter keep = [x] := by simp [c]
      rw [this]
      exact hh.w0
    · rw [et, List.filter_append]
      have : [x].filter keep = [] := by simp [c]
      rw [this, List.append_nil]
      exact hh
  · intro H' hh
    rw [List.length_map, List.take_length] at hh
    exact hd H' hh
/-- [e for k in range(n) if c]; nothing else is made -/
theorem lc_filtR {out : Nat → V} {keep : Nat → Bool} {si n : Nat} {tt : TT} {te : TE} {σ : L2.St} {H B : Hp} {L : List (Addr × HO)} {D : Addr} {Qd : Hp → Prop} (h : Hs B L H) (hD : H D = none) (hsz : n ≤ 100000)
    (hs : ∀ k < n, ∀ H', Same B H' → ∀ (R1 : VK) (R2 : Hp → Prop), (keep k = true → R1 (out k) H') → (keep k = false → R2 H') → tt ((wipe σ [si]).set si (some (.int (k : Nat)))) H' fun b H3 => if b = true then te ((wipe σ [si]).set si (some (.int (k : Nat)))) H3 R1 else R2 H3)
    (hd : ∀ H', Hs B ((D, .lst (((List.range n).filter keep).map out)) :: L) H' → Qd H') : LcW (Itr 0 n) (gName si) tt te [si] σ H D Qd := by
  refine lc_it (walk_range (lo := 0) (n := n)) (fun i H' => Hs B ((D, .lst (((List.range i).filter keep).map out)) :: L) H') (h.new hD) (fun _ _ _ _ => trivial) ?_ hd
  rintro i v _ H1 hi hh ⟨rfl, rfl⟩
  simp only [Int.zero_add]
  have hl : ((List.range i).filter keep).length ≤ i := by
    have := List.length_filter_le keep (List.range i)
    rw [List.length_range] at this
    exact this
  refine ⟨(by show (σ.set si none |>.set si _).set si none = σ.set si none; rw [List.set_set, List.set_set]), ?_⟩
  refine hs i hi H1 hh.sub _ _ (fun c => ?_) (fun c => ?_)
  · refine ⟨_, hh.r0, by rw [List.length_map, sizeLine_eq]; omega, ?_⟩
    rw [List.range_succ, List.filter_append, List.map_append]
    have : [i].filter keep = [i] := by simp [c]
    rw [this]
    exact hh.w0
  · rw [List.range_succ, List.filter_append]
    have : [i].filter keep = [] := by simp [c]
    rw [this, List.append_nil]
    exact hh
/-- [e for x in xs if t], xs a list that stays; nothing else is made -/
theorem lc_filtO {K : PySem.W.Frag} {α : Type} {a : Addr} {xs : List α} {f out : α → V} {keep : α → Bool} {si : Nat} {tt : TT} {te : TE} {σ : L2.St} {H B : Hp} {L : List (Addr × HO)} {D : Addr} {Qd : Hp → Prop} (h : Hs B L H) (hD : H D = none)
    (ha : ∀ H' o, Hs B ((D, o) :: L) H' → H' a = some (.lst (xs.map f))) (hsz : xs.length ≤ 100000)
    (hs : ∀ x ∈ xs, ∀ H', Same B H' → ∀ (R1 : VK) (R2 : Hp → Prop), (keep x = true → R1 (out x) H') → (keep x = false → R2 H') → tt ((wipe σ [si]).set si (some (f x))) H' fun b H3 => if b = true then te ((wipe σ [si]).set si (some (f x))) H3 R1 else R2 H3)
    (hd : ∀ H', Hs B ((D, .lst ((xs.filter keep).map out)) :: L) H' → Qd H') : LcW (Itl K a) (gName si) tt te [si] σ H D Qd := by
  refine lc_it (walk_list (K := K) (a := a) (xs := xs.map f)) (fun i H' => Hs B ((D, .lst (((xs.take i).filter keep).map out)) :: L) H') (h.new hD) (fun _ _ _ z => SqL.of (ha _ _ z)) ?_ ?_
  · rintro i v _ H2 hi hh ⟨rfl, hv⟩
    obtain ⟨x, hx, rfl⟩ := map_at hv
    rw [List.length_map] at hi
    have et : xs.take (i + 1) = xs.take i ++ [x] := by rw [List.take_succ, hx]; rfl
    have hl : ((xs.take i).filter keep).length ≤ i := by
      have := List.length_filter_le keep (xs.take i)
      rw [List.length_take] at this
      omega
    refine ⟨(by show (σ.set si none |>.set si _).set si none = σ.set si none; rw [List.set_set, List.set_set]), ?_⟩
    refine hs x (List.mem_of_getElem? hx) H2 hh.sub _ _ (fun c => ?_) (fun c => ?_)
    · refine ⟨_, hh.r0, by rw [List.length_map, sizeLine_eq]; omega, ?_⟩
      rw [et, List.filter_append, List.map_append]
      have : [x].filter keep = [x] := by simp [c]
      rw [this]
      exact hh.w0
    · rw [et, List.filter_append]
      have : [x].filter keep = [] := by simp [c]
      rw [this, List.append_nil]
      exact hh
  · intro H' hh
    rw [List.length_map, List.take_length] at hh
    exact hd H' hh
/-- .. without a test -/
theorem lc_maps {K : PySem.W.Frag} {α : Type} {a : Addr} {xs : List α} {f out : α → V} {si : Nat} {te : TE} {σ : L2.St} {H B : Hp} {L : List (Addr × HO)} {D : Addr} {Qd : Hp → Prop} (h : Hs B L H) (hD : H D = none)
    (ha : ∀ H' o, Hs B ((D, o) :: L) H' → H' a = some (.lst (xs.map f))) (hsz : xs.length ≤ 100000)
    (hs : ∀ x ∈ xs, ∀ H', Same B H' → ∀ (R1 : VK), R1 (out x) H' → te ((wipe σ [si]).set si (some (f x))) H' R1)
    (hd : ∀ H', Hs B ((D, .lst (xs.map out)) :: L) H' → Qd H') : LcW (Itl K a) (gName si) tYes te [si] σ H D Qd := by
  refine lc_filtO (keep := fun _ => true) (out := out) h hD ha hsz (fun x hx H' s R1 R2 k1 _ => ?_) (fun H' hh => ?_)
  · simp only [tYes, if_true]
    exact hs x hx H' s R1 (k1 rfl)
  · rw [List.filter_eq_self.mpr (fun _ _ => rfl)] at hh
    exact hd H' hh
end Sy
/-! stumps of the law as trees -/
namespace Sy
open PySem PySem.Spec PyProof.Rows L2
/-- a stump at p: its tree -/
structure TrAt (K : PySem.W.Frag) (H : Hp) (rows : List Sy.Row) (p : Addr) (t : Tr) : Prop where
  sq : SqT K H p ((pre t).map V.str)
  nd : NoD H p
  ok : okT rows t
theorem TrAt.mono {K : PySem.W.Frag} {H H' : Hp} {rows : List Sy.Row} {p : Addr} {t : Tr} (h : TrAt K H rows p t) (s : Stay H H') : TrAt K H' rows p t := ⟨s.sqt h.sq, h.nd.mono s, h.ok⟩
theorem Dr.stay {g : Addr} {H H' : Hp} (d : Dr g H H') (b : Bag g H) : Stay H H' := by
  obtain ⟨l, _, c⟩ := d
  obtain ⟨m, _, e⟩ := b
  exact c.stay e
theorem tree_of {rows : List Sy.Row} {l : List Str} (h : fa rows ["*"] 1 0 l < 0) : ∃ t, okT rows t ∧ pre t = l := by
  obtain ⟨f1, f2⟩ := fa_neg (rows := rows) (lv := ["*"]) (l := l) (m := 1) (i := 0) h
  obtain ⟨ts, h1, h2, h3⟩ := trees_of f1 fun x hx => (f2 x hx).imp id fun z => List.mem_singleton.mp z
  obtain ⟨t, rfl⟩ := List.length_eq_one_iff.mp h1
  exact ⟨t, h2.1, by rw [← h3]; exact (List.append_nil _).symm⟩
/-- the number of branches as the law counts them -/
theorem numb_toNat {rows : List Sy.Row} (x : Str) : (numb rows x).toNat = ar rows x := by
  cases e : isK rows x with
  | true => rw [numb_ar e]; rfl
  | false => rw [(numb_no e).1, (numb_no e).2]; rfl
theorem numb_lo {rows : List Sy.Row} (x : Str) : -1 ≤ numb rows x := by
  cases e : isK rows x with
  | true => rw [numb_ar e]; omega
  | false => rw [(numb_no e).1]; exact Int.le_refl _
theorem numb_hi {rows : List Sy.Row} (x : Str) : numb rows x ≤ (ar rows x : Nat) := by
  cases e : isK rows x with
  | true => rw [numb_ar e]; exact Int.le_refl _
  | false => rw [(numb_no e).1]; omega
/-- a path, as a tuple of ints -/
def PAt (H : Hp) (b : Addr) (p : List Nat) : Prop := H b = some (.tup (vN p))
theorem PAt.same {H H' : Hp} {b : Addr} {p : List Nat} (h : PAt H b p) (s : Same H H') : PAt H' b p := s _ _ h
theorem PAt.im {K : PySem.W.Frag} {H : Hp} {b : Addr} {p : List Nat} (h : PAt H b p) : Im K H (.ref b) (DN p) := Im.nats (SqT.of h)
theorem Paired.same {α : Type} {R : Hp → Addr → α → Prop} (hR : ∀ H H' a x, Same H H' → R H a x → R H' a x) {H H' : Hp} (s : Same H H') : ∀ {qs : List Addr} {xs : List α}, Paired (R H) qs xs → Paired (R H') qs xs
  | _, _, .nil => .nil
  | _, _, .cons h t => .cons (hR _ _ _ _ s h) (Paired.same hR s t)
theorem pats_same {H H' : Hp} {qs : List Addr} {ps : List (List Nat)} (h : Paired (PAt H) qs ps) (s : Same H H') : Paired (PAt H') qs ps := Paired.same (R := PAt) (fun _ _ _ _ s h => h.same s) s h
theorem pats_im {K : PySem.W.Frag} {H : Hp} : ∀ {qs : List Addr} {ps : List (List Nat)}, Paired (PAt H) qs ps → ImA K H (qs.map V.ref) (ps.map DN)
  | _, _, .nil => .nil
  | _, _, .cons h t => .cons h.im (pats_im t)
theorem paired_rep {α β : Type} {R : α → β → Prop} {a : α} {b : β} (h : R a b) : ∀ n : Nat, Paired R (List.replicate n a) (List.replicate n b)
  | 0 => .nil
  | n + 1 => .cons h (paired_rep h n)
theorem paired_set {α β : Type} {R : α → β → Prop} {a : α} {b : β} (h : R a b) : ∀ {as : List α} {bs : List β} (i : Nat), Paired R as bs → Paired R (as.set i a) (bs.set i b)
  | _, _, _, .nil => .nil
  | _, _, 0, .cons _ t => .cons h t
  | _, _, i + 1, .cons g t => .cons g (paired_set h i t)
end Sy
namespace Sy
open PySem PySem.Spec PyProof.Rows L2
theorem Hs.pat {B H : Hp} {L : List (Addr × HO)} (h : Hs B L H) (al : AllL L) {p : Addr} {ps : List Nat} (x : PAt H p ps) : PAt (cut L H) p ps := by
  unfold PAt
  rw [cut_at]
  · exact x
  · intro hm
    obtain ⟨q, hq, rfl⟩ := List.mem_map.mp hm
    have e := h.own q hq
    obtain ⟨xs, ex⟩ := al q hq
    have x : H q.1 = some (.tup (vN ps)) := x
    rw [e, ex] at x
    cases x
theorem cat_path {K : PySem.W.Frag} {H : Hp} {Q : VK} {a b : Addr} {p : List Nat} {k : Nat} (h : PAt H a p) (g : H b = some (.tup [.int (k : Nat)])) (hl : p.length ≤ 100000) (q : ∀ c H', Same H H' → PAt H' c (p ++ [k]) → Q (.ref c) H') : rCatA K (.ref a) (.ref b) H Q := by
  refine ⟨a, b, _, _, rfl, rfl, SqT.of h, SqT.of g, by rw [vN, List.length_map, sizeLine_eq]; show _ + 1 ≤ _; omega, fun c => ?_, fun _ z => (nomatch z), fun c _ r hr => ?_⟩
  · rw [vN, List.map_eq_nil_iff] at c
    subst c
    exact q b H (Same.refl H) g
  · refine q r _ (up_same hr) ?_
    unfold PAt
    rw [upd_same, vN, vN, List.map_append]
    rfl
section
variable {P : Program} {w : World} {K : PySem.W.Frag} {mg : Str → Option Value} {base : Heap}
/-! _law_ends -/
def spEnds (K : PySem.W.Frag) : Sp := fun vs H Q _ => ∃ (q r : Addr) (rows : List Sy.Row) (t : Tr), vs = [.ref q, .ref r] ∧ RL K H q rows ∧ SqT K H r ((pre t).map V.str) ∧ okT rows t ∧ (pre t).length ≤ 5000 ∧ ∀ H' p, H p = none → Same H H' → H' p = some (.lst (vN (ens (wt rows (pre t))))) → Q (.ref p) H'
abbrev N_ends : List Str := ["_law_rows_here", "_law_plant_here", "_law_ends_here", "_law_k", "_law_place", "_law_behind", "_law_turn"]
theorem sc_ends : FnScope N_ends ["_law_rows_here", "_law_plant_here"] (defScope (top 49)) := ⟨rfl, rfl, rfl, by decide +kernel, rfl, by decide +kernel, by decide +kernel⟩
theorem k_ends (T : Txt K mg) (F : DF K mg "_law_ends" 49) (c_law_number : Cal P w K mg base 1 "_law_number" ["_law_rows_here", "_law_word_here"] (spNum K)) : Cal P w K mg base 2 "_law_ends" ["_law_rows_here", "_law_plant_here"] (spEnds K) := by
  refine cal_of F.1 F.2 sc_ends (fun _ _ _ _ _ _ us e => match us, e with | [_, _], _ => rfl) (fun vs H Q E s => by obtain ⟨_, _, _, _, rfl, _⟩ := s; rfl) ?_
  intro cdv A outer s H vs Q E hr h
  obtain ⟨q, r, rows, t, rfl, hRL, hR, ok, hsz, hq⟩ := h
  have hF := fo_pre ok
  generalize pre t = l at *
  have sc := sc_ends
  refine ⟨_, (pss_cons (ps_set (i := 2) sc.nd rfl (Or.inl rfl) (pe_op op_rep (pe_lst (pa_cons pe_int pa_nil)) (pe_callB call_len_seq (by rfl) T.len (by decide +kernel) (pa_cons (pv 1) pa_nil))))
      (pss_cons (ps_for (passes_of rfl) rfl (pi_range1 rfl T.range (pa_cons (pe_callB call_len_seq (by rfl) T.len (by decide +kernel) (pa_cons (pv 1) pa_nil)) pa_nil)) (pg_name (i := 3) sc.nd rfl (Or.inl rfl))
        (pss_cons (ps_set (i := 4) sc.nd rfl (Or.inl rfl) (pe_op op_sub (pe_op op_sub (pe_callB call_len_seq (by rfl) T.len (by decide +kernel) (pa_cons (pv 1) pa_nil)) pe_int) (pv 3)))
        (pss_cons (ps_set (i := 5) sc.nd rfl (Or.inl rfl) (pe_op op_add (pv 4) pe_int))
        (pss_cons (ps_for (passes_of rfl) rfl (pi_range1 rfl T.range (pa_cons (pe_cal c_law_number hr (pa_cons (pv 0) (pa_cons (pe_ix ix_tup (pv 1) (pv 4) (fun _ _ => rfl)) pa_nil))) pa_nil)) (pg_name (i := 6) sc.nd rfl (Or.inl rfl))
          (pss_one (ps_set (i := 5) sc.nd rfl (Or.inl rfl) (pe_ix ix_list (pv 2) (pv 5) (fun _ _ => rfl)))))
        (pss_one (ps_asg (pv 5) (pg_sub (pv 2) (pv 4) set_list)))))))
      (pss_one (ps_ret (pv 2))))), ?_⟩
  have hwl := wt_len rows l
  refine ⟨by decide, fun p0 hp0 => ?_⟩
  have h0 := (Hs.start H).lay (o := .lst [.int 0]) hp0
  refine ⟨_, rfl, r, _, rfl, .inr (Same.sqt h0.sub hR), p0, _, _, rfl, rfl, upd_same, by omega, by rw [List.length_map]; omega, by show 1 * _ ≤ _; rw [List.length_map, sizeLine_eq]; omega, fun D hD => ?_⟩
  rw [flat_one, List.length_map, show ((l.length : Int)).toNat = l.length by omega]
  have h1 := h0.new (o := .lst (List.replicate l.length (V.int 0))) hD
  have e1 : List.replicate l.length (V.int 0) = vN (List.replicate l.length 0) := by rw [vN, List.map_replicate]; rfl
  rw [e1] at h1 ⊢
  have hDn : H D = none := by
    have := hD
    by_cases z : D = p0
    · rw [z]; exact hp0
    · rw [upd_ne z] at this
      exact this
  refine ⟨_, rfl, r, _, rfl, .inr (Same.sqt h1.sub hR), _, rfl, by omega, by rw [List.length_map]; omega, for_rng (n := (l.map V.str).length)
    (fun i σ H' => ∃ t3 t4 t5 t6 ss, σ = [some (.ref q), some (.ref r), some (.ref D), t3, t4, t5, t6] ∧ Hs H [(D, .lst (vN ss))] H' ∧ ss.length = l.length ∧ ∀ j, l.length - i ≤ j → j < l.length → ss[j]? = some (en (wt rows l) j))
    ⟨none, none, none, none, List.replicate l.length 0, rfl, h1, by rw [List.length_replicate], fun j a b => by omega⟩ ?_ ?_⟩
  · rintro k σ H1 hk ⟨t3, t4, t5, t6, ss, rfl, hh, hl, hv⟩
    rw [List.length_map] at hk
    obtain ⟨i, hi⟩ : ∃ i : Nat, i = l.length - 1 - k := ⟨_, rfl⟩
    have hil : i < l.length := by omega
    have hiw : i < (wt rows l).length := by omega
    obtain ⟨y, hy⟩ : ∃ y, l[i]? = some y := ⟨_, List.getElem?_eq_getElem hil⟩
    have eaw : aw (wt rows l) i = ar rows y := wt_at hy
    have hal := aw_le hF hiw
    have hn1 := numb_hi (rows := rows) y
    have hn2 := numb_lo (rows := rows) y
    refine ⟨_, rfl, r, _, rfl, .inr (Same.sqt hh.sub hR), _, _, rfl, rfl, _, rfl, _, _, rfl, rfl, ?_⟩
    have epl : ((l.map V.str).length : Int) - 1 - (k : Nat) = (i : Int) := by rw [List.length_map]; omega
    refine ⟨_, rfl, _, _, rfl, rfl, ?_⟩
    refine ⟨_, rfl, _, rfl, _, rfl, r, _, _, _, rfl, rfl, Same.sqt hh.sub hR, by
      show atI _ (((l.map V.str).length : Int) - 1 - (k : Nat)) = _
      rw [epl]
      exact atI_nat (by rw [List.getElem?_map, hy]; rfl), q, rows, y, rfl, hRL.mono hh.sub, _, rfl, by omega, by omega, for_rng (n := (numb rows y).toNat)
      (fun t σ H2 => ∃ u6 z, σ = [some (.ref q), some (.ref r), some (.ref D), some (.int (k : Nat)), some (.int (i : Nat)), some (.int z), u6] ∧ z = (kd (wt rows l) i t : Nat) ∧ H2 = H1)
      ⟨_, ((l.map V.str).length : Int) - 1 - (k : Nat) + 1, by rw [← epl]; rfl, by rw [kd_zero]; omega, rfl⟩ ?_ ?_⟩
    · rintro t σ H2 ht ⟨u6, _, rfl, rfl, rfl⟩
      rw [numb_toNat] at ht
      have hk2 := hF.kd_lt hiw (k := t) (by omega)
      have hk3 := kd_gt (w := wt rows l) (i := i) (k := t)
      exact ⟨_, rfl, _, rfl, D, _, _, _, rfl, rfl, SqL.of hh.r0, atI_nat (vN_at (hv _ (by omega) (by omega))), _, _, rfl, by rw [kd_succ], rfl⟩
    · rintro σ H2 ⟨u6, _, rfl, rfl, rfl⟩
      refine ⟨_, rfl, _, rfl, _, rfl, D, _, _, i, rfl, rfl, hh.r0, ixN_nat (by rw [List.length_map]; omega), _, _, _, _, _, rfl, by rw [vN_set]; exact hh.w0, by rw [List.length_set]; exact hl, fun j a b => ?_⟩
      rw [numb_toNat, ← eaw, en_kd hiw]
      by_cases c : i = j
      · subst c
        rw [List.getElem?_set_self (by omega)]
      · rw [List.getElem?_set_ne c]
        exact hv j (by omega) b
  · rintro σ H1 ⟨t3, t4, t5, t6, ss, rfl, hh, hl, hv⟩
    have es : ss = ens (wt rows l) := ens_of (by omega) (fun j hj => hv j (by rw [List.length_map]; omega) (by omega))
    rw [es] at hh
    exact ⟨_, rfl, hq _ _ hDn hh.sub hh.r0⟩
/-! _law_paths -/
def spPathsL (K : PySem.W.Frag) : Sp := fun vs H Q _ => ∃ (q r : Addr) (rows : List Sy.Row) (t : Tr), vs = [.ref q, .ref r] ∧ RL K H q rows ∧ SqT K H r ((pre t).map V.str) ∧ okT rows t ∧ (pre t).length ≤ 5000 ∧ ∀ H' p qs, H p = none → Same H H' → H' p = some (.lst (qs.map V.ref)) → Paired (PAt H') qs (apT t) → Q (.ref p) H'
abbrev N_pathsL : List Str := ["_law_rows_here", "_law_stump_here", "_law_ends_here", "_law_found", "_law_place", "_law_at", "_law_k"]
theorem sc_pathsL : FnScope N_pathsL ["_law_rows_here", "_law_stump_here"] (defScope (top 53)) := ⟨rfl, rfl, rfl, by decide +kernel, rfl, by decide +kernel, by decide +kernel⟩
theorem k_pathsL (T : Txt K mg) (F : DF K mg "_law_paths" 53) (c_law_number : Cal P w K mg base 1 "_law_number" ["_law_rows_here", "_law_word_here"] (spNum K)) (c_law_ends : Cal P w K mg base 2 "_law_ends" ["_law_rows_here", "_law_plant_here"] (spEnds K)) : Cal P w K mg base 3 "_law_paths" ["_law_rows_here", "_law_stump_here"] (spPathsL K) := by
  refine cal_of F.1 F.2 sc_pathsL (fun _ _ _ _ _ _ us e => match us, e with | [_, _], _ => rfl) (fun vs H Q E s => by obtain ⟨_, _, _, _, rfl, _⟩ := s; rfl) ?_
  intro cdv A outer s H vs Q E hr h
  obtain ⟨q, r, rows, t, rfl, hRL, hR, ok, hsz, hq⟩ := h
  have hF := fo_pre ok
  have hap := pths_ap ok
  obtain ⟨l, el⟩ : ∃ l, l = pre t := ⟨_, rfl⟩
  rw [← el] at hR hsz hF hap
  have sc := sc_pathsL
  have hwl := wt_len rows l
  refine ⟨_, (pss_cons (ps_set (i := 2) sc.nd rfl (Or.inl rfl) (pe_cal c_law_ends hr (pa_cons (pv 0) (pa_cons (pv 1) pa_nil))))
      (pss_cons (ps_set (i := 3) sc.nd rfl (Or.inl rfl) (pe_op op_rep (pe_lst (pa_cons (pe_tup pa_nil) pa_nil)) (pe_callB call_len_seq (by rfl) T.len (by decide +kernel) (pa_cons (pv 1) pa_nil))))
      (pss_cons (ps_for (passes_of rfl) rfl (pi_range1 rfl T.range (pa_cons (pe_callB call_len_seq (by rfl) T.len (by decide +kernel) (pa_cons (pv 1) pa_nil)) pa_nil)) (pg_name (i := 4) sc.nd rfl (Or.inl rfl))
        (pss_cons (ps_set (i := 5) sc.nd rfl (Or.inl rfl) (pe_op op_add (pv 4) pe_int))
        (pss_one (ps_for (passes_of rfl) rfl (pi_range1 rfl T.range (pa_cons (pe_cal c_law_number hr (pa_cons (pv 0) (pa_cons (pe_ix ix_tup (pv 1) (pv 4) (fun _ _ => rfl)) pa_nil))) pa_nil)) (pg_name (i := 6) sc.nd rfl (Or.inl rfl))
          (pss_cons (ps_asg (pe_op op_catA (pe_ix ix_list (pv 3) (pv 4) (fun _ _ => rfl)) (pe_tup (pa_cons (pv 6) pa_nil))) (pg_sub (pv 3) (pv 5) set_list))
          (pss_one (ps_set (i := 5) sc.nd rfl (Or.inl rfl) (pe_ix ix_list (pv 2) (pv 5) (fun _ _ => rfl)))))))))
      (pss_one (ps_ret (pv 3)))))), ?_⟩
  refine ⟨_, rfl, _, rfl, q, r, rows, t, rfl, hRL, by rw [← el]; exact hR, ok, by rw [← el]; exact hsz, fun He e hne se hE => ?_⟩
  rw [← el] at hE
  refine ⟨by decide, fun t0 ht0 => ⟨(by show 1 ≤ sizeLine; decide), fun p0 hp0 => ?_⟩⟩
  have sT := up_same (o := .tup []) ht0
  have iT : PAt (upd He t0 (.tup [])) t0 [] := upd_same
  generalize upd He t0 (.tup []) = B0 at *
  have sB0 := se.trans sT
  have h0 := (Hs.start B0).lay (o := .lst [.ref t0]) hp0
  refine ⟨_, rfl, r, _, rfl, .inr (Same.sqt (sB0.trans h0.sub) hR), p0, _, _, rfl, rfl, upd_same, by omega, by rw [List.length_map]; omega, by show 1 * _ ≤ _; rw [List.length_map, sizeLine_eq]; omega, fun D hD => ?_⟩
  have hDn : H D = none := by
    cases e1 : H D with
    | none => rfl
    | some u => rw [h0.sub _ _ (sB0 _ _ e1)] at hD; cases hD
  rw [flat_one, List.length_map, show ((l.length : Int)).toNat = l.length by omega]
  have h1 := h0.new (o := .lst (List.replicate l.length (V.ref t0))) hD
  rw [show List.replicate l.length (V.ref t0) = (List.replicate l.length t0).map V.ref by rw [List.map_replicate]] at h1 ⊢
  have im0 : Paired (PAt B0) (List.replicate l.length t0) (pth (wt rows l) 0) := by
    show Paired (PAt B0) _ (List.replicate (wt rows l).length [])
    rw [hwl]
    exact paired_rep iT _
  refine ⟨_, rfl, r, _, rfl, .inr (Same.sqt (sB0.trans h1.sub) hR), _, rfl, by omega, by rw [List.length_map]; omega, for_rng (n := (l.map V.str).length)
    (fun i σ H' => ∃ t4 t5 t6 B qs, σ = [some (.ref q), some (.ref r), some (.ref e), some (.ref D), t4, t5, t6] ∧ Same B0 B ∧ Hs B [(D, .lst (qs.map V.ref))] H' ∧ Paired (PAt B) qs (pth (wt rows l) i))
    ⟨none, none, none, B0, _, rfl, Same.refl _, h1, im0⟩ ?_ ?_⟩
  · rintro i σ H1 hi ⟨t4, t5, t6, B, vs, rfl, sB, hh, im⟩
    rw [List.length_map] at hi
    have hiw : i < (wt rows l).length := by omega
    obtain ⟨y, hy⟩ : ∃ y, l[i]? = some y := ⟨_, List.getElem?_eq_getElem hi⟩
    have eaw : aw (wt rows l) i = ar rows y := wt_at hy
    have hal := aw_le hF hiw
    have hn1 := numb_hi (rows := rows) y
    have hn2 := numb_lo (rows := rows) y
    have sH := (sB0.trans sB).trans hh.sub
    refine ⟨_, rfl, _, _, rfl, rfl, _, rfl, _, rfl, _, rfl, r, _, _, _, rfl, rfl, Same.sqt sH hR, atI_nat (by rw [List.getElem?_map, hy]; rfl), q, rows, y, rfl, hRL.mono sH, _, rfl, by omega, by omega, for_rng (n := (numb rows y).toNat)
      (fun t σ H2 => ∃ z u6 B vs, σ = [some (.ref q), some (.ref r), some (.ref e), some (.ref D), some (.int (i : Nat)), some (.int z), u6] ∧ z = (kd (wt rows l) i t : Nat) ∧ Same B0 B ∧ Hs B [(D, .lst (vs.map V.ref))] H2 ∧ Paired (PAt B) vs (stp (wt rows l) i (pth (wt rows l) i) t))
      ⟨_, _, B, vs, rfl, by rw [kd_zero]; rfl, sB, hh, im⟩ ?_ ?_⟩
    · rintro t σ H2 ht ⟨_, u6, B2, ws, rfl, rfl, sB2, h2, i2⟩
      rw [numb_toNat] at ht
      have ht2 : t < aw (wt rows l) i := by omega
      have hk := hF.kd_lt hiw ht2
      have wl : ws.length = l.length := by rw [paired_len i2, stp_len, pth_len, hwl]
      have fd : (stp (wt rows l) i (pth (wt rows l) i) t)[i]? = some ((stp (wt rows l) i (pth (wt rows l) i) t).getD i []) := by
        have : i < (stp (wt rows l) i (pth (wt rows l) i) t).length := by rw [stp_len, pth_len]; exact hiw
        rw [List.getD_eq_getElem?_getD, List.getElem?_eq_getElem this]
        rfl
      obtain ⟨pa, ev, iv⟩ := paired_at i2 fd
      have hlen := stp_le (w := wt rows l) (i := i) (pth_le (wt rows l) i) t i
      refine ⟨_, rfl, _, rfl, D, _, _, _, rfl, rfl, SqL.of h2.r0, atI_nat (by rw [List.getElem?_map, ev]; rfl), _, rfl, (by show 1 ≤ sizeLine; decide), fun p hp3 => ?_⟩
      have h3 := h2.tup (o := .tup [.int (t : Nat)]) hp3
      have s3 : Same B2 (upd B2 p (.tup [.int (t : Nat)])) := up_same (h2.sub.free hp3)
      refine cat_path ((iv.same s3).same h3.sub) upd_same (by omega) fun p4 H4 s4 t4' => ?_
      obtain ⟨g1, g2⟩ := h3.after s4
      have t5' := g2.pat (AllL.cons AllL.nil) t4'
      generalize cut [(D, HO.lst (ws.map V.ref))] H4 = B4 at *
      have sB4 := (sB2.trans s3).trans g1
      refine ⟨_, rfl, _, rfl, D, _, _, kd (wt rows l) i t, rfl, rfl, g2.r0, ixN_nat (by rw [List.length_map]; omega), ?_⟩
      have g3 := g2.w0 (o' := .lst ((ws.map V.ref).set (kd (wt rows l) i t) (.ref p4)))
      have es : (ws.map V.ref).set (kd (wt rows l) i t) (.ref p4) = (ws.set (kd (wt rows l) i t) p4).map V.ref := List.map_set.symm
      rw [es] at g3 ⊢
      have hEv := g3.sub _ _ (sB4 _ _ (sT _ _ hE))
      refine ⟨_, rfl, _, rfl, e, _, _, _, rfl, rfl, SqL.of hEv, atI_nat (vN_at (ens_at hk)), _, _, B4, _, rfl, by rw [kd_succ], sB4, g3, ?_⟩
      rw [stp_succ]
      exact paired_set t5' _ (pats_same i2 (s3.trans g1))
    · rintro σ H2 ⟨_, u6, B2, ws, rfl, rfl, sB2, h2, i2⟩
      rw [numb_toNat, ← eaw, ← pth_succ] at i2
      exact ⟨_, _, _, B2, ws, rfl, sB2, h2, i2⟩
  · rintro σ H1 ⟨t4, t5, t6, B, vs, rfl, sB, hh, im⟩
    rw [List.length_map, ← hwl] at im
    refine ⟨_, rfl, hq _ _ vs hDn ((sB0.trans sB).trans hh.sub) hh.r0 (pats_same ?_ hh.sub)⟩
    rw [← hap]
    exact im
end
end Sy
/-! paths as keys and as data -/
namespace Sy
open PySem PySem.Spec PyProof.Rows L2
def ky (p : List Nat) : List Key := p.map fun n : Nat => (Sum.inl (n : Int) : Key)
theorem ky_inj : ∀ {p q : List Nat}, ky p = ky q → p = q
  | [], [], _ => rfl
  | [], _ :: _, h => by cases h
  | _ :: _, [], h => by cases h
  | a :: p, b :: q, h => by
    have h : (Sum.inl (a : Int) : Key) :: ky p = (Sum.inl (b : Int) : Key) :: ky q := h
    obtain ⟨h1, h2⟩ := List.cons.inj h
    have h1 : (a : Int) = b := Sum.inl.inj h1
    rw [ky_inj h2, show a = b by omega]
theorem kV_ky (p : List Nat) : (ky p).map kV = vN p := by
  unfold ky vN
  rw [List.map_map]
  rfl
theorem PAt.key {H : Hp} {b : Addr} {p : List Nat} (h : PAt H b p) : H b = some (.tup ((ky p).map kV)) := by rw [kV_ky]; exact h
/-- a table has the kind at each path of a tree -/
structure KTab (kvs : List (List Key × V)) (t : Tr) : Prop where
  val : ∀ p, valV kvs (ky p) = if kA t p = "*" then none else some (.str (kA t p))
  mem : ∀ e ∈ kvs, ∃ p, e.1 = ky p ∧ kA t p ≠ "*"
/-- .. the first entries of it -/
structure KTabI (kvs : List (List Key × V)) (t : Tr) (i : Nat) : Prop where
  mem : ∀ e ∈ kvs, ∃ p, e.1 = ky p ∧ kA t p ≠ "*"
  val : ∀ p, valV kvs (ky p) = none ∨ (kA t p ≠ "*" ∧ valV kvs (ky p) = some (.str (kA t p)))
  has : ∀ j p, j < i → (apT t)[j]? = some p → kA t p ≠ "*" → valV kvs (ky p) = some (.str (kA t p))
  len : kvs.length ≤ i
theorem KTabI.start (t : Tr) : KTabI [] t 0 := ⟨fun _ h => (nomatch h), fun _ => .inl rfl, fun _ _ h => absurd h (Nat.not_lt_zero _), Nat.le_refl _⟩
theorem mem_putK {κ : Type} [DecidableEq κ] {kvs : List (κ × V)} {k : κ} {v : V} {e : κ × V} (h : e ∈ putK kvs k v) : e.1 = k ∨ ∃ f ∈ kvs, f.1 = e.1 := by
  unfold putK at h
  split at h
  · obtain ⟨f, hf, rfl⟩ := List.mem_map.mp h
    refine .inr ⟨f, hf, ?_⟩
    split <;> rfl
  · rcases List.mem_append.mp h with h | h
    · exact .inr ⟨e, h, rfl⟩
    · rw [List.mem_singleton.mp h]
      exact .inl rfl
theorem kA_ap {t : Tr} {j : Nat} {p : List Nat} {y : Str} (h : (apT t)[j]? = some p) (e : (pre t)[j]? = some y) : kA t p = y := kA_of (by rw [apT_tat h, e])
theorem KTabI.put {kvs : List (List Key × V)} {t : Tr} {i : Nat} {p : List Nat} {y : Str} (h : KTabI kvs t i) (e : (apT t)[i]? = some p) (ey : (pre t)[i]? = some y) (hy : y ≠ "*") : KTabI (putK kvs (ky p) (.str y)) t (i + 1) := by
  have ek := kA_ap e ey
  refine ⟨fun f hf => ?_, fun q => ?_, fun j q hj ej hq => ?_, ?_⟩
  · rcases mem_putK hf with hf | ⟨g, hg, hf⟩
    · exact ⟨p, hf, by rw [ek]; exact hy⟩
    · obtain ⟨q, h1, h2⟩ := h.mem g hg
      exact ⟨q, by rw [← hf, h1], h2⟩
  · rw [valV_put]
    by_cases c : ky q = ky p
    · obtain rfl := ky_inj c
      rw [if_pos rfl, ek]
      exact .inr ⟨hy, rfl⟩
    · rw [if_neg c]
      exact h.val q
  · rw [valV_put]
    by_cases c : ky q = ky p
    · obtain rfl := ky_inj c
      rw [if_pos rfl, ek]
    · rw [if_neg c]
      by_cases d : j = i
      · subst d
        rw [e] at ej
        cases ej
        exact absurd rfl c
      · exact h.has j q (by omega) ej hq
  · have := length_putK kvs (ky p) (.str y)
    have := h.len
    omega
theorem KTabI.skip {kvs : List (List Key × V)} {t : Tr} {i : Nat} {p : List Nat} (h : KTabI kvs t i) (e : (apT t)[i]? = some p) (ey : (pre t)[i]? = some ("*" : Str)) : KTabI kvs t (i + 1) := by
  refine ⟨h.mem, h.val, fun j q hj ej hq => ?_, Nat.le_succ_of_le h.len⟩
  by_cases d : j = i
  · subst d
    rw [e] at ej
    cases ej
    exact absurd (kA_ap e ey) hq
  · exact h.has j q (by omega) ej hq
theorem KTabI.done {kvs : List (List Key × V)} {t : Tr} (h : KTabI kvs t (pre t).length) : KTab kvs t := by
  refine ⟨fun p => ?_, h.mem⟩
  by_cases c : kA t p = "*"
  · rw [if_pos c]
    exact (h.val p).resolve_right fun z => z.1 c
  · rw [if_neg c]
    obtain ⟨j, hj, e⟩ := List.getElem_of_mem (apT_has (tat_of c))
    exact h.has j p (by rw [← apT_len]; exact hj) (by rw [List.getElem?_eq_getElem hj, e]) c
theorem KTab.at_ {kvs : List (List Key × V)} {t : Tr} (h : KTab kvs t) {i : Nat} {k : List Key} {v : V} (e : kvs[i]? = some (k, v)) : ∃ p, k = ky p ∧ kA t p ≠ "*" := h.mem _ (List.mem_of_getElem? e)
theorem KTab.one {kvs : List (List Key × V)} {t : Tr} (h : KTab kvs t) {p : List Nat} (c : kA t p ≠ "*") : valV kvs (ky p) = some (.str (kA t p)) := by rw [h.val, if_neg c]
theorem KTab.getD {kvs : List (List Key × V)} {t : Tr} (h : KTab kvs t) (p : List Nat) : (valV kvs (ky p)).getD (.str "*") = .str (kA t p) := by
  rw [h.val]
  split
  · rename_i c; rw [c]; rfl
  · rfl
theorem KTab.isSome {kvs : List (List Key × V)} {t : Tr} (h : KTab kvs t) (p : List Nat) : (valV kvs (ky p)).isSome = true ↔ kA t p ≠ "*" := by
  rw [h.val]
  split
  · rename_i c; exact ⟨fun z => (nomatch z), fun z => absurd c z⟩
  · rename_i c; exact ⟨fun _ => c, fun _ => rfl⟩
/-- every kind is met in the walk over the table -/
theorem KTab.meet {kvs : List (List Key × V)} {t : Tr} (h : KTab kvs t) {p : List Nat} (c : kA t p ≠ "*") : ∃ (i : Nat) (v : V), kvs[i]? = some (ky p, v) := by
  have e := h.one c
  unfold valV at e
  cases f : kvs.find? fun kv => decide (kv.1 = ky p) with
  | none => rw [f] at e; cases e
  | some kv =>
    have h1 := List.find?_some f
    have h2 := List.mem_of_find?_eq_some f
    obtain ⟨i, hi⟩ := List.mem_iff_getElem?.mp h2
    obtain ⟨k, v⟩ := kv
    have h1 : k = ky p := of_decide_eq_true h1
    subst h1
    exact ⟨i, v, hi⟩
/-! as data -/
theorem eqv_DN : ∀ p q : List Nat, PyData.eqv (DN p) (DN q) = decide (p = q) := by
  have h : ∀ p q : List Nat, PyData.eqvAll (p.map fun n : Nat => PyData.int (n : Int)) (q.map fun n : Nat => PyData.int (n : Int)) = decide (p = q) := by
    intro p
    induction p with
    | nil => intro q; cases q <;> simp [PyData.eqvAll]
    | cons x p ih =>
      intro q
      cases q with
      | nil => simp [PyData.eqvAll]
      | cons y q =>
        simp only [List.map_cons, PyData.eqvAll, ih q, PyData.eqv]
        by_cases e : x = y
        · by_cases e2 : p = q <;> simp [e, e2]
        · have : ¬ ((x : Int) = (y : Int)) := by omega
          simp [e, this]
  intro p q
  unfold DN
  simp only [PyData.eqv, h]
theorem lay_DN (p : List Nat) : PyData.canLay0 (DN p) = true ∧ PyData.depth (DN p) ≤ 1 := by
  unfold DN
  simp only [PyData.canLay0, PyData.depth]
  induction p with
  | nil => exact ⟨rfl, by simp [PyData.depthAll]⟩
  | cons x p ih =>
    rw [List.map_cons]
    simp only [PyData.canLayAll0, PyData.depthAll, PyData.canLay0, PyData.depth, Bool.true_and]
    exact ⟨ih.1, by omega⟩
theorem shaped_DN (p : List Nat) : SeqAt.shaped (DN p) = true := by
  unfold SeqAt.shaped
  rw [(lay_DN p).1, Bool.true_and]
  exact decide_eq_true (by have := (lay_DN p).2; omega)
theorem shaped_DNs (ps : List (List Nat)) : SeqAt.shaped (.list (ps.map DN)) = true := by
  have h : PyData.canLayAll0 (ps.map DN) = true ∧ PyData.depthAll (ps.map DN) ≤ 1 := by
    induction ps with
    | nil => exact ⟨rfl, Nat.zero_le _⟩
    | cons p ps ih =>
      rw [List.map_cons, PyData.canLayAll0, PyData.depthAll, (lay_DN p).1, Bool.true_and]
      exact ⟨ih.1, by have := (lay_DN p).2; have := ih.2; omega⟩
  unfold SeqAt.shaped
  simp only [PyData.canLay0, PyData.depth]
  rw [h.1, Bool.true_and]
  exact decide_eq_true (by omega)
/-- the place of the first one equal -/
theorem first_at {α : Type} [DecidableEq α] {l : List α} {x : α} (h : x ∈ l) : ∃ j : Nat, l[j]? = some x ∧ ∀ (m : Nat) (z : α), m < j → l[m]? = some z → z ≠ x := by
  induction l with
  | nil => cases h
  | cons y l ih =>
    by_cases c : y = x
    · exact ⟨0, by rw [c]; rfl, fun m z hm => absurd hm (Nat.not_lt_zero _)⟩
    · obtain ⟨j, h1, h2⟩ := ih ((List.mem_cons.mp h).resolve_left fun z => c z.symm)
      refine ⟨j + 1, h1, fun m z hm e => ?_⟩
      cases m with
      | zero => exact fun w => c (by rw [← w]; exact Option.some.inj e)
      | succ m => exact h2 m z (by omega) e
end Sy
namespace Sy
open PySem PySem.Spec PyProof.Rows L2
section
variable {P : Program} {w : World} {K : PySem.W.Frag} {mg : Str → Option Value} {base : Heap}
/-! _law_kinds -/
def spKinds (K : PySem.W.Frag) : Sp := fun vs H Q _ => ∃ (q r : Addr) (rows : List Sy.Row) (t : Tr), vs = [.ref q, .ref r] ∧ RL K H q rows ∧ SqT K H r ((pre t).map V.str) ∧ okT rows t ∧ (pre t).length ≤ 5000 ∧ ∀ H' p kvs, H p = none → Same H H' → H' p = some (.dT kvs) → KTab kvs t → Q (.ref p) H'
abbrev N_kinds : List Str := ["_law_rows_here", "_law_stump_here", "_law_found", "_law_kinds_here", "_law_place"]
theorem sc_kinds : FnScope N_kinds ["_law_rows_here", "_law_stump_here"] (defScope (top 54)) := ⟨rfl, rfl, rfl, by decide +kernel, rfl, by decide +kernel, by decide +kernel⟩
theorem k_kinds (T : Txt K mg) (F : DF K mg "_law_kinds" 54) (c_law_paths : Cal P w K mg base 3 "_law_paths" ["_law_rows_here", "_law_stump_here"] (spPathsL K)) : Cal P w K mg base 4 "_law_kinds" ["_law_rows_here", "_law_stump_here"] (spKinds K) := by
  refine cal_of F.1 F.2 sc_kinds (fun _ _ _ _ _ _ us e => match us, e with | [_, _], _ => rfl) (fun vs H Q E s => by obtain ⟨_, _, _, _, rfl, _⟩ := s; rfl) ?_
  intro cdv A outer s H vs Q E hr h
  obtain ⟨q, r, rows, t, rfl, hRL, hR, ok, hsz, hq⟩ := h
  have hu := hu_of hr
  have sc := sc_kinds
  refine ⟨_, (pss_cons (ps_set (i := 2) sc.nd rfl (Or.inl rfl) (pe_cal c_law_paths hr (pa_cons (pv 0) (pa_cons (pv 1) pa_nil))))
      (pss_cons (ps_set (i := 3) sc.nd rfl (Or.inl rfl) pe_dnewT)
      (pss_cons (ps_for (passes_of rfl) rfl (pi_range1 rfl T.range (pa_cons (pe_callB call_len_seq (by rfl) T.len (by decide +kernel) (pa_cons (pv 1) pa_nil)) pa_nil)) (pg_name (i := 4) sc.nd rfl (Or.inl rfl))
        (pss_one (ps_if (pt_cmpR op_ne (pe_ix ix_tup (pv 1) (pv 4) (fun _ _ => rfl)) pe_str (nomark _))
          (pss_one (ps_dput hu (pv 3) (pe_ix ix_list (pv 2) (pv 4) (fun _ _ => rfl)) (pe_ix ix_tup (pv 1) (pv 4) (fun _ _ => rfl)) rfl))
          pss_nil)))
      (pss_one (ps_ret (pv 3)))))), ?_⟩
  refine ⟨_, rfl, _, rfl, q, r, rows, t, rfl, hRL, hR, ok, hsz, fun H1 f qs hnf s1 hf pq => fun D hD => ?_⟩
  have hDn : H D = none := by
    cases e1 : H D with
    | none => rfl
    | some u => rw [s1 _ _ e1] at hD; cases hD
  have h1 := (Hs.start H1).new (o := .dT []) hD
  refine ⟨_, rfl, r, _, rfl, .inr (Same.sqt (s1.trans h1.sub) hR), _, rfl, by omega, by rw [List.length_map]; omega, for_rng (n := ((pre t).map V.str).length)
    (fun i σ H' => ∃ t4 kvs, σ = [some (.ref q), some (.ref r), some (.ref f), some (.ref D), t4] ∧ Hs H1 [(D, .dT kvs)] H' ∧ KTabI kvs t i)
    ⟨none, [], rfl, h1, KTabI.start t⟩ ?_ ?_⟩
  · rintro i σ H2 hi ⟨t4, kvs, rfl, hh, kt⟩
    rw [List.length_map] at hi
    obtain ⟨y, hy⟩ : ∃ y, (pre t)[i]? = some y := ⟨_, List.getElem?_eq_getElem hi⟩
    obtain ⟨p, hp⟩ : ∃ p, (apT t)[i]? = some p := ⟨_, List.getElem?_eq_getElem (by rw [apT_len]; exact hi)⟩
    obtain ⟨b, hb, pb⟩ := paired_at pq hp
    have ay : atI ((pre t).map V.str) ((i : Nat) : Int) = some (.str y) := atI_nat (by rw [List.getElem?_map, hy]; rfl)
    have hR2 := Same.sqt (s1.trans hh.sub) hR
    refine ⟨_, rfl, _, rfl, r, _, _, _, rfl, rfl, hR2, ay, rfl, _, rfl, if_ndec (fun c => ?_) (fun c => ?_)⟩
    · refine ⟨_, rfl, _, rfl, r, _, _, _, rfl, rfl, hR2, ay, _, rfl, _, rfl, _, rfl, f, _, _, _, rfl, rfl, SqL.of (hh.sub _ _ hf), atI_nat (by rw [List.getElem?_map, hb]; rfl), D, _, rfl, DPut.t hh.r0 (pb.same hh.sub).key (by rw [sizeLine_eq]; have := kt.len; omega), ?_⟩
      exact ⟨_, _, rfl, hh.w0, kt.put hp hy fun z => c (by rw [z])⟩
    · have c : y = "*" := V.str.inj c
      subst c
      exact ⟨_, _, rfl, hh, kt.skip hp hy⟩
  · rintro σ H2 ⟨t4, kvs, rfl, hh, kt⟩
    rw [List.length_map] at kt
    exact ⟨_, rfl, hq _ _ kvs hDn (s1.trans hh.sub) hh.r0 kt.done⟩
/-! _law_is_begun -/
def Bgn (t u : Tr) : Prop := ∀ p, kA t p ≠ "*" → kA u p = kA t p
def spBegun (K : PySem.W.Frag) : Sp := fun vs H Q _ => ∃ (d e : Addr) (k1 k2 : List (List Key × V)) (t u : Tr), vs = [.ref d, .ref e] ∧ d ≠ e ∧ H d = some (.dT k1) ∧ H e = some (.dT k2) ∧ KTab k1 t ∧ KTab k2 u ∧ ∀ b : Bool, (b = true ↔ Bgn t u) → Q (.bl b) H
abbrev N_begun : List Str := ["_law_kinds_here", "_law_kinds2", "_law_path"]
theorem sc_begun : FnScope N_begun ["_law_kinds_here", "_law_kinds2"] (defScope (top 55)) := ⟨rfl, rfl, rfl, by decide +kernel, rfl, by decide +kernel, by decide +kernel⟩
theorem k_begun (F : DF K mg "_law_is_begun" 55) : Cal P w K mg base 1 "_law_is_begun" ["_law_kinds_here", "_law_kinds2"] (spBegun K) := by
  refine cal_of F.1 F.2 sc_begun (fun _ _ _ _ _ _ us e => match us, e with | [_, _], _ => rfl) (fun vs H Q E s => by obtain ⟨_, _, _, _, _, _, rfl, _⟩ := s; rfl) ?_
  intro cdv A outer s H vs Q E hr h
  obtain ⟨d, e, k1, k2, t, u, rfl, hde, hd, he, kt, ku, hq⟩ := h
  have hu := hu_of hr
  have sc := sc_begun
  refine ⟨_, (pss_cons (ps_lock (ps_for (passes_of rfl) rfl (pi_keys (pv 0)) (pg_name (i := 2) sc.nd rfl (Or.inl rfl))
        (pss_one (ps_if (pt_cmpR op_ne (pe_dget2 hu (pv 1) (pv 2) pe_str ⟨rfl, rfl, rfl, rfl⟩) (pe_dget hu (pv 0) (pv 2) (fun _ _ => rfl)) (nomark _))
          (pss_one (ps_ret pe_bl))
          pss_nil))))
      (pss_one (ps_ret pe_bl))), ?_⟩
  refine ⟨d, _, hd, trivial, fun od => ?_⟩
  have he2 : upd H d (.frz od (.dT k1)) e = some (.dT k2) := by rw [upd_ne (Ne.symm hde)]; exact he
  have back : upd (upd H d (.frz od (.dT k1))) d (.dT k1) = H := by rw [upd_upd]; exact upd_self hd
  refine ⟨_, rfl, d, od, rfl, .inr ⟨k1, upd_same, for_it walk_keysT (fun i σ H' => ∃ t2, σ = [some (.ref d), some (.ref e), t2] ∧ H' = upd H d (.frz od (.dT k1)) ∧ ∀ j p v, j < i → k1[j]? = some (ky p, v) → kA u p = kA t p) ⟨none, rfl, rfl, fun _ _ _ h => absurd h (Nat.not_lt_zero _)⟩ (fun _ _ _ _ ⟨_, _, e, _⟩ => by rw [e]; exact upd_same) ?_ ?_⟩⟩
  · rintro i x σ H1 H2 hi ⟨t2, rfl, rfl, hj⟩ ⟨rfl, k, v, b, ek, rfl, hb⟩
    obtain ⟨p, rfl, hp⟩ := kt.at_ ek
    have g1 : DGet (upd H d (.frz od (.dT k1))) e (.ref b) (valV k2 (ky p)) := DGet.t he2 hb
    have g2 : DGet (upd H d (.frz od (.dT k1))) d (.ref b) (valV k1 (ky p)) := .inr ⟨k1, ky p, b, .inr ⟨od, upd_same⟩, rfl, hb, rfl⟩
    rw [kt.one hp] at g2
    refine ⟨_, rfl, e, rfl, .inr ⟨_, .inl he2⟩, _, rfl, _, g1, ?_⟩
    rw [ku.getD]
    refine ⟨_, rfl, _, rfl, d, _, rfl, g2, rfl, _, rfl, if_ndec (fun c => ?_) (fun c => ?_)⟩
    · refine ⟨upd_same, ?_⟩
      rw [back]
      exact hq false ⟨fun z => (nomatch z), fun z => absurd (congrArg V.str (z p hp)) c⟩
    · refine ⟨_, rfl, rfl, fun j q v' hj2 ej => ?_⟩
      by_cases z : j = i
      · subst z
        rw [ek] at ej
        have := ky_inj (Prod.mk.inj (Option.some.inj ej)).1
        rw [← this]
        exact V.str.inj c
      · exact hj j q v' (by omega) ej
  · rintro σ H1 ⟨t2, rfl, rfl, hj⟩
    refine ⟨upd_same, ?_⟩
    rw [back]
    refine hq true ⟨fun _ p hp => ?_, fun _ => rfl⟩
    obtain ⟨i, v, hi⟩ := kt.meet hp
    exact hj i p v (List.getElem?_eq_some_iff.mp hi).1 hi
end
end Sy
namespace Sy
open PySem PySem.Spec PyProof.Rows L2
theorem hu65_of {k : Nat} {A : Around} (h : Room k A) : A.units + 65 < cLine := by have := h.un; omega
section
variable {P : Program} {w : World} {K : PySem.W.Frag} {mg : Str → Option Value} {base : Heap}
/-! _law_hole_paths -/
def spHoleP (K : PySem.W.Frag) : Sp := fun vs H Q _ => ∃ (q r : Addr) (rows : List Sy.Row) (t : Tr), vs = [.ref q, .ref r] ∧ RL K H q rows ∧ SqT K H r ((pre t).map V.str) ∧ okT rows t ∧ (pre t).length ≤ 5000 ∧ ∀ H' p qs, H p = none → Same H H' → H' p = some (.lst (qs.map V.ref)) → Paired (PAt H') qs (hpT t) → Q (.ref p) H'
abbrev N_holeP : List Str := ["_law_rows_here", "_law_stump_here", "_law_found", "_law_k"]
theorem sc_holeP : FnScope N_holeP ["_law_rows_here", "_law_stump_here"] (defScope (top 56)) := ⟨rfl, rfl, rfl, by decide +kernel, rfl, by decide +kernel, by decide +kernel⟩
theorem paired_app {α β : Type} {R : α → β → Prop} : ∀ {as as' : List α} {bs bs' : List β}, Paired R as bs → Paired R as' bs' → Paired R (as ++ as') (bs ++ bs')
  | _, _, _, _, .nil, h => h
  | _, _, _, _, .cons g t, h => .cons g (paired_app t h)
theorem k_holeP (T : Txt K mg) (F : DF K mg "_law_hole_paths" 56) (c_law_paths : Cal P w K mg base 3 "_law_paths" ["_law_rows_here", "_law_stump_here"] (spPathsL K)) : Cal P w K mg base 4 "_law_hole_paths" ["_law_rows_here", "_law_stump_here"] (spHoleP K) := by
  refine cal_of F.1 F.2 sc_holeP (fun _ _ _ _ _ _ us e => match us, e with | [_, _], _ => rfl) (fun vs H Q E s => by obtain ⟨_, _, _, _, rfl, _⟩ := s; rfl) ?_
  intro cdv A outer s H vs Q E hr h
  obtain ⟨q, r, rows, t, rfl, hRL, hR, ok, hsz, hq⟩ := h
  have sc := sc_holeP
  refine ⟨_, (pss_cons (ps_set (i := 2) sc.nd rfl (Or.inr rfl) (pe_cal c_law_paths hr (pa_cons (pv 0) (pa_cons (pv 1) pa_nil))))
      (pss_one (ps_ret (pe_lc (own := [("_law_k", 3)]) (g := gName 3) (tt := tTest (tOp rEq (tOp (rIxT K) (tVar 1) (tVar 3)) (tC (.str ("*" : Str))))) (te := tOp (rIxL K) (tVar 2) (tVar 3)) rfl sc.nd (pi_range1 rfl T.range (pa_cons (pe_callB call_len_seq (by rfl) T.len (by decide +kernel) (pa_cons (pv 1) pa_nil)) pa_nil)) (blkOk_by (N := N_holeP) (sc := defScope (top 56)) (by decide +kernel)) (fun _ _ _ _ _ => (pg_name (i := 3) sc.nd rfl (Or.inl rfl))) (fun _ _ _ _ _ => (pts_one (pt_cmpR op_eq (pe_ix ix_tup (pv 1) (pv 3) (fun _ _ => rfl)) pe_str (nomark _)))) (fun _ _ _ _ _ => (pe_ix ix_list (pv 2) (pv 3) (fun _ _ => rfl))))))), ?_⟩
  refine ⟨_, rfl, _, rfl, q, r, rows, t, rfl, hRL, hR, ok, hsz, fun H1 f qs hnf s1 hf pq => ?_⟩
  have hql := paired_len pq
  rw [apT_len] at hql
  refine ⟨_, rfl, r, _, rfl, .inr (Same.sqt s1 hR), _, rfl, by omega, by rw [List.length_map]; omega, fun D hD => ?_⟩
  have hDn : H D = none := by
    cases e1 : H D with
    | none => rfl
    | some u => rw [s1 _ _ e1] at hD; cases hD
  refine lc_it (n := ((pre t).map V.str).length) walk_range (fun i H' => ∃ ks, Hs H1 [(D, .lst (ks.map V.ref))] H' ∧ Paired (PAt H1) ks (hpR ((apT t).take i) ((pre t).take i)) ∧ ks.length ≤ i) ⟨[], (Hs.start H1).new hD, .nil, Nat.le_refl _⟩ (fun _ _ _ _ => trivial) ?_ ?_
  · rintro i x H3 H4 hi ⟨ks, hh, pk, hkl⟩ ⟨rfl, rfl⟩
    rw [List.length_map] at hi
    obtain ⟨y, hy⟩ : ∃ y, (pre t)[i]? = some y := ⟨_, List.getElem?_eq_getElem hi⟩
    obtain ⟨p, hp⟩ : ∃ p, (apT t)[i]? = some p := ⟨_, List.getElem?_eq_getElem (by rw [apT_len]; exact hi)⟩
    obtain ⟨b, hb, pb⟩ := paired_at pq hp
    have ez : (0 : Int) + (i : Nat) = (i : Nat) := Int.zero_add _
    have ay : atI ((pre t).map V.str) ((i : Nat) : Int) = some (.str y) := atI_nat (by rw [List.getElem?_map, hy]; rfl)
    have tk := hpR_take hp hy (by rw [List.length_take, List.length_take, apT_len])
    refine ⟨rfl, _, rfl, _, rfl, r, _, _, _, rfl, rfl, Same.sqt (s1.trans hh.sub) hR, by rw [ez]; exact ay, rfl, _, rfl, if_dec (fun c => ?_) (fun c => ?_)⟩
    · have c : y = "*" := V.str.inj c
      refine ⟨_, rfl, _, rfl, f, _, _, _, rfl, rfl, SqL.of (hh.sub _ _ hf), by rw [ez]; exact atI_nat (by rw [List.getElem?_map, hb]; rfl), _, hh.r0, by rw [List.length_map, sizeLine_eq]; omega, ks ++ [b], ?_, ?_, ?_⟩
      · rw [List.map_append]
        exact hh.w0
      · rw [tk, if_pos c]
        exact paired_app pk (.cons pb .nil)
      · rw [List.length_append]
        exact Nat.succ_le_succ hkl
    · refine ⟨ks, hh, ?_, by omega⟩
      rw [tk, if_neg fun z => c (by rw [z]), List.append_nil]
      exact pk
  · rintro H3 ⟨ks, hh, pk, hkl⟩
    rw [List.length_map, List.take_length, List.take_of_length_le (by rw [apT_len]; exact Nat.le_refl _), hpT_eq] at pk
    exact hq _ _ ks hDn (s1.trans hh.sub) hh.r0 (pats_same pk hh.sub)
/-! _law_branches_at -/
def spBrs (K : PySem.W.Frag) : Sp := fun vs H Q _ => ∃ (q r g : Addr) (rows : List Sy.Row) (t : Tr) (as : List Addr) (ps : List (List Nat)) (us : List Tr), vs = [.ref q, .ref r, .ref g] ∧ RL K H q rows ∧ SqT K H r ((pre t).map V.str) ∧ okT rows t ∧ (pre t).length ≤ 5000 ∧ H g = some (.lst (as.map V.ref)) ∧ Paired (PAt H) as ps ∧ us.length ≤ 5000 ∧
  ps.map (fun p => sub p t) = us.map some ∧ ∀ H' v, Same H H' → Im K H' v (.tuple (us.map fun u => DS (pre u))) → Q v H'
abbrev N_brs : List Str := ["_law_rows_here", "_law_stump_here", "_law_asked", "_law_found", "_law_ends_here", "_law_pieces_here", "_law_path", "_law_place"]
theorem sc_brs : FnScope N_brs ["_law_rows_here", "_law_stump_here", "_law_asked"] (defScope (top 57)) := ⟨rfl, rfl, rfl, by decide +kernel, rfl, by decide +kernel, by decide +kernel⟩
theorem k_brs (T : Txt K mg) (F : DF K mg "_law_branches_at" 57) (c_law_paths : Cal P w K mg base 3 "_law_paths" ["_law_rows_here", "_law_stump_here"] (spPathsL K)) (c_law_ends : Cal P w K mg base 2 "_law_ends" ["_law_rows_here", "_law_plant_here"] (spEnds K)) : Cal P w K mg base 4 "_law_branches_at" ["_law_rows_here", "_law_stump_here", "_law_asked"] (spBrs K) := by
  refine cal_of F.1 F.2 sc_brs (fun _ _ _ _ _ _ us e => match us, e with | [_, _, _], _ => rfl) (fun vs H Q E s => by obtain ⟨_, _, _, _, _, _, _, _, rfl, _⟩ := s; rfl) ?_
  intro cdv A outer s H vs Q E hr h
  obtain ⟨q, r, g, rows, t, as, ps, us, rfl, hRL, hR, ok, hsz, hg, hP, hul, hsu, hq⟩ := h
  have hu := hu65_of hr
  have sc := sc_brs
  have hpl : ps.length = us.length := by have := congrArg List.length hsu; rwa [List.length_map, List.length_map] at this
  have hal : as.length = us.length := by rw [paired_len hP, hpl]
  refine ⟨_, (pss_cons (ps_set (i := 3) sc.nd rfl (Or.inl rfl) (pe_cal c_law_paths hr (pa_cons (pv 0) (pa_cons (pv 1) pa_nil))))
      (pss_cons (ps_set (i := 4) sc.nd rfl (Or.inl rfl) (pe_cal c_law_ends hr (pa_cons (pv 0) (pa_cons (pv 1) pa_nil))))
      (pss_cons (ps_set (i := 5) sc.nd rfl (Or.inl rfl) (pe_lst pa_nil))
      (pss_cons (ps_for (passes_of rfl) rfl (pi_list (pv 2)) (pg_name (i := 6) sc.nd rfl (Or.inl rfl))
        (pss_cons (ps_set (i := 7) sc.nd rfl (Or.inl rfl) (pe_bm PySem.F.plainAttrs_list PySem.F.slot_list_index PySem.F.type_list_index (mt_indexD hu) (pv 3) (pa_cons (pv 6) pa_nil)))
        (pss_one (ps_expr (pe_bm PySem.F.plainAttrs_list PySem.F.slot_list_append PySem.F.type_list_append mt_append (pv 5) (pa_cons (pe_slice sl_tupA (pv 1) (po_some (pv 7)) (po_some (pe_ix ix_list (pv 4) (pv 7) (fun _ _ => rfl)))) pa_nil))))))
      (pss_one (ps_ret (pe_callTy call_tuple_of (by rfl) T.tuple (by decide +kernel) (pa_cons (pv 5) pa_nil)))))))), ?_⟩
  refine ⟨_, rfl, _, rfl, q, r, rows, t, rfl, hRL, hR, ok, hsz, fun H1 f qs _ s1 hf pq => ?_⟩
  have hql := paired_len pq
  rw [apT_len] at hql
  refine ⟨_, rfl, _, rfl, q, r, rows, t, rfl, hRL.mono s1, Same.sqt s1 hR, ok, hsz, fun H2 e _ s2 he => ?_⟩
  have s12 := s1.trans s2
  refine ⟨by decide, fun D hD => ?_⟩
  refine ⟨_, rfl, g, rfl, ⟨_, SqL.of (up_same hD _ _ (s12 _ _ hg))⟩, for_list (K := K) (a := g) (xs := as.map V.ref)
    (fun i σ H' => ∃ t6 t7 B vs, σ = [some (.ref q), some (.ref r), some (.ref g), some (.ref f), some (.ref e), some (.ref D), t6, t7] ∧ Same H2 B ∧ Hs B [(D, .lst vs)] H' ∧ ImA K B vs ((us.take i).map fun u => DS (pre u)))
    ⟨none, none, H2, [], rfl, Same.refl _, (Hs.start H2).new hD, .nil⟩ (fun _ _ _ _ ⟨_, _, _, _, _, s, h, _⟩ => SqL.of (h.sub _ _ (s _ _ (s12 _ _ hg)))) ?_ ?_⟩
  · rintro i v σ H3 hv ⟨t6, t7, B, vs, rfl, sB, hh, im⟩
    obtain ⟨b, eb, rfl⟩ := map_at hv
    have hi : i < us.length := by rw [← hal]; exact (List.getElem?_eq_some_iff.mp eb).1
    obtain ⟨u, eu⟩ : ∃ u, us[i]? = some u := ⟨_, List.getElem?_eq_getElem hi⟩
    obtain ⟨p, ep⟩ : ∃ p, ps[i]? = some p := ⟨_, List.getElem?_eq_getElem (by omega)⟩
    obtain ⟨b', eb', pb⟩ := paired_at hP ep
    rw [eb] at eb'
    cases eb'
    have hsub : sub p t = some u := by
      have := congrArg (fun l => l[i]?) hsu
      simp only [List.getElem?_map, ep, eu, Option.map_some] at this
      exact Option.some.inj this
    obtain ⟨x, hx⟩ := sub_tat hsub
    obtain ⟨j, hj, hfst⟩ := first_at (apT_has hx)
    have hjl : j < (pre t).length := by rw [← apT_len]; exact (List.getElem?_eq_some_iff.mp hj).1
    have hbr := sub_brn ok hj hsub
    have sH := (s12.trans sB).trans hh.sub
    have vl : vs.length = i := by rw [im.len, List.length_map, List.length_take]; omega
    have hF := fo_pre ok
    have hwl := wt_len rows (pre t)
    have hend := hF.en_le (i := j) (by omega)
    have hgt := en_gt (w := wt rows (pre t)) (i := j) (by omega)
    refine ⟨_, rfl, .inl ⟨rfl, _, SqL.of (hh.sub _ _ (sB _ _ (s2 _ _ hf)))⟩, _, rfl, f, _, DN p, (apT t).map DN, j, DN p, rfl, rfl, .lst (SqL.of (hh.sub _ _ (sB _ _ (s2 _ _ hf)))) (pats_im (pats_same pq ((s2.trans sB).trans hh.sub))).dp, ((pb.same sH).im).dp, shaped_DNs _, shaped_DN _, by rw [List.getElem?_map, hj]; rfl, by rw [eqv_DN]; exact decide_eq_true rfl, fun m z hm hz => ?_, ?_⟩
    · rw [List.getElem?_map] at hz
      cases e1 : (apT t)[m]? with
      | none => rw [e1] at hz; cases hz
      | some p' =>
        rw [e1] at hz
        rw [← Option.some.inj hz, eqv_DN]
        exact decide_eq_false (hfst m p' hm e1)
    · refine ⟨_, rfl, .inl ⟨rfl, _, SqL.of hh.r0⟩, _, rfl, _, rfl, _, rfl, _, rfl, _, rfl, e, _, _, _, rfl, rfl, SqL.of (hh.sub _ _ (sB _ _ he)), atI_nat (vN_at (ens_at (by omega))), _, rfl, sl_any (cut_mid (by omega) (by rw [List.length_map]; omega)) (Same.sqt sH hR) fun p1 H4 s4 t4 => ?_⟩
      obtain ⟨g1, g2⟩ := hh.after s4
      have st := stay_cut hh (AllL.cons AllL.nil) s4
      have t5 := st.sqt t4
      generalize cut [(D, HO.lst vs)] H4 = B4 at *
      refine ⟨D, _, _, rfl, rfl, g2.r0, by rw [sizeLine_eq]; omega, _, _, B4, _, rfl, sB.trans g1, g2.w0, ?_⟩
      rw [take_at eu, List.map_append]
      refine (im.mono (Stay.of g1)).snoc (Im.strs ?_)
      rw [← List.map_drop, ← List.map_take] at t5
      rw [← hbr]
      exact t5
  · rintro σ H3 ⟨t6, t7, B, vs, rfl, sB, hh, im⟩
    rw [List.length_map, hal, List.take_length] at im
    refine ⟨_, rfl, D, _, rfl, .inl ⟨SqL.of hh.r0, fun p hp => ?_⟩⟩
    have sp := hh.sub.trans (up_same (o := .tup vs) hp)
    exact hq _ _ ((s12.trans sB).trans sp) (.tup (SqT.of upd_same) (im.mono (Stay.of sp)))
end
end Sy
namespace Sy
open PySem PySem.Spec PyProof.Rows L2
/-- rows at p of the lists -/
def RwsAt (K : PySem.W.Frag) (H : Hp) (as : List Addr) (ls : List (List Str)) : Prop := Paired (fun p (l : List Str) => SqT K H p (l.map V.str)) as ls
theorem RwsAt.mono {K : PySem.W.Frag} {H H' : Hp} (s : Stay H H') : ∀ {as : List Addr} {ls : List (List Str)}, RwsAt K H as ls → RwsAt K H' as ls
  | _, _, .nil => .nil
  | _, _, .cons h t => .cons (s.sqt h) (RwsAt.mono s t)
theorem fillW_pre (l : List Str) (ls : List (List Str)) : (fillW l ls).length ≤ l.length + ls.flatten.length := fillW_len l ls
section
variable {P : Program} {w : World} {K : PySem.W.Frag} {mg : Str → Option Value} {base : Heap}
/-! _law_stump -/
def spStumpL (K : PySem.W.Frag) : Sp := fun vs H Q _ => ∃ (r q : Addr) (rows : List Sy.Row) (t : Tr), vs = [.ref r, .ref q] ∧ RL K H q rows ∧ SqT K H r ((pre t).map V.str) ∧ okT rows t ∧ isK rows "*" = false ∧ (pre t).length ≤ 5000 ∧ Q (.bl true) H
abbrev N_stumpL : List Str := ["_law_told", "_law_rows_here", "_law_word_here"]
theorem sc_stumpL : FnScope N_stumpL ["_law_told", "_law_rows_here"] (defScope (top 52)) := ⟨rfl, rfl, rfl, by decide +kernel, rfl, by decide +kernel, by decide +kernel⟩
theorem k_stumpL (T : TxtC mg) (F : DF K mg "_law_stump" 52) (c_law_fault : Cal P w K mg base 2 "_law_fault" ["_law_rows_here", "_law_plant_here", "_law_with_holes"] (spFaultL K)) : Cal P w K mg base 3 "_law_stump" ["_law_told", "_law_rows_here"] (spStumpL K) := by
  refine cal_of F.1 F.2 sc_stumpL (fun _ _ _ _ _ _ us e => match us, e with | [_, _], _ => rfl) (fun vs H Q E s => by obtain ⟨_, _, _, _, rfl, _⟩ := s; rfl) ?_
  intro cdv A outer s H vs Q E hr h
  obtain ⟨r, q, rows, t, rfl, hRL, hR, ok, st, hsz, hq⟩ := h
  have sc := sc_stumpL
  refine ⟨_, (pss_cons (ps_if (pt_not (pt_val (pe_callB call_isi (by rfl) T.isinstance (by decide +kernel) (pa_cons (pv 0) (pa_cons (pe_bltn (v := .ty "tuple") (by rfl) T.tuple (by decide +kernel) rfl) pa_nil)))))
        (pss_one (ps_ret pe_bl))
        pss_nil)
      (pss_cons (ps_for (passes_of rfl) rfl (pi_tup (pv 0)) (pg_name (i := 2) sc.nd rfl (Or.inl rfl))
        (pss_one (ps_if (pt_not (pt_val (pe_callB call_isi (by rfl) T.isinstance (by decide +kernel) (pa_cons (pv 2) (pa_cons (pe_bltn (v := .ty "str") (by rfl) T.str (by decide +kernel) rfl) pa_nil)))))
          (pss_one (ps_ret pe_bl))
          pss_nil)))
      (pss_one (ps_ret (pe_cmpR op_lt (pe_cal c_law_fault hr (pa_cons (pv 1) (pa_cons (pv 0) (pa_cons pe_bl pa_nil)))) pe_int (nomark _)))))), ?_⟩
  refine ⟨_, rfl, _, _, _, _, true, rfl, .ty _, tyx_tup hR, kit_ty (by decide +kernel), _, rfl, iteF ?_⟩
  refine ⟨_, rfl, r, rfl, ⟨_, hR⟩, for_tup (K := K) (a := r) (xs := (pre t).map V.str) (fun i σ H' => ∃ t2, σ = [some (.ref r), some (.ref q), t2] ∧ H' = H) ⟨none, rfl, rfl⟩ (fun _ _ _ _ ⟨_, _, e⟩ => by rw [e]; exact hR) ?_ ?_⟩
  · rintro i v σ H1 hv ⟨t2, rfl, rfl⟩
    obtain ⟨y, ey, rfl⟩ := map_at hv
    exact ⟨_, rfl, _, _, _, _, true, rfl, .ty _, .base (.str y), kit_ty (by decide +kernel), _, rfl, iteF ⟨_, rfl, rfl⟩⟩
  · rintro σ H1 ⟨t2, rfl, rfl⟩
    refine ⟨_, rfl, _, rfl, q, r, true, rows, _, rfl, hRL, hR, st, by omega, _, _, rfl, rfl, ?_⟩
    have := fa_ok2 (rows := rows) (lv := lvs true) (l := pre t) (m := 1) (i := 0) (fo_pre ok) fun x hx => (kn_pre ok x hx).imp id fun z => by rw [z]; exact List.mem_singleton.mpr rfl
    rw [this]
    exact hq
/-! _law_with_pieces -/
def spWithP (K : PySem.W.Frag) : Sp := fun vs H Q _ => ∃ (r g : Addr) (l : List Str) (as : List Addr) (ls : List (List Str)), vs = [.ref r, .ref g] ∧ SqT K H r (l.map V.str) ∧ H g = some (.lst (as.map V.ref)) ∧ RwsAt K H as ls ∧ ls.length = l.count ("*" : Str) ∧ l.length + ls.flatten.length ≤ 100000 ∧
  ∀ H' p, Same H H' → SqT K H' p ((fillW l ls).map V.str) → NoD H' p → Q (.ref p) H'
abbrev N_withP : List Str := ["_law_stump_here", "_law_pieces_here", "_law_row", "_law_at", "_law_word_here"]
theorem sc_withP : FnScope N_withP ["_law_stump_here", "_law_pieces_here"] (defScope (top 60)) := ⟨rfl, rfl, rfl, by decide +kernel, rfl, by decide +kernel, by decide +kernel⟩
theorem k_withP (T : Txt K mg) (F : DF K mg "_law_with_pieces" 60) : Cal P w K mg base 1 "_law_with_pieces" ["_law_stump_here", "_law_pieces_here"] (spWithP K) := by
  refine cal_of F.1 F.2 sc_withP (fun _ _ _ _ _ _ us e => match us, e with | [_, _], _ => rfl) (fun vs H Q E s => by obtain ⟨_, _, _, _, _, rfl, _⟩ := s; rfl) ?_
  intro cdv A outer s H vs Q E hr h
  obtain ⟨r, g, l, as, ls, rfl, hR, hg, hP, hcl, hsz, hq⟩ := h
  have sc := sc_withP
  refine ⟨_, (pss_cons (ps_set (i := 2) sc.nd rfl (Or.inl rfl) (pe_lst pa_nil))
      (pss_cons (ps_set (i := 3) sc.nd rfl (Or.inl rfl) pe_int)
      (pss_cons (ps_for (passes_of rfl) rfl (pi_tup (pv 0)) (pg_name (i := 4) sc.nd rfl (Or.inl rfl))
        (pss_one (ps_if (pt_cmpR op_eq (pv 4) pe_str (nomark _))
          (pss_cons (ps_expr (pe_bm PySem.F.plainAttrs_list PySem.F.slot_list_extend PySem.F.type_list_extend mt_extend (pv 2) (pa_cons (pe_callTy call_list_of (by rfl) T.list (by decide +kernel) (pa_cons (pe_ix ix_list (pv 1) (pv 3) (fun _ _ => rfl)) pa_nil)) pa_nil)))
          (pss_one (ps_set (i := 3) sc.nd rfl (Or.inl rfl) (pe_op op_add (pv 3) pe_int))))
          (pss_one (ps_expr (pe_bm PySem.F.plainAttrs_list PySem.F.slot_list_append PySem.F.type_list_append mt_append (pv 2) (pa_cons (pv 4) pa_nil)))))))
      (pss_one (ps_ret (pe_callTy call_tupZ (by rfl) T.tuple (by decide +kernel) (pa_cons (pv 2) pa_nil))))))), ?_⟩
  have hfl := fillW_len l ls
  refine ⟨by decide, fun D hD => ?_⟩
  have h1 := (Hs.start H).new (o := .lst []) hD
  refine ⟨_, rfl, r, rfl, ⟨_, Same.sqt h1.sub hR⟩, for_tup (K := K) (a := r) (xs := l.map V.str) (fun i σ H' => ∃ (k : Nat) (z : Int) (t4 : Option V) (acc : List Str), σ = [some (.ref r), some (.ref g), some (.ref D), some (.int z), t4] ∧ z = (k : Nat) ∧ Hs H [(D, .lst (acc.map V.str))] H' ∧ acc ++ fillW (l.drop i) (ls.drop k) = fillW l ls ∧ (ls.drop k).length = (l.drop i).count ("*" : Str))
    ⟨0, 0, none, [], rfl, rfl, h1, rfl, hcl⟩ (fun _ _ _ _ ⟨_, _, _, _, _, _, h, _⟩ => Same.sqt h.sub hR) ?_ ?_⟩
  · rintro i v σ H1 hv ⟨k, _, t4, acc, rfl, rfl, hh, hacc, hk⟩
    obtain ⟨x, hx, rfl⟩ := map_at hv
    rw [drop_of hx] at hacc hk
    have hlen := congrArg List.length hacc
    rw [List.length_append] at hlen
    refine ⟨_, rfl, rfl, _, rfl, if_dec (fun c => ?_) (fun c => ?_)⟩
    · have c : x = "*" := V.str.inj c
      subst c
      rw [List.count_cons_self] at hk
      have hkl : k < ls.length := by rw [List.length_drop] at hk; omega
      obtain ⟨p, ep⟩ : ∃ p, ls[k]? = some p := ⟨_, List.getElem?_eq_getElem hkl⟩
      obtain ⟨b, eb, tb⟩ := paired_at hP ep
      rw [drop_of ep] at hacc hk hlen
      rw [fillW_hole] at hacc hlen
      rw [List.length_append] at hlen
      refine ⟨_, rfl, .inl ⟨rfl, _, SqL.of hh.r0⟩, _, rfl, _, rfl, g, _, _, _, rfl, rfl, SqL.of (hh.sub _ _ hg), atI_nat (by rw [List.getElem?_map, eb]; rfl), b, _, rfl, .inr (Same.sqt hh.sub tb), fun m hm2 => ?_⟩
      have g3 := hh.lay (o := .lst (p.map V.str)) hm2
      refine ⟨D, m, _, _, rfl, rfl, g3.r0, upd_same, by rw [List.length_map, List.length_map, sizeLine_eq]; omega, ?_⟩
      refine ⟨_, rfl, _, _, rfl, rfl, k + 1, _, _, acc ++ p, rfl, by omega, ?_, by rw [List.append_assoc]; exact hacc, ?_⟩
      · rw [List.map_append]
        exact g3.w0
      · rw [List.length_cons] at hk
        omega
    · have hx2 : x ≠ "*" := fun z => c (by rw [z])
      rw [fillW_cons hx2] at hacc hlen
      rw [List.count_cons, if_neg (by simpa using hx2), Nat.add_zero] at hk
      rw [List.length_cons] at hlen
      refine ⟨_, rfl, .inl ⟨rfl, _, SqL.of hh.r0⟩, _, rfl, D, _, _, rfl, rfl, hh.r0, by rw [List.length_map, sizeLine_eq]; omega, ?_⟩
      refine ⟨k, _, _, acc ++ [x], rfl, rfl, ?_, by rw [List.append_assoc]; exact hacc, hk⟩
      rw [List.map_append]
      exact hh.w0
  · rintro σ H1 ⟨k, _, t4, acc, rfl, rfl, hh, hacc, hk⟩
    rw [List.length_map, List.drop_length, fillW, List.append_nil] at hacc
    subst hacc
    exact ⟨_, rfl, D, _, rfl, SqL.of hh.r0, fun p H' n => hq _ _ (hh.sub.trans n.same) n.sqt n.nod⟩
end
end Sy
namespace Sy
open PySem PySem.Spec PyProof.Rows L2
theorem Hs.bg {B H : Hp} {g : Addr} {l : List Int} {L : List (Addr × HO)} (h : Hs B ((g, .lst (l.map V.int)) :: L) H) (hl : BagOk l) : Bag g H := ⟨l, hl, h.r0⟩
/-- what the law carries: the bag, the rows -/
structure Env0 (K : PySem.W.Frag) (H : Hp) (g q : Addr) (rows : List Sy.Row) : Prop where
  bag : Bag g H
  ne : q ≠ g
  rl : RL K H q rows
  ok : RowsOk rows
  wx : ∀ r ∈ rows, Wx r.1
theorem Env0.st {K : PySem.W.Frag} {H : Hp} {g q : Addr} {rows : List Sy.Row} (h : Env0 K H g q rows) : isK rows "*" = false := no_hole h.ok
theorem RL.dr {K : PySem.W.Frag} {H H' : Hp} {g q : Addr} {rows : List Sy.Row} (h : RL K H q rows) (n : q ≠ g) (b : Bag g H) (d : Dr g H H') : RL K H' q rows := by
  obtain ⟨ps, h1, h2⟩ := h
  have st := d.stay b
  obtain ⟨_, _, c⟩ := d
  refine ⟨ps, c.2 _ _ n h1, ?_⟩
  clear h1 n
  induction h2 with
  | nil => exact .nil
  | cons a b ih => exact .cons (st.sqt a) ih
theorem Env0.dr {K : PySem.W.Frag} {H H' : Hp} {g q : Addr} {rows : List Sy.Row} (h : Env0 K H g q rows) (d : Dr g H H') : Env0 K H' g q rows := ⟨d.bag, h.ne, h.rl.dr h.ne h.bag d, h.ok, h.wx⟩
theorem Bag.same {g : Addr} {H H' : Hp} (h : Bag g H) (s : Same H H') : Bag g H' := by
  obtain ⟨l, a, b⟩ := h
  exact ⟨l, a, s _ _ b⟩
theorem Env0.same {K : PySem.W.Frag} {H H' : Hp} {g q : Addr} {rows : List Sy.Row} (h : Env0 K H g q rows) (s : Same H H') : Env0 K H' g q rows := ⟨h.bag.same s, h.ne, h.rl.mono s, h.ok, h.wx⟩
theorem Dr.of_same {g : Addr} {H H' : Hp} (b : Bag g H) (s : Same H H') : Dr g H H' := by
  obtain ⟨l, hl, e⟩ := b
  exact ⟨l, hl, s _ _ e, fun a w _ e => s _ _ e⟩
theorem Dr.at_ {g p : Addr} {o : HO} {H H' : Hp} (d : Dr g H H') (n : p ≠ g) (h : H p = some o) : H' p = some o := by
  obtain ⟨_, _, c⟩ := d
  exact c.2 _ _ n h
/-! the rows that are left of a stump -/
/-- the forest yet to come, and what is laid so far -/
def CutI (rows : List Sy.Row) (l : List Str) (pos : Nat) (acc : List Str) : Prop := ∃ ts, l.drop pos = pres ts ∧ oks rows ts ∧ ∀ us : List Tr, us.length = ts.length → oks rows us → ∃ u, okT rows u ∧ pre u = acc ++ pres us
theorem CutI.start {rows : List Sy.Row} {t : Tr} (ok : okT rows t) : CutI rows (pre t) 0 [] := by
  refine ⟨[t], (List.append_nil _).symm, ⟨ok, trivial⟩, fun us hl ho => ?_⟩
  obtain ⟨u, rfl⟩ := List.length_eq_one_iff.mp hl
  exact ⟨u, ho.1, (List.append_nil _).symm⟩
theorem CutI.at_ {rows : List Sy.Row} {l acc : List Str} {i : Nat} {y : Str} (h : CutI rows l i acc) (ey : l[i]? = some y) : ∃ bs ts, l.drop i = pres (.nd y bs :: ts) ∧ okT rows (.nd y bs) ∧ oks rows ts ∧ ∀ us : List Tr, us.length = ts.length + 1 → oks rows us → ∃ u, okT rows u ∧ pre u = acc ++ pres us := by
  obtain ⟨ts, h1, h2, h3⟩ := h
  have e0 : (l.drop i)[0]? = some y := by rw [List.getElem?_drop, Nat.add_zero]; exact ey
  cases ts with
  | nil => rw [h1] at e0; cases e0
  | cons t ts =>
    obtain ⟨a, bs⟩ := t
    rw [h1] at e0
    have e1 : a = y := Option.some.inj e0
    subst e1
    exact ⟨bs, ts, h1, h2.1, h2.2, h3⟩
theorem CutI.keep {rows : List Sy.Row} {l acc : List Str} {i : Nat} {y : Str} (h : CutI rows l i acc) (ey : l[i]? = some y) : CutI rows l (i + 1) (acc ++ [y]) := by
  obtain ⟨bs, ts, h1, h2, h3, h4⟩ := h.at_ ey
  refine ⟨bs ++ ts, drop_one h1, oks_app.mpr ⟨h2.2.2, h3⟩, fun us hl ho => ?_⟩
  rw [List.length_append] at hl
  have e : us = us.take bs.length ++ us.drop bs.length := (List.take_append_drop _ _).symm
  have ho2 := ho
  rw [e] at ho2
  obtain ⟨o1, o2⟩ := oks_app.mp ho2
  obtain ⟨u, hu, he⟩ := h4 (.nd y (us.take bs.length) :: us.drop bs.length) (by rw [List.length_cons, List.length_drop]; omega) ⟨⟨h2.1, by rw [List.length_take, ← h2.2.1]; omega, o1⟩, o2⟩
  refine ⟨u, hu, ?_⟩
  rw [he, List.append_assoc]
  show acc ++ (y :: pres (us.take bs.length) ++ pres (us.drop bs.length)) = acc ++ (y :: pres us)
  rw [List.cons_append, ← pres_app, ← e]
theorem CutI.cut {rows : List Sy.Row} {l acc : List Str} {i : Nat} {y : Str} (st : isK rows "*" = false) (h : CutI rows l i acc) (ey : l[i]? = some y) : CutI rows l (en (wt rows l) i) (acc ++ [("*" : Str)]) := by
  obtain ⟨bs, ts, h1, h2, h3, h4⟩ := h.at_ ey
  refine ⟨ts, (drop_en h1 h2).2.1, h3, fun us hl ho => ?_⟩
  obtain ⟨u, hu, he⟩ := h4 (.nd "*" [] :: us) (by rw [List.length_cons, hl]) ⟨⟨.inr rfl, (ar_st st).symm, trivial⟩, ho⟩
  exact ⟨u, hu, by rw [he, List.append_assoc]; rfl⟩
theorem CutI.done {rows : List Sy.Row} {l acc : List Str} {i : Nat} (h : CutI rows l i acc) (hi : l.length ≤ i) : ∃ u, okT rows u ∧ pre u = acc := by
  obtain ⟨ts, h1, h2, h3⟩ := h
  have e : pres ts = [] := by rw [← h1]; exact List.drop_eq_nil_of_le hi
  have := len_pres ts
  rw [e] at this
  have e1 : ts = [] := List.length_eq_zero_iff.mp (Nat.le_zero.mp this)
  subst e1
  obtain ⟨u, hu, he⟩ := h3 [] rfl trivial
  exact ⟨u, hu, by rw [he]; exact List.append_nil _⟩
section
variable {P : Program} {w : World} {K : PySem.W.Frag} {mg : Str → Option Value} {base : Heap}
/-! _law_cut_down -/
def spCut (K : PySem.W.Frag) : Sp := fun vs H Q _ => ∃ (g q r : Addr) (rows : List Sy.Row) (t : Tr), vs = [.ref g, .ref q, .ref r] ∧ Env0 K H g q rows ∧ SqT K H r ((pre t).map V.str) ∧ okT rows t ∧ (pre t).length ≤ 2000 ∧
  ∀ H' p u, (pre u).length ≤ (pre t).length → Dr g H H' → TrAt K H' rows p u → Q (.ref p) H'
abbrev N_cut : List Str := ["_law_bag_here", "_law_rows_here", "_law_stump_here", "_law_ends_here", "_law_row", "_law_behind", "_law_place"]
theorem sc_cut : FnScope N_cut ["_law_bag_here", "_law_rows_here", "_law_stump_here"] (defScope (top 58)) := ⟨rfl, rfl, rfl, by decide +kernel, rfl, by decide +kernel, by decide +kernel⟩
theorem k_cut (T : Txt K mg) (F : DF K mg "_law_cut_down" 58) (c_law_draw : Cal P w K mg base 1 "_law_draw" ["_law_bag_here", "_law_size"] spDraw) (c_law_ends : Cal P w K mg base 2 "_law_ends" ["_law_rows_here", "_law_plant_here"] (spEnds K)) : Cal P w K mg base 3 "_law_cut_down" ["_law_bag_here", "_law_rows_here", "_law_stump_here"] (spCut K) := by
  refine cal_of F.1 F.2 sc_cut (fun _ _ _ _ _ _ us e => match us, e with | [_, _, _], _ => rfl) (fun vs H Q E s => by obtain ⟨_, _, _, _, _, rfl, _⟩ := s; rfl) ?_
  intro cdv A outer s H vs Q E hr h
  obtain ⟨g, q, r, rows, t, rfl, env, hR, ok, hsz, hq⟩ := h
  have st := env.st
  have hF := fo_pre ok
  have hC := CutI.start ok
  have sc := sc_cut
  refine ⟨_, (pss_cons (ps_set (i := 3) sc.nd rfl (Or.inl rfl) (pe_cal c_law_ends hr (pa_cons (pv 1) (pa_cons (pv 2) pa_nil))))
      (pss_cons (ps_set (i := 4) sc.nd rfl (Or.inl rfl) (pe_lst pa_nil))
      (pss_cons (ps_set (i := 5) sc.nd rfl (Or.inl rfl) pe_int)
      (pss_cons (ps_for (passes_of rfl) rfl (pi_range1 rfl T.range (pa_cons (pe_callB call_len_seq (by rfl) T.len (by decide +kernel) (pa_cons (pv 2) pa_nil)) pa_nil)) (pg_name (i := 6) sc.nd rfl (Or.inl rfl))
        (pss_one (ps_if (pt_cmpR op_ge (pv 6) (pv 5) (nomark _))
          (pss_one (ps_if (pt_cmpR op_eq (pe_cal c_law_draw hr (pa_cons (pv 0) (pa_cons pe_int pa_nil))) pe_int (nomark _))
            (pss_cons (ps_expr (pe_bm PySem.F.plainAttrs_list PySem.F.slot_list_append PySem.F.type_list_append mt_append (pv 4) (pa_cons pe_str pa_nil)))
            (pss_one (ps_set (i := 5) sc.nd rfl (Or.inl rfl) (pe_ix ix_list (pv 3) (pv 6) (fun _ _ => rfl)))))
            (pss_one (ps_expr (pe_bm PySem.F.plainAttrs_list PySem.F.slot_list_append PySem.F.type_list_append mt_append (pv 4) (pa_cons (pe_ix ix_tup (pv 2) (pv 6) (fun _ _ => rfl)) pa_nil))))))
          pss_nil)))
      (pss_one (ps_ret (pe_callTy call_tupZ (by rfl) T.tuple (by decide +kernel) (pa_cons (pv 4) pa_nil)))))))), ?_⟩
  refine ⟨_, rfl, _, rfl, q, r, rows, t, rfl, env.rl, hR, ok, by omega, fun H1 e hne s1 he => ?_⟩
  have hge : e ≠ g := fun z => by
    obtain ⟨_, _, b⟩ := env.bag
    rw [z, b] at hne
    cases hne
  obtain ⟨l0, hl0, hB0⟩ := (env.bag.same s1).take
  have hR0 : SqT K (L2.del H1 g) r ((pre t).map V.str) := by
    obtain ⟨_, _, b⟩ := env.bag.same s1
    exact (stay_del b).sqt (Same.sqt s1 hR)
  have he0 : L2.del H1 g e = some (.lst (vN (ens (wt rows (pre t))))) := by rw [del_ne hge]; exact he
  have sB0 : Same (L2.del H1 g) (L2.del H1 g) := Same.refl _
  generalize pre t = l at *
  have hwl := wt_len rows l
  generalize hBB : L2.del H1 g = B0 at hB0 hR0 he0 sB0
  refine ⟨by decide, fun D hD => ?_⟩
  have h1 := (hB0.new (o := .lst []) hD).swap
  refine ⟨_, rfl, r, _, rfl, .inr (Same.sqt h1.sub hR0), _, rfl, by omega, by rw [List.length_map]; omega, for_rng (n := (l.map V.str).length)
    (fun i σ H' => ∃ (b : Nat) (z5 : Int) (t6 : Option V) (B : Hp) (lb : List Int) (acc : List Str), σ = [some (.ref g), some (.ref q), some (.ref r), some (.ref e), some (.ref D), some (.int z5), t6] ∧ z5 = (b : Nat) ∧ BagOk lb ∧ Same B0 B ∧ Hs B [(g, .lst (lb.map V.int)), (D, .lst (acc.map V.str))] H' ∧ acc.length ≤ i ∧ b ≤ l.length ∧ CutI rows l (max i b) acc)
    ⟨0, 0, none, B0, l0, [], rfl, rfl, hl0, sB0, h1, Nat.le_refl _, Nat.zero_le _, hC⟩ ?_ ?_⟩
  · rintro i σ H3 hi ⟨b, _, t6, B, lb, acc, rfl, rfl, hlb, sB, hh, hal, hbl, hcu⟩
    rw [List.length_map] at hi
    obtain ⟨y, hy⟩ : ∃ y, l[i]? = some y := ⟨_, List.getElem?_eq_getElem hi⟩
    refine ⟨_, rfl, _, rfl, _, _, rfl, rfl, _, rfl, if_dec (fun c => ?_) (fun c => ?_)⟩
    · rw [show max i b = i by omega] at hcu
      refine ⟨_, rfl, g, 5, rfl, hh.bg hlb, by decide, by decide, fun dr H4 hdr d4 => ?_⟩
      obtain ⟨lb4, B4, hlb4, s4, h4, _⟩ := hh.dr0 d4
      have sB4 := sB.trans s4
      have hR4 := Same.sqt (sB4.trans h4.sub) hR0
      have gt := en_gt (w := wt rows l) (i := i) (by omega)
      have le := hF.en_le (i := i) (by omega)
      refine ⟨rfl, _, rfl, if_dec (fun c2 => ?_) (fun c2 => ?_)⟩
      · have h5 := h4.w1 (o' := .lst (acc.map V.str ++ [V.str "*"]))
        refine ⟨_, rfl, .inl ⟨rfl, _, SqL.of h4.r1⟩, D, _, _, rfl, rfl, h4.r1, by rw [List.length_map, sizeLine_eq]; omega, ?_⟩
        refine ⟨_, rfl, _, rfl, e, _, _, _, rfl, rfl, SqL.of (h5.sub _ _ (sB4 _ _ he0)), atI_nat (vN_at (ens_at (by omega))), en (wt rows l) i, _, _, B4, lb4, acc ++ [("*" : Str)], rfl, rfl, hlb4, sB4, ?_, ?_, by omega, ?_⟩
        · rw [List.map_append]
          exact h5
        · rw [List.length_append]
          exact Nat.succ_le_succ hal
        · rw [show max (i + 1) (en (wt rows l) i) = en (wt rows l) i by omega]
          exact hcu.cut st hy
      · refine ⟨_, rfl, .inl ⟨rfl, _, SqL.of h4.r1⟩, _, rfl, _, rfl, r, _, _, _, rfl, rfl, hR4, atI_nat (by rw [List.getElem?_map, hy]; rfl), D, _, _, rfl, rfl, h4.r1, by rw [List.length_map, sizeLine_eq]; omega, ?_⟩
        refine ⟨b, _, _, B4, lb4, acc ++ [y], rfl, rfl, hlb4, sB4, ?_, ?_, hbl, ?_⟩
        · rw [List.map_append]
          exact h4.w1
        · rw [List.length_append]
          exact Nat.succ_le_succ hal
        · rw [show max (i + 1) b = i + 1 by omega]
          exact hcu.keep hy
    · refine ⟨b, _, _, B, lb, acc, rfl, rfl, hlb, sB, hh, by omega, hbl, ?_⟩
      rw [show max (i + 1) b = max i b by omega]
      exact hcu
  · rintro σ H3 ⟨b, _, t6, B, lb, acc, rfl, rfl, hlb, sB, hh, hal, hbl, hcu⟩
    rw [List.length_map] at hal hcu
    obtain ⟨u, hu, rfl⟩ := hcu.done (by omega)
    refine ⟨_, rfl, D, _, rfl, SqL.of hh.r1, fun p H' n => hq H' p u hal ?_ ⟨n.sqt, n.nod, hu⟩⟩
    subst hBB
    exact (Dr.trans (Dr.of_same env.bag s1) (hh.isDr hlb List.mem_cons_self sB)).same n.same
end
end Sy
namespace Sy
open PySem PySem.Spec PyProof.Rows L2
theorem Hs.dr5 {B H H' : Hp} {L : List (Addr × HO)} {g : Addr} {a : List V} (h : Hs B ((g, .lst a) :: L) H) (al : AllL L) (d : Dr g H H') : ∃ (l : List Int) (B' : Hp), BagOk l ∧ Same B B' ∧ Hs B' ((g, .lst (l.map V.int)) :: L) H' ∧ Stay H' B' := by
  obtain ⟨l, hl, c⟩ := d
  have := h.chg c
  exact ⟨l, _, hl, this.1, this.2, stay_cutC h (AllL.cons al) c⟩
theorem int1 (r : Nat) : V.int (1 + (r : Int)) = V.int ((1 + r : Nat) : Int) := by
  rw [show (1 : Int) + (r : Int) = ((1 + r : Nat) : Int) by omega]
theorem trs_mono {K : PySem.W.Frag} {H H' : Hp} {rows : List Sy.Row} (s : Stay H H') : ∀ {as : List Addr} {us : List Tr}, Paired (TrAt K H rows) as us → Paired (TrAt K H' rows) as us
  | _, _, .nil => .nil
  | _, _, .cons h t => .cons (h.mono s) (trs_mono s t)
theorem trs_rws {K : PySem.W.Frag} {H : Hp} {rows : List Sy.Row} : ∀ {as : List Addr} {us : List Tr}, Paired (TrAt K H rows) as us → RwsAt K H as (us.map pre)
  | _, _, .nil => .nil
  | _, _, .cons h t => .cons h.sq (trs_rws t)
theorem trs_oks {K : PySem.W.Frag} {H : Hp} {rows : List Sy.Row} : ∀ {as : List Addr} {us : List Tr}, Paired (TrAt K H rows) as us → oks rows us
  | _, _, .nil => trivial
  | _, _, .cons h t => ⟨h.ok, trs_oks t⟩
theorem flat_leT {m : Nat} : ∀ {us : List Tr}, (∀ u ∈ us, (pre u).length ≤ m) → (us.map pre).flatten.length ≤ m * us.length
  | [], _ => Nat.zero_le _
  | u :: us, h => by
    have a := h u List.mem_cons_self
    have b := flat_leT (us := us) fun v hv => h v (List.mem_cons_of_mem _ hv)
    rw [List.map_cons, List.flatten_cons, List.length_append, List.length_cons, Nat.mul_succ]
    omega
section
variable {P : Program} {w : World} {K : PySem.W.Frag} {mg : Str → Option Value} {base : Heap}
/-! _law_pieces -/
def spPieces (K : PySem.W.Frag) : Sp := fun vs H Q _ => ∃ (g q r : Addr) (rows : List Sy.Row) (t : Tr), vs = [.ref g, .ref q, .ref r] ∧ Env0 K H g q rows ∧ TrAt K H rows r t ∧ (pre t).length ≤ 2000 ∧
  ∀ H' p as us, Dr g H H' → H p = none → p ≠ g → H' p = some (.lst (as.map V.ref)) → Paired (TrAt K H' rows) as us → us.length = (pre t).count ("*" : Str) → (∀ u ∈ us, (pre u).length ≤ 3) → Q (.ref p) H'
abbrev N_pieces : List Str := ["_law_bag_here", "_law_rows_here", "_law_stump_here", "_law_k"]
theorem sc_pieces : FnScope N_pieces ["_law_bag_here", "_law_rows_here", "_law_stump_here"] (defScope (top 59)) := ⟨rfl, rfl, rfl, by decide +kernel, rfl, by decide +kernel, by decide +kernel⟩
theorem k_pieces (T : Txt K mg) (F : DF K mg "_law_pieces" 59) (c_law_draw : Cal P w K mg base 1 "_law_draw" ["_law_bag_here", "_law_size"] spDraw) (c_law_plant : Cal P w K mg base 2 "_law_plant" ["_law_bag_here", "_law_rows_here", "_law_most", "_law_with_holes"] (spPlantL K)) : Cal P w K mg base 3 "_law_pieces" ["_law_bag_here", "_law_rows_here", "_law_stump_here"] (spPieces K) := by
  refine cal_of F.1 F.2 sc_pieces (fun _ _ _ _ _ _ us e => match us, e with | [_, _, _], _ => rfl) (fun vs H Q E s => by obtain ⟨_, _, _, _, _, rfl, _⟩ := s; rfl) ?_
  intro cdv A outer s H vs Q E hr h
  obtain ⟨g, q, r, rows, t, rfl, env, tr, hsz, hq⟩ := h
  have sc := sc_pieces
  refine ⟨_, (pss_one (ps_ret (pe_lc (own := [("_law_k", 3)]) (g := gName 3) rfl sc.nd (pi_range1 rfl T.range (pa_cons (pe_bmT PySem.F.slot_tuple_count PySem.F.type_tuple_count mt_tcount (pv 2) (pa_cons pe_str pa_nil)) pa_nil)) (blkOk_by (N := N_pieces) (sc := defScope (top 59)) (by decide +kernel)) (fun _ _ _ _ _ => (pg_name (i := 3) sc.nd rfl (Or.inl rfl))) (fun _ _ _ _ _ => pts_nil) (fun _ _ _ _ _ => (pe_cal c_law_plant hr (pa_cons (pv 0) (pa_cons (pv 1) (pa_cons (pe_op op_add pe_int (pe_cal c_law_draw hr (pa_cons (pv 0) (pa_cons pe_int pa_nil)))) (pa_cons pe_bl pa_nil))))))))), ?_⟩
  refine ⟨_, rfl, ⟨r, _, rfl, tr.sq, tr.nd⟩, r, _, _, rfl, rfl, tr.sq, rfl, all_strs (pre t), ?_⟩
  rw [countP_strs]
  have hcl : (pre t).count ("*" : Str) ≤ 2000 := Nat.le_trans List.count_le_length hsz
  refine ⟨_, rfl, by omega, by omega, fun D hD => ?_⟩
  obtain ⟨l0, hl0, hB0⟩ := env.bag.take
  have hrl : RL K (L2.del H g) q rows := by
    obtain ⟨_, _, b⟩ := env.bag
    exact env.rl.del env.ne b
  have sB0 : Same (L2.del H g) (L2.del H g) := Same.refl _
  have hDg : D ≠ g := fun z => by
    obtain ⟨_, _, b⟩ := env.bag
    rw [z, b] at hD
    cases hD
  generalize hBB : L2.del H g = B0 at hB0 hrl sB0
  have h1 := (hB0.new (o := .lst []) hD).swap
  refine lc_it (n := (((pre t).count ("*" : Str) : Nat) : Int).toNat) walk_range (fun i H' => ∃ (B : Hp) (lb : List Int) (as : List Addr) (us : List Tr), BagOk lb ∧ Same B0 B ∧ Hs B [(g, .lst (lb.map V.int)), (D, .lst (as.map V.ref))] H' ∧ Paired (TrAt K B rows) as us ∧ us.length = i ∧ ∀ u ∈ us, (pre u).length ≤ 3)
    ⟨B0, l0, [], [], hl0, sB0, h1, .nil, rfl, fun _ h => (nomatch h)⟩ (fun _ _ _ _ => trivial) ?_ ?_
  · rintro i x H3 H4 hi ⟨B, lb, as, us, hlb, sB, hh, hP, hul, h3⟩ ⟨rfl, rfl⟩
    have hal := paired_len hP
    refine ⟨rfl, ?_⟩
    simp only [tYes, if_true]
    refine ⟨_, rfl, _, rfl, _, rfl, g, 3, rfl, hh.bg hlb, by decide, by decide, fun dr H5 hdr d5 => ?_⟩
    obtain ⟨lb5, B5, hlb5, s5, h5, _⟩ := hh.dr5 (AllL.cons AllL.nil) d5
    refine ⟨_, _, rfl, rfl, g, q, 1 + dr, true, rows, by dsimp only; rw [int1], h5.bg hlb5, env.ne, (hrl.mono (sB.trans s5)).mono h5.sub, env.ok, env.wx, by omega, by omega, fun l p H6 hl1 hl2 hfa d6 rw6 => ?_⟩
    obtain ⟨lb6, B6, hlb6, s6, h6, st6⟩ := h5.dr5 (AllL.cons AllL.nil) d6
    obtain ⟨u, hu, rfl⟩ := tree_of hfa
    refine ⟨_, h6.r1, by rw [List.length_map, sizeLine_eq]; omega, B6, lb6, as ++ [p], us ++ [u], hlb6, (sB.trans s5).trans s6, ?_, ?_, ?_, fun v hv => ?_⟩
    · rw [List.map_append]
      exact h6.w1
    · exact paired_app (trs_mono (Stay.of (s5.trans s6)) hP) (.cons ⟨st6.sqt rw6.sq, rw6.nd.mono st6, hu⟩ .nil)
    · rw [List.length_append, hul]
      rfl
    · rcases List.mem_append.mp hv with hv | hv
      · exact h3 v hv
      · rw [List.mem_singleton.mp hv]
        omega
  · rintro H3 ⟨B, lb, as, us, hlb, sB, hh, hP, hul, h3⟩
    subst hBB
    exact hq H3 D as us (hh.isDr hlb List.mem_cons_self sB) hD hDg hh.r1 (trs_mono (Stay.of hh.sub) hP) (by omega) h3
/-! _law_related -/
def spRel (K : PySem.W.Frag) : Sp := fun vs H Q _ => ∃ (g q r : Addr) (rows : List Sy.Row) (t : Tr), vs = [.ref g, .ref q, .ref r] ∧ Env0 K H g q rows ∧ TrAt K H rows r t ∧ (pre t).length ≤ 9 ∧
  ∀ H' p u, (pre u).length ≤ 40 → Dr g H H' → TrAt K H' rows p u → Q (.ref p) H'
abbrev N_rel : List Str := ["_law_bag_here", "_law_rows_here", "_law_stump_here", "_law_way", "_law_less", "_law_grown"]
theorem sc_rel : FnScope N_rel ["_law_bag_here", "_law_rows_here", "_law_stump_here"] (defScope (top 61)) := ⟨rfl, rfl, rfl, by decide +kernel, rfl, by decide +kernel, by decide +kernel⟩
theorem k_rel (T : Txt K mg) (F : DF K mg "_law_related" 61) (c_law_draw : Cal P w K mg base 1 "_law_draw" ["_law_bag_here", "_law_size"] spDraw) (c_law_plant : Cal P w K mg base 2 "_law_plant" ["_law_bag_here", "_law_rows_here", "_law_most", "_law_with_holes"] (spPlantL K))
    (c_law_cut_down : Cal P w K mg base 3 "_law_cut_down" ["_law_bag_here", "_law_rows_here", "_law_stump_here"] (spCut K)) (c_law_pieces : Cal P w K mg base 3 "_law_pieces" ["_law_bag_here", "_law_rows_here", "_law_stump_here"] (spPieces K)) (c_law_with_pieces : Cal P w K mg base 1 "_law_with_pieces" ["_law_stump_here", "_law_pieces_here"] (spWithP K)) : Cal P w K mg base 4 "_law_related" ["_law_bag_here", "_law_rows_here", "_law_stump_here"] (spRel K) := by
  refine cal_of F.1 F.2 sc_rel (fun _ _ _ _ _ _ us e => match us, e with | [_, _, _], _ => rfl) (fun vs H Q E s => by obtain ⟨_, _, _, _, _, rfl, _⟩ := s; rfl) ?_
  intro cdv A outer s H vs Q E hr h
  obtain ⟨g, q, r, rows, t, rfl, env, tr, hsz, hq⟩ := h
  have sc := sc_rel
  refine ⟨_, (pss_cons (ps_set (i := 3) sc.nd rfl (Or.inl rfl) (pe_cal c_law_draw hr (pa_cons (pv 0) (pa_cons pe_int pa_nil))))
      (pss_cons (ps_if (pt_cmpR op_eq (pv 3) pe_int (nomark _))
        (pss_one (ps_ret (pe_cal c_law_plant hr (pa_cons (pv 0) (pa_cons (pv 1) (pa_cons (pe_op op_add pe_int (pe_cal c_law_draw hr (pa_cons (pv 0) (pa_cons pe_int pa_nil)))) (pa_cons pe_bl pa_nil)))))))
        pss_nil)
      (pss_cons (ps_set (i := 4) sc.nd rfl (Or.inl rfl) (pe_cal c_law_cut_down hr (pa_cons (pv 0) (pa_cons (pv 1) (pa_cons (pv 2) pa_nil)))))
      (pss_cons (ps_set (i := 5) sc.nd rfl (Or.inl rfl) (pe_cal c_law_with_pieces hr (pa_cons (pv 4) (pa_cons (pe_cal c_law_pieces hr (pa_cons (pv 0) (pa_cons (pv 1) (pa_cons (pv 4) pa_nil)))) pa_nil))))
      (pss_one (ps_ret (pe_ix ix_list (pe_lst (pa_cons (pv 2) (pa_cons (pv 2) (pa_cons (pv 4) (pa_cons (pv 5) pa_nil))))) (pv 3) (fun _ _ => rfl)))))))), ?_⟩
  refine ⟨_, rfl, g, 4, rfl, env.bag, by decide, by decide, fun way H1 hway d1 => ?_⟩
  have env1 := env.dr d1
  have tr1 := tr.mono (d1.stay env.bag)
  refine ⟨_, rfl, rfl, _, rfl, if_dec (fun c => ?_) (fun c => ?_)⟩
  · refine ⟨_, rfl, _, rfl, _, rfl, g, 9, rfl, env1.bag, by decide, by decide, fun dr H5 hdr d5 => ?_⟩
    have env5 := env1.dr d5
    refine ⟨_, _, rfl, rfl, g, q, 1 + dr, true, rows, by dsimp only; rw [int1], env5.bag, env.ne, env5.rl, env.ok, env.wx, by omega, by omega, fun l p H6 hl1 hl2 hfa d6 rw6 => ?_⟩
    obtain ⟨u, hu, rfl⟩ := tree_of hfa
    exact hq H6 p u (by omega) ((d1.trans d5).trans d6) ⟨rw6.sq, rw6.nd, hu⟩
  · refine ⟨_, rfl, _, rfl, _, rfl, g, q, r, rows, t, rfl, env1, tr1.sq, tr1.ok, by omega, fun H2 p2 u2 hl2 d2 tr2 => ?_⟩
    have env2 := env1.dr d2
    refine ⟨_, rfl, _, rfl, _, rfl, _, rfl, g, q, p2, rows, u2, rfl, env2, tr2, by omega, fun H3 p3 as us d3 hn3 hne3 e3 hP3 hl3 h33 => ?_⟩
    have env3 := env2.dr d3
    have tr3 := tr2.mono (d3.stay env2.bag)
    have fl := flat_leT h33
    have hcl : (pre u2).count ("*" : Str) ≤ (pre u2).length := List.count_le_length
    refine ⟨p2, p3, pre u2, as, us.map pre, rfl, tr3.sq, e3, trs_rws hP3, by rw [List.length_map]; exact hl3, by omega, fun H4 p4 s4 t4 n4 => ?_⟩
    have env4 := env3.same s4
    obtain ⟨u4, hu4, he4, _⟩ := beg_fill env.st tr2.ok (trs_oks hP3) hl3
    have dAll : Dr g H H4 := ((d1.trans d2).trans d3).same s4
    have stA := dAll.stay env.bag
    have hfl := fillW_len (pre u2) (us.map pre)
    have st24 := (d3.stay env2.bag).trans (Stay.of s4)
    refine ⟨_, rfl, _, rfl, _, rfl, _, rfl, (by show 4 ≤ sizeLine; decide), fun D hD => ?_⟩
    have sD := up_same (o := .lst [.ref r, .ref r, .ref p2, .ref p4]) hD
    have dD := dAll.same sD
    have stD := Stay.of sD
    match way, hway with
    | 0, _ => exact absurd rfl c
    | 1, _ => exact ⟨_, rfl, D, _, _, _, rfl, rfl, SqL.of upd_same, atI_nat (j := 1) rfl, hq _ r t (by omega) dD ((tr.mono stA).mono stD)⟩
    | 2, _ => exact ⟨_, rfl, D, _, _, _, rfl, rfl, SqL.of upd_same, atI_nat (j := 2) rfl, hq _ p2 u2 (by omega) dD ((tr2.mono st24).mono stD)⟩
    | 3, _ => exact ⟨_, rfl, D, _, _, _, rfl, rfl, SqL.of upd_same, atI_nat (j := 3) rfl, hq _ p4 u4 (by rw [he4]; omega) dD ((⟨by rw [he4]; exact t4, n4, hu4⟩ : TrAt K H4 rows p4 u4).mono stD)⟩
end
end Sy
namespace Sy
open PySem PySem.Spec PyProof.Rows L2 RZ
/-! two plants walked side by side -/
def Wk (u v : List Nat) (i j : Nat) : Prop := ∃ m, Fo m (u.drop i) ∧ Fo m (v.drop j)
section
variable {u v : List Nat} {i j : Nat}
theorem Wk.start (h : Fo 1 u) (g : Fo 1 v) : Wk u v 0 0 := ⟨1, h, g⟩
theorem Wk.has (h : Wk u v i j) (hi : i < u.length) : ∃ m, Fo (m + 1) (u.drop i) ∧ Fo (m + 1) (v.drop j) ∧ j < v.length := by
  obtain ⟨m, a, b⟩ := h
  cases m with
  | zero =>
    have := congrArg List.length a.zero
    rw [List.length_drop] at this
    simp at this
    omega
  | succ m =>
    refine ⟨m, a, b, ?_⟩
    have := b.pos
    rw [List.length_drop] at this
    omega
theorem Fo.go {m : Nat} (h : Fo (m + 1) (u.drop i)) (hi : i < u.length) : Fo (m + aw u i) (u.drop (i + 1)) := by
  rw [drop_at hi] at h
  exact h
theorem Fo.skip {m : Nat} (h : Fo (m + 1) (u.drop i)) : Fo m (u.drop (en u i)) ∧ en u i ≤ u.length := by
  rw [Nat.add_comm] at h
  obtain ⟨h1, h2, _⟩ := Fo.le h
  rw [List.drop_drop] at h2
  rw [List.length_drop] at h1
  refine ⟨h2, ?_⟩
  unfold en
  by_cases c : i ≤ u.length
  · omega
  · have : u.drop i = [] := List.drop_eq_nil_of_le (by omega)
    rw [this] at h
    exact absurd h (by rw [Nat.add_comm]; exact fun z => z)
theorem Wk.go (h : Wk u v i j) (hi : i < u.length) (e : aw u i = aw v j) : Wk u v (i + 1) (j + 1) := by
  obtain ⟨m, a, b, hj⟩ := h.has hi
  refine ⟨m + aw u i, a.go hi, ?_⟩
  rw [e]
  exact b.go hj
theorem Wk.skip (h : Wk u v i j) (hi : i < u.length) : Wk u v (en u i) (en v j) ∧ en u i ≤ u.length ∧ en v j ≤ v.length := by
  obtain ⟨m, a, b, hj⟩ := h.has hi
  exact ⟨⟨m, a.skip.1, b.skip.1⟩, a.skip.2, b.skip.2⟩
theorem Wk.leap (h : Wk u v i j) (hi : i < u.length) (e : aw u i = 0) : Wk u v (i + 1) (en v j) := by
  obtain ⟨m, a, b, hj⟩ := h.has hi
  have q := a.go hi
  rw [e] at q
  exact ⟨m, q, b.skip.1⟩
theorem Wk.leap2 (h : Wk u v i j) (hi : i < u.length) (e : aw v j = 0) : Wk u v (en u i) (j + 1) := by
  obtain ⟨m, a, b, hj⟩ := h.has hi
  have q := b.go hj
  rw [e] at q
  exact ⟨m, a.skip.1, q⟩
end
theorem en_leaf {u : List Nat} {i : Nat} (hi : i < u.length) (h : aw u i = 0) : en u i = i + 1 := by
  rw [← en_kd hi, h, kd_zero]
/-! comparing rows of words -/
theorem lay_strs {l : List Str} (h : ∀ x ∈ l, PyData.strOk x = true) : PyData.canLayAll0 (l.map PyData.str) = true ∧ PyData.depthAll (l.map PyData.str) ≤ 1 := by
  induction l with
  | nil => exact ⟨rfl, Nat.zero_le _⟩
  | cons x l ih =>
    have ih := ih fun y hy => h y (List.mem_cons_of_mem _ hy)
    simp only [List.map_cons, PyData.canLayAll0, PyData.depthAll, PyData.canLay0, PyData.depth, h x List.mem_cons_self, Bool.true_and]
    exact ⟨ih.1, by omega⟩
theorem lay_DS {l : List Str} (h : ∀ x ∈ l, PyData.strOk x = true) : SeqAt.shaped (DS l) = true := by
  have := lay_strs h
  unfold SeqAt.shaped DS
  simp only [PyData.canLay0, PyData.depth]
  rw [this.1, Bool.true_and]
  exact decide_eq_true (by omega)
theorem eqv_strs : ∀ (x y : List Str), PyData.eqvAll (x.map PyData.str) (y.map PyData.str) = decide (x = y)
  | [], [] => rfl
  | [], y :: ys => by simp [PyData.eqvAll]
  | x :: xs, [] => by simp [PyData.eqvAll]
  | x :: xs, y :: ys => by
    rw [List.map_cons, List.map_cons, PyData.eqvAll, PyData.eqv, eqv_strs xs ys]
    by_cases h : x = y
    · subst h
      simp
    · simp [h]
theorem eqv_DS (x y : List Str) : PyData.eqv (DS x) (DS y) = decide (x = y) := by
  unfold DS
  rw [PyData.eqv, eqv_strs]
def dPr (z : List Str × List Str) : PyData := .tuple [DS z.1, DS z.2]
section
variable {P : Program} {w : World} {K : PySem.W.Frag} {mg : Str → Option Value} {base : Heap}
/-! side_by_side -/
def PrOk (l : List Str) (n : Nat) (ds : List (List Str × List Str)) : Prop := ((∃ z ∈ ds, z.1 ≠ [("*" : Str)]) ∨ ds.length = (l.take n).count ("*" : Str)) ∧ ∀ z ∈ ds, ∀ x ∈ z.1, x ∈ l
def spSide (K : PySem.W.Frag) : Sp := fun vs H Q _ => ∃ (a r o : Addr) (rows : List Sy.Row) (t u : Tr), vs = [.ref a, .ref r, .ref o] ∧ BedAt K H a rows ∧ SqT K H r ((pre t).map V.str) ∧ SqT K H o ((pre u).map V.str) ∧ okT rows t ∧ okT rows u ∧ (pre t).length ≤ 2000 ∧ (pre u).length ≤ 2000 ∧ isK rows "*" = false ∧
  (sbs rows t u = none → ∀ H', Same H H' → Q .non H') ∧ (∀ ds, sbs rows t u = some ds → ∀ H' v, Same H H' → Im K H' v (.tuple (ds.map dPr)) → ds.length ≤ (pre t).length → PrOk (pre t) (pre t).length ds → Q v H')
abbrev N_side : List Str := ["bed", "one", "two", "pairs", "here", "there", "one_stop", "two_stop"]
theorem sc_side : FnScope N_side ["bed", "one", "two"] (defScope (top 20)) := ⟨rfl, rfl, rfl, by decide +kernel, rfl, by decide +kernel, by decide +kernel⟩
theorem k_side (T : Txt K mg) (F : DF K mg "side_by_side" 20) (c_span_stop : Cal P w K mg base 2 "span_stop" ["bed", "row", "place"] (spStop K)) : Cal P w K mg base 3 "side_by_side" ["bed", "one", "two"] (spSide K) := by
  refine cal_of F.1 F.2 sc_side (fun _ _ _ _ _ _ us e => match us, e with | [_, _, _], _ => rfl) (fun vs H Q E s => by obtain ⟨_, _, _, _, _, _, rfl, _⟩ := s; rfl) ?_
  intro cdv A outer s H vs Q E hr h
  obtain ⟨a, r, o, rows, t, u, rfl, hb, hR, hO, okt, oku, hl, hm, hst, hq0, hq⟩ := h
  have hF := fo_pre okt
  have hG := fo_pre oku
  have hS := SdI.start okt oku
  generalize sbs rows t u = R at hq0 hq hS
  generalize pre t = l at *
  generalize pre u = m at *
  have hu := hu_of hr
  have sc := sc_side
  have hwl := wt_len rows l
  have hwm := wt_len rows m
  refine ⟨_, (pss_cons (ps_set (i := 3) sc.nd rfl (Or.inl rfl) (pe_lst pa_nil))
      (pss_cons (ps_asg2 pe_int (pg_name (i := 4) sc.nd rfl (Or.inl rfl)) (pg_name (i := 5) sc.nd rfl (Or.inl rfl)))
      (pss_cons (ps_while (passes_of rfl) (pt_cmpR op_lt (pv 4) (pe_callB call_len_seq (by rfl) T.len (by decide +kernel) (pa_cons (pv 1) pa_nil)) (nomark _))
        (pss_one (ps_if (PW.pt (pw_and (pt_cmp (pc_din hu (pe_ix ix_tup (pv 1) (pv 4) (fun _ _ => rfl)) (pe_fld (pv 0) rfl))) (pw_and1 (pt_cmp (pc_din hu (pe_ix ix_tup (pv 2) (pv 5) (fun _ _ => rfl)) (pe_fld (pv 0) rfl))))))
          (pss_cons (ps_if (pt_cmpR op_ne (pe_ix ix_tup (pv 1) (pv 4) (fun _ _ => rfl)) (pe_ix ix_tup (pv 2) (pv 5) (fun _ _ => rfl)) (nomark _))
            (pss_one (ps_ret pe_non))
            pss_nil)
          (pss_cons (ps_set (i := 4) sc.nd rfl (Or.inl rfl) (pe_op op_add (pv 4) pe_int))
          (pss_one (ps_set (i := 5) sc.nd rfl (Or.inl rfl) (pe_op op_add (pv 5) pe_int)))))
          (pss_cons (ps_set (i := 6) sc.nd rfl (Or.inl rfl) (pe_cal c_span_stop hr (pa_cons (pv 0) (pa_cons (pv 1) (pa_cons (pv 4) pa_nil)))))
          (pss_cons (ps_set (i := 7) sc.nd rfl (Or.inl rfl) (pe_cal c_span_stop hr (pa_cons (pv 0) (pa_cons (pv 2) (pa_cons (pv 5) pa_nil)))))
          (pss_cons (ps_expr (pe_bm PySem.F.plainAttrs_list PySem.F.slot_list_append PySem.F.type_list_append mt_append (pv 3) (pa_cons (pe_tup (pa_cons (pe_slice sl_tupA (pv 1) (po_some (pv 4)) (po_some (pv 6))) (pa_cons (pe_slice sl_tupA (pv 2) (po_some (pv 5)) (po_some (pv 7))) pa_nil))) pa_nil)))
          (pss_cons (ps_set (i := 4) sc.nd rfl (Or.inl rfl) (pv 6))
          (pss_one (ps_set (i := 5) sc.nd rfl (Or.inl rfl) (pv 7))))))))))
      (pss_one (ps_ret (pe_callTy call_tuple_of (by rfl) T.tuple (by decide +kernel) (pa_cons (pv 3) pa_nil))))))), ?_⟩
  refine ⟨by decide, fun D hD => ?_⟩
  have h1 := (Hs.start H).new (o := .lst []) hD
  refine ⟨fun n σ H' => ∃ (i j : Nat) (z1 z2 : Int) (t6 t7 : Option V) (B : Hp) (acc : List V) (ds : List (List Str × List Str)), n = l.length - i ∧ σ = [some (.ref a), some (.ref r), some (.ref o), some (.ref D), some (.int z1), some (.int z2), t6, t7] ∧ z1 = (i : Nat) ∧ z2 = (j : Nat) ∧ Same H B ∧ Hs B [(D, .lst acc)] H' ∧ ImA K B acc (ds.map dPr) ∧ ds.length ≤ i ∧ i ≤ l.length ∧ PrOk l i ds ∧ Wk (wt rows l) (wt rows m) i j ∧ SdI rows l m R i j ds,
    ⟨_, 0, 0, 0, 0, none, none, H, [], [], rfl, rfl, rfl, rfl, Same.refl H, h1, .nil, Nat.le_refl _, Nat.zero_le _, ⟨.inr rfl, fun _ z => (nomatch z)⟩, Wk.start hF hG, hS⟩, ?_⟩
  rintro n σ H1 ⟨i, j, _, _, t6, t7, B, acc, ds, rfl, rfl, rfl, rfl, sB, hh, im, hdl, hil, hpr, hw, hsd⟩
  have sH := sB.trans hh.sub
  have hR1 := Same.sqt sH hR
  have hO1 := Same.sqt sH hO
  have hb1 := hb.mono (Stay.of sH)
  refine ⟨_, rfl, _, rfl, r, _, rfl, .inr hR1, _, _, rfl, rfl, _, rfl, if_dec (fun c => ?_) (fun c => ?_)⟩
  · rw [List.length_map] at c
    have hi : i < l.length := by omega
    have hiw : i < (wt rows l).length := by omega
    obtain ⟨_, _, _, hjw⟩ := hw.has hiw
    have hj : j < m.length := by omega
    obtain ⟨y, hy⟩ : ∃ y, l[i]? = some y := ⟨_, List.getElem?_eq_getElem hi⟩
    obtain ⟨x, hx⟩ : ∃ x, m[j]? = some x := ⟨_, List.getElem?_eq_getElem hj⟩
    have ey := wt_at (rows := rows) hy
    have ex := wt_at (rows := rows) hx
    have ay : atI (l.map V.str) ((i : Nat) : Int) = some (.str y) := atI_nat (by rw [List.getElem?_map, hy]; rfl)
    have ax : atI (m.map V.str) ((j : Nat) : Int) = some (.str x) := atI_nat (by rw [List.getElem?_map, hx]; rfl)
    obtain ⟨dx, dA, tR, tK, dR, pp, g1, hd, g3, g4, g5, g6⟩ := id hb1.ex
    refine ⟨fun σ' H' => ∃ m', m' < l.length - i ∧ ∃ (i j : Nat) (z1 z2 : Int) (t6 t7 : Option V) (B : Hp) (acc : List V) (ds : List (List Str × List Str)), m' = l.length - i ∧ σ' = [some (.ref a), some (.ref r), some (.ref o), some (.ref D), some (.int z1), some (.int z2), t6, t7] ∧ z1 = (i : Nat) ∧ z2 = (j : Nat) ∧ Same H B ∧ Hs B [(D, .lst acc)] H' ∧ ImA K B acc (ds.map dPr) ∧ ds.length ≤ i ∧ i ≤ l.length ∧ PrOk l i ds ∧ Wk (wt rows l) (wt rows m) i j ∧ SdI rows l m R i j ds, fun _ _ z => z, ?_⟩
    refine ⟨_, rfl, _, rfl, r, _, _, _, rfl, rfl, hR1, ay, _, rfl, a, _, dx, _, _, rfl, g1, T.bed.cl, T.bed.nA, rfl, dA, _, rfl, DGet.k (k := Sum.inr y) hd, _, rfl, if_bool (fun c1 => ⟨_, rfl, _, rfl, o, _, _, _, rfl, rfl, hO1, ax, _, rfl, a, _, dx, _, _, rfl, g1, T.bed.cl, T.bed.nA, rfl, dA, _, rfl, DGet.k (k := Sum.inr x) hd, _, rfl, if_bool (fun c2 => ?A) (fun c2 => ?B)⟩) (fun c1 => ?C)⟩
    case A =>
      have c1 : isK rows y = true := by simpa [valV_ar, isK] using c1
      have c2 : isK rows x = true := by simpa [valV_ar, isK] using c2
      have yn : y ≠ "*" := fun z => by rw [z, hst] at c1; cases c1
      refine ⟨_, rfl, _, rfl, r, _, _, _, rfl, rfl, hR1, ay, _, rfl, _, rfl, o, _, _, _, rfl, rfl, hO1, ax, rfl, _, rfl, if_ndec (fun c3 => hq0 (hsd.clash hy hx c1 c2 fun z => c3 (by rw [z])) _ sH) (fun c3 => ?_)⟩
      have exy : y = x := V.str.inj c3
      refine ⟨_, rfl, _, _, rfl, rfl, _, rfl, _, _, rfl, rfl, _, (by show l.length - (i + 1) < l.length - i; omega), i + 1, j + 1, _, _, _, _, B, acc, ds, rfl, rfl, rfl, rfl, sB, hh, im, by omega, hi, ?_, hw.go hiw (by rw [ey, ex, exy]), hsd.same hy (by rw [hx, exy]) c1⟩
      refine ⟨?_, hpr.2⟩
      rcases hpr.1 with z | z
      · exact .inl z
      · refine .inr ?_
        rw [take_at hy, List.count_append, z]
        simp [yn]
    all_goals
      have hnk : ¬ (isK rows y = true ∧ isK rows x = true) := by
        first
          | exact fun z => by rw [val_isK, z.2] at c2; cases c2
          | exact fun z => by rw [val_isK, z.1] at c1; cases c1
      obtain ⟨wsk, e1, e2⟩ := hw.skip hiw
      have gl := en_gt hiw
      have gm := en_gt hjw
      refine ⟨_, rfl, _, rfl, _, rfl, a, r, i, rows, l, rfl, hb1, hR1, hF, hi, ?_⟩
      refine ⟨_, rfl, _, rfl, _, rfl, a, o, j, rows, m, rfl, hb1, hO1, hG, hj, ?_⟩
      refine ⟨_, rfl, .inl ⟨rfl, _, SqL.of hh.r0⟩, _, rfl, _, rfl, _, rfl, _, rfl, _, rfl, sl_any (cut_mid (by omega) (by rw [List.length_map]; omega)) hR1 fun p1 H2 s2 t1 => ?_⟩
      refine ⟨_, rfl, _, rfl, _, rfl, _, rfl, _, rfl, sl_any (cut_mid (by omega) (by rw [List.length_map]; omega)) (Same.sqt s2 hO1) fun p2 H3 s3 t2 => ⟨(by show 2 ≤ sizeLine; decide), fun p hp => ?_⟩⟩
      obtain ⟨k1, k2⟩ := hh.after (s2.trans s3)
      have st := stay_cut hh (AllL.cons AllL.nil) (s2.trans s3)
      generalize cut [(D, HO.lst acc)] H3 = B3 at *
      have k3 := k2.tup (o := .tup [.ref p1, .ref p2]) hp
      have s4 : Same B3 (upd B3 p (.tup [.ref p1, .ref p2])) := up_same (k2.sub.free hp)
      have t1 := Same.sqt s4 (st.sqt (Same.sqt s3 t1))
      have t2 := Same.sqt s4 (st.sqt t2)
      have hal : acc.length = ds.length := by rw [im.len, List.length_map]
      have tl : SqT K (upd B3 p (.tup [.ref p1, .ref p2])) p1 ((brn (wt rows l) l i).map V.str) := by
        rw [brn, List.map_take, List.map_drop]
        exact t1
      have tm : SqT K (upd B3 p (.tup [.ref p1, .ref p2])) p2 ((brn (wt rows m) m j).map V.str) := by
        rw [brn, List.map_take, List.map_drop]
        exact t2
      refine ⟨D, _, _, rfl, rfl, k3.r0, by rw [sizeLine_eq]; omega, _, rfl, _, rfl, _, (by show l.length - en (wt rows l) i < l.length - i; omega), en (wt rows l) i, en (wt rows m) j, _, _, _, _, _, _, ds ++ [(brn (wt rows l) l i, brn (wt rows m) m j)], rfl, rfl, rfl, rfl, (sB.trans k1).trans s4, k3.w0, ?_, ?_, by omega, ?_, wsk, hsd.pair hy hx hnk⟩
      · rw [List.map_append]
        exact (im.mono (Stay.of (k1.trans s4))).snoc (.tup (SqT.of upd_same) (.cons (Im.strs tl) (.cons (Im.strs tm) .nil)))
      · rw [List.length_append]
        show ds.length + 1 ≤ _
        omega
      · refine ⟨?_, fun z hz x hx => ?_⟩
        rotate_left
        · rcases List.mem_append.mp hz with hz | hz
          · exact hpr.2 z hz x hx
          · rw [List.mem_singleton.mp hz] at hx
            exact List.mem_of_mem_drop (List.mem_of_mem_take hx)
        by_cases cy : y = "*"
        · have e0 : aw (wt rows l) i = 0 := by
            rw [ey, cy]
            unfold ar
            unfold isK at hst
            cases e : rows.lookup ("*" : Str) with
            | none => rfl
            | some n => rw [e] at hst; cases hst
          have en1 := en_leaf hiw e0
          rcases hpr.1 with ⟨z, hz, zn⟩ | z
          · exact .inl ⟨z, List.mem_append_left _ hz, zn⟩
          · refine .inr ?_
            rw [en1, take_at hy, List.count_append, List.length_append, z, cy]
            rfl
        · refine .inl ⟨_, List.mem_append_right _ (List.mem_singleton.mpr rfl), fun z => cy ?_⟩
          have z : (l.drop i).take (en (wt rows l) i - i) = [("*" : Str)] := z
          rw [drop_of hy, show en (wt rows l) i - i = (en (wt rows l) i - i - 1) + 1 by omega, List.take_succ_cons] at z
          exact (List.cons.inj z).1
  · rw [List.length_map] at c
    have : i = l.length := by omega
    subst this
    refine ⟨_, rfl, D, _, rfl, .inl ⟨SqL.of hh.r0, fun p hp => ?_⟩⟩
    have sp := hh.sub.trans (up_same (o := .tup acc) hp)
    exact hq ds (hsd.done (Nat.le_refl _)) _ _ (sB.trans sp) (.tup (SqT.of upd_same) (im.mono (Stay.of sp))) hdl hpr
end
end Sy
namespace Sy
open PySem PySem.Spec PyProof.Rows L2 RZ
section
variable {P : Program} {w : World} {K : PySem.W.Frag} {mg : Str → Option Value} {base : Heap}
/-- what two stumps ask: the first invalid one counts -/
def twoE (ck : List Str → Option Er) (l m : List Str) : Option Er := match ck l with
  | some e => some e
  | none => ck m
theorem twoE_1 {ck : List Str → Option Er} {l m : List Str} {e : Er} (h : ck l = some e) : twoE ck l m = some e := by unfold twoE; rw [h]
theorem twoE_2 {ck : List Str → Option Er} {l m : List Str} (h : ck l = none) : twoE ck l m = ck m := by unfold twoE; rw [h]
/-! parts -/
def spParts (K : PySem.W.Frag) : Sp := fun vs H Q E => ∃ (a r o : Addr) (rows : List Sy.Row) (t u : Tr), vs = [.ref a, .ref r, .ref o] ∧ BedAt K H a rows ∧ SqT K H r ((pre t).map V.str) ∧ SqT K H o ((pre u).map V.str) ∧ (∀ x ∈ pre t, PyData.strOk x = true) ∧ isK rows "*" = false ∧ okT rows t ∧ okT rows u ∧ (pre t).length ≤ 2000 ∧ (pre u).length ≤ 2000 ∧
  (beg t u = none → ∀ H', Same H H' → Q .non H') ∧ (∀ ps, beg t u = some ps → ∀ H' v, Same H H' → Im K H' v (.tuple ((ps.map pre).map DS)) → Q v H')
abbrev N_parts : List Str := ["bed", "stump", "other", "pairs", "piece", "_", "part"]
theorem sc_parts : FnScope N_parts ["bed", "stump", "other"] (defScope (top 31)) := ⟨rfl, rfl, rfl, by decide +kernel, rfl, by decide +kernel, by decide +kernel⟩
theorem k_parts (T : Txt K mg) (S : TxtS mg) (F : DF K mg "parts" 31) (c_check_stump : Cal P w K mg base 4 "check_stump" ["bed", "stump"] (spCheckE K ckS)) (c_side_by_side : Cal P w K mg base 3 "side_by_side" ["bed", "one", "two"] (spSide K)) : Cal P w K mg base 5 "parts" ["bed", "stump", "other"] (spParts K) := by
  refine cal_of F.1 F.2 sc_parts (fun _ _ _ _ _ _ us e => match us, e with | [_, _, _], _ => rfl) (fun vs H Q E s => by obtain ⟨_, _, _, _, _, _, rfl, _⟩ := s; rfl) ?_
  intro cdv A outer s H vs Q E hr h
  obtain ⟨a, r, o, rows, t, u, rfl, hb, hR, hO, hx, hst, okt, oku, hlt, hlu, hq0, hq1⟩ := h
  have sB := sbs_beg hst okt oku
  have hq0 : ptsR (sbs rows t u) = none → ∀ H', Same H H' → Q .non H' := fun z => hq0 (by
    rw [sB] at z
    cases e : beg t u with
    | none => rfl
    | some v => rw [e] at z; cases z)
  have hq1 : ∀ xs, ptsR (sbs rows t u) = some xs → ∀ H' v, Same H H' → Im K H' v (.tuple (xs.map DS)) → Q v H' := fun xs z => by
    rw [sB] at z
    cases e : beg t u with
    | none => rw [e] at z; cases z
    | some v =>
      rw [e] at z
      rw [← Option.some.inj z]
      exact hq1 v e
  have sc := sc_parts
  refine ⟨_, (pss_cons (ps_expr (pe_calX c_check_stump hr (takes_of rfl rfl rfl rfl) (pa_cons (pv 0) (pa_cons (pv 1) pa_nil))))
      (pss_cons (ps_expr (pe_calX c_check_stump hr (takes_of rfl rfl rfl rfl) (pa_cons (pv 0) (pa_cons (pv 2) pa_nil))))
      (pss_cons (ps_set (i := 3) sc.nd rfl (Or.inl rfl) (pe_cal c_side_by_side hr (pa_cons (pv 0) (pa_cons (pv 1) (pa_cons (pv 2) pa_nil)))))
      (pss_cons (ps_if (pt_cmpR op_isN (pv 3) pe_non (nomark _))
        (pss_one (ps_ret pe_non))
        pss_nil)
      (pss_cons (ps_for (passes_of rfl) rfl (pi_tup (pv 3)) (pg_tup rfl (pgs_cons (pg_name (i := 4) sc.nd rfl (Or.inl rfl)) (pgs_cons (pg_name (i := 5) sc.nd rfl (Or.inl rfl)) pgs_nil)))
        (pss_one (ps_if (pt_cmpR (op_neD hr.units) (pv 4) (pe_tup (pa_cons (pe_gstr rfl S.hole) pa_nil)) (nomark _))
          (pss_one (ps_ret pe_non))
          pss_nil)))
      (pss_one (ps_ret (pe_callTy call_tuple_of (by rfl) T.tuple (by decide +kernel) (pa_cons (pe_lc (own := [("_", 5), ("part", 6)]) (g := gTup K 2 (gCons (gName 5) (gCons (gName 6) (gNil)))) rfl sc.nd (pi_tup (pv 3)) (blkOk_by (N := N_parts) (sc := defScope (top 31)) (by decide +kernel)) (fun _ _ _ _ _ => (pg_tup rfl (pgs_cons (pg_name (i := 5) sc.nd rfl (Or.inl rfl)) (pgs_cons (pg_name (i := 6) sc.nd rfl (Or.inl rfl)) pgs_nil)))) (fun _ _ _ _ _ => pts_nil) (fun _ _ _ _ _ => (pv 6))) pa_nil))))))))), ?_⟩
  refine ⟨_, rfl, _, rfl, a, r, rows, pre t, rfl, hb, hR, fun ck1 H1 s1 => ?_, fun e c => by rw [ck_none hst okt hlt] at c; cases c⟩
  refine ⟨_, rfl, _, rfl, a, o, rows, pre u, rfl, hb.mono (Stay.of s1), Same.sqt s1 hO, fun ck2 H2 s2 => ?_, fun e c => by rw [ck_none hst oku hlu] at c; cases c⟩
  have s12 := s1.trans s2
  refine ⟨_, rfl, _, rfl, _, rfl, a, r, o, rows, t, u, rfl, hb.mono (Stay.of s12), Same.sqt s12 hR, Same.sqt s12 hO, okt, oku, hlt, hlu, hst, fun eR H3 s3 => ?_, fun ds eR H3 v s3 iv hdl hpr => ?_⟩
  · refine ⟨_, rfl, rfl, _, rfl, ?_⟩
    rw [decide_eq_true rfl]
    exact iteT (hq0 (by rw [eR]; rfl) _ (s12.trans s3))
  have s13 := s12.trans s3
  have hll := hlt
  obtain ⟨p, vs, rfl, tp, ip⟩ := iv.tupI
  have vl : vs.length = ds.length := by rw [ip.len, List.length_map]
  obtain ⟨hpr, hin⟩ := hpr
  refine ⟨_, rfl, rfl, _, rfl, if_dec (fun c => by cases c) (fun _ => ?_)⟩
  refine ⟨_, rfl, p, rfl, ⟨_, tp⟩, for_tup (K := K) (a := p) (xs := vs) (fun i σ H' => ∃ t4 t5, σ = [some (.ref a), some (.ref r), some (.ref o), some (.ref p), t4, t5, none] ∧ Same H3 H' ∧ ∀ z ∈ ds.take i, z.1 = [("*" : Str)]) ⟨none, none, rfl, Same.refl _, fun _ z => (nomatch z)⟩ (fun _ _ _ _ ⟨_, _, _, s, _⟩ => Same.sqt s tp) ?_ ?_⟩
  · rintro i v σ H4 hv ⟨t4, t5, rfl, s4, hall⟩
    have hi : i < ds.length := by rw [← vl]; exact (List.getElem?_eq_some_iff.mp hv).1
    obtain ⟨z, ez⟩ : ∃ z, ds[i]? = some z := ⟨_, List.getElem?_eq_getElem hi⟩
    obtain ⟨v2, ev, iz⟩ := ip.get (i := i) (d := dPr z) (by rw [List.getElem?_map, ez]; rfl)
    rw [hv] at ev
    cases ev
    obtain ⟨q, ws, rfl, tq, iq⟩ := iz.tupI
    obtain ⟨w1, w2, rfl, i1, i2⟩ : ∃ w1 w2, ws = [w1, w2] ∧ Im K H3 w1 (DS z.1) ∧ Im K H3 w2 (DS z.2) := by
      cases iq with
      | cons a b => cases b with
        | cons b c => cases c; exact ⟨_, _, rfl, a, b⟩
    have s14 := s13.trans s4
    refine ⟨q, _, rfl, Same.sqt s4 tq, rfl, _, _, rfl, _, _, rfl, rfl, ?_⟩
    refine ⟨_, rfl, (by show 1 ≤ sizeLine; decide), fun t ht => ?_⟩
    have s5 := s4.trans (up_same (o := .tup [.str "*"]) ht)
    have dh : Im K (upd H4 t (.tup [.str "*"])) (.ref t) (DS [("*" : Str)]) := Im.strs (l := [("*" : Str)]) (SqT.of upd_same)
    have shp : SeqAt.shaped (DS z.1) = true := lay_DS fun x hx2 => hx x (hin z (List.mem_of_getElem? ez) x hx2)
    refine ⟨DS z.1, DS [("*" : Str)], (i1.mono (Stay.of s5)).dp, dh.dp, shp, lay_DS (fun x hx2 => by rw [List.mem_singleton.mp hx2]; decide +kernel), _, rfl, ?_⟩
    rw [eqv_DS]
    refine if_ndec (fun c => hq0 (by rw [eR]; unfold ptsR; exact if_neg fun q => c (q z (List.mem_of_getElem? ez))) _ (s13.trans s5)) (fun c => ⟨_, _, rfl, s5, fun y hy => ?_⟩)
    rw [take_at ez] at hy
    rcases List.mem_append.mp hy with hy | hy
    · exact hall y hy
    · rw [List.mem_singleton.mp hy]
      exact c
  · rintro σ H4 ⟨t4, t5, rfl, s4, hall⟩
    rw [vl, List.take_length] at hall
    have hn : ptsR (sbs rows t u) = some (ds.map (·.2)) := by rw [eR]; unfold ptsR; exact if_pos hall
    have tp4 := Same.sqt s4 tp
    have ip4 := ip.mono (Stay.of s4)
    refine ⟨_, rfl, p, rfl, ⟨_, tp4⟩, fun D hD => lc_it (walk_tup (K := K) (a := p) (xs := vs)) (fun i H' => ∃ B acc, Same H4 B ∧ Hs B [(D, .lst acc)] H' ∧ ImA K B acc ((ds.take i).map fun z => DS z.2)) ⟨H4, [], Same.refl _, (Hs.start H4).new hD, .nil⟩ (fun _ _ _ ⟨B, _, s, h, _⟩ => Same.sqt (s.trans h.sub) tp4) ?_ ?_⟩
    · rintro i v H5 H6 hi ⟨B, acc, sB, hh, im⟩ ⟨rfl, hv⟩
      rw [vl] at hi
      obtain ⟨z, ez⟩ : ∃ z, ds[i]? = some z := ⟨_, List.getElem?_eq_getElem hi⟩
      obtain ⟨v2, ev, iz⟩ := ip4.get (i := i) (d := dPr z) (by rw [List.getElem?_map, ez]; rfl)
      rw [hv] at ev
      cases ev
      obtain ⟨q, ws, rfl, tq, iq⟩ := iz.tupI
      obtain ⟨w1, w2, rfl, i1, i2⟩ : ∃ w1 w2, ws = [w1, w2] ∧ Im K H4 w1 (DS z.1) ∧ Im K H4 w2 (DS z.2) := by
        cases iq with
        | cons a b => cases b with
          | cons b c => cases c; exact ⟨_, _, rfl, a, b⟩
      have hal : acc.length ≤ i := by rw [im.len, List.length_map, List.length_take]; omega
      refine ⟨q, _, rfl, Same.sqt (sB.trans hh.sub) tq, rfl, _, _, rfl, _, _, rfl, rfl, rfl, ?_⟩
      simp only [tYes, if_true]
      refine ⟨_, rfl, acc, hh.r0, by rw [sizeLine_eq]; omega, B, acc ++ [w2], sB, hh.w0, ?_⟩
      rw [take_at ez, List.map_append]
      exact im.snoc (i2.mono (Stay.of sB))
    · rintro H5 ⟨B, acc, sB, hh, im⟩
      rw [vl, List.take_length] at im
      refine ⟨D, _, rfl, .inl ⟨SqL.of hh.r0, fun u hu => ?_⟩⟩
      have sp := hh.sub.trans (up_same (o := .tup acc) hu)
      refine hq1 _ hn _ _ (((s13.trans s4).trans sB).trans sp) (.tup (SqT.of upd_same) ?_)
      rw [List.map_map]
      exact im.mono (Stay.of sp)
def spBegins (K : PySem.W.Frag) : Sp := fun vs H Q E => ∃ (a r o : Addr) (rows : List Sy.Row) (t u : Tr), vs = [.ref a, .ref r, .ref o] ∧ BedAt K H a rows ∧ SqT K H r ((pre t).map V.str) ∧ SqT K H o ((pre u).map V.str) ∧ (∀ x ∈ pre t, PyData.strOk x = true) ∧ isK rows "*" = false ∧ okT rows t ∧ okT rows u ∧ (pre t).length ≤ 2000 ∧ (pre u).length ≤ 2000 ∧
  ∀ H', Same H H' → Q (.bl (beg t u).isSome) H'
theorem sc_begins : FnScope ["bed", "stump", "other"] ["bed", "stump", "other"] (defScope (top 30)) := ⟨rfl, rfl, rfl, by decide +kernel, rfl, by decide +kernel, by decide +kernel⟩
theorem k_begins (F : DF K mg "begins" 30) (c_parts : Cal P w K mg base 5 "parts" ["bed", "stump", "other"] (spParts K)) : Cal P w K mg base 6 "begins" ["bed", "stump", "other"] (spBegins K) := by
  refine cal_of F.1 F.2 sc_begins (fun _ _ _ _ _ _ us e => match us, e with | [_, _, _], _ => rfl) (fun vs H Q E s => by obtain ⟨_, _, _, _, _, _, rfl, _⟩ := s; rfl) ?_
  intro cdv A outer s H vs Q E hr h
  obtain ⟨a, r, o, rows, t, u, rfl, hb, hR, hO, hx, hst, okt, oku, hlt, hlu, hq⟩ := h
  refine ⟨_, (pss_one (ps_ret (pe_cmpR op_notN (pe_calX c_parts hr (takes_of rfl rfl rfl rfl) (pa_cons (pv 0) (pa_cons (pv 1) (pa_cons (pv 2) pa_nil)))) pe_non (nomark _)))), ?_⟩
  refine ⟨_, rfl, _, rfl, _, rfl, a, r, o, rows, t, u, rfl, hb, hR, hO, hx, hst, okt, oku, hlt, hlu, fun e H' s1 => ⟨rfl, ?_⟩, fun ps e H' v s1 iv => ⟨rfl, ?_⟩⟩
  · have := hq _ s1
    rw [e] at this
    exact this
  · have := hq _ s1
    rw [e] at this
    obtain ⟨p, vs, rfl, _, _⟩ := iv.tupI
    exact this
end
end Sy
namespace Sy
open PySem PySem.Spec PyProof.Rows L2 RZ
section
variable {P : Program} {w : World} {K : PySem.W.Frag} {mg : Str → Option Value} {base : Heap}
/-! common_row -/
def spComRow (K : PySem.W.Frag) : Sp := fun vs H Q _ => ∃ (a r o : Addr) (rows : List Sy.Row) (t u : Tr), vs = [.ref a, .ref r, .ref o, .str "*"] ∧ BedAt K H a rows ∧ SqT K H r ((pre t).map V.str) ∧ SqT K H o ((pre u).map V.str) ∧ okT rows t ∧ okT rows u ∧ (pre t).length ≤ 2000 ∧ (pre u).length ≤ 2000 ∧
  (∀ H' p, Same H H' → SqT K H' p ((pre (com rows t u)).map V.str) → NoD H' p → Q (.ref p) H')
abbrev N_comRow : List Str := ["bed", "one", "two", "hole", "result", "here", "there"]
theorem sc_comRow : FnScope N_comRow ["bed", "one", "two", "hole"] (defScope (top 21)) := ⟨rfl, rfl, rfl, by decide +kernel, rfl, by decide +kernel, by decide +kernel⟩
theorem k_comRow (T : Txt K mg) (F : DF K mg "common_row" 21) (c_span_stop : Cal P w K mg base 2 "span_stop" ["bed", "row", "place"] (spStop K)) : Cal P w K mg base 3 "common_row" ["bed", "one", "two", "hole"] (spComRow K) := by
  refine cal_of F.1 F.2 sc_comRow (fun _ _ _ _ _ _ us e => match us, e with | [_, _, _, _], _ => rfl) (fun vs H Q E s => by obtain ⟨_, _, _, _, _, _, rfl, _⟩ := s; rfl) ?_
  intro cdv A outer s H vs Q E hr h
  obtain ⟨a, r, o, rows, t, u, rfl, hb, hR, hO, okt, oku, hl, hm, hq⟩ := h
  have hF := fo_pre okt
  have hG := fo_pre oku
  have hC := CmI.start okt oku
  obtain ⟨hole, eh⟩ : ∃ hole : Str, hole = "*" := ⟨_, rfl⟩
  rw [← eh]
  generalize pre (com rows t u) = R at hq hC
  generalize pre t = l at *
  generalize pre u = m at *
  have hu := hu_of hr
  have sc := sc_comRow
  have hwl := wt_len rows l
  have hwm := wt_len rows m
  refine ⟨_, (pss_cons (ps_set (i := 4) sc.nd rfl (Or.inl rfl) (pe_lst pa_nil))
      (pss_cons (ps_asg2 pe_int (pg_name (i := 5) sc.nd rfl (Or.inl rfl)) (pg_name (i := 6) sc.nd rfl (Or.inl rfl)))
      (pss_cons (ps_while (passes_of rfl) (pt_cmpR op_lt (pv 5) (pe_callB call_len_seq (by rfl) T.len (by decide +kernel) (pa_cons (pv 1) pa_nil)) (nomark _))
        (pss_one (ps_if (PW.pt (pw_and (pt_cmp (pc_din hu (pe_ix ix_tup (pv 1) (pv 5) (fun _ _ => rfl)) (pe_fld (pv 0) rfl))) (pw_and1 (pt_cmpR op_eq (pe_ix ix_tup (pv 1) (pv 5) (fun _ _ => rfl)) (pe_ix ix_tup (pv 2) (pv 6) (fun _ _ => rfl)) (nomark _)))))
          (pss_cons (ps_expr (pe_bm PySem.F.plainAttrs_list PySem.F.slot_list_append PySem.F.type_list_append mt_append (pv 4) (pa_cons (pe_ix ix_tup (pv 1) (pv 5) (fun _ _ => rfl)) pa_nil)))
          (pss_cons (ps_set (i := 5) sc.nd rfl (Or.inl rfl) (pe_op op_add (pv 5) pe_int))
          (pss_one (ps_set (i := 6) sc.nd rfl (Or.inl rfl) (pe_op op_add (pv 6) pe_int)))))
          (pss_cons (ps_expr (pe_bm PySem.F.plainAttrs_list PySem.F.slot_list_append PySem.F.type_list_append mt_append (pv 4) (pa_cons (pv 3) pa_nil)))
          (pss_cons (ps_set (i := 5) sc.nd rfl (Or.inl rfl) (pe_cal c_span_stop hr (pa_cons (pv 0) (pa_cons (pv 1) (pa_cons (pv 5) pa_nil)))))
          (pss_one (ps_set (i := 6) sc.nd rfl (Or.inl rfl) (pe_cal c_span_stop hr (pa_cons (pv 0) (pa_cons (pv 2) (pa_cons (pv 6) pa_nil)))))))))))
      (pss_one (ps_ret (pe_callTy call_tupZ (by rfl) T.tuple (by decide +kernel) (pa_cons (pv 4) pa_nil))))))), ?_⟩
  refine ⟨by decide, fun D hD => ?_⟩
  have h1 := (Hs.start H).new (o := .lst []) hD
  refine ⟨fun n σ H' => ∃ (i j : Nat) (z1 z2 : Int) (acc : List Str), n = l.length - i ∧ σ = [some (.ref a), some (.ref r), some (.ref o), some (.str hole), some (.ref D), some (.int z1), some (.int z2)] ∧ z1 = (i : Nat) ∧ z2 = (j : Nat) ∧ Hs H [(D, .lst (acc.map V.str))] H' ∧ acc.length ≤ i ∧ i ≤ l.length ∧ Wk (wt rows l) (wt rows m) i j ∧ CmI rows l m R i j acc,
    ⟨_, 0, 0, 0, 0, [], rfl, rfl, rfl, rfl, h1, Nat.le_refl _, Nat.zero_le _, Wk.start hF hG, hC⟩, ?_⟩
  rintro n σ H1 ⟨i, j, _, _, acc, rfl, rfl, rfl, rfl, hh, hal, hil, hw, hcm⟩
  have sH := hh.sub
  have hR1 := Same.sqt sH hR
  have hO1 := Same.sqt sH hO
  have hb1 := hb.mono (Stay.of sH)
  refine ⟨_, rfl, _, rfl, r, _, rfl, .inr hR1, _, _, rfl, rfl, _, rfl, if_dec (fun c => ?_) (fun c => ?_)⟩
  · rw [List.length_map] at c
    have hi : i < l.length := by omega
    have hiw : i < (wt rows l).length := by omega
    obtain ⟨_, _, _, hjw⟩ := hw.has hiw
    have hj : j < m.length := by omega
    obtain ⟨y, hy⟩ : ∃ y, l[i]? = some y := ⟨_, List.getElem?_eq_getElem hi⟩
    obtain ⟨x, hx⟩ : ∃ x, m[j]? = some x := ⟨_, List.getElem?_eq_getElem hj⟩
    have ey := wt_at (rows := rows) hy
    have ex := wt_at (rows := rows) hx
    have ay : atI (l.map V.str) ((i : Nat) : Int) = some (.str y) := atI_nat (by rw [List.getElem?_map, hy]; rfl)
    have ax : atI (m.map V.str) ((j : Nat) : Int) = some (.str x) := atI_nat (by rw [List.getElem?_map, hx]; rfl)
    obtain ⟨dx, dA, tR, tK, dR, pp, g1, hd, g3, g4, g5, g6⟩ := id hb1.ex
    have app : ∀ z : Str, acc.map V.str ++ [.str z] = (acc ++ [z]).map V.str := fun z => by rw [List.map_append]; rfl
    have apl : ∀ z : Str, (acc ++ [z]).length = acc.length + 1 := fun z => by simp
    refine ⟨fun σ' H' => ∃ m', m' < l.length - i ∧ ∃ (i j : Nat) (z1 z2 : Int) (acc : List Str), m' = l.length - i ∧ σ' = [some (.ref a), some (.ref r), some (.ref o), some (.str hole), some (.ref D), some (.int z1), some (.int z2)] ∧ z1 = (i : Nat) ∧ z2 = (j : Nat) ∧ Hs H [(D, .lst (acc.map V.str))] H' ∧ acc.length ≤ i ∧ i ≤ l.length ∧ Wk (wt rows l) (wt rows m) i j ∧ CmI rows l m R i j acc, fun _ _ z => z, ?_⟩
    refine ⟨_, rfl, _, rfl, r, _, _, _, rfl, rfl, hR1, ay, _, rfl, a, _, dx, _, _, rfl, g1, T.bed.cl, T.bed.nA, rfl, dA, _, rfl, DGet.k (k := Sum.inr y) hd, _, rfl, if_bool (fun c1 => ⟨_, rfl, _, rfl, r, _, _, _, rfl, rfl, hR1, ay, _, rfl, _, rfl, o, _, _, _, rfl, rfl, hO1, ax, rfl, _, rfl, if_dec (fun c2 => ?A) (fun c2 => ?B)⟩) (fun c1 => ?C)⟩
    case A =>
      have exy : y = x := V.str.inj c2
      have k1 := hh.w0 (o' := .lst (acc.map V.str ++ [.str y]))
      rw [app] at k1
      refine ⟨_, rfl, .inl ⟨rfl, _, SqL.of hh.r0⟩, _, rfl, _, rfl, r, _, _, _, rfl, rfl, hR1, ay, D, _, _, rfl, rfl, hh.r0, by rw [List.length_map, sizeLine_eq]; omega, ?_⟩
      rw [app]
      refine ⟨_, rfl, _, _, rfl, rfl, _, rfl, _, _, rfl, rfl, _, (by show l.length - (i + 1) < l.length - i; omega), i + 1, j + 1, _, _, _, rfl, rfl, rfl, rfl, k1, by rw [apl]; omega, hi, hw.go hiw (by rw [ey, ex, exy]), hcm.same hy (by rw [exy]; exact hx) (by rw [← val_isK]; exact c1)⟩
    all_goals
      have hnk : ¬ (isK rows y = true ∧ y = x) := by
        first
          | exact fun z => c2 (by rw [z.2])
          | exact fun z => by rw [val_isK, z.1] at c1; cases c1
      obtain ⟨wsk, e1, e2⟩ := hw.skip hiw
      have gl := en_gt hiw
      have k1 := hh.w0 (o' := .lst (acc.map V.str ++ [.str hole]))
      rw [app] at k1
      refine ⟨_, rfl, .inl ⟨rfl, _, SqL.of hh.r0⟩, _, rfl, D, _, _, rfl, rfl, hh.r0, by rw [List.length_map, sizeLine_eq]; omega, ?_⟩
      rw [app]
      have hR2 := Same.sqt k1.sub hR
      have hO2 := Same.sqt k1.sub hO
      have hb2 := hb.mono (Stay.of k1.sub)
      exact ⟨_, rfl, _, rfl, _, rfl, a, r, i, rows, l, rfl, hb2, hR2, hF, hi, _, rfl, _, rfl, _, rfl, a, o, j, rows, m, rfl, hb2, hO2, hG, hj, _, (by show l.length - en (wt rows l) i < l.length - i; omega), en (wt rows l) i, en (wt rows m) j, _, _, _, rfl, rfl, rfl, rfl, k1, by rw [apl]; omega, by omega, wsk, by rw [eh]; exact hcm.skip hy hx hnk⟩
  · exact ⟨_, rfl, D, _, rfl, SqL.of hh.r0, fun p H' n => hq _ _ (hh.sub.trans n.same) (by rw [← hcm.done (by rw [List.length_map] at c; omega)]; exact n.sqt) n.nod⟩
end
end Sy
namespace Sy
open PySem PySem.Spec PyProof.Rows L2 RZ
section
variable {P : Program} {w : World} {K : PySem.W.Frag} {mg : Str → Option Value} {base : Heap}
/-! common, of one or two -/
mutual
theorem com_len {rows : List Sy.Row} : ∀ t u : Tr, (pre (com rows t u)).length ≤ (pre t).length
  | .nd x bs, .nd y cs => by
    rw [com]
    by_cases c : isK rows x = true ∧ x = y
    · rw [if_pos c]
      show (x :: pres (comZ rows bs cs)).length ≤ (x :: pres bs).length
      rw [List.length_cons, List.length_cons]
      have := comZ_lenR (rows := rows) bs cs
      omega
    · rw [if_neg c]
      exact pre_pos _
theorem comZ_lenR {rows : List Sy.Row} : ∀ ts us : List Tr, (pres (comZ rows ts us)).length ≤ (pres ts).length
  | [], _ => Nat.zero_le _
  | _ :: _, [] => Nat.zero_le _
  | t :: ts, u :: us => by
    show (pre (com rows t u) ++ pres (comZ rows ts us)).length ≤ (pre t ++ pres ts).length
    rw [List.length_append, List.length_append]
    have := com_len (rows := rows) t u
    have := comZ_lenR (rows := rows) ts us
    omega
end
theorem comL_snoc {rows : List Sy.Row} {t u : Tr} {us : List Tr} : comL rows t (us ++ [u]) = com rows (comL rows t us) u := by
  unfold comL
  rw [List.foldl_append]
  rfl
def spCommon (K : PySem.W.Frag) : Sp := fun vs H Q E => ∃ (a r b : Addr) (rows : List Sy.Row) (t : Tr) (bs : List Addr) (us : List Tr), vs = [.ref a, .ref r, .ref b] ∧ BedAt K H a rows ∧ SqT K H r ((pre t).map V.str) ∧ NoD H r ∧ SqT K H b (bs.map V.ref) ∧ Paired (fun q (u : Tr) => SqT K H q ((pre u).map V.str)) bs us ∧ isK rows "*" = false ∧ okT rows t ∧ oks rows us ∧ (pre t).length ≤ 2000 ∧ (∀ u ∈ us, (pre u).length ≤ 2000) ∧
  ∀ H' p, Same H H' → SqT K H' p ((pre (comL rows t us)).map V.str) → NoD H' p → Q (.ref p) H'
abbrev N_common : List Str := ["bed", "first", "others", "other", "result"]
theorem sc_common : FnScope N_common ((["bed", "first"] : List Str) ++ (["others"] : List Str)) (defScope (top 32)) := ⟨rfl, rfl, rfl, by decide +kernel, rfl, by decide +kernel, by decide +kernel⟩
theorem r_common (T : Txt K mg) (S : TxtS mg) (F : DF K mg "common" 32) (c_check_stump : Cal P w K mg base 4 "check_stump" ["bed", "stump"] (spCheckE K ckS)) (c_common_row : Cal P w K mg base 3 "common_row" ["bed", "one", "two", "hole"] (spComRow K)) :
    CalR P w K mg base 5 "common" (spStar 2 (spCommon K)) := by
  obtain ⟨⟨fd, F⟩, at_⟩ := F
  refine ⟨fnR_of (ps := ["bed", "first"]) F sc_common (fun kV doc pm an cdv ct => StX.bind_star2 (B := fun l => bindArgs (PySem.W.fnOf "common" "common" (defArgs (top 32)) (defBody (top 32)) (defScope (top 32)) .none kV doc pm an cdv ct) ⟨l, []⟩) (fun _ _ => rfl) (fun _ _ _ _ => rfl)) ?_, at_, F.kp⟩
  intro cdv A outer s H vs Q E hr h
  obtain ⟨a, r, b, rows, t, bs, us, rfl, hb, hR, hND, hB, hP, hst, okt, oku, hlt, hlu, hq⟩ := h
  have sc := sc_common
  refine ⟨_, (pss_cons (ps_expr (pe_calX c_check_stump hr (takes_of rfl rfl rfl rfl) (pa_cons (pv 0) (pa_cons (pv 1) pa_nil))))
      (pss_cons (ps_for (passes_of rfl) rfl (pi_tup (pv 2)) (pg_name (i := 3) sc.nd rfl (Or.inl rfl))
        (pss_one (ps_expr (pe_calX c_check_stump hr (takes_of rfl rfl rfl rfl) (pa_cons (pv 0) (pa_cons (pv 3) pa_nil))))))
      (pss_cons (ps_set (i := 4) sc.nd rfl (Or.inl rfl) (pv 1))
      (pss_cons (ps_for (passes_of rfl) rfl (pi_tup (pv 2)) (pg_name (i := 3) sc.nd rfl (Or.inl rfl))
        (pss_one (ps_set (i := 4) sc.nd rfl (Or.inl rfl) (pe_cal c_common_row hr (pa_cons (pv 0) (pa_cons (pv 4) (pa_cons (pv 3) (pa_cons (pe_gstr rfl S.hole) pa_nil))))))))
      (pss_one (ps_ret (pv 4))))))), ?_⟩
  have hbl := paired_len hP
  refine ⟨_, rfl, _, rfl, a, r, rows, pre t, rfl, hb, hR, fun _ H1 s1 => ?_, fun e c => by rw [ck_none hst okt hlt] at c; cases c⟩
  have hB1 := Same.sqt s1 hB
  refine ⟨_, rfl, b, rfl, ⟨_, hB1⟩, for_tup (K := K) (a := b) (xs := bs.map V.ref) (fun i σ H' => ∃ t3, σ = [some (.ref a), some (.ref r), some (.ref b), t3, none] ∧ Same H1 H') ⟨none, rfl, Same.refl H1⟩ (fun _ _ _ _ ⟨_, _, s⟩ => Same.sqt s hB1) ?_ ?_⟩
  · rintro i v σ H2 hv ⟨t3, rfl, s2⟩
    obtain ⟨q, eq, rfl⟩ := map_at hv
    have hi : i < us.length := by rw [← hbl]; exact (List.getElem?_eq_some_iff.mp eq).1
    obtain ⟨z, el⟩ : ∃ z, us[i]? = some z := ⟨_, List.getElem?_eq_getElem hi⟩
    obtain ⟨q2, eq2, tq⟩ := paired_at hP el
    rw [eq] at eq2
    cases eq2
    have sH := s1.trans s2
    have hz := List.mem_of_getElem? el
    refine ⟨_, rfl, _, rfl, a, q, rows, pre z, rfl, hb.mono (Stay.of sH), Same.sqt sH tq, fun _ H3 s3 => ⟨_, rfl, s2.trans s3⟩, fun e c => by rw [ck_none hst (oks_mem.mp oku z hz) (hlu z hz)] at c; cases c⟩
  rintro σ H2 ⟨t3, rfl, s2⟩
  have sH := s1.trans s2
  have hB2 := Same.sqt sH hB
  refine ⟨_, rfl, _, rfl, b, rfl, ⟨_, hB2⟩, for_tup (K := K) (a := b) (xs := bs.map V.ref) (fun i σ H' => ∃ (t3 : Option V) (p : Addr), σ = [some (.ref a), some (.ref r), some (.ref b), t3, some (.ref p)] ∧ Same H2 H' ∧ SqT K H' p ((pre (comL rows t (us.take i))).map V.str) ∧ NoD H' p ∧ okT rows (comL rows t (us.take i)) ∧ (pre (comL rows t (us.take i))).length ≤ 2000) ⟨_, r, rfl, Same.refl H2, Same.sqt sH hR, hND.mono (Stay.of sH), okt, hlt⟩ (fun _ _ _ _ ⟨_, _, _, s, _⟩ => Same.sqt s hB2) ?_ ?_⟩
  · rintro i v σ H3 hv ⟨t3, p, rfl, s3, tc, _, ok3, hl3⟩
    obtain ⟨q, eq, rfl⟩ := map_at hv
    have hi : i < us.length := by rw [← hbl]; exact (List.getElem?_eq_some_iff.mp eq).1
    obtain ⟨z, el⟩ : ∃ z, us[i]? = some z := ⟨_, List.getElem?_eq_getElem hi⟩
    obtain ⟨q2, eq2, tq⟩ := paired_at hP el
    rw [eq] at eq2
    cases eq2
    have hz := List.mem_of_getElem? el
    have okz := oks_mem.mp oku z hz
    have sH3 := sH.trans s3
    refine ⟨_, rfl, _, rfl, _, rfl, a, p, q, rows, _, z, rfl, hb.mono (Stay.of sH3), tc, Same.sqt sH3 tq, ok3, okz, hl3, hlu z hz, fun H4 p4 s4 t4 n4 => ⟨_, p4, rfl, s3.trans s4, ?_⟩⟩
    rw [take_at el, comL_snoc]
    exact ⟨t4, n4, com_ok hst ok3 okz, Nat.le_trans (com_len _ _) hl3⟩
  · rintro σ H3 ⟨t3, p, rfl, s3, tc, nd, _, _⟩
    rw [List.length_map, hbl, List.take_length] at tc
    exact ⟨_, rfl, hq _ p (sH.trans s3) tc nd⟩
end
end Sy
namespace Sy
open PySem PySem.Spec PyProof.Rows L2 RZ
theorem ar_no {rows : List Sy.Row} {x : Str} (h : isK rows x = false) : ar rows x = 0 := by
  unfold ar
  unfold isK at h
  cases e : rows.lookup x with
  | none => rfl
  | some n => rw [e] at h; cases h
theorem Hs.low {B B' H : Hp} {L : List (Addr × HO)} (h : Hs B' L H) (s : Same B B') : Hs B L H := ⟨s.trans h.sub, h.own, h.nd, fun q hq => s.free (h.ap q hq)⟩
section
variable {P : Program} {w : World} {K : PySem.W.Frag} {mg : Str → Option Value} {base : Heap}
/-! united -/
def spUnited (K : PySem.W.Frag) : Sp := fun vs H Q E => ∃ (a r o : Addr) (rows : List Sy.Row) (t u : Tr), vs = [.ref a, .ref r, .ref o] ∧ BedAt K H a rows ∧ SqT K H r ((pre t).map V.str) ∧ SqT K H o ((pre u).map V.str) ∧ isK rows "*" = false ∧ okT rows t ∧ okT rows u ∧ (pre t).length ≤ 2000 ∧ (pre u).length ≤ 2000 ∧
  (uni t u = none → ∀ H', Same H H' → Q .non H') ∧ (∀ v, uni t u = some v → (pre v).length ≤ 2000 → ∀ H' p, Same H H' → SqT K H' p ((pre v).map V.str) → NoD H' p → Q (.ref p) H') ∧ (∀ v, uni t u = some v → 2000 < (pre v).length → RaE K .many H E)
abbrev N_united : List Str := ["bed", "first", "second", "result", "here", "there", "here_stop", "there_stop"]
theorem sc_united : FnScope N_united ["bed", "first", "second"] (defScope (top 33)) := ⟨rfl, rfl, rfl, by decide +kernel, rfl, by decide +kernel, by decide +kernel⟩
theorem k_united (T : Txt K mg) (S : TxtS mg) (F : DF K mg "united" 33) (c_check_stump : Cal P w K mg base 4 "check_stump" ["bed", "stump"] (spCheckE K ckS)) (c_check_count : Cal P w K mg base 3 "check_count" ["number"] (spCount K)) (c_span_stop : Cal P w K mg base 2 "span_stop" ["bed", "row", "place"] (spStop K)) : Cal P w K mg base 5 "united" ["bed", "first", "second"] (spUnited K) := by
  refine cal_of F.1 F.2 sc_united (fun _ _ _ _ _ _ us e => match us, e with | [_, _, _], _ => rfl) (fun vs H Q E s => by obtain ⟨_, _, _, _, _, _, rfl, _⟩ := s; rfl) ?_
  intro cdv A outer s H vs Q E hr h
  obtain ⟨a, r, o, rows, t, u, rfl, hb, hR, hO, hst, okt, oku, hlt, hlu, hq0, hq1, hq2⟩ := h
  have cka := ck_none hst okt hlt
  have ckb := ck_none hst oku hlu
  have hU := UnI.start okt oku
  obtain ⟨R, eR⟩ : ∃ R, R = (uni t u).map pre := ⟨_, rfl⟩
  rw [← eR] at hU
  obtain ⟨l, el⟩ : ∃ l, l = pre t := ⟨_, rfl⟩
  obtain ⟨m, em⟩ : ∃ m, m = pre u := ⟨_, rfl⟩
  rw [← el] at hR hlt cka hU
  rw [← em] at hO hlu ckb hU
  have hq0 : R = none → ∀ H', Same H H' → Q .non H' := fun z => hq0 (by rw [eR] at z; cases e : uni t u with
    | none => rfl
    | some v => rw [e] at z; cases z)
  have hq1 : ∀ c, R = some c → c.length ≤ 2000 → ∀ H' p, Same H H' → SqT K H' p (c.map V.str) → NoD H' p → Q (.ref p) H' := fun c z => by
    rw [eR] at z
    cases e : uni t u with
    | none => rw [e] at z; cases z
    | some v =>
      rw [e] at z
      rw [← Option.some.inj z]
      exact hq1 v e
  have hq2 : ∀ c, R = some c → 2000 < c.length → RaE K .many H E := fun c z => by
    rw [eR] at z
    cases e : uni t u with
    | none => rw [e] at z; cases z
    | some v =>
      rw [e] at z
      rw [← Option.some.inj z]
      exact hq2 v e
  have hu := hu_of hr
  have sc := sc_united
  have hwl := wt_len rows l
  have hwm := wt_len rows m
  refine ⟨_, (pss_cons (ps_expr (pe_calX c_check_stump hr (takes_of rfl rfl rfl rfl) (pa_cons (pv 0) (pa_cons (pv 1) pa_nil))))
      (pss_cons (ps_expr (pe_calX c_check_stump hr (takes_of rfl rfl rfl rfl) (pa_cons (pv 0) (pa_cons (pv 2) pa_nil))))
      (pss_cons (ps_set (i := 3) sc.nd rfl (Or.inl rfl) (pe_lst pa_nil))
      (pss_cons (ps_asg2 pe_int (pg_name (i := 4) sc.nd rfl (Or.inl rfl)) (pg_name (i := 5) sc.nd rfl (Or.inl rfl)))
      (pss_cons (ps_while (passes_of rfl) (pt_cmpR op_lt (pv 4) (pe_callB call_len_seq (by rfl) T.len (by decide +kernel) (pa_cons (pv 1) pa_nil)) (nomark _))
        (pss_cons (ps_set (i := 6) sc.nd rfl (Or.inl rfl) (pe_op op_add (pv 4) pe_int))
        (pss_cons (ps_set (i := 7) sc.nd rfl (Or.inl rfl) (pe_op op_add (pv 5) pe_int))
        (pss_cons (ps_if (pt_cmpR op_eq (pe_ix ix_tup (pv 1) (pv 4) (fun _ _ => rfl)) (pe_gstr rfl S.hole) (nomark _))
          (pss_cons (ps_set (i := 7) sc.nd rfl (Or.inl rfl) (pe_cal c_span_stop hr (pa_cons (pv 0) (pa_cons (pv 2) (pa_cons (pv 5) pa_nil)))))
          (pss_one (ps_expr (pe_bm PySem.F.plainAttrs_list PySem.F.slot_list_extend PySem.F.type_list_extend mt_extend (pv 3) (pa_cons (pe_callTy call_list_of (by rfl) T.list (by decide +kernel) (pa_cons (pe_slice sl_tupA (pv 2) (po_some (pv 5)) (po_some (pv 7))) pa_nil)) pa_nil)))))
          (pss_one (ps_if (pt_cmpR op_eq (pe_ix ix_tup (pv 2) (pv 5) (fun _ _ => rfl)) (pe_gstr rfl S.hole) (nomark _))
            (pss_cons (ps_set (i := 6) sc.nd rfl (Or.inl rfl) (pe_cal c_span_stop hr (pa_cons (pv 0) (pa_cons (pv 1) (pa_cons (pv 4) pa_nil)))))
            (pss_one (ps_expr (pe_bm PySem.F.plainAttrs_list PySem.F.slot_list_extend PySem.F.type_list_extend mt_extend (pv 3) (pa_cons (pe_callTy call_list_of (by rfl) T.list (by decide +kernel) (pa_cons (pe_slice sl_tupA (pv 1) (po_some (pv 4)) (po_some (pv 6))) pa_nil)) pa_nil)))))
            (pss_one (ps_if (pt_cmpR op_eq (pe_ix ix_tup (pv 1) (pv 4) (fun _ _ => rfl)) (pe_ix ix_tup (pv 2) (pv 5) (fun _ _ => rfl)) (nomark _))
              (pss_one (ps_expr (pe_bm PySem.F.plainAttrs_list PySem.F.slot_list_append PySem.F.type_list_append mt_append (pv 3) (pa_cons (pe_ix ix_tup (pv 1) (pv 4) (fun _ _ => rfl)) pa_nil))))
              (pss_one (ps_ret pe_non)))))))
        (pss_cons (ps_set (i := 4) sc.nd rfl (Or.inl rfl) (pv 6))
        (pss_one (ps_set (i := 5) sc.nd rfl (Or.inl rfl) (pv 7))))))))
      (pss_cons (ps_expr (pe_calX c_check_count hr (takes_of rfl rfl rfl rfl) (pa_cons (pe_callB call_len_seq (by rfl) T.len (by decide +kernel) (pa_cons (pv 3) pa_nil)) pa_nil)))
      (pss_one (ps_ret (pe_callTy call_tupZ (by rfl) T.tuple (by decide +kernel) (pa_cons (pv 3) pa_nil)))))))))), ?_⟩
  refine ⟨_, rfl, _, rfl, a, r, rows, l, rfl, hb, hR, fun ck1 H1 s1 => ?_, fun e c => by rw [cka] at c; cases c⟩
  refine ⟨_, rfl, _, rfl, a, o, rows, m, rfl, hb.mono (Stay.of s1), Same.sqt s1 hO, fun ck2 H2 s2 => ?_, fun e c => by rw [ckb] at c; cases c⟩
  have h1 := stm_of ck1
  have h2 := stm_of ck2
  have s12 := s1.trans s2
  have hl := h1.le
  have hm := h2.le
  refine ⟨by decide, fun D hD => ?_⟩
  have k0 := (Hs.start H2).new (o := .lst []) hD
  refine ⟨fun n σ H' => ∃ (i j : Nat) (z1 z2 : Int) (t6 t7 : Option V) (acc : List Str), n = l.length - i ∧ σ = [some (.ref a), some (.ref r), some (.ref o), some (.ref D), some (.int z1), some (.int z2), t6, t7] ∧ z1 = (i : Nat) ∧ z2 = (j : Nat) ∧ Hs H2 [(D, .lst (acc.map V.str))] H' ∧ acc.length ≤ i + j ∧ i ≤ l.length ∧ j ≤ m.length ∧ Wk (wt rows l) (wt rows m) i j ∧ UnI rows l m R i j acc,
    ⟨_, 0, 0, 0, 0, none, none, [], rfl, rfl, rfl, rfl, k0, Nat.le_refl _, Nat.zero_le _, Nat.zero_le _, Wk.start h1.fo h2.fo, hU⟩, ?_⟩
  rintro n σ H3 ⟨i, j, _, _, t6, t7, acc, rfl, rfl, rfl, rfl, hh, hal, hil, hjl, hw, hun⟩
  have sH := s12.trans hh.sub
  have hR1 := Same.sqt sH hR
  have hO1 := Same.sqt sH hO
  have hb1 := hb.mono (Stay.of sH)
  refine ⟨_, rfl, _, rfl, r, _, rfl, .inr hR1, _, _, rfl, rfl, _, rfl, if_dec (fun c => ?_) (fun c => ?_)⟩
  · rw [List.length_map] at c
    have hi : i < l.length := by omega
    have hiw : i < (wt rows l).length := by omega
    obtain ⟨_, _, _, hjw⟩ := hw.has hiw
    have hj : j < m.length := by omega
    obtain ⟨y, hy⟩ : ∃ y, l[i]? = some y := ⟨_, List.getElem?_eq_getElem hi⟩
    obtain ⟨x, hx⟩ : ∃ x, m[j]? = some x := ⟨_, List.getElem?_eq_getElem hj⟩
    have ey := wt_at (rows := rows) hy
    have ex := wt_at (rows := rows) hx
    have ay : atI (l.map V.str) ((i : Nat) : Int) = some (.str y) := atI_nat (by rw [List.getElem?_map, hy]; rfl)
    have ax : atI (m.map V.str) ((j : Nat) : Int) = some (.str x) := atI_nat (by rw [List.getElem?_map, hx]; rfl)
    obtain ⟨wsk, e1, e2⟩ := hw.skip hiw
    have gl := en_gt hiw
    have gm := en_gt hjw
    refine ⟨fun σ' H' => ∃ m', m' < l.length - i ∧ ∃ (i j : Nat) (z1 z2 : Int) (t6 t7 : Option V) (acc : List Str), m' = l.length - i ∧ σ' = [some (.ref a), some (.ref r), some (.ref o), some (.ref D), some (.int z1), some (.int z2), t6, t7] ∧ z1 = (i : Nat) ∧ z2 = (j : Nat) ∧ Hs H2 [(D, .lst (acc.map V.str))] H' ∧ acc.length ≤ i + j ∧ i ≤ l.length ∧ j ≤ m.length ∧ Wk (wt rows l) (wt rows m) i j ∧ UnI rows l m R i j acc, fun _ _ z => z, ?_⟩
    refine ⟨_, rfl, _, _, rfl, rfl, _, rfl, _, _, rfl, rfl, ?_⟩
    refine ⟨_, rfl, _, rfl, r, _, _, _, rfl, rfl, hR1, ay, rfl, _, rfl, if_dec (fun c1 => ?_) (fun c1 => ?_)⟩
    · have c1 : y = "*" := V.str.inj c1
      have e0 : aw (wt rows l) i = 0 := by rw [ey, c1]; exact ar_no hst
      refine ⟨_, rfl, _, rfl, _, rfl, a, o, j, rows, m, rfl, hb1, hO1, h2.fo, hj, ?_⟩
      refine ⟨_, rfl, .inl ⟨rfl, _, SqL.of hh.r0⟩, _, rfl, _, rfl, _, rfl, _, rfl, _, rfl, sl_any (cut_mid (by omega) (by rw [List.length_map]; omega)) hO1 fun p1 H4 s4 t1 => ?_⟩
      obtain ⟨g1, g2⟩ := hh.after s4
      have g3 := g2.low g1
      refine ⟨p1, _, rfl, .inr t1, fun q hq5 => ?_⟩
      have g4 := g3.lay (o := .lst (((m.map V.str).drop j).take (en (wt rows m) j - j))) hq5
      have el : (((m.map V.str).drop j).take (en (wt rows m) j - j)).length = en (wt rows m) j - j := by
        rw [List.length_take, List.length_drop, List.length_map]
        omega
      refine ⟨D, q, _, _, rfl, rfl, g4.r0, upd_same, by rw [el, List.length_map, sizeLine_eq]; omega, _, rfl, _, rfl, _, (by show l.length - (i + 1) < l.length - i; omega), i + 1, en (wt rows m) j, _, _, _, _, acc ++ (m.drop j).take (en (wt rows m) j - j), rfl, rfl, rfl, rfl, ?_, ?_, hi, by omega, hw.leap hiw e0, (hun.hole1 hst (by rw [hy, c1])).2⟩
      · have g5 := g4.w0 (o' := .lst (acc.map V.str ++ ((m.map V.str).drop j).take (en (wt rows m) j - j)))
        rw [List.map_append, List.map_take, List.map_drop]
        exact g5
      · rw [List.length_append, List.length_take, List.length_drop]
        omega
    · refine ⟨_, rfl, _, rfl, o, _, _, _, rfl, rfl, hO1, ax, rfl, _, rfl, if_dec (fun c2 => ?_) (fun c2 => ?_)⟩
      · have c2 : x = "*" := V.str.inj c2
        have e0 : aw (wt rows m) j = 0 := by rw [ex, c2]; exact ar_no hst
        refine ⟨_, rfl, _, rfl, _, rfl, a, r, i, rows, l, rfl, hb1, hR1, h1.fo, hi, ?_⟩
        refine ⟨_, rfl, .inl ⟨rfl, _, SqL.of hh.r0⟩, _, rfl, _, rfl, _, rfl, _, rfl, _, rfl, sl_any (cut_mid (by omega) (by rw [List.length_map]; omega)) hR1 fun p1 H4 s4 t1 => ?_⟩
        obtain ⟨g1, g2⟩ := hh.after s4
        have g3 := g2.low g1
        refine ⟨p1, _, rfl, .inr t1, fun q hq5 => ?_⟩
        have g4 := g3.lay (o := .lst (((l.map V.str).drop i).take (en (wt rows l) i - i))) hq5
        have el : (((l.map V.str).drop i).take (en (wt rows l) i - i)).length = en (wt rows l) i - i := by
          rw [List.length_take, List.length_drop, List.length_map]
          omega
        refine ⟨D, q, _, _, rfl, rfl, g4.r0, upd_same, by rw [el, List.length_map, sizeLine_eq]; omega, _, rfl, _, rfl, _, (by show l.length - en (wt rows l) i < l.length - i; omega), en (wt rows l) i, j + 1, _, _, _, _, acc ++ (l.drop i).take (en (wt rows l) i - i), rfl, rfl, rfl, rfl, ?_, ?_, by omega, hj, hw.leap2 hiw e0, (hun.hole2 hst hy (fun z => c1 (by rw [z])) (by rw [hx, c2])).2⟩
        · have g5 := g4.w0 (o' := .lst (acc.map V.str ++ ((l.map V.str).drop i).take (en (wt rows l) i - i)))
          rw [List.map_append, List.map_take, List.map_drop]
          exact g5
        · rw [List.length_append, List.length_take, List.length_drop]
          omega
      · refine ⟨_, rfl, _, rfl, r, _, _, _, rfl, rfl, hR1, ay, _, rfl, _, rfl, o, _, _, _, rfl, rfl, hO1, ax, rfl, _, rfl, if_dec (fun c3 => ?_) (fun c3 => hq0 (hun.clash hy (fun z => c1 (by rw [z])) hx (fun z => c2 (by rw [z])) (fun z => c3 (by rw [z]))) _ sH)⟩
        have exy : y = x := V.str.inj c3
        have k1 := hh.w0 (o' := .lst ((acc ++ [y]).map V.str))
        refine ⟨_, rfl, .inl ⟨rfl, _, SqL.of hh.r0⟩, _, rfl, _, rfl, r, _, _, _, rfl, rfl, hR1, ay, D, _, _, rfl, rfl, hh.r0, by rw [List.length_map, sizeLine_eq]; omega, ?_⟩
        refine ⟨_, rfl, _, rfl, _, (by show l.length - (i + 1) < l.length - i; omega), i + 1, j + 1, _, _, _, _, acc ++ [y], rfl, rfl, rfl, rfl, ?_, by simp; omega, hi, hj, hw.go hiw (by rw [ey, ex, exy]), hun.same hy (fun z => c1 (by rw [z])) (by rw [hx, exy])⟩
        rw [List.map_append] at k1 ⊢
        exact k1
  · obtain rfl : i = l.length := by rw [List.length_map] at c; omega
    have hR := hun.done (Nat.le_refl _)
    refine ⟨_, rfl, D, _, rfl, .inl (SqL.of hh.r0), _, rfl, fun c2 => ?_, fun c2 => ((hq2 acc hR ?_).mono sH).ra im_tm⟩
    · rw [List.length_map] at c2
      exact ⟨_, rfl, D, _, rfl, SqL.of hh.r0, fun p H' n => hq1 acc hR (by omega) _ _ (sH.trans n.same) n.sqt n.nod⟩
    · rw [List.length_map] at c2
      omega
end
end Sy
namespace Sy
open PySem PySem.Spec PyProof.Rows L2
theorem fillW_lenE : ∀ (l : List Str) (ls : List (List Str)), ls.length = l.count ("*" : Str) → (fillW l ls).length + ls.length = l.length + ls.flatten.length
  | [], [], _ => rfl
  | [], _ :: _, h => by cases h
  | x :: l, ls, h => by
    by_cases c : x = "*"
    · subst c
      rw [List.count_cons_self] at h
      cases ls with
      | nil => cases h
      | cons p ls =>
        have ih := fillW_lenE l ls (by simpa using h)
        rw [fillW_hole, List.length_append, List.flatten_cons, List.length_append, List.length_cons, List.length_cons]
        omega
    · rw [List.count_cons, if_neg (by simpa using c), Nat.add_zero] at h
      have ih := fillW_lenE l ls h
      rw [fillW_cons c, List.length_cons, List.length_cons]
      omega
theorem fst_none {rows : List Sy.Row} (st : isK rows "*" = false) : ∀ {us : List Tr}, oks rows us → (∀ u ∈ us, (pre u).length ≤ 2000) → fstE (ckS rows) (us.map pre) = none
  | [], _, _ => rfl
  | u :: us, ok, h => by
    rw [List.map_cons, fstE, ck_none st ok.1 (h u List.mem_cons_self)]
    exact fst_none st ok.2 fun v hv => h v (List.mem_cons_of_mem _ hv)
theorem fill_none {rows : List Sy.Row} (st : isK rows "*" = false) {t : Tr} {us : List Tr} (ok : okT rows t) (hl : (pre t).length ≤ 2000) (oku : oks rows us) (hlu : ∀ u ∈ us, (pre u).length ≤ 2000) (hc : us.length = (pre t).count ("*" : Str)) (hf : (fillW (pre t) (us.map pre)).length ≤ 2000) : fillDue rows (pre t) (us.map pre) = none := by
  unfold fillDue
  have hc2 : (us.map pre).length = (pre t).count ("*" : Str) := by rw [List.length_map]; exact hc
  have e := fillW_lenE _ _ hc2
  have cl : (pre t).count ("*" : Str) ≤ (pre t).length := List.count_le_length
  rw [ck_none st ok hl]
  simp only
  rw [if_neg fun z => z hc2, fst_none st oku hlu]
  simp only
  rw [if_neg (by omega)]
section
variable {P : Program} {w : World} {K : PySem.W.Frag} {mg : Str → Option Value} {base : Heap}
theorem ixq {H : Hp} {b : Addr} {xs : List V} {i : Int} {v : V} {Q : VK} (h : SqL K H b xs ∨ SqT K H b xs) (e : atI xs i = some v) (q : Q v H) : rIx K (.ref b) (.int i) H Q := by
  rcases h with h | h
  · exact .inl ⟨b, xs, i, v, rfl, rfl, h, e, q⟩
  · exact .inr (.inl ⟨b, xs, i, v, rfl, rfl, h, e, q⟩)
/-! _law_filled -/
structure FillOk (K : PySem.W.Frag) (H : Hp) (rows : List Sy.Row) (bs : List Addr) (t : Tr) (us : List Tr) : Prop where
  st : isK rows "*" = false
  ok : okT rows t
  le : (pre t).length ≤ 2000
  oku : oks rows us
  leu : ∀ u ∈ us, (pre u).length ≤ 2000
  cnt : us.length = (pre t).count ("*" : Str)
  tot : (fillW (pre t) (us.map pre)).length ≤ 2000
  at_ : RwsAt K H bs (us.map pre)
theorem filled_of {a r : Addr} {rows : List Sy.Row} {t : Tr} {bs : List Addr} {us : List Tr} {H : Hp} {Q : VK} {E : XK} (hb : BedAt K H a rows) (hR : SqT K H r ((pre t).map V.str)) (f : FillOk K H rows bs t us) (hl : bs.length ≤ 6)
    (hq : ∀ H' p, Same H H' → SqT K H' p ((fillW (pre t) (us.map pre)).map V.str) → Q (.ref p) H') : spStar 2 (spFilled K) (V.ref a :: V.ref r :: bs.map V.ref) H Q E := by
  have hbl := paired_len f.at_
  refine ⟨[.ref a, .ref r], bs.map V.ref, rfl, rfl, by rw [List.length_map, sizeLine_eq]; omega, fun p hp' => ?_⟩
  have s1 := up_same (o := .tup (bs.map V.ref)) hp'
  have due := fill_none f.st f.ok f.le f.oku f.leu f.cnt f.tot
  exact ⟨a, r, p, rows, pre t, bs, us.map pre, rfl, hb.mono (Stay.of s1), Same.sqt s1 hR, SqT.of upd_same, RwsAt.mono (Stay.of s1) f.at_, by omega, fun _ H' q s t => hq H' q (s1.trans s) t, fun e he => by rw [due] at he; cases he⟩
def spFlL (K : PySem.W.Frag) : Sp := fun vs H Q E => ∃ (a r b : Addr) (rows : List Sy.Row) (t : Tr) (bs : List Addr) (us : List Tr), vs = [.ref a, .ref r, .ref b] ∧ BedAt K H a rows ∧ SqT K H r ((pre t).map V.str) ∧ (SqL K H b (bs.map V.ref) ∨ SqT K H b (bs.map V.ref)) ∧ FillOk K H rows bs t us ∧ bs.length ≤ 6 ∧
  ∀ H' p, Same H H' → SqT K H' p ((fillW (pre t) (us.map pre)).map V.str) → Q (.ref p) H'
theorem sc_flL : FnScope ["_law_bed_here", "_law_stump_here", "_law_pieces_here"] ["_law_bed_here", "_law_stump_here", "_law_pieces_here"] (defScope (top 62)) := ⟨rfl, rfl, rfl, by decide +kernel, rfl, by decide +kernel, by decide +kernel⟩
theorem k_flL (T : Txt K mg) (F : DF K mg "_law_filled" 62) (c_filled : CalR P w K mg base 5 "filled" (spStar 2 (spFilled K))) : Cal P w K mg base 6 "_law_filled" ["_law_bed_here", "_law_stump_here", "_law_pieces_here"] (spFlL K) := by
  refine cal_of F.1 F.2 sc_flL (fun _ _ _ _ _ _ us e => match us, e with | [_, _, _], _ => rfl) (fun vs H Q E s => by obtain ⟨_, _, _, _, _, _, _, rfl, _⟩ := s; rfl) ?_
  intro cdv A outer s H vs Q E hr h
  obtain ⟨a, r, b, rows, t, bs, us, rfl, hb, hR, hL, fo, hl, hq⟩ := h
  refine ⟨_, (pss_cons (ps_if (pt_cmpR op_eq (pe_callB call_len_seq (by rfl) T.len (by decide +kernel) (pa_cons (pv 2) pa_nil)) pe_int (nomark _))
        (pss_one (ps_ret (pe_calR c_filled hr (takes_of rfl rfl rfl rfl) (pa_cons (pv 0) (pa_cons (pv 1) pa_nil)))))
        pss_nil)
      (pss_cons (ps_if (pt_cmpR op_eq (pe_callB call_len_seq (by rfl) T.len (by decide +kernel) (pa_cons (pv 2) pa_nil)) pe_int (nomark _))
        (pss_one (ps_ret (pe_calR c_filled hr (takes_of rfl rfl rfl rfl) (pa_cons (pv 0) (pa_cons (pv 1) (pa_cons (pe_ix ix_seq (pv 2) pe_int (fun _ _ => rfl)) pa_nil))))))
        pss_nil)
      (pss_cons (ps_if (pt_cmpR op_eq (pe_callB call_len_seq (by rfl) T.len (by decide +kernel) (pa_cons (pv 2) pa_nil)) pe_int (nomark _))
        (pss_one (ps_ret (pe_calR c_filled hr (takes_of rfl rfl rfl rfl) (pa_cons (pv 0) (pa_cons (pv 1) (pa_cons (pe_ix ix_seq (pv 2) pe_int (fun _ _ => rfl)) (pa_cons (pe_ix ix_seq (pv 2) pe_int (fun _ _ => rfl)) pa_nil)))))))
        pss_nil)
      (pss_cons (ps_if (pt_cmpR op_eq (pe_callB call_len_seq (by rfl) T.len (by decide +kernel) (pa_cons (pv 2) pa_nil)) pe_int (nomark _))
        (pss_one (ps_ret (pe_calR c_filled hr (takes_of rfl rfl rfl rfl) (pa_cons (pv 0) (pa_cons (pv 1) (pa_cons (pe_ix ix_seq (pv 2) pe_int (fun _ _ => rfl)) (pa_cons (pe_ix ix_seq (pv 2) pe_int (fun _ _ => rfl)) (pa_cons (pe_ix ix_seq (pv 2) pe_int (fun _ _ => rfl)) pa_nil))))))))
        pss_nil)
      (pss_cons (ps_if (pt_cmpR op_eq (pe_callB call_len_seq (by rfl) T.len (by decide +kernel) (pa_cons (pv 2) pa_nil)) pe_int (nomark _))
        (pss_one (ps_ret (pe_calR c_filled hr (takes_of rfl rfl rfl rfl) (pa_cons (pv 0) (pa_cons (pv 1) (pa_cons (pe_ix ix_seq (pv 2) pe_int (fun _ _ => rfl)) (pa_cons (pe_ix ix_seq (pv 2) pe_int (fun _ _ => rfl)) (pa_cons (pe_ix ix_seq (pv 2) pe_int (fun _ _ => rfl)) (pa_cons (pe_ix ix_seq (pv 2) pe_int (fun _ _ => rfl)) pa_nil)))))))))
        pss_nil)
      (pss_cons (ps_if (pt_cmpR op_eq (pe_callB call_len_seq (by rfl) T.len (by decide +kernel) (pa_cons (pv 2) pa_nil)) pe_int (nomark _))
        (pss_one (ps_ret (pe_calR c_filled hr (takes_of rfl rfl rfl rfl) (pa_cons (pv 0) (pa_cons (pv 1) (pa_cons (pe_ix ix_seq (pv 2) pe_int (fun _ _ => rfl)) (pa_cons (pe_ix ix_seq (pv 2) pe_int (fun _ _ => rfl)) (pa_cons (pe_ix ix_seq (pv 2) pe_int (fun _ _ => rfl)) (pa_cons (pe_ix ix_seq (pv 2) pe_int (fun _ _ => rfl)) (pa_cons (pe_ix ix_seq (pv 2) pe_int (fun _ _ => rfl)) pa_nil))))))))))
        pss_nil)
      (pss_one (ps_ret (pe_calR c_filled hr (takes_of rfl rfl rfl rfl) (pa_cons (pv 0) (pa_cons (pv 1) (pa_cons (pe_ix ix_seq (pv 2) pe_int (fun _ _ => rfl)) (pa_cons (pe_ix ix_seq (pv 2) pe_int (fun _ _ => rfl)) (pa_cons (pe_ix ix_seq (pv 2) pe_int (fun _ _ => rfl)) (pa_cons (pe_ix ix_seq (pv 2) pe_int (fun _ _ => rfl)) (pa_cons (pe_ix ix_seq (pv 2) pe_int (fun _ _ => rfl)) (pa_cons (pe_ix ix_seq (pv 2) pe_int (fun _ _ => rfl)) pa_nil))))))))))))))))), ?_⟩
  refine ⟨_, rfl, b, _, rfl, hL, rfl, _, rfl, if_dec (fun c => ?_) (fun c0 => ?_)⟩
  · have en : bs.length = 0 := by
      have := V.int.inj c
      rw [List.length_map] at this
      omega
    obtain rfl : bs = [] := by
      match bs, en with
      | [], _ => exact rfl
    exact ⟨_, rfl, ⟨_, rfl, filled_of hb hR fo hl hq⟩⟩
  refine ⟨_, rfl, b, _, rfl, hL, rfl, _, rfl, if_dec (fun c => ?_) (fun c1 => ?_)⟩
  · have en : bs.length = 1 := by
      have := V.int.inj c
      rw [List.length_map] at this
      omega
    obtain ⟨p0, rfl⟩ : ∃ p0, bs = [p0] := by
      match bs, en with
      | [p0], _ => exact ⟨_, rfl⟩
    exact ⟨_, rfl, ⟨_, rfl, ⟨_, rfl, ixq hL (atI_nat (j := 0) rfl) (filled_of hb hR fo hl hq)⟩⟩⟩
  refine ⟨_, rfl, b, _, rfl, hL, rfl, _, rfl, if_dec (fun c => ?_) (fun c2 => ?_)⟩
  · have en : bs.length = 2 := by
      have := V.int.inj c
      rw [List.length_map] at this
      omega
    obtain ⟨p0, p1, rfl⟩ : ∃ p0 p1, bs = [p0, p1] := by
      match bs, en with
      | [p0, p1], _ => exact ⟨_, _, rfl⟩
    exact ⟨_, rfl, ⟨_, rfl, ⟨_, rfl, ixq hL (atI_nat (j := 0) rfl) (⟨_, rfl, ixq hL (atI_nat (j := 1) rfl) (filled_of hb hR fo hl hq)⟩)⟩⟩⟩
  refine ⟨_, rfl, b, _, rfl, hL, rfl, _, rfl, if_dec (fun c => ?_) (fun c3 => ?_)⟩
  · have en : bs.length = 3 := by
      have := V.int.inj c
      rw [List.length_map] at this
      omega
    obtain ⟨p0, p1, p2, rfl⟩ : ∃ p0 p1 p2, bs = [p0, p1, p2] := by
      match bs, en with
      | [p0, p1, p2], _ => exact ⟨_, _, _, rfl⟩
    exact ⟨_, rfl, ⟨_, rfl, ⟨_, rfl, ixq hL (atI_nat (j := 0) rfl) (⟨_, rfl, ixq hL (atI_nat (j := 1) rfl) (⟨_, rfl, ixq hL (atI_nat (j := 2) rfl) (filled_of hb hR fo hl hq)⟩)⟩)⟩⟩⟩
  refine ⟨_, rfl, b, _, rfl, hL, rfl, _, rfl, if_dec (fun c => ?_) (fun c4 => ?_)⟩
  · have en : bs.length = 4 := by
      have := V.int.inj c
      rw [List.length_map] at this
      omega
    obtain ⟨p0, p1, p2, p3, rfl⟩ : ∃ p0 p1 p2 p3, bs = [p0, p1, p2, p3] := by
      match bs, en with
      | [p0, p1, p2, p3], _ => exact ⟨_, _, _, _, rfl⟩
    exact ⟨_, rfl, ⟨_, rfl, ⟨_, rfl, ixq hL (atI_nat (j := 0) rfl) (⟨_, rfl, ixq hL (atI_nat (j := 1) rfl) (⟨_, rfl, ixq hL (atI_nat (j := 2) rfl) (⟨_, rfl, ixq hL (atI_nat (j := 3) rfl) (filled_of hb hR fo hl hq)⟩)⟩)⟩)⟩⟩⟩
  refine ⟨_, rfl, b, _, rfl, hL, rfl, _, rfl, if_dec (fun c => ?_) (fun c5 => ?_)⟩
  · have en : bs.length = 5 := by
      have := V.int.inj c
      rw [List.length_map] at this
      omega
    obtain ⟨p0, p1, p2, p3, p4, rfl⟩ : ∃ p0 p1 p2 p3 p4, bs = [p0, p1, p2, p3, p4] := by
      match bs, en with
      | [p0, p1, p2, p3, p4], _ => exact ⟨_, _, _, _, _, rfl⟩
    exact ⟨_, rfl, ⟨_, rfl, ⟨_, rfl, ixq hL (atI_nat (j := 0) rfl) (⟨_, rfl, ixq hL (atI_nat (j := 1) rfl) (⟨_, rfl, ixq hL (atI_nat (j := 2) rfl) (⟨_, rfl, ixq hL (atI_nat (j := 3) rfl) (⟨_, rfl, ixq hL (atI_nat (j := 4) rfl) (filled_of hb hR fo hl hq)⟩)⟩)⟩)⟩)⟩⟩⟩
  have en : bs.length = 6 := by
    have d0 : bs.length ≠ 0 := fun z => c0 (by rw [List.length_map, z]; rfl)
    have d1 : bs.length ≠ 1 := fun z => c1 (by rw [List.length_map, z]; rfl)
    have d2 : bs.length ≠ 2 := fun z => c2 (by rw [List.length_map, z]; rfl)
    have d3 : bs.length ≠ 3 := fun z => c3 (by rw [List.length_map, z]; rfl)
    have d4 : bs.length ≠ 4 := fun z => c4 (by rw [List.length_map, z]; rfl)
    have d5 : bs.length ≠ 5 := fun z => c5 (by rw [List.length_map, z]; rfl)
    omega
  obtain ⟨p0, p1, p2, p3, p4, p5, rfl⟩ : ∃ p0 p1 p2 p3 p4 p5, bs = [p0, p1, p2, p3, p4, p5] := by
    match bs, en with
    | [p0, p1, p2, p3, p4, p5], _ => exact ⟨_, _, _, _, _, _, rfl⟩
  exact ⟨_, rfl, ⟨_, rfl, ⟨_, rfl, ixq hL (atI_nat (j := 0) rfl) (⟨_, rfl, ixq hL (atI_nat (j := 1) rfl) (⟨_, rfl, ixq hL (atI_nat (j := 2) rfl) (⟨_, rfl, ixq hL (atI_nat (j := 3) rfl) (⟨_, rfl, ixq hL (atI_nat (j := 4) rfl) (⟨_, rfl, ixq hL (atI_nat (j := 5) rfl) (filled_of hb hR fo hl hq)⟩)⟩)⟩)⟩)⟩)⟩⟩⟩
/-! _law_common -/
structure ComOk (K : PySem.W.Frag) (H : Hp) (rows : List Sy.Row) (bs : List Addr) (us : List Tr) : Prop where
  st : isK rows "*" = false
  le : ∀ u ∈ us, (pre u).length ≤ 2000
  at_ : Paired (TrAt K H rows) bs us
theorem com_of {a r : Addr} {rows : List Sy.Row} {t : Tr} {bs : List Addr} {us : List Tr} {H : Hp} {Q : VK} {E : XK} (hb : BedAt K H a rows) (f : ComOk K H rows (r :: bs) (t :: us)) (hl : bs.length ≤ 6)
    (hq : ∀ H' p, Same H H' → TrAt K H' rows p (comL rows t us) → Q (.ref p) H') : spStar 2 (spCommon K) (V.ref a :: V.ref r :: bs.map V.ref) H Q E := by
  obtain ⟨st, le, at_⟩ := f
  cases at_ with
  | cons h1 h2 =>
    have hbl := paired_len h2
    refine ⟨[.ref a, .ref r], bs.map V.ref, rfl, rfl, by rw [List.length_map, sizeLine_eq]; omega, fun p hp' => ?_⟩
    have s1 := up_same (o := .tup (bs.map V.ref)) hp'
    exact ⟨a, r, p, rows, t, bs, us, rfl, hb.mono (Stay.of s1), Same.sqt s1 h1.sq, h1.nd.mono (Stay.of s1), SqT.of upd_same, Paired.mapP h2 fun _ _ z => Same.sqt s1 z.sq, st, h1.ok, trs_oks h2, le t List.mem_cons_self, fun u hu => le u (List.mem_cons_of_mem _ hu), fun H' q s sq nd => hq H' q (s1.trans s) ⟨sq, nd, comL_ok st h1.ok (trs_oks h2)⟩⟩
def spCmL (K : PySem.W.Frag) : Sp := fun vs H Q E => ∃ (a b : Addr) (rows : List Sy.Row) (bs : List Addr) (t : Tr) (us : List Tr), vs = [.ref a, .ref b] ∧ BedAt K H a rows ∧ (SqL K H b (bs.map V.ref) ∨ SqT K H b (bs.map V.ref)) ∧ ComOk K H rows bs (t :: us) ∧ bs.length ≤ 4 ∧
  ∀ H' p, Same H H' → TrAt K H' rows p (comL rows t us) → Q (.ref p) H'
theorem sc_cmL : FnScope ["_law_bed_here", "_law_stumps"] ["_law_bed_here", "_law_stumps"] (defScope (top 63)) := ⟨rfl, rfl, rfl, by decide +kernel, rfl, by decide +kernel, by decide +kernel⟩
theorem k_cmL (T : Txt K mg) (F : DF K mg "_law_common" 63) (c_common : CalR P w K mg base 5 "common" (spStar 2 (spCommon K))) : Cal P w K mg base 6 "_law_common" ["_law_bed_here", "_law_stumps"] (spCmL K) := by
  refine cal_of F.1 F.2 sc_cmL (fun _ _ _ _ _ _ us e => match us, e with | [_, _], _ => rfl) (fun vs H Q E s => by obtain ⟨_, _, _, _, _, _, rfl, _⟩ := s; rfl) ?_
  intro cdv A outer s H vs Q E hr h
  obtain ⟨a, b, rows, bs, t, us, rfl, hb, hL, fo, hl, hq⟩ := h
  have hbl := paired_len fo.at_
  rw [List.length_cons] at hbl
  refine ⟨_, (pss_cons (ps_if (pt_cmpR op_eq (pe_callB call_len_seq (by rfl) T.len (by decide +kernel) (pa_cons (pv 1) pa_nil)) pe_int (nomark _))
        (pss_one (ps_ret (pe_calR c_common hr (takes_of rfl rfl rfl rfl) (pa_cons (pv 0) (pa_cons (pe_ix ix_seq (pv 1) pe_int (fun _ _ => rfl)) pa_nil)))))
        pss_nil)
      (pss_cons (ps_if (pt_cmpR op_eq (pe_callB call_len_seq (by rfl) T.len (by decide +kernel) (pa_cons (pv 1) pa_nil)) pe_int (nomark _))
        (pss_one (ps_ret (pe_calR c_common hr (takes_of rfl rfl rfl rfl) (pa_cons (pv 0) (pa_cons (pe_ix ix_seq (pv 1) pe_int (fun _ _ => rfl)) (pa_cons (pe_ix ix_seq (pv 1) pe_int (fun _ _ => rfl)) pa_nil))))))
        pss_nil)
      (pss_cons (ps_if (pt_cmpR op_eq (pe_callB call_len_seq (by rfl) T.len (by decide +kernel) (pa_cons (pv 1) pa_nil)) pe_int (nomark _))
        (pss_one (ps_ret (pe_calR c_common hr (takes_of rfl rfl rfl rfl) (pa_cons (pv 0) (pa_cons (pe_ix ix_seq (pv 1) pe_int (fun _ _ => rfl)) (pa_cons (pe_ix ix_seq (pv 1) pe_int (fun _ _ => rfl)) (pa_cons (pe_ix ix_seq (pv 1) pe_int (fun _ _ => rfl)) pa_nil)))))))
        pss_nil)
      (pss_one (ps_ret (pe_calR c_common hr (takes_of rfl rfl rfl rfl) (pa_cons (pv 0) (pa_cons (pe_ix ix_seq (pv 1) pe_int (fun _ _ => rfl)) (pa_cons (pe_ix ix_seq (pv 1) pe_int (fun _ _ => rfl)) (pa_cons (pe_ix ix_seq (pv 1) pe_int (fun _ _ => rfl)) (pa_cons (pe_ix ix_seq (pv 1) pe_int (fun _ _ => rfl)) pa_nil))))))))))), ?_⟩
  refine ⟨_, rfl, b, _, rfl, hL, rfl, _, rfl, if_dec (fun c => ?_) (fun c1 => ?_)⟩
  · have en : bs.length = 1 := by
      have := V.int.inj c
      rw [List.length_map] at this
      omega
    obtain ⟨p0, rfl⟩ : ∃ p0, bs = [p0] := by
      match bs, en with
      | [p0], _ => exact ⟨_, rfl⟩
    exact ⟨_, rfl, ⟨_, rfl, ixq hL (atI_nat (j := 0) rfl) (com_of hb fo (by simp) hq)⟩⟩
  refine ⟨_, rfl, b, _, rfl, hL, rfl, _, rfl, if_dec (fun c => ?_) (fun c2 => ?_)⟩
  · have en : bs.length = 2 := by
      have := V.int.inj c
      rw [List.length_map] at this
      omega
    obtain ⟨p0, p1, rfl⟩ : ∃ p0 p1, bs = [p0, p1] := by
      match bs, en with
      | [p0, p1], _ => exact ⟨_, _, rfl⟩
    exact ⟨_, rfl, ⟨_, rfl, ixq hL (atI_nat (j := 0) rfl) (⟨_, rfl, ixq hL (atI_nat (j := 1) rfl) (com_of hb fo (by simp) hq)⟩)⟩⟩
  refine ⟨_, rfl, b, _, rfl, hL, rfl, _, rfl, if_dec (fun c => ?_) (fun c3 => ?_)⟩
  · have en : bs.length = 3 := by
      have := V.int.inj c
      rw [List.length_map] at this
      omega
    obtain ⟨p0, p1, p2, rfl⟩ : ∃ p0 p1 p2, bs = [p0, p1, p2] := by
      match bs, en with
      | [p0, p1, p2], _ => exact ⟨_, _, _, rfl⟩
    exact ⟨_, rfl, ⟨_, rfl, ixq hL (atI_nat (j := 0) rfl) (⟨_, rfl, ixq hL (atI_nat (j := 1) rfl) (⟨_, rfl, ixq hL (atI_nat (j := 2) rfl) (com_of hb fo (by simp) hq)⟩)⟩)⟩⟩
  have en : bs.length = 4 := by
    have d1 : bs.length ≠ 1 := fun z => c1 (by rw [List.length_map, z]; rfl)
    have d2 : bs.length ≠ 2 := fun z => c2 (by rw [List.length_map, z]; rfl)
    have d3 : bs.length ≠ 3 := fun z => c3 (by rw [List.length_map, z]; rfl)
    omega
  obtain ⟨p0, p1, p2, p3, rfl⟩ : ∃ p0 p1 p2 p3, bs = [p0, p1, p2, p3] := by
    match bs, en with
    | [p0, p1, p2, p3], _ => exact ⟨_, _, _, _, rfl⟩
  exact ⟨_, rfl, ⟨_, rfl, ixq hL (atI_nat (j := 0) rfl) (⟨_, rfl, ixq hL (atI_nat (j := 1) rfl) (⟨_, rfl, ixq hL (atI_nat (j := 2) rfl) (⟨_, rfl, ixq hL (atI_nat (j := 3) rfl) (com_of hb fo (by simp) hq)⟩)⟩)⟩)⟩⟩
end
end Sy
/-! list.count (own rule) -/
namespace Sy
open PySem PySem.Spec PyProof.Rows L2
section
variable {X : Cx}
/-- l.count(y), all flat -/
def rLCnt (K : PySem.W.Frag) : V → List V → Hp → VK → Prop := fun x xs H Q => ∃ (a : Addr) (ys : List V) (y : V), x = V.ref a ∧ xs = [y] ∧ SqL K H a ys ∧ flatV y = true ∧ ys.all flatV = true ∧ Q (.int (ys.countP fun z => eqV z y : Nat)) H
theorem mt_lcountF : MtR X "list.count" (rLCnt X.K) := by
  intro pins s σ H x xs v us Q I rx rxs h
  obtain ⟨a, ys, y, rfl, rfl, hs, fy, fys, q⟩ := h
  cases rx
  cases rxs with
  | cons ry rt =>
    rename_i uy ut
    cases rt
    obtain ⟨its, rv, ⟨⟨cls, dd, data, sl⟩, n, ho, hc, hdn, hd⟩, hlen⟩ := I.list hs
    simp only at hc hd
    subst hc hd
    refine call_meets PySem.F.slot_list_count ⟨_, ho, rfl⟩ PySem.F.entry_list_count (PySem.F.args_list_count_2 _ _) (SeqAt.list_countAt a its.toArray n dd sl uy (eqU y)) ⟨ho, fun u' hu' => mem_eqAt ry fy rv fys u' (by simpa using hu'), ?_⟩
    have e1 : its.toArray.toList.countP (eqU y) = ys.countP fun z => eqV z y := by
      rw [← countU rv fys]
    rw [e1]
    exact ⟨.int (ys.countP fun z => eqV z y : Nat), H, I.tok _, ⟨_, rfl⟩, q⟩
end
end Sy
namespace Sy
open PySem PySem.Spec PyProof.Rows L2
theorem paired_zip {α β : Type} {R : α → β → Prop} : ∀ {as : List α} {bs : List β}, Paired R as bs → ∃ zs : List (α × β), as = zs.map (·.1) ∧ bs = zs.map (·.2) ∧ ∀ z ∈ zs, R z.1 z.2
  | _, _, .nil => ⟨[], rfl, rfl, fun _ h => nomatch h⟩
  | _, _, .cons h t => by
    obtain ⟨zs, rfl, rfl, h3⟩ := paired_zip t
    exact ⟨(_, _) :: zs, rfl, rfl, fun z hz => (List.mem_cons.mp hz).elim (fun e => by rw [e]; exact h) (h3 z)⟩
/-- a table at d of the tree's kinds -/
def TabAt (H : Hp) (d : Addr) (u : Tr) : Prop := ∃ kvs, H d = some (.dT kvs) ∧ KTab kvs u
theorem TabAt.same {H H' : Hp} {d : Addr} {u : Tr} (h : TabAt H d u) (s : Same H H') : TabAt H' d u := by
  obtain ⟨k, a, b⟩ := h
  exact ⟨k, s _ _ a, b⟩
theorem tabs_same {H H' : Hp} {ds : List Addr} {us : List Tr} (h : Paired (TabAt H) ds us) (s : Same H H') : Paired (TabAt H') ds us := Paired.same (R := TabAt) (fun _ _ _ _ s h => h.same s) s h
theorem bool_not_true {b : Bool} {p : Prop} (h : b = true ↔ p) (hp : p) : b = true := h.mpr hp
section
variable {P : Program} {w : World} {K : PySem.W.Frag} {mg : Str → Option Value} {base : Heap}
/-- what the tables all have at a hole of the common stump -/
theorem cnt_all {k : Str} : ∀ {ks : List Str}, (ks.map V.str).countP (fun z => eqV z (V.str k)) = ks.length → ∀ x ∈ ks, x = k
  | [], _, _, h => nomatch h
  | y :: ks, h, x, hx => by
    rw [List.map_cons, List.countP_cons, List.length_cons] at h
    have le : (ks.map V.str).countP (fun z => eqV z (V.str k)) ≤ ks.length := by
      have := List.countP_le_length (p := fun z => eqV z (V.str k)) (l := ks.map V.str)
      rwa [List.length_map] at this
    by_cases c : eqV (V.str y) (V.str k) = true
    · rw [if_pos c] at h
      rcases List.mem_cons.mp hx with rfl | hx
      · simpa [eqV] using c
      · exact cnt_all (by omega) x hx
    · rw [if_neg c] at h
      omega
/-! _law_common_right -/
def spCmR (K : PySem.W.Frag) : Sp := fun vs H Q _ => ∃ (q r b : Addr) (rows : List Sy.Row) (c t : Tr) (bs : List Addr) (us : List Tr), vs = [.ref q, .ref r, .ref b] ∧ RL K H q rows ∧ isK rows "*" = false ∧ SqT K H r ((pre c).map V.str) ∧ okT rows c ∧ (pre c).length ≤ 5000 ∧ H b = some (.lst (bs.map V.ref)) ∧ Paired (TrAt K H rows) bs (t :: us) ∧ bs.length ≤ 100 ∧ (∀ u ∈ t :: us, (pre u).length ≤ 5000) ∧
  (∀ u ∈ t :: us, Bgn c u) ∧ (∀ p ∈ hpT c, ¬ (kA t p ≠ "*" ∧ ∀ u ∈ us, kA u p = kA t p)) ∧ ∀ H', Same H H' → Q (.bl true) H'
abbrev N_cmR : List Str := ["_law_rows_here", "_law_told", "_law_stumps", "_law_tables", "_law_table", "_law_path", "_law_here", "_law_stump_here"]
theorem sc_cmR : FnScope N_cmR ["_law_rows_here", "_law_told", "_law_stumps"] (defScope (top 64)) := ⟨rfl, rfl, rfl, by decide +kernel, rfl, by decide +kernel, by decide +kernel⟩
theorem k_cmR (T : Txt K mg) (F : DF K mg "_law_common_right" 64) (c_law_stump : Cal P w K mg base 3 "_law_stump" ["_law_told", "_law_rows_here"] (spStumpL K)) (c_law_kinds : Cal P w K mg base 4 "_law_kinds" ["_law_rows_here", "_law_stump_here"] (spKinds K)) (c_law_is_begun : Cal P w K mg base 1 "_law_is_begun" ["_law_kinds_here", "_law_kinds2"] (spBegun K)) (c_law_hole_paths : Cal P w K mg base 4 "_law_hole_paths" ["_law_rows_here", "_law_stump_here"] (spHoleP K)) : Cal P w K mg base 5 "_law_common_right" ["_law_rows_here", "_law_told", "_law_stumps"] (spCmR K) := by
  refine cal_of F.1 F.2 sc_cmR (fun _ _ _ _ _ _ us e => match us, e with | [_, _, _], _ => rfl) (fun vs H Q E s => by obtain ⟨_, _, _, _, _, _, _, _, rfl, _⟩ := s; rfl) ?_
  intro cdv A outer s H vs Q E hr h
  obtain ⟨q, r, b, rows, c, t, bs, us, rfl, hRL, st, hR, ok, hsz, hb, hP, hbl, hul, hA, hB, hq⟩ := h
  have hu := hu_of hr
  have sc := sc_cmR
  refine ⟨_, (pss_cons (ps_if (pt_not (pt_val (pe_cal c_law_stump hr (pa_cons (pv 1) (pa_cons (pv 0) pa_nil)))))
        (pss_one (ps_ret pe_bl))
        pss_nil)
      (pss_cons (ps_setLc (i := 3) (own := [("_law_stump_here", 7)]) (g := gName 7) rfl sc.nd rfl rfl (sw_true rfl rfl rfl (by decide +kernel)) (pi_list (pv 2)) (blkOk_by (N := N_cmR) (sc := defScope (top 64)) (by decide +kernel)) (fun _ _ _ _ _ => (pg_name (i := 7) sc.nd rfl (Or.inl rfl))) (fun _ _ _ _ _ => pts_nil) (fun _ _ _ _ _ => (pe_cal c_law_kinds hr (pa_cons (pv 0) (pa_cons (pv 7) pa_nil)))))
      (pss_cons (ps_for (passes_of rfl) rfl (pi_list (pv 3)) (pg_name (i := 4) sc.nd rfl (Or.inl rfl))
        (pss_one (ps_if (pt_not (pt_val (pe_cal c_law_is_begun hr (pa_cons (pe_cal c_law_kinds hr (pa_cons (pv 0) (pa_cons (pv 1) pa_nil))) (pa_cons (pv 4) pa_nil)))))
          (pss_one (ps_ret pe_bl))
          pss_nil)))
      (pss_cons (ps_for (passes_of rfl) rfl (pi_list (pe_cal c_law_hole_paths hr (pa_cons (pv 0) (pa_cons (pv 1) pa_nil)))) (pg_name (i := 5) sc.nd rfl (Or.inr rfl))
        (pss_cons (ps_setLc (i := 6) (own := [("_law_table", 4)]) (g := gName 4) rfl sc.nd rfl rfl (sw_true rfl rfl rfl (by decide +kernel)) (pi_list (pv 3)) (blkOk_by (N := N_cmR) (sc := defScope (top 64)) (by decide +kernel)) (fun _ _ _ _ _ => (pg_name (i := 4) sc.nd rfl (Or.inl rfl))) (fun _ _ _ _ _ => pts_nil) (fun _ _ _ _ _ => (pe_dget2 hu (pv 4) (pv 5) pe_str ⟨rfl, rfl, rfl, rfl⟩)))
        (pss_one (ps_if (PW.pt (pw_and (pt_cmpR op_ne (pe_ix ix_list (pv 6) pe_int (fun _ _ => rfl)) pe_str (nomark _)) (pw_and1 (pt_cmpR op_eq (pe_bm PySem.F.plainAttrs_list PySem.F.slot_list_count PySem.F.type_list_count mt_lcountF (pv 6) (pa_cons (pe_ix ix_list (pv 6) pe_int (fun _ _ => rfl)) pa_nil)) (pe_callB call_len_seq (by rfl) T.len (by decide +kernel) (pa_cons (pv 6) pa_nil)) (nomark _)))))
          (pss_one (ps_ret pe_bl))
          pss_nil))))
      (pss_one (ps_ret pe_bl)))))), ?_⟩
  have hbu := paired_len hP
  refine ⟨_, rfl, _, rfl, r, q, rows, c, rfl, hRL, hR, ok, st, hsz, _, rfl, iteF ?_⟩
  refine ⟨_, rfl, b, rfl, ⟨_, SqL.of hb⟩, fun D hD => ?_⟩
  refine lc_it (n := (bs.map V.ref).length) (walk_list (K := K) (a := b) (xs := bs.map V.ref)) (fun i H' => ∃ B ds, Same H B ∧ Hs B [(D, .lst (ds.map V.ref))] H' ∧ Paired (TabAt B) ds ((t :: us).take i)) ⟨H, [], Same.refl H, (Hs.start H).new hD, .nil⟩ (fun _ _ _ ⟨_, _, s, h, _⟩ => SqL.of (h.sub _ _ (s _ _ hb))) ?_ ?_
  · rintro i x H3 H4 hi ⟨B, ds, sB, hh, hT⟩ ⟨rfl, hx⟩
    obtain ⟨a, ea, rfl⟩ := map_at hx
    rw [List.length_map] at hi
    obtain ⟨u, eu⟩ : ∃ u, (t :: us)[i]? = some u := ⟨_, List.getElem?_eq_getElem (by omega)⟩
    obtain ⟨a', ea', tr⟩ := paired_at hP eu
    rw [ea] at ea'
    cases ea'
    have sH := sB.trans hh.sub
    have dl : ds.length = i := by rw [paired_len hT, List.length_take]; omega
    refine ⟨rfl, ?_⟩
    simp only [tYes, if_true]
    refine ⟨_, rfl, _, rfl, q, a, rows, u, rfl, hRL.mono sH, Same.sqt sH tr.sq, tr.ok, hul u (List.mem_of_getElem? eu), fun H5 d kvs hn s5 hd hk => ?_⟩
    obtain ⟨g1, g2⟩ := hh.after s5
    have hdB : cut [(D, HO.lst (ds.map V.ref))] H5 d = some (.dT kvs) := by rw [cut_at (hh.out_new hn)]; exact hd
    generalize cut [(D, HO.lst (ds.map V.ref))] H5 = B5 at *
    refine ⟨_, g2.r0, by rw [List.length_map, sizeLine_eq]; omega, B5, ds ++ [d], sB.trans g1, ?_, ?_⟩
    · rw [List.map_append]
      exact g2.w0
    · rw [take_at eu]
      exact paired_app (tabs_same hT g1) (.cons ⟨kvs, hdB, hk⟩ .nil)
  rintro H3 ⟨B, ds, sB, hh, hT⟩
  rw [List.length_map, hbu, List.take_length] at hT
  have hdl := paired_len hT
  have hd0 := hh.r0
  have sH3 := sB.trans hh.sub
  have hT3 := tabs_same hT hh.sub
  clear hh hT sB
  refine ⟨_, rfl, D, rfl, ⟨_, SqL.of hd0⟩, for_list (K := K) (a := D) (xs := ds.map V.ref) (fun i σ H' => ∃ t4, σ = [some (.ref q), some (.ref r), some (.ref b), some (.ref D), t4, none, none, none] ∧ Same H3 H') ⟨none, rfl, Same.refl _⟩ (fun _ _ _ _ ⟨_, _, s⟩ => SqL.of (s _ _ hd0)) ?_ ?_⟩
  · rintro i x σ H4 hx ⟨t4, rfl, s4⟩
    obtain ⟨d, ed, rfl⟩ := map_at hx
    have hi := (List.getElem?_eq_some_iff.mp ed).1
    obtain ⟨u, eu⟩ : ∃ u, (t :: us)[i]? = some u := ⟨_, List.getElem?_eq_getElem (by omega)⟩
    obtain ⟨d', ed', tb⟩ := paired_at hT3 eu
    rw [ed] at ed'
    cases ed'
    obtain ⟨k2, hk2, kt2⟩ := tb.same s4
    have sH4 := sH3.trans s4
    refine ⟨_, rfl, _, rfl, q, r, rows, c, rfl, hRL.mono sH4, Same.sqt sH4 hR, ok, hsz, fun H5 e k1 hn s5 he hk1 => ?_⟩
    have ne : e ≠ d := fun z => by rw [z, hk2] at hn; cases hn
    refine ⟨_, rfl, e, d, k1, k2, c, u, rfl, ne, he, s5 _ _ hk2, hk1, kt2, fun bb hbb => ?_⟩
    rw [hbb.mpr (hA u (List.mem_of_getElem? eu))]
    exact ⟨_, rfl, iteF ⟨_, rfl, s4.trans s5⟩⟩
  rintro σ H4 ⟨t4, rfl, s4⟩
  have sH4 := sH3.trans s4
  refine ⟨_, rfl, _, rfl, q, r, rows, c, rfl, hRL.mono sH4, Same.sqt sH4 hR, ok, hsz, fun H5 f qs hn s5 hf hps => ?_⟩
  have sH5 := sH4.trans s5
  have hd5 := s5 _ _ (s4 _ _ hd0)
  have hT5 := tabs_same hT3 (s4.trans s5)
  refine ⟨f, rfl, ⟨_, SqL.of hf⟩, for_list (K := K) (a := f) (xs := qs.map V.ref) (fun i σ H' => ∃ t4 t5 t6, σ = [some (.ref q), some (.ref r), some (.ref b), some (.ref D), t4, t5, t6, none] ∧ Same H5 H') ⟨_, none, none, rfl, Same.refl _⟩ (fun _ _ _ _ ⟨_, _, _, _, s⟩ => SqL.of (s _ _ hf)) ?_ ?_⟩
  · rintro i x σ H6 hx ⟨t4, t5, t6, rfl, s6⟩
    obtain ⟨pa, epa, rfl⟩ := map_at hx
    have hi := (List.getElem?_eq_some_iff.mp epa).1
    have hqp := paired_len hps
    obtain ⟨p, ep⟩ : ∃ p, (hpT c)[i]? = some p := ⟨_, List.getElem?_eq_getElem (by omega)⟩
    obtain ⟨pa', epa', pp⟩ := paired_at hps ep
    rw [epa] at epa'
    cases epa'
    have pp6 := pp.same s6
    obtain ⟨zs, ez1, ez2, hz⟩ := paired_zip (tabs_same hT5 s6)
    have hd6 := s6 _ _ hd5
    have ezm : ds.map V.ref = zs.map fun z => V.ref z.1 := by rw [ez1, List.map_map]; rfl
    rw [ezm] at hd6
    have hzl : zs.length ≤ 100 := by
      have := congrArg List.length ez1
      rw [List.length_map] at this
      omega
    refine ⟨_, rfl, D, rfl, ⟨_, SqL.of hd6⟩, fun D2 hD2 => lc_maps (α := Addr × Tr) (K := K) (a := D) (xs := zs) (f := fun z => V.ref z.1) (out := fun z => V.str (kA z.2 p)) (Hs.start H6) hD2 (fun H' o hh => hh.sub _ _ hd6) (by omega) (fun z hzm H' s' R1 hR1 => ?_) ?_⟩
    · obtain ⟨kvs, hk, kt⟩ := (hz z hzm).same s'
      refine ⟨_, rfl, z.1, rfl, .inr ⟨_, .inl hk⟩, _, rfl, _, DGet.t hk (pp6.same s').key, ?_⟩
      rw [kt.getD]
      exact hR1
    intro H7 h7
    have e7 := h7.r0
    have s7 := h7.sub
    have elz : (zs.map fun z => V.str (kA z.2 p)) = ((t :: us).map fun u => kA u p).map V.str := by rw [ez2, List.map_map, List.map_map]; rfl
    rw [elz] at e7
    have at0' : atI (((t :: us).map fun u => kA u p).map V.str) ((0 : Nat) : Int) = some (.str (kA t p)) := atI_nat (j := 0) rfl
    refine ⟨_, rfl, D2, _, _, _, rfl, rfl, SqL.of e7, at0', rfl, _, rfl, if_ndec (fun c1 => ?_) (fun c1 => ?_)⟩
    · refine ⟨_, rfl, .inl ⟨rfl, _, SqL.of e7⟩, _, rfl, D2, _, _, _, rfl, rfl, SqL.of e7, at0', D2, _, _, rfl, rfl, SqL.of e7, rfl, all_strs _, ?_⟩
      refine ⟨_, rfl, D2, _, rfl, .inl (SqL.of e7), rfl, _, rfl, if_dec (fun c2 => ?_) (fun c2 => ?_)⟩
      · exfalso
        have c2 := V.int.inj c2
        rw [List.length_map] at c2
        have ca := cnt_all (k := kA t p) (ks := (t :: us).map fun u => kA u p) (by omega)
        exact hB p (List.mem_of_getElem? ep) ⟨fun z => c1 (by rw [z]), fun u hu' => ca _ (List.mem_map_of_mem (List.mem_cons_of_mem _ hu'))⟩
      · exact ⟨_, _, _, rfl, s6.trans s7⟩
    · exact ⟨_, _, _, rfl, s6.trans s7⟩
  · rintro σ H6 ⟨t4, t5, t6, rfl, s6⟩
    exact hq _ (sH5.trans s6)
end
end Sy
namespace Sy
open PySem PySem.Spec PyProof.Rows L2
/-- two kinds clash at p -/
def Cl (t u : Tr) (p : List Nat) : Prop := kA t p ≠ "*" ∧ kA u p ≠ "*" ∧ kA u p ≠ kA t p
section
variable {P : Program} {w : World} {K : PySem.W.Frag} {mg : Str → Option Value} {base : Heap}
/-! _law_united_right -/
def spUnR (K : PySem.W.Frag) : Sp := fun vs H Q _ => ∃ (q a b : Addr) (v : V) (rows : List Sy.Row) (t u : Tr), vs = [.ref q, v, .ref a, .ref b] ∧ RL K H q rows ∧ isK rows "*" = false ∧ TrAt K H rows a t ∧ TrAt K H rows b u ∧ (pre t).length ≤ 5000 ∧ (pre u).length ≤ 5000 ∧
  (uni t u = none → v = .non) ∧ (∀ x, uni t u = some x → ∃ p, v = .ref p ∧ SqT K H p ((pre x).map V.str) ∧ (pre x).length ≤ 5000) ∧ ∀ H', Same H H' → Q (.bl true) H'
abbrev N_unR : List Str := ["_law_rows_here", "_law_told", "_law_one", "_law_two", "_law_kinds_here", "_law_kinds2", "_law_clash", "_law_path", "_law_both"]
theorem sc_unR : FnScope N_unR ["_law_rows_here", "_law_told", "_law_one", "_law_two"] (defScope (top 65)) := ⟨rfl, rfl, rfl, by decide +kernel, rfl, by decide +kernel, by decide +kernel⟩
theorem k_unR (T : Txt K mg) (F : DF K mg "_law_united_right" 65) (c_law_stump : Cal P w K mg base 3 "_law_stump" ["_law_told", "_law_rows_here"] (spStumpL K)) (c_law_kinds : Cal P w K mg base 4 "_law_kinds" ["_law_rows_here", "_law_stump_here"] (spKinds K)) (c_law_is_begun : Cal P w K mg base 1 "_law_is_begun" ["_law_kinds_here", "_law_kinds2"] (spBegun K)) : Cal P w K mg base 5 "_law_united_right" ["_law_rows_here", "_law_told", "_law_one", "_law_two"] (spUnR K) := by
  refine cal_of F.1 F.2 sc_unR (fun _ _ _ _ _ _ us e => match us, e with | [_, _, _, _], _ => rfl) (fun vs H Q E s => by obtain ⟨_, _, _, _, _, _, _, rfl, _⟩ := s; rfl) ?_
  intro cdv A outer s H vs Q E hr h
  obtain ⟨q, a, b, v, rows, t, u, rfl, hRL, st, ta, tb, hla, hlb, hn, hs, hq⟩ := h
  have hu := hu_of hr
  have sc := sc_unR
  refine ⟨_, (pss_cons (ps_set (i := 4) sc.nd rfl (Or.inl rfl) (pe_cal c_law_kinds hr (pa_cons (pv 0) (pa_cons (pv 2) pa_nil))))
      (pss_cons (ps_set (i := 5) sc.nd rfl (Or.inl rfl) (pe_cal c_law_kinds hr (pa_cons (pv 0) (pa_cons (pv 3) pa_nil))))
      (pss_cons (ps_set (i := 6) sc.nd rfl (Or.inl rfl) pe_bl)
      (pss_cons (ps_lock (ps_for (passes_of rfl) rfl (pi_keys (pv 4)) (pg_name (i := 7) sc.nd rfl (Or.inl rfl))
        (pss_one (ps_if (PW.pt (pw_and (pt_cmp (pc_din hu (pv 7) (pv 5))) (pw_and1 (pt_cmpR op_ne (pe_dget hu (pv 5) (pv 7) (fun _ _ => rfl)) (pe_dget hu (pv 4) (pv 7) (fun _ _ => rfl)) (nomark _)))))
          (pss_one (ps_set (i := 6) sc.nd rfl (Or.inl rfl) pe_bl))
          pss_nil))))
      (pss_cons (ps_if (pt_val (pv 6))
        (pss_one (ps_ret (pe_cmpR op_isN (pv 1) pe_non (nomark _))))
        pss_nil)
      (pss_cons (ps_if (pt_not (pt_val (pe_cal c_law_stump hr (pa_cons (pv 1) (pa_cons (pv 0) pa_nil)))))
        (pss_one (ps_ret pe_bl))
        pss_nil)
      (pss_cons (ps_set (i := 8) sc.nd rfl (Or.inl rfl) (pe_cal c_law_kinds hr (pa_cons (pv 0) (pa_cons (pv 1) pa_nil))))
      (pss_cons (ps_lock (ps_for (passes_of rfl) rfl (pi_keys (pv 8)) (pg_name (i := 7) sc.nd rfl (Or.inl rfl))
        (pss_one (ps_if (PW.pt (pw_and (pt_cmp (pc_dnotin hu (pv 7) (pv 4))) (pw_and1 (pt_cmp (pc_dnotin hu (pv 7) (pv 5))))))
          (pss_one (ps_ret pe_bl))
          pss_nil))))
      (pss_one (ps_ret (pe_and (pe_cal c_law_is_begun hr (pa_cons (pv 4) (pa_cons (pv 8) pa_nil))) (pe_one (pe_cal c_law_is_begun hr (pa_cons (pv 5) (pa_cons (pv 8) pa_nil))))))))))))))), ?_⟩
  refine ⟨_, rfl, _, rfl, q, a, rows, t, rfl, hRL, ta.sq, ta.ok, hla, fun H1 d k1 hn1 s1 hd1 kt => ?_⟩
  refine ⟨_, rfl, _, rfl, q, b, rows, u, rfl, hRL.mono s1, Same.sqt s1 tb.sq, tb.ok, hlb, fun H2 e k2 hn2 s2 he2 ku => ?_⟩
  have s12 := s1.trans s2
  have hde : d ≠ e := fun z => by rw [← z, hd1] at hn2; cases hn2
  have hd2 := s2 _ _ hd1
  refine ⟨d, _, hd2, trivial, fun od => ?_⟩
  have he3 : upd H2 d (.frz od (.dT k1)) e = some (.dT k2) := by rw [upd_ne (Ne.symm hde)]; exact he2
  have back : upd (upd H2 d (.frz od (.dT k1))) d (.dT k1) = H2 := by rw [upd_upd]; exact upd_self hd2
  refine ⟨_, rfl, d, od, rfl, .inr ⟨k1, upd_same, for_it walk_keysT (fun i σ H' => ∃ t7 c, σ = [some (.ref q), some v, some (.ref a), some (.ref b), some (.ref d), some (.ref e), some (.bl c), t7, none] ∧ H' = upd H2 d (.frz od (.dT k1)) ∧ (c = true → ∃ p, Cl t u p) ∧ (c = false → ∀ j p x, j < i → k1[j]? = some (ky p, x) → ¬ Cl t u p)) ⟨none, false, rfl, rfl, fun z => (nomatch z), fun _ _ _ _ h => absurd h (Nat.not_lt_zero _)⟩ (fun _ _ _ _ ⟨_, _, _, e, _⟩ => by rw [e]; exact upd_same) ?_ ?_⟩⟩
  · rintro i x σ H3 H4 hi ⟨t7, c, rfl, rfl, hc1, hc2⟩ ⟨rfl, k, vv, f, ek, rfl, hf⟩
    obtain ⟨p, rfl, hp⟩ := kt.at_ ek
    have g1 : DGet (upd H2 d (.frz od (.dT k1))) e (.ref f) (valV k2 (ky p)) := DGet.t he3 hf
    have g2 : DGet (upd H2 d (.frz od (.dT k1))) d (.ref f) (valV k1 (ky p)) := .inr ⟨k1, ky p, f, .inr ⟨od, upd_same⟩, rfl, hf, rfl⟩
    rw [kt.one hp] at g2
    have skip : ¬ Cl t u p → (c = true → ∃ p, Cl t u p) ∧ (c = false → ∀ (j : Nat) q x, j < i + 1 → k1[j]? = some (ky q, x) → ¬ Cl t u q) := fun hn => ⟨hc1, fun z j q' x hj ej => by
      by_cases y : j = i
      · subst y
        rw [ek] at ej
        rw [← ky_inj (Prod.mk.inj (Option.some.inj ej)).1]
        exact hn
      · exact hc2 z j q' x (by omega) ej⟩
    refine ⟨_, rfl, _, rfl, e, _, rfl, g1, _, rfl, if_bool (fun c1 => ?_) (fun c1 => ?_)⟩
    · have hku := (ku.isSome p).mp c1
      rw [ku.one hku] at g1
      refine ⟨_, rfl, _, rfl, e, _, rfl, g1, _, rfl, _, rfl, d, _, rfl, g2, rfl, _, rfl, if_ndec (fun c2 => ?_) (fun c2 => ?_)⟩
      · exact ⟨_, true, rfl, rfl, fun _ => ⟨p, hp, hku, fun z => c2 (by rw [z])⟩, fun z => (nomatch z)⟩
      · exact ⟨_, c, rfl, rfl, skip fun z => z.2.2 (V.str.inj c2)⟩
    · exact ⟨_, c, rfl, rfl, skip fun z => by rw [(ku.isSome p).mpr z.2.1] at c1; cases c1⟩
  rintro σ H3 ⟨t7, c, rfl, rfl, hc1, hc2⟩
  refine ⟨upd_same, ?_⟩
  rw [back]
  refine ⟨_, rfl, _, rfl, if_bool (fun c1 => ?_) (fun c1 => ?_)⟩
  · have := hn ((uni_clash st ta.ok tb.ok).mpr (hc1 c1))
    subst this
    exact ⟨_, rfl, rfl, by rw [decide_eq_true rfl]; exact hq _ s12⟩
  · have ncl : ∀ p, ¬ Cl t u p := fun p z => by
      obtain ⟨i, x, hi⟩ := kt.meet z.1
      exact hc2 c1 i p x (List.getElem?_eq_some_iff.mp hi).1 hi z
    cases eu : uni t u with
    | none =>
      obtain ⟨p, z⟩ := (uni_clash st ta.ok tb.ok).mp eu
      exact absurd z (ncl p)
    | some x =>
      obtain ⟨pv', rfl, hx, hlx⟩ := hs x eu
      have okx := uni_ok ta.ok tb.ok eu
      have hat := fun p => uni_at st (p := p) ta.ok tb.ok eu
      refine ⟨_, rfl, _, rfl, pv', q, rows, x, rfl, hRL.mono s12, Same.sqt s12 hx, okx, st, hlx, _, rfl, iteF ?_⟩
      refine ⟨_, rfl, _, rfl, q, pv', rows, x, rfl, hRL.mono s12, Same.sqt s12 hx, okx, hlx, fun H5 g k3 hn5 s5 hg5 kx => ?_⟩
      have hd5 := s5 _ _ hd2
      have he5 := s5 _ _ he2
      have hgd : g ≠ d := fun z => by rw [z, hd2] at hn5; cases hn5
      have hge : g ≠ e := fun z => by rw [z, he2] at hn5; cases hn5
      refine ⟨g, _, hg5, trivial, fun og => ?_⟩
      have hd6 : upd H5 g (.frz og (.dT k3)) d = some (.dT k1) := by rw [upd_ne (Ne.symm hgd)]; exact hd5
      have he6 : upd H5 g (.frz og (.dT k3)) e = some (.dT k2) := by rw [upd_ne (Ne.symm hge)]; exact he5
      have back5 : upd (upd H5 g (.frz og (.dT k3))) g (.dT k3) = H5 := by rw [upd_upd]; exact upd_self hg5
      refine ⟨_, rfl, g, og, rfl, .inr ⟨k3, upd_same, for_it walk_keysT (fun i σ H' => ∃ t7, σ = [some (.ref q), some (.ref pv'), some (.ref a), some (.ref b), some (.ref d), some (.ref e), some (.bl c), t7, some (.ref g)] ∧ H' = upd H5 g (.frz og (.dT k3))) ⟨_, rfl, rfl⟩ (fun _ _ _ _ ⟨_, _, e⟩ => by rw [e]; exact upd_same) ?_ ?_⟩⟩
      · rintro i y σ H6 H7 hi ⟨t7, rfl, rfl⟩ ⟨rfl, k, vv, f, ek, rfl, hf⟩
        obtain ⟨p, rfl, hp⟩ := kx.at_ ek
        refine ⟨_, rfl, _, rfl, d, _, rfl, DGet.t hd6 hf, _, rfl, if_bool (fun c1 => ?_) (fun c1 => ?_)⟩
        · refine ⟨_, rfl, _, rfl, e, _, rfl, DGet.t he6 hf, _, rfl, if_bool (fun c2 => ?_) (fun c2 => ⟨_, rfl, rfl⟩)⟩
          exfalso
          have n1 : kA t p = "*" := by
            by_cases z : kA t p = "*"
            · exact z
            · rw [(kt.isSome p).mpr z] at c1; cases c1
          have n2 : kA u p = "*" := by
            by_cases z : kA u p = "*"
            · exact z
            · rw [(ku.isSome p).mpr z] at c2; cases c2
          have := hat p
          rw [n1, if_neg fun z => z rfl, n2] at this
          exact hp this
        · exact ⟨_, rfl, rfl⟩
      · rintro σ H6 ⟨t7, rfl, rfl⟩
        refine ⟨upd_same, ?_⟩
        rw [back5]
        have s5A := s12.trans s5
        have b1 : Bgn t x := fun p hp => by rw [hat p, if_pos hp]
        have b2 : Bgn u x := fun p hp => by
          rw [hat p]
          by_cases z : kA t p = "*"
          · rw [if_neg fun y => y z]
          · rw [if_pos z]
            exact Decidable.byContradiction fun y => ncl p ⟨z, hp, fun w => y w.symm⟩
        refine ⟨_, rfl, _, rfl, d, g, k1, k3, t, x, rfl, Ne.symm hgd, hd5, hg5, kt, kx, fun bb hbb => ?_⟩
        rw [hbb.mpr b1]
        refine ⟨_, rfl, iteT ⟨_, rfl, _, rfl, e, g, k2, k3, u, x, rfl, Ne.symm hge, he5, hg5, ku, kx, fun bb hbb => ?_⟩⟩
        rw [hbb.mpr b2]
        exact hq _ s5A
end
end Sy
namespace Sy
open PySem PySem.Spec PyProof.Rows L2
theorem Wx.sok {x : Str} (h : Wx x) : PyData.strOk x = true := by
  unfold PyData.strOk
  rw [← Array.all_toList, List.all_eq_true]
  intro c hc
  have := h.2 c hc
  exact decide_eq_true (by omega)
/-- the bed and its rows -/
structure LB (K : PySem.W.Frag) (H : Hp) (a q : Addr) (rows : List Sy.Row) : Prop where
  bed : BedAt K H a rows
  rl : RL K H q rows
  ok : RowsOk rows
  wx : ∀ r ∈ rows, Wx r.1
theorem LB.same {K : PySem.W.Frag} {H H' : Hp} {a q : Addr} {rows : List Sy.Row} (h : LB K H a q rows) (s : Same H H') : LB K H' a q rows := ⟨h.bed.mono (Stay.of s), h.rl.mono s, h.ok, h.wx⟩
theorem LB.st {K : PySem.W.Frag} {H : Hp} {a q : Addr} {rows : List Sy.Row} (h : LB K H a q rows) : isK rows "*" = false := no_hole h.ok
theorem LB.sok {K : PySem.W.Frag} {H : Hp} {a q : Addr} {rows : List Sy.Row} (h : LB K H a q rows) {t : Tr} (ok : okT rows t) : ∀ x ∈ pre t, PyData.strOk x = true := fun x hx => by
  rcases kn_pre ok x hx with k | rfl
  · obtain ⟨r, hr, rfl⟩ := isK_mem k
    exact (h.wx r hr).sok
  · exact Wx.hole.sok
theorem TrAt.im {K : PySem.W.Frag} {H : Hp} {rows : List Sy.Row} {p : Addr} {t : Tr} (h : TrAt K H rows p t) : Im K H (.ref p) (DS (pre t)) := Im.strs h.sq
theorem fit_DS {n : Nat} {l : List Str} (h : l.length ≤ 1000000) : Fit (n + 1) (DS l) := ⟨by rw [List.length_map]; exact h, fun d hd => by
  obtain ⟨x, _, rfl⟩ := List.mem_map.mp hd
  cases n <;> exact trivial⟩
theorem fit_DN {n : Nat} {l : List Nat} (h : l.length ≤ 1000000) : Fit (n + 1) (DN l) := ⟨by rw [List.length_map]; exact h, fun d hd => by
  obtain ⟨x, _, rfl⟩ := List.mem_map.mp hd
  cases n <;> exact trivial⟩
theorem fit_tup {n : Nat} {ds : List PyData} (h : ds.length ≤ 1000000) (g : ∀ d ∈ ds, Fit n d) : Fit (n + 1) (.tuple ds) := ⟨h, g⟩
/-- rows given as data -/
theorem rws_of {K : PySem.W.Frag} {H : Hp} : ∀ {ls : List (List Str)} {xs : List V}, ImA K H xs (ls.map DS) → ∃ bs : List Addr, xs = bs.map V.ref ∧ RwsAt K H bs ls
  | [], xs, h => by
    cases h
    exact ⟨[], rfl, .nil⟩
  | l :: ls, xs, h => by
    rw [List.map_cons] at h
    cases h with
    | cons h1 h2 =>
      obtain ⟨a, rfl, sq⟩ := h1.strsI
      obtain ⟨bs, rfl, r⟩ := rws_of h2
      exact ⟨a :: bs, rfl, .cons sq r⟩
theorem beg_cnt {rows : List Sy.Row} (st : isK rows "*" = false) {t u : Tr} {vs : List Tr} (ok : okT rows t) (oku : okT rows u) (h : beg t u = some vs) : vs.length = (pre t).count ("*" : Str) := by
  have h1 := congrArg List.length (beg_sub st ok oku h)
  rw [List.length_map, List.length_map] at h1
  rw [← h1, ← hpT_eq]
  unfold hpR
  rw [List.length_map]
  have : ∀ (F : List (List Nat)) (l : List Str), F.length = l.length → ((F.zip l).filter fun z => decide (z.2 = ("*" : Str))).length = l.count ("*" : Str) := by
    intro F l
    induction l generalizing F with
    | nil => intro _; cases F <;> rfl
    | cons x l ih =>
      intro hl
      cases F with
      | nil => cases hl
      | cons p F =>
        have ih := ih F (by simpa using hl)
        rw [List.zip_cons_cons, List.filter_cons, List.count_cons]
        by_cases c : x = "*"
        · rw [if_pos (decide_eq_true c), if_pos (by simpa using c), List.length_cons, ih]
        · rw [if_neg (by simpa using c), if_neg (by simpa using c), ih, Nat.add_zero]
  exact this _ _ (apT_len t)
theorem fill_back {rows : List Sy.Row} (st : isK rows "*" = false) {t u : Tr} {vs : List Tr} (ok : okT rows t) (oku : okT rows u) (h : beg t u = some vs) : fillW (pre t) (vs.map pre) = pre u := by
  have := fill_beg st ok oku h [] []
  rw [List.append_nil, List.append_nil] at this
  rw [this, fillW, List.append_nil]
theorem mem_flat {l : List Str} {ls : List (List Str)} (h : l ∈ ls) : l.length ≤ ls.flatten.length := by
  obtain ⟨a, b, rfl⟩ := List.append_of_mem h
  rw [List.flatten_append, List.flatten_cons, List.length_append, List.length_append]
  omega
theorem beg_parts_le {rows : List Sy.Row} (st : isK rows "*" = false) {t u : Tr} {vs : List Tr} (ok : okT rows t) (oku : okT rows u) (h : beg t u = some vs) : ∀ v ∈ vs, (pre v).length ≤ (pre u).length := fun v hv => by
  have c := beg_cnt st ok oku h
  have e := fillW_lenE (pre t) (vs.map pre) (by rw [List.length_map]; exact c)
  rw [fill_back st ok oku h, List.length_map] at e
  have le : (pre t).count ("*" : Str) ≤ (pre t).length := List.count_le_length
  have := mem_flat (List.mem_map_of_mem (f := pre) hv)
  omega
theorem beg_isSome {rows : List Sy.Row} (st : isK rows "*" = false) {t u : Tr} (ok : okT rows t) (oku : okT rows u) {b : Bool} (h : b = true ↔ Bgn t u) : (beg t u).isSome = b := by
  cases e : beg t u with
  | some vs => exact (h.mpr ((beg_iff st ok oku).mp ⟨vs, e⟩)).symm
  | none =>
    cases b with
    | false => rfl
    | true =>
      obtain ⟨vs, e2⟩ := (beg_iff st ok oku).mpr (h.mp rfl)
      rw [e] at e2
      cases e2
section
variable {P : Program} {w : World} {K : PySem.W.Frag} {mg : Str → Option Value} {base : Heap}
/-! _law_pair_right -/
def spPrR (K : PySem.W.Frag) : Sp := fun vs H Q _ => ∃ (q a r o : Addr) (rows : List Sy.Row) (t u : Tr), vs = [.ref q, .ref a, .ref r, .ref o] ∧ LB K H a q rows ∧ TrAt K H rows r t ∧ TrAt K H rows o u ∧ (pre t).length ≤ 2000 ∧ (pre u).length ≤ 2000 ∧ ∀ H', Same H H' → Q (.bl true) H'
abbrev N_prR : List Str := ["_law_rows_here", "_law_bed_here", "_law_one", "_law_two", "_law_begun", "_law_told"]
theorem sc_prR : FnScope N_prR ["_law_rows_here", "_law_bed_here", "_law_one", "_law_two"] (defScope (top 66)) := ⟨rfl, rfl, rfl, by decide +kernel, rfl, by decide +kernel, by decide +kernel⟩
theorem k_prR (F : DF K mg "_law_pair_right" 66) (c_begins : Cal P w K mg base 6 "begins" ["bed", "stump", "other"] (spBegins K)) (c_parts : Cal P w K mg base 5 "parts" ["bed", "stump", "other"] (spParts K)) (c_law_same : Cal P w K mg base 4 "_law_same" ["_law_told", "_law_due"] (spSame K 3)) (c_law_kinds : Cal P w K mg base 4 "_law_kinds" ["_law_rows_here", "_law_stump_here"] (spKinds K)) (c_law_is_begun : Cal P w K mg base 1 "_law_is_begun" ["_law_kinds_here", "_law_kinds2"] (spBegun K)) (c_law_hole_paths : Cal P w K mg base 4 "_law_hole_paths" ["_law_rows_here", "_law_stump_here"] (spHoleP K))
    (c_law_branches_at : Cal P w K mg base 4 "_law_branches_at" ["_law_rows_here", "_law_stump_here", "_law_asked"] (spBrs K)) (c_law_filled : Cal P w K mg base 6 "_law_filled" ["_law_bed_here", "_law_stump_here", "_law_pieces_here"] (spFlL K)) : Cal P w K mg base 7 "_law_pair_right" ["_law_rows_here", "_law_bed_here", "_law_one", "_law_two"] (spPrR K) := by
  refine cal_of F.1 F.2 sc_prR (fun _ _ _ _ _ _ us e => match us, e with | [_, _, _, _], _ => rfl) (fun vs H Q E s => by obtain ⟨_, _, _, _, _, _, _, rfl, _⟩ := s; rfl) ?_
  intro cdv A outer s H vs Q E hr h
  obtain ⟨q, a, r, o, rows, t, u, rfl, lb, ta, tb, hla, hlb, hq⟩ := h
  have sc := sc_prR
  refine ⟨_, (pss_cons (ps_set (i := 4) sc.nd rfl (Or.inl rfl) (pe_cal c_law_is_begun hr (pa_cons (pe_cal c_law_kinds hr (pa_cons (pv 0) (pa_cons (pv 2) pa_nil))) (pa_cons (pe_cal c_law_kinds hr (pa_cons (pv 0) (pa_cons (pv 3) pa_nil))) pa_nil))))
      (pss_cons (ps_if (pt_not (pt_val (pe_cal c_law_same hr (pa_cons (pe_calX c_begins hr (takes_of rfl rfl rfl rfl) (pa_cons (pv 1) (pa_cons (pv 2) (pa_cons (pv 3) pa_nil)))) (pa_cons (pv 4) pa_nil)))))
        (pss_one (ps_ret pe_bl))
        pss_nil)
      (pss_cons (ps_set (i := 5) sc.nd rfl (Or.inl rfl) (pe_calX c_parts hr (takes_of rfl rfl rfl rfl) (pa_cons (pv 1) (pa_cons (pv 2) (pa_cons (pv 3) pa_nil)))))
      (pss_cons (ps_if (pt_not (pt_val (pv 4)))
        (pss_one (ps_ret (pe_cmpR op_isN (pv 5) pe_non (nomark _))))
        pss_nil)
      (pss_cons (ps_if (pt_not (pt_val (pe_cal c_law_same hr (pa_cons (pv 5) (pa_cons (pe_cal c_law_branches_at hr (pa_cons (pv 0) (pa_cons (pv 3) (pa_cons (pe_cal c_law_hole_paths hr (pa_cons (pv 0) (pa_cons (pv 2) pa_nil))) pa_nil)))) pa_nil)))))
        (pss_one (ps_ret pe_bl))
        pss_nil)
      (pss_one (ps_ret (pe_or (pe_cmpR op_gt (pe_bmT PySem.F.slot_tuple_count PySem.F.type_tuple_count mt_tcount (pv 2) (pa_cons pe_str pa_nil)) pe_int (nomark _)) (pe_one (pe_cal c_law_same hr (pa_cons (pe_calX c_law_filled hr (takes_of rfl rfl rfl rfl) (pa_cons (pv 1) (pa_cons (pv 2) (pa_cons (pv 5) pa_nil)))) (pa_cons (pv 3) pa_nil)))))))))))), ?_⟩
  have st := lb.st
  refine ⟨_, rfl, _, rfl, q, r, rows, t, rfl, lb.rl, ta.sq, ta.ok, by omega, fun H1 d k1 hn1 s1 hd1 kt => ?_⟩
  refine ⟨_, rfl, _, rfl, q, o, rows, u, rfl, lb.rl.mono s1, Same.sqt s1 tb.sq, tb.ok, by omega, fun H2 e k2 hn2 s2 he2 ku => ?_⟩
  have s12 := s1.trans s2
  have hde : d ≠ e := fun z => by rw [← z, hd1] at hn2; cases hn2
  refine ⟨d, e, k1, k2, t, u, rfl, hde, s2 _ _ hd1, he2, kt, ku, fun b hb => ?_⟩
  have hsome := beg_isSome st ta.ok tb.ok hb
  have lb2 := lb.same s12
  have ta2 := ta.mono (Stay.of s12)
  have tb2 := tb.mono (Stay.of s12)
  refine ⟨_, rfl, _, rfl, _, rfl, a, r, o, rows, t, u, rfl, lb2.bed, ta2.sq, tb2.sq, lb.sok ta.ok, st, ta.ok, tb.ok, hla, hlb, fun H3 s3 => ?_⟩
  rw [hsome]
  refine ⟨_, rfl, .bl b, .bl b, .bool b, rfl, .bl b, .bl b, trivial, _, rfl, iteF ?_⟩
  have lb3 := lb2.same s3
  have ta3 := ta2.mono (Stay.of s3)
  have tb3 := tb2.mono (Stay.of s3)
  have s13 := s12.trans s3
  cases hbeg : beg t u with
  | none =>
    rw [hbeg] at hsome
    refine ⟨_, rfl, _, rfl, _, rfl, a, r, o, rows, t, u, rfl, lb3.bed, ta3.sq, tb3.sq, lb.sok ta.ok, st, ta.ok, tb.ok, hla, hlb, fun _ H4 s4 => ?_, fun ps z => by rw [hbeg] at z; cases z⟩
    rw [← hsome]
    refine ⟨_, rfl, _, rfl, iteT ⟨_, rfl, rfl, ?_⟩⟩
    rw [decide_eq_true rfl]
    exact hq _ (s13.trans s4)
  | some vs =>
    rw [hbeg] at hsome
    have hcnt := beg_cnt st ta.ok tb.ok hbeg
    have hcl : (pre t).count ("*" : Str) ≤ (pre t).length := List.count_le_length
    refine ⟨_, rfl, _, rfl, _, rfl, a, r, o, rows, t, u, rfl, lb3.bed, ta3.sq, tb3.sq, lb.sok ta.ok, st, ta.ok, tb.ok, hla, hlb, fun z => (by rw [hbeg] at z; cases z), fun ps z H4 v s4 hv => ?_⟩
    rw [hbeg] at z
    cases z
    rw [← hsome]
    refine ⟨_, rfl, _, rfl, iteF ?_⟩
    have lb4 := lb3.same s4
    have ta4 := ta3.mono (Stay.of s4)
    have tb4 := tb3.mono (Stay.of s4)
    have s14 := s13.trans s4
    refine ⟨_, rfl, _, rfl, _, rfl, _, rfl, _, rfl, q, r, rows, t, rfl, lb4.rl, ta4.sq, ta.ok, by omega, fun H5 g qs hn5 s5 hg hqs => ?_⟩
    refine ⟨q, o, g, rows, u, qs, hpT t, vs, rfl, lb4.rl.mono s5, Same.sqt s5 tb4.sq, tb.ok, by omega, hg, hqs, by omega, beg_sub st ta.ok tb.ok hbeg, fun H6 v2 s6 hv2 => ?_⟩
    have s56 := s5.trans s6
    have e1 : (vs.map fun u => DS (pre u)) = (vs.map pre).map DS := by rw [List.map_map]; rfl
    rw [e1] at hv2
    have hle := beg_parts_le st ta.ok tb.ok hbeg
    refine ⟨v, v2, _, rfl, hv.mono (Stay.of s56), hv2, fit_tup (by rw [List.length_map, List.length_map]; omega) (fun d hd => ?_), _, rfl, iteF ?_⟩
    · obtain ⟨l, hl, rfl⟩ := List.mem_map.mp hd
      obtain ⟨x, hx, rfl⟩ := List.mem_map.mp hl
      exact fit_DS (by have := hle x hx; omega)
    have ta6 := ta4.mono (Stay.of s56)
    have tb6 := tb4.mono (Stay.of s56)
    have s16 := s14.trans s56
    refine ⟨_, rfl, ⟨r, _, rfl, ta6.sq, ta6.nd⟩, r, _, _, rfl, rfl, ta6.sq, rfl, all_strs (pre t), ?_⟩
    rw [countP_strs]
    obtain ⟨pb, xs, rfl, hxt, hxi⟩ := (hv.mono (Stay.of s56)).tupI
    obtain ⟨bs, rfl, hbs⟩ := rws_of hxi
    have hbl := paired_len hbs
    rw [List.length_map] at hbl
    refine ⟨_, _, rfl, rfl, _, rfl, if_dec (fun c => ?_) (fun c => ?_)⟩
    · exact hq _ s16
    · have hfb := fill_back st ta.ok tb.ok hbeg
      refine ⟨_, rfl, _, rfl, _, rfl, a, r, pb, rows, t, bs, vs, rfl, (lb4.same s56).bed, ta6.sq, .inr hxt, ⟨st, ta.ok, hla, beg_ok tb.ok hbeg, fun v hv => by have := hle v hv; omega, hcnt, by rw [hfb]; exact hlb, hbs⟩, by omega, fun H7 p7 s7 t7 => ?_⟩
      rw [hfb] at t7
      refine ⟨_, rfl, .ref p7, .ref o, DS (pre u), rfl, Im.strs t7, (tb6.mono (Stay.of s7)).im, fit_DS (by omega), ?_⟩
      exact hq _ (s16.trans s7)
end
end Sy
namespace Sy
open PySem PySem.Spec PyProof.Rows L2
theorem rk_at : ∀ {n : Nat} {rows : List Sy.Row} {x : Str} {j : Nat}, rk n rows x = some j → ∃ k, j = n + k ∧ (rows.map (·.1))[k]? = some x ∧ ∀ (m : Nat) (z : Str), m < k → (rows.map (·.1))[m]? = some z → z ≠ x
  | n, [], x, j, h => by cases h
  | n, r :: rs, x, j, h => by
    rw [rk] at h
    by_cases c : r.1 = x
    · rw [if_pos c] at h
      cases h
      exact ⟨0, rfl, by rw [List.map_cons, ← c]; rfl, fun m z hm => absurd hm (Nat.not_lt_zero _)⟩
    · rw [if_neg c] at h
      obtain ⟨k, h1, h2, h3⟩ := rk_at h
      refine ⟨k + 1, by omega, h2, fun m z hm e => ?_⟩
      cases m with
      | zero => exact fun w => c (by rw [← w]; exact Option.some.inj e)
      | succ m => exact h3 m z (by omega) e
theorem rk_no : ∀ {n : Nat} {rows : List Sy.Row} {x : Str}, rk n rows x = none → ∀ r ∈ rows, r.1 ≠ x
  | n, [], x, _ => fun _ h => nomatch h
  | n, r :: rs, x, h => by
    rw [rk] at h
    by_cases c : r.1 = x
    · rw [if_pos c] at h; cases h
    · rw [if_neg c] at h
      intro s hs
      rcases List.mem_cons.mp hs with rfl | hs
      · exact c
      · exact rk_no h s hs
/-- a word's place in the names and the hole -/
theorem nm_at {rows : List Sy.Row} {x : Str} (st : isK rows "*" = false) (h : isK rows x = true ∨ x = "*") : (rows.map (·.1) ++ [("*" : Str)])[rkD rows x]? = some x ∧ ∀ (m : Nat) (z : Str), m < rkD rows x → (rows.map (·.1) ++ [("*" : Str)])[m]? = some z → z ≠ x := by
  unfold rkD
  cases e : rk 0 rows x with
  | some j =>
    obtain ⟨k, h1, h2, h3⟩ := rk_at e
    have hj : j = k := by omega
    subst hj
    have hl := (List.getElem?_eq_some_iff.mp h2).1
    show (rows.map (·.1) ++ [("*" : Str)])[j]? = some x ∧ ∀ (m : Nat) (z : Str), m < j → _ → _
    refine ⟨by rw [List.getElem?_append_left hl]; exact h2, fun m z hm hz => ?_⟩
    rw [List.getElem?_append_left (by omega)] at hz
    exact h3 m z hm hz
  | none =>
    have hx : x = "*" := h.resolve_left fun k => by
      obtain ⟨r, hr, e2⟩ := isK_mem k
      exact rk_no e r hr e2
    show (rows.map (·.1) ++ [("*" : Str)])[rows.length]? = some x ∧ ∀ (m : Nat) (z : Str), m < rows.length → _ → _
    have hl : (rows.map (·.1)).length = rows.length := List.length_map _
    refine ⟨by rw [← hl, List.getElem?_append_right (Nat.le_refl _), Nat.sub_self, hx]; rfl, fun m z hm hz => ?_⟩
    rw [List.getElem?_append_left (by omega)] at hz
    obtain ⟨r, hr, rfl⟩ := List.mem_map.mp (List.mem_of_getElem? hz)
    exact rk_no e r hr
theorem eqV_str (a b : Str) : eqV (V.str a) (V.str b) = decide (a = b) := by
  by_cases c : a = b
  · subst c
    simp [eqV]
  · simp [eqV, c]
theorem rws_im {K : PySem.W.Frag} {H : Hp} : ∀ {bs : List Addr} {ls : List (List Str)}, RwsAt K H bs ls → ImA K H (bs.map V.ref) (ls.map DS)
  | _, _, .nil => .nil
  | _, _, .cons h t => .cons (Im.strs h) (rws_im t)
section
variable {P : Program} {w : World} {K : PySem.W.Frag} {mg : Str → Option Value} {base : Heap}
/-! _law_alone_right -/
def spAlR (K : PySem.W.Frag) : Sp := fun vs H Q _ => ∃ (q a r : Addr) (rows : List Sy.Row) (t : Tr), vs = [.ref q, .ref a, .ref r] ∧ LB K H a q rows ∧ TrAt K H rows r t ∧ (pre t).length ≤ 2000 ∧ ∀ H', Same H H' → Q (.bl true) H'
abbrev N_alR : List Str := ["_law_rows_here", "_law_bed_here", "_law_stump_here", "_law_names", "_law_row", "_law_word_here"]
theorem sc_alR : FnScope N_alR ["_law_rows_here", "_law_bed_here", "_law_stump_here"] (defScope (top 67)) := ⟨rfl, rfl, rfl, by decide +kernel, rfl, by decide +kernel, by decide +kernel⟩
theorem k_alR (T : Txt K mg) (F : DF K mg "_law_alone_right" 67) (c_holes : Cal P w K mg base 5 "holes" ["bed", "stump"] (spHoles K)) (c_stump_key : Cal P w K mg base 5 "stump_key" ["bed", "stump"] (spKeyS K)) (c_law_same : Cal P w K mg base 4 "_law_same" ["_law_told", "_law_due"] (spSame K 3)) (c_law_hole_paths : Cal P w K mg base 4 "_law_hole_paths" ["_law_rows_here", "_law_stump_here"] (spHoleP K)) : Cal P w K mg base 6 "_law_alone_right" ["_law_rows_here", "_law_bed_here", "_law_stump_here"] (spAlR K) := by
  refine cal_of F.1 F.2 sc_alR (fun _ _ _ _ _ _ us e => match us, e with | [_, _, _], _ => rfl) (fun vs H Q E s => by obtain ⟨_, _, _, _, _, rfl, _⟩ := s; rfl) ?_
  intro cdv A outer s H vs Q E hr h
  obtain ⟨q, a, r, rows, t, rfl, lb, ta, hla, hq⟩ := h
  have sc := sc_alR
  refine ⟨_, (pss_cons (ps_if (pt_not (pt_val (pe_cal c_law_same hr (pa_cons (pe_calX c_holes hr (takes_of rfl rfl rfl rfl) (pa_cons (pv 1) (pa_cons (pv 2) pa_nil))) (pa_cons (pe_callTy call_tuple_of (by rfl) T.tuple (by decide +kernel) (pa_cons (pe_cal c_law_hole_paths hr (pa_cons (pv 0) (pa_cons (pv 2) pa_nil))) pa_nil)) pa_nil)))))
        (pss_one (ps_ret pe_bl))
        pss_nil)
      (pss_cons (ps_set (i := 3) sc.nd rfl (Or.inr rfl) (pe_op op_cat (pe_lc (own := [("_law_row", 4)]) (g := gName 4) (te := tOp (rIxT K) (tVar 4) (tC (.int 0))) rfl sc.nd (pi_list (pv 0)) (blkOk_by (N := N_alR) (sc := defScope (top 67)) (by decide +kernel)) (fun _ _ _ _ _ => (pg_name (i := 4) sc.nd rfl (Or.inl rfl))) (fun _ _ _ _ _ => pts_nil) (fun _ _ _ _ _ => (pe_ix ix_tup (pv 4) pe_int (fun _ _ => rfl)))) (pe_lst (pa_cons pe_str pa_nil))))
      (pss_one (ps_ret (pe_cal c_law_same hr (pa_cons (pe_calX c_stump_key hr (takes_of rfl rfl rfl rfl) (pa_cons (pv 1) (pa_cons (pv 2) pa_nil))) (pa_cons (pe_tup (pa_cons (pe_callB call_len_seq (by rfl) T.len (by decide +kernel) (pa_cons (pv 2) pa_nil)) (pa_cons (pe_callTy call_tuple_of (by rfl) T.tuple (by decide +kernel) (pa_cons (pe_lc (own := [("_law_word_here", 5)]) (g := gName 5) (te := tBM K "list" (rIndex K) (tVar 3) (tCons (tVar 5) tNil)) rfl sc.nd (pi_tup (pv 2)) (blkOk_by (N := N_alR) (sc := defScope (top 67)) (by decide +kernel)) (fun _ _ _ _ _ => (pg_name (i := 5) sc.nd rfl (Or.inl rfl))) (fun _ _ _ _ _ => pts_nil) (fun _ _ _ _ _ => (pe_bm PySem.F.plainAttrs_list PySem.F.slot_list_index PySem.F.type_list_index mt_index (pv 3) (pa_cons (pv 5) pa_nil)))) pa_nil)) pa_nil))) pa_nil))))))), ?_⟩
  have st := lb.st
  have ck := ck_none st ta.ok hla
  refine ⟨_, rfl, _, rfl, a, r, rows, pre t, rfl, lb.bed, ta.sq, fun _ H1 v1 s1 i1 => ?_, fun e z => by rw [ck] at z; cases z⟩
  rw [pths_ap ta.ok, hpT_eq] at i1
  have lb1 := lb.same s1
  have ta1 := ta.mono (Stay.of s1)
  have hpl : (hpT t).length ≤ 1000000 := by
    rw [← hpT_eq]
    unfold hpR
    rw [List.length_map]
    have h1 := List.length_filter_le (fun z : List Nat × Str => decide (z.2 = ("*" : Str))) ((apT t).zip (pre t))
    rw [List.length_zip] at h1
    omega
  refine ⟨_, rfl, _, rfl, q, r, rows, t, rfl, lb1.rl, ta1.sq, ta.ok, by omega, fun H2 f qs hn2 s2 hf hps => ?_⟩
  refine ⟨f, _, rfl, .inl ⟨SqL.of hf, fun p hp => ?_⟩⟩
  have sp := up_same (o := .tup (qs.map V.ref)) hp
  have i2 : Im K (upd H2 p (.tup (qs.map V.ref))) (.ref p) (.tuple ((hpT t).map DN)) := .tup (SqT.of upd_same) (pats_im (pats_same hps sp))
  have fitP : Fit 3 (.tuple ((hpT t).map DN)) := fit_tup (by rw [List.length_map]; exact hpl) fun d hd => by
    obtain ⟨x, hx, rfl⟩ := List.mem_map.mp hd
    refine fit_DN ?_
    have h2 : x ∈ apT t := by
      rw [← hpT_eq] at hx
      unfold hpR at hx
      obtain ⟨z, hz, rfl⟩ := List.mem_map.mp hx
      exact (List.of_mem_zip (List.mem_filter.mp hz).1).1
    rw [← pths_ap ta.ok] at h2
    obtain ⟨i, hi, e⟩ := List.getElem_of_mem h2
    have := pth_le (wt rows (pre t)) (wt rows (pre t)).length i
    have e3 : (pth (wt rows (pre t)) (wt rows (pre t)).length).getD i [] = x := by
      rw [List.getD_eq_getElem?_getD, show (pth (wt rows (pre t)) (wt rows (pre t)).length)[i]? = some x by rw [← e]; exact List.getElem?_eq_getElem hi]
      rfl
    rw [e3] at this
    rw [pths_len, wt_len] at hi
    omega
  refine ⟨v1, .ref p, _, rfl, i1.mono (Stay.of (s2.trans sp)), i2, fitP, _, rfl, iteF ?_⟩
  have lb3 := lb1.same (s2.trans sp)
  have ta3 := ta1.mono (Stay.of (s2.trans sp))
  have s13 := s1.trans (s2.trans sp)
  generalize upd H2 p (.tup (qs.map V.ref)) = H3 at *
  clear i2 i1 hps hf hp sp
  obtain ⟨ps, hps, hP⟩ := lb3.rl
  obtain ⟨zs, rfl, ez, hz⟩ := paired_zip hP
  have hzl : zs.length ≤ 100 := by
    have := lb.ok.le
    rw [ez, List.length_map] at this
    omega
  rw [List.map_map] at hps
  refine ⟨_, rfl, q, rfl, ⟨_, SqL.of hps⟩, fun D hD => lc_maps (α := Addr × Sy.Row) (K := K) (a := q) (xs := zs) (f := fun z => V.ref z.1) (out := fun z => V.str z.2.1) (Hs.start H3) hD (fun H' o hh => hh.sub _ _ hps) (by omega) (fun z hzm H' s' R1 hR1 => ⟨_, rfl, z.1, _, _, _, rfl, rfl, Same.sqt s' (hz z hzm), atI_nat (j := 0) rfl, hR1⟩) ?_⟩
  intro H4 h4
  have e4 := h4.r0
  have e5 : (zs.map fun z => V.str z.2.1) = (rows.map (·.1)).map V.str := by rw [ez, List.map_map, List.map_map]; rfl
  rw [e5] at e4
  have hrl : rows.length ≤ 100 := by rw [ez, List.length_map]; exact hzl
  refine ⟨(by show 1 ≤ sizeLine; decide), fun D2 hD2 => ?_⟩
  have s5 := up_same (o := .lst [.str "*"]) hD2
  refine ⟨D, D2, _, _, rfl, rfl, s5 _ _ e4, upd_same, by rw [List.length_map, List.length_map, sizeLine_eq]; show _ + 1 ≤ _; omega, fun D3 hD3 => ?_⟩
  have s6 := s5.trans (up_same (o := .lst ((rows.map (·.1)).map V.str ++ [.str "*"])) hD3)
  have e6 : (upd (upd H4 D2 (.lst [.str "*"])) D3 (.lst ((rows.map (·.1)).map V.str ++ [.str "*"]))) D3 = some (.lst ((rows.map (·.1) ++ [("*" : Str)]).map V.str)) := by rw [upd_same, List.map_append]; rfl
  generalize upd (upd H4 D2 (.lst [.str "*"])) D3 (.lst ((rows.map (·.1)).map V.str ++ [.str "*"])) = H6 at *
  have s46 := h4.sub.trans s6
  have lb6 := lb3.same s46
  have ta6 := ta3.mono (Stay.of s46)
  have s16 := s13.trans s46
  refine ⟨_, rfl, _, rfl, a, r, rows, pre t, rfl, lb6.bed, ta6.sq, fun _ H7 v7 s7 i7 => ?_, fun e z => by rw [ck] at z; cases z⟩
  have ta7 := ta6.mono (Stay.of s7)
  have e7 := s7 _ _ e6
  refine ⟨_, rfl, r, _, rfl, .inr ta7.sq, ?_⟩
  refine ⟨_, rfl, r, rfl, ⟨_, ta7.sq⟩, fun D4 hD4 => lc_it (n := ((pre t).map V.str).length) (walk_tup (K := K) (a := r) (xs := (pre t).map V.str)) (fun i H' => Hs H7 [(D4, .lst (vN (((pre t).take i).map (rkD rows))))] H') ((Hs.start H7).new hD4) (fun _ _ _ hh => Same.sqt hh.sub ta7.sq) ?_ ?_⟩
  · rintro i x H8 H9 hi hh ⟨rfl, hx⟩
    obtain ⟨y, hy, rfl⟩ := map_at hx
    rw [List.length_map] at hi
    obtain ⟨n1, n2⟩ := nm_at st (kn_pre ta.ok y (List.mem_of_getElem? hy))
    refine ⟨rfl, ?_⟩
    simp only [tYes, if_true]
    refine ⟨_, rfl, .inl ⟨rfl, _, SqL.of (hh.sub _ _ e7)⟩, _, rfl, D3, _, V.str y, rkD rows y, V.str y, rfl, rfl, SqL.of (hh.sub _ _ e7), rfl, all_strs _, by rw [List.getElem?_map, n1]; rfl, by rw [eqV_str]; exact decide_eq_true rfl, fun m z hm hz => ?_, ?_⟩
    · rw [List.getElem?_map] at hz
      cases e1 : (rows.map (·.1) ++ [("*" : Str)])[m]? with
      | none => rw [e1] at hz; cases hz
      | some z' =>
        rw [e1] at hz
        rw [← Option.some.inj hz, eqV_str]
        exact decide_eq_false (n2 m z' hm e1)
    · refine ⟨_, hh.r0, by rw [vN, List.length_map, List.length_map, List.length_take, sizeLine_eq]; omega, ?_⟩
      rw [take_at hy, List.map_append, vN, List.map_append]
      exact hh.w0
  intro H8 hh
  rw [List.length_map, List.take_length] at hh
  refine ⟨D4, _, rfl, .inl ⟨SqL.of hh.r0, fun p8 hp8 => ⟨by show 2 ≤ sizeLine; decide, fun p9 hp9 => ?_⟩⟩⟩
  have s9 := hh.sub.trans ((up_same (o := .tup (vN ((pre t).map (rkD rows)))) hp8).trans (up_same (o := .tup [V.int ((((pre t).map V.str).length : Nat) : Int), .ref p8]) hp9))
  refine ⟨v7, .ref p9, _, rfl, i7.mono (Stay.of s9), .tup (SqT.of upd_same) (.cons ?_ (.cons (Im.nats (SqT.of (up_same hp9 _ _ upd_same))) .nil)), ?_, hq _ ((s16.trans s7).trans s9)⟩
  · rw [List.length_map]
    exact .int _
  · refine fit_tup (by show 2 ≤ 1000000; decide) fun d hd => ?_
    rcases List.mem_cons.mp hd with rfl | hd
    · exact trivial
    · rw [List.mem_singleton.mp hd]
      exact fit_DN (by rw [List.length_map]; omega)
end
end Sy
namespace Sy
open PySem PySem.Spec PyProof.Rows L2
/-- all that the short half carries -/
structure Env1 (K : PySem.W.Frag) (H : Hp) (g a q : Addr) (rows : List Sy.Row) : Prop where
  env : Env0 K H g q rows
  bed : BedAt K H a rows
theorem Env1.lb {K : PySem.W.Frag} {H : Hp} {g a q : Addr} {rows : List Sy.Row} (h : Env1 K H g a q rows) : LB K H a q rows := ⟨h.bed, h.env.rl, h.env.ok, h.env.wx⟩
theorem Env1.dr {K : PySem.W.Frag} {H H' : Hp} {g a q : Addr} {rows : List Sy.Row} (h : Env1 K H g a q rows) (d : Dr g H H') : Env1 K H' g a q rows := ⟨h.env.dr d, h.bed.mono (d.stay h.env.bag)⟩
theorem Env1.same {K : PySem.W.Frag} {H H' : Hp} {g a q : Addr} {rows : List Sy.Row} (h : Env1 K H g a q rows) (s : Same H H') : Env1 K H' g a q rows := ⟨h.env.same s, h.bed.mono (Stay.of s)⟩
section
variable {P : Program} {w : World} {K : PySem.W.Frag} {mg : Str → Option Value} {base : Heap}
/-! _law_fill_right -/
def spFlR (K : PySem.W.Frag) : Sp := fun vs H Q _ => ∃ (g q a r : Addr) (rows : List Sy.Row) (t : Tr), vs = [.ref g, .ref q, .ref a, .ref r] ∧ Env1 K H g a q rows ∧ TrAt K H rows r t ∧ (pre t).length ≤ 100 ∧ ∀ H', Dr g H H' → Q (.bl true) H'
abbrev N_flR : List Str := ["_law_bag_here", "_law_rows_here", "_law_bed_here", "_law_stump_here", "_law_pieces_here", "_law_whole"]
theorem sc_flR : FnScope N_flR ["_law_bag_here", "_law_rows_here", "_law_bed_here", "_law_stump_here"] (defScope (top 68)) := ⟨rfl, rfl, rfl, by decide +kernel, rfl, by decide +kernel, by decide +kernel⟩
theorem k_flR (T : Txt K mg) (F : DF K mg "_law_fill_right" 68) (c_parts : Cal P w K mg base 5 "parts" ["bed", "stump", "other"] (spParts K)) (c_law_same : Cal P w K mg base 4 "_law_same" ["_law_told", "_law_due"] (spSame K 3)) (c_law_pieces : Cal P w K mg base 3 "_law_pieces" ["_law_bag_here", "_law_rows_here", "_law_stump_here"] (spPieces K)) (c_law_with_pieces : Cal P w K mg base 1 "_law_with_pieces" ["_law_stump_here", "_law_pieces_here"] (spWithP K))
    (c_law_filled : Cal P w K mg base 6 "_law_filled" ["_law_bed_here", "_law_stump_here", "_law_pieces_here"] (spFlL K)) : Cal P w K mg base 7 "_law_fill_right" ["_law_bag_here", "_law_rows_here", "_law_bed_here", "_law_stump_here"] (spFlR K) := by
  refine cal_of F.1 F.2 sc_flR (fun _ _ _ _ _ _ us e => match us, e with | [_, _, _, _], _ => rfl) (fun vs H Q E s => by obtain ⟨_, _, _, _, _, _, rfl, _⟩ := s; rfl) ?_
  intro cdv A outer s H vs Q E hr h
  obtain ⟨g, q, a, r, rows, t, rfl, ev, ta, hla, hq⟩ := h
  have sc := sc_flR
  refine ⟨_, (pss_cons (ps_set (i := 4) sc.nd rfl (Or.inl rfl) (pe_cal c_law_pieces hr (pa_cons (pv 0) (pa_cons (pv 1) (pa_cons (pv 3) pa_nil)))))
      (pss_cons (ps_if (pt_cmpR op_gt (pe_callB call_len_seq (by rfl) T.len (by decide +kernel) (pa_cons (pv 4) pa_nil)) pe_int (nomark _))
        (pss_one (ps_ret pe_bl))
        pss_nil)
      (pss_cons (ps_set (i := 5) sc.nd rfl (Or.inl rfl) (pe_cal c_law_with_pieces hr (pa_cons (pv 3) (pa_cons (pv 4) pa_nil))))
      (pss_cons (ps_if (pt_not (pt_val (pe_cal c_law_same hr (pa_cons (pe_calX c_law_filled hr (takes_of rfl rfl rfl rfl) (pa_cons (pv 2) (pa_cons (pv 3) (pa_cons (pv 4) pa_nil)))) (pa_cons (pv 5) pa_nil)))))
        (pss_one (ps_ret pe_bl))
        pss_nil)
      (pss_one (ps_ret (pe_cal c_law_same hr (pa_cons (pe_calX c_parts hr (takes_of rfl rfl rfl rfl) (pa_cons (pv 2) (pa_cons (pv 3) (pa_cons (pv 5) pa_nil)))) (pa_cons (pe_callTy call_tuple_of (by rfl) T.tuple (by decide +kernel) (pa_cons (pv 4) pa_nil)) pa_nil))))))))), ?_⟩
  have st := ev.env.st
  refine ⟨_, rfl, _, rfl, _, rfl, g, q, r, rows, t, rfl, ev.env, ta, by omega, fun H1 p1 as us d1 hn1 hne1 e1 hP1 hl1 h31 => ?_⟩
  have ev1 := ev.dr d1
  have ta1 := ta.mono (d1.stay ev.env.bag)
  have hal := paired_len hP1
  have hcl : (pre t).count ("*" : Str) ≤ (pre t).length := List.count_le_length
  have fl := flat_leT h31
  refine ⟨_, rfl, p1, _, rfl, .inl (SqL.of e1), _, _, rfl, rfl, _, rfl, if_dec (fun c => ?_) (fun c => ?_)⟩
  · exact hq _ d1
  · rw [List.length_map] at c
    have hrw := trs_rws hP1
    have oku := trs_oks hP1
    refine ⟨_, rfl, _, rfl, r, p1, pre t, as, us.map pre, rfl, ta1.sq, e1, hrw, by rw [List.length_map]; exact hl1, by omega, fun H2 p2 s2 t2 n2 => ?_⟩
    obtain ⟨u, hu, he, hbeg⟩ := beg_fill st ta.ok oku hl1
    have hfl := fillW_len (pre t) (us.map pre)
    have ev2 := ev1.same s2
    have ta2 := ta1.mono (Stay.of s2)
    have hrw2 := RwsAt.mono (Stay.of s2) hrw
    have hul : (pre u).length ≤ 2000 := by rw [he]; omega
    refine ⟨_, rfl, _, rfl, _, rfl, a, r, p1, rows, t, as, us, rfl, ev2.bed, ta2.sq, .inl (SqL.of (s2 _ _ e1)), ⟨st, ta.ok, by omega, oku, fun v hv => by have := h31 v hv; omega, hl1, by rw [← he]; exact hul, hrw2⟩, by omega, fun H3 p3 s3 t3 => ?_⟩
    have ft : Fit 3 (DS (fillW (pre t) (us.map pre))) := fit_DS (by rw [← he]; omega)
    refine ⟨_, rfl, .ref p3, .ref p2, _, rfl, Im.strs t3, Im.strs (Same.sqt s3 t2), ft, _, rfl, iteF ?_⟩
    have ev3 := ev2.same s3
    have ta3 := ta2.mono (Stay.of s3)
    rw [← he] at t2
    refine ⟨_, rfl, _, rfl, _, rfl, a, r, p2, rows, t, u, rfl, ev3.bed, ta3.sq, Same.sqt s3 t2, ev.lb.sok ta.ok, st, ta.ok, hu, by omega, hul, fun z => (by rw [hbeg] at z; cases z), fun ps z H4 v s4 hv => ?_⟩
    rw [hbeg] at z
    cases z
    have e4 := s4 _ _ (s3 _ _ (s2 _ _ e1))
    refine ⟨_, rfl, p1, _, rfl, .inl ⟨SqL.of e4, fun p hp => ?_⟩⟩
    have sp := up_same (o := .tup (as.map V.ref)) hp
    have hrw5 := RwsAt.mono (Stay.of (s4.trans sp)) (RwsAt.mono (Stay.of s3) hrw2)
    refine ⟨v, .ref p, _, rfl, hv.mono (Stay.of sp), .tup (SqT.of upd_same) (rws_im hrw5), fit_tup (by rw [List.length_map, List.length_map]; omega) (fun d hd => ?_), hq _ (d1.same (((s2.trans s3).trans s4).trans sp))⟩
    obtain ⟨l, hl, rfl⟩ := List.mem_map.mp hd
    obtain ⟨x, hx, rfl⟩ := List.mem_map.mp hl
    exact fit_DS (by have := h31 x hx; omega)
end
end Sy
/-! the short half's plain facts -/
namespace Sy
open PySem PySem.Spec PyProof.Rows L2
theorem comL_len {rows : List Sy.Row} : ∀ (us : List Tr) (t : Tr), (pre (comL rows t us)).length ≤ (pre t).length
  | [], t => Nat.le_refl _
  | u :: us, t => Nat.le_trans (comL_len us (com rows t u)) (com_len t u)
mutual
theorem uni_len : ∀ {t u v : Tr}, uni t u = some v → (pre v).length ≤ (pre t).length + (pre u).length
  | .nd x bs, .nd y cs, v, h => by
    rw [uni_nd] at h
    by_cases c : x = "*"
    · rw [if_pos c] at h
      rw [← Option.some.inj h]
      omega
    · rw [if_neg c] at h
      by_cases d : y = "*"
      · rw [if_pos d] at h
        rw [← Option.some.inj h]
        omega
      · rw [if_neg d] at h
        by_cases f : x = y
        · rw [if_pos f] at h
          cases e : uniZ bs cs with
          | none => rw [e] at h; cases h
          | some vs =>
            rw [e] at h
            rw [← Option.some.inj h]
            have := uniZ_lenP (ts := bs) (us := cs) e
            show (x :: pres vs).length ≤ (x :: pres bs).length + (y :: pres cs).length
            rw [List.length_cons, List.length_cons, List.length_cons]
            omega
        · rw [if_neg f] at h
          cases h
theorem uniZ_lenP : ∀ {ts us vs : List Tr}, uniZ ts us = some vs → (pres vs).length ≤ (pres ts).length + (pres us).length
  | [], us, vs, h => by
    rw [uniZ] at h
    rw [← Option.some.inj h]
    exact Nat.zero_le _
  | _ :: _, [], vs, h => by
    rw [uniZ] at h
    rw [← Option.some.inj h]
    exact Nat.zero_le _
  | t :: ts, u :: us, vs, h => by
    obtain ⟨v, ws, h1, h2, rfl⟩ := uniZ_cons h
    have a := uni_len h1
    have b := uniZ_lenP h2
    show (pre v ++ pres ws).length ≤ (pre t ++ pres ts).length + (pre u ++ pres us).length
    rw [List.length_append, List.length_append, List.length_append]
    omega
end
theorem com_bgn {rows : List Sy.Row} {t : Tr} {us : List Tr} : ∀ u ∈ t :: us, Bgn (comL rows t us) u := fun u hu p hp => by
  obtain ⟨h1, h2⟩ := comL_kind (tat_of hp) hp
  rcases List.mem_cons.mp hu with rfl | hu
  · exact kA_of h1
  · exact kA_of (h2 u hu)
theorem hp_tat {c : Tr} {p : List Nat} (h : p ∈ hpT c) : tat p c = some ("*" : Str) := by
  rw [← hpT_eq] at h
  unfold hpR at h
  obtain ⟨z, hz, rfl⟩ := List.mem_map.mp h
  obtain ⟨hz1, hz2⟩ := List.mem_filter.mp hz
  obtain ⟨i, hi, e⟩ := List.getElem_of_mem hz1
  rw [List.getElem_zip] at e
  have hi1 : i < (apT c).length := by rw [List.length_zip] at hi; omega
  have hi2 : i < (pre c).length := by rw [List.length_zip] at hi; omega
  have e1 : (apT c)[i]? = some z.1 := by rw [List.getElem?_eq_getElem hi1, ← e]
  have e2 : (pre c)[i]? = some z.2 := by rw [List.getElem?_eq_getElem hi2, ← e]
  rw [apT_tat e1, e2, of_decide_eq_true hz2]
theorem com_holes {rows : List Sy.Row} (st : isK rows "*" = false) {t : Tr} {us : List Tr} (ok : okT rows t) (oku : oks rows us) : ∀ p ∈ hpT (comL rows t us), ¬ (kA t p ≠ "*" ∧ ∀ u ∈ us, kA u p = kA t p) := fun p hp => comL_hole st ok oku (hp_tat hp)
theorem com_six {rows : List Sy.Row} (st : isK rows "*" = false) {t0 t1 t2 t3 : Tr} (h1 : okT rows t1) (h2 : okT rows t2) : comL rows t1 [t2, t3, t0, t2, t1] = comL rows t0 [t1, t2, t3] := by
  show com rows (com rows (com rows (com rows (com rows t1 t2) t3) t0) t2) t1 = com rows (com rows (com rows t0 t1) t2) t3
  have sw : ∀ a b c : Tr, com rows (com rows a b) c = com rows (com rows a c) b := fun a b c => by rw [com_assoc st a b c, com_comm b c, ← com_assoc st a c b]
  rw [sw _ t0 t2, sw _ t3 t2, com_assoc st t1 t2 t2, com_self st h2]
  rw [sw _ t0 t1, sw _ t3 t1, sw _ t2 t1, com_self st h1]
  rw [sw _ t3 t0, sw _ t2 t0, com_comm t1 t0]
end Sy
namespace Sy
open PySem PySem.Spec PyProof.Rows L2
/-- the four stumps and the list of them -/
structure St4 (K : PySem.W.Frag) (H : Hp) (g a q r sA r1 r2 r3 : Addr) (rows : List Sy.Row) (t0 t1 t2 t3 : Tr) : Prop where
  ev : Env1 K H g a q rows
  ls : H sA = some (.lst [.ref r, .ref r1, .ref r2, .ref r3])
  ne : sA ≠ g
  a0 : TrAt K H rows r t0
  a1 : TrAt K H rows r1 t1
  a2 : TrAt K H rows r2 t2
  a3 : TrAt K H rows r3 t3
  l0 : (pre t0).length ≤ 9
  l1 : (pre t1).length ≤ 40
  l2 : (pre t2).length ≤ 40
  l3 : (pre t3).length ≤ 40
theorem St4.same {K : PySem.W.Frag} {H H' : Hp} {g a q r sA r1 r2 r3 : Addr} {rows : List Sy.Row} {t0 t1 t2 t3 : Tr} (h : St4 K H g a q r sA r1 r2 r3 rows t0 t1 t2 t3) (s : Same H H') : St4 K H' g a q r sA r1 r2 r3 rows t0 t1 t2 t3 :=
  ⟨h.ev.same s, s _ _ h.ls, h.ne, h.a0.mono (Stay.of s), h.a1.mono (Stay.of s), h.a2.mono (Stay.of s), h.a3.mono (Stay.of s), h.l0, h.l1, h.l2, h.l3⟩
theorem St4.dr {K : PySem.W.Frag} {H H' : Hp} {g a q r sA r1 r2 r3 : Addr} {rows : List Sy.Row} {t0 t1 t2 t3 : Tr} (h : St4 K H g a q r sA r1 r2 r3 rows t0 t1 t2 t3) (d : Dr g H H') : St4 K H' g a q r sA r1 r2 r3 rows t0 t1 t2 t3 := by
  have s := d.stay h.ev.env.bag
  exact ⟨h.ev.dr d, d.at_ h.ne h.ls, h.ne, h.a0.mono s, h.a1.mono s, h.a2.mono s, h.a3.mono s, h.l0, h.l1, h.l2, h.l3⟩
theorem St4.st {K : PySem.W.Frag} {H : Hp} {g a q r sA r1 r2 r3 : Addr} {rows : List Sy.Row} {t0 t1 t2 t3 : Tr} (h : St4 K H g a q r sA r1 r2 r3 rows t0 t1 t2 t3) : isK rows "*" = false := h.ev.env.st
/-- what united told -/
structure JnAt (K : PySem.W.Frag) (H : Hp) (rows : List Sy.Row) (v : V) (t u : Tr) : Prop where
  non : uni t u = none → v = .non
  one : ∀ x, uni t u = some x → ∃ p, v = .ref p ∧ TrAt K H rows p x
theorem JnAt.mono {K : PySem.W.Frag} {H H' : Hp} {rows : List Sy.Row} {v : V} {t u : Tr} (h : JnAt K H rows v t u) (s : Stay H H') : JnAt K H' rows v t u := ⟨h.non, fun x e => by
  obtain ⟨p, e1, e2⟩ := h.one x e
  exact ⟨p, e1, e2.mono s⟩⟩
section
variable {P : Program} {w : World} {K : PySem.W.Frag} {mg : Str → Option Value} {base : Heap}
theorem united_of {H : Hp} {a r o : Addr} {rows : List Sy.Row} {t u : Tr} {Q : VK} {E : XK} (hb : BedAt K H a rows) (st : isK rows "*" = false) (h1 : TrAt K H rows r t) (h2 : TrAt K H rows o u) (hl : (pre t).length + (pre u).length ≤ 2000)
    (hq : ∀ H' v, Same H H' → JnAt K H' rows v t u → Q v H') : spUnited K [.ref a, .ref r, .ref o] H Q E := by
  refine ⟨a, r, o, rows, t, u, rfl, hb, h1.sq, h2.sq, st, h1.ok, h2.ok, by omega, by omega, fun e H' s => hq H' _ s ⟨fun _ => rfl, fun x z => by rw [e] at z; cases z⟩, fun v e _ H' p s sq nd => hq H' _ s ⟨fun z => (by rw [e] at z; cases z), fun x z => ?_⟩, fun v e z => ?_⟩
  · rw [e] at z
    cases z
    exact ⟨p, rfl, sq, nd, uni_ok h1.ok h2.ok e⟩
  · have := uni_len e
    omega
theorem unR_of {H : Hp} {q a b : Addr} {v : V} {rows : List Sy.Row} {t u : Tr} {Q : VK} {E : XK} (hrl : RL K H q rows) (st : isK rows "*" = false) (h1 : TrAt K H rows a t) (h2 : TrAt K H rows b u) (hl : (pre t).length + (pre u).length ≤ 2000) (j : JnAt K H rows v t u)
    (hq : ∀ H', Same H H' → Q (.bl true) H') : spUnR K [.ref q, v, .ref a, .ref b] H Q E :=
  ⟨q, a, b, v, rows, t, u, rfl, hrl, st, h1, h2, by omega, by omega, j.non, fun x e => by
    obtain ⟨p, e1, e2⟩ := j.one x e
    have := uni_len e
    exact ⟨p, e1, e2.sq, by omega⟩, hq⟩
theorem cmR_of {H : Hp} {q r b : Addr} {rows : List Sy.Row} {t : Tr} {bs : List Addr} {us : List Tr} {Q : VK} {E : XK} (hrl : RL K H q rows) (st : isK rows "*" = false) (h : TrAt K H rows r (comL rows t us)) (hb : H b = some (.lst (bs.map V.ref))) (hP : Paired (TrAt K H rows) bs (t :: us)) (hl : bs.length ≤ 6) (hu : ∀ u ∈ t :: us, (pre u).length ≤ 2000)
    (hq : ∀ H', Same H H' → Q (.bl true) H') : spCmR K [.ref q, .ref r, .ref b] H Q E := by
  have ok := trs_oks hP
  refine ⟨q, r, b, rows, comL rows t us, t, bs, us, rfl, hrl, st, h.sq, h.ok, ?_, hb, hP, by omega, fun u hu' => by have := hu u hu'; omega, com_bgn, com_holes st ok.1 ok.2, hq⟩
  have := comL_len (rows := rows) us t
  have := hu t List.mem_cons_self
  omega
abbrev N_shR : List Str := ["_law_bag_here", "_law_rows_here", "_law_bed_here", "_law_first", "_law_stumps", "_law_many", "_law_shared", "_law_joint", "_law_again", "_law_asked", "_law_one", "_law_two", "_law_six"]
theorem sc_shR : FnScope N_shR ["_law_bag_here"] (defScope (top 69)) := ⟨rfl, rfl, rfl, by decide +kernel, rfl, by decide +kernel, by decide +kernel⟩
theorem rest_shR (c_common : CalR P w K mg base 5 "common" (spStar 2 (spCommon K))) (c_united : Cal P w K mg base 5 "united" ["bed", "first", "second"] (spUnited K)) (c_law_same : Cal P w K mg base 4 "_law_same" ["_law_told", "_law_due"] (spSame K 3)) (c_law_common : Cal P w K mg base 6 "_law_common" ["_law_bed_here", "_law_stumps"] (spCmL K)) (c_law_pair_right : Cal P w K mg base 7 "_law_pair_right" ["_law_rows_here", "_law_bed_here", "_law_one", "_law_two"] (spPrR K))
    {cdv : Value} {A : Around} {outer : List Env} {s : Shared} {H : Hp} {E : XK} (hr : Room 7 (A.deeper (envOfC "_law_short_right" (defScope (top 69)) s.heap.objs.size (He.ga K "_law_short_right") cdv))) :
    ∃ t, PSs (cxOf (L2.CX P w) P w K mg base N_shR "_law_short_right" (defScope (top 69)) (He.ga K "_law_short_right") cdv A outer s H E) ((defBody (top 69)).drop 11) t ∧
      ∀ (Q : VK) (H1 : Hp) (g a q r sA r1 r2 r3 sh : Addr) (rows : List Sy.Row) (t0 t1 t2 t3 : Tr) (t5 v7 v8 : V), (∀ H', Q (.bl true) H') → St4 K H1 g a q r sA r1 r2 r3 rows t0 t1 t2 t3 → TrAt K H1 rows sh (com rows t0 t1) → JnAt K H1 rows v7 t0 t1 →
        t { nx := fun _ H' => Q .non H', rt := Q } [some (.ref g), some (.ref q), some (.ref a), some (.ref r), some (.ref sA), some t5, some (.ref sh), some v7, some v8, none, none, none, none] H1 := by
  have sc := sc_shR
  refine ⟨_, (pss_cons (ps_set (i := 9) sc.nd rfl (Or.inl rfl) (pe_lst (pa_cons (pv 3) (pa_cons (pe_ix ix_list (pv 4) pe_int (fun _ _ => rfl)) (pa_cons (pe_ix ix_list (pv 4) pe_int (fun _ _ => rfl)) (pa_cons (pv 6) pa_nil))))))
      (pss_cons (ps_cut (ps_if (pt_cmpR op_notN (pv 7) pe_non (nomark _))
        (pss_one (ps_expr (pe_bm PySem.F.plainAttrs_list PySem.F.slot_list_append PySem.F.type_list_append mt_append (pv 9) (pa_cons (pv 7) pa_nil))))
        pss_nil))
      (pss_cons (ps_for (passes_of rfl) rfl (pi_list (pv 9)) (pg_name (i := 10) sc.nd rfl (Or.inl rfl))
        (pss_one (ps_for (passes_of rfl) rfl (pi_list (pv 9)) (pg_name (i := 11) sc.nd rfl (Or.inl rfl))
          (pss_one (ps_if (pt_not (pt_val (pe_cal c_law_pair_right hr (pa_cons (pv 1) (pa_cons (pv 2) (pa_cons (pv 10) (pa_cons (pv 11) pa_nil)))))))
            (pss_one (ps_ret pe_bl))
            pss_nil)))))
      (pss_cons (ps_set (i := 12) sc.nd rfl (Or.inl rfl) (pe_calR c_common hr (takes_of rfl rfl rfl rfl) (pa_cons (pv 2) (pa_cons (pe_ix ix_list (pv 4) pe_int (fun _ _ => rfl)) (pa_cons (pe_ix ix_list (pv 4) pe_int (fun _ _ => rfl)) (pa_cons (pe_ix ix_list (pv 4) pe_int (fun _ _ => rfl)) (pa_cons (pv 3) (pa_cons (pe_ix ix_list (pv 4) pe_int (fun _ _ => rfl)) (pa_cons (pe_ix ix_list (pv 4) pe_int (fun _ _ => rfl)) pa_nil)))))))))
      (pss_cons (ps_if (pt_not (pt_val (pe_cal c_law_same hr (pa_cons (pv 12) (pa_cons (pe_calX c_law_common hr (takes_of rfl rfl rfl rfl) (pa_cons (pv 2) (pa_cons (pv 4) pa_nil))) pa_nil)))))
        (pss_one (ps_ret pe_bl))
        pss_nil)
      (pss_one (ps_ret (pe_and (pe_cal c_law_same hr (pa_cons (pv 6) (pa_cons (pe_calR c_common hr (takes_of rfl rfl rfl rfl) (pa_cons (pv 2) (pa_cons (pe_ix ix_list (pv 4) pe_int (fun _ _ => rfl)) (pa_cons (pv 3) pa_nil)))) pa_nil))) (pe_one (pe_cal c_law_same hr (pa_cons (pv 7) (pa_cons (pe_calX c_united hr (takes_of rfl rfl rfl rfl) (pa_cons (pv 2) (pa_cons (pe_ix ix_list (pv 4) pe_int (fun _ _ => rfl)) (pa_cons (pv 3) pa_nil)))) pa_nil)))))))))))), ?_⟩
  intro Q H1 g a q r sA r1 r2 r3 sh rows t0 t1 t2 t3 t5 v7 v8 hq S tsh jn
  have st := S.st
  have ok0 := S.a0.ok
  have ok1 := S.a1.ok
  have ok2 := S.a2.ok
  have ok3 := S.a3.ok
  have l0 := S.l0
  have l1 := S.l1
  have l2 := S.l2
  have l3 := S.l3
  have lsh : (pre (com rows t0 t1)).length ≤ 40 := by have := com_len (rows := rows) t0 t1; omega
  have a1' : atI [V.ref r, .ref r1, .ref r2, .ref r3] (1 : Int) = some (.ref r1) := atI_nat (j := 1) rfl
  have a2' : atI [V.ref r, .ref r1, .ref r2, .ref r3] (2 : Int) = some (.ref r2) := atI_nat (j := 2) rfl
  have a3' : atI [V.ref r, .ref r1, .ref r2, .ref r3] (3 : Int) = some (.ref r3) := atI_nat (j := 3) rfl
  refine ⟨_, rfl, _, rfl, sA, _, _, _, rfl, rfl, SqL.of S.ls, a1', _, rfl, sA, _, _, _, rfl, rfl, SqL.of S.ls, a2', _, rfl, (by show 4 ≤ sizeLine; decide), fun D hD => ?_⟩
  have h2 := (Hs.start H1).new (o := .lst [.ref r, .ref r1, .ref r2, .ref sh]) hD
  have e2 := h2.r0
  have s2 := h2.sub
  generalize upd H1 D (.lst [.ref r, .ref r1, .ref r2, .ref sh]) = H2 at *
  have S2 := S.same s2
  have P4 : Paired (TrAt K H2 rows) [r, r1, r2, sh] [t0, t1, t2, com rows t0 t1] := .cons S2.a0 (.cons S2.a1 (.cons S2.a2 (.cons (tsh.mono (Stay.of s2)) .nil)))
  have L4 : ∀ u ∈ [t0, t1, t2, com rows t0 t1], (pre u).length ≤ 2000 := fun u hu => by
    rcases List.mem_cons.mp hu with rfl | hu
    · omega
    rcases List.mem_cons.mp hu with rfl | hu
    · omega
    rcases List.mem_cons.mp hu with rfl | hu
    · omega
    rw [List.mem_singleton.mp hu]
    omega
  refine ⟨fun σ' H' => ∃ (as : List Addr) (ts : List Tr), σ' = [some (.ref g), some (.ref q), some (.ref a), some (.ref r), some (.ref sA), some t5, some (.ref sh), some v7, some v8, some (.ref D), none, none, none] ∧ Same H1 H' ∧ H' D = some (.lst (as.map V.ref)) ∧ Paired (TrAt K H' rows) as ts ∧ (∀ u ∈ ts, (pre u).length ≤ 2000) ∧ as.length ≤ 5, ?_, ?_⟩
  · cases eu : uni t0 t1 with
    | none =>
      obtain rfl := jn.non eu
      exact ⟨_, rfl, rfl, _, rfl, if_ndec (fun c => absurd rfl c) (fun _ => ⟨[r, r1, r2, sh], [t0, t1, t2, com rows t0 t1], rfl, s2, e2, P4, L4, by show 4 ≤ 5; decide⟩)⟩
    | some x =>
      obtain ⟨px, rfl, tx⟩ := jn.one x eu
      have hux := uni_len eu
      refine ⟨_, rfl, rfl, _, rfl, if_ndec (fun _ => ?_) (fun c => by cases c)⟩
      refine ⟨_, rfl, .inl ⟨rfl, _, SqL.of e2⟩, _, rfl, D, _, _, rfl, rfl, e2, (by show 4 < sizeLine; decide), ?_⟩
      have h3 := h2.w0 (o' := .lst ([V.ref r, .ref r1, .ref r2, .ref sh] ++ [.ref px]))
      refine ⟨[r, r1, r2, sh, px], [t0, t1, t2, com rows t0 t1, x], rfl, h3.sub, h3.r0, ?_, ?_, by show 5 ≤ 5; decide⟩
      · exact .cons (S.a0.mono (Stay.of h3.sub)) (.cons (S.a1.mono (Stay.of h3.sub)) (.cons (S.a2.mono (Stay.of h3.sub)) (.cons (tsh.mono (Stay.of h3.sub)) (.cons (tx.mono (Stay.of h3.sub)) .nil))))
      · intro u hu
        rcases List.mem_append.mp (show u ∈ [t0, t1, t2, com rows t0 t1] ++ [x] from hu) with hu | hu
        · exact L4 u hu
        · rw [List.mem_singleton.mp hu]
          omega
  clear P4 L4 e2 S2 s2 h2
  rintro σ3 H3 ⟨as, ts, rfl, s3, e3, P3, L3, hal⟩
  have S3 := S.same s3
  have hat := paired_len P3
  refine ⟨_, rfl, D, rfl, ⟨_, SqL.of e3⟩, for_list (K := K) (a := D) (xs := as.map V.ref) (fun i σ H' => ∃ t10 t11, σ = [some (.ref g), some (.ref q), some (.ref a), some (.ref r), some (.ref sA), some t5, some (.ref sh), some v7, some v8, some (.ref D), t10, t11, none] ∧ Same H3 H') ⟨none, none, rfl, Same.refl _⟩ (fun _ _ _ _ ⟨_, _, _, s⟩ => SqL.of (s _ _ e3)) ?_ ?_⟩
  · rintro i v σ H4 hv ⟨t10, t11, rfl, s4⟩
    obtain ⟨b1, eb1, rfl⟩ := map_at hv
    obtain ⟨u1, eu1⟩ : ∃ u1, ts[i]? = some u1 := ⟨_, List.getElem?_eq_getElem (by rw [← hat]; exact (List.getElem?_eq_some_iff.mp eb1).1)⟩
    obtain ⟨b1', eb1', tb1⟩ := paired_at P3 eu1
    rw [eb1] at eb1'
    cases eb1'
    have e4 := s4 _ _ e3
    refine ⟨_, rfl, D, rfl, ⟨_, SqL.of e4⟩, for_list (K := K) (a := D) (xs := as.map V.ref) (fun j σ H' => ∃ t11, σ = [some (.ref g), some (.ref q), some (.ref a), some (.ref r), some (.ref sA), some t5, some (.ref sh), some v7, some v8, some (.ref D), some (.ref b1), t11, none] ∧ Same H4 H') ⟨_, rfl, Same.refl _⟩ (fun _ _ _ _ ⟨_, _, s⟩ => SqL.of (s _ _ e4)) ?_ ?_⟩
    · rintro j v2 σ H5 hv2 ⟨t11, rfl, s5⟩
      obtain ⟨b2, eb2, rfl⟩ := map_at hv2
      obtain ⟨u2, eu2⟩ : ∃ u2, ts[j]? = some u2 := ⟨_, List.getElem?_eq_getElem (by rw [← hat]; exact (List.getElem?_eq_some_iff.mp eb2).1)⟩
      obtain ⟨b2', eb2', tb2⟩ := paired_at P3 eu2
      rw [eb2] at eb2'
      cases eb2'
      have s35 := s4.trans s5
      have S5 := S3.same s35
      exact ⟨_, rfl, _, rfl, _, rfl, _, rfl, q, a, b1, b2, rows, u1, u2, rfl, S5.ev.lb, tb1.mono (Stay.of s35), tb2.mono (Stay.of s35), L3 u1 (List.mem_of_getElem? eu1), L3 u2 (List.mem_of_getElem? eu2), fun H6 s6 => ⟨_, rfl, iteF ⟨_, rfl, s5.trans s6⟩⟩⟩
    · rintro σ H5 ⟨t11, rfl, s5⟩
      exact ⟨_, _, rfl, s4.trans s5⟩
  rintro σ4 H4 ⟨t10, t11, rfl, s4⟩
  have s14 := s3.trans s4
  have S4 := S.same s14
  refine ⟨_, rfl, _, rfl, sA, _, _, _, rfl, rfl, SqL.of S4.ls, a1', _, rfl, sA, _, _, _, rfl, rfl, SqL.of S4.ls, a2', _, rfl, sA, _, _, _, rfl, rfl, SqL.of S4.ls, a3', _, rfl, _, rfl, sA, _, _, _, rfl, rfl, SqL.of S4.ls, a2', _, rfl, sA, _, _, _, rfl, rfl, SqL.of S4.ls, a1', ?_⟩
  refine com_of (rows := rows) (r := r1) (t := t1) (bs := [r2, r3, r, r2, r1]) (us := [t2, t3, t0, t2, t1]) S4.ev.bed ⟨st, ?_, .cons S4.a1 (.cons S4.a2 (.cons S4.a3 (.cons S4.a0 (.cons S4.a2 (.cons S4.a1 .nil)))))⟩ (by show 5 ≤ 6; decide) fun H5 p5 s5 t5' => ?_
  · intro u hu
    simp only [List.mem_cons, List.not_mem_nil, or_false] at hu
    rcases hu with rfl | rfl | rfl | rfl | rfl | rfl <;> omega
  have S5 := S4.same s5
  refine ⟨_, rfl, _, rfl, _, rfl, a, sA, rows, [r, r1, r2, r3], t0, [t1, t2, t3], rfl, S5.ev.bed, .inl (SqL.of S5.ls), ⟨st, ?_, .cons S5.a0 (.cons S5.a1 (.cons S5.a2 (.cons S5.a3 .nil)))⟩, by show 4 ≤ 4; decide, fun H6 p6 s6 t6 => ?_⟩
  · intro u hu
    simp only [List.mem_cons, List.not_mem_nil, or_false] at hu
    rcases hu with rfl | rfl | rfl | rfl <;> omega
  rw [com_six st ok1 ok2] at t5'
  have lc := comL_len (rows := rows) [t1, t2, t3] t0
  refine ⟨.ref p5, .ref p6, _, rfl, (t5'.mono (Stay.of s6)).im, t6.im, fit_DS (by omega), _, rfl, iteF ?_⟩
  have S6 := S5.same s6
  have s16 := (s14.trans s5).trans s6
  refine ⟨_, rfl, _, rfl, _, rfl, sA, _, _, _, rfl, rfl, SqL.of S6.ls, a1', _, rfl, ?_⟩
  refine com_of (rows := rows) (r := r1) (t := t1) (bs := [r]) (us := [t0]) S6.ev.bed ⟨st, ?_, .cons S6.a1 (.cons S6.a0 .nil)⟩ (by show 1 ≤ 6; decide) fun H7 p7 s7 t7 => ?_
  · intro u hu
    simp only [List.mem_cons, List.not_mem_nil, or_false] at hu
    rcases hu with rfl | rfl <;> omega
  have ec : comL rows t1 [t0] = com rows t0 t1 := com_comm t1 t0
  rw [ec] at t7
  have s17 := s16.trans s7
  have S7 := S6.same s7
  refine ⟨.ref sh, .ref p7, _, rfl, (tsh.mono (Stay.of s17)).im, t7.im, fit_DS (by omega), _, rfl, iteT ?_⟩
  refine ⟨_, rfl, _, rfl, _, rfl, sA, _, _, _, rfl, rfl, SqL.of S7.ls, a1', _, rfl, ?_⟩
  dsimp only [tNil]
  refine united_of S7.ev.bed st S7.a1 S7.a0 (by omega) fun H8 v9 s8 j8 => ?_
  have s18 := s17.trans s8
  have jn8 := jn.mono (Stay.of s18)
  have euc := uni_comm st ok1 ok0
  cases eu : uni t0 t1 with
  | none =>
    obtain rfl := jn8.non eu
    obtain rfl := j8.non (by rw [euc, eu])
    exact ⟨.non, .non, .none, rfl, .non, .non, trivial, hq _⟩
  | some x =>
    obtain ⟨p1, rfl, x1⟩ := jn8.one x eu
    obtain ⟨p2, rfl, x2⟩ := j8.one x (by rw [euc, eu])
    have hux := uni_len eu
    exact ⟨.ref p1, .ref p2, _, rfl, x1.im, x2.im, fit_DS (by omega), hq _⟩
/-! _law_short_right -/
def spShR (K : PySem.W.Frag) : Sp := fun vs H Q _ => ∃ g : Addr, vs = [.ref g] ∧ Bag g H ∧ ∀ H', Q (.bl true) H'
theorem k_shR (T : Txt K mg) (F : DF K mg "_law_short_right" 69) (c_common : CalR P w K mg base 5 "common" (spStar 2 (spCommon K))) (c_united : Cal P w K mg base 5 "united" ["bed", "first", "second"] (spUnited K)) (c_law_draw : Cal P w K mg base 1 "_law_draw" ["_law_bag_here", "_law_size"] spDraw) (c_law_rows : Cal P w K mg base 4 "_law_rows" ["_law_bag_here", "_law_most"] (spRows K)) (c_law_bed : Cal P w K mg base 5 "_law_bed" ["_law_rows_here"] (spBed K)) (c_law_plant : Cal P w K mg base 2 "_law_plant" ["_law_bag_here", "_law_rows_here", "_law_most", "_law_with_holes"] (spPlantL K))
    (c_law_same : Cal P w K mg base 4 "_law_same" ["_law_told", "_law_due"] (spSame K 3)) (c_law_related : Cal P w K mg base 4 "_law_related" ["_law_bag_here", "_law_rows_here", "_law_stump_here"] (spRel K)) (c_law_common : Cal P w K mg base 6 "_law_common" ["_law_bed_here", "_law_stumps"] (spCmL K)) (c_law_common_right : Cal P w K mg base 5 "_law_common_right" ["_law_rows_here", "_law_told", "_law_stumps"] (spCmR K)) (c_law_united_right : Cal P w K mg base 5 "_law_united_right" ["_law_rows_here", "_law_told", "_law_one", "_law_two"] (spUnR K))
    (c_law_pair_right : Cal P w K mg base 7 "_law_pair_right" ["_law_rows_here", "_law_bed_here", "_law_one", "_law_two"] (spPrR K)) (c_law_alone_right : Cal P w K mg base 6 "_law_alone_right" ["_law_rows_here", "_law_bed_here", "_law_stump_here"] (spAlR K)) (c_law_fill_right : Cal P w K mg base 7 "_law_fill_right" ["_law_bag_here", "_law_rows_here", "_law_bed_here", "_law_stump_here"] (spFlR K)) : Cal P w K mg base 8 "_law_short_right" ["_law_bag_here"] (spShR K) := by
  refine cal_of F.1 F.2 sc_shR (fun _ _ _ _ _ _ us e => match us, e with | [_], _ => rfl) (fun vs H Q E s => by obtain ⟨_, rfl, _⟩ := s; rfl) ?_
  intro cdv A outer s H vs Q E hr h
  obtain ⟨g, rfl, hg, hq⟩ := h
  have sc := sc_shR
  obtain ⟨tR, pR, hR⟩ := rest_shR (P := P) (w := w) (K := K) (mg := mg) (base := base) c_common c_united c_law_same c_law_common c_law_pair_right (cdv := cdv) (A := A) (outer := outer) (s := s) (H := H) (E := E) hr
  refine ⟨_, (pss_cons (ps_set (i := 1) sc.nd rfl (Or.inl rfl) (pe_cal c_law_rows hr (pa_cons (pv 0) (pa_cons pe_int pa_nil))))
      (pss_cons (ps_set (i := 2) sc.nd rfl (Or.inl rfl) (pe_cal c_law_bed hr (pa_cons (pv 1) pa_nil)))
      (pss_cons (ps_set (i := 3) sc.nd rfl (Or.inl rfl) (pe_cal c_law_plant hr (pa_cons (pv 0) (pa_cons (pv 1) (pa_cons (pe_op op_add pe_int (pe_cal c_law_draw hr (pa_cons (pv 0) (pa_cons pe_int pa_nil)))) (pa_cons pe_bl pa_nil))))))
      (pss_cons (ps_set (i := 4) sc.nd rfl (Or.inl rfl) (pe_lst (pa_cons (pv 3) (pa_cons (pe_cal c_law_related hr (pa_cons (pv 0) (pa_cons (pv 1) (pa_cons (pv 3) pa_nil)))) (pa_cons (pe_cal c_law_related hr (pa_cons (pv 0) (pa_cons (pv 1) (pa_cons (pv 3) pa_nil)))) (pa_cons (pe_cal c_law_related hr (pa_cons (pv 0) (pa_cons (pv 1) (pa_cons (pv 3) pa_nil)))) pa_nil))))))
      (pss_cons (ps_for (passes_of rfl) rfl (pi_list (pe_lst (pa_cons pe_int (pa_cons pe_int (pa_cons pe_int pa_nil))))) (pg_name (i := 5) sc.nd rfl (Or.inl rfl))
        (pss_one (ps_if (pt_not (pt_val (pe_cal c_law_common_right hr (pa_cons (pv 1) (pa_cons (pe_calX c_law_common hr (takes_of rfl rfl rfl rfl) (pa_cons (pv 2) (pa_cons (pe_slice sl_list (pv 4) po_none (po_some (pv 5))) pa_nil))) (pa_cons (pe_slice sl_list (pv 4) po_none (po_some (pv 5))) pa_nil))))))
          (pss_one (ps_ret pe_bl))
          pss_nil)))
      (pss_cons (ps_set (i := 6) sc.nd rfl (Or.inl rfl) (pe_calR c_common hr (takes_of rfl rfl rfl rfl) (pa_cons (pv 2) (pa_cons (pv 3) (pa_cons (pe_ix ix_list (pv 4) pe_int (fun _ _ => rfl)) pa_nil)))))
      (pss_cons (ps_if (pt_not (pt_val (pe_cal c_law_common_right hr (pa_cons (pv 1) (pa_cons (pv 6) (pa_cons (pe_slice sl_list (pv 4) po_none (po_some pe_int)) pa_nil))))))
        (pss_one (ps_ret pe_bl))
        pss_nil)
      (pss_cons (ps_set (i := 7) sc.nd rfl (Or.inl rfl) (pe_calX c_united hr (takes_of rfl rfl rfl rfl) (pa_cons (pv 2) (pa_cons (pv 3) (pa_cons (pe_ix ix_list (pv 4) pe_int (fun _ _ => rfl)) pa_nil)))))
      (pss_cons (ps_if (PW.pt (pw_or (pt_not (pt_val (pe_cal c_law_united_right hr (pa_cons (pv 1) (pa_cons (pv 7) (pa_cons (pv 3) (pa_cons (pe_ix ix_list (pv 4) pe_int (fun _ _ => rfl)) pa_nil))))))) (pw_or1 (pt_not (pt_val (pe_cal c_law_alone_right hr (pa_cons (pv 1) (pa_cons (pv 2) (pa_cons (pv 3) pa_nil)))))))))
        (pss_one (ps_ret pe_bl))
        pss_nil)
      (pss_cons (ps_set (i := 8) sc.nd rfl (Or.inl rfl) (pe_calX c_united hr (takes_of rfl rfl rfl rfl) (pa_cons (pv 2) (pa_cons (pe_ix ix_list (pv 4) pe_int (fun _ _ => rfl)) (pa_cons (pe_ix ix_list (pv 4) pe_int (fun _ _ => rfl)) pa_nil)))))
      (pss_cons (ps_if (PW.pt (pw_or (pt_not (pt_val (pe_cal c_law_united_right hr (pa_cons (pv 1) (pa_cons (pv 8) (pa_cons (pe_ix ix_list (pv 4) pe_int (fun _ _ => rfl)) (pa_cons (pe_ix ix_list (pv 4) pe_int (fun _ _ => rfl)) pa_nil))))))) (pw_or1 (pt_not (pt_val (pe_cal c_law_fill_right hr (pa_cons (pv 0) (pa_cons (pv 1) (pa_cons (pv 2) (pa_cons (pv 3) pa_nil))))))))))
        (pss_one (ps_ret pe_bl))
        pss_nil)
      pR))))))))))), ?_⟩
  refine ⟨_, rfl, g, 5, rfl, hg, by decide, by decide, fun q ps rows H1 rw1 d1 hqg hq1 hp1 => ?_⟩
  have rl1 : RL K H1 q rows := ⟨ps, hq1, hp1⟩
  refine ⟨_, rfl, q, rows, rfl, rl1, rw1.ok, rw1.pos, fun H2 a s2 b2 => ?_⟩
  have ev2 : Env1 K H2 g a q rows := ⟨⟨d1.bag.same s2, hqg, rl1.mono s2, rw1.ok, fun r hr => (rw1.wd r hr).wx⟩, b2⟩
  have st := ev2.env.st
  clear rl1 hp1 hq1 s2 b2 d1
  refine ⟨_, rfl, _, rfl, _, rfl, g, 9, rfl, ev2.env.bag, by decide, by decide, fun dr H3 hdr d3 => ?_⟩
  have ev3 := ev2.dr d3
  refine ⟨_, _, rfl, rfl, g, q, 1 + dr, true, rows, by dsimp only; rw [int1], ev3.env.bag, hqg, ev3.env.rl, ev3.env.ok, ev3.env.wx, by omega, by omega, fun l r H4 hl1 hl2 hfa d4 rw4 => ?_⟩
  obtain ⟨t0, hu0, rfl⟩ := tree_of hfa
  have ev4 := ev3.dr d4
  have a04 : TrAt K H4 rows r t0 := ⟨rw4.sq, rw4.nd, hu0⟩
  have l0 : (pre t0).length ≤ 9 := by omega
  clear rw4 d4 ev3 d3 ev2
  refine ⟨_, rfl, _, rfl, _, rfl, _, rfl, g, q, r, rows, t0, rfl, ev4.env, a04, l0, fun H5 r1 t1 l1 d5 a15 => ?_⟩
  have ev5 := ev4.dr d5
  have a05 := a04.mono (d5.stay ev4.env.bag)
  refine ⟨_, rfl, _, rfl, _, rfl, g, q, r, rows, t0, rfl, ev5.env, a05, l0, fun H6 r2 t2 l2 d6 a26 => ?_⟩
  have ev6 := ev5.dr d6
  have st6 := d6.stay ev5.env.bag
  refine ⟨_, rfl, _, rfl, _, rfl, g, q, r, rows, t0, rfl, ev6.env, a05.mono st6, l0, fun H7 r3 t3 l3 d7 a37 => ?_⟩
  have ev7 := ev6.dr d7
  have st7 := d7.stay ev6.env.bag
  refine ⟨(by show 4 ≤ sizeLine; decide), fun sA hsA => ?_⟩
  have sN := up_same (o := .lst [.ref r, .ref r1, .ref r2, .ref r3]) hsA
  have S : St4 K (upd H7 sA (.lst [.ref r, .ref r1, .ref r2, .ref r3])) g a q r sA r1 r2 r3 rows t0 t1 t2 t3 :=
    ⟨ev7.same sN, upd_same, fun z => (by obtain ⟨_, _, e⟩ := ev7.env.bag; rw [z, e] at hsA; cases hsA), ((a05.mono st6).mono st7).mono (Stay.of sN), ((a15.mono st6).mono st7).mono (Stay.of sN), (a26.mono st7).mono (Stay.of sN), a37.mono (Stay.of sN), l0, l1, l2, l3⟩
  generalize upd H7 sA (.lst [.ref r, .ref r1, .ref r2, .ref r3]) = H8 at *
  clear a05 st6 st7 a15 a26 a37 sN ev7 ev6 ev5 ev4 a04
  refine ⟨(by show 3 ≤ sizeLine; decide), fun M hM => ?_⟩
  have sM := up_same (o := .lst [.int 1, .int 3, .int 4]) hM
  have eM : upd H8 M (.lst [.int 1, .int 3, .int 4]) M = some (.lst [.int 1, .int 3, .int 4]) := upd_same
  generalize upd H8 M (.lst [.int 1, .int 3, .int 4]) = H9 at *
  have S9 := S.same sM
  clear S sM
  refine ⟨M, rfl, ⟨_, SqL.of eM⟩, for_list (K := K) (a := M) (xs := [V.int 1, .int 3, .int 4]) (fun i σ H' => ∃ t5, (0 < i → ∃ v5, t5 = some v5) ∧ σ = [some (.ref g), some (.ref q), some (.ref a), some (.ref r), some (.ref sA), t5, none, none, none, none, none, none, none] ∧ Same H9 H') ⟨none, fun z => absurd z (Nat.not_lt_zero _), rfl, Same.refl _⟩ (fun _ _ _ _ ⟨_, _, _, s⟩ => SqL.of (s _ _ eM)) ?_ ?_⟩
  · rintro i v σ H10 hv ⟨t5, _, rfl, s10⟩
    have S10 := S9.same s10
    obtain ⟨n, bs, us, rfl, hcut, hP, hbl, hul⟩ : ∃ (n : Nat) (bs : List Addr) (us : List Tr), v = .int (n : Nat) ∧ cutV [V.ref r, .ref r1, .ref r2, .ref r3] none (some (n : Int)) = (r :: bs).map V.ref ∧ Paired (TrAt K H10 rows) (r :: bs) (t0 :: us) ∧ (r :: bs).length ≤ 4 ∧ ∀ u ∈ t0 :: us, (pre u).length ≤ 2000 := by
      match i, hv with
      | 0, hv =>
        cases hv
        refine ⟨1, [], [], rfl, rfl, .cons S10.a0 .nil, by show 1 ≤ 4; decide, fun u hu => ?_⟩
        rw [List.mem_singleton.mp hu]
        omega
      | 1, hv =>
        cases hv
        refine ⟨3, [r1, r2], [t1, t2], rfl, rfl, .cons S10.a0 (.cons S10.a1 (.cons S10.a2 .nil)), by show 3 ≤ 4; decide, fun u hu => ?_⟩
        simp only [List.mem_cons, List.not_mem_nil, or_false] at hu
        rcases hu with rfl | rfl | rfl <;> omega
      | 2, hv =>
        cases hv
        refine ⟨4, [r1, r2, r3], [t1, t2, t3], rfl, rfl, .cons S10.a0 (.cons S10.a1 (.cons S10.a2 (.cons S10.a3 .nil))), by show 4 ≤ 4; decide, fun u hu => ?_⟩
        simp only [List.mem_cons, List.not_mem_nil, or_false] at hu
        rcases hu with rfl | rfl | rfl | rfl <;> omega
      | n + 3, hv => cases hv
    refine ⟨_, rfl, _, rfl, _, rfl, ?_⟩
    dsimp only [tNoPart]
    refine ⟨_, rfl, _, rfl, sA, _, rfl, SqL.of S10.ls, fun p hp => ?_⟩
    rw [hcut]
    have sp := up_same (o := .lst ((r :: bs).map V.ref)) hp
    have ep : upd H10 p (.lst ((r :: bs).map V.ref)) p = some (.lst ((r :: bs).map V.ref)) := upd_same
    generalize upd H10 p (.lst ((r :: bs).map V.ref)) = H11 at *
    have S11 := S10.same sp
    refine ⟨a, p, rows, r :: bs, t0, us, rfl, S11.ev.bed, .inl (SqL.of ep), ⟨st, hul, trs_mono (Stay.of sp) hP⟩, hbl, fun H12 c s12 tc => ?_⟩
    have S12 := S11.same s12
    refine ⟨_, rfl, ?_⟩
    dsimp only [tNoPart]
    refine ⟨_, rfl, _, rfl, sA, _, rfl, SqL.of S12.ls, fun p2 hp2 => ?_⟩
    rw [hcut]
    have sp2 := up_same (o := .lst ((r :: bs).map V.ref)) hp2
    have s3 := (sp.trans s12).trans sp2
    have S13 := S12.same sp2
    try dsimp only [tNil]
    refine cmR_of S13.ev.env.rl st (tc.mono (Stay.of sp2)) upd_same (trs_mono (Stay.of s3) hP) (by omega) hul fun H14 s14 => ?_
    exact ⟨_, rfl, iteF ⟨_, fun _ => ⟨_, rfl⟩, rfl, (s10.trans s3).trans s14⟩⟩
  rintro σ H10 ⟨t5, h5, rfl, s10⟩
  obtain ⟨v5, rfl⟩ := h5 (by show 0 < 3; decide)
  have S10 := S9.same s10
  have a1' : atI [V.ref r, .ref r1, .ref r2, .ref r3] (1 : Int) = some (.ref r1) := atI_nat (j := 1) rfl
  have a2' : atI [V.ref r, .ref r1, .ref r2, .ref r3] (2 : Int) = some (.ref r2) := atI_nat (j := 2) rfl
  have a3' : atI [V.ref r, .ref r1, .ref r2, .ref r3] (3 : Int) = some (.ref r3) := atI_nat (j := 3) rfl
  have L2' : ∀ u ∈ t0 :: [t1], (pre u).length ≤ 2000 := fun u hu => by
    simp only [List.mem_cons, List.not_mem_nil, or_false] at hu
    rcases hu with rfl | rfl <;> omega
  refine ⟨_, rfl, _, rfl, _, rfl, sA, _, _, _, rfl, rfl, SqL.of S10.ls, a1', ?_⟩
  try dsimp only [tNil]
  refine com_of (rows := rows) (r := r) (t := t0) (bs := [r1]) (us := [t1]) S10.ev.bed ⟨st, L2', .cons S10.a0 (.cons S10.a1 .nil)⟩ (by show 1 ≤ 6; decide) fun H11 sh s11 tsh => ?_
  have S11 := S10.same s11
  refine ⟨_, rfl, _, rfl, _, rfl, ?_⟩
  dsimp only [tNoPart]
  refine ⟨_, rfl, sA, _, rfl, SqL.of S11.ls, fun p hp => ?_⟩
  have hcut : cutV [V.ref r, .ref r1, .ref r2, .ref r3] none (some 2) = [r, r1].map V.ref := rfl
  rw [hcut]
  have sp := up_same (o := .lst ([r, r1].map V.ref)) hp
  have S12 := S11.same sp
  try dsimp only [tNil]
  refine cmR_of S12.ev.env.rl st (tsh.mono (Stay.of sp)) upd_same (.cons S12.a0 (.cons S12.a1 .nil)) (by show 2 ≤ 6; decide) L2' fun H13 s13 => ?_
  have S13 := S12.same s13
  have tsh13 := tsh.mono (Stay.of (sp.trans s13))
  refine ⟨_, rfl, iteF ?_⟩
  clear S9 s10 S10 S11 S12 s11 tsh sp hp
  refine ⟨_, rfl, _, rfl, _, rfl, sA, _, _, _, rfl, rfl, SqL.of S13.ls, a1', ?_⟩
  try dsimp only [tNil]
  refine united_of S13.ev.bed st S13.a0 S13.a1 (by omega) fun H14 v7 s14 j7 => ?_
  have S14 := S13.same s14
  have tsh14 := tsh13.mono (Stay.of s14)
  refine ⟨_, rfl, _, rfl, _, rfl, _, rfl, sA, _, _, _, rfl, rfl, SqL.of S14.ls, a1', ?_⟩
  try dsimp only [tNil]
  refine unR_of S14.ev.env.rl st S14.a0 S14.a1 (by omega) j7 fun H15 s15 => ?_
  have S15 := S14.same s15
  refine ⟨_, rfl, iteF ?_⟩
  refine ⟨_, rfl, _, rfl, _, rfl, q, a, r, rows, t0, rfl, S15.ev.lb, S15.a0, by omega, fun H16 s16 => ⟨_, rfl, iteF ?_⟩⟩
  have S16 := S15.same s16
  have tsh16 := tsh14.mono (Stay.of (s15.trans s16))
  have j16 := j7.mono (Stay.of (s15.trans s16))
  clear S13 S14 S15 tsh13 tsh14 s13 s14 s15 s16 j7
  refine ⟨_, rfl, _, rfl, sA, _, _, _, rfl, rfl, SqL.of S16.ls, a2', _, rfl, sA, _, _, _, rfl, rfl, SqL.of S16.ls, a3', ?_⟩
  try dsimp only [tNil]
  refine united_of S16.ev.bed st S16.a2 S16.a3 (by omega) fun H17 v8 s17 j8 => ?_
  have S17 := S16.same s17
  refine ⟨_, rfl, _, rfl, _, rfl, sA, _, _, _, rfl, rfl, SqL.of S17.ls, a2', _, rfl, sA, _, _, _, rfl, rfl, SqL.of S17.ls, a3', ?_⟩
  try dsimp only [tNil]
  refine unR_of S17.ev.env.rl st S17.a2 S17.a3 (by omega) j8 fun H18 s18 => ?_
  have S18 := S17.same s18
  refine ⟨_, rfl, iteF ?_⟩
  refine ⟨_, rfl, _, rfl, _, rfl, _, rfl, g, q, a, r, rows, t0, rfl, S18.ev, S18.a0, by omega, fun H19 d19 => ⟨_, rfl, iteF ?_⟩⟩
  have st19 := (Stay.of (s17.trans s18)).trans (d19.stay S18.ev.env.bag)
  exact hR Q H19 g a q r sA r1 r2 r3 sh rows t0 t1 t2 t3 v5 v7 v8 hq (S18.dr d19) (tsh16.mono st19) (j16.mono st19)
end
end Sy
namespace Sy
open PySem PySem.Spec PyProof.Rows L2
/-- f(..), f with a star, within a try -/
theorem pe_calRX {X : Cx} {W : WX} {k j : Nat} {x : Str} {sp : Sp} {p pos : Pos} {e : Expr} {es : List Expr} {t : TA} (c : CalR X.prog X.w X.K X.mg X.base j x sp) (hr : Room k X.A) (tk : Takes X W) (ha : PA X (e :: es) t) (hk : j ≤ k := by decide) (hg : Gl X x := by rfl) (hdb : (x == ("__debug__" : Str)) = false := by decide)
    (he : starEach (e :: es) X.env = (false, eval e X.env) :: starEach es X.env := by rfl) (hpl : (backTo pos (starEach es X.env)).any (·.1) = false := by rfl) : PE X (.Call (.Name x p) (e :: es) [] pos) (fun σ H Q => t σ H fun vs H1 => sp vs H1 Q (WE W σ)) := by
  constructor
  intro pins s σ H Q I h
  refine wpAny_Call_Name_kw (ld_glob I hg c.at_ ?_ hdb)
  refine PySem.W.callWith_K (h₀ := X.base) I.ok.mod.kin c.kp (thn (ha.run pos pins s σ H _ I h) fun us s1 ⟨vs, H1, I1, r, q⟩ => ⟨I1.kIn, ?_⟩) he hpl
  refine wpAny_call (codeAny_mono (c.fn X.A X.stack s1 H1 us vs Q (WE W σ) (hr.mono hk) I1.env0 r q) fun r s' hq => ?_)
  cases r with
  | error e => exact passAt tk σ pins H1 s1 e s' I1 hq
  | ok fl =>
    cases fl with
    | ret u => exact I1.after hq
    | next => exact False.elim hq
    | brk => exact False.elim hq
    | cont => exact False.elim hq
theorem imf_many {K : PySem.W.Frag} {H : Hp} {fs : List (Str × V)} (h : ImF K H fs Er.many.fds) : fs = ([("limit", .int 2000), ("what", .str "knots")] : List (Str × V)) := by
  have h : ImF K H fs ([("limit", .int 2000), ("what", .str "knots")] : List (Str × PyData)) := h
  cases h with
  | cons a b =>
    cases b with
    | cons c d =>
      cases d
      rw [a.intI, c.strI]
theorem fill_many {rows : List Sy.Row} (st : isK rows "*" = false) {t : Tr} {us : List Tr} (ok : okT rows t) (hl : (pre t).length ≤ 2000) (oku : oks rows us) (hlu : ∀ u ∈ us, (pre u).length ≤ 2000) (hc : us.length = (pre t).count ("*" : Str)) (hf : 2000 < (fillW (pre t) (us.map pre)).length) : fillDue rows (pre t) (us.map pre) = some .many := by
  unfold fillDue
  have hc2 : (us.map pre).length = (pre t).count ("*" : Str) := by rw [List.length_map]; exact hc
  have e := fillW_lenE _ _ hc2
  have cl : (pre t).count ("*" : Str) ≤ (pre t).length := List.count_le_length
  rw [ck_none st ok hl]
  simp only
  rw [if_neg fun z => z hc2, fst_none st oku hlu]
  simp only
  rw [if_pos (by omega)]
def dTold (l : List Str) : PyData := .tuple [.str "told", DS l]
theorem im_told {K : PySem.W.Frag} {H : Hp} {t p : Addr} {l : List Str} (h : SqT K H t [.str "told", .ref p]) (i : SqT K H p (l.map V.str)) : Im K H (.ref t) (dTold l) := .tup h (.cons (.str _) (.cons (Im.strs i) .nil))
section
variable {P : Program} {w : World} {K : PySem.W.Frag} {mg : Str → Option Value} {base : Heap}
theorem filled_of2 {a r : Addr} {rows : List Sy.Row} {t : Tr} {bs : List Addr} {us : List Tr} {H : Hp} {Q : VK} {E : XK} (hb : BedAt K H a rows) (hR : SqT K H r ((pre t).map V.str)) (st : isK rows "*" = false) (ok : okT rows t) (le : (pre t).length ≤ 2000) (oku : oks rows us) (leu : ∀ u ∈ us, (pre u).length ≤ 2000) (cnt : us.length = (pre t).count ("*" : Str)) (at_ : RwsAt K H bs (us.map pre)) (hl : bs.length ≤ 6)
    (h1 : (fillW (pre t) (us.map pre)).length ≤ 2000 → ∀ H' p, Same H H' → SqT K H' p ((fillW (pre t) (us.map pre)).map V.str) → Q (.ref p) H') (h2 : 2000 < (fillW (pre t) (us.map pre)).length → RaE K .many H E) : spStar 2 (spFilled K) (V.ref a :: V.ref r :: bs.map V.ref) H Q E := by
  have hbl := paired_len at_
  refine ⟨[.ref a, .ref r], bs.map V.ref, rfl, rfl, by rw [List.length_map, sizeLine_eq]; omega, fun p hp' => ?_⟩
  have s1 := up_same (o := .tup (bs.map V.ref)) hp'
  refine ⟨a, r, p, rows, pre t, bs, us.map pre, rfl, hb.mono (Stay.of s1), Same.sqt s1 hR, SqT.of upd_same, RwsAt.mono (Stay.of s1) at_, by omega, fun d H' q s t' => ?_, fun e he => ?_⟩
  · refine h1 (Decidable.byContradiction fun c => ?_) H' q (s1.trans s) t'
    rw [fill_many st ok le oku leu cnt (by omega)] at d
    cases d
  · by_cases c : (fillW (pre t) (us.map pre)).length ≤ 2000
    · rw [fill_none st ok le oku leu cnt c] at he
      cases he
    · rw [fill_many st ok le oku leu cnt (by omega)] at he
      cases he
      exact (h2 (by omega)).mono s1
def spLm (K : PySem.W.Frag) : Sp := fun vs H Q _ => ∃ (a r o b : Addr) (k : Nat) (rows : List Sy.Row) (t : Tr) (W : List Str), vs = [.ref a, .ref r, .ref o, .int (k : Nat), .ref b] ∧ BedAt K H a rows ∧ isK rows "*" = false ∧ SqT K H r ((pre t).map V.str) ∧ okT rows t ∧ (pre t).length ≤ 2000 ∧
  ((k = 0 ∧ ∃ (p0 p1 : Addr) (u0 u1 : Tr), H b = some (.lst [.ref p0, .ref p1]) ∧ TrAt K H rows p0 u0 ∧ TrAt K H rows p1 u1 ∧ (pre u0).length ≤ 2000 ∧ (pre u1).length ≤ 2000 ∧ 2 = (pre t).count ("*" : Str) ∧ W = fillW (pre t) [pre u0, pre u1]) ∨
    (k = 1 ∧ ∃ (u x : Tr), SqT K H o ((pre u).map V.str) ∧ okT rows u ∧ (pre u).length ≤ 2000 ∧ uni t u = some x ∧ W = pre x)) ∧
  (W.length ≤ 2000 → ∀ H' v, Same H H' → Im K H' v (dTold W) → Q v H') ∧ (2000 < W.length → ∀ H' v, Same H H' → Im K H' v Er.many.dat → Q v H')
abbrev N_lm : List Str := ["_law_bed_here", "_law_one", "_law_two", "_law_way", "_law_chains", "e"]
theorem sc_lm : FnScope N_lm ["_law_bed_here", "_law_one", "_law_two", "_law_way", "_law_chains"] (defScope (top 70)) := ⟨rfl, rfl, rfl, by decide +kernel, rfl, by decide +kernel, by decide +kernel⟩
theorem k_lm (TM : ErrB P K mg "TooMany" "TooMany.__init__" (clb 6 0) ["what", "limit"]) (F : DF K mg "_law_long_met" 70) (c_filled : CalR P w K mg base 5 "filled" (spStar 2 (spFilled K))) (c_united : Cal P w K mg base 5 "united" ["bed", "first", "second"] (spUnited K)) : Cal P w K mg base 6 "_law_long_met" ["_law_bed_here", "_law_one", "_law_two", "_law_way", "_law_chains"] (spLm K) := by
  refine cal_of F.1 F.2 sc_lm (fun _ _ _ _ _ _ us e => match us, e with | [_, _, _, _, _], _ => rfl) (fun vs H Q E s => by obtain ⟨_, _, _, _, _, _, _, _, rfl, _⟩ := s; rfl) ?_
  intro cdv A outer s H vs Q E hr h
  obtain ⟨a, r, o, b, k, rows, t, W, rfl, hb, st, hR, ok, hl, hk, h1, h2⟩ := h
  have sc := sc_lm
  refine ⟨_, pss_one (ps_try_fst (i := 5) rfl rfl sc.nd rfl rfl ⟨rfl, by decide, .inl TM.at_⟩
    (fun W pn xe tk _ => (pss_cons (ps_if (pt_cmpR op_eq (pv 3) pe_int (nomark _))
          (pss_one (ps_ret (pe_tup (pa_cons pe_str (pa_cons (pe_calRX c_filled hr tk (pa_cons (pv 0) (pa_cons (pv 1) (pa_cons (pe_ixK K rfl (pv 4) pe_int (fun _ _ => rfl)) (pa_cons (pe_ixK K rfl (pv 4) pe_int (fun _ _ => rfl)) pa_nil))))) pa_nil)))))
          pss_nil)
        (pss_one (ps_ret (pe_tup (pa_cons pe_str (pa_cons (pe_calX c_united hr tk (pa_cons (pv 0) (pa_cons (pv 1) (pa_cons (pv 2) pa_nil)))) pa_nil)))))))
    (fun a oe cls d pn hz hf => pss_one (ps_ret (pe_tup (pa_cons pe_str (pa_cons (pe_xf TM.xf (TM.no _ (by decide)) hz hf (pv 5)) (pa_cons (pe_xf TM.xf (TM.no _ (by decide)) hz hf (pv 5)) pa_nil))))))), ?_⟩
  rcases hk with ⟨rfl, p0, p1, u0, u1, hL, a0, a1, l0, l1, hc, rfl⟩ | ⟨rfl, u, x, hO, oku, lu, hx, rfl⟩
  · refine ⟨_, rfl, rfl, _, rfl, if_dec (fun _ => ?_) (fun c => absurd rfl c)⟩
    refine ⟨_, rfl, _, rfl, _, rfl, b, _, _, _, rfl, rfl, SqL.of hL, atI_nat (j := 0) rfl, _, rfl, b, _, _, _, rfl, rfl, SqL.of hL, atI_nat (j := 1) rfl, ?_⟩
    refine filled_of2 (rows := rows) (t := t) (bs := [p0, p1]) (us := [u0, u1]) hb hR st ok hl ⟨a0.ok, a1.ok, trivial⟩ (fun u hu => ?_) hc (.cons a0.sq (.cons a1.sq .nil)) (by show 2 ≤ 6; decide) (fun c H1 p s1 ht => ⟨by show 2 ≤ sizeLine; decide, fun t2 hn => ?_⟩) (fun c d H1 fs s1 ed imf => ?_)
    · rcases List.mem_cons.mp hu with rfl | hu
      · exact l0
      · rw [List.mem_singleton.mp hu]
        exact l1
    · exact h1 c _ _ (s1.trans (up_same hn)) (im_told (SqT.of upd_same) (Same.sqt (up_same hn) ht))
    · rw [imf_many imf] at ed
      refine ⟨TM.ex, fun e he => ?_⟩
      refine ⟨_, rfl, rfl, rfl, d, _, _, rfl, ed, rfl, _, rfl, rfl, rfl, d, _, _, rfl, ed, rfl, by show 3 ≤ sizeLine; decide, fun t2 hn => ?_⟩
      exact h2 c _ _ (s1.trans (up_same hn)) (.tup (SqT.of upd_same) (.cons (.str _) (.cons (.str _) (.cons (.int _) .nil))))
  · refine ⟨_, rfl, rfl, _, rfl, if_dec (fun c => by cases c) (fun _ => ?_)⟩
    refine ⟨_, rfl, _, rfl, _, rfl, a, r, o, rows, t, u, rfl, hb, hR, hO, st, ok, oku, hl, lu, fun z => (by rw [hx] at z; cases z), fun v z c H1 p s1 ht nd => ⟨by show 2 ≤ sizeLine; decide, fun t2 hn => ?_⟩, fun v z c d H1 fs s1 ed imf => ?_⟩
    · rw [hx] at z
      cases z
      exact h1 c _ _ (s1.trans (up_same hn)) (im_told (SqT.of upd_same) (Same.sqt (up_same hn) ht))
    · rw [hx] at z
      cases z
      rw [imf_many imf] at ed
      refine ⟨TM.ex, fun e he => ?_⟩
      refine ⟨_, rfl, rfl, rfl, d, _, _, rfl, ed, rfl, _, rfl, rfl, rfl, d, _, _, rfl, ed, rfl, by show 3 ≤ sizeLine; decide, fun t2 hn => ?_⟩
      exact h2 c _ _ (s1.trans (up_same hn)) (.tup (SqT.of upd_same) (.cons (.str _) (.cons (.str _) (.cons (.int _) .nil))))
end
end Sy
/-! the long half's plain facts -/
namespace Sy
open PySem PySem.Spec PyProof.Rows L2
def lrows (n0 n1 n2 : Str) : List Sy.Row := [(n0, 1), (n1, 0), (n2, 2)]
structure Lp (n0 n1 n2 last : Str) (m k : Nat) : Prop where
  w0 : Wd n0
  w1 : Wd n1
  w2 : Wd n2
  d01 : n0 ≠ n1
  d02 : n0 ≠ n2
  d12 : n1 ≠ n2
  m1 : 1 ≤ m
  m2 : m ≤ 1990
  k1 : 1 ≤ k
  k2 : k ≤ 1997
  la : last = n1 ∨ last = "*"
theorem lrows_ok {n0 n1 n2 : Str} (w0 : Wd n0) (w1 : Wd n1) (w2 : Wd n2) (d01 : n0 ≠ n1) (d02 : n0 ≠ n2) (d12 : n1 ≠ n2) : RowsOk (lrows n0 n1 n2) ∧ ∀ r ∈ lrows n0 n1 n2, Wx r.1 := by
  unfold lrows
  refine ⟨⟨fun r hr => ?_, fun r hr => ?_, ?_, ⟨(n1, 0), by simp, rfl⟩, by show 3 ≤ 8; decide⟩, fun r hr => ?_⟩
  · simp only [List.mem_cons, List.not_mem_nil, or_false] at hr
    rcases hr with rfl | rfl | rfl
    · exact w0.ok
    · exact w1.ok
    · exact w2.ok
  · simp only [List.mem_cons, List.not_mem_nil, or_false] at hr
    rcases hr with rfl | rfl | rfl
    · show 1 ≤ 3; decide
    · show 0 ≤ 3; decide
    · show 2 ≤ 3; decide
  · show [n0, n1, n2].Nodup
    simp [d01, d02, d12]
  · simp only [List.mem_cons, List.not_mem_nil, or_false] at hr
    rcases hr with rfl | rfl | rfl
    · exact w0.wx
    · exact w1.wx
    · exact w2.wx
section
variable {n0 n1 n2 last : Str} {m k : Nat} (h : Lp n0 n1 n2 last m k)
theorem Lp.ok (h : Lp n0 n1 n2 last m k) : RowsOk (lrows n0 n1 n2) := (lrows_ok h.w0 h.w1 h.w2 h.d01 h.d02 h.d12).1
theorem Lp.wx (h : Lp n0 n1 n2 last m k) : ∀ r ∈ lrows n0 n1 n2, Wx r.1 := (lrows_ok h.w0 h.w1 h.w2 h.d01 h.d02 h.d12).2
theorem Lp.st (h : Lp n0 n1 n2 last m k) : isK (lrows n0 n1 n2) "*" = false := no_hole h.ok
theorem Lp.l0 (h : Lp n0 n1 n2 last m k) : (lrows n0 n1 n2).lookup n0 = some 1 := by unfold lrows; rw [lookup_cons, if_pos rfl]
theorem Lp.l1 (h : Lp n0 n1 n2 last m k) : (lrows n0 n1 n2).lookup n1 = some 0 := by unfold lrows; rw [lookup_cons, if_neg h.d01, lookup_cons, if_pos rfl]
theorem Lp.l2 (h : Lp n0 n1 n2 last m k) : (lrows n0 n1 n2).lookup n2 = some 2 := by unfold lrows; rw [lookup_cons, if_neg h.d02, lookup_cons, if_neg h.d12, lookup_cons, if_pos rfl]
theorem Lp.i0 (h : Lp n0 n1 n2 last m k) : isK (lrows n0 n1 n2) n0 = true := by unfold isK; rw [h.l0]; rfl
theorem Lp.i2 (h : Lp n0 n1 n2 last m k) : isK (lrows n0 n1 n2) n2 = true := by unfold isK; rw [h.l2]; rfl
theorem Lp.a0 (h : Lp n0 n1 n2 last m k) : ar (lrows n0 n1 n2) n0 = 1 := by unfold ar; rw [h.l0]; rfl
theorem Lp.a2 (h : Lp n0 n1 n2 last m k) : ar (lrows n0 n1 n2) n2 = 2 := by unfold ar; rw [h.l2]; rfl
theorem Lp.n0s (h : Lp n0 n1 n2 last m k) : n0 ≠ "*" := x_ne h.st h.i0
theorem Lp.n2s (h : Lp n0 n1 n2 last m k) : n2 ≠ "*" := x_ne h.st h.i2
theorem Lp.nl (h : Lp n0 n1 n2 last m k) : n0 ≠ last := by
  rcases h.la with e | e
  · rw [e]; exact h.d01
  · rw [e]; exact h.n0s
theorem Lp.kl (h : Lp n0 n1 n2 last m k) : isK (lrows n0 n1 n2) last = true ∨ last = "*" := h.la.imp (fun e => by rw [e]; unfold isK; rw [h.l1]; rfl) id
theorem Lp.al (h : Lp n0 n1 n2 last m k) : ar (lrows n0 n1 n2) last = 0 := by
  rcases h.la with e | e
  · rw [e]; unfold ar; rw [h.l1]; rfl
  · rw [e]; exact ar_st h.st
theorem Lp.c1 (h : Lp n0 n1 n2 last m k) (j : Nat) : okT (lrows n0 n1 n2) (chn n0 "*" j) := chn_ok h.i0 h.a0 (.inr rfl) (ar_st h.st) j
theorem Lp.c2 (h : Lp n0 n1 n2 last m k) (j : Nat) : okT (lrows n0 n1 n2) (chn n0 last j) := chn_ok h.i0 h.a0 h.kl h.al j
theorem chn_len (x last : Str) (j : Nat) : (pre (chn x last j)).length = j + 1 := by rw [chn_pre, List.length_append, List.length_replicate]; rfl
/-- two branches under a kind -/
def wh (n2 : Str) (t u : Tr) : Tr := .nd n2 [t, u]
def hol : Tr := .nd "*" []
theorem wh_pre (n2 : Str) (t u : Tr) : pre (wh n2 t u) = n2 :: (pre t ++ pre u) := by
  show n2 :: (pre t ++ (pre u ++ [])) = _
  rw [List.append_nil]
theorem Lp.wok (h : Lp n0 n1 n2 last m k) {t u : Tr} (ht : okT (lrows n0 n1 n2) t) (hu : okT (lrows n0 n1 n2) u) : okT (lrows n0 n1 n2) (wh n2 t u) := ⟨.inl h.i2, by rw [h.a2]; rfl, ht, hu, trivial⟩
theorem Lp.hok (h : Lp n0 n1 n2 last m k) : okT (lrows n0 n1 n2) hol := ⟨.inr rfl, (ar_st h.st).symm, trivial⟩
theorem beg_hol (t : Tr) : beg hol t = some [t] := by
  cases t with
  | nd y cs => unfold hol; rw [beg_nd, if_pos rfl]
theorem beg_wh {n2 : Str} (hn : n2 ≠ "*") (t u : Tr) : beg (wh n2 hol hol) (wh n2 t u) = some [t, u] := by
  unfold wh
  rw [beg_nd, if_neg hn, if_pos rfl, begZ, beg_hol, begZ, beg_hol, begZ]
  rfl
theorem uni_hol (t : Tr) : uni hol t = some t := by
  cases t with
  | nd y cs => unfold hol; rw [uni_nd, if_pos rfl]
theorem uni_chol {x : Str} (hx : x ≠ "*") (last : Str) : ∀ j : Nat, 1 ≤ j → uni (chn x last j) hol = some (chn x last j)
  | j + 1, _ => by
    unfold hol
    show uni (.nd x [chn x last j]) (.nd "*" []) = some (.nd x [chn x last j])
    rw [uni_nd, if_neg hx, if_pos rfl]
theorem uni_wh {n2 : Str} (hn : n2 ≠ "*") {t u : Tr} (ht : uni t hol = some t) : uni (wh n2 t hol) (wh n2 hol u) = some (wh n2 t u) := by
  unfold wh
  rw [uni_nd, if_neg hn, if_neg hn, if_pos rfl, uniZ, ht, uniZ, uni_hol, uniZ]
  rfl
theorem sok_of {rows : List Sy.Row} (wx : ∀ r ∈ rows, Wx r.1) {t : Tr} (ok : okT rows t) : ∀ x ∈ pre t, PyData.strOk x = true := fun x hx => by
  rcases kn_pre ok x hx with k | rfl
  · obtain ⟨r, hr, rfl⟩ := isK_mem k
    exact (wx r hr).sok
  · exact Wx.hole.sok
theorem cnt_wh {n2 : Str} (hn : n2 ≠ "*") : 2 = (pre (wh n2 hol hol)).count ("*" : Str) := by
  rw [wh_pre]
  show 2 = (n2 :: ["*", "*"]).count ("*" : Str)
  rw [List.count_cons, if_neg (by simpa using hn)]
  rfl
end
end Sy
namespace Sy
open PySem PySem.Spec PyProof.Rows L2
/-- the long half's things -/
structure Lg (K : PySem.W.Frag) (H : Hp) (a nA one two : Addr) (n0 n1 n2 last : Str) (m k : Nat) : Prop where
  bed : BedAt K H a (lrows n0 n1 n2)
  nm : H nA = some (.lst [.str n0, .str n1, .str n2])
  o1 : TrAt K H (lrows n0 n1 n2) one (chn n0 "*" m)
  o2 : TrAt K H (lrows n0 n1 n2) two (chn n0 last k)
theorem Lg.same {K : PySem.W.Frag} {H H' : Hp} {a nA one two : Addr} {n0 n1 n2 last : Str} {m k : Nat} (h : Lg K H a nA one two n0 n1 n2 last m k) (s : Same H H') : Lg K H' a nA one two n0 n1 n2 last m k := ⟨h.bed.mono (Stay.of s), s _ _ h.nm, h.o1.mono (Stay.of s), h.o2.mono (Stay.of s)⟩
def dW (W : List Str) : PyData := if W.length ≤ 2000 then dTold W else Er.many.dat
theorem fit_dW {W : List Str} (h : W.length ≤ 1000000) : Fit 3 (dW W) := by
  unfold dW
  split
  · refine fit_tup (by show 2 ≤ 1000000; decide) fun d hd => ?_
    rcases List.mem_cons.mp hd with rfl | hd
    · exact trivial
    · rw [List.mem_singleton.mp hd]
      exact fit_DS h
  · refine fit_tup (by show 3 ≤ 1000000; decide) fun d hd => ?_
    simp only [List.mem_cons, List.not_mem_nil, or_false] at hd
    rcases hd with rfl | rfl | rfl <;> exact trivial
section
variable {P : Program} {w : World} {K : PySem.W.Frag} {mg : Str → Option Value} {base : Heap}
theorem cat_rows {H : Hp} {a b : Addr} {l m : List Str} {Q : VK} (h : SqT K H a (l.map V.str)) (g : SqT K H b (m.map V.str)) (hs : l.length + m.length ≤ 100000) (q : ∀ p H', Same H H' → SqT K H' p ((l ++ m).map V.str) → Q (.ref p) H') : rCatA K (.ref a) (.ref b) H Q :=
  cat_any h g (by rw [List.length_map, List.length_map]; omega) fun p H' s t => q p H' s (by rw [List.map_append]; exact t)
theorem lm_of0 {H : Hp} {a r o b p0 p1 : Addr} {rows : List Sy.Row} {t u0 u1 : Tr} {W : List Str} {Q : VK} {E : XK} (hb : BedAt K H a rows) (st : isK rows "*" = false) (hR : SqT K H r ((pre t).map V.str)) (ok : okT rows t) (hl : (pre t).length ≤ 2000) (hL : H b = some (.lst [.ref p0, .ref p1])) (a0 : TrAt K H rows p0 u0) (a1 : TrAt K H rows p1 u1) (l0 : (pre u0).length ≤ 2000) (l1 : (pre u1).length ≤ 2000) (hc : 2 = (pre t).count ("*" : Str)) (eW : W = fillW (pre t) [pre u0, pre u1])
    (hq : ∀ H' v, Same H H' → Im K H' v (dW W) → Q v H') : spLm K [.ref a, .ref r, .ref o, .int ((0 : Nat) : Int), .ref b] H Q E :=
  ⟨a, r, o, b, 0, rows, t, W, rfl, hb, st, hR, ok, hl, .inl ⟨rfl, p0, p1, u0, u1, hL, a0, a1, l0, l1, hc, eW⟩, fun c H' v s i => hq H' v s (by unfold dW; rw [if_pos c]; exact i), fun c H' v s i => hq H' v s (by unfold dW; rw [if_neg (by omega)]; exact i)⟩
theorem lm_of1 {H : Hp} {a r o b : Addr} {rows : List Sy.Row} {t u x : Tr} {W : List Str} {Q : VK} {E : XK} (hb : BedAt K H a rows) (st : isK rows "*" = false) (hR : SqT K H r ((pre t).map V.str)) (ok : okT rows t) (hl : (pre t).length ≤ 2000) (hO : SqT K H o ((pre u).map V.str)) (oku : okT rows u) (lu : (pre u).length ≤ 2000) (hx : uni t u = some x) (eW : W = pre x)
    (hq : ∀ H' v, Same H H' → Im K H' v (dW W) → Q v H') : spLm K [.ref a, .ref r, .ref o, .int ((1 : Nat) : Int), .ref b] H Q E :=
  ⟨a, r, o, b, 1, rows, t, W, rfl, hb, st, hR, ok, hl, .inr ⟨rfl, u, x, hO, oku, lu, hx, eW⟩, fun c H' v s i => hq H' v s (by unfold dW; rw [if_pos c]; exact i), fun c H' v s i => hq H' v s (by unfold dW; rw [if_neg (by omega)]; exact i)⟩
abbrev N_lgR : List Str := ["_law_bag_here", "_law_names", "_law_k", "_law_rows_here", "_law_bed_here", "_law_many", "_law_more", "_law_last", "_law_one", "_law_two", "_law_begun", "_law_piece", "_law_due", "_law_shared", "_law_whole", "_law_fork"]
theorem sc_lgR : FnScope N_lgR ["_law_bag_here"] (defScope (top 71)) := ⟨rfl, rfl, rfl, by decide +kernel, rfl, by decide +kernel, by decide +kernel⟩
theorem rest_lgC (T : Txt K mg) (c_parts : Cal P w K mg base 5 "parts" ["bed", "stump", "other"] (spParts K)) (c_law_same : Cal P w K mg base 4 "_law_same" ["_law_told", "_law_due"] (spSame K 3)) (c_law_long_met : Cal P w K mg base 6 "_law_long_met" ["_law_bed_here", "_law_one", "_law_two", "_law_way", "_law_chains"] (spLm K))
    {cdv : Value} {A : Around} {outer : List Env} {s : Shared} {H : Hp} {E : XK} (hr : Room 6 (A.deeper (envOfC "_law_long_right" (defScope (top 71)) s.heap.objs.size (He.ga K "_law_long_right") cdv))) :
    ∃ t, PSs (cxOf (L2.CX P w) P w K mg base N_lgR "_law_long_right" (defScope (top 71)) (He.ga K "_law_long_right") cdv A outer s H E) ((defBody (top 71)).drop 19) t ∧
      ∀ (Q : VK) (H1 : Hp) (a nA one two : Addr) (n0 n1 n2 last : Str) (m k : Nat) (x0 x2 x3 x5 x6 x7 x10 x11 x12 x13 : Option V), (∀ H', Q (.bl true) H') → Lp n0 n1 n2 last m k → Lg K H1 a nA one two n0 n1 n2 last m k →
        t { nx := fun _ H' => Q .non H', rt := Q } [x0, some (.ref nA), x2, x3, some (.ref a), x5, x6, x7, some (.ref one), some (.ref two), x10, x11, x12, x13, none, none] H1 := by
  have sc := sc_lgR
  refine ⟨_, (pss_cons (ps_set (i := 14) sc.nd rfl (Or.inl rfl) (pe_op op_catA (pe_op op_catA (pe_tup (pa_cons (pe_ix ix_list (pv 1) pe_int (fun _ _ => rfl)) pa_nil)) (pv 8)) (pv 9)))
      (pss_cons (ps_set (i := 12) sc.nd rfl (Or.inl rfl) (pe_tup (pa_cons pe_str (pa_cons (pv 14) pa_nil))))
      (pss_cons (ps_cut (ps_if (pt_cmpR op_gt (pe_callB call_len_seq (by rfl) T.len (by decide +kernel) (pa_cons (pv 14) pa_nil)) pe_int (nomark _))
        (pss_one (ps_set (i := 12) sc.nd rfl (Or.inl rfl) (pe_tup (pa_cons pe_str (pa_cons pe_str (pa_cons pe_int pa_nil))))))
        pss_nil))
      (pss_cons (ps_set (i := 15) sc.nd rfl (Or.inl rfl) (pe_tup (pa_cons (pe_ix ix_list (pv 1) pe_int (fun _ _ => rfl)) (pa_cons pe_str (pa_cons pe_str pa_nil)))))
      (pss_cons (ps_if (pt_not (pt_val (pe_cal c_law_same hr (pa_cons (pe_cal c_law_long_met hr (pa_cons (pv 4) (pa_cons (pv 15) (pa_cons (pv 15) (pa_cons pe_int (pa_cons (pe_lst (pa_cons (pv 8) (pa_cons (pv 9) pa_nil))) pa_nil)))))) (pa_cons (pv 12) pa_nil)))))
        (pss_one (ps_ret pe_bl))
        pss_nil)
      (pss_cons (ps_if (pt_not (pt_val (pe_cal c_law_same hr (pa_cons (pe_cal c_law_long_met hr (pa_cons (pv 4) (pa_cons (pe_op op_catA (pe_op op_catA (pe_tup (pa_cons (pe_ix ix_list (pv 1) pe_int (fun _ _ => rfl)) pa_nil)) (pv 8)) (pe_tup (pa_cons pe_str pa_nil))) (pa_cons (pe_op op_catA (pe_tup (pa_cons (pe_ix ix_list (pv 1) pe_int (fun _ _ => rfl)) (pa_cons pe_str pa_nil))) (pv 9)) (pa_cons pe_int (pa_cons (pe_lst pa_nil) pa_nil)))))) (pa_cons (pv 12) pa_nil)))))
        (pss_one (ps_ret pe_bl))
        pss_nil)
      (pss_one (ps_ret (pe_or (pe_cmpR op_gt (pe_callB call_len_seq (by rfl) T.len (by decide +kernel) (pa_cons (pv 14) pa_nil)) pe_int (nomark _)) (pe_one (pe_cal c_law_same hr (pa_cons (pe_calX c_parts hr (takes_of rfl rfl rfl rfl) (pa_cons (pv 4) (pa_cons (pv 15) (pa_cons (pv 14) pa_nil)))) (pa_cons (pe_tup (pa_cons (pv 8) (pa_cons (pv 9) pa_nil))) pa_nil))))))))))))), ?_⟩
  intro Q H1 a nA one two n0 n1 n2 last m k x0 x2 x3 x5 x6 x7 x10 x11 x12 x13 hq lp lg
  have st := lp.st
  have hm1 := lp.m1
  have hm2 := lp.m2
  have hk1 := lp.k1
  have hk2 := lp.k2
  obtain ⟨t, et⟩ : ∃ t, t = chn n0 "*" m := ⟨_, rfl⟩
  obtain ⟨u, eu⟩ : ∃ u, u = chn n0 last k := ⟨_, rfl⟩
  have okt : okT (lrows n0 n1 n2) t := by rw [et]; exact lp.c1 m
  have oku : okT (lrows n0 n1 n2) u := by rw [eu]; exact lp.c2 k
  have lt : (pre t).length = m + 1 := by rw [et]; exact chn_len _ _ _
  have lu : (pre u).length = k + 1 := by rw [eu]; exact chn_len _ _ _
  have huh : uni t hol = some t := by rw [et]; exact uni_chol lp.n0s _ _ hm1
  have hbed := lg.bed
  have hnm := lg.nm
  have ho1 := lg.o1
  have ho2 := lg.o2
  rw [← et] at ho1
  rw [← eu] at ho2
  clear lg et eu
  have hok := lp.hok
  have fok := lp.wok hok hok
  have wok := lp.wok okt oku
  obtain ⟨W, eW⟩ : ∃ W, W = n2 :: (pre t ++ pre u) := ⟨_, rfl⟩
  have eW2 : W = pre (wh n2 t u) := by rw [eW, wh_pre]
  have lW : W.length = m + k + 3 := by rw [eW, List.length_cons, List.length_append]; omega
  have an2 : atI [V.str n0, .str n1, .str n2] (2 : Int) = some (.str n2) := atI_nat (j := 2) rfl
  refine ⟨_, rfl, nA, _, _, _, rfl, rfl, SqL.of hnm, an2, by show 1 ≤ sizeLine; decide, fun p0 hp0 => ?_⟩
  have s0 := up_same (o := .tup [V.str n2]) hp0
  refine ⟨_, rfl, cat_rows (l := [n2]) (m := pre t) (SqT.of upd_same) (Same.sqt s0 ho1.sq) (by show 1 + _ ≤ _; omega) fun p1 H2 s2 t2 => ⟨_, rfl, cat_rows t2 (Same.sqt (s0.trans s2) ho2.sq) (by rw [List.length_append]; show 1 + _ + _ ≤ _; omega) fun pw H3 s3 t3 => ?_⟩⟩
  have s13 := (s0.trans s2).trans s3
  rw [show [n2] ++ pre t ++ pre u = W by rw [eW]; rfl] at t3
  refine ⟨_, rfl, (by show 2 ≤ sizeLine; decide), fun pd hpd => ?_⟩
  have s4 := up_same (o := .tup [.str "told", .ref pw]) hpd
  have iT : Im K (upd H3 pd (.tup [.str "told", .ref pw])) (.ref pd) (dTold W) := im_told (SqT.of upd_same) (Same.sqt s4 t3)
  refine ⟨fun σ' H' => ∃ v, σ' = [x0, some (.ref nA), x2, x3, some (.ref a), x5, x6, x7, some (.ref one), some (.ref two), x10, x11, some v, x13, some (.ref pw), none] ∧ Im K H' v (dW W) ∧ Same H3 H', ?_, ?_⟩
  · refine ⟨_, rfl, pw, _, rfl, .inr (Same.sqt s4 t3), _, _, rfl, rfl, _, rfl, if_dec (fun c => ?_) (fun c => ?_)⟩
    · rw [List.length_map] at c
      refine ⟨(by show 3 ≤ sizeLine; decide), fun pm hpm => ⟨_, rfl, ?_, s4.trans (up_same hpm)⟩⟩
      unfold dW
      rw [if_neg (by omega)]
      exact .tup (SqT.of upd_same) (.cons (.str _) (.cons (.str _) (.cons (.int _) .nil)))
    · rw [List.length_map] at c
      refine ⟨_, rfl, ?_, s4⟩
      unfold dW
      rw [if_pos (by omega)]
      exact iT
  clear iT s4 hpd
  rintro σ4 H4 ⟨v12, rfl, i12, s34⟩
  have s14 := s13.trans s34
  have t4 := Same.sqt s34 t3
  refine ⟨_, rfl, nA, _, _, _, rfl, rfl, SqL.of (s14 _ _ hnm), an2, by show 3 ≤ sizeLine; decide, fun pf hpf => ?_⟩
  have s5 := up_same (o := .tup [V.str n2, .str "*", .str "*"]) hpf
  have tf : SqT K (upd H4 pf (.tup [V.str n2, .str "*", .str "*"])) pf ((pre (wh n2 hol hol)).map V.str) := SqT.of upd_same
  generalize upd H4 pf (.tup [V.str n2, .str "*", .str "*"]) = H5 at *
  have s15 := s14.trans s5
  have lf : (pre (wh n2 hol hol)).length = 3 := rfl
  refine ⟨_, rfl, _, rfl, _, rfl, _, rfl, _, rfl, (by show 2 ≤ sizeLine; decide), fun D hD => ?_⟩
  have s6 := up_same (o := .lst [.ref one, .ref two]) hD
  have s16 := s15.trans s6
  have fw : W = fillW (pre (wh n2 hol hol)) [pre t, pre u] := by rw [eW2]; exact (fill_back st fok wok (beg_wh lp.n2s t u)).symm
  try dsimp only [tNil]
  refine lm_of0 (hbed.mono (Stay.of s16)) st (Same.sqt s6 tf) fok (by omega) upd_same (ho1.mono (Stay.of s16)) (ho2.mono (Stay.of s16)) (by omega) (by omega) (cnt_wh lp.n2s) fw fun H7 v7 s7 i7 => ?_
  have s57 := s6.trans s7
  have s17 := s15.trans s57
  refine ⟨_, rfl, v7, v12, _, rfl, i7, i12.mono (Stay.of (s5.trans s57)), fit_dW (by omega), _, rfl, iteF ?_⟩
  refine ⟨_, rfl, _, rfl, nA, _, _, _, rfl, rfl, SqL.of (s17 _ _ hnm), an2, by show 1 ≤ sizeLine; decide, fun p8 hp8 => ?_⟩
  have s8 := up_same (o := .tup [V.str n2]) hp8
  refine ⟨_, rfl, cat_rows (l := [n2]) (m := pre t) (SqT.of upd_same) (Same.sqt (s17.trans s8) ho1.sq) (by show 1 + _ ≤ _; omega) fun p9 H9 s9 t9 => ⟨by show 1 ≤ sizeLine; decide, fun pa hpa => ?_⟩⟩
  have sa := up_same (o := .tup [V.str "*"]) hpa
  refine cat_rows (m := [("*" : Str)]) (Same.sqt sa t9) (SqT.of upd_same) (by rw [List.length_append]; show 1 + _ + 1 ≤ _; omega) fun pb Hb sb tb => ?_
  have s1b := ((s17.trans s8).trans s9).trans (sa.trans sb)
  rw [show [n2] ++ pre t ++ [("*" : Str)] = pre (wh n2 t hol) by rw [wh_pre]; rfl] at tb
  refine ⟨_, rfl, nA, _, _, _, rfl, rfl, SqL.of (s1b _ _ hnm), an2, by show 2 ≤ sizeLine; decide, fun pc hpc => ?_⟩
  have sc' := up_same (o := .tup [V.str n2, .str "*"]) hpc
  refine ⟨_, rfl, cat_rows (l := [n2, "*"]) (m := pre u) (SqT.of upd_same) (Same.sqt (s1b.trans sc') ho2.sq) (by show 2 + _ ≤ _; omega) fun pe He se te => ?_⟩
  rw [show [n2, ("*" : Str)] ++ pre u = pre (wh n2 hol u) by rw [wh_pre]; rfl] at te
  refine ⟨(by show 0 ≤ sizeLine; decide), fun D2 hD2 => ?_⟩
  have sf := up_same (o := .lst []) hD2
  have sbf := (sc'.trans se).trans sf
  have s1f := s1b.trans sbf
  try dsimp only [tNil]
  refine lm_of1 (hbed.mono (Stay.of s1f)) st (Same.sqt sbf tb) (lp.wok okt hok) (by rw [wh_pre, List.length_cons, List.length_append]; show _ + 1 + 1 ≤ 2000; omega) (Same.sqt sf te) (lp.wok hok oku) (by rw [wh_pre, List.length_cons, List.length_append]; show 1 + _ + 1 ≤ 2000; omega) (uni_wh lp.n2s huh) eW2 fun Hg vg sg ig => ?_
  have s1g := s1f.trans sg
  refine ⟨_, rfl, vg, v12, _, rfl, ig, i12.mono (Stay.of (((s5.trans s57).trans s8).trans (s9.trans ((sa.trans sb).trans (sbf.trans sg))))), fit_dW (by omega), _, rfl, iteF ?_⟩
  have s4g : Same H4 Hg := ((s5.trans s57).trans s8).trans (s9.trans ((sa.trans sb).trans (sbf.trans sg)))
  have s5g : Same H5 Hg := (s57.trans s8).trans (s9.trans ((sa.trans sb).trans (sbf.trans sg)))
  refine ⟨_, rfl, pw, _, rfl, .inr (Same.sqt s4g t4), _, _, rfl, rfl, _, rfl, if_dec (fun c => hq _) (fun c => ?_)⟩
  rw [List.length_map] at c
  have hbeg := beg_wh lp.n2s t u
  refine ⟨_, rfl, _, rfl, _, rfl, a, pf, pw, lrows n0 n1 n2, wh n2 hol hol, wh n2 t u, rfl, hbed.mono (Stay.of s1g), Same.sqt s5g tf, by rw [← eW2]; exact Same.sqt s4g t4, sok_of lp.wx fok, st, fok, wok, by omega, by rw [← eW2]; omega, fun z => (by rw [hbeg] at z; cases z), fun ps z Hh vh sh ih => ?_⟩
  rw [hbeg] at z
  cases z
  have s1h := s1g.trans sh
  refine ⟨_, rfl, _, rfl, (by show 2 ≤ sizeLine; decide), fun pz hpz => ?_⟩
  have sz := up_same (o := .tup [.ref one, .ref two]) hpz
  refine ⟨vh, .ref pz, _, rfl, ih.mono (Stay.of sz), .tup (SqT.of upd_same) (.cons (ho1.mono (Stay.of (s1h.trans sz))).im (.cons (ho2.mono (Stay.of (s1h.trans sz))).im .nil)), ?_, hq _⟩
  refine fit_tup (by show 2 ≤ 1000000; decide) fun d hd => ?_
  simp only [List.map_cons, List.map_nil, List.mem_cons, List.not_mem_nil, or_false] at hd
  rcases hd with rfl | rfl
  · exact fit_DS (by omega)
  · exact fit_DS (by omega)
end
end Sy
namespace Sy
open PySem PySem.Spec PyProof.Rows L2
section
variable {P : Program} {w : World} {K : PySem.W.Frag} {mg : Str → Option Value} {base : Heap}
theorem flat_one' {α : Type} (n : Nat) (x : α) : (List.replicate n [x]).flatten = List.replicate n x := flat_one n x
/-- a tuple of one, any number of times -/
theorem rep_gen {H : Hp} {l : Addr} {v : V} {z : Int} {Q : VK} (h : SqT K H l [v]) (h1 : -100000 ≤ z) (h2 : z ≤ 100000) (q : ∀ p H', Same H H' → SqT K H' p (List.replicate z.toNat v) → Q (.ref p) H') : rRepG K (.ref l) (.int z) H Q := by
  refine ⟨l, z, [v], rfl, rfl, h, by omega, by omega, by show 1 * _ ≤ _; omega, by show 1 ≤ _; decide, fun c => ?_, fun c p hp => ?_⟩
  · have c : z = 1 := c.resolve_left fun z => nomatch z
    refine q l H (Same.refl H) ?_
    rw [c]
    exact h
  · refine q p _ (up_same hp) ?_
    rw [flat_one]
    exact SqT.of upd_same
theorem rep_str {H : Hp} {l : Addr} {x : Str} {z : Int} {Q : VK} (h : SqT K H l [.str x]) (h1 : -100000 ≤ z) (h2 : z ≤ 100000) (q : ∀ p H', Same H H' → SqT K H' p ((List.replicate z.toNat x).map V.str) → Q (.ref p) H') : rRepG K (.ref l) (.int z) H Q :=
  rep_gen h h1 h2 fun p H' s t => q p H' s (by rw [List.map_replicate]; exact t)
/-- what united tells of the chains -/
def dU (n0 last : Str) (m k : Nat) : PyData := if m ≤ k then DS (pre (chn n0 last k)) else if last = "*" then DS (pre (chn n0 "*" m)) else .none
theorem fit_dU {n0 last : Str} {m k : Nat} (h : m ≤ 5000) (g : k ≤ 5000) : Fit 3 (dU n0 last m k) := by
  unfold dU
  split
  · exact fit_DS (by rw [chn_len]; omega)
  · split
    · exact fit_DS (by rw [chn_len]; omega)
    · exact trivial
theorem un_of {H : Hp} {a r o : Addr} {rows : List Sy.Row} {t u : Tr} (d : PyData) {Q : VK} {E : XK} (hn : uni t u = none → d = .none) (hs : ∀ x, uni t u = some x → d = DS (pre x)) (hb : BedAt K H a rows) (st : isK rows "*" = false) (h1 : TrAt K H rows r t) (h2 : TrAt K H rows o u) (l1 : (pre t).length ≤ 2000) (l2 : (pre u).length ≤ 2000) (hl : ∀ x, uni t u = some x → (pre x).length ≤ 2000)
    (hq : ∀ H' v, Same H H' → Im K H' v d → Q v H') : spUnited K [.ref a, .ref r, .ref o] H Q E := by
  refine ⟨a, r, o, rows, t, u, rfl, hb, h1.sq, h2.sq, st, h1.ok, h2.ok, l1, l2, fun e H' s => hq H' _ s (by rw [hn e]; exact .non), fun v e _ H' p s sq nd => hq H' _ s (by rw [hs v e]; exact Im.strs sq), fun v e z => ?_⟩
  have := hl v e
  omega
theorem rest_lgB (T : Txt K mg) (c_begins : Cal P w K mg base 6 "begins" ["bed", "stump", "other"] (spBegins K)) (c_parts : Cal P w K mg base 5 "parts" ["bed", "stump", "other"] (spParts K)) (c_common : CalR P w K mg base 5 "common" (spStar 2 (spCommon K))) (c_united : Cal P w K mg base 5 "united" ["bed", "first", "second"] (spUnited K)) (c_holes : Cal P w K mg base 5 "holes" ["bed", "stump"] (spHoles K))
    (c_law_same : Cal P w K mg base 4 "_law_same" ["_law_told", "_law_due"] (spSame K 3)) (c_law_long_met : Cal P w K mg base 6 "_law_long_met" ["_law_bed_here", "_law_one", "_law_two", "_law_way", "_law_chains"] (spLm K))
    {cdv : Value} {A : Around} {outer : List Env} {s : Shared} {H : Hp} {E : XK} (hr : Room 6 (A.deeper (envOfC "_law_long_right" (defScope (top 71)) s.heap.objs.size (He.ga K "_law_long_right") cdv))) :
    ∃ t, PSs (cxOf (L2.CX P w) P w K mg base N_lgR "_law_long_right" (defScope (top 71)) (He.ga K "_law_long_right") cdv A outer s H E) ((defBody (top 71)).drop 9) t ∧
      ∀ (Q : VK) (H1 : Hp) (a nA one two : Addr) (n0 n1 n2 last : Str) (m k : Nat) (x0 x2 x3 : Option V), (∀ H', Q (.bl true) H') → Lp n0 n1 n2 last m k → Lg K H1 a nA one two n0 n1 n2 last m k →
        t { nx := fun _ H' => Q .non H', rt := Q } [x0, some (.ref nA), x2, x3, some (.ref a), some (.int (m : Nat)), some (.int (k : Nat)), some (.str last), some (.ref one), some (.ref two), none, none, none, none, none, none] H1 := by
  have sc := sc_lgR
  obtain ⟨tC, pC, hC⟩ := rest_lgC (P := P) (w := w) (K := K) (mg := mg) (base := base) T c_parts c_law_same c_law_long_met (cdv := cdv) (A := A) (outer := outer) (s := s) (H := H) (E := E) hr
  refine ⟨_, (pss_cons (ps_set (i := 10) sc.nd rfl (Or.inl rfl) (pe_cmpR op_le (pv 5) (pv 6) (nomark _)))
      (pss_cons (ps_set (i := 11) sc.nd rfl (Or.inl rfl) (pe_tup (pa_cons (pe_op op_catA (pe_op op_repG (pe_tup (pa_cons (pe_ix ix_list (pv 1) pe_int (fun _ _ => rfl)) pa_nil)) (pe_op op_sub (pv 6) (pv 5))) (pe_tup (pa_cons (pv 7) pa_nil))) pa_nil)))
      (pss_cons (ps_cut (ps_if (PW.pt (pw_or (pt_not (pt_val (pe_cal c_law_same hr (pa_cons (pe_calX c_begins hr (takes_of rfl rfl rfl rfl) (pa_cons (pv 4) (pa_cons (pv 8) (pa_cons (pv 9) pa_nil)))) (pa_cons (pv 10) pa_nil))))) (pw_or1 (pt_not (pt_val (pe_cal c_law_same hr (pa_cons (pe_calX c_begins hr (takes_of rfl rfl rfl rfl) (pa_cons (pv 4) (pa_cons (pv 9) (pa_cons (pv 8) pa_nil)))) (pa_cons (pe_and (pe_cmpR op_eq (pv 7) pe_str (nomark _)) (pe_one (pe_cmpR op_le (pv 6) (pv 5) (nomark _)))) pa_nil))))))))
        (pss_one (ps_ret pe_bl))
        pss_nil))
      (pss_cons (ps_cut (ps_if (pt_not (pt_val (pe_cal c_law_same hr (pa_cons (pe_calX c_parts hr (takes_of rfl rfl rfl rfl) (pa_cons (pv 4) (pa_cons (pv 8) (pa_cons (pv 9) pa_nil)))) (pa_cons (pe_ifExp (pt_val (pv 10)) (pv 11) pe_non) pa_nil)))))
        (pss_one (ps_ret pe_bl))
        pss_nil))
      (pss_cons (ps_cut (ps_set (i := 12) sc.nd rfl (Or.inl rfl) (pe_ifExp (pt_val (pv 10)) (pv 9) pe_non)))
      (pss_cons (ps_cut (ps_if (PW.pt (pw_and (pt_cmpR op_eq (pv 7) pe_str (nomark _)) (pw_and1 (pt_not (pt_val (pv 10))))))
        (pss_one (ps_set (i := 12) sc.nd rfl (Or.inl rfl) (pv 8)))
        pss_nil))
      (pss_cons (ps_if (pt_not (pt_val (pe_cal c_law_same hr (pa_cons (pe_calX c_united hr (takes_of rfl rfl rfl rfl) (pa_cons (pv 4) (pa_cons (pv 8) (pa_cons (pv 9) pa_nil)))) (pa_cons (pv 12) pa_nil)))))
        (pss_one (ps_ret pe_bl))
        pss_nil)
      (pss_cons (ps_set (i := 13) sc.nd rfl (Or.inl rfl) (pe_calR c_common hr (takes_of rfl rfl rfl rfl) (pa_cons (pv 4) (pa_cons (pv 8) (pa_cons (pv 9) pa_nil)))))
      (pss_cons (ps_if (pt_not (pt_val (pe_cal c_law_same hr (pa_cons (pv 13) (pa_cons (pe_op op_catA (pe_op op_repG (pe_tup (pa_cons (pe_ix ix_list (pv 1) pe_int (fun _ _ => rfl)) pa_nil)) (pe_ix ix_list (pe_lst (pa_cons (pv 5) (pa_cons (pv 6) pa_nil))) (pe_callTy call_int1 (by rfl) T.int (by decide +kernel) (pa_cons (pe_cmpR op_lt (pv 6) (pv 5) (nomark _)) pa_nil)) (fun _ _ => rfl))) (pe_tup (pa_cons pe_str pa_nil))) pa_nil)))))
        (pss_one (ps_ret pe_bl))
        pss_nil)
      (pss_cons (ps_if (pt_not (pt_val (pe_cal c_law_same hr (pa_cons (pe_calX c_holes hr (takes_of rfl rfl rfl rfl) (pa_cons (pv 4) (pa_cons (pv 8) pa_nil))) (pa_cons (pe_tup (pa_cons (pe_op op_repG (pe_tup (pa_cons pe_int pa_nil)) (pv 5)) pa_nil)) pa_nil)))))
        (pss_one (ps_ret pe_bl))
        pss_nil)
      pC)))))))))), ?_⟩
  intro Q H1 a nA one two n0 n1 n2 last m k x0 x2 x3 hq lp lg
  have st := lp.st
  have hm1 := lp.m1
  have hm2 := lp.m2
  have hk1 := lp.k1
  have hk2 := lp.k2
  have okt := lp.c1 m
  have oku := lp.c2 k
  have lt : (pre (chn n0 "*" m)).length = m + 1 := chn_len _ _ _
  have lu : (pre (chn n0 last k)).length = k + 1 := chn_len _ _ _
  have soT := sok_of lp.wx okt
  have soU := sok_of lp.wx oku
  have an0 : atI [V.str n0, .str n1, .str n2] (0 : Int) = some (.str n0) := atI_nat (j := 0) rfl
  have hb1 := beg_chn st lp.i0 lp.nl m k
  have hb2 := beg_chn2 st lp.i0 lp.nl k m
  have hun := uni_chn st lp.i0 lp.nl m k
  have hcm := com_chn st lp.i0 lp.nl m k
  have hhp := hp_chn st lp.i0 lp.nl m
  refine ⟨_, rfl, _, rfl, _, _, rfl, rfl, ?_⟩
  refine ⟨_, rfl, nA, _, _, _, rfl, rfl, SqL.of lg.nm, an0, by show 1 ≤ sizeLine; decide, fun p0 hp0 => ?_⟩
  have s0 := up_same (o := .tup [V.str n0]) hp0
  refine ⟨_, rfl, _, rfl, _, _, rfl, rfl, rep_str (SqT.of upd_same) (by omega) (by omega) fun p1 H2 s2 t2 => ?_⟩
  refine ⟨_, rfl, (by show 1 ≤ sizeLine; decide), fun p3 hp3 => ?_⟩
  have s3 := up_same (o := .tup [V.str last]) hp3
  refine cat_rows (m := [last]) (Same.sqt s3 t2) (SqT.of upd_same) (by rw [List.length_replicate]; show _ + 1 ≤ _; omega) fun p4 H4 s4 t4 => ?_
  rw [show ((k : Int) - (m : Int)).toNat = k - m by omega, ← chn_pre] at t4
  refine ⟨(by show 1 ≤ sizeLine; decide), fun p5 hp5 => ?_⟩
  have s5 := up_same (o := .tup [V.ref p4]) hp5
  have iP : Im K (upd H4 p5 (.tup [V.ref p4])) (.ref p5) (.tuple [DS (pre (chn n0 last (k - m)))]) := .tup (SqT.of upd_same) (.cons (Im.strs (Same.sqt s5 t4)) .nil)
  have s15 := ((s0.trans s2).trans (s3.trans s4)).trans s5
  generalize upd H4 p5 (.tup [V.ref p4]) = H5 at *
  clear t4 t2 s5 s4 s3 s2 s0
  have G5 := lg.same s15
  clear lg s15
  have hs1 : (beg (chn n0 "*" m) (chn n0 last k)).isSome = decide ((m : Int) ≤ (k : Int)) := by
    rw [hb1]
    by_cases c : m ≤ k
    · rw [if_pos c, decide_eq_true (by omega)]; rfl
    · rw [if_neg c, decide_eq_false (by omega)]; rfl
  -- both ways begun
  refine ⟨fun σ' H' => σ' = [x0, some (.ref nA), x2, x3, some (.ref a), some (.int (m : Nat)), some (.int (k : Nat)), some (.str last), some (.ref one), some (.ref two), some (.bl (decide ((m : Int) ≤ (k : Int)))), some (.ref p5), none, none, none, none] ∧ Same H5 H', ?_, ?_⟩
  · refine ⟨_, rfl, _, rfl, _, rfl, a, one, two, lrows n0 n1 n2, chn n0 "*" m, chn n0 last k, rfl, G5.bed, G5.o1.sq, G5.o2.sq, soT, st, okt, oku, by omega, by omega, fun H6 s6 => ?_⟩
    rw [hs1]
    refine ⟨_, rfl, .bl _, .bl _, .bool _, rfl, .bl _, .bl _, trivial, _, rfl, iteF ?_⟩
    have G6 := G5.same s6
    refine ⟨_, rfl, _, rfl, _, rfl, a, two, one, lrows n0 n1 n2, chn n0 last k, chn n0 "*" m, rfl, G6.bed, G6.o2.sq, G6.o1.sq, soU, st, oku, okt, by omega, by omega, fun H7 s7 => ?_⟩
    rw [hb2]
    refine ⟨_, rfl, rfl, _, rfl, if_dec (fun c => ?_) (fun c => ?_)⟩
    · have c : last = "*" := V.str.inj c
      refine ⟨_, rfl, _, rfl, _, _, rfl, rfl, .bl _, .bl _, .bool (decide ((k : Int) ≤ (m : Int))), rfl, ?_, .bl _, trivial, _, rfl, iteF ⟨rfl, s6.trans s7⟩⟩
      by_cases d : k ≤ m
      · rw [if_pos ⟨c, d⟩, decide_eq_true (by omega)]
        exact .bl _
      · rw [if_neg fun z => d z.2, decide_eq_false (by omega)]
        exact .bl _
    · rw [if_neg fun z => c (by rw [z.1])]
      exact ⟨.bl _, .bl _, .bool false, rfl, .bl _, .bl _, trivial, _, rfl, iteF ⟨rfl, s6.trans s7⟩⟩
  rintro σ7 H7 ⟨rfl, s57⟩
  have G7 := G5.same s57
  have iP7 := iP.mono (Stay.of s57)
  clear G5 iP s57
  -- the parts
  refine ⟨fun σ' H' => σ' = [x0, some (.ref nA), x2, x3, some (.ref a), some (.int (m : Nat)), some (.int (k : Nat)), some (.str last), some (.ref one), some (.ref two), some (.bl (decide ((m : Int) ≤ (k : Int)))), some (.ref p5), none, none, none, none] ∧ Same H7 H', ?_, ?_⟩
  · refine ⟨_, rfl, _, rfl, _, rfl, a, one, two, lrows n0 n1 n2, chn n0 "*" m, chn n0 last k, rfl, G7.bed, G7.o1.sq, G7.o2.sq, soT, st, okt, oku, by omega, by omega, fun z H8 s8 => ?_, fun ps z H8 v8 s8 i8 => ?_⟩
    · have hmk : ¬ m ≤ k := fun c => by rw [hb1, if_pos c] at z; cases z
      rw [decide_eq_false (show ¬ ((m : Int) ≤ (k : Int)) by omega)]
      exact ⟨_, rfl, false, rfl, iteF ⟨.non, .non, .none, rfl, .non, .non, trivial, _, rfl, iteF ⟨rfl, s8⟩⟩⟩
    · have hmk : m ≤ k := Decidable.byContradiction fun c => by rw [hb1, if_neg c] at z; cases z
      rw [hb1, if_pos hmk] at z
      cases z
      rw [decide_eq_true (show (m : Int) ≤ (k : Int) by omega)]
      refine ⟨_, rfl, true, rfl, iteT ⟨_, rfl, v8, .ref p5, _, rfl, i8, iP7.mono (Stay.of s8), ?_, _, rfl, iteF ⟨rfl, s8⟩⟩⟩
      refine fit_tup (by show 1 ≤ 1000000; decide) fun d hd => ?_
      simp only [List.map_cons, List.map_nil, List.mem_cons, List.not_mem_nil, or_false] at hd
      rw [hd]
      exact fit_DS (by rw [chn_len]; omega)
  rintro σ8 H8 ⟨rfl, s78⟩
  have G8 := G7.same s78
  clear G7 iP7 s78
  -- what united has to tell
  refine ⟨fun σ' H' => ∃ v, σ' = [x0, some (.ref nA), x2, x3, some (.ref a), some (.int (m : Nat)), some (.int (k : Nat)), some (.str last), some (.ref one), some (.ref two), some (.bl (decide ((m : Int) ≤ (k : Int)))), some (.ref p5), some v, none, none, none] ∧ H' = H8 ∧ (m ≤ k → v = .ref two) ∧ (¬ m ≤ k → v = .non), ?_, ?_⟩
  · by_cases hmk : m ≤ k
    · rw [decide_eq_true (show (m : Int) ≤ (k : Int) by omega)]
      exact ⟨_, rfl, true, rfl, iteT ⟨_, rfl, _, rfl, rfl, fun _ => rfl, fun z => absurd hmk z⟩⟩
    · rw [decide_eq_false (show ¬ ((m : Int) ≤ (k : Int)) by omega)]
      exact ⟨_, rfl, false, rfl, iteF ⟨_, rfl, rfl, fun z => absurd z hmk, fun _ => rfl⟩⟩
  rintro σ9 H9 ⟨v9, rfl, rfl, e91, e92⟩
  refine ⟨fun σ' H' => ∃ v, σ' = [x0, some (.ref nA), x2, x3, some (.ref a), some (.int (m : Nat)), some (.int (k : Nat)), some (.str last), some (.ref one), some (.ref two), some (.bl (decide ((m : Int) ≤ (k : Int)))), some (.ref p5), some v, none, none, none] ∧ H' = H9 ∧ Im K H9 v (dU n0 last m k), ?_, ?_⟩
  · refine ⟨_, rfl, rfl, _, rfl, if_dec (fun c => ?_) (fun c => ?_)⟩
    · have c : last = "*" := V.str.inj c
      by_cases hmk : m ≤ k
      · rw [decide_eq_true (show (m : Int) ≤ (k : Int) by omega)]
        refine ⟨_, rfl, true, rfl, iteF ⟨_, rfl, rfl, ?_⟩⟩
        rw [e91 hmk]
        unfold dU
        rw [if_pos hmk]
        exact G8.o2.im
      · rw [decide_eq_false (show ¬ ((m : Int) ≤ (k : Int)) by omega)]
        refine ⟨_, rfl, false, rfl, iteT ⟨_, rfl, _, rfl, rfl, ?_⟩⟩
        unfold dU
        rw [if_neg hmk, if_pos c]
        exact G8.o1.im
    · refine ⟨_, rfl, rfl, ?_⟩
      unfold dU
      by_cases hmk : m ≤ k
      · rw [e91 hmk, if_pos hmk]
        exact G8.o2.im
      · rw [e92 hmk, if_neg hmk, if_neg fun z => c (by rw [z])]
        exact .non
  rintro σ10 H10 ⟨v10, rfl, rfl, i10⟩
  clear e91 e92
  refine ⟨_, rfl, _, rfl, _, rfl, ?_⟩
  try dsimp only [tNil]
  refine un_of (dU n0 last m k) (fun e => ?_) (fun x e => ?_) G8.bed st G8.o1 G8.o2 (by omega) (by omega) (fun x e => ?_) fun H11 v11 s11 i11 => ?_
  · rw [hun] at e
    unfold dU
    by_cases hmk : m ≤ k
    · rw [if_pos hmk] at e; cases e
    · rw [if_neg hmk] at e
      by_cases c : last = "*"
      · rw [if_pos c] at e; cases e
      · rw [if_neg hmk, if_neg c]
  · rw [hun] at e
    unfold dU
    by_cases hmk : m ≤ k
    · rw [if_pos hmk] at e
      rw [if_pos hmk, Option.some.inj e]
    · rw [if_neg hmk] at e
      by_cases c : last = "*"
      · rw [if_pos c] at e
        rw [if_neg hmk, if_pos c, Option.some.inj e]
      · rw [if_neg c] at e; cases e
  · rw [hun] at e
    by_cases hmk : m ≤ k
    · rw [if_pos hmk] at e
      rw [← Option.some.inj e, chn_len]
      omega
    · rw [if_neg hmk] at e
      by_cases c : last = "*"
      · rw [if_pos c] at e
        rw [← Option.some.inj e, chn_len]
        omega
      · rw [if_neg c] at e; cases e
  refine ⟨_, rfl, v11, v10, _, rfl, i11, i10.mono (Stay.of s11), fit_dU (by omega) (by omega), _, rfl, iteF ?_⟩
  have G11 := G8.same s11
  clear G8 i10 i11 s11
  -- common
  refine ⟨_, rfl, _, rfl, _, rfl, ?_⟩
  try dsimp only [tNil]
  refine com_of (rows := lrows n0 n1 n2) (r := one) (t := chn n0 "*" m) (bs := [two]) (us := [chn n0 last k]) G11.bed ⟨st, fun u hu => ?_, .cons G11.o1 (.cons G11.o2 .nil)⟩ (by show 1 ≤ 6; decide) fun H12 p12 s12 t12 => ?_
  · simp only [List.mem_cons, List.not_mem_nil, or_false] at hu
    rcases hu with rfl | rfl
    · rw [lt]; omega
    · rw [lu]; omega
  have ec : comL (lrows n0 n1 n2) (chn n0 "*" m) [chn n0 last k] = chn n0 "*" (min m k) := hcm
  rw [ec] at t12
  have G12 := G11.same s12
  clear G11 s12
  refine ⟨_, rfl, _, rfl, nA, _, _, _, rfl, rfl, SqL.of G12.nm, an0, by show 1 ≤ sizeLine; decide, fun q0 hq0 => ?_⟩
  have r0 := up_same (o := .tup [V.str n0]) hq0
  refine ⟨_, rfl, _, rfl, (by show 2 ≤ sizeLine; decide), fun D hD => ?_⟩
  have r1 := up_same (o := .lst [V.int (m : Nat), .int (k : Nat)]) hD
  have tq := SqT.of (K := K) (r1 _ _ (upd_same (H := H12) (a := q0) (o := .tup [V.str n0])))
  refine ⟨_, rfl, _, rfl, _, _, rfl, rfl, .inr ⟨_, rfl, ?_⟩⟩
  refine ⟨D, _, _, .int ((min m k : Nat) : Int), rfl, rfl, SqL.of upd_same, ?_, rep_str tq (by omega) (by omega) fun q2 H13 s13 t13 => ?_⟩
  · by_cases c : k < m
    · rw [decide_eq_true (show (k : Int) < (m : Int) by omega), Nat.min_eq_right (by omega)]
      exact atI_nat (j := 1) rfl
    · rw [decide_eq_false (show ¬ (k : Int) < (m : Int) by omega), Nat.min_eq_left (by omega)]
      exact atI_nat (j := 0) rfl
  refine ⟨(by show 1 ≤ sizeLine; decide), fun q3 hq3 => ?_⟩
  have r3 := up_same (o := .tup [V.str "*"]) hq3
  refine cat_rows (m := [("*" : Str)]) (Same.sqt r3 t13) (SqT.of upd_same) (by rw [List.length_replicate]; show _ + 1 ≤ _; omega) fun q4 H14 s14 t14 => ?_
  rw [show (((min m k : Nat) : Int)).toNat = min m k by omega, ← chn_pre] at t14
  have s24 : Same H12 H14 := (r0.trans r1).trans (s13.trans (r3.trans s14))
  refine ⟨.ref p12, .ref q4, _, rfl, (t12.mono (Stay.of s24)).im, Im.strs t14, fit_DS (by rw [chn_len]; omega), _, rfl, iteF ?_⟩
  have G14 := G12.same s24
  clear G12 s24 t14 t13 tq r0 r1 r3 s13 s14 t12
  -- the one hole
  have ck := ck_none st okt (by rw [lt]; omega)
  refine ⟨_, rfl, _, rfl, a, one, lrows n0 n1 n2, pre (chn n0 "*" m), rfl, G14.bed, G14.o1.sq, fun _ H15 v15 s15 i15 => ?_, fun e z => by rw [ck] at z; cases z⟩
  rw [pths_ap okt, hpT_eq, hhp] at i15
  refine ⟨(by show 1 ≤ sizeLine; decide), fun z0 hz0 => ?_⟩
  have u0 := up_same (o := .tup [V.int 0]) hz0
  refine ⟨_, rfl, rep_gen (SqT.of upd_same) (by omega) (by omega) fun z1 H16 s16 t16 => ⟨by show 1 ≤ sizeLine; decide, fun z2 hz2 => ?_⟩⟩
  have u2 := up_same (o := .tup [V.ref z1]) hz2
  rw [show ((m : Int)).toNat = m by omega, show List.replicate m (V.int 0) = vN (List.replicate m 0) by rw [vN, List.map_replicate]; rfl] at t16
  refine ⟨v15, .ref z2, _, rfl, i15.mono (Stay.of ((u0.trans s16).trans u2)), .tup (SqT.of upd_same) (.cons (Im.nats (Same.sqt u2 t16)) .nil), fit_tup (by show 1 ≤ 1000000; decide) (fun d hd => ?_), _, rfl, iteF ?_⟩
  · rw [List.mem_singleton.mp hd]
    exact fit_DN (by rw [List.length_replicate]; omega)
  exact hC Q _ a nA one two n0 n1 n2 last m k _ _ _ _ _ _ _ _ _ _ hq lp (G14.same (s15.trans ((u0.trans s16).trans u2)))
end
end Sy
namespace Sy
open PySem PySem.Spec PyProof.Rows L2
theorem Bag.ne {g p : Addr} {H : Hp} (b : Bag g H) (h : H p = none) : p ≠ g := fun z => by
  obtain ⟨_, _, e⟩ := b
  rw [z, e] at h
  cases h
theorem Bag.upd {g p : Addr} {H : Hp} {o : HO} (b : Bag g H) (n : p ≠ g) : Bag g (L2.upd H p o) := by
  obtain ⟨l, a, e⟩ := b
  exact ⟨l, a, by rw [upd_ne (Ne.symm n)]; exact e⟩
section
variable {P : Program} {w : World} {K : PySem.W.Frag} {mg : Str → Option Value} {base : Heap}
theorem rep_new {H : Hp} {l : Addr} {x : Str} {k : Nat} {Q : VK} (h : SqT K H l [.str x]) (h1 : 1 ≤ k) (h2 : k ≤ 5000) (q : ∀ p H', Same H H' → SqT K H' p ((List.replicate k x).map V.str) → Q (.ref p) H') : rRepG K (.ref l) (.int (k : Nat)) H Q :=
  rep_str h (by omega) (by omega) fun p H' s t => q p H' s (by rw [show ((k : Int)).toNat = k by omega] at t; exact t)
theorem cat_newT {H : Hp} {a b : Addr} {l : List Str} {y : Str} {Q : VK} (h : SqT K H a (l.map V.str)) (g : SqT K H b [.str y]) (hl : 1 ≤ l.length) (hs : l.length ≤ 100000) (q : ∀ p H', Same H H' → SqT K H' p ((l ++ [y]).map V.str) → NoD H' p → Q (.ref p) H') : rCatZ K (.ref a) (.ref b) H Q := by
  refine ⟨a, b, _, _, rfl, rfl, h, g, by rw [List.length_map, sizeLine_eq]; show _ + 1 ≤ _; omega, fun c => ?_, fun _ c => (nomatch c), fun _ _ p H' n => q p H' n.same ?_ n.nod⟩
  · rw [List.map_eq_nil_iff] at c
    rw [c] at hl
    exact absurd hl (by decide)
  · rw [List.map_append]
    exact n.sqt
theorem bed_ofP {vs : List V} {H : Hp} {ps : List Addr} {rows : List Sy.Row} {R : VK} {x dx : Addr} (ev : vs = ps.map V.ref) (hp : Paired (fun q (r : Sy.Row) => SqT K H q [.str r.1, .int (r.2 : Nat)]) ps rows) (ok : RowsOk rows) (hx : H x = Option.none) (hdx : H dx = Option.none) (ne : dx ≠ x) (h : ∀ H', Same H H' → BedAt K H' x rows → R .non H') :
    spStar 1 (spInitB K) (V.ref x :: vs) (upd (upd H dx (.own x)) x (.ins (He.ga K "Bed") dx [])) R E0 := by
  subst ev
  have hpl := paired_len hp
  have hle := ok.le
  have s1 : Same H (upd H dx (.own x)) := up_same hdx
  have hx1 : (upd H dx (.own x)) x = none := by rw [upd_ne ne.symm]; exact hx
  have s2 : Same H (upd (upd H dx (.own x)) x (.ins (He.ga K "Bed") dx [])) := s1.trans (up_same hx1)
  refine ⟨[.ref x], ps.map V.ref, rfl, rfl, by rw [List.length_map, sizeLine_eq]; omega, fun p hp' => ?_⟩
  have s3 := s2.trans (up_same (o := .tup (ps.map V.ref)) hp')
  have nx : x ≠ p := fun z => by rw [← z, upd_same] at hp'; cases hp'
  refine ⟨x, p, dx, ps, rows, rfl, by rw [upd_ne nx]; exact upd_same, SqT.of upd_same, Paired.mapP hp fun _ _ z => Same.sqt s3 z, ok, fun H' keep bed => h H' (fun b o e => keep b o (fun z => ?_) (s3 _ _ e)) bed⟩
  rw [z, hx] at e
  cases e
def spLgR (K : PySem.W.Frag) : Sp := fun vs H Q _ => ∃ g : Addr, vs = [.ref g] ∧ Bag g H ∧ ∀ H', Q (.bl true) H'
theorem k_lgR (T : Txt K mg) (M : Mk K (He.ga K "Bed") (He.ma K (He.ga K "Bed") "__init__")) (at_ : mg "Bed" = some (.ref (He.ga K "Bed"))) (FI : FnR P w K mg base (L2.CX P w) 3 (He.ma K (He.ga K "Bed") "__init__") (spStar 1 (spInitB K))) (F : DF K mg "_law_long_right" 71) (c_begins : Cal P w K mg base 6 "begins" ["bed", "stump", "other"] (spBegins K)) (c_parts : Cal P w K mg base 5 "parts" ["bed", "stump", "other"] (spParts K)) (c_common : CalR P w K mg base 5 "common" (spStar 2 (spCommon K))) (c_united : Cal P w K mg base 5 "united" ["bed", "first", "second"] (spUnited K)) (c_holes : Cal P w K mg base 5 "holes" ["bed", "stump"] (spHoles K))
    (c_law_draw : Cal P w K mg base 1 "_law_draw" ["_law_bag_here", "_law_size"] spDraw) (c_law_name : Cal P w K mg base 3 "_law_name" ["_law_bag_here", "_law_taken"] (spNameL K)) (c_law_same : Cal P w K mg base 4 "_law_same" ["_law_told", "_law_due"] (spSame K 3)) (c_law_long_met : Cal P w K mg base 6 "_law_long_met" ["_law_bed_here", "_law_one", "_law_two", "_law_way", "_law_chains"] (spLm K)) : Cal P w K mg base 7 "_law_long_right" ["_law_bag_here"] (spLgR K) := by
  refine cal_of F.1 F.2 sc_lgR (fun _ _ _ _ _ _ us e => match us, e with | [_], _ => rfl) (fun vs H Q E s => by obtain ⟨_, rfl, _⟩ := s; rfl) ?_
  intro cdv A outer s H vs Q E hr h
  obtain ⟨g, rfl, hg, hq⟩ := h
  have sc := sc_lgR
  obtain ⟨tB, pB, hB⟩ := rest_lgB (P := P) (w := w) (K := K) (mg := mg) (base := base) T c_begins c_parts c_common c_united c_holes c_law_same c_law_long_met (cdv := cdv) (A := A) (outer := outer) (s := s) (H := H) (E := E) hr
  refine ⟨_, (pss_cons (ps_set (i := 1) sc.nd rfl (Or.inl rfl) (pe_lst pa_nil))
      (pss_cons (ps_for (passes_of rfl) rfl (pi_range1 rfl T.range (pa_cons pe_int pa_nil)) (pg_name (i := 2) sc.nd rfl (Or.inl rfl))
        (pss_one (ps_expr (pe_bm PySem.F.plainAttrs_list PySem.F.slot_list_append PySem.F.type_list_append mt_append (pv 1) (pa_cons (pe_cal c_law_name hr (pa_cons (pv 0) (pa_cons (pv 1) pa_nil))) pa_nil)))))
      (pss_cons (ps_set (i := 3) sc.nd rfl (Or.inl rfl) (pe_lst (pa_cons (pe_tup (pa_cons (pe_ix ix_list (pv 1) pe_int (fun _ _ => rfl)) (pa_cons pe_int pa_nil))) (pa_cons (pe_tup (pa_cons (pe_ix ix_list (pv 1) pe_int (fun _ _ => rfl)) (pa_cons pe_int pa_nil))) (pa_cons (pe_tup (pa_cons (pe_ix ix_list (pv 1) pe_int (fun _ _ => rfl)) (pa_cons pe_int pa_nil))) pa_nil)))))
      (pss_cons (ps_set (i := 4) sc.nd rfl (Or.inl rfl) (pe_bed M at_ FI hr (pa_cons (pe_ix ix_list (pv 3) pe_int (fun _ _ => rfl)) (pa_cons (pe_ix ix_list (pv 3) pe_int (fun _ _ => rfl)) (pa_cons (pe_ix ix_list (pv 3) pe_int (fun _ _ => rfl)) pa_nil)))))
      (pss_cons (ps_set (i := 5) sc.nd rfl (Or.inl rfl) (pe_op op_add pe_int (pe_cal c_law_draw hr (pa_cons (pv 0) (pa_cons pe_int pa_nil)))))
      (pss_cons (ps_set (i := 6) sc.nd rfl (Or.inl rfl) (pe_ix ix_list (pe_lst (pa_cons (pe_op op_add pe_int (pe_cal c_law_draw hr (pa_cons (pv 0) (pa_cons pe_int pa_nil)))) (pa_cons (pe_op op_add pe_int (pe_cal c_law_draw hr (pa_cons (pv 0) (pa_cons pe_int pa_nil)))) (pa_cons (pe_op op_sub pe_int (pv 5)) (pa_cons (pe_op op_sub pe_int (pv 5)) pa_nil))))) (pe_cal c_law_draw hr (pa_cons (pv 0) (pa_cons pe_int pa_nil))) (fun _ _ => rfl)))
      (pss_cons (ps_set (i := 7) sc.nd rfl (Or.inl rfl) (pe_ix ix_list (pe_lst (pa_cons (pe_ix ix_list (pv 1) pe_int (fun _ _ => rfl)) (pa_cons pe_str pa_nil))) (pe_cal c_law_draw hr (pa_cons (pv 0) (pa_cons pe_int pa_nil))) (fun _ _ => rfl)))
      (pss_cons (ps_set (i := 8) sc.nd rfl (Or.inl rfl) (pe_op op_catZ (pe_op op_repG (pe_tup (pa_cons (pe_ix ix_list (pv 1) pe_int (fun _ _ => rfl)) pa_nil)) (pv 5)) (pe_tup (pa_cons pe_str pa_nil))))
      (pss_cons (ps_set (i := 9) sc.nd rfl (Or.inl rfl) (pe_op op_catZ (pe_op op_repG (pe_tup (pa_cons (pe_ix ix_list (pv 1) pe_int (fun _ _ => rfl)) pa_nil)) (pv 6)) (pe_tup (pa_cons (pv 7) pa_nil))))
      pB))))))))), ?_⟩
  -- the names
  refine ⟨by decide, fun nA hnA => ?_⟩
  have hne := hg.ne hnA
  have b1 : Bag g (upd H nA (.lst [])) := hg.upd hne
  have e1 : upd H nA (.lst []) nA = some (.lst []) := upd_same
  generalize upd H nA (.lst []) = H1 at *
  refine ⟨_, rfl, by decide, by decide, for_rng (n := 3) (fun i σ H' => ∃ (t2 : Option V) (nm : List Str), σ = [some (.ref g), some (.ref nA), t2, none, none, none, none, none, none, none, none, none, none, none, none, none] ∧ Bag g H' ∧ H' nA = some (.lst (nm.map V.str)) ∧ nm.length = i ∧ (∀ x ∈ nm, Wd x) ∧ nm.Nodup) ⟨none, [], rfl, b1, e1, rfl, fun _ h => (nomatch h), List.nodup_nil⟩ ?_ ?_⟩
  · rintro i σ H2 hi ⟨t2, nm, rfl, b2, e2, hl, hwd, hnd⟩
    refine ⟨_, rfl, .inl ⟨rfl, _, SqL.of e2⟩, _, rfl, _, rfl, g, nA, nm, rfl, b2, Ne.symm hne, e2, hwd, by omega, fun x H3 hx hxn d3 => ?_⟩
    have e3 := d3.at_ hne e2
    refine ⟨nA, _, _, rfl, rfl, e3, by rw [List.length_map, sizeLine_eq]; omega, _, nm ++ [x], rfl, d3.bag.upd hne, ?_, ?_, fun y hy => ?_, ?_⟩
    · rw [upd_same, List.map_append]
      rfl
    · rw [List.length_append, hl]
      rfl
    · rcases List.mem_append.mp hy with hy | hy
      · exact hwd y hy
      · rw [List.mem_singleton.mp hy]
        exact hx
    · rw [List.nodup_append]
      refine ⟨hnd, by simp, fun a ha b hb => ?_⟩
      rw [List.mem_singleton.mp hb]
      exact fun z => hxn (by rw [← z]; exact ha)
  rintro σ H2 ⟨t2, nm, rfl, b2, e2, hl, hwd, hnd⟩
  obtain ⟨n0, n1, n2, rfl⟩ : ∃ n0 n1 n2, nm = [n0, n1, n2] := by
    match nm, hl with
    | [x, y, z], _ => exact ⟨_, _, _, rfl⟩
  have w0 := hwd n0 (by simp)
  have w1 := hwd n1 (by simp)
  have w2 := hwd n2 (by simp)
  simp only [List.nodup_cons, List.mem_cons, List.not_mem_nil, or_false, not_or, List.nodup_nil, not_false_eq_true, and_true] at hnd
  obtain ⟨⟨d01, d02⟩, d12⟩ := hnd
  have e2 : H2 nA = some (.lst [.str n0, .str n1, .str n2]) := e2
  have an0 : atI [V.str n0, .str n1, .str n2] (0 : Int) = some (.str n0) := atI_nat (j := 0) rfl
  have an1 : atI [V.str n0, .str n1, .str n2] (1 : Int) = some (.str n1) := atI_nat (j := 1) rfl
  have an2 : atI [V.str n0, .str n1, .str n2] (2 : Int) = some (.str n2) := atI_nat (j := 2) rfl
  clear hwd hl e1 b1
  -- the rows and the bed
  refine ⟨_, rfl, nA, _, _, _, rfl, rfl, SqL.of e2, an0, by show 2 ≤ sizeLine; decide, fun p0 hp0 => ?_⟩
  have s0 := up_same (o := .tup [V.str n0, .int 1]) hp0
  refine ⟨_, rfl, nA, _, _, _, rfl, rfl, SqL.of (s0 _ _ e2), an1, by show 2 ≤ sizeLine; decide, fun p1 hp1 => ?_⟩
  have s1 := up_same (o := .tup [V.str n1, .int 0]) hp1
  refine ⟨_, rfl, nA, _, _, _, rfl, rfl, SqL.of (s1 _ _ (s0 _ _ e2)), an2, by show 2 ≤ sizeLine; decide, fun p2 hp2 => ?_⟩
  have s2 := up_same (o := .tup [V.str n2, .int 2]) hp2
  refine ⟨(by show 3 ≤ sizeLine; decide), fun q hq4 => ?_⟩
  have s3 := up_same (o := .lst [V.ref p0, .ref p1, .ref p2]) hq4
  have eq4 : upd (upd (upd (upd H2 p0 (.tup [V.str n0, .int 1])) p1 (.tup [V.str n1, .int 0])) p2 (.tup [V.str n2, .int 2])) q (.lst [V.ref p0, .ref p1, .ref p2]) q = some (.lst [V.ref p0, .ref p1, .ref p2]) := upd_same
  have PR : Paired (fun q' (r : Sy.Row) => SqT K (upd (upd (upd (upd H2 p0 (.tup [V.str n0, .int 1])) p1 (.tup [V.str n1, .int 0])) p2 (.tup [V.str n2, .int 2])) q (.lst [V.ref p0, .ref p1, .ref p2])) q' [.str r.1, .int (r.2 : Nat)]) [p0, p1, p2] (lrows n0 n1 n2) :=
    .cons (SqT.of (s3 _ _ (s2 _ _ (s1 _ _ upd_same)))) (.cons (SqT.of (s3 _ _ (s2 _ _ upd_same))) (.cons (SqT.of (s3 _ _ upd_same)) .nil))
  have s25 := ((s0.trans s1).trans s2).trans s3
  generalize upd (upd (upd (upd H2 p0 (.tup [V.str n0, .int 1])) p1 (.tup [V.str n1, .int 0])) p2 (.tup [V.str n2, .int 2])) q (.lst [V.ref p0, .ref p1, .ref p2]) = H5 at *
  obtain ⟨rok, rwx⟩ := lrows_ok w0 w1 w2 d01 d02 d12
  refine ⟨_, rfl, q, _, _, _, rfl, rfl, SqL.of eq4, atI_nat (j := 0) rfl, _, rfl, q, _, _, _, rfl, rfl, SqL.of eq4, atI_nat (j := 1) rfl, _, rfl, q, _, _, _, rfl, rfl, SqL.of eq4, atI_nat (j := 2) rfl, ?_⟩
  dsimp only [tNil]
  intro a da hha hda hna
  refine bed_ofP (ps := [p0, p1, p2]) rfl PR rok hha hda hna fun H7 s7 b7 => ⟨rfl, ?_⟩
  have s27 := s25.trans s7
  have bg7 := b2.same s27
  have e7 := s27 _ _ e2
  clear s0 s1 s2 s3 s25 PR eq4 s7 s27 hp0 hp1 hp2 hq4 b2 e2
  -- how many
  refine ⟨_, rfl, g, 1990, rfl, bg7, by decide, by decide, fun dm H8 hdm d8 => ⟨_, _, rfl, rfl, ?_⟩⟩
  dsimp only
  rw [int1 dm]
  obtain ⟨m, em⟩ : ∃ m, m = 1 + dm := ⟨_, rfl⟩
  rw [← em]
  have hm1 : 1 ≤ m := by omega
  have hm2 : m ≤ 1990 := by omega
  have b8 := b7.mono (d8.stay bg7)
  have e8 := d8.at_ hne e7
  have bg8 := d8.bag
  clear b7 e7 d8 bg7 em
  refine ⟨_, rfl, g, 1990, rfl, bg8, by decide, by decide, fun ra H9 hra d9 => ⟨_, _, rfl, rfl, ?_⟩⟩
  have b9 := b8.mono (d9.stay bg8)
  have e9 := d9.at_ hne e8
  have bg9 := d9.bag
  refine ⟨_, rfl, g, 1990, rfl, bg9, by decide, by decide, fun rb H10 hrb d10 => ⟨_, _, rfl, rfl, _, rfl, _, _, rfl, rfl, _, rfl, _, _, rfl, rfl, ?_⟩⟩
  have b10 := b9.mono (d10.stay bg9)
  have e10 := d10.at_ hne e9
  have bg10 := d10.bag
  clear b8 b9 e8 e9 bg8 bg9 d9 d10
  refine ⟨(by show 4 ≤ sizeLine; decide), fun D hD => ?_⟩
  have hDg := bg10.ne hD
  have sD := up_same (o := .lst [(fun i j : Int => V.int (i + j)) 1 (ra : Nat), (fun i j : Int => V.int (i + j)) 1 (rb : Nat), (fun i j : Int => V.int (i - j)) 1997 (m : Nat), (fun i j : Int => V.int (i - j)) 1998 (m : Nat)]) hD
  have bgD := bg10.same sD
  have eD := upd_same (H := H10) (a := D) (o := .lst [(fun i j : Int => V.int (i + j)) 1 (ra : Nat), (fun i j : Int => V.int (i + j)) 1 (rb : Nat), (fun i j : Int => V.int (i - j)) 1997 (m : Nat), (fun i j : Int => V.int (i - j)) 1998 (m : Nat)])
  refine ⟨_, rfl, g, 4, rfl, bgD, by decide, by decide, fun j H11 hj d11 => ?_⟩
  obtain ⟨k, hk1, hk2, hk⟩ : ∃ k : Nat, 1 ≤ k ∧ k ≤ 1997 ∧ atI [(fun i j : Int => V.int (i + j)) 1 (ra : Nat), (fun i j : Int => V.int (i + j)) 1 (rb : Nat), (fun i j : Int => V.int (i - j)) 1997 (m : Nat), (fun i j : Int => V.int (i - j)) 1998 (m : Nat)] (j : Int) = some (.int (k : Nat)) := by
    match j, hj with
    | 0, _ => exact ⟨1 + ra, by omega, by omega, by rw [← int1]; exact atI_nat (j := 0) rfl⟩
    | 1, _ => exact ⟨1 + rb, by omega, by omega, by rw [← int1]; exact atI_nat (j := 1) rfl⟩
    | 2, _ => exact ⟨1997 - m, by omega, by omega, by rw [show (((1997 - m : Nat) : Int)) = 1997 - (m : Int) by omega]; exact atI_nat (j := 2) rfl⟩
    | 3, _ => exact ⟨1998 - m, by omega, by omega, by rw [show (((1998 - m : Nat) : Int)) = 1998 - (m : Int) by omega]; exact atI_nat (j := 3) rfl⟩
  refine ⟨D, _, _, _, rfl, rfl, SqL.of (d11.at_ hDg eD), hk, ?_⟩
  have b11 := (b10.mono (Stay.of sD)).mono (d11.stay bgD)
  have e11 := d11.at_ hne (sD _ _ e10)
  have bg11 := d11.bag
  clear b10 e10 bg10 bgD eD sD d11 hk
  -- the last
  refine ⟨_, rfl, nA, _, _, _, rfl, rfl, SqL.of e11, an1, by show 2 ≤ sizeLine; decide, fun D2 hD2 => ?_⟩
  have hDg2 := bg11.ne hD2
  have sD2 := up_same (o := .lst [V.str n1, .str "*"]) hD2
  have bgD2 := bg11.same sD2
  refine ⟨_, rfl, g, 2, rfl, bgD2, by decide, by decide, fun j2 H12 hj2 d12' => ?_⟩
  obtain ⟨last, hla, hlast⟩ : ∃ last : Str, (last = n1 ∨ last = "*") ∧ atI [V.str n1, .str "*"] (j2 : Int) = some (.str last) := by
    match j2, hj2 with
    | 0, _ => exact ⟨n1, .inl rfl, atI_nat (j := 0) rfl⟩
    | 1, _ => exact ⟨"*", .inr rfl, atI_nat (j := 1) rfl⟩
  refine ⟨D2, _, _, _, rfl, rfl, SqL.of (d12'.at_ hDg2 upd_same), hlast, ?_⟩
  have b12 := (b11.mono (Stay.of sD2)).mono (d12'.stay bgD2)
  have e12 := d12'.at_ hne (sD2 _ _ e11)
  clear b11 e11 bg11 bgD2 sD2 d12' hlast
  have lp : Lp n0 n1 n2 last m k := ⟨w0, w1, w2, d01, d02, d12, hm1, hm2, hk1, hk2, hla⟩
  -- the chains
  refine ⟨_, rfl, nA, _, _, _, rfl, rfl, SqL.of e12, an0, by show 1 ≤ sizeLine; decide, fun c0 hc0 => ?_⟩
  have r0 := up_same (o := .tup [V.str n0]) hc0
  refine ⟨_, rfl, rep_new (SqT.of upd_same) hm1 (by omega) fun c1 H13 s13 t13 => ⟨by show 1 ≤ sizeLine; decide, fun c2 hc2 => ?_⟩⟩
  have r2 := up_same (o := .tup [V.str "*"]) hc2
  refine cat_newT (Same.sqt r2 t13) (SqT.of upd_same) (by rw [List.length_replicate]; exact hm1) (by rw [List.length_replicate]; omega) fun one H14 s14 t14 n14 => ?_
  rw [← chn_pre] at t14
  have s24 := (r0.trans s13).trans (r2.trans s14)
  have e14 := s24 _ _ e12
  have b14 := b12.mono (Stay.of s24)
  have o14 : TrAt K H14 (lrows n0 n1 n2) one (chn n0 "*" m) := ⟨t14, n14, lp.c1 m⟩
  clear r0 s13 t13 r2 s14 s24 e12 b12
  refine ⟨_, rfl, nA, _, _, _, rfl, rfl, SqL.of e14, an0, by show 1 ≤ sizeLine; decide, fun c3 hc3 => ?_⟩
  have r3 := up_same (o := .tup [V.str n0]) hc3
  refine ⟨_, rfl, rep_new (SqT.of upd_same) hk1 (by omega) fun c4 H15 s15 t15 => ⟨_, rfl, by show 1 ≤ sizeLine; decide, fun c5 hc5 => ?_⟩⟩
  have r5 := up_same (o := .tup [V.str last]) hc5
  refine cat_newT (Same.sqt r5 t15) (SqT.of upd_same) (by rw [List.length_replicate]; exact hk1) (by rw [List.length_replicate]; omega) fun two H16 s16 t16 n16 => ?_
  rw [← chn_pre] at t16
  have s46 := (r3.trans s15).trans (r5.trans s16)
  exact hB Q H16 a nA one two n0 n1 n2 last m k _ _ _ hq lp ⟨b14.mono (Stay.of s46), s46 _ _ e14, o14.mono (Stay.of s46), ⟨t16, n16, lp.c2 k⟩⟩
end
end Sy
namespace Sy
open PySem PySem.Spec PyProof.Rows L2
section
variable {P : Program} {w : World} {K : PySem.W.Frag} {mg : Str → Option Value} {base : Heap}
def spLaw (K : PySem.W.Frag) : Sp := fun vs H Q _ => ∃ (s : Addr) (zs : List Int), vs = [.ref s] ∧ SqL K H s (zs.map V.int) ∧ zs.length ≤ 100000 ∧ ∀ H', Q (.bl true) H'
abbrev N_law : List Str := ["_law_script", "_law_bag_here"]
theorem sc_law : FnScope N_law ["_law_script"] (defScope (top 72)) := ⟨rfl, rfl, rfl, by decide +kernel, rfl, by decide +kernel, by decide +kernel⟩
theorem k_law (S : TxtS mg) {fd : FuncData} (F : FunD K "law" "law" (defArgs (top 72)) (defBody (top 72)) (defScope (top 72)) [] [] (He.ga K "law") fd) (c_law_bag : Cal P w K mg base 1 "_law_bag" ["_law_script"] (spBag K)) (c_law_draw : Cal P w K mg base 1 "_law_draw" ["_law_bag_here", "_law_size"] spDraw) (c_law_long_right : Cal P w K mg base 7 "_law_long_right" ["_law_bag_here"] (spLgR K)) (c_law_short_right : Cal P w K mg base 8 "_law_short_right" ["_law_bag_here"] (spShR K)) : FnOk P w K mg base (L2.CX P w) (8 + 1) (He.ga K "law") fd ["_law_script"] (spLaw K) := by
  refine F.ok sc_law (fun vs H Q E s => by obtain ⟨_, _, rfl, _⟩ := s; rfl) ?_
  intro cdv A outer s H vs Q E hr h
  obtain ⟨sa, zs, rfl, hs, hzl, hq⟩ := h
  have sc := sc_law
  refine ⟨_, (pss_cons (ps_set (i := 1) sc.nd rfl (Or.inl rfl) (pe_cal c_law_bag hr (pa_cons (pv 0) pa_nil)))
      (pss_cons (ps_if (pt_cmpR op_ne (pe_gstr rfl S.hole) pe_str (nomark _))
        (pss_one (ps_ret pe_bl))
        pss_nil)
      (pss_cons (ps_if (pt_cmpR op_eq (pe_cal c_law_draw hr (pa_cons (pv 1) (pa_cons pe_int pa_nil))) pe_int (nomark _))
        (pss_one (ps_ret (pe_cal c_law_long_right hr (pa_cons (pv 1) pa_nil))))
        pss_nil)
      (pss_one (ps_ret (pe_cal c_law_short_right hr (pa_cons (pv 1) pa_nil))))))), ?_⟩
  refine ⟨_, rfl, sa, zs, rfl, hs, hzl, fun g H1 _ _ b1 => ?_⟩
  refine ⟨rfl, _, rfl, if_ndec (fun c => absurd rfl c) (fun _ => ?_)⟩
  refine ⟨_, rfl, g, 8, rfl, b1, by decide, by decide, fun r H2 _ d2 => ⟨rfl, _, rfl, if_dec (fun _ => ?_) (fun _ => ?_)⟩⟩
  · exact ⟨_, rfl, g, rfl, d2.bag, hq⟩
  · exact ⟨_, rfl, g, rfl, d2.bag, hq⟩
end
end Sy
/-! the head's facts, own errors with an __init__ among them -/
namespace Sy
open PySem PySem.Spec PyProof.Rows L2
theorem oexB_ok {K : PySem.W.Frag} {C : Addr} (h : oexB K C = true) : ∃ nm q N bs bm sn sub ab col dd k0 k1 k2 k3 k5, K.lookup C = some (excClassObj nm q C N bs bm true sn sub ab col dd k0 k1 k2 k3 k5 "ValueError.__new__") ∧ HandSPX.refsVE bm = true := by
  unfold oexB at h
  split at h
  · rename_i t dd cd sl ho
    split at h
    · rename_i C' bm k0 k1 k2 k3 n k5 hm hs
      simp only [Bool.and_eq_true, decide_eq_true_eq, Bool.not_eq_true'] at h
      obtain ⟨h1, h2, h3, h4, h5, h6⟩ := h
      obtain ⟨nm, bs, mro, ns, qn, hd, sn, sub, ab, col, del⟩ := cd
      dsimp only at hm h4 h5
      subst hm h4 h5 h1 h2 h3
      have hsl : sl = #[k0, k1, k2, k3, some (.builtin "ValueError.__new__"), k5] := by
        obtain ⟨z⟩ := sl
        simp only at hs
        rw [hs]
      subst hsl
      exact ⟨nm, qn, ns, bs, bm, sn, sub, ab, col, dd, k0, k1, k2, k3, k5, ho, h6⟩
    · cases h
  · cases h
theorem initB_ok {K : PySem.W.Frag} {file : Str} {d : ErD} (e : erW K d.x = d.val) (h : initB K file d.x d.q = true) : ∃ (cc cd : Addr) (oc : Value) (od : Option Addr) (kV doc pm : Value) (an : Option Addr) (ct : Value) (osl : Array (Option Value)),
    K.lookup (iniA K d.x) = some ⟨oc, od, .func (PySem.W.fnX "__init__" d.q (defArgs d.st) (defBody d.st) (defScope d.st) [("__class__", cc)] .none kV doc pm an (.ref cd) ct), osl⟩ ∧ PySem.W.codeIn K (.ref cd) d.q = true ∧
    (∃ (cl : Value) (dd : Option Addr) (vs : Array Value) (sl : Array (Option Value)) (fi : Str) (tf : Tok), K.lookup cd = some ⟨cl, dd, .fields vs, sl⟩ ∧ vs[2]? = some (.str fi tf) ∧ (file == fi) = true) ∧ ∃ (cl : Value) (dd : Option Addr) (sl : Array (Option Value)), K.lookup cc = some ⟨cl, dd, .cell (some (.ref (He.ga K d.x))), sl⟩ := by
  unfold initB at h
  unfold erW at e
  split at h
  · rename_i oc od fd osl ho
    rw [ho] at e
    obtain ⟨n1, n2, n3, n4, n5, n6, n7, n8, n9, n10, n11, n12, n13, n14, n15⟩ := fd
    have e2 : (some (n1, n2, n3, n4, n5, n6, n7.map (·.1), n15) : FnE) = d.val := e
    unfold ErD.val at e2
    simp only [Option.some.injEq, Prod.mk.injEq] at e2
    obtain ⟨e1, e2, e3, e4, e5, e6, e7, e8⟩ := e2
    simp only [Bool.and_eq_true] at h
    obtain ⟨h1, h2, h3, h4⟩ := h
    have hd : n8 = .none := by
      split at h4
      · first | rfl | assumption
      · cases h4
    unfold fileB at h2
    split at h2
    · rename_i cd
      unfold cellB at h3
      split at h3
      · rename_i y cc
        have hy : y = "__class__" := by simpa using e7
        subst hy
        split at h3
        · rename_i cl2 dd2 D sl2 hc
          have hD := of_decide_eq_true h3
          subst hD
          split at h2
          · rename_i cl dd vs sl hv
            split at h2
            · rename_i fi tf hf
              subst e1 e2 e3 e4 e5 e6 e8 hd
              exact ⟨cc, cd, oc, od, n9, n10, n11, n12, n14, osl, ho, h1, ⟨cl, dd, vs, sl, fi, tf, hv, hf, h2⟩, ⟨cl2, dd2, sl2, hc⟩⟩
            · cases h2
          · cases h2
        · cases h3
      · cases h3
    · cases h2
  · cases h
theorem ErD.errB {P : Program} {K : PySem.W.Frag} {h : Heap} {mg : Str → Option Value} {d : ErD} (X : K.In h) (G : h.Ns mainGlobals mg) (e : erW K d.x = d.val) (c : d.ok P.main.file K = true) (mS : mg "super" = none) (top : (P.main.scope.names.lookup ("super" : Str)).isSome = false) : ErrB P K mg d.x d.q d.st d.fs := by
  obtain ⟨c1, c⟩ := Bool.and_eq_true_iff.mp c
  obtain ⟨c2, c⟩ := Bool.and_eq_true_iff.mp c
  obtain ⟨c3, c⟩ := Bool.and_eq_true_iff.mp c
  obtain ⟨c4, c⟩ := Bool.and_eq_true_iff.mp c
  obtain ⟨c5, c⟩ := Bool.and_eq_true_iff.mp c
  obtain ⟨c6, c⟩ := Bool.and_eq_true_iff.mp c
  obtain ⟨c7, c⟩ := Bool.and_eq_true_iff.mp c
  obtain ⟨c8, c⟩ := Bool.and_eq_true_iff.mp c
  obtain ⟨c9, c⟩ := Bool.and_eq_true_iff.mp c
  obtain ⟨c10, c⟩ := Bool.and_eq_true_iff.mp c
  obtain ⟨c11, c⟩ := Bool.and_eq_true_iff.mp c
  obtain ⟨c12, c⟩ := Bool.and_eq_true_iff.mp c
  obtain ⟨c13, c⟩ := Bool.and_eq_true_iff.mp c
  obtain ⟨c14, c⟩ := Bool.and_eq_true_iff.mp c
  obtain ⟨c15, c⟩ := Bool.and_eq_true_iff.mp c
  obtain ⟨c16, c17⟩ := Bool.and_eq_true_iff.mp c
  obtain ⟨cc, cd, oc, od, kV, doc, pm, an, ct, osl, l1, l2, l3, l4⟩ := initB_ok e c12
  refine ⟨⟨cc, cd, kV, doc, pm, an, ct, ⟨⟨oc, od, .none, kV, doc, pm, an, ct, osl, rfl, l1⟩, l2, l3, l4, ?_, of_decide_eq_true c14, He.eqO_ok c15, of_decide_eq_true c16, He.eqO_ok c17, ⟨oexB_ok c7, He.eqO_ok c8, of_decide_eq_true c9, of_decide_eq_true c10, c11⟩⟩⟩, He.eqO_ok c2, of_decide_eq_true c3, PySem.W.mg_of X G (He.eqO_ok c1), of_decide_eq_true c4, xfB_ok c5, fun f hf => He.eqO_ok (List.all_eq_true.mp c6 f hf), mS, top⟩
  unfold PySem.W.isClsIn at c13
  exact Option.isSome_iff_exists.mp c13
section
variable {file : Str} {fa : List He.Fa} {fn : List He.DefD} {er : List ErD} {K : PySem.W.Frag}
theorem SaysX.d (c : SaysX file fa fn er K) : He.SaysD fa fn K := congrArg (fun z : AlX => z.1) c
theorem SaysX.met (c : SaysX file fa fn er K) : metB K = true := (Bool.and_eq_true_iff.mp (show ((er.all fun d => d.ok file K) && metB K) = true from congrArg (fun z : AlX => z.2.1) c)).2
theorem SaysX.err_ (c : SaysX file fa fn er K) (i : Nat) {d : ErD} (h : er[i]? = some d := by rfl) : erW K d.x = d.val ∧ d.ok file K = true := by
  have c0 : ((er.all fun d => d.ok file K) && metB K) = true := congrArg (fun z : AlX => z.2.1) c
  have c1 := (Bool.and_eq_true_iff.mp c0).1
  have c2 : (er.map fun d => erW K d.x) = er.map ErD.val := congrArg (fun z : AlX => z.2.2) c
  refine ⟨?_, List.all_eq_true.mp c1 d (List.mem_of_getElem? h)⟩
  have e2 : (er.map fun d => erW K d.x)[i]? = (er.map ErD.val)[i]? := by rw [c2]
  rw [List.getElem?_map, List.getElem?_map, h] at e2
  exact Option.some.inj e2
end
/-- a def that lets nothing out -/
theorem fn_calm {P : Program} {w : World} {K : PySem.W.Frag} {mg : Str → Option Value} {base : Heap} {k : Nat} {f : Addr} {fd : FuncData} {ps : List Str} {sp : Sp} (F : FnOk P w K mg base (L2.CX P w) k f fd ps sp) (h : ∀ vs H Q E, sp vs H Q E → sp vs H Q E0) : FnOk P w K mg base CX0 k f fd ps sp := by
  obtain ⟨len, run⟩ := F
  refine ⟨len, fun A outer s H args us vs Q E hr e0 hb r hsp => codeAny_mono (run A outer s H args us vs Q E0 hr e0 hb r (h _ _ _ _ hsp)) fun x s' z => ?_⟩
  cases x with
  | ok fl => cases fl <;> exact z
  | error e =>
    obtain ⟨_, _, _, _, _, _, _, _, _, _, _, _, q⟩ := z
    exact q.elim
end Sy
set_option maxHeartbeats 0
namespace Sy.En
open Sy PySem PySem.Spec PyProof.Rows L2
theorem facts {P : Program} {w : World} {K : PySem.W.Frag} {h : Heap} {mg : Str → Option Value} {f : Addr} (hfile : P.main.file = R.prog.main.file) (top_ : (P.main.scope.names.lookup ("super" : Str)).isSome = false) (X : K.In h) (G : h.Ns mainGlobals mg) (hfa : mg ("law" : Str) = some (.ref f)) (c : SaysX R.prog.main.file fa fn ers K) :
    ∃ fd : FuncData, (∀ (s : Shared) (v : Value), BindsTo s fd ⟨[v], []⟩ [("_law_script", v)]) ∧ ∀ base : Heap, K.In base → base.Ns mainGlobals mg → FnOk P w K mg base CX0 9 f fd ["_law_script"] (spLaw K) := by
  have D := c.d
  have e := hfa.symm.trans (He.glo_ok X G (D.fact 53 (f := .glo "law") rfl))
  cases e
  have f_check_count : DF K mg "check_count" 12 := ⟨D.def_ 0 (d := dOf "check_count" 12) rfl, He.glo_ok X G (D.fact 0 (f := .glo "check_count") rfl)⟩
  have f_arity : DF K mg "arity" 13 := ⟨D.def_ 1 (d := dOf "arity" 13) rfl, He.glo_ok X G (D.fact 1 (f := .glo "arity") rfl)⟩
  have f_fault_among : DF K mg "fault_among" 14 := ⟨D.def_ 2 (d := dOf "fault_among" 14) rfl, He.glo_ok X G (D.fact 2 (f := .glo "fault_among") rfl)⟩
  have f_spans : DF K mg "spans" 15 := ⟨D.def_ 3 (d := dOf "spans" 15) rfl, He.glo_ok X G (D.fact 3 (f := .glo "spans") rfl)⟩
  have f_span_stop : DF K mg "span_stop" 16 := ⟨D.def_ 4 (d := dOf "span_stop" 16) rfl, He.glo_ok X G (D.fact 4 (f := .glo "span_stop") rfl)⟩
  have f_kids : DF K mg "kids" 17 := ⟨D.def_ 5 (d := dOf "kids" 17) rfl, He.glo_ok X G (D.fact 5 (f := .glo "kids") rfl)⟩
  have f_row_paths : DF K mg "row_paths" 18 := ⟨D.def_ 6 (d := dOf "row_paths" 18) rfl, He.glo_ok X G (D.fact 6 (f := .glo "row_paths") rfl)⟩
  have f_substituted : DF K mg "substituted" 19 := ⟨D.def_ 7 (d := dOf "substituted" 19) rfl, He.glo_ok X G (D.fact 7 (f := .glo "substituted") rfl)⟩
  have f_side_by_side : DF K mg "side_by_side" 20 := ⟨D.def_ 8 (d := dOf "side_by_side" 20) rfl, He.glo_ok X G (D.fact 8 (f := .glo "side_by_side") rfl)⟩
  have f_common_row : DF K mg "common_row" 21 := ⟨D.def_ 9 (d := dOf "common_row" 21) rfl, He.glo_ok X G (D.fact 9 (f := .glo "common_row") rfl)⟩
  have f_entry_rank : DF K mg "entry_rank" 22 := ⟨D.def_ 10 (d := dOf "entry_rank" 22) rfl, He.glo_ok X G (D.fact 10 (f := .glo "entry_rank") rfl)⟩
  have f_row_key : DF K mg "row_key" 23 := ⟨D.def_ 11 (d := dOf "row_key" 23) rfl, He.glo_ok X G (D.fact 11 (f := .glo "row_key") rfl)⟩
  have f_check_stump : DF K mg "check_stump" 26 := ⟨D.def_ 12 (d := dOf "check_stump" 26) rfl, He.glo_ok X G (D.fact 12 (f := .glo "check_stump") rfl)⟩
  have f_stump_key : DF K mg "stump_key" 27 := ⟨D.def_ 13 (d := dOf "stump_key" 27) rfl, He.glo_ok X G (D.fact 13 (f := .glo "stump_key") rfl)⟩
  have f_holes : DF K mg "holes" 28 := ⟨D.def_ 14 (d := dOf "holes" 28) rfl, He.glo_ok X G (D.fact 14 (f := .glo "holes") rfl)⟩
  have f_filled : DF K mg "filled" 29 := ⟨D.def_ 15 (d := dOf "filled" 29) rfl, He.glo_ok X G (D.fact 15 (f := .glo "filled") rfl)⟩
  have f_begins : DF K mg "begins" 30 := ⟨D.def_ 16 (d := dOf "begins" 30) rfl, He.glo_ok X G (D.fact 16 (f := .glo "begins") rfl)⟩
  have f_parts : DF K mg "parts" 31 := ⟨D.def_ 17 (d := dOf "parts" 31) rfl, He.glo_ok X G (D.fact 17 (f := .glo "parts") rfl)⟩
  have f_common : DF K mg "common" 32 := ⟨D.def_ 18 (d := dOf "common" 32) rfl, He.glo_ok X G (D.fact 18 (f := .glo "common") rfl)⟩
  have f_united : DF K mg "united" 33 := ⟨D.def_ 19 (d := dOf "united" 33) rfl, He.glo_ok X G (D.fact 19 (f := .glo "united") rfl)⟩
  have f_only_letters : DF K mg "only_letters" 37 := ⟨D.def_ 20 (d := dOf "only_letters" 37) rfl, He.glo_ok X G (D.fact 20 (f := .glo "only_letters") rfl)⟩
  have f_is_name : DF K mg "is_name" 38 := ⟨D.def_ 21 (d := dOf "is_name" 38) rfl, He.glo_ok X G (D.fact 21 (f := .glo "is_name") rfl)⟩
  have f_law_bag : DF K mg "_law_bag" 41 := ⟨D.def_ 22 (d := dOf "_law_bag" 41) rfl, He.glo_ok X G (D.fact 22 (f := .glo "_law_bag") rfl)⟩
  have f_law_draw : DF K mg "_law_draw" 42 := ⟨D.def_ 23 (d := dOf "_law_draw" 42) rfl, He.glo_ok X G (D.fact 23 (f := .glo "_law_draw") rfl)⟩
  have f_law_word : DF K mg "_law_word" 43 := ⟨D.def_ 24 (d := dOf "_law_word" 43) rfl, He.glo_ok X G (D.fact 24 (f := .glo "_law_word") rfl)⟩
  have f_law_name : DF K mg "_law_name" 44 := ⟨D.def_ 25 (d := dOf "_law_name" 44) rfl, He.glo_ok X G (D.fact 25 (f := .glo "_law_name") rfl)⟩
  have f_law_rows : DF K mg "_law_rows" 45 := ⟨D.def_ 26 (d := dOf "_law_rows" 45) rfl, He.glo_ok X G (D.fact 26 (f := .glo "_law_rows") rfl)⟩
  have f_law_bed : DF K mg "_law_bed" 46 := ⟨D.def_ 27 (d := dOf "_law_bed" 46) rfl, He.glo_ok X G (D.fact 27 (f := .glo "_law_bed") rfl)⟩
  have f_law_number : DF K mg "_law_number" 47 := ⟨D.def_ 28 (d := dOf "_law_number" 47) rfl, He.glo_ok X G (D.fact 28 (f := .glo "_law_number") rfl)⟩
  have f_law_plant : DF K mg "_law_plant" 48 := ⟨D.def_ 29 (d := dOf "_law_plant" 48) rfl, He.glo_ok X G (D.fact 29 (f := .glo "_law_plant") rfl)⟩
  have f_law_ends : DF K mg "_law_ends" 49 := ⟨D.def_ 30 (d := dOf "_law_ends" 49) rfl, He.glo_ok X G (D.fact 30 (f := .glo "_law_ends") rfl)⟩
  have f_law_fault : DF K mg "_law_fault" 50 := ⟨D.def_ 31 (d := dOf "_law_fault" 50) rfl, He.glo_ok X G (D.fact 31 (f := .glo "_law_fault") rfl)⟩
  have f_law_same : DF K mg "_law_same" 51 := ⟨D.def_ 32 (d := dOf "_law_same" 51) rfl, He.glo_ok X G (D.fact 32 (f := .glo "_law_same") rfl)⟩
  have f_law_stump : DF K mg "_law_stump" 52 := ⟨D.def_ 33 (d := dOf "_law_stump" 52) rfl, He.glo_ok X G (D.fact 33 (f := .glo "_law_stump") rfl)⟩
  have f_law_paths : DF K mg "_law_paths" 53 := ⟨D.def_ 34 (d := dOf "_law_paths" 53) rfl, He.glo_ok X G (D.fact 34 (f := .glo "_law_paths") rfl)⟩
  have f_law_kinds : DF K mg "_law_kinds" 54 := ⟨D.def_ 35 (d := dOf "_law_kinds" 54) rfl, He.glo_ok X G (D.fact 35 (f := .glo "_law_kinds") rfl)⟩
  have f_law_is_begun : DF K mg "_law_is_begun" 55 := ⟨D.def_ 36 (d := dOf "_law_is_begun" 55) rfl, He.glo_ok X G (D.fact 36 (f := .glo "_law_is_begun") rfl)⟩
  have f_law_hole_paths : DF K mg "_law_hole_paths" 56 := ⟨D.def_ 37 (d := dOf "_law_hole_paths" 56) rfl, He.glo_ok X G (D.fact 37 (f := .glo "_law_hole_paths") rfl)⟩
  have f_law_branches_at : DF K mg "_law_branches_at" 57 := ⟨D.def_ 38 (d := dOf "_law_branches_at" 57) rfl, He.glo_ok X G (D.fact 38 (f := .glo "_law_branches_at") rfl)⟩
  have f_law_cut_down : DF K mg "_law_cut_down" 58 := ⟨D.def_ 39 (d := dOf "_law_cut_down" 58) rfl, He.glo_ok X G (D.fact 39 (f := .glo "_law_cut_down") rfl)⟩
  have f_law_pieces : DF K mg "_law_pieces" 59 := ⟨D.def_ 40 (d := dOf "_law_pieces" 59) rfl, He.glo_ok X G (D.fact 40 (f := .glo "_law_pieces") rfl)⟩
  have f_law_with_pieces : DF K mg "_law_with_pieces" 60 := ⟨D.def_ 41 (d := dOf "_law_with_pieces" 60) rfl, He.glo_ok X G (D.fact 41 (f := .glo "_law_with_pieces") rfl)⟩
  have f_law_related : DF K mg "_law_related" 61 := ⟨D.def_ 42 (d := dOf "_law_related" 61) rfl, He.glo_ok X G (D.fact 42 (f := .glo "_law_related") rfl)⟩
  have f_law_filled : DF K mg "_law_filled" 62 := ⟨D.def_ 43 (d := dOf "_law_filled" 62) rfl, He.glo_ok X G (D.fact 43 (f := .glo "_law_filled") rfl)⟩
  have f_law_common : DF K mg "_law_common" 63 := ⟨D.def_ 44 (d := dOf "_law_common" 63) rfl, He.glo_ok X G (D.fact 44 (f := .glo "_law_common") rfl)⟩
  have f_law_common_right : DF K mg "_law_common_right" 64 := ⟨D.def_ 45 (d := dOf "_law_common_right" 64) rfl, He.glo_ok X G (D.fact 45 (f := .glo "_law_common_right") rfl)⟩
  have f_law_united_right : DF K mg "_law_united_right" 65 := ⟨D.def_ 46 (d := dOf "_law_united_right" 65) rfl, He.glo_ok X G (D.fact 46 (f := .glo "_law_united_right") rfl)⟩
  have f_law_pair_right : DF K mg "_law_pair_right" 66 := ⟨D.def_ 47 (d := dOf "_law_pair_right" 66) rfl, He.glo_ok X G (D.fact 47 (f := .glo "_law_pair_right") rfl)⟩
  have f_law_alone_right : DF K mg "_law_alone_right" 67 := ⟨D.def_ 48 (d := dOf "_law_alone_right" 67) rfl, He.glo_ok X G (D.fact 48 (f := .glo "_law_alone_right") rfl)⟩
  have f_law_fill_right : DF K mg "_law_fill_right" 68 := ⟨D.def_ 49 (d := dOf "_law_fill_right" 68) rfl, He.glo_ok X G (D.fact 49 (f := .glo "_law_fill_right") rfl)⟩
  have f_law_short_right : DF K mg "_law_short_right" 69 := ⟨D.def_ 50 (d := dOf "_law_short_right" 69) rfl, He.glo_ok X G (D.fact 50 (f := .glo "_law_short_right") rfl)⟩
  have f_law_long_met : DF K mg "_law_long_met" 70 := ⟨D.def_ 51 (d := dOf "_law_long_met" 70) rfl, He.glo_ok X G (D.fact 51 (f := .glo "_law_long_met") rfl)⟩
  have f_law_long_right : DF K mg "_law_long_right" 71 := ⟨D.def_ 52 (d := dOf "_law_long_right" 71) rfl, He.glo_ok X G (D.fact 52 (f := .glo "_law_long_right") rfl)⟩
  have f_law : DF K mg "law" 72 := ⟨D.def_ 53 (d := dOf "law" 72) rfl, He.glo_ok X G (D.fact 53 (f := .glo "law") rfl)⟩
  have m_init : MB K "__init__" "Bed.__init__" (clb 39 0) := ⟨He.meth_ok (D.fact 82 (f := .meth "Bed" "__init__") rfl), D.def_ 54 (d := dMe "__init__" "Bed.__init__" 0) rfl⟩
  have m_leaves : MB K "leaves" "Bed.leaves" (clb 39 3) := ⟨He.meth_ok (D.fact 83 (f := .meth "Bed" "leaves") rfl), D.def_ 55 (d := dMe "leaves" "Bed.leaves" 3) rfl⟩
  have m_branches : MB K "branches" "Bed.branches" (clb 39 4) := ⟨He.meth_ok (D.fact 84 (f := .meth "Bed" "branches") rfl), D.def_ 56 (d := dMe "branches" "Bed.branches" 4) rfl⟩
  have n_len : mg "len" = none := He.free_ok X G (D.fact 54 (f := .free "len") rfl)
  have n_range : mg "range" = none := He.free_ok X G (D.fact 55 (f := .free "range") rfl)
  have n_reversed : mg "reversed" = none := He.free_ok X G (D.fact 56 (f := .free "reversed") rfl)
  have n_enumerate : mg "enumerate" = none := He.free_ok X G (D.fact 57 (f := .free "enumerate") rfl)
  have n_tuple : mg "tuple" = none := He.free_ok X G (D.fact 58 (f := .free "tuple") rfl)
  have n_list : mg "list" = none := He.free_ok X G (D.fact 59 (f := .free "list") rfl)
  have n_int : mg "int" = none := He.free_ok X G (D.fact 60 (f := .free "int") rfl)
  have n_abs : mg "abs" = none := He.free_ok X G (D.fact 61 (f := .free "abs") rfl)
  have n_max : mg "max" = none := He.free_ok X G (D.fact 62 (f := .free "max") rfl)
  have n_isinstance : mg "isinstance" = none := He.free_ok X G (D.fact 63 (f := .free "isinstance") rfl)
  have n_bool : mg "bool" = none := He.free_ok X G (D.fact 64 (f := .free "bool") rfl)
  have n_str : mg "str" = none := He.free_ok X G (D.fact 65 (f := .free "str") rfl)
  have n_super : mg "super" = none := He.free_ok X G (D.fact 66 (f := .free "super") rfl)
  have n_zip : mg "zip" = none := He.free_ok X G (D.fact 67 (f := .free "zip") rfl)
  have n_sum : mg "sum" = none := He.free_ok X G (D.fact 68 (f := .free "sum") rfl)
  have T : Txt K mg := ⟨⟨He.cls_ok (D.fact 76 (f := .cls "Bed") rfl), He.noat_ok (D.fact 78 (f := .noat "Bed" "arities") rfl), He.noat_ok (D.fact 79 (f := .noat "Bed" "rows") rfl), He.noat_ok (D.fact 80 (f := .noat "Bed" "kinds") rfl), He.noat_ok (D.fact 81 (f := .noat "Bed" "ranks") rfl)⟩, n_len, n_range, n_reversed, n_enumerate, n_tuple, n_list, n_int, n_abs, n_max, n_isinstance, He.int_ok X G (D.fact 69 (f := .int "MOST_KNOTS" 2000) rfl), He.int_ok X G (D.fact 70 (f := .int "MOST_KINDS" 8) rfl), He.int_ok X G (D.fact 71 (f := .int "MOST_BRANCHES" 3) rfl), He.int_ok X G (D.fact 72 (f := .int "LONGEST_NAME" 8) rfl)⟩
  have TC : TxtC mg := ⟨n_tuple, n_bool, n_int, n_str, n_isinstance, n_len, n_range⟩
  have S : TxtS mg := ⟨He.str_ok X G (D.fact 73 (f := .str "HOLE" "*") rfl), n_zip, n_sum, n_str⟩
  have e_TooMany : ErrB P K mg "TooMany" "TooMany.__init__" (clb 6 0) ["what", "limit"] := ErD.errB (d := ⟨"TooMany", "TooMany.__init__", clb 6 0, ["what", "limit"]⟩) X G (c.err_ 0 rfl).1 (by rw [hfile]; exact (c.err_ 0 rfl).2) n_super top_
  have e_InvalidStump : ErrB P K mg "InvalidStump" "InvalidStump.__init__" (clb 3 0) ["place"] := ErD.errB (d := ⟨"InvalidStump", "InvalidStump.__init__", clb 3 0, ["place"]⟩) X G (c.err_ 1 rfl).1 (by rw [hfile]; exact (c.err_ 1 rfl).2) n_super top_
  have e_UnknownKind : ErrB P K mg "UnknownKind" "UnknownKind.__init__" (clb 5 0) ["kind"] := ErD.errB (d := ⟨"UnknownKind", "UnknownKind.__init__", clb 5 0, ["kind"]⟩) X G (c.err_ 2 rfl).1 (by rw [hfile]; exact (c.err_ 2 rfl).2) n_super top_
  have e_WrongBranches : ErrB P K mg "WrongBranches" "WrongBranches.__init__" (clb 7 0) ["wanted", "given"] := ErD.errB (d := ⟨"WrongBranches", "WrongBranches.__init__", clb 7 0, ["wanted", "given"]⟩) X G (c.err_ 3 rfl).1 (by rw [hfile]; exact (c.err_ 3 rfl).2) n_super top_
  have R : Ers P K mg := ⟨e_TooMany, e_InvalidStump, e_UnknownKind, e_WrongBranches⟩
  have M := He.mkr_ok (D.fact 77 (f := .mkr "Bed") rfl)
  have gBed := He.glo_ok X G (D.fact 75 (f := .glo "Bed") rfl)
  obtain ⟨fd, FD1⟩ := f_law.1
  have b := FunD.bindsA (ps := ["_law_script"]) FD1 fun _ _ _ _ _ _ us hl => match us, hl with | [_], _ => rfl
  refine ⟨fd, fun s v => b s [v] rfl, fun base _ _ => ?_⟩
  have c_arity := k_arity (P := P) (w := w) (base := base) T f_arity 
  have c_fault_among := k_fault (P := P) (w := w) (base := base) T f_fault_among c_arity 
  have c_spans := k_spans (P := P) (w := w) (base := base) T f_spans c_arity 
  have c_span_stop := k_stop (P := P) (w := w) (base := base) T f_span_stop c_arity 
  have c_kids := k_kids (P := P) (w := w) (base := base) T f_kids c_arity c_spans 
  have c_row_paths := k_pathsR (P := P) (w := w) (base := base) T f_row_paths c_kids 
  have c_entry_rank := k_rank (P := P) (w := w) (base := base) T f_entry_rank 
  have c_row_key := k_key (P := P) (w := w) (base := base) T f_row_key c_entry_rank 
  have c_check_count := k_count (P := P) (w := w) (base := base) T e_TooMany f_check_count 
  have c_check_stump := k_checkS (P := P) (w := w) (base := base) T S.hole R f_check_stump c_check_count c_fault_among 
  have c_only_letters := k_letters (P := P) (w := w) (base := base) f_only_letters 
  have c_is_name := k_name (P := P) (w := w) (base := base) T f_is_name c_only_letters 
  have cm_branches := k_branches (P := P) (w := w) (base := base) T R m_branches 
  have cm_leaves := k_leaves (P := P) (w := w) (base := base) T m_leaves 
  have c_init := r_init (P := P) (w := w) (base := base) T m_init c_is_name cm_leaves 
  have c_stump_key := k_keyS (P := P) (w := w) (base := base) T f_stump_key c_check_stump c_row_key 
  have c_holes := k_holes (P := P) (w := w) (base := base) T S f_holes c_check_stump c_row_paths 
  have c_substituted := k_sub (P := P) (w := w) (base := base) T f_substituted 
  have c_filled := r_filled (P := P) (w := w) (base := base) T S R f_filled c_check_stump c_check_count c_substituted 
  have c_law_draw := k_draw (P := P) (w := w) (base := base) T f_law_draw 
  have c_law_word := k_word (P := P) (w := w) (base := base) T f_law_word c_law_draw 
  have c_law_name := k_nameL (P := P) (w := w) (base := base) T f_law_name c_law_draw c_law_word 
  have c_law_rows := k_rows (P := P) (w := w) (base := base) T f_law_rows c_law_draw c_law_name 
  have c_law_bag := k_bag (P := P) (w := w) (base := base) T f_law_bag 
  have c_law_bed := k_bed (P := P) (w := w) (base := base) T M gBed c_init f_law_bed 
  have c_law_number := k_num (P := P) (w := w) (base := base) T f_law_number 
  have c_law_plant := k_plantL (P := P) (w := w) (base := base) T f_law_plant c_law_draw 
  have c_law_fault := k_faultL (P := P) (w := w) (base := base) T f_law_fault c_law_number 
  have c_law_same := k_same (P := P) (w := w) (base := base) TC f_law_same 3
  have c_law_ends := k_ends (P := P) (w := w) (base := base) T f_law_ends c_law_number 
  have c_law_paths := k_pathsL (P := P) (w := w) (base := base) T f_law_paths c_law_number c_law_ends 
  have c_law_kinds := k_kinds (P := P) (w := w) (base := base) T f_law_kinds c_law_paths 
  have c_law_is_begun := k_begun (P := P) (w := w) (base := base) f_law_is_begun 
  have c_law_hole_paths := k_holeP (P := P) (w := w) (base := base) T f_law_hole_paths c_law_paths 
  have c_law_branches_at := k_brs (P := P) (w := w) (base := base) T f_law_branches_at c_law_paths c_law_ends 
  have c_law_stump := k_stumpL (P := P) (w := w) (base := base) TC f_law_stump c_law_fault 
  have c_law_with_pieces := k_withP (P := P) (w := w) (base := base) T f_law_with_pieces 
  have c_law_cut_down := k_cut (P := P) (w := w) (base := base) T f_law_cut_down c_law_draw c_law_ends 
  have c_law_pieces := k_pieces (P := P) (w := w) (base := base) T f_law_pieces c_law_draw c_law_plant 
  have c_law_related := k_rel (P := P) (w := w) (base := base) T f_law_related c_law_draw c_law_plant c_law_cut_down c_law_pieces c_law_with_pieces 
  have c_side_by_side := k_side (P := P) (w := w) (base := base) T f_side_by_side c_span_stop 
  have c_parts := k_parts (P := P) (w := w) (base := base) T S f_parts c_check_stump c_side_by_side 
  have c_begins := k_begins (P := P) (w := w) (base := base) f_begins c_parts 
  have c_common_row := k_comRow (P := P) (w := w) (base := base) T f_common_row c_span_stop 
  have c_common := r_common (P := P) (w := w) (base := base) T S f_common c_check_stump c_common_row 
  have c_united := k_united (P := P) (w := w) (base := base) T S f_united c_check_stump c_check_count c_span_stop 
  have c_law_filled := k_flL (P := P) (w := w) (base := base) T f_law_filled c_filled 
  have c_law_common := k_cmL (P := P) (w := w) (base := base) T f_law_common c_common 
  have c_law_common_right := k_cmR (P := P) (w := w) (base := base) T f_law_common_right c_law_stump c_law_kinds c_law_is_begun c_law_hole_paths 
  have c_law_united_right := k_unR (P := P) (w := w) (base := base) T f_law_united_right c_law_stump c_law_kinds c_law_is_begun 
  have c_law_pair_right := k_prR (P := P) (w := w) (base := base) f_law_pair_right c_begins c_parts c_law_same c_law_kinds c_law_is_begun c_law_hole_paths c_law_branches_at c_law_filled 
  have c_law_alone_right := k_alR (P := P) (w := w) (base := base) T f_law_alone_right c_holes c_stump_key c_law_same c_law_hole_paths 
  have c_law_fill_right := k_flR (P := P) (w := w) (base := base) T f_law_fill_right c_parts c_law_same c_law_pieces c_law_with_pieces c_law_filled 
  have c_law_short_right := k_shR (P := P) (w := w) (base := base) T f_law_short_right c_common c_united c_law_draw c_law_rows c_law_bed c_law_plant c_law_same c_law_related c_law_common c_law_common_right c_law_united_right c_law_pair_right c_law_alone_right c_law_fill_right 
  have c_law_long_met := k_lm (P := P) (w := w) (base := base) e_TooMany f_law_long_met c_filled c_united 
  have c_law_long_right := k_lgR (P := P) (w := w) (base := base) T M gBed c_init f_law_long_right c_begins c_parts c_common c_united c_holes c_law_draw c_law_name c_law_same c_law_long_met 
  have c_law := k_law (P := P) (w := w) (base := base) S FD1 c_law_bag c_law_draw c_law_long_right c_law_short_right 
  exact fn_calm c_law fun vs H Q E q => q
end Sy.En
open PySem PySem.W PySem.Calls PyProof.Rows
theorem PySem.Challenge.cw_shearyard_k03_whole_common_and_united_st_holds : PySem.Challenge.rw_shearyard_k03_whole_common_and_united_st.Holds := by
  w_on; o_law
  refine HandSHeadRun.head_any (r := OpenLaw.row PySem.Challenge.rw_shearyard_k03_whole_common_and_united_st) (q := view (OpenLaw.row PySem.Challenge.rw_shearyard_k03_whole_common_and_united_st).prog [72]) (H := Sy.En.hk) (ob := Sy.En.ob) (M := 30000) (loose := Sy.En.loose1 ++ Sy.En.loose2 ++ Sy.En.loose3) (d := HandSHeadRun.topDef (OpenLaw.row PySem.Challenge.rw_shearyard_k03_whole_common_and_united_st).prog 72) (kwd := []) Sy.En.ob_eq
    (by kernel_rfl) (fun s => by kernel_rfl) Sy.En.run (by kernel_rfl) (by kernel_rfl) (by kernel_rfl) (by rfl) (by first | assumption | decide +kernel) (by decide +kernel) ⟨rfl, rfl, rfl, rfl, rfl, by decide +kernel⟩ ?hw ?hc
  case hw => w_witness2
  case hc =>
    refine L2.walk_ofE (l := PySem.Challenge.rw_shearyard_k03_whole_common_and_united_st) (n := 63) (k := 9) (x := "_law_script") (CX := L2.CX0) rfl (by decide) (by kernel_rfl) ⟨rfl, by decide, by decide⟩ ?F (fun _ _ _ _ z => z)
    intro w mg fa h Y G hmg0
    obtain ⟨K, KX, c⟩ := Y
    have hmg : mg ("law" : PySem.Str) = some (.ref fa) := by
      have e : (HandSHeadRun.topDef (OpenLaw.row PySem.Challenge.rw_shearyard_k03_whole_common_and_united_st).prog 72).name = ("law" : PySem.Str) := by kernel_rfl
      rw [← e]
      exact hmg0
    obtain ⟨fd, hb, hF⟩ := Sy.En.facts (P := (PySem.Challenge.rw_shearyard_k03_whole_common_and_united_st).prog) (w := w) rfl (by kernel_rfl) KX G hmg c
    exact ⟨K, fd, Sy.spLaw K, KX, hb, fun H a ns hl _ hS => ⟨a, ns, rfl, hS, Nat.le_trans hl (by decide), fun _ => rfl⟩, hF⟩
