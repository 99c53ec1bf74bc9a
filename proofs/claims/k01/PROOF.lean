import PyProof.Rows.All
import Wide.All
import OpenK.AllK
import Wide.FinOn
import KE.KStateDown
import HandS.ForMost
import HandS.ForExc
import HandS.Walk
import HandS.StrMore
import HandS.Star
import KE.GoesEnum
import HandS.ExcInit
import HandS.Nested
import KE.KExcSuper
import HandS.TupMul
import HandS.TupAny
import HandS.FStrTup
import HandS.FStr
import HandS.Deep
import HandS.IsInst
import HandS.RevRange
import HandS.DictComp
import HandS.Defaults
import HandS.Flow
import HandS.HeadHook1
import HandS.HeadHook2
import HandS.ExcField
import HandS.Ends
import HandS.Words
import HandS.WordsExc
import HandS.Head0
import HandS.Head1
import HandS.Head2
import HandS.HeadEnd
import PySem.Challenge.RW_shearyard_k01_branches_paths_and_counts
set_option Elab.async false
set_option linter.all false
set_option maxRecDepth 100000
set_option maxHeartbeats 4000000
/-! enumerate over a tuple (own rule) -/
namespace Sy
open PySem PySem.Spec PyProof.Rows L2
open AutoSeq1 (wpAny_loadPart')
theorem enumNew {v : Value} {o : Obj} {Hh : Heap → Prop} (B : Begins v o Hh) : Meets (Builtin.«enumerate.__new__» ⟨[.type "enumerate", v], []⟩) (fun _ R s => Hh s.heap ∧
    R (.ok (.ret (.ref (s.heap.push o).objs.size))) { s with heap := (s.heap.push o).push { cls := .type "enumerate", data := .fields #[.none, .bool false, .ref s.heap.objs.size, rawInt 0, .none, .none] } }) :=
  .of_wp fun prog w A R s hs => by
    obtain ⟨hp, g, d, tk, os⟩ := s
    obtain ⟨h1, hR⟩ := hs
    have hsub := sub_enumerate
    have it1 : ∀ {A' : Around} {E : Value → Shared → Prop} {Q : Value → Shared → Prop}, Q (.ref hp.objs.size) ⟨hp.push o, g, d, tk, os⟩ → wpAny (model prog w) A' (pyIter v) Q E ⟨hp, g, d, tk, os⟩ := fun q => B.iter prog w _ _ ⟨hp, g, d, tk, os⟩ _ h1 q
    wp_walk using it1
    refine wpAny_stack_any fun st => wpAny_pure ?_
    split
    · rename_i c _ _ _ _ _
      cases (c == Value.type "enumerate") <;> (wp_walk using it1; exact ⟨_, rfl, hR⟩)
    · (wp_walk using it1; exact ⟨_, rfl, hR⟩)
theorem enumCall {prog : Program} {w : World} {A : Around} {E : Value → Shared → Prop} {s : Shared} {v : Value} {o : Obj} {Hh : Heap → Prop} {Q : Value → Shared → Prop} (B : Begins v o Hh) (h1 : Hh s.heap)
    (h : ∀ h', IsEnum h' (s.heap.objs.size + 1) s.heap.objs.size 0 .none → h'.get? s.heap.objs.size = some o → (∀ b ob, s.heap.get? b = some ob → h'.get? b = some ob) → Q (.ref (s.heap.objs.size + 1)) { s with heap := h' }) :
    wpAny (model prog w) A (call (.type "enumerate") [v]) Q E s := by
  refine callType_new F.called_enumerate (by decide) (F.typeCall_enumerate_1 _) (F.newCall_enumerate_1 _) (fun obj => F.args_object_init_2 obj _) F.entry_enumerate_new (enumNew B) ⟨h1, ?_⟩
  have hz : (s.heap.push o).objs.size = s.heap.objs.size + 1 := Heap.size_push ..
  show _ ∧ _
  rw [hz]
  have he : IsEnum ((s.heap.push o).push { cls := .type "enumerate", data := .fields #[.none, .bool false, .ref s.heap.objs.size, rawInt 0, .none, .none] }) (s.heap.objs.size + 1) s.heap.objs.size 0 .none := by
    have q := Heap.get?_push_size (s.heap.push o) (o := { cls := .type "enumerate", data := .fields #[.none, .bool false, .ref s.heap.objs.size, rawInt 0, .none, .none] }) rfl
    rw [hz] at q
    exact q
  exact ⟨⟨_, he, rfl⟩, h _ he (Heap.get?_push_of_some _ (Heap.get?_push_size _ B.free)) fun b ob x => Heap.get?_push_of_some _ (Heap.get?_push_of_some _ x)⟩
/-- the tuple at a, each item in a new pair -/
def ItE (K : PySem.W.Frag) (a : Addr) : It :=
  ⟨fun i H => ∃ (xs : List V) (x : V), SqT K H a xs ∧ xs[i]? = some x,
   fun i H v H' => ∃ T x, v = .ref T ∧ H T = none ∧ H' = upd H T (.tup [.int (i : Nat), x]) ∧ ∀ xs, SqT K H a xs → xs[i]? = some x,
   fun i H => ∃ xs : List V, SqT K H a xs ∧ xs.length ≤ i⟩
theorem turnE {P : Program} {w : World} {K : PySem.W.Frag} {elts : List Expr} {kk : Nat} {tpos : Pos} (a e it : Addr) :
    Turn P w K (.Tuple elts kk tpos) (ItE K a) [e, it] e (fun i h => (∃ old, IsEnum h e it ((i : Nat) : Int) old) ∧ h.IsTupleIter it a i ∧ e ≠ it ∧ a ≠ it ∧ a ≠ e) where
  mem := by simp
  obj := fun i h st b hb => by
    obtain ⟨⟨old, he⟩, ⟨o, ho, hc, hd⟩, _⟩ := st
    rcases (show b = e ∨ b = it by simpa using hb) with z | z
    · subst z; exact ⟨_, he, fun v q => nomatch q⟩
    · subst z; exact ⟨o, ho, fun v q => by rw [hd] at q; cases q⟩
  keep := fun i h h' st k => by
    obtain ⟨⟨old, he⟩, hi, n1⟩ := st
    exact ⟨⟨old, k e (by simp) _ he⟩, hi.at fun o q => k it (by simp) o q, n1⟩
  item := by
    intro X hP hw hK hc i pins s σ H E I hf st hg
    subst hP hw hK
    obtain ⟨⟨old, he⟩, hit, hne, ha1, ha2⟩ := st
    obtain ⟨xs, x, hq, hx⟩ := hg
    obtain ⟨its, rv, p, hz⟩ := I.tuple hq
    obtain ⟨u, hu, ru⟩ := rv.get hx
    have hlen : i < its.toArray.size := by
      rw [List.size_toArray]
      exact (List.getElem?_eq_some_iff.mp hu).1
    have D := Draws.tuple (prog := X.prog) (w := X.w) (A := X.A.in1) (by have q := I.ok.hd hc; exact q) it a ha1 its.toArray
    have hel : e < s.heap.objs.size := Heap.lt_size he
    have hil : it < s.heap.objs.size := by obtain ⟨_, q, _⟩ := hit; exact Heap.lt_size q
    refine wpAny_pyNext_enum_itemC D he ⟨hit, p⟩ hlen hne (by simp [hne, Ne.symm ha2]) fun y h' tk hP ho st' hT hsz hk => ?_
    have ey : y = u := by
      have z : its.toArray[i]? = some u := by simpa using hu
      exact Option.some.inj (hP.symm.trans z)
    subst ey
    refine ⟨_, rfl, wpAny_letOwnedTupleGo_enum (s := { s with heap := h', toks := tk + 1 }) ho fun h'' he' sb => ?_⟩
    have hT2 : h''.get? s.heap.objs.size = some { cls := .type "tuple", data := .seq #[.int i tk, y] } := (sb.2 _ (Nat.ne_of_gt hel)).trans hT
    have new : ObjOk X.prog X.w (upd H s.heap.objs.size (.tup [.int (i : Nat), x])) h'' s.heap.objs.size (.tup [.int (i : Nat), x]) :=
      ⟨by show 2 ≤ sizeLine; decide, [.int i tk, y], .cons ⟨_, rfl⟩ (.cons ru .nil), ⟨_, hT2, rfl, _, rfl⟩⟩
    have I1 : Inv X pins σ (upd H s.heap.objs.size (.tup [.int (i : Nat), x])) { s with heap := h'', toks := tk + 1 } :=
      I.turnedNew (ch := [e, it]) (fun b ob hb q => by
        have hb' : b ≠ e ∧ b ≠ it := by simpa using hb
        exact (sb.2 b hb'.1).trans (hk b ob hb'.1 hb'.2 q)) hf (Nat.le_refl _) new
    refine ⟨.ref s.heap.objs.size, _, I1, rfl, ⟨_, x, rfl, I.hok.fresh (Nat.le_refl _), rfl, fun ys hy => by rw [I.tuple_inj hy hq]; exact hx⟩, ⟨⟨y, ?_⟩, st'.1.at fun o q => (sb.2 it (Ne.symm hne)).trans q, hne, ha1, ha2⟩, fun b hb => ?_⟩
    · have e1 : ((i + 1 : Nat) : Int) = (i : Int) + 1 := by omega
      rw [e1]
      exact he'
    · have hb' : b < s.heap.objs.size := by
        rcases (show b = e ∨ b = it by simpa using hb) with z | z <;> (rw [z]; assumption)
      rw [upd_ne (Nat.ne_of_lt hb')]
      exact (hf b hb).1
  done := by
    intro X hP hw hK hc i pins s σ H E I hf st hg
    subst hP hw hK
    obtain ⟨⟨old, he⟩, hit, hne, ha1, ha2⟩ := st
    obtain ⟨xs, hq, hx⟩ := hg
    obtain ⟨its, rv, p, hz⟩ := I.tuple hq
    obtain ⟨f0, f1, f2, f3, f4, f5⟩ := hf it (by simp)
    have hl := rv.length
    have hT : s.TypeIs (.ref e) "enumerate" := ⟨_, he, rfl⟩
    unfold pyNext
    refine wpAny_bind (wpAny_attempt (wpAny_callSpecial?_slot (name := Str.ofString "__next__") hT F.slot_enumerate_next (wpAny_call_entry F.slot_enumerate_next hT F.entry_enumerate_next ?_ (F.args_enumerate_next_1 _))))
    show wpAny _ _ (field (.ref e) 2 >>= _) _ _ _
    refine wpAny_bind (wpAny_field he rfl (x := .ref it) rfl ?_)
    refine wpAny_bind (wpAny_nextOf_tuple_end (I.ok.hd hc) hit p (by simp; omega) fun h' x he' hx' => ?_)
    obtain ⟨o, ho, hcl⟩ := hx'
    refine wpAny_bind (wpAny_isInstance (T := "StopIteration") (b := true) ⟨o, ho, hcl⟩ isSubtype_stop ?_)
    exact wpAny_pure ⟨rfl, I.turned (t' := s.toks) (fun b ob hb q => he' b ob hb q) f0 f1 f3 f4 f5⟩
  self := fun A i s Q E st h => by
    obtain ⟨⟨_, he⟩, _⟩ := st
    exact wpAny_pyIter_enum he h
/-- for i, x in enumerate(t), t a tuple -/
def iEnumT (K : PySem.W.Frag) (ta : TA) : TI := fun σ H R => ta σ H fun vs H1 => ∃ a xs, vs = [.ref a] ∧ SqT K H1 a xs ∧ R (ItE K a) H1
theorem pi_enumT {X : Cx} {e : Expr} {ta : TA} {p pos tpos : Pos} {elts : List Expr} {kk : Nat} (hg : Gl X "enumerate") (hm : X.mg "enumerate" = none) (ha : PA X [e] ta) (hs : starEach [e] X.env = [(false, eval e X.env)] := by rfl) :
    PI X (.Tuple elts kk tpos) (.Call (.Name "enumerate" p) [e] [] pos) (iEnumT X.K ta) := by
  refine ⟨fun pins s σ H R I h => ?_⟩
  refine Call_ (ld_blt I hg hm boot_enumerate (PyProof.Rows.callWith_type1 (thn (ha.run pos pins s σ H _ I h) fun us s1 ⟨vs, H1, I1, r1, a, xs, ex, hq, q⟩ => ?_) hs rfl))
  subst ex
  cases r1 with
  | cons r rr =>
    cases rr
    cases r
    obtain ⟨its, rv, p', hz⟩ := I1.tuple hq
    have hal : a < s1.heap.objs.size := by obtain ⟨_, z, _⟩ := p'; exact Heap.lt_size z
    refine enumCall (begins_tuple a its.toArray) p' fun h' he hit hk => wpAny_pyIter_enum he ?_
    have I2 : Inv X pins σ H1 { s1 with heap := h' } := I1.kept (t' := s1.toks) hk
    refine ⟨s1.heap.objs.size + 1, [s1.heap.objs.size + 1, s1.heap.objs.size], _, _, H1, rfl, I2, turnE a (s1.heap.objs.size + 1) s1.heap.objs.size, ⟨⟨.none, he⟩, ⟨_, hit, rfl, rfl⟩, Nat.succ_ne_self _, Nat.ne_of_lt hal, Nat.ne_of_lt (Nat.lt_succ_of_lt hal)⟩, fun b hb => ?_, q⟩
    have hle : s1.heap.objs.size ≤ b := by
      rcases (show b = s1.heap.objs.size + 1 ∨ b = s1.heap.objs.size by simpa using hb) with z | z <;> (rw [z]; first | exact Nat.le_refl _ | exact Nat.le_add_right _ _)
    exact I1.fpOk hle (I1.hok.fresh hle)
theorem walkE {K : PySem.W.Frag} {a : Addr} {xs : List V} : Walk (ItE K a) xs.length (fun H => SqT K H a xs) (YPair (fun i => some (.int (i : Nat))) (fun i => xs[i]?)) :=
  ⟨fun i H hi h => ⟨xs, xs[i], h, by simp [hi]⟩, fun H h => ⟨xs, h, Nat.le_refl _⟩, fun i H x H' hi h y => by
    obtain ⟨T, z, e1, e2, e3, e4⟩ := y
    exact ⟨T, _, z, e1, e2, e3, rfl, e4 xs h⟩⟩
end Sy
/-! super().__init__(..) as the first row of an own error's __init__ (own rule) -/
namespace Sy
open PySem PySem.Spec PyProof.Rows L2 NdefX
/-- what the written part says of the error's class at D and its __init__ at f (its cell at cc, its code at cd) -/
structure SupF (P : Program) (K : PySem.W.Frag) (D f cc cd : Addr) (qual : Str) (pa : Arguments) (bo : List Stmt) (sc : Scope) (fd : FuncData) : Prop where
  ex : ∃ (oc : Value) (od : Option Addr) (dV kV doc pm : Value) (an : Option Addr) (ct : Value) (osl : Array (Option Value)),
    fd = PySem.W.fnX "__init__" qual pa bo sc [("__class__", cc)] dV kV doc pm an (.ref cd) ct ∧ K.lookup f = some ⟨oc, od, .func fd, osl⟩
  co : PySem.W.codeIn K (.ref cd) qual = true
  file : ∃ (cl : Value) (dd : Option Addr) (vs : Array Value) (sl : Array (Option Value)) (fi : Str) (tf : Tok), K.lookup cd = some ⟨cl, dd, .fields vs, sl⟩ ∧ vs[2]? = some (.str fi tf) ∧ ((P.main.file : Str) == fi) = true
  cell : ∃ (cl : Value) (dd : Option Addr) (sl : Array (Option Value)), K.lookup cc = some ⟨cl, dd, .cell (some (.ref D)), sl⟩
  isc : ∃ c, PySem.W.clsIn K D = some c
  sub : PySem.W.mroIn K D (.ref D) = some true
  sup : PySem.W.ks_superIn K D D "__init__" = some (some (.builtin "ValueError.__init__"))
  ve : PySem.W.subIn K (.ref D) (.type "ValueError") = some true
  opq : PySem.W.nsIn K cStatics "thirdparty.any" = some none
  oex : OexC K D
section
variable {P : Program} {w : World} {K : PySem.W.Frag} {mg : Str → Option Value} {base : Heap} {CX : CXT} {k : Nat} {D f cc cd : Addr} {qual : Str} {pa : Arguments} {bo rest : List Stmt} {sc : Scope} {fd : FuncData} {N ps : List Str} {sp : Sp} {e : Expr} {es : List Expr} {q0 q1 q2 q3 q4 : Pos} {p0 : Arg}
theorem fn_sup (T : SupF P K D f cc cd qual pa bo sc fd) (S : NScope N ps ["__class__"] sc) (hbo : bo = .Expr (.Call (.Attribute (.Call (.Name "super" q0) [] [] q1) "__init__" q2) (e :: es) [] q3) q4 :: rest)
    (hp : (pa.posonlyargs ++ pa.args).head? = some p0) (hps : N[0]? = some p0.arg) (hp1 : sc.names.lookup p0.arg = some .local) (hks : sc.names.lookup ("super" : Str) = some .globalImplicit) (mS : mg "super" = none) (top : (P.main.scope.names.lookup ("super" : Str)).isSome = false)
    (len : ∀ vs H Q E, sp vs H Q E → vs.length = ps.length)
    {pl : Sem Bool} (hev : ∀ env : Env, eval (.Call (.Attribute (.Call (.Name "super" q0) [] [] q1) "__init__" q2) (e :: es) [] q3) env = (do
      let ov ← attributeBase (.Call (.Name "super" q0) [] [] q1) "__init__" env (eval (.Call (.Name "super" q0) [] [] q1) env)
      standAt q2.atName
      let (f, first) ← holding [ov] (getMethod ov "__init__" pl)
      callWith q3 f first (backTo q3 (starEach (e :: es) env)) []))
    (he : ∀ env : Env, starEach (e :: es) env = (false, eval e env) :: starEach es env) (hpl : ∀ (env : Env) (pos : Pos), (backTo pos (starEach es env)).any (·.1) = false)
    (hbody : ∀ (A : Around) (outer : List Env) (s : Shared) (H : Hp) (vs : List V) (Q : VK) (E : XK), Room k (A.deeper (envF ⟨"__init__", qual, pa, bo, sc, [("__class__", cc)], cd⟩ f s.heap.objs.size)) → sp vs H Q E →
      ∃ ta t, PA (ncx CX P w K mg base N ⟨"__init__", qual, pa, bo, sc, [("__class__", cc)], cd⟩ f A outer s H E) (e :: es) ta ∧ PSs (ncx CX P w K mg base N ⟨"__init__", qual, pa, bo, sc, [("__class__", cc)], cd⟩ f A outer s H E) rest t ∧
        ∃ a vr, vs = .ref a :: vr ∧ H a = some (exo a D none) ∧ ta (startF N vs [some (.ref D)]) H fun ws H1 => ws.length ≤ 1000 ∧ H1 a = some (exo a D none) ∧ t { nx := fun _ H' => Q .non H', rt := Q } (startF N vs [some (.ref D)]) H1) :
    FnOk P w K mg base CX (k + 1) f fd ps sp := by
  obtain ⟨oc, od, dV, kV, doc, pm, an, ct, osl, rfl, lk⟩ := T.ex
  refine ⟨len, fun A outer s H args us vs Q E hr e0 hb r hsp => ?_⟩
  have hl := len _ _ _ _ hsp
  have KX : K.In s.heap := e0.mod.kin.keeps fun b o e => (e0.bs b o e).1
  have lim : s.heap.NoLimit := e0.mod.nolimit.keeps fun b o e => (e0.bs b o e).1
  obtain ⟨cl1, dd1, sl1, hcell⟩ := T.cell
  have hcn : H cc = none := (e0.bs _ _ (e0.mod.kin _ _ hcell)).2
  have CA : CellsAt [("__class__", cc)] ["__class__"] [some (.ref D)] s.heap H := by
    refine ⟨rfl, fun y c e => ?_, fun x y c e1 e2 => ?_, fun i y hi => ?_⟩
    · simp only [List.lookup] at e
      split at e
      · cases e; exact ⟨hcn, _, _, KX _ _ hcell, rfl⟩
      · cases e
    · simp only [List.lookup] at e1 e2
      split at e1
      · split at e2
        · rename_i z1 _ z2
          exact (beq_iff_eq.mp z1).trans (beq_iff_eq.mp z2).symm
        · cases e2
      · cases e1
    · cases i with
      | zero =>
        cases hi
        refine ⟨cc, rfl, fun v ev => ?_⟩
        cases ev
        exact ⟨.ref D, rfl, _, KX _ _ hcell, rfl⟩
      | succ n => simp at hi
  obtain ⟨ta, t, hA, hS, a, vr, rfl, hea, hq⟩ := hbody A outer s H _ Q E (hr.deeper _) hsp
  refine ks_codeAny_call_defAt hr.depth (KX _ _ lk) rfl lim (PySem.W.codeRec_of KX T.co) rfl hb S.nocell (fun ⟨n, _⟩ hy => S.par n (List.of_mem_zip hy).1) (fun h0 hns hk => ?_) S.co S.gen S.kind
  have I : Inv (ncx CX P w K mg base N ⟨"__init__", qual, pa, bo, sc, [("__class__", cc)], cd⟩ f A outer s H E) [] (startF N (.ref a :: vr) [some (.ref D)]) H { s with heap := h0, toks := s.toks + (ps.zip us).length } := inv_startN S hr.hd e0 hl r CA hns hk
  show _root_.PySem.wpAt _ (A.deeper (envF ⟨"__init__", qual, pa, bo, sc, [("__class__", cc)], cd⟩ f s.heap.objs.size)) (.func bo (envF ⟨"__init__", qual, pa, bo, sc, [("__class__", cc)], cd⟩ f s.heap.objs.size)) (execs bo (envF ⟨"__init__", qual, pa, bo, sc, [("__class__", cc)], cd⟩ f s.heap.objs.size)) _ _ _
  generalize hX : ncx CX P w K mg base N ⟨"__init__", qual, pa, bo, sc, [("__class__", cc)], cd⟩ f A outer s H E = X at *
  have hXe : X.env = envF ⟨"__init__", qual, pa, bo, sc, [("__class__", cc)], cd⟩ f s.heap.objs.size := by rw [← hX] <;> rfl
  have hXA : X.A = A.deeper (envF ⟨"__init__", qual, pa, bo, sc, [("__class__", cc)], cd⟩ f s.heap.objs.size) := by rw [← hX] <;> rfl
  have hK : X.K = K := by rw [← hX] <;> rfl
  have hP : X.prog = P := by rw [← hX] <;> rfl
  have hW : X.w = w := by rw [← hX] <;> rfl
  have hmg : X.mg = mg := by rw [← hX] <;> rfl
  have hN : X.N = N := by rw [← hX] <;> rfl
  have hxe : X.xe = fun e s' => wpAny (model P w) (A.deeper (envF ⟨"__init__", qual, pa, bo, sc, [("__class__", cc)], cd⟩ f s.heap.objs.size)) (leaving (envF ⟨"__init__", qual, pa, bo, sc, [("__class__", cc)], cd⟩ f s.heap.objs.size) e) (fun _ s'' => CX outer H s E e s'') (fun e' s'' => CX outer H s E e' s'') s' := by rw [← hX] <;> rfl
  have hs0 : X.s_0 = s := by rw [← hX] <;> rfl
  have hH0 : X.H_0 = H := by rw [← hX] <;> rfl
  have hstk : X.stack = envF ⟨"__init__", qual, pa, bo, sc, [("__class__", cc)], cd⟩ f s.heap.objs.size :: outer := by rw [← hX] <;> rfl
  have hfs : X.fs = frs outer := by rw [← hX] <;> rfl
  have hex : X.ex = [] := by rw [← hX] <;> rfl
  obtain ⟨cl2, dd2, vs2, sl2, fi, tf, hcode, hvs, hfi⟩ := T.file
  obtain ⟨cdD, hcd⟩ := T.isc
  obtain ⟨m, hm, hlook⟩ := I.loc
  obtain ⟨u0, ru0, hu0⟩ := hlook 0 p0.arg (.ref a) (by rw [hN]; exact hps) rfl (by rw [hXe]; exact .inl hp1)
  obtain rfl : u0 = Value.ref a := ru0
  have hself : m p0.arg = some (.ref a) := by
    rcases hu0 with ⟨_, z⟩ | ⟨z, _⟩
    · exact z
    · rw [hXe] at z
      have z1 : sc.names.lookup p0.arg = some .cell ∨ sc.names.lookup p0.arg = some .free := z
      rw [hp1] at z1
      rcases z1 with z1 | z1 <;> cases z1
  have kin : K.In h0 := by have q := I.kIn; rw [hK] at q; exact q
  rw [hXe] at hm
  subst hbo
  refine ks_wpAt_execs_cons (ks_wpAt_Expr_any (ks_wpAt_MethodCall ?_ (hev _)) (hi := by simp [interactive, S.kind]))
  obtain ⟨oD, hD1, hD2⟩ : ∃ oD, h0.get? D = some oD ∧ oD.data = .cls cdD := by
    unfold PySem.W.clsIn at hcd
    split at hcd
    · rename_i c d cd' sl ho
      cases hcd
      exact ⟨_, kin _ _ ho, rfl⟩
    · cases hcd
  obtain ⟨t1, hoe⟩ := exo_at I.hok hea
  have IA : PySem.W.InstAt h0 a ({ cls := .ref D, dict := none, data := .fields #[.ref t1, .none, .none, .none, .bool false, .none] } : Obj) D none := ⟨hoe, rfl, rfl, trivial⟩
  refine ks_wpAt_super_base hks (S.frk _ List.mem_cons_self) (by decide) rfl (hk _ _ (KX _ _ lk)) rfl hp rfl (hk _ _ (KX _ _ hcode)) rfl hvs hfi top ?_
  obtain ⟨mb, hb1, hb2⟩ := I.mod.blt
  have hbs : mb "super" = some (.type "super") := (hb2 ("super" : Str) (by decide)).trans (by first | boot_by_name | rfl | decide +kernel)
  refine PySem.W.ks_loadName_global S.kind hks (PySem.Calls.loadGlobal_builtin (mg := mg) (by have q := I.mod.glob.keeps I.bk; rw [hmg] at q; exact q) mS (hb1.keeps I.bk) hbs ⟨rfl, ?_⟩)
  refine wpAny_loadName_free S.kind (S.frk _ List.mem_cons_self) rfl ⟨_, kin _ _ hcell, rfl⟩ ?_
  refine wpAny_loadName_local S.kind hp1 hm hself ?_
  refine ks_wpAny_isType_cls hD1 hD2 ⟨rfl, ?_⟩
  refine ks_wpAny_call_super hD1 hD2 hoe rfl (fun c z => by cases z) (PySem.W.looks_mroIn kin T.sub) (fun h1 hso kp1 => ?_)
  have I1 := I.kept (h' := h1) (t' := s.toks + (ps.zip us).length) kp1
  have kin1 : K.In h1 := by have q := I1.kIn; rw [hK] at q; exact q
  have hoe1 := kp1 _ _ hoe
  have hsup := T.sup
  unfold PySem.W.ks_superIn at hsup
  rw [hcd] at hsup
  have IA1 : PySem.W.InstAt h1 a ({ cls := .ref D, dict := none, data := .fields #[.ref t1, .none, .none, .none, .bool false, .none] } : Obj) D none := ⟨hoe1, rfl, rfl, trivial⟩
  refine PySem.W.kxs_getMethod PySem.W.kxs_ValueError hso (PySem.W.looks_opaque kin1 T.opq) (l₀ := cdD.mro) (fun A Q E s k q => wpAny_bind ((PySem.W.looks_clsIn kin1 hcd) A _ E s k (wpAny_pure q))) rfl kin1 hsup (IA1.type.andThen (PySem.W.looks_subIn kin1 T.ve)) (PySem.W.ks_ne kin1 IA1 hcd) (by decide) ?_
  have kp2 : ∀ b o, h1.get? b = some o → (h1.push (PySem.W.kxs_mw "ValueError.__init__" a)).get? b = some o := fun b o z => Heap.get?_push_of_some _ z
  have hu : (h1.push (PySem.W.kxs_mw "ValueError.__init__" a)).get? h1.objs.size = some (PySem.W.kxs_mw "ValueError.__init__" a) := Heap.get?_push_at rfl rfl
  have I2 := I1.kept (h' := h1.push (PySem.W.kxs_mw "ValueError.__init__" a)) (t' := s.toks + (ps.zip us).length + 1) kp2
  have hfresh : H h1.objs.size = none := I1.hok.fresh (Nat.le_refl _)
  have hsz : h1.objs.size ≠ X.env.locals := Nat.ne_of_gt I1.lt
  have I3 : Inv X [(h1.objs.size, PySem.W.kxs_mw "ValueError.__init__" a)] (startF N (.ref a :: vr) [some (.ref D)]) H ⟨h1.push (PySem.W.kxs_mw "ValueError.__init__" a), s.gens, s.drawn, s.toks + (ps.zip us).length + 1, s.os⟩ := I2.pins_of fun p hp => by
    have hp' : p = (h1.objs.size, PySem.W.kxs_mw "ValueError.__init__" a) := by simpa using hp
    subst hp'
    exact ⟨hu, hfresh, hsz, I1.nofs (Nat.le_refl _), fun v z => by cases z⟩
  rw [← hP, ← hW]
  rw [he]
  refine PySem.W.kxs_callWith (i := "ValueError.__init__") (x := a) (by show (false || (backTo q3 (starEach es _)).any (·.1)) = false; rw [hpl]; rfl) ?_
  have hA2 := hA.run q3 _ _ _ _ (fun ws H1 => ws.length ≤ 1000 ∧ H1 a = some (exo a D none) ∧ t { nx := fun _ H' => Q .non H', rt := Q } (startF N (.ref a :: vr) [some (.ref D)]) H1) I3 hq
  rw [hXe, he, hXA, hxe] at hA2
  refine PySem.Calls.evalArgs_plain (wpAny_mono hA2 (fun us3 s3 h3 => ?_) (fun _ _ z => by rw [hP, hW]; exact z))
  obtain ⟨ws, H3, J, rv, hlen, hea3, hq3⟩ := h3
  have hu3 : s3.heap.get? h1.objs.size = some (PySem.W.kxs_mw "ValueError.__init__" a) := (J.pin _ (List.mem_append_right _ (List.mem_singleton.mpr rfl))).1
  refine ⟨hu3, ?_⟩
  have J0 : Inv X [] (startF N (.ref a :: vr) [some (.ref D)]) H3 s3 := J.pins_of fun p hp => by simp at hp
  have hus : us3.length ≤ sizeLine := by
    rw [← rv.length, sizeLine_eq]
    omega
  show wpAny _ _ (call (.ref h1.objs.size) us3) _ _ s3
  obtain ⟨nm, q, Nn, bs, bm, sn, sub, ab, col, dd, k0, k1, k2, k3, k5, hC, hbm⟩ := T.oex.cls
  have kin3 : K.In s3.heap := by have q := J0.kIn; rw [hK] at q; exact q
  obtain ⟨t3, ho3⟩ := exo_at J0.hok hea3
  obtain ⟨hp3, g3, d3, tk3, os3⟩ := s3
  refine wpAny_call (codeAny_of_tree ?_)
  show wpAny _ _ (callAny (.ref h1.objs.size) ⟨us3, []⟩) _ _ _
  simp only [callAny]
  refine wpAny_bind (wpAny_load hu3 ?_)
  simp only [PySem.W.kxs_mw, show (Value.type "method-wrapper" == Value.type "method" || Value.type "method-wrapper" == Value.type "builtin_function_or_method" || Value.type "method-wrapper" == Value.type "method-wrapper") = true by decide, if_true]
  refine PySem.W.KFB.if_so (by decide) ?_
  refine wpAny_bind (PySem.W.check_bound_init F.excBase_ValueError.toExcCallFacts (kin3 _ _ hC) ho3 rfl ?_)
  refine wpAny_bind (wpAny_pure (wpAny_pure ?_))
  refine ⟨plainId_quiet F.excBase_ValueError.init.plain _, codeAny_builtin F.excBase_ValueError.initEntry ?_⟩
  refine PySem.W.exc_init_tree (cls := .ref D) (t0 := t3) (dv := none) (c2 := .none) (c3 := .none) (b4 := .bool false) ho3 hus fun h4 kp4 hx4 _ => ?_
  have J4 := J0.write (t' := tk3) (x := a) (e := a) (o := exo a D none) (by rw [hea3]; exact True.intro) (.inl rfl) kp4 ⟨_, hx4⟩ (exo_ok hx4)
  have eu : upd H3 a (exo a D none) = H3 := by
    funext b
    by_cases hb : b = a
    · rw [hb, upd_same, hea3]
    · rw [upd_ne hb]
  rw [eu] at J4
  have hS4 := hS.run _ _ _ _ { nx := fun _ H' => Q .non H', rt := Q } J4 hq3
  rw [hXe, hXA, hxe, hP, hW] at hS4
  show _root_.PySem.wpAt _ _ _ _ _ _ _
  rw [hP, hW]
  refine wpAt_of_wpAny (wpAny_mono hS4 (fun fl s' hs => ?_) fun _ _ z => z)
  have fin : ∀ {σ' : L2.St} {H' : Hp} {v : V} {u : Value}, Inv X [] σ' H' s' → RelV v u → Q v H' → CE outer P w H s Q u s' := fun {σ' H' v u} J rv q => by
    have b1 := J.base
    have o1 := J.os
    have k1 := J.hok
    rw [hfs, hex, hH0, hs0] at b1
    rw [hs0] at o1
    rw [hP, hW] at k1
    exact ⟨v, H', o1, J.bare, b1, k1, rv, q⟩
  cases fl with
  | ret u =>
    obtain ⟨v, σ', H', J, rv, q⟩ := hs
    exact fin J rv q
  | next =>
    obtain ⟨σ', H', J, q⟩ := hs
    exact fin (v := V.non) (u := Value.none) J rfl q
  | brk =>
    obtain ⟨_, _, _, q⟩ := hs
    exact False.elim q
  | cont =>
    obtain ⟨_, _, _, q⟩ := hs
    exact False.elim q
end
end Sy
/-! tuple.count, tuple * int of any size, a tuple of ints in an f-string (own rules) -/
namespace Sy
open PySem PySem.Spec PyProof.Rows L2
open AutoSeq1 (wpAny_loadPart')
section
variable {X : Cx}
/-- t.count(y), all flat -/
def rTCnt (K : PySem.W.Frag) : V → List V → Hp → VK → Prop := fun x xs H Q => ∃ (a : Addr) (ys : List V) (y : V), x = V.ref a ∧ xs = [y] ∧ SqT K H a ys ∧ flatV y = true ∧ ys.all flatV = true ∧ Q (.int (ys.countP fun z => eqV z y : Nat)) H
theorem countU {y : V} : ∀ {ys : List V} {its : List Value}, Vals ys its → ys.all flatV = true → its.countP (eqU y) = ys.countP fun z => eqV z y
  | [], _, r, _ => by cases r; rfl
  | z :: ys, _, r, f => by
    cases r with
    | cons r1 r2 =>
      have f' := Bool.and_eq_true_iff.mp (show (flatV z && ys.all flatV) = true from f)
      rw [List.countP_cons, List.countP_cons, countU r2 f'.2, eqU_of r1 f'.1]
theorem mt_tcount : MtR X "tuple.count" (rTCnt X.K) := by
  intro pins s σ H x xs v us Q I rx rxs h
  obtain ⟨a, ys, y, rfl, rfl, hs, fy, fys, q⟩ := h
  cases rx
  cases rxs with
  | cons ry rt =>
    rename_i uy ut
    cases rt
    obtain ⟨its, rv, ⟨⟨cls, dd, data, sl⟩, ho, hc, n, hd⟩, hlen⟩ := I.tuple hs
    simp only at hc hd
    subst hc hd
    refine call_meets PySem.F.slot_tuple_count ⟨_, ho, rfl⟩ PySem.F.entry_tuple_count (PySem.F.args_tuple_count_2 _ _) (SeqAt.tuple_countAt a its.toArray n dd sl uy (eqU y)) ⟨ho, fun u' hu' => mem_eqAt ry fy rv fys u' (by simpa using hu'), ?_⟩
    have e1 : its.toArray.toList.countP (eqU y) = ys.countP fun z => eqV z y := by
      rw [← countU rv fys]
    rw [e1]
    exact ⟨.int (ys.countP fun z => eqV z y : Nat), H, I.tok _, ⟨_, rfl⟩, q⟩
/-! tuple * int -/
theorem tupMul1 (l : Addr) (items : Array Value) (n : Nat) (dd : Option Addr) (sl : Array (Option Value)) (x : Int) (u : Tok) (c0 : (decide (x < -(2 ^ 63)) || decide (x ≥ 2 ^ 63)) = false) (c1 : (items.isEmpty || x == 1) = true) :
    Meets (Builtin.«tuple.__mul__» ⟨[.ref l, .int x u], []⟩) (fun _ R s => s.heap.get? l = some { cls := .type "tuple", dict := dd, data := .seq items n, slots := sl } ∧ R (.ok (.ret (Value.ref l))) s) :=
  .of_wp fun prog w A R s h => by
    obtain ⟨hp, g, d, tk, os⟩ := s
    obtain ⟨hl, h⟩ := h
    have f1 := AutoSeq1.idx_int
    wp_walk using wpAny_loadPart' hl
    repeat (first
      | (refine wpAny_ite_false (decide_eq_false (by rw [c0]; exact Bool.false_ne_true)) ?_; wp_walk using wpAny_loadPart' hl)
      | (refine wpAny_ite_true (decide_eq_true c1) ?_; wp_walk using wpAny_loadPart' hl))
    all_goals exact ⟨_, rfl, h⟩
theorem tupMul0 (l : Addr) (items : Array Value) (n : Nat) (dd : Option Addr) (sl : Array (Option Value)) (x : Int) (u : Tok) (c0 : (decide (x < -(2 ^ 63)) || decide (x ≥ 2 ^ 63)) = false) (c1 : (items.isEmpty || x == 1) = false) (c2 : (decide (x ≤ 0) || items.isEmpty) = true) :
    Meets (Builtin.«tuple.__mul__» ⟨[.ref l, .int x u], []⟩) (fun _ R s => s.heap.get? l = some { cls := .type "tuple", dict := dd, data := .seq items n, slots := sl } ∧
      R (.ok (.ret (Value.ref s.heap.objs.size))) { s with heap := s.heap.push { cls := Value.type "tuple", data := Data.seq #[] } }) :=
  .of_wp fun prog w A R s h => by
    obtain ⟨hp, g, d, tk, os⟩ := s
    obtain ⟨hl, h⟩ := h
    have f1 := AutoSeq1.idx_int
    wp_walk using wpAny_loadPart' hl
    repeat (first
      | (refine wpAny_ite_false (decide_eq_false (by rw [c0]; exact Bool.false_ne_true)) ?_; wp_walk using wpAny_loadPart' hl)
      | (refine wpAny_ite_false (decide_eq_false (by rw [c1]; exact Bool.false_ne_true)) ?_; wp_walk using wpAny_loadPart' hl)
      | (refine wpAny_ite_true (decide_eq_true c2) ?_; wp_walk using wpAny_loadPart' hl))
    all_goals exact ⟨_, rfl, h⟩
/-- t * k: t itself where k is 1 or t is empty -/
def rRepG (K : PySem.W.Frag) : R2 := fun x y H Q => ∃ l k xs, x = .ref l ∧ y = .int k ∧ SqT K H l xs ∧ -(2 ^ 63) ≤ k ∧ k < 2 ^ 63 ∧ xs.length * k.toNat ≤ 1000000 ∧ xs.length ≤ 1000000 ∧
  ((xs = [] ∨ k = 1) → Q (.ref l) H) ∧ (¬(xs = [] ∨ k = 1) → ∀ p, H p = none → Q (.ref p) (upd H p (.tup (List.replicate k.toNat xs).flatten)))
theorem op_repG : OpR X (binaryOp .Mult) (rRepG X.K) := by
  intro pins s σ H x y v u Q I rx ry h
  obtain ⟨l, k, xs, rfl, rfl, hT, h1, h2, hz, hzl, qa, qb⟩ := h
  cases rx
  obtain ⟨t, rfl⟩ := ry
  obtain ⟨its, r, ⟨⟨cls, dd, data, sl⟩, ho, hc, n, hd⟩, hs⟩ := I.tuple hT
  simp only at hc hd
  subst hc hd
  have hle : its.length = xs.length := r.length.symm
  have c0 : (decide (k < -(2 ^ 63)) || decide (k ≥ 2 ^ 63)) = false := by
    rw [decide_eq_false (by omega), decide_eq_false (by omega)] <;> rfl
  have run : ∀ {Bb : Builtin} {R : Value → Shared → Prop}, Builtin.«tuple.__mul__» = Bb → wpAny (model X.prog X.w) X.A (call (.builtin "tuple.__mul__") [.ref l, .int k t]) R X.xe s → wpAny (model X.prog X.w) X.A (binaryOp .Mult (.ref l) (.int k t)) R X.xe s := fun _ hw =>
    wpAny_binaryOp_repeat_ref (T := "tuple") (U := "int") (by decide) ⟨_, ho, rfl⟩ (fun s' => typeIs_int s' k t) noFill_tuple_mul F.fills_int_mul F.slot_int_rmul repeat_tuple F.slot_int_index.lookup
      (call_meets F.slot_int_rmul (typeIs_int s k t) F.entry_int_rmul (F.args_int_rmul_2 _ _) (int_rmul_tuple k t l its.toArray n dd sl) ⟨ho, rfl, ⟨_, ho, rfl⟩, hw⟩)
  have eE : its.toArray.isEmpty = decide (xs = []) := by
    cases xs with
    | nil => cases r; rfl
    | cons a b => cases r; rfl
  by_cases hc : xs = [] ∨ k = 1
  · refine run rfl (call_meets F.slot_tuple_mul ⟨_, ho, rfl⟩ F.entry_tuple_mul (F.args_tuple_mul_2 _ _) (tupMul1 l its.toArray n dd sl k t c0 ?_) ⟨ho, ?_⟩)
    · rw [eE]
      rcases hc with hc | hc
      · rw [decide_eq_true hc, Bool.true_or]
      · rw [hc]
        exact Bool.or_true _
    · exact ⟨.ref l, H, I, rfl, qa hc⟩
  · have c1 : (its.toArray.isEmpty || k == 1) = false := by
      rw [eE, decide_eq_false (fun z => hc (.inl z)), Bool.false_or]
      exact beq_eq_false_iff_ne.mpr fun z => hc (.inr z)
    by_cases hk : k ≤ 0
    · refine run rfl (call_meets F.slot_tuple_mul ⟨_, ho, rfl⟩ F.entry_tuple_mul (F.args_tuple_mul_2 _ _) (tupMul0 l its.toArray n dd sl k t c0 c1 (by rw [decide_eq_true hk, Bool.true_or])) ⟨ho, ?_⟩)
      have e0 : k.toNat = 0 := by omega
      have q := qb hc _ (I.hok.fresh (Nat.le_refl _))
      rw [e0] at q
      refine ⟨.ref s.heap.objs.size, _, I.laid (t' := s.toks) (o := .tup (List.replicate 0 xs).flatten) (fun b ob q => Heap.get?_push_of_some _ q) (Nat.le_refl _) ?_, rfl, q⟩
      exact ⟨Nat.zero_le _, [], .nil, IsTup.new _ _⟩
    · have h3 : ((its.toArray.size : Nat) : Int) * k ≤ 1000000 := by
        rw [List.size_toArray, hle]
        have e1 : ((xs.length : Nat) : Int) * k = ((xs.length * k.toNat : Nat) : Int) := by
          rw [Int.natCast_mul, Int.toNat_of_nonneg (by omega)]
        rw [e1]
        generalize xs.length * k.toNat = m at hz ⊢
        omega
      have flen : (List.replicate k.toNat its).flatten.length ≤ 1000000 := by
        rw [PyProof.Rows.lm_len_rep_flat, hle, Nat.mul_comm]
        exact hz
      have sl24 := sizeLine_eq
      refine run rfl (call_meets F.slot_tuple_mul ⟨_, ho, rfl⟩ F.entry_tuple_mul (F.args_tuple_mul_2 _ _) (tuple_mulW l its.toArray n dd sl k t c0 c1 (by rw [decide_eq_false hk, Bool.false_or, eE]; exact decide_eq_false fun z => hc (.inl z)) (by omega) (by unfold Builtin.Tuple.tupleTooMany; exact decide_eq_false (by omega)) (by rw [size_rep, List.size_toArray]; omega)) ⟨ho, ?_⟩)
      rw [size_rep]
      refine ⟨.ref s.heap.objs.size, _, I.laid (t' := s.toks) (o := .tup (List.replicate k.toNat xs).flatten) (fun b ob q => Heap.get?_push_of_some _ q) (Nat.le_refl _) ?_, rfl, qb hc _ (I.hok.fresh (Nat.le_refl _))⟩
      exact ⟨by rw [PyProof.Rows.lm_len_rep_flat, Nat.mul_comm]; omega, _, r.rep k.toNat, IsTup.new _ _⟩
/-! a tuple of ints in an f-string -/
theorem reprInts {prog : Program} {w : World} : ∀ {l : List Int} {its : List Value}, Vals (l.map V.int) its → (∀ y ∈ l, y.natAbs.log2 < 1920) → ReprAll prog w its (l.map fun y => (toString y : Str))
  | [], _, r, _ => by
    cases r
    exact .nil
  | y :: l, _, r, h => by
    cases r with
    | cons r1 r2 =>
      obtain ⟨t, rfl⟩ := r1
      exact .cons (ReprIs.int t (h y List.mem_cons_self)) (reprInts r2 fun z hz => h z (List.mem_cons_of_mem _ hz))
theorem piledInts : ∀ l : List Int, (∀ y ∈ l, y.natAbs.log2 < 1920) → piled (l.map fun y => (toString y : Str)) ≤ 1923 * l.length
  | [], _ => Nat.zero_le _
  | y :: l, h => by
    have h1 := int_text_len_1921 (h y List.mem_cons_self)
    have h2 := piledInts l fun z hz => h z (List.mem_cons_of_mem _ hz)
    rw [List.map_cons, piled_cons, List.length_cons]
    omega
def tFmtI (K : PySem.W.Frag) (te : TE) : TE := fun σ H Q => te σ H fun x H1 => ∃ (a : Addr) (l : List Int), x = .ref a ∧ SqT K H1 a (l.map V.int) ∧ (∀ y ∈ l, y.natAbs.log2 < 1920) ∧ l.length ≤ 5000 ∧ ∀ m : Str, m.length ≤ 9700000 → Q (.str m) H1
theorem pe_fmtI {e : Expr} {te : TE} {pos : Pos} {k : Nat} (hr : Room k X.A) (he : PE X e te) : PE X (.FormattedValue e (-1) none pos) (tFmtI X.K te) := by
  refine ⟨fun pins s σ H Q I h => ?_⟩
  refine wpAny_FormattedValue_plain (thn (he.run pins s σ H _ I h) fun v s1 hv => ?_)
  obtain ⟨x, H1, I1, r1, a, l, rfl, ht, hc, hz, q⟩ := hv
  cases r1
  obtain ⟨its, rv, ⟨o, ho, hcl, n, hd⟩, _⟩ := I1.tuple ht
  have hp := piledInts l hc
  have htx := fmt_text (l.map fun y => (toString y : Str))
  have hu := hr.units
  have hsl := sizeLine_eq
  refine fmt_tuple (ts := l.map fun y => (toString y : Str)) (by omega) ho hcl hd (reprInts rv hc) (by omega) fun m u tk hm => ⟨.str m, H1, I1.tok _, ⟨u, rfl⟩, q m (by omega)⟩
end
end Sy
/-! own core: heaps, data that never changes, callables, forms of loops -/
namespace Sy
open PySem PySem.Spec PyProof.Rows L2
/-! ### heaps -/
theorem up_same {H : Hp} {p : Addr} {o : HO} (h : H p = none) : Same H (upd H p o) := fun b x e => by
  rw [upd_ne (ne_of_none e h)]
  exact e
theorem Same.sqt {K : PySem.W.Frag} {H H' : Hp} {a : Addr} {xs : List V} (e : Same H H') (h : SqT K H a xs) : SqT K H' a xs := by
  rcases h with (h | ⟨o, h⟩) | h
  · exact .inl (.inl (e _ _ h))
  · exact .inl (.inr ⟨o, e _ _ h⟩)
  · exact .inr h
/-- what is no list of one's own stays -/
def Stay (H H' : Hp) : Prop := ∀ a o, H a = some o → (∀ xs, o ≠ .lst xs) → H' a = some o
theorem Stay.of {H H' : Hp} (s : Same H H') : Stay H H' := fun a o h _ => s a o h
theorem Stay.refl (H : Hp) : Stay H H := fun _ _ h _ => h
theorem Stay.trans {H H1 H2 : Hp} (a : Stay H H1) (b : Stay H1 H2) : Stay H H2 := fun c o h n => b c o (a c o h n) n
theorem Stay.lst {H : Hp} {p : Addr} {xs : List V} {o : HO} (h : H p = some (.lst xs)) : Stay H (upd H p o) := fun a x e n => by
  rw [upd_ne]
  · exact e
  · intro z
    rw [z, h] at e
    exact n _ (Option.some.inj e).symm
theorem Stay.new {H : Hp} {p : Addr} {o : HO} (h : H p = none) : Stay H (upd H p o) := Stay.of (up_same h)
theorem Stay.sqt {K : PySem.W.Frag} {H H' : Hp} {a : Addr} {xs : List V} (e : Stay H H') (h : SqT K H a xs) : SqT K H' a xs := by
  rcases h with (h | ⟨o, h⟩) | h
  · exact .inl (.inl (e _ _ h fun _ z => by cases z))
  · exact .inl (.inr ⟨o, e _ _ h fun _ z => by cases z⟩)
  · exact .inr h
/-! ### data that never changes -/
mutual
inductive Im (K : PySem.W.Frag) (H : Hp) : V → PyData → Prop
  | non : Im K H .non .none
  | bl (b : Bool) : Im K H (.bl b) (.bool b)
  | int (i : Int) : Im K H (.int i) (.int i)
  | str (x : Str) : Im K H (.str x) (.str x)
  | tup {a : Addr} {xs : List V} {ds : List PyData} : SqT K H a xs → ImA K H xs ds → Im K H (.ref a) (.tuple ds)
inductive ImA (K : PySem.W.Frag) (H : Hp) : List V → List PyData → Prop
  | nil : ImA K H [] []
  | cons {v : V} {vs : List V} {d : PyData} {ds : List PyData} : Im K H v d → ImA K H vs ds → ImA K H (v :: vs) (d :: ds)
end
mutual
theorem Im.mono {K : PySem.W.Frag} {H H' : Hp} (s : Stay H H') : ∀ {v : V} {d : PyData}, Im K H v d → Im K H' v d
  | _, _, .non => .non
  | _, _, .bl b => .bl b
  | _, _, .int i => .int i
  | _, _, .str x => .str x
  | _, _, .tup h a => .tup (s.sqt h) (ImA.mono s a)
theorem ImA.mono {K : PySem.W.Frag} {H H' : Hp} (s : Stay H H') : ∀ {vs : List V} {ds : List PyData}, ImA K H vs ds → ImA K H' vs ds
  | _, _, .nil => .nil
  | _, _, .cons a b => .cons (Im.mono s a) (ImA.mono s b)
end
mutual
theorem Im.dp {K : PySem.W.Frag} {H : Hp} : ∀ {v : V} {d : PyData}, Im K H v d → Dp K H v d
  | _, _, .non => .non
  | _, _, .bl b => .bl b
  | _, _, .int i => .int i
  | _, _, .str x => .str x
  | _, _, .tup h a => .tup h (ImA.dp a)
theorem ImA.dp {K : PySem.W.Frag} {H : Hp} : ∀ {vs : List V} {ds : List PyData}, ImA K H vs ds → DpAll K H vs ds
  | _, _, .nil => .nil
  | _, _, .cons a b => .cons (Im.dp a) (ImA.dp b)
end
theorem ImA.len {K : PySem.W.Frag} {H : Hp} : ∀ {vs : List V} {ds : List PyData}, ImA K H vs ds → vs.length = ds.length
  | _, _, .nil => rfl
  | _, _, .cons _ b => by rw [List.length_cons, List.length_cons, ImA.len b]
theorem ImA.get {K : PySem.W.Frag} {H : Hp} : ∀ {vs : List V} {ds : List PyData} {i : Nat} {d : PyData}, ImA K H vs ds → ds[i]? = some d → ∃ v, vs[i]? = some v ∧ Im K H v d
  | _, _, _, _, .nil, e => by simp at e
  | _, _, 0, _, .cons a _, e => by simp at e; subst e; exact ⟨_, rfl, a⟩
  | _, _, i + 1, d, .cons _ b, e => by
    obtain ⟨v, h1, h2⟩ := ImA.get (i := i) (d := d) b (by simpa using e)
    exact ⟨v, by simpa using h1, h2⟩
theorem ImA.app {K : PySem.W.Frag} {H : Hp} : ∀ {vs ws : List V} {ds es : List PyData}, ImA K H vs ds → ImA K H ws es → ImA K H (vs ++ ws) (ds ++ es)
  | _, _, _, _, .nil, b => b
  | _, _, _, _, .cons a r, b => .cons a (ImA.app r b)
theorem ImA.strs {K : PySem.W.Frag} {H : Hp} : ∀ l : List Str, ImA K H (l.map V.str) (l.map PyData.str)
  | [] => .nil
  | x :: l => .cons (.str x) (ImA.strs l)
theorem ImA.ints {K : PySem.W.Frag} {H : Hp} : ∀ l : List Int, ImA K H (l.map V.int) (l.map PyData.int)
  | [] => .nil
  | x :: l => .cons (.int x) (ImA.ints l)
theorem Im.strs {K : PySem.W.Frag} {H : Hp} {a : Addr} {l : List Str} (h : SqT K H a (l.map V.str)) : Im K H (.ref a) (.tuple (l.map PyData.str)) := .tup h (ImA.strs l)
theorem Im.ints {K : PySem.W.Frag} {H : Hp} {a : Addr} {l : List Int} (h : SqT K H a (l.map V.int)) : Im K H (.ref a) (.tuple (l.map PyData.int)) := .tup h (ImA.ints l)
/-! ### known for good, and own -/
structure Hs (B : Hp) (L : List (Addr × HO)) (H : Hp) : Prop where
  sub : Same B H
  own : ∀ q ∈ L, H q.1 = some q.2
  nd : (L.map (·.1)).Nodup
  ap : ∀ q ∈ L, B q.1 = none
section
variable {B B' H H' : Hp} {L : List (Addr × HO)} {p : Addr} {o o' : HO} {x y z u : Addr × HO}
theorem Hs.start (H : Hp) : Hs H [] H := ⟨Same.refl H, fun _ h => (nomatch h), List.nodup_nil, fun _ h => (nomatch h)⟩
theorem Hs.ne_of_new (h : Hs B L H) (hp : H p = none) : ∀ q ∈ L, q.1 ≠ p := fun q hq z => by
  have e := h.own q hq
  rw [z, hp] at e
  cases e
theorem Hs.new (h : Hs B L H) (hp : H p = none) : Hs B ((p, o) :: L) (upd H p o) where
  sub := h.sub.trans (up_same hp)
  own := fun q hq => by
    rcases List.mem_cons.mp hq with rfl | hq
    · exact upd_same
    · rw [upd_ne (h.ne_of_new hp q hq)]
      exact h.own q hq
  nd := List.nodup_cons.mpr ⟨fun hm => by
    obtain ⟨q, hq, e⟩ := List.mem_map.mp hm
    exact h.ne_of_new hp q hq e, h.nd⟩
  ap := fun q hq => by
    rcases List.mem_cons.mp hq with rfl | hq
    · exact h.sub.free hp
    · exact h.ap q hq
theorem Hs.tup (h : Hs B L H) (hp : H p = none) : Hs (upd B p o) L (upd H p o) where
  sub := fun b w e => by
    by_cases hb : b = p
    · subst hb
      rw [upd_same] at e ⊢
      exact e
    · rw [upd_ne hb] at e ⊢
      exact h.sub b w e
  own := fun q hq => by
    rw [upd_ne (h.ne_of_new hp q hq)]
    exact h.own q hq
  nd := h.nd
  ap := fun q hq => by
    rw [upd_ne (h.ne_of_new hp q hq)]
    exact h.ap q hq
/-- what is laid and never told of again -/
theorem Hs.lay (h : Hs B L H) (hp : H p = none) : Hs B L (upd H p o) where
  sub := h.sub.trans (up_same hp)
  own := fun q hq => by
    rw [upd_ne (h.ne_of_new hp q hq)]
    exact h.own q hq
  nd := h.nd
  ap := h.ap
theorem Hs.swap (h : Hs B (x :: y :: L) H) : Hs B (y :: x :: L) H :=
  ⟨h.sub, fun q hq => h.own q (by simp only [List.mem_cons] at hq ⊢; rcases hq with a | a | a <;> simp [a]),
   (List.Perm.swap _ _ _).nodup_iff.mp (by simpa using h.nd), fun q hq => h.ap q (by simp only [List.mem_cons] at hq ⊢; rcases hq with a | a | a <;> simp [a])⟩
theorem Hs.perm {L' : List (Addr × HO)} (h : Hs B L H) (pm : L.Perm L') : Hs B L' H :=
  ⟨h.sub, fun q hq => h.own q (pm.mem_iff.mpr hq), (pm.map _).nodup_iff.mp h.nd, fun q hq => h.ap q (pm.mem_iff.mpr hq)⟩
theorem Hs.r0 (h : Hs B ((p, o) :: L) H) : H p = some o := h.own (p, o) List.mem_cons_self
theorem Hs.r1 (h : Hs B (x :: (p, o) :: L) H) : H p = some o := h.own (p, o) (by simp)
theorem Hs.r2 (h : Hs B (x :: y :: (p, o) :: L) H) : H p = some o := h.own (p, o) (by simp)
theorem Hs.r3 (h : Hs B (x :: y :: z :: (p, o) :: L) H) : H p = some o := h.own (p, o) (by simp)
theorem Hs.r4 (h : Hs B (x :: y :: z :: u :: (p, o) :: L) H) : H p = some o := h.own (p, o) (by simp)
theorem Hs.w0 (h : Hs B ((p, o) :: L) H) : Hs B ((p, o') :: L) (upd H p o') where
  sub := fun b w e => by
    rw [upd_ne]
    · exact h.sub b w e
    · intro q
      have := h.ap (p, o) List.mem_cons_self
      rw [q, this] at e
      cases e
  own := fun q hq => by
    rcases List.mem_cons.mp hq with rfl | hq
    · exact upd_same
    · have nd := List.nodup_cons.mp h.nd
      rw [upd_ne]
      · exact h.own q (List.mem_cons_of_mem _ hq)
      · intro e
        exact nd.1 (List.mem_map.mpr ⟨q, hq, e⟩)
  nd := h.nd
  ap := fun q hq => by
    rcases List.mem_cons.mp hq with rfl | hq
    · exact h.ap (p, o) List.mem_cons_self
    · exact h.ap q (List.mem_cons_of_mem _ hq)
theorem Hs.w1 (h : Hs B (x :: (p, o) :: L) H) : Hs B (x :: (p, o') :: L) (upd H p o') := h.swap.w0.swap
theorem Hs.w2 (h : Hs B (x :: y :: (p, o) :: L) H) : Hs B (x :: y :: (p, o') :: L) (upd H p o') :=
  (h.perm (L' := (p, o) :: x :: y :: L) ((List.Perm.cons _ (List.Perm.swap _ _ _)).trans (List.Perm.swap _ _ _))).w0.perm ((List.Perm.swap _ _ _).trans (List.Perm.cons _ (List.Perm.swap _ _ _)))
theorem Hs.drop (h : Hs B (x :: L) H) : Hs B L H := ⟨h.sub, fun q hq => h.own q (List.mem_cons_of_mem _ hq), (List.nodup_cons.mp h.nd).2, fun q hq => h.ap q (List.mem_cons_of_mem _ hq)⟩
/-- own no more: known for good -/
theorem Hs.give (h : Hs B ((p, o) :: L) H) : Same B (upd B p o) ∧ Hs (upd B p o) L H := by
  have hp : B p = none := h.ap (p, o) List.mem_cons_self
  refine ⟨up_same hp, fun b w e => ?_, fun q hq => h.own q (List.mem_cons_of_mem _ hq), (List.nodup_cons.mp h.nd).2, fun q hq => ?_⟩
  · by_cases hb : b = p
    · subst hb
      rw [upd_same] at e
      rw [h.r0]
      exact e
    · rw [upd_ne hb] at e
      exact h.sub b w e
  · rw [upd_ne]
    · exact h.ap q (List.mem_cons_of_mem _ hq)
    · intro e
      exact (List.nodup_cons.mp h.nd).1 (List.mem_map.mpr ⟨q, hq, e⟩)
/-- a known list (an argument that the def changes) becomes own -/
theorem Hs.take (h : Hs B L H) (hb : B p = some o) : Hs (L2.del B p) ((p, o) :: L) H where
  sub := fun b w e => by
    unfold L2.del at e
    split at e
    · cases e
    · exact h.sub b w e
  own := fun q hq => by
    rcases List.mem_cons.mp hq with rfl | hq
    · exact h.sub _ _ hb
    · exact h.own q hq
  nd := by
    refine List.nodup_cons.mpr ⟨fun hm => ?_, h.nd⟩
    obtain ⟨q, hq, e⟩ := List.mem_map.mp hm
    have e2 := h.ap q hq
    rw [e, hb] at e2
    cases e2
  ap := fun q hq => by
    rcases List.mem_cons.mp hq with rfl | hq
    · exact del_same
    · unfold L2.del
      split
      · rfl
      · exact h.ap q hq
theorem stay_del {xs : List V} (hb : B p = some (.lst xs)) : Stay B (L2.del B p) := fun a w e n => by
  rw [del_ne]
  · exact e
  · intro z
    rw [z, hb] at e
    exact n _ (Option.some.inj e).symm
/-! behind a call -/
def cut (L : List (Addr × HO)) (H : Hp) : Hp := fun a => if a ∈ L.map (·.1) then none else H a
theorem cut_at {a : Addr} (h : a ∉ L.map (·.1)) : cut L H a = H a := if_neg h
theorem cut_in {a : Addr} (h : a ∈ L.map (·.1)) : cut L H a = none := if_pos h
theorem Hs.out (h : Hs B L H) {a : Addr} {w : HO} (e : B a = some w) : a ∉ L.map (·.1) := fun hm => by
  obtain ⟨q, hq, z⟩ := List.mem_map.mp hm
  have := h.ap q hq
  rw [z, e] at this
  cases this
theorem Hs.out_new (h : Hs B L H) {a : Addr} (e : H a = none) : a ∉ L.map (·.1) := fun hm => by
  obtain ⟨q, hq, z⟩ := List.mem_map.mp hm
  have := h.own q hq
  rw [z, e] at this
  cases this
/-- a call that changes nothing tracked -/
theorem Hs.after (h : Hs B L H) (s : Same H H') : Same B (cut L H') ∧ Hs (cut L H') L H' :=
  ⟨fun a w e => by rw [cut_at (h.out e)]; exact s a w (h.sub a w e), fun a w e => by
    unfold cut at e
    split at e
    · cases e
    · exact e, fun q hq => s _ _ (h.own q hq), h.nd, fun q hq => cut_in (List.mem_map_of_mem hq)⟩
/-- .. that changes the one at p -/
def Chg (p : Addr) (o' : HO) (H H' : Hp) : Prop := H' p = some o' ∧ ∀ a w, a ≠ p → H a = some w → H' a = some w
theorem Hs.chg (h : Hs B ((p, o) :: L) H) (s : Chg p o' H H') : Same B (cut ((p, o') :: L) H') ∧ Hs (cut ((p, o') :: L) H') ((p, o') :: L) H' := by
  have kk : ((p, o') :: L).map (·.1) = ((p, o) :: L).map (·.1) := rfl
  refine ⟨fun a w e => ?_, fun a w e => ?_, fun q hq => ?_, by rw [kk]; exact h.nd, fun q hq => cut_in (List.mem_map_of_mem hq)⟩
  · have ho := h.out e
    rw [cut_at (by rw [kk]; exact ho)]
    exact s.2 a w (fun z => ho (by rw [z]; simp)) (h.sub a w e)
  · unfold cut at e
    split at e
    · cases e
    · exact e
  · rcases List.mem_cons.mp hq with rfl | hq
    · exact s.1
    · refine s.2 _ _ (fun z => (List.nodup_cons.mp h.nd).1 (List.mem_map.mpr ⟨q, hq, z⟩)) (h.own q (List.mem_cons_of_mem _ hq))
theorem Chg.stay {xs : List V} (c : Chg p o' H H') (hb : H p = some (.lst xs)) : Stay H H' := fun a w e n => c.2 a w (fun z => by
  rw [z, hb] at e
  exact n _ (Option.some.inj e).symm) e
/-- at a def's end -/
theorem Hs.same (h : Hs B L H') (s : Same H B) : Same H H' := s.trans h.sub
theorem Hs.isChg {B0 : Hp} (h : Hs B ((p, o') :: L) H') (s : Same (L2.del B0 p) B) : Chg p o' B0 H' :=
  ⟨h.r0, fun a w hne e => h.sub a w (s a w (by rw [del_ne hne]; exact e))⟩
theorem Chg.trans {o1 o2 : HO} {H1 H2 : Hp} (a : Chg p o1 H H1) (b : Chg p o2 H1 H2) : Chg p o2 H H2 := ⟨b.1, fun c w n e => b.2 c w n (a.2 c w n e)⟩
end
/-- lists of one's own are lists -/
def AllL (L : List (Addr × HO)) : Prop := ∀ q ∈ L, ∃ xs, q.2 = .lst xs
theorem stay_cut {L : List (Addr × HO)} {B H H' : Hp} (h : Hs B L H) (al : AllL L) (s : Same H H') : Stay H' (cut L H') := fun a w e n => by
  rw [cut_at]
  · exact e
  · intro hm
    obtain ⟨q, hq, z⟩ := List.mem_map.mp hm
    obtain ⟨xs, hx⟩ := al q hq
    have := s _ _ (h.own q hq)
    rw [z, e, hx] at this
    exact n _ (Option.some.inj this)
theorem stay_cutC {L : List (Addr × HO)} {p : Addr} {o o' : HO} {B H H' : Hp} (h : Hs B ((p, o) :: L) H) (al : AllL ((p, o') :: L)) (s : Chg p o' H H') : Stay H' (cut ((p, o') :: L) H') := fun a w e n => by
  rw [cut_at]
  · exact e
  · intro hm
    obtain ⟨q, hq, z⟩ := List.mem_map.mp hm
    obtain ⟨xs, hx⟩ := al q hq
    have := (h.chg s).2.own q hq
    rw [z, e, hx] at this
    exact n _ (Option.some.inj this)
theorem AllL.nil : AllL [] := fun _ h => (nomatch h)
theorem AllL.cons {p : Addr} {xs : List V} {L : List (Addr × HO)} (h : AllL L) : AllL ((p, .lst xs) :: L) := fun q hq => by
  rcases List.mem_cons.mp hq with rfl | hq
  · exact ⟨xs, rfl⟩
  · exact h q hq
/-! ### callables: a module's def -/
structure Cal (P : Program) (w : World) (K : PySem.W.Frag) (mg : Str → Option Value) (base : Heap) (k : Nat) (x : Str) (ps : List Str) (sp : Sp) : Prop where
  fn : ∃ fd, FnOk P w K mg base (L2.CX P w) k (He.ga K x) fd ps sp ∧ Binds K fd ps []
  at_ : mg x = some (.ref (He.ga K x))
  kp : PySem.W.keepIn K (.ref (He.ga K x)) = true
theorem Cal.mono {P : Program} {w : World} {K : PySem.W.Frag} {mg : Str → Option Value} {base : Heap} {j k : Nat} {x : Str} {ps : List Str} {sp : Sp} (c : Cal P w K mg base j x ps sp) (h : j ≤ k) : Cal P w K mg base k x ps sp :=
  ⟨let ⟨fd, a, b⟩ := c.fn; ⟨fd, a.mono h, b⟩, c.at_, c.kp⟩
section
variable {X : Cx} {k j : Nat} {x : Str} {ps : List Str} {sp : Sp} {p pos : Pos} {e : Expr} {es : List Expr} {t : TA} {W : WX}
/-- f(..) that raises nothing -/
theorem pe_cal (c : Cal X.prog X.w X.K X.mg X.base j x ps sp) (hr : Room k X.A) (ha : PA X (e :: es) t) (hk : j ≤ k := by decide) (hg : Gl X x := by rfl) (hdb : (x == ("__debug__" : Str)) = false := by decide)
    (he : starEach (e :: es) X.env = (false, eval e X.env) :: starEach es X.env := by rfl) (hpl : (backTo pos (starEach es X.env)).any (·.1) = false := by rfl) : PE X (.Call (.Name x p) (e :: es) [] pos) (tCallS sp (fun _ => E0) t) := by
  obtain ⟨fd, F, b⟩ := c.fn
  exact pe_callS F (hr.mono hk) hg c.at_ c.kp b (fun σ => fun pins H s e s' I h => passL pins σ H s e s' I h) ha hdb he hpl
/-- f(..) that may raise -/
theorem pe_calX (c : Cal X.prog X.w X.K X.mg X.base j x ps sp) (hr : Room k X.A) (tk : Takes X W) (ha : PA X (e :: es) t) (hk : j ≤ k := by decide) (hg : Gl X x := by rfl) (hdb : (x == ("__debug__" : Str)) = false := by decide)
    (he : starEach (e :: es) X.env = (false, eval e X.env) :: starEach es X.env := by rfl) (hpl : (backTo pos (starEach es X.env)).any (·.1) = false := by rfl) : PE X (.Call (.Name x p) (e :: es) [] pos) (tCallS sp (WE W) t) := by
  obtain ⟨fd, F, b⟩ := c.fn
  exact pe_callS F (hr.mono hk) hg c.at_ c.kp b (fun σ => passAt tk σ) ha hdb he hpl
end
/-! ### steps of a reading -/
section
variable {σ : L2.St} {H : Hp} {D : Ends} {Q : VK} {K : PySem.W.Frag}
theorem if_dec {p : Prop} [Decidable p] {A B : Prop} (a : p → A) (b : ¬p → B) : if decide p = true then A else B := by
  by_cases h : p
  · rw [decide_eq_true h]
    exact iteT (a h)
  · rw [decide_eq_false h]
    exact iteF (b h)
theorem if_ndec {p : Prop} [Decidable p] {A B : Prop} (a : ¬p → A) (b : p → B) : if (!decide p) = true then A else B := by
  by_cases h : p
  · rw [decide_eq_true h]
    exact iteF (b h)
  · rw [decide_eq_false h]
    exact iteT (a h)
theorem if_bool {c : Bool} {A B : Prop} (a : c = true → A) (b : c = false → B) : if c = true then A else B := by
  cases c with
  | true => exact iteT (a rfl)
  | false => exact iteF (b rfl)
end
end Sy
/-! defs of the top; a bed as an object -/
namespace Sy
open PySem PySem.Spec PyProof.Rows L2
/-- the def x of the top, by its row st -/
def FD (K : PySem.W.Frag) (x : Str) (st : Stmt) : Prop := ∃ fd, FunD K x x (defArgs st) (defBody st) (defScope st) [] [] (He.ga K x) fd
theorem cal_of {P : Program} {w : World} {K : PySem.W.Frag} {mg : Str → Option Value} {base : Heap} {x : Str} {st : Stmt} {N ps : List Str} {k : Nat} {sp : Sp} (F : FD K x st) (hm : mg x = some (.ref (He.ga K x))) (S : FnScope N ps (defScope st))
    (hb : ∀ (kV doc pm : Value) (an : Option Addr) (cdv ct : Value) (us : List Value), us.length = ps.length → bindArgs (PySem.W.fnOf x x (defArgs st) (defBody st) (defScope st) .none kV doc pm an cdv ct) ⟨us, []⟩ = pure (ps.zip us))
    (len : ∀ vs H Q E, sp vs H Q E → vs.length = ps.length)
    (body : ∀ (cdv : Value) (A : Around) (outer : List Env) (s : Shared) (H : Hp) (vs : List V) (Q : VK) (E : XK), Room k (A.deeper (envOfC x (defScope st) s.heap.objs.size (He.ga K x) cdv)) → sp vs H Q E →
      ∃ t, PSs (cxOf (L2.CX P w) P w K mg base N x (defScope st) (He.ga K x) cdv A outer s H E) (defBody st) t ∧ t { nx := fun _ H' => Q .non H', rt := Q } (start N vs) H) : Cal P w K mg base (k + 1) x ps sp := by
  obtain ⟨fd, F⟩ := F
  exact ⟨⟨fd, F.ok S len body, F.bindsN hb⟩, hm, F.kp⟩
/-! ### a bed -/
abbrev Row := Str × Nat
/-- the number of branches, 0 if it is no kind -/
def ar (rows : List Sy.Row) (x : Str) : Nat := (rows.lookup x).getD 0
def isK (rows : List Sy.Row) (x : Str) : Bool := (rows.lookup x).isSome
def arKV (rows : List Sy.Row) : List (Key × V) := rows.map fun r => (Sum.inr r.1, V.int (r.2 : Nat))
def rkKV : Nat → List Sy.Row → List (Key × V)
  | _, [] => []
  | n, r :: rs => (Sum.inr r.1, V.int (n : Nat)) :: rkKV (n + 1) rs
/-- the place of a kind -/
def rk : Nat → List Sy.Row → Str → Option Nat
  | _, [], _ => none
  | n, r :: rs, x => if r.1 = x then some n else rk (n + 1) rs x
theorem lookup_cons (r : Sy.Row) (rs : List Sy.Row) (x : Str) : (r :: rs).lookup x = if r.1 = x then some r.2 else rs.lookup x := by
  obtain ⟨a, b⟩ := r
  by_cases h : a = x
  · subst h
    simp [List.lookup]
  · rw [if_neg h]
    have h2 : (x == a) = false := beq_eq_false_iff_ne.mpr fun z => h z.symm
    simp [List.lookup, h2]
theorem valV_cons {κ : Type} [DecidableEq κ] (k : κ) (v : V) (l : List (κ × V)) (x : κ) : valV ((k, v) :: l) x = if k = x then some v else valV l x := by
  unfold valV
  rw [List.find?_cons]
  by_cases h : k = x
  · subst h
    simp
  · simp [h]
theorem valV_ar (x : Str) : ∀ rows : List Sy.Row, valV (arKV rows) (Sum.inr x : Key) = (rows.lookup x).map fun n => V.int (n : Nat)
  | [] => rfl
  | r :: rs => by
    show valV ((Sum.inr r.1, V.int (r.2 : Nat)) :: arKV rs) (Sum.inr x : Key) = _
    rw [valV_cons, lookup_cons, valV_ar x rs]
    by_cases h : r.1 = x
    · subst h
      simp
    · rw [if_neg h, if_neg]
      exact fun z => h (Sum.inr.inj z)
theorem valV_rk (x : Str) : ∀ (n : Nat) (rows : List Sy.Row), valV (rkKV n rows) (Sum.inr x : Key) = (rk n rows x).map fun n => V.int (n : Nat)
  | _, [] => rfl
  | n, r :: rs => by
    show valV ((Sum.inr r.1, V.int (n : Nat)) :: rkKV (n + 1) rs) (Sum.inr x : Key) = _
    rw [valV_cons, valV_rk x (n + 1) rs]
    show _ = (if r.1 = x then some n else rk (n + 1) rs x).map _
    by_cases h : r.1 = x
    · subst h
      simp
    · rw [if_neg h, if_neg]
      exact fun z => h (Sum.inr.inj z)
/-- the fields, in the order in which __init__ stores them -/
def bedF (dA tR tK dR : Addr) : List (Str × V) := [("arities", .ref dA), ("rows", .ref tR), ("kinds", .ref tK), ("ranks", .ref dR)]
/-- a bed stands at a -/
structure BedAt (K : PySem.W.Frag) (H : Hp) (a : Addr) (rows : List Sy.Row) : Prop where
  ex : ∃ (dx dA tR tK dR : Addr) (ps : List Addr), H a = some (.ins (He.ga K "Bed") dx (bedF dA tR tK dR)) ∧ H dA = some (.dK (arKV rows)) ∧ H dR = some (.dK (rkKV 0 rows)) ∧ SqT K H tR (ps.map V.ref) ∧ SqT K H tK (rows.map fun r => V.str r.1) ∧
    Paired (fun p (r : Sy.Row) => SqT K H p [.str r.1, .int (r.2 : Nat)]) ps rows
theorem BedAt.mono {K : PySem.W.Frag} {H H' : Hp} {a : Addr} {rows : List Sy.Row} (s : Stay H H') (b : BedAt K H a rows) : BedAt K H' a rows := by
  obtain ⟨dx, dA, tR, tK, dR, ps, h1, h2, h3, h4, h5, h6⟩ := b.ex
  exact ⟨dx, dA, tR, tK, dR, ps, s _ _ h1 (fun _ z => nomatch z), s _ _ h2 (fun _ z => nomatch z), s _ _ h3 (fun _ z => nomatch z), s.sqt h4, s.sqt h5, Paired.mapP h6 fun _ _ z => s.sqt z⟩
/-- what the walk asks of the top: the class Bed -/
structure BedT (K : PySem.W.Frag) : Prop where
  cl : Cls K (He.ga K "Bed")
  nA : NoAttr K (He.ga K "Bed") "arities"
  nR : NoAttr K (He.ga K "Bed") "rows"
  nK : NoAttr K (He.ga K "Bed") "kinds"
  nRk : NoAttr K (He.ga K "Bed") "ranks"
section
variable {K : PySem.W.Frag} {σ : L2.St} {H : Hp} {Q : VK} {i : Nat} {a : Addr} {rows : List Sy.Row}
/-- bed.arities, the bed in slot i -/
theorem bed_ar (T : BedT K) (b : BedAt K H a rows) (hi : σ[i]? = some (some (.ref a))) (h : ∀ dA, H dA = some (.dK (arKV rows)) → Q (.ref dA) H) : tFld K (tVar i) "arities" σ H Q := by
  obtain ⟨dx, dA, tR, tK, dR, ps, h1, h2, h3, h4, h5, h6⟩ := b.ex
  exact ⟨_, hi, a, _, dx, _, _, rfl, h1, T.cl, T.nA, rfl, h dA h2⟩
theorem bed_rk (T : BedT K) (b : BedAt K H a rows) (hi : σ[i]? = some (some (.ref a))) (h : ∀ dR, H dR = some (.dK (rkKV 0 rows)) → Q (.ref dR) H) : tFld K (tVar i) "ranks" σ H Q := by
  obtain ⟨dx, dA, tR, tK, dR, ps, h1, h2, h3, h4, h5, h6⟩ := b.ex
  exact ⟨_, hi, a, _, dx, _, _, rfl, h1, T.cl, T.nRk, rfl, h dR h3⟩
theorem bed_kd (T : BedT K) (b : BedAt K H a rows) (hi : σ[i]? = some (some (.ref a))) (h : ∀ tK, SqT K H tK (rows.map fun r => V.str r.1) → Q (.ref tK) H) : tFld K (tVar i) "kinds" σ H Q := by
  obtain ⟨dx, dA, tR, tK, dR, ps, h1, h2, h3, h4, h5, h6⟩ := b.ex
  exact ⟨_, hi, a, _, dx, _, _, rfl, h1, T.cl, T.nK, rfl, h tK h5⟩
end
end Sy
namespace Sy
open PySem PySem.Spec PyProof.Rows L2
theorem pe_gint {X : Cx} {x : Str} {i : Int} {pos : Pos} (hg : Gl X x) (hm : ∃ t, X.mg x = some (.int i t)) (hd : (x == ("__debug__" : Str)) = false := by decide) : PE X (.Name x pos) (tC (.int i)) := by
  obtain ⟨t, hm⟩ := hm
  exact pe_glob hg hm ⟨_, rfl⟩ hd
theorem pe_gstr {X : Cx} {x z : Str} {pos : Pos} (hg : Gl X x) (hm : ∃ t, X.mg x = some (.str z t)) (hd : (x == ("__debug__" : Str)) = false := by decide) : PE X (.Name x pos) (tC (.str z)) := by
  obtain ⟨t, hm⟩ := hm
  exact pe_glob hg hm ⟨_, rfl⟩ hd
/-- built-in names and constants that the module leaves alone -/
structure Txt (K : PySem.W.Frag) (mg : Str → Option Value) : Prop where
  bed : BedT K
  len : mg "len" = none
  range : mg "range" = none
  reversed : mg "reversed" = none
  enumerate : mg "enumerate" = none
  tuple : mg "tuple" = none
  list : mg "list" = none
  int : mg "int" = none
  abs : mg "abs" = none
  max : mg "max" = none
  isinstance : mg "isinstance" = none
  MOST_KNOTS : ∃ t, mg "MOST_KNOTS" = some (.int 2000 t)
  MOST_KINDS : ∃ t, mg "MOST_KINDS" = some (.int 8 t)
  MOST_BRANCHES : ∃ t, mg "MOST_BRANCHES" = some (.int 3 t)
  LONGEST_NAME : ∃ t, mg "LONGEST_NAME" = some (.int 8 t)
/-! loops, in the form that a reading asks for -/
abbrev Loop (J : It) (g : TG) (tb : TS) (D : Ends) (σ : L2.St) (H : Hp) : Prop := ∃ W : Nat → Nat → L2.St → Hp → Prop, (∃ m, W 0 m σ H) ∧ ∀ i m σ H, W i m σ H → (J.stop i H ∧ D.nx σ H) ∨
  (J.go i H ∧ ∃ N : L2.St → Hp → Prop, (∀ σ' H', N σ' H' → ∃ m', m' < m ∧ W (i + 1) m' σ' H') ∧ ∀ x H', J.yld i H x H' → g x σ H' fun σ2 H2 => tb { D with nx := N, ct := N, bk := D.nx } σ2 H2)
/-- for i, x in enumerate(t) -/
theorem for_enumT {K : PySem.W.Frag} {si sj : Nat} {tb : TS} {D : Ends} {σ : L2.St} {H : Hp} {a : Addr} {xs : List V} (Pv : Nat → L2.St → Hp → Prop)
    (h0 : Pv 0 σ H) (hG : ∀ i σ H, i ≤ xs.length → Pv i σ H → SqT K H a xs)
    (hs : ∀ i x σ H T, xs[i]? = some x → Pv i σ H → H T = none → tb { D with nx := Pv (i + 1), ct := Pv (i + 1), bk := D.nx } ((σ.set si (some (.int (i : Nat)))).set sj (some x)) (upd H T (.tup [.int (i : Nat), x])))
    (hd : ∀ σ H, Pv xs.length σ H → D.nx σ H) : Loop (ItE K a) (gTup K 2 (gCons (gName si) (gCons (gName sj) gNil))) tb D σ H := by
  refine for_it walkE Pv h0 hG (fun i v σ H H' hi hp y => ?_) hd
  obtain ⟨T, x, z, rfl, hT, rfl, e1, e2⟩ := y
  cases e1
  exact ⟨T, _, rfl, SqT.of upd_same, rfl, _, _, rfl, _, _, rfl, rfl, hs i z σ H T e2 hp hT⟩
/-- .. over a list that the body leaves alone -/
theorem for_enumL {K : PySem.W.Frag} {si sj : Nat} {tb : TS} {D : Ends} {σ : L2.St} {H : Hp} {a : Addr} {xs : List V} (Pv : Nat → L2.St → Hp → Prop)
    (h0 : Pv 0 σ H) (hG : ∀ i σ H, i ≤ xs.length → Pv i σ H → SqL K H a xs)
    (hs : ∀ i x σ H T, xs[i]? = some x → Pv i σ H → H T = none → tb { D with nx := Pv (i + 1), ct := Pv (i + 1), bk := D.nx } ((σ.set si (some (.int (i : Nat)))).set sj (some x)) (upd H T (.tup [.int (i : Nat), x])))
    (hd : ∀ σ H, Pv xs.length σ H → D.nx σ H) : Loop (Ite K a) (gTup K 2 (gCons (gName si) (gCons (gName sj) gNil))) tb D σ H := by
  refine for_it walk_enum Pv h0 hG (fun i v σ H H' hi hp y => ?_) hd
  obtain ⟨T, x, z, rfl, hT, rfl, e1, e2⟩ := y
  cases e1
  exact ⟨T, _, rfl, SqT.of upd_same, rfl, _, _, rfl, _, _, rfl, rfl, hs i z σ H T e2 hp hT⟩
/-- for k in range(n) -/
theorem for_rng {si : Nat} {tb : TS} {D : Ends} {σ : L2.St} {H : Hp} {n : Nat} (Pv : Nat → L2.St → Hp → Prop) (h0 : Pv 0 σ H)
    (hs : ∀ (i : Nat) σ H, i < n → Pv i σ H → tb { D with nx := Pv (i + 1), ct := Pv (i + 1), bk := D.nx } (σ.set si (some (.int (i : Nat)))) H)
    (hd : ∀ σ H, Pv n σ H → D.nx σ H) : Loop (Itr 0 n) (gName si) tb D σ H := by
  refine for_range Pv h0 (fun i σ H hi hp => ?_) hd
  have e : (0 : Int) + (i : Nat) = (i : Nat) := by omega
  have q := hs i σ _ hi hp
  rw [← e] at q
  exact q
/-- for k in reversed(range(n)) -/
theorem for_rrng {si : Nat} {tb : TS} {D : Ends} {σ : L2.St} {H : Hp} {n : Nat} (Pv : Nat → L2.St → Hp → Prop) (h0 : Pv n σ H)
    (hs : ∀ (i : Nat) σ H, i < n → Pv (i + 1) σ H → tb { D with nx := Pv i, ct := Pv i, bk := D.nx } (σ.set si (some (.int (i : Nat)))) H)
    (hd : ∀ σ H, Pv 0 σ H → D.nx σ H) : Loop (Itc (0 + (((n : Int) - 0).toNat : Int) - 1) (-1) (((n : Int) - 0).toNat)) (gName si) tb D σ H := by
  have e0 : (((n : Nat) : Int) - 0).toNat = n := by omega
  rw [e0]
  refine for_it walk_rangeC (fun j σ H => Pv (n - j) σ H) h0 (fun _ _ _ _ _ => trivial) (fun j v σ H H' hj hp y => ?_) (fun σ H q => ?_)
  · obtain ⟨rfl, rfl⟩ := y
    have e : (0 : Int) + (n : Nat) - 1 + (j : Nat) * -1 = ((n - 1 - j : Nat) : Int) := by omega
    have e1 : n - j = (n - 1 - j) + 1 := by omega
    rw [e1] at hp
    have q := hs (n - 1 - j) σ _ (by omega) hp
    rw [← e] at q
    have e2 : n - (j + 1) = n - 1 - j := by omega
    show tb { D with nx := fun σ H => Pv (n - (j + 1)) σ H, ct := fun σ H => Pv (n - (j + 1)) σ H, bk := D.nx } _ _
    rw [e2]
    exact q
  · rw [Nat.sub_self] at q
    exact hd σ H q
end Sy
/-! plants as rows of numbers of branches: plain mathematics -/
namespace Sy
/-- how many entries n plants take that stand one behind the other -/
def sp : Nat → List Nat → Nat
  | 0, _ => 0
  | _ + 1, [] => 0
  | n + 1, a :: w => 1 + sp (n + a) w
/-- w is n plants, one behind the other -/
def Fo : Nat → List Nat → Prop
  | 0, [] => True
  | 0, _ :: _ => False
  | _ + 1, [] => False
  | n + 1, a :: w => Fo (n + a) w
theorem sp_zero (w : List Nat) : sp 0 w = 0 := by cases w <;> rfl
theorem sp_nil (n : Nat) : sp n [] = 0 := by cases n <;> rfl
theorem sp_cons (n a : Nat) (w : List Nat) : sp (n + 1) (a :: w) = 1 + sp (n + a) w := rfl
theorem sp_add : ∀ (w : List Nat) (n m : Nat), sp (n + m) w = sp n w + sp m (w.drop (sp n w))
  | w, 0, m => by rw [sp_zero, Nat.zero_add, Nat.zero_add, List.drop_zero]
  | [], n + 1, m => by simp [sp_nil]
  | a :: w, n + 1, m => by
    have e : n + 1 + m = (n + m) + 1 := by omega
    rw [e, sp_cons, sp_cons, show n + m + a = (n + a) + m by omega, sp_add w (n + a) m, Nat.add_assoc, show 1 + sp (n + a) w = sp (n + a) w + 1 by omega, List.drop_succ_cons]
theorem Fo.zero {w : List Nat} (h : Fo 0 w) : w = [] := by
  cases w with
  | nil => rfl
  | cons a w => exact h.elim
theorem Fo.le : ∀ {w : List Nat} {k m : Nat}, Fo (k + m) w → sp k w ≤ w.length ∧ Fo m (w.drop (sp k w)) ∧ Fo k (w.take (sp k w))
  | w, 0, m, h => by
    rw [Nat.zero_add] at h
    rw [sp_zero]
    exact ⟨Nat.zero_le _, h, trivial⟩
  | [], k + 1, m, h => by
    rw [show k + 1 + m = (k + m) + 1 by omega] at h
    exact h.elim
  | a :: w, k + 1, m, h => by
    rw [show k + 1 + m = (k + m) + 1 by omega] at h
    have h : Fo (k + m + a) w := h
    rw [show k + m + a = (k + a) + m by omega] at h
    have q := Fo.le h
    rw [sp_cons, show 1 + sp (k + a) w = sp (k + a) w + 1 by omega, List.drop_succ_cons, List.take_succ_cons]
    exact ⟨by rw [List.length_cons]; omega, q.2.1, q.2.2⟩
theorem Fo.sp : ∀ {w : List Nat} {m : Nat}, Fo m w → sp m w = w.length
  | [], m, _ => sp_nil m
  | a :: w, 0, h => h.elim
  | a :: w, m + 1, h => by
    rw [sp_cons, Fo.sp (w := w) (m := m + a) h, List.length_cons]
    omega
theorem Fo.app : ∀ {u v : List Nat} {n m : Nat}, Fo n u → Fo m v → Fo (n + m) (u ++ v)
  | [], v, 0, m, _, h => by rw [Nat.zero_add]; exact h
  | a :: u, v, n + 1, m, g, h => by
    have q : Fo (n + a + m) (u ++ v) := Fo.app (u := u) (n := n + a) g h
    rw [show n + 1 + m = (n + m) + 1 by omega]
    show Fo (n + m + a) (u ++ v)
    rw [show n + m + a = n + a + m by omega]
    exact q
theorem Fo.sp_app : ∀ {u : List Nat} {n : Nat} (v : List Nat), Fo n u → Sy.sp n (u ++ v) = u.length
  | [], 0, v, _ => sp_zero _
  | [], n + 1, v, h => h.elim
  | a :: u, 0, v, h => h.elim
  | a :: u, n + 1, v, h => by
    rw [List.cons_append, sp_cons, Fo.sp_app (u := u) (n := n + a) v h, List.length_cons]
    omega
theorem Fo.cut : ∀ {u v : List Nat} {n k : Nat}, Fo k u → Fo n (u ++ v) → k ≤ n ∧ Fo (n - k) v
  | [], v, n, 0, _, h => ⟨Nat.zero_le _, by simpa using h⟩
  | a :: u, v, 0, k, _, h => h.elim
  | a :: u, v, n + 1, k + 1, g, h => by
    have q := Fo.cut (u := u) (v := v) (n := n + a) (k := k + a) g h
    refine ⟨by omega, ?_⟩
    have := q.2
    rw [show n + a - (k + a) = n + 1 - (k + 1) by omega] at this
    exact this
/-- one plant of a row is put in another's place -/
theorem Fo.put : ∀ {u x y v : List Nat} {n : Nat}, Fo 1 x → Fo 1 y → Fo n (u ++ (x ++ v)) → Fo n (u ++ (y ++ v))
  | [], x, y, v, n, hx, hy, h => by
    have q := Fo.cut hx h
    have := hy.app q.2
    rw [show 1 + (n - 1) = n by omega] at this
    exact this
  | a :: u, x, y, v, 0, hx, hy, h => h.elim
  | a :: u, x, y, v, n + 1, hx, hy, h => Fo.put (u := u) (n := n + a) hx hy h
theorem Fo.pos {w : List Nat} {n : Nat} (h : Fo (n + 1) w) : 0 < w.length := by
  cases w with
  | nil => exact h.elim
  | cons a w => rw [List.length_cons]; omega
theorem Fo.at_ : ∀ {w : List Nat} {n : Nat} {i : Nat}, Fo n w → i < w.length → ∃ m, Fo (m + 1) (w.drop i)
  | a :: w, 0, _, h, _ => h.elim
  | a :: w, n + 1, 0, h, _ => ⟨n, h⟩
  | a :: w, n + 1, i + 1, h, hi => by
    rw [List.drop_succ_cons]
    exact Fo.at_ (w := w) (n := n + a) h (by rw [List.length_cons] at hi; omega)
/-- what begins within n plants ends within them -/
theorem sp_within : ∀ {w : List Nat} {n i : Nat}, i < sp n w → ∃ m, sp n w = i + sp (m + 1) (w.drop i)
  | w, 0, i, h => by rw [sp_zero] at h; omega
  | w, n + 1, 0, h => ⟨n, by simp⟩
  | [], n + 1, i + 1, h => by rw [sp_nil] at h; omega
  | a :: w, n + 1, i + 1, h => by
    rw [sp_cons] at h ⊢
    obtain ⟨m, e⟩ := sp_within (w := w) (n := n + a) (i := i) (by omega)
    exact ⟨m, by rw [List.drop_succ_cons, e]; omega⟩
/-- the number of branches at i -/
def aw (w : List Nat) (i : Nat) : Nat := w[i]?.getD 0
/-- behind the plant that begins at i -/
def en (w : List Nat) (i : Nat) : Nat := i + sp 1 (w.drop i)
/-- where the branch k of i begins -/
def kd (w : List Nat) (i k : Nat) : Nat := i + 1 + sp k (w.drop (i + 1))
theorem aw_of {w : List Nat} {i a : Nat} (h : w[i]? = some a) : aw w i = a := by rw [aw, h]; rfl
theorem drop_at {w : List Nat} {i : Nat} (h : i < w.length) : w.drop i = aw w i :: w.drop (i + 1) := by
  rw [List.drop_eq_getElem_cons h, aw, List.getElem?_eq_getElem h]
  rfl
theorem kd_zero (w : List Nat) (i : Nat) : kd w i 0 = i + 1 := by rw [kd, sp_zero]
section
variable {w : List Nat} {i j k : Nat}
theorem kd_succ : kd w i (k + 1) = en w (kd w i k) := by
  unfold kd en
  rw [sp_add, List.drop_drop]
  omega
theorem en_kd (hi : i < w.length) : kd w i (aw w i) = en w i := by
  unfold kd en
  rw [drop_at hi, sp_cons, Nat.zero_add]
  omega
theorem en_gt (hi : i < w.length) : i < en w i := by
  unfold en
  rw [drop_at hi, sp_cons]
  omega
theorem Fo.below (h : Fo 1 w) (hi : i < w.length) : ∃ m, Fo (aw w i + m) (w.drop (i + 1)) := by
  obtain ⟨m, q⟩ := h.at_ hi
  rw [drop_at hi] at q
  exact ⟨m, by rw [Nat.add_comm]; exact q⟩
theorem Fo.kd_lt (h : Fo 1 w) (hi : i < w.length) (hk : k < aw w i) : kd w i k < w.length := by
  obtain ⟨m, q⟩ := h.below hi
  rw [show aw w i + m = k + (aw w i + m - k - 1 + 1) by omega] at q
  have q := Fo.le q
  have := q.2.1.pos
  rw [List.length_drop, List.length_drop] at this
  unfold kd
  omega
theorem Fo.en_le (h : Fo 1 w) (hi : i < w.length) : en w i ≤ w.length := by
  obtain ⟨m, q⟩ := h.at_ hi
  rw [Nat.add_comm] at q
  have q := q.le
  have := q.1
  rw [List.length_drop] at this
  unfold en
  omega
theorem Fo.en0 (h : Fo 1 w) : en w 0 = w.length := by
  unfold en
  rw [List.drop_zero, h.sp]
  omega
/-- the branch that begins at i is a plant -/
theorem Fo.branch (h : Fo 1 w) (hi : i < w.length) : Fo 1 ((w.drop i).take (en w i - i)) := by
  obtain ⟨m, q⟩ := h.at_ hi
  rw [Nat.add_comm] at q
  have q := q.le.2.2
  unfold en
  rw [show i + Sy.sp 1 (w.drop i) - i = Sy.sp 1 (w.drop i) by omega]
  exact q
theorem kd_gt : i < kd w i k := by unfold kd; omega
theorem kd_lt_succ (h : Fo 1 w) (hi : i < w.length) (hk : k < aw w i) : kd w i k < kd w i (k + 1) := by
  rw [kd_succ]
  exact en_gt (h.kd_lt hi hk)
theorem kd_mono (h : Fo 1 w) (hi : i < w.length) : ∀ (d : Nat), k + d ≤ aw w i → kd w i k + d ≤ kd w i (k + d)
  | 0, _ => Nat.le_refl _
  | d + 1, hd => by
    have a := kd_mono h hi d (by omega)
    have b := kd_lt_succ h hi (k := k + d) (by omega)
    rw [show k + (d + 1) = k + d + 1 by omega]
    omega
/-- nested -/
theorem en_nest (a : i ≤ j) (b : j < en w i) : en w j ≤ en w i := by
  unfold en at b ⊢
  obtain ⟨m, e⟩ := sp_within (w := w.drop i) (n := 1) (i := j - i) (by omega)
  rw [List.drop_drop, show i + (j - i) = j by omega, Nat.add_comm m 1, sp_add] at e
  omega
theorem kd_le_en (h : Fo 1 w) (hi : i < w.length) (hk : k ≤ aw w i) : kd w i k ≤ en w i := by
  have := kd_mono h hi (k := k) (aw w i - k) (by omega)
  rw [show k + (aw w i - k) = aw w i by omega, en_kd hi] at this
  omega
/-- a place behind i and within its plant stands in one of its branches -/
theorem in_branch (hi : i < w.length) (a : i < j) : ∀ (n : Nat), j < kd w i n → ∃ k, k < n ∧ kd w i k ≤ j ∧ j < kd w i (k + 1)
  | 0, b => by rw [kd_zero] at b; omega
  | n + 1, b => by
    by_cases c : j < kd w i n
    · obtain ⟨k, h1, h2, h3⟩ := in_branch hi a n c
      exact ⟨k, by omega, h2, h3⟩
    · exact ⟨n, by omega, by omega, b⟩
/-- a knot has one place above it .. -/
theorem kd_lt_of {i2 k2 : Nat} (h : Fo 1 w) (hi : i < w.length) (hi2 : i2 < w.length) (hk : k < aw w i) (hk2 : k2 < aw w i2) (lt : i < i2) : kd w i k ≠ kd w i2 k2 := by
  intro e
  have e1 : kd w i k < en w i := by
    have := kd_le_en h hi (k := k + 1) (by omega)
    have := kd_lt_succ h hi hk
    omega
  have g2 : i2 < kd w i2 k2 := kd_gt
  have hin : i2 < kd w i (aw w i) := by rw [en_kd hi]; omega
  obtain ⟨t, h1, h2, h3⟩ := in_branch hi lt _ hin
  have n1 : en w i2 ≤ en w (kd w i t) := en_nest h2 (by rw [← kd_succ]; exact h3)
  rw [← kd_succ] at n1
  have n2 : kd w i2 k2 < en w i2 := by
    have := kd_le_en h hi2 (k := k2 + 1) (by omega)
    have := kd_lt_succ h hi2 hk2
    omega
  by_cases c : k ≤ t
  · have := kd_mono h hi (k := k) (t - k) (by omega)
    rw [show k + (t - k) = t by omega] at this
    omega
  · have := kd_mono h hi (k := t + 1) (k - (t + 1)) (by omega)
    rw [show t + 1 + (k - (t + 1)) = k by omega] at this
    omega
theorem kd_inj {i2 k2 : Nat} (h : Fo 1 w) (hi : i < w.length) (hi2 : i2 < w.length) (hk : k < aw w i) (hk2 : k2 < aw w i2) (e : kd w i k = kd w i2 k2) : i = i2 ∧ k = k2 := by
  rcases Nat.lt_trichotomy i i2 with c | c | c
  · exact absurd e (kd_lt_of h hi hi2 hk hk2 c)
  · subst c
    refine ⟨rfl, ?_⟩
    rcases Nat.lt_trichotomy k k2 with d | d | d
    · have := kd_mono h hi (k := k) (k2 - k) (by omega)
      rw [show k + (k2 - k) = k2 by omega] at this
      omega
    · exact d
    · have := kd_mono h hi (k := k2) (k - k2) (by omega)
      rw [show k2 + (k - k2) = k by omega] at this
      omega
  · exact absurd e.symm (kd_lt_of h hi2 hi hk2 hk c)
/-- .. and every knot but the root has one -/
theorem has_above (h : Fo 1 w) : ∀ (j : Nat), 0 < j → j < w.length → ∃ i k, i < j ∧ k < aw w i ∧ kd w i k = j := by
  intro j
  induction j using Nat.strongRecOn with
  | _ j ih =>
    intro h0 hj
    -- from a place i < j whose plant ends at j
    have climb : ∀ i, i < j → en w i = j → ∃ i k, i < j ∧ k < aw w i ∧ kd w i k = j := by
      intro i
      induction i using Nat.strongRecOn with
      | _ i ih2 =>
        intro hi e
        by_cases z : i = 0
        · subst z
          rw [h.en0] at e
          omega
        · obtain ⟨p, k, hp, hk, ek⟩ := ih i hi (by omega) (by omega)
          have es : kd w p (k + 1) = j := by rw [kd_succ, ek]; exact e
          by_cases c : k + 1 < aw w p
          · exact ⟨p, k + 1, by omega, c, es⟩
          · have : k + 1 = aw w p := by omega
            rw [this, en_kd (by omega)] at es
            exact ih2 p hp (by omega) es
    by_cases c : 0 < aw w (j - 1)
    · exact ⟨j - 1, 0, by omega, c, by rw [kd_zero]; omega⟩
    · refine climb (j - 1) (by omega) ?_
      rw [← en_kd (by omega), show aw w (j - 1) = 0 by omega, kd_zero]
      omega
end
/-! ### the paths -/
/-- one knot's branches get their paths -/
def stp (w : List Nat) (i : Nat) (fd : List (List Nat)) (n : Nat) : List (List Nat) := (List.range n).foldl (fun fd k => fd.set (kd w i k) (fd.getD i [] ++ [k])) fd
/-- the paths after the first n knots -/
def pth (w : List Nat) (n : Nat) : List (List Nat) := (List.range n).foldl (fun fd i => stp w i fd (aw w i)) (List.replicate w.length [])
def pths (w : List Nat) : List (List Nat) := pth w w.length
theorem stp_succ (w : List Nat) (i n : Nat) (fd : List (List Nat)) : stp w i fd (n + 1) = (stp w i fd n).set (kd w i n) ((stp w i fd n).getD i [] ++ [n]) := by
  unfold stp
  rw [List.range_succ, List.foldl_append]
  rfl
theorem pth_succ (w : List Nat) (n : Nat) : pth w (n + 1) = stp w n (pth w n) (aw w n) := by
  unfold pth
  rw [List.range_succ, List.foldl_append]
  rfl
theorem stp_zero (w : List Nat) (i : Nat) (fd : List (List Nat)) : stp w i fd 0 = fd := rfl
theorem stp_len (w : List Nat) (i : Nat) (fd : List (List Nat)) : ∀ n, (stp w i fd n).length = fd.length
  | 0 => rfl
  | n + 1 => by rw [stp_succ, List.length_set, stp_len w i fd n]
theorem pth_len (w : List Nat) : ∀ n, (pth w n).length = w.length
  | 0 => by show (List.replicate w.length []).length = _; rw [List.length_replicate]
  | n + 1 => by rw [pth_succ, stp_len, pth_len w n]
theorem getD_set_ne {α : Type} (l : List α) {i j : Nat} (v d : α) (h : i ≠ j) : (l.set i v).getD j d = l.getD j d := by
  rw [List.getD_eq_getElem?_getD, List.getElem?_set_ne h, ← List.getD_eq_getElem?_getD]
theorem getD_set_eq {α : Type} (l : List α) {i : Nat} (v d : α) (h : i < l.length) : (l.set i v).getD i d = v := by
  rw [List.getD_eq_getElem?_getD, List.getElem?_set_self h]
  rfl
/-- places up to i stay; other places stay; a branch's place -/
theorem stp_ne (w : List Nat) (i j : Nat) (fd : List (List Nat)) : ∀ n, (∀ k, k < n → kd w i k ≠ j) → (stp w i fd n).getD j [] = fd.getD j []
  | 0, _ => rfl
  | n + 1, h => by
    rw [stp_succ, getD_set_ne _ _ _ (h n (by omega))]
    exact stp_ne w i j fd n fun k hk => h k (by omega)
theorem stp_at {w : List Nat} {i k : Nat} {fd : List (List Nat)} (h : Fo 1 w) (hi : i < w.length) (hl : fd.length = w.length) (hk : k < aw w i) : ∀ n, k < n → n ≤ aw w i → (stp w i fd n).getD (kd w i k) [] = fd.getD i [] ++ [k]
  | n + 1, a, b => by
    have hs : (stp w i fd n).getD i [] = fd.getD i [] := stp_ne w i i fd n fun k _ => by have := kd_gt (w := w) (i := i) (k := k); omega
    rw [stp_succ, hs]
    by_cases c : k = n
    · subst c
      rw [getD_set_eq]
      rw [stp_len, hl]
      exact h.kd_lt hi hk
    · rw [getD_set_ne]
      · exact stp_at h hi hl hk n (by omega) (by omega)
      · intro e
        have := (kd_inj h hi hi (by omega) hk e).2
        omega
theorem pth_at {w : List Nat} {i k : Nat} (h : Fo 1 w) (hi : i < w.length) (hk : k < aw w i) : ∀ n, i < n → n ≤ w.length → (pth w n).getD (kd w i k) [] = (pth w n).getD i [] ++ [k]
  | n + 1, a, b => by
    have si : (pth w (n + 1)).getD i [] = (pth w n).getD i [] := by
      rw [pth_succ]
      exact stp_ne w n i _ _ fun t _ e => by have := kd_gt (w := w) (i := n) (k := t); omega
    rw [si]
    by_cases c : i = n
    · subst c
      rw [pth_succ]
      exact stp_at h hi (pth_len w _) hk _ hk (Nat.le_refl _)
    · rw [pth_succ, stp_ne]
      · exact pth_at h hi hk n (by omega) (by omega)
      · intro t ht e
        have := (kd_inj h (by omega) hi ht hk e).1
        omega
theorem pths_at {w : List Nat} {i k : Nat} (h : Fo 1 w) (hi : i < w.length) (hk : k < aw w i) : (pths w).getD (kd w i k) [] = (pths w).getD i [] ++ [k] := pth_at h hi hk _ hi (Nat.le_refl _)
theorem pth_root (w : List Nat) : ∀ n, (pth w n).getD 0 [] = []
  | 0 => by
    show (List.replicate w.length []).getD 0 [] = []
    cases w <;> rfl
  | n + 1 => by
    rw [pth_succ, stp_ne]
    · exact pth_root w n
    · intro k _ e
      have := kd_gt (w := w) (i := n) (k := k)
      omega
/-- where a path leads -/
def pl (w : List Nat) : Nat → List Nat → Option Nat
  | i, [] => some i
  | i, k :: p => if k < aw w i then pl w (kd w i k) p else none
theorem pl_snoc (w : List Nat) (k : Nat) : ∀ (p : List Nat) (i : Nat), pl w i (p ++ [k]) = (pl w i p).bind fun j => if k < aw w j then some (kd w j k) else none
  | [], i => rfl
  | t :: p, i => by
    show (if t < aw w i then pl w (kd w i t) (p ++ [k]) else none) = (if t < aw w i then pl w (kd w i t) p else none).bind _
    by_cases c : t < aw w i
    · rw [if_pos c, if_pos c, pl_snoc w k p]
    · rw [if_neg c, if_neg c]
      rfl
theorem pl_pths {w : List Nat} (h : Fo 1 w) : ∀ j, j < w.length → pl w 0 ((pths w).getD j []) = some j := by
  intro j
  induction j using Nat.strongRecOn with
  | _ j ih =>
    intro hj
    by_cases z : j = 0
    · subst z
      rw [show pths w = pth w w.length from rfl, pth_root]
      rfl
    · obtain ⟨i, k, hi, hk, e⟩ := has_above h j (by omega) hj
      rw [← e, pths_at h (by omega) hk, pl_snoc, ih i hi (by omega)]
      show (if k < aw w i then some (kd w i k) else none) = _
      rw [if_pos hk]
/-- a path of a plant leads to the same place in each plant that is alike up to that place -/
theorem pl_local {w w' : List Nat} (h : Fo 1 w) (h' : Fo 1 w') : ∀ (p : List Nat) (i : Nat), pl w 0 p = some i → i < w'.length → w'.take i = w.take i → pl w' 0 p = some i := by
  intro p
  induction hn : p.length generalizing p with
  | zero =>
    have : p = [] := List.length_eq_zero_iff.mp hn
    subst this
    exact fun i e _ _ => e
  | succ n ih =>
    intro i e hi a
    obtain ⟨q, k, rfl⟩ : ∃ q k, p = q ++ [k] := ⟨p.dropLast, p.getLast (by intro z; rw [z] at hn; cases hn), (List.dropLast_concat_getLast _).symm⟩
    rw [pl_snoc] at e ⊢
    cases c : pl w 0 q with
    | none => rw [c] at e; cases e
    | some j =>
      rw [c] at e
      have e : (if k < aw w j then some (kd w j k) else none) = some i := e
      by_cases hk : k < aw w j
      · rw [if_pos hk] at e
        have e := Option.some.inj e
        have hj : j < i := by rw [← e]; exact kd_gt
        have hjw : j < w.length := by
          by_cases z : j < w.length
          · exact z
          · rw [aw, List.getElem?_eq_none (by omega)] at hk
            exact absurd hk (Nat.not_lt_zero _)
        have tk : w'.take j = w.take j := by
          have := congrArg (List.take j) a
          rwa [List.take_take, List.take_take, Nat.min_eq_left (by omega)] at this
        rw [ih q (by simpa using hn) j c (by omega) tk]
        have ea : aw w' j = aw w j := by
          have := congrArg (fun l => l[j]?) a
          simp only [List.getElem?_take, hj, if_true] at this
          rw [aw, aw, this]
        have ek : kd w' j k = kd w j k := by
          obtain ⟨m, f⟩ := h.below hjw
          rw [show aw w j + m = k + (aw w j + m - k) by omega] at f
          have f := f.le.2.2
          have el : i - (j + 1) = sp k (w.drop (j + 1)) := by rw [← e, kd]; omega
          have hw : w'.drop (j + 1) = (w.drop (j + 1)).take (sp k (w.drop (j + 1))) ++ w'.drop i := by
            rw [← el, List.take_drop, show j + 1 + (i - (j + 1)) = i by omega, ← a, ← List.take_append_drop i w', List.drop_append, List.take_append_drop]
            have : (w'.take i).length = i := by rw [List.length_take]; omega
            rw [this, show j + 1 - i = 0 by omega, List.drop_zero]
          unfold kd
          rw [hw, f.sp_app, List.length_take, Nat.min_eq_left]
          rw [← el, List.length_drop]
          have := h.kd_lt hjw hk
          omega
        show (if k < aw w' j then some (kd w' j k) else none) = _
        rw [ea, if_pos hk, ek, e]
      · rw [if_neg hk] at e
        cases e
end Sy
/-! heights, plain -/
namespace Sy
/-- hs is right at j, so far as the first t branches go -/
def HtAt (w hs : List Nat) (j t : Nat) : Prop := (∀ k, k < t → hs.getD (kd w j k) 0 + 1 ≤ hs.getD j 0) ∧ 1 ≤ hs.getD j 0 ∧ (hs.getD j 0 = 1 ∨ ∃ k, k < t ∧ hs.getD j 0 = hs.getD (kd w j k) 0 + 1)
structure HtI (w hs : List Nat) (i t : Nat) : Prop where
  len : hs.length = w.length
  up : ∀ j, i < j → j < w.length → HtAt w hs j (aw w j)
  low : ∀ j, j < i → hs.getD j 0 = 1
  at_ : HtAt w hs i t
structure HtO (w hs : List Nat) (i : Nat) : Prop where
  len : hs.length = w.length
  up : ∀ j, i ≤ j → j < w.length → HtAt w hs j (aw w j)
  low : ∀ j, j < i → hs.getD j 0 = 1
section
variable {w hs : List Nat} {i t : Nat}
theorem HtO.start (w : List Nat) : HtO w (List.replicate w.length 1) w.length :=
  ⟨by simp, fun j a b => by omega, fun j h => by rw [List.getD_eq_getElem?_getD, List.getElem?_replicate, if_pos h]; rfl⟩
theorem HtO.open_ (h : HtO w hs (i + 1)) : HtI w hs i 0 :=
  ⟨h.len, fun j a b => h.up j a b, fun j a => h.low j (by omega), fun k z => by omega, by rw [h.low i (by omega)]; exact Nat.le_refl _, .inl (h.low i (by omega))⟩
theorem HtI.close (h : HtI w hs i (aw w i)) : HtO w hs i :=
  ⟨h.len, fun j a b => by
    rcases Nat.eq_or_lt_of_le a with e | e
    · subst e
      exact h.at_
    · exact h.up j e b, h.low⟩
theorem HtI.step (h : HtI w hs i t) (hi : i < w.length) : HtI w (hs.set i (max (hs.getD i 0) (hs.getD (kd w i t) 0 + 1))) i (t + 1) := by
  have o : ∀ (v j : Nat), i < j → (hs.set i v).getD j 0 = hs.getD j 0 := fun v j hj => getD_set_ne _ _ _ (by omega)
  have e : ∀ v, (hs.set i v).getD i 0 = v := fun v => getD_set_eq _ _ _ (by rw [h.len]; exact hi)
  have g : ∀ k, i < kd w i k := fun k => kd_gt
  refine ⟨by rw [List.length_set]; exact h.len, fun j a b => ?_, fun j a => by rw [getD_set_ne _ _ _ (by omega)]; exact h.low j a, ?_⟩
  · have q := h.up j a b
    unfold HtAt at q ⊢
    rw [o _ j a]
    refine ⟨fun k hk => ?_, q.2.1, ?_⟩
    · rw [o _ _ (Nat.lt_trans a kd_gt)]
      exact q.1 k hk
    · rcases q.2.2 with r | ⟨k, hk, r⟩
      · exact .inl r
      · exact .inr ⟨k, hk, by rw [o _ _ (Nat.lt_trans a kd_gt)]; exact r⟩
  · have q := h.at_
    unfold HtAt at q ⊢
    rw [e]
    refine ⟨fun k hk => ?_, by omega, ?_⟩
    · rw [o _ _ (g k)]
      by_cases c : k = t
      · subst c
        omega
      · have := q.1 k (by omega)
        omega
    · rcases Nat.le_total (hs.getD i 0) (hs.getD (kd w i t) 0 + 1) with c | c
      · exact .inr ⟨t, by omega, by rw [o _ _ (g t)]; omega⟩
      · rcases q.2.2 with r | ⟨k, hk, r⟩
        · exact .inl (by omega)
        · exact .inr ⟨k, by omega, by rw [o _ _ (g k)]; omega⟩
theorem HtO.above (h : HtO w hs 0) (f : Fo 1 w) : ∀ j, j < w.length → ((pths w).getD j []).length + hs.getD j 0 ≤ hs.getD 0 0 := by
  intro j
  induction j using Nat.strongRecOn with
  | _ j ih =>
    intro hj
    by_cases z : j = 0
    · subst z
      rw [show pths w = pth w w.length from rfl, pth_root]
      exact Nat.le_of_eq (Nat.zero_add _)
    · obtain ⟨i, k, hi, hk, e⟩ := has_above f j (by omega) hj
      have := ih i hi (by omega)
      have q := (h.up i (Nat.zero_le _) (by omega)).1 k hk
      rw [← e, pths_at f (by omega) hk, List.length_append]
      show _ + 1 + _ ≤ _
      omega
theorem HtO.below (h : HtO w hs 0) (f : Fo 1 w) : ∀ (d i : Nat), w.length - i ≤ d → i < w.length → ∃ j, j < w.length ∧ ((pths w).getD j []).length + 1 = ((pths w).getD i []).length + hs.getD i 0
  | 0, i, a, hi => by omega
  | d + 1, i, a, hi => by
    rcases (h.up i (Nat.zero_le _) hi).2.2 with r | ⟨k, hk, r⟩
    · exact ⟨i, hi, by rw [r]⟩
    · have g : i < kd w i k := kd_gt
      have l := f.kd_lt hi hk
      obtain ⟨j, hj, e⟩ := HtO.below h f d (kd w i k) (by omega) l
      refine ⟨j, hj, ?_⟩
      rw [e, pths_at f hi hk, List.length_append, r]
      show _ + 1 + _ = _
      omega
/-- as the law counts it -/
def tall (l : List (List Nat)) : Nat := l.foldl (fun t p => if t ≤ p.length then p.length + 1 else t) 0
theorem tall_snoc (l : List (List Nat)) (p : List Nat) : tall (l ++ [p]) = if tall l ≤ p.length then p.length + 1 else tall l := by
  unfold tall
  rw [List.foldl_append]
  rfl
theorem tall_ge (l : List (List Nat)) : (∀ p ∈ l, p.length + 1 ≤ tall l) ∧ (tall l = 0 ∨ ∃ p ∈ l, p.length + 1 = tall l) := by
  suffices h : ∀ (l : List (List Nat)) (n : Nat), (n ≤ l.foldl (fun t p => if t ≤ p.length then p.length + 1 else t) n) ∧ (∀ p ∈ l, p.length + 1 ≤ l.foldl (fun t p => if t ≤ p.length then p.length + 1 else t) n) ∧
      (l.foldl (fun t p => if t ≤ p.length then p.length + 1 else t) n = n ∨ ∃ p ∈ l, p.length + 1 = l.foldl (fun t p => if t ≤ p.length then p.length + 1 else t) n) from ⟨(h l 0).2.1, (h l 0).2.2⟩
  intro l
  induction l with
  | nil => exact fun n => ⟨Nat.le_refl _, fun _ h => (nomatch h), .inl rfl⟩
  | cons x l ih =>
    intro n
    rw [List.foldl_cons]
    have q := ih (if n ≤ x.length then x.length + 1 else n)
    by_cases c : n ≤ x.length
    · rw [if_pos c] at q ⊢
      refine ⟨by omega, fun p hp => ?_, ?_⟩
      · rcases List.mem_cons.mp hp with rfl | hp
        · exact q.1
        · exact q.2.1 p hp
      · rcases q.2.2 with e | ⟨p, hp, e⟩
        · exact .inr ⟨x, List.mem_cons_self, e.symm⟩
        · exact .inr ⟨p, List.mem_cons_of_mem _ hp, e⟩
    · rw [if_neg c] at q ⊢
      refine ⟨q.1, fun p hp => ?_, ?_⟩
      · rcases List.mem_cons.mp hp with rfl | hp
        · have := q.1; omega
        · exact q.2.1 p hp
      · rcases q.2.2 with e | ⟨p, hp, e⟩
        · exact .inl e
        · exact .inr ⟨p, List.mem_cons_of_mem _ hp, e⟩
theorem HtO.tall (h : HtO w hs 0) (f : Fo 1 w) : hs.getD 0 0 = Sy.tall (pths w) := by
  have hn := f.pos
  have q := tall_ge (pths w)
  have pl : (pths w).length = w.length := pth_len w _
  have ge : ∀ j, j < w.length → ((pths w).getD j []) ∈ pths w := fun j hj => by
    rw [List.getD_eq_getElem?_getD, List.getElem?_eq_getElem (by omega)]
    exact List.getElem_mem _
  apply Nat.le_antisymm
  · obtain ⟨j, hj, e⟩ := h.below f w.length 0 (by omega) hn
    have e0 : (pths w).getD 0 [] = [] := pth_root w _
    rw [e0] at e
    have := q.1 _ (ge j hj)
    simp only [List.length_nil] at e
    omega
  · rcases q.2 with e | ⟨p, hp, e⟩
    · omega
    · obtain ⟨j, hj, ej⟩ := List.mem_iff_getElem.mp hp
      have a := h.above f j (by omega)
      have b := (h.up j (Nat.zero_le _) (by omega)).2.1
      rw [List.getD_eq_getElem?_getD (l := pths w), List.getElem?_eq_getElem hj, ej] at a
      have a : p.length + hs.getD j 0 ≤ hs.getD 0 0 := a
      omega
end
end Sy
namespace Sy
open PySem PySem.Spec PyProof.Rows L2
def top (i : Nat) : Stmt := PySem.Challenge.pw_shearyard_k01_branches_paths_and_counts.main.body.getD i (.Pass ⟨0, 0, 0, 0⟩)
end Sy
namespace Sy
open PySem PySem.Spec PyProof.Rows L2
/-- a def of the top, by its place -/
abbrev DF (K : PySem.W.Frag) (mg : Str → Option Value) (x : Str) (i : Nat) : Prop := FD K x (top i) ∧ mg x = some (.ref (He.ga K x))
section
variable {P : Program} {w : World} {K : PySem.W.Frag} {mg : Str → Option Value} {base : Heap}
def spArity (K : PySem.W.Frag) : Sp := fun vs H Q _ => ∃ a rows x, vs = [.ref a, .str x] ∧ BedAt K H a rows ∧ Q (.int (ar rows x : Nat)) H
theorem sc_arity : FnScope ["bed", "entry"] ["bed", "entry"] (defScope (top 14)) := ⟨rfl, rfl, rfl, by decide +kernel, rfl, by decide +kernel, by decide +kernel⟩
theorem k_arity (T : Txt K mg) (F : DF K mg "arity" 14) : Cal P w K mg base 1 "arity" ["bed", "entry"] (spArity K) := by
  refine cal_of F.1 F.2 sc_arity (fun _ _ _ _ _ _ us e => match us, e with | [_, _], _ => rfl) (fun vs H Q E s => by obtain ⟨a, rows, x, rfl, _⟩ := s; rfl) ?_
  intro cdv A outer s H vs Q E hr h
  obtain ⟨a, rows, x, rfl, hb, hq⟩ := h
  have hu := hu_of hr
  refine ⟨_, pss_one (ps_ret (pe_dget2 hu (pe_fld (pv 0) rfl) (pv 1) pe_int ⟨rfl, rfl, rfl, rfl⟩)), ?_⟩
  obtain ⟨dx, dA, tR, tK, dR, ps, h1, hd, h3, h4, h5, h6⟩ := hb.ex
  refine ⟨_, rfl, a, _, dx, _, _, rfl, h1, T.bed.cl, T.bed.nA, rfl, dA, rfl, .inl ⟨_, .inl hd⟩, _, rfl, _, DGet.k (k := Sum.inr x) hd, ?_⟩
  rw [valV_ar]
  unfold ar at hq
  cases e : rows.lookup x with
  | none => rw [e] at hq; exact hq
  | some n => rw [e] at hq; exact hq
end
end Sy
namespace Sy
open PySem PySem.Spec PyProof.Rows L2
section
variable {P : Program} {w : World} {K : PySem.W.Frag} {mg : Str → Option Value} {base : Heap}
/-! fault_among -/
def fa (rows : List Sy.Row) (lv : List Str) : Nat → Nat → List Str → Int
  | m, i, [] => if 0 < m then (i : Nat) else -1
  | m, i, x :: l => if m = 0 then (i : Nat) else if isK rows x = false ∧ x ∉ lv then (i : Nat) else fa rows lv (m - 1 + ar rows x) (i + 1) l
def spFault (K : PySem.W.Frag) : Sp := fun vs H Q _ => ∃ a r v rows l lv, vs = [.ref a, .ref r, .ref v] ∧ BedAt K H a rows ∧ SqT K H r (l.map V.str) ∧ SqT K H v (lv.map V.str) ∧ ∀ H', Same H H' → Q (.int (fa rows lv 1 0 l)) H'
abbrev N_fault : List Str := ["bed", "row", "leaves", "missing", "index", "entry"]
theorem sc_fault : FnScope N_fault ["bed", "row", "leaves"] (defScope (top 15)) := ⟨rfl, rfl, rfl, by decide +kernel, rfl, by decide +kernel, by decide +kernel⟩
theorem map_at {α β : Type} {f : α → β} {l : List α} {i : Nat} {y : β} (h : (l.map f)[i]? = some y) : ∃ x, l[i]? = some x ∧ y = f x := by
  rw [List.getElem?_map] at h
  cases e : l[i]? with
  | none => rw [e] at h; cases h
  | some x => rw [e] at h; exact ⟨x, rfl, (Option.some.inj h).symm⟩
theorem inV_strs (y : Str) (lv : List Str) : inV (.str y) (lv.map V.str) = decide (y ∈ lv) := by
  unfold inV
  induction lv with
  | nil => rfl
  | cons x l ih =>
    rw [List.map_cons, List.any_cons, ih]
    have : eqV (V.str x) (V.str y) = decide (x = y) := by
      by_cases h : x = y
      · subst h
        simp [eqV]
      · simp [eqV, h]
    rw [this]
    simp [List.mem_cons, eq_comm]
theorem drop_of {α : Type} {l : List α} {i : Nat} {x : α} (h : l[i]? = some x) : l.drop i = x :: l.drop (i + 1) := by
  obtain ⟨hi, e⟩ := List.getElem?_eq_some_iff.mp h
  rw [List.drop_eq_getElem_cons hi, e]
theorem k_fault (T : Txt K mg) (F : DF K mg "fault_among" 15) (c_arity : Cal P w K mg base 1 "arity" ["bed", "entry"] (spArity K)) : Cal P w K mg base 2 "fault_among" ["bed", "row", "leaves"] (spFault K) := by
  refine cal_of F.1 F.2 sc_fault (fun _ _ _ _ _ _ us e => match us, e with | [_, _, _], _ => rfl) (fun vs H Q E s => by obtain ⟨_, _, _, _, _, _, rfl, _⟩ := s; rfl) ?_
  intro cdv A outer s H vs Q E hr h
  obtain ⟨a, r, v, rows, l, lv, rfl, hb, hR, hL, hq⟩ := h
  have hu := hu_of hr
  have sc := sc_fault
  refine ⟨_, (pss_cons (ps_set (i := 3) sc.nd rfl (Or.inl rfl) pe_int)
      (pss_cons (ps_for (passes_of rfl) rfl (pi_enumT (by rfl) T.enumerate (pa_cons (pv 1) pa_nil)) (pg_tup rfl (pgs_cons (pg_name (i := 4) sc.nd rfl (Or.inl rfl)) (pgs_cons (pg_name (i := 5) sc.nd rfl (Or.inl rfl)) pgs_nil)))
        (pss_cons (ps_if (pt_cmpR op_eq (pv 3) pe_int (nomark _))
          (pss_one (ps_ret (pv 4)))
          pss_nil)
        (pss_cons (ps_if (PW.pt (pw_and (pt_cmp (pc_dnotin hu (pv 5) (pe_fld (pv 0) rfl))) (pw_and1 (pt_cmpR op_notIn_seq (pv 5) (pv 2) rfl))))
          (pss_one (ps_ret (pv 4)))
          pss_nil)
        (pss_one (ps_set (i := 3) sc.nd rfl (Or.inl rfl) (pe_op op_add (pe_op op_sub (pv 3) pe_int) (pe_cal c_arity hr (pa_cons (pv 0) (pa_cons (pv 5) pa_nil)))))))))
      (pss_cons (ps_if (pt_cmpR op_gt (pv 3) pe_int (nomark _))
        (pss_one (ps_ret (pe_callB call_len_seq (by rfl) T.len (by decide +kernel) (pa_cons (pv 1) pa_nil))))
        pss_nil)
      (pss_one (ps_ret (pe_un un_neg pe_int)))))), ?_⟩
  refine ⟨_, rfl, r, _, rfl, hR, for_enumT (K := K) (fun i σ H' => ∃ (m : Nat) (z : Int) (s4 s5 : Option V), σ = [some (.ref a), some (.ref r), some (.ref v), some (.int z), s4, s5] ∧ z = (m : Nat) ∧ Same H H' ∧ fa rows lv m i (l.drop i) = fa rows lv 1 0 l) ⟨1, 1, none, none, rfl, rfl, Same.refl H, by rw [List.drop_zero]⟩ (fun i σ H' _ ⟨_, _, _, _, _, _, s, _⟩ => Same.sqt s hR) ?_ ?_⟩
  · intro i x σ H' Tt hx ⟨m, _, s4, s5, hσ, rfl, sm, e⟩ hT
    obtain ⟨y, hy, rfl⟩ := map_at hx
    subst hσ
    rw [drop_of hy] at e
    refine ⟨_, rfl, rfl, _, rfl, if_dec (fun c => ?_) (fun c => ?_)⟩
    · rw [fa, if_pos (by have := V.int.inj c; omega)] at e
      refine ⟨_, rfl, ?_⟩
      rw [e]
      exact hq _ (sm.trans (up_same hT))
    · have c : m ≠ 0 := fun z => c (by rw [z]; rfl)
      rw [fa, if_neg c] at e
      have sm2 : Same H (upd H' Tt (.tup [.int (i : Nat), .str y])) := sm.trans (up_same hT)
      have hb2 := hb.mono (Stay.of sm2)
      obtain ⟨dx, dA, tR, tK, dR, ps, h1, hd, h3, h4, h5, h6⟩ := hb2.ex
      refine ⟨_, rfl, _, rfl, a, _, dx, _, _, rfl, h1, T.bed.cl, T.bed.nA, rfl, dA, _, rfl, DGet.k (k := Sum.inr y) hd, _, rfl, ?_⟩
      have stop : isK rows y = false → y ∉ lv → Q (.int (i : Nat)) (upd H' Tt (.tup [.int (i : Nat), .str y])) := fun z1 z2 => by
        rw [if_pos ⟨z1, z2⟩] at e
        have q := hq _ sm2
        rw [← e] at q
        exact q
      have em : ((m : Int) - 1 + (ar rows y : Nat)) = ((m - 1 + ar rows y : Nat) : Int) := by omega
      have go : ¬ (isK rows y = false ∧ y ∉ lv) → fa rows lv (m - 1 + ar rows y) (i + 1) (l.drop (i + 1)) = fa rows lv 1 0 l := fun z => by
        rw [if_neg z] at e
        exact e
      refine if_bool (fun c2 => ?_) (fun c2 => ?_)
      · have c2 : isK rows y = false := by simpa [valV_ar, isK] using c2
        refine ⟨_, rfl, _, rfl, v, _, rfl, .inr (Same.sqt sm2 hL), rfl, by simp [flatV], _, rfl, ?_⟩
        refine if_bool (fun c3 => ?_) (fun c3 => ?_)
        · exact ⟨_, rfl, stop c2 (by simpa [inV_strs] using c3)⟩
        · exact ⟨_, rfl, _, _, rfl, rfl, _, rfl, _, rfl, a, rows, y, rfl, hb2, _, _, rfl, rfl, _, _, _, _, rfl, em, sm2, go fun z => z.2 (by simpa [inV_strs] using c3)⟩
      · have c2 : isK rows y = true := by simpa [valV_ar, isK] using c2
        exact ⟨_, rfl, _, _, rfl, rfl, _, rfl, _, rfl, a, rows, y, rfl, hb2, _, _, rfl, rfl, _, _, _, _, rfl, em, sm2, go fun z => by rw [c2] at z; cases z.1⟩
  · intro σ H' ⟨m, _, s4, s5, hσ, rfl, sm, e⟩
    subst hσ
    rw [List.drop_of_length_le (by simp), fa] at e
    refine ⟨_, rfl, _, _, rfl, rfl, _, rfl, if_dec (fun c => ?_) (fun c => ?_)⟩
    · rw [if_pos (by omega)] at e
      refine ⟨_, rfl, r, _, rfl, .inr (Same.sqt sm hR), ?_⟩
      have q := hq _ sm
      rw [← e] at q
      exact q
    · rw [if_neg (by omega)] at e
      refine ⟨_, rfl, ?_⟩
      have q := hq _ sm
      rw [← e] at q
      exact q
end
end Sy
namespace Sy
open PySem PySem.Spec PyProof.Rows L2
/-! more words -/
theorem ixN_nat {n j : Nat} (h : j < n) : ixN n (j : Int) = some j := by
  unfold ixN
  rw [if_pos (by omega), if_pos (by omega)]
  rfl
/-- a row of places -/
abbrev vN (l : List Nat) : List V := l.map fun n : Nat => V.int (n : Int)
def DN (l : List Nat) : PyData := .tuple (l.map fun n : Nat => PyData.int (n : Int))
def DS (l : List Str) : PyData := .tuple (l.map PyData.str)
section
variable {K : PySem.W.Frag} {H B B' : Hp} {v : V} {vs : List V} {ds : List PyData}
theorem ImA.nats : ∀ l : List Nat, ImA K H (vN l) (l.map fun n : Nat => PyData.int (n : Int))
  | [] => .nil
  | x :: l => .cons (.int _) (ImA.nats l)
theorem Im.nats {a : Addr} {l : List Nat} (h : SqT K H a (vN l)) : Im K H (.ref a) (DN l) := .tup h (ImA.nats l)
theorem Im.tupI (h : Im K H v (.tuple ds)) : ∃ a xs, v = .ref a ∧ SqT K H a xs ∧ ImA K H xs ds := by
  cases h with
  | tup h1 h2 => exact ⟨_, _, rfl, h1, h2⟩
theorem Im.intI {i : Int} (h : Im K H v (.int i)) : v = .int i := by cases h; rfl
theorem Im.strI {x : Str} (h : Im K H v (.str x)) : v = .str x := by cases h; rfl
theorem ImA.natsI : ∀ {l : List Nat} {vs : List V}, ImA K H vs (l.map fun n : Nat => PyData.int (n : Int)) → vs = vN l
  | [], _, .nil => rfl
  | _ :: _, _, .cons a b => by rw [a.intI, ImA.natsI b]; rfl
theorem ImA.strsI : ∀ {l : List Str} {vs : List V}, ImA K H vs (l.map PyData.str) → vs = l.map V.str
  | [], _, .nil => rfl
  | _ :: _, _, .cons a b => by rw [a.strI, ImA.strsI b]; rfl
theorem Im.natsI {l : List Nat} (h : Im K H v (DN l)) : ∃ a, v = .ref a ∧ SqT K H a (vN l) := by
  obtain ⟨a, xs, rfl, h1, h2⟩ := h.tupI
  rw [h2.natsI] at h1
  exact ⟨a, rfl, h1⟩
theorem Im.strsI {l : List Str} (h : Im K H v (DS l)) : ∃ a, v = .ref a ∧ SqT K H a (l.map V.str) := by
  obtain ⟨a, xs, rfl, h1, h2⟩ := h.tupI
  rw [h2.strsI] at h1
  exact ⟨a, rfl, h1⟩
theorem ImA.set : ∀ {vs : List V} {ds : List PyData} {i : Nat} {d : PyData}, ImA K H vs ds → Im K H v d → ImA K H (vs.set i v) (ds.set i d)
  | _, _, _, _, .nil, _ => .nil
  | _, _, 0, _, .cons _ b, h => .cons h b
  | _, _, i + 1, _, .cons a b, h => .cons a (ImA.set b h)
theorem ImA.snoc {d : PyData} (h : ImA K H vs ds) (g : Im K H v d) : ImA K H (vs ++ [v]) (ds ++ [d]) := h.app (.cons g .nil)
end
/-! comprehensions over a tuple -/
abbrev LcW (J : It) (g : TG) (tt : TT) (te : TE) (vs : List Nat) (σ : L2.St) (H1 : Hp) (D : Addr) (Qd : Hp → Prop) : Prop := ∃ W : Nat → Nat → Hp → Prop, (∃ m, W 0 m (upd H1 D (.lst []))) ∧ ∀ i m H, W i m H → (J.stop i H ∧ Qd H) ∨
  (J.go i H ∧ ∃ Nx : Hp → Prop, (∀ H', Nx H' → ∃ m', m' < m ∧ W (i + 1) m' H') ∧ ∀ x H', J.yld i H x H' → g x (wipe σ vs) H' fun σ2 H2 => wipe σ2 vs = wipe σ vs ∧ tt σ2 H2 fun b H3 => if b = true then te σ2 H3 fun y H4 => ∃ acc, H4 D = some (.lst acc) ∧ acc.length < sizeLine ∧ Nx (upd H4 D (.lst (acc ++ [y]))) else Nx H3)
/-- [e for x in t] -/
theorem wipe_one (σ : L2.St) (i : Nat) (v : Option V) : wipe (σ.set i v) [i] = wipe σ [i] := by
  show (σ.set i v).set i none = σ.set i none
  rw [List.set_set]
theorem lc_map {K : PySem.W.Frag} {a : Addr} {xs : List V} {si : Nat} {te : TE} {σ : L2.St} {H B : Hp} {L : List (Addr × HO)} {D : Addr} {Qd : Hp → Prop} (h : Hs B L H) (hD : H D = none) (hx : SqT K B a xs) (hsz : xs.length ≤ 1000000)
    (Pv : Nat → Hp → List V → Prop) (h0 : Pv 0 B [])
    (hs : ∀ i x B' acc H', xs[i]? = some x → Same B B' → Pv i B' acc → Hs B' ((D, .lst acc) :: L) H' →
      ∀ R : VK, (∀ y H4 B4, Same B' B4 → Hs B4 ((D, .lst acc) :: L) H4 → Pv (i + 1) B4 (acc ++ [y]) → R y H4) → te ((wipe σ [si]).set si (some x)) H' R)
    (hd : ∀ B' acc H', Same B B' → Pv xs.length B' acc → Hs B' ((D, .lst acc) :: L) H' → Qd H') : LcW (Itt K a) (gName si) tYes te [si] σ H D Qd := by
  refine lc_tup (K := K) (a := a) (xs := xs) (fun i H' => i ≤ xs.length ∧ ∃ B' acc, acc.length = i ∧ Same B B' ∧ Pv i B' acc ∧ Hs B' ((D, .lst acc) :: L) H') ⟨Nat.zero_le _, B, [], rfl, Same.refl B, h0, h.new hD⟩ ?_ ?_ ?_
  · rintro i H' _ ⟨_, B', acc, _, s, _, hh⟩
    exact Same.sqt (s.trans hh.sub) hx
  · rintro i x H' hxi ⟨hi, B', acc, ha, s, p, hh⟩
    have lt : i < xs.length := (List.getElem?_eq_some_iff.mp hxi).1
    refine ⟨wipe_one _ _ _ |>.trans (by show (σ.set si none).set si none = σ.set si none; rw [List.set_set]), ?_⟩
    simp only [tYes, if_true]
    refine hs i x B' acc H' hxi s p hh _ (fun y H4 B4 s4 h4 p4 => ?_)
    exact ⟨acc, h4.r0, by rw [sizeLine_eq]; omega, by omega, B4, acc ++ [y], by rw [List.length_append, ha]; rfl, s.trans s4, p4, h4.w0⟩
  · rintro H' ⟨_, B', acc, _, s, p, hh⟩
    exact hd B' acc H' s p hh
end Sy
namespace Sy
open PySem PySem.Spec PyProof.Rows L2
/-- the numbers of branches of a row's entries -/
def wt (rows : List Sy.Row) (l : List Str) : List Nat := l.map (ar rows)
def ens (w : List Nat) : List Nat := (List.range w.length).map (en w)
def kidsN (w : List Nat) (i : Nat) : List Nat := (List.range (aw w i)).map (kd w i)
def dKids (w : List Nat) : PyData := .tuple ((List.range w.length).map fun i => DN (kidsN w i))
section
variable {rows : List Sy.Row} {l : List Str} {i : Nat} {y : Str} {w : List Nat}
theorem wt_len (rows : List Sy.Row) (l : List Str) : (wt rows l).length = l.length := List.length_map ..
theorem wt_at (h : l[i]? = some y) : aw (wt rows l) i = ar rows y := aw_of (by rw [wt, List.getElem?_map, h]; rfl)
theorem ens_of {ss : List Nat} (hl : ss.length = w.length) (h : ∀ j, j < w.length → ss[j]? = some (en w j)) : ss = ens w := by
  apply List.ext_getElem?
  intro j
  by_cases hj : j < w.length
  · rw [h j hj, ens, List.getElem?_map, List.getElem?_range hj]
    rfl
  · rw [List.getElem?_eq_none (by omega), List.getElem?_eq_none (by rw [ens, List.length_map, List.length_range]; omega)]
theorem ens_at (h : i < w.length) : (ens w)[i]? = some (en w i) := by rw [ens, List.getElem?_map, List.getElem?_range h]; rfl
theorem ens_len (w : List Nat) : (ens w).length = w.length := by rw [ens, List.length_map, List.length_range]
theorem vN_at {ns : List Nat} {n : Nat} (h : ns[i]? = some n) : (vN ns)[i]? = some (.int (n : Int)) := by rw [vN, List.getElem?_map, h]; rfl
theorem vN_set (ns : List Nat) (i n : Nat) : (vN ns).set i (.int (n : Int)) = vN (ns.set i n) := by rw [vN, vN, List.map_set]
theorem aw_le (h : Fo 1 w) (hi : i < w.length) : aw w i ≤ w.length := by
  have a := kd_mono h hi (k := 0) (aw w i) (by omega)
  have b := h.en_le hi
  rw [Nat.zero_add, en_kd hi] at a
  omega
end
section
variable {P : Program} {w : World} {K : PySem.W.Frag} {mg : Str → Option Value} {base : Heap}
/-! spans -/
def spSpans (K : PySem.W.Frag) : Sp := fun vs H Q _ => ∃ a r rows l, vs = [.ref a, .ref r] ∧ BedAt K H a rows ∧ SqT K H r (l.map V.str) ∧ Fo 1 (wt rows l) ∧ l.length ≤ 2000 ∧ ∀ H' p, Same H H' → SqT K H' p (vN (ens (wt rows l))) → Q (.ref p) H'
abbrev N_spans : List Str := ["bed", "row", "_", "stops", "index", "stop"]
theorem sc_spans : FnScope N_spans ["bed", "row"] (defScope (top 16)) := ⟨rfl, rfl, rfl, by decide +kernel, rfl, by decide +kernel, by decide +kernel⟩
theorem k_spans (T : Txt K mg) (F : DF K mg "spans" 16) (c_arity : Cal P w K mg base 1 "arity" ["bed", "entry"] (spArity K)) : Cal P w K mg base 2 "spans" ["bed", "row"] (spSpans K) := by
  refine cal_of F.1 F.2 sc_spans (fun _ _ _ _ _ _ us e => match us, e with | [_, _], _ => rfl) (fun vs H Q E s => by obtain ⟨_, _, _, _, rfl, _⟩ := s; rfl) ?_
  intro cdv A outer s H vs Q E hr h
  obtain ⟨a, r, rows, l, rfl, hb, hR, hF, hsz, hq⟩ := h
  have hu := hu_of hr
  have sc := sc_spans
  refine ⟨_, (pss_cons (ps_setLc (i := 3) (own := [("_", 2)]) (g := gName 2) rfl sc.nd rfl rfl (sw_true rfl rfl rfl (by decide +kernel)) (pi_tup (pv 1)) (blkOk_by (N := N_spans) (sc := defScope (top 16)) (by decide +kernel)) (fun _ _ _ _ _ => (pg_name (i := 2) sc.nd rfl (Or.inl rfl))) (fun _ _ _ _ _ => pts_nil) (fun _ _ _ _ _ => pe_int))
      (pss_cons (ps_for (passes_of rfl) rfl (pi_revR rfl T.reversed (prg_1 rfl T.range (pe_callB call_len_seq (by rfl) T.len (by decide +kernel) (pa_cons (pv 1) pa_nil)))) (pg_name (i := 4) sc.nd rfl (Or.inl rfl))
        (pss_cons (ps_set (i := 5) sc.nd rfl (Or.inl rfl) (pe_op op_add (pv 4) pe_int))
        (pss_cons (ps_for (passes_of rfl) rfl (pi_range1 rfl T.range (pa_cons (pe_cal c_arity hr (pa_cons (pv 0) (pa_cons (pe_ix ix_tup (pv 1) (pv 4) (fun _ _ => rfl)) pa_nil))) pa_nil)) (pg_name (i := 2) sc.nd rfl (Or.inl rfl))
          (pss_one (ps_set (i := 5) sc.nd rfl (Or.inl rfl) (pe_ix ix_list (pv 3) (pv 5) (fun _ _ => rfl)))))
        (pss_one (ps_asg (pv 5) (pg_sub (pv 3) (pv 4) set_list))))))
      (pss_one (ps_ret (pe_callTy call_tuple_of (by rfl) T.tuple (by decide +kernel) (pa_cons (pv 3) pa_nil)))))), ?_⟩
  have hwl := wt_len rows l
  refine ⟨_, rfl, r, rfl, ⟨_, hR⟩, fun D hD => lc_map (si := 2) (Hs.start H) hD hR (by rw [List.length_map]; omega) (fun i _ acc => acc = vN (List.replicate i 0)) rfl ?_ ?_⟩
  · rintro i x B' acc H' hx s rfl hh R hR
    exact hR _ _ B' (Same.refl _) hh (by rw [vN, vN, List.replicate_succ', List.map_append]; rfl)
  rintro B' acc H' s2 rfl hh
  refine ⟨_, rfl, r, _, rfl, .inr (Same.sqt (s2.trans hh.sub) hR), _, rfl, by decide, by decide, by rw [List.length_map]; omega, by rw [List.length_map]; omega, for_rrng (n := (l.map V.str).length)
    (fun i σ H' => ∃ t2 t4 t5 B ss, σ = [some (.ref a), some (.ref r), t2, some (.ref D), t4, t5] ∧ Same H B ∧ Hs B [(D, .lst (vN ss))] H' ∧ ss.length = l.length ∧ ∀ j, i ≤ j → j < l.length → ss[j]? = some (en (wt rows l) j))
    ⟨none, none, none, B', List.replicate l.length 0, rfl, s2, by rw [List.length_map] at hh; exact hh, by rw [List.length_replicate], fun j a b => by rw [List.length_map] at a; omega⟩ ?_ ?_⟩
  · rintro i σ H1 hi ⟨t2, t4, t5, B, ss, rfl, sB, hh, hl, hv⟩
    rw [List.length_map] at hi
    have hiw : i < (wt rows l).length := by omega
    obtain ⟨y, hy⟩ : ∃ y, l[i]? = some y := ⟨_, List.getElem?_eq_getElem hi⟩
    have sH := sB.trans hh.sub
    have eaw : aw (wt rows l) i = ar rows y := wt_at hy
    have hal := aw_le hF hiw
    refine ⟨_, rfl, _, _, rfl, rfl, _, rfl, _, rfl, _, rfl, r, _, _, _, rfl, rfl, Same.sqt sH hR, atI_nat (by rw [List.getElem?_map, hy]; rfl), a, rows, y, rfl, hb.mono (Stay.of sH), _, rfl, by omega, by omega, for_rng (n := ar rows y)
      (fun t σ H2 => ∃ u2 z, σ = [some (.ref a), some (.ref r), u2, some (.ref D), some (.int (i : Nat)), some (.int z)] ∧ z = (kd (wt rows l) i t : Nat) ∧ H2 = H1)
      ⟨_, _, rfl, by rw [kd_zero]; rfl, rfl⟩ ?_ ?_⟩
    · rintro t σ H2 ht ⟨u2, _, rfl, rfl, rfl⟩
      have hk := hF.kd_lt hiw (k := t) (by omega)
      refine ⟨_, rfl, _, rfl, D, _, _, _, rfl, rfl, SqL.of hh.r0, atI_nat (vN_at (hv _ (kd_gt) (by omega))), _, _, rfl, by rw [kd_succ], rfl⟩
    · rintro σ H2 ⟨u2, _, rfl, rfl, rfl⟩
      refine ⟨_, rfl, _, rfl, _, rfl, D, _, _, i, rfl, rfl, hh.r0, ixN_nat (by rw [List.length_map]; omega), _, _, _, B, _, rfl, sB, by rw [vN_set]; exact hh.w0, by rw [List.length_set]; exact hl, fun j a b => ?_⟩
      rw [← eaw, en_kd hiw]
      by_cases c : i = j
      · subst c
        rw [List.getElem?_set_self (by omega)]
      · rw [List.getElem?_set_ne c]
        exact hv j (by omega) b
  · rintro σ H1 ⟨t2, t4, t5, B, ss, rfl, sB, hh, hl, hv⟩
    refine ⟨_, rfl, D, _, rfl, .inl ⟨SqL.of hh.r0, fun p hp => ?_⟩⟩
    rw [ens_of (by omega) (fun j hj => hv j (Nat.zero_le _) (by omega))]
    exact hq _ _ ((sB.trans hh.sub).trans (up_same hp)) (SqT.of upd_same)
/-! span_stop -/
def spStop (K : PySem.W.Frag) : Sp := fun vs H Q _ => ∃ a r i rows l, vs = [.ref a, .ref r, .int (i : Nat)] ∧ BedAt K H a rows ∧ SqT K H r (l.map V.str) ∧ Fo 1 (wt rows l) ∧ i < l.length ∧ Q (.int (en (wt rows l) i : Nat)) H
abbrev N_stop : List Str := ["bed", "row", "place", "stop", "missing"]
theorem sc_stop : FnScope N_stop ["bed", "row", "place"] (defScope (top 17)) := ⟨rfl, rfl, rfl, by decide +kernel, rfl, by decide +kernel, by decide +kernel⟩
def muStop (n : Nat) : L2.St → Nat
  | [_, _, _, some (.int s), _] => n - s.toNat
  | _ => 0
theorem k_stop (T : Txt K mg) (F : DF K mg "span_stop" 17) (c_arity : Cal P w K mg base 1 "arity" ["bed", "entry"] (spArity K)) : Cal P w K mg base 2 "span_stop" ["bed", "row", "place"] (spStop K) := by
  refine cal_of F.1 F.2 sc_stop (fun _ _ _ _ _ _ us e => match us, e with | [_, _, _], _ => rfl) (fun vs H Q E s => by obtain ⟨_, _, _, _, _, rfl, _⟩ := s; rfl) ?_
  intro cdv A outer s H vs Q E hr h
  obtain ⟨a, r, i, rows, l, rfl, hb, hR, hF, hi, hq⟩ := h
  have hu := hu_of hr
  have sc := sc_stop
  have hwl := wt_len rows l
  refine ⟨_, (pss_cons (ps_set (i := 3) sc.nd rfl (Or.inl rfl) (pv 2))
      (pss_cons (ps_set (i := 4) sc.nd rfl (Or.inl rfl) pe_int)
      (pss_cons (ps_while (passes_of rfl) (pt_cmpR op_gt (pv 4) pe_int (nomark _))
        (pss_cons (ps_set (i := 4) sc.nd rfl (Or.inl rfl) (pe_op op_add (pe_op op_sub (pv 4) pe_int) (pe_cal c_arity hr (pa_cons (pv 0) (pa_cons (pe_ix ix_tup (pv 1) (pv 3) (fun _ _ => rfl)) pa_nil)))))
        (pss_one (ps_set (i := 3) sc.nd rfl (Or.inl rfl) (pe_op op_add (pv 3) pe_int)))))
      (pss_one (ps_ret (pv 3)))))), ?_⟩
  refine ⟨_, rfl, while_by (fun σ H' => ∃ (st m : Nat) (z1 z2 : Int), σ = [some (.ref a), some (.ref r), some (.int (i : Nat)), some (.int z1), some (.int z2)] ∧ z1 = (st : Nat) ∧ z2 = (m : Nat) ∧ H' = H ∧ st + sp m ((wt rows l).drop st) = en (wt rows l) i ∧ ∃ k, Fo (m + k) ((wt rows l).drop st)) (fun σ _ => muStop l.length σ) ⟨i, 1, _, _, rfl, rfl, rfl, rfl, rfl, by
      obtain ⟨m, q⟩ := hF.at_ (i := i) (by omega)
      exact ⟨m, by rw [Nat.add_comm]; exact q⟩⟩ ?_ (fun _ _ _ _ m ⟨v, h1, i, j, h2, h3, k, h4, q⟩ => ⟨v, h1, i, j, h2, h3, k, h4, m _ _ q⟩)⟩
  rintro σ H' ⟨st, m, _, _, rfl, rfl, rfl, rfl, e, k, f⟩
  refine ⟨_, rfl, _, _, rfl, rfl, _, rfl, if_dec (fun c => ?_) (fun c => ?_)⟩
  · obtain ⟨n, rfl⟩ : ∃ n, m = n + 1 := ⟨m - 1, by omega⟩
    rw [show n + 1 + k = (n + k) + 1 by omega] at f
    have hl := f.pos
    rw [List.length_drop] at hl
    have hs : st < l.length := by omega
    obtain ⟨y, hy⟩ : ∃ y, l[st]? = some y := ⟨_, List.getElem?_eq_getElem hs⟩
    have ey := wt_at (rows := rows) hy
    rw [drop_at (by omega)] at e f
    rw [sp_cons, ey] at e
    have f : Fo (n + k + aw (wt rows l) st) ((wt rows l).drop (st + 1)) := f
    rw [ey] at f
    refine ⟨_, rfl, _, _, rfl, rfl, _, rfl, _, rfl, _, rfl, r, _, _, _, rfl, rfl, hR, atI_nat (by rw [List.getElem?_map, hy]; rfl), a, rows, y, rfl, hb, _, _, rfl, rfl, _, rfl, _, _, rfl, rfl, ⟨st + 1, n + ar rows y, _, _, rfl, rfl, by omega, rfl, by omega, k, by rw [show n + ar rows y + k = n + k + ar rows y by omega]; exact f⟩, ?_⟩
    show l.length - ((st : Int) + 1).toNat < l.length - ((st : Int)).toNat
    omega
  · obtain rfl : m = 0 := by omega
    rw [sp_zero] at e
    refine ⟨_, rfl, ?_⟩
    rw [← e] at hq
    exact hq
/-! kids -/
def spKids (K : PySem.W.Frag) : Sp := fun vs H Q _ => ∃ a r rows l, vs = [.ref a, .ref r] ∧ BedAt K H a rows ∧ SqT K H r (l.map V.str) ∧ Fo 1 (wt rows l) ∧ l.length ≤ 2000 ∧ ∀ H' v, Same H H' → Im K H' v (dKids (wt rows l)) → Q v H'
abbrev N_kids : List Str := ["bed", "row", "stops", "found", "index", "entry", "starts", "start", "_"]
theorem sc_kids : FnScope N_kids ["bed", "row"] (defScope (top 18)) := ⟨rfl, rfl, rfl, by decide +kernel, rfl, by decide +kernel, by decide +kernel⟩
theorem k_kids (T : Txt K mg) (F : DF K mg "kids" 18) (c_arity : Cal P w K mg base 1 "arity" ["bed", "entry"] (spArity K)) (c_spans : Cal P w K mg base 2 "spans" ["bed", "row"] (spSpans K)) : Cal P w K mg base 3 "kids" ["bed", "row"] (spKids K) := by
  refine cal_of F.1 F.2 sc_kids (fun _ _ _ _ _ _ us e => match us, e with | [_, _], _ => rfl) (fun vs H Q E s => by obtain ⟨_, _, _, _, rfl, _⟩ := s; rfl) ?_
  intro cdv A outer s H vs Q E hr h
  obtain ⟨a, r, rows, l, rfl, hb, hR, hF, hsz, hq⟩ := h
  have hu := hu_of hr
  have sc := sc_kids
  have hwl := wt_len rows l
  refine ⟨_, (pss_cons (ps_set (i := 2) sc.nd rfl (Or.inl rfl) (pe_cal c_spans hr (pa_cons (pv 0) (pa_cons (pv 1) pa_nil))))
      (pss_cons (ps_set (i := 3) sc.nd rfl (Or.inl rfl) (pe_lst pa_nil))
      (pss_cons (ps_for (passes_of rfl) rfl (pi_enumT (by rfl) T.enumerate (pa_cons (pv 1) pa_nil)) (pg_tup rfl (pgs_cons (pg_name (i := 4) sc.nd rfl (Or.inl rfl)) (pgs_cons (pg_name (i := 5) sc.nd rfl (Or.inl rfl)) pgs_nil)))
        (pss_cons (ps_set (i := 6) sc.nd rfl (Or.inl rfl) (pe_lst pa_nil))
        (pss_cons (ps_set (i := 7) sc.nd rfl (Or.inl rfl) (pe_op op_add (pv 4) pe_int))
        (pss_cons (ps_for (passes_of rfl) rfl (pi_range1 rfl T.range (pa_cons (pe_cal c_arity hr (pa_cons (pv 0) (pa_cons (pv 5) pa_nil))) pa_nil)) (pg_name (i := 8) sc.nd rfl (Or.inl rfl))
          (pss_cons (ps_expr (pe_bm PySem.F.plainAttrs_list PySem.F.slot_list_append PySem.F.type_list_append mt_append (pv 6) (pa_cons (pv 7) pa_nil)))
          (pss_one (ps_set (i := 7) sc.nd rfl (Or.inl rfl) (pe_ix ix_tup (pv 2) (pv 7) (fun _ _ => rfl))))))
        (pss_one (ps_expr (pe_bm PySem.F.plainAttrs_list PySem.F.slot_list_append PySem.F.type_list_append mt_append (pv 3) (pa_cons (pe_callTy call_tuple_of (by rfl) T.tuple (by decide +kernel) (pa_cons (pv 6) pa_nil)) pa_nil))))))))
      (pss_one (ps_ret (pe_callTy call_tuple_of (by rfl) T.tuple (by decide +kernel) (pa_cons (pv 3) pa_nil))))))), ?_⟩
  refine ⟨_, rfl, _, rfl, a, r, rows, l, rfl, hb, hR, hF, hsz, fun H1 p s1 hp => ?_⟩
  refine ⟨by decide, fun D hD => ?_⟩
  refine ⟨_, rfl, r, _, rfl, Same.sqt (s1.trans (up_same hD)) hR, for_enumT (K := K)
    (fun i σ H' => ∃ t4 t5 t6 t7 t8 B vs, σ = [some (.ref a), some (.ref r), some (.ref p), some (.ref D), t4, t5, t6, t7, t8] ∧ Same H1 B ∧ Hs B [(D, .lst vs)] H' ∧ ImA K B vs ((List.range i).map fun i => DN (kidsN (wt rows l) i)))
    ⟨none, none, none, none, none, H1, [], rfl, Same.refl _, (Hs.start H1).new hD, .nil⟩ (fun i σ H' _ ⟨_, _, _, _, _, B, _, _, s, h, _⟩ => Same.sqt ((s1.trans s).trans h.sub) hR) ?_ ?_⟩
  · rintro i x σ H' Tt hx ⟨t4, t5, t6, t7, t8, B, vs, rfl, sB, hh, im⟩ hT
    obtain ⟨y, hy, rfl⟩ := map_at hx
    have hi : i < l.length := (List.getElem?_eq_some_iff.mp hy).1
    have hiw : i < (wt rows l).length := by omega
    have ey := wt_at (rows := rows) hy
    have hal := aw_le hF hiw
    have hh := hh.lay (o := .tup [.int (i : Nat), .str y]) hT
    refine ⟨by decide, fun E hE => ?_⟩
    have hh := hh.new (o := .lst []) hE
    have sH := (s1.trans sB).trans hh.sub
    refine ⟨_, rfl, _, _, rfl, rfl, _, rfl, _, rfl, a, rows, y, rfl, hb.mono (Stay.of sH), _, rfl, by omega, by omega, for_rng (n := ar rows y)
      (fun t σ H2 => ∃ u8 z, σ = [some (.ref a), some (.ref r), some (.ref p), some (.ref D), some (.int (i : Nat)), some (.str y), some (.ref E), some (.int z), u8] ∧ z = (kd (wt rows l) i t : Nat) ∧ Hs B [(E, .lst (vN ((List.range t).map (kd (wt rows l) i)))), (D, .lst vs)] H2)
      ⟨_, _, rfl, by rw [kd_zero]; rfl, hh⟩ ?_ ?_⟩
    · rintro t σ H2 ht ⟨u8, _, rfl, rfl, h2⟩
      have hk := hF.kd_lt hiw (k := t) (by omega)
      have s3 : Same H1 (upd H2 E (.lst (vN ((List.range t).map (kd (wt rows l) i)) ++ [.int (kd (wt rows l) i t : Nat)]))) := sB.trans (h2.w0).sub
      refine ⟨_, rfl, .inl ⟨rfl, _, SqL.of h2.r0⟩, _, rfl, E, _, _, rfl, rfl, h2.r0, by rw [sizeLine_eq, List.length_map, List.length_map, List.length_range]; omega, _, rfl, _, rfl, p, _, _, _, rfl, rfl, Same.sqt s3 hp, atI_nat (vN_at (ens_at hk)), _, _, rfl, by rw [kd_succ], ?_⟩
      rw [List.range_succ, List.map_append, vN, List.map_append]
      exact h2.w0
    · rintro σ H2 ⟨u8, _, rfl, rfl, h2⟩
      refine ⟨_, rfl, .inl ⟨rfl, _, SqL.of h2.r1⟩, _, rfl, E, _, rfl, .inl ⟨SqL.of h2.r0, fun q hq => ?_⟩⟩
      have hn := h2.tup (o := .tup (vN ((List.range (ar rows y)).map (kd (wt rows l) i)))) hq
      have sB2 : Same B (upd B q (.tup (vN ((List.range (ar rows y)).map (kd (wt rows l) i))))) := up_same (h2.sub.free hq)
      have iq : Im K (upd B q (.tup (vN ((List.range (ar rows y)).map (kd (wt rows l) i))))) (.ref q) (DN (kidsN (wt rows l) i)) := by
        rw [kidsN, ey]
        exact Im.nats (SqT.of upd_same)
      refine ⟨D, _, _, rfl, rfl, hn.r1, by rw [im.len, List.length_map, List.length_range, sizeLine_eq]; omega, _, _, _, _, _, _, _, rfl, sB.trans sB2, (hn.w1).drop, ?_⟩
      rw [List.range_succ, List.map_append]
      exact (im.mono (Stay.of sB2)).snoc iq
  · rintro σ H' ⟨t4, t5, t6, t7, t8, B, vs, rfl, sB, hh, im⟩
    refine ⟨_, rfl, D, _, rfl, .inl ⟨SqL.of hh.r0, fun q hn => ?_⟩⟩
    rw [List.length_map] at im
    have sq := hh.sub.trans (up_same (o := .tup vs) hn)
    refine hq _ _ ((s1.trans sB).trans sq) (.tup (SqT.of upd_same) ?_)
    rw [hwl]
    exact im.mono (Stay.of sq)
end
end Sy
namespace Sy
open PySem PySem.Spec PyProof.Rows L2
theorem stp_le {w : List Nat} {i : Nat} {fd : List (List Nat)} (h : ∀ j, (fd.getD j []).length ≤ j) : ∀ n j, ((stp w i fd n).getD j []).length ≤ j
  | 0, j => h j
  | n + 1, j => by
    have q := stp_le (w := w) (i := i) h n
    rw [stp_succ]
    by_cases c : kd w i n = j
    · rw [c]
      by_cases d : j < (stp w i fd n).length
      · rw [getD_set_eq _ _ _ d, List.length_append]
        have := q i
        have := kd_gt (w := w) (i := i) (k := n)
        show _ + 1 ≤ _
        omega
      · rw [List.getD_eq_getElem?_getD, List.getElem?_eq_none (by rw [List.length_set]; omega)]
        exact Nat.zero_le _
    · rw [getD_set_ne _ _ _ c]
      exact q j
theorem pth_le (w : List Nat) : ∀ n j, ((pth w n).getD j []).length ≤ j
  | 0, j => by
    show ((List.replicate w.length []).getD j []).length ≤ j
    rw [List.getD_eq_getElem?_getD, List.getElem?_replicate]
    split <;> exact Nat.zero_le _
  | n + 1, j => by
    rw [pth_succ]
    exact stp_le (pth_le w n) _ j
def dPaths (w : List Nat) : PyData := .tuple ((pths w).map DN)
section
variable {K : PySem.W.Frag} {H : Hp} {a b : Addr} {xs ys : List V} {Q : VK}
/-- a tuple's slice, whether it is the whole or not -/
theorem sl_any {lo hi : Option Int} {zs : List V} (hz : cutV xs lo hi = zs) (h : SqT K H a xs) (q : ∀ p H', Same H H' → SqT K H' p zs → Q (.ref p) H') : rSlA K (.ref a) lo hi H Q := by
  subst hz
  refine ⟨a, xs, rfl, h, fun c => q _ _ (Same.refl H) ?_, fun _ p hp => q _ _ (up_same hp) (SqT.of upd_same)⟩
  unfold cutV
  rw [c.1, c.2, List.drop_zero, Nat.sub_zero, List.take_length]
  exact h
theorem cat_any (h : SqT K H a xs) (g : SqT K H b ys) (hs : xs.length + ys.length ≤ 1000000) (q : ∀ p H', Same H H' → SqT K H' p (xs ++ ys) → Q (.ref p) H') : rCatA K (.ref a) (.ref b) H Q := by
  refine ⟨a, b, xs, ys, rfl, rfl, h, g, by rw [sizeLine_eq]; omega, fun c => q _ _ (Same.refl H) (by rw [c]; exact g), fun _ c => q _ _ (Same.refl H) (by rw [c, List.append_nil]; exact h), fun _ _ p hp => q _ _ (up_same hp) (SqT.of upd_same)⟩
theorem cut_take {i : Nat} (h : i ≤ xs.length) : cutV xs none (some (i : Int)) = xs.take i := by
  unfold cutV HT.sIx
  simp only [List.drop_zero, Nat.sub_zero]
  rw [if_neg (by omega), show min (i : Int).toNat xs.length = i by omega]
theorem cut_drop {i : Nat} (h : i ≤ xs.length) : cutV xs (some (i : Int)) none = xs.drop i := by
  unfold cutV HT.sIx
  simp only []
  rw [if_neg (by omega), show min (i : Int).toNat xs.length = i by omega, List.take_of_length_le]
  rw [List.length_drop]
  exact Nat.le_refl _
theorem cut_mid {i j : Nat} (h : i ≤ j) (g : j ≤ xs.length) : cutV xs (some (i : Int)) (some (j : Int)) = (xs.drop i).take (j - i) := by
  unfold cutV HT.sIx
  simp only []
  rw [if_neg (by omega), if_neg (by omega), show min (i : Int).toNat xs.length = i by omega, show min (j : Int).toNat xs.length = j by omega]
end
theorem rk_isK (x : Str) : ∀ (n : Nat) (rows : List Sy.Row), isK rows x = true → ∃ m, rk n rows x = some m
  | n, [], h => by simp [isK] at h
  | n, r :: rs, h => by
    rw [isK, lookup_cons] at h
    rw [rk]
    by_cases c : r.1 = x
    · exact ⟨n, by rw [if_pos c]⟩
    · rw [if_neg c] at h ⊢
      exact rk_isK x (n + 1) rs h
def rkD (rows : List Sy.Row) (x : Str) : Nat := (rk 0 rows x).getD 0
section
variable {P : Program} {w : World} {K : PySem.W.Frag} {mg : Str → Option Value} {base : Heap}
/-! row_paths -/
def spPathsR (K : PySem.W.Frag) : Sp := fun vs H Q _ => ∃ a r rows l, vs = [.ref a, .ref r] ∧ BedAt K H a rows ∧ SqT K H r (l.map V.str) ∧ Fo 1 (wt rows l) ∧ l.length ≤ 2000 ∧ ∀ H' v, Same H H' → Im K H' v (dPaths (wt rows l)) → Q v H'
abbrev N_pathsR : List Str := ["bed", "row", "found", "index", "starts", "branch", "start", "_"]
theorem sc_pathsR : FnScope N_pathsR ["bed", "row"] (defScope (top 19)) := ⟨rfl, rfl, rfl, by decide +kernel, rfl, by decide +kernel, by decide +kernel⟩
theorem k_pathsR (T : Txt K mg) (F : DF K mg "row_paths" 19) (c_kids : Cal P w K mg base 3 "kids" ["bed", "row"] (spKids K)) : Cal P w K mg base 4 "row_paths" ["bed", "row"] (spPathsR K) := by
  refine cal_of F.1 F.2 sc_pathsR (fun _ _ _ _ _ _ us e => match us, e with | [_, _], _ => rfl) (fun vs H Q E s => by obtain ⟨_, _, _, _, rfl, _⟩ := s; rfl) ?_
  intro cdv A outer s H vs Q E hr h
  obtain ⟨a, r, rows, l, rfl, hb, hR, hF, hsz, hq⟩ := h
  have hu := hu_of hr
  have sc := sc_pathsR
  have hwl := wt_len rows l
  refine ⟨_, (pss_cons (ps_setLc (i := 2) (own := [("_", 7)]) (g := gName 7) rfl sc.nd rfl rfl (sw_true rfl rfl rfl (by decide +kernel)) (pi_tup (pv 1)) (blkOk_by (N := N_pathsR) (sc := defScope (top 19)) (by decide +kernel)) (fun _ _ _ _ _ => (pg_name (i := 7) sc.nd rfl (Or.inl rfl))) (fun _ _ _ _ _ => pts_nil) (fun _ _ _ _ _ => (pe_tup pa_nil)))
      (pss_cons (ps_for (passes_of rfl) rfl (pi_enumT (by rfl) T.enumerate (pa_cons (pe_cal c_kids hr (pa_cons (pv 0) (pa_cons (pv 1) pa_nil))) pa_nil)) (pg_tup rfl (pgs_cons (pg_name (i := 3) sc.nd rfl (Or.inl rfl)) (pgs_cons (pg_name (i := 4) sc.nd rfl (Or.inl rfl)) pgs_nil)))
        (pss_one (ps_for (passes_of rfl) rfl (pi_enumT (by rfl) T.enumerate (pa_cons (pv 4) pa_nil)) (pg_tup rfl (pgs_cons (pg_name (i := 5) sc.nd rfl (Or.inl rfl)) (pgs_cons (pg_name (i := 6) sc.nd rfl (Or.inl rfl)) pgs_nil)))
          (pss_one (ps_asg (pe_tup (StX.pa_star (pe_ix ix_list (pv 2) (pv 3) (fun _ _ => rfl)) (pa_cons (pv 5) pa_nil))) (pg_sub (pv 2) (pv 6) set_list))))))
      (pss_one (ps_ret (pe_callTy call_tuple_of (by rfl) T.tuple (by decide +kernel) (pa_cons (pv 2) pa_nil)))))), ?_⟩
  refine ⟨_, rfl, r, rfl, ⟨_, hR⟩, fun D hD => lc_map (si := 7) (Hs.start H) hD hR (by rw [List.length_map]; omega) (fun i B acc => ImA K B acc (List.replicate i (DN []))) .nil ?_ ?_⟩
  · intro i x B' acc H' hx s im hh R hR
    refine ⟨by decide, fun p hp => ?_⟩
    refine hR _ _ (upd B' p (.tup [])) (up_same (hh.sub.free hp)) (hh.tup hp) ?_
    rw [List.replicate_succ']
    exact (im.mono (Stay.of (up_same (hh.sub.free hp)))).snoc (Im.nats (l := []) (SqT.of upd_same))
  intro B0 acc H0 s0 im0 h0
  rw [List.length_map] at im0
  refine ⟨_, rfl, _, rfl, a, r, rows, l, rfl, hb.mono (Stay.of (s0.trans h0.sub)), Same.sqt (s0.trans h0.sub) hR, hF, hsz, fun H1 v s1 hv => ?_⟩
  obtain ⟨h1, k1⟩ : Same B0 (cut [(D, .lst acc)] H1) ∧ Hs (cut [(D, .lst acc)] H1) [(D, .lst acc)] H1 := h0.after s1
  obtain ⟨ka, ks, rfl, kt, ki⟩ := hv.tupI
  have kin := stay_cut h0 (AllL.cons AllL.nil) s1
  have kt := kin.sqt kt
  have ki := ki.mono kin
  have kl : ks.length = l.length := by rw [ki.len, List.length_map, List.length_range, hwl]
  generalize hB1 : cut [(D, .lst acc)] H1 = B1 at *
  have im1 := im0.mono (Stay.of h1)
  refine ⟨ka, ks, rfl, Same.sqt k1.sub kt, for_enumT (K := K)
    (fun i σ H' => ∃ t3 t4 t5 t6 t7 B vs, σ = [some (.ref a), some (.ref r), some (.ref D), t3, t4, t5, t6, t7] ∧ Same B1 B ∧ Hs B [(D, .lst vs)] H' ∧ ImA K B vs ((pth (wt rows l) i).map DN))
    ⟨none, none, none, none, none, B1, acc, rfl, Same.refl _, k1, by
      show ImA K B1 acc ((List.replicate (wt rows l).length []).map DN)
      rw [List.map_replicate, hwl]
      exact im1⟩ (fun i σ H' _ ⟨_, _, _, _, _, B, _, _, s, h, _⟩ => Same.sqt (s.trans h.sub) kt) ?_ ?_⟩
  · rintro i x σ H' Tt hx ⟨t3, t4, t5, t6, t7, B, vs, rfl, sB, hh, im⟩ hT
    have hi : i < l.length := by rw [← kl]; exact (List.getElem?_eq_some_iff.mp hx).1
    have hiw : i < (wt rows l).length := by omega
    obtain ⟨z, e1, iz⟩ := ki.get (i := i) (d := DN (kidsN (wt rows l) i)) (by rw [List.getElem?_map, List.getElem?_range hiw]; rfl)
    rw [hx] at e1
    cases e1
    obtain ⟨sa, rfl, st⟩ := iz.natsI
    have hh := hh.lay (o := .tup [.int (i : Nat), .ref sa]) hT
    refine ⟨_, rfl, sa, _, rfl, Same.sqt (sB.trans hh.sub) st, for_enumT (K := K)
      (fun t σ H' => ∃ t5 t6 t7 B vs, σ = [some (.ref a), some (.ref r), some (.ref D), some (.int (i : Nat)), some (.ref sa), t5, t6, t7] ∧ Same B1 B ∧ Hs B [(D, .lst vs)] H' ∧ ImA K B vs ((stp (wt rows l) i (pth (wt rows l) i) t).map DN))
      ⟨_, _, _, B, vs, rfl, sB, hh, im⟩ (fun i σ H' _ ⟨_, _, _, B, _, _, s, h, _⟩ => Same.sqt (s.trans h.sub) st) ?_ ?_⟩
    · rintro t y σ H2 T2 hy ⟨u5, u6, u7, B2, ws, rfl, sB2, h2, i2⟩ hT2
      obtain ⟨n, hn, rfl⟩ := map_at hy
      obtain ⟨t', ht', rfl⟩ := map_at hn
      have ht : t < aw (wt rows l) i := by
        have := (List.getElem?_eq_some_iff.mp ht').1
        rwa [List.length_range] at this
      rw [List.getElem?_range ht] at ht'
      obtain rfl := Option.some.inj ht'
      have hk := hF.kd_lt hiw ht
      have h2 := h2.lay (o := .tup [.int (t : Nat), .int (kd (wt rows l) i t : Nat)]) hT2
      have wl : ws.length = l.length := by rw [i2.len, List.length_map, stp_len, pth_len, hwl]
      have fd : (stp (wt rows l) i (pth (wt rows l) i) t)[i]? = some ((stp (wt rows l) i (pth (wt rows l) i) t).getD i []) := by
        have : i < (stp (wt rows l) i (pth (wt rows l) i) t).length := by rw [stp_len, pth_len]; exact hiw
        rw [List.getD_eq_getElem?_getD, List.getElem?_eq_getElem this]
        rfl
      obtain ⟨v, ev, iv⟩ := i2.get (i := i) (d := DN ((stp (wt rows l) i (pth (wt rows l) i) t).getD i [])) (by rw [List.getElem?_map, fd]; rfl)
      obtain ⟨pa, rfl, pt⟩ := iv.natsI
      refine ⟨_, rfl, _, rfl, D, _, _, _, rfl, rfl, SqL.of h2.r0, atI_nat ev, pa, _, rfl, .inl (Same.sqt h2.sub pt), _, rfl, ?_, fun p hp => ?_⟩
      · have := stp_le (w := wt rows l) (i := i) (pth_le (wt rows l) i) t i
        rw [List.length_append, vN, List.length_map, sizeLine_eq]
        show _ + 1 ≤ _
        omega
      · have h3 := h2.tup (o := .tup (vN ((stp (wt rows l) i (pth (wt rows l) i) t).getD i []) ++ [.int (t : Nat)])) hp
        have s3 : Same B2 (upd B2 p (.tup (vN ((stp (wt rows l) i (pth (wt rows l) i) t).getD i []) ++ [.int (t : Nat)]))) := up_same (h2.sub.free hp)
        refine ⟨_, rfl, _, rfl, D, _, _, kd (wt rows l) i t, rfl, rfl, h3.r0, ixN_nat (by omega), _, _, _, _, _, rfl, sB2.trans s3, h3.w0, ?_⟩
        rw [stp_succ, List.map_set]
        refine (i2.mono (Stay.of s3)).set (Im.nats (SqT.of ?_))
        rw [upd_same, vN, vN, List.map_append]
        rfl
    · rintro σ H2 ⟨u5, u6, u7, B2, ws, rfl, sB2, h2, i2⟩
      rw [vN, List.length_map, kidsN, List.length_map, List.length_range, ← pth_succ] at i2
      exact ⟨_, _, _, _, _, B2, ws, rfl, sB2, h2, i2⟩
  · rintro σ H' ⟨t3, t4, t5, t6, t7, B, vs, rfl, sB, hh, im⟩
    refine ⟨_, rfl, D, _, rfl, .inl ⟨SqL.of hh.r0, fun q hn => ?_⟩⟩
    rw [kl, ← hwl] at im
    have sq := hh.sub.trans (up_same (o := .tup vs) hn)
    exact hq _ _ (((s0.trans h1).trans sB).trans sq) (.tup (SqT.of upd_same) (im.mono (Stay.of sq)))
/-! swapped -/
def spSwap (K : PySem.W.Frag) : Sp := fun vs H Q _ => ∃ (a r : Addr) (i : Nat) (o : Addr) (rows : List Sy.Row) (l m : List Str), vs = [.ref a, .ref r, .int (i : Nat), .ref o] ∧ BedAt K H a rows ∧ SqT K H r (l.map V.str) ∧ SqT K H o (m.map V.str) ∧ Fo 1 (wt rows l) ∧ i < l.length ∧ l.length ≤ 2000 ∧ m.length ≤ 2000 ∧
  ∀ H' p, Same H H' → SqT K H' p ((l.take i ++ m ++ l.drop (en (wt rows l) i)).map V.str) → Q (.ref p) H'
abbrev N_swap : List Str := ["bed", "row", "place", "other"]
theorem sc_swap : FnScope N_swap N_swap (defScope (top 21)) := ⟨rfl, rfl, rfl, by decide +kernel, rfl, by decide +kernel, by decide +kernel⟩
theorem k_swap (T : Txt K mg) (F : DF K mg "swapped" 21) (c_stop : Cal P w K mg base 2 "span_stop" ["bed", "row", "place"] (spStop K)) : Cal P w K mg base 3 "swapped" N_swap (spSwap K) := by
  refine cal_of F.1 F.2 sc_swap (fun _ _ _ _ _ _ us e => match us, e with | [_, _, _, _], _ => rfl) (fun vs H Q E s => by obtain ⟨_, _, _, _, _, _, _, rfl, _⟩ := s; rfl) ?_
  intro cdv A outer s H vs Q E hr h
  obtain ⟨a, r, i, o, rows, l, m, rfl, hb, hR, hO, hF, hi, hl, hm, hq⟩ := h
  have hu := hu_of hr
  have sc := sc_swap
  have hwl := wt_len rows l
  have he := hF.en_le (i := i) (by omega)
  refine ⟨_, (pss_one (ps_ret (pe_op op_catA (pe_op op_catA (pe_slice sl_tupA (pv 1) po_none (po_some (pv 2))) (pv 3)) (pe_slice sl_tupA (pv 1) (po_some (pe_cal c_stop hr (pa_cons (pv 0) (pa_cons (pv 1) (pa_cons (pv 2) pa_nil))))) po_none)))), ?_⟩
  refine ⟨_, rfl, _, rfl, _, rfl, sl_any (cut_take (by rw [List.length_map]; omega)) hR fun p1 H1 s1 t1 => ?_⟩
  refine ⟨_, rfl, cat_any t1 (Same.sqt s1 hO) (by rw [List.length_take, List.length_map, List.length_map]; omega) fun p2 H2 s2 t2 => ?_⟩
  have s12 := s1.trans s2
  refine ⟨_, rfl, _, rfl, _, rfl, _, rfl, a, r, i, rows, l, rfl, hb.mono (Stay.of s12), Same.sqt s12 hR, hF, hi, _, rfl, ?_⟩
  dsimp only [tNoPart]
  refine sl_any (cut_drop (by rw [List.length_map]; omega)) (Same.sqt s12 hR) fun p3 H3 s3 t3 => ?_
  refine cat_any (Same.sqt s3 t2) t3 (by rw [List.length_append, List.length_take, List.length_map, List.length_map, List.length_drop, List.length_map]; omega) fun p4 H4 s4 t4 => hq _ _ ((s12.trans s3).trans s4) ?_
  rw [List.map_append, List.map_append, List.map_take, List.map_drop]
  exact t4
/-! entry_rank, row_key -/
def spRank (K : PySem.W.Frag) : Sp := fun vs H Q _ => ∃ a x rows, vs = [.ref a, .str x] ∧ BedAt K H a rows ∧ isK rows x = true ∧ Q (.int (rkD rows x : Nat)) H
theorem sc_rank : FnScope ["bed", "entry"] ["bed", "entry"] (defScope (top 22)) := ⟨rfl, rfl, rfl, by decide +kernel, rfl, by decide +kernel, by decide +kernel⟩
theorem k_rank (T : Txt K mg) (F : DF K mg "entry_rank" 22) : Cal P w K mg base 1 "entry_rank" ["bed", "entry"] (spRank K) := by
  refine cal_of F.1 F.2 sc_rank (fun _ _ _ _ _ _ us e => match us, e with | [_, _], _ => rfl) (fun vs H Q E s => by obtain ⟨_, _, _, rfl, _⟩ := s; rfl) ?_
  intro cdv A outer s H vs Q E hr h
  obtain ⟨a, x, rows, rfl, hb, hk, hq⟩ := h
  have hu := hu_of hr
  obtain ⟨n, hn⟩ := rk_isK x 0 rows hk
  obtain ⟨dx, dA, tR, tK, dR, ps, h1, hd, h3, h4, h5, h6⟩ := hb.ex
  refine ⟨_, (pss_cons (ps_if (pt_cmp (pc_din hu (pv 1) (pe_fld (pv 0) rfl)))
        (pss_one (ps_ret (pe_dget hu (pe_fld (pv 0) rfl) (pv 1) (fun _ _ => rfl))))
        pss_nil)
      (pss_cons ps_never (pss_one ps_never))), ?_⟩
  have hv : valV (rkKV 0 rows) (Sum.inr x : Key) = some (.int (n : Nat)) := by rw [valV_rk, hn]; rfl
  refine ⟨_, rfl, _, rfl, a, _, dx, _, _, rfl, h1, T.bed.cl, T.bed.nRk, rfl, dR, _, rfl, DGet.k (k := Sum.inr x) h3, _, rfl, ?_⟩
  rw [hv]
  refine iteT ⟨_, rfl, a, _, dx, _, _, rfl, h1, T.bed.cl, T.bed.nRk, rfl, _, rfl, dR, .int (n : Nat), rfl, ?_, ?_⟩
  · rw [← hv]
    exact DGet.k (k := Sum.inr x) h3
  · rw [rkD, hn] at hq
    exact hq
def spKey (K : PySem.W.Frag) : Sp := fun vs H Q _ => ∃ (a r : Addr) (rows : List Sy.Row) (l : List Str), vs = [.ref a, .ref r] ∧ BedAt K H a rows ∧ SqT K H r (l.map V.str) ∧ (∀ x ∈ l, isK rows x = true) ∧ l.length ≤ 2000 ∧ ∀ H' v, Same H H' → Im K H' v (.tuple [.int (l.length : Nat), DN (l.map (rkD rows))]) → Q v H'
abbrev N_key : List Str := ["bed", "row", "entry"]
theorem sc_key : FnScope N_key ["bed", "row"] (defScope (top 23)) := ⟨rfl, rfl, rfl, by decide +kernel, rfl, by decide +kernel, by decide +kernel⟩
theorem k_key (T : Txt K mg) (F : DF K mg "row_key" 23) (c_entry_rank : Cal P w K mg base 1 "entry_rank" ["bed", "entry"] (spRank K)) : Cal P w K mg base 2 "row_key" ["bed", "row"] (spKey K) := by
  refine cal_of F.1 F.2 sc_key (fun _ _ _ _ _ _ us e => match us, e with | [_, _], _ => rfl) (fun vs H Q E s => by obtain ⟨_, _, _, _, rfl, _⟩ := s; rfl) ?_
  intro cdv A outer s H vs Q E hr h
  obtain ⟨a, r, rows, l, rfl, hb, hR, hk, hl, hq⟩ := h
  have hu := hu_of hr
  have sc := sc_key
  refine ⟨_, (pss_one (ps_ret (pe_tup (pa_cons (pe_callB call_len_seq (by rfl) T.len (by decide +kernel) (pa_cons (pv 1) pa_nil)) (pa_cons (pe_callTy call_tuple_of (by rfl) T.tuple (by decide +kernel) (pa_cons (pe_lc (own := [("entry", 2)]) (g := gName 2) rfl sc.nd (pi_tup (pv 1)) (blkOk_by (N := N_key) (sc := defScope (top 23)) (by decide +kernel)) (fun _ _ _ _ _ => (pg_name (i := 2) sc.nd rfl (Or.inl rfl))) (fun _ _ _ _ _ => pts_nil) (fun _ _ _ _ _ => (pe_cal c_entry_rank hr (pa_cons (pv 0) (pa_cons (pv 2) pa_nil))))) pa_nil)) pa_nil))))), ?_⟩
  refine ⟨_, rfl, r, _, rfl, .inr hR, _, rfl, r, rfl, ⟨_, hR⟩, fun D hD => lc_map (si := 2) (Hs.start H) hD hR (by rw [List.length_map]; omega) (fun i B acc => acc = vN ((l.take i).map (rkD rows))) rfl ?_ ?_⟩
  · rintro i x B' acc H' hx s rfl hh R hR
    obtain ⟨y, hy, rfl⟩ := map_at hx
    have hi : i < l.length := (List.getElem?_eq_some_iff.mp hy).1
    refine ⟨_, rfl, _, rfl, a, y, rows, rfl, hb.mono (Stay.of (s.trans hh.sub)), hk y (List.mem_of_getElem? hy), ?_⟩
    refine hR _ _ B' (Same.refl _) hh ?_
    rw [List.take_succ, hy, List.map_append, vN, vN, List.map_append]
    rfl
  · rintro B' acc H1 s1 rfl hh
    rw [List.length_map, List.take_length] at hh
    refine ⟨D, _, rfl, .inl ⟨SqL.of hh.r0, fun p hp => ⟨(by show 2 ≤ sizeLine; decide), fun q hn => ?_⟩⟩⟩
    have sA := (s1.trans hh.sub).trans (up_same (o := .tup (vN (l.map (rkD rows)))) hp)
    refine hq _ _ (sA.trans (up_same hn)) (.tup (SqT.of upd_same) (.cons ?_ (.cons (Im.nats (Same.sqt (up_same hn) (SqT.of upd_same))) .nil)))
    rw [List.length_map]
    exact .int _
end
end Sy
/-! try: .. except X as e: suite, further clauses behind it that are not reached -/
namespace Sy
open PySem PySem.Spec PyProof.Rows L2
/-- what the body may raise: what the first clause catches -/
def wFst (K : PySem.W.Frag) (c : Value) (i : Nat) (ts : Addr → Value → Option Addr → TS) (D : Ends) : WX := fun cls d σ H => PySem.W.exmOne K cls c = some true ∧ ∀ a, H a = none →
  ts a cls d { nx := fun σ' H' => D.nx (σ'.set i none) H', rt := D.rt, bk := fun σ' H' => D.bk (σ'.set i none) H', ct := fun σ' H' => D.ct (σ'.set i none) H' } (σ.set i (some (.ref a))) H
theorem ps_try_fst {X : Cx} {x n : Str} {c : Value} {i : Nat} {body suite : List Stmt} {b₀ : Stmt} {np pos pos' : Pos} {hds : List ExceptHandler} {tb : WX → TS} {ts : Addr → Value → Option Addr → TS}
    (hs : X.stack = X.env :: X.outer) (hf : X.env.frame = some X.env.locals) (hN : X.N.Nodup) (hi : X.N[i]? = some n) (hln : X.env.kindOf n = some .local) (hc : Names X x c)
    (hb : ∀ (W : WX) (pn : List (Addr × Obj)) (xe : Value → Shared → Prop), Takes (X.tr pn xe) W → PassesOwn (model X.prog X.w) X.A X.env xe → PSs (X.tr pn xe) body (tb W))
    (hsu : ∀ (a : Addr) (oe : Obj) (cls : Value) (d : Option Addr) (pn : List (Addr × Obj)), Zc cls d oe → (∃ vs, oe.data = .fields vs) → PSs (X.suite a ((a, oe) :: pn)) (b₀ :: suite) (ts a cls d)) :
    PS X (.Try body (.ExceptHandler (some (.Name x np)) (some n) (b₀ :: suite) pos' :: hds) [] [] pos) (fun D σ H => tb (wFst X.K c i ts D) D σ H) := by
  constructor
  intro pins s σ H D I h
  have ok := I.ok
  have fr0 : X.A.frames = some (X.env :: X.outer) := by rw [ok.frames, hs]
  apply wpAny_Try_except
  refine wpAny_mono ((hb (wFst X.K c i ts D) (X.pn ++ pins) (fun e s₁ => wpAny (model X.prog X.w) X.A (noteFrame e X.env) (fun _ s₂ => wpAny (model X.prog X.w) X.A (setFlight e none) (fun _ s₃ =>
    wpAny (model X.prog X.w) X.A (handleBy e X.env (.ExceptHandler (some (.Name x np)) (some n) (b₀ :: suite) pos' :: hds)) (SP X pins D) X.xe s₃) X.xe s₂) X.xe s₁) (fun u s' q => ?cat) PassesOwn.looking).run [] s σ H D (I.toTry _) h) (fun f s1 q => ?fin) (fun _ _ q => q)
  case fin =>
    cases f
    case next =>
      obtain ⟨_, _, J, z⟩ := q
      exact wpAny_execs_nil ⟨_, _, J.ofTry ok, z⟩
    case brk =>
      obtain ⟨_, _, J, z⟩ := q
      exact ⟨_, _, J.ofTry ok, z⟩
    case cont =>
      obtain ⟨_, _, J, z⟩ := q
      exact ⟨_, _, J.ofTry ok, z⟩
    case ret =>
      obtain ⟨_, _, _, J, rv, z⟩ := q
      exact ⟨_, _, _, J.ofTry ok, rv, z⟩
  case cat =>
    obtain ⟨a, B, sI, pins', σ1, H1, cls, d, rfl, J', nb, up, sky, na, os, ag, hcat, hgo⟩ := q
    have J : Inv X pins σ1 H1 sI := J'.ofTry ok
    rw [hs] at sky
    show wpAny (model X.prog X.w) X.A (noteFrame (.ref a) X.env) _ _ _
    refine Sky.land Zc.steady fr0 hf sky fun h3 fl up3 => ?_
    have J3 : Inv X pins σ1 H1 { s' with heap := h3 } := J.landed nb fl.1 (up.trans up3) os ag
    obtain ⟨o3, v3, g3, z3, d3⟩ := fl.there
    have off : a ∉ frs (X.env :: X.outer) := fun hm => by
      obtain ⟨_, _, e', no⟩ := fl.2.2.1.mem hm
      rw [g3] at e'
      cases e'
      exact no _ d3
    have nL : a ≠ X.env.locals := fun z => off (List.mem_filterMap.mpr ⟨X.env, List.mem_cons_self, by rw [hf, z]⟩)
    have nF : a ∉ X.fs := fun hm => by
      obtain ⟨e, he, z⟩ := List.mem_filterMap.mp hm
      exact off (List.mem_filterMap.mpr ⟨e, List.mem_cons_of_mem _ he, z⟩)
    have S3 := J3.suite g3 d3 na nL nF
    refine wpAny_handleBy_cons (codeAny_handlers_test ?_) (by intro z; cases z)
    have LT : PySem.W.Looks (model X.prog X.w) h3 (typeOf (.ref a)) cls := fun _ _ _ _ k z => wpAny_typeOf_ref (k _ _ g3) (by rw [z3.1]; exact z)
    have LM := PySem.W.exm_one (M := model X.prog X.w) J3.kIn LT hcat
    have go2 : ∀ {Q E : Value → Shared → Prop}, Q c { s' with heap := h3 } → wpAny (model X.prog X.w) (X.A.mark (some (.ref a))) (eval (.Name x np) X.env) Q E { s' with heap := h3 } := fun {Q E} z => by
      rcases hc with ⟨g, dbg, m | ⟨m, v, nn⟩⟩
      · exact ld_glob (X := X.suite a ((a, o3) :: (X.pn ++ pins))) S3 g m z dbg
      · exact ld_blt (X := X.suite a ((a, o3) :: (X.pn ++ pins))) S3 g m v z nn dbg
    refine go2 (LM.here ?_)
    refine codeAny_handlers_suite_as ?_
    refine HandSPX.lands_againZ fl fun h4 fl4 up4 => ?_
    have J4 : Inv X pins σ1 H1 { s' with heap := h4 } := J.landed nb fl4.1 ((up.trans up3).trans up4) os ag
    obtain ⟨o4, v4, g4, z4, d4⟩ := fl4.there
    refine store_ok (X := X.suite a ((a, o4) :: (X.pn ++ pins))) (v := .ref a) (J4.suite g4 d4 na nL nF) hN hi (.inl hln) rfl (fun s5 S5 => ?_) (.inr hln)
    refine wpAny_mono ((hsu a o4 cls d (X.pn ++ pins) z4 ⟨_, d4⟩).run [] s5 _ H1 _ S5 (hgo a na)) (fun f s6 q => ?_) (fun _ _ z => z.elim)
    have shut : ∀ {σ6 : L2.St} {H6 : Hp} {R : Shared → Prop}, Inv (X.suite a ((a, o4) :: (X.pn ++ pins))) [] σ6 H6 s6 → (∀ s7, Inv X pins (σ6.set i none) H6 s7 → R s7) →
        wpAny (model X.prog X.w) X.A (do bindName X.env n .none; unbindBehindTheSuite X.env n pos') (fun _ s7 => R s7) X.xe s6 := fun S6 k => gone_ok (S6.unsuite ok) hN hi hln k
    cases f
    case next =>
      obtain ⟨_, _, S6, z⟩ := q
      exact shut S6 fun _ J7 => ⟨_, _, J7, z⟩
    case brk =>
      obtain ⟨_, _, S6, z⟩ := q
      exact shut S6 fun _ J7 => ⟨_, _, J7, z⟩
    case cont =>
      obtain ⟨_, _, S6, z⟩ := q
      exact shut S6 fun _ J7 => ⟨_, _, J7, z⟩
    case ret =>
      obtain ⟨_, _, _, S6, rv, z⟩ := q
      exact shut S6 fun _ J7 => ⟨_, _, _, J7, rv, z⟩
end Sy
/-! own errors: their __init__, raising them -/
namespace Sy
open PySem PySem.Spec PyProof.Rows L2
def clb (i j : Nat) : Stmt := match top i with
  | .ClassDef _ _ _ b _ _ _ _ _ _ _ => b.getD j (.Pass ⟨0, 0, 0, 0⟩)
  | s => s
abbrev iniA (K : PySem.W.Frag) (x : Str) : Addr := He.ma K (He.ga K x) "__init__"
/-- the class x, its __init__ by its row, its fields -/
structure ErrB (P : Program) (K : PySem.W.Frag) (mg : Str → Option Value) (x q : Str) (st : Stmt) (fs : List Str) : Prop where
  sup : ∃ (cc cd : Addr) (kV doc pm : Value) (an : Option Addr) (ct : Value), SupF P K (He.ga K x) (iniA K x) cc cd q (defArgs st) (defBody st) (defScope st) (PySem.W.fnX "__init__" q (defArgs st) (defBody st) (defScope st) [("__class__", cc)] .none kV doc pm an (.ref cd) ct)
  iC : PySem.W.findIn K (.ref (He.ga K x)) "__init__" = some (some (.ref (iniA K x)))
  tI : PySem.W.typeIn K (.ref (iniA K x)) = some (.type "function")
  at_ : mg x = some (.ref (He.ga K x))
  ex : PySem.W.exmOne K (.ref (He.ga K x)) (.ref (He.ga K x)) = some true
  xf : XfC K (He.ga K x)
  no : ∀ f ∈ fs, PySem.W.findIn K (.ref (He.ga K x)) f = some none
  mS : mg "super" = none
  top : (P.main.scope.names.lookup ("super" : Str)).isSome = false
/-- raised: a new dict with these fields, beside what stood -/
def Ra (K : PySem.W.Frag) (x : Str) (fs : List (Str × V)) (H : Hp) (E : XK) : Prop := ∀ d H', Same H H' → H' d = some (.xd fs) → E (.ref (He.ga K x)) (some d) H'
def spInit (C : Addr) (ok : List V → Hp → List (Str × V) → Prop) : Sp := fun vs H Q _ => ∃ a us fs, vs = .ref a :: us ∧ ok us H fs ∧ H a = some (exo a C none) ∧
  ∀ dx H', H dx = none → dx ≠ a → H' a = some (exo a C (some dx)) → H' dx = some (exd dx fs) → (∀ b, b ≠ a → b ≠ dx → H' b = H b) → Q .non H'
theorem mk_ra {K : PySem.W.Frag} {x : Str} {ok : List V → Hp → List (Str × V) → Prop} {us : List V} {H : Hp} {fs : List (Str × V)} {E : XK} (hok : ∀ H', Same H H' → ok us H' fs) (hl : us.length ≤ 1000) (h : Ra K x fs H E) :
    us.length ≤ 1000 ∧ ∀ a, H a = none → spInit (He.ga K x) ok (.ref a :: (us ++ [])) (upd H a (exo a (He.ga K x) none)) (fun v H2 => v = .non ∧ ∃ (d : Addr) (fs : List (Str × V)), H2 a = some (exo a (He.ga K x) (some d)) ∧ H2 d = some (exd d fs) ∧ H d = none ∧ E (.ref (He.ga K x)) (some d) (upd (L2.del H2 a) d (.xd fs))) (fun _ _ _ => False) := by
  refine ⟨hl, fun a ha => ⟨a, us, fs, by rw [List.append_nil], hok _ (up_same ha), upd_same, fun dx H' h1 h2 h3 h4 h5 => ⟨rfl, dx, fs, h3, h4, by rw [upd_ne h2] at h1; exact h1, h dx _ (fun b o e => ?_) upd_same⟩⟩⟩
  have hb : b ≠ a := fun z => by rw [z, ha] at e; cases e
  have hd : H dx = none := by rw [upd_ne h2] at h1; exact h1
  have hb2 : b ≠ dx := fun z => by rw [z, hd] at e; cases e
  rw [upd_ne hb2, del_ne hb, h5 b hb hb2, upd_ne hb]
  exact e
section
variable {P : Program} {w : World} {K : PySem.W.Frag} {mg : Str → Option Value} {base : Heap}
/-! TooMany(what, limit) -/
def okTM : List V → Hp → List (Str × V) → Prop := fun us _ fs => ∃ (x : Str) (n : Int), us = [.str x, .int n] ∧ x.length ≤ 100 ∧ n.natAbs.log2 < 1920 ∧ (toString n : Str).length ≤ 1000 ∧ fs = ([("limit", V.int n), ("what", V.str x)] : List (Str × V))
abbrev N_tm : List Str := ["self", "what", "limit", "__class__"]
theorem sc_tm : NdefX.NScope N_tm ["self", "what", "limit"] ["__class__"] (defScope (clb 6 0)) := ⟨rfl, rfl, rfl, by decide +kernel, rfl, by decide +kernel, by decide +kernel, by decide +kernel, by decide +kernel⟩
theorem i_tm (T : ErrB P K mg "TooMany" "TooMany.__init__" (clb 6 0) ["what", "limit"]) : ∃ fd, FnOk P w K mg base CX0 1 (iniA K "TooMany") fd ["self", "what", "limit"] (spInit (He.ga K "TooMany") okTM) ∧ L2.Binds K fd ["self", "what", "limit"] [] := by
  obtain ⟨cc, cd, kV, doc, pm, an, ct, S⟩ := T.sup
  refine ⟨_, fn_sup (k := 0) S sc_tm rfl rfl rfl rfl rfl T.mS T.top (fun vs H Q E s => by obtain ⟨_, _, _, rfl, ⟨_, _, rfl, _⟩, _⟩ := s; rfl) (fun _ => rfl) (fun _ => rfl) (fun _ _ => rfl) ?_, .all fun us e => match us, e with | [_, _, _], _ => rfl⟩
  intro A outer s H vs Q E hr h
  obtain ⟨a, us, fs, rfl, ⟨x, n, rfl, hx, hn, hn2, rfl⟩, ha, hq⟩ := h
  refine ⟨_, _, pa_cons (pe_joined (.cons pe_str (.cons (pe_fmt (pv 1)) (.cons pe_str (.cons (pe_fmt (pv 2)) .nil))))) pa_nil, pss_cons (ps_ost (pv 0) (pv 1)) (pss_one (ps_ost (pv 0) (pv 2))), a, _, rfl, ha, ?_⟩
  have L1 : ((Str.empty : Str) ++ ("too many " : Str)).length = 9 := by decide +kernel
  have L2' : (": the limit is " : Str).length = 15 := by decide +kernel
  refine ⟨_, rfl, by rw [L1]; decide, _, rfl, .inl ⟨x, rfl, by rw [sizeLine_eq]; omega, _, rfl, ?_, _, rfl, ?_, _, rfl, .inr ⟨n, rfl, hn, _, rfl, ?_, (by show 1 ≤ 1000; decide), ha, _, rfl, _, rfl, a, _, rfl, S.oex, T.no _ (by decide), .inl ⟨ha, fun dx h1 h2 => ⟨_, rfl, _, rfl, a, _, rfl, S.oex, T.no _ (by decide), .inr ⟨dx, _, upd_same, by rw [upd_ne h2]; exact upd_same, (by show 1 ≤ 900; decide), hq dx _ h1 h2 ?_ upd_same ?_⟩⟩⟩⟩⟩⟩
  · rw [PySem.Str.length_append, L1, sizeLine_eq]
    omega
  · rw [PySem.Str.length_append, PySem.Str.length_append, L1, L2', sizeLine_eq]
    omega
  · rw [PySem.Str.length_append, PySem.Str.length_append, PySem.Str.length_append, L1, L2', sizeLine_eq]
    omega
  · rw [upd_ne h2.symm]
    exact upd_same
  · intro b hb hb2
    rw [upd_ne hb2, upd_ne hb, upd_ne hb2]
/-- raise TooMany(.., ..) -/
theorem mk_tm {X : Cx} {k : Nat} {p pos : Pos} {e1 e2 : Expr} {ta : TA} (T : ErrB X.prog X.K X.mg "TooMany" "TooMany.__init__" (clb 6 0) ["what", "limit"]) (hr : Room k X.A) (hg : Gl X "TooMany") (ha : PA X [e1, e2] ta)
    (hx : Passes CX0 X (fun _ _ _ => False)) (hk : 2 ≤ k := by decide) (he : starEach [e1, e2] X.env = (false, eval e1 X.env) :: starEach [e2] X.env := by rfl) (hpl : (backTo pos (starEach [e2] X.env)).any (·.1) = false := by rfl) :
    PMk X (.Call (.Name "TooMany" p) [e1, e2] [] pos) (tMkO (He.ga X.K "TooMany") (spInit (He.ga X.K "TooMany") okTM) [] ta) := by
  obtain ⟨fd, F, B⟩ := i_tm (w := X.w) (base := X.base) T
  obtain ⟨cc, cd, kV, doc, pm, an, ct, S⟩ := T.sup
  exact pmk_oex S.oex T.iC T.tI F (hr.mono hk) B .nil hx hg T.at_ ha rfl he hpl
/-! NoPath(path) -/
def okNP (K : PySem.W.Frag) : List V → Hp → List (Str × V) → Prop := fun us H fs => ∃ (p : Addr) (l : List Int), us = [.ref p] ∧ SqT K H p (l.map V.int) ∧ (∀ y ∈ l, y.natAbs.log2 < 1920) ∧ l.length ≤ 5000 ∧ fs = ([("path", V.ref p)] : List (Str × V))
abbrev N_np : List Str := ["self", "path", "__class__"]
theorem sc_np : NdefX.NScope N_np ["self", "path"] ["__class__"] (defScope (clb 8 0)) := ⟨rfl, rfl, rfl, by decide +kernel, rfl, by decide +kernel, by decide +kernel, by decide +kernel, by decide +kernel⟩
theorem i_np (T : ErrB P K mg "NoPath" "NoPath.__init__" (clb 8 0) ["path"]) : ∃ fd, FnOk P w K mg base CX0 1 (iniA K "NoPath") fd ["self", "path"] (spInit (He.ga K "NoPath") (okNP K)) ∧ L2.Binds K fd ["self", "path"] [] := by
  obtain ⟨cc, cd, kV, doc, pm, an, ct, S⟩ := T.sup
  refine ⟨_, fn_sup (k := 0) S sc_np rfl rfl rfl rfl rfl T.mS T.top (fun vs H Q E s => by obtain ⟨_, _, _, rfl, ⟨_, _, rfl, _⟩, _⟩ := s; rfl) (fun _ => rfl) (fun _ => rfl) (fun _ _ => rfl) ?_, .all fun us e => match us, e with | [_, _], _ => rfl⟩
  intro A outer s H vs Q E hr h
  obtain ⟨a, us, fs, rfl, ⟨p, l, rfl, hp, hl, hz, rfl⟩, ha, hq⟩ := h
  refine ⟨_, _, pa_cons (pe_joined (.cons pe_str (.cons (pe_fmtI hr (pv 1)) .nil))) pa_nil, pss_one (ps_ost (pv 0) (pv 1)), a, _, rfl, ha, ?_⟩
  have L1 : ((Str.empty : Str) ++ ("no knot at the path " : Str)).length = 20 := by decide +kernel
  refine ⟨_, rfl, by rw [L1]; decide, _, rfl, p, l, rfl, hp, hl, hz, fun m hm => ⟨_, rfl, ?_, (by show 1 ≤ 1000; decide), ha, _, rfl, _, rfl, a, _, rfl, S.oex, T.no _ (by decide), .inl ⟨ha, fun dx h1 h2 => hq dx _ h1 h2 upd_same ?_ ?_⟩⟩⟩
  · rw [PySem.Str.length_append, L1, sizeLine_eq]
    omega
  · rw [upd_ne h2]
    exact upd_same
  · intro b hb hb2
    rw [upd_ne hb, upd_ne hb2]
theorem mk_np {X : Cx} {k : Nat} {p pos : Pos} {e1 : Expr} {ta : TA} (T : ErrB X.prog X.K X.mg "NoPath" "NoPath.__init__" (clb 8 0) ["path"]) (hr : Room k X.A) (hg : Gl X "NoPath") (ha : PA X [e1] ta)
    (hx : Passes CX0 X (fun _ _ _ => False)) (hk : 2 ≤ k := by decide) (he : starEach [e1] X.env = (false, eval e1 X.env) :: starEach [] X.env := by rfl) (hpl : (backTo pos (starEach [] X.env)).any (·.1) = false := by rfl) :
    PMk X (.Call (.Name "NoPath" p) [e1] [] pos) (tMkO (He.ga X.K "NoPath") (spInit (He.ga X.K "NoPath") (okNP X.K)) [] ta) := by
  obtain ⟨fd, F, B⟩ := i_np (w := X.w) (base := X.base) T
  obtain ⟨cc, cd, kV, doc, pm, an, ct, S⟩ := T.sup
  exact pmk_oex S.oex T.iC T.tI F (hr.mono hk) B .nil hx hg T.at_ ha rfl he hpl
/-! check_count -/
def spCount (K : PySem.W.Frag) : Sp := fun vs H Q E => ∃ n : Int, vs = [.int n] ∧ (n ≤ 2000 → Q .non H) ∧ (2000 < n → Ra K "TooMany" [("limit", .int 2000), ("what", .str "knots")] H E)
theorem sc_count : FnScope ["number"] ["number"] (defScope (top 13)) := ⟨rfl, rfl, rfl, by decide +kernel, rfl, by decide +kernel, by decide +kernel⟩
theorem k_count (T : Txt K mg) (TM : ErrB P K mg "TooMany" "TooMany.__init__" (clb 6 0) ["what", "limit"]) (F : DF K mg "check_count" 13) : Cal P w K mg base 3 "check_count" ["number"] (spCount K) := by
  refine cal_of F.1 F.2 sc_count (fun _ _ _ _ _ _ us e => match us, e with | [_], _ => rfl) (fun vs H Q E s => by obtain ⟨_, rfl, _⟩ := s; rfl) ?_
  intro cdv A outer s H vs Q E hr h
  obtain ⟨n, rfl, h1, h2⟩ := h
  have sc := sc_count
  refine ⟨_, (pss_one (ps_if (pt_cmpR op_gt (pv 0) (pe_gint rfl T.MOST_KNOTS) (nomark _))
        (pss_one (ps_raise rfl (takes_of rfl rfl rfl rfl) (mk_tm TM hr rfl (pa_cons pe_str (pa_cons (pe_gint rfl T.MOST_KNOTS) pa_nil)) pass0)))
        pss_nil)), ?_⟩
  refine ⟨_, rfl, _, _, rfl, rfl, _, rfl, if_dec (fun c => ?_) (fun c => ?_)⟩
  · exact mk_ra (fun _ _ => ⟨_, _, rfl, by decide +kernel, by decide +kernel, by decide +kernel, rfl⟩) (by show 2 ≤ 1000; decide) (h2 c)
  · exact h1 (by omega)
end
end Sy
namespace Sy
open PySem PySem.Spec PyProof.Rows L2
/-- where a path of any numbers leads -/
def pz (w : List Nat) : Nat → List Int → Option Nat
  | i, [] => some i
  | i, z :: zs => if 0 ≤ z ∧ z < (aw w i : Nat) then pz w (kd w i z.toNat) zs else none
/-- a plant of the bed -/
structure Pln (rows : List Sy.Row) (l : List Str) : Prop where
  fo : Fo 1 (wt rows l)
  kn : ∀ x ∈ l, isK rows x = true
  le : l.length ≤ 2000
theorem fa_ok {rows : List Sy.Row} {lv : List Str} : ∀ {l : List Str} {m i : Nat}, Fo m (wt rows l) → (∀ x ∈ l, isK rows x = true) → fa rows lv m i l = -1
  | [], 0, i, _, _ => rfl
  | x :: l, m + 1, i, h, k => by
    have h : Fo (m + ar rows x) (wt rows l) := h
    rw [fa, if_neg (by omega), if_neg (fun z => by rw [k x List.mem_cons_self] at z; cases z.1)]
    exact fa_ok (m := m + 1 - 1 + ar rows x) h fun y hy => k y (List.mem_cons_of_mem _ hy)
theorem kidsN_len (w : List Nat) (i : Nat) : (kidsN w i).length = aw w i := by rw [kidsN, List.length_map, List.length_range]
theorem kidsN_at {w : List Nat} {i k : Nat} (h : k < aw w i) : (kidsN w i)[k]? = some (kd w i k) := by rw [kidsN, List.getElem?_map, List.getElem?_range h]; rfl
theorem Ra.mono {K : PySem.W.Frag} {x : Str} {fs : List (Str × V)} {H H1 : Hp} {E : XK} (h : Ra K x fs H E) (s : Same H H1) : Ra K x fs H1 E := fun d H' s' e => h d H' (s.trans s') e
section
variable {K : PySem.W.Frag} {H : Hp} {v : V} {w : List Nat} {i : Nat}
/-- kids' answer, by its places -/
theorem kids_get (h : Im K H v (dKids w)) : ∃ a ks, v = .ref a ∧ SqT K H a ks ∧ ks.length = w.length ∧ ∀ i, i < w.length → ∃ b, ks[i]? = some (.ref b) ∧ SqT K H b (vN (kidsN w i)) := by
  obtain ⟨a, ks, rfl, h1, h2⟩ := h.tupI
  refine ⟨a, ks, rfl, h1, by rw [h2.len, List.length_map, List.length_range], fun i hi => ?_⟩
  obtain ⟨z, e, iz⟩ := h2.get (i := i) (d := DN (kidsN w i)) (by rw [List.getElem?_map, List.getElem?_range hi]; rfl)
  obtain ⟨b, rfl, t⟩ := iz.natsI
  exact ⟨b, e, t⟩
end
section
variable {P : Program} {w : World} {K : PySem.W.Frag} {mg : Str → Option Value} {base : Heap}
/-! place_of -/
def spPlace (K : PySem.W.Frag) : Sp := fun vs H Q E => ∃ a r p rows l zs, vs = [.ref a, .ref r, .ref p] ∧ BedAt K H a rows ∧ SqT K H r (l.map V.str) ∧ SqT K H p (zs.map V.int) ∧ Fo 1 (wt rows l) ∧ l.length ≤ 2000 ∧ zs.length ≤ 5000 ∧ (∀ y ∈ zs, y.natAbs.log2 < 1920) ∧
  (∀ i, pz (wt rows l) 0 zs = some i → ∀ H', Same H H' → Q (.int (i : Nat)) H') ∧ (pz (wt rows l) 0 zs = none → Ra K "NoPath" [("path", .ref p)] H E)
abbrev N_place : List Str := ["bed", "row", "path", "starts", "place", "branch"]
theorem sc_place : FnScope N_place ["bed", "row", "path"] (defScope (top 20)) := ⟨rfl, rfl, rfl, by decide +kernel, rfl, by decide +kernel, by decide +kernel⟩
theorem k_place (T : Txt K mg) (NP : ErrB P K mg "NoPath" "NoPath.__init__" (clb 8 0) ["path"]) (F : DF K mg "place_of" 20) (c_kids : Cal P w K mg base 3 "kids" ["bed", "row"] (spKids K)) : Cal P w K mg base 4 "place_of" ["bed", "row", "path"] (spPlace K) := by
  refine cal_of F.1 F.2 sc_place (fun _ _ _ _ _ _ us e => match us, e with | [_, _, _], _ => rfl) (fun vs H Q E s => by obtain ⟨_, _, _, _, _, _, rfl, _⟩ := s; rfl) ?_
  intro cdv A outer s H vs Q E hr h
  obtain ⟨a, r, p, rows, l, zs, rfl, hb, hR, hP, hF, hl, hz, hlg, hq, hE⟩ := h
  have hu := hu_of hr
  have sc := sc_place
  have hwl := wt_len rows l
  refine ⟨_, (pss_cons (ps_set (i := 3) sc.nd rfl (Or.inl rfl) (pe_cal c_kids hr (pa_cons (pv 0) (pa_cons (pv 1) pa_nil))))
      (pss_cons (ps_set (i := 4) sc.nd rfl (Or.inl rfl) pe_int)
      (pss_cons (ps_for (passes_of rfl) rfl (pi_tup (pv 2)) (pg_name (i := 5) sc.nd rfl (Or.inl rfl))
        (pss_cons (ps_if (PW.pt (pw_or (pt_cmpR op_lt (pv 5) pe_int (nomark _)) (pw_or1 (pt_cmpR op_ge (pv 5) (pe_callB call_len_seq (by rfl) T.len (by decide +kernel) (pa_cons (pe_ix ix_tup (pv 3) (pv 4) (fun _ _ => rfl)) pa_nil)) (nomark _)))))
          (pss_one (ps_raise rfl (takes_of rfl rfl rfl rfl) (mk_np NP hr rfl (pa_cons (pv 2) pa_nil) pass0)))
          pss_nil)
        (pss_one (ps_set (i := 4) sc.nd rfl (Or.inl rfl) (pe_ix ix_tup (pe_ix ix_tup (pv 3) (pv 4) (fun _ _ => rfl)) (pv 5) (fun _ _ => rfl))))))
      (pss_one (ps_ret (pv 4)))))), ?_⟩
  refine ⟨_, rfl, _, rfl, a, r, rows, l, rfl, hb, hR, hF, hl, fun H1 v s1 hv => ?_⟩
  obtain ⟨ka, ks, rfl, kt, kl, kg⟩ := kids_get hv
  have hP1 := Same.sqt s1 hP
  refine ⟨_, rfl, p, rfl, ⟨_, hP1⟩, for_tup (K := K) (a := p) (xs := zs.map V.int) (fun t σ H' => ∃ (i : Nat) (z : Int) (s5 : Option V), σ = [some (.ref a), some (.ref r), some (.ref p), some (.ref ka), some (.int z), s5] ∧ z = (i : Nat) ∧ H' = H1 ∧ i < (wt rows l).length ∧ pz (wt rows l) i (zs.drop t) = pz (wt rows l) 0 zs)
    ⟨0, 0, none, rfl, rfl, rfl, hF.pos, by rw [List.drop_zero]⟩ (fun _ _ _ _ ⟨_, _, _, _, _, e, _⟩ => e ▸ hP1) ?_ ?_⟩
  · rintro t x σ H' hx ⟨i, _, s5, rfl, rfl, rfl, hi, e⟩
    obtain ⟨z, hz', rfl⟩ := map_at hx
    rw [drop_of hz', pz] at e
    obtain ⟨b, e1, tb⟩ := kg i hi
    have stop : ¬ (0 ≤ z ∧ z < (aw (wt rows l) i : Nat)) → Ra K "NoPath" [("path", .ref p)] H' E := fun c => by
      rw [if_neg c] at e
      exact (hE e.symm).mono s1
    refine ⟨_, rfl, _, _, rfl, rfl, _, rfl, if_dec (fun c => ?_) (fun c => ?_)⟩
    · refine iteT ⟨_, rfl, mk_ra (fun H2 s2 => ⟨p, zs, rfl, Same.sqt s2 hP1, hlg, hz, rfl⟩) (by show 1 ≤ 1000; decide) (stop fun q => by omega)⟩
    · refine ⟨_, rfl, _, rfl, _, rfl, ka, _, _, _, rfl, rfl, kt, atI_nat e1, b, _, rfl, .inr tb, _, _, rfl, rfl, _, rfl, if_dec (fun c2 => ?_) (fun c2 => ?_)⟩
      · rw [vN, List.length_map, kidsN_len] at c2
        refine ⟨_, rfl, mk_ra (fun H2 s2 => ⟨p, zs, rfl, Same.sqt s2 hP1, hlg, hz, rfl⟩) (by show 1 ≤ 1000; decide) (stop fun q => by omega)⟩
      · rw [vN, List.length_map, kidsN_len] at c2
        have hk : z.toNat < aw (wt rows l) i := by omega
        rw [if_pos ⟨by omega, by omega⟩] at e
        have ez : ((z.toNat : Nat) : Int) = z := by omega
        refine ⟨_, rfl, _, rfl, ka, _, _, _, rfl, rfl, kt, atI_nat e1, _, rfl, b, _, _, _, rfl, rfl, tb, by rw [← ez]; exact atI_nat (vN_at (kidsN_at hk)), kd (wt rows l) i z.toNat, _, _, rfl, rfl, rfl, hF.kd_lt hi hk, e⟩
  · rintro σ H' ⟨i, _, s5, rfl, rfl, rfl, hi, e⟩
    rw [List.length_map, List.drop_length, pz] at e
    exact ⟨_, rfl, hq i e.symm _ s1⟩
/-! check_plant -/
def spCheck (K : PySem.W.Frag) : Sp := fun vs H Q _ => ∃ a r rows l, vs = [.ref a, .ref r] ∧ BedAt K H a rows ∧ SqT K H r (l.map V.str) ∧ Pln rows l ∧ ∀ H', Same H H' → Q .non H'
abbrev N_check : List Str := ["bed", "plant", "place"]
theorem sc_check : FnScope N_check ["bed", "plant"] (defScope (top 25)) := ⟨rfl, rfl, rfl, by decide +kernel, rfl, by decide +kernel, by decide +kernel⟩
theorem k_check (T : Txt K mg) (F : DF K mg "check_plant" 25) (c_check_count : Cal P w K mg base 3 "check_count" ["number"] (spCount K)) (c_fault_among : Cal P w K mg base 2 "fault_among" ["bed", "row", "leaves"] (spFault K)) : Cal P w K mg base 4 "check_plant" ["bed", "plant"] (spCheck K) := by
  refine cal_of F.1 F.2 sc_check (fun _ _ _ _ _ _ us e => match us, e with | [_, _], _ => rfl) (fun vs H Q E s => by obtain ⟨_, _, _, _, rfl, _⟩ := s; rfl) ?_
  intro cdv A outer s H vs Q E hr h
  obtain ⟨a, r, rows, l, rfl, hb, hR, hp, hq⟩ := h
  have sc := sc_check
  refine ⟨_, (pss_cons (ps_expr (pe_calX c_check_count hr (takes_of rfl rfl rfl rfl) (pa_cons (pe_callB call_len_seq (by rfl) T.len (by decide +kernel) (pa_cons (pv 1) pa_nil)) pa_nil)))
      (pss_cons (ps_set (i := 2) sc.nd rfl (Or.inl rfl) (pe_cal c_fault_among hr (pa_cons (pv 0) (pa_cons (pv 1) (pa_cons (pe_tup pa_nil) pa_nil)))))
      (pss_one (ps_if (pt_cmpR op_ge (pv 2) pe_int (nomark _))
        (pss_one ps_never)
        pss_nil)))), ?_⟩
  have hl := hp.le
  refine ⟨_, rfl, r, _, rfl, .inr hR, _, rfl, fun _ => ?_, fun c => by rw [List.length_map] at c; omega⟩
  refine ⟨_, rfl, _, rfl, by decide, fun t ht => ?_⟩
  have s1 := up_same (o := .tup []) ht
  refine ⟨a, r, t, rows, l, [], rfl, hb.mono (Stay.of s1), Same.sqt s1 hR, SqT.of upd_same, fun H' s2 => ?_⟩
  rw [fa_ok hp.fo hp.kn]
  exact ⟨_, rfl, _, _, rfl, rfl, _, rfl, iteF (hq _ (s1.trans s2))⟩
/-! plant_key, paths -/
def spKeyP (K : PySem.W.Frag) : Sp := fun vs H Q _ => ∃ (a r : Addr) (rows : List Sy.Row) (l : List Str), vs = [.ref a, .ref r] ∧ BedAt K H a rows ∧ SqT K H r (l.map V.str) ∧ Pln rows l ∧ ∀ H' v, Same H H' → Im K H' v (.tuple [.int (l.length : Nat), DN (l.map (rkD rows))]) → Q v H'
theorem sc_keyP : FnScope ["bed", "plant"] ["bed", "plant"] (defScope (top 26)) := ⟨rfl, rfl, rfl, by decide +kernel, rfl, by decide +kernel, by decide +kernel⟩
theorem k_keyP (T : Txt K mg) (F : DF K mg "plant_key" 26) (c_check_plant : Cal P w K mg base 4 "check_plant" ["bed", "plant"] (spCheck K)) (c_row_key : Cal P w K mg base 2 "row_key" ["bed", "row"] (spKey K)) : Cal P w K mg base 5 "plant_key" ["bed", "plant"] (spKeyP K) := by
  refine cal_of F.1 F.2 sc_keyP (fun _ _ _ _ _ _ us e => match us, e with | [_, _], _ => rfl) (fun vs H Q E s => by obtain ⟨_, _, _, _, rfl, _⟩ := s; rfl) ?_
  intro cdv A outer s H vs Q E hr h
  obtain ⟨a, r, rows, l, rfl, hb, hR, hp, hq⟩ := h
  refine ⟨_, (pss_cons (ps_expr (pe_calX c_check_plant hr (takes_of rfl rfl rfl rfl) (pa_cons (pv 0) (pa_cons (pv 1) pa_nil))))
      (pss_one (ps_ret (pe_cal c_row_key hr (pa_cons (pv 0) (pa_cons (pv 1) pa_nil)))))), ?_⟩
  exact ⟨_, rfl, _, rfl, a, r, rows, l, rfl, hb, hR, hp, fun H1 s1 => ⟨_, rfl, _, rfl, a, r, rows, l, rfl, hb.mono (Stay.of s1), Same.sqt s1 hR, hp.kn, hp.le, fun H2 v s2 hv => hq _ v (s1.trans s2) hv⟩⟩
def spPathsP (K : PySem.W.Frag) : Sp := fun vs H Q _ => ∃ (a r : Addr) (rows : List Sy.Row) (l : List Str), vs = [.ref a, .ref r] ∧ BedAt K H a rows ∧ SqT K H r (l.map V.str) ∧ Pln rows l ∧ ∀ H' v, Same H H' → Im K H' v (dPaths (wt rows l)) → Q v H'
theorem sc_pathsP : FnScope ["bed", "plant"] ["bed", "plant"] (defScope (top 31)) := ⟨rfl, rfl, rfl, by decide +kernel, rfl, by decide +kernel, by decide +kernel⟩
theorem k_pathsP (T : Txt K mg) (F : DF K mg "paths" 31) (c_check_plant : Cal P w K mg base 4 "check_plant" ["bed", "plant"] (spCheck K)) (c_row_paths : Cal P w K mg base 4 "row_paths" ["bed", "row"] (spPathsR K)) : Cal P w K mg base 5 "paths" ["bed", "plant"] (spPathsP K) := by
  refine cal_of F.1 F.2 sc_pathsP (fun _ _ _ _ _ _ us e => match us, e with | [_, _], _ => rfl) (fun vs H Q E s => by obtain ⟨_, _, _, _, rfl, _⟩ := s; rfl) ?_
  intro cdv A outer s H vs Q E hr h
  obtain ⟨a, r, rows, l, rfl, hb, hR, hp, hq⟩ := h
  refine ⟨_, (pss_cons (ps_expr (pe_calX c_check_plant hr (takes_of rfl rfl rfl rfl) (pa_cons (pv 0) (pa_cons (pv 1) pa_nil))))
      (pss_one (ps_ret (pe_cal c_row_paths hr (pa_cons (pv 0) (pa_cons (pv 1) pa_nil)))))), ?_⟩
  exact ⟨_, rfl, _, rfl, a, r, rows, l, rfl, hb, hR, hp, fun H1 s1 => ⟨_, rfl, _, rfl, a, r, rows, l, rfl, hb.mono (Stay.of s1), Same.sqt s1 hR, hp.fo, hp.le, fun H2 v s2 hv => hq _ v (s1.trans s2) hv⟩⟩
end
end Sy
/-! tuples of which it is known that they have no dict: methods of a tuple -/
namespace Sy
open PySem PySem.Spec PyProof.Rows L2
def NoD (H : Hp) (a : Addr) : Prop := ∃ (o : Obj) (u : HO), H a = some (.frz o u) ∧ o.dict = none
/-- a new tuple at p -/
def NewT (H : Hp) (p : Addr) (xs : List V) (H' : Hp) : Prop := H p = none ∧ ∃ o : Obj, o.dict = none ∧ H' = upd H p (.frz o (.tup xs))
theorem NewT.same {H H' : Hp} {p : Addr} {xs : List V} (h : NewT H p xs H') : Same H H' := by
  obtain ⟨h1, o, _, rfl⟩ := h
  exact up_same h1
theorem NewT.sqt {K : PySem.W.Frag} {H H' : Hp} {p : Addr} {xs : List V} (h : NewT H p xs H') : SqT K H' p xs := by
  obtain ⟨h1, o, _, rfl⟩ := h
  exact .inl (.inr ⟨o, upd_same⟩)
theorem NewT.nod {H H' : Hp} {p : Addr} {xs : List V} (h : NewT H p xs H') : NoD H' p := by
  obtain ⟨h1, o, h2, rfl⟩ := h
  exact ⟨o, _, upd_same, h2⟩
theorem NoD.mono {H H' : Hp} {a : Addr} (h : NoD H a) (s : Stay H H') : NoD H' a := by
  obtain ⟨o, u, h1, h2⟩ := h
  exact ⟨o, u, s _ _ h1 (fun _ z => by cases z), h2⟩
section
variable {X : Cx} {es : List Expr} {t : TA} {pos : Pos}
def tTupZ (t : TA) : TE := fun σ H Q => t σ H fun xs H1 => xs.length ≤ sizeLine ∧ ∀ p H', NewT H1 p xs H' → Q (.ref p) H'
theorem pe_tupZ {x1} (h : PA X es t) : PE X (.Tuple es x1 pos) (tTupZ t) := by
  constructor
  intro pins s σ H Q I hq
  refine wpAny_Tuple_spliced (thn (h.run pos pins s σ H _ I hq) fun us s1 ⟨xs, H1, I1, r, z, q⟩ => ⟨by rw [← r.length]; exact z, ?_⟩)
  have hf : H1 s1.heap.objs.size = none := I1.hok.fresh (Nat.le_refl _)
  have hg : (s1.heap.push ({ cls := .type "tuple", data := .seq us.toArray } : Obj)).get? s1.heap.objs.size = some ({ cls := .type "tuple", data := .seq us.toArray } : Obj) := Heap.get?_push_size _ rfl
  refine ⟨.ref s1.heap.objs.size, _, I1.laid (t' := s1.toks) (o := .frz ({ cls := .type "tuple", data := .seq us.toArray } : Obj) (.tup xs)) (fun b u e => Heap.get?_push_of_some _ e) (Nat.le_refl _) ?_, rfl, q _ _ ⟨hf, _, rfl, rfl⟩⟩
  exact ⟨hg, z, us, r, ⟨_, hg, rfl, _, rfl⟩⟩
def rCatZ (K : PySem.W.Frag) : R2 := fun x y H Q => ∃ a b xs ys, x = .ref a ∧ y = .ref b ∧ SqT K H a xs ∧ SqT K H b ys ∧ xs.length + ys.length ≤ sizeLine ∧
  (xs = [] → Q (.ref b) H) ∧ (xs ≠ [] → ys = [] → Q (.ref a) H) ∧ (xs ≠ [] → ys ≠ [] → ∀ p H', NewT H p (xs ++ ys) H' → Q (.ref p) H')
theorem op_catZ : OpR X (binaryOp .Add) (rCatZ X.K) := by
  intro pins s σ H x y v u Q I rx ry h
  obtain ⟨a, b, xs, ys, rfl, rfl, ha, hb, hz, q0, q1, q2⟩ := h
  by_cases hx : xs = []
  · exact op_catA pins s σ H _ _ v u Q I rx ry ⟨a, b, xs, ys, rfl, rfl, ha, hb, hz, q0, q1, fun z => absurd hx z⟩
  cases rx
  cases ry
  obtain ⟨its, r1, p1, _⟩ := I.tuple ha
  obtain ⟨its2, r2, p2, _⟩ := I.tuple hb
  refine HT.cat_tup p1 p2 (fun z => hx (r1.nil_iff.mp z)) (fun z => ⟨.ref a, H, I, rfl, q1 hx (r2.nil_iff.mp z)⟩) (fun z => ?_) (by rw [← r1.length, ← r2.length]; exact hz)
  have hg : (s.heap.push ({ cls := .type "tuple", data := .seq (its ++ its2).toArray } : Obj)).get? s.heap.objs.size = some ({ cls := .type "tuple", data := .seq (its ++ its2).toArray } : Obj) := Heap.get?_push_size _ rfl
  refine ⟨.ref s.heap.objs.size, _, I.laid (t' := s.toks) (o := .frz ({ cls := .type "tuple", data := .seq (its ++ its2).toArray } : Obj) (.tup (xs ++ ys))) (fun b ob q => Heap.get?_push_of_some _ q) (Nat.le_refl _) ?_, rfl,
    q2 hx (fun w => z (r2.nil_iff.mpr w)) _ _ ⟨I.hok.fresh (Nat.le_refl _), _, rfl, rfl⟩⟩
  exact ⟨hg, by rw [List.length_append]; exact hz, _, r1.append r2, ⟨_, hg, rfl, _, rfl⟩⟩
def rTupZ (K : PySem.W.Frag) : List V → Hp → VK → Prop := fun xs H Q => ∃ p ys, xs = [.ref p] ∧ SqL K H p ys ∧ ∀ l H', NewT H l ys H' → Q (.ref l) H'
theorem call_tupZ : CallR X (.type "tuple") (rTupZ X.K) := by
  intro pins s σ H xs us Q I r h
  obtain ⟨p, ys, rfl, hq, q⟩ := h
  obtain ⟨u, rfl, rx⟩ := vals1 r
  cases rx
  obtain ⟨its, r', pl, hz⟩ := I.list hq
  have hlen := r'.length
  refine call_tuple_list pl.isList (fun h' kp => ?_) (by simp only [List.size_toArray]; omega)
  have I1 : Inv X pins σ H { s with heap := h' } := I.kept (t' := s.toks) kp
  have hg : (h'.push ({ cls := .type "tuple", data := .seq its.toArray } : Obj)).get? h'.objs.size = some ({ cls := .type "tuple", data := .seq its.toArray } : Obj) := Heap.get?_push_size _ rfl
  have I2 : Inv X pins σ (upd H h'.objs.size (.frz ({ cls := .type "tuple", data := .seq its.toArray } : Obj) (.tup ys))) { s with heap := h'.push { cls := .type "tuple", data := .seq its.toArray } } :=
    I1.laid (t' := s.toks) (fun b o e => Heap.get?_push_of_some _ e) (Nat.le_refl _) (show ObjOk X.prog X.w _ _ _ (.frz _ (.tup ys)) from ⟨hg, hz, its, r', ⟨_, hg, rfl, _, rfl⟩⟩)
  exact ⟨.ref h'.objs.size, _, I2, rfl, q _ _ ⟨I1.hok.fresh (Nat.le_refl _), _, rfl, rfl⟩⟩
/-! t.m(..) -/
def tBMT (K : PySem.W.Frag) (r : V → List V → Hp → VK → Prop) (to : TE) (t : TA) : TE := fun σ H Q => to σ H fun x H1 => (∃ a xs, x = .ref a ∧ SqT K H1 a xs ∧ NoD H1 a) ∧ t σ H1 fun xs H2 => r x xs H2 Q
variable {o e : Expr} {to : TE} {name : Str} {apos cpos : Pos} {id : String} {r : V → List V → Hp → VK → Prop}
theorem pe_bmT (slot : Slot "tuple" name id) (hty : typeOf (.builtin id) = pure (.type "method_descriptor")) (hm : MtR X id r) (ho : PE X o to) (ha : PA X (e :: es) t)
    (hbase : attributeBase o name X.env (eval o X.env) = eval o X.env := by rfl)
    (hfew : ((backTo cpos (starEach (e :: es) X.env)).all (fun x => !x.1) && (backToKw cpos (keywordEach [] X.env)).all (fun x => x.1.isSome)
      && decide ((e :: es).length + ([] : List Keyword).length + (if ([] : List Keyword).isEmpty then 0 else 1) < 30)) = true := by rfl)
    (hline : (apos.endLine == cpos.line) = true := by rfl) (hs : starEach (e :: es) X.env = (false, eval e X.env) :: starEach es X.env := by rfl) (hplain : (backTo cpos (starEach es X.env)).any (·.1) = false := by rfl) :
    PE X (.Call (.Attribute o name apos) (e :: es) [] cpos) (tBMT X.K r to t) := by
  constructor
  intro pins s σ H Q I h
  refine wpAny_Call_method_late hbase hfew hline rfl (thn (ho.run pins s σ H _ I h) fun v s1 ⟨x, H1, I1, r1, ⟨a, xs, ex, st, ob, u, hf, hd⟩, q1⟩ => ?_)
  subst ex
  cases r1
  obtain ⟨its, _, pt, _⟩ := I1.tuple st
  refine ⟨"tuple", id, PySem.F.plainAttrs_tuple, slot, hty, pt.typeIs, fun b e => ?_, ?_⟩
  · cases e
    exact ⟨ob, (I1.hok _ _ hf).1, hd⟩
  · have hA := ha.run cpos pins s1 σ H1 _ I1 q1
    rw [hs] at hA ⊢
    refine Calls.callWith_builtin (by show (false || (backTo cpos (starEach es X.env)).any (·.1)) = false; rw [hplain]; rfl) (Calls.evalArgs_plain ?_)
    exact thn hA fun us s2 ⟨vs, H2, I2, r2, q2⟩ => hm pins s2 σ H2 (.ref a) vs _ us Q I2 rfl r2 q2
end
end Sy
namespace Sy
open PySem PySem.Spec PyProof.Rows L2
def brn (w : List Nat) (l : List Str) (i : Nat) : List Str := (l.drop i).take (en w i - i)
def rep (w : List Nat) (l m : List Str) (i : Nat) : List Str := l.take i ++ m ++ l.drop (en w i)
theorem pz_lt {w : List Nat} (h : Fo 1 w) : ∀ (zs : List Int) (i j : Nat), i < w.length → pz w i zs = some j → j < w.length
  | [], i, j, hi, e => by rw [pz] at e; cases e; exact hi
  | z :: zs, i, j, hi, e => by
    rw [pz] at e
    by_cases c : 0 ≤ z ∧ z < (aw w i : Nat)
    · rw [if_pos c] at e
      exact pz_lt h zs _ j (h.kd_lt hi (by omega)) e
    · rw [if_neg c] at e
      cases e
theorem max_int (a b : Nat) : (if ((b : Int) + 1) > (a : Int) then ((b : Int) + 1) else (a : Int)) = ((max a (b + 1) : Nat) : Int) := by
  split <;> omega
theorem getD_at {l : List Nat} {i : Nat} (h : i < l.length) : l[i]? = some (l.getD i 0) := by
  rw [List.getD_eq_getElem?_getD, List.getElem?_eq_getElem h]
  rfl
section
variable {P : Program} {w : World} {K : PySem.W.Frag} {mg : Str → Option Value} {base : Heap}
/-! height -/
def spHeight (K : PySem.W.Frag) : Sp := fun vs H Q _ => ∃ (a r : Addr) (rows : List Sy.Row) (l : List Str), vs = [.ref a, .ref r] ∧ BedAt K H a rows ∧ SqT K H r (l.map V.str) ∧ Pln rows l ∧ ∀ H', Same H H' → Q (.int (tall (pths (wt rows l)) : Nat)) H'
abbrev N_height : List Str := ["bed", "plant", "starts", "heights", "index", "start", "_"]
theorem sc_height : FnScope N_height ["bed", "plant"] (defScope (top 27)) := ⟨rfl, rfl, rfl, by decide +kernel, rfl, by decide +kernel, by decide +kernel⟩
theorem k_height (T : Txt K mg) (F : DF K mg "height" 27) (c_check_plant : Cal P w K mg base 4 "check_plant" ["bed", "plant"] (spCheck K)) (c_kids : Cal P w K mg base 3 "kids" ["bed", "row"] (spKids K)) : Cal P w K mg base 5 "height" ["bed", "plant"] (spHeight K) := by
  refine cal_of F.1 F.2 sc_height (fun _ _ _ _ _ _ us e => match us, e with | [_, _], _ => rfl) (fun vs H Q E s => by obtain ⟨_, _, _, _, rfl, _⟩ := s; rfl) ?_
  intro cdv A outer s H vs Q E hr h
  obtain ⟨a, r, rows, l, rfl, hb, hR, hp, hq⟩ := h
  have sc := sc_height
  refine ⟨_, (pss_cons (ps_expr (pe_calX c_check_plant hr (takes_of rfl rfl rfl rfl) (pa_cons (pv 0) (pa_cons (pv 1) pa_nil))))
      (pss_cons (ps_set (i := 2) sc.nd rfl (Or.inl rfl) (pe_cal c_kids hr (pa_cons (pv 0) (pa_cons (pv 1) pa_nil))))
      (pss_cons (ps_setLc (i := 3) (own := [("_", 6)]) (g := gName 6) rfl sc.nd rfl rfl (sw_true rfl rfl rfl (by decide +kernel)) (pi_tup (pv 1)) (blkOk_by (N := N_height) (sc := defScope (top 27)) (by decide +kernel)) (fun _ _ _ _ _ => (pg_name (i := 6) sc.nd rfl (Or.inl rfl))) (fun _ _ _ _ _ => pts_nil) (fun _ _ _ _ _ => pe_int))
      (pss_cons (ps_for (passes_of rfl) rfl (pi_revR rfl T.reversed (prg_1 rfl T.range (pe_callB call_len_seq (by rfl) T.len (by decide +kernel) (pa_cons (pv 1) pa_nil)))) (pg_name (i := 4) sc.nd rfl (Or.inl rfl))
        (pss_one (ps_for (passes_of rfl) rfl (pi_tup (pe_ix ix_tup (pv 2) (pv 4) (fun _ _ => rfl))) (pg_name (i := 5) sc.nd rfl (Or.inl rfl))
          (pss_one (ps_asg (pe_callB (call_max2 rfl) (by rfl) T.max (by decide +kernel) (pa_cons (pe_ix ix_list (pv 3) (pv 4) (fun _ _ => rfl)) (pa_cons (pe_op op_add (pe_ix ix_list (pv 3) (pv 5) (fun _ _ => rfl)) pe_int) pa_nil))) (pg_sub (pv 3) (pv 4) set_list))))))
      (pss_one (ps_ret (pe_ix ix_list (pv 3) pe_int (fun _ _ => rfl)))))))), ?_⟩
  have hF := hp.fo
  have hl := hp.le
  have hwl := wt_len rows l
  refine ⟨_, rfl, _, rfl, a, r, rows, l, rfl, hb, hR, hp, fun H1 s1 => ?_⟩
  refine ⟨_, rfl, _, rfl, a, r, rows, l, rfl, hb.mono (Stay.of s1), Same.sqt s1 hR, hF, hl, fun H2 v s2 hv => ?_⟩
  have s12 := s1.trans s2
  obtain ⟨ka, ks, rfl, kt, kl, kg⟩ := kids_get hv
  have hR2 := Same.sqt s12 hR
  refine ⟨_, rfl, r, rfl, ⟨_, hR2⟩, fun D hD => lc_map (si := 6) (Hs.start H2) hD hR2 (by rw [List.length_map]; omega) (fun i B acc => B = H2 ∧ acc = vN (List.replicate i 1)) ⟨rfl, rfl⟩ ?_ ?_⟩
  · rintro i x B' acc H' hx s ⟨rfl, rfl⟩ hh R hR
    exact hR _ _ B' (Same.refl _) hh ⟨rfl, by rw [vN, vN, List.replicate_succ', List.map_append]; rfl⟩
  rintro B acc H3 s3 ⟨rfl, rfl⟩ hh
  rw [List.length_map] at hh
  refine ⟨_, rfl, r, _, rfl, .inr (Same.sqt hh.sub hR2), _, rfl, by decide, by decide, by rw [List.length_map]; omega, by rw [List.length_map]; omega, for_rrng (n := (l.map V.str).length)
    (fun i σ H' => ∃ t4 t5 t6 hs, σ = [some (.ref a), some (.ref r), some (.ref ka), some (.ref D), t4, t5, t6] ∧ Hs B [(D, .lst (vN hs))] H' ∧ HtO (wt rows l) hs i)
    ⟨_, _, _, List.replicate l.length 1, rfl, hh, by rw [List.length_map, ← hwl]; exact HtO.start _⟩ ?_ ?_⟩
  · rintro i σ H4 hi ⟨t4, t5, t6, hs, rfl, h4, ho⟩
    rw [List.length_map] at hi
    have hiw : i < (wt rows l).length := by omega
    obtain ⟨b, e1, tb⟩ := kg i hiw
    have tb4 := Same.sqt h4.sub tb
    refine ⟨_, rfl, _, rfl, ka, _, _, _, rfl, rfl, Same.sqt h4.sub kt, atI_nat e1, b, rfl, ⟨_, tb4⟩, for_tup (K := K) (a := b) (xs := vN (kidsN (wt rows l) i))
      (fun t σ H' => ∃ t5 t6 hs, σ = [some (.ref a), some (.ref r), some (.ref ka), some (.ref D), some (.int (i : Nat)), t5, t6] ∧ Hs B [(D, .lst (vN hs))] H' ∧ HtI (wt rows l) hs i t)
      ⟨_, _, hs, rfl, h4, ho.open_⟩ (fun _ _ _ _ ⟨_, _, _, _, h, _⟩ => Same.sqt h.sub tb) ?_ ?_⟩
    · rintro t x σ H5 hx ⟨t5, t6, hs, rfl, h5, hi5⟩
      obtain ⟨n, hn, rfl⟩ := map_at hx
      have ht : t < aw (wt rows l) i := by
        have := (List.getElem?_eq_some_iff.mp hn).1
        rwa [kidsN_len] at this
      rw [kidsN_at ht] at hn
      obtain rfl := Option.some.inj hn
      have hk := hF.kd_lt hiw ht
      have hsl := hi5.len
      refine ⟨_, rfl, _, rfl, D, _, _, _, rfl, rfl, SqL.of h5.r0, atI_nat (vN_at (getD_at (by omega))), _, rfl, _, rfl, D, _, _, _, rfl, rfl, SqL.of h5.r0, atI_nat (vN_at (getD_at (by omega))), _, _, rfl, rfl, _, _, rfl, _, rfl, _, rfl, D, _, _, i, rfl, rfl, h5.r0, ixN_nat (by rw [List.length_map]; omega), _, _, _, rfl, ?_, hi5.step hiw⟩
      rw [max_int, vN_set]
      exact h5.w0
    · rintro σ H5 ⟨t5, t6, hs, rfl, h5, hi5⟩
      rw [vN, List.length_map, kidsN_len] at hi5
      exact ⟨_, _, _, hs, rfl, h5, hi5.close⟩
  · rintro σ H4 ⟨t4, t5, t6, hs, rfl, h4, ho⟩
    have hsl := ho.len
    have := hF.pos
    refine ⟨_, rfl, D, _, _, _, rfl, rfl, SqL.of h4.r0, atI_nat (j := 0) (vN_at (getD_at (by omega))), ?_⟩
    rw [ho.tall hF]
    exact hq _ (s12.trans h4.sub)
/-! counted -/
def spCounted (K : PySem.W.Frag) : Sp := fun vs H Q _ => ∃ (a r : Addr) (rows : List Sy.Row) (l : List Str), vs = [.ref a, .ref r] ∧ BedAt K H a rows ∧ SqT K H r (l.map V.str) ∧ Pln rows l ∧ NoD H r ∧ rows.length ≤ 1000 ∧ ∀ H' v, Same H H' → Im K H' v (DN (rows.map fun r => l.count r.1)) → Q v H'
abbrev N_counted : List Str := ["bed", "plant", "kind"]
theorem sc_counted : FnScope N_counted ["bed", "plant"] (defScope (top 28)) := ⟨rfl, rfl, rfl, by decide +kernel, rfl, by decide +kernel, by decide +kernel⟩
theorem eqV_strs (x y : Str) : eqV (V.str x) (V.str y) = (x == y) := by
  show (x == y) = _
  rfl
theorem countP_strs (y : Str) (l : List Str) : (l.map V.str).countP (fun z => eqV z (V.str y)) = l.count y := by
  rw [List.countP_map, List.count]
  congr 1
theorem all_strs (l : List Str) : (l.map V.str).all flatV = true := by
  rw [List.all_map, List.all_eq_true]
  intro x _
  rfl
theorem k_counted (T : Txt K mg) (F : DF K mg "counted" 28) (c_check_plant : Cal P w K mg base 4 "check_plant" ["bed", "plant"] (spCheck K)) : Cal P w K mg base 5 "counted" ["bed", "plant"] (spCounted K) := by
  refine cal_of F.1 F.2 sc_counted (fun _ _ _ _ _ _ us e => match us, e with | [_, _], _ => rfl) (fun vs H Q E s => by obtain ⟨_, _, _, _, rfl, _⟩ := s; rfl) ?_
  intro cdv A outer s H vs Q E hr h
  obtain ⟨a, r, rows, l, rfl, hb, hR, hp, hnd, hl, hq⟩ := h
  have sc := sc_counted
  refine ⟨_, (pss_cons (ps_expr (pe_calX c_check_plant hr (takes_of rfl rfl rfl rfl) (pa_cons (pv 0) (pa_cons (pv 1) pa_nil))))
      (pss_one (ps_ret (pe_callTy call_tuple_of (by rfl) T.tuple (by decide +kernel) (pa_cons (pe_lc (own := [("kind", 2)]) (g := gName 2) (te := tBMT K (rTCnt K) (tVar 1) (tCons (tVar 2) tNil)) rfl sc.nd (pi_tup (pe_fld (pv 0) rfl)) (blkOk_by (N := N_counted) (sc := defScope (top 28)) (by decide +kernel)) (fun _ _ _ _ _ => (pg_name (i := 2) sc.nd rfl (Or.inl rfl))) (fun _ _ _ _ _ => pts_nil) (fun _ _ _ _ _ => (pe_bmT PySem.F.slot_tuple_count PySem.F.type_tuple_count mt_tcount (pv 1) (pa_cons (pv 2) pa_nil)))) pa_nil))))), ?_⟩
  refine ⟨_, rfl, _, rfl, a, r, rows, l, rfl, hb, hR, hp, fun H1 s1 => ?_⟩
  have hR1 := Same.sqt s1 hR
  obtain ⟨dx, dA, tR, tK, dR, ps, h1, hd, h3, h4, h5, h6⟩ := (hb.mono (Stay.of s1)).ex
  refine ⟨_, rfl, a, _, dx, _, _, rfl, h1, T.bed.cl, T.bed.nK, rfl, tK, rfl, ⟨_, h5⟩, fun D hD => lc_map (si := 2) (Hs.start H1) hD h5 (by rw [List.length_map]; omega) (fun i B acc => acc = vN ((rows.take i).map fun r => l.count r.1)) rfl ?_ ?_⟩
  · rintro i x B' acc H' hx s rfl hh R hR
    obtain ⟨y, hy, rfl⟩ := map_at hx
    have st := Same.sqt (s.trans hh.sub) hR1
    refine ⟨_, rfl, ⟨r, _, rfl, st, (hnd.mono (Stay.of s1)).mono (Stay.of (s.trans hh.sub))⟩, _, rfl, r, _, _, rfl, rfl, st, rfl, all_strs l, hR _ _ B' (Same.refl _) hh ?_⟩
    rw [List.take_succ, hy, List.map_append, vN, vN, List.map_append, countP_strs]
    rfl
  · rintro B' acc H2 s2 rfl hh
    rw [List.length_map, List.take_length] at hh
    refine ⟨D, _, rfl, .inl ⟨SqL.of hh.r0, fun p hp => hq _ _ ((s1.trans (s2.trans hh.sub)).trans (up_same hp)) (Im.nats (SqT.of upd_same))⟩⟩
/-! branches_of -/
def dBr (w : List Nat) (l : List Str) : PyData := .tuple ((List.range (aw w 0)).map fun k => DS (brn w l (kd w 0 k)))
def spBrs (K : PySem.W.Frag) : Sp := fun vs H Q _ => ∃ (a r : Addr) (rows : List Sy.Row) (l : List Str), vs = [.ref a, .ref r] ∧ BedAt K H a rows ∧ SqT K H r (l.map V.str) ∧ Pln rows l ∧ ∀ H' v, Same H H' → Im K H' v (dBr (wt rows l) l) → Q v H'
abbrev N_brs : List Str := ["bed", "plant", "starts", "start"]
theorem sc_brs : FnScope N_brs ["bed", "plant"] (defScope (top 29)) := ⟨rfl, rfl, rfl, by decide +kernel, rfl, by decide +kernel, by decide +kernel⟩
theorem k_brs (T : Txt K mg) (F : DF K mg "branches_of" 29) (c_check_plant : Cal P w K mg base 4 "check_plant" ["bed", "plant"] (spCheck K)) (c_kids : Cal P w K mg base 3 "kids" ["bed", "row"] (spKids K)) (c_stop : Cal P w K mg base 2 "span_stop" ["bed", "row", "place"] (spStop K)) : Cal P w K mg base 5 "branches_of" ["bed", "plant"] (spBrs K) := by
  refine cal_of F.1 F.2 sc_brs (fun _ _ _ _ _ _ us e => match us, e with | [_, _], _ => rfl) (fun vs H Q E s => by obtain ⟨_, _, _, _, rfl, _⟩ := s; rfl) ?_
  intro cdv A outer s H vs Q E hr h
  obtain ⟨a, r, rows, l, rfl, hb, hR, hp, hq⟩ := h
  have sc := sc_brs
  refine ⟨_, (pss_cons (ps_expr (pe_calX c_check_plant hr (takes_of rfl rfl rfl rfl) (pa_cons (pv 0) (pa_cons (pv 1) pa_nil))))
      (pss_cons (ps_set (i := 2) sc.nd rfl (Or.inl rfl) (pe_ix ix_tup (pe_cal c_kids hr (pa_cons (pv 0) (pa_cons (pv 1) pa_nil))) pe_int (fun _ _ => rfl)))
      (pss_one (ps_ret (pe_callTy call_tuple_of (by rfl) T.tuple (by decide +kernel) (pa_cons (pe_lc (own := [("start", 3)]) (g := gName 3) (te := tSl (rSlA K) (tVar 1) (tPart (tVar 3)) (tPart (tCallS (spStop K) (fun _ => E0) (tCons (tVar 0) (tCons (tVar 1) (tCons (tVar 3) tNil)))))) rfl sc.nd (pi_tup (pv 2)) (blkOk_by (N := N_brs) (sc := defScope (top 29)) (by decide +kernel)) (fun _ _ _ _ _ => (pg_name (i := 3) sc.nd rfl (Or.inl rfl))) (fun _ _ _ _ _ => pts_nil) (fun _ _ _ _ _ => (pe_slice sl_tupA (pv 1) (po_some (pv 3)) (po_some (pe_cal c_stop hr (pa_cons (pv 0) (pa_cons (pv 1) (pa_cons (pv 3) pa_nil)))))))) pa_nil)))))), ?_⟩
  have hF := hp.fo
  have hl := hp.le
  have hwl := wt_len rows l
  have h0 := hF.pos
  refine ⟨_, rfl, _, rfl, a, r, rows, l, rfl, hb, hR, hp, fun H1 s1 => ?_⟩
  refine ⟨_, rfl, _, rfl, a, r, rows, l, rfl, hb.mono (Stay.of s1), Same.sqt s1 hR, hF, hl, fun H2 v s2 hv => ?_⟩
  have s12 := s1.trans s2
  obtain ⟨ka, ks, rfl, kt, kl, kg⟩ := kids_get hv
  obtain ⟨b, e1, tb⟩ := kg 0 h0
  have hal := aw_le hF h0
  refine ⟨ka, _, _, _, rfl, rfl, kt, atI_nat (j := 0) e1, _, rfl, b, rfl, ⟨_, tb⟩, fun D hD => lc_map (si := 3) (Hs.start H2) hD tb (by rw [vN, List.length_map, kidsN_len]; omega) (fun i B acc => ImA K B acc ((List.range i).map fun k => DS (brn (wt rows l) l (kd (wt rows l) 0 k)))) .nil ?_ ?_⟩
  · rintro t x B' acc H' hx s im hh R hR'
    obtain ⟨n, hn, rfl⟩ := map_at hx
    have ht : t < aw (wt rows l) 0 := by
      have := (List.getElem?_eq_some_iff.mp hn).1
      rwa [kidsN_len] at this
    rw [kidsN_at ht] at hn
    obtain rfl := Option.some.inj hn
    have hk := hF.kd_lt h0 ht
    have sH := s12.trans (s.trans hh.sub)
    have he := hF.en_le hk
    have hg := en_gt hk
    refine ⟨_, rfl, _, rfl, _, rfl, _, rfl, _, rfl, _, rfl, a, r, _, rows, l, rfl, hb.mono (Stay.of sH), Same.sqt sH hR, hF, by omega, _, rfl, sl_any (cut_mid (by omega) (by rw [List.length_map]; omega)) (Same.sqt sH hR) fun p H'' s'' tp => ?_⟩
    obtain ⟨g1, g2⟩ := hh.after s''
    have st := stay_cut hh (AllL.cons AllL.nil) s''
    refine hR' _ _ _ g1 g2 ?_
    rw [List.range_succ, List.map_append]
    refine (im.mono (Stay.of g1)).snoc (Im.strs (st.sqt ?_))
    rw [brn, List.map_take, List.map_drop]
    exact tp
  · rintro B' acc H3 s3 im hh
    rw [vN, List.length_map, kidsN_len] at im
    have sB := s3.trans hh.sub
    refine ⟨D, _, rfl, .inl ⟨SqL.of hh.r0, fun p hp => ?_⟩⟩
    have sp := hh.sub.trans (up_same (o := .tup acc) hp)
    exact hq _ _ ((s12.trans s3).trans sp) (.tup (SqT.of upd_same) (im.mono (Stay.of sp)))
/-! branch_at, replaced -/
def spBrAt (K : PySem.W.Frag) : Sp := fun vs H Q E => ∃ (a r p : Addr) (rows : List Sy.Row) (l : List Str) (zs : List Int), vs = [.ref a, .ref r, .ref p] ∧ BedAt K H a rows ∧ SqT K H r (l.map V.str) ∧ SqT K H p (zs.map V.int) ∧ Pln rows l ∧ zs.length ≤ 5000 ∧ (∀ y ∈ zs, y.natAbs.log2 < 1920) ∧
  (∀ i, pz (wt rows l) 0 zs = some i → ∀ H' v, Same H H' → Im K H' v (DS (brn (wt rows l) l i)) → Q v H') ∧ (pz (wt rows l) 0 zs = none → Ra K "NoPath" [("path", .ref p)] H E)
abbrev N_brAt : List Str := ["bed", "plant", "path", "place"]
theorem sc_brAt : FnScope N_brAt ["bed", "plant", "path"] (defScope (top 32)) := ⟨rfl, rfl, rfl, by decide +kernel, rfl, by decide +kernel, by decide +kernel⟩
theorem k_brAt (T : Txt K mg) (F : DF K mg "branch_at" 32) (c_check_plant : Cal P w K mg base 4 "check_plant" ["bed", "plant"] (spCheck K)) (c_place_of : Cal P w K mg base 4 "place_of" ["bed", "row", "path"] (spPlace K)) (c_stop : Cal P w K mg base 2 "span_stop" ["bed", "row", "place"] (spStop K)) : Cal P w K mg base 5 "branch_at" ["bed", "plant", "path"] (spBrAt K) := by
  refine cal_of F.1 F.2 sc_brAt (fun _ _ _ _ _ _ us e => match us, e with | [_, _, _], _ => rfl) (fun vs H Q E s => by obtain ⟨_, _, _, _, _, _, rfl, _⟩ := s; rfl) ?_
  intro cdv A outer s H vs Q E hr h
  obtain ⟨a, r, p, rows, l, zs, rfl, hb, hR, hP, hp, hz, hlg, hq, hE⟩ := h
  have sc := sc_brAt
  refine ⟨_, (pss_cons (ps_expr (pe_calX c_check_plant hr (takes_of rfl rfl rfl rfl) (pa_cons (pv 0) (pa_cons (pv 1) pa_nil))))
      (pss_cons (ps_set (i := 3) sc.nd rfl (Or.inl rfl) (pe_calX c_place_of hr (takes_of rfl rfl rfl rfl) (pa_cons (pv 0) (pa_cons (pv 1) (pa_cons (pv 2) pa_nil)))))
      (pss_one (ps_ret (pe_slice sl_tupA (pv 1) (po_some (pv 3)) (po_some (pe_cal c_stop hr (pa_cons (pv 0) (pa_cons (pv 1) (pa_cons (pv 3) pa_nil)))))))))), ?_⟩
  have hF := hp.fo
  have hl := hp.le
  have hwl := wt_len rows l
  refine ⟨_, rfl, _, rfl, a, r, rows, l, rfl, hb, hR, hp, fun H1 s1 => ?_⟩
  refine ⟨_, rfl, _, rfl, _, rfl, a, r, p, rows, l, zs, rfl, hb.mono (Stay.of s1), Same.sqt s1 hR, Same.sqt s1 hP, hF, hl, hz, hlg, fun i hi H2 s2 => ?_, fun c => (hE c).mono s1⟩
  have hiw := pz_lt hF zs 0 i hF.pos hi
  have s12 := s1.trans s2
  have he := hF.en_le hiw
  have hg := en_gt hiw
  refine ⟨_, rfl, _, rfl, _, rfl, _, rfl, _, rfl, _, rfl, a, r, i, rows, l, rfl, hb.mono (Stay.of s12), Same.sqt s12 hR, hF, by omega, _, rfl, sl_any (cut_mid (by omega) (by rw [List.length_map]; omega)) (Same.sqt s12 hR) fun p H3 s3 tp => hq i hi _ _ (s12.trans s3) (Im.strs ?_)⟩
  rw [brn, List.map_take, List.map_drop]
  exact tp
def spRep (K : PySem.W.Frag) : Sp := fun vs H Q E => ∃ (a r p o : Addr) (rows : List Sy.Row) (l m : List Str) (zs : List Int), vs = [.ref a, .ref r, .ref p, .ref o] ∧ BedAt K H a rows ∧ SqT K H r (l.map V.str) ∧ SqT K H p (zs.map V.int) ∧ SqT K H o (m.map V.str) ∧ Pln rows l ∧ Pln rows m ∧ zs.length ≤ 5000 ∧ (∀ y ∈ zs, y.natAbs.log2 < 1920) ∧
  (∀ i, pz (wt rows l) 0 zs = some i → ((rep (wt rows l) l m i).length ≤ 2000 → ∀ H' p', Same H H' → SqT K H' p' ((rep (wt rows l) l m i).map V.str) → Q (.ref p') H') ∧ (2000 < (rep (wt rows l) l m i).length → Ra K "TooMany" [("limit", .int 2000), ("what", .str "knots")] H E)) ∧ (pz (wt rows l) 0 zs = none → Ra K "NoPath" [("path", .ref p)] H E)
abbrev N_rep : List Str := ["bed", "plant", "path", "other", "place", "result"]
theorem sc_rep : FnScope N_rep ["bed", "plant", "path", "other"] (defScope (top 33)) := ⟨rfl, rfl, rfl, by decide +kernel, rfl, by decide +kernel, by decide +kernel⟩
theorem k_rep (T : Txt K mg) (F : DF K mg "replaced" 33) (c_check_plant : Cal P w K mg base 4 "check_plant" ["bed", "plant"] (spCheck K)) (c_check_count : Cal P w K mg base 3 "check_count" ["number"] (spCount K)) (c_place_of : Cal P w K mg base 4 "place_of" ["bed", "row", "path"] (spPlace K)) (c_swapped : Cal P w K mg base 3 "swapped" N_swap (spSwap K)) :
    Cal P w K mg base 5 "replaced" ["bed", "plant", "path", "other"] (spRep K) := by
  refine cal_of F.1 F.2 sc_rep (fun _ _ _ _ _ _ us e => match us, e with | [_, _, _, _], _ => rfl) (fun vs H Q E s => by obtain ⟨_, _, _, _, _, _, _, _, rfl, _⟩ := s; rfl) ?_
  intro cdv A outer s H vs Q E hr h
  obtain ⟨a, r, p, o, rows, l, m, zs, rfl, hb, hR, hP, hO, hp, hpo, hz, hlg, hq, hE⟩ := h
  have sc := sc_rep
  refine ⟨_, (pss_cons (ps_expr (pe_calX c_check_plant hr (takes_of rfl rfl rfl rfl) (pa_cons (pv 0) (pa_cons (pv 1) pa_nil))))
      (pss_cons (ps_set (i := 4) sc.nd rfl (Or.inl rfl) (pe_calX c_place_of hr (takes_of rfl rfl rfl rfl) (pa_cons (pv 0) (pa_cons (pv 1) (pa_cons (pv 2) pa_nil)))))
      (pss_cons (ps_expr (pe_calX c_check_plant hr (takes_of rfl rfl rfl rfl) (pa_cons (pv 0) (pa_cons (pv 3) pa_nil))))
      (pss_cons (ps_set (i := 5) sc.nd rfl (Or.inl rfl) (pe_cal c_swapped hr (pa_cons (pv 0) (pa_cons (pv 1) (pa_cons (pv 4) (pa_cons (pv 3) pa_nil))))))
      (pss_cons (ps_expr (pe_calX c_check_count hr (takes_of rfl rfl rfl rfl) (pa_cons (pe_callB call_len_seq (by rfl) T.len (by decide +kernel) (pa_cons (pv 5) pa_nil)) pa_nil)))
      (pss_one (ps_ret (pv 5)))))))), ?_⟩
  have hF := hp.fo
  have hl := hp.le
  have hwl := wt_len rows l
  refine ⟨_, rfl, _, rfl, a, r, rows, l, rfl, hb, hR, hp, fun H1 s1 => ?_⟩
  refine ⟨_, rfl, _, rfl, _, rfl, a, r, p, rows, l, zs, rfl, hb.mono (Stay.of s1), Same.sqt s1 hR, Same.sqt s1 hP, hF, hl, hz, hlg, fun i hi H2 s2 => ?_, fun c => (hE c).mono s1⟩
  have hiw := pz_lt hF zs 0 i hF.pos hi
  have s12 := s1.trans s2
  refine ⟨_, rfl, _, rfl, a, o, rows, m, rfl, hb.mono (Stay.of s12), Same.sqt s12 hO, hpo, fun H3 s3 => ?_⟩
  have s13 := s12.trans s3
  refine ⟨_, rfl, _, rfl, _, rfl, _, rfl, a, r, i, o, rows, l, m, rfl, hb.mono (Stay.of s13), Same.sqt s13 hR, Same.sqt s13 hO, hF, by omega, hl, hpo.le, fun H4 q s4 tq => ?_⟩
  have s14 := s13.trans s4
  refine ⟨_, rfl, q, _, rfl, .inr tq, _, rfl, fun c => ⟨_, rfl, (hq i hi).1 ?_ _ _ s14 tq⟩, fun c => ((hq i hi).2 ?_).mono s14⟩
  · rw [List.length_map] at c
    show (l.take i ++ m ++ l.drop (en (wt rows l) i)).length ≤ 2000
    omega
  · rw [List.length_map] at c
    show 2000 < (l.take i ++ m ++ l.drop (en (wt rows l) i)).length
    omega
end
end Sy
namespace Sy
open PySem PySem.Spec PyProof.Rows L2
/-- a dict comprehension over any walk -/
theorem dc_it {J : It} {n : Nat} {G : Hp → Prop} {Y : Nat → Hp → V → Hp → Prop} (w : Walk J n G Y) {g : TG} {tt : TT} {tk tv : TE} {vs : List Nat} {σ : L2.St} {H1 : Hp} {D : Addr} {Qd : Hp → Prop} (Pv : Nat → Hp → Prop) (h0 : Pv 0 (upd H1 D (.dK []))) (hG : ∀ i H, i ≤ n → Pv i H → G H)
    (hs : ∀ i x H H', i < n → Pv i H → Y i H x H' → g x (wipe σ vs) H' fun σ2 H2 => wipe σ2 vs = wipe σ vs ∧ tt σ2 H2 fun b H3 =>
      if b = true then tk σ2 H3 fun y H4 => tv σ2 H4 fun z H5 => ∃ kvs k, y = kV k ∧ H5 D = some (.dK kvs) ∧ kvs.length < sizeLine ∧ Pv (i + 1) (upd H5 D (.dK (putK kvs k z))) else Pv (i + 1) H3) (hd : ∀ H, Pv n H → Qd H) :
    ∃ W : Nat → Nat → Hp → Prop, (∃ m, W 0 m (upd H1 D (.dK []))) ∧ ∀ i m H, W i m H →
      (J.stop i H ∧ Qd H) ∨ (J.go i H ∧ ∃ Nx : Hp → Prop, (∀ H', Nx H' → ∃ m', m' < m ∧ W (i + 1) m' H') ∧ ∀ x H', J.yld i H x H' → g x (wipe σ vs) H' fun σ2 H2 => wipe σ2 vs = wipe σ vs ∧ tt σ2 H2 fun b H3 =>
        if b = true then tk σ2 H3 fun y H4 => tv σ2 H4 fun z H5 => ∃ kvs k, y = kV k ∧ H5 D = some (.dK kvs) ∧ kvs.length < sizeLine ∧ Nx (upd H5 D (.dK (putK kvs k z))) else Nx H3) := by
  refine ⟨fun i m H => i + m = n ∧ Pv i H, ⟨n, Nat.zero_add n, h0⟩, fun i m H ⟨e, p⟩ => ?_⟩
  have q := hG i H (by omega) p
  cases m with
  | zero =>
    obtain rfl : i = n := by omega
    exact .inl ⟨w.stops H q, hd H p⟩
  | succ m =>
    exact .inr ⟨w.goes i H (by omega) q, Pv (i + 1), fun H' p' => ⟨m, Nat.lt_succ_self m, by omega, p'⟩, fun x H' y => hs i x H H' (by omega) p (w.yields i H x H' (by omega) q y)⟩
theorem paired_at {α β : Type} {R : α → β → Prop} : ∀ {xs : List α} {ys : List β} {i : Nat} {y : β}, Paired R xs ys → ys[i]? = some y → ∃ x, xs[i]? = some x ∧ R x y
  | _, _, i, y, .nil, h => by simp at h
  | _, _, 0, y, .cons a _, h => by
    simp at h
    subst h
    exact ⟨_, rfl, a⟩
  | _, _, i + 1, y, .cons _ b, h => by
    obtain ⟨x, h1, h2⟩ := paired_at (i := i) b (by simpa using h)
    exact ⟨x, by simpa using h1, h2⟩
theorem paired_len {α β : Type} {R : α → β → Prop} : ∀ {xs : List α} {ys : List β}, Paired R xs ys → xs.length = ys.length
  | _, _, .nil => rfl
  | _, _, .cons _ b => by rw [List.length_cons, List.length_cons, paired_len b]
def nameOk (x : Str) : Bool := decide (x.length ≤ 8) && (Txt.isascii x && (Txt.isalpha x && Txt.islower x))
def leafs (rows : List Sy.Row) : List Str := (rows.filter fun r => decide (r.2 = 0)).map (·.1)
/-- rows of which a bed is made -/
structure RowsOk (rows : List Sy.Row) : Prop where
  nm : ∀ r ∈ rows, nameOk r.1 = true
  br : ∀ r ∈ rows, r.2 ≤ 3
  nd : (rows.map (·.1)).Nodup
  lf : ∃ r ∈ rows, r.2 = 0
  le : rows.length ≤ 8
theorem lookup_none {rows : List Sy.Row} {x : Str} (h : ∀ r ∈ rows, r.1 ≠ x) : rows.lookup x = none := by
  induction rows with
  | nil => rfl
  | cons r rs ih =>
    rw [lookup_cons, if_neg (h r List.mem_cons_self)]
    exact ih fun q hq => h q (List.mem_cons_of_mem _ hq)
theorem nodup_take {rows : List Sy.Row} (nd : (rows.map (·.1)).Nodup) {i : Nat} {r : Sy.Row} (h : rows[i]? = some r) : ∀ q ∈ rows.take i, q.1 ≠ r.1 := by
  intro q hq e
  obtain ⟨j, hj, ej⟩ := List.mem_iff_getElem.mp hq
  rw [List.length_take] at hj
  rw [List.getElem_take] at ej
  obtain ⟨hi, er⟩ := List.getElem?_eq_some_iff.mp h
  have hlt : j < rows.length := by omega
  have := List.pairwise_iff_getElem.mp nd j i (by rw [List.length_map]; omega) (by rw [List.length_map]; omega) (by omega)
  rw [List.getElem_map, List.getElem_map, ej, er] at this
  exact this e
section
variable {P : Program} {w : World} {K : PySem.W.Frag} {mg : Str → Option Value} {base : Heap}
/-! only_letters, is_name -/
def spLetters : Sp := fun vs H Q _ => ∃ x : Str, vs = [.str x] ∧ Q (.bl (Txt.isascii x && (Txt.isalpha x && Txt.islower x))) H
theorem sc_letters : FnScope ["text"] ["text"] (defScope (top 37)) := ⟨rfl, rfl, rfl, by decide +kernel, rfl, by decide +kernel, by decide +kernel⟩
theorem k_letters (F : DF K mg "only_letters" 37) : Cal P w K mg base 1 "only_letters" ["text"] spLetters := by
  refine cal_of F.1 F.2 sc_letters (fun _ _ _ _ _ _ us e => match us, e with | [_], _ => rfl) (fun vs H Q E s => by obtain ⟨_, rfl, _⟩ := s; rfl) ?_
  intro cdv A outer s H vs Q E hr h
  obtain ⟨x, rfl, hq⟩ := h
  refine ⟨_, (pss_one (ps_ret (pe_and (pe_bm0 PySem.F.plainAttrs_str PySem.F.slot_str_isascii PySem.F.type_str_isascii mt_isascii (pv 0)) (pe_and (pe_bm0 PySem.F.plainAttrs_str PySem.F.slot_str_isalpha PySem.F.type_str_isalpha mt_isalpha (pv 0)) (pe_one (pe_bm0 PySem.F.plainAttrs_str PySem.F.slot_str_islower PySem.F.type_str_islower mt_islower (pv 0))))))), ?_⟩
  refine ⟨_, rfl, rfl, x, rfl, rfl, trivial, _, rfl, if_bool (fun c1 => ?_) (fun c1 => ?_)⟩
  · rw [c1] at hq
    refine ⟨_, rfl, rfl, x, rfl, rfl, trivial, _, rfl, if_bool (fun c2 => ?_) (fun c2 => ?_)⟩
    · rw [c2] at hq
      exact ⟨_, rfl, rfl, x, rfl, rfl, trivial, hq⟩
    · rw [c2] at hq
      exact hq
  · rw [c1] at hq
    exact hq
def spName : Sp := fun vs H Q _ => ∃ x : Str, vs = [.str x] ∧ x.length ≤ 1000000 ∧ Q (.bl (nameOk x)) H
theorem sc_name : FnScope ["text"] ["text"] (defScope (top 38)) := ⟨rfl, rfl, rfl, by decide +kernel, rfl, by decide +kernel, by decide +kernel⟩
theorem k_name (T : Txt K mg) (F : DF K mg "is_name" 38) (c_only_letters : Cal P w K mg base 1 "only_letters" ["text"] spLetters) : Cal P w K mg base 2 "is_name" ["text"] spName := by
  refine cal_of F.1 F.2 sc_name (fun _ _ _ _ _ _ us e => match us, e with | [_], _ => rfl) (fun vs H Q E s => by obtain ⟨_, rfl, _⟩ := s; rfl) ?_
  intro cdv A outer s H vs Q E hr h
  obtain ⟨x, rfl, hx, hq⟩ := h
  refine ⟨_, (pss_one (ps_ret (pe_and (pe_cmpR op_le (pe_callB call_len_str (by rfl) T.len (by decide +kernel) (pa_cons (pv 0) pa_nil)) (pe_gint rfl T.LONGEST_NAME) (nomark _)) (pe_one (pe_cal c_only_letters hr (pa_cons (pv 0) pa_nil)))))), ?_⟩
  have e8 : decide ((x.length : Int) ≤ 8) = decide (x.length ≤ 8) := by
    by_cases h : x.length ≤ 8
    · rw [decide_eq_true h, decide_eq_true (by omega)]
    · rw [decide_eq_false h, decide_eq_false (by omega)]
  unfold nameOk at hq
  rw [← e8] at hq
  refine ⟨_, rfl, x, rfl, by rw [sizeLine_eq]; omega, _, _, rfl, rfl, _, rfl, if_bool (fun c1 => ?_) (fun c1 => ?_)⟩
  · rw [c1] at hq
    exact ⟨_, rfl, x, rfl, hq⟩
  · rw [c1] at hq
    exact hq
/-! methods of Bed -/
structure MB (K : PySem.W.Frag) (m q : Str) (st : Stmt) : Prop where
  me : Meth K (He.ga K "Bed") m (He.ma K (He.ga K "Bed") m)
  fn : ∃ fd, FunD K m q (defArgs st) (defBody st) (defScope st) [] [] (He.ma K (He.ga K "Bed") m) fd
structure CalM (P : Program) (w : World) (K : PySem.W.Frag) (mg : Str → Option Value) (base : Heap) (k : Nat) (m : Str) (ps : List Str) (sp : Sp) : Prop where
  me : Meth K (He.ga K "Bed") m (He.ma K (He.ga K "Bed") m)
  fn : ∃ fd, FnOk P w K mg base (L2.CX P w) k (He.ma K (He.ga K "Bed") m) fd ps sp ∧ Binds K fd ps []
theorem calM_of {m q : Str} {st : Stmt} {N ps : List Str} {k : Nat} {sp : Sp} (F : MB K m q st) (S : FnScope N ps (defScope st))
    (hb : ∀ (kV doc pm : Value) (an : Option Addr) (cdv ct : Value) (us : List Value), us.length = ps.length → bindArgs (PySem.W.fnOf m q (defArgs st) (defBody st) (defScope st) .none kV doc pm an cdv ct) ⟨us, []⟩ = pure (ps.zip us))
    (len : ∀ vs H Q E, sp vs H Q E → vs.length = ps.length)
    (body : ∀ (cdv : Value) (A : Around) (outer : List Env) (s : Shared) (H : Hp) (vs : List V) (Q : VK) (E : XK), Room k (A.deeper (envOfC q (defScope st) s.heap.objs.size (He.ma K (He.ga K "Bed") m) cdv)) → sp vs H Q E →
      ∃ t, PSs (cxOf (L2.CX P w) P w K mg base N q (defScope st) (He.ma K (He.ga K "Bed") m) cdv A outer s H E) (defBody st) t ∧ t { nx := fun _ H' => Q .non H', rt := Q } (start N vs) H) : CalM P w K mg base (k + 1) m ps sp := by
  obtain ⟨me, fd, F⟩ := F
  exact ⟨me, fd, F.ok S len body, F.bindsN hb⟩
def spBranches (K : PySem.W.Frag) : Sp := fun vs H Q _ => ∃ (a : Addr) (rows : List Sy.Row) (x : Str), vs = [.ref a, .str x] ∧ BedAt K H a rows ∧ isK rows x = true ∧ Q (.int (ar rows x : Nat)) H
theorem sc_branches : FnScope ["self", "kind"] ["self", "kind"] (defScope (clb 39 4)) := ⟨rfl, rfl, rfl, by decide +kernel, rfl, by decide +kernel, by decide +kernel⟩
theorem k_branches (T : Txt K mg) (F : MB K "branches" "Bed.branches" (clb 39 4)) : CalM P w K mg base 1 "branches" ["self", "kind"] (spBranches K) := by
  refine calM_of F sc_branches (fun _ _ _ _ _ _ us e => match us, e with | [_, _], _ => rfl) (fun vs H Q E s => by obtain ⟨_, _, _, rfl, _⟩ := s; rfl) ?_
  intro cdv A outer s H vs Q E hr h
  obtain ⟨a, rows, x, rfl, hb, hk, hq⟩ := h
  have hu := hu_of hr
  obtain ⟨dx, dA, tR, tK, dR, ps, h1, hd, h3, h4, h5, h6⟩ := hb.ex
  refine ⟨_, (pss_cons (ps_if (pt_cmp (pc_dnotin hu (pv 1) (pe_fld (pv 0) rfl)))
        (pss_one ps_never)
        pss_nil)
      (pss_one (ps_ret (pe_dget hu (pe_fld (pv 0) rfl) (pv 1) (fun _ _ => rfl))))), ?_⟩
  obtain ⟨n, hn⟩ : ∃ n, rows.lookup x = some n := by
    unfold isK at hk
    cases e : rows.lookup x with
    | none => rw [e] at hk; cases hk
    | some n => exact ⟨n, rfl⟩
  have hv : valV (arKV rows) (Sum.inr x : Key) = some (.int (n : Nat)) := by rw [valV_ar, hn]; rfl
  refine ⟨_, rfl, _, rfl, a, _, dx, _, _, rfl, h1, T.bed.cl, T.bed.nA, rfl, dA, _, rfl, DGet.k (k := Sum.inr x) hd, _, rfl, ?_⟩
  rw [hv]
  refine iteF ⟨_, rfl, a, _, dx, _, _, rfl, h1, T.bed.cl, T.bed.nA, rfl, _, rfl, dA, .int (n : Nat), rfl, ?_, ?_⟩
  · rw [← hv]
    exact DGet.k (k := Sum.inr x) hd
  · rw [ar, hn] at hq
    exact hq
def spLeaves (K : PySem.W.Frag) : Sp := fun vs H Q _ => ∃ (a : Addr) (rows : List Sy.Row), vs = [.ref a] ∧ BedAt K H a rows ∧ rows.length ≤ 1000 ∧ ∀ H' p, Same H H' → SqT K H' p ((leafs rows).map V.str) → Q (.ref p) H'
abbrev N_leaves : List Str := ["self", "name", "branches"]
theorem sc_leaves : FnScope N_leaves ["self"] (defScope (clb 39 3)) := ⟨rfl, rfl, rfl, by decide +kernel, rfl, by decide +kernel, by decide +kernel⟩
theorem k_leaves (T : Txt K mg) (F : MB K "leaves" "Bed.leaves" (clb 39 3)) : CalM P w K mg base 1 "leaves" ["self"] (spLeaves K) := by
  refine calM_of F sc_leaves (fun _ _ _ _ _ _ us e => match us, e with | [_], _ => rfl) (fun vs H Q E s => by obtain ⟨_, _, rfl, _⟩ := s; rfl) ?_
  intro cdv A outer s H vs Q E hr h
  obtain ⟨a, rows, rfl, hb, hl, hq⟩ := h
  have sc := sc_leaves
  obtain ⟨dx, dA, tR, tK, dR, ps, h1, hd, h3, h4, h5, h6⟩ := hb.ex
  have hpl := paired_len h6
  refine ⟨_, (pss_one (ps_ret (pe_callTy call_tuple_of (by rfl) T.tuple (by decide +kernel) (pa_cons (pe_lc (own := [("name", 1), ("branches", 2)]) (g := gTup K 2 (gCons (gName 1) (gCons (gName 2) (gNil)))) rfl sc.nd (pi_tup (pe_fld (pv 0) rfl)) (blkOk_by (N := N_leaves) (sc := defScope (clb 39 3)) (by decide +kernel)) (fun _ _ _ _ _ => (pg_tup rfl (pgs_cons (pg_name (i := 1) sc.nd rfl (Or.inl rfl)) (pgs_cons (pg_name (i := 2) sc.nd rfl (Or.inl rfl)) pgs_nil)))) (fun _ _ _ _ _ => (pts_one (pt_cmpR op_eq (pv 2) pe_int (nomark _)))) (fun _ _ _ _ _ => (pv 1))) pa_nil)))), ?_⟩
  refine ⟨_, rfl, a, _, dx, _, _, rfl, h1, T.bed.cl, T.bed.nR, rfl, tR, rfl, ⟨_, h4⟩, fun D hD => lc_it walk_tup (fun i H' => Hs H [(D, .lst ((leafs (rows.take i)).map V.str))] H') ((Hs.start H).new hD) (fun _ _ _ p => Same.sqt p.sub h4) ?_ ?_⟩
  · rintro i x H' _ hi hh ⟨rfl, hx⟩
    rw [List.length_map, hpl] at hi
    obtain ⟨r, hr'⟩ : ∃ r, rows[i]? = some r := ⟨_, List.getElem?_eq_getElem hi⟩
    obtain ⟨q, e1, tq⟩ := paired_at h6 hr'
    rw [List.getElem?_map, e1] at hx
    cases hx
    have etk : rows.take (i + 1) = rows.take i ++ [r] := by rw [List.take_succ, hr']; rfl
    have ll : (leafs (rows.take i)).length ≤ 1000 := by
      unfold leafs
      rw [List.length_map]
      have := List.length_filter_le (fun r : Sy.Row => decide (r.2 = 0)) (rows.take i)
      rw [List.length_take] at this
      omega
    refine ⟨q, _, rfl, Same.sqt hh.sub tq, rfl, _, _, rfl, _, _, rfl, rfl, rfl, _, rfl, rfl, _, rfl, if_dec (fun c => ?_) (fun c => ?_)⟩
    · refine ⟨_, rfl, _, hh.r0, by rw [List.length_map, sizeLine_eq]; omega, ?_⟩
      have c2 : r.2 = 0 := by
        have := V.int.inj c
        omega
      have : leafs (rows.take (i + 1)) = leafs (rows.take i) ++ [r.1] := by
        unfold leafs
        rw [etk, List.filter_append, List.map_append]
        simp [c2]
      rw [this, List.map_append]
      exact hh.w0
    · have c2 : ¬ r.2 = 0 := fun z => c (by rw [z]; rfl)
      have : leafs (rows.take (i + 1)) = leafs (rows.take i) := by
        unfold leafs
        rw [etk, List.filter_append, List.map_append]
        simp [c2]
      rw [this]
      exact hh
  · intro H' hh
    rw [List.length_map, hpl, List.take_length] at hh
    exact ⟨D, _, rfl, .inl ⟨SqL.of hh.r0, fun l hl => hq _ _ (hh.sub.trans (up_same hl)) (SqT.of upd_same)⟩⟩
end
end Sy
namespace Sy
open PySem PySem.Spec PyProof.Rows L2
section
variable {P : Program} {w : World} {K : PySem.W.Frag} {mg : Str → Option Value} {base : Heap}
/-- what a def with a star asks, by what its body asks -/
def spStar (n : Nat) (sp : Sp) : Sp := fun vs H Q E => ∃ ws rest, vs = ws ++ rest ∧ ws.length = n ∧ rest.length ≤ sizeLine ∧ ∀ p, H p = Option.none → sp (ws ++ [V.ref p]) (upd H p (.tup rest)) Q E
theorem fnR_of {x q pv : Str} {st : Stmt} {f : Addr} {fd : FuncData} {N ps : List Str} {k : Nat} {sp : Sp} (F : FunD K x q (defArgs st) (defBody st) (defScope st) [] [] f fd) (S : FnScope N (ps ++ [pv]) (defScope st))
    (hb : ∀ (kV doc pm : Value) (an : Option Addr) (cdv ct : Value) (us rest : List Value), us.length = ps.length → bindArgs (PySem.W.fnOf x q (defArgs st) (defBody st) (defScope st) .none kV doc pm an cdv ct) ⟨us ++ rest, []⟩ = (newTuple rest >>= fun t => pure (ps.zip us ++ [(pv, t)])))
    (body : ∀ (cdv : Value) (A : Around) (outer : List Env) (s : Shared) (H : Hp) (vs : List V) (Q : VK) (E : XK), Room k (A.deeper (envOfC q (defScope st) s.heap.objs.size f cdv)) → sp vs H Q E →
      ∃ t, PSs (cxOf (L2.CX P w) P w K mg base N q (defScope st) f cdv A outer s H E) (defBody st) t ∧ t { nx := fun _ H' => Q .non H', rt := Q } (start N vs) H) : FnR P w K mg base (L2.CX P w) (k + 1) f (spStar ps.length sp) := by
  obtain ⟨oc, od, dV, kV, doc, pm, an, cdv, ct, osl, rfl, lk, hcd, hD, hK⟩ := F.ex
  rcases hD with ⟨_, rfl⟩ | ⟨e, _⟩
  · exact StX.fn_star lk hcd S StX.cxUp (hb kV doc pm an cdv ct) fun A outer s H vs Q E hr h => body cdv A outer s H vs Q E hr h
  · exact absurd rfl e
/-! Bed.__init__ -/
def spInitB (K : PySem.W.Frag) : Sp := fun vs H Q _ => ∃ (x p dx : Addr) (ps : List Addr) (rows : List Sy.Row), vs = [.ref x, .ref p] ∧ H x = some (.ins (He.ga K "Bed") dx []) ∧ SqT K H p (ps.map V.ref) ∧ Paired (fun q (r : Sy.Row) => SqT K H q [.str r.1, .int (r.2 : Nat)]) ps rows ∧ RowsOk rows ∧
  ∀ H', (∀ a o, a ≠ x → H a = some o → H' a = some o) → BedAt K H' x rows → Q .non H'
abbrev N_init : List Str := ["self", "kinds", "place", "name", "branches", "rank"]
theorem sc_init : FnScope N_init ((["self"] : List Str) ++ (["kinds"] : List Str)) (defScope (clb 39 0)) := ⟨rfl, rfl, rfl, by decide +kernel, rfl, by decide +kernel, by decide +kernel⟩
theorem sqt_del {H : Hp} {x p C dx : Addr} {fs : List (Str × V)} {xs : List V} (h : SqT K H p xs) (hx : H x = some (.ins C dx fs)) : SqT K (L2.del H x) p xs := by
  have ne : ∀ o, H p = some o → (∀ C dx fs, o ≠ .ins C dx fs) → p ≠ x := fun o e n z => by
    rw [z, hx] at e
    exact n _ _ _ (Option.some.inj e).symm
  rcases h with (h | ⟨o, h⟩) | h
  · exact .inl (.inl (by rw [del_ne (ne _ h fun _ _ _ z => by cases z)]; exact h))
  · exact .inl (.inr ⟨o, by rw [del_ne (ne _ h fun _ _ _ z => by cases z)]; exact h⟩)
  · exact .inr h
theorem nx_le (x : Str) (h : nameOk x = true) : x.length ≤ 8 := by
  unfold nameOk at h
  exact of_decide_eq_true (Bool.and_eq_true_iff.mp h).1
theorem rkKV_snoc : ∀ (l : List Sy.Row) (n : Nat) (r : Sy.Row), rkKV n (l ++ [r]) = rkKV n l ++ [(Sum.inr r.1, V.int ((n + l.length : Nat) : Int))]
  | [], n, r => rfl
  | q :: l, n, r => by
    show (Sum.inr q.1, V.int (n : Nat)) :: rkKV (n + 1) (l ++ [r]) = _
    rw [rkKV_snoc l (n + 1) r, show n + 1 + l.length = n + (q :: l).length by rw [List.length_cons]; omega]
    rfl
theorem rkKV_len : ∀ (l : List Sy.Row) (n : Nat), (rkKV n l).length = l.length
  | [], _ => rfl
  | q :: l, n => by
    show (rkKV (n + 1) l).length + 1 = _
    rw [rkKV_len l (n + 1)]
    rfl
theorem rk_none : ∀ {l : List Sy.Row} {n : Nat} {x : Str}, (∀ q ∈ l, q.1 ≠ x) → rk n l x = none
  | [], _, _, _ => rfl
  | q :: l, n, x, h => by
    rw [rk, if_neg (h q List.mem_cons_self)]
    exact rk_none fun z hz => h z (List.mem_cons_of_mem _ hz)
theorem leafs_pos {rows : List Sy.Row} (h : ∃ r ∈ rows, r.2 = 0) : 0 < (leafs rows).length := by
  obtain ⟨r, hr, e⟩ := h
  unfold leafs
  rw [List.length_map]
  exact List.length_pos_of_mem (List.mem_filter.mpr ⟨hr, decide_eq_true e⟩)
theorem r_init (T : Txt K mg) (F : MB K "__init__" "Bed.__init__" (clb 39 0)) (c_is_name : Cal P w K mg base 2 "is_name" ["text"] spName) (c_leaves : CalM P w K mg base 1 "leaves" ["self"] (spLeaves K)) :
    FnR P w K mg base (L2.CX P w) 3 (He.ma K (He.ga K "Bed") "__init__") (spStar 1 (spInitB K)) := by
  obtain ⟨me, fd, F⟩ := F
  obtain ⟨mL, fL, FL, BL⟩ := c_leaves
  refine fnR_of (ps := ["self"]) F sc_init (fun kV doc pm an cdv ct => StX.bind_star1 (B := fun l => bindArgs (PySem.W.fnOf "__init__" "Bed.__init__" (defArgs (clb 39 0)) (defBody (clb 39 0)) (defScope (clb 39 0)) .none kV doc pm an cdv ct) ⟨l, []⟩) (fun _ => rfl) (fun _ _ _ => rfl)) ?_
  intro cdv A outer s H vs Q E hr h
  obtain ⟨x, p, dx, ps, rows, rfl, hx, hp, hpr, ok, hq⟩ := h
  have hu := hu_of hr
  have sc := sc_init
  refine ⟨_, (pss_cons (ps_if (pt_cmpR op_gt (pe_callB call_len_seq (by rfl) T.len (by decide +kernel) (pa_cons (pv 1) pa_nil)) (pe_gint rfl T.MOST_KINDS) (nomark _))
        (pss_one ps_never)
        pss_nil)
      (pss_cons (ps_fld (pv 0) pe_dnewK rfl)
      (pss_cons (ps_for (passes_of rfl) rfl (pi_enumT (by rfl) T.enumerate (pa_cons (pv 1) pa_nil)) (pg_tup rfl (pgs_cons (pg_name (i := 2) sc.nd rfl (Or.inl rfl)) (pgs_cons (pg_tup rfl (pgs_cons (pg_name (i := 3) sc.nd rfl (Or.inl rfl)) (pgs_cons (pg_name (i := 4) sc.nd rfl (Or.inl rfl)) pgs_nil))) pgs_nil)))
        (pss_cons (ps_if (pt_not (pt_val (pe_cal c_is_name hr (pa_cons (pv 3) pa_nil))))
          (pss_one ps_never)
          pss_nil)
        (pss_cons (ps_if (PW.pt (pw_or (pt_cmpR op_lt (pv 4) pe_int (nomark _)) (pw_or1 (pt_cmpR op_gt (pv 4) (pe_gint rfl T.MOST_BRANCHES) (nomark _)))))
          (pss_one ps_never)
          pss_nil)
        (pss_cons (ps_if (pt_cmp (pc_din hu (pv 3) (pe_fld (pv 0) rfl)))
          (pss_one ps_never)
          pss_nil)
        (pss_one (ps_dput hu (pe_fld (pv 0) rfl) (pv 3) (pv 4) rfl))))))
      (pss_cons (ps_fld (pv 0) (pe_callTy call_tuple_of (by rfl) T.tuple (by decide +kernel) (pa_cons (pv 1) pa_nil)) rfl)
      (pss_cons (ps_fld (pv 0) (pe_callTy call_tuple_of (by rfl) T.tuple (by decide +kernel) (pa_cons (pe_lc (own := [("name", 3), ("branches", 4)]) (g := gTup K 2 (gCons (gName 3) (gCons (gName 4) (gNil)))) rfl sc.nd (pi_tup (pv 1)) (blkOk_by (N := N_init) (sc := defScope (clb 39 0)) (by decide +kernel)) (fun _ _ _ _ _ => (pg_tup rfl (pgs_cons (pg_name (i := 3) sc.nd rfl (Or.inl rfl)) (pgs_cons (pg_name (i := 4) sc.nd rfl (Or.inl rfl)) pgs_nil)))) (fun _ _ _ _ _ => pts_nil) (fun _ _ _ _ _ => (pv 3))) pa_nil)) rfl)
      (pss_cons (ps_fld (pv 0) (pe_dc (own := [("rank", 5), ("name", 3)]) (g := gTup K 2 (gCons (gName 5) (gCons (gName 3) (gNil)))) rfl sc.nd (pi_enumT (by rfl) T.enumerate (pa_cons (pe_fld (pv 0) rfl) pa_nil)) (blkOk_by (N := N_init) (sc := defScope (clb 39 0)) (by decide +kernel)) (fun _ _ _ _ _ => (pg_tup rfl (pgs_cons (pg_name (i := 5) sc.nd rfl (Or.inl rfl)) (pgs_cons (pg_name (i := 3) sc.nd rfl (Or.inl rfl)) pgs_nil)))) (fun _ _ _ _ _ => pts_nil) (fun _ _ _ _ _ => (pv 3)) (fun _ _ _ _ _ => (pv 5))) rfl)
      (pss_one (ps_if (pt_cmpR op_eq (pe_callB call_len_seq (by rfl) T.len (by decide +kernel) (pa_cons (pe_meth0 (pv 0) T.bed.cl mL FL (hr.mono (by decide)) BL .nil (E := E0) (fun pins σ H s e s' I h => passL pins σ H s e s' I h)) pa_nil)) pe_int (nomark _))
        (pss_one ps_never)
        pss_nil)))))))), ?_⟩
  have hpl := paired_len hpr
  have hle := ok.le
  -- known for good: all but the new object
  have k0 : Hs (L2.del H x) [(x, .ins (He.ga K "Bed") dx [])] H := (Hs.start H).take hx
  have hp0 := sqt_del hp hx
  have hpr0 : Paired (fun q (r : Sy.Row) => SqT K (L2.del H x) q [.str r.1, .int (r.2 : Nat)]) ps rows := Paired.mapP hpr fun _ _ z => sqt_del z hx
  generalize hB : L2.del H x = B at *
  refine ⟨_, rfl, p, _, rfl, .inr hp, _, _, rfl, rfl, _, rfl, ?_⟩
  rw [List.length_map, hpl, decide_eq_false (by omega)]
  refine iteF fun d hd => ?_
  have k1 := k0.new (o := .dK []) hd
  refine ⟨_, rfl, x, _, dx, _, rfl, k1.r1, T.bed.cl, T.bed.nA, by decide, ?_⟩
  have k2 := k1.w1 (o' := .ins (He.ga K "Bed") dx (putF "arities" (.ref d) []))
  refine ⟨_, rfl, p, _, rfl, Same.sqt k2.sub hp0, for_it walkE (fun i σ H' => ∃ t2 t3 t4, σ = [some (.ref x), some (.ref p), t2, t3, t4, none] ∧ Hs B [(d, .dK (arKV (rows.take i))), (x, .ins (He.ga K "Bed") dx [("arities", .ref d)])] H') ⟨none, none, none, rfl, k2⟩ (fun _ _ _ _ ⟨_, _, _, _, z⟩ => Same.sqt z.sub hp0) ?_ ?_⟩
  · rintro i v σ H1 H2 hi ⟨t2, t3, t4, rfl, hh⟩ ⟨T1, u1, u2, rfl, hT, rfl, e1, e2⟩
    cases e1
    rw [List.length_map, hpl] at hi
    obtain ⟨r, hr'⟩ : ∃ r, rows[i]? = some r := ⟨_, List.getElem?_eq_getElem hi⟩
    obtain ⟨q, eq, tq⟩ := paired_at hpr0 hr'
    have e2 : (ps.map V.ref)[i]? = some u2 := e2
    rw [List.getElem?_map, eq] at e2
    cases e2
    have hm := List.mem_of_getElem? hr'
    have hh := hh.lay (o := .tup [.int (i : Nat), .ref q]) hT
    have hnone : ∀ z ∈ rows.take i, z.1 ≠ r.1 := nodup_take ok.nd hr'
    have vn : valV (arKV (rows.take i)) (Sum.inr r.1 : Key) = none := by rw [valV_ar, lookup_none hnone]; rfl
    have hbr := ok.br r hm
    have hnm := ok.nm r hm
    have etk : rows.take (i + 1) = rows.take i ++ [r] := by rw [List.take_succ, hr']; rfl
    refine ⟨T1, _, rfl, SqT.of upd_same, rfl, _, _, rfl, _, _, rfl, q, _, rfl, Same.sqt hh.sub tq, rfl, _, _, rfl, _, _, rfl, rfl, rfl, ?_⟩
    refine ⟨_, rfl, r.1, rfl, Nat.le_trans (nx_le _ hnm) (by decide), _, rfl, ?_⟩
    rw [hnm]
    refine iteF ⟨_, rfl, _, _, rfl, rfl, _, rfl, ?_⟩
    rw [decide_eq_false (by omega)]
    refine iteF ⟨_, rfl, _, _, rfl, rfl, _, rfl, ?_⟩
    rw [decide_eq_false (by omega)]
    refine iteF ⟨_, rfl, _, rfl, x, _, dx, _, _, rfl, hh.r1, T.bed.cl, T.bed.nA, rfl, d, _, rfl, DGet.k (k := Sum.inr r.1) hh.r0, _, rfl, ?_⟩
    rw [vn]
    refine iteF ⟨_, rfl, _, rfl, x, _, dx, _, _, rfl, hh.r1, T.bed.cl, T.bed.nA, rfl, _, rfl, d, _, rfl, DPut.k (k := Sum.inr r.1) hh.r0 (by unfold arKV; rw [List.length_map, List.length_take, sizeLine_eq]; omega), ?_⟩
    refine ⟨_, _, _, rfl, ?_⟩
    rw [putK_new _ vn, etk]
    unfold arKV
    rw [List.map_append]
    exact hh.w0
  · rintro σ H1 ⟨t2, t3, t4, rfl, hh⟩
    rw [List.length_map, hpl, List.take_length] at hh
    -- rows
    refine ⟨_, rfl, p, _, rfl, .inr ⟨Same.sqt hh.sub hp0, ?_⟩⟩
    refine ⟨_, rfl, x, _, dx, _, rfl, hh.r1, T.bed.cl, T.bed.nR, (by show 1 < 1000; decide), ?_⟩
    have k3 := hh.w1 (o' := .ins (He.ga K "Bed") dx [("arities", .ref d), ("rows", .ref p)])
    -- kinds
    refine ⟨_, rfl, p, rfl, ⟨_, Same.sqt k3.sub hp0⟩, fun D hD => lc_it walk_tup (fun i H' => Hs B [(D, .lst ((rows.take i).map fun r => V.str r.1)), (d, .dK (arKV rows)), (x, .ins (He.ga K "Bed") dx [("arities", .ref d), ("rows", .ref p)])] H') (k3.new hD) (fun _ _ _ z => Same.sqt z.sub hp0) ?_ ?_⟩
    · rintro i v H1 _ hi hh ⟨rfl, hv⟩
      rw [List.length_map, hpl] at hi
      obtain ⟨r, hr'⟩ : ∃ r, rows[i]? = some r := ⟨_, List.getElem?_eq_getElem hi⟩
      obtain ⟨q, eq, tq⟩ := paired_at hpr0 hr'
      rw [List.getElem?_map, eq] at hv
      cases hv
      refine ⟨q, _, rfl, Same.sqt hh.sub tq, rfl, _, _, rfl, _, _, rfl, rfl, rfl, ?_⟩
      simp only [tYes, if_true]
      refine ⟨_, rfl, _, hh.r0, by rw [List.length_map, List.length_take, sizeLine_eq]; omega, ?_⟩
      rw [List.take_succ, hr', List.map_append]
      exact hh.w0
    intro H2 hh
    rw [List.length_map, hpl, List.take_length] at hh
    refine ⟨D, _, rfl, .inl ⟨SqL.of hh.r0, fun tK hK => ?_⟩⟩
    have k4 := (hh.drop).new (o := .tup (rows.map fun r => V.str r.1)) hK
    refine ⟨_, rfl, x, _, dx, _, rfl, k4.r2, T.bed.cl, T.bed.nK, (by show 2 < 1000; decide), ?_⟩
    have k5 := k4.w2 (o' := .ins (He.ga K "Bed") dx [("arities", .ref d), ("rows", .ref p), ("kinds", .ref tK)])
    -- ranks
    refine ⟨_, rfl, x, _, dx, _, _, rfl, k5.r2, T.bed.cl, T.bed.nK, rfl, tK, _, rfl, SqT.of k5.r0, fun R hR => dc_it walkE (fun i H' => Hs B [(R, .dK (rkKV 0 (rows.take i))), (tK, .tup (rows.map fun r => V.str r.1)), (d, .dK (arKV rows)), (x, .ins (He.ga K "Bed") dx [("arities", .ref d), ("rows", .ref p), ("kinds", .ref tK)])] H') (k5.new hR) (fun _ _ _ z => SqT.of z.r1) ?_ ?_⟩
    · rintro i v H1 H2 hi hh ⟨T1, u1, u2, rfl, hT, rfl, e1, e2⟩
      cases e1
      rw [List.length_map] at hi
      obtain ⟨r, hr'⟩ : ∃ r, rows[i]? = some r := ⟨_, List.getElem?_eq_getElem hi⟩
      have e2 : (rows.map fun r => V.str r.1)[i]? = some u2 := e2
      rw [List.getElem?_map, hr'] at e2
      cases e2
      have hh := hh.lay (o := .tup [.int (i : Nat), .str r.1]) hT
      have vn : valV (rkKV 0 (rows.take i)) (Sum.inr r.1 : Key) = none := by rw [valV_rk, rk_none (nodup_take ok.nd hr')]; rfl
      refine ⟨T1, _, rfl, SqT.of upd_same, rfl, _, _, rfl, _, _, rfl, rfl, rfl, ?_⟩
      simp only [tYes, if_true]
      refine ⟨_, rfl, _, rfl, _, Sum.inr r.1, rfl, hh.r0, by rw [rkKV_len, List.length_take, sizeLine_eq]; omega, ?_⟩
      rw [putK_new _ vn, List.take_succ, hr']
      show Hs B [(R, .dK (rkKV 0 (rows.take i ++ [r]))), _, _, _] _
      rw [rkKV_snoc, List.length_take, show 0 + min i rows.length = i by omega]
      exact hh.w0
    intro H3 hh
    rw [List.length_map, List.take_length] at hh
    refine ⟨_, rfl, x, _, dx, _, rfl, hh.r3, T.bed.cl, T.bed.nRk, (by show 3 < 1000; decide), ?_⟩
    generalize hH4 : upd H3 x (.ins (He.ga K "Bed") dx (putF "ranks" (.ref R) [("arities", .ref d), ("rows", .ref p), ("kinds", .ref tK)])) = H4
    have hx4 : H4 x = some (.ins (He.ga K "Bed") dx (bedF d p tK R)) := by rw [← hH4]; exact upd_same
    have nx : ∀ a o, a ≠ x → H3 a = some o → H4 a = some o := fun a o n e => by rw [← hH4, upd_ne n]; exact e
    have sB : Same B H4 := fun a o e => nx a o (fun z => by rw [z, ← hB, del_same] at e; cases e) (hh.sub a o e)
    have nK : tK ≠ x := ne_of hh.r1 hh.r3 (by intro z; cases z)
    have nd : d ≠ x := ne_of hh.r2 hh.r3 (by intro z; cases z)
    have nR : R ≠ x := ne_of hh.r0 hh.r3 (by intro z; cases z)
    have bed : BedAt K H4 x rows := ⟨dx, d, p, tK, R, ps, hx4, nx _ _ nd hh.r2, nx _ _ nR hh.r0, Same.sqt sB hp0, SqT.of (nx _ _ nK hh.r1), Paired.mapP hpr0 fun _ _ z => Same.sqt sB z⟩
    refine ⟨_, rfl, x, dx, _, rfl, hx4, rfl, x, rows, rfl, bed, by omega, fun H5 t s5 ht => ?_⟩
    refine ⟨t, _, rfl, .inr ht, rfl, _, rfl, ?_⟩
    have := leafs_pos ok.lf
    rw [List.length_map, decide_eq_false (fun z => by have := V.int.inj z; omega)]
    refine iteF (hq _ (fun a o n e => ?_) (bed.mono (Stay.of s5)))
    refine s5 _ _ (sB _ _ ?_)
    rw [← hB, del_ne n]
    exact e
end
end Sy
namespace Sy
open PySem PySem.Spec PyProof.Rows L2
section
variable {P : Program} {w : World} {K : PySem.W.Frag} {mg : Str → Option Value} {base : Heap}
structure CalR (P : Program) (w : World) (K : PySem.W.Frag) (mg : Str → Option Value) (base : Heap) (k : Nat) (x : Str) (sp : Sp) : Prop where
  fn : FnR P w K mg base (L2.CX P w) k (He.ga K x) sp
  at_ : mg x = some (.ref (He.ga K x))
  kp : PySem.W.keepIn K (.ref (He.ga K x)) = true
/-- f(..), f with a star -/
theorem pe_calR {X : Cx} {k j : Nat} {x : Str} {sp : Sp} {p pos : Pos} {e : Expr} {es : List Expr} {t : TA} {E : XK} (c : CalR X.prog X.w X.K X.mg X.base j x sp) (hr : Room k X.A) (tk : Takes X (fun cls d _ H => E cls d H)) (ha : PA X (e :: es) t) (hk : j ≤ k := by decide) (hg : Gl X x := by rfl) (hdb : (x == ("__debug__" : Str)) = false := by decide)
    (he : starEach (e :: es) X.env = (false, eval e X.env) :: starEach es X.env := by rfl) (hpl : (backTo pos (starEach es X.env)).any (·.1) = false := by rfl) : PE X (.Call (.Name x p) (e :: es) [] pos) (fun σ H Q => t σ H fun vs H1 => sp vs H1 Q E) := by
  constructor
  intro pins s σ H Q I h
  refine wpAny_Call_Name_kw (ld_glob I hg c.at_ ?_ hdb)
  refine PySem.W.callWith_K (h₀ := X.base) I.ok.mod.kin c.kp (thn (ha.run pos pins s σ H _ I h) fun us s1 ⟨vs, H1, I1, r, q⟩ => ⟨I1.kIn, ?_⟩) he hpl
  exact wpAny_call (run_fnR c.fn (hr.mono hk) (fun pins σ H s e s' I h => passAt tk σ pins H s e s' I h) I1 r q)
/-- a bed is made -/
theorem pe_bed {X : Cx} {k : Nat} {p pos : Pos} {e : Expr} {es : List Expr} {t : TA} (M : Mk X.K (He.ga X.K "Bed") (He.ma X.K (He.ga X.K "Bed") "__init__")) (at_ : X.mg "Bed" = some (.ref (He.ga X.K "Bed")))
    (F : FnR X.prog X.w X.K X.mg X.base (L2.CX X.prog X.w) 3 (He.ma X.K (He.ga X.K "Bed") "__init__") (spStar 1 (spInitB X.K))) (hr : Room k X.A) (ha : PA X (e :: es) t) (hk : 4 ≤ k := by decide) (hg : Gl X "Bed" := by rfl)
    (he : starEach (e :: es) X.env = (false, eval e X.env) :: starEach es X.env := by rfl) (hpl : (backTo pos (starEach es X.env)).any (·.1) = false := by rfl) : PE X (.Call (.Name "Bed" p) (e :: es) [] pos) (StX.tMakeR (He.ga X.K "Bed") (spStar 1 (spInitB X.K)) E0 t) :=
  StX.pe_makeR M F (hr.mono hk) hg at_ (fun pins σ H s e s' I h => passL pins σ H s e s' I h) ha (by decide) he hpl
/-- what making it asks -/
theorem bed_of {vs : List V} {H : Hp} {Q : VK} {ps : List Addr} {rows : List Sy.Row} (ev : vs = ps.map V.ref) (hp : Paired (fun q (r : Sy.Row) => SqT K H q [.str r.1, .int (r.2 : Nat)]) ps rows) (ok : RowsOk rows) (h : ∀ H' a, Same H H' → BedAt K H' a rows → Q (.ref a) H') :
    ∀ x dx, H x = Option.none → H dx = Option.none → dx ≠ x → spStar 1 (spInitB K) (V.ref x :: vs) (upd (upd H dx (.own x)) x (.ins (He.ga K "Bed") dx [])) (fun v H2 => v = .non ∧ Q (.ref x) H2) E0 := by
  intro x dx hx hdx ne
  subst ev
  have hpl := paired_len hp
  have hle := ok.le
  have s1 : Same H (upd H dx (.own x)) := up_same hdx
  have hx1 : (upd H dx (.own x)) x = none := by rw [upd_ne ne.symm]; exact hx
  have s2 : Same H (upd (upd H dx (.own x)) x (.ins (He.ga K "Bed") dx [])) := s1.trans (up_same hx1)
  refine ⟨[.ref x], ps.map V.ref, rfl, rfl, by rw [List.length_map, sizeLine_eq]; omega, fun p hp' => ?_⟩
  have s3 := s2.trans (up_same (o := .tup (ps.map V.ref)) hp')
  have nx : x ≠ p := fun z => by rw [← z, upd_same] at hp'; cases hp'
  refine ⟨x, p, dx, ps, rows, rfl, by rw [upd_ne nx]; exact upd_same, SqT.of upd_same, Paired.mapP hp fun _ _ z => Same.sqt s3 z, ok, fun H' keep bed => ⟨rfl, h H' x (fun b o e => keep b o (fun z => ?_) (s3 _ _ e)) bed⟩⟩
  rw [z, hx] at e
  cases e
/-! planted -/
def spPlanted (K : PySem.W.Frag) : Sp := fun vs H Q E => ∃ (a b : Addr) (x : Str) (rows : List Sy.Row) (bs : List Addr) (ls : List (List Str)), vs = [.ref a, .str x, .ref b] ∧ BedAt K H a rows ∧ isK rows x = true ∧ SqT K H b (bs.map V.ref) ∧ Paired (fun q (l : List Str) => SqT K H q (l.map V.str)) bs ls ∧ (∀ l ∈ ls, Pln rows l) ∧ ls.length = ar rows x ∧ ls.length ≤ 100 ∧
  ((x :: ls.flatten).length ≤ 2000 → ∀ H' p, Same H H' → SqT K H' p ((x :: ls.flatten).map V.str) → Q (.ref p) H') ∧ (2000 < (x :: ls.flatten).length → Ra K "TooMany" [("limit", .int 2000), ("what", .str "knots")] H E)
abbrev N_planted : List Str := ["bed", "kind", "below", "wanted", "result", "plant"]
theorem sc_planted : FnScope N_planted ((["bed", "kind"] : List Str) ++ (["below"] : List Str)) (defScope (top 30)) := ⟨rfl, rfl, rfl, by decide +kernel, rfl, by decide +kernel, by decide +kernel⟩
theorem flat_le {rows : List Sy.Row} : ∀ {ls : List (List Str)}, (∀ l ∈ ls, Pln rows l) → ls.flatten.length ≤ 2000 * ls.length
  | [], _ => Nat.zero_le _
  | l :: ls, h => by
    have a := (h l List.mem_cons_self).le
    have b := flat_le fun z hz => h z (List.mem_cons_of_mem l hz)
    rw [List.flatten_cons, List.length_append, List.length_cons]
    omega
theorem r_planted (T : Txt K mg) (F : DF K mg "planted" 30) (c_branches : CalM P w K mg base 1 "branches" ["self", "kind"] (spBranches K)) (c_check_plant : Cal P w K mg base 4 "check_plant" ["bed", "plant"] (spCheck K)) (c_check_count : Cal P w K mg base 3 "check_count" ["number"] (spCount K)) :
    CalR P w K mg base 5 "planted" (spStar 2 (spPlanted K)) := by
  obtain ⟨⟨fd, F⟩, at_⟩ := F
  obtain ⟨mB, fB, FB, BB⟩ := c_branches
  refine ⟨fnR_of (ps := ["bed", "kind"]) F sc_planted (fun kV doc pm an cdv ct => StX.bind_star2 (B := fun l => bindArgs (PySem.W.fnOf "planted" "planted" (defArgs (top 30)) (defBody (top 30)) (defScope (top 30)) .none kV doc pm an cdv ct) ⟨l, []⟩) (fun _ _ => rfl) (fun _ _ _ _ => rfl)) ?_, at_, F.kp⟩
  intro cdv A outer s H vs Q E hr h
  obtain ⟨a, b, x, rows, bs, ls, rfl, hb, hk, hB, hP, hpl, hl, hl2, hq, hE⟩ := h
  have hu := hu_of hr
  have sc := sc_planted
  refine ⟨_, (pss_cons (ps_set (i := 3) sc.nd rfl (Or.inl rfl) (pe_meth (pv 0) T.bed.cl mB FB (hr.mono (by decide)) BB .nil (E := E0) (fun pins σ H s e s' I h => passL pins σ H s e s' I h) (pa_cons (pv 1) pa_nil)))
      (pss_cons (ps_if (pt_cmpR op_ne (pe_callB call_len_seq (by rfl) T.len (by decide +kernel) (pa_cons (pv 2) pa_nil)) (pv 3) (nomark _))
        (pss_one ps_never)
        pss_nil)
      (pss_cons (ps_set (i := 4) sc.nd rfl (Or.inl rfl) (pe_lst (pa_cons (pv 1) pa_nil)))
      (pss_cons (ps_for (passes_of rfl) rfl (pi_tup (pv 2)) (pg_name (i := 5) sc.nd rfl (Or.inl rfl))
        (pss_cons (ps_expr (pe_calX c_check_plant hr (takes_of rfl rfl rfl rfl) (pa_cons (pv 0) (pa_cons (pv 5) pa_nil))))
        (pss_one (ps_expr (pe_bm PySem.F.plainAttrs_list PySem.F.slot_list_extend PySem.F.type_list_extend mt_extend (pv 4) (pa_cons (pe_callTy call_list_of (by rfl) T.list (by decide +kernel) (pa_cons (pv 5) pa_nil)) pa_nil))))))
      (pss_cons (ps_expr (pe_calX c_check_count hr (takes_of rfl rfl rfl rfl) (pa_cons (pe_callB call_len_seq (by rfl) T.len (by decide +kernel) (pa_cons (pv 4) pa_nil)) pa_nil)))
      (pss_one (ps_ret (pe_callTy call_tuple_of (by rfl) T.tuple (by decide +kernel) (pa_cons (pv 4) pa_nil))))))))), ?_⟩
  have hbl := paired_len hP
  obtain ⟨dx, dA, tR, tK, dR, pp, h1, hd, h3, h4, h5, h6⟩ := id hb.ex
  refine ⟨_, rfl, a, dx, _, rfl, h1, rfl, _, rfl, a, rows, x, rfl, hb, hk, ?_⟩
  refine ⟨_, rfl, b, _, rfl, .inr hB, _, rfl, rfl, _, rfl, ?_⟩
  rw [List.length_map, hbl, hl, decide_eq_true rfl]
  refine iteF ⟨_, rfl, (by show 1 ≤ sizeLine; decide), fun D hD => ?_⟩
  have k1 := (Hs.start H).new (o := .lst [.str x]) hD
  have hfl := flat_le hpl
  refine ⟨_, rfl, b, rfl, ⟨_, Same.sqt k1.sub hB⟩, for_tup (K := K) (a := b) (xs := bs.map V.ref) (fun i σ H' => ∃ t5 B, σ = [some (.ref a), some (.str x), some (.ref b), some (.int (ar rows x : Nat)), some (.ref D), t5] ∧ Same H B ∧ Hs B [(D, .lst ((x :: (ls.take i).flatten).map V.str))] H') ⟨none, H, rfl, Same.refl H, k1⟩ (fun _ _ _ _ ⟨_, _, _, s, z⟩ => Same.sqt (s.trans z.sub) hB) ?_ ?_⟩
  · rintro i v σ H1 hv ⟨t5, B, rfl, sB, hh⟩
    obtain ⟨q, eq, rfl⟩ := map_at hv
    have hi : i < ls.length := by rw [← hbl]; exact (List.getElem?_eq_some_iff.mp eq).1
    obtain ⟨l, el⟩ : ∃ l, ls[i]? = some l := ⟨_, List.getElem?_eq_getElem hi⟩
    obtain ⟨q2, eq2, tq⟩ := paired_at hP el
    rw [eq] at eq2
    cases eq2
    have hm := List.mem_of_getElem? el
    have sH := sB.trans hh.sub
    have htl : (ls.take i).flatten.length + l.length ≤ ls.flatten.length := by
      have : ls.take (i + 1) = ls.take i ++ [l] := by rw [List.take_succ, el]; rfl
      have e2 : ls.flatten = (ls.take (i + 1)).flatten ++ (ls.drop (i + 1)).flatten := by rw [← List.flatten_append, List.take_append_drop]
      rw [e2, this]
      simp
    refine ⟨_, rfl, _, rfl, a, q, rows, l, rfl, hb.mono (Stay.of sH), Same.sqt sH tq, hpl l hm, fun H2 s2 => ?_⟩
    obtain ⟨g1, g2⟩ := hh.after s2
    refine ⟨_, rfl, .inl ⟨rfl, _, SqL.of g2.r0⟩, _, rfl, q, _, rfl, .inr (Same.sqt (sH.trans s2) tq), fun m hm2 => ?_⟩
    have g3 := g2.lay (o := .lst (l.map V.str)) hm2
    refine ⟨D, m, _, _, rfl, rfl, g3.r0, upd_same, ?_, ?_⟩
    · rw [List.length_map, List.length_map, List.length_cons, sizeLine_eq]
      omega
    · refine ⟨_, _, rfl, sB.trans g1, ?_⟩
      rw [List.take_succ, el]
      show Hs _ [(D, .lst ((x :: (ls.take i ++ [l]).flatten).map V.str))] _
      rw [List.flatten_append, ← List.cons_append, List.map_append]
      have : ([l] : List (List Str)).flatten = l := by simp
      rw [this]
      exact g3.w0
  · rintro σ H1 ⟨t5, B, rfl, sB, hh⟩
    rw [List.length_map, hbl, List.take_length] at hh
    have sH := sB.trans hh.sub
    refine ⟨_, rfl, D, _, rfl, .inl (SqL.of hh.r0), _, rfl, fun c => ⟨_, rfl, D, _, rfl, .inl ⟨SqL.of hh.r0, fun p hp => ?_⟩⟩, fun c => (hE ?_).mono sH⟩
    · rw [List.length_map] at c
      exact hq (by omega) _ _ (sH.trans (up_same hp)) (SqT.of upd_same)
    · rw [List.length_map] at c
      omega
end
end Sy
namespace Sy
open PySem PySem.Spec PyProof.Rows L2
/-- the law's bag of draws -/
def BagOk (l : List Int) : Prop := ∃ a b c d r, l = a :: b :: c :: d :: r ∧ 0 ≤ a ∧ 4 ≤ d ∧ ∀ x ∈ r, 0 ≤ x
/-- a bag stands at g -/
def Bag (g : Addr) (H : Hp) : Prop := ∃ l : List Int, BagOk l ∧ H g = some (.lst (l.map V.int))
/-- the bag at g is another one, nothing else has changed -/
def Dr (g : Addr) (H H' : Hp) : Prop := ∃ l : List Int, BagOk l ∧ Chg g (.lst (l.map V.int)) H H'
theorem Chg.upd {g : Addr} {o o' : HO} {H H1 : Hp} (c : Chg g o H H1) : Chg g o' H (L2.upd H1 g o') := ⟨upd_same, fun a w n e => by rw [upd_ne n]; exact c.2 a w n e⟩
theorem Chg.refl {g : Addr} {o : HO} {H : Hp} (h : H g = some o) : Chg g o H H := ⟨h, fun _ _ _ e => e⟩
section
variable {P : Program} {w : World} {K : PySem.W.Frag} {mg : Str → Option Value} {base : Heap}
def spDraw : Sp := fun vs H Q _ => ∃ (g : Addr) (n : Nat), vs = [.ref g, .int (n : Nat)] ∧ Bag g H ∧ 1 ≤ n ∧ n < 1000000000 ∧ ∀ (r : Nat) H', r < n → Dr g H H' → Q (.int (r : Nat)) H'
abbrev N_draw : List Str := ["_law_bag_here", "_law_size", "_law_cell", "_law_digit", "_law_mixed"]
theorem sc_draw : FnScope N_draw ["_law_bag_here", "_law_size"] (defScope (top 42)) := ⟨rfl, rfl, rfl, by decide +kernel, rfl, by decide +kernel, by decide +kernel⟩
theorem at0 {a b c d : Int} {r : List Int} : atI ((a :: b :: c :: d :: r).map V.int) (0 : Int) = some (.int a) := atI_nat (j := 0) rfl
theorem at1 {a b c d : Int} {r : List Int} : atI ((a :: b :: c :: d :: r).map V.int) (1 : Int) = some (.int b) := atI_nat (j := 1) rfl
theorem at2 {a b c d : Int} {r : List Int} : atI ((a :: b :: c :: d :: r).map V.int) (2 : Int) = some (.int c) := atI_nat (j := 2) rfl
theorem at3 {a b c d : Int} {r : List Int} : atI ((a :: b :: c :: d :: r).map V.int) (3 : Int) = some (.int d) := atI_nat (j := 3) rfl
theorem ix4 {a b c d : Int} {r : List Int} (j : Nat) (h : j < 4) : ixN ((a :: b :: c :: d :: r).map V.int).length (j : Int) = some j := ixN_nat (by rw [List.length_map]; simp only [List.length_cons]; omega)
theorem k_draw (T : Txt K mg) (F : DF K mg "_law_draw" 42) : Cal P w K mg base 1 "_law_draw" ["_law_bag_here", "_law_size"] spDraw := by
  refine cal_of F.1 F.2 sc_draw (fun _ _ _ _ _ _ us e => match us, e with | [_, _], _ => rfl) (fun vs H Q E s => by obtain ⟨_, _, rfl, _⟩ := s; rfl) ?_
  intro cdv A outer s H vs Q E hr h
  obtain ⟨g, n, rfl, ⟨l0, ⟨a, b, c, d, r, rfl, ha, hd, hrs⟩, hg⟩, hn, hn2, hq⟩ := h
  have sc := sc_draw
  -- what follows the first if
  have tail : ∃ t, PSs (cxOf (L2.CX P w) P w K mg base N_draw "_law_draw" (defScope (top 42)) (He.ga K "_law_draw") cdv A outer s H E) ((defBody (top 42)).drop 2) t ∧
      ∀ (t2 : Option V) (H1 : Hp) (a b c d : Int), 0 ≤ a → 4 ≤ d → Chg g (.lst ((a :: b :: c :: d :: r).map V.int)) H H1 → t { nx := fun _ H' => Q .non H', rt := Q } [some (.ref g), some (.int (n : Nat)), t2, none, none] H1 := by
    refine ⟨_, (pss_cons (ps_if (pt_cmpR op_gt (pe_ix ix_list (pv 0) pe_int (fun _ _ => rfl)) pe_int (nomark _))
        (pss_cons (ps_set (i := 3) sc.nd rfl (Or.inl rfl) (pe_op op_mod (pe_callTy call_int1 (by rfl) T.int (by decide +kernel) (pa_cons (pe_ix ix_list (pv 0) pe_int (fun _ _ => rfl)) pa_nil)) (pv 1)))
        (pss_cons (ps_asg (pe_op op_fdiv (pe_ix ix_list (pv 0) pe_int (fun _ _ => rfl)) (pv 1)) (pg_sub (pv 0) pe_int set_list))
        (pss_one (ps_ret (pv 3)))))
        pss_nil)
      (pss_cons (ps_set (i := 4) sc.nd rfl (Or.inl rfl) (pe_op op_mod (pe_callTy call_int1 (by rfl) T.int (by decide +kernel) (pa_cons (pe_op op_add (pe_op op_add (pe_op op_mul (pe_ix ix_list (pv 0) pe_int (fun _ _ => rfl)) pe_int) (pe_op op_mul (pe_ix ix_list (pv 0) pe_int (fun _ _ => rfl)) pe_int)) pe_int) pa_nil)) pe_int))
      (pss_cons (ps_set (i := 4) sc.nd rfl (Or.inl rfl) (pe_op op_mod (pe_callTy call_int1 (by rfl) T.int (by decide +kernel) (pa_cons (pe_op op_add (pe_op op_mul (pv 4) (pe_op op_add (pe_op op_fdiv (pv 4) pe_int) pe_int)) (pe_ix ix_list (pv 0) pe_int (fun _ _ => rfl))) pa_nil)) pe_int))
      (pss_one (ps_ret (pe_op op_mod (pe_callTy call_int1 (by rfl) T.int (by decide +kernel) (pa_cons (pe_op op_fdiv (pv 4) pe_int) pa_nil)) (pv 1))))))), ?_⟩
    intro t2 H1 a b c d ha hd cg
    have dr : Dr g H H1 := ⟨_, ⟨a, b, c, d, r, rfl, ha, hd, hrs⟩, cg⟩
    have S := SqL.of (K := K) cg.1
    have modr : ∀ x : Int, ∃ k : Nat, x % (n : Int) = (k : Int) ∧ k < n := fun x => by
      have h1 := Int.emod_nonneg x (show (n : Int) ≠ 0 by omega)
      have h2 := Int.emod_lt_of_pos x (show (0 : Int) < n by omega)
      exact ⟨(x % (n : Int)).toNat, by omega, by omega⟩
    refine ⟨_, rfl, g, _, _, _, rfl, rfl, S, at0, _, _, rfl, rfl, _, rfl, if_dec (fun c1 => ?_) (fun c1 => ?_)⟩
    · obtain ⟨k, ek, hk⟩ := modr a
      refine ⟨_, rfl, g, _, _, _, rfl, rfl, S, at0, .inl ⟨a, rfl, _, rfl, _, _, rfl, rfl, (by omega), ?_⟩⟩
      refine ⟨_, rfl, g, _, _, _, rfl, rfl, S, at0, _, rfl, _, _, rfl, rfl, ⟨by omega, by omega⟩, _, rfl, g, _, _, 0, rfl, rfl, cg.1, ix4 0 (by decide), _, rfl, ?_⟩
      have q := hq k (L2.upd H1 g (.lst ((a / (n : Int) :: b :: c :: d :: r).map V.int))) hk ⟨_, ⟨_, b, c, d, r, rfl, Int.ediv_nonneg ha (by omega), hd, hrs⟩, cg.upd⟩
      rw [← ek] at q
      exact q
    · refine ⟨_, rfl, g, _, _, _, rfl, rfl, S, at1, _, _, rfl, rfl, .inr (by decide), _, rfl, g, _, _, _, rfl, rfl, S, at2, _, _, rfl, rfl, .inr (by decide), _, _, rfl, rfl, _, _, rfl, rfl, .inl ⟨_, rfl, _, _, rfl, rfl, (by show (0 : Int) < 2147483647; decide), ?_⟩⟩
      refine ⟨_, rfl, _, rfl, _, _, rfl, rfl, ⟨by decide, by decide⟩, _, _, rfl, rfl, _, _, rfl, rfl, .inl ⟨by omega, by omega⟩, _, rfl, g, _, _, _, rfl, rfl, S, at2, _, _, rfl, rfl, .inl ⟨_, rfl, _, _, rfl, rfl, (by show (0 : Int) < 2147483399; decide), ?_⟩⟩
      refine ⟨_, rfl, _, _, rfl, rfl, ⟨by decide, by decide⟩, .inl ⟨_, rfl, _, rfl, _, _, rfl, rfl, (by omega), ?_⟩⟩
      generalize ((b * 1103515245 + c * 1640531527 + 12345) % 2147483647 * ((b * 1103515245 + c * 1640531527 + 12345) % 2147483647 / 65536 + 3) + c) % 2147483399 / 64 = m
      obtain ⟨k, ek, hk⟩ := modr m
      have q := hq k H1 hk dr
      rw [← ek] at q
      exact q
  obtain ⟨t, pt, ht⟩ := tail
  refine ⟨_, (pss_cons (ps_asg (pe_op op_add (pe_ix ix_list (pv 0) pe_int (fun _ _ => rfl)) pe_int) (pg_sub (pv 0) pe_int set_list))
      (pss_cons (ps_if (PW.pt (pw_and (pt_cmpR op_eq (pe_ix ix_list (pv 0) pe_int (fun _ _ => rfl)) pe_int (nomark _)) (pw_and1 (pt_cmpR op_lt (pe_ix ix_list (pv 0) pe_int (fun _ _ => rfl)) (pe_callB call_len_seq (by rfl) T.len (by decide +kernel) (pa_cons (pv 0) pa_nil)) (nomark _)))))
        (pss_cons (ps_set (i := 2) sc.nd rfl (Or.inl rfl) (pe_ix ix_list (pv 0) (pe_ix ix_list (pv 0) pe_int (fun _ _ => rfl)) (fun _ _ => rfl)))
        (pss_cons (ps_asg (pe_op op_add (pe_ix ix_list (pv 0) pe_int (fun _ _ => rfl)) pe_int) (pg_sub (pv 0) pe_int set_list))
        (pss_one (ps_if (pt_cmpR op_lt (pv 2) (pe_op op_pow pe_int pe_int) (nomark _))
          (pss_one (ps_asg (pe_op op_mod (pe_callTy call_int1 (by rfl) T.int (by decide +kernel) (pa_cons (pe_op op_add (pe_op op_add (pe_op op_mul (pe_ix ix_list (pv 0) pe_int (fun _ _ => rfl)) pe_int) (pv 2)) pe_int) pa_nil)) pe_int) (pg_sub (pv 0) pe_int set_list)))
          (pss_one (ps_asg (pv 2) (pg_sub (pv 0) pe_int set_list)))))))
        pss_nil)
      pt)), ?_⟩
  have S := SqL.of (K := K) hg
  refine ⟨_, rfl, g, _, _, _, rfl, rfl, S, at2, _, _, rfl, rfl, _, rfl, g, _, _, 2, rfl, rfl, hg, ix4 2 (by decide), ?_⟩
  have c1 : Chg g (.lst ((a :: b :: (c + 1) :: d :: r).map V.int)) H (L2.upd H g (.lst ((a :: b :: (c + 1) :: d :: r).map V.int))) := (Chg.refl hg).upd
  have S1 := SqL.of (K := K) c1.1
  refine ⟨_, rfl, g, _, _, _, rfl, rfl, S1, at0, rfl, _, rfl, if_dec (fun q1 => ?_) (fun q1 => ?_)⟩
  · refine ⟨_, rfl, g, _, _, _, rfl, rfl, S1, at3, _, rfl, g, _, rfl, .inl S1, _, _, rfl, rfl, _, rfl, if_dec (fun q2 => ?_) (fun q2 => ?_)⟩
    · rw [List.length_map] at q2
      simp only [List.length_cons] at q2
      obtain ⟨j, hj⟩ : ∃ j : Nat, d = ((j + 4 : Nat) : Int) := ⟨(d - 4).toNat, by omega⟩
      obtain ⟨x, ex⟩ : ∃ x, r[j]? = some x := ⟨_, List.getElem?_eq_getElem (by omega)⟩
      have hx := hrs x (List.mem_of_getElem? ex)
      have ad : atI ((a :: b :: (c + 1) :: d :: r).map V.int) d = some (.int x) := by
        rw [hj]
        exact atI_nat (by rw [List.getElem?_map]; show (r[j]?).map V.int = _; rw [ex]; rfl)
      refine ⟨_, rfl, _, rfl, g, _, _, _, rfl, rfl, S1, at3, g, _, _, _, rfl, rfl, S1, ad, ?_⟩
      refine ⟨_, rfl, g, _, _, _, rfl, rfl, S1, at3, _, _, rfl, rfl, _, rfl, g, _, _, 3, rfl, rfl, c1.1, ix4 3 (by decide), ?_⟩
      have c2 : Chg g (.lst ((a :: b :: (c + 1) :: (d + 1) :: r).map V.int)) H (L2.upd (L2.upd H g (.lst ((a :: b :: (c + 1) :: d :: r).map V.int))) g (.lst ((a :: b :: (c + 1) :: (d + 1) :: r).map V.int))) := c1.upd
      have S2 := SqL.of (K := K) c2.1
      refine ⟨_, rfl, _, _, rfl, rfl, ⟨by decide, by decide, by decide⟩, _, _, rfl, rfl, _, rfl, if_dec (fun q3 => ?_) (fun q3 => ?_)⟩
      · refine ⟨_, rfl, g, _, _, _, rfl, rfl, S2, at1, _, _, rfl, rfl, .inr (by decide), _, rfl, _, _, rfl, rfl, _, _, rfl, rfl, .inl ⟨_, rfl, _, _, rfl, rfl, (by show (0 : Int) < 1000000007; decide), _, rfl, g, _, _, 1, rfl, rfl, c2.1, ix4 1 (by decide), ht _ _ _ _ _ _ ha (by omega) c2.upd⟩⟩
      · exact ⟨_, rfl, _, rfl, g, _, _, 0, rfl, rfl, c2.1, ix4 0 (by decide), ht _ _ _ _ _ _ hx (by omega) c2.upd⟩
    · exact ht _ _ _ _ _ _ ha hd c1
  · exact ht _ _ _ _ _ _ ha hd c1
end
end Sy
namespace Sy
open PySem PySem.Spec PyProof.Rows L2
/-- small letters -/
def Lt (c : Nat) : Prop := 97 ≤ c ∧ c ≤ 122
def Wd (x : Str) : Prop := 1 ≤ x.cps.toList.length ∧ x.cps.toList.length ≤ 8 ∧ ∀ c ∈ x.cps.toList, Lt c
theorem lt_uni (c : Nat) (h : Lt c) : Unicode.isAlpha c = true ∧ Unicode.isLower c = true ∧ Unicode.isUpper c = false ∧ Unicode.isTitle c = false := by
  have q : ∀ i : Fin 26, Unicode.isAlpha (97 + i.val) = true ∧ Unicode.isLower (97 + i.val) = true ∧ Unicode.isUpper (97 + i.val) = false ∧ Unicode.isTitle (97 + i.val) = false := by decide +kernel
  obtain ⟨h1, h2⟩ := h
  have := q ⟨c - 97, by omega⟩
  rw [show 97 + (c - 97) = c by omega] at this
  exact this
theorem len_tl (x : Str) : x.length = x.cps.toList.length := by
  show x.cps.size = _
  simp
theorem Wd.ok {x : Str} (h : Wd x) : nameOk x = true := by
  obtain ⟨h1, h2, h3⟩ := h
  have hl := len_tl x
  have a1 : Txt.isascii x = true := by
    unfold Txt.isascii
    rw [← Array.all_toList, List.all_eq_true]
    intro c hc
    have := (h3 c hc).2
    exact decide_eq_true (by omega)
  have a2 : Txt.isalpha x = true := by
    unfold Txt.isalpha
    rw [decide_eq_true (by omega), Bool.true_and, ← Array.all_toList, List.all_eq_true]
    exact fun c hc => (lt_uni c (h3 c hc)).1
  have a3 : Txt.islower x = true := by
    unfold Txt.islower
    rw [Bool.and_eq_true]
    constructor
    · rw [← Array.any_toList, List.any_eq_true]
      obtain ⟨c, hc⟩ : ∃ c, c ∈ x.cps.toList := List.exists_mem_of_length_pos (by omega)
      exact ⟨c, hc, (lt_uni c (h3 c hc)).2.1⟩
    · rw [← Array.any_toList, Bool.not_eq_true', List.any_eq_false]
      intro c hc
      rw [(lt_uni c (h3 c hc)).2.2.1, (lt_uni c (h3 c hc)).2.2.2]
      decide
  unfold nameOk
  rw [a1, a2, a3, decide_eq_true (by omega)]
  rfl
theorem join_one (cs : List Nat) : (Txt.join (Str.empty) (cs.map fun c => (⟨#[c]⟩ : Str))).cps.toList = cs := by
  rw [TL.join_eq]
  have h := TL.tl_join Str.empty (cs.map fun c => (⟨#[c]⟩ : Str))
  show TL.tl _ = cs
  rw [h]
  have : ∀ cs : List Nat, TL.joinL (TL.tl Str.empty) ((cs.map fun c => (⟨#[c]⟩ : Str)).map TL.tl) = cs := by
    intro cs
    induction cs with
    | nil => rfl
    | cons c cs ih =>
      cases cs with
      | nil => rfl
      | cons d ds =>
        show [c] ++ ([] ++ TL.joinL _ _) = _
        rw [List.nil_append]
        exact congrArg (fun l => [c] ++ l) ih
  exact this cs
/-- fewer than 26 words leave a letter -/
theorem nodup_le {α : Type} [DecidableEq α] : ∀ {l m : List α}, l.Nodup → (∀ x ∈ l, x ∈ m) → l.length ≤ m.length
  | [], _, _, _ => Nat.zero_le _
  | x :: l, m, h, s => by
    have hx := s x List.mem_cons_self
    have h2 := List.nodup_cons.mp h
    have := nodup_le (l := l) (m := m.erase x) h2.2 fun y hy => by
      rw [List.mem_erase_of_ne (fun z => h2.1 (by rw [← z]; exact hy))]
      exact s y (List.mem_cons_of_mem _ hy)
    rw [List.length_erase_of_mem hx] at this
    have := List.length_pos_of_mem hx
    rw [List.length_cons]
    omega
def abc : Str := "abcdefghijklmnopqrstuvwxyz"
theorem abc_at : ∀ i : Nat, i < 26 → abc.cps[i]? = some (97 + i) := by
  have q : ∀ i : Fin 26, abc.cps[i.val]? = some (97 + i.val) := by decide +kernel
  exact fun i h => q ⟨i, h⟩
theorem abc_len : abc.length = 26 := by decide +kernel
theorem abc_tl (i : Nat) (h : i < 26) : abc.cps.toList[i]? = some (97 + i) := by rw [Array.getElem?_toList]; exact abc_at i h
/-- the letters that are not taken -/
def freeL (tk : List Str) (n : Nat) : List Str := ((List.range n).map fun i => (⟨#[97 + i]⟩ : Str)).filter fun x => decide (x ∉ tk)
theorem freeL_pos (tk : List Str) (h : tk.length < 26) : ∃ x r, freeL tk 26 = x :: r ∧ x ∉ tk ∧ Wd x := by
  cases e : freeL tk 26 with
  | nil =>
    exfalso
    have all : ∀ x ∈ ((List.range 26).map fun i => (⟨#[97 + i]⟩ : Str)), x ∈ tk := fun x hx => by
      have := List.filter_eq_nil_iff.mp e x hx
      simpa using this
    have nd : ((List.range 26).map fun i => (⟨#[97 + i]⟩ : Str)).Nodup := by decide +kernel
    have := nodup_le nd all
    simp at this
    omega
  | cons x r =>
    have hm : x ∈ freeL tk 26 := by rw [e]; exact List.mem_cons_self
    unfold freeL at hm
    obtain ⟨h1, h2⟩ := List.mem_filter.mp hm
    obtain ⟨i, hi, rfl⟩ := List.mem_map.mp h1
    rw [List.mem_range] at hi
    refine ⟨_, r, rfl, of_decide_eq_true h2, ?_⟩
    refine ⟨Nat.le_refl _, by show 1 ≤ 8; decide, fun c hc => ?_⟩
    have : c = 97 + i := by simpa using hc
    subst this
    exact ⟨by omega, by omega⟩
theorem Wd.first {x y : Str} {c : Nat} (hx : Wd x) (hy : Wd y) (h8 : x.length < 8) (hc : y.cps.toList[0]? = some c) : Wd (x ++ ⟨#[c]⟩) := by
  obtain ⟨h1, h2, h3⟩ := hx
  have hl := len_tl x
  have e : (x ++ ⟨#[c]⟩ : Str).cps.toList = x.cps.toList ++ [c] := by
    show (x.cps ++ #[c]).toList = _
    simp
  have hcm := hy.2.2 c (List.mem_of_getElem? hc)
  refine ⟨?_, ?_, fun d hd => ?_⟩
  · rw [e, List.length_append]
    show 1 ≤ _ + 1
    omega
  · rw [e, List.length_append]
    show _ + 1 ≤ 8
    omega
  · rw [e] at hd
    rcases List.mem_append.mp hd with hd | hd
    · exact h3 d hd
    · rw [List.mem_singleton.mp hd]
      exact hcm
theorem Wd.cut {x : Str} (hx : Wd x) (h1 : 1 < x.length) : Wd (cutS x none (some (-1))) := by
  obtain ⟨h1', h2, h3⟩ := hx
  have hl := len_tl x
  have e : (cutS x none (some (-1))).cps.toList = x.cps.toList.take (x.length - 1) := by
    unfold cutS HT.sIx
    simp only [List.drop_zero, Nat.sub_zero]
    rw [if_pos (by decide), show ((-1 : Int) + (x.length : Int)).toNat = x.length - 1 by omega]
  refine ⟨?_, ?_, fun d hd => ?_⟩
  · rw [e, List.length_take]
    omega
  · rw [e, List.length_take]
    omega
  · rw [e] at hd
    exact h3 d (List.mem_of_mem_take hd)
end Sy
namespace Sy
open PySem PySem.Spec PyProof.Rows L2
section
variable {B H H' : Hp} {L : List (Addr × HO)} {g : Addr} {o : HO} {x : Addr × HO}
theorem Hs.dr0 (h : Hs B ((g, o) :: L) H) (d : Dr g H H') : ∃ l B', BagOk l ∧ Same B B' ∧ Hs B' ((g, .lst (l.map V.int)) :: L) H' ∧ B' = cut ((g, .lst (l.map V.int)) :: L) H' := by
  obtain ⟨l, hl, c⟩ := d
  have := h.chg c
  exact ⟨l, _, hl, this.1, this.2, rfl⟩
theorem Hs.dr1 (h : Hs B (x :: (g, o) :: L) H) (d : Dr g H H') : ∃ l B', BagOk l ∧ Same B B' ∧ Hs B' (x :: (g, .lst (l.map V.int)) :: L) H' := by
  obtain ⟨l, B', hl, s, h', _⟩ := h.swap.dr0 d
  exact ⟨l, B', hl, s, h'.swap⟩
theorem Hs.bag (h : Hs B ((g, .lst ((l : List Int).map V.int)) :: L) H) (hl : BagOk l) : Bag g H := ⟨l, hl, h.r0⟩
theorem Bag.take (h : Bag g H) : ∃ l, BagOk l ∧ Hs (L2.del H g) [(g, .lst (l.map V.int))] H := by
  obtain ⟨l, hl, e⟩ := h
  exact ⟨l, hl, (Hs.start H).take e⟩
end
section
variable {P : Program} {w : World} {K : PySem.W.Frag} {mg : Str → Option Value} {base : Heap}
def spWord : Sp := fun vs H Q _ => ∃ g : Addr, vs = [.ref g] ∧ Bag g H ∧ ∀ x H', Wd x → Dr g H H' → Q (.str x) H'
abbrev N_word : List Str := ["_law_bag_here", "_law_letters", "_law_k"]
theorem sc_word : FnScope N_word ["_law_bag_here"] (defScope (top 43)) := ⟨rfl, rfl, rfl, by decide +kernel, rfl, by decide +kernel, by decide +kernel⟩
theorem k_word (T : Txt K mg) (F : DF K mg "_law_word" 43) (c_law_draw : Cal P w K mg base 1 "_law_draw" ["_law_bag_here", "_law_size"] spDraw) : Cal P w K mg base 2 "_law_word" ["_law_bag_here"] spWord := by
  refine cal_of F.1 F.2 sc_word (fun _ _ _ _ _ _ us e => match us, e with | [_], _ => rfl) (fun vs H Q E s => by obtain ⟨_, rfl, _⟩ := s; rfl) ?_
  intro cdv A outer s H vs Q E hr h
  obtain ⟨g, rfl, hg, hq⟩ := h
  have sc := sc_word
  refine ⟨_, (pss_cons (ps_set (i := 1) sc.nd rfl (Or.inr rfl) pe_str)
      (pss_one (ps_ret (pe_join pe_str (pe_lc (own := [("_law_k", 2)]) (g := gName 2) rfl sc.nd (pi_range1 rfl T.range (pa_cons (pe_op op_add pe_int (pe_cal c_law_draw hr (pa_cons (pv 0) (pa_cons pe_int pa_nil)))) pa_nil)) (blkOk_by (N := N_word) (sc := defScope (top 43)) (by decide +kernel)) (fun _ _ _ _ _ => (pg_name (i := 2) sc.nd rfl (Or.inl rfl))) (fun _ _ _ _ _ => pts_nil) (fun _ _ _ _ _ => (pe_ix ix_str (pv 1) (pe_cal c_law_draw hr (pa_cons (pv 0) (pa_cons pe_int pa_nil))) (fun _ _ => rfl)))))))), ?_⟩
  obtain ⟨l0, hl0, h0⟩ := hg.take
  refine ⟨⟨_, rfl⟩, _, rfl, g, 8, rfl, hg, by decide, by decide, fun r H1 hr1 d1 => ?_⟩
  obtain ⟨l1, B1, hl1, s1, h1, _⟩ := h0.dr0 d1
  refine ⟨_, _, rfl, rfl, _, rfl, by omega, by omega, fun D hD => lc_it (n := (1 + (r : Int)).toNat) walk_range (fun i H' => ∃ (cs : List Nat) (B : Hp) (l : List Int), BagOk l ∧ cs.length = i ∧ (∀ c ∈ cs, Lt c) ∧ Same B1 B ∧ Hs B [(D, .lst ((cs.map fun c => (⟨#[c]⟩ : Str)).map V.str)), (g, .lst (l.map V.int))] H')
    ⟨[], B1, l1, hl1, rfl, fun _ z => (nomatch z), Same.refl _, h1.new hD⟩ (fun _ _ _ _ => trivial) ?_ ?_⟩
  · rintro i v H2 _ hi ⟨cs, B, l, hl, hcs, hlt, sB, hh⟩ ⟨rfl, rfl⟩
    refine ⟨rfl, ?_⟩
    simp only [tYes, if_true]
    refine ⟨_, rfl, _, rfl, g, 26, rfl, hh.swap.bag hl, by decide, by decide, fun c H3 hc d3 => ?_⟩
    obtain ⟨l3, B3, hl3, s3, h3⟩ := hh.dr1 d3
    refine ⟨abc, _, 97 + c, rfl, rfl, by decide +kernel, atI_nat (abc_tl c hc), _, h3.r0, by rw [List.length_map, List.length_map, sizeLine_eq]; omega, cs ++ [97 + c], B3, l3, hl3, by rw [List.length_append, hcs]; rfl, fun d hd => ?_, sB.trans s3, ?_⟩
    · rcases List.mem_append.mp hd with hd | hd
      · exact hlt d hd
      · rw [List.mem_singleton.mp hd]
        exact ⟨by omega, by omega⟩
    · rw [List.map_append, List.map_append]
      exact h3.w0
  · rintro H2 ⟨cs, B, l, hl, hcs, hlt, sB, hh⟩
    have hj := join_one cs
    have hsum : ((cs.map fun c => (⟨#[c]⟩ : Str)).map (·.length)).sum = cs.length := by
      clear hj hcs hlt hh
      induction cs with
      | nil => rfl
      | cons c cs ih =>
        rw [List.map_cons, List.map_cons, List.sum_cons, ih, List.length_cons]
        show 1 + _ = _
        omega
    refine ⟨Str.empty, D, (cs.map fun c => (⟨#[c]⟩ : Str)), rfl, rfl, .inl (SqL.of hh.r0), ?_, hq _ _ ⟨?_, ?_, ?_⟩ ⟨l, hl, (hh.drop).isChg (s1.trans sB)⟩⟩
    · rw [hsum]
      show _ + _ * 0 ≤ _
      omega
    · rw [hj]; omega
    · rw [hj]; omega
    · rw [hj]; exact hlt
def spNameL (K : PySem.W.Frag) : Sp := fun vs H Q _ => ∃ (g t : Addr) (tk : List Str), vs = [.ref g, .ref t] ∧ Bag g H ∧ g ≠ t ∧ H t = some (.lst (tk.map V.str)) ∧ (∀ x ∈ tk, Wd x) ∧ tk.length ≤ 20 ∧ ∀ x H', Wd x → x ∉ tk → Dr g H H' → Q (.str x) H'
abbrev N_nameL : List Str := ["_law_bag_here", "_law_taken", "_law_word_here", "_law_near", "_law_elder", "_law_one"]
theorem sc_nameL : FnScope N_nameL ["_law_bag_here", "_law_taken"] (defScope (top 44)) := ⟨rfl, rfl, rfl, by decide +kernel, rfl, by decide +kernel, by decide +kernel⟩
theorem freeL_succ (tk : List Str) (n : Nat) : freeL tk (n + 1) = if (⟨#[97 + n]⟩ : Str) ∈ tk then freeL tk n else freeL tk n ++ [(⟨#[97 + n]⟩ : Str)] := by
  unfold freeL
  rw [List.range_succ, List.map_append, List.filter_append]
  by_cases h : (⟨#[97 + n]⟩ : Str) ∈ tk
  · rw [if_pos h]
    simp [h]
  · rw [if_neg h]
    simp [h]
theorem freeL_le (tk : List Str) (n : Nat) : (freeL tk n).length ≤ n := by
  unfold freeL
  have := List.length_filter_le (fun x : Str => decide (x ∉ tk)) ((List.range n).map fun i => (⟨#[97 + i]⟩ : Str))
  rw [List.length_map, List.length_range] at this
  exact this
theorem k_nameL (T : Txt K mg) (F : DF K mg "_law_name" 44) (c_law_draw : Cal P w K mg base 1 "_law_draw" ["_law_bag_here", "_law_size"] spDraw) (c_law_word : Cal P w K mg base 2 "_law_word" ["_law_bag_here"] spWord) : Cal P w K mg base 3 "_law_name" ["_law_bag_here", "_law_taken"] (spNameL K) := by
  refine cal_of F.1 F.2 sc_nameL (fun _ _ _ _ _ _ us e => match us, e with | [_, _], _ => rfl) (fun vs H Q E s => by obtain ⟨_, _, _, rfl, _⟩ := s; rfl) ?_
  intro cdv A outer s H vs Q E hr h
  obtain ⟨g, tA, tk, rfl, hg, hne, hT, hW, hlen, hq⟩ := h
  have sc := sc_nameL
  obtain ⟨l0, hl0, h0⟩ := hg.take
  have hT0 : (L2.del H g) tA = some (.lst (tk.map V.str)) := by rw [del_ne hne.symm]; exact hT
  -- what follows the first if
  have tail : ∃ t, PSs (cxOf (L2.CX P w) P w K mg base N_nameL "_law_name" (defScope (top 44)) (He.ga K "_law_name") cdv A outer s H E) ((defBody (top 44)).drop 3) t ∧
      ∀ (t3 t4 : Option V) (H1 B : Hp) (l : List Int) (x : Str), Wd x → BagOk l → Same (L2.del H g) B → Hs B [(g, .lst (l.map V.int))] H1 → t { nx := fun _ H' => Q .non H', rt := Q } [some (.ref g), some (.ref tA), some (.str x), t3, t4, none] H1 := by
    refine ⟨_, (pss_cons (ps_if (pt_cmpR op_in_seq (pv 2) (pv 1) rfl)
        (pss_one (ps_set (i := 2) sc.nd rfl (Or.inl rfl) (pe_ix ix_list (pe_lc (own := [("_law_one", 5)]) (g := gName 5) (tt := tTest (tOp (rIn K true) (tVar 5) (tVar 1))) rfl sc.nd (pi_str pe_str) (blkOk_by (N := N_nameL) (sc := defScope (top 44)) (by decide +kernel)) (fun _ _ _ _ _ => (pg_name (i := 5) sc.nd rfl (Or.inl rfl))) (fun _ _ _ _ _ => (pts_one (pt_cmpR op_notIn_seq (pv 5) (pv 1) rfl))) (fun _ _ _ _ _ => (pv 5))) pe_int (fun _ _ => rfl))))
        pss_nil)
      (pss_one (ps_ret (pv 2)))), ?_⟩
    intro t3 t4 H1 B l x hx hl sB hh
    have hT1 : H1 tA = some (.lst (tk.map V.str)) := hh.sub _ _ (sB _ _ hT0)
    refine ⟨_, rfl, _, rfl, tA, _, rfl, .inl (SqL.of hT1), rfl, all_strs tk, _, rfl, ?_⟩
    show if inV (V.str x) (tk.map V.str) = true then _ else _
    rw [inV_strs]
    refine if_dec (fun c => ?_) (fun c => ?_)
    · refine ⟨_, rfl, fun D hD => lc_it walk_str (fun i H' => Hs B [(D, .lst ((freeL tk i).map V.str)), (g, .lst (l.map V.int))] H') (hh.new hD) (fun _ _ _ _ => trivial) ?_ ?_⟩
      · rintro i v _ H2 hi h2 ⟨rfl, c, hc, rfl⟩
        have hi26 : i < 26 := by
          have := abc_len
          exact hi
        rw [show ("abcdefghijklmnopqrstuvwxyz" : Str).cps[i]? = some (97 + i) from abc_at i hi26] at hc
        cases hc
        have hT2 : H2 tA = some (.lst (tk.map V.str)) := h2.sub _ _ (sB _ _ hT0)
        refine ⟨rfl, _, rfl, _, rfl, tA, _, rfl, .inl (SqL.of hT2), rfl, all_strs tk, _, rfl, ?_⟩
        show if (!inV (V.str ⟨#[97 + i]⟩) (tk.map V.str)) = true then _ else _
        rw [inV_strs]
        refine if_ndec (fun c => ?_) (fun c => ?_)
        · refine ⟨_, rfl, _, h2.r0, ?_, ?_⟩
          · have := freeL_le tk i
            rw [List.length_map, sizeLine_eq]
            omega
          · rw [freeL_succ, if_neg c, List.map_append]
            exact h2.w0
        · show Hs _ _ _
          rw [freeL_succ, if_pos c]
          exact h2
      · intro H2 h2
        rw [show ("abcdefghijklmnopqrstuvwxyz" : Str).cps.size = 26 from abc_len] at h2
        obtain ⟨y, r, e, hy, hyw⟩ := freeL_pos tk (by omega)
        rw [e] at h2
        refine ⟨D, _, _, _, rfl, rfl, SqL.of h2.r0, atI_nat (j := 0) rfl, _, rfl, hq y _ hyw hy ⟨l, hl, (h2.drop).isChg sB⟩⟩
    · exact ⟨_, rfl, hq x _ hx c ⟨l, hl, hh.isChg sB⟩⟩
  obtain ⟨t, pt, ht⟩ := tail
  refine ⟨_, (pss_cons (ps_set (i := 2) sc.nd rfl (Or.inl rfl) (pe_cal c_law_word hr (pa_cons (pv 0) pa_nil)))
      (pss_cons (ps_set (i := 3) sc.nd rfl (Or.inl rfl) (pe_cal c_law_draw hr (pa_cons (pv 0) (pa_cons pe_int pa_nil))))
      (pss_cons (ps_if (PW.pt (pw_and (pt_truth (pv 1) (by intro _; rfl)) (pw_and1 (pt_cmpR op_lt (pv 3) pe_int (nomark _)))))
        (pss_cons (ps_set (i := 4) sc.nd rfl (Or.inl rfl) (pe_ix ix_list (pv 1) (pe_cal c_law_draw hr (pa_cons (pv 0) (pa_cons (pe_callB call_len_seq (by rfl) T.len (by decide +kernel) (pa_cons (pv 1) pa_nil)) pa_nil))) (fun _ _ => rfl)))
        (pss_one (ps_if (PW.pt (pw_and (pt_cmpR op_eq (pv 3) pe_int (nomark _)) (pw_and1 (pt_cmpR op_lt (pe_callB call_len_str (by rfl) T.len (by decide +kernel) (pa_cons (pv 4) pa_nil)) pe_int (nomark _)))))
          (pss_one (ps_set (i := 2) sc.nd rfl (Or.inl rfl) (pe_op op_add_str (pv 4) (pe_ix ix_str (pv 2) pe_int (fun _ _ => rfl)))))
          (pss_one (ps_if (pt_cmpR op_gt (pe_callB call_len_str (by rfl) T.len (by decide +kernel) (pa_cons (pv 4) pa_nil)) pe_int (nomark _))
            (pss_one (ps_set (i := 2) sc.nd rfl (Or.inl rfl) (pe_slice sl_str (pv 4) po_none (po_some (pe_un un_neg pe_int)))))
            pss_nil)))))
        pss_nil)
      pt))), ?_⟩
  refine ⟨_, rfl, g, rfl, hg, fun x H1 hx d1 => ?_⟩
  obtain ⟨l1, B1, hl1, s1, h1, _⟩ := h0.dr0 d1
  refine ⟨_, rfl, g, 4, rfl, h1.bag hl1, by decide, by decide, fun n H2 hn d2 => ?_⟩
  obtain ⟨l2, B2, hl2, s2, h2, _⟩ := h1.dr0 d2
  have sB2 := s1.trans s2
  have hT2 : H2 tA = some (.lst (tk.map V.str)) := h2.sub _ _ (sB2 _ _ hT0)
  refine ⟨_, rfl, _, .inl ⟨_, SqL.of hT2, rfl⟩, if_bool (fun c1 => ?_) (fun c1 => ?_)⟩
  · refine ⟨_, rfl, _, _, rfl, rfl, _, rfl, if_dec (fun c2 => ?_) (fun c2 => ?_)⟩
    · have hpos : 0 < tk.length := by
        cases tk with
        | nil => simp at c1
        | cons a b => simp
      refine ⟨_, rfl, _, rfl, _, rfl, tA, _, rfl, .inl (SqL.of hT2), g, tk.length, by rw [List.length_map], h2.bag hl2, hpos, by omega, fun j H3 hj d3 => ?_⟩
      obtain ⟨l3, B3, hl3, s3, h3, _⟩ := h2.dr0 d3
      have sB3 := sB2.trans s3
      have hT3 : H3 tA = some (.lst (tk.map V.str)) := h3.sub _ _ (sB3 _ _ hT0)
      obtain ⟨el, hel⟩ : ∃ y, tk[j]? = some y := ⟨_, List.getElem?_eq_getElem hj⟩
      have wel := hW el (List.mem_of_getElem? hel)
      have lel := len_tl el
      have hsz : el.length ≤ sizeLine := by rw [sizeLine_eq, lel]; have := wel.2.1; omega
      refine ⟨tA, _, _, _, rfl, rfl, SqL.of hT3, atI_nat (by rw [List.getElem?_map, hel]; rfl), ?_⟩
      have more : ∀ H4, H4 = H3 → True := fun _ _ => trivial
      have two : ∀ D : Prop, D → D := fun _ h => h
      refine ⟨_, rfl, rfl, _, rfl, if_dec (fun c3 => ?_) (fun c3 => ?_)⟩
      · refine ⟨_, rfl, el, rfl, hsz, _, _, rfl, rfl, _, rfl, if_dec (fun c4 => ?_) (fun c4 => ?_)⟩
        · have hx0 : 0 < x.cps.toList.length := hx.1
          obtain ⟨c, hc⟩ : ∃ c, x.cps.toList[0]? = some c := ⟨_, List.getElem?_eq_getElem hx0⟩
          have lx := len_tl x
          refine ⟨_, rfl, _, rfl, x, _, c, rfl, rfl, by rw [sizeLine_eq, lx]; have := hx.2.1; omega, atI_nat (j := 0) hc, el, _, rfl, rfl, ?_, ht _ _ _ B3 l3 _ (wel.first hx (by omega) hc) hl3 sB3 h3⟩
          show el.length + 1 ≤ sizeLine
          rw [sizeLine_eq, lel]
          have := wel.2.1
          omega
        · refine ⟨_, rfl, el, rfl, hsz, _, _, rfl, rfl, _, rfl, if_dec (fun c5 => ?_) (fun c5 => ?_)⟩
          · exact ⟨_, rfl, _, rfl, _, rfl, el, rfl, hsz, ht _ _ _ B3 l3 _ (wel.cut (by omega)) hl3 sB3 h3⟩
          · exact ht _ _ _ B3 l3 _ hx hl3 sB3 h3
      · refine ⟨_, rfl, el, rfl, hsz, _, _, rfl, rfl, _, rfl, if_dec (fun c5 => ?_) (fun c5 => ?_)⟩
        · exact ⟨_, rfl, _, rfl, _, rfl, el, rfl, hsz, ht _ _ _ B3 l3 _ (wel.cut (by omega)) hl3 sB3 h3⟩
        · exact ht _ _ _ B3 l3 _ hx hl3 sB3 h3
    · exact ht _ _ _ B2 l2 _ hx hl2 sB2 h2
  · exact ht _ _ _ B2 l2 _ hx hl2 sB2 h2
end
end Sy
namespace Sy
open PySem PySem.Spec PyProof.Rows L2
section
variable {B H H' : Hp} {L : List (Addr × HO)} {g : Addr} {o : HO} {x y z : Addr × HO}
theorem Hs.rot (h : Hs B (x :: y :: z :: L) H) : Hs B (y :: z :: x :: L) H := h.perm ((List.Perm.swap _ _ _).trans (List.Perm.cons _ (List.Perm.swap _ _ _)))
theorem Hs.isDr (h : Hs B L H') {l : List Int} (hl : BagOk l) (m : (g, HO.lst (l.map V.int)) ∈ L) (s : Same (L2.del H g) B) : Dr g H H' := ⟨l, hl, h.own _ m, fun a w n e => h.sub _ _ (s _ _ (by rw [del_ne n]; exact e))⟩
end
theorem inV_nat (n : Nat) (ns : List Nat) : inV (.int (n : Int)) (vN ns) = decide (n ∈ ns) := by
  unfold inV vN
  induction ns with
  | nil => rfl
  | cons x l ih =>
    rw [List.map_cons, List.any_cons, ih]
    have : eqV (V.int (x : Int)) (V.int (n : Int)) = decide (x = n) := by
      show ((x : Int) == (n : Int)) = _
      by_cases h : x = n
      · subst h
        simp
      · rw [decide_eq_false h, beq_eq_false_iff_ne]
        omega
    rw [this]
    by_cases h : x = n
    · subst h
      simp
    · have h2 : n ≠ x := fun z => h z.symm
      simp [h, h2]
theorem all_nats (l : List Nat) : (vN l).all flatV = true := by
  rw [vN, List.all_map, List.all_eq_true]
  intro x _
  rfl
/-- rows as the law draws them -/
structure RowsL (rows : List Sy.Row) (most : Nat) : Prop where
  ok : RowsOk rows
  wd : ∀ r ∈ rows, Wd r.1
  le : rows.length ≤ most
  pos : 0 < rows.length
section
variable {P : Program} {w : World} {K : PySem.W.Frag} {mg : Str → Option Value} {base : Heap}
def spRows (K : PySem.W.Frag) : Sp := fun vs H Q _ => ∃ (g : Addr) (most : Nat), vs = [.ref g, .int (most : Nat)] ∧ Bag g H ∧ 1 ≤ most ∧ most ≤ 8 ∧ ∀ (q : Addr) (ps : List Addr) (rows : List Sy.Row) H', RowsL rows most → Dr g H H' → q ≠ g → H' q = some (.lst (ps.map V.ref)) →
  Paired (fun p (r : Sy.Row) => SqT K H' p [.str r.1, .int (r.2 : Nat)]) ps rows → Q (.ref q) H'
abbrev N_rows : List Str := ["_law_bag_here", "_law_most", "_law_names", "_law_numbers", "_law_k", "_law_place"]
theorem sc_rows : FnScope N_rows ["_law_bag_here", "_law_most"] (defScope (top 45)) := ⟨rfl, rfl, rfl, by decide +kernel, rfl, by decide +kernel, by decide +kernel⟩
theorem seven (j : Nat) (h : j < 7) : ∃ n : Nat, ([.int 0, .int 1, .int 2, .int 0, .int 2, .int 1, .int 3] : List V)[j]? = some (.int (n : Int)) ∧ n ≤ 3 := by
  match j, h with
  | 0, _ => exact ⟨0, rfl, by decide⟩
  | 1, _ => exact ⟨1, rfl, by decide⟩
  | 2, _ => exact ⟨2, rfl, by decide⟩
  | 3, _ => exact ⟨0, rfl, by decide⟩
  | 4, _ => exact ⟨2, rfl, by decide⟩
  | 5, _ => exact ⟨1, rfl, by decide⟩
  | 6, _ => exact ⟨3, rfl, by decide⟩
theorem k_rows (T : Txt K mg) (F : DF K mg "_law_rows" 45) (c_law_draw : Cal P w K mg base 1 "_law_draw" ["_law_bag_here", "_law_size"] spDraw) (c_law_name : Cal P w K mg base 3 "_law_name" ["_law_bag_here", "_law_taken"] (spNameL K)) : Cal P w K mg base 4 "_law_rows" ["_law_bag_here", "_law_most"] (spRows K) := by
  refine cal_of F.1 F.2 sc_rows (fun _ _ _ _ _ _ us e => match us, e with | [_, _], _ => rfl) (fun vs H Q E s => by obtain ⟨_, _, rfl, _⟩ := s; rfl) ?_
  intro cdv A outer s H vs Q E hr h
  obtain ⟨g, most, rfl, hg, hm1, hm8, hq⟩ := h
  have sc := sc_rows
  obtain ⟨l0, hl0, h0⟩ := hg.take
  generalize hB0 : L2.del H g = B0 at *
  -- the last row
  have fin : ∃ t, PSs (cxOf (L2.CX P w) P w K mg base N_rows "_law_rows" (defScope (top 45)) (He.ga K "_law_rows") cdv A outer s H E) ((defBody (top 45)).drop 4) t ∧
      ∀ (D1 D2 : Addr) (t4 t5 : Option V) (H1 B : Hp) (l : List Int) (nm : List Str) (ns : List Nat), BagOk l → nm.length = ns.length → 0 < nm.length → nm.length ≤ most → nm.Nodup → (∀ x ∈ nm, Wd x) → (∀ n ∈ ns, n ≤ 3) → 0 ∈ ns → Same B0 B →
        Hs B [(g, .lst (l.map V.int)), (D1, .lst (nm.map V.str)), (D2, .lst (vN ns))] H1 → t { nx := fun _ H' => Q .non H', rt := Q } [some (.ref g), some (.int (most : Nat)), some (.ref D1), some (.ref D2), t4, t5] H1 := by
    refine ⟨_, (pss_one (ps_ret (pe_lc (own := [("_law_k", 4)]) (g := gName 4) (te := tTup (tCons (tOp (rIxL K) (tVar 2) (tVar 4)) (tCons (tOp (rIxL K) (tVar 3) (tVar 4)) tNil))) rfl sc.nd (pi_range1 rfl T.range (pa_cons (pe_callB call_len_seq (by rfl) T.len (by decide +kernel) (pa_cons (pv 2) pa_nil)) pa_nil)) (blkOk_by (N := N_rows) (sc := defScope (top 45)) (by decide +kernel)) (fun _ _ _ _ _ => (pg_name (i := 4) sc.nd rfl (Or.inl rfl))) (fun _ _ _ _ _ => pts_nil) (fun _ _ _ _ _ => (pe_tup (pa_cons (pe_ix ix_list (pv 2) (pv 4) (fun _ _ => rfl)) (pa_cons (pe_ix ix_list (pv 3) (pv 4) (fun _ _ => rfl)) pa_nil))))))), ?_⟩
    intro D1 D2 t4 t5 H1 B l nm ns hl hnn hpos hmost hnd hwd h3 hzero sB hh
    refine ⟨_, rfl, D1, _, rfl, .inl (SqL.of hh.r1), _, rfl, by omega, by rw [List.length_map]; omega, fun q hq1 => lc_it (n := ((nm.map V.str).length : Int).toNat) walk_range (fun i H' => ∃ (B2 : Hp) (ps : List Addr), Same B B2 ∧ Hs B2 [(q, .lst (ps.map V.ref)), (g, .lst (l.map V.int)), (D1, .lst (nm.map V.str)), (D2, .lst (vN ns))] H' ∧ Paired (fun p (r : Sy.Row) => SqT K B2 p [.str r.1, .int (r.2 : Nat)]) ps ((nm.zip ns).take i))
      ⟨B, [], Same.refl _, hh.new hq1, .nil⟩ (fun _ _ _ _ => trivial) ?_ ?_⟩
    · rintro i v _ H2 hi ⟨B2, ps, s2, h2, pp⟩ ⟨rfl, rfl⟩
      have hi : i < nm.length := by
        rw [List.length_map] at hi
        omega
      obtain ⟨x, hx⟩ : ∃ x, nm[i]? = some x := ⟨_, List.getElem?_eq_getElem hi⟩
      obtain ⟨n, hn⟩ : ∃ n, ns[i]? = some n := ⟨_, List.getElem?_eq_getElem (by omega)⟩
      have hz : (nm.zip ns)[i]? = some (x, n) := by rw [List.getElem?_zip_eq_some]; exact ⟨hx, hn⟩
      have e0 : (0 : Int) + (i : Nat) = (i : Nat) := by omega
      have ppl := paired_len pp
      rw [List.length_take, List.length_zip] at ppl
      refine ⟨rfl, ?_⟩
      simp only [tYes, if_true]
      refine ⟨_, rfl, _, rfl, D1, _, _, _, rfl, rfl, SqL.of h2.r2, by rw [e0]; exact atI_nat (by rw [List.getElem?_map, hx]; rfl), _, rfl, _, rfl, D2, _, _, _, rfl, rfl, SqL.of h2.r3, by rw [e0]; exact atI_nat (vN_at hn), (by show 2 ≤ sizeLine; decide), fun p hp => ?_⟩
      have h3' := h2.tup (o := .tup [.str x, .int (n : Nat)]) hp
      have s3 : Same B2 (upd B2 p (.tup [.str x, .int (n : Nat)])) := up_same (h2.sub.free hp)
      refine ⟨_, h3'.r0, by rw [List.length_map, sizeLine_eq]; omega, _, ps ++ [p], s2.trans s3, by rw [List.map_append]; exact h3'.w0, ?_⟩
      rw [List.take_succ, hz]
      exact Paired.snoc (Paired.mapP pp fun _ _ z => Same.sqt s3 z) (SqT.of upd_same)
    · rintro H2 ⟨B2, ps, s2, h2, pp⟩
      rw [List.length_map, show ((nm.length : Int)).toNat = nm.length by omega, List.take_of_length_le (by rw [List.length_zip]; omega)] at pp
      have zf : (nm.zip ns).map (·.1) = nm := List.map_fst_zip (by omega)
      have zl : (nm.zip ns).length = nm.length := by rw [List.length_zip]; omega
      have mem1 : ∀ r ∈ nm.zip ns, r.1 ∈ nm := fun r hr => (List.of_mem_zip (a := r.1) (b := r.2) hr).1
      have mem2 : ∀ r ∈ nm.zip ns, r.2 ∈ ns := fun r hr => (List.of_mem_zip (a := r.1) (b := r.2) hr).2
      refine hq q ps (nm.zip ns) H2 ⟨⟨fun r hr => (hwd _ (mem1 r hr)).ok, fun r hr => h3 _ (mem2 r hr), by rw [zf]; exact hnd, ?_, by omega⟩, fun r hr => hwd _ (mem1 r hr), by omega, by omega⟩ (h2.isDr hl (by simp) (by rw [hB0]; exact sB.trans s2)) ?_ h2.r0 (Paired.mapP pp fun _ _ z => Same.sqt h2.sub z)
      · obtain ⟨j, hj, ej⟩ := List.mem_iff_getElem.mp hzero
        have hj2 : j < nm.length := by omega
        refine ⟨(nm[j], ns[j]), List.mem_iff_getElem.mpr ⟨j, by rw [List.length_zip]; omega, List.getElem_zip⟩, ej⟩
      · have := (List.nodup_cons.mp h2.nd).1
        exact fun z => this (by rw [z]; simp)
  obtain ⟨tf, pf, hf⟩ := fin
  refine ⟨_, (pss_cons (ps_set (i := 2) sc.nd rfl (Or.inr rfl) (pe_lst pa_nil))
      (pss_cons (ps_set (i := 3) sc.nd rfl (Or.inr rfl) (pe_lst pa_nil))
      (pss_cons (ps_for (passes_of rfl) rfl (pi_range1 rfl T.range (pa_cons (pe_op op_add pe_int (pe_cal c_law_draw hr (pa_cons (pv 0) (pa_cons (pv 1) pa_nil)))) pa_nil)) (pg_name (i := 4) sc.nd rfl (Or.inl rfl))
        (pss_cons (ps_expr (pe_bm PySem.F.plainAttrs_list PySem.F.slot_list_append PySem.F.type_list_append mt_append (pv 2) (pa_cons (pe_cal c_law_name hr (pa_cons (pv 0) (pa_cons (pv 2) pa_nil))) pa_nil)))
        (pss_one (ps_expr (pe_bm PySem.F.plainAttrs_list PySem.F.slot_list_append PySem.F.type_list_append mt_append (pv 3) (pa_cons (pe_ix ix_list (pe_lst (pa_cons pe_int (pa_cons pe_int (pa_cons pe_int (pa_cons pe_int (pa_cons pe_int (pa_cons pe_int (pa_cons pe_int pa_nil)))))))) (pe_cal c_law_draw hr (pa_cons (pv 0) (pa_cons pe_int pa_nil))) (fun _ _ => rfl)) pa_nil))))))
      (pss_cons (ps_if (pt_cmpR op_notIn_seq pe_int (pv 3) rfl)
        (pss_cons (ps_set (i := 5) sc.nd rfl (Or.inl rfl) (pe_cal c_law_draw hr (pa_cons (pv 0) (pa_cons (pe_callB call_len_seq (by rfl) T.len (by decide +kernel) (pa_cons (pv 3) pa_nil)) pa_nil))))
        (pss_one (ps_asg pe_int (pg_sub (pv 3) (pv 5) set_list))))
        pss_nil)
      pf)))), ?_⟩
  refine ⟨by decide, fun D1 hD1 => ⟨by decide, fun D2 hD2 => ?_⟩⟩
  have h1 := ((h0.new (o := .lst []) hD1).swap.new (o := .lst []) hD2).rot
  refine ⟨_, rfl, _, rfl, g, most, rfl, h1.bag hl0, hm1, by omega, fun r H1 hr1 d1 => ?_⟩
  obtain ⟨l1, B1, hl1, s1, h1, _⟩ := h1.dr0 d1
  refine ⟨_, _, rfl, rfl, _, rfl, by omega, by omega, for_rng (n := (1 + (r : Int)).toNat)
    (fun i σ H' => ∃ t4 B l nm ns, σ = [some (.ref g), some (.int (most : Nat)), some (.ref D1), some (.ref D2), t4, none] ∧ BagOk l ∧ nm.length = i ∧ ns.length = i ∧ nm.Nodup ∧ (∀ x ∈ nm, Wd x) ∧ (∀ n ∈ ns, n ≤ 3) ∧ Same B0 B ∧ Hs B [(g, .lst (l.map V.int)), (D1, .lst (nm.map V.str)), (D2, .lst (vN ns))] H')
    ⟨none, B1, l1, [], [], rfl, hl1, rfl, rfl, List.nodup_nil, fun _ z => (nomatch z), fun _ z => (nomatch z), s1, h1⟩ ?_ ?_⟩
  · rintro i σ H2 hi ⟨t4, B, l, nm, ns, rfl, hl, en, es, nd, wd, n3, sB, hh⟩
    have hne : g ≠ D1 := by
      have := (List.nodup_cons.mp hh.nd).1
      exact fun z => this (by rw [z]; simp)
    refine ⟨_, rfl, .inl ⟨rfl, _, SqL.of hh.r1⟩, _, rfl, _, rfl, g, D1, nm, rfl, hh.bag hl, hne, hh.r1, wd, by omega, fun x H3 hx hxn d3 => ?_⟩
    obtain ⟨l3, B3, hl3, s3, h3, _⟩ := hh.dr0 d3
    refine ⟨D1, _, _, rfl, rfl, h3.r1, by rw [List.length_map, sizeLine_eq]; omega, ?_⟩
    have h4 := h3.w1 (o' := .lst (nm.map V.str ++ [.str x]))
    refine ⟨_, rfl, .inl ⟨rfl, _, SqL.of h4.r2⟩, by decide, fun p hp => ?_⟩
    have h5 := h4.lay (o := .lst [.int 0, .int 1, .int 2, .int 0, .int 2, .int 1, .int 3]) hp
    refine ⟨_, rfl, g, 7, rfl, h5.bag hl3, by decide, by decide, fun j H6 hj d6 => ?_⟩
    have hp6 : H6 p = some (.lst [.int 0, .int 1, .int 2, .int 0, .int 2, .int 1, .int 3]) := by
      obtain ⟨_, _, c⟩ := d6
      exact c.2 _ _ (h4.ne_of_new hp (g, .lst (l3.map V.int)) (by simp)).symm upd_same
    obtain ⟨l6, B6, hl6, s6, h6, _⟩ := h5.dr0 d6
    obtain ⟨n, hn, hn3⟩ := seven j hj
    refine ⟨p, _, _, _, rfl, rfl, SqL.of hp6, atI_nat hn, D2, _, _, rfl, rfl, h6.r2, by rw [List.length_map, sizeLine_eq]; omega, _, _, _, nm ++ [x], ns ++ [n], rfl, hl6, by rw [List.length_append, en]; rfl, by rw [List.length_append, es]; rfl, ?_, fun y hy => ?_, fun y hy => ?_, (sB.trans s3).trans s6, ?_⟩
    · exact List.nodup_append.mpr ⟨nd, by simp, fun a ha b hb => by rw [List.mem_singleton.mp hb]; exact fun z => hxn (z ▸ ha)⟩
    · rcases List.mem_append.mp hy with hy | hy
      · exact wd y hy
      · rw [List.mem_singleton.mp hy]; exact hx
    · rcases List.mem_append.mp hy with hy | hy
      · exact n3 y hy
      · rw [List.mem_singleton.mp hy]; exact hn3
    · rw [List.map_append, vN, List.map_append]
      exact h6.w2
  · rintro σ H2 ⟨t4, B, l, nm, ns, rfl, hl, en, es, nd, wd, n3, sB, hh⟩
    refine ⟨_, rfl, D2, _, rfl, .inl (SqL.of hh.r2), rfl, all_nats ns, _, rfl, ?_⟩
    show if (!inV (V.int ((0 : Nat) : Int)) (vN ns)) = true then _ else _
    rw [inV_nat]
    refine if_ndec (fun c => ?_) (fun c => ?_)
    · refine ⟨_, rfl, _, rfl, D2, _, rfl, .inl (SqL.of hh.r2), g, ns.length, by rw [vN, List.length_map], hh.bag hl, by omega, by omega, fun j H3 hj d3 => ?_⟩
      obtain ⟨l3, B3, hl3, s3, h3, _⟩ := hh.dr0 d3
      refine ⟨_, rfl, _, rfl, D2, _, _, j, rfl, rfl, h3.r2, ixN_nat (by rw [List.length_map]; exact hj), ?_⟩
      refine hf D1 D2 _ _ _ B3 l3 nm (ns.set j 0) hl3 (by rw [List.length_set]; omega) (by omega) (by omega) nd wd (fun y hy => ?_) ?_ (sB.trans s3) ?_
      · rcases List.mem_or_eq_of_mem_set hy with hy | hy
        · exact n3 y hy
        · omega
      · exact List.mem_iff_getElem.mpr ⟨j, by rw [List.length_set]; exact hj, List.getElem_set_self ..⟩
      · rw [← vN_set]
        exact h3.w2
    · exact hf D1 D2 _ _ _ B l nm ns hl (by omega) (by omega) (by omega) nd wd n3 c sB hh
end
end Sy
namespace Sy
open PySem PySem.Spec PyProof.Rows L2
/-- the law's rows as a list at q -/
def RL (K : PySem.W.Frag) (H : Hp) (q : Addr) (rows : List Sy.Row) : Prop := ∃ ps : List Addr, H q = some (.lst (ps.map V.ref)) ∧ Paired (fun p (r : Sy.Row) => SqT K H p [.str r.1, .int (r.2 : Nat)]) ps rows
theorem RL.mono {K : PySem.W.Frag} {H H' : Hp} {q : Addr} {rows : List Sy.Row} (h : RL K H q rows) (s : Same H H') : RL K H' q rows := by
  obtain ⟨ps, h1, h2⟩ := h
  exact ⟨ps, s _ _ h1, Paired.mapP h2 fun _ _ z => Same.sqt s z⟩
theorem sqt_delL {K : PySem.W.Frag} {H : Hp} {g p : Addr} {xs ys : List V} (h : SqT K H p xs) (hg : H g = some (.lst ys)) : SqT K (L2.del H g) p xs := (stay_del hg).sqt h
theorem RL.del {K : PySem.W.Frag} {H : Hp} {q g : Addr} {rows : List Sy.Row} {ys : List V} (h : RL K H q rows) (ne : q ≠ g) (hg : H g = some (.lst ys)) : RL K (L2.del H g) q rows := by
  obtain ⟨ps, h1, h2⟩ := h
  exact ⟨ps, by rw [del_ne ne]; exact h1, Paired.mapP h2 fun _ _ z => sqt_delL z hg⟩
/-- the number of branches, -1 if it is no kind -/
def numb (rows : List Sy.Row) (x : Str) : Int := match rows.lookup x with
  | some n => (n : Int)
  | none => -1
theorem numb_ar {rows : List Sy.Row} {x : Str} (h : isK rows x = true) : numb rows x = (ar rows x : Nat) := by
  unfold numb ar
  unfold isK at h
  cases e : rows.lookup x with
  | none => rw [e] at h; cases h
  | some n => rfl
section
variable {P : Program} {w : World} {K : PySem.W.Frag} {mg : Str → Option Value} {base : Heap}
/-! _law_bag -/
def spBag (K : PySem.W.Frag) : Sp := fun vs H Q _ => ∃ (s : Addr) (zs : List Int), vs = [.ref s] ∧ SqL K H s (zs.map V.int) ∧ zs.length ≤ 100000 ∧ ∀ g H', H g = none → Same H H' → Bag g H' → Q (.ref g) H'
abbrev N_bag : List Str := ["_law_script", "_law_cell"]
theorem sc_bag : FnScope N_bag ["_law_script"] (defScope (top 41)) := ⟨rfl, rfl, rfl, by decide +kernel, rfl, by decide +kernel, by decide +kernel⟩
theorem k_bag (T : Txt K mg) (F : DF K mg "_law_bag" 41) : Cal P w K mg base 1 "_law_bag" ["_law_script"] (spBag K) := by
  refine cal_of F.1 F.2 sc_bag (fun _ _ _ _ _ _ us e => match us, e with | [_], _ => rfl) (fun vs H Q E s => by obtain ⟨_, _, rfl, _⟩ := s; rfl) ?_
  intro cdv A outer s H vs Q E hr h
  obtain ⟨sa, zs, rfl, hs, hl, hq⟩ := h
  have sc := sc_bag
  refine ⟨_, (pss_one (ps_ret (pe_op op_cat (pe_lst (pa_cons pe_int (pa_cons pe_int (pa_cons pe_int (pa_cons pe_int pa_nil))))) (pe_lc (own := [("_law_cell", 1)]) (g := gName 1) rfl sc.nd (pi_list (pv 0)) (blkOk_by (N := N_bag) (sc := defScope (top 41)) (by decide +kernel)) (fun _ _ _ _ _ => (pg_name (i := 1) sc.nd rfl (Or.inl rfl))) (fun _ _ _ _ _ => pts_nil) (fun _ _ _ _ _ => (pe_callB call_abs (by rfl) T.abs (by decide +kernel) (pa_cons (pe_callTy call_int1 (by rfl) T.int (by decide +kernel) (pa_cons (pv 1) pa_nil)) pa_nil))))))), ?_⟩
  refine ⟨(by show 4 ≤ sizeLine; decide), fun p hp => ?_⟩
  have h1 := (Hs.start H).new (o := .lst [.int 0, .int 0, .int 0, .int 4]) hp
  refine ⟨_, rfl, sa, rfl, ⟨_, Same.seq h1.sub hs⟩, fun D hD => lc_it walk_list (fun i H' => ∃ ys : List Int, ys.length = i ∧ (∀ y ∈ ys, 0 ≤ y) ∧ Hs H [(D, .lst (ys.map V.int)), (p, .lst [.int 0, .int 0, .int 0, .int 4])] H') ⟨[], rfl, fun _ z => (nomatch z), h1.new hD⟩ (fun _ _ _ ⟨_, _, _, z⟩ => Same.seq z.sub hs) ?_ ?_⟩
  · rintro i v H2 _ hi ⟨ys, hy, hp0, hh⟩ ⟨rfl, hv⟩
    obtain ⟨z, _, rfl⟩ := map_at hv
    rw [List.length_map] at hi
    refine ⟨rfl, ?_⟩
    simp only [tYes, if_true]
    refine ⟨_, rfl, .inl ⟨z, rfl, z, rfl, _, hh.r0, by rw [List.length_map, sizeLine_eq]; omega, ys ++ [if z < 0 then -z else z], by rw [List.length_append, hy]; rfl, fun y hy => ?_, ?_⟩⟩
    · rcases List.mem_append.mp hy with hy | hy
      · exact hp0 y hy
      · rw [List.mem_singleton.mp hy]
        split <;> omega
    · rw [List.map_append]
      exact hh.w0
  · rintro H2 ⟨ys, hy, hp0, hh⟩
    rw [List.length_map] at hy
    refine ⟨p, D, _, _, rfl, rfl, hh.r1, hh.r0, by rw [List.length_map, sizeLine_eq]; show 4 + _ ≤ _; omega, fun g hg => hq g _ (hh.sub.free hg) (hh.sub.trans (up_same hg)) ⟨0 :: 0 :: 0 :: 4 :: ys, ⟨0, 0, 0, 4, ys, rfl, by decide, by decide, hp0⟩, upd_same⟩⟩
/-! _law_bed -/
def spBed (K : PySem.W.Frag) : Sp := fun vs H Q _ => ∃ (q : Addr) (rows : List Sy.Row), vs = [.ref q] ∧ RL K H q rows ∧ RowsOk rows ∧ 0 < rows.length ∧ ∀ H' a, Same H H' → BedAt K H' a rows → Q (.ref a) H'
theorem sc_bed : FnScope ["_law_rows_here"] ["_law_rows_here"] (defScope (top 46)) := ⟨rfl, rfl, rfl, by decide +kernel, rfl, by decide +kernel, by decide +kernel⟩
theorem k_bed (T : Txt K mg) (M : Mk K (He.ga K "Bed") (He.ma K (He.ga K "Bed") "__init__")) (at_ : mg "Bed" = some (.ref (He.ga K "Bed"))) (FI : FnR P w K mg base (L2.CX P w) 3 (He.ma K (He.ga K "Bed") "__init__") (spStar 1 (spInitB K))) (F : DF K mg "_law_bed" 46) :
    Cal P w K mg base 5 "_law_bed" ["_law_rows_here"] (spBed K) := by
  refine cal_of F.1 F.2 sc_bed (fun _ _ _ _ _ _ us e => match us, e with | [_], _ => rfl) (fun vs H Q E s => by obtain ⟨_, _, rfl, _⟩ := s; rfl) ?_
  intro cdv A outer s H vs Q E hr h
  obtain ⟨q, rows, rfl, ⟨ps, hL, hp⟩, ok, hpos, hq⟩ := h
  have hpl := paired_len hp
  have hle := ok.le
  refine ⟨_, (pss_cons (ps_if (pt_cmpR op_eq (pe_callB call_len_seq (by rfl) T.len (by decide +kernel) (pa_cons (pv 0) pa_nil)) pe_int (nomark _))
        (pss_one (ps_ret (pe_bed M at_ FI hr (pa_cons (pe_ix ix_list (pv 0) pe_int (fun _ _ => rfl)) pa_nil))))
        pss_nil)
      (pss_cons (ps_if (pt_cmpR op_eq (pe_callB call_len_seq (by rfl) T.len (by decide +kernel) (pa_cons (pv 0) pa_nil)) pe_int (nomark _))
        (pss_one (ps_ret (pe_bed M at_ FI hr (pa_cons (pe_ix ix_list (pv 0) pe_int (fun _ _ => rfl)) (pa_cons (pe_ix ix_list (pv 0) pe_int (fun _ _ => rfl)) pa_nil)))))
        pss_nil)
      (pss_cons (ps_if (pt_cmpR op_eq (pe_callB call_len_seq (by rfl) T.len (by decide +kernel) (pa_cons (pv 0) pa_nil)) pe_int (nomark _))
        (pss_one (ps_ret (pe_bed M at_ FI hr (pa_cons (pe_ix ix_list (pv 0) pe_int (fun _ _ => rfl)) (pa_cons (pe_ix ix_list (pv 0) pe_int (fun _ _ => rfl)) (pa_cons (pe_ix ix_list (pv 0) pe_int (fun _ _ => rfl)) pa_nil))))))
        pss_nil)
      (pss_cons (ps_if (pt_cmpR op_eq (pe_callB call_len_seq (by rfl) T.len (by decide +kernel) (pa_cons (pv 0) pa_nil)) pe_int (nomark _))
        (pss_one (ps_ret (pe_bed M at_ FI hr (pa_cons (pe_ix ix_list (pv 0) pe_int (fun _ _ => rfl)) (pa_cons (pe_ix ix_list (pv 0) pe_int (fun _ _ => rfl)) (pa_cons (pe_ix ix_list (pv 0) pe_int (fun _ _ => rfl)) (pa_cons (pe_ix ix_list (pv 0) pe_int (fun _ _ => rfl)) pa_nil)))))))
        pss_nil)
      (pss_cons (ps_if (pt_cmpR op_eq (pe_callB call_len_seq (by rfl) T.len (by decide +kernel) (pa_cons (pv 0) pa_nil)) pe_int (nomark _))
        (pss_one (ps_ret (pe_bed M at_ FI hr (pa_cons (pe_ix ix_list (pv 0) pe_int (fun _ _ => rfl)) (pa_cons (pe_ix ix_list (pv 0) pe_int (fun _ _ => rfl)) (pa_cons (pe_ix ix_list (pv 0) pe_int (fun _ _ => rfl)) (pa_cons (pe_ix ix_list (pv 0) pe_int (fun _ _ => rfl)) (pa_cons (pe_ix ix_list (pv 0) pe_int (fun _ _ => rfl)) pa_nil))))))))
        pss_nil)
      (pss_cons (ps_if (pt_cmpR op_eq (pe_callB call_len_seq (by rfl) T.len (by decide +kernel) (pa_cons (pv 0) pa_nil)) pe_int (nomark _))
        (pss_one (ps_ret (pe_bed M at_ FI hr (pa_cons (pe_ix ix_list (pv 0) pe_int (fun _ _ => rfl)) (pa_cons (pe_ix ix_list (pv 0) pe_int (fun _ _ => rfl)) (pa_cons (pe_ix ix_list (pv 0) pe_int (fun _ _ => rfl)) (pa_cons (pe_ix ix_list (pv 0) pe_int (fun _ _ => rfl)) (pa_cons (pe_ix ix_list (pv 0) pe_int (fun _ _ => rfl)) (pa_cons (pe_ix ix_list (pv 0) pe_int (fun _ _ => rfl)) pa_nil)))))))))
        pss_nil)
      (pss_cons (ps_if (pt_cmpR op_eq (pe_callB call_len_seq (by rfl) T.len (by decide +kernel) (pa_cons (pv 0) pa_nil)) pe_int (nomark _))
        (pss_one (ps_ret (pe_bed M at_ FI hr (pa_cons (pe_ix ix_list (pv 0) pe_int (fun _ _ => rfl)) (pa_cons (pe_ix ix_list (pv 0) pe_int (fun _ _ => rfl)) (pa_cons (pe_ix ix_list (pv 0) pe_int (fun _ _ => rfl)) (pa_cons (pe_ix ix_list (pv 0) pe_int (fun _ _ => rfl)) (pa_cons (pe_ix ix_list (pv 0) pe_int (fun _ _ => rfl)) (pa_cons (pe_ix ix_list (pv 0) pe_int (fun _ _ => rfl)) (pa_cons (pe_ix ix_list (pv 0) pe_int (fun _ _ => rfl)) pa_nil))))))))))
        pss_nil)
      (pss_one (ps_ret (pe_bed M at_ FI hr (pa_cons (pe_ix ix_list (pv 0) pe_int (fun _ _ => rfl)) (pa_cons (pe_ix ix_list (pv 0) pe_int (fun _ _ => rfl)) (pa_cons (pe_ix ix_list (pv 0) pe_int (fun _ _ => rfl)) (pa_cons (pe_ix ix_list (pv 0) pe_int (fun _ _ => rfl)) (pa_cons (pe_ix ix_list (pv 0) pe_int (fun _ _ => rfl)) (pa_cons (pe_ix ix_list (pv 0) pe_int (fun _ _ => rfl)) (pa_cons (pe_ix ix_list (pv 0) pe_int (fun _ _ => rfl)) (pa_cons (pe_ix ix_list (pv 0) pe_int (fun _ _ => rfl)) pa_nil)))))))))))))))))), ?_⟩
  refine ⟨_, rfl, q, _, rfl, .inl (SqL.of hL), rfl, _, rfl, if_dec (fun c => ?_) (fun c1 => ?_)⟩
  · have en : ps.length = 1 := by
      have := V.int.inj c
      rw [List.length_map] at this
      omega
    obtain ⟨p0, rfl⟩ : ∃ p0, ps = [p0] := by
      match ps, en with
      | [p0], _ => exact ⟨_, rfl⟩
    exact ⟨_, rfl, q, _, _, _, rfl, rfl, SqL.of hL, atI_nat (j := 0) rfl, bed_of (ps := [p0]) rfl hp ok hq⟩
  refine ⟨_, rfl, q, _, rfl, .inl (SqL.of hL), rfl, _, rfl, if_dec (fun c => ?_) (fun c2 => ?_)⟩
  · have en : ps.length = 2 := by
      have := V.int.inj c
      rw [List.length_map] at this
      omega
    obtain ⟨p0, p1, rfl⟩ : ∃ p0 p1, ps = [p0, p1] := by
      match ps, en with
      | [p0, p1], _ => exact ⟨_, _, rfl⟩
    exact ⟨_, rfl, q, _, _, _, rfl, rfl, SqL.of hL, atI_nat (j := 0) rfl, _, rfl, q, _, _, _, rfl, rfl, SqL.of hL, atI_nat (j := 1) rfl, bed_of (ps := [p0, p1]) rfl hp ok hq⟩
  refine ⟨_, rfl, q, _, rfl, .inl (SqL.of hL), rfl, _, rfl, if_dec (fun c => ?_) (fun c3 => ?_)⟩
  · have en : ps.length = 3 := by
      have := V.int.inj c
      rw [List.length_map] at this
      omega
    obtain ⟨p0, p1, p2, rfl⟩ : ∃ p0 p1 p2, ps = [p0, p1, p2] := by
      match ps, en with
      | [p0, p1, p2], _ => exact ⟨_, _, _, rfl⟩
    exact ⟨_, rfl, q, _, _, _, rfl, rfl, SqL.of hL, atI_nat (j := 0) rfl, _, rfl, q, _, _, _, rfl, rfl, SqL.of hL, atI_nat (j := 1) rfl, _, rfl, q, _, _, _, rfl, rfl, SqL.of hL, atI_nat (j := 2) rfl, bed_of (ps := [p0, p1, p2]) rfl hp ok hq⟩
  refine ⟨_, rfl, q, _, rfl, .inl (SqL.of hL), rfl, _, rfl, if_dec (fun c => ?_) (fun c4 => ?_)⟩
  · have en : ps.length = 4 := by
      have := V.int.inj c
      rw [List.length_map] at this
      omega
    obtain ⟨p0, p1, p2, p3, rfl⟩ : ∃ p0 p1 p2 p3, ps = [p0, p1, p2, p3] := by
      match ps, en with
      | [p0, p1, p2, p3], _ => exact ⟨_, _, _, _, rfl⟩
    exact ⟨_, rfl, q, _, _, _, rfl, rfl, SqL.of hL, atI_nat (j := 0) rfl, _, rfl, q, _, _, _, rfl, rfl, SqL.of hL, atI_nat (j := 1) rfl, _, rfl, q, _, _, _, rfl, rfl, SqL.of hL, atI_nat (j := 2) rfl, _, rfl, q, _, _, _, rfl, rfl, SqL.of hL, atI_nat (j := 3) rfl, bed_of (ps := [p0, p1, p2, p3]) rfl hp ok hq⟩
  refine ⟨_, rfl, q, _, rfl, .inl (SqL.of hL), rfl, _, rfl, if_dec (fun c => ?_) (fun c5 => ?_)⟩
  · have en : ps.length = 5 := by
      have := V.int.inj c
      rw [List.length_map] at this
      omega
    obtain ⟨p0, p1, p2, p3, p4, rfl⟩ : ∃ p0 p1 p2 p3 p4, ps = [p0, p1, p2, p3, p4] := by
      match ps, en with
      | [p0, p1, p2, p3, p4], _ => exact ⟨_, _, _, _, _, rfl⟩
    exact ⟨_, rfl, q, _, _, _, rfl, rfl, SqL.of hL, atI_nat (j := 0) rfl, _, rfl, q, _, _, _, rfl, rfl, SqL.of hL, atI_nat (j := 1) rfl, _, rfl, q, _, _, _, rfl, rfl, SqL.of hL, atI_nat (j := 2) rfl, _, rfl, q, _, _, _, rfl, rfl, SqL.of hL, atI_nat (j := 3) rfl, _, rfl, q, _, _, _, rfl, rfl, SqL.of hL, atI_nat (j := 4) rfl, bed_of (ps := [p0, p1, p2, p3, p4]) rfl hp ok hq⟩
  refine ⟨_, rfl, q, _, rfl, .inl (SqL.of hL), rfl, _, rfl, if_dec (fun c => ?_) (fun c6 => ?_)⟩
  · have en : ps.length = 6 := by
      have := V.int.inj c
      rw [List.length_map] at this
      omega
    obtain ⟨p0, p1, p2, p3, p4, p5, rfl⟩ : ∃ p0 p1 p2 p3 p4 p5, ps = [p0, p1, p2, p3, p4, p5] := by
      match ps, en with
      | [p0, p1, p2, p3, p4, p5], _ => exact ⟨_, _, _, _, _, _, rfl⟩
    exact ⟨_, rfl, q, _, _, _, rfl, rfl, SqL.of hL, atI_nat (j := 0) rfl, _, rfl, q, _, _, _, rfl, rfl, SqL.of hL, atI_nat (j := 1) rfl, _, rfl, q, _, _, _, rfl, rfl, SqL.of hL, atI_nat (j := 2) rfl, _, rfl, q, _, _, _, rfl, rfl, SqL.of hL, atI_nat (j := 3) rfl, _, rfl, q, _, _, _, rfl, rfl, SqL.of hL, atI_nat (j := 4) rfl, _, rfl, q, _, _, _, rfl, rfl, SqL.of hL, atI_nat (j := 5) rfl, bed_of (ps := [p0, p1, p2, p3, p4, p5]) rfl hp ok hq⟩
  refine ⟨_, rfl, q, _, rfl, .inl (SqL.of hL), rfl, _, rfl, if_dec (fun c => ?_) (fun c7 => ?_)⟩
  · have en : ps.length = 7 := by
      have := V.int.inj c
      rw [List.length_map] at this
      omega
    obtain ⟨p0, p1, p2, p3, p4, p5, p6, rfl⟩ : ∃ p0 p1 p2 p3 p4 p5 p6, ps = [p0, p1, p2, p3, p4, p5, p6] := by
      match ps, en with
      | [p0, p1, p2, p3, p4, p5, p6], _ => exact ⟨_, _, _, _, _, _, _, rfl⟩
    exact ⟨_, rfl, q, _, _, _, rfl, rfl, SqL.of hL, atI_nat (j := 0) rfl, _, rfl, q, _, _, _, rfl, rfl, SqL.of hL, atI_nat (j := 1) rfl, _, rfl, q, _, _, _, rfl, rfl, SqL.of hL, atI_nat (j := 2) rfl, _, rfl, q, _, _, _, rfl, rfl, SqL.of hL, atI_nat (j := 3) rfl, _, rfl, q, _, _, _, rfl, rfl, SqL.of hL, atI_nat (j := 4) rfl, _, rfl, q, _, _, _, rfl, rfl, SqL.of hL, atI_nat (j := 5) rfl, _, rfl, q, _, _, _, rfl, rfl, SqL.of hL, atI_nat (j := 6) rfl, bed_of (ps := [p0, p1, p2, p3, p4, p5, p6]) rfl hp ok hq⟩
  have en : ps.length = 8 := by
    have d1 : ps.length ≠ 1 := fun z => c1 (by rw [List.length_map, z]; rfl)
    have d2 : ps.length ≠ 2 := fun z => c2 (by rw [List.length_map, z]; rfl)
    have d3 : ps.length ≠ 3 := fun z => c3 (by rw [List.length_map, z]; rfl)
    have d4 : ps.length ≠ 4 := fun z => c4 (by rw [List.length_map, z]; rfl)
    have d5 : ps.length ≠ 5 := fun z => c5 (by rw [List.length_map, z]; rfl)
    have d6 : ps.length ≠ 6 := fun z => c6 (by rw [List.length_map, z]; rfl)
    have d7 : ps.length ≠ 7 := fun z => c7 (by rw [List.length_map, z]; rfl)
    omega
  obtain ⟨p0, p1, p2, p3, p4, p5, p6, p7, rfl⟩ : ∃ p0 p1 p2 p3 p4 p5 p6 p7, ps = [p0, p1, p2, p3, p4, p5, p6, p7] := by
    match ps, en with
    | [p0, p1, p2, p3, p4, p5, p6, p7], _ => exact ⟨_, _, _, _, _, _, _, _, rfl⟩
  exact ⟨_, rfl, q, _, _, _, rfl, rfl, SqL.of hL, atI_nat (j := 0) rfl, _, rfl, q, _, _, _, rfl, rfl, SqL.of hL, atI_nat (j := 1) rfl, _, rfl, q, _, _, _, rfl, rfl, SqL.of hL, atI_nat (j := 2) rfl, _, rfl, q, _, _, _, rfl, rfl, SqL.of hL, atI_nat (j := 3) rfl, _, rfl, q, _, _, _, rfl, rfl, SqL.of hL, atI_nat (j := 4) rfl, _, rfl, q, _, _, _, rfl, rfl, SqL.of hL, atI_nat (j := 5) rfl, _, rfl, q, _, _, _, rfl, rfl, SqL.of hL, atI_nat (j := 6) rfl, _, rfl, q, _, _, _, rfl, rfl, SqL.of hL, atI_nat (j := 7) rfl, bed_of (ps := [p0, p1, p2, p3, p4, p5, p6, p7]) rfl hp ok hq⟩
/-! _law_number -/
def spNum (K : PySem.W.Frag) : Sp := fun vs H Q _ => ∃ (q : Addr) (rows : List Sy.Row) (x : Str), vs = [.ref q, .str x] ∧ RL K H q rows ∧ Q (.int (numb rows x)) H
abbrev N_num : List Str := ["_law_rows_here", "_law_word_here", "_law_row"]
theorem sc_num : FnScope N_num ["_law_rows_here", "_law_word_here"] (defScope (top 47)) := ⟨rfl, rfl, rfl, by decide +kernel, rfl, by decide +kernel, by decide +kernel⟩
theorem numb_cons (r : Sy.Row) (l : List Sy.Row) (x : Str) : numb (r :: l) x = if r.1 = x then (r.2 : Int) else numb l x := by
  unfold numb
  rw [lookup_cons]
  by_cases h : r.1 = x
  · rw [if_pos h, if_pos h]
  · rw [if_neg h, if_neg h]
theorem k_num (T : Txt K mg) (F : DF K mg "_law_number" 47) : Cal P w K mg base 1 "_law_number" ["_law_rows_here", "_law_word_here"] (spNum K) := by
  refine cal_of F.1 F.2 sc_num (fun _ _ _ _ _ _ us e => match us, e with | [_, _], _ => rfl) (fun vs H Q E s => by obtain ⟨_, _, _, rfl, _⟩ := s; rfl) ?_
  intro cdv A outer s H vs Q E hr h
  obtain ⟨q, rows, x, rfl, ⟨ps, hL, hp⟩, hq⟩ := h
  have sc := sc_num
  have hpl := paired_len hp
  refine ⟨_, (pss_cons (ps_for (passes_of rfl) rfl (pi_list (pv 0)) (pg_name (i := 2) sc.nd rfl (Or.inl rfl))
        (pss_one (ps_if (pt_cmpR op_eq (pe_ix ix_tup (pv 2) pe_int (fun _ _ => rfl)) (pv 1) (nomark _))
          (pss_one (ps_ret (pe_ix ix_tup (pv 2) pe_int (fun _ _ => rfl))))
          pss_nil)))
      (pss_one (ps_ret (pe_un un_neg pe_int)))), ?_⟩
  refine ⟨_, rfl, q, rfl, ⟨_, SqL.of hL⟩, for_list (K := K) (xs := ps.map V.ref) (fun i σ H' => ∃ t2, σ = [some (.ref q), some (.str x), t2] ∧ H' = H ∧ numb (rows.drop i) x = numb rows x) ⟨none, rfl, rfl, by rw [List.drop_zero]⟩ (fun _ _ _ _ ⟨_, _, e, _⟩ => e ▸ SqL.of hL) ?_ ?_⟩
  · rintro i v σ _ hv ⟨t2, rfl, rfl, e⟩
    obtain ⟨p, ep, rfl⟩ := map_at hv
    have hi : i < rows.length := by rw [← hpl]; exact (List.getElem?_eq_some_iff.mp ep).1
    obtain ⟨r, er⟩ : ∃ r, rows[i]? = some r := ⟨_, List.getElem?_eq_getElem hi⟩
    obtain ⟨p2, ep2, tp⟩ := paired_at hp er
    rw [ep] at ep2
    cases ep2
    rw [drop_of er, numb_cons] at e
    refine ⟨_, rfl, p, _, _, _, rfl, rfl, tp, atI_nat (j := 0) rfl, _, rfl, rfl, _, rfl, if_dec (fun c => ?_) (fun c => ?_)⟩
    · rw [if_pos (V.str.inj c)] at e
      rw [← e] at hq
      exact ⟨_, rfl, p, _, _, _, rfl, rfl, tp, atI_nat (j := 1) rfl, hq⟩
    · rw [if_neg (fun z => c (by rw [z]))] at e
      exact ⟨_, rfl, rfl, e⟩
  · rintro σ _ ⟨t2, rfl, rfl, e⟩
    rw [List.length_map, hpl, List.drop_length] at e
    have e : (-1 : Int) = numb rows x := e
    rw [← e] at hq
    exact ⟨_, rfl, hq⟩
end
end Sy
namespace Sy
open PySem PySem.Spec PyProof.Rows L2
theorem Dr.same {g : Addr} {H H1 H2 : Hp} (d : Dr g H H1) (s : Same H1 H2) : Dr g H H2 := by
  obtain ⟨l, hl, c⟩ := d
  exact ⟨l, hl, s _ _ c.1, fun a w n e => s _ _ (c.2 a w n e)⟩
theorem Dr.trans {g : Addr} {H H1 H2 : Hp} (a : Dr g H H1) (b : Dr g H1 H2) : Dr g H H2 := by
  obtain ⟨l, _, c⟩ := a
  obtain ⟨m, hm, d⟩ := b
  exact ⟨m, hm, Chg.trans c d⟩
theorem Dr.bag {g : Addr} {H H1 : Hp} (d : Dr g H H1) : Bag g H1 := by
  obtain ⟨l, hl, c⟩ := d
  exact ⟨l, hl, c.1⟩
/-- a comprehension over a list, with a test; nothing else is made -/
theorem lc_filt {K : PySem.W.Frag} {α : Type} {a : Addr} {xs : List α} {f out : α → V} {keep : α → Bool} {si : Nat} {tt : TT} {te : TE} {σ : L2.St} {H B : Hp} {L : List (Addr × HO)} {D : Addr} {Qd : Hp → Prop} (h : Hs B L H) (hD : H D = none) (ha : B a = some (.lst (xs.map f))) (hsz : xs.length ≤ 100000)
    (hs : ∀ x ∈ xs, ∀ H', Same B H' → ∀ (R1 : VK) (R2 : Hp → Prop), (keep x = true → R1 (out x) H') → (keep x = false → R2 H') → tt ((wipe σ [si]).set si (some (f x))) H' fun b H3 => if b = true then te ((wipe σ [si]).set si (some (f x))) H3 R1 else R2 H3)
    (hd : ∀ H', Hs B ((D, .lst ((xs.filter keep).map out)) :: L) H' → Qd H') : LcW (Itl K a) (gName si) tt te [si] σ H D Qd := by
  refine lc_it (walk_list (K := K) (a := a) (xs := xs.map f)) (fun i H' => Hs B ((D, .lst (((xs.take i).filter keep).map out)) :: L) H') (h.new hD) (fun _ _ _ z => SqL.of (z.sub _ _ ha)) ?_ ?_
  · rintro i v _ H2 hi hh ⟨rfl, hv⟩
    obtain ⟨x, hx, rfl⟩ := map_at hv
    rw [List.length_map] at hi
    have et : xs.take (i + 1) = xs.take i ++ [x] := by rw [List.take_succ, hx]; rfl
    have hl : ((xs.take i).filter keep).length ≤ i := by
      have := List.length_filter_le keep (xs.take i)
      rw [List.length_take] at this
      omega
    refine ⟨(by show (σ.set si none |>.set si _).set si none = σ.set si none; rw [List.set_set, List.set_set]), ?_⟩
    refine hs x (List.mem_of_getElem? hx) H2 hh.sub _ _ (fun c => ?_) (fun c => ?_)
    · refine ⟨_, hh.r0, by rw [List.length_map, sizeLine_eq]; omega, ?_⟩
      rw [et, List.filter_append, List.map_append]
      have : [x].filter keep = [x] := by simp [c]
      rw [this]
      exact hh.w0
    · rw [et, List.filter_append]
      have : [x].filter keep = [] := by simp [c]
      rw [this, List.append_nil]
      exact hh
  · intro H' hh
    rw [List.length_map, List.take_length] at hh
    exact hd H' hh
theorem lookup_mem {rows : List Sy.Row} (nd : (rows.map (·.1)).Nodup) {r : Sy.Row} (hr : r ∈ rows) : rows.lookup r.1 = some r.2 := by
  induction rows with
  | nil => cases hr
  | cons q rs ih =>
    rw [List.map_cons, List.nodup_cons] at nd
    rw [lookup_cons]
    rcases List.mem_cons.mp hr with rfl | hr
    · rw [if_pos rfl]
    · rw [if_neg, ih nd.2 hr]
      exact fun z => nd.1 (by rw [z]; exact List.mem_map_of_mem hr)
theorem Fo.snoc {w : List Nat} {m c : Nat} (h : ∀ v, Fo (m + 1) v → Fo 1 (w ++ v)) : ∀ v, Fo (m + c) v → Fo 1 ((w ++ [c]) ++ v) := fun v hv => by
  rw [List.append_assoc]
  exact h _ hv
section
variable {P : Program} {w : World} {K : PySem.W.Frag} {mg : Str → Option Value} {base : Heap}
/-! _law_plant, without holes -/
def spPlantL (K : PySem.W.Frag) : Sp := fun vs H Q _ => ∃ (g q : Addr) (most : Nat) (rows : List Sy.Row), vs = [.ref g, .ref q, .int (most : Nat), .bl false] ∧ Bag g H ∧ q ≠ g ∧ RL K H q rows ∧ RowsOk rows ∧ 1 ≤ most ∧ most ≤ 2000 ∧
  ∀ l p H', Pln rows l → l.length ≤ most → Dr g H H' → SqT K H' p (l.map V.str) → NoD H' p → Q (.ref p) H'
abbrev N_plantL : List Str := ["_law_bag_here", "_law_rows_here", "_law_most", "_law_with_holes", "_law_menu", "_law_least", "_law_plant_here", "_law_need", "_law_k", "_law_room", "_law_let", "_law_wide", "_law_chosen", "_law_row"]
theorem sc_plantL : FnScope N_plantL ["_law_bag_here", "_law_rows_here", "_law_most", "_law_with_holes"] (defScope (top 48)) := ⟨rfl, rfl, rfl, by decide +kernel, rfl, by decide +kernel, by decide +kernel⟩
def sBody : Stmt → List Stmt
  | .For _ _ b _ _ => b
  | .If _ b _ _ => b
  | .While _ b _ _ => b
  | _ => []
theorem k_plantL (T : Txt K mg) (F : DF K mg "_law_plant" 48) (c_law_draw : Cal P w K mg base 1 "_law_draw" ["_law_bag_here", "_law_size"] spDraw) : Cal P w K mg base 2 "_law_plant" ["_law_bag_here", "_law_rows_here", "_law_most", "_law_with_holes"] (spPlantL K) := by
  refine cal_of F.1 F.2 sc_plantL (fun _ _ _ _ _ _ us e => match us, e with | [_, _, _, _], _ => rfl) (fun vs H Q E s => by obtain ⟨_, _, _, _, rfl, _⟩ := s; rfl) ?_
  intro cdv A outer s H vs Q E hr h
  obtain ⟨g, q, most, rows, rfl, hg, hqg, hRL, ok, hm1, hm2, hq⟩ := h
  have sc := sc_plantL
  -- a knot is drawn out of the list in slot 10
  have last : ∃ t, PSs (cxOf (L2.CX P w) P w K mg base N_plantL "_law_plant" (defScope (top 48)) (He.ga K "_law_plant") cdv A outer s H E) ((sBody ((sBody ((defBody (top 48)).getD 5 (.Pass ⟨0, 0, 0, 0⟩))).getD 0 (.Pass ⟨0, 0, 0, 0⟩))).drop 4) t ∧
      ∀ (D : Ends) (PL E : Addr) (cs : List (Addr × Sy.Row)) (B H1 : Hp) (lb : List Int) (pl : List Str) (need : Int) (t4 t5 t8 t9 t11 t12 : Option V), BagOk lb → 0 < cs.length → cs.length ≤ 8 → B E = some (.lst (cs.map fun z => V.ref z.1)) → (∀ z ∈ cs, SqT K B z.1 [.str z.2.1, .int (z.2.2 : Nat)]) →
        Hs B [(g, .lst (lb.map V.int)), (PL, .lst (pl.map V.str))] H1 → pl.length ≤ 2000 →
        (∀ z ∈ cs, ∀ (B' H' : Hp) (lb' : List Int), BagOk lb' → Same B B' → Hs B' [(g, .lst (lb'.map V.int)), (PL, .lst ((pl ++ [z.2.1]).map V.str))] H' →
          D.nx [some (.ref g), some (.ref q), some (.int (most : Nat)), some (.bl false), t4, t5, some (.ref PL), some (.int (need + (z.2.2 : Nat) - 1)), t8, t9, some (.ref E), t11, some (.ref z.1), none] H') →
        t D [some (.ref g), some (.ref q), some (.int (most : Nat)), some (.bl false), t4, t5, some (.ref PL), some (.int need), t8, t9, some (.ref E), t11, t12, none] H1 := by
    refine ⟨_, (pss_cons (ps_set (i := 12) sc.nd rfl (Or.inl rfl) (pe_ix ix_list (pv 10) (pe_cal c_law_draw hr (pa_cons (pv 0) (pa_cons (pe_callB call_len_seq (by rfl) T.len (by decide +kernel) (pa_cons (pv 10) pa_nil)) pa_nil))) (fun _ _ => rfl)))
          (pss_cons (ps_expr (pe_bm PySem.F.plainAttrs_list PySem.F.slot_list_append PySem.F.type_list_append mt_append (pv 6) (pa_cons (pe_ix ix_tup (pv 12) pe_int (fun _ _ => rfl)) pa_nil)))
          (pss_one (ps_set (i := 7) sc.nd rfl (Or.inl rfl) (pe_op op_sub (pe_op op_add (pv 7) (pe_ix ix_tup (pv 12) pe_int (fun _ _ => rfl))) pe_int))))), ?_⟩
    intro D PL E cs B H1 lb pl need t4 t5 t8 t9 t11 t12 hlb hc0 hc8 hE hz hh hpl hnx
    refine ⟨_, rfl, _, rfl, _, rfl, E, _, rfl, .inl (SqL.of (hh.sub _ _ hE)), g, cs.length, by rw [List.length_map], hh.bag hlb, hc0, by omega, fun j H2 hj d2 => ?_⟩
    obtain ⟨l2, B2, hl2, s2, h2, _⟩ := hh.dr0 d2
    obtain ⟨z, ez⟩ : ∃ z, cs[j]? = some z := ⟨_, List.getElem?_eq_getElem hj⟩
    have hm := List.mem_of_getElem? ez
    have tz := Same.sqt (s2.trans h2.sub) (hz z hm)
    refine ⟨E, _, _, _, rfl, rfl, SqL.of (h2.sub _ _ (s2 _ _ hE)), atI_nat (by rw [List.getElem?_map, ez]; rfl), ?_⟩
    refine ⟨_, rfl, .inl ⟨rfl, _, SqL.of h2.r1⟩, _, rfl, z.1, _, _, _, rfl, rfl, tz, atI_nat (j := 0) rfl, PL, _, _, rfl, rfl, h2.r1, by rw [List.length_map, sizeLine_eq]; omega, ?_⟩
    have h3 := h2.w1 (o' := .lst (pl.map V.str ++ [.str z.2.1]))
    have tz3 := Same.sqt (s2.trans h3.sub) (hz z hm)
    refine ⟨_, rfl, _, rfl, z.1, _, _, _, rfl, rfl, tz3, atI_nat (j := 1) rfl, _, _, rfl, rfl, _, _, rfl, rfl, hnx z hm B2 _ l2 hl2 s2 ?_⟩
    rw [List.map_append]
    exact h3
  obtain ⟨tL, pL, hLast⟩ := last
  refine ⟨_, (pss_cons (ps_set (i := 4) sc.nd rfl (Or.inl rfl) (pe_callTy call_list_of (by rfl) T.list (by decide +kernel) (pa_cons (pv 1) pa_nil)))
      (pss_cons (ps_if (pt_val (pv 3))
        (pss_one ps_never)
        pss_nil)
      (pss_cons (ps_set (i := 5) sc.nd rfl (Or.inl rfl) (pe_cal c_law_draw hr (pa_cons (pv 0) (pa_cons (pe_op op_add (pv 2) pe_int) pa_nil))))
      (pss_cons (ps_set (i := 6) sc.nd rfl (Or.inl rfl) (pe_lst pa_nil))
      (pss_cons (ps_set (i := 7) sc.nd rfl (Or.inl rfl) pe_int)
      (pss_cons (ps_for (passes_of rfl) rfl (pi_range1 rfl T.range (pa_cons (pv 2) pa_nil)) (pg_name (i := 8) sc.nd rfl (Or.inl rfl))
        (pss_one (ps_if (pt_cmpR op_gt (pv 7) pe_int (nomark _))
          (pss_cons (ps_set (i := 9) sc.nd rfl (Or.inr rfl) (pe_op op_sub (pe_op op_sub (pv 2) (pe_callB call_len_seq (by rfl) T.len (by decide +kernel) (pa_cons (pv 6) pa_nil))) (pv 7)))
          (pss_cons (ps_setLc (i := 10) (own := [("_law_row", 13)]) (g := gName 13) (tt := tTest (tOp (rI0 fun i j => V.bl (decide (i ≤ j))) (tOp (rIxT K) (tVar 13) (tC (.int 1))) (tVar 9))) rfl sc.nd rfl rfl (sw_true rfl rfl rfl (by decide +kernel)) (pi_list (pv 4)) (blkOk_by (N := N_plantL) (sc := defScope (top 48)) (by decide +kernel)) (fun _ _ _ _ _ => (pg_name (i := 13) sc.nd rfl (Or.inl rfl))) (fun _ _ _ _ _ => (pts_one (pt_cmpR op_le (pe_ix ix_tup (pv 13) pe_int (fun _ _ => rfl)) (pv 9) (nomark _)))) (fun _ _ _ _ _ => (pv 13)))
          (pss_cons (ps_setLc (i := 11) (own := [("_law_row", 13)]) (g := gName 13) (tt := tTest (tOp (rI0 fun i j => V.bl (decide (j < i))) (tOp (rIxT K) (tVar 13) (tC (.int 1))) (tC (.int 0)))) rfl sc.nd rfl rfl (sw_true rfl rfl rfl (by decide +kernel)) (pi_list (pv 10)) (blkOk_by (N := N_plantL) (sc := defScope (top 48)) (by decide +kernel)) (fun _ _ _ _ _ => (pg_name (i := 13) sc.nd rfl (Or.inl rfl))) (fun _ _ _ _ _ => (pts_one (pt_cmpR op_gt (pe_ix ix_tup (pv 13) pe_int (fun _ _ => rfl)) pe_int (nomark _)))) (fun _ _ _ _ _ => (pv 13)))
          (pss_cons (ps_if (PW.pt (pw_and (pt_truth (pv 11) (by intro _; rfl)) (pw_and (pt_cmpR op_eq (pv 7) pe_int (nomark _)) (pw_and1 (pt_cmpR op_lt (pe_op op_add (pe_callB call_len_seq (by rfl) T.len (by decide +kernel) (pa_cons (pv 6) pa_nil)) pe_int) (pv 5) (nomark _))))))
            (pss_one (ps_set (i := 10) sc.nd rfl (Or.inl rfl) (pv 11)))
            pss_nil)
          pL))))
          pss_nil)))
      (pss_one (ps_ret (pe_callTy call_tupZ (by rfl) T.tuple (by decide +kernel) (pa_cons (pv 6) pa_nil)))))))))), ?_⟩
  obtain ⟨ps, hL, hP⟩ := id hRL
  have hpl := paired_len hP
  obtain ⟨l0, hl0, h0⟩ := hg.take
  have hB0 := hRL.del hqg h0.r0
  generalize hB : L2.del H g = B0 at *
  obtain ⟨ps0, hL0, hP0⟩ := hB0
  have hps : ps0 = ps := by
    have e1 := h0.sub _ _ hL0
    rw [hL] at e1
    have e2 := HO.lst.inj (Option.some.inj e1)
    exact ((List.map_inj_right (fun a b z => V.ref.inj z)).mp e2).symm
  subst hps
  -- pairs of address and row
  generalize hpr : ps0.zip rows = pr at *
  have zf : pr.map (fun z => V.ref z.1) = ps0.map V.ref := by
    have : pr.map (·.1) = ps0 := by rw [← hpr]; exact List.map_fst_zip (by omega)
    rw [← this, List.map_map]
    rfl
  have zr : ∀ z ∈ pr, z.2 ∈ rows := fun z hz => by
    rw [← hpr] at hz
    exact (List.of_mem_zip (a := z.1) (b := z.2) hz).2
  have zs : ∀ z ∈ pr, SqT K B0 z.1 [.str z.2.1, .int (z.2.2 : Nat)] := fun z hz => by
    rw [← hpr] at hz
    obtain ⟨i, hi, e⟩ := List.mem_iff_getElem.mp hz
    rw [List.getElem_zip] at e
    rw [List.length_zip] at hi
    obtain ⟨p2, e2, t⟩ := paired_at hP0 (i := i) (y := rows[i]) (List.getElem?_eq_getElem (by omega))
    rw [List.getElem?_eq_getElem (by omega)] at e2
    have : z.1 = p2 := by rw [← e]; exact Option.some.inj e2
    have e3 : z.2 = rows[i] := by rw [← e]
    rw [this, e3]
    exact t
  have zleaf : ∃ z ∈ pr, z.2.2 = 0 := by
    obtain ⟨r, hr', e⟩ := ok.lf
    obtain ⟨i, hi, ei⟩ := List.mem_iff_getElem.mp hr'
    refine ⟨(ps0[i]'(by omega), rows[i]), ?_, by rw [ei]; exact e⟩
    rw [← hpr]
    exact List.mem_iff_getElem.mpr ⟨i, by rw [List.length_zip]; omega, List.getElem_zip⟩
  have zlen : pr.length ≤ 8 := by rw [← hpr, List.length_zip]; have := ok.le; omega
  refine ⟨_, rfl, q, _, rfl, .inl (SqL.of hL), fun M hM => ?_⟩
  rw [← zf]
  have h1 := (h0.new (o := .lst (pr.map fun z => V.ref z.1)) hM).give
  refine ⟨_, rfl, _, rfl, iteF ?_⟩
  have hB1 := h1.2
  have hMB : (upd B0 M (.lst (pr.map fun z => V.ref z.1))) M = some (.lst (pr.map fun z => V.ref z.1)) := upd_same
  have sB1 := h1.1
  generalize upd B0 M (.lst (pr.map fun z => V.ref z.1)) = B1 at *
  refine ⟨_, rfl, _, rfl, _, _, rfl, rfl, g, most + 1, rfl, hB1.bag hl0, by omega, by omega, fun least H2 hle d2 => ?_⟩
  obtain ⟨l2, B2, hl2, s2, h2, _⟩ := hB1.dr0 d2
  refine ⟨by decide, fun PL hPL => ?_⟩
  have h3 := (h2.new (o := .lst []) hPL).swap
  have sB2 := sB1.trans s2
  refine ⟨_, rfl, _, rfl, by omega, by omega, for_rng (n := most)
    (fun i σ H' => ∃ (need : Nat) (z7 : Int) (t8 t9 t10 t11 t12 : Option V) (B : Hp) (lb : List Int) (pl : List Str), σ = [some (.ref g), some (.ref q), some (.int (most : Nat)), some (.bl false), some (.ref M), some (.int (least : Nat)), some (.ref PL), some (.int z7), t8, t9, t10, t11, t12, none] ∧ z7 = (need : Nat) ∧ BagOk lb ∧ Same B2 B ∧ Hs B [(g, .lst (lb.map V.int)), (PL, .lst (pl.map V.str))] H' ∧
      pl.length + need ≤ most ∧ (need = 0 ∨ pl.length = i) ∧ (∀ x ∈ pl, isK rows x = true) ∧ ∀ v, Fo need v → Fo 1 (wt rows pl ++ v))
    ⟨1, 1, none, none, none, none, none, B2, l2, [], rfl, rfl, hl2, Same.refl _, h3, by show 0 + 1 ≤ most; omega, .inr rfl, fun _ z => (nomatch z), fun v h => h⟩ ?_ ?_⟩
  · rintro i σ H3 hi ⟨need, _, t8, t9, t10, t11, t12, B, lb, pl, rfl, rfl, hlb, sB, hh, hroom, hdone, hkn, hfo⟩
    refine ⟨_, rfl, _, _, rfl, rfl, _, rfl, if_dec (fun c => ?_) (fun c => ?_)⟩
    · obtain ⟨n, rfl⟩ : ∃ n, need = n + 1 := ⟨need - 1, by omega⟩
      have hpi : pl.length = i := by omega
      obtain ⟨room, hroomE⟩ : ∃ room : Int, room = (most : Int) - ((pl.map V.str).length : Nat) - ((n + 1 : Nat) : Int) := ⟨_, rfl⟩
      have hroom2 : (pl.length : Int) + (n + 1) + room = most := by
        rw [List.length_map] at hroomE
        omega
      have sB3 := sB2.trans sB
      have tz : ∀ z ∈ pr, ∀ H', Same B H' → SqT K H' z.1 [.str z.2.1, .int (z.2.2 : Nat)] := fun z hz H' s' => Same.sqt (sB3.trans s') (zs z hz)
      refine ⟨_, rfl, _, rfl, PL, _, rfl, .inl (SqL.of hh.r1), _, _, rfl, rfl, _, rfl, _, _, rfl, rfl, ?_⟩
      refine ⟨_, rfl, M, rfl, ⟨_, SqL.of (hh.sub _ _ (sB _ _ (s2 _ _ hMB)))⟩, fun D1 hD1 => lc_filt (si := 13) (f := fun z : Addr × Sy.Row => V.ref z.1) (out := fun z => V.ref z.1) (keep := fun z => decide ((z.2.2 : Int) ≤ room)) hh hD1 (sB _ _ (s2 _ _ hMB)) (by omega) ?_ ?_⟩
      · intro z hz H' s' R1 R2 k1 k2
        refine ⟨_, rfl, z.1, _, _, _, rfl, rfl, tz z hz H' s', atI_nat (j := 1) rfl, _, rfl, _, _, rfl, rfl, _, rfl, if_dec (fun c => ?_) (fun c => ?_)⟩
        · exact ⟨_, rfl, k1 (decide_eq_true (by omega))⟩
        · exact k2 (decide_eq_false (by omega))
      intro H4 h4
      obtain ⟨s5, h5⟩ := h4.give
      have e5 : (upd B D1 (.lst ((pr.filter fun z => decide ((z.2.2 : Int) ≤ room)).map fun z => V.ref z.1))) D1 = some (.lst ((pr.filter fun z => decide ((z.2.2 : Int) ≤ room)).map fun z => V.ref z.1)) := upd_same
      generalize upd B D1 (.lst ((pr.filter fun z => decide ((z.2.2 : Int) ≤ room)).map fun z => V.ref z.1)) = B5 at *
      generalize hlet : (pr.filter fun z => decide ((z.2.2 : Int) ≤ room)) = lt at *
      have ltm : ∀ z ∈ lt, z ∈ pr ∧ (z.2.2 : Int) ≤ room := fun z hz => by
        rw [← hlet] at hz
        have := List.mem_filter.mp hz
        exact ⟨this.1, of_decide_eq_true this.2⟩
      have ltpos : 0 < lt.length := by
        obtain ⟨z, hz, e⟩ := zleaf
        rw [← hlet]
        exact List.length_pos_of_mem (List.mem_filter.mpr ⟨hz, decide_eq_true (by omega)⟩)
      have ltlen : lt.length ≤ 8 := by
        rw [← hlet]
        have := List.length_filter_le (fun z : Addr × Sy.Row => decide ((z.2.2 : Int) ≤ room)) pr
        omega
      have sB5 := sB3.trans s5
      have tz5 : ∀ z ∈ pr, ∀ H', Same B5 H' → SqT K H' z.1 [.str z.2.1, .int (z.2.2 : Nat)] := fun z hz H' s' => Same.sqt (sB5.trans s') (zs z hz)
      refine ⟨_, rfl, D1, rfl, ⟨_, SqL.of (h5.sub _ _ e5)⟩, fun D2 hD2 => lc_filt (si := 13) (f := fun z : Addr × Sy.Row => V.ref z.1) (out := fun z => V.ref z.1) (keep := fun z => decide (0 < z.2.2)) h5 hD2 e5 (by omega) ?_ ?_⟩
      · intro z hz H' s' R1 R2 k1 k2
        refine ⟨_, rfl, z.1, _, _, _, rfl, rfl, tz5 z (ltm z hz).1 H' s', atI_nat (j := 1) rfl, _, _, rfl, rfl, _, rfl, if_dec (fun c => ?_) (fun c => ?_)⟩
        · exact ⟨_, rfl, k1 (decide_eq_true (by omega))⟩
        · exact k2 (decide_eq_false (by omega))
      intro H6 h6
      obtain ⟨s7, h7⟩ := h6.give
      have e7 : (upd B5 D2 (.lst ((lt.filter fun z => decide (0 < z.2.2)).map fun z => V.ref z.1))) D2 = some (.lst ((lt.filter fun z => decide (0 < z.2.2)).map fun z => V.ref z.1)) := upd_same
      generalize upd B5 D2 (.lst ((lt.filter fun z => decide (0 < z.2.2)).map fun z => V.ref z.1)) = B7 at *
      generalize hwide : (lt.filter fun z => decide (0 < z.2.2)) = wd at *
      have wdm : ∀ z ∈ wd, z ∈ lt := fun z hz => by
        rw [← hwide] at hz
        exact (List.mem_filter.mp hz).1
      have wdlen : wd.length ≤ 8 := by
        rw [← hwide]
        have := List.length_filter_le (fun z : Addr × Sy.Row => decide (0 < z.2.2)) lt
        omega
      have wz : ∀ z ∈ wd, SqT K B7 z.1 [.str z.2.1, .int (z.2.2 : Nat)] := fun z hz => Same.sqt (sB5.trans s7) (zs z (ltm z (wdm z hz)).1)
      have lz : ∀ z ∈ lt, SqT K B7 z.1 [.str z.2.1, .int (z.2.2 : Nat)] := fun z hz => Same.sqt (sB5.trans s7) (zs z (ltm z hz).1)
      have sB7 : Same B2 B7 := (sB.trans s5).trans s7
      have go : ∀ z ∈ lt, ∀ (B' H' : Hp) (lb' : List Int) (x8 x9 x10 x11 x12 : Option V), BagOk lb' → Same B7 B' → Hs B' [(g, .lst (lb'.map V.int)), (PL, .lst ((pl ++ [z.2.1]).map V.str))] H' →
          ∃ (need : Nat) (z7 : Int) (t8 t9 t10 t11 t12 : Option V) (B : Hp) (lb : List Int) (pl' : List Str), [some (.ref g), some (.ref q), some (.int (most : Nat)), some (.bl false), some (.ref M), some (.int (least : Nat)), some (.ref PL), some (.int (((n + 1 : Nat) : Int) + (z.2.2 : Nat) - 1)), x8, x9, x10, x11, x12, none] = [some (.ref g), some (.ref q), some (.int (most : Nat)), some (.bl false), some (.ref M), some (.int (least : Nat)), some (.ref PL), some (.int z7), t8, t9, t10, t11, t12, none] ∧ z7 = (need : Nat) ∧ BagOk lb ∧ Same B2 B ∧ Hs B [(g, .lst (lb.map V.int)), (PL, .lst (pl'.map V.str))] H' ∧
            pl'.length + need ≤ most ∧ (need = 0 ∨ pl'.length = i + 1) ∧ (∀ x ∈ pl', isK rows x = true) ∧ ∀ v, Fo need v → Fo 1 (wt rows pl' ++ v) := by
        intro z hz B' H' lb' x8 x9 x10 x11 x12 hlb' s' h'
        have hm := ltm z hz
        have hlk := lookup_mem ok.nd (zr z hm.1)
        have har : ar rows z.2.1 = z.2.2 := by unfold ar; rw [hlk]; rfl
        have hik : isK rows z.2.1 = true := by unfold isK; rw [hlk]; rfl
        have hr2 := hm.2
        refine ⟨n + z.2.2, _, _, _, _, _, _, B', lb', pl ++ [z.2.1], rfl, by omega, hlb', sB7.trans s', h', ?_, .inr ?_, fun x hx => ?_, ?_⟩
        · rw [List.length_append]
          show pl.length + 1 + _ ≤ _
          omega
        · rw [List.length_append, hpi]
          rfl
        · rcases List.mem_append.mp hx with hx | hx
          · exact hkn x hx
          · rw [List.mem_singleton.mp hx]
            exact hik
        · have : wt rows (pl ++ [z.2.1]) = wt rows pl ++ [z.2.2] := by
            unfold wt
            rw [List.map_append, ← har]
            rfl
          rw [this]
          exact Fo.snoc hfo
      have byLet : ∀ D : Ends, (∀ z ∈ lt, ∀ (B' H' : Hp) (lb' : List Int), BagOk lb' → Same B7 B' → Hs B' [(g, .lst (lb'.map V.int)), (PL, .lst ((pl ++ [z.2.1]).map V.str))] H' → ∀ x10 x12, D.nx [some (.ref g), some (.ref q), some (.int (most : Nat)), some (.bl false), some (.ref M), some (.int (least : Nat)), some (.ref PL), some (.int (((n + 1 : Nat) : Int) + (z.2.2 : Nat) - 1)), some (.int (i : Nat)), some (.int ((most : Int) - ((pl.map V.str).length : Nat) - ((n + 1 : Nat) : Int))), x10, some (.ref D2), x12, none] H') →
          tL D [some (.ref g), some (.ref q), some (.int (most : Nat)), some (.bl false), some (.ref M), some (.int (least : Nat)), some (.ref PL), some (.int ((n + 1 : Nat) : Int)), some (.int (i : Nat)), some (.int ((most : Int) - ((pl.map V.str).length : Nat) - ((n + 1 : Nat) : Int))), some (.ref D1), some (.ref D2), t12, none] H6 := fun D k =>
        hLast D PL D1 lt B7 H6 lb pl _ _ _ _ _ _ _ hlb ltpos ltlen (s7 _ _ e5) lz h7 (by omega) fun z hz B' H' lb' a b c => k z hz B' H' lb' a b c _ _
      refine ⟨_, rfl, _, .inl ⟨_, SqL.of (h7.sub _ _ e7), rfl⟩, if_bool (fun c1 => ?_) (fun c1 => ?_)⟩
      · have wpos : 0 < wd.length := by
          cases wd with
          | nil => simp at c1
          | cons a b => simp
        refine ⟨_, rfl, rfl, _, rfl, if_dec (fun c2 => ?_) (fun c2 => ?_)⟩
        · refine ⟨_, rfl, PL, _, rfl, .inl (SqL.of h7.r1), _, _, rfl, rfl, _, rfl, _, _, rfl, rfl, _, rfl, if_dec (fun c3 => ?_) (fun c3 => ?_)⟩
          · refine ⟨_, rfl, hLast _ PL D2 wd B7 H6 lb pl _ _ _ _ _ _ _ hlb wpos wdlen e7 wz h7 (by omega) fun z hz B' H' lb' a b c => go z (wdm z hz) B' H' lb' _ _ _ _ _ a b c⟩
          · exact byLet _ fun z hz B' H' lb' a b c _ _ => go z hz B' H' lb' _ _ _ _ _ a b c
        · exact byLet _ fun z hz B' H' lb' a b c _ _ => go z hz B' H' lb' _ _ _ _ _ a b c
      · exact byLet _ fun z hz B' H' lb' a b c _ _ => go z hz B' H' lb' _ _ _ _ _ a b c
    · have : need = 0 := by omega
      exact ⟨need, _, _, _, _, _, _, B, lb, pl, rfl, rfl, hlb, sB, hh, hroom, .inl this, hkn, hfo⟩
  · rintro σ H3 ⟨need, _, t8, t9, t10, t11, t12, B, lb, pl, rfl, rfl, hlb, sB, hh, hroom, hdone, hkn, hfo⟩
    have hn0 : need = 0 := by omega
    subst hn0
    have hfin : Fo 1 (wt rows pl) := by
      have := hfo [] trivial
      rwa [List.append_nil] at this
    refine ⟨_, rfl, PL, _, rfl, SqL.of hh.r1, fun p H4 hn => hq pl p H4 ⟨hfin, hkn, by omega⟩ (by omega) ?_ hn.sqt hn.nod⟩
    exact (hh.isDr hlb (by simp) (by rw [hB]; exact sB2.trans sB)).same hn.same
end
end Sy
namespace Sy
open PySem PySem.Spec PyProof.Rows L2
theorem Fo.chain : ∀ n : Nat, Fo 1 (List.replicate n 1 ++ [0])
  | 0 => trivial
  | n + 1 => Fo.chain n
theorem Fo.comb : ∀ n : Nat, Fo 1 ((List.replicate n [2, 0]).flatten ++ [0])
  | 0 => trivial
  | n + 1 => by
    rw [List.replicate_succ, List.flatten_cons]
    exact Fo.comb n
theorem Fo.fork : ∀ k m : Nat, Fo (m + 1) (List.replicate k 2 ++ List.replicate (k + m + 1) 0)
  | 0, 0 => trivial
  | 0, m + 1 => by
    rw [show 0 + (m + 1) + 1 = (0 + m + 1) + 1 by omega, List.replicate_succ (n := 0 + m + 1)]
    exact Fo.fork 0 m
  | k + 1, m => by
    have := Fo.fork k (m + 1)
    rw [show k + (m + 1) + 1 = k + 1 + m + 1 by omega] at this
    exact this
theorem wt_app (rows : List Sy.Row) (a b : List Str) : wt rows (a ++ b) = wt rows a ++ wt rows b := List.map_append
theorem wt_rep (rows : List Sy.Row) (n : Nat) (x : Str) : wt rows (List.replicate n x) = List.replicate n (ar rows x) := List.map_replicate
theorem wt_comb {rows : List Sy.Row} {x y : Str} (hx : ar rows x = 2) (hy : ar rows y = 0) : ∀ n : Nat, wt rows (List.replicate n [x, y]).flatten = (List.replicate n [2, 0]).flatten
  | 0 => rfl
  | n + 1 => by
    rw [List.replicate_succ, List.flatten_cons, wt_app, wt_comb hx hy n, List.replicate_succ, List.flatten_cons]
    show [ar rows x, ar rows y] ++ _ = _
    rw [hx, hy]
theorem flat_rep (n : Nat) (xs : List Str) : (List.replicate n (xs.map V.str)).flatten = ((List.replicate n xs).flatten).map V.str := by
  rw [List.map_flatten, List.map_replicate]
theorem flat_rep1 (n : Nat) (x : Str) : (List.replicate n [x]).flatten = List.replicate n x := by
  induction n with
  | zero => rfl
  | succ n ih => rw [List.replicate_succ, List.flatten_cons, ih]; rfl
/-- the kinds with n branches -/
def kindsN (rows : List Sy.Row) (n : Nat) : List Str := (rows.filter fun r => decide (r.2 = n)).map (·.1)
theorem kindsN_ar {rows : List Sy.Row} (ok : RowsOk rows) {n : Nat} {x : Str} (h : x ∈ kindsN rows n) : ar rows x = n ∧ isK rows x = true := by
  obtain ⟨r, hr, rfl⟩ := List.mem_map.mp h
  obtain ⟨h1, h2⟩ := List.mem_filter.mp hr
  have hl := lookup_mem ok.nd h1
  exact ⟨by unfold ar; rw [hl]; exact of_decide_eq_true h2, by unfold isK; rw [hl]; rfl⟩
theorem kindsN_le (rows : List Sy.Row) (n : Nat) : (kindsN rows n).length ≤ rows.length := by
  unfold kindsN
  rw [List.length_map]
  exact List.length_filter_le _ _
section
variable {P : Program} {w : World} {K : PySem.W.Frag} {mg : Str → Option Value} {base : Heap}
def spLong (K : PySem.W.Frag) : Sp := fun vs H Q _ => ∃ (g q : Addr) (rows : List Sy.Row), vs = [.ref g, .ref q] ∧ Bag g H ∧ q ≠ g ∧ RL K H q rows ∧ RowsOk rows ∧ ∀ l p H', Pln rows l → Dr g H H' → SqT K H' p (l.map V.str) → NoD H' p → Q (.ref p) H'
abbrev N_long : List Str := ["_law_bag_here", "_law_rows_here", "_law_ones", "_law_twos", "_law_leaves", "_law_leaf", "_law_many", "_law_shape", "_law_row"]
theorem sc_long : FnScope N_long ["_law_bag_here", "_law_rows_here"] (defScope (top 49)) := ⟨rfl, rfl, rfl, by decide +kernel, rfl, by decide +kernel, by decide +kernel⟩
/-- t * n, whatever n is -/
theorem rep_any {H : Hp} {a : Addr} {xs : List Str} {n : Nat} {Q : VK} (h : SqT K H a (xs.map V.str)) (hn : n ≤ 3000) (hx : xs.length ≤ 3) (q1 : n = 1 → Q (.ref a) H) (q : ∀ p H', Same H H' → SqT K H' p (((List.replicate n xs).flatten).map V.str) → n ≠ 1 → Q (.ref p) H') : rRepG K (.ref a) (.int (n : Nat)) H Q := by
  refine ⟨a, _, _, rfl, rfl, h, by omega, by omega, ?_, by rw [List.length_map]; omega, fun c => ?_, fun c p hp => ?_⟩
  · rw [List.length_map]
    have := Nat.mul_le_mul hx (show ((n : Int)).toNat ≤ 3000 by omega)
    omega
  · by_cases e : n = 1
    · exact q1 e
    · rcases c with c | c
      · have hx0 : xs = [] := List.map_eq_nil_iff.mp c
        refine q _ _ (Same.refl H) ?_ e
        rw [hx0] at h ⊢
        have : (List.replicate n ([] : List Str)).flatten = [] := by simp
        rw [this]
        exact h
      · omega
  · have := q p _ (up_same (o := .tup (List.replicate ((n : Int)).toNat (xs.map V.str)).flatten) hp) (by
      rw [← flat_rep]
      exact SqT.of upd_same) (fun z => c (.inr (by omega)))
    exact this
/-- the two of it put together, the second of one's own making -/
theorem catZ_any {H : Hp} {a b : Addr} {xs ys : List Str} {Q : VK} (h : SqT K H a (xs.map V.str)) (g : SqT K H b (ys.map V.str)) (hs : xs.length + ys.length ≤ 10000) (hy : ys ≠ []) (nb : xs = [] → NoD H b) (q : ∀ p H', Same H H' → SqT K H' p ((xs ++ ys).map V.str) → NoD H' p → Q (.ref p) H') : rCatZ K (.ref a) (.ref b) H Q := by
  refine ⟨a, b, _, _, rfl, rfl, h, g, by rw [List.length_map, List.length_map, sizeLine_eq]; omega, fun c => ?_, fun _ c => absurd (List.map_eq_nil_iff.mp c) hy, fun _ _ p H' n => ?_⟩
  · have hx : xs = [] := List.map_eq_nil_iff.mp c
    refine q _ _ (Same.refl H) ?_ (nb hx)
    rw [hx]
    exact g
  · refine q p H' n.same ?_ n.nod
    rw [List.map_append]
    exact n.sqt
theorem k_long (T : Txt K mg) (F : DF K mg "_law_long" 49) (c_law_draw : Cal P w K mg base 1 "_law_draw" ["_law_bag_here", "_law_size"] spDraw) : Cal P w K mg base 2 "_law_long" ["_law_bag_here", "_law_rows_here"] (spLong K) := by
  refine cal_of F.1 F.2 sc_long (fun _ _ _ _ _ _ us e => match us, e with | [_, _], _ => rfl) (fun vs H Q E s => by obtain ⟨_, _, _, rfl, _⟩ := s; rfl) ?_
  intro cdv A outer s H vs Q E hr h
  obtain ⟨g, q, rows, rfl, hg, hqg, hRL, ok, hq⟩ := h
  have sc := sc_long
  have pick : ∀ (D E : Addr) (n : Nat) (B8 H8 : Hp) (b8 : List Int), BagOk b8 → Hs B8 [(g, .lst (b8.map V.int))] H8 → B8 E = some (.lst ((kindsN rows n).map V.str)) → ∀ (j : Nat) (H9 : Hp), Dr g H8 H9 → H9 E = some (.lst ((kindsN rows n).map V.str)) := fun D E n B8 H8 b8 hb h8 hE j H9 d9 => by
    obtain ⟨b9, B9, _, s9, h9, _⟩ := h8.dr0 d9
    exact h9.sub _ _ (s9 _ _ hE)
  have tA : ∃ t, PSs (cxOf (L2.CX P w) P w K mg base N_long "_law_long" (defScope (top 49)) (He.ga K "_law_long") cdv A outer s H E) (sBody ((defBody (top 49)).getD 6 (.Pass ⟨0, 0, 0, 0⟩))) t ∧
      ∀ (D : Ends) (D1 D2 : Addr) (t4 : Option V) (leaf : Str) (many shape : Nat) (b8 : List Int) (B8 H8 : Hp), D.rt = Q → BagOk b8 → Hs B8 [(g, .lst (b8.map V.int))] H8 → B8 D1 = some (.lst ((kindsN rows 1).map V.str)) → 0 < (kindsN rows 1).length → ar rows leaf = 0 ∧ isK rows leaf = true → 2 ≤ many ∧ many ≤ 2000 → Dr g H H8 →
        t D [some (.ref g), some (.ref q), some (.ref D1), some (.ref D2), t4, some (.str leaf), some (.int (many : Nat)), some (.int (shape : Nat)), none] H8 := by
    refine ⟨_, (pss_one (ps_ret (pe_op op_catZ (pe_op op_repG (pe_tup (pa_cons (pe_ix ix_list (pv 2) (pe_cal c_law_draw hr (pa_cons (pv 0) (pa_cons (pe_callB call_len_seq (by rfl) T.len (by decide +kernel) (pa_cons (pv 2) pa_nil)) pa_nil))) (fun _ _ => rfl)) pa_nil)) (pe_op op_sub (pv 6) pe_int)) (pe_tupZ (pa_cons (pv 5) pa_nil))))), ?_⟩
    intro D D1 D2 t4 leaf many shape b8 B8 H8 hD hb h8 e1 hpos hleaf hm dr
    have l1 := kindsN_le rows 1
    have hle := ok.le
    refine ⟨_, rfl, _, rfl, _, rfl, D1, _, rfl, .inl (SqL.of (h8.sub _ _ e1)), g, (kindsN rows 1).length, by rw [List.length_map], h8.bag hb, hpos, by omega, fun j H9 hj d9 => ?_⟩
    obtain ⟨x, ex⟩ : ∃ x, (kindsN rows 1)[j]? = some x := ⟨_, List.getElem?_eq_getElem hj⟩
    have hx := kindsN_ar ok (List.mem_of_getElem? ex)
    refine ⟨D1, _, _, _, rfl, rfl, SqL.of (pick D1 D1 1 B8 H8 b8 hb h8 e1 j H9 d9), atI_nat (by rw [List.getElem?_map, ex]; rfl), by show 1 ≤ sizeLine; decide, fun p hp => ?_⟩
    refine ⟨_, rfl, _, _, rfl, rfl, ?_⟩
    show rRepG K (.ref p) (.int ((many : Int) - 1)) _ _
    rw [show (many : Int) - 1 = ((many - 1 : Nat) : Int) by omega]
    have done : ∀ p2 H2, Same H9 H2 → SqT K H2 p2 ((List.replicate (many - 1) x).map V.str) → (tTupZ (tCons (tVar 5) tNil)) [some (.ref g), some (.ref q), some (.ref D1), some (.ref D2), t4, some (.str leaf), some (.int (many : Nat)), some (.int (shape : Nat)), none] H2 fun y H3 => rCatZ K (.ref p2) y H3 D.rt := by
      intro p2 H2 s2 ht
      refine ⟨_, rfl, by show 1 ≤ sizeLine; decide, fun p3 H3 n3 => ?_⟩
      refine catZ_any (xs := List.replicate (many - 1) x) (ys := [leaf]) (Same.sqt n3.same ht) n3.sqt (by rw [List.length_replicate]; show _ + 1 ≤ _; omega) (by simp) (fun _ => n3.nod) fun p4 H4 s4 t4' nd => ?_
      rw [hD]
      refine hq _ p4 H4 ⟨?_, fun y hy => ?_, ?_⟩ ((dr.trans d9).same ((s2.trans n3.same).trans s4)) t4' nd
      · rw [wt_app, wt_rep, hx.1]
        show Fo 1 (_ ++ [ar rows leaf])
        rw [hleaf.1]
        exact Fo.chain _
      · rcases List.mem_append.mp hy with hy | hy
        · rw [(List.mem_replicate.mp hy).2]; exact hx.2
        · rw [List.mem_singleton.mp hy]; exact hleaf.2
      · rw [List.length_append, List.length_replicate]
        show _ + 1 ≤ _
        omega
    refine rep_any (xs := [x]) (SqT.of upd_same) (by omega) (by show 1 ≤ 3; decide) (fun e => done p _ (up_same hp) ?_) (fun p2 H2 s2 ht _ => done p2 H2 ((up_same hp).trans s2) ?_)
    · rw [e]
      exact SqT.of upd_same
    · rw [flat_rep1] at ht
      exact ht
  have tR : ∃ t, PSs (cxOf (L2.CX P w) P w K mg base N_long "_law_long" (defScope (top 49)) (He.ga K "_law_long") cdv A outer s H E) ((defBody (top 49)).drop 7) t ∧
      ∀ (D : Ends) (D1 D2 : Addr) (t4 : Option V) (leaf : Str) (many shape : Nat) (b8 : List Int) (B8 H8 : Hp), D.rt = Q → BagOk b8 → Hs B8 [(g, .lst (b8.map V.int))] H8 → B8 D2 = some (.lst ((kindsN rows 2).map V.str)) → ar rows leaf = 0 ∧ isK rows leaf = true → 2 ≤ many ∧ many ≤ 2000 → Dr g H H8 →
        t D [some (.ref g), some (.ref q), some (.ref D1), some (.ref D2), t4, some (.str leaf), some (.int (many : Nat)), some (.int (shape : Nat)), none] H8 := by
    refine ⟨_, (pss_cons (ps_if (PW.pt (pw_and (pt_truth (pv 3) (by intro _; rfl)) (pw_and1 (pt_cmpR op_eq (pv 7) pe_int (nomark _)))))
        (pss_one (ps_ret (pe_op op_catZ (pe_op op_repG (pe_tup (pa_cons (pe_ix ix_list (pv 3) (pe_cal c_law_draw hr (pa_cons (pv 0) (pa_cons (pe_callB call_len_seq (by rfl) T.len (by decide +kernel) (pa_cons (pv 3) pa_nil)) pa_nil))) (fun _ _ => rfl)) (pa_cons (pv 5) pa_nil))) (pe_op op_fdiv (pe_op op_sub (pv 6) pe_int) pe_int)) (pe_tupZ (pa_cons (pv 5) pa_nil)))))
        pss_nil)
      (pss_cons (ps_if (pt_truth (pv 3) (by intro _; rfl))
        (pss_one (ps_ret (pe_op op_catZ (pe_op op_repG (pe_tup (pa_cons (pe_ix ix_list (pv 3) (pe_cal c_law_draw hr (pa_cons (pv 0) (pa_cons (pe_callB call_len_seq (by rfl) T.len (by decide +kernel) (pa_cons (pv 3) pa_nil)) pa_nil))) (fun _ _ => rfl)) pa_nil)) (pe_op op_fdiv (pe_op op_sub (pv 6) pe_int) pe_int)) (pe_op op_repG (pe_tupZ (pa_cons (pv 5) pa_nil)) (pe_op op_add (pe_op op_fdiv (pe_op op_sub (pv 6) pe_int) pe_int) pe_int)))))
        pss_nil)
      (pss_one (ps_ret (pe_tupZ (pa_cons (pv 5) pa_nil)))))), ?_⟩
    intro D D1 D2 t4 leaf many shape b8 B8 H8 hD hb h8 e2 hleaf hm dr
    have l2 := kindsN_le rows 2
    have hle := ok.le
    have q2 := h8.sub _ _ e2
    obtain ⟨k, hk⟩ : ∃ k : Nat, k = (many - 1) / 2 := ⟨_, rfl⟩
    have ek : ((many : Int) - 1) / 2 = (k : Int) := by omega
    have k2 : 2 * k + 1 ≤ many := by omega
    refine ⟨_, rfl, _, .inl ⟨_, SqL.of q2, rfl⟩, if_bool (fun c1 => ?_) (fun c1 => ?_)⟩
    · have hpos : 0 < (kindsN rows 2).length := by
        cases e : kindsN rows 2 with
        | nil => rw [e] at c1; simp at c1
        | cons a b => simp
      refine ⟨_, rfl, rfl, _, rfl, if_dec (fun c2 => ?_) (fun c2 => ?_)⟩
      · refine ⟨_, rfl, _, rfl, _, rfl, D2, _, rfl, .inl (SqL.of q2), g, (kindsN rows 2).length, by rw [List.length_map], h8.bag hb, hpos, by omega, fun j H9 hj d9 => ?_⟩
        obtain ⟨x, ex⟩ : ∃ x, (kindsN rows 2)[j]? = some x := ⟨_, List.getElem?_eq_getElem hj⟩
        have hx := kindsN_ar ok (List.mem_of_getElem? ex)
        refine ⟨D2, _, _, _, rfl, rfl, SqL.of (pick D2 D2 2 B8 H8 b8 hb h8 e2 j H9 d9), atI_nat (by rw [List.getElem?_map, ex]; rfl), _, rfl, by show 2 ≤ sizeLine; decide, fun p hp => ?_⟩
        refine ⟨_, rfl, _, _, rfl, rfl, _, _, rfl, rfl, ⟨by decide, by decide⟩, ?_⟩
        show rRepG K (.ref p) (.int (((many : Int) - 1) / 2)) _ _
        rw [ek]
        have done : ∀ p2 H2, Same H9 H2 → SqT K H2 p2 (((List.replicate k [x, leaf]).flatten).map V.str) → (tTupZ (tCons (tVar 5) tNil)) [some (.ref g), some (.ref q), some (.ref D1), some (.ref D2), t4, some (.str leaf), some (.int (many : Nat)), some (.int (shape : Nat)), none] H2 fun y H3 => rCatZ K (.ref p2) y H3 D.rt := by
          intro p2 H2 s2 ht
          have hfl : ((List.replicate k [x, leaf]).flatten).length = 2 * k := by
            rw [List.length_flatten, List.map_replicate, List.sum_replicate_nat]
            show k * 2 = _
            omega
          refine ⟨_, rfl, by show 1 ≤ sizeLine; decide, fun p3 H3 n3 => ?_⟩
          refine catZ_any (xs := (List.replicate k [x, leaf]).flatten) (ys := [leaf]) (Same.sqt n3.same ht) n3.sqt (by rw [hfl]; show _ + 1 ≤ _; omega) (by simp) (fun _ => n3.nod) fun p4 H4 s4 t4' nd => ?_
          rw [hD]
          refine hq _ p4 H4 ⟨?_, fun y hy => ?_, ?_⟩ ((dr.trans d9).same ((s2.trans n3.same).trans s4)) t4' nd
          · rw [wt_app, wt_comb hx.1 hleaf.1]
            show Fo 1 (_ ++ [ar rows leaf])
            rw [hleaf.1]
            exact Fo.comb _
          · rcases List.mem_append.mp hy with hy | hy
            · obtain ⟨z, hz, hy⟩ := List.mem_flatten.mp hy
              rw [(List.mem_replicate.mp hz).2] at hy
              rcases List.mem_cons.mp hy with rfl | hy
              · exact hx.2
              · rw [List.mem_singleton.mp hy]; exact hleaf.2
            · rw [List.mem_singleton.mp hy]; exact hleaf.2
          · rw [List.length_append, hfl]
            show _ + 1 ≤ _
            omega
        refine rep_any (xs := [x, leaf]) (SqT.of upd_same) (by omega) (by show 2 ≤ 3; decide) (fun e => done p _ (up_same hp) ?_) (fun p2 H2 s2 ht _ => done p2 H2 ((up_same hp).trans s2) ht)
        rw [e]
        exact SqT.of upd_same
      · refine ⟨_, rfl, _, .inl ⟨_, SqL.of q2, rfl⟩, ?_⟩
        rw [c1]
        refine iteT ?_
        refine ⟨_, rfl, _, rfl, _, rfl, D2, _, rfl, .inl (SqL.of q2), g, (kindsN rows 2).length, by rw [List.length_map], h8.bag hb, hpos, by omega, fun j H9 hj d9 => ?_⟩
        obtain ⟨x, ex⟩ : ∃ x, (kindsN rows 2)[j]? = some x := ⟨_, List.getElem?_eq_getElem hj⟩
        have hx := kindsN_ar ok (List.mem_of_getElem? ex)
        refine ⟨D2, _, _, _, rfl, rfl, SqL.of (pick D2 D2 2 B8 H8 b8 hb h8 e2 j H9 d9), atI_nat (by rw [List.getElem?_map, ex]; rfl), by show 1 ≤ sizeLine; decide, fun p hp => ?_⟩
        refine ⟨_, rfl, _, _, rfl, rfl, _, _, rfl, rfl, ⟨by decide, by decide⟩, ?_⟩
        show rRepG K (.ref p) (.int (((many : Int) - 1) / 2)) _ _
        rw [ek]
        have last : ∀ p2 p5 H2 H5, Same H9 H2 → SqT K H2 p2 ((List.replicate k x).map V.str) → Same H2 H5 → SqT K H5 p5 ((List.replicate (k + 1) leaf).map V.str) → (k = 0 → NoD H5 p5) → rCatZ K (.ref p2) (.ref p5) H5 D.rt := by
          intro p2 p5 H2 H5 s2 ht s5 ht5 nd5
          refine catZ_any (xs := List.replicate k x) (ys := List.replicate (k + 1) leaf) (Same.sqt s5 ht) ht5 (by rw [List.length_replicate, List.length_replicate]; omega) (by rw [List.replicate_succ]; simp) (fun e => nd5 ?_) fun p4 H4 s4 t4' nd => ?_
          · have := congrArg List.length e
            rw [List.length_replicate] at this
            exact this
          rw [hD]
          refine hq _ p4 H4 ⟨?_, fun y hy => ?_, ?_⟩ ((dr.trans d9).same ((s2.trans s5).trans s4)) t4' nd
          · rw [wt_app, wt_rep, wt_rep, hx.1, hleaf.1]
            exact Fo.fork k 0
          · rcases List.mem_append.mp hy with hy | hy
            · rw [(List.mem_replicate.mp hy).2]; exact hx.2
            · rw [(List.mem_replicate.mp hy).2]; exact hleaf.2
          · rw [List.length_append, List.length_replicate, List.length_replicate]
            omega
        have done : ∀ p2 H2, Same H9 H2 → SqT K H2 p2 ((List.replicate k x).map V.str) → (tOp (rRepG K) (tTupZ (tCons (tVar 5) tNil)) (tOp (rI0 fun i j => V.int (i + j)) (tOp (rI CDiv fun i j => V.int (i / j)) (tOp (rI0 fun i j => V.int (i - j)) (tVar 6) (tC (.int 1))) (tC (.int 2))) (tC (.int 1)))) [some (.ref g), some (.ref q), some (.ref D1), some (.ref D2), t4, some (.str leaf), some (.int (many : Nat)), some (.int (shape : Nat)), none] H2 fun y H3 => rCatZ K (.ref p2) y H3 D.rt := by
          intro p2 H2 s2 ht
          refine ⟨_, rfl, by show 1 ≤ sizeLine; decide, fun p3 H3 n3 => ?_⟩
          refine ⟨_, rfl, _, _, rfl, rfl, _, _, rfl, rfl, ⟨by decide, by decide⟩, _, _, rfl, rfl, ?_⟩
          show rRepG K (.ref p3) (.int (((many : Int) - 1) / 2 + 1)) _ _
          rw [ek, show (k : Int) + 1 = ((k + 1 : Nat) : Int) by omega]
          refine rep_any (xs := [leaf]) n3.sqt (by omega) (by show 1 ≤ 3; decide) (fun e => ?_) (fun p5 H5 s5 ht5 hne => ?_)
          · refine last p2 p3 H2 H3 s2 ht n3.same ?_ fun _ => n3.nod
            rw [e]
            exact n3.sqt
          · rw [flat_rep1] at ht5
            exact last p2 p5 H2 H5 s2 ht (n3.same.trans s5) ht5 fun z => absurd (show k + 1 = 1 by omega) hne
        refine rep_any (xs := [x]) (SqT.of upd_same) (by omega) (by show 1 ≤ 3; decide) (fun e => done p _ (up_same hp) ?_) (fun p2 H2 s2 ht _ => done p2 H2 ((up_same hp).trans s2) ?_)
        · rw [e]
          exact SqT.of upd_same
        · rw [flat_rep1] at ht
          exact ht
    · refine ⟨_, rfl, _, .inl ⟨_, SqL.of q2, rfl⟩, ?_⟩
      rw [c1]
      refine iteF ⟨_, rfl, by show 1 ≤ sizeLine; decide, fun p H9 n => ?_⟩
      rw [hD]
      refine hq [leaf] p H9 ⟨?_, fun y hy => ?_, by show 1 ≤ 2000; decide⟩ (dr.same n.same) n.sqt n.nod
      · show Fo 1 [ar rows leaf]
        rw [hleaf.1]
        trivial
      · rw [List.mem_singleton.mp hy]; exact hleaf.2
  obtain ⟨tA, pA, hA⟩ := tA
  obtain ⟨tR, pR, hR⟩ := tR
  obtain ⟨l0, hl0, h0⟩ := hg.take
  have hB0 := hRL.del hqg h0.r0
  generalize hB : L2.del H g = B0 at *
  obtain ⟨ps, hL, hP⟩ := hB0
  have hpl := paired_len hP
  generalize hpr : ps.zip rows = pr at *
  have zf : pr.map (fun z => V.ref z.1) = ps.map V.ref := by
    have : pr.map (·.1) = ps := by rw [← hpr]; exact List.map_fst_zip (by omega)
    rw [← this, List.map_map]
    rfl
  have zr2 : pr.map (·.2) = rows := by rw [← hpr]; exact List.map_snd_zip (by omega)
  have zs : ∀ z ∈ pr, SqT K B0 z.1 [.str z.2.1, .int (z.2.2 : Nat)] := fun z hz => by
    rw [← hpr] at hz
    obtain ⟨i, hi, e⟩ := List.mem_iff_getElem.mp hz
    rw [List.getElem_zip] at e
    rw [List.length_zip] at hi
    obtain ⟨p2, e2, t⟩ := paired_at hP (i := i) (y := rows[i]) (List.getElem?_eq_getElem (by omega))
    rw [List.getElem?_eq_getElem (by omega)] at e2
    have : z.1 = p2 := by rw [← e]; exact Option.some.inj e2
    have e3 : z.2 = rows[i] := by rw [← e]
    rw [this, e3]
    exact t
  have zlen : pr.length ≤ 8 := by rw [← hpr, List.length_zip]; have := ok.le; omega
  rw [← zf] at hL
  have kn : ∀ n : Nat, (pr.filter fun z => decide (z.2.2 = n)).map (fun z => V.str z.2.1) = (kindsN rows n).map V.str := fun n => by
    rw [kindsN, ← zr2, List.filter_map, List.map_map, List.map_map]
    rfl
  refine ⟨_, (pss_cons (ps_setLc (i := 2) (own := [("_law_row", 8)]) (g := gName 8) (tt := tTest (tOp rEq (tOp (rIxT K) (tVar 8) (tC (.int 1))) (tC (.int 1)))) (te := tOp (rIxT K) (tVar 8) (tC (.int 0))) rfl sc.nd rfl rfl (sw_true rfl rfl rfl (by decide +kernel)) (pi_list (pv 1)) (blkOk_by (N := N_long) (sc := defScope (top 49)) (by decide +kernel)) (fun _ _ _ _ _ => (pg_name (i := 8) sc.nd rfl (Or.inl rfl))) (fun _ _ _ _ _ => (pts_one (pt_cmpR op_eq (pe_ix ix_tup (pv 8) pe_int (fun _ _ => rfl)) pe_int (nomark _)))) (fun _ _ _ _ _ => (pe_ix ix_tup (pv 8) pe_int (fun _ _ => rfl))))
      (pss_cons (ps_setLc (i := 3) (own := [("_law_row", 8)]) (g := gName 8) (tt := tTest (tOp rEq (tOp (rIxT K) (tVar 8) (tC (.int 1))) (tC (.int 2)))) (te := tOp (rIxT K) (tVar 8) (tC (.int 0))) rfl sc.nd rfl rfl (sw_true rfl rfl rfl (by decide +kernel)) (pi_list (pv 1)) (blkOk_by (N := N_long) (sc := defScope (top 49)) (by decide +kernel)) (fun _ _ _ _ _ => (pg_name (i := 8) sc.nd rfl (Or.inl rfl))) (fun _ _ _ _ _ => (pts_one (pt_cmpR op_eq (pe_ix ix_tup (pv 8) pe_int (fun _ _ => rfl)) pe_int (nomark _)))) (fun _ _ _ _ _ => (pe_ix ix_tup (pv 8) pe_int (fun _ _ => rfl))))
      (pss_cons (ps_setLc (i := 4) (own := [("_law_row", 8)]) (g := gName 8) (tt := tTest (tOp rEq (tOp (rIxT K) (tVar 8) (tC (.int 1))) (tC (.int 0)))) (te := tOp (rIxT K) (tVar 8) (tC (.int 0))) rfl sc.nd rfl rfl (sw_true rfl rfl rfl (by decide +kernel)) (pi_list (pv 1)) (blkOk_by (N := N_long) (sc := defScope (top 49)) (by decide +kernel)) (fun _ _ _ _ _ => (pg_name (i := 8) sc.nd rfl (Or.inl rfl))) (fun _ _ _ _ _ => (pts_one (pt_cmpR op_eq (pe_ix ix_tup (pv 8) pe_int (fun _ _ => rfl)) pe_int (nomark _)))) (fun _ _ _ _ _ => (pe_ix ix_tup (pv 8) pe_int (fun _ _ => rfl))))
      (pss_cons (ps_set (i := 5) sc.nd rfl (Or.inl rfl) (pe_ix ix_list (pv 4) (pe_cal c_law_draw hr (pa_cons (pv 0) (pa_cons (pe_callB call_len_seq (by rfl) T.len (by decide +kernel) (pa_cons (pv 4) pa_nil)) pa_nil))) (fun _ _ => rfl)))
      (pss_cons (ps_set (i := 6) sc.nd rfl (Or.inl rfl) (pe_ix ix_list (pe_lst (pa_cons pe_int (pa_cons pe_int (pa_cons (pe_op op_add pe_int (pe_cal c_law_draw hr (pa_cons (pv 0) (pa_cons pe_int pa_nil)))) pa_nil)))) (pe_cal c_law_draw hr (pa_cons (pv 0) (pa_cons pe_int pa_nil))) (fun _ _ => rfl)))
      (pss_cons (ps_set (i := 7) sc.nd rfl (Or.inl rfl) (pe_cal c_law_draw hr (pa_cons (pv 0) (pa_cons pe_int pa_nil))))
      (pss_cons (ps_if (PW.pt (pw_and (pt_truth (pv 2) (by intro _; rfl)) (pw_and1 (PW.pt (pw_or (pt_cmpR op_eq (pv 7) pe_int (nomark _)) (pw_or1 (pt_not (pt_truth (pv 3) (by intro _; rfl)))))))))
        pA
        pss_nil)
      pR))))))), ?_⟩
  -- the three lists
  have step : ∀ (n : Nat) (σ : L2.St) (H' : Hp), Same B0 H' → ∀ z ∈ pr, ∀ (R1 : VK) (R2 : Hp → Prop), (decide (z.2.2 = n) = true → R1 (.str z.2.1) H') → (decide (z.2.2 = n) = false → R2 H') → σ[8]? = some (some (.ref z.1)) →
      (tTest (tOp rEq (tOp (rIxT K) (tVar 8) (tC (.int 1))) (tC (.int (n : Nat))))) σ H' fun b H3 => if b = true then (tOp (rIxT K) (tVar 8) (tC (.int 0))) σ H3 R1 else R2 H3 := by
    intro n σ H' s' z hz R1 R2 k1 k2 e8
    have tz := Same.sqt s' (zs z hz)
    refine ⟨_, e8, z.1, _, _, _, rfl, rfl, tz, atI_nat (j := 1) rfl, rfl, _, rfl, if_dec (fun c => ?_) (fun c => ?_)⟩
    · exact ⟨_, e8, z.1, _, _, _, rfl, rfl, tz, atI_nat (j := 0) rfl, k1 (decide_eq_true (by have := V.int.inj c; omega))⟩
    · exact k2 (decide_eq_false (fun z => c (by rw [z])))
  refine ⟨_, rfl, q, rfl, ⟨_, SqL.of (h0.sub _ _ hL)⟩, fun D1 hD1 => lc_filt (si := 8) (f := fun z : Addr × Sy.Row => V.ref z.1) (out := fun z => V.str z.2.1) (keep := fun z => decide (z.2.2 = 1)) h0 hD1 hL (by omega) (fun z hz H' s' R1 R2 k1 k2 => step 1 _ H' s' z hz R1 R2 k1 k2 rfl) ?_⟩
  intro H1 h1
  rw [kn 1] at h1
  obtain ⟨s1, h1⟩ := h1.give
  have e1 : (upd B0 D1 (.lst ((kindsN rows 1).map V.str))) D1 = some (.lst ((kindsN rows 1).map V.str)) := upd_same
  generalize upd B0 D1 (.lst ((kindsN rows 1).map V.str)) = B1 at *
  refine ⟨_, rfl, q, rfl, ⟨_, SqL.of (h1.sub _ _ (s1 _ _ hL))⟩, fun D2 hD2 => lc_filt (si := 8) (f := fun z : Addr × Sy.Row => V.ref z.1) (out := fun z => V.str z.2.1) (keep := fun z => decide (z.2.2 = 2)) h1 hD2 (s1 _ _ hL) (by omega) (fun z hz H' s' R1 R2 k1 k2 => step 2 _ H' (s1.trans s') z hz R1 R2 k1 k2 rfl) ?_⟩
  intro H2 h2
  rw [kn 2] at h2
  obtain ⟨s2, h2⟩ := h2.give
  have e2 : (upd B1 D2 (.lst ((kindsN rows 2).map V.str))) D2 = some (.lst ((kindsN rows 2).map V.str)) := upd_same
  generalize upd B1 D2 (.lst ((kindsN rows 2).map V.str)) = B2 at *
  have s02 := s1.trans s2
  refine ⟨_, rfl, q, rfl, ⟨_, SqL.of (h2.sub _ _ (s02 _ _ hL))⟩, fun D3 hD3 => lc_filt (si := 8) (f := fun z : Addr × Sy.Row => V.ref z.1) (out := fun z => V.str z.2.1) (keep := fun z => decide (z.2.2 = 0)) h2 hD3 (s02 _ _ hL) (by omega) (fun z hz H' s' R1 R2 k1 k2 => step 0 _ H' (s02.trans s') z hz R1 R2 k1 k2 rfl) ?_⟩
  intro H3 h3
  rw [kn 0] at h3
  obtain ⟨s3, h3⟩ := h3.give
  have e3 : (upd B2 D3 (.lst ((kindsN rows 0).map V.str))) D3 = some (.lst ((kindsN rows 0).map V.str)) := upd_same
  generalize upd B2 D3 (.lst ((kindsN rows 0).map V.str)) = B3 at *
  have s03 := s02.trans s3
  have hle := ok.le
  have lp : 0 < (kindsN rows 0).length := leafs_pos ok.lf
  have l1 := kindsN_le rows 1
  have l2 := kindsN_le rows 2
  have l3 := kindsN_le rows 0
  have e1' := s3 _ _ (s2 _ _ e1)
  have e2' := s3 _ _ e2
  -- leaf, many, shape
  refine ⟨_, rfl, _, rfl, _, rfl, D3, _, rfl, .inl (SqL.of (h3.sub _ _ e3)), g, (kindsN rows 0).length, by rw [List.length_map], h3.bag hl0, lp, by omega, fun j H4 hj d4 => ?_⟩
  obtain ⟨b4, B4, hb4, s4, h4, _⟩ := h3.dr0 d4
  obtain ⟨leaf, eleaf⟩ : ∃ x, (kindsN rows 0)[j]? = some x := ⟨_, List.getElem?_eq_getElem hj⟩
  have hleaf := kindsN_ar ok (List.mem_of_getElem? eleaf)
  refine ⟨D3, _, _, _, rfl, rfl, SqL.of (h4.sub _ _ (s4 _ _ e3)), atI_nat (by rw [List.getElem?_map, eleaf]; rfl), ?_⟩
  refine ⟨_, rfl, g, 1999, rfl, h4.bag hb4, by decide, by decide, fun m1 H5 hm1 d5 => ?_⟩
  obtain ⟨b5, B5, hb5, s5, h5, _⟩ := h4.dr0 d5
  refine ⟨_, _, rfl, rfl, by show 3 ≤ sizeLine; decide, fun Dm hDm => ?_⟩
  have h6 := h5.lay (o := .lst [.int 2000, .int 1999, .int (2 + (m1 : Nat))]) hDm
  refine ⟨_, rfl, g, 3, rfl, h6.bag hb5, by decide, by decide, fun m2 H7 hm2 d7 => ?_⟩
  have eDm : H7 Dm = some (.lst [.int 2000, .int 1999, .int (2 + (m1 : Nat))]) := by
    obtain ⟨_, _, c⟩ := d7
    exact c.2 _ _ (h5.ne_of_new hDm (g, .lst (b5.map V.int)) (by simp)).symm upd_same
  obtain ⟨b7, B7, hb7, s7, h7, _⟩ := h6.dr0 d7
  obtain ⟨many, emany, hmany⟩ : ∃ many : Nat, ([.int 2000, .int 1999, .int (2 + (m1 : Nat))] : List V)[m2]? = some (.int (many : Nat)) ∧ 2 ≤ many ∧ many ≤ 2000 := by
    match m2, hm2 with
    | 0, _ => exact ⟨2000, rfl, by decide, by decide⟩
    | 1, _ => exact ⟨1999, rfl, by decide, by decide⟩
    | 2, _ => exact ⟨2 + m1, rfl, by omega, by omega⟩
  refine ⟨Dm, _, _, _, rfl, rfl, SqL.of eDm, atI_nat emany, ?_⟩
  refine ⟨_, rfl, g, 3, rfl, h7.bag hb7, by decide, by decide, fun shape H8 hsh d8 => ?_⟩
  obtain ⟨b8, B8, hb8, s8, h8, _⟩ := h7.dr0 d8
  have s38 : Same B3 B8 := ((s4.trans s5).trans s7).trans s8
  have s08 : Same B0 B8 := s03.trans s38
  have q1 := h8.sub _ _ (s38 _ _ e1')
  have q2 := h8.sub _ _ (s38 _ _ e2')
  have dr8 : Dr g H H8 := h8.isDr hb8 (by simp) (by rw [hB]; exact s08)
  refine ⟨_, rfl, _, .inl ⟨_, SqL.of q1, rfl⟩, if_bool (fun c1 => ?_) (fun c1 => ?_)⟩
  · have hpos : 0 < (kindsN rows 1).length := by
      cases e : kindsN rows 1 with
      | nil => rw [e] at c1; simp at c1
      | cons a b => simp
    refine ⟨_, rfl, rfl, _, rfl, if_dec (fun c2 => ?_) (fun c2 => ?_)⟩
    · exact iteT (hA _ D1 D2 _ leaf many shape b8 B8 H8 rfl hb8 h8 (s38 _ _ e1') hpos hleaf hmany dr8)
    · refine ⟨_, rfl, _, .inl ⟨_, SqL.of q2, rfl⟩, if_bool (fun c3 => ?_) (fun c3 => ?_)⟩
      · exact hA _ D1 D2 _ leaf many shape b8 B8 H8 rfl hb8 h8 (s38 _ _ e1') hpos hleaf hmany dr8
      · exact hR _ D1 D2 _ leaf many shape b8 B8 H8 rfl hb8 h8 (s38 _ _ e2') hleaf hmany dr8
  · exact hR _ D1 D2 _ leaf many shape b8 B8 H8 rfl hb8 h8 (s38 _ _ e2') hleaf hmany dr8
end
end Sy
namespace Sy
open PySem PySem.Spec PyProof.Rows L2
/-- data of at most that depth -/
def Fit : Nat → PyData → Prop
  | _, .none => True
  | _, .bool _ => True
  | _, .int _ => True
  | _, .str _ => True
  | n + 1, .tuple ds => ds.length ≤ 1000000 ∧ ∀ d ∈ ds, Fit n d
  | _, _ => False
theorem tyx_tup {K : PySem.W.Frag} {H : Hp} {a : Addr} {xs : List V} (h : SqT K H a xs) : TyX K H (.ref a) (.type "tuple") := by
  rcases h with (h | ⟨o, h⟩) | ⟨o, its, n, hk, hc, _⟩
  · exact .base (.tup h)
  · exact .fTuple h
  · exact .kTuple hk hc
section
variable {P : Program} {w : World} {K : PySem.W.Frag} {mg : Str → Option Value} {base : Heap}
def spSame (K : PySem.W.Frag) (n : Nat) : Sp := fun vs H Q _ => ∃ (x y : V) (d : PyData), vs = [x, y] ∧ Im K H x d ∧ Im K H y d ∧ Fit n d ∧ Q (.bl true) H
abbrev N_same : List Str := ["_law_told", "_law_due", "_law_k"]
theorem sc_same : FnScope N_same ["_law_told", "_law_due"] (defScope (top 53)) := ⟨rfl, rfl, rfl, by decide +kernel, rfl, by decide +kernel, by decide +kernel⟩
/-- the names of the built-in classes that are asked for -/
structure TxtC (mg : Str → Option Value) : Prop where
  tuple : mg "tuple" = none
  bool : mg "bool" = none
  int : mg "int" = none
  str : mg "str" = none
  isinstance : mg "isinstance" = none
  len : mg "len" = none
  range : mg "range" = none
theorem k_same (T : TxtC mg) (F : DF K mg "_law_same" 53) : ∀ n : Nat, Cal P w K mg base (n + 1) "_law_same" ["_law_told", "_law_due"] (spSame K n) := by
  -- what is no tuple
  have flat : ∀ (k : Nat) (cdv : Value) (A : Around) (outer : List Env) (s : Shared) (H : Hp) (E : XK), Room k (A.deeper (envOfC "_law_same" (defScope (top 53)) s.heap.objs.size (He.ga K "_law_same") cdv)) →
      ∃ t, PSs (cxOf (L2.CX P w) P w K mg base N_same "_law_same" (defScope (top 53)) (He.ga K "_law_same") cdv A outer s H E) ((defBody (top 53)).drop 2) t ∧ ∀ (D : Ends) (Q : VK) (x y : V) (d : PyData), Im K H x d → Im K H y d → D.rt = Q → (∀ ds, d ≠ .tuple ds) → d ≠ .none → Q (.bl true) H → t D [some x, some y, none] H := by
    intro k cdv A outer s H E hr
    refine ⟨_, (pss_cons (ps_if (pt_val (pe_callB call_isi (by rfl) T.isinstance (by decide +kernel) (pa_cons (pv 1) (pa_cons (pe_bltn (v := .ty "bool") (by rfl) T.bool (by decide +kernel) rfl) pa_nil))))
        (pss_one (ps_ret (pe_and (pe_callB call_isi (by rfl) T.isinstance (by decide +kernel) (pa_cons (pv 0) (pa_cons (pe_bltn (v := .ty "bool") (by rfl) T.bool (by decide +kernel) rfl) pa_nil))) (pe_one (pe_cmpR op_eq (pv 0) (pv 1) (nomark _))))))
        pss_nil)
      (pss_cons (ps_if (pt_val (pe_callB call_isi (by rfl) T.isinstance (by decide +kernel) (pa_cons (pv 1) (pa_cons (pe_bltn (v := .ty "int") (by rfl) T.int (by decide +kernel) rfl) pa_nil))))
        (pss_one (ps_ret (pe_and (pe_callB call_isi (by rfl) T.isinstance (by decide +kernel) (pa_cons (pv 0) (pa_cons (pe_bltn (v := .ty "int") (by rfl) T.int (by decide +kernel) rfl) pa_nil))) (pe_and (pe_not (pe_callB call_isi (by rfl) T.isinstance (by decide +kernel) (pa_cons (pv 0) (pa_cons (pe_bltn (v := .ty "bool") (by rfl) T.bool (by decide +kernel) rfl) pa_nil)))) (pe_one (pe_cmpR op_eq (pv 0) (pv 1) (nomark _)))))))
        pss_nil)
      (pss_one (ps_ret (pe_and (pe_callB call_isi (by rfl) T.isinstance (by decide +kernel) (pa_cons (pv 0) (pa_cons (pe_bltn (v := .ty "str") (by rfl) T.str (by decide +kernel) rfl) pa_nil))) (pe_one (pe_cmpR op_eq (pv 0) (pv 1) (nomark _)))))))), ?_⟩
    intro D Q x y d ix iy hD nt nn hq
    cases ix with
    | non => exact absurd rfl nn
    | tup _ _ => exact absurd rfl (nt _)
    | bl b =>
      cases iy
      refine ⟨_, rfl, _, _, _, _, true, rfl, .ty _, .base (.bl b), kit_ty (by decide +kernel), _, rfl, iteT ?_⟩
      refine ⟨_, rfl, _, _, _, _, true, rfl, .ty _, .base (.bl b), kit_ty (by decide +kernel), _, rfl, iteT ?_⟩
      refine ⟨_, rfl, _, rfl, rfl, ?_⟩
      rw [hD, decide_eq_true rfl]
      exact hq
    | int i =>
      cases iy
      refine ⟨_, rfl, _, _, _, _, false, rfl, .ty _, .base (.int i), kit_ty (by decide +kernel), _, rfl, iteF ?_⟩
      refine ⟨_, rfl, _, _, _, _, true, rfl, .ty _, .base (.int i), kit_ty (by decide +kernel), _, rfl, iteT ?_⟩
      refine ⟨_, rfl, _, _, _, _, true, rfl, .ty _, .base (.int i), kit_ty (by decide +kernel), _, rfl, iteT ?_⟩
      refine ⟨_, rfl, _, _, _, _, false, rfl, .ty _, .base (.int i), kit_ty (by decide +kernel), _, rfl, _, rfl, iteT ?_⟩
      refine ⟨_, rfl, _, rfl, rfl, ?_⟩
      rw [hD, decide_eq_true rfl]
      exact hq
    | str z =>
      cases iy
      refine ⟨_, rfl, _, _, _, _, false, rfl, .ty _, .base (.str z), kit_ty (by decide +kernel), _, rfl, iteF ?_⟩
      refine ⟨_, rfl, _, _, _, _, false, rfl, .ty _, .base (.str z), kit_ty (by decide +kernel), _, rfl, iteF ?_⟩
      refine ⟨_, rfl, _, _, _, _, true, rfl, .ty _, .base (.str z), kit_ty (by decide +kernel), _, rfl, iteT ?_⟩
      refine ⟨_, rfl, _, rfl, rfl, ?_⟩
      rw [hD, decide_eq_true rfl]
      exact hq
  have len : ∀ n vs H Q E, spSame K n vs H Q E → vs.length = (["_law_told", "_law_due"] : List Str).length := fun n vs H Q E s => by obtain ⟨_, _, _, rfl, _⟩ := s; rfl
  -- what is asked of all but a tuple
  have notT : ∀ {H : Hp} {y : V} {d : PyData}, Im K H y d → (∀ ds, d ≠ .tuple ds) → ∃ t, TyX K H y t ∧ PySem.W.kitOne K t (.type "tuple") = some false := by
    intro H y d iy nt
    cases iy with
    | non => exact ⟨_, .base .non, kit_ty (by decide +kernel)⟩
    | bl b => exact ⟨_, .base (.bl b), kit_ty (by decide +kernel)⟩
    | int i => exact ⟨_, .base (.int i), kit_ty (by decide +kernel)⟩
    | str z => exact ⟨_, .base (.str z), kit_ty (by decide +kernel)⟩
    | tup _ _ => exact absurd rfl (nt _)
  intro n
  induction n with
  | zero =>
    refine cal_of F.1 F.2 sc_same (fun _ _ _ _ _ _ us e => match us, e with | [_, _], _ => rfl) (len 0) ?_
    intro cdv A outer s H vs Q E hr h
    obtain ⟨x, y, d, rfl, ix, iy, fit, hq⟩ := h
    obtain ⟨t, pt, ht⟩ := flat 0 cdv A outer s H E hr
    refine ⟨_, (pss_cons (ps_if (pt_cmpR op_isN (pv 1) pe_non (nomark _))
        (pss_one (ps_ret (pe_cmpR op_isN (pv 0) pe_non (nomark _))))
        pss_nil)
      (pss_cons (ps_if (pt_val (pe_callB call_isi (by rfl) T.isinstance (by decide +kernel) (pa_cons (pv 1) (pa_cons (pe_bltn (v := .ty "tuple") (by rfl) T.tuple (by decide +kernel) rfl) pa_nil))))
        (pss_cons ps_never (pss_cons ps_never (pss_one ps_never)))
        pss_nil)
      pt)), ?_⟩
    have nt : ∀ ds, d ≠ .tuple ds := fun ds z => by rw [z] at fit; exact fit
    refine ⟨_, rfl, rfl, _, rfl, if_dec (fun c => ?_) (fun c => ?_)⟩
    · subst c
      cases iy
      cases ix
      refine ⟨_, rfl, rfl, ?_⟩
      rw [decide_eq_true rfl]
      exact hq
    · obtain ⟨ty, h1, h2⟩ := notT iy nt
      exact ⟨_, rfl, _, _, _, _, false, rfl, .ty _, h1, h2, _, rfl, iteF (ht _ Q x y d ix iy rfl nt (fun z => by subst z; cases iy; exact c rfl) hq)⟩
  | succ n ih =>
    refine cal_of F.1 F.2 sc_same (fun _ _ _ _ _ _ us e => match us, e with | [_, _], _ => rfl) (len (n + 1)) ?_
    intro cdv A outer s H vs Q E hr h
    obtain ⟨x, y, d, rfl, ix, iy, fit, hq⟩ := h
    have sc := sc_same
    obtain ⟨t, pt, ht⟩ := flat (n + 1) cdv A outer s H E hr
    refine ⟨_, (pss_cons (ps_if (pt_cmpR op_isN (pv 1) pe_non (nomark _))
        (pss_one (ps_ret (pe_cmpR op_isN (pv 0) pe_non (nomark _))))
        pss_nil)
      (pss_cons (ps_if (pt_val (pe_callB call_isi (by rfl) T.isinstance (by decide +kernel) (pa_cons (pv 1) (pa_cons (pe_bltn (v := .ty "tuple") (by rfl) T.tuple (by decide +kernel) rfl) pa_nil))))
        (pss_cons (ps_if (PW.pt (pw_or (pt_not (pt_val (pe_callB call_isi (by rfl) T.isinstance (by decide +kernel) (pa_cons (pv 0) (pa_cons (pe_bltn (v := .ty "tuple") (by rfl) T.tuple (by decide +kernel) rfl) pa_nil))))) (pw_or1 (pt_cmpR op_ne (pe_callB call_len_seq (by rfl) T.len (by decide +kernel) (pa_cons (pv 0) pa_nil)) (pe_callB call_len_seq (by rfl) T.len (by decide +kernel) (pa_cons (pv 1) pa_nil)) (nomark _)))))
          (pss_one (ps_ret pe_bl))
          pss_nil)
        (pss_cons (ps_for (passes_of rfl) rfl (pi_range1 rfl T.range (pa_cons (pe_callB call_len_seq (by rfl) T.len (by decide +kernel) (pa_cons (pv 1) pa_nil)) pa_nil)) (pg_name (i := 2) sc.nd rfl (Or.inl rfl))
          (pss_one (ps_if (pt_not (pt_val (pe_cal ih hr (pa_cons (pe_ix ix_tup (pv 0) (pv 2) (fun _ _ => rfl)) (pa_cons (pe_ix ix_tup (pv 1) (pv 2) (fun _ _ => rfl)) pa_nil)) (Nat.le_refl _))))
            (pss_one (ps_ret pe_bl))
            pss_nil)))
        (pss_one (ps_ret pe_bl))))
        pss_nil)
      pt)), ?_⟩
    refine ⟨_, rfl, rfl, _, rfl, if_dec (fun c => ?_) (fun c => ?_)⟩
    · subst c
      cases iy
      cases ix
      refine ⟨_, rfl, rfl, ?_⟩
      rw [decide_eq_true rfl]
      exact hq
    by_cases nt : ∀ ds, d ≠ .tuple ds
    · obtain ⟨ty, h1, h2⟩ := notT iy nt
      exact ⟨_, rfl, _, _, _, _, false, rfl, .ty _, h1, h2, _, rfl, iteF (ht _ Q x y d ix iy rfl nt (fun z => by subst z; cases iy; exact c rfl) hq)⟩
    · obtain ⟨ds, rfl⟩ : ∃ ds, d = .tuple ds := by
        cases d with
        | tuple ds => exact ⟨ds, rfl⟩
        | _ => exact absurd (fun _ z => by cases z) nt
      obtain ⟨a, xs, rfl, ta, ia⟩ := ix.tupI
      obtain ⟨b, ys, rfl, tb, ib⟩ := iy.tupI
      have la := ia.len
      have lb := ib.len
      have hz : ds.length ≤ 1000000 := fit.1
      refine ⟨_, rfl, _, _, _, _, true, rfl, .ty _, tyx_tup tb, kit_ty (by decide +kernel), _, rfl, iteT ?_⟩
      refine ⟨_, rfl, _, _, _, _, true, rfl, .ty _, tyx_tup ta, kit_ty (by decide +kernel), _, rfl, iteF ?_⟩
      refine ⟨_, rfl, a, _, rfl, .inr ta, _, rfl, b, _, rfl, .inr tb, rfl, _, rfl, ?_⟩
      rw [la, lb, decide_eq_true rfl]
      refine iteF ⟨_, rfl, b, _, rfl, .inr tb, _, rfl, by omega, by omega, for_rng (n := ys.length) (fun i σ H' => ∃ t2, σ = [some (.ref a), some (.ref b), t2] ∧ H' = H) ⟨_, rfl, rfl⟩ ?_ ?_⟩
      · rintro i σ H1 hi ⟨t2, rfl, rfl⟩
        obtain ⟨d, ed⟩ : ∃ d, ds[i]? = some d := ⟨_, List.getElem?_eq_getElem (by omega)⟩
        obtain ⟨u, eu, iu⟩ := ia.get ed
        obtain ⟨v, ev, iv⟩ := ib.get ed
        exact ⟨_, rfl, _, rfl, a, _, _, _, rfl, rfl, ta, atI_nat eu, _, rfl, _, rfl, b, _, _, _, rfl, rfl, tb, atI_nat ev, u, v, d, rfl, iu, iv, fit.2 d (List.mem_of_getElem? ed), _, rfl, iteF ⟨_, rfl, rfl⟩⟩
      · rintro σ H1 ⟨t2, rfl, rfl⟩
        exact hq
end
end Sy
namespace Sy
open PySem PySem.Spec PyProof.Rows L2
theorem flat_one {α : Type} (n : Nat) (x : α) : (List.replicate n [x]).flatten = List.replicate n x := by
  induction n with
  | zero => rfl
  | succ n ih => rw [List.replicate_succ, List.flatten_cons, ih]; rfl
section
variable {P : Program} {w : World} {K : PySem.W.Frag} {mg : Str → Option Value} {base : Heap}
/-! _law_some_plant -/
theorem sc_some : FnScope ["_law_bag_here", "_law_rows_here", "_law_size"] ["_law_bag_here", "_law_rows_here"] (defScope (top 50)) := ⟨rfl, rfl, rfl, by decide +kernel, rfl, by decide +kernel, by decide +kernel⟩
theorem k_some (T : Txt K mg) (F : DF K mg "_law_some_plant" 50) (c_law_draw : Cal P w K mg base 1 "_law_draw" ["_law_bag_here", "_law_size"] spDraw) (c_law_long : Cal P w K mg base 2 "_law_long" ["_law_bag_here", "_law_rows_here"] (spLong K))
    (c_law_plant : Cal P w K mg base 2 "_law_plant" ["_law_bag_here", "_law_rows_here", "_law_most", "_law_with_holes"] (spPlantL K)) : Cal P w K mg base 3 "_law_some_plant" ["_law_bag_here", "_law_rows_here"] (spLong K) := by
  refine cal_of F.1 F.2 sc_some (fun _ _ _ _ _ _ us e => match us, e with | [_, _], _ => rfl) (fun vs H Q E s => by obtain ⟨_, _, _, rfl, _⟩ := s; rfl) ?_
  intro cdv A outer s H vs Q E hr h
  obtain ⟨g, q, rows, rfl, hg, hqg, hRL, ok, hq⟩ := h
  have sc := sc_some
  refine ⟨_, (pss_cons (ps_set (i := 2) sc.nd rfl (Or.inl rfl) (pe_cal c_law_draw hr (pa_cons (pv 0) (pa_cons pe_int pa_nil))))
      (pss_cons (ps_if (pt_cmpR op_eq (pv 2) pe_int (nomark _))
        (pss_one (ps_ret (pe_cal c_law_long hr (pa_cons (pv 0) (pa_cons (pv 1) pa_nil)))))
        pss_nil)
      (pss_cons (ps_if (pt_cmpR op_lt (pv 2) pe_int (nomark _))
        (pss_one (ps_ret (pe_cal c_law_plant hr (pa_cons (pv 0) (pa_cons (pv 1) (pa_cons (pe_op op_add pe_int (pe_cal c_law_draw hr (pa_cons (pv 0) (pa_cons pe_int pa_nil)))) (pa_cons pe_bl pa_nil)))))))
        pss_nil)
      (pss_one (ps_ret (pe_cal c_law_plant hr (pa_cons (pv 0) (pa_cons (pv 1) (pa_cons (pe_op op_add pe_int (pe_cal c_law_draw hr (pa_cons (pv 0) (pa_cons pe_int pa_nil)))) (pa_cons pe_bl pa_nil)))))))))), ?_⟩
  obtain ⟨l0, hl0, h0⟩ := hg.take
  have hB0 := hRL.del hqg h0.r0
  refine ⟨_, rfl, g, 16, rfl, hg, by decide, by decide, fun n H1 hn d1 => ?_⟩
  obtain ⟨l1, B1, hl1, s1, h1, _⟩ := h0.dr0 d1
  have hRL1 := (hB0.mono s1).mono h1.sub
  refine ⟨_, rfl, rfl, _, rfl, if_dec (fun c => ?_) (fun c => ?_)⟩
  · exact ⟨_, rfl, _, rfl, g, q, rows, rfl, h1.bag hl1, hqg, hRL1, ok, fun l p H' a b c d => hq l p H' a (d1.trans b) c d⟩
  have two : ∀ (m : Nat) (H2 : Hp), m < 100 → Dr g H1 H2 → spPlantL K [.ref g, .ref q, .int (1 + (m : Nat)), .bl false] H2 Q E0 := by
    intro m H2 hm d2
    obtain ⟨l2, B2, hl2, s2, h2, _⟩ := h1.dr0 d2
    refine ⟨g, q, m + 1, rows, by rw [show (1 : Int) + (m : Nat) = ((m + 1 : Nat) : Int) by omega], h2.bag hl2, hqg, ((hB0.mono s1).mono s2).mono h2.sub, ok, by omega, by omega, fun l p H' a _ b c d => hq l p H' a ((d1.trans d2).trans b) c d⟩
  refine ⟨_, rfl, _, _, rfl, rfl, _, rfl, if_dec (fun c2 => ?_) (fun c2 => ?_)⟩
  · exact ⟨_, rfl, _, rfl, _, rfl, g, 60, rfl, h1.bag hl1, by decide, by decide, fun m H2 hm d2 => ⟨_, _, rfl, rfl, two m H2 (by omega) d2⟩⟩
  · exact ⟨_, rfl, _, rfl, _, rfl, g, 9, rfl, h1.bag hl1, by decide, by decide, fun m H2 hm d2 => ⟨_, _, rfl, rfl, two m H2 (by omega) d2⟩⟩
/-! _law_ends -/
def spEnds (K : PySem.W.Frag) : Sp := fun vs H Q _ => ∃ (q r : Addr) (rows : List Sy.Row) (l : List Str), vs = [.ref q, .ref r] ∧ RL K H q rows ∧ SqT K H r (l.map V.str) ∧ Pln rows l ∧ ∀ H' p, H p = none → Same H H' → H' p = some (.lst (vN (ens (wt rows l)))) → Q (.ref p) H'
abbrev N_ends : List Str := ["_law_rows_here", "_law_plant_here", "_law_ends_here", "_law_k", "_law_place", "_law_behind", "_law_turn"]
theorem sc_ends : FnScope N_ends ["_law_rows_here", "_law_plant_here"] (defScope (top 51)) := ⟨rfl, rfl, rfl, by decide +kernel, rfl, by decide +kernel, by decide +kernel⟩
theorem k_ends (T : Txt K mg) (F : DF K mg "_law_ends" 51) (c_law_number : Cal P w K mg base 1 "_law_number" ["_law_rows_here", "_law_word_here"] (spNum K)) : Cal P w K mg base 2 "_law_ends" ["_law_rows_here", "_law_plant_here"] (spEnds K) := by
  refine cal_of F.1 F.2 sc_ends (fun _ _ _ _ _ _ us e => match us, e with | [_, _], _ => rfl) (fun vs H Q E s => by obtain ⟨_, _, _, _, rfl, _⟩ := s; rfl) ?_
  intro cdv A outer s H vs Q E hr h
  obtain ⟨q, r, rows, l, rfl, hRL, hR, hp, hq⟩ := h
  have sc := sc_ends
  refine ⟨_, (pss_cons (ps_set (i := 2) sc.nd rfl (Or.inl rfl) (pe_op op_rep (pe_lst (pa_cons pe_int pa_nil)) (pe_callB call_len_seq (by rfl) T.len (by decide +kernel) (pa_cons (pv 1) pa_nil))))
      (pss_cons (ps_for (passes_of rfl) rfl (pi_range1 rfl T.range (pa_cons (pe_callB call_len_seq (by rfl) T.len (by decide +kernel) (pa_cons (pv 1) pa_nil)) pa_nil)) (pg_name (i := 3) sc.nd rfl (Or.inl rfl))
        (pss_cons (ps_set (i := 4) sc.nd rfl (Or.inl rfl) (pe_op op_sub (pe_op op_sub (pe_callB call_len_seq (by rfl) T.len (by decide +kernel) (pa_cons (pv 1) pa_nil)) pe_int) (pv 3)))
        (pss_cons (ps_set (i := 5) sc.nd rfl (Or.inl rfl) (pe_op op_add (pv 4) pe_int))
        (pss_cons (ps_for (passes_of rfl) rfl (pi_range1 rfl T.range (pa_cons (pe_cal c_law_number hr (pa_cons (pv 0) (pa_cons (pe_ix ix_tup (pv 1) (pv 4) (fun _ _ => rfl)) pa_nil))) pa_nil)) (pg_name (i := 6) sc.nd rfl (Or.inl rfl))
          (pss_one (ps_set (i := 5) sc.nd rfl (Or.inl rfl) (pe_ix ix_list (pv 2) (pv 5) (fun _ _ => rfl)))))
        (pss_one (ps_asg (pv 5) (pg_sub (pv 2) (pv 4) set_list)))))))
      (pss_one (ps_ret (pv 2))))), ?_⟩
  have hF := hp.fo
  have hsz := hp.le
  have hwl := wt_len rows l
  refine ⟨by decide, fun p0 hp0 => ?_⟩
  have h0 := (Hs.start H).lay (o := .lst [.int 0]) hp0
  refine ⟨_, rfl, r, _, rfl, .inr (Same.sqt h0.sub hR), p0, _, _, rfl, rfl, upd_same, by omega, by rw [List.length_map]; omega, by show 1 * _ ≤ _; rw [List.length_map, sizeLine_eq]; omega, fun D hD => ?_⟩
  rw [flat_one, List.length_map, show ((l.length : Int)).toNat = l.length by omega]
  have h1 := h0.new (o := .lst (List.replicate l.length (V.int 0))) hD
  have e1 : List.replicate l.length (V.int 0) = vN (List.replicate l.length 0) := by rw [vN, List.map_replicate]; rfl
  rw [e1] at h1 ⊢
  have hDn : H D = none := by
    have := hD
    by_cases z : D = p0
    · rw [z]; exact hp0
    · rw [upd_ne z] at this
      exact this
  refine ⟨_, rfl, r, _, rfl, .inr (Same.sqt h1.sub hR), _, rfl, by omega, by rw [List.length_map]; omega, for_rng (n := (l.map V.str).length)
    (fun i σ H' => ∃ t3 t4 t5 t6 ss, σ = [some (.ref q), some (.ref r), some (.ref D), t3, t4, t5, t6] ∧ Hs H [(D, .lst (vN ss))] H' ∧ ss.length = l.length ∧ ∀ j, l.length - i ≤ j → j < l.length → ss[j]? = some (en (wt rows l) j))
    ⟨none, none, none, none, List.replicate l.length 0, rfl, h1, by rw [List.length_replicate], fun j a b => by omega⟩ ?_ ?_⟩
  · rintro k σ H1 hk ⟨t3, t4, t5, t6, ss, rfl, hh, hl, hv⟩
    rw [List.length_map] at hk
    obtain ⟨i, hi⟩ : ∃ i : Nat, i = l.length - 1 - k := ⟨_, rfl⟩
    have hil : i < l.length := by omega
    have hiw : i < (wt rows l).length := by omega
    obtain ⟨y, hy⟩ : ∃ y, l[i]? = some y := ⟨_, List.getElem?_eq_getElem hil⟩
    have eaw : aw (wt rows l) i = ar rows y := wt_at hy
    have hal := aw_le hF hiw
    have hnum : numb rows y = (ar rows y : Nat) := numb_ar (hp.kn y (List.mem_of_getElem? hy))
    refine ⟨_, rfl, r, _, rfl, .inr (Same.sqt hh.sub hR), _, _, rfl, rfl, _, rfl, _, _, rfl, rfl, ?_⟩
    have epl : ((l.map V.str).length : Int) - 1 - (k : Nat) = (i : Int) := by rw [List.length_map]; omega
    refine ⟨_, rfl, _, _, rfl, rfl, ?_⟩
    refine ⟨_, rfl, _, rfl, _, rfl, r, _, _, _, rfl, rfl, Same.sqt hh.sub hR, by
      show atI _ (((l.map V.str).length : Int) - 1 - (k : Nat)) = _
      rw [epl]
      exact atI_nat (by rw [List.getElem?_map, hy]; rfl), q, rows, y, rfl, hRL.mono hh.sub, _, rfl, by omega, by omega, for_rng (n := (numb rows y).toNat)
      (fun t σ H2 => ∃ u6 z, σ = [some (.ref q), some (.ref r), some (.ref D), some (.int (k : Nat)), some (.int (i : Nat)), some (.int z), u6] ∧ z = (kd (wt rows l) i t : Nat) ∧ H2 = H1)
      ⟨_, ((l.map V.str).length : Int) - 1 - (k : Nat) + 1, by rw [← epl]; rfl, by rw [kd_zero]; omega, rfl⟩ ?_ ?_⟩
    · rintro t σ H2 ht ⟨u6, _, rfl, rfl, rfl⟩
      rw [hnum] at ht
      have hk2 := hF.kd_lt hiw (k := t) (by omega)
      have hk3 := kd_gt (w := wt rows l) (i := i) (k := t)
      exact ⟨_, rfl, _, rfl, D, _, _, _, rfl, rfl, SqL.of hh.r0, atI_nat (vN_at (hv _ (by omega) (by omega))), _, _, rfl, by rw [kd_succ], rfl⟩
    · rintro σ H2 ⟨u6, _, rfl, rfl, rfl⟩
      refine ⟨_, rfl, _, rfl, _, rfl, D, _, _, i, rfl, rfl, hh.r0, ixN_nat (by rw [List.length_map]; omega), _, _, _, _, _, rfl, by rw [vN_set]; exact hh.w0, by rw [List.length_set]; exact hl, fun j a b => ?_⟩
      rw [hnum, show ((ar rows y : Nat) : Int).toNat = ar rows y by omega, ← eaw, en_kd hiw]
      by_cases c : i = j
      · subst c
        rw [List.getElem?_set_self (by omega)]
      · rw [List.getElem?_set_ne c]
        exact hv j (by omega) b
  · rintro σ H1 ⟨t3, t4, t5, t6, ss, rfl, hh, hl, hv⟩
    have es : ss = ens (wt rows l) := ens_of (by omega) (fun j hj => hv j (by rw [List.length_map]; omega) (by omega))
    rw [es] at hh
    exact ⟨_, rfl, hq _ _ hDn hh.sub hh.r0⟩
/-! _law_paths -/
def spPathsL (K : PySem.W.Frag) : Sp := fun vs H Q _ => ∃ (q r e : Addr) (rows : List Sy.Row) (l : List Str), vs = [.ref q, .ref r, .ref e] ∧ RL K H q rows ∧ SqT K H r (l.map V.str) ∧ H e = some (.lst (vN (ens (wt rows l)))) ∧ Pln rows l ∧ ∀ H' v, Same H H' → Im K H' v (dPaths (wt rows l)) → Q v H'
abbrev N_pathsL : List Str := ["_law_rows_here", "_law_plant_here", "_law_ends_here", "_law_found", "_law_place", "_law_at", "_law_k"]
theorem sc_pathsL : FnScope N_pathsL ["_law_rows_here", "_law_plant_here", "_law_ends_here"] (defScope (top 52)) := ⟨rfl, rfl, rfl, by decide +kernel, rfl, by decide +kernel, by decide +kernel⟩
theorem ImA.rep {K : PySem.W.Frag} {H : Hp} {v : V} {d : PyData} (h : Im K H v d) : ∀ n : Nat, ImA K H (List.replicate n v) (List.replicate n d)
  | 0 => .nil
  | n + 1 => by
    rw [List.replicate_succ, List.replicate_succ]
    exact .cons h (ImA.rep h n)
theorem k_pathsL (T : Txt K mg) (F : DF K mg "_law_paths" 52) (c_law_number : Cal P w K mg base 1 "_law_number" ["_law_rows_here", "_law_word_here"] (spNum K)) : Cal P w K mg base 2 "_law_paths" ["_law_rows_here", "_law_plant_here", "_law_ends_here"] (spPathsL K) := by
  refine cal_of F.1 F.2 sc_pathsL (fun _ _ _ _ _ _ us e => match us, e with | [_, _, _], _ => rfl) (fun vs H Q E s => by obtain ⟨_, _, _, _, _, rfl, _⟩ := s; rfl) ?_
  intro cdv A outer s H vs Q E hr h
  obtain ⟨q, r, e, rows, l, rfl, hRL, hR, hE, hp, hq⟩ := h
  have sc := sc_pathsL
  refine ⟨_, (pss_cons (ps_set (i := 3) sc.nd rfl (Or.inl rfl) (pe_op op_rep (pe_lst (pa_cons (pe_tup pa_nil) pa_nil)) (pe_callB call_len_seq (by rfl) T.len (by decide +kernel) (pa_cons (pv 1) pa_nil))))
      (pss_cons (ps_for (passes_of rfl) rfl (pi_range1 rfl T.range (pa_cons (pe_callB call_len_seq (by rfl) T.len (by decide +kernel) (pa_cons (pv 1) pa_nil)) pa_nil)) (pg_name (i := 4) sc.nd rfl (Or.inl rfl))
        (pss_cons (ps_set (i := 5) sc.nd rfl (Or.inl rfl) (pe_op op_add (pv 4) pe_int))
        (pss_one (ps_for (passes_of rfl) rfl (pi_range1 rfl T.range (pa_cons (pe_cal c_law_number hr (pa_cons (pv 0) (pa_cons (pe_ix ix_tup (pv 1) (pv 4) (fun _ _ => rfl)) pa_nil))) pa_nil)) (pg_name (i := 6) sc.nd rfl (Or.inl rfl))
          (pss_cons (ps_asg (pe_op op_catA (pe_ix ix_list (pv 3) (pv 4) (fun _ _ => rfl)) (pe_tup (pa_cons (pv 6) pa_nil))) (pg_sub (pv 3) (pv 5) set_list))
          (pss_one (ps_set (i := 5) sc.nd rfl (Or.inl rfl) (pe_ix ix_list (pv 2) (pv 5) (fun _ _ => rfl)))))))))
      (pss_one (ps_ret (pe_callTy call_tuple_of (by rfl) T.tuple (by decide +kernel) (pa_cons (pv 3) pa_nil)))))), ?_⟩
  have hF := hp.fo
  have hsz := hp.le
  have hwl := wt_len rows l
  refine ⟨by decide, fun t0 ht0 => ⟨(by show 1 ≤ sizeLine; decide), fun p0 hp0 => ?_⟩⟩
  have sT := up_same (o := .tup []) ht0
  have iT : Im K (upd H t0 (.tup [])) (.ref t0) (DN []) := Im.nats (l := []) (SqT.of upd_same)
  generalize upd H t0 (.tup []) = B0 at *
  have h0 := (Hs.start B0).lay (o := .lst [.ref t0]) hp0
  refine ⟨_, rfl, r, _, rfl, .inr (Same.sqt (sT.trans h0.sub) hR), p0, _, _, rfl, rfl, upd_same, by omega, by rw [List.length_map]; omega, by show 1 * _ ≤ _; rw [List.length_map, sizeLine_eq]; omega, fun D hD => ?_⟩
  rw [flat_one, List.length_map, show ((l.length : Int)).toNat = l.length by omega]
  have h1 := h0.new (o := .lst (List.replicate l.length (V.ref t0))) hD
  have im0 : ImA K B0 (List.replicate l.length (V.ref t0)) ((pth (wt rows l) 0).map DN) := by
    show ImA K B0 _ ((List.replicate (wt rows l).length []).map DN)
    rw [List.map_replicate, hwl]
    exact ImA.rep iT _
  refine ⟨_, rfl, r, _, rfl, .inr (Same.sqt (sT.trans h1.sub) hR), _, rfl, by omega, by rw [List.length_map]; omega, for_rng (n := (l.map V.str).length)
    (fun i σ H' => ∃ t4 t5 t6 B vs, σ = [some (.ref q), some (.ref r), some (.ref e), some (.ref D), t4, t5, t6] ∧ Same B0 B ∧ Hs B [(D, .lst vs)] H' ∧ ImA K B vs ((pth (wt rows l) i).map DN))
    ⟨none, none, none, B0, _, rfl, Same.refl _, h1, im0⟩ ?_ ?_⟩
  · rintro i σ H1 hi ⟨t4, t5, t6, B, vs, rfl, sB, hh, im⟩
    rw [List.length_map] at hi
    have hiw : i < (wt rows l).length := by omega
    obtain ⟨y, hy⟩ : ∃ y, l[i]? = some y := ⟨_, List.getElem?_eq_getElem hi⟩
    have eaw : aw (wt rows l) i = ar rows y := wt_at hy
    have hal := aw_le hF hiw
    have hnum : numb rows y = (ar rows y : Nat) := numb_ar (hp.kn y (List.mem_of_getElem? hy))
    have sH := (sT.trans sB).trans hh.sub
    refine ⟨_, rfl, _, _, rfl, rfl, _, rfl, _, rfl, _, rfl, r, _, _, _, rfl, rfl, Same.sqt sH hR, atI_nat (by rw [List.getElem?_map, hy]; rfl), q, rows, y, rfl, hRL.mono sH, _, rfl, by omega, by omega, for_rng (n := (numb rows y).toNat)
      (fun t σ H2 => ∃ z u6 B vs, σ = [some (.ref q), some (.ref r), some (.ref e), some (.ref D), some (.int (i : Nat)), some (.int z), u6] ∧ z = (kd (wt rows l) i t : Nat) ∧ Same B0 B ∧ Hs B [(D, .lst vs)] H2 ∧ ImA K B vs ((stp (wt rows l) i (pth (wt rows l) i) t).map DN))
      ⟨_, _, B, vs, rfl, by rw [kd_zero]; rfl, sB, hh, im⟩ ?_ ?_⟩
    · rintro t σ H2 ht ⟨_, u6, B2, ws, rfl, rfl, sB2, h2, i2⟩
      rw [hnum] at ht
      have ht2 : t < aw (wt rows l) i := by omega
      have hk := hF.kd_lt hiw ht2
      have wl : ws.length = l.length := by rw [i2.len, List.length_map, stp_len, pth_len, hwl]
      have fd : (stp (wt rows l) i (pth (wt rows l) i) t)[i]? = some ((stp (wt rows l) i (pth (wt rows l) i) t).getD i []) := by
        have : i < (stp (wt rows l) i (pth (wt rows l) i) t).length := by rw [stp_len, pth_len]; exact hiw
        rw [List.getD_eq_getElem?_getD, List.getElem?_eq_getElem this]
        rfl
      obtain ⟨v, ev, iv⟩ := i2.get (i := i) (d := DN ((stp (wt rows l) i (pth (wt rows l) i) t).getD i [])) (by rw [List.getElem?_map, fd]; rfl)
      obtain ⟨pa, rfl, pt⟩ := iv.natsI
      have hlen := stp_le (w := wt rows l) (i := i) (pth_le (wt rows l) i) t i
      refine ⟨_, rfl, _, rfl, D, _, _, _, rfl, rfl, SqL.of h2.r0, atI_nat ev, _, rfl, (by show 1 ≤ sizeLine; decide), fun p hp3 => ?_⟩
      have h3 := h2.tup (o := .tup [.int (t : Nat)]) hp3
      have s3 : Same B2 (upd B2 p (.tup [.int (t : Nat)])) := up_same (h2.sub.free hp3)
      refine cat_any (Same.sqt (s3.trans h3.sub) pt) (SqT.of upd_same) (by rw [vN, List.length_map]; show _ + 1 ≤ _; omega) fun p4 H4 s4 t4' => ?_
      obtain ⟨g1, g2⟩ := h3.after s4
      have st := stay_cut h3 (AllL.cons AllL.nil) s4
      generalize cut [(D, HO.lst ws)] H4 = B4 at *
      have sB4 := (sB2.trans s3).trans g1
      refine ⟨_, rfl, _, rfl, D, _, _, kd (wt rows l) i t, rfl, rfl, g2.r0, ixN_nat (by omega), ?_⟩
      have hEv : (upd H4 D (.lst (ws.set (kd (wt rows l) i t) (.ref p4)))) e = some (.lst (vN (ens (wt rows l)))) := (g2.w0 (o' := .lst (ws.set (kd (wt rows l) i t) (.ref p4)))).sub _ _ (sB4 _ _ (sT _ _ hE))
      refine ⟨_, rfl, _, rfl, e, _, _, _, rfl, rfl, SqL.of hEv, atI_nat (vN_at (ens_at hk)), _, _, B4, _, rfl, by rw [kd_succ], sB4, g2.w0, ?_⟩
      rw [stp_succ, List.map_set]
      refine (i2.mono (Stay.of (s3.trans g1))).set (Im.nats (st.sqt ?_))
      rw [vN, List.map_append]
      exact t4'
    · rintro σ H2 ⟨_, u6, B2, ws, rfl, rfl, sB2, h2, i2⟩
      rw [hnum, show ((ar rows y : Nat) : Int).toNat = ar rows y by omega, ← eaw, ← pth_succ] at i2
      exact ⟨_, _, _, B2, ws, rfl, sB2, h2, i2⟩
  · rintro σ H1 ⟨t4, t5, t6, B, vs, rfl, sB, hh, im⟩
    rw [List.length_map, ← hwl] at im
    refine ⟨_, rfl, D, _, rfl, .inl ⟨SqL.of hh.r0, fun p hn => ?_⟩⟩
    have sq := hh.sub.trans (up_same (o := .tup vs) hn)
    exact hq _ _ ((sT.trans sB).trans sq) (.tup (SqT.of upd_same) (im.mono (Stay.of sq)))
end
end Sy
namespace Sy
open PySem PySem.Spec PyProof.Rows L2
section
variable {P : Program} {w : World} {K : PySem.W.Frag} {mg : Str → Option Value} {base : Heap}
/-- what planted asks of its arguments as they are given -/
theorem planted_of {a : Addr} {x : Str} {rows : List Sy.Row} {bs : List Addr} {ls : List (List Str)} {H : Hp} {Q : VK} {E : XK} (hb : BedAt K H a rows) (hk : isK rows x = true) (hp : Paired (fun q (l : List Str) => SqT K H q (l.map V.str)) bs ls) (hpl : ∀ l ∈ ls, Pln rows l) (hl : ls.length = ar rows x ∧ ls.length ≤ 3)
    (h1 : (x :: ls.flatten).length ≤ 2000 → ∀ H' p, Same H H' → SqT K H' p ((x :: ls.flatten).map V.str) → Q (.ref p) H') (h2 : 2000 < (x :: ls.flatten).length → Ra K "TooMany" [("limit", .int 2000), ("what", .str "knots")] H E) : spStar 2 (spPlanted K) (V.ref a :: V.str x :: bs.map V.ref) H Q E := by
  have hbl := paired_len hp
  refine ⟨[.ref a, .str x], bs.map V.ref, rfl, rfl, by rw [List.length_map, sizeLine_eq]; omega, fun p hp' => ?_⟩
  have s1 := up_same (o := .tup (bs.map V.ref)) hp'
  exact ⟨a, p, x, rows, bs, ls, rfl, hb.mono (Stay.of s1), hk, SqT.of upd_same, Paired.mapP hp fun _ _ z => Same.sqt s1 z, hpl, hl.1, by omega, fun c H' q s t => h1 c H' q (s1.trans s) t, fun c => (h2 c).mono s1⟩
def spPlL (K : PySem.W.Frag) : Sp := fun vs H Q E => ∃ (a b : Addr) (x : Str) (rows : List Sy.Row) (bs : List Addr) (ls : List (List Str)), vs = [.ref a, .str x, .ref b] ∧ BedAt K H a rows ∧ isK rows x = true ∧ H b = some (.lst (bs.map V.ref)) ∧ Paired (fun q (l : List Str) => SqT K H q (l.map V.str)) bs ls ∧ (∀ l ∈ ls, Pln rows l) ∧ (ls.length = ar rows x ∧ ls.length ≤ 3) ∧
  ((x :: ls.flatten).length ≤ 2000 → ∀ H' p, Same H H' → SqT K H' p ((x :: ls.flatten).map V.str) → Q (.ref p) H') ∧ (2000 < (x :: ls.flatten).length → Ra K "TooMany" [("limit", .int 2000), ("what", .str "knots")] H E)
theorem sc_plL : FnScope ["_law_bed_here", "_law_word_here", "_law_below"] ["_law_bed_here", "_law_word_here", "_law_below"] (defScope (top 54)) := ⟨rfl, rfl, rfl, by decide +kernel, rfl, by decide +kernel, by decide +kernel⟩
theorem k_plL (T : Txt K mg) (F : DF K mg "_law_planted" 54) (c_planted : CalR P w K mg base 5 "planted" (spStar 2 (spPlanted K))) : Cal P w K mg base 6 "_law_planted" ["_law_bed_here", "_law_word_here", "_law_below"] (spPlL K) := by
  refine cal_of F.1 F.2 sc_plL (fun _ _ _ _ _ _ us e => match us, e with | [_, _, _], _ => rfl) (fun vs H Q E s => by obtain ⟨_, _, _, _, _, _, rfl, _⟩ := s; rfl) ?_
  intro cdv A outer s H vs Q E hr h
  obtain ⟨a, b, x, rows, bs, ls, rfl, hb, hk, hL, hp, hpl, hl, h1, h2⟩ := h
  have hbl := paired_len hp
  refine ⟨_, (pss_cons (ps_if (pt_cmpR op_eq (pe_callB call_len_seq (by rfl) T.len (by decide +kernel) (pa_cons (pv 2) pa_nil)) pe_int (nomark _))
        (pss_one (ps_ret (pe_calR c_planted hr (takes_of rfl rfl rfl rfl) (pa_cons (pv 0) (pa_cons (pv 1) pa_nil)))))
        pss_nil)
      (pss_cons (ps_if (pt_cmpR op_eq (pe_callB call_len_seq (by rfl) T.len (by decide +kernel) (pa_cons (pv 2) pa_nil)) pe_int (nomark _))
        (pss_one (ps_ret (pe_calR c_planted hr (takes_of rfl rfl rfl rfl) (pa_cons (pv 0) (pa_cons (pv 1) (pa_cons (pe_ix ix_list (pv 2) pe_int (fun _ _ => rfl)) pa_nil))))))
        pss_nil)
      (pss_cons (ps_if (pt_cmpR op_eq (pe_callB call_len_seq (by rfl) T.len (by decide +kernel) (pa_cons (pv 2) pa_nil)) pe_int (nomark _))
        (pss_one (ps_ret (pe_calR c_planted hr (takes_of rfl rfl rfl rfl) (pa_cons (pv 0) (pa_cons (pv 1) (pa_cons (pe_ix ix_list (pv 2) pe_int (fun _ _ => rfl)) (pa_cons (pe_ix ix_list (pv 2) pe_int (fun _ _ => rfl)) pa_nil)))))))
        pss_nil)
      (pss_one (ps_ret (pe_calR c_planted hr (takes_of rfl rfl rfl rfl) (pa_cons (pv 0) (pa_cons (pv 1) (pa_cons (pe_ix ix_list (pv 2) pe_int (fun _ _ => rfl)) (pa_cons (pe_ix ix_list (pv 2) pe_int (fun _ _ => rfl)) (pa_cons (pe_ix ix_list (pv 2) pe_int (fun _ _ => rfl)) pa_nil))))))))))), ?_⟩
  refine ⟨_, rfl, b, _, rfl, .inl (SqL.of hL), rfl, _, rfl, if_dec (fun c => ?_) (fun c0 => ?_)⟩
  · have en : bs.length = 0 := by
      have := V.int.inj c
      rw [List.length_map] at this
      omega
    obtain rfl : bs = [] := by
      match bs, en with
      | [], _ => exact rfl
    exact ⟨_, rfl, _, rfl, planted_of hb hk hp hpl hl h1 h2⟩
  refine ⟨_, rfl, b, _, rfl, .inl (SqL.of hL), rfl, _, rfl, if_dec (fun c => ?_) (fun c1 => ?_)⟩
  · have en : bs.length = 1 := by
      have := V.int.inj c
      rw [List.length_map] at this
      omega
    obtain ⟨p0, rfl⟩ : ∃ p0, bs = [p0] := by
      match bs, en with
      | [p0], _ => exact ⟨_, rfl⟩
    exact ⟨_, rfl, _, rfl, _, rfl, b, _, _, _, rfl, rfl, SqL.of hL, atI_nat (j := 0) rfl, planted_of hb hk hp hpl hl h1 h2⟩
  refine ⟨_, rfl, b, _, rfl, .inl (SqL.of hL), rfl, _, rfl, if_dec (fun c => ?_) (fun c2 => ?_)⟩
  · have en : bs.length = 2 := by
      have := V.int.inj c
      rw [List.length_map] at this
      omega
    obtain ⟨p0, p1, rfl⟩ : ∃ p0 p1, bs = [p0, p1] := by
      match bs, en with
      | [p0, p1], _ => exact ⟨_, _, rfl⟩
    exact ⟨_, rfl, _, rfl, _, rfl, b, _, _, _, rfl, rfl, SqL.of hL, atI_nat (j := 0) rfl, _, rfl, b, _, _, _, rfl, rfl, SqL.of hL, atI_nat (j := 1) rfl, planted_of hb hk hp hpl hl h1 h2⟩
  have en : bs.length = 3 := by
    have d0 : bs.length ≠ 0 := fun z => c0 (by rw [List.length_map, z]; rfl)
    have d1 : bs.length ≠ 1 := fun z => c1 (by rw [List.length_map, z]; rfl)
    have d2 : bs.length ≠ 2 := fun z => c2 (by rw [List.length_map, z]; rfl)
    omega
  obtain ⟨p0, p1, p2, rfl⟩ : ∃ p0 p1 p2, bs = [p0, p1, p2] := by
    match bs, en with
    | [p0, p1, p2], _ => exact ⟨_, _, _, rfl⟩
  exact ⟨_, rfl, _, rfl, _, rfl, b, _, _, _, rfl, rfl, SqL.of hL, atI_nat (j := 0) rfl, _, rfl, b, _, _, _, rfl, rfl, SqL.of hL, atI_nat (j := 1) rfl, _, rfl, b, _, _, _, rfl, rfl, SqL.of hL, atI_nat (j := 2) rfl, planted_of hb hk hp hpl hl h1 h2⟩
/-! .. and what is met -/
def dTold (d : PyData) : PyData := .tuple [.str "told", d]
def dMany : PyData := .tuple [.str "many", .str "knots", .int 2000]
theorem im_many {H : Hp} {t : Addr} (h : SqT K H t [.str "many", .str "knots", .int 2000]) : Im K H (.ref t) dMany := .tup h (.cons (.str _) (.cons (.str _) (.cons (.int _) .nil)))
theorem im_told {H : Hp} {t : Addr} {v : V} {d : PyData} (h : SqT K H t [.str "told", v]) (i : Im K H v d) : Im K H (.ref t) (dTold d) := .tup h (.cons (.str _) (.cons i .nil))
def spPMet (K : PySem.W.Frag) : Sp := fun vs H Q _ => ∃ (a b : Addr) (x : Str) (rows : List Sy.Row) (bs : List Addr) (ls : List (List Str)), vs = [.ref a, .str x, .ref b] ∧ BedAt K H a rows ∧ isK rows x = true ∧ H b = some (.lst (bs.map V.ref)) ∧ Paired (fun q (l : List Str) => SqT K H q (l.map V.str)) bs ls ∧ (∀ l ∈ ls, Pln rows l) ∧ (ls.length = ar rows x ∧ ls.length ≤ 3) ∧
  ((x :: ls.flatten).length ≤ 2000 → ∀ H' v, Same H H' → Im K H' v (dTold (DS (x :: ls.flatten))) → Q v H') ∧ (2000 < (x :: ls.flatten).length → ∀ H' v, Same H H' → Im K H' v dMany → Q v H')
abbrev N_pMet : List Str := ["_law_bed_here", "_law_word_here", "_law_below", "e"]
theorem sc_pMet : FnScope N_pMet ["_law_bed_here", "_law_word_here", "_law_below"] (defScope (top 55)) := ⟨rfl, rfl, rfl, by decide +kernel, rfl, by decide +kernel, by decide +kernel⟩
theorem k_pMet (TM : ErrB P K mg "TooMany" "TooMany.__init__" (clb 6 0) ["what", "limit"]) (F : DF K mg "_law_planted_met" 55) (c_law_planted : Cal P w K mg base 6 "_law_planted" ["_law_bed_here", "_law_word_here", "_law_below"] (spPlL K)) : Cal P w K mg base 7 "_law_planted_met" ["_law_bed_here", "_law_word_here", "_law_below"] (spPMet K) := by
  refine cal_of F.1 F.2 sc_pMet (fun _ _ _ _ _ _ us e => match us, e with | [_, _, _], _ => rfl) (fun vs H Q E s => by obtain ⟨_, _, _, _, _, _, rfl, _⟩ := s; rfl) ?_
  intro cdv A outer s H vs Q E hr h
  obtain ⟨a, b, x, rows, bs, ls, rfl, hb, hk, hL, hp, hpl, hl, h1, h2⟩ := h
  have sc := sc_pMet
  refine ⟨_, pss_one (ps_try_fst (i := 3) rfl rfl sc.nd rfl rfl ⟨rfl, by decide, .inl TM.at_⟩
    (fun W pn xe tk _ => pss_one (ps_ret (pe_tup (pa_cons pe_str (pa_cons (pe_calX c_law_planted hr tk (pa_cons (pv 0) (pa_cons (pv 1) (pa_cons (pv 2) pa_nil)))) pa_nil)))))
    (fun a oe cls d pn hz hf => pss_one (ps_ret (pe_tup (pa_cons pe_str (pa_cons (pe_xf TM.xf (TM.no _ (by decide)) hz hf (pv 3)) (pa_cons (pe_xf TM.xf (TM.no _ (by decide)) hz hf (pv 3)) pa_nil))))))), ?_⟩
  refine ⟨_, rfl, _, rfl, _, rfl, a, b, x, rows, bs, ls, rfl, hb, hk, hL, hp, hpl, hl, fun c H1 p s1 ht => ⟨by show 2 ≤ sizeLine; decide, fun t hn => ?_⟩, fun c d H1 s1 ed => ?_⟩
  · exact h1 c _ _ (s1.trans (up_same hn)) (im_told (SqT.of upd_same) (Im.strs (Same.sqt (up_same hn) ht)))
  · refine ⟨TM.ex, fun e he => ?_⟩
    refine ⟨_, rfl, rfl, rfl, d, _, _, rfl, ed, rfl, _, rfl, rfl, rfl, d, _, _, rfl, ed, rfl, by show 3 ≤ sizeLine; decide, fun t hn => ?_⟩
    exact h2 c _ _ (s1.trans (up_same hn)) (im_many (SqT.of upd_same))
def spRMet (K : PySem.W.Frag) : Sp := fun vs H Q _ => ∃ (a r p o : Addr) (rows : List Sy.Row) (l m : List Str) (zs : List Int) (i : Nat), vs = [.ref a, .ref r, .ref p, .ref o] ∧ BedAt K H a rows ∧ SqT K H r (l.map V.str) ∧ SqT K H p (zs.map V.int) ∧ SqT K H o (m.map V.str) ∧ Pln rows l ∧ Pln rows m ∧ zs.length ≤ 5000 ∧ (∀ y ∈ zs, y.natAbs.log2 < 1920) ∧ pz (wt rows l) 0 zs = some i ∧
  ((rep (wt rows l) l m i).length ≤ 2000 → ∀ H' v, Same H H' → Im K H' v (dTold (DS (rep (wt rows l) l m i))) → Q v H') ∧ (2000 < (rep (wt rows l) l m i).length → ∀ H' v, Same H H' → Im K H' v dMany → Q v H')
abbrev N_rMet : List Str := ["_law_bed_here", "_law_plant_here", "_law_path", "_law_other", "e"]
theorem sc_rMet : FnScope N_rMet ["_law_bed_here", "_law_plant_here", "_law_path", "_law_other"] (defScope (top 56)) := ⟨rfl, rfl, rfl, by decide +kernel, rfl, by decide +kernel, by decide +kernel⟩
theorem k_rMet (TM : ErrB P K mg "TooMany" "TooMany.__init__" (clb 6 0) ["what", "limit"]) (F : DF K mg "_law_replaced_met" 56) (c_replaced : Cal P w K mg base 5 "replaced" ["bed", "plant", "path", "other"] (spRep K)) : Cal P w K mg base 6 "_law_replaced_met" ["_law_bed_here", "_law_plant_here", "_law_path", "_law_other"] (spRMet K) := by
  refine cal_of F.1 F.2 sc_rMet (fun _ _ _ _ _ _ us e => match us, e with | [_, _, _, _], _ => rfl) (fun vs H Q E s => by obtain ⟨_, _, _, _, _, _, _, _, _, rfl, _⟩ := s; rfl) ?_
  intro cdv A outer s H vs Q E hr h
  obtain ⟨a, r, p, o, rows, l, m, zs, i, rfl, hb, hR, hP, hO, hp, hpo, hz, hlg, hi, h1, h2⟩ := h
  have sc := sc_rMet
  refine ⟨_, pss_one (ps_try_fst (i := 4) rfl rfl sc.nd rfl rfl ⟨rfl, by decide, .inl TM.at_⟩
    (fun W pn xe tk _ => pss_one (ps_ret (pe_tup (pa_cons pe_str (pa_cons (pe_calX c_replaced hr tk (pa_cons (pv 0) (pa_cons (pv 1) (pa_cons (pv 2) (pa_cons (pv 3) pa_nil))))) pa_nil)))))
    (fun a oe cls d pn hz hf => pss_one (ps_ret (pe_tup (pa_cons pe_str (pa_cons (pe_xf TM.xf (TM.no _ (by decide)) hz hf (pv 4)) (pa_cons (pe_xf TM.xf (TM.no _ (by decide)) hz hf (pv 4)) pa_nil))))))), ?_⟩
  refine ⟨_, rfl, _, rfl, _, rfl, _, rfl, a, r, p, o, rows, l, m, zs, rfl, hb, hR, hP, hO, hp, hpo, hz, hlg, fun j hj => ?_, fun c => by rw [c] at hi; cases hi⟩
  rw [hi] at hj
  cases hj
  refine ⟨fun c H1 q s1 ht => ⟨by show 2 ≤ sizeLine; decide, fun t hn => ?_⟩, fun c d H1 s1 ed => ?_⟩
  · exact h1 c _ _ (s1.trans (up_same hn)) (im_told (SqT.of upd_same) (Im.strs (Same.sqt (up_same hn) ht)))
  · refine ⟨TM.ex, fun e he => ?_⟩
    refine ⟨_, rfl, rfl, rfl, d, _, _, rfl, ed, rfl, _, rfl, rfl, rfl, d, _, _, rfl, ed, rfl, by show 3 ≤ sizeLine; decide, fun t hn => ?_⟩
    exact h2 c _ _ (s1.trans (up_same hn)) (im_many (SqT.of upd_same))
/-! _law_nowhere -/
def spNow (K : PySem.W.Frag) : Sp := fun vs H Q _ => ∃ (a r p o : Addr) (rows : List Sy.Row) (l m : List Str) (zs : List Int), vs = [.ref a, .ref r, .ref p, .ref o] ∧ BedAt K H a rows ∧ SqT K H r (l.map V.str) ∧ SqT K H p (zs.map V.int) ∧ SqT K H o (m.map V.str) ∧ Pln rows l ∧ Pln rows m ∧ zs.length ≤ 5000 ∧ (∀ y ∈ zs, y.natAbs.log2 < 1920) ∧ pz (wt rows l) 0 zs = none ∧ ∀ H', Same H H' → Q (.bl true) H'
abbrev N_now : List Str := ["_law_bed_here", "_law_plant_here", "_law_path", "_law_other", "_law_met", "e", "f"]
theorem sc_now : FnScope N_now ["_law_bed_here", "_law_plant_here", "_law_path", "_law_other"] (defScope (top 57)) := ⟨rfl, rfl, rfl, by decide +kernel, rfl, by decide +kernel, by decide +kernel⟩
theorem k_now (T : Txt K mg) (NP : ErrB P K mg "NoPath" "NoPath.__init__" (clb 8 0) ["path"]) (F : DF K mg "_law_nowhere" 57) (c_branch_at : Cal P w K mg base 5 "branch_at" ["bed", "plant", "path"] (spBrAt K)) (c_replaced : Cal P w K mg base 5 "replaced" ["bed", "plant", "path", "other"] (spRep K))
    (c_law_same : Cal P w K mg base 4 "_law_same" ["_law_told", "_law_due"] (spSame K 3)) : Cal P w K mg base 6 "_law_nowhere" ["_law_bed_here", "_law_plant_here", "_law_path", "_law_other"] (spNow K) := by
  refine cal_of F.1 F.2 sc_now (fun _ _ _ _ _ _ us e => match us, e with | [_, _, _, _], _ => rfl) (fun vs H Q E s => by obtain ⟨_, _, _, _, _, _, _, _, rfl, _⟩ := s; rfl) ?_
  intro cdv A outer s H vs Q E hr h
  obtain ⟨a, r, p, o, rows, l, m, zs, rfl, hb, hR, hP, hO, hp, hpo, hz, hlg, hi, hq⟩ := h
  have sc := sc_now
  refine ⟨_, (pss_cons (ps_set (i := 4) sc.nd rfl (Or.inl rfl) (pe_tup pa_nil))
      (pss_cons (ps_try_fst (i := 5) rfl rfl sc.nd rfl rfl ⟨rfl, by decide, .inl NP.at_⟩
        (fun W pn xe tk _ => pss_one (ps_set (i := 4) sc.nd rfl (Or.inl rfl) (pe_tup (pa_cons pe_str (pa_cons (pe_calX c_branch_at hr tk (pa_cons (pv 0) (pa_cons (pv 1) (pa_cons (pv 2) pa_nil)))) pa_nil)))))
        (fun a oe cls d pn hz hf => pss_one (ps_set (i := 4) sc.nd rfl (Or.inl rfl) (pe_tup (pa_cons pe_str (pa_cons (pe_xf NP.xf (NP.no _ (by decide)) hz hf (pv 5)) pa_nil))))))
      (pss_cons (ps_if (pt_not (pt_val (pe_cal c_law_same hr (pa_cons (pv 4) (pa_cons (pe_tup (pa_cons pe_str (pa_cons (pv 2) pa_nil))) pa_nil)))))
        (pss_one (ps_ret pe_bl))
        pss_nil)
      (pss_cons (ps_try_fst (i := 6) rfl rfl sc.nd rfl rfl ⟨rfl, by decide, .inl NP.at_⟩
        (fun W pn xe tk _ => pss_one (ps_set (i := 4) sc.nd rfl (Or.inl rfl) (pe_tup (pa_cons pe_str (pa_cons (pe_calX c_replaced hr tk (pa_cons (pv 0) (pa_cons (pv 1) (pa_cons (pv 2) (pa_cons (pv 3) pa_nil))))) pa_nil)))))
        (fun a oe cls d pn hz hf => pss_one (ps_set (i := 4) sc.nd rfl (Or.inl rfl) (pe_tup (pa_cons pe_str (pa_cons (pe_xf NP.xf (NP.no _ (by decide)) hz hf (pv 6)) pa_nil))))))
      (pss_one (ps_ret (pe_cal c_law_same hr (pa_cons (pv 4) (pa_cons (pe_tup (pa_cons pe_str (pa_cons (pv 2) pa_nil))) pa_nil))))))))), ?_⟩
  have im : ∀ {H' : Hp} {t : Addr} {x : Str}, SqT K H' t [.str x, .ref p] → SqT K H' p (zs.map V.int) → Im K H' (.ref t) (.tuple [.str x, .tuple (zs.map PyData.int)]) := fun ht hp => .tup ht (.cons (.str _) (.cons (Im.ints hp) .nil))
  have fit : ∀ x : Str, Fit 3 (.tuple [.str x, .tuple (zs.map PyData.int)]) := fun x => by
    refine ⟨by show 2 ≤ 1000000; decide, fun d hd => ?_⟩
    rcases List.mem_cons.mp hd with rfl | hd
    · trivial
    · rw [List.mem_singleton.mp hd]
      refine ⟨by rw [List.length_map]; omega, fun d hd => ?_⟩
      obtain ⟨z, _, rfl⟩ := List.mem_map.mp hd
      trivial
  refine ⟨by decide, fun t0 ht0 => ?_⟩
  have s0 := up_same (o := .tup []) ht0
  refine ⟨_, rfl, _, rfl, _, rfl, a, r, p, rows, l, zs, rfl, hb.mono (Stay.of s0), Same.sqt s0 hR, Same.sqt s0 hP, hp, hz, hlg, fun i c => by (rw [c] at hi; cases hi), fun _ d H1 s1 ed => ⟨NP.ex, fun e he => ?_⟩⟩
  have s01 := s0.trans s1
  refine ⟨_, rfl, rfl, rfl, d, _, _, rfl, ed, rfl, by show 2 ≤ sizeLine; decide, fun t1 ht1 => ?_⟩
  have s2 := s01.trans (up_same (o := .tup [.str "path", .ref p]) ht1)
  have it1 := SqT.of (K := K) (H := upd H1 t1 (.tup [.str "path", .ref p])) (xs := [.str "path", .ref p]) upd_same
  refine ⟨_, rfl, _, rfl, by show 2 ≤ sizeLine; decide, fun t2 ht2 => ?_⟩
  have s3 := up_same (o := .tup [.str "path", .ref p]) ht2
  have s03 := s2.trans s3
  refine ⟨_, _, _, rfl, im (Same.sqt s3 it1) (Same.sqt s03 hP), im (SqT.of upd_same) (Same.sqt s03 hP), fit _, _, rfl, iteF ?_⟩
  refine ⟨_, rfl, _, rfl, _, rfl, _, rfl, a, r, p, o, rows, l, m, zs, rfl, hb.mono (Stay.of s03), Same.sqt s03 hR, Same.sqt s03 hP, Same.sqt s03 hO, hp, hpo, hz, hlg, fun i c => by (rw [c] at hi; cases hi), fun _ d4 H4 s4 ed4 => ⟨NP.ex, fun e4 he4 => ?_⟩⟩
  have s04 := s03.trans s4
  refine ⟨_, rfl, rfl, rfl, d4, _, _, rfl, ed4, rfl, by show 2 ≤ sizeLine; decide, fun t5 ht5 => ?_⟩
  have s05 := s04.trans (up_same (o := .tup [.str "again", .ref p]) ht5)
  have it5 := SqT.of (K := K) (H := upd H4 t5 (.tup [.str "again", .ref p])) (xs := [.str "again", .ref p]) upd_same
  refine ⟨_, rfl, _, rfl, by show 2 ≤ sizeLine; decide, fun t6 ht6 => ?_⟩
  have s6 := up_same (o := .tup [.str "again", .ref p]) ht6
  exact ⟨_, _, _, rfl, im (Same.sqt s6 it5) (Same.sqt (s05.trans s6) hP), im (SqT.of upd_same) (Same.sqt (s05.trans s6) hP), fit _, hq _ (s05.trans s6)⟩
end
end Sy
namespace Sy
open PySem PySem.Spec PyProof.Rows L2
theorem wt_brn (rows : List Sy.Row) (l : List Str) (i : Nat) : wt rows (brn (wt rows l) l i) = ((wt rows l).drop i).take (en (wt rows l) i - i) := by
  unfold brn wt
  rw [List.map_take, List.map_drop]
theorem Pln.brn {rows : List Sy.Row} {l : List Str} (h : Pln rows l) {i : Nat} (hi : i < l.length) : Pln rows (Sy.brn (wt rows l) l i) := by
  have hw := wt_len rows l
  refine ⟨?_, fun x hx => ?_, ?_⟩
  · rw [wt_brn]
    exact h.fo.branch (by omega)
  · unfold Sy.brn at hx
    exact h.kn x (List.mem_of_mem_drop (List.mem_of_mem_take hx))
  · unfold Sy.brn
    have := h.le
    rw [List.length_take, List.length_drop]
    omega
theorem brn_len {rows : List Sy.Row} {l : List Str} (h : Pln rows l) {i : Nat} (hi : i < l.length) : (brn (wt rows l) l i).length = en (wt rows l) i - i := by
  have hw := wt_len rows l
  have := h.fo.en_le (i := i) (by omega)
  unfold brn
  rw [List.length_take, List.length_drop]
  omega
/-- the branches of the root, one behind the other -/
theorem brs_flat {rows : List Sy.Row} {l : List Str} (h : Pln rows l) : ∀ n : Nat, n ≤ aw (wt rows l) 0 → ((List.range n).map fun k => brn (wt rows l) l (kd (wt rows l) 0 k)).flatten = (l.drop 1).take (kd (wt rows l) 0 n - 1)
  | 0, _ => by rw [kd_zero]; simp
  | n + 1, hn => by
    have hp := h.fo.pos
    have g1 : 0 < kd (wt rows l) 0 n := kd_gt
    have g2 := kd_lt_succ h.fo hp (k := n) (by omega)
    rw [List.range_succ, List.map_append, List.flatten_append, brs_flat h n (by omega)]
    have e1 : ([n].map fun k => brn (wt rows l) l (kd (wt rows l) 0 k)).flatten = brn (wt rows l) l (kd (wt rows l) 0 n) := by simp
    rw [e1]
    unfold brn
    rw [← kd_succ]
    generalize kd (wt rows l) 0 n = a at *
    generalize kd (wt rows l) 0 (n + 1) = b at *
    have e2 : l.drop a = (l.drop 1).drop (a - 1) := by rw [List.drop_drop, show 1 + (a - 1) = a by omega]
    rw [e2, show b - 1 = (a - 1) + (b - a) by omega, List.take_add]
theorem brs_all {rows : List Sy.Row} {x : Str} {l : List Str} (h : Pln rows (x :: l)) : x :: ((List.range (aw (wt rows (x :: l)) 0)).map fun k => brn (wt rows (x :: l)) (x :: l) (kd (wt rows (x :: l)) 0 k)).flatten = x :: l := by
  have hp := h.fo.pos
  rw [brs_flat h _ (Nat.le_refl _), en_kd hp, h.fo.en0, wt_len]
  show x :: l.take (l.length + 1 - 1) = _
  rw [show l.length + 1 - 1 = l.length by omega, List.take_length]
/-- a branch in another's place -/
theorem rep_pln {rows : List Sy.Row} {l m : List Str} (h : Pln rows l) (hm : Pln rows m) {i : Nat} (hi : i < l.length) (hz : (rep (wt rows l) l m i).length ≤ 2000) : Pln rows (rep (wt rows l) l m i) := by
  have hw := wt_len rows l
  have he := h.fo.en_le (i := i) (by omega)
  have hg := en_gt (w := wt rows l) (i := i) (by omega)
  refine ⟨?_, fun x hx => ?_, hz⟩
  · have e1 : wt rows (rep (wt rows l) l m i) = (wt rows l).take i ++ (wt rows m ++ (wt rows l).drop (en (wt rows l) i)) := by
      unfold rep
      rw [wt_app, wt_app, List.append_assoc]
      unfold wt
      rw [List.map_take, List.map_drop]
    rw [e1]
    refine Fo.put (h.brn hi).fo hm.fo ?_
    have e2 : (wt rows l).take i ++ (wt rows (brn (wt rows l) l i) ++ (wt rows l).drop (en (wt rows l) i)) = wt rows l := by
      rw [wt_brn]
      have : ((wt rows l).drop i).take (en (wt rows l) i - i) ++ (wt rows l).drop (en (wt rows l) i) = (wt rows l).drop i := by
        have e3 : (wt rows l).drop (en (wt rows l) i) = ((wt rows l).drop i).drop (en (wt rows l) i - i) := by rw [List.drop_drop, show i + (en (wt rows l) i - i) = en (wt rows l) i by omega]
        rw [e3, List.take_append_drop]
      rw [this, List.take_append_drop]
    rw [e2]
    exact h.fo
  · unfold rep at hx
    rcases List.mem_append.mp hx with hx | hx
    · rcases List.mem_append.mp hx with hx | hx
      · exact h.kn x (List.mem_of_mem_take hx)
      · exact hm.kn x hx
    · exact h.kn x (List.mem_of_mem_drop hx)
theorem rep_same {rows : List Sy.Row} {l : List Str} (h : Pln rows l) {i : Nat} (hi : i < l.length) : rep (wt rows l) l (brn (wt rows l) l i) i = l := by
  have hw := wt_len rows l
  have hg := en_gt (w := wt rows l) (i := i) (by omega)
  unfold rep brn
  have e3 : l.drop (en (wt rows l) i) = (l.drop i).drop (en (wt rows l) i - i) := by rw [List.drop_drop, show i + (en (wt rows l) i - i) = en (wt rows l) i by omega]
  rw [e3, List.append_assoc, List.take_append_drop, List.take_append_drop]
section
variable {rows : List Sy.Row} {l m : List Str} {i : Nat} (h : Pln rows l) (hm : Pln rows m) (hi : i < l.length) (hz : (rep (wt rows l) l m i).length ≤ 2000)
include h hm hi hz
theorem rep_lt : i < (rep (wt rows l) l m i).length := by
  have := hm.fo.pos
  rw [wt_len] at this
  unfold rep
  rw [List.length_append, List.length_append, List.length_take]
  omega
theorem rep_en : en (wt rows (rep (wt rows l) l m i)) i = i + m.length := by
  have hw := wt_len rows l
  have e1 : (wt rows (rep (wt rows l) l m i)).drop i = wt rows m ++ (wt rows l).drop (en (wt rows l) i) := by
    have : wt rows (rep (wt rows l) l m i) = (wt rows l).take i ++ (wt rows m ++ (wt rows l).drop (en (wt rows l) i)) := by
      unfold rep
      rw [wt_app, wt_app, List.append_assoc]
      unfold wt
      rw [List.map_take, List.map_drop]
    rw [this, List.drop_append, List.length_take, show min i (wt rows l).length = i by omega]
    rw [List.drop_of_length_le (by rw [List.length_take]; omega), Nat.sub_self, List.drop_zero, List.nil_append]
  unfold en
  rw [e1, hm.fo.sp_app, wt_len]
theorem rep_brn : brn (wt rows (rep (wt rows l) l m i)) (rep (wt rows l) l m i) i = m := by
  unfold brn
  rw [rep_en h hm hi hz, show i + m.length - i = m.length by omega]
  have e : (rep (wt rows l) l m i).drop i = m ++ l.drop (en (wt rows l) i) := by
    unfold rep
    rw [List.append_assoc, List.drop_append, List.length_take, show i - min i l.length = 0 by omega, List.drop_zero, List.drop_of_length_le (by rw [List.length_take]; omega), List.nil_append]
  rw [e, List.take_left]
theorem rep_rep (hb : Pln rows (brn (wt rows l) l i)) : rep (wt rows (rep (wt rows l) l m i)) (rep (wt rows l) l m i) (brn (wt rows l) l i) i = l := by
  have hw := wt_len rows l
  have hg := en_gt (w := wt rows l) (i := i) (by omega)
  have e1 : (rep (wt rows l) l m i).take i = l.take i := by
    unfold rep
    rw [List.append_assoc, List.take_append, List.length_take, show i - min i l.length = 0 by omega, List.take_zero, List.append_nil, List.take_take, Nat.min_self]
  have e2 : (rep (wt rows l) l m i).drop (i + m.length) = l.drop (en (wt rows l) i) := by
    rw [← List.drop_drop]
    have e : (rep (wt rows l) l m i).drop i = m ++ l.drop (en (wt rows l) i) := by
      unfold rep
      rw [List.append_assoc, List.drop_append, List.length_take, show i - min i l.length = 0 by omega, List.drop_zero, List.drop_of_length_le (by rw [List.length_take]; omega), List.nil_append]
    rw [e, List.drop_left]
  show (rep (wt rows l) l m i).take i ++ brn (wt rows l) l i ++ (rep (wt rows l) l m i).drop (en (wt rows (rep (wt rows l) l m i)) i) = l
  rw [e1, rep_en h hm hi hz, e2]
  have e3 : l.drop (en (wt rows l) i) = (l.drop i).drop (en (wt rows l) i - i) := by rw [List.drop_drop, show i + (en (wt rows l) i - i) = en (wt rows l) i by omega]
  unfold brn
  rw [e3, List.append_assoc, List.take_append_drop, List.take_append_drop]
theorem rep_path {p : List Nat} (hp : pl (wt rows l) 0 p = some i) : pl (wt rows (rep (wt rows l) l m i)) 0 p = some i := by
  have hw := wt_len rows l
  refine pl_local h.fo (rep_pln h hm hi hz).fo p i hp (by rw [wt_len]; exact rep_lt h hm hi hz) ?_
  unfold wt
  rw [← List.map_take, ← List.map_take]
  congr 1
  show (l.take i ++ m ++ l.drop (en (l.map (ar rows)) i)).take i = _
  rw [List.append_assoc, List.take_append, List.length_take, show i - min i l.length = 0 by omega, List.take_zero, List.append_nil, List.take_take, Nat.min_self]
end
/-- paths of places, as numbers -/
theorem pz_pl (w : List Nat) : ∀ (p : List Nat) (i : Nat), pz w i (p.map fun n : Nat => (n : Int)) = pl w i p
  | [], i => rfl
  | k :: p, i => by
    show (if 0 ≤ (k : Int) ∧ (k : Int) < (aw w i : Nat) then pz w (kd w i ((k : Int)).toNat) (p.map fun n : Nat => (n : Int)) else none) = if k < aw w i then pl w (kd w i k) p else none
    have e : ((k : Int)).toNat = k := by omega
    rw [e]
    by_cases c : k < aw w i
    · rw [if_pos ⟨by omega, by omega⟩, if_pos c, pz_pl w p]
    · rw [if_neg (fun z => c (by omega)), if_neg c]
theorem pz_app (w : List Nat) (y : List Int) : ∀ (x : List Int) (i : Nat), pz w i (x ++ y) = (pz w i x).bind fun j => pz w j y
  | [], i => rfl
  | k :: x, i => by
    show (if 0 ≤ k ∧ k < (aw w i : Nat) then pz w (kd w i k.toNat) (x ++ y) else none) = (if 0 ≤ k ∧ k < (aw w i : Nat) then pz w (kd w i k.toNat) x else none).bind _
    by_cases c : 0 ≤ k ∧ k < (aw w i : Nat)
    · rw [if_pos c, if_pos c, pz_app w y x]
    · rw [if_neg c, if_neg c]
      rfl
/-- a branch that isn't there -/
theorem pz_no {w : List Nat} {x y : List Int} {i : Nat} {k : Int} (h : pz w 0 x = some i) (hk : ¬ (0 ≤ k ∧ k < (aw w i : Nat))) : pz w 0 (x ++ k :: y) = none := by
  rw [pz_app, h]
  show (if 0 ≤ k ∧ k < (aw w i : Nat) then pz w (kd w i k.toNat) y else none) = none
  rw [if_neg hk]
/-- ranks -/
theorem rk_at : ∀ (rows : List Sy.Row) (n m : Nat) (x : Str), rk n rows x = some m → ∃ j, m = n + j ∧ (rows.map (·.1))[j]? = some x ∧ ∀ k z, k < j → (rows.map (·.1))[k]? = some z → z ≠ x
  | [], n, m, x, h => by cases h
  | r :: rs, n, m, x, h => by
    rw [rk] at h
    by_cases c : r.1 = x
    · rw [if_pos c] at h
      cases h
      exact ⟨0, rfl, by rw [← c]; rfl, fun k z hk => absurd hk (Nat.not_lt_zero _)⟩
    · rw [if_neg c] at h
      obtain ⟨j, e, h1, h2⟩ := rk_at rs (n + 1) m x h
      refine ⟨j + 1, by omega, h1, fun k z hk hz => ?_⟩
      cases k with
      | zero =>
        have : r.1 = z := Option.some.inj hz
        rw [← this]
        exact c
      | succ k => exact h2 k z (by omega) hz
theorem rkD_at {rows : List Sy.Row} {x : Str} (h : isK rows x = true) : (rows.map (·.1))[rkD rows x]? = some x ∧ ∀ k z, k < rkD rows x → (rows.map (·.1))[k]? = some z → z ≠ x := by
  obtain ⟨m, hm⟩ := rk_isK x 0 rows h
  obtain ⟨j, e, h1, h2⟩ := rk_at rows 0 m x hm
  have : rkD rows x = j := by unfold rkD; rw [hm]; show m = j; omega
  rw [this]
  exact ⟨h1, h2⟩
/-! what the comparison asks of data -/
theorem lay_ints (l : List Nat) : PyData.canLayAll0 (l.map fun n : Nat => PyData.int (n : Int)) = true ∧ PyData.depthAll (l.map fun n : Nat => PyData.int (n : Int)) ≤ 1 := by
  induction l with
  | nil => exact ⟨rfl, Nat.zero_le _⟩
  | cons x l ih =>
    simp only [List.map_cons, PyData.canLayAll0, PyData.depthAll, PyData.canLay0, PyData.depth, Bool.true_and]
    exact ⟨ih.1, by omega⟩
theorem lay_DN (l : List Nat) : (DN l).canLay0 = true ∧ (DN l).depth ≤ 2 := by
  have := lay_ints l
  unfold DN
  simp only [PyData.canLay0, PyData.depth]
  exact ⟨this.1, by omega⟩
theorem lay_paths (w : List Nat) : SeqAt.shaped (dPaths w) = true := by
  have all : ∀ ls : List (List Nat), PyData.canLayAll0 (ls.map DN) = true ∧ PyData.depthAll (ls.map DN) ≤ 2 := by
    intro ls
    induction ls with
    | nil => exact ⟨rfl, Nat.zero_le _⟩
    | cons x ls ih =>
      have := lay_DN x
      simp only [List.map_cons, PyData.canLayAll0, PyData.depthAll, this.1, Bool.true_and]
      exact ⟨ih.1, by omega⟩
  have := all (pths w)
  unfold SeqAt.shaped dPaths
  simp only [PyData.canLay0, PyData.depth, this.1, Bool.true_and]
  exact decide_eq_true (by omega)
theorem RL.pairs {K : PySem.W.Frag} {H : Hp} {q : Addr} {rows : List Sy.Row} (h : RL K H q rows) : ∃ pr : List (Addr × Sy.Row), H q = some (.lst (pr.map fun z => V.ref z.1)) ∧ pr.map (·.2) = rows ∧ (∀ z ∈ pr, SqT K H z.1 [.str z.2.1, .int (z.2.2 : Nat)]) := by
  obtain ⟨ps, h1, h2⟩ := h
  have e := paired_len h2
  refine ⟨ps.zip rows, ?_, List.map_snd_zip (by omega), fun z hz => ?_⟩
  · have : (ps.zip rows).map (fun z => V.ref z.1) = ps.map V.ref := by
      have : (ps.zip rows).map (·.1) = ps := List.map_fst_zip (by omega)
      rw [← this, List.map_map, this]
      rfl
    rw [this]
    exact h1
  · obtain ⟨i, hi, ez⟩ := List.mem_iff_getElem.mp hz
    rw [List.getElem_zip] at ez
    rw [List.length_zip] at hi
    obtain ⟨p2, e2, t⟩ := paired_at h2 (i := i) (y := rows[i]) (List.getElem?_eq_getElem (by omega))
    rw [List.getElem?_eq_getElem (by omega)] at e2
    have e4 : z.1 = p2 := by rw [← ez]; exact Option.some.inj e2
    have e3 : z.2 = rows[i] := by rw [← ez]
    rw [e4, e3]
    exact t
end Sy
namespace Sy
open PySem PySem.Spec PyProof.Rows L2
theorem fit_DN {l : List Nat} (h : l.length ≤ 1000000) : ∀ n : Nat, Fit (n + 1) (DN l) := fun n => ⟨by rw [List.length_map]; exact h, fun d hd => by
  obtain ⟨z, _, rfl⟩ := List.mem_map.mp hd
  cases n <;> trivial⟩
theorem fit_DS {l : List Str} (h : l.length ≤ 1000000) : ∀ n : Nat, Fit (n + 1) (DS l) := fun n => ⟨by rw [List.length_map]; exact h, fun d hd => by
  obtain ⟨z, _, rfl⟩ := List.mem_map.mp hd
  cases n <;> trivial⟩
theorem fit_told {l : List Str} (h : l.length ≤ 1000000) : Fit 3 (dTold (DS l)) := ⟨by show 2 ≤ 1000000; decide, fun d hd => by
  rcases List.mem_cons.mp hd with rfl | hd
  · trivial
  · rw [List.mem_singleton.mp hd]
    exact fit_DS h 1⟩
theorem fit_many : Fit 3 dMany := ⟨by show 3 ≤ 1000000; decide, fun d hd => by
  rcases List.mem_cons.mp hd with rfl | hd
  · trivial
  rcases List.mem_cons.mp hd with rfl | hd
  · trivial
  · rw [List.mem_singleton.mp hd]
    trivial⟩
theorem pths_len (w : List Nat) : (pths w).length = w.length := pth_len w _
theorem pths_le (w : List Nat) (j : Nat) : ((pths w).getD j []).length ≤ j := pth_le w _ j
theorem fit_paths {w : List Nat} (h : w.length ≤ 2000) : Fit 3 (dPaths w) := ⟨by rw [List.length_map, pths_len]; omega, fun d hd => by
  obtain ⟨p, hp, rfl⟩ := List.mem_map.mp hd
  obtain ⟨j, hj, rfl⟩ := List.mem_iff_getElem.mp hp
  have := pths_le w j
  rw [List.getD_eq_getElem?_getD, List.getElem?_eq_getElem hj] at this
  have hl := pths_len w
  exact fit_DN (Nat.le_trans this (by omega)) 1⟩
theorem tall_take (ls : List (List Nat)) {i : Nat} {p : List Nat} (h : ls[i]? = some p) : tall (ls.take (i + 1)) = if tall (ls.take i) ≤ p.length then p.length + 1 else tall (ls.take i) := by
  rw [List.take_succ, h]
  exact tall_snoc _ _
theorem ar_le3 {rows : List Sy.Row} (ok : RowsOk rows) (x : Str) : ar rows x ≤ 3 := by
  unfold ar
  cases el : rows.lookup x with
  | none => exact Nat.zero_le _
  | some n =>
    have mem : ∀ rs : List Sy.Row, rs.lookup x = some n → (x, n) ∈ rs := by
      intro rs
      induction rs with
      | nil => intro z; cases z
      | cons r rs ih =>
        intro z
        rw [lookup_cons] at z
        by_cases c : r.1 = x
        · rw [if_pos c] at z
          have : r = (x, n) := by rw [← c, ← Option.some.inj z]
          rw [this]
          exact List.mem_cons_self
        · rw [if_neg c] at z
          exact List.mem_cons_of_mem _ (ih z)
    exact ok.br _ (mem _ el)
theorem filter_all {α : Type} (l : List α) : l.filter (fun _ => true) = l := List.filter_eq_self.mpr fun _ _ => rfl
section
variable {P : Program} {w : World} {K : PySem.W.Frag} {mg : Str → Option Value} {base : Heap}
def spWhole (K : PySem.W.Frag) : Sp := fun vs H Q _ => ∃ (q a r e : Addr) (fv : V) (rows : List Sy.Row) (l : List Str), vs = [.ref q, .ref a, .ref r, .ref e, fv] ∧ RL K H q rows ∧ RowsOk rows ∧ BedAt K H a rows ∧ SqT K H r (l.map V.str) ∧ NoD H r ∧ Pln rows l ∧ H e = some (.lst (vN (ens (wt rows l)))) ∧ Im K H fv (dPaths (wt rows l)) ∧ ∀ H', Same H H' → Q (.bl true) H'
abbrev N_whole : List Str := ["_law_rows_here", "_law_bed_here", "_law_plant_here", "_law_ends_here", "_law_found", "_law_tallest", "_law_path", "_law_names", "_law_told", "_law_below", "_law_at", "_law_k", "_law_row", "_law_word_here"]
abbrev P_whole : List Str := ["_law_rows_here", "_law_bed_here", "_law_plant_here", "_law_ends_here", "_law_found"]
theorem sc_whole : FnScope N_whole P_whole (defScope (top 58)) := ⟨rfl, rfl, rfl, by decide +kernel, rfl, by decide +kernel, by decide +kernel⟩
theorem k_whole (T : Txt K mg) (TC : TxtC mg) (F : DF K mg "_law_whole_right" 58) (c_law_same : Cal P w K mg base 4 "_law_same" ["_law_told", "_law_due"] (spSame K 3)) (c_height : Cal P w K mg base 5 "height" ["bed", "plant"] (spHeight K)) (c_counted : Cal P w K mg base 5 "counted" ["bed", "plant"] (spCounted K))
    (c_plant_key : Cal P w K mg base 5 "plant_key" ["bed", "plant"] (spKeyP K)) (c_paths : Cal P w K mg base 5 "paths" ["bed", "plant"] (spPathsP K)) (c_branches_of : Cal P w K mg base 5 "branches_of" ["bed", "plant"] (spBrs K)) (c_law_number : Cal P w K mg base 1 "_law_number" ["_law_rows_here", "_law_word_here"] (spNum K))
    (c_law_planted_met : Cal P w K mg base 7 "_law_planted_met" ["_law_bed_here", "_law_word_here", "_law_below"] (spPMet K)) : Cal P w K mg base 8 "_law_whole_right" P_whole (spWhole K) := by
  refine cal_of F.1 F.2 sc_whole (fun _ _ _ _ _ _ us e => match us, e with | [_, _, _, _, _], _ => rfl) (fun vs H Q E s => by obtain ⟨_, _, _, _, _, _, _, rfl, _⟩ := s; rfl) ?_
  intro cdv A outer s H vs Q E hr h
  obtain ⟨q, a, r, e, fv, rows, l, rfl, hRL, ok, hb, hR, hnd, hp, hE, hfv, hq⟩ := h
  have sc := sc_whole
  have hF := hp.fo
  have hsz := hp.le
  have hwl := wt_len rows l
  have hrl := ok.le
  have tail : ∃ t, PSs (cxOf (L2.CX P w) P w K mg base N_whole "_law_whole_right" (defScope (top 58)) (He.ga K "_law_whole_right") cdv A outer s H E) ((defBody (top 58)).drop 8) t ∧
      ∀ (D : Ends) (H9 : Hp) (s5 s6 s7 s8 : Option V), D.rt = Q → Same H H9 → t D [some (.ref q), some (.ref a), some (.ref r), some (.ref e), some fv, s5, s6, s7, s8, none, none, none, none, none] H9 := by
    refine ⟨_, (pss_cons (ps_set (i := 9) sc.nd rfl (Or.inl rfl) (pe_lst pa_nil))
      (pss_cons (ps_set (i := 10) sc.nd rfl (Or.inl rfl) pe_int)
      (pss_cons (ps_for (passes_of rfl) rfl (pi_range1 rfl T.range (pa_cons (pe_cal c_law_number hr (pa_cons (pv 0) (pa_cons (pe_ix ix_tup (pv 2) pe_int (fun _ _ => rfl)) pa_nil))) pa_nil)) (pg_name (i := 11) sc.nd rfl (Or.inl rfl))
        (pss_cons (ps_expr (pe_bm PySem.F.plainAttrs_list PySem.F.slot_list_append PySem.F.type_list_append mt_append (pv 9) (pa_cons (pe_slice sl_tupA (pv 2) (po_some (pv 10)) (po_some (pe_ix ix_list (pv 3) (pv 10) (fun _ _ => rfl)))) pa_nil)))
        (pss_one (ps_set (i := 10) sc.nd rfl (Or.inl rfl) (pe_ix ix_list (pv 3) (pv 10) (fun _ _ => rfl))))))
      (pss_cons (ps_if (pt_not (pt_val (pe_cal c_law_same hr (pa_cons (pe_cal c_branches_of hr (pa_cons (pv 1) (pa_cons (pv 2) pa_nil))) (pa_cons (pe_callTy call_tuple_of (by rfl) T.tuple (by decide +kernel) (pa_cons (pv 9) pa_nil)) pa_nil)))))
        (pss_one (ps_ret pe_bl))
        pss_nil)
      (pss_one (ps_ret (pe_cal c_law_same hr (pa_cons (pe_cal c_law_planted_met hr (pa_cons (pv 1) (pa_cons (pe_ix ix_tup (pv 2) pe_int (fun _ _ => rfl)) (pa_cons (pv 9) pa_nil)))) (pa_cons (pe_tup (pa_cons pe_str (pa_cons (pv 2) pa_nil))) pa_nil))))))))), ?_⟩
    intro D H9 s5 s6 s7 s8 hD s19
    have hE9 := s19 _ _ hE
    have hlen : 0 < l.length := by rw [← hwl]; exact hF.pos
    obtain ⟨x0, l1, el⟩ : ∃ x l1, l = x :: l1 := by
      cases l with
      | nil => exact absurd hlen (Nat.lt_irrefl _)
      | cons x l1 => exact ⟨x, l1, rfl⟩
    have hx0 : l[0]? = some x0 := by rw [el]; rfl
    have hk0 := hp.kn x0 (List.mem_of_getElem? hx0)
    have hnum : numb rows x0 = (ar rows x0 : Nat) := numb_ar hk0
    have eaw : aw (wt rows l) 0 = ar rows x0 := wt_at hx0
    have hal := aw_le hF (i := 0) (by omega)
    have har3 := ar_le3 ok x0
    refine ⟨by decide, fun PL hPL => ?_⟩
    have h0 := (Hs.start H9).new (o := .lst []) hPL
    refine ⟨_, rfl, _, rfl, r, _, _, _, rfl, rfl, Same.sqt (s19.trans h0.sub) hR, atI_nat (j := 0) (by rw [List.getElem?_map, hx0]; rfl), q, rows, x0, rfl, hRL.mono (s19.trans h0.sub), _, rfl, by omega, by omega, for_rng (n := (numb rows x0).toNat)
      (fun t σ H' => ∃ (z : Int) (t11 : Option V) (B : Hp) (bs : List Addr), σ = [some (.ref q), some (.ref a), some (.ref r), some (.ref e), some fv, s5, s6, s7, s8, some (.ref PL), some (.int z), t11, none, none] ∧ z = (kd (wt rows l) 0 t : Nat) ∧ Same H9 B ∧ Hs B [(PL, .lst (bs.map V.ref))] H' ∧ Paired (fun b (m : List Str) => SqT K B b (m.map V.str)) bs ((List.range t).map fun k => brn (wt rows l) l (kd (wt rows l) 0 k)))
      ⟨1, none, H9, [], rfl, by rw [kd_zero]; rfl, Same.refl _, h0, .nil⟩ ?_ ?_⟩
    · rintro t σ H1 ht ⟨_, t11, B, bs, rfl, rfl, sB, hh, hbs⟩
      rw [hnum] at ht
      have ht2 : t < aw (wt rows l) 0 := by omega
      have hk := hF.kd_lt (i := 0) (by omega) ht2
      have he := hF.en_le hk
      have hg := en_gt hk
      have sH := (s19.trans sB).trans hh.sub
      have hbl := paired_len hbs
      rw [List.length_map, List.length_range] at hbl
      refine ⟨_, rfl, .inl ⟨rfl, _, SqL.of hh.r0⟩, _, rfl, _, rfl, _, rfl, _, rfl, _, rfl, e, _, _, _, rfl, rfl, SqL.of (sH _ _ hE), atI_nat (vN_at (ens_at hk)), _, rfl, sl_any (cut_mid (by omega) (by rw [List.length_map]; omega)) (Same.sqt sH hR) fun p H2 s2 tp => ?_⟩
      obtain ⟨g1, g2⟩ := hh.after s2
      have st := stay_cut hh (AllL.cons AllL.nil) s2
      generalize cut [(PL, HO.lst (bs.map V.ref))] H2 = B2 at *
      refine ⟨PL, _, _, rfl, rfl, g2.r0, by rw [List.length_map, sizeLine_eq]; omega, ?_⟩
      have g3 := g2.w0 (o' := .lst (bs.map V.ref ++ [.ref p]))
      refine ⟨_, rfl, _, rfl, e, _, _, _, rfl, rfl, SqL.of (g3.sub _ _ (g1 _ _ (sB _ _ hE9))), atI_nat (vN_at (ens_at hk)), _, _, B2, bs ++ [p], rfl, by rw [kd_succ], sB.trans g1, by rw [List.map_append]; exact g3, ?_⟩
      rw [List.range_succ, List.map_append]
      refine Paired.snoc (Paired.mapP hbs fun _ _ z => Same.sqt g1 z) (st.sqt ?_)
      show SqT K H2 p ((brn (wt rows l) l (kd (wt rows l) 0 t)).map V.str)
      unfold brn
      rw [List.map_take, List.map_drop]
      exact tp
    · rintro σ H1 ⟨_, t11, B, bs, rfl, rfl, sB, hh, hbs⟩
      rw [hnum, show ((ar rows x0 : Nat) : Int).toNat = aw (wt rows l) 0 by omega] at hbs
      have hbl := paired_len hbs
      rw [List.length_map, List.length_range] at hbl
      have sH := (s19.trans sB).trans hh.sub
      refine ⟨_, rfl, _, rfl, a, r, rows, l, rfl, hb.mono (Stay.of sH), Same.sqt sH hR, hp, fun H2 v2 s2 iv2 => ?_⟩
      have hPL2 := s2 _ _ hh.r0
      refine ⟨_, rfl, PL, _, rfl, .inl ⟨SqL.of hPL2, fun p3 hp3 => ?_⟩⟩
      have s3 := up_same (o := .tup (bs.map V.ref)) hp3
      have sB3 := hh.sub.trans (s2.trans s3)
      have ib : ∀ {bs : List Addr} {ls : List (List Str)}, Paired (fun b (m : List Str) => SqT K B b (m.map V.str)) bs ls → ImA K (upd H2 p3 (.tup (List.map V.ref bs))) (bs.map V.ref) (ls.map DS) → True := fun _ _ => trivial
      have ia : ∀ (H' : Hp), Same B H' → ∀ {bs : List Addr} {ls : List (List Str)}, Paired (fun b (m : List Str) => SqT K B b (m.map V.str)) bs ls → ImA K H' (bs.map V.ref) (ls.map DS) := by
        intro H' s' bs ls hpd
        induction hpd with
        | nil => exact .nil
        | cons x _ ih => exact .cons (Im.strs (Same.sqt s' x)) ih
      have e1 : ((List.range (aw (wt rows l) 0)).map fun k => brn (wt rows l) l (kd (wt rows l) 0 k)).map DS = (List.range (aw (wt rows l) 0)).map fun k => DS (brn (wt rows l) l (kd (wt rows l) 0 k)) := by
        rw [List.map_map]
        rfl
      have i3 := ia _ sB3 hbs
      rw [e1] at i3
      refine ⟨_, _, _, rfl, iv2.mono (Stay.of s3), .tup (SqT.of upd_same) i3, ⟨by rw [List.length_map, List.length_range]; omega, fun d hd => ?_⟩, _, rfl, iteF ?_⟩
      · obtain ⟨k, hk, rfl⟩ := List.mem_map.mp hd
        have hk2 := hF.kd_lt (i := 0) (by omega) (List.mem_range.mp hk)
        exact fit_DS (Nat.le_trans (hp.brn (by omega)).le (by decide)) 1
      have s4 := sH.trans (s2.trans s3)
      have hPL4 := s3 _ _ hPL2
      have eall : x0 :: ((List.range (aw (wt rows l) 0)).map fun k => brn (wt rows l) l (kd (wt rows l) 0 k)).flatten = l := by
        have := brs_all (rows := rows) (x := x0) (l := l1) (by rw [← el]; exact hp)
        rw [← el] at this
        exact this
      refine ⟨_, rfl, _, rfl, r, _, _, _, rfl, rfl, Same.sqt s4 hR, atI_nat (j := 0) (by rw [List.getElem?_map, hx0]; rfl), _, rfl, a, PL, x0, rows, bs, _, rfl, hb.mono (Stay.of s4), hk0, hPL4, Paired.mapP hbs fun _ _ z => Same.sqt sB3 z, fun m hm => ?_, ⟨by rw [List.length_map, List.length_range, eaw], by rw [List.length_map, List.length_range]; omega⟩, fun c H5 v5 s5' i5 => ?_, fun c => ?_⟩
      · obtain ⟨k, hk, rfl⟩ := List.mem_map.mp hm
        have hk2 := hF.kd_lt (i := 0) (by omega) (List.mem_range.mp hk)
        exact hp.brn (by omega)
      · rw [eall] at i5
        refine ⟨_, rfl, by show 2 ≤ sizeLine; decide, fun t6 ht6 => ?_⟩
        have s6' := up_same (o := .tup [.str "told", .ref r]) ht6
        refine ⟨_, _, _, rfl, i5.mono (Stay.of s6'), im_told (SqT.of upd_same) (Im.strs (Same.sqt ((s4.trans s5').trans s6') hR)), fit_told (by omega), ?_⟩
        rw [hD]
        exact hq _ ((s4.trans s5').trans s6')
      · rw [eall] at c
        omega
  obtain ⟨tT, pT, hT⟩ := tail
  refine ⟨_, (pss_cons (ps_set (i := 5) sc.nd rfl (Or.inl rfl) pe_int)
      (pss_cons (ps_for (passes_of rfl) rfl (pi_tup (pv 4)) (pg_name (i := 6) sc.nd rfl (Or.inl rfl))
        (pss_one (ps_if (pt_cmpR op_ge (pe_callB call_len_seq (by rfl) T.len (by decide +kernel) (pa_cons (pv 6) pa_nil)) (pv 5) (nomark _))
          (pss_one (ps_set (i := 5) sc.nd rfl (Or.inl rfl) (pe_op op_add (pe_callB call_len_seq (by rfl) T.len (by decide +kernel) (pa_cons (pv 6) pa_nil)) pe_int)))
          pss_nil)))
      (pss_cons (ps_if (pt_not (pt_val (pe_cal c_law_same hr (pa_cons (pe_cal c_height hr (pa_cons (pv 1) (pa_cons (pv 2) pa_nil))) (pa_cons (pv 5) pa_nil)))))
        (pss_one (ps_ret pe_bl))
        pss_nil)
      (pss_cons (ps_if (pt_not (pt_val (pe_cal c_law_same hr (pa_cons (pe_cal c_counted hr (pa_cons (pv 1) (pa_cons (pv 2) pa_nil))) (pa_cons (pe_callTy call_tuple_of (by rfl) T.tuple (by decide +kernel) (pa_cons (pe_lc (own := [("_law_row", 12)]) (g := gName 12) (te := tBMT K (rTCnt K) (tVar 2) (tCons (tOp (rIxT K) (tVar 12) (tC (.int 0))) tNil)) rfl sc.nd (pi_list (pv 0)) (blkOk_by (N := N_whole) (sc := defScope (top 58)) (by decide +kernel)) (fun _ _ _ _ _ => (pg_name (i := 12) sc.nd rfl (Or.inl rfl))) (fun _ _ _ _ _ => pts_nil) (fun _ _ _ _ _ => (pe_bmT PySem.F.slot_tuple_count PySem.F.type_tuple_count mt_tcount (pv 2) (pa_cons (pe_ix ix_tup (pv 12) pe_int (fun _ _ => rfl)) pa_nil)))) pa_nil)) pa_nil)))))
        (pss_one (ps_ret pe_bl))
        pss_nil)
      (pss_cons (ps_set (i := 7) sc.nd rfl (Or.inr rfl) (pe_lc (own := [("_law_row", 12)]) (g := gName 12) (te := tOp (rIxT K) (tVar 12) (tC (.int 0))) rfl sc.nd (pi_list (pv 0)) (blkOk_by (N := N_whole) (sc := defScope (top 58)) (by decide +kernel)) (fun _ _ _ _ _ => (pg_name (i := 12) sc.nd rfl (Or.inl rfl))) (fun _ _ _ _ _ => pts_nil) (fun _ _ _ _ _ => (pe_ix ix_tup (pv 12) pe_int (fun _ _ => rfl)))))
      (pss_cons (ps_if (pt_not (pt_val (pe_cal c_law_same hr (pa_cons (pe_cal c_plant_key hr (pa_cons (pv 1) (pa_cons (pv 2) pa_nil))) (pa_cons (pe_tup (pa_cons (pe_callB call_len_seq (by rfl) T.len (by decide +kernel) (pa_cons (pv 2) pa_nil)) (pa_cons (pe_callTy call_tuple_of (by rfl) T.tuple (by decide +kernel) (pa_cons (pe_lc (own := [("_law_word_here", 13)]) (g := gName 13) (te := tBM K "list" (rIndex K) (tVar 7) (tCons (tVar 13) tNil)) rfl sc.nd (pi_tup (pv 2)) (blkOk_by (N := N_whole) (sc := defScope (top 58)) (by decide +kernel)) (fun _ _ _ _ _ => (pg_name (i := 13) sc.nd rfl (Or.inl rfl))) (fun _ _ _ _ _ => pts_nil) (fun _ _ _ _ _ => (pe_bm PySem.F.plainAttrs_list PySem.F.slot_list_index PySem.F.type_list_index mt_index (pv 7) (pa_cons (pv 13) pa_nil)))) pa_nil)) pa_nil))) pa_nil)))))
        (pss_one (ps_ret pe_bl))
        pss_nil)
      (pss_cons (ps_set (i := 8) sc.nd rfl (Or.inl rfl) (pe_cal c_paths hr (pa_cons (pv 1) (pa_cons (pv 2) pa_nil))))
      (pss_cons (ps_if (pt_cmpR op_gt (pe_callB call_len_seq (by rfl) T.len (by decide +kernel) (pa_cons (pv 2) pa_nil)) pe_int (nomark _))
        (pss_one (ps_if (PW.pt (pw_or (pt_not (pt_val (pe_callB call_isi (by rfl) T.isinstance (by decide +kernel) (pa_cons (pv 8) (pa_cons (pe_bltn (v := .ty "tuple") (by rfl) TC.tuple (by decide +kernel) rfl) pa_nil))))) (pw_or1 (pt_cmpR (op_neD hr.units) (pv 8) (pv 4) (nomark _)))))
          (pss_one (ps_ret pe_bl))
          pss_nil))
        (pss_one (ps_if (pt_not (pt_val (pe_cal c_law_same hr (pa_cons (pv 8) (pa_cons (pv 4) pa_nil)))))
          (pss_one (ps_ret pe_bl))
          pss_nil)))
      pT)))))))), ?_⟩
  obtain ⟨fa, fs, rfl, ft, fi⟩ := hfv.tupI
  have fl : fs.length = l.length := by rw [fi.len, List.length_map, pths_len, hwl]
  -- tallest
  refine ⟨_, rfl, fa, rfl, ⟨_, ft⟩, for_tup (K := K) (a := fa) (xs := fs) (fun i σ H' => ∃ (z : Int) (t6 : Option V), σ = [some (.ref q), some (.ref a), some (.ref r), some (.ref e), some (.ref fa), some (.int z), t6, none, none, none, none, none, none, none] ∧ z = (tall ((pths (wt rows l)).take i) : Nat) ∧ H' = H)
    ⟨0, none, rfl, rfl, rfl⟩ (fun _ _ _ _ ⟨_, _, _, _, e⟩ => e ▸ ft) ?_ ?_⟩
  · rintro i x σ H' hx ⟨_, t6, rfl, rfl, rfl⟩
    have hi : i < l.length := by rw [← fl]; exact (List.getElem?_eq_some_iff.mp hx).1
    obtain ⟨p, ep⟩ : ∃ p, (pths (wt rows l))[i]? = some p := ⟨_, List.getElem?_eq_getElem (by rw [pths_len]; omega)⟩
    obtain ⟨v, ev, iv⟩ := fi.get (i := i) (d := DN p) (by rw [List.getElem?_map, ep]; rfl)
    rw [hx] at ev
    cases ev
    obtain ⟨pa, rfl, pt⟩ := iv.natsI
    have et := tall_take _ ep
    refine ⟨_, rfl, pa, _, rfl, .inr pt, _, rfl, _, _, rfl, rfl, _, rfl, if_dec (fun c => ?_) (fun c => ?_)⟩
    · rw [vN, List.length_map] at c
      rw [if_pos (by omega)] at et
      refine ⟨_, rfl, pa, _, rfl, .inr pt, _, _, rfl, rfl, _, _, rfl, ?_, rfl⟩
      rw [et, vN, List.length_map]
      rfl
    · rw [vN, List.length_map] at c
      rw [if_neg (by omega)] at et
      exact ⟨_, _, rfl, by rw [et], rfl⟩
  rintro σ H' ⟨_, t6, rfl, rfl, rfl⟩
  rw [List.take_of_length_le (by rw [pths_len]; omega)]
  -- height
  refine ⟨_, rfl, _, rfl, a, r, rows, l, rfl, hb, hR, hp, fun H1 s1 => ⟨_, rfl, _, _, _, rfl, .int _, .int _, trivial, _, rfl, iteF ?_⟩⟩
  -- counted
  have hR1 := Same.sqt s1 hR
  refine ⟨_, rfl, _, rfl, a, r, rows, l, rfl, hb.mono (Stay.of s1), hR1, hp, hnd.mono (Stay.of s1), by omega, fun H2 v s2 iv => ?_⟩
  have s12 := s1.trans s2
  obtain ⟨pr, hL, hpr, hzs⟩ := (hRL.mono s12).pairs
  have prl : pr.length = rows.length := by rw [← hpr, List.length_map]
  refine ⟨_, rfl, q, rfl, ⟨_, SqL.of hL⟩, fun D hD => lc_filt (si := 12) (f := fun z : Addr × Sy.Row => V.ref z.1) (out := fun z => V.int (l.count z.2.1 : Nat)) (keep := fun _ => true) (Hs.start H2) hD hL (by omega) ?_ ?_⟩
  · intro z hz H3 s3 R1 R2 k1 k2
    simp only [tYes, if_true]
    have st := Same.sqt (s12.trans s3) hR
    refine ⟨_, rfl, ⟨r, _, rfl, st, hnd.mono (Stay.of (s12.trans s3))⟩, _, rfl, z.1, _, _, _, rfl, rfl, Same.sqt s3 (hzs z hz), atI_nat (j := 0) rfl, r, _, _, rfl, rfl, st, rfl, all_strs l, ?_⟩
    rw [countP_strs]
    exact k1 rfl
  intro H3 h3
  refine ⟨D, _, rfl, .inl ⟨SqL.of h3.r0, fun p3 hp3 => ?_⟩⟩
  have s3 := h3.sub.trans (up_same (o := .tup ((pr.filter fun _ => true).map fun z => V.int (l.count z.2.1 : Nat))) hp3)
  have ec : (pr.filter fun _ => true).map (fun z => V.int (l.count z.2.1 : Nat)) = vN (rows.map fun r => l.count r.1) := by
    rw [filter_all, vN, ← hpr, List.map_map, List.map_map]
    rfl
  rw [ec] at s3 ⊢
  refine ⟨_, _, _, rfl, iv.mono (Stay.of s3), Im.nats (SqT.of upd_same), fit_DN (by rw [List.length_map]; omega) 2, _, rfl, iteF ?_⟩
  have s13 := s12.trans s3
  generalize upd H3 p3 (.tup (vN (rows.map fun r => l.count r.1))) = H4 at *
  clear h3 hp3 hD
  -- names
  have hL4 := s3 _ _ hL
  refine ⟨_, rfl, q, rfl, ⟨_, SqL.of hL4⟩, fun D7 hD7 => lc_filt (si := 12) (f := fun z : Addr × Sy.Row => V.ref z.1) (out := fun z => V.str z.2.1) (keep := fun _ => true) (Hs.start H4) hD7 hL4 (by omega) ?_ ?_⟩
  · intro z hz H5 s5 R1 R2 k1 k2
    simp only [tYes, if_true]
    exact ⟨_, rfl, z.1, _, _, _, rfl, rfl, Same.sqt (s3.trans s5) (hzs z hz), atI_nat (j := 0) rfl, k1 rfl⟩
  intro H5 h5
  have en : (pr.filter fun _ => true).map (fun z => V.str z.2.1) = (rows.map (·.1)).map V.str := by
    rw [filter_all, ← hpr, List.map_map, List.map_map]
    rfl
  rw [en] at h5
  have s5 := s13.trans h5.sub
  have hN5 := h5.r0
  -- plant_key
  refine ⟨_, rfl, _, rfl, a, r, rows, l, rfl, hb.mono (Stay.of s5), Same.sqt s5 hR, hp, fun H6 v6 s6 iv6 => ?_⟩
  have s16 := s5.trans s6
  have hN6 := s6 _ _ hN5
  have hR6 := Same.sqt s16 hR
  refine ⟨_, rfl, r, _, rfl, .inr hR6, _, rfl, r, rfl, ⟨_, hR6⟩, fun D8 hD8 => lc_map (si := 13) (Hs.start H6) hD8 hR6 (by rw [List.length_map]; omega) (fun i _ acc => acc = vN ((l.take i).map (rkD rows))) rfl ?_ ?_⟩
  · rintro i x B' acc H7 hx s7 rfl h7 R hR'
    obtain ⟨y, hy, rfl⟩ := map_at hx
    have hN7 := h7.sub _ _ (s7 _ _ hN6)
    obtain ⟨k1, k2⟩ := rkD_at (hp.kn y (List.mem_of_getElem? hy))
    refine ⟨_, rfl, .inl ⟨rfl, _, SqL.of hN7⟩, _, rfl, D7, _, _, rkD rows y, _, rfl, rfl, SqL.of hN7, rfl, all_strs _, by rw [List.getElem?_map, k1]; rfl, by rw [eqV_strs]; exact beq_self_eq_true y, fun m z hm hz => ?_, ?_⟩
    · obtain ⟨z', hz', rfl⟩ := map_at hz
      rw [eqV_strs]
      exact beq_eq_false_iff_ne.mpr (k2 m z' hm hz')
    · refine hR' _ _ B' (Same.refl _) h7 ?_
      rw [List.take_succ, hy, List.map_append, vN, vN, List.map_append]
      rfl
  rintro B' acc H7 s7 rfl h7
  rw [List.length_map, List.take_length] at h7
  refine ⟨D8, _, rfl, .inl ⟨SqL.of h7.r0, fun p7 hp7 => ⟨by show 2 ≤ sizeLine; decide, fun t7 ht7 => ?_⟩⟩⟩
  rw [List.length_map]
  have s8 := ((s7.trans h7.sub).trans (up_same (o := .tup (vN (l.map (rkD rows)))) hp7)).trans (up_same (o := .tup [.int (l.length : Nat), .ref p7]) ht7)
  refine ⟨_, _, _, rfl, iv6.mono (Stay.of s8), .tup (SqT.of upd_same) (.cons (.int _) (.cons (Im.nats (Same.sqt (up_same ht7) (SqT.of upd_same))) .nil)), ⟨by show 2 ≤ 1000000; decide, fun d hd => ?_⟩, _, rfl, iteF ?_⟩
  · rcases List.mem_cons.mp hd with rfl | hd
    · trivial
    · rw [List.mem_singleton.mp hd]
      exact fit_DN (by rw [List.length_map]; omega) 1
  have s18 := s16.trans s8
  generalize upd (upd H7 p7 (.tup (vN (l.map (rkD rows))))) t7 (.tup [.int (l.length : Nat), .ref p7]) = H8 at *
  clear h7 hp7 ht7 hD8 h5 hD7
  -- paths
  refine ⟨_, rfl, _, rfl, a, r, rows, l, rfl, hb.mono (Stay.of s18), Same.sqt s18 hR, hp, fun H9 v9 s9 iv9 => ?_⟩
  have s19 := s18.trans s9
  have if9 := hfv.mono (Stay.of s19)
  obtain ⟨ta, ts, rfl, tt9, _⟩ := iv9.tupI
  refine ⟨_, rfl, r, _, rfl, .inr (Same.sqt s19 hR), _, _, rfl, rfl, _, rfl, if_dec (fun c => ?_) (fun c => ?_)⟩
  · refine ⟨_, rfl, _, _, _, _, true, rfl, .ty _, tyx_tup tt9, kit_ty (by decide +kernel), _, rfl, iteF ?_⟩
    refine ⟨_, rfl, _, rfl, _, _, iv9.dp, if9.dp, lay_paths _, lay_paths _, _, rfl, ?_⟩
    rw [SeqAt.eqv_refl _ (SeqAt.canLay_of_shaped (lay_paths _))]
    exact iteF (hT _ H9 _ _ _ _ rfl s19)
  · exact ⟨_, rfl, _, rfl, _, _, _, rfl, iv9, if9, fit_paths (by omega), _, rfl, iteF (hT _ H9 _ _ _ _ rfl s19)⟩
end
end Sy
namespace Sy
open PySem PySem.Spec PyProof.Rows L2
theorem log_small {k : Int} (h : -1 ≤ k ∧ k ≤ 4) : k.natAbs.log2 < 1920 := by
  have h2 : k = -1 ∨ k = 0 ∨ k = 1 ∨ k = 2 ∨ k = 3 ∨ k = 4 := by omega
  rcases h2 with rfl | rfl | rfl | rfl | rfl | rfl <;> decide
theorem pl_small {w : List Nat} (h : ∀ i, aw w i ≤ 3) : ∀ (p : List Nat) (i j : Nat), pl w i p = some j → ∀ k ∈ p, k ≤ 3
  | [], _, _, _, _, hk => by cases hk
  | t :: p, i, j, e, k, hk => by
    have e : (if t < aw w i then pl w (kd w i t) p else none) = some j := e
    by_cases c : t < aw w i
    · rw [if_pos c] at e
      rcases List.mem_cons.mp hk with rfl | hk
      · have := h i
        omega
      · exact pl_small h p _ j e k hk
    · rw [if_neg c] at e
      cases e
theorem aw_le3 {rows : List Sy.Row} (ok : RowsOk rows) (l : List Str) (i : Nat) : aw (wt rows l) i ≤ 3 := by
  unfold aw wt
  rw [List.getElem?_map]
  cases l[i]? with
  | none => exact Nat.zero_le _
  | some x => exact ar_le3 ok x
section
variable {P : Program} {w : World} {K : PySem.W.Frag} {mg : Str → Option Value} {base : Heap}
/-! _law_above_right -/
def spAbove (K : PySem.W.Frag) : Sp := fun vs H Q _ => ∃ (q a r : Addr) (rows : List Sy.Row) (l : List Str), vs = [.ref q, .ref a, .ref r] ∧ RL K H q rows ∧ RowsOk rows ∧ BedAt K H a rows ∧ SqT K H r (l.map V.str) ∧ Pln rows l ∧ ∀ H', Same H H' → Q (.bl true) H'
abbrev N_above : List Str := ["_law_rows_here", "_law_bed_here", "_law_plant_here", "_law_due", "_law_row"]
theorem sc_above : FnScope N_above ["_law_rows_here", "_law_bed_here", "_law_plant_here"] (defScope (top 59)) := ⟨rfl, rfl, rfl, by decide +kernel, rfl, by decide +kernel, by decide +kernel⟩
theorem k_above (T : Txt K mg) (F : DF K mg "_law_above_right" 59) (c_law_same : Cal P w K mg base 4 "_law_same" ["_law_told", "_law_due"] (spSame K 3)) (c_law_planted_met : Cal P w K mg base 7 "_law_planted_met" ["_law_bed_here", "_law_word_here", "_law_below"] (spPMet K)) :
    Cal P w K mg base 8 "_law_above_right" ["_law_rows_here", "_law_bed_here", "_law_plant_here"] (spAbove K) := by
  refine cal_of F.1 F.2 sc_above (fun _ _ _ _ _ _ us e => match us, e with | [_, _, _], _ => rfl) (fun vs H Q E s => by obtain ⟨_, _, _, _, _, rfl, _⟩ := s; rfl) ?_
  intro cdv A outer s H vs Q E hr h
  obtain ⟨q, a, r, rows, l, rfl, hRL, ok, hb, hR, hp, hq⟩ := h
  have sc := sc_above
  refine ⟨_, (pss_cons (ps_set (i := 3) sc.nd rfl (Or.inl rfl) (pe_tup (pa_cons pe_str (pa_cons pe_str (pa_cons pe_int pa_nil)))))
      (pss_cons (ps_for (passes_of rfl) rfl (pi_list (pv 0)) (pg_name (i := 4) sc.nd rfl (Or.inl rfl))
        (pss_one (ps_if (pt_cmpR op_eq (pe_ix ix_tup (pv 4) pe_int (fun _ _ => rfl)) pe_int (nomark _))
          (pss_cons (ps_if (pt_cmpR op_lt (pe_callB call_len_seq (by rfl) T.len (by decide +kernel) (pa_cons (pv 2) pa_nil)) pe_int (nomark _))
            (pss_one (ps_set (i := 3) sc.nd rfl (Or.inl rfl) (pe_tup (pa_cons pe_str (pa_cons (pe_op op_catA (pe_tup (pa_cons (pe_ix ix_tup (pv 4) pe_int (fun _ _ => rfl)) pa_nil)) (pv 2)) pa_nil)))))
            pss_nil)
          (pss_one (ps_if (pt_not (pt_val (pe_cal c_law_same hr (pa_cons (pe_cal c_law_planted_met hr (pa_cons (pv 1) (pa_cons (pe_ix ix_tup (pv 4) pe_int (fun _ _ => rfl)) (pa_cons (pe_lst (pa_cons (pv 2) pa_nil)) pa_nil)))) (pa_cons (pv 3) pa_nil)))))
            (pss_one (ps_ret pe_bl))
            pss_nil)))
          pss_nil)))
      (pss_one (ps_ret pe_bl)))), ?_⟩
  have hle := hp.le
  obtain ⟨pr, hL, hpr, hzs⟩ := hRL.pairs
  refine ⟨by show 3 ≤ sizeLine; decide, fun t0 ht0 => ?_⟩
  have s0 := up_same (o := .tup [.str "many", .str "knots", .int 2000]) ht0
  have i0 : Im K (upd H t0 (.tup [.str "many", .str "knots", .int 2000])) (.ref t0) dMany := im_many (SqT.of upd_same)
  refine ⟨_, rfl, q, rfl, ⟨_, SqL.of (s0 _ _ hL)⟩, for_list (K := K) (xs := pr.map fun z => V.ref z.1) (fun _ σ H' => ∃ (dv : V) (t4 : Option V), σ = [some (.ref q), some (.ref a), some (.ref r), some dv, t4] ∧ Same H H' ∧ (2000 ≤ l.length → Im K H' dv dMany))
    ⟨_, none, rfl, s0, fun _ => i0⟩ (fun _ _ _ _ ⟨_, _, _, s, _⟩ => SqL.of (s _ _ hL)) ?_ ?_⟩
  · rintro i v σ H1 hv ⟨dv, t4, rfl, s1, hdv⟩
    obtain ⟨z, hz, rfl⟩ := map_at hv
    have hm := List.mem_of_getElem? hz
    have hmr : z.2 ∈ rows := by rw [← hpr]; exact List.mem_map_of_mem hm
    have hlk := lookup_mem ok.nd hmr
    have har : ar rows z.2.1 = z.2.2 := by unfold ar; rw [hlk]; rfl
    have hik : isK rows z.2.1 = true := by unfold isK; rw [hlk]; rfl
    have tz := Same.sqt s1 (hzs z hm)
    refine ⟨_, rfl, z.1, _, _, _, rfl, rfl, tz, atI_nat (j := 1) rfl, rfl, _, rfl, if_dec (fun c => ?_) (fun c => ?_)⟩
    · have h1 : z.2.2 = 1 := by have := V.int.inj c; omega
      have ef : z.2.1 :: ([l] : List (List Str)).flatten = z.2.1 :: l := by simp
      refine ⟨_, rfl, r, _, rfl, .inr (Same.sqt s1 hR), _, _, rfl, rfl, _, rfl, if_dec (fun c2 => ?_) (fun c2 => ?_)⟩
      · rw [List.length_map] at c2
        refine ⟨_, rfl, z.1, _, _, _, rfl, rfl, tz, atI_nat (j := 0) rfl, by show 1 ≤ sizeLine; decide, fun p1 hp1 => ?_⟩
        have s2 := up_same (o := .tup [.str z.2.1]) hp1
        refine ⟨_, rfl, cat_any (SqT.of upd_same) (Same.sqt (s1.trans s2) hR) (by rw [List.length_map]; show 1 + _ ≤ _; omega) fun p2 H2 s3 t2 => ⟨by show 2 ≤ sizeLine; decide, fun p3 hp3 => ?_⟩⟩
        have s4 := up_same (o := .tup [.str "told", .ref p2]) hp3
        have s14 := s2.trans (s3.trans s4)
        refine ⟨_, rfl, _, rfl, z.1, _, _, _, rfl, rfl, Same.sqt s14 tz, atI_nat (j := 0) rfl, _, rfl, by show 1 ≤ sizeLine; decide, fun pl hpl => ?_⟩
        have s5 := up_same (o := .lst [.ref r]) hpl
        have s15 := s1.trans (s14.trans s5)
        refine ⟨a, pl, z.2.1, rows, [r], [l], rfl, hb.mono (Stay.of s15), hik, upd_same, .cons (Same.sqt s15 hR) .nil, fun m hm => by rw [List.mem_singleton.mp hm]; exact hp, ⟨by rw [har, h1]; rfl, by show 1 ≤ 3; decide⟩, fun c H4 v s6 i4 => ?_, fun c => by rw [ef, List.length_cons] at c; omega⟩
        rw [ef] at i4
        refine ⟨_, rfl, _, _, _, rfl, i4, im_told (Same.sqt (s5.trans s6) (SqT.of upd_same)) (Im.strs (l := z.2.1 :: l) (Same.sqt (s4.trans (s5.trans s6)) t2)), fit_told (by rw [List.length_cons]; omega), _, rfl, iteF ⟨_, _, rfl, s15.trans s6, fun c3 => by omega⟩⟩
      · rw [List.length_map] at c2
        refine ⟨_, rfl, _, rfl, z.1, _, _, _, rfl, rfl, tz, atI_nat (j := 0) rfl, _, rfl, by show 1 ≤ sizeLine; decide, fun pl hpl => ?_⟩
        have s5 := up_same (o := .lst [.ref r]) hpl
        have s15 := s1.trans s5
        refine ⟨a, pl, z.2.1, rows, [r], [l], rfl, hb.mono (Stay.of s15), hik, upd_same, .cons (Same.sqt s15 hR) .nil, fun m hm => by rw [List.mem_singleton.mp hm]; exact hp, ⟨by rw [har, h1]; rfl, by show 1 ≤ 3; decide⟩, fun c => by rw [ef, List.length_cons] at c; omega, fun c H4 v s6 i4 => ?_⟩
        have idv := (hdv (by omega)).mono (Stay.of (s5.trans s6))
        exact ⟨_, rfl, _, _, _, rfl, i4, idv, fit_many, _, rfl, iteF ⟨_, _, rfl, s15.trans s6, fun _ => idv⟩⟩
    · exact ⟨_, _, rfl, s1, hdv⟩
  · rintro σ H1 ⟨dv, t4, rfl, s1, _⟩
    exact hq _ s1
/-! _law_knot_right -/
def spKnot (K : PySem.W.Frag) : Sp := fun vs H Q _ => ∃ (q a r o p : Addr) (rows : List Sy.Row) (l m : List Str) (i : Nat), vs = [.ref q, .ref a, .ref r, .ref o, .int (i : Nat), .int (en (wt rows l) i : Nat), .ref p] ∧ RL K H q rows ∧ RowsOk rows ∧ BedAt K H a rows ∧ SqT K H r (l.map V.str) ∧ SqT K H o (m.map V.str) ∧ Pln rows l ∧ Pln rows m ∧ i < l.length ∧
  SqT K H p (vN ((pths (wt rows l)).getD i [])) ∧ ∀ H', Same H H' → Q (.bl true) H'
abbrev N_knot : List Str := ["_law_rows_here", "_law_bed_here", "_law_plant_here", "_law_other", "_law_place", "_law_behind", "_law_path", "_law_branch", "_law_many", "_law_steps", "_law_step", "_law_whole"]
abbrev P_knot : List Str := ["_law_rows_here", "_law_bed_here", "_law_plant_here", "_law_other", "_law_place", "_law_behind", "_law_path"]
theorem sc_knot : FnScope N_knot P_knot (defScope (top 60)) := ⟨rfl, rfl, rfl, by decide +kernel, rfl, by decide +kernel, by decide +kernel⟩
theorem k_knot (T : Txt K mg) (F : DF K mg "_law_knot_right" 60) (c_law_same : Cal P w K mg base 4 "_law_same" ["_law_told", "_law_due"] (spSame K 3)) (c_branch_at : Cal P w K mg base 5 "branch_at" ["bed", "plant", "path"] (spBrAt K))
    (c_law_replaced_met : Cal P w K mg base 6 "_law_replaced_met" ["_law_bed_here", "_law_plant_here", "_law_path", "_law_other"] (spRMet K)) (c_law_number : Cal P w K mg base 1 "_law_number" ["_law_rows_here", "_law_word_here"] (spNum K))
    (c_law_nowhere : Cal P w K mg base 6 "_law_nowhere" ["_law_bed_here", "_law_plant_here", "_law_path", "_law_other"] (spNow K)) : Cal P w K mg base 7 "_law_knot_right" P_knot (spKnot K) := by
  refine cal_of F.1 F.2 sc_knot (fun _ _ _ _ _ _ us e => match us, e with | [_, _, _, _, _, _, _], _ => rfl) (fun vs H Q E s => by obtain ⟨_, _, _, _, _, _, _, _, _, rfl, _⟩ := s; rfl) ?_
  intro cdv A outer s H vs Q E hr h
  obtain ⟨q, a, r, o, p, rows, l, m, i, rfl, hRL, ok, hb, hR, hO, hp, hpo, hi, hP, hq⟩ := h
  have sc := sc_knot
  have hF := hp.fo
  have hsz := hp.le
  have hwl := wt_len rows l
  have hiw : i < (wt rows l).length := by omega
  have he := hF.en_le hiw
  have hg := en_gt hiw
  have hbr := hp.brn hi
  -- the path
  generalize hpa : (pths (wt rows l)).getD i [] = pa at *
  have hpl : pl (wt rows l) 0 pa = some i := by rw [← hpa]; exact pl_pths hF i hiw
  have hplen : pa.length ≤ 2000 := by
    have := pths_le (wt rows l) i
    rw [hpa] at this
    omega
  generalize hzs : pa.map (fun n : Nat => (n : Int)) = zs at *
  have ezs : vN pa = zs.map V.int := by rw [← hzs, List.map_map]; rfl
  rw [ezs] at hP
  have hz0 : zs.length ≤ 2000 := by rw [← hzs, List.length_map]; exact hplen
  have hpz : pz (wt rows l) 0 zs = some i := by rw [← hzs, pz_pl]; exact hpl
  have hsm : ∀ y ∈ zs, -1 ≤ y ∧ y ≤ 4 := fun y hy => by
    rw [← hzs] at hy
    obtain ⟨k, hk, rfl⟩ := List.mem_map.mp hy
    have := pl_small (aw_le3 ok l) pa 0 i hpl k hk
    omega
  have hlg : ∀ y ∈ zs, y.natAbs.log2 < 1920 := fun y hy => log_small (hsm y hy)
  obtain ⟨y, hy⟩ : ∃ y, l[i]? = some y := ⟨_, List.getElem?_eq_getElem hi⟩
  have eaw : aw (wt rows l) i = ar rows y := wt_at hy
  have hnum : numb rows y = (ar rows y : Nat) := numb_ar (hp.kn y (List.mem_of_getElem? hy))
  have h3 := aw_le3 ok l i
  -- from the steps on
  have tail : ∃ t, PSs (cxOf (L2.CX P w) P w K mg base N_knot "_law_knot_right" (defScope (top 60)) (He.ga K "_law_knot_right") cdv A outer s H E) ((defBody (top 60)).drop 6) t ∧
      ∀ (D : Ends) (H1 : Hp) (s8 : Option V) (ps : List Int) (pb d9 : Addr), D.rt = Q → Same H H1 → SqT K H1 pb ((brn (wt rows l) l i).map V.str) → H1 d9 = some (.lst (ps.map V.int)) → (∀ k ∈ ps, -1 ≤ k ∧ k ≤ 4 ∧ ¬ (0 ≤ k ∧ k < (aw (wt rows l) i : Nat))) →
        t D [some (.ref q), some (.ref a), some (.ref r), some (.ref o), some (.int (i : Nat)), some (.int (en (wt rows l) i : Nat)), some (.ref p), some (.ref pb), s8, some (.ref d9), none, none] H1 := by
    refine ⟨_, (pss_cons (ps_for (passes_of rfl) rfl (pi_list (pv 9)) (pg_name (i := 10) sc.nd rfl (Or.inl rfl))
        (pss_cons (ps_if (pt_not (pt_val (pe_cal c_law_nowhere hr (pa_cons (pv 1) (pa_cons (pv 2) (pa_cons (pe_op op_catA (pv 6) (pe_tup (pa_cons (pv 10) pa_nil))) (pa_cons (pv 3) pa_nil)))))))
          (pss_one (ps_ret pe_bl))
          pss_nil)
        (pss_one (ps_if (pt_not (pt_val (pe_cal c_law_nowhere hr (pa_cons (pv 1) (pa_cons (pv 2) (pa_cons (pe_op op_catA (pv 6) (pe_tup (pa_cons (pv 10) (pa_cons pe_int pa_nil)))) (pa_cons (pv 3) pa_nil)))))))
          (pss_one (ps_ret pe_bl))
          pss_nil))))
      (pss_cons (ps_set (i := 11) sc.nd rfl (Or.inl rfl) (pe_op op_catA (pe_op op_catA (pe_slice sl_tupA (pv 2) po_none (po_some (pv 4))) (pv 3)) (pe_slice sl_tupA (pv 2) (po_some (pv 5)) po_none)))
      (pss_cons (ps_if (pt_cmpR op_gt (pe_callB call_len_seq (by rfl) T.len (by decide +kernel) (pa_cons (pv 11) pa_nil)) pe_int (nomark _))
        (pss_one (ps_ret (pe_cal c_law_same hr (pa_cons (pe_cal c_law_replaced_met hr (pa_cons (pv 1) (pa_cons (pv 2) (pa_cons (pv 6) (pa_cons (pv 3) pa_nil))))) (pa_cons (pe_tup (pa_cons pe_str (pa_cons pe_str (pa_cons pe_int pa_nil)))) pa_nil)))))
        pss_nil)
      (pss_cons (ps_if (pt_not (pt_val (pe_cal c_law_same hr (pa_cons (pe_cal c_law_replaced_met hr (pa_cons (pv 1) (pa_cons (pv 2) (pa_cons (pv 6) (pa_cons (pv 3) pa_nil))))) (pa_cons (pe_tup (pa_cons pe_str (pa_cons (pv 11) pa_nil))) pa_nil)))))
        (pss_one (ps_ret pe_bl))
        pss_nil)
      (pss_cons (ps_if (pt_not (pt_val (pe_cal c_law_same hr (pa_cons (pe_calX c_branch_at hr (takes_of rfl rfl rfl rfl) (pa_cons (pv 1) (pa_cons (pv 11) (pa_cons (pv 6) pa_nil)))) (pa_cons (pv 3) pa_nil)))))
        (pss_one (ps_ret pe_bl))
        pss_nil)
      (pss_one (ps_ret (pe_cal c_law_same hr (pa_cons (pe_cal c_law_replaced_met hr (pa_cons (pv 1) (pa_cons (pv 11) (pa_cons (pv 6) (pa_cons (pv 7) pa_nil))))) (pa_cons (pe_tup (pa_cons pe_str (pa_cons (pv 2) pa_nil))) pa_nil)))))))))), ?_⟩
    intro D H1 s8 ps pb d9 hD s1 hpb h9 hps
    refine ⟨_, rfl, d9, rfl, ⟨_, SqL.of h9⟩, for_list (K := K) (xs := ps.map V.int) (fun _ σ H' => ∃ (s10 : Option V), σ = [some (.ref q), some (.ref a), some (.ref r), some (.ref o), some (.int (i : Nat)), some (.int (en (wt rows l) i : Nat)), some (.ref p), some (.ref pb), s8, some (.ref d9), s10, none] ∧ Same H1 H')
      ⟨none, rfl, Same.refl _⟩ (fun _ _ _ _ ⟨_, _, s⟩ => SqL.of (s _ _ h9)) ?_ ?_⟩
    · rintro j v σ H2 hv ⟨s10, rfl, s2⟩
      obtain ⟨k, hk, rfl⟩ := map_at hv
      obtain ⟨k1, k2, k3⟩ := hps k (List.mem_of_getElem? hk)
      have s12 := s1.trans s2
      have sm : ∀ y ∈ zs ++ [k], y.natAbs.log2 < 1920 := fun y hy => by
        rcases List.mem_append.mp hy with hy | hy
        · exact hlg y hy
        · rw [List.mem_singleton.mp hy]; exact log_small ⟨k1, k2⟩
      have sm2 : ∀ y ∈ zs ++ [k, 0], y.natAbs.log2 < 1920 := fun y hy => by
        rcases List.mem_append.mp hy with hy | hy
        · exact hlg y hy
        · rcases List.mem_cons.mp hy with rfl | hy
          · exact log_small ⟨k1, k2⟩
          · rw [List.mem_singleton.mp hy]; exact log_small ⟨by decide, by decide⟩
      refine ⟨_, rfl, _, rfl, _, rfl, _, rfl, by show 1 ≤ sizeLine; decide, fun p1 hp1 => ?_⟩
      have s3 := up_same (o := .tup [.int k]) hp1
      refine cat_any (Same.sqt (s12.trans s3) hP) (SqT.of upd_same) (by rw [List.length_map]; show _ + 1 ≤ _; omega) fun p2 H3 s4 t2 => ?_
      have s14 := (s12.trans s3).trans s4
      refine ⟨_, rfl, a, r, p2, o, rows, l, m, zs ++ [k], rfl, hb.mono (Stay.of s14), Same.sqt s14 hR, by rw [List.map_append]; exact t2, Same.sqt s14 hO, hp, hpo, by rw [List.length_append]; show _ + 1 ≤ _; omega, sm, pz_no hpz k3, fun H4 s5 => ⟨_, rfl, iteF ?_⟩⟩
      have s15 := s14.trans s5
      refine ⟨_, rfl, _, rfl, _, rfl, _, rfl, by show 2 ≤ sizeLine; decide, fun p5 hp5 => ?_⟩
      have s6 := up_same (o := .tup [.int k, .int 0]) hp5
      refine cat_any (Same.sqt (s15.trans s6) hP) (SqT.of upd_same) (by rw [List.length_map]; show _ + 2 ≤ _; omega) fun p6 H6 s7 t6 => ?_
      have s17 := (s15.trans s6).trans s7
      refine ⟨_, rfl, a, r, p6, o, rows, l, m, zs ++ [k, 0], rfl, hb.mono (Stay.of s17), Same.sqt s17 hR, by rw [List.map_append]; exact t6, Same.sqt s17 hO, hp, hpo, by rw [List.length_append]; show _ + 2 ≤ _; omega, sm2, pz_no hpz k3, fun H7 s8' => ⟨_, rfl, iteF ⟨_, rfl, s2.trans (s3.trans (s4.trans (s5.trans (s6.trans (s7.trans s8'))))) ⟩⟩⟩
    · rintro σ H2 ⟨s10, rfl, s2⟩
      have s12 := s1.trans s2
      refine ⟨_, rfl, _, rfl, _, rfl, sl_any (cut_take (by rw [List.length_map]; omega)) (Same.sqt s12 hR) fun p1 H3 s3 t1 => ?_⟩
      have s13 := s12.trans s3
      refine ⟨_, rfl, cat_any t1 (Same.sqt s13 hO) (by rw [List.length_take, List.length_map, List.length_map]; have := hpo.le; omega) fun p2 H4 s4 t2 => ?_⟩
      have s14 := s13.trans s4
      refine ⟨_, rfl, _, rfl, _, rfl, ?_⟩
      dsimp only [tNoPart]
      refine sl_any (cut_drop (by rw [List.length_map]; omega)) (Same.sqt s14 hR) fun p3 H5 s5 t3 => ?_
      refine cat_any (Same.sqt s5 t2) t3 (by rw [List.length_append, List.length_take, List.length_map, List.length_map, List.length_drop, List.length_map]; have := hpo.le; omega) fun pw H6 s6 t6 => ?_
      have s16 := (s14.trans s5).trans s6
      have s26 := ((s2.trans s3).trans (s4.trans s5)).trans s6
      have ew : (l.map V.str).take i ++ m.map V.str ++ (l.map V.str).drop (en (wt rows l) i) = (rep (wt rows l) l m i).map V.str := by
        unfold rep
        rw [List.map_append, List.map_append, List.map_take, List.map_drop]
      rw [ew] at t6
      have hbig : (rep (wt rows l) l m i).length ≤ 10000 := by
        unfold rep
        rw [List.length_append, List.length_append, List.length_take, List.length_drop]
        have := hpo.le
        omega
      refine ⟨_, rfl, pw, _, rfl, .inr t6, _, _, rfl, rfl, _, rfl, if_dec (fun c => ?_) (fun c => ?_)⟩
      · rw [List.length_map] at c
        refine ⟨_, rfl, _, rfl, _, rfl, _, rfl, a, r, p, o, rows, l, m, zs, i, rfl, hb.mono (Stay.of s16), Same.sqt s16 hR, Same.sqt s16 hP, Same.sqt s16 hO, hp, hpo, by omega, hlg, hpz, fun c2 => by omega, fun _ H7 v s7 iv => ⟨by show 3 ≤ sizeLine; decide, fun t8 ht8 => ?_⟩⟩
        have s8' := up_same (o := .tup [.str "many", .str "knots", .int 2000]) ht8
        refine ⟨_, _, _, rfl, iv.mono (Stay.of s8'), im_many (SqT.of upd_same), fit_many, ?_⟩
        rw [hD]
        exact hq _ ((s16.trans s7).trans s8')
      · rw [List.length_map] at c
        have hz : (rep (wt rows l) l m i).length ≤ 2000 := by omega
        have hpw := rep_pln hp hpo hi hz
        refine ⟨_, rfl, _, rfl, _, rfl, _, rfl, a, r, p, o, rows, l, m, zs, i, rfl, hb.mono (Stay.of s16), Same.sqt s16 hR, Same.sqt s16 hP, Same.sqt s16 hO, hp, hpo, by omega, hlg, hpz, fun _ H7 v s7 iv => ⟨_, rfl, by show 2 ≤ sizeLine; decide, fun t8 ht8 => ?_⟩, fun c2 => by omega⟩
        have s8' := up_same (o := .tup [.str "told", .ref pw]) ht8
        have s78 := s7.trans s8'
        refine ⟨_, _, _, rfl, iv.mono (Stay.of s8'), im_told (SqT.of upd_same) (Im.strs (Same.sqt s78 t6)), fit_told (by omega), _, rfl, iteF ?_⟩
        have s18 := s16.trans s78
        have tw := Same.sqt s78 t6
        have hpzw : pz (wt rows (rep (wt rows l) l m i)) 0 zs = some i := by
          rw [← hzs, pz_pl]
          exact rep_path hp hpo hi hz hpl
        have hiwl := rep_lt hp hpo hi hz
        refine ⟨_, rfl, _, rfl, _, rfl, a, pw, p, rows, _, zs, rfl, hb.mono (Stay.of s18), tw, Same.sqt s18 hP, hpw, by omega, hlg, fun j hj H9 v9 s9 iv9 => ?_, fun c2 => by (rw [c2] at hpzw; cases hpzw)⟩
        rw [hpzw] at hj
        cases hj
        rw [rep_brn hp hpo hi hz] at iv9
        have s19 := s18.trans s9
        refine ⟨_, rfl, _, _, _, rfl, iv9, Im.strs (Same.sqt s19 hO), fit_DS (by have := hpo.le; omega) 2, _, rfl, iteF ?_⟩
        refine ⟨_, rfl, _, rfl, _, rfl, _, rfl, a, pw, p, pb, rows, _, _, zs, i, rfl, hb.mono (Stay.of s19), Same.sqt s9 tw, Same.sqt s19 hP, Same.sqt (s26.trans (s78.trans s9)) hpb, hpw, hbr, by omega, hlg, hpzw, fun _ H10 v10 s10' iv10 => ⟨_, rfl, by show 2 ≤ sizeLine; decide, fun t11 ht11 => ?_⟩, fun c2 => ?_⟩
        · rw [rep_rep hp hpo hi hz hbr] at iv10
          have s11 := up_same (o := .tup [.str "told", .ref r]) ht11
          have s111 := (s19.trans s10').trans s11
          refine ⟨_, _, _, rfl, iv10.mono (Stay.of s11), im_told (SqT.of upd_same) (Im.strs (Same.sqt s111 hR)), fit_told (by omega), ?_⟩
          rw [hD]
          exact hq _ s111
        · rw [rep_rep hp hpo hi hz hbr] at c2
          omega
  obtain ⟨tT, pT, hT⟩ := tail
  refine ⟨_, (pss_cons (ps_set (i := 7) sc.nd rfl (Or.inl rfl) (pe_slice sl_tupA (pv 2) (po_some (pv 4)) (po_some (pv 5))))
      (pss_cons (ps_if (pt_not (pt_val (pe_cal c_law_same hr (pa_cons (pe_calX c_branch_at hr (takes_of rfl rfl rfl rfl) (pa_cons (pv 1) (pa_cons (pv 2) (pa_cons (pv 6) pa_nil)))) (pa_cons (pv 7) pa_nil)))))
        (pss_one (ps_ret pe_bl))
        pss_nil)
      (pss_cons (ps_if (pt_not (pt_val (pe_cal c_law_same hr (pa_cons (pe_cal c_law_replaced_met hr (pa_cons (pv 1) (pa_cons (pv 2) (pa_cons (pv 6) (pa_cons (pv 7) pa_nil))))) (pa_cons (pe_tup (pa_cons pe_str (pa_cons (pv 2) pa_nil))) pa_nil)))))
        (pss_one (ps_ret pe_bl))
        pss_nil)
      (pss_cons (ps_set (i := 8) sc.nd rfl (Or.inl rfl) (pe_cal c_law_number hr (pa_cons (pv 0) (pa_cons (pe_ix ix_tup (pv 2) (pv 4) (fun _ _ => rfl)) pa_nil))))
      (pss_cons (ps_set (i := 9) sc.nd rfl (Or.inl rfl) (pe_lst (pa_cons (pv 8) (pa_cons (pe_op op_sub pe_int pe_int) (pa_cons (pe_op op_add (pv 8) pe_int) pa_nil)))))
      (pss_cons (ps_if (pt_cmpR op_gt (pe_callB call_len_seq (by rfl) T.len (by decide +kernel) (pa_cons (pv 2) pa_nil)) pe_int (nomark _))
        (pss_one (ps_set (i := 9) sc.nd rfl (Or.inl rfl) (pe_lst (pa_cons (pv 8) pa_nil))))
        pss_nil)
      pT)))))), ?_⟩
  refine ⟨_, rfl, _, rfl, _, rfl, _, rfl, _, rfl, sl_any (cut_mid (by omega) (by rw [List.length_map]; omega)) hR fun pb H1 s1 tb => ?_⟩
  have tb : SqT K H1 pb ((brn (wt rows l) l i).map V.str) := by
    unfold brn
    rw [List.map_take, List.map_drop]
    exact tb
  refine ⟨_, rfl, _, rfl, _, rfl, a, r, p, rows, l, zs, rfl, hb.mono (Stay.of s1), Same.sqt s1 hR, Same.sqt s1 hP, hp, by omega, hlg, fun j hj H2 v2 s2 iv2 => ?_, fun c2 => by (rw [c2] at hpz; cases hpz)⟩
  rw [hpz] at hj
  cases hj
  have s12 := s1.trans s2
  have hbl := hbr.le
  refine ⟨_, rfl, _, _, _, rfl, iv2, Im.strs (Same.sqt s2 tb), fit_DS (by omega) 2, _, rfl, iteF ?_⟩
  have hrs : rep (wt rows l) l (brn (wt rows l) l i) i = l := rep_same hp hi
  refine ⟨_, rfl, _, rfl, _, rfl, _, rfl, a, r, p, pb, rows, l, _, zs, i, rfl, hb.mono (Stay.of s12), Same.sqt s12 hR, Same.sqt s12 hP, Same.sqt s2 tb, hp, hbr, by omega, hlg, hpz, fun _ H3 v3 s3 iv3 => ⟨_, rfl, by show 2 ≤ sizeLine; decide, fun t4 ht4 => ?_⟩, fun c2 => by (rw [hrs] at c2; omega)⟩
  rw [hrs] at iv3
  have s4 := up_same (o := .tup [.str "told", .ref r]) ht4
  have s14 := (s12.trans s3).trans s4
  refine ⟨_, _, _, rfl, iv3.mono (Stay.of s4), im_told (SqT.of upd_same) (Im.strs (Same.sqt s14 hR)), fit_told (by omega), _, rfl, iteF ?_⟩
  refine ⟨_, rfl, _, rfl, _, rfl, r, _, _, _, rfl, rfl, Same.sqt s14 hR, atI_nat (by rw [List.getElem?_map, hy]; rfl), q, rows, y, rfl, hRL.mono s14, ?_⟩
  rw [hnum, ← eaw]
  refine ⟨_, rfl, _, _, rfl, rfl, _, rfl, _, _, rfl, rfl, by show 3 ≤ sizeLine; decide, fun d9 hd9 => ?_⟩
  have s9 := up_same (o := .lst [.int (aw (wt rows l) i : Nat), .int (0 - 1), .int ((aw (wt rows l) i : Nat) + 1)]) hd9
  have s19 := s14.trans s9
  have tb9 := Same.sqt ((s2.trans s3).trans (s4.trans s9)) tb
  refine ⟨_, rfl, r, _, rfl, .inr (Same.sqt s19 hR), _, _, rfl, rfl, _, rfl, if_dec (fun c => ?_) (fun c => ?_)⟩
  · refine ⟨_, rfl, by show 1 ≤ sizeLine; decide, fun d10 hd10 => ?_⟩
    have s10 := up_same (o := .lst [.int (aw (wt rows l) i : Nat)]) hd10
    refine hT _ _ _ [((aw (wt rows l) i : Nat) : Int)] pb d10 rfl (s19.trans s10) (Same.sqt s10 tb9) upd_same fun k hk => ?_
    rw [List.mem_singleton.mp hk]
    omega
  · refine hT _ _ _ [((aw (wt rows l) i : Nat) : Int), 0 - 1, ((aw (wt rows l) i : Nat) : Int) + 1] pb d9 rfl s19 tb9 upd_same fun k hk => ?_
    rcases List.mem_cons.mp hk with rfl | hk
    · omega
    rcases List.mem_cons.mp hk with rfl | hk
    · omega
    · rw [List.mem_singleton.mp hk]
      omega
end
end Sy
namespace Sy
open PySem PySem.Spec PyProof.Rows L2
theorem Dr.stay {g : Addr} {H H' : Hp} (b : Bag g H) (d : Dr g H H') : Stay H H' := by
  obtain ⟨l, _, e⟩ := b
  obtain ⟨m, _, c⟩ := d
  exact Chg.stay c e
theorem Dr.at_ {g a : Addr} {H H' : Hp} {w : HO} (d : Dr g H H') (n : a ≠ g) (e : H a = some w) : H' a = some w := by
  obtain ⟨m, _, c⟩ := d
  exact c.2 a w n e
theorem RL.dr {K : PySem.W.Frag} {H H' : Hp} {q g : Addr} {rows : List Sy.Row} (h : RL K H q rows) (b : Bag g H) (n : q ≠ g) (d : Dr g H H') : RL K H' q rows := by
  obtain ⟨ps, h1, h2⟩ := h
  exact ⟨ps, d.at_ n h1, Paired.mapP h2 fun _ _ z => (Dr.stay b d).sqt z⟩
theorem Bag.mono {g : Addr} {H H' : Hp} (b : Bag g H) (s : Same H H') : Bag g H' := by
  obtain ⟨l, hl, e⟩ := b
  exact ⟨l, hl, s _ _ e⟩
/-- what the law has made -/
structure Fx (K : PySem.W.Frag) (H : Hp) (q a r o e : Addr) (fv : V) (rows : List Sy.Row) (l m : List Str) : Prop where
  rl : RL K H q rows
  bed : BedAt K H a rows
  pl : SqT K H r (l.map V.str)
  nd : NoD H r
  ot : SqT K H o (m.map V.str)
  en_ : H e = some (.lst (vN (ens (wt rows l))))
  fo : Im K H fv (dPaths (wt rows l))
theorem Fx.mono {K : PySem.W.Frag} {H H' : Hp} {q a r o e : Addr} {fv : V} {rows : List Sy.Row} {l m : List Str} (f : Fx K H q a r o e fv rows l m) (s : Same H H') : Fx K H' q a r o e fv rows l m :=
  ⟨f.rl.mono s, f.bed.mono (Stay.of s), Same.sqt s f.pl, f.nd.mono (Stay.of s), Same.sqt s f.ot, s _ _ f.en_, f.fo.mono (Stay.of s)⟩
theorem Fx.del {K : PySem.W.Frag} {H : Hp} {q a r o e g : Addr} {fv : V} {rows : List Sy.Row} {l m : List Str} {ys : List V} (f : Fx K H q a r o e fv rows l m) (hg : H g = some (.lst ys)) (n1 : q ≠ g) (n2 : e ≠ g) : Fx K (L2.del H g) q a r o e fv rows l m :=
  ⟨f.rl.del n1 hg, f.bed.mono (stay_del hg), (stay_del hg).sqt f.pl, f.nd.mono (stay_del hg), (stay_del hg).sqt f.ot, by rw [del_ne n2]; exact f.en_, f.fo.mono (stay_del hg)⟩
section
variable {P : Program} {w : World} {K : PySem.W.Frag} {mg : Str → Option Value} {base : Heap}
def spLaw (K : PySem.W.Frag) : Sp := fun vs H Q _ => ∃ (s : Addr) (zs : List Int), vs = [.ref s] ∧ SqL K H s (zs.map V.int) ∧ zs.length ≤ 100000 ∧ ∀ H', Q (.bl true) H'
abbrev N_law : List Str := ["_law_script", "_law_bag_here", "_law_rows_here", "_law_bed_here", "_law_plant_here", "_law_other", "_law_ends_here", "_law_found", "_law_place", "_law_asked", "_law_k"]
theorem sc_law : FnScope N_law ["_law_script"] (defScope (top 61)) := ⟨rfl, rfl, rfl, by decide +kernel, rfl, by decide +kernel, by decide +kernel⟩
theorem k_law (T : Txt K mg) {fd : FuncData} (F : FunD K "law" "law" (defArgs (top 61)) (defBody (top 61)) (defScope (top 61)) [] [] (He.ga K "law") fd) (c_law_bag : Cal P w K mg base 1 "_law_bag" ["_law_script"] (spBag K)) (c_law_rows : Cal P w K mg base 4 "_law_rows" ["_law_bag_here", "_law_most"] (spRows K)) (c_law_bed : Cal P w K mg base 5 "_law_bed" ["_law_rows_here"] (spBed K))
    (c_law_some_plant : Cal P w K mg base 3 "_law_some_plant" ["_law_bag_here", "_law_rows_here"] (spLong K)) (c_law_plant : Cal P w K mg base 2 "_law_plant" ["_law_bag_here", "_law_rows_here", "_law_most", "_law_with_holes"] (spPlantL K)) (c_law_draw : Cal P w K mg base 1 "_law_draw" ["_law_bag_here", "_law_size"] spDraw)
    (c_law_ends : Cal P w K mg base 2 "_law_ends" ["_law_rows_here", "_law_plant_here"] (spEnds K)) (c_law_paths : Cal P w K mg base 2 "_law_paths" ["_law_rows_here", "_law_plant_here", "_law_ends_here"] (spPathsL K)) (c_law_whole_right : Cal P w K mg base 8 "_law_whole_right" P_whole (spWhole K))
    (c_law_above_right : Cal P w K mg base 8 "_law_above_right" ["_law_rows_here", "_law_bed_here", "_law_plant_here"] (spAbove K)) (c_law_knot_right : Cal P w K mg base 7 "_law_knot_right" P_knot (spKnot K)) : FnOk P w K mg base (L2.CX P w) (8 + 1) (He.ga K "law") fd ["_law_script"] (spLaw K) := by
  refine F.ok sc_law (fun vs H Q E s => by obtain ⟨_, _, rfl, _⟩ := s; rfl) ?_
  intro cdv A outer s H vs Q E hr h
  obtain ⟨sa, zs, rfl, hs, hzl, hq⟩ := h
  have sc := sc_law
  have tail : ∃ t, PSs (cxOf (L2.CX P w) P w K mg base N_law "law" (defScope (top 61)) (He.ga K "law") cdv A outer s H E) ((defBody (top 61)).drop 10) t ∧
      ∀ (D : Ends) (H9 : Hp) (g q a r o e d9 : Addr) (fv : V) (rows : List Sy.Row) (l m : List Str) (ks : List Nat), D.rt = Q → RowsOk rows → Pln rows l → Pln rows m → Fx K H9 q a r o e fv rows l m → H9 d9 = some (.lst (vN ks)) → (∀ k ∈ ks, k < l.length) →
        t D [some (.ref sa), some (.ref g), some (.ref q), some (.ref a), some (.ref r), some (.ref o), some (.ref e), some fv, none, some (.ref d9), none] H9 := by
    refine ⟨_, (pss_cons (ps_for (passes_of rfl) rfl (pi_list (pv 9)) (pg_name (i := 8) sc.nd rfl (Or.inl rfl))
        (pss_one (ps_if (pt_not (pt_val (pe_cal c_law_knot_right hr (pa_cons (pv 2) (pa_cons (pv 3) (pa_cons (pv 4) (pa_cons (pv 5) (pa_cons (pv 8) (pa_cons (pe_ix ix_list (pv 6) (pv 8) (fun _ _ => rfl)) (pa_cons (pe_ix ix_tup (pv 7) (pv 8) (fun _ _ => rfl)) pa_nil))))))))))
          (pss_one (ps_ret pe_bl))
          pss_nil)))
      (pss_one (ps_ret pe_bl))), ?_⟩
    intro D H9 g q a r o e d9 fv rows l m ks hD ok hp hpo fx h9 hks
    refine ⟨_, rfl, d9, rfl, ⟨_, SqL.of h9⟩, for_list (K := K) (xs := vN ks) (fun _ σ H' => ∃ s8 : Option V, σ = [some (.ref sa), some (.ref g), some (.ref q), some (.ref a), some (.ref r), some (.ref o), some (.ref e), some fv, s8, some (.ref d9), none] ∧ Same H9 H') ⟨none, rfl, Same.refl _⟩ (fun _ _ _ _ ⟨_, _, s⟩ => SqL.of (s _ _ h9)) ?_ ?_⟩
    · rintro j v σ H2 hv ⟨s8, rfl, s2⟩
      obtain ⟨i, hi, rfl⟩ := map_at hv
      have hil := hks i (List.mem_of_getElem? hi)
      have hwl := wt_len rows l
      have f2 := fx.mono s2
      obtain ⟨fa, fs, rfl, ft, fi⟩ := f2.fo.tupI
      obtain ⟨p, ep⟩ : ∃ p, (pths (wt rows l))[i]? = some p := ⟨_, List.getElem?_eq_getElem (by rw [pths_len]; omega)⟩
      obtain ⟨u, eu, iu⟩ := fi.get (i := i) (d := DN p) (by rw [List.getElem?_map, ep]; rfl)
      obtain ⟨pa, rfl, pt⟩ := iu.natsI
      have egd : (pths (wt rows l)).getD i [] = p := by rw [List.getD_eq_getElem?_getD, ep]; rfl
      refine ⟨_, rfl, _, rfl, _, rfl, _, rfl, _, rfl, _, rfl, _, rfl, e, _, _, _, rfl, rfl, SqL.of f2.en_, atI_nat (vN_at (ens_at (by omega))), _, rfl, _, rfl, fa, _, _, _, rfl, rfl, ft, atI_nat eu, q, a, r, o, pa, rows, l, m, i, rfl, f2.rl, ok, f2.bed, f2.pl, f2.ot, hp, hpo, hil, by rw [egd]; exact pt, fun H3 s3 => ⟨_, rfl, iteF ⟨_, rfl, s2.trans s3⟩⟩⟩
    · rintro σ H2 ⟨s8, rfl, s2⟩
      show D.rt (.bl true) H2
      rw [hD]
      exact hq _
  obtain ⟨tT, pT, hT⟩ := tail
  refine ⟨_, (pss_cons (ps_set (i := 1) sc.nd rfl (Or.inr rfl) (pe_cal c_law_bag hr (pa_cons (pv 0) pa_nil)))
      (pss_cons (ps_set (i := 2) sc.nd rfl (Or.inl rfl) (pe_cal c_law_rows hr (pa_cons (pv 1) (pa_cons pe_int pa_nil))))
      (pss_cons (ps_set (i := 3) sc.nd rfl (Or.inl rfl) (pe_cal c_law_bed hr (pa_cons (pv 2) pa_nil)))
      (pss_cons (ps_set (i := 4) sc.nd rfl (Or.inr rfl) (pe_cal c_law_some_plant hr (pa_cons (pv 1) (pa_cons (pv 2) pa_nil))))
      (pss_cons (ps_set (i := 5) sc.nd rfl (Or.inl rfl) (pe_cal c_law_plant hr (pa_cons (pv 1) (pa_cons (pv 2) (pa_cons (pe_op op_add pe_int (pe_cal c_law_draw hr (pa_cons (pv 1) (pa_cons pe_int pa_nil)))) (pa_cons pe_bl pa_nil))))))
      (pss_cons (ps_set (i := 6) sc.nd rfl (Or.inl rfl) (pe_cal c_law_ends hr (pa_cons (pv 2) (pa_cons (pv 4) pa_nil))))
      (pss_cons (ps_set (i := 7) sc.nd rfl (Or.inl rfl) (pe_cal c_law_paths hr (pa_cons (pv 2) (pa_cons (pv 4) (pa_cons (pv 6) pa_nil)))))
      (pss_cons (ps_if (PW.pt (pw_or (pt_not (pt_val (pe_cal c_law_whole_right hr (pa_cons (pv 2) (pa_cons (pv 3) (pa_cons (pv 4) (pa_cons (pv 6) (pa_cons (pv 7) pa_nil)))))))) (pw_or1 (pt_not (pt_val (pe_cal c_law_above_right hr (pa_cons (pv 2) (pa_cons (pv 3) (pa_cons (pv 4) pa_nil)))))))))
        (pss_one (ps_ret pe_bl))
        pss_nil)
      (pss_cons (ps_setLc (i := 9) (own := [("_law_place", 8)]) (g := gName 8) rfl sc.nd rfl rfl (sw_true rfl rfl rfl (by decide +kernel)) (pi_range1 rfl T.range (pa_cons (pe_callB call_len_seq (by rfl) T.len (by decide +kernel) (pa_cons (pv 4) pa_nil)) pa_nil)) (blkOk_by (N := N_law) (sc := defScope (top 61)) (by decide +kernel)) (fun _ _ _ _ _ => (pg_name (i := 8) sc.nd rfl (Or.inl rfl))) (fun _ _ _ _ _ => pts_nil) (fun _ _ _ _ _ => (pv 8)))
      (pss_cons (ps_if (pt_cmpR op_gt (pe_callB call_len_seq (by rfl) T.len (by decide +kernel) (pa_cons (pv 4) pa_nil)) pe_int (nomark _))
        (pss_one (ps_setLc (i := 9) (own := [("_law_k", 10)]) (g := gName 10) (te := tCallS spDraw (fun _ => E0) (tCons (tVar 1) (tCons (tCB (fun xs H Q => ∃ p ys, xs = [.ref p] ∧ (SqL K H p ys ∨ SqT K H p ys) ∧ Q (.int (ys.length : Nat)) H) (tCons (tVar 4) tNil)) tNil))) rfl sc.nd rfl rfl (sw_true rfl rfl rfl (by decide +kernel)) (pi_range1 rfl T.range (pa_cons pe_int pa_nil)) (blkOk_by (N := N_law) (sc := defScope (top 61)) (by decide +kernel)) (fun _ _ _ _ _ => (pg_name (i := 10) sc.nd rfl (Or.inl rfl))) (fun _ _ _ _ _ => pts_nil) (fun _ _ _ _ _ => (pe_cal c_law_draw hr (pa_cons (pv 1) (pa_cons (pe_callB call_len_seq (by rfl) T.len (by decide +kernel) (pa_cons (pv 4) pa_nil)) pa_nil))))))
        pss_nil)
      pT)))))))))), ?_⟩
  refine ⟨_, rfl, sa, zs, rfl, hs, hzl, fun g H1 hgn s1 bg1 => ?_⟩
  refine ⟨_, rfl, g, 6, rfl, bg1, by decide, by decide, fun q ps rows H2 hrw d2 hqg hq2 hpd => ?_⟩
  have rl2 : RL K H2 q rows := ⟨ps, hq2, hpd⟩
  have ok := hrw.ok
  have bg2 := d2.bag
  refine ⟨_, rfl, q, rows, rfl, rl2, ok, hrw.pos, fun H3 a s3 hb3 => ?_⟩
  have bg3 := bg2.mono s3
  have rl3 := rl2.mono s3
  refine ⟨_, rfl, _, rfl, g, q, rows, rfl, bg3, hqg, rl3, ok, fun l r H4 hp d4 t4 nd4 => ?_⟩
  have bg4 := d4.bag
  have rl4 := rl3.dr bg3 hqg d4
  have hb4 := hb3.mono (Dr.stay bg3 d4)
  refine ⟨_, rfl, _, rfl, _, rfl, g, 7, rfl, bg4, by decide, by decide, fun n7 H5 hn7 d5 => ?_⟩
  have bg5 := d5.bag
  have st5 := Dr.stay bg4 d5
  have rl5 := rl4.dr bg4 hqg d5
  refine ⟨_, _, rfl, rfl, g, q, n7 + 1, rows, by show [V.ref g, V.ref q, V.int (1 + (n7 : Nat)), V.bl false] = _; rw [show (1 : Int) + (n7 : Nat) = ((n7 + 1 : Nat) : Int) by omega], bg5, hqg, rl5, ok, by omega, by omega, fun m o H6 hpo _ d6 t6 _ => ?_⟩
  have bg6 := d6.bag
  have st6 := Dr.stay bg5 d6
  have rl6 := rl5.dr bg5 hqg d6
  have hb6 := (hb4.mono st5).mono st6
  have tl6 := st6.sqt (st5.sqt t4)
  have nd6 := (nd4.mono st5).mono st6
  refine ⟨_, rfl, _, rfl, q, r, rows, l, rfl, rl6, tl6, hp, fun H7 e hen s7 he7 => ?_⟩
  have neg : e ≠ g := fun z => by
    obtain ⟨_, _, c⟩ := bg6
    rw [z, c] at hen
    cases hen
  refine ⟨_, rfl, _, rfl, _, rfl, q, r, e, rows, l, rfl, rl6.mono s7, Same.sqt s7 tl6, he7, hp, fun H8 fv s8 if8 => ?_⟩
  have s78 := s7.trans s8
  have f8 : Fx K H8 q a r o e fv rows l m := ⟨rl6.mono s78, hb6.mono (Stay.of s78), Same.sqt s78 tl6, nd6.mono (Stay.of s78), Same.sqt s78 t6, s8 _ _ he7, if8⟩
  have bg8 := bg6.mono s78
  refine ⟨_, rfl, _, rfl, _, rfl, _, rfl, _, rfl, q, a, r, e, fv, rows, l, rfl, f8.rl, ok, f8.bed, f8.pl, f8.nd, hp, f8.en_, f8.fo, fun H9 s9 => ⟨_, rfl, iteF ?_⟩⟩
  have f9 := f8.mono s9
  refine ⟨_, rfl, _, rfl, _, rfl, q, a, r, rows, l, rfl, f9.rl, ok, f9.bed, f9.pl, hp, fun H10 s10 => ⟨_, rfl, iteF ?_⟩⟩
  have f10 := f9.mono s10
  have bg10 := (bg8.mono s9).mono s10
  have hsz := hp.le
  have hlen : 0 < l.length := by
    have := hp.fo.pos
    rw [wt_len] at this
    exact this
  refine ⟨_, rfl, r, _, rfl, .inr f10.pl, _, rfl, by omega, by rw [List.length_map]; omega, fun D hD => lc_it (n := ((l.map V.str).length : Int).toNat) walk_range (fun i H' => Hs H10 [(D, .lst (vN (List.range i)))] H') ((Hs.start H10).new hD) (fun _ _ _ _ => trivial) ?_ ?_⟩
  · rintro i v _ H11 hi hh ⟨rfl, rfl⟩
    rw [List.length_map] at hi
    refine ⟨rfl, ?_⟩
    simp only [tYes, if_true]
    refine ⟨_, rfl, _, hh.r0, by rw [List.length_map, List.length_range, sizeLine_eq]; omega, ?_⟩
    rw [List.range_succ, vN, List.map_append, show (0 : Int) + (i : Nat) = (i : Nat) by omega]
    exact hh.w0
  intro H11 h11
  rw [List.length_map, show ((l.length : Int)).toNat = l.length by omega] at h11
  have f11 := f10.mono h11.sub
  have bg11 := bg10.mono h11.sub
  refine ⟨_, rfl, r, _, rfl, .inr f11.pl, _, _, rfl, rfl, _, rfl, if_dec (fun c => ?_) (fun c => ?_)⟩
  · obtain ⟨b0, hb0, h0⟩ := bg11.take
    have fd := f11.del h0.r0 hqg neg
    refine ⟨3, rfl, by decide, by decide, fun D2 hD2 => lc_it (n := 3) walk_range (fun i H' => ∃ (B : Hp) (lb : List Int) (ks : List Nat), BagOk lb ∧ Same (L2.del H11 g) B ∧ ks.length = i ∧ (∀ k ∈ ks, k < l.length) ∧ Hs B [(D2, .lst (vN ks)), (g, .lst (lb.map V.int))] H')
      ⟨_, b0, [], hb0, Same.refl _, rfl, fun _ z => (nomatch z), h0.new hD2⟩ (fun _ _ _ _ => trivial) ?_ ?_⟩
    · rintro i v _ H12 hi ⟨B, lb, ks, hlb, sB, hk1, hk2, hh⟩ ⟨rfl, rfl⟩
      refine ⟨rfl, ?_⟩
      simp only [tYes, if_true]
      refine ⟨_, rfl, _, rfl, r, _, rfl, .inr (fd.mono (sB.trans hh.sub)).pl, g, l.length, by rw [List.length_map], hh.swap.bag hlb, hlen, by omega, fun k H13 hk d13 => ?_⟩
      obtain ⟨l3, B3, hl3, s3', h3⟩ := hh.dr1 d13
      refine ⟨_, h3.r0, by rw [List.length_map, sizeLine_eq]; omega, B3, l3, ks ++ [k], hl3, sB.trans s3', by rw [List.length_append, hk1]; rfl, fun z hz => ?_, by rw [vN, List.map_append]; exact h3.w0⟩
      rcases List.mem_append.mp hz with hz | hz
      · exact hk2 z hz
      · rw [List.mem_singleton.mp hz]; exact hk
    · rintro H12 ⟨B, lb, ks, hlb, sB, hk1, hk2, hh⟩
      exact hT _ H12 g q a r o e D2 fv rows l m ks rfl ok hp hpo (fd.mono (sB.trans hh.sub)) hh.r0 hk2
  · exact hT _ H11 g q a r o e D fv rows l m (List.range l.length) rfl ok hp hpo f11 h11.r0 fun k hk => List.mem_range.mp hk
end
end Sy
/-! the head's facts, own errors with an __init__ among them -/
namespace Sy
open PySem PySem.Spec PyProof.Rows L2
structure ErD where
  x : Str
  q : Str
  st : Stmt
  fs : List Str
abbrev FnE : Type := Option (Str × Str × Arguments × FuncBody × Scope × Addr × List Str × Addr)
def ErD.val (d : ErD) : FnE := some ("__init__", d.q, defArgs d.st, .stmts (defBody d.st), defScope d.st, mainGlobals, ["__class__"], builtinsNs)
def erW (K : PySem.W.Frag) (x : Str) : FnE := match K.lookup (iniA K x) with
  | some ⟨_, _, .func fd, _⟩ => some (fd.name, fd.qualname, fd.params, fd.body, fd.scope, fd.globals, fd.closure.map (·.1), fd.builtins)
  | _ => none
/-- the class object -/
def oexB (K : PySem.W.Frag) (C : Addr) : Bool := match K.lookup C with
  | some ⟨.type t, _, .cls cd, sl⟩ => (match cd.mro, sl.toList with
    | .ref C' :: bm, [_, _, _, _, some (.builtin n), _] => decide (t = "type") && (decide (C' = C) && (decide (n = "ValueError.__new__") && (!cd.hasDel && (cd.hasDict && HandSPX.refsVE bm))))
    | _, _ => false)
  | _ => false
/-- what stands in the code object, in the cell -/
def fileB (K : PySem.W.Frag) (file : Str) (cd : Value) : Bool := match cd with
  | .ref c => (match K.lookup c with
    | some ⟨_, _, .fields vs, _⟩ => (match (vs[2]? : Option Value) with
      | some (.str fi _) => (file == fi)
      | _ => false)
    | _ => false)
  | _ => false
def cellB (K : PySem.W.Frag) (C : Addr) (cl : List (Str × Addr)) : Bool := match cl with
  | [(_, cc)] => (match K.lookup cc with
    | some ⟨_, _, .cell (some (.ref D)), _⟩ => decide (D = C)
    | _ => false)
  | _ => false
def initB (K : PySem.W.Frag) (file x q : Str) : Bool := match K.lookup (iniA K x) with
  | some ⟨_, _, .func fd, _⟩ => PySem.W.codeIn K fd.code q && (fileB K file fd.code && (cellB K (He.ga K x) fd.closure && (match fd.defaults with
    | .none => true
    | _ => false)))
  | _ => false
def ErD.ok (file : Str) (K : PySem.W.Frag) (d : ErD) : Bool :=
  He.eqO (PySem.W.nsIn K mainGlobals d.x) (some (some (.ref (He.ga K d.x)))) && (He.eqO (PySem.W.findIn K (.ref (He.ga K d.x)) "__init__") (some (some (.ref (iniA K d.x)))) && (decide (PySem.W.typeIn K (.ref (iniA K d.x)) = some (.type "function")) &&
  (decide (PySem.W.exmOne K (.ref (He.ga K d.x)) (.ref (He.ga K d.x)) = some true) && (xfB K (He.ga K d.x) && ((d.fs.all fun f => He.eqO (PySem.W.findIn K (.ref (He.ga K d.x)) f) (some none)) && (oexB K (He.ga K d.x) &&
  (He.eqO (PySem.W.findIn K (.ref (He.ga K d.x)) "__setattr__") (some (some (.builtin "object.__setattr__"))) && (decide (PySem.W.subIn K (.ref (He.ga K d.x)) (.type "BaseException") = some true) && (decide (PySem.W.typeIn K (.ref (He.ga K d.x)) = some (.type "type")) && (PySem.W.keepIn K (.ref (He.ga K d.x)) &&
  (initB K file d.x d.q && (PySem.W.isClsIn K (He.ga K d.x) && (decide (PySem.W.mroIn K (He.ga K d.x) (.ref (He.ga K d.x)) = some true) && (He.eqO (PySem.W.ks_superIn K (He.ga K d.x) (He.ga K d.x) "__init__") (some (some (.builtin "ValueError.__init__"))) &&
  (decide (PySem.W.subIn K (.ref (He.ga K d.x)) (.type "ValueError") = some true) && He.eqO (PySem.W.nsIn K cStatics "thirdparty.any") (some none))))))))))))))))
theorem oexB_ok {K : PySem.W.Frag} {C : Addr} (h : oexB K C = true) : ∃ nm q N bs bm sn sub ab col dd k0 k1 k2 k3 k5, K.lookup C = some (excClassObj nm q C N bs bm true sn sub ab col dd k0 k1 k2 k3 k5 "ValueError.__new__") ∧ HandSPX.refsVE bm = true := by
  unfold oexB at h
  split at h
  · rename_i t dd cd sl ho
    split at h
    · rename_i C' bm k0 k1 k2 k3 n k5 hm hs
      simp only [Bool.and_eq_true, decide_eq_true_eq, Bool.not_eq_true'] at h
      obtain ⟨h1, h2, h3, h4, h5, h6⟩ := h
      obtain ⟨nm, bs, mro, ns, qn, hd, sn, sub, ab, col, del⟩ := cd
      dsimp only at hm h4 h5
      subst hm h4 h5 h1 h2 h3
      have hsl : sl = #[k0, k1, k2, k3, some (.builtin "ValueError.__new__"), k5] := by
        obtain ⟨z⟩ := sl
        simp only at hs
        rw [hs]
      subst hsl
      exact ⟨nm, qn, ns, bs, bm, sn, sub, ab, col, dd, k0, k1, k2, k3, k5, ho, h6⟩
    · cases h
  · cases h
theorem initB_ok {K : PySem.W.Frag} {file : Str} {d : ErD} (e : erW K d.x = d.val) (h : initB K file d.x d.q = true) : ∃ (cc cd : Addr) (oc : Value) (od : Option Addr) (kV doc pm : Value) (an : Option Addr) (ct : Value) (osl : Array (Option Value)),
    K.lookup (iniA K d.x) = some ⟨oc, od, .func (PySem.W.fnX "__init__" d.q (defArgs d.st) (defBody d.st) (defScope d.st) [("__class__", cc)] .none kV doc pm an (.ref cd) ct), osl⟩ ∧ PySem.W.codeIn K (.ref cd) d.q = true ∧
    (∃ (cl : Value) (dd : Option Addr) (vs : Array Value) (sl : Array (Option Value)) (fi : Str) (tf : Tok), K.lookup cd = some ⟨cl, dd, .fields vs, sl⟩ ∧ vs[2]? = some (.str fi tf) ∧ (file == fi) = true) ∧ ∃ (cl : Value) (dd : Option Addr) (sl : Array (Option Value)), K.lookup cc = some ⟨cl, dd, .cell (some (.ref (He.ga K d.x))), sl⟩ := by
  unfold initB at h
  unfold erW at e
  split at h
  · rename_i oc od fd osl ho
    rw [ho] at e
    obtain ⟨n1, n2, n3, n4, n5, n6, n7, n8, n9, n10, n11, n12, n13, n14, n15⟩ := fd
    have e2 : (some (n1, n2, n3, n4, n5, n6, n7.map (·.1), n15) : FnE) = d.val := e
    unfold ErD.val at e2
    simp only [Option.some.injEq, Prod.mk.injEq] at e2
    obtain ⟨e1, e2, e3, e4, e5, e6, e7, e8⟩ := e2
    simp only [Bool.and_eq_true] at h
    obtain ⟨h1, h2, h3, h4⟩ := h
    have hd : n8 = .none := by
      split at h4
      · first | rfl | assumption
      · cases h4
    unfold fileB at h2
    split at h2
    · rename_i cd
      unfold cellB at h3
      split at h3
      · rename_i y cc
        have hy : y = "__class__" := by simpa using e7
        subst hy
        split at h3
        · rename_i cl2 dd2 D sl2 hc
          have hD := of_decide_eq_true h3
          subst hD
          split at h2
          · rename_i cl dd vs sl hv
            split at h2
            · rename_i fi tf hf
              subst e1 e2 e3 e4 e5 e6 e8 hd
              exact ⟨cc, cd, oc, od, n9, n10, n11, n12, n14, osl, ho, h1, ⟨cl, dd, vs, sl, fi, tf, hv, hf, h2⟩, ⟨cl2, dd2, sl2, hc⟩⟩
            · cases h2
          · cases h2
        · cases h3
      · cases h3
    · cases h2
  · cases h
theorem ErD.errB {P : Program} {K : PySem.W.Frag} {h : Heap} {mg : Str → Option Value} {d : ErD} (X : K.In h) (G : h.Ns mainGlobals mg) (e : erW K d.x = d.val) (c : d.ok P.main.file K = true) (mS : mg "super" = none) (top : (P.main.scope.names.lookup ("super" : Str)).isSome = false) : ErrB P K mg d.x d.q d.st d.fs := by
  obtain ⟨c1, c⟩ := Bool.and_eq_true_iff.mp c
  obtain ⟨c2, c⟩ := Bool.and_eq_true_iff.mp c
  obtain ⟨c3, c⟩ := Bool.and_eq_true_iff.mp c
  obtain ⟨c4, c⟩ := Bool.and_eq_true_iff.mp c
  obtain ⟨c5, c⟩ := Bool.and_eq_true_iff.mp c
  obtain ⟨c6, c⟩ := Bool.and_eq_true_iff.mp c
  obtain ⟨c7, c⟩ := Bool.and_eq_true_iff.mp c
  obtain ⟨c8, c⟩ := Bool.and_eq_true_iff.mp c
  obtain ⟨c9, c⟩ := Bool.and_eq_true_iff.mp c
  obtain ⟨c10, c⟩ := Bool.and_eq_true_iff.mp c
  obtain ⟨c11, c⟩ := Bool.and_eq_true_iff.mp c
  obtain ⟨c12, c⟩ := Bool.and_eq_true_iff.mp c
  obtain ⟨c13, c⟩ := Bool.and_eq_true_iff.mp c
  obtain ⟨c14, c⟩ := Bool.and_eq_true_iff.mp c
  obtain ⟨c15, c⟩ := Bool.and_eq_true_iff.mp c
  obtain ⟨c16, c17⟩ := Bool.and_eq_true_iff.mp c
  obtain ⟨cc, cd, oc, od, kV, doc, pm, an, ct, osl, l1, l2, l3, l4⟩ := initB_ok e c12
  refine ⟨⟨cc, cd, kV, doc, pm, an, ct, ⟨⟨oc, od, .none, kV, doc, pm, an, ct, osl, rfl, l1⟩, l2, l3, l4, ?_, of_decide_eq_true c14, He.eqO_ok c15, of_decide_eq_true c16, He.eqO_ok c17, ⟨oexB_ok c7, He.eqO_ok c8, of_decide_eq_true c9, of_decide_eq_true c10, c11⟩⟩⟩, He.eqO_ok c2, of_decide_eq_true c3, PySem.W.mg_of X G (He.eqO_ok c1), of_decide_eq_true c4, xfB_ok c5, fun f hf => He.eqO_ok (List.all_eq_true.mp c6 f hf), mS, top⟩
  unfold PySem.W.isClsIn at c13
  exact Option.isSome_iff_exists.mp c13
/-! the Hook -/
abbrev AlX : Type := He.AlD × (Bool × List FnE)
def obsX (file : Str) (fa : List He.Fa) (fn : List He.DefD) (er : List ErD) (K : PySem.W.Frag) : AlX := (He.obsD fa fn K, (er.all fun d => d.ok file K, er.map fun d => erW K d.x))
def valX (fn : List He.DefD) (er : List ErD) : AlX := (He.valD fn, (true, er.map ErD.val))
def SaysX (file : Str) (fa : List He.Fa) (fn : List He.DefD) (er : List ErD) (K : PySem.W.Frag) : Prop := obsX file fa fn er K = valX fn er
def obsXG (file : Str) (n : Nat) (fa : List He.Fa) (fn : List He.DefD) (er : List ErD) (g : Addr → Option Obj) : AlX := obsX file fa fn er (He.frG g (He.asD g n ++ [cStatics]))
def hookX (file : Str) (n : Nat) (fa : List He.Fa) (fn : List He.DefD) (er : List ErD) : PySem.W.Hook where
  α := AlX
  obs := fun s => obsXG file n fa fn er s.heap.get?
  val := fun _ => valX fn er
  says := fun _ h => ∃ K : PySem.W.Frag, K.In h ∧ SaysX file fa fn er K
  of := fun _ _ e => ⟨_, He.frG_in, e⟩
  keeps := fun _ _ _ ⟨K, hK, c⟩ k => ⟨K, PySem.W.Frag.In.keeps hK k, c⟩
theorem obsXG_eq {file : Str} {n : Nat} {fa : List He.Fa} {fn : List He.DefD} {er : List ErD} {g : Addr → Option Obj} {s : Shared} (h : ∀ a, g a = s.heap.get? a) : obsXG file n fa fn er g = (hookX file n fa fn er).obs s := by
  have e : g = s.heap.get? := funext h
  rw [e]
  rfl
section
variable {file : Str} {fa : List He.Fa} {fn : List He.DefD} {er : List ErD} {K : PySem.W.Frag}
theorem SaysX.d (c : SaysX file fa fn er K) : He.SaysD fa fn K := congrArg (fun z : AlX => z.1) c
theorem SaysX.err_ (c : SaysX file fa fn er K) (i : Nat) {d : ErD} (h : er[i]? = some d := by rfl) : erW K d.x = d.val ∧ d.ok file K = true := by
  have c1 : (er.all fun d => d.ok file K) = true := congrArg (fun z : AlX => z.2.1) c
  have c2 : (er.map fun d => erW K d.x) = er.map ErD.val := congrArg (fun z : AlX => z.2.2) c
  refine ⟨?_, List.all_eq_true.mp c1 d (List.mem_of_getElem? h)⟩
  have e2 : (er.map fun d => erW K d.x)[i]? = (er.map ErD.val)[i]? := by rw [c2]
  rw [List.getElem?_map, List.getElem?_map, h] at e2
  exact Option.some.inj e2
end
/-- a def that lets nothing out -/
theorem fn_calm {P : Program} {w : World} {K : PySem.W.Frag} {mg : Str → Option Value} {base : Heap} {k : Nat} {f : Addr} {fd : FuncData} {ps : List Str} {sp : Sp} (F : FnOk P w K mg base (L2.CX P w) k f fd ps sp) (h : ∀ vs H Q E, sp vs H Q E → sp vs H Q E0) : FnOk P w K mg base CX0 k f fd ps sp := by
  obtain ⟨len, run⟩ := F
  refine ⟨len, fun A outer s H args us vs Q E hr e0 hb r hsp => codeAny_mono (run A outer s H args us vs Q E0 hr e0 hb r (h _ _ _ _ hsp)) fun x s' z => ?_⟩
  cases x with
  | ok fl => cases fl <;> exact z
  | error e =>
    obtain ⟨_, _, _, _, _, _, _, _, _, _, _, _, q⟩ := z
    exact q.elim
end Sy
set_option maxHeartbeats 0
namespace Sy.En
open Sy PySem PySem.Spec PyProof.Rows L2
abbrev dOf (x : Str) (i : Nat) : He.DefD := ⟨(x, none), x, x, defArgs (top i), defBody (top i), defScope (top i), [], []⟩
abbrev dMe (m q : Str) (j : Nat) : He.DefD := ⟨("Bed", some m), m, q, defArgs (clb 39 j), defBody (clb 39 j), defScope (clb 39 j), [], []⟩
def fn : List He.DefD := [dOf "check_count" 13, dOf "arity" 14, dOf "fault_among" 15, dOf "spans" 16, dOf "span_stop" 17, dOf "kids" 18, dOf "row_paths" 19, dOf "place_of" 20, dOf "swapped" 21, dOf "entry_rank" 22, dOf "row_key" 23, dOf "check_plant" 25, dOf "plant_key" 26, dOf "height" 27, dOf "counted" 28, dOf "branches_of" 29, dOf "planted" 30, dOf "paths" 31, dOf "branch_at" 32, dOf "replaced" 33, dOf "only_letters" 37, dOf "is_name" 38, dOf "_law_bag" 41, dOf "_law_draw" 42, dOf "_law_word" 43, dOf "_law_name" 44, dOf "_law_rows" 45, dOf "_law_bed" 46, dOf "_law_number" 47, dOf "_law_plant" 48, dOf "_law_long" 49, dOf "_law_some_plant" 50, dOf "_law_ends" 51, dOf "_law_paths" 52, dOf "_law_same" 53, dOf "_law_planted" 54, dOf "_law_planted_met" 55, dOf "_law_replaced_met" 56, dOf "_law_nowhere" 57, dOf "_law_whole_right" 58, dOf "_law_above_right" 59, dOf "_law_knot_right" 60, dOf "law" 61, dMe "__init__" "Bed.__init__" 0, dMe "leaves" "Bed.leaves" 3, dMe "branches" "Bed.branches" 4]
def fa : List He.Fa := [.glo "check_count", .glo "arity", .glo "fault_among", .glo "spans", .glo "span_stop", .glo "kids", .glo "row_paths", .glo "place_of", .glo "swapped", .glo "entry_rank", .glo "row_key", .glo "check_plant", .glo "plant_key", .glo "height", .glo "counted", .glo "branches_of", .glo "planted", .glo "paths", .glo "branch_at", .glo "replaced", .glo "only_letters", .glo "is_name", .glo "_law_bag", .glo "_law_draw", .glo "_law_word", .glo "_law_name", .glo "_law_rows", .glo "_law_bed", .glo "_law_number", .glo "_law_plant", .glo "_law_long", .glo "_law_some_plant", .glo "_law_ends", .glo "_law_paths", .glo "_law_same", .glo "_law_planted", .glo "_law_planted_met", .glo "_law_replaced_met", .glo "_law_nowhere", .glo "_law_whole_right", .glo "_law_above_right", .glo "_law_knot_right", .glo "law", .free "len", .free "range", .free "reversed", .free "enumerate", .free "tuple", .free "list", .free "int", .free "abs", .free "max", .free "isinstance", .free "bool", .free "str", .free "super", .int "MOST_KNOTS" 2000, .int "MOST_KINDS" 8, .int "MOST_BRANCHES" 3, .int "LONGEST_NAME" 8, .glo "Bed", .cls "Bed", .mkr "Bed", .noat "Bed" "arities", .noat "Bed" "rows", .noat "Bed" "kinds", .noat "Bed" "ranks", .meth "Bed" "__init__", .meth "Bed" "leaves", .meth "Bed" "branches"]
def ers : List ErD := [⟨"TooMany", "TooMany.__init__", clb 6 0, ["what", "limit"]⟩, ⟨"NoPath", "NoPath.__init__", clb 8 0, ["path"]⟩]
abbrev R : PySem.W.OpenRow := PySem.W.OpenLaw.row PySem.Challenge.rw_shearyard_k01_branches_paths_and_counts
abbrev hk : PySem.W.Hook := hookX R.prog.main.file 5 fa fn ers
def ob (s : PySem.W.SharedT) : AlX := obsXG R.prog.main.file 5 fa fn ers (HandSHeadRun.getT s)
theorem ob_eq (s : PySem.W.SharedT) : ob s = hk.obs s.abs := obsXG_eq (HandSHeadRun.getT_eq s)
def loose1 : List Str := ["YardError", "InvalidBed", "InvalidPlant", "InvalidText", "UnknownKind", "TooMany", "WrongBranches", "NoPath", "MOST_KINDS", "MOST_BRANCHES", "MOST_KNOTS", "check_count", "arity", "fault_among", "spans", "span_stop", "kids", "row_paths", "place_of", "swapped", "entry_rank", "row_key", "check_plant", "plant_key", "height", "counted", "branches_of", "planted", "paths", "branch_at"]
def loose2 : List Str := ["replaced", "LONGEST_NAME", "DIGITS", "only_letters", "is_name", "Bed", "_law_bag", "_law_draw", "_law_word", "_law_name", "_law_rows", "_law_bed", "_law_number", "_law_plant", "_law_long", "_law_some_plant", "_law_ends", "_law_paths", "_law_same", "_law_planted", "_law_planted_met", "_law_replaced_met", "_law_nowhere", "_law_whole_right", "_law_above_right", "_law_knot_right"]
theorem run (w : World) : HandSHeadRun.RunEq R (PySem.W.view R.prog [61]) hk ob 20000 (loose1 ++ loose2) w := by
  intro os
  kernel_rfl
theorem facts {P : Program} {w : World} {K : PySem.W.Frag} {h : Heap} {mg : Str → Option Value} {f : Addr} (hfile : P.main.file = R.prog.main.file) (top_ : (P.main.scope.names.lookup ("super" : Str)).isSome = false) (X : K.In h) (G : h.Ns mainGlobals mg) (hfa : mg ("law" : Str) = some (.ref f)) (c : SaysX R.prog.main.file fa fn ers K) :
    ∃ fd : FuncData, (∀ (s : Shared) (v : Value), BindsTo s fd ⟨[v], []⟩ [("_law_script", v)]) ∧ ∀ base : Heap, K.In base → base.Ns mainGlobals mg → FnOk P w K mg base CX0 9 f fd ["_law_script"] (spLaw K) := by
  have D := c.d
  have e := hfa.symm.trans (He.glo_ok X G (D.fact 42 (f := .glo "law") rfl))
  cases e
  have f_check_count : DF K mg "check_count" 13 := ⟨D.def_ 0 (d := dOf "check_count" 13) rfl, He.glo_ok X G (D.fact 0 (f := .glo "check_count") rfl)⟩
  have f_arity : DF K mg "arity" 14 := ⟨D.def_ 1 (d := dOf "arity" 14) rfl, He.glo_ok X G (D.fact 1 (f := .glo "arity") rfl)⟩
  have f_fault_among : DF K mg "fault_among" 15 := ⟨D.def_ 2 (d := dOf "fault_among" 15) rfl, He.glo_ok X G (D.fact 2 (f := .glo "fault_among") rfl)⟩
  have f_spans : DF K mg "spans" 16 := ⟨D.def_ 3 (d := dOf "spans" 16) rfl, He.glo_ok X G (D.fact 3 (f := .glo "spans") rfl)⟩
  have f_span_stop : DF K mg "span_stop" 17 := ⟨D.def_ 4 (d := dOf "span_stop" 17) rfl, He.glo_ok X G (D.fact 4 (f := .glo "span_stop") rfl)⟩
  have f_kids : DF K mg "kids" 18 := ⟨D.def_ 5 (d := dOf "kids" 18) rfl, He.glo_ok X G (D.fact 5 (f := .glo "kids") rfl)⟩
  have f_row_paths : DF K mg "row_paths" 19 := ⟨D.def_ 6 (d := dOf "row_paths" 19) rfl, He.glo_ok X G (D.fact 6 (f := .glo "row_paths") rfl)⟩
  have f_place_of : DF K mg "place_of" 20 := ⟨D.def_ 7 (d := dOf "place_of" 20) rfl, He.glo_ok X G (D.fact 7 (f := .glo "place_of") rfl)⟩
  have f_swapped : DF K mg "swapped" 21 := ⟨D.def_ 8 (d := dOf "swapped" 21) rfl, He.glo_ok X G (D.fact 8 (f := .glo "swapped") rfl)⟩
  have f_entry_rank : DF K mg "entry_rank" 22 := ⟨D.def_ 9 (d := dOf "entry_rank" 22) rfl, He.glo_ok X G (D.fact 9 (f := .glo "entry_rank") rfl)⟩
  have f_row_key : DF K mg "row_key" 23 := ⟨D.def_ 10 (d := dOf "row_key" 23) rfl, He.glo_ok X G (D.fact 10 (f := .glo "row_key") rfl)⟩
  have f_check_plant : DF K mg "check_plant" 25 := ⟨D.def_ 11 (d := dOf "check_plant" 25) rfl, He.glo_ok X G (D.fact 11 (f := .glo "check_plant") rfl)⟩
  have f_plant_key : DF K mg "plant_key" 26 := ⟨D.def_ 12 (d := dOf "plant_key" 26) rfl, He.glo_ok X G (D.fact 12 (f := .glo "plant_key") rfl)⟩
  have f_height : DF K mg "height" 27 := ⟨D.def_ 13 (d := dOf "height" 27) rfl, He.glo_ok X G (D.fact 13 (f := .glo "height") rfl)⟩
  have f_counted : DF K mg "counted" 28 := ⟨D.def_ 14 (d := dOf "counted" 28) rfl, He.glo_ok X G (D.fact 14 (f := .glo "counted") rfl)⟩
  have f_branches_of : DF K mg "branches_of" 29 := ⟨D.def_ 15 (d := dOf "branches_of" 29) rfl, He.glo_ok X G (D.fact 15 (f := .glo "branches_of") rfl)⟩
  have f_planted : DF K mg "planted" 30 := ⟨D.def_ 16 (d := dOf "planted" 30) rfl, He.glo_ok X G (D.fact 16 (f := .glo "planted") rfl)⟩
  have f_paths : DF K mg "paths" 31 := ⟨D.def_ 17 (d := dOf "paths" 31) rfl, He.glo_ok X G (D.fact 17 (f := .glo "paths") rfl)⟩
  have f_branch_at : DF K mg "branch_at" 32 := ⟨D.def_ 18 (d := dOf "branch_at" 32) rfl, He.glo_ok X G (D.fact 18 (f := .glo "branch_at") rfl)⟩
  have f_replaced : DF K mg "replaced" 33 := ⟨D.def_ 19 (d := dOf "replaced" 33) rfl, He.glo_ok X G (D.fact 19 (f := .glo "replaced") rfl)⟩
  have f_only_letters : DF K mg "only_letters" 37 := ⟨D.def_ 20 (d := dOf "only_letters" 37) rfl, He.glo_ok X G (D.fact 20 (f := .glo "only_letters") rfl)⟩
  have f_is_name : DF K mg "is_name" 38 := ⟨D.def_ 21 (d := dOf "is_name" 38) rfl, He.glo_ok X G (D.fact 21 (f := .glo "is_name") rfl)⟩
  have f_law_bag : DF K mg "_law_bag" 41 := ⟨D.def_ 22 (d := dOf "_law_bag" 41) rfl, He.glo_ok X G (D.fact 22 (f := .glo "_law_bag") rfl)⟩
  have f_law_draw : DF K mg "_law_draw" 42 := ⟨D.def_ 23 (d := dOf "_law_draw" 42) rfl, He.glo_ok X G (D.fact 23 (f := .glo "_law_draw") rfl)⟩
  have f_law_word : DF K mg "_law_word" 43 := ⟨D.def_ 24 (d := dOf "_law_word" 43) rfl, He.glo_ok X G (D.fact 24 (f := .glo "_law_word") rfl)⟩
  have f_law_name : DF K mg "_law_name" 44 := ⟨D.def_ 25 (d := dOf "_law_name" 44) rfl, He.glo_ok X G (D.fact 25 (f := .glo "_law_name") rfl)⟩
  have f_law_rows : DF K mg "_law_rows" 45 := ⟨D.def_ 26 (d := dOf "_law_rows" 45) rfl, He.glo_ok X G (D.fact 26 (f := .glo "_law_rows") rfl)⟩
  have f_law_bed : DF K mg "_law_bed" 46 := ⟨D.def_ 27 (d := dOf "_law_bed" 46) rfl, He.glo_ok X G (D.fact 27 (f := .glo "_law_bed") rfl)⟩
  have f_law_number : DF K mg "_law_number" 47 := ⟨D.def_ 28 (d := dOf "_law_number" 47) rfl, He.glo_ok X G (D.fact 28 (f := .glo "_law_number") rfl)⟩
  have f_law_plant : DF K mg "_law_plant" 48 := ⟨D.def_ 29 (d := dOf "_law_plant" 48) rfl, He.glo_ok X G (D.fact 29 (f := .glo "_law_plant") rfl)⟩
  have f_law_long : DF K mg "_law_long" 49 := ⟨D.def_ 30 (d := dOf "_law_long" 49) rfl, He.glo_ok X G (D.fact 30 (f := .glo "_law_long") rfl)⟩
  have f_law_some_plant : DF K mg "_law_some_plant" 50 := ⟨D.def_ 31 (d := dOf "_law_some_plant" 50) rfl, He.glo_ok X G (D.fact 31 (f := .glo "_law_some_plant") rfl)⟩
  have f_law_ends : DF K mg "_law_ends" 51 := ⟨D.def_ 32 (d := dOf "_law_ends" 51) rfl, He.glo_ok X G (D.fact 32 (f := .glo "_law_ends") rfl)⟩
  have f_law_paths : DF K mg "_law_paths" 52 := ⟨D.def_ 33 (d := dOf "_law_paths" 52) rfl, He.glo_ok X G (D.fact 33 (f := .glo "_law_paths") rfl)⟩
  have f_law_same : DF K mg "_law_same" 53 := ⟨D.def_ 34 (d := dOf "_law_same" 53) rfl, He.glo_ok X G (D.fact 34 (f := .glo "_law_same") rfl)⟩
  have f_law_planted : DF K mg "_law_planted" 54 := ⟨D.def_ 35 (d := dOf "_law_planted" 54) rfl, He.glo_ok X G (D.fact 35 (f := .glo "_law_planted") rfl)⟩
  have f_law_planted_met : DF K mg "_law_planted_met" 55 := ⟨D.def_ 36 (d := dOf "_law_planted_met" 55) rfl, He.glo_ok X G (D.fact 36 (f := .glo "_law_planted_met") rfl)⟩
  have f_law_replaced_met : DF K mg "_law_replaced_met" 56 := ⟨D.def_ 37 (d := dOf "_law_replaced_met" 56) rfl, He.glo_ok X G (D.fact 37 (f := .glo "_law_replaced_met") rfl)⟩
  have f_law_nowhere : DF K mg "_law_nowhere" 57 := ⟨D.def_ 38 (d := dOf "_law_nowhere" 57) rfl, He.glo_ok X G (D.fact 38 (f := .glo "_law_nowhere") rfl)⟩
  have f_law_whole_right : DF K mg "_law_whole_right" 58 := ⟨D.def_ 39 (d := dOf "_law_whole_right" 58) rfl, He.glo_ok X G (D.fact 39 (f := .glo "_law_whole_right") rfl)⟩
  have f_law_above_right : DF K mg "_law_above_right" 59 := ⟨D.def_ 40 (d := dOf "_law_above_right" 59) rfl, He.glo_ok X G (D.fact 40 (f := .glo "_law_above_right") rfl)⟩
  have f_law_knot_right : DF K mg "_law_knot_right" 60 := ⟨D.def_ 41 (d := dOf "_law_knot_right" 60) rfl, He.glo_ok X G (D.fact 41 (f := .glo "_law_knot_right") rfl)⟩
  have f_law : DF K mg "law" 61 := ⟨D.def_ 42 (d := dOf "law" 61) rfl, He.glo_ok X G (D.fact 42 (f := .glo "law") rfl)⟩
  have m_init : MB K "__init__" "Bed.__init__" (clb 39 0) := ⟨He.meth_ok (D.fact 67 (f := .meth "Bed" "__init__") rfl), D.def_ 43 (d := dMe "__init__" "Bed.__init__" 0) rfl⟩
  have m_leaves : MB K "leaves" "Bed.leaves" (clb 39 3) := ⟨He.meth_ok (D.fact 68 (f := .meth "Bed" "leaves") rfl), D.def_ 44 (d := dMe "leaves" "Bed.leaves" 3) rfl⟩
  have m_branches : MB K "branches" "Bed.branches" (clb 39 4) := ⟨He.meth_ok (D.fact 69 (f := .meth "Bed" "branches") rfl), D.def_ 45 (d := dMe "branches" "Bed.branches" 4) rfl⟩
  have n_len : mg "len" = none := He.free_ok X G (D.fact 43 (f := .free "len") rfl)
  have n_range : mg "range" = none := He.free_ok X G (D.fact 44 (f := .free "range") rfl)
  have n_reversed : mg "reversed" = none := He.free_ok X G (D.fact 45 (f := .free "reversed") rfl)
  have n_enumerate : mg "enumerate" = none := He.free_ok X G (D.fact 46 (f := .free "enumerate") rfl)
  have n_tuple : mg "tuple" = none := He.free_ok X G (D.fact 47 (f := .free "tuple") rfl)
  have n_list : mg "list" = none := He.free_ok X G (D.fact 48 (f := .free "list") rfl)
  have n_int : mg "int" = none := He.free_ok X G (D.fact 49 (f := .free "int") rfl)
  have n_abs : mg "abs" = none := He.free_ok X G (D.fact 50 (f := .free "abs") rfl)
  have n_max : mg "max" = none := He.free_ok X G (D.fact 51 (f := .free "max") rfl)
  have n_isinstance : mg "isinstance" = none := He.free_ok X G (D.fact 52 (f := .free "isinstance") rfl)
  have n_bool : mg "bool" = none := He.free_ok X G (D.fact 53 (f := .free "bool") rfl)
  have n_str : mg "str" = none := He.free_ok X G (D.fact 54 (f := .free "str") rfl)
  have n_super : mg "super" = none := He.free_ok X G (D.fact 55 (f := .free "super") rfl)
  have T : Txt K mg := ⟨⟨He.cls_ok (D.fact 61 (f := .cls "Bed") rfl), He.noat_ok (D.fact 63 (f := .noat "Bed" "arities") rfl), He.noat_ok (D.fact 64 (f := .noat "Bed" "rows") rfl), He.noat_ok (D.fact 65 (f := .noat "Bed" "kinds") rfl), He.noat_ok (D.fact 66 (f := .noat "Bed" "ranks") rfl)⟩, n_len, n_range, n_reversed, n_enumerate, n_tuple, n_list, n_int, n_abs, n_max, n_isinstance, He.int_ok X G (D.fact 56 (f := .int "MOST_KNOTS" 2000) rfl), He.int_ok X G (D.fact 57 (f := .int "MOST_KINDS" 8) rfl), He.int_ok X G (D.fact 58 (f := .int "MOST_BRANCHES" 3) rfl), He.int_ok X G (D.fact 59 (f := .int "LONGEST_NAME" 8) rfl)⟩
  have TC : TxtC mg := ⟨n_tuple, n_bool, n_int, n_str, n_isinstance, n_len, n_range⟩
  have e_TooMany : ErrB P K mg "TooMany" "TooMany.__init__" (clb 6 0) ["what", "limit"] := ErD.errB (d := ⟨"TooMany", "TooMany.__init__", clb 6 0, ["what", "limit"]⟩) X G (c.err_ 0 rfl).1 (by rw [hfile]; exact (c.err_ 0 rfl).2) n_super top_
  have e_NoPath : ErrB P K mg "NoPath" "NoPath.__init__" (clb 8 0) ["path"] := ErD.errB (d := ⟨"NoPath", "NoPath.__init__", clb 8 0, ["path"]⟩) X G (c.err_ 1 rfl).1 (by rw [hfile]; exact (c.err_ 1 rfl).2) n_super top_
  have M := He.mkr_ok (D.fact 62 (f := .mkr "Bed") rfl)
  have gBed := He.glo_ok X G (D.fact 60 (f := .glo "Bed") rfl)
  obtain ⟨fd, FD1⟩ := f_law.1
  have b := FunD.bindsA (ps := ["_law_script"]) FD1 fun _ _ _ _ _ _ us hl => match us, hl with | [_], _ => rfl
  refine ⟨fd, fun s v => b s [v] rfl, fun base _ _ => ?_⟩
  have c_count := k_count (P := P) (w := w) (base := base) T e_TooMany f_check_count
  have c_arity := k_arity (P := P) (w := w) (base := base) T f_arity
  have c_fault := k_fault (P := P) (w := w) (base := base) T f_fault_among c_arity
  have c_spans := k_spans (P := P) (w := w) (base := base) T f_spans c_arity
  have c_stop := k_stop (P := P) (w := w) (base := base) T f_span_stop c_arity
  have c_kids := k_kids (P := P) (w := w) (base := base) T f_kids c_arity c_spans
  have c_pathsR := k_pathsR (P := P) (w := w) (base := base) T f_row_paths c_kids
  have c_place := k_place (P := P) (w := w) (base := base) T e_NoPath f_place_of c_kids
  have c_swap := k_swap (P := P) (w := w) (base := base) T f_swapped c_stop
  have c_rank := k_rank (P := P) (w := w) (base := base) T f_entry_rank
  have c_key := k_key (P := P) (w := w) (base := base) T f_row_key c_rank
  have c_check := k_check (P := P) (w := w) (base := base) T f_check_plant c_count c_fault
  have c_keyP := k_keyP (P := P) (w := w) (base := base) T f_plant_key c_check c_key
  have c_height := k_height (P := P) (w := w) (base := base) T f_height c_check c_kids
  have c_counted := k_counted (P := P) (w := w) (base := base) T f_counted c_check
  have c_brs := k_brs (P := P) (w := w) (base := base) T f_branches_of c_check c_kids c_stop
  have c_pathsP := k_pathsP (P := P) (w := w) (base := base) T f_paths c_check c_pathsR
  have c_brAt := k_brAt (P := P) (w := w) (base := base) T f_branch_at c_check c_place c_stop
  have c_rep := k_rep (P := P) (w := w) (base := base) T f_replaced c_check c_count c_place c_swap
  have c_letters := k_letters (P := P) (w := w) (base := base) f_only_letters
  have c_name := k_name (P := P) (w := w) (base := base) T f_is_name c_letters
  have c_leaves := k_leaves (P := P) (w := w) (base := base) T m_leaves
  have c_branches := k_branches (P := P) (w := w) (base := base) T m_branches
  have c_init := r_init (P := P) (w := w) (base := base) T m_init c_name c_leaves
  have c_planted := r_planted (P := P) (w := w) (base := base) T f_planted c_branches c_check c_count
  have c_bag := k_bag (P := P) (w := w) (base := base) T f_law_bag
  have c_draw := k_draw (P := P) (w := w) (base := base) T f_law_draw
  have c_word := k_word (P := P) (w := w) (base := base) T f_law_word c_draw
  have c_nameL := k_nameL (P := P) (w := w) (base := base) T f_law_name c_draw c_word
  have c_rows := k_rows (P := P) (w := w) (base := base) T f_law_rows c_draw c_nameL
  have c_bed := k_bed (P := P) (w := w) (base := base) T M gBed c_init f_law_bed
  have c_num := k_num (P := P) (w := w) (base := base) T f_law_number
  have c_plantL := k_plantL (P := P) (w := w) (base := base) T f_law_plant c_draw
  have c_long := k_long (P := P) (w := w) (base := base) T f_law_long c_draw
  have c_some := k_some (P := P) (w := w) (base := base) T f_law_some_plant c_draw c_long c_plantL
  have c_ends := k_ends (P := P) (w := w) (base := base) T f_law_ends c_num
  have c_pathsL := k_pathsL (P := P) (w := w) (base := base) T f_law_paths c_num
  have c_same := k_same (P := P) (w := w) (base := base) TC f_law_same 3
  have c_plL := k_plL (P := P) (w := w) (base := base) T f_law_planted c_planted
  have c_pMet := k_pMet (P := P) (w := w) (base := base) e_TooMany f_law_planted_met c_plL
  have c_rMet := k_rMet (P := P) (w := w) (base := base) e_TooMany f_law_replaced_met c_rep
  have c_now := k_now (P := P) (w := w) (base := base) T e_NoPath f_law_nowhere c_brAt c_rep c_same
  have c_whole := k_whole (P := P) (w := w) (base := base) T TC f_law_whole_right c_same c_height c_counted c_keyP c_pathsP c_brs c_num c_pMet
  have c_above := k_above (P := P) (w := w) (base := base) T f_law_above_right c_same c_pMet
  have c_knot := k_knot (P := P) (w := w) (base := base) T f_law_knot_right c_same c_brAt c_rMet c_num c_now
  have c_law := k_law (P := P) (w := w) (base := base) T FD1 c_bag c_rows c_bed c_some c_plantL c_draw c_ends c_pathsL c_whole c_above c_knot
  exact fn_calm c_law fun vs H Q E q => q
end Sy.En
open PySem PySem.W PySem.Calls PyProof.Rows
theorem PySem.Challenge.cw_shearyard_k01_branches_paths_and_counts_holds : PySem.Challenge.rw_shearyard_k01_branches_paths_and_counts.Holds := by
  w_on; o_law
  refine HandSHeadRun.head_any (r := OpenLaw.row PySem.Challenge.rw_shearyard_k01_branches_paths_and_counts) (q := view (OpenLaw.row PySem.Challenge.rw_shearyard_k01_branches_paths_and_counts).prog [61]) (H := Sy.En.hk) (ob := Sy.En.ob) (M := 20000) (loose := Sy.En.loose1 ++ Sy.En.loose2) (d := HandSHeadRun.topDef (OpenLaw.row PySem.Challenge.rw_shearyard_k01_branches_paths_and_counts).prog 61) (kwd := []) Sy.En.ob_eq
    (by kernel_rfl) (fun s => by kernel_rfl) Sy.En.run (by kernel_rfl) (by kernel_rfl) (by kernel_rfl) (by rfl) (by first | assumption | decide +kernel) (by decide +kernel) ⟨rfl, rfl, rfl, rfl, rfl, by decide +kernel⟩ ?hw ?hc
  case hw => w_witness2
  case hc =>
    refine L2.walk_ofE (l := PySem.Challenge.rw_shearyard_k01_branches_paths_and_counts) (n := 63) (k := 9) (x := "_law_script") (CX := L2.CX0) rfl (by decide) (by kernel_rfl) ⟨rfl, by decide, by decide⟩ ?F (fun _ _ _ _ z => z)
    intro w mg fa h Y G hmg0
    obtain ⟨K, KX, c⟩ := Y
    have hmg : mg ("law" : PySem.Str) = some (.ref fa) := by
      have e : (HandSHeadRun.topDef (OpenLaw.row PySem.Challenge.rw_shearyard_k01_branches_paths_and_counts).prog 61).name = ("law" : PySem.Str) := by kernel_rfl
      rw [← e]
      exact hmg0
    obtain ⟨fd, hb, hF⟩ := Sy.En.facts (P := (PySem.Challenge.rw_shearyard_k01_branches_paths_and_counts).prog) (w := w) rfl (by kernel_rfl) KX G hmg c
    exact ⟨K, fd, Sy.spLaw K, KX, hb, fun H a ns hl _ hS => ⟨a, ns, rfl, hS, Nat.le_trans hl (by decide), fun _ => rfl⟩, hF⟩
