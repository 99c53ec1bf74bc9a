import PyProof.Rows.All
import Wide.All
import OpenK.AllK
import Wide.FinOn
import KE.KStateDown
import HandS.ForMost
import HandS.ForExc
import HandS.Walk
import HandS.StrMore
import HandS.Star
import KE.GoesEnum
import HandS.ExcInit
import HandS.Nested
import KE.KExcSuper
import HandS.TupMul
import HandS.TupAny
import HandS.FStrTup
import HandS.FStr
import HandS.Deep
import HandS.IsInst
import HandS.RevRange
import HandS.DictComp
import HandS.Defaults
import HandS.Flow
import HandS.HeadHook1
import HandS.HeadHook2
import HandS.Ends
import HandS.Words
import HandS.WordsExc
import HandS.Head0
import HandS.Head1
import HandS.Head2
import HandS.HeadEnd
import HandS.ExcField
import HandS.HeadNt
import HandS.Property
import HandS.ClsMeth
import HandS.Replace
import HandS.ReplaceLit
import HandS.ReplaceDef
import PyProof.Rows.StrStrike
import HandS.ExcIs
import HandS.SetFor
import PySem.Challenge.RW_shearyard_k04_texts_of_beds_and_stumps
set_option Elab.async false
set_option linter.all false
set_option maxRecDepth 100000
set_option maxHeartbeats 4000000
/-! enumerate over a tuple (own rule) -/
namespace Sy
open PySem PySem.Spec PyProof.Rows L2
open AutoSeq1 (wpAny_loadPart')
theorem enumNew {v : Value} {o : Obj} {Hh : Heap → Prop} (B : Begins v o Hh) : Meets (Builtin.«enumerate.__new__» ⟨[.type "enumerate", v], []⟩) (fun _ R s => Hh s.heap ∧
    R (.ok (.ret (.ref (s.heap.push o).objs.size))) { s with heap := (s.heap.push o).push { cls := .type "enumerate", data := .fields #[.none, .bool false, .ref s.heap.objs.size, rawInt 0, .none, .none] } }) :=
  .of_wp fun prog w A R s hs => by
    obtain ⟨hp, g, d, tk, os⟩ := s
    obtain ⟨h1, hR⟩ := hs
    have hsub := sub_enumerate
    have it1 : ∀ {A' : Around} {E : Value → Shared → Prop} {Q : Value → Shared → Prop}, Q (.ref hp.objs.size) ⟨hp.push o, g, d, tk, os⟩ → wpAny (model prog w) A' (pyIter v) Q E ⟨hp, g, d, tk, os⟩ := fun q => B.iter prog w _ _ ⟨hp, g, d, tk, os⟩ _ h1 q
    wp_walk using it1
    refine wpAny_stack_any fun st => wpAny_pure ?_
    split
    · rename_i c _ _ _ _ _
      cases (c == Value.type "enumerate") <;> (wp_walk using it1; exact ⟨_, rfl, hR⟩)
    · (wp_walk using it1; exact ⟨_, rfl, hR⟩)
theorem enumCall {prog : Program} {w : World} {A : Around} {E : Value → Shared → Prop} {s : Shared} {v : Value} {o : Obj} {Hh : Heap → Prop} {Q : Value → Shared → Prop} (B : Begins v o Hh) (h1 : Hh s.heap)
    (h : ∀ h', IsEnum h' (s.heap.objs.size + 1) s.heap.objs.size 0 .none → h'.get? s.heap.objs.size = some o → (∀ b ob, s.heap.get? b = some ob → h'.get? b = some ob) → Q (.ref (s.heap.objs.size + 1)) { s with heap := h' }) :
    wpAny (model prog w) A (call (.type "enumerate") [v]) Q E s := by
  refine callType_new F.called_enumerate (by decide) (F.typeCall_enumerate_1 _) (F.newCall_enumerate_1 _) (fun obj => F.args_object_init_2 obj _) F.entry_enumerate_new (enumNew B) ⟨h1, ?_⟩
  have hz : (s.heap.push o).objs.size = s.heap.objs.size + 1 := Heap.size_push ..
  show _ ∧ _
  rw [hz]
  have he : IsEnum ((s.heap.push o).push { cls := .type "enumerate", data := .fields #[.none, .bool false, .ref s.heap.objs.size, rawInt 0, .none, .none] }) (s.heap.objs.size + 1) s.heap.objs.size 0 .none := by
    have q := Heap.get?_push_size (s.heap.push o) (o := { cls := .type "enumerate", data := .fields #[.none, .bool false, .ref s.heap.objs.size, rawInt 0, .none, .none] }) rfl
    rw [hz] at q
    exact q
  exact ⟨⟨_, he, rfl⟩, h _ he (Heap.get?_push_of_some _ (Heap.get?_push_size _ B.free)) fun b ob x => Heap.get?_push_of_some _ (Heap.get?_push_of_some _ x)⟩
/-- the tuple at a, each item in a new pair -/
def ItE (K : PySem.W.Frag) (a : Addr) : It :=
  ⟨fun i H => ∃ (xs : List V) (x : V), SqT K H a xs ∧ xs[i]? = some x,
   fun i H v H' => ∃ T x, v = .ref T ∧ H T = none ∧ H' = upd H T (.tup [.int (i : Nat), x]) ∧ ∀ xs, SqT K H a xs → xs[i]? = some x,
   fun i H => ∃ xs : List V, SqT K H a xs ∧ xs.length ≤ i⟩
theorem turnE {P : Program} {w : World} {K : PySem.W.Frag} {elts : List Expr} {kk : Nat} {tpos : Pos} (a e it : Addr) :
    Turn P w K (.Tuple elts kk tpos) (ItE K a) [e, it] e (fun i h => (∃ old, IsEnum h e it ((i : Nat) : Int) old) ∧ h.IsTupleIter it a i ∧ e ≠ it ∧ a ≠ it ∧ a ≠ e) where
  mem := by simp
  obj := fun i h st b hb => by
    obtain ⟨⟨old, he⟩, ⟨o, ho, hc, hd⟩, _⟩ := st
    rcases (show b = e ∨ b = it by simpa using hb) with z | z
    · subst z; exact ⟨_, he, fun v q => nomatch q⟩
    · subst z; exact ⟨o, ho, fun v q => by rw [hd] at q; cases q⟩
  keep := fun i h h' st k => by
    obtain ⟨⟨old, he⟩, hi, n1⟩ := st
    exact ⟨⟨old, k e (by simp) _ he⟩, hi.at fun o q => k it (by simp) o q, n1⟩
  item := by
    intro X hP hw hK hc i pins s σ H E I hf st hg
    subst hP hw hK
    obtain ⟨⟨old, he⟩, hit, hne, ha1, ha2⟩ := st
    obtain ⟨xs, x, hq, hx⟩ := hg
    obtain ⟨its, rv, p, hz⟩ := I.tuple hq
    obtain ⟨u, hu, ru⟩ := rv.get hx
    have hlen : i < its.toArray.size := by
      rw [List.size_toArray]
      exact (List.getElem?_eq_some_iff.mp hu).1
    have D := Draws.tuple (prog := X.prog) (w := X.w) (A := X.A.in1) (by have q := I.ok.hd hc; exact q) it a ha1 its.toArray
    have hel : e < s.heap.objs.size := Heap.lt_size he
    have hil : it < s.heap.objs.size := by obtain ⟨_, q, _⟩ := hit; exact Heap.lt_size q
    refine wpAny_pyNext_enum_itemC D he ⟨hit, p⟩ hlen hne (by simp [hne, Ne.symm ha2]) fun y h' tk hP ho st' hT hsz hk => ?_
    have ey : y = u := by
      have z : its.toArray[i]? = some u := by simpa using hu
      exact Option.some.inj (hP.symm.trans z)
    subst ey
    refine ⟨_, rfl, wpAny_letOwnedTupleGo_enum (s := { s with heap := h', toks := tk + 1 }) ho fun h'' he' sb => ?_⟩
    have hT2 : h''.get? s.heap.objs.size = some { cls := .type "tuple", data := .seq #[.int i tk, y] } := (sb.2 _ (Nat.ne_of_gt hel)).trans hT
    have new : ObjOk X.prog X.w (upd H s.heap.objs.size (.tup [.int (i : Nat), x])) h'' s.heap.objs.size (.tup [.int (i : Nat), x]) :=
      ⟨by show 2 ≤ sizeLine; decide, [.int i tk, y], .cons ⟨_, rfl⟩ (.cons ru .nil), ⟨_, hT2, rfl, _, rfl⟩⟩
    have I1 : Inv X pins σ (upd H s.heap.objs.size (.tup [.int (i : Nat), x])) { s with heap := h'', toks := tk + 1 } :=
      I.turnedNew (ch := [e, it]) (fun b ob hb q => by
        have hb' : b ≠ e ∧ b ≠ it := by simpa using hb
        exact (sb.2 b hb'.1).trans (hk b ob hb'.1 hb'.2 q)) hf (Nat.le_refl _) new
    refine ⟨.ref s.heap.objs.size, _, I1, rfl, ⟨_, x, rfl, I.hok.fresh (Nat.le_refl _), rfl, fun ys hy => by rw [I.tuple_inj hy hq]; exact hx⟩, ⟨⟨y, ?_⟩, st'.1.at fun o q => (sb.2 it (Ne.symm hne)).trans q, hne, ha1, ha2⟩, fun b hb => ?_⟩
    · have e1 : ((i + 1 : Nat) : Int) = (i : Int) + 1 := by omega
      rw [e1]
      exact he'
    · have hb' : b < s.heap.objs.size := by
        rcases (show b = e ∨ b = it by simpa using hb) with z | z <;> (rw [z]; assumption)
      rw [upd_ne (Nat.ne_of_lt hb')]
      exact (hf b hb).1
  done := by
    intro X hP hw hK hc i pins s σ H E I hf st hg
    subst hP hw hK
    obtain ⟨⟨old, he⟩, hit, hne, ha1, ha2⟩ := st
    obtain ⟨xs, hq, hx⟩ := hg
    obtain ⟨its, rv, p, hz⟩ := I.tuple hq
    obtain ⟨f0, f1, f2, f3, f4, f5⟩ := hf it (by simp)
    have hl := rv.length
    have hT : s.TypeIs (.ref e) "enumerate" := ⟨_, he, rfl⟩
    unfold pyNext
    refine wpAny_bind (wpAny_attempt (wpAny_callSpecial?_slot (name := Str.ofString "__next__") hT F.slot_enumerate_next (wpAny_call_entry F.slot_enumerate_next hT F.entry_enumerate_next ?_ (F.args_enumerate_next_1 _))))
    show wpAny _ _ (field (.ref e) 2 >>= _) _ _ _
    refine wpAny_bind (wpAny_field he rfl (x := .ref it) rfl ?_)
    refine wpAny_bind (wpAny_nextOf_tuple_end (I.ok.hd hc) hit p (by simp; omega) fun h' x he' hx' => ?_)
    obtain ⟨o, ho, hcl⟩ := hx'
    refine wpAny_bind (wpAny_isInstance (T := "StopIteration") (b := true) ⟨o, ho, hcl⟩ isSubtype_stop ?_)
    exact wpAny_pure ⟨rfl, I.turned (t' := s.toks) (fun b ob hb q => he' b ob hb q) f0 f1 f3 f4 f5⟩
  self := fun A i s Q E st h => by
    obtain ⟨⟨_, he⟩, _⟩ := st
    exact wpAny_pyIter_enum he h
/-- for i, x in enumerate(t), t a tuple -/
def iEnumT (K : PySem.W.Frag) (ta : TA) : TI := fun σ H R => ta σ H fun vs H1 => ∃ a xs, vs = [.ref a] ∧ SqT K H1 a xs ∧ R (ItE K a) H1
theorem pi_enumT {X : Cx} {e : Expr} {ta : TA} {p pos tpos : Pos} {elts : List Expr} {kk : Nat} (hg : Gl X "enumerate") (hm : X.mg "enumerate" = none) (ha : PA X [e] ta) (hs : starEach [e] X.env = [(false, eval e X.env)] := by rfl) :
    PI X (.Tuple elts kk tpos) (.Call (.Name "enumerate" p) [e] [] pos) (iEnumT X.K ta) := by
  refine ⟨fun pins s σ H R I h => ?_⟩
  refine Call_ (ld_blt I hg hm boot_enumerate (PyProof.Rows.callWith_type1 (thn (ha.run pos pins s σ H _ I h) fun us s1 ⟨vs, H1, I1, r1, a, xs, ex, hq, q⟩ => ?_) hs rfl))
  subst ex
  cases r1 with
  | cons r rr =>
    cases rr
    cases r
    obtain ⟨its, rv, p', hz⟩ := I1.tuple hq
    have hal : a < s1.heap.objs.size := by obtain ⟨_, z, _⟩ := p'; exact Heap.lt_size z
    refine enumCall (begins_tuple a its.toArray) p' fun h' he hit hk => wpAny_pyIter_enum he ?_
    have I2 : Inv X pins σ H1 { s1 with heap := h' } := I1.kept (t' := s1.toks) hk
    refine ⟨s1.heap.objs.size + 1, [s1.heap.objs.size + 1, s1.heap.objs.size], _, _, H1, rfl, I2, turnE a (s1.heap.objs.size + 1) s1.heap.objs.size, ⟨⟨.none, he⟩, ⟨_, hit, rfl, rfl⟩, Nat.succ_ne_self _, Nat.ne_of_lt hal, Nat.ne_of_lt (Nat.lt_succ_of_lt hal)⟩, fun b hb => ?_, q⟩
    have hle : s1.heap.objs.size ≤ b := by
      rcases (show b = s1.heap.objs.size + 1 ∨ b = s1.heap.objs.size by simpa using hb) with z | z <;> (rw [z]; first | exact Nat.le_refl _ | exact Nat.le_add_right _ _)
    exact I1.fpOk hle (I1.hok.fresh hle)
theorem walkE {K : PySem.W.Frag} {a : Addr} {xs : List V} : Walk (ItE K a) xs.length (fun H => SqT K H a xs) (YPair (fun i => some (.int (i : Nat))) (fun i => xs[i]?)) :=
  ⟨fun i H hi h => ⟨xs, xs[i], h, by simp [hi]⟩, fun H h => ⟨xs, h, Nat.le_refl _⟩, fun i H x H' hi h y => by
    obtain ⟨T, z, e1, e2, e3, e4⟩ := y
    exact ⟨T, _, z, e1, e2, e3, rfl, e4 xs h⟩⟩
end Sy
/-! super().__init__(..) as the first row of an own error's __init__ (own rule) -/
namespace Sy
open PySem PySem.Spec PyProof.Rows L2 NdefX
/-- what the written part says of the error's class at D and its __init__ at f (its cell at cc, its code at cd) -/
structure SupF (P : Program) (K : PySem.W.Frag) (D f cc cd : Addr) (qual : Str) (pa : Arguments) (bo : List Stmt) (sc : Scope) (fd : FuncData) : Prop where
  ex : ∃ (oc : Value) (od : Option Addr) (dV kV doc pm : Value) (an : Option Addr) (ct : Value) (osl : Array (Option Value)),
    fd = PySem.W.fnX "__init__" qual pa bo sc [("__class__", cc)] dV kV doc pm an (.ref cd) ct ∧ K.lookup f = some ⟨oc, od, .func fd, osl⟩
  co : PySem.W.codeIn K (.ref cd) qual = true
  file : ∃ (cl : Value) (dd : Option Addr) (vs : Array Value) (sl : Array (Option Value)) (fi : Str) (tf : Tok), K.lookup cd = some ⟨cl, dd, .fields vs, sl⟩ ∧ vs[2]? = some (.str fi tf) ∧ ((P.main.file : Str) == fi) = true
  cell : ∃ (cl : Value) (dd : Option Addr) (sl : Array (Option Value)), K.lookup cc = some ⟨cl, dd, .cell (some (.ref D)), sl⟩
  isc : ∃ c, PySem.W.clsIn K D = some c
  sub : PySem.W.mroIn K D (.ref D) = some true
  sup : PySem.W.ks_superIn K D D "__init__" = some (some (.builtin "ValueError.__init__"))
  ve : PySem.W.subIn K (.ref D) (.type "ValueError") = some true
  opq : PySem.W.nsIn K cStatics "thirdparty.any" = some none
  oex : OexC K D
section
variable {P : Program} {w : World} {K : PySem.W.Frag} {mg : Str → Option Value} {base : Heap} {CX : CXT} {k : Nat} {D f cc cd : Addr} {qual : Str} {pa : Arguments} {bo rest : List Stmt} {sc : Scope} {fd : FuncData} {N ps : List Str} {sp : Sp} {e : Expr} {es : List Expr} {q0 q1 q2 q3 q4 : Pos} {p0 : Arg}
theorem fn_sup (T : SupF P K D f cc cd qual pa bo sc fd) (S : NScope N ps ["__class__"] sc) (hbo : bo = .Expr (.Call (.Attribute (.Call (.Name "super" q0) [] [] q1) "__init__" q2) (e :: es) [] q3) q4 :: rest)
    (hp : (pa.posonlyargs ++ pa.args).head? = some p0) (hps : N[0]? = some p0.arg) (hp1 : sc.names.lookup p0.arg = some .local) (hks : sc.names.lookup ("super" : Str) = some .globalImplicit) (mS : mg "super" = none) (top : (P.main.scope.names.lookup ("super" : Str)).isSome = false)
    (len : ∀ vs H Q E, sp vs H Q E → vs.length = ps.length)
    {pl : Sem Bool} (hev : ∀ env : Env, eval (.Call (.Attribute (.Call (.Name "super" q0) [] [] q1) "__init__" q2) (e :: es) [] q3) env = (do
      let ov ← attributeBase (.Call (.Name "super" q0) [] [] q1) "__init__" env (eval (.Call (.Name "super" q0) [] [] q1) env)
      standAt q2.atName
      let (f, first) ← holding [ov] (getMethod ov "__init__" pl)
      callWith q3 f first (backTo q3 (starEach (e :: es) env)) []))
    (he : ∀ env : Env, starEach (e :: es) env = (false, eval e env) :: starEach es env) (hpl : ∀ (env : Env) (pos : Pos), (backTo pos (starEach es env)).any (·.1) = false)
    (hbody : ∀ (A : Around) (outer : List Env) (s : Shared) (H : Hp) (vs : List V) (Q : VK) (E : XK), Room k (A.deeper (envF ⟨"__init__", qual, pa, bo, sc, [("__class__", cc)], cd⟩ f s.heap.objs.size)) → sp vs H Q E →
      ∃ ta t, PA (ncx CX P w K mg base N ⟨"__init__", qual, pa, bo, sc, [("__class__", cc)], cd⟩ f A outer s H E) (e :: es) ta ∧ PSs (ncx CX P w K mg base N ⟨"__init__", qual, pa, bo, sc, [("__class__", cc)], cd⟩ f A outer s H E) rest t ∧
        ∃ a vr, vs = .ref a :: vr ∧ H a = some (exo a D none) ∧ ta (startF N vs [some (.ref D)]) H fun ws H1 => ws.length ≤ 1000 ∧ H1 a = some (exo a D none) ∧ t { nx := fun _ H' => Q .non H', rt := Q } (startF N vs [some (.ref D)]) H1) :
    FnOk P w K mg base CX (k + 1) f fd ps sp := by
  obtain ⟨oc, od, dV, kV, doc, pm, an, ct, osl, rfl, lk⟩ := T.ex
  refine ⟨len, fun A outer s H args us vs Q E hr e0 hb r hsp => ?_⟩
  have hl := len _ _ _ _ hsp
  have KX : K.In s.heap := e0.mod.kin.keeps fun b o e => (e0.bs b o e).1
  have lim : s.heap.NoLimit := e0.mod.nolimit.keeps fun b o e => (e0.bs b o e).1
  obtain ⟨cl1, dd1, sl1, hcell⟩ := T.cell
  have hcn : H cc = none := (e0.bs _ _ (e0.mod.kin _ _ hcell)).2
  have CA : CellsAt [("__class__", cc)] ["__class__"] [some (.ref D)] s.heap H := by
    refine ⟨rfl, fun y c e => ?_, fun x y c e1 e2 => ?_, fun i y hi => ?_⟩
    · simp only [List.lookup] at e
      split at e
      · cases e; exact ⟨hcn, _, _, KX _ _ hcell, rfl⟩
      · cases e
    · simp only [List.lookup] at e1 e2
      split at e1
      · split at e2
        · rename_i z1 _ z2
          exact (beq_iff_eq.mp z1).trans (beq_iff_eq.mp z2).symm
        · cases e2
      · cases e1
    · cases i with
      | zero =>
        cases hi
        refine ⟨cc, rfl, fun v ev => ?_⟩
        cases ev
        exact ⟨.ref D, rfl, _, KX _ _ hcell, rfl⟩
      | succ n => simp at hi
  obtain ⟨ta, t, hA, hS, a, vr, rfl, hea, hq⟩ := hbody A outer s H _ Q E (hr.deeper _) hsp
  refine ks_codeAny_call_defAt hr.depth (KX _ _ lk) rfl lim (PySem.W.codeRec_of KX T.co) rfl hb S.nocell (fun ⟨n, _⟩ hy => S.par n (List.of_mem_zip hy).1) (fun h0 hns hk => ?_) S.co S.gen S.kind
  have I : Inv (ncx CX P w K mg base N ⟨"__init__", qual, pa, bo, sc, [("__class__", cc)], cd⟩ f A outer s H E) [] (startF N (.ref a :: vr) [some (.ref D)]) H { s with heap := h0, toks := s.toks + (ps.zip us).length } := inv_startN S hr.hd e0 hl r CA hns hk
  show _root_.PySem.wpAt _ (A.deeper (envF ⟨"__init__", qual, pa, bo, sc, [("__class__", cc)], cd⟩ f s.heap.objs.size)) (.func bo (envF ⟨"__init__", qual, pa, bo, sc, [("__class__", cc)], cd⟩ f s.heap.objs.size)) (execs bo (envF ⟨"__init__", qual, pa, bo, sc, [("__class__", cc)], cd⟩ f s.heap.objs.size)) _ _ _
  generalize hX : ncx CX P w K mg base N ⟨"__init__", qual, pa, bo, sc, [("__class__", cc)], cd⟩ f A outer s H E = X at *
  have hXe : X.env = envF ⟨"__init__", qual, pa, bo, sc, [("__class__", cc)], cd⟩ f s.heap.objs.size := by rw [← hX] <;> rfl
  have hXA : X.A = A.deeper (envF ⟨"__init__", qual, pa, bo, sc, [("__class__", cc)], cd⟩ f s.heap.objs.size) := by rw [← hX] <;> rfl
  have hK : X.K = K := by rw [← hX] <;> rfl
  have hP : X.prog = P := by rw [← hX] <;> rfl
  have hW : X.w = w := by rw [← hX] <;> rfl
  have hmg : X.mg = mg := by rw [← hX] <;> rfl
  have hN : X.N = N := by rw [← hX] <;> rfl
  have hxe : X.xe = fun e s' => wpAny (model P w) (A.deeper (envF ⟨"__init__", qual, pa, bo, sc, [("__class__", cc)], cd⟩ f s.heap.objs.size)) (leaving (envF ⟨"__init__", qual, pa, bo, sc, [("__class__", cc)], cd⟩ f s.heap.objs.size) e) (fun _ s'' => CX outer H s E e s'') (fun e' s'' => CX outer H s E e' s'') s' := by rw [← hX] <;> rfl
  have hs0 : X.s_0 = s := by rw [← hX] <;> rfl
  have hH0 : X.H_0 = H := by rw [← hX] <;> rfl
  have hstk : X.stack = envF ⟨"__init__", qual, pa, bo, sc, [("__class__", cc)], cd⟩ f s.heap.objs.size :: outer := by rw [← hX] <;> rfl
  have hfs : X.fs = frs outer := by rw [← hX] <;> rfl
  have hex : X.ex = [] := by rw [← hX] <;> rfl
  obtain ⟨cl2, dd2, vs2, sl2, fi, tf, hcode, hvs, hfi⟩ := T.file
  obtain ⟨cdD, hcd⟩ := T.isc
  obtain ⟨m, hm, hlook⟩ := I.loc
  obtain ⟨u0, ru0, hu0⟩ := hlook 0 p0.arg (.ref a) (by rw [hN]; exact hps) rfl (by rw [hXe]; exact .inl hp1)
  obtain rfl : u0 = Value.ref a := ru0
  have hself : m p0.arg = some (.ref a) := by
    rcases hu0 with ⟨_, z⟩ | ⟨z, _⟩
    · exact z
    · rw [hXe] at z
      have z1 : sc.names.lookup p0.arg = some .cell ∨ sc.names.lookup p0.arg = some .free := z
      rw [hp1] at z1
      rcases z1 with z1 | z1 <;> cases z1
  have kin : K.In h0 := by have q := I.kIn; rw [hK] at q; exact q
  rw [hXe] at hm
  subst hbo
  refine ks_wpAt_execs_cons (ks_wpAt_Expr_any (ks_wpAt_MethodCall ?_ (hev _)) (hi := by simp [interactive, S.kind]))
  obtain ⟨oD, hD1, hD2⟩ : ∃ oD, h0.get? D = some oD ∧ oD.data = .cls cdD := by
    unfold PySem.W.clsIn at hcd
    split at hcd
    · rename_i c d cd' sl ho
      cases hcd
      exact ⟨_, kin _ _ ho, rfl⟩
    · cases hcd
  obtain ⟨t1, hoe⟩ := exo_at I.hok hea
  have IA : PySem.W.InstAt h0 a ({ cls := .ref D, dict := none, data := .fields #[.ref t1, .none, .none, .none, .bool false, .none] } : Obj) D none := ⟨hoe, rfl, rfl, trivial⟩
  refine ks_wpAt_super_base hks (S.frk _ List.mem_cons_self) (by decide) rfl (hk _ _ (KX _ _ lk)) rfl hp rfl (hk _ _ (KX _ _ hcode)) rfl hvs hfi top ?_
  obtain ⟨mb, hb1, hb2⟩ := I.mod.blt
  have hbs : mb "super" = some (.type "super") := (hb2 ("super" : Str) (by decide)).trans (by first | boot_by_name | rfl | decide +kernel)
  refine PySem.W.ks_loadName_global S.kind hks (PySem.Calls.loadGlobal_builtin (mg := mg) (by have q := I.mod.glob.keeps I.bk; rw [hmg] at q; exact q) mS (hb1.keeps I.bk) hbs ⟨rfl, ?_⟩)
  refine wpAny_loadName_free S.kind (S.frk _ List.mem_cons_self) rfl ⟨_, kin _ _ hcell, rfl⟩ ?_
  refine wpAny_loadName_local S.kind hp1 hm hself ?_
  refine ks_wpAny_isType_cls hD1 hD2 ⟨rfl, ?_⟩
  refine ks_wpAny_call_super hD1 hD2 hoe rfl (fun c z => by cases z) (PySem.W.looks_mroIn kin T.sub) (fun h1 hso kp1 => ?_)
  have I1 := I.kept (h' := h1) (t' := s.toks + (ps.zip us).length) kp1
  have kin1 : K.In h1 := by have q := I1.kIn; rw [hK] at q; exact q
  have hoe1 := kp1 _ _ hoe
  have hsup := T.sup
  unfold PySem.W.ks_superIn at hsup
  rw [hcd] at hsup
  have IA1 : PySem.W.InstAt h1 a ({ cls := .ref D, dict := none, data := .fields #[.ref t1, .none, .none, .none, .bool false, .none] } : Obj) D none := ⟨hoe1, rfl, rfl, trivial⟩
  refine PySem.W.kxs_getMethod PySem.W.kxs_ValueError hso (PySem.W.looks_opaque kin1 T.opq) (l₀ := cdD.mro) (fun A Q E s k q => wpAny_bind ((PySem.W.looks_clsIn kin1 hcd) A _ E s k (wpAny_pure q))) rfl kin1 hsup (IA1.type.andThen (PySem.W.looks_subIn kin1 T.ve)) (PySem.W.ks_ne kin1 IA1 hcd) (by decide) ?_
  have kp2 : ∀ b o, h1.get? b = some o → (h1.push (PySem.W.kxs_mw "ValueError.__init__" a)).get? b = some o := fun b o z => Heap.get?_push_of_some _ z
  have hu : (h1.push (PySem.W.kxs_mw "ValueError.__init__" a)).get? h1.objs.size = some (PySem.W.kxs_mw "ValueError.__init__" a) := Heap.get?_push_at rfl rfl
  have I2 := I1.kept (h' := h1.push (PySem.W.kxs_mw "ValueError.__init__" a)) (t' := s.toks + (ps.zip us).length + 1) kp2
  have hfresh : H h1.objs.size = none := I1.hok.fresh (Nat.le_refl _)
  have hsz : h1.objs.size ≠ X.env.locals := Nat.ne_of_gt I1.lt
  have I3 : Inv X [(h1.objs.size, PySem.W.kxs_mw "ValueError.__init__" a)] (startF N (.ref a :: vr) [some (.ref D)]) H ⟨h1.push (PySem.W.kxs_mw "ValueError.__init__" a), s.gens, s.drawn, s.toks + (ps.zip us).length + 1, s.os⟩ := I2.pins_of fun p hp => by
    have hp' : p = (h1.objs.size, PySem.W.kxs_mw "ValueError.__init__" a) := by simpa using hp
    subst hp'
    exact ⟨hu, hfresh, hsz, I1.nofs (Nat.le_refl _), fun v z => by cases z⟩
  rw [← hP, ← hW]
  rw [he]
  refine PySem.W.kxs_callWith (i := "ValueError.__init__") (x := a) (by show (false || (backTo q3 (starEach es _)).any (·.1)) = false; rw [hpl]; rfl) ?_
  have hA2 := hA.run q3 _ _ _ _ (fun ws H1 => ws.length ≤ 1000 ∧ H1 a = some (exo a D none) ∧ t { nx := fun _ H' => Q .non H', rt := Q } (startF N (.ref a :: vr) [some (.ref D)]) H1) I3 hq
  rw [hXe, he, hXA, hxe] at hA2
  refine PySem.Calls.evalArgs_plain (wpAny_mono hA2 (fun us3 s3 h3 => ?_) (fun _ _ z => by rw [hP, hW]; exact z))
  obtain ⟨ws, H3, J, rv, hlen, hea3, hq3⟩ := h3
  have hu3 : s3.heap.get? h1.objs.size = some (PySem.W.kxs_mw "ValueError.__init__" a) := (J.pin _ (List.mem_append_right _ (List.mem_singleton.mpr rfl))).1
  refine ⟨hu3, ?_⟩
  have J0 : Inv X [] (startF N (.ref a :: vr) [some (.ref D)]) H3 s3 := J.pins_of fun p hp => by simp at hp
  have hus : us3.length ≤ sizeLine := by
    rw [← rv.length, sizeLine_eq]
    omega
  show wpAny _ _ (call (.ref h1.objs.size) us3) _ _ s3
  obtain ⟨nm, q, Nn, bs, bm, sn, sub, ab, col, dd, k0, k1, k2, k3, k5, hC, hbm⟩ := T.oex.cls
  have kin3 : K.In s3.heap := by have q := J0.kIn; rw [hK] at q; exact q
  obtain ⟨t3, ho3⟩ := exo_at J0.hok hea3
  obtain ⟨hp3, g3, d3, tk3, os3⟩ := s3
  refine wpAny_call (codeAny_of_tree ?_)
  show wpAny _ _ (callAny (.ref h1.objs.size) ⟨us3, []⟩) _ _ _
  simp only [callAny]
  refine wpAny_bind (wpAny_load hu3 ?_)
  simp only [PySem.W.kxs_mw, show (Value.type "method-wrapper" == Value.type "method" || Value.type "method-wrapper" == Value.type "builtin_function_or_method" || Value.type "method-wrapper" == Value.type "method-wrapper") = true by decide, if_true]
  refine PySem.W.KFB.if_so (by decide) ?_
  refine wpAny_bind (PySem.W.check_bound_init F.excBase_ValueError.toExcCallFacts (kin3 _ _ hC) ho3 rfl ?_)
  refine wpAny_bind (wpAny_pure (wpAny_pure ?_))
  refine ⟨plainId_quiet F.excBase_ValueError.init.plain _, codeAny_builtin F.excBase_ValueError.initEntry ?_⟩
  refine PySem.W.exc_init_tree (cls := .ref D) (t0 := t3) (dv := none) (c2 := .none) (c3 := .none) (b4 := .bool false) ho3 hus fun h4 kp4 hx4 _ => ?_
  have J4 := J0.write (t' := tk3) (x := a) (e := a) (o := exo a D none) (by rw [hea3]; exact True.intro) (.inl rfl) kp4 ⟨_, hx4⟩ (exo_ok hx4)
  have eu : upd H3 a (exo a D none) = H3 := by
    funext b
    by_cases hb : b = a
    · rw [hb, upd_same, hea3]
    · rw [upd_ne hb]
  rw [eu] at J4
  have hS4 := hS.run _ _ _ _ { nx := fun _ H' => Q .non H', rt := Q } J4 hq3
  rw [hXe, hXA, hxe, hP, hW] at hS4
  show _root_.PySem.wpAt _ _ _ _ _ _ _
  rw [hP, hW]
  refine wpAt_of_wpAny (wpAny_mono hS4 (fun fl s' hs => ?_) fun _ _ z => z)
  have fin : ∀ {σ' : L2.St} {H' : Hp} {v : V} {u : Value}, Inv X [] σ' H' s' → RelV v u → Q v H' → CE outer P w H s Q u s' := fun {σ' H' v u} J rv q => by
    have b1 := J.base
    have o1 := J.os
    have k1 := J.hok
    rw [hfs, hex, hH0, hs0] at b1
    rw [hs0] at o1
    rw [hP, hW] at k1
    exact ⟨v, H', o1, J.bare, b1, k1, rv, q⟩
  cases fl with
  | ret u =>
    obtain ⟨v, σ', H', J, rv, q⟩ := hs
    exact fin J rv q
  | next =>
    obtain ⟨σ', H', J, q⟩ := hs
    exact fin (v := V.non) (u := Value.none) J rfl q
  | brk =>
    obtain ⟨_, _, _, q⟩ := hs
    exact False.elim q
  | cont =>
    obtain ⟨_, _, _, q⟩ := hs
    exact False.elim q
end
end Sy
/-! tuple.count, tuple * int of any size, a tuple of ints in an f-string (own rules) -/
namespace Sy
open PySem PySem.Spec PyProof.Rows L2
open AutoSeq1 (wpAny_loadPart')
section
variable {X : Cx}
/-- t.count(y), all flat -/
def rTCnt (K : PySem.W.Frag) : V → List V → Hp → VK → Prop := fun x xs H Q => ∃ (a : Addr) (ys : List V) (y : V), x = V.ref a ∧ xs = [y] ∧ SqT K H a ys ∧ flatV y = true ∧ ys.all flatV = true ∧ Q (.int (ys.countP fun z => eqV z y : Nat)) H
theorem countU {y : V} : ∀ {ys : List V} {its : List Value}, Vals ys its → ys.all flatV = true → its.countP (eqU y) = ys.countP fun z => eqV z y
  | [], _, r, _ => by cases r; rfl
  | z :: ys, _, r, f => by
    cases r with
    | cons r1 r2 =>
      have f' := Bool.and_eq_true_iff.mp (show (flatV z && ys.all flatV) = true from f)
      rw [List.countP_cons, List.countP_cons, countU r2 f'.2, eqU_of r1 f'.1]
theorem mt_tcount : MtR X "tuple.count" (rTCnt X.K) := by
  intro pins s σ H x xs v us Q I rx rxs h
  obtain ⟨a, ys, y, rfl, rfl, hs, fy, fys, q⟩ := h
  cases rx
  cases rxs with
  | cons ry rt =>
    rename_i uy ut
    cases rt
    obtain ⟨its, rv, ⟨⟨cls, dd, data, sl⟩, ho, hc, n, hd⟩, hlen⟩ := I.tuple hs
    simp only at hc hd
    subst hc hd
    refine call_meets PySem.F.slot_tuple_count ⟨_, ho, rfl⟩ PySem.F.entry_tuple_count (PySem.F.args_tuple_count_2 _ _) (SeqAt.tuple_countAt a its.toArray n dd sl uy (eqU y)) ⟨ho, fun u' hu' => mem_eqAt ry fy rv fys u' (by simpa using hu'), ?_⟩
    have e1 : its.toArray.toList.countP (eqU y) = ys.countP fun z => eqV z y := by
      rw [← countU rv fys]
    rw [e1]
    exact ⟨.int (ys.countP fun z => eqV z y : Nat), H, I.tok _, ⟨_, rfl⟩, q⟩
/-! tuple * int -/
theorem tupMul1 (l : Addr) (items : Array Value) (n : Nat) (dd : Option Addr) (sl : Array (Option Value)) (x : Int) (u : Tok) (c0 : (decide (x < -(2 ^ 63)) || decide (x ≥ 2 ^ 63)) = false) (c1 : (items.isEmpty || x == 1) = true) :
    Meets (Builtin.«tuple.__mul__» ⟨[.ref l, .int x u], []⟩) (fun _ R s => s.heap.get? l = some { cls := .type "tuple", dict := dd, data := .seq items n, slots := sl } ∧ R (.ok (.ret (Value.ref l))) s) :=
  .of_wp fun prog w A R s h => by
    obtain ⟨hp, g, d, tk, os⟩ := s
    obtain ⟨hl, h⟩ := h
    have f1 := AutoSeq1.idx_int
    wp_walk using wpAny_loadPart' hl
    repeat (first
      | (refine wpAny_ite_false (decide_eq_false (by rw [c0]; exact Bool.false_ne_true)) ?_; wp_walk using wpAny_loadPart' hl)
      | (refine wpAny_ite_true (decide_eq_true c1) ?_; wp_walk using wpAny_loadPart' hl))
    all_goals exact ⟨_, rfl, h⟩
theorem tupMul0 (l : Addr) (items : Array Value) (n : Nat) (dd : Option Addr) (sl : Array (Option Value)) (x : Int) (u : Tok) (c0 : (decide (x < -(2 ^ 63)) || decide (x ≥ 2 ^ 63)) = false) (c1 : (items.isEmpty || x == 1) = false) (c2 : (decide (x ≤ 0) || items.isEmpty) = true) :
    Meets (Builtin.«tuple.__mul__» ⟨[.ref l, .int x u], []⟩) (fun _ R s => s.heap.get? l = some { cls := .type "tuple", dict := dd, data := .seq items n, slots := sl } ∧
      R (.ok (.ret (Value.ref s.heap.objs.size))) { s with heap := s.heap.push { cls := Value.type "tuple", data := Data.seq #[] } }) :=
  .of_wp fun prog w A R s h => by
    obtain ⟨hp, g, d, tk, os⟩ := s
    obtain ⟨hl, h⟩ := h
    have f1 := AutoSeq1.idx_int
    wp_walk using wpAny_loadPart' hl
    repeat (first
      | (refine wpAny_ite_false (decide_eq_false (by rw [c0]; exact Bool.false_ne_true)) ?_; wp_walk using wpAny_loadPart' hl)
      | (refine wpAny_ite_false (decide_eq_false (by rw [c1]; exact Bool.false_ne_true)) ?_; wp_walk using wpAny_loadPart' hl)
      | (refine wpAny_ite_true (decide_eq_true c2) ?_; wp_walk using wpAny_loadPart' hl))
    all_goals exact ⟨_, rfl, h⟩
/-- t * k: t itself where k is 1 or t is empty -/
def rRepG (K : PySem.W.Frag) : R2 := fun x y H Q => ∃ l k xs, x = .ref l ∧ y = .int k ∧ SqT K H l xs ∧ -(2 ^ 63) ≤ k ∧ k < 2 ^ 63 ∧ xs.length * k.toNat ≤ 1000000 ∧ xs.length ≤ 1000000 ∧
  ((xs = [] ∨ k = 1) → Q (.ref l) H) ∧ (¬(xs = [] ∨ k = 1) → ∀ p, H p = none → Q (.ref p) (upd H p (.tup (List.replicate k.toNat xs).flatten)))
theorem op_repG : OpR X (binaryOp .Mult) (rRepG X.K) := by
  intro pins s σ H x y v u Q I rx ry h
  obtain ⟨l, k, xs, rfl, rfl, hT, h1, h2, hz, hzl, qa, qb⟩ := h
  cases rx
  obtain ⟨t, rfl⟩ := ry
  obtain ⟨its, r, ⟨⟨cls, dd, data, sl⟩, ho, hc, n, hd⟩, hs⟩ := I.tuple hT
  simp only at hc hd
  subst hc hd
  have hle : its.length = xs.length := r.length.symm
  have c0 : (decide (k < -(2 ^ 63)) || decide (k ≥ 2 ^ 63)) = false := by
    rw [decide_eq_false (by omega), decide_eq_false (by omega)] <;> rfl
  have run : ∀ {Bb : Builtin} {R : Value → Shared → Prop}, Builtin.«tuple.__mul__» = Bb → wpAny (model X.prog X.w) X.A (call (.builtin "tuple.__mul__") [.ref l, .int k t]) R X.xe s → wpAny (model X.prog X.w) X.A (binaryOp .Mult (.ref l) (.int k t)) R X.xe s := fun _ hw =>
    wpAny_binaryOp_repeat_ref (T := "tuple") (U := "int") (by decide) ⟨_, ho, rfl⟩ (fun s' => typeIs_int s' k t) noFill_tuple_mul F.fills_int_mul F.slot_int_rmul repeat_tuple F.slot_int_index.lookup
      (call_meets F.slot_int_rmul (typeIs_int s k t) F.entry_int_rmul (F.args_int_rmul_2 _ _) (int_rmul_tuple k t l its.toArray n dd sl) ⟨ho, rfl, ⟨_, ho, rfl⟩, hw⟩)
  have eE : its.toArray.isEmpty = decide (xs = []) := by
    cases xs with
    | nil => cases r; rfl
    | cons a b => cases r; rfl
  by_cases hc : xs = [] ∨ k = 1
  · refine run rfl (call_meets F.slot_tuple_mul ⟨_, ho, rfl⟩ F.entry_tuple_mul (F.args_tuple_mul_2 _ _) (tupMul1 l its.toArray n dd sl k t c0 ?_) ⟨ho, ?_⟩)
    · rw [eE]
      rcases hc with hc | hc
      · rw [decide_eq_true hc, Bool.true_or]
      · rw [hc]
        exact Bool.or_true _
    · exact ⟨.ref l, H, I, rfl, qa hc⟩
  · have c1 : (its.toArray.isEmpty || k == 1) = false := by
      rw [eE, decide_eq_false (fun z => hc (.inl z)), Bool.false_or]
      exact beq_eq_false_iff_ne.mpr fun z => hc (.inr z)
    by_cases hk : k ≤ 0
    · refine run rfl (call_meets F.slot_tuple_mul ⟨_, ho, rfl⟩ F.entry_tuple_mul (F.args_tuple_mul_2 _ _) (tupMul0 l its.toArray n dd sl k t c0 c1 (by rw [decide_eq_true hk, Bool.true_or])) ⟨ho, ?_⟩)
      have e0 : k.toNat = 0 := by omega
      have q := qb hc _ (I.hok.fresh (Nat.le_refl _))
      rw [e0] at q
      refine ⟨.ref s.heap.objs.size, _, I.laid (t' := s.toks) (o := .tup (List.replicate 0 xs).flatten) (fun b ob q => Heap.get?_push_of_some _ q) (Nat.le_refl _) ?_, rfl, q⟩
      exact ⟨Nat.zero_le _, [], .nil, IsTup.new _ _⟩
    · have h3 : ((its.toArray.size : Nat) : Int) * k ≤ 1000000 := by
        rw [List.size_toArray, hle]
        have e1 : ((xs.length : Nat) : Int) * k = ((xs.length * k.toNat : Nat) : Int) := by
          rw [Int.natCast_mul, Int.toNat_of_nonneg (by omega)]
        rw [e1]
        generalize xs.length * k.toNat = m at hz ⊢
        omega
      have flen : (List.replicate k.toNat its).flatten.length ≤ 1000000 := by
        rw [PyProof.Rows.lm_len_rep_flat, hle, Nat.mul_comm]
        exact hz
      have sl24 := sizeLine_eq
      refine run rfl (call_meets F.slot_tuple_mul ⟨_, ho, rfl⟩ F.entry_tuple_mul (F.args_tuple_mul_2 _ _) (tuple_mulW l its.toArray n dd sl k t c0 c1 (by rw [decide_eq_false hk, Bool.false_or, eE]; exact decide_eq_false fun z => hc (.inl z)) (by omega) (by unfold Builtin.Tuple.tupleTooMany; exact decide_eq_false (by omega)) (by rw [size_rep, List.size_toArray]; omega)) ⟨ho, ?_⟩)
      rw [size_rep]
      refine ⟨.ref s.heap.objs.size, _, I.laid (t' := s.toks) (o := .tup (List.replicate k.toNat xs).flatten) (fun b ob q => Heap.get?_push_of_some _ q) (Nat.le_refl _) ?_, rfl, qb hc _ (I.hok.fresh (Nat.le_refl _))⟩
      exact ⟨by rw [PyProof.Rows.lm_len_rep_flat, Nat.mul_comm]; omega, _, r.rep k.toNat, IsTup.new _ _⟩
/-! a tuple of ints in an f-string -/
theorem reprInts {prog : Program} {w : World} : ∀ {l : List Int} {its : List Value}, Vals (l.map V.int) its → (∀ y ∈ l, y.natAbs.log2 < 1920) → ReprAll prog w its (l.map fun y => (toString y : Str))
  | [], _, r, _ => by
    cases r
    exact .nil
  | y :: l, _, r, h => by
    cases r with
    | cons r1 r2 =>
      obtain ⟨t, rfl⟩ := r1
      exact .cons (ReprIs.int t (h y List.mem_cons_self)) (reprInts r2 fun z hz => h z (List.mem_cons_of_mem _ hz))
theorem piledInts : ∀ l : List Int, (∀ y ∈ l, y.natAbs.log2 < 1920) → piled (l.map fun y => (toString y : Str)) ≤ 1923 * l.length
  | [], _ => Nat.zero_le _
  | y :: l, h => by
    have h1 := int_text_len_1921 (h y List.mem_cons_self)
    have h2 := piledInts l fun z hz => h z (List.mem_cons_of_mem _ hz)
    rw [List.map_cons, piled_cons, List.length_cons]
    omega
def tFmtI (K : PySem.W.Frag) (te : TE) : TE := fun σ H Q => te σ H fun x H1 => ∃ (a : Addr) (l : List Int), x = .ref a ∧ SqT K H1 a (l.map V.int) ∧ (∀ y ∈ l, y.natAbs.log2 < 1920) ∧ l.length ≤ 5000 ∧ ∀ m : Str, m.length ≤ 9700000 → Q (.str m) H1
theorem pe_fmtI {e : Expr} {te : TE} {pos : Pos} {k : Nat} (hr : Room k X.A) (he : PE X e te) : PE X (.FormattedValue e (-1) none pos) (tFmtI X.K te) := by
  refine ⟨fun pins s σ H Q I h => ?_⟩
  refine wpAny_FormattedValue_plain (thn (he.run pins s σ H _ I h) fun v s1 hv => ?_)
  obtain ⟨x, H1, I1, r1, a, l, rfl, ht, hc, hz, q⟩ := hv
  cases r1
  obtain ⟨its, rv, ⟨o, ho, hcl, n, hd⟩, _⟩ := I1.tuple ht
  have hp := piledInts l hc
  have htx := fmt_text (l.map fun y => (toString y : Str))
  have hu := hr.units
  have hsl := sizeLine_eq
  refine fmt_tuple (ts := l.map fun y => (toString y : Str)) (by omega) ho hcl hd (reprInts rv hc) (by omega) fun m u tk hm => ⟨.str m, H1, I1.tok _, ⟨u, rfl⟩, q m (by omega)⟩
end
end Sy
/-! own core: heaps, data that never changes, callables, forms of loops -/
namespace Sy
open PySem PySem.Spec PyProof.Rows L2
/-! ### heaps -/
theorem up_same {H : Hp} {p : Addr} {o : HO} (h : H p = none) : Same H (upd H p o) := fun b x e => by
  rw [upd_ne (ne_of_none e h)]
  exact e
theorem Same.sqt {K : PySem.W.Frag} {H H' : Hp} {a : Addr} {xs : List V} (e : Same H H') (h : SqT K H a xs) : SqT K H' a xs := by
  rcases h with (h | ⟨o, h⟩) | h
  · exact .inl (.inl (e _ _ h))
  · exact .inl (.inr ⟨o, e _ _ h⟩)
  · exact .inr h
/-- what is no list of one's own stays -/
def Stay (H H' : Hp) : Prop := ∀ a o, H a = some o → (∀ xs, o ≠ .lst xs) → H' a = some o
theorem Stay.of {H H' : Hp} (s : Same H H') : Stay H H' := fun a o h _ => s a o h
theorem Stay.refl (H : Hp) : Stay H H := fun _ _ h _ => h
theorem Stay.trans {H H1 H2 : Hp} (a : Stay H H1) (b : Stay H1 H2) : Stay H H2 := fun c o h n => b c o (a c o h n) n
theorem Stay.lst {H : Hp} {p : Addr} {xs : List V} {o : HO} (h : H p = some (.lst xs)) : Stay H (upd H p o) := fun a x e n => by
  rw [upd_ne]
  · exact e
  · intro z
    rw [z, h] at e
    exact n _ (Option.some.inj e).symm
theorem Stay.new {H : Hp} {p : Addr} {o : HO} (h : H p = none) : Stay H (upd H p o) := Stay.of (up_same h)
theorem Stay.sqt {K : PySem.W.Frag} {H H' : Hp} {a : Addr} {xs : List V} (e : Stay H H') (h : SqT K H a xs) : SqT K H' a xs := by
  rcases h with (h | ⟨o, h⟩) | h
  · exact .inl (.inl (e _ _ h fun _ z => by cases z))
  · exact .inl (.inr ⟨o, e _ _ h fun _ z => by cases z⟩)
  · exact .inr h
/-! ### data that never changes -/
mutual
inductive Im (K : PySem.W.Frag) (H : Hp) : V → PyData → Prop
  | non : Im K H .non .none
  | bl (b : Bool) : Im K H (.bl b) (.bool b)
  | int (i : Int) : Im K H (.int i) (.int i)
  | str (x : Str) : Im K H (.str x) (.str x)
  | tup {a : Addr} {xs : List V} {ds : List PyData} : SqT K H a xs → ImA K H xs ds → Im K H (.ref a) (.tuple ds)
inductive ImA (K : PySem.W.Frag) (H : Hp) : List V → List PyData → Prop
  | nil : ImA K H [] []
  | cons {v : V} {vs : List V} {d : PyData} {ds : List PyData} : Im K H v d → ImA K H vs ds → ImA K H (v :: vs) (d :: ds)
end
mutual
theorem Im.mono {K : PySem.W.Frag} {H H' : Hp} (s : Stay H H') : ∀ {v : V} {d : PyData}, Im K H v d → Im K H' v d
  | _, _, .non => .non
  | _, _, .bl b => .bl b
  | _, _, .int i => .int i
  | _, _, .str x => .str x
  | _, _, .tup h a => .tup (s.sqt h) (ImA.mono s a)
theorem ImA.mono {K : PySem.W.Frag} {H H' : Hp} (s : Stay H H') : ∀ {vs : List V} {ds : List PyData}, ImA K H vs ds → ImA K H' vs ds
  | _, _, .nil => .nil
  | _, _, .cons a b => .cons (Im.mono s a) (ImA.mono s b)
end
mutual
theorem Im.dp {K : PySem.W.Frag} {H : Hp} : ∀ {v : V} {d : PyData}, Im K H v d → Dp K H v d
  | _, _, .non => .non
  | _, _, .bl b => .bl b
  | _, _, .int i => .int i
  | _, _, .str x => .str x
  | _, _, .tup h a => .tup h (ImA.dp a)
theorem ImA.dp {K : PySem.W.Frag} {H : Hp} : ∀ {vs : List V} {ds : List PyData}, ImA K H vs ds → DpAll K H vs ds
  | _, _, .nil => .nil
  | _, _, .cons a b => .cons (Im.dp a) (ImA.dp b)
end
theorem ImA.len {K : PySem.W.Frag} {H : Hp} : ∀ {vs : List V} {ds : List PyData}, ImA K H vs ds → vs.length = ds.length
  | _, _, .nil => rfl
  | _, _, .cons _ b => by rw [List.length_cons, List.length_cons, ImA.len b]
theorem ImA.get {K : PySem.W.Frag} {H : Hp} : ∀ {vs : List V} {ds : List PyData} {i : Nat} {d : PyData}, ImA K H vs ds → ds[i]? = some d → ∃ v, vs[i]? = some v ∧ Im K H v d
  | _, _, _, _, .nil, e => by simp at e
  | _, _, 0, _, .cons a _, e => by simp at e; subst e; exact ⟨_, rfl, a⟩
  | _, _, i + 1, d, .cons _ b, e => by
    obtain ⟨v, h1, h2⟩ := ImA.get (i := i) (d := d) b (by simpa using e)
    exact ⟨v, by simpa using h1, h2⟩
theorem ImA.app {K : PySem.W.Frag} {H : Hp} : ∀ {vs ws : List V} {ds es : List PyData}, ImA K H vs ds → ImA K H ws es → ImA K H (vs ++ ws) (ds ++ es)
  | _, _, _, _, .nil, b => b
  | _, _, _, _, .cons a r, b => .cons a (ImA.app r b)
theorem ImA.strs {K : PySem.W.Frag} {H : Hp} : ∀ l : List Str, ImA K H (l.map V.str) (l.map PyData.str)
  | [] => .nil
  | x :: l => .cons (.str x) (ImA.strs l)
theorem ImA.ints {K : PySem.W.Frag} {H : Hp} : ∀ l : List Int, ImA K H (l.map V.int) (l.map PyData.int)
  | [] => .nil
  | x :: l => .cons (.int x) (ImA.ints l)
theorem Im.strs {K : PySem.W.Frag} {H : Hp} {a : Addr} {l : List Str} (h : SqT K H a (l.map V.str)) : Im K H (.ref a) (.tuple (l.map PyData.str)) := .tup h (ImA.strs l)
theorem Im.ints {K : PySem.W.Frag} {H : Hp} {a : Addr} {l : List Int} (h : SqT K H a (l.map V.int)) : Im K H (.ref a) (.tuple (l.map PyData.int)) := .tup h (ImA.ints l)
/-! ### known for good, and own -/
structure Hs (B : Hp) (L : List (Addr × HO)) (H : Hp) : Prop where
  sub : Same B H
  own : ∀ q ∈ L, H q.1 = some q.2
  nd : (L.map (·.1)).Nodup
  ap : ∀ q ∈ L, B q.1 = none
section
variable {B B' H H' : Hp} {L : List (Addr × HO)} {p : Addr} {o o' : HO} {x y z u : Addr × HO}
theorem Hs.start (H : Hp) : Hs H [] H := ⟨Same.refl H, fun _ h => (nomatch h), List.nodup_nil, fun _ h => (nomatch h)⟩
theorem Hs.ne_of_new (h : Hs B L H) (hp : H p = none) : ∀ q ∈ L, q.1 ≠ p := fun q hq z => by
  have e := h.own q hq
  rw [z, hp] at e
  cases e
theorem Hs.new (h : Hs B L H) (hp : H p = none) : Hs B ((p, o) :: L) (upd H p o) where
  sub := h.sub.trans (up_same hp)
  own := fun q hq => by
    rcases List.mem_cons.mp hq with rfl | hq
    · exact upd_same
    · rw [upd_ne (h.ne_of_new hp q hq)]
      exact h.own q hq
  nd := List.nodup_cons.mpr ⟨fun hm => by
    obtain ⟨q, hq, e⟩ := List.mem_map.mp hm
    exact h.ne_of_new hp q hq e, h.nd⟩
  ap := fun q hq => by
    rcases List.mem_cons.mp hq with rfl | hq
    · exact h.sub.free hp
    · exact h.ap q hq
theorem Hs.tup (h : Hs B L H) (hp : H p = none) : Hs (upd B p o) L (upd H p o) where
  sub := fun b w e => by
    by_cases hb : b = p
    · subst hb
      rw [upd_same] at e ⊢
      exact e
    · rw [upd_ne hb] at e ⊢
      exact h.sub b w e
  own := fun q hq => by
    rw [upd_ne (h.ne_of_new hp q hq)]
    exact h.own q hq
  nd := h.nd
  ap := fun q hq => by
    rw [upd_ne (h.ne_of_new hp q hq)]
    exact h.ap q hq
/-- what is laid and never told of again -/
theorem Hs.lay (h : Hs B L H) (hp : H p = none) : Hs B L (upd H p o) where
  sub := h.sub.trans (up_same hp)
  own := fun q hq => by
    rw [upd_ne (h.ne_of_new hp q hq)]
    exact h.own q hq
  nd := h.nd
  ap := h.ap
theorem Hs.swap (h : Hs B (x :: y :: L) H) : Hs B (y :: x :: L) H :=
  ⟨h.sub, fun q hq => h.own q (by simp only [List.mem_cons] at hq ⊢; rcases hq with a | a | a <;> simp [a]),
   (List.Perm.swap _ _ _).nodup_iff.mp (by simpa using h.nd), fun q hq => h.ap q (by simp only [List.mem_cons] at hq ⊢; rcases hq with a | a | a <;> simp [a])⟩
theorem Hs.perm {L' : List (Addr × HO)} (h : Hs B L H) (pm : L.Perm L') : Hs B L' H :=
  ⟨h.sub, fun q hq => h.own q (pm.mem_iff.mpr hq), (pm.map _).nodup_iff.mp h.nd, fun q hq => h.ap q (pm.mem_iff.mpr hq)⟩
theorem Hs.r0 (h : Hs B ((p, o) :: L) H) : H p = some o := h.own (p, o) List.mem_cons_self
theorem Hs.r1 (h : Hs B (x :: (p, o) :: L) H) : H p = some o := h.own (p, o) (by simp)
theorem Hs.r2 (h : Hs B (x :: y :: (p, o) :: L) H) : H p = some o := h.own (p, o) (by simp)
theorem Hs.r3 (h : Hs B (x :: y :: z :: (p, o) :: L) H) : H p = some o := h.own (p, o) (by simp)
theorem Hs.r4 (h : Hs B (x :: y :: z :: u :: (p, o) :: L) H) : H p = some o := h.own (p, o) (by simp)
theorem Hs.w0 (h : Hs B ((p, o) :: L) H) : Hs B ((p, o') :: L) (upd H p o') where
  sub := fun b w e => by
    rw [upd_ne]
    · exact h.sub b w e
    · intro q
      have := h.ap (p, o) List.mem_cons_self
      rw [q, this] at e
      cases e
  own := fun q hq => by
    rcases List.mem_cons.mp hq with rfl | hq
    · exact upd_same
    · have nd := List.nodup_cons.mp h.nd
      rw [upd_ne]
      · exact h.own q (List.mem_cons_of_mem _ hq)
      · intro e
        exact nd.1 (List.mem_map.mpr ⟨q, hq, e⟩)
  nd := h.nd
  ap := fun q hq => by
    rcases List.mem_cons.mp hq with rfl | hq
    · exact h.ap (p, o) List.mem_cons_self
    · exact h.ap q (List.mem_cons_of_mem _ hq)
theorem Hs.w1 (h : Hs B (x :: (p, o) :: L) H) : Hs B (x :: (p, o') :: L) (upd H p o') := h.swap.w0.swap
theorem Hs.w2 (h : Hs B (x :: y :: (p, o) :: L) H) : Hs B (x :: y :: (p, o') :: L) (upd H p o') :=
  (h.perm (L' := (p, o) :: x :: y :: L) ((List.Perm.cons _ (List.Perm.swap _ _ _)).trans (List.Perm.swap _ _ _))).w0.perm ((List.Perm.swap _ _ _).trans (List.Perm.cons _ (List.Perm.swap _ _ _)))
theorem Hs.drop (h : Hs B (x :: L) H) : Hs B L H := ⟨h.sub, fun q hq => h.own q (List.mem_cons_of_mem _ hq), (List.nodup_cons.mp h.nd).2, fun q hq => h.ap q (List.mem_cons_of_mem _ hq)⟩
/-- own no more: known for good -/
theorem Hs.give (h : Hs B ((p, o) :: L) H) : Same B (upd B p o) ∧ Hs (upd B p o) L H := by
  have hp : B p = none := h.ap (p, o) List.mem_cons_self
  refine ⟨up_same hp, fun b w e => ?_, fun q hq => h.own q (List.mem_cons_of_mem _ hq), (List.nodup_cons.mp h.nd).2, fun q hq => ?_⟩
  · by_cases hb : b = p
    · subst hb
      rw [upd_same] at e
      rw [h.r0]
      exact e
    · rw [upd_ne hb] at e
      exact h.sub b w e
  · rw [upd_ne]
    · exact h.ap q (List.mem_cons_of_mem _ hq)
    · intro e
      exact (List.nodup_cons.mp h.nd).1 (List.mem_map.mpr ⟨q, hq, e⟩)
/-- a known list (an argument that the def changes) becomes own -/
theorem Hs.take (h : Hs B L H) (hb : B p = some o) : Hs (L2.del B p) ((p, o) :: L) H where
  sub := fun b w e => by
    unfold L2.del at e
    split at e
    · cases e
    · exact h.sub b w e
  own := fun q hq => by
    rcases List.mem_cons.mp hq with rfl | hq
    · exact h.sub _ _ hb
    · exact h.own q hq
  nd := by
    refine List.nodup_cons.mpr ⟨fun hm => ?_, h.nd⟩
    obtain ⟨q, hq, e⟩ := List.mem_map.mp hm
    have e2 := h.ap q hq
    rw [e, hb] at e2
    cases e2
  ap := fun q hq => by
    rcases List.mem_cons.mp hq with rfl | hq
    · exact del_same
    · unfold L2.del
      split
      · rfl
      · exact h.ap q hq
theorem stay_del {xs : List V} (hb : B p = some (.lst xs)) : Stay B (L2.del B p) := fun a w e n => by
  rw [del_ne]
  · exact e
  · intro z
    rw [z, hb] at e
    exact n _ (Option.some.inj e).symm
/-! behind a call -/
def cut (L : List (Addr × HO)) (H : Hp) : Hp := fun a => if a ∈ L.map (·.1) then none else H a
theorem cut_at {a : Addr} (h : a ∉ L.map (·.1)) : cut L H a = H a := if_neg h
theorem cut_in {a : Addr} (h : a ∈ L.map (·.1)) : cut L H a = none := if_pos h
theorem Hs.out (h : Hs B L H) {a : Addr} {w : HO} (e : B a = some w) : a ∉ L.map (·.1) := fun hm => by
  obtain ⟨q, hq, z⟩ := List.mem_map.mp hm
  have := h.ap q hq
  rw [z, e] at this
  cases this
theorem Hs.out_new (h : Hs B L H) {a : Addr} (e : H a = none) : a ∉ L.map (·.1) := fun hm => by
  obtain ⟨q, hq, z⟩ := List.mem_map.mp hm
  have := h.own q hq
  rw [z, e] at this
  cases this
/-- a call that changes nothing tracked -/
theorem Hs.after (h : Hs B L H) (s : Same H H') : Same B (cut L H') ∧ Hs (cut L H') L H' :=
  ⟨fun a w e => by rw [cut_at (h.out e)]; exact s a w (h.sub a w e), fun a w e => by
    unfold cut at e
    split at e
    · cases e
    · exact e, fun q hq => s _ _ (h.own q hq), h.nd, fun q hq => cut_in (List.mem_map_of_mem hq)⟩
/-- .. that changes the one at p -/
def Chg (p : Addr) (o' : HO) (H H' : Hp) : Prop := H' p = some o' ∧ ∀ a w, a ≠ p → H a = some w → H' a = some w
theorem Hs.chg (h : Hs B ((p, o) :: L) H) (s : Chg p o' H H') : Same B (cut ((p, o') :: L) H') ∧ Hs (cut ((p, o') :: L) H') ((p, o') :: L) H' := by
  have kk : ((p, o') :: L).map (·.1) = ((p, o) :: L).map (·.1) := rfl
  refine ⟨fun a w e => ?_, fun a w e => ?_, fun q hq => ?_, by rw [kk]; exact h.nd, fun q hq => cut_in (List.mem_map_of_mem hq)⟩
  · have ho := h.out e
    rw [cut_at (by rw [kk]; exact ho)]
    exact s.2 a w (fun z => ho (by rw [z]; simp)) (h.sub a w e)
  · unfold cut at e
    split at e
    · cases e
    · exact e
  · rcases List.mem_cons.mp hq with rfl | hq
    · exact s.1
    · refine s.2 _ _ (fun z => (List.nodup_cons.mp h.nd).1 (List.mem_map.mpr ⟨q, hq, z⟩)) (h.own q (List.mem_cons_of_mem _ hq))
theorem Chg.stay {xs : List V} (c : Chg p o' H H') (hb : H p = some (.lst xs)) : Stay H H' := fun a w e n => c.2 a w (fun z => by
  rw [z, hb] at e
  exact n _ (Option.some.inj e).symm) e
/-- at a def's end -/
theorem Hs.same (h : Hs B L H') (s : Same H B) : Same H H' := s.trans h.sub
theorem Hs.isChg {B0 : Hp} (h : Hs B ((p, o') :: L) H') (s : Same (L2.del B0 p) B) : Chg p o' B0 H' :=
  ⟨h.r0, fun a w hne e => h.sub a w (s a w (by rw [del_ne hne]; exact e))⟩
theorem Chg.trans {o1 o2 : HO} {H1 H2 : Hp} (a : Chg p o1 H H1) (b : Chg p o2 H1 H2) : Chg p o2 H H2 := ⟨b.1, fun c w n e => b.2 c w n (a.2 c w n e)⟩
end
/-- lists of one's own are lists -/
def AllL (L : List (Addr × HO)) : Prop := ∀ q ∈ L, ∃ xs, q.2 = .lst xs
theorem stay_cut {L : List (Addr × HO)} {B H H' : Hp} (h : Hs B L H) (al : AllL L) (s : Same H H') : Stay H' (cut L H') := fun a w e n => by
  rw [cut_at]
  · exact e
  · intro hm
    obtain ⟨q, hq, z⟩ := List.mem_map.mp hm
    obtain ⟨xs, hx⟩ := al q hq
    have := s _ _ (h.own q hq)
    rw [z, e, hx] at this
    exact n _ (Option.some.inj this)
theorem stay_cutC {L : List (Addr × HO)} {p : Addr} {o o' : HO} {B H H' : Hp} (h : Hs B ((p, o) :: L) H) (al : AllL ((p, o') :: L)) (s : Chg p o' H H') : Stay H' (cut ((p, o') :: L) H') := fun a w e n => by
  rw [cut_at]
  · exact e
  · intro hm
    obtain ⟨q, hq, z⟩ := List.mem_map.mp hm
    obtain ⟨xs, hx⟩ := al q hq
    have := (h.chg s).2.own q hq
    rw [z, e, hx] at this
    exact n _ (Option.some.inj this)
theorem AllL.nil : AllL [] := fun _ h => (nomatch h)
theorem AllL.cons {p : Addr} {xs : List V} {L : List (Addr × HO)} (h : AllL L) : AllL ((p, .lst xs) :: L) := fun q hq => by
  rcases List.mem_cons.mp hq with rfl | hq
  · exact ⟨xs, rfl⟩
  · exact h q hq
/-! ### callables: a module's def -/
structure Cal (P : Program) (w : World) (K : PySem.W.Frag) (mg : Str → Option Value) (base : Heap) (k : Nat) (x : Str) (ps : List Str) (sp : Sp) : Prop where
  fn : ∃ fd, FnOk P w K mg base (L2.CX P w) k (He.ga K x) fd ps sp ∧ Binds K fd ps []
  at_ : mg x = some (.ref (He.ga K x))
  kp : PySem.W.keepIn K (.ref (He.ga K x)) = true
theorem Cal.mono {P : Program} {w : World} {K : PySem.W.Frag} {mg : Str → Option Value} {base : Heap} {j k : Nat} {x : Str} {ps : List Str} {sp : Sp} (c : Cal P w K mg base j x ps sp) (h : j ≤ k) : Cal P w K mg base k x ps sp :=
  ⟨let ⟨fd, a, b⟩ := c.fn; ⟨fd, a.mono h, b⟩, c.at_, c.kp⟩
section
variable {X : Cx} {k j : Nat} {x : Str} {ps : List Str} {sp : Sp} {p pos : Pos} {e : Expr} {es : List Expr} {t : TA} {W : WX}
/-- f(..) that raises nothing -/
theorem pe_cal (c : Cal X.prog X.w X.K X.mg X.base j x ps sp) (hr : Room k X.A) (ha : PA X (e :: es) t) (hk : j ≤ k := by decide) (hg : Gl X x := by rfl) (hdb : (x == ("__debug__" : Str)) = false := by decide)
    (he : starEach (e :: es) X.env = (false, eval e X.env) :: starEach es X.env := by rfl) (hpl : (backTo pos (starEach es X.env)).any (·.1) = false := by rfl) : PE X (.Call (.Name x p) (e :: es) [] pos) (tCallS sp (fun _ => E0) t) := by
  obtain ⟨fd, F, b⟩ := c.fn
  exact pe_callS F (hr.mono hk) hg c.at_ c.kp b (fun σ => fun pins H s e s' I h => passL pins σ H s e s' I h) ha hdb he hpl
/-- f(..) that may raise -/
theorem pe_calX (c : Cal X.prog X.w X.K X.mg X.base j x ps sp) (hr : Room k X.A) (tk : Takes X W) (ha : PA X (e :: es) t) (hk : j ≤ k := by decide) (hg : Gl X x := by rfl) (hdb : (x == ("__debug__" : Str)) = false := by decide)
    (he : starEach (e :: es) X.env = (false, eval e X.env) :: starEach es X.env := by rfl) (hpl : (backTo pos (starEach es X.env)).any (·.1) = false := by rfl) : PE X (.Call (.Name x p) (e :: es) [] pos) (tCallS sp (WE W) t) := by
  obtain ⟨fd, F, b⟩ := c.fn
  exact pe_callS F (hr.mono hk) hg c.at_ c.kp b (fun σ => passAt tk σ) ha hdb he hpl
end
/-! ### steps of a reading -/
section
variable {σ : L2.St} {H : Hp} {D : Ends} {Q : VK} {K : PySem.W.Frag}
theorem if_dec {p : Prop} [Decidable p] {A B : Prop} (a : p → A) (b : ¬p → B) : if decide p = true then A else B := by
  by_cases h : p
  · rw [decide_eq_true h]
    exact iteT (a h)
  · rw [decide_eq_false h]
    exact iteF (b h)
theorem if_ndec {p : Prop} [Decidable p] {A B : Prop} (a : ¬p → A) (b : p → B) : if (!decide p) = true then A else B := by
  by_cases h : p
  · rw [decide_eq_true h]
    exact iteF (b h)
  · rw [decide_eq_false h]
    exact iteT (a h)
theorem if_bool {c : Bool} {A B : Prop} (a : c = true → A) (b : c = false → B) : if c = true then A else B := by
  cases c with
  | true => exact iteT (a rfl)
  | false => exact iteF (b rfl)
end
end Sy
/-! defs of the top; a bed as an object -/
namespace Sy
open PySem PySem.Spec PyProof.Rows L2
/-- the def x of the top, by its row st -/
def FD (K : PySem.W.Frag) (x : Str) (st : Stmt) : Prop := ∃ fd, FunD K x x (defArgs st) (defBody st) (defScope st) [] [] (He.ga K x) fd
theorem cal_of {P : Program} {w : World} {K : PySem.W.Frag} {mg : Str → Option Value} {base : Heap} {x : Str} {st : Stmt} {N ps : List Str} {k : Nat} {sp : Sp} (F : FD K x st) (hm : mg x = some (.ref (He.ga K x))) (S : FnScope N ps (defScope st))
    (hb : ∀ (kV doc pm : Value) (an : Option Addr) (cdv ct : Value) (us : List Value), us.length = ps.length → bindArgs (PySem.W.fnOf x x (defArgs st) (defBody st) (defScope st) .none kV doc pm an cdv ct) ⟨us, []⟩ = pure (ps.zip us))
    (len : ∀ vs H Q E, sp vs H Q E → vs.length = ps.length)
    (body : ∀ (cdv : Value) (A : Around) (outer : List Env) (s : Shared) (H : Hp) (vs : List V) (Q : VK) (E : XK), Room k (A.deeper (envOfC x (defScope st) s.heap.objs.size (He.ga K x) cdv)) → sp vs H Q E →
      ∃ t, PSs (cxOf (L2.CX P w) P w K mg base N x (defScope st) (He.ga K x) cdv A outer s H E) (defBody st) t ∧ t { nx := fun _ H' => Q .non H', rt := Q } (start N vs) H) : Cal P w K mg base (k + 1) x ps sp := by
  obtain ⟨fd, F⟩ := F
  exact ⟨⟨fd, F.ok S len body, F.bindsN hb⟩, hm, F.kp⟩
/-! ### a bed -/
abbrev Row := Str × Nat
/-- the number of branches, 0 if it is no kind -/
def ar (rows : List Sy.Row) (x : Str) : Nat := (rows.lookup x).getD 0
def isK (rows : List Sy.Row) (x : Str) : Bool := (rows.lookup x).isSome
def arKV (rows : List Sy.Row) : List (Key × V) := rows.map fun r => (Sum.inr r.1, V.int (r.2 : Nat))
def rkKV : Nat → List Sy.Row → List (Key × V)
  | _, [] => []
  | n, r :: rs => (Sum.inr r.1, V.int (n : Nat)) :: rkKV (n + 1) rs
/-- the place of a kind -/
def rk : Nat → List Sy.Row → Str → Option Nat
  | _, [], _ => none
  | n, r :: rs, x => if r.1 = x then some n else rk (n + 1) rs x
theorem lookup_cons (r : Sy.Row) (rs : List Sy.Row) (x : Str) : (r :: rs).lookup x = if r.1 = x then some r.2 else rs.lookup x := by
  obtain ⟨a, b⟩ := r
  by_cases h : a = x
  · subst h
    simp [List.lookup]
  · rw [if_neg h]
    have h2 : (x == a) = false := beq_eq_false_iff_ne.mpr fun z => h z.symm
    simp [List.lookup, h2]
theorem valV_cons {κ : Type} [DecidableEq κ] (k : κ) (v : V) (l : List (κ × V)) (x : κ) : valV ((k, v) :: l) x = if k = x then some v else valV l x := by
  unfold valV
  rw [List.find?_cons]
  by_cases h : k = x
  · subst h
    simp
  · simp [h]
theorem valV_ar (x : Str) : ∀ rows : List Sy.Row, valV (arKV rows) (Sum.inr x : Key) = (rows.lookup x).map fun n => V.int (n : Nat)
  | [] => rfl
  | r :: rs => by
    show valV ((Sum.inr r.1, V.int (r.2 : Nat)) :: arKV rs) (Sum.inr x : Key) = _
    rw [valV_cons, lookup_cons, valV_ar x rs]
    by_cases h : r.1 = x
    · subst h
      simp
    · rw [if_neg h, if_neg]
      exact fun z => h (Sum.inr.inj z)
theorem valV_rk (x : Str) : ∀ (n : Nat) (rows : List Sy.Row), valV (rkKV n rows) (Sum.inr x : Key) = (rk n rows x).map fun n => V.int (n : Nat)
  | _, [] => rfl
  | n, r :: rs => by
    show valV ((Sum.inr r.1, V.int (n : Nat)) :: rkKV (n + 1) rs) (Sum.inr x : Key) = _
    rw [valV_cons, valV_rk x (n + 1) rs]
    show _ = (if r.1 = x then some n else rk (n + 1) rs x).map _
    by_cases h : r.1 = x
    · subst h
      simp
    · rw [if_neg h, if_neg]
      exact fun z => h (Sum.inr.inj z)
/-- the fields, in the order in which __init__ stores them -/
def bedF (dA tR tK dR : Addr) : List (Str × V) := [("arities", .ref dA), ("rows", .ref tR), ("kinds", .ref tK), ("ranks", .ref dR)]
/-- a bed stands at a -/
structure BedAt (K : PySem.W.Frag) (H : Hp) (a : Addr) (rows : List Sy.Row) : Prop where
  ex : ∃ (dx dA tR tK dR : Addr) (ps : List Addr), H a = some (.ins (He.ga K "Bed") dx (bedF dA tR tK dR)) ∧ H dA = some (.dK (arKV rows)) ∧ H dR = some (.dK (rkKV 0 rows)) ∧ SqT K H tR (ps.map V.ref) ∧ SqT K H tK (rows.map fun r => V.str r.1) ∧
    Paired (fun p (r : Sy.Row) => SqT K H p [.str r.1, .int (r.2 : Nat)]) ps rows
theorem BedAt.mono {K : PySem.W.Frag} {H H' : Hp} {a : Addr} {rows : List Sy.Row} (s : Stay H H') (b : BedAt K H a rows) : BedAt K H' a rows := by
  obtain ⟨dx, dA, tR, tK, dR, ps, h1, h2, h3, h4, h5, h6⟩ := b.ex
  exact ⟨dx, dA, tR, tK, dR, ps, s _ _ h1 (fun _ z => nomatch z), s _ _ h2 (fun _ z => nomatch z), s _ _ h3 (fun _ z => nomatch z), s.sqt h4, s.sqt h5, Paired.mapP h6 fun _ _ z => s.sqt z⟩
/-- what the walk asks of the top: the class Bed -/
structure BedT (K : PySem.W.Frag) : Prop where
  cl : Cls K (He.ga K "Bed")
  nA : NoAttr K (He.ga K "Bed") "arities"
  nR : NoAttr K (He.ga K "Bed") "rows"
  nK : NoAttr K (He.ga K "Bed") "kinds"
  nRk : NoAttr K (He.ga K "Bed") "ranks"
section
variable {K : PySem.W.Frag} {σ : L2.St} {H : Hp} {Q : VK} {i : Nat} {a : Addr} {rows : List Sy.Row}
/-- bed.arities, the bed in slot i -/
theorem bed_ar (T : BedT K) (b : BedAt K H a rows) (hi : σ[i]? = some (some (.ref a))) (h : ∀ dA, H dA = some (.dK (arKV rows)) → Q (.ref dA) H) : tFld K (tVar i) "arities" σ H Q := by
  obtain ⟨dx, dA, tR, tK, dR, ps, h1, h2, h3, h4, h5, h6⟩ := b.ex
  exact ⟨_, hi, a, _, dx, _, _, rfl, h1, T.cl, T.nA, rfl, h dA h2⟩
theorem bed_rk (T : BedT K) (b : BedAt K H a rows) (hi : σ[i]? = some (some (.ref a))) (h : ∀ dR, H dR = some (.dK (rkKV 0 rows)) → Q (.ref dR) H) : tFld K (tVar i) "ranks" σ H Q := by
  obtain ⟨dx, dA, tR, tK, dR, ps, h1, h2, h3, h4, h5, h6⟩ := b.ex
  exact ⟨_, hi, a, _, dx, _, _, rfl, h1, T.cl, T.nRk, rfl, h dR h3⟩
theorem bed_kd (T : BedT K) (b : BedAt K H a rows) (hi : σ[i]? = some (some (.ref a))) (h : ∀ tK, SqT K H tK (rows.map fun r => V.str r.1) → Q (.ref tK) H) : tFld K (tVar i) "kinds" σ H Q := by
  obtain ⟨dx, dA, tR, tK, dR, ps, h1, h2, h3, h4, h5, h6⟩ := b.ex
  exact ⟨_, hi, a, _, dx, _, _, rfl, h1, T.cl, T.nK, rfl, h tK h5⟩
end
end Sy
namespace Sy
open PySem PySem.Spec PyProof.Rows L2
theorem pe_gint {X : Cx} {x : Str} {i : Int} {pos : Pos} (hg : Gl X x) (hm : ∃ t, X.mg x = some (.int i t)) (hd : (x == ("__debug__" : Str)) = false := by decide) : PE X (.Name x pos) (tC (.int i)) := by
  obtain ⟨t, hm⟩ := hm
  exact pe_glob hg hm ⟨_, rfl⟩ hd
theorem pe_gstr {X : Cx} {x z : Str} {pos : Pos} (hg : Gl X x) (hm : ∃ t, X.mg x = some (.str z t)) (hd : (x == ("__debug__" : Str)) = false := by decide) : PE X (.Name x pos) (tC (.str z)) := by
  obtain ⟨t, hm⟩ := hm
  exact pe_glob hg hm ⟨_, rfl⟩ hd
/-- built-in names and constants that the module leaves alone -/
structure Txt (K : PySem.W.Frag) (mg : Str → Option Value) : Prop where
  bed : BedT K
  len : mg "len" = none
  range : mg "range" = none
  reversed : mg "reversed" = none
  enumerate : mg "enumerate" = none
  tuple : mg "tuple" = none
  list : mg "list" = none
  int : mg "int" = none
  abs : mg "abs" = none
  max : mg "max" = none
  isinstance : mg "isinstance" = none
  MOST_KNOTS : ∃ t, mg "MOST_KNOTS" = some (.int 2000 t)
  MOST_KINDS : ∃ t, mg "MOST_KINDS" = some (.int 8 t)
  MOST_BRANCHES : ∃ t, mg "MOST_BRANCHES" = some (.int 3 t)
  LONGEST_NAME : ∃ t, mg "LONGEST_NAME" = some (.int 8 t)
/-! loops, in the form that a reading asks for -/
abbrev Loop (J : It) (g : TG) (tb : TS) (D : Ends) (σ : L2.St) (H : Hp) : Prop := ∃ W : Nat → Nat → L2.St → Hp → Prop, (∃ m, W 0 m σ H) ∧ ∀ i m σ H, W i m σ H → (J.stop i H ∧ D.nx σ H) ∨
  (J.go i H ∧ ∃ N : L2.St → Hp → Prop, (∀ σ' H', N σ' H' → ∃ m', m' < m ∧ W (i + 1) m' σ' H') ∧ ∀ x H', J.yld i H x H' → g x σ H' fun σ2 H2 => tb { D with nx := N, ct := N, bk := D.nx } σ2 H2)
/-- for i, x in enumerate(t) -/
theorem for_enumT {K : PySem.W.Frag} {si sj : Nat} {tb : TS} {D : Ends} {σ : L2.St} {H : Hp} {a : Addr} {xs : List V} (Pv : Nat → L2.St → Hp → Prop)
    (h0 : Pv 0 σ H) (hG : ∀ i σ H, i ≤ xs.length → Pv i σ H → SqT K H a xs)
    (hs : ∀ i x σ H T, xs[i]? = some x → Pv i σ H → H T = none → tb { D with nx := Pv (i + 1), ct := Pv (i + 1), bk := D.nx } ((σ.set si (some (.int (i : Nat)))).set sj (some x)) (upd H T (.tup [.int (i : Nat), x])))
    (hd : ∀ σ H, Pv xs.length σ H → D.nx σ H) : Loop (ItE K a) (gTup K 2 (gCons (gName si) (gCons (gName sj) gNil))) tb D σ H := by
  refine for_it walkE Pv h0 hG (fun i v σ H H' hi hp y => ?_) hd
  obtain ⟨T, x, z, rfl, hT, rfl, e1, e2⟩ := y
  cases e1
  exact ⟨T, _, rfl, SqT.of upd_same, rfl, _, _, rfl, _, _, rfl, rfl, hs i z σ H T e2 hp hT⟩
/-- .. over a list that the body leaves alone -/
theorem for_enumL {K : PySem.W.Frag} {si sj : Nat} {tb : TS} {D : Ends} {σ : L2.St} {H : Hp} {a : Addr} {xs : List V} (Pv : Nat → L2.St → Hp → Prop)
    (h0 : Pv 0 σ H) (hG : ∀ i σ H, i ≤ xs.length → Pv i σ H → SqL K H a xs)
    (hs : ∀ i x σ H T, xs[i]? = some x → Pv i σ H → H T = none → tb { D with nx := Pv (i + 1), ct := Pv (i + 1), bk := D.nx } ((σ.set si (some (.int (i : Nat)))).set sj (some x)) (upd H T (.tup [.int (i : Nat), x])))
    (hd : ∀ σ H, Pv xs.length σ H → D.nx σ H) : Loop (Ite K a) (gTup K 2 (gCons (gName si) (gCons (gName sj) gNil))) tb D σ H := by
  refine for_it walk_enum Pv h0 hG (fun i v σ H H' hi hp y => ?_) hd
  obtain ⟨T, x, z, rfl, hT, rfl, e1, e2⟩ := y
  cases e1
  exact ⟨T, _, rfl, SqT.of upd_same, rfl, _, _, rfl, _, _, rfl, rfl, hs i z σ H T e2 hp hT⟩
/-- for k in range(n) -/
theorem for_rng {si : Nat} {tb : TS} {D : Ends} {σ : L2.St} {H : Hp} {n : Nat} (Pv : Nat → L2.St → Hp → Prop) (h0 : Pv 0 σ H)
    (hs : ∀ (i : Nat) σ H, i < n → Pv i σ H → tb { D with nx := Pv (i + 1), ct := Pv (i + 1), bk := D.nx } (σ.set si (some (.int (i : Nat)))) H)
    (hd : ∀ σ H, Pv n σ H → D.nx σ H) : Loop (Itr 0 n) (gName si) tb D σ H := by
  refine for_range Pv h0 (fun i σ H hi hp => ?_) hd
  have e : (0 : Int) + (i : Nat) = (i : Nat) := by omega
  have q := hs i σ _ hi hp
  rw [← e] at q
  exact q
/-- for k in reversed(range(n)) -/
theorem for_rrng {si : Nat} {tb : TS} {D : Ends} {σ : L2.St} {H : Hp} {n : Nat} (Pv : Nat → L2.St → Hp → Prop) (h0 : Pv n σ H)
    (hs : ∀ (i : Nat) σ H, i < n → Pv (i + 1) σ H → tb { D with nx := Pv i, ct := Pv i, bk := D.nx } (σ.set si (some (.int (i : Nat)))) H)
    (hd : ∀ σ H, Pv 0 σ H → D.nx σ H) : Loop (Itc (0 + (((n : Int) - 0).toNat : Int) - 1) (-1) (((n : Int) - 0).toNat)) (gName si) tb D σ H := by
  have e0 : (((n : Nat) : Int) - 0).toNat = n := by omega
  rw [e0]
  refine for_it walk_rangeC (fun j σ H => Pv (n - j) σ H) h0 (fun _ _ _ _ _ => trivial) (fun j v σ H H' hj hp y => ?_) (fun σ H q => ?_)
  · obtain ⟨rfl, rfl⟩ := y
    have e : (0 : Int) + (n : Nat) - 1 + (j : Nat) * -1 = ((n - 1 - j : Nat) : Int) := by omega
    have e1 : n - j = (n - 1 - j) + 1 := by omega
    rw [e1] at hp
    have q := hs (n - 1 - j) σ _ (by omega) hp
    rw [← e] at q
    have e2 : n - (j + 1) = n - 1 - j := by omega
    show tb { D with nx := fun σ H => Pv (n - (j + 1)) σ H, ct := fun σ H => Pv (n - (j + 1)) σ H, bk := D.nx } _ _
    rw [e2]
    exact q
  · rw [Nat.sub_self] at q
    exact hd σ H q
end Sy
/-! plants as rows of numbers of branches: plain mathematics -/
namespace Sy
/-- how many entries n plants take that stand one behind the other -/
def sp : Nat → List Nat → Nat
  | 0, _ => 0
  | _ + 1, [] => 0
  | n + 1, a :: w => 1 + sp (n + a) w
/-- w is n plants, one behind the other -/
def Fo : Nat → List Nat → Prop
  | 0, [] => True
  | 0, _ :: _ => False
  | _ + 1, [] => False
  | n + 1, a :: w => Fo (n + a) w
theorem sp_zero (w : List Nat) : sp 0 w = 0 := by cases w <;> rfl
theorem sp_nil (n : Nat) : sp n [] = 0 := by cases n <;> rfl
theorem sp_cons (n a : Nat) (w : List Nat) : sp (n + 1) (a :: w) = 1 + sp (n + a) w := rfl
theorem sp_add : ∀ (w : List Nat) (n m : Nat), sp (n + m) w = sp n w + sp m (w.drop (sp n w))
  | w, 0, m => by rw [sp_zero, Nat.zero_add, Nat.zero_add, List.drop_zero]
  | [], n + 1, m => by simp [sp_nil]
  | a :: w, n + 1, m => by
    have e : n + 1 + m = (n + m) + 1 := by omega
    rw [e, sp_cons, sp_cons, show n + m + a = (n + a) + m by omega, sp_add w (n + a) m, Nat.add_assoc, show 1 + sp (n + a) w = sp (n + a) w + 1 by omega, List.drop_succ_cons]
theorem Fo.zero {w : List Nat} (h : Fo 0 w) : w = [] := by
  cases w with
  | nil => rfl
  | cons a w => exact h.elim
theorem Fo.le : ∀ {w : List Nat} {k m : Nat}, Fo (k + m) w → sp k w ≤ w.length ∧ Fo m (w.drop (sp k w)) ∧ Fo k (w.take (sp k w))
  | w, 0, m, h => by
    rw [Nat.zero_add] at h
    rw [sp_zero]
    exact ⟨Nat.zero_le _, h, trivial⟩
  | [], k + 1, m, h => by
    rw [show k + 1 + m = (k + m) + 1 by omega] at h
    exact h.elim
  | a :: w, k + 1, m, h => by
    rw [show k + 1 + m = (k + m) + 1 by omega] at h
    have h : Fo (k + m + a) w := h
    rw [show k + m + a = (k + a) + m by omega] at h
    have q := Fo.le h
    rw [sp_cons, show 1 + sp (k + a) w = sp (k + a) w + 1 by omega, List.drop_succ_cons, List.take_succ_cons]
    exact ⟨by rw [List.length_cons]; omega, q.2.1, q.2.2⟩
theorem Fo.sp : ∀ {w : List Nat} {m : Nat}, Fo m w → sp m w = w.length
  | [], m, _ => sp_nil m
  | a :: w, 0, h => h.elim
  | a :: w, m + 1, h => by
    rw [sp_cons, Fo.sp (w := w) (m := m + a) h, List.length_cons]
    omega
theorem Fo.app : ∀ {u v : List Nat} {n m : Nat}, Fo n u → Fo m v → Fo (n + m) (u ++ v)
  | [], v, 0, m, _, h => by rw [Nat.zero_add]; exact h
  | a :: u, v, n + 1, m, g, h => by
    have q : Fo (n + a + m) (u ++ v) := Fo.app (u := u) (n := n + a) g h
    rw [show n + 1 + m = (n + m) + 1 by omega]
    show Fo (n + m + a) (u ++ v)
    rw [show n + m + a = n + a + m by omega]
    exact q
theorem Fo.sp_app : ∀ {u : List Nat} {n : Nat} (v : List Nat), Fo n u → Sy.sp n (u ++ v) = u.length
  | [], 0, v, _ => sp_zero _
  | [], n + 1, v, h => h.elim
  | a :: u, 0, v, h => h.elim
  | a :: u, n + 1, v, h => by
    rw [List.cons_append, sp_cons, Fo.sp_app (u := u) (n := n + a) v h, List.length_cons]
    omega
theorem Fo.cut : ∀ {u v : List Nat} {n k : Nat}, Fo k u → Fo n (u ++ v) → k ≤ n ∧ Fo (n - k) v
  | [], v, n, 0, _, h => ⟨Nat.zero_le _, by simpa using h⟩
  | a :: u, v, 0, k, _, h => h.elim
  | a :: u, v, n + 1, k + 1, g, h => by
    have q := Fo.cut (u := u) (v := v) (n := n + a) (k := k + a) g h
    refine ⟨by omega, ?_⟩
    have := q.2
    rw [show n + a - (k + a) = n + 1 - (k + 1) by omega] at this
    exact this
/-- one plant of a row is put in another's place -/
theorem Fo.put : ∀ {u x y v : List Nat} {n : Nat}, Fo 1 x → Fo 1 y → Fo n (u ++ (x ++ v)) → Fo n (u ++ (y ++ v))
  | [], x, y, v, n, hx, hy, h => by
    have q := Fo.cut hx h
    have := hy.app q.2
    rw [show 1 + (n - 1) = n by omega] at this
    exact this
  | a :: u, x, y, v, 0, hx, hy, h => h.elim
  | a :: u, x, y, v, n + 1, hx, hy, h => Fo.put (u := u) (n := n + a) hx hy h
theorem Fo.pos {w : List Nat} {n : Nat} (h : Fo (n + 1) w) : 0 < w.length := by
  cases w with
  | nil => exact h.elim
  | cons a w => rw [List.length_cons]; omega
theorem Fo.at_ : ∀ {w : List Nat} {n : Nat} {i : Nat}, Fo n w → i < w.length → ∃ m, Fo (m + 1) (w.drop i)
  | a :: w, 0, _, h, _ => h.elim
  | a :: w, n + 1, 0, h, _ => ⟨n, h⟩
  | a :: w, n + 1, i + 1, h, hi => by
    rw [List.drop_succ_cons]
    exact Fo.at_ (w := w) (n := n + a) h (by rw [List.length_cons] at hi; omega)
/-- what begins within n plants ends within them -/
theorem sp_within : ∀ {w : List Nat} {n i : Nat}, i < sp n w → ∃ m, sp n w = i + sp (m + 1) (w.drop i)
  | w, 0, i, h => by rw [sp_zero] at h; omega
  | w, n + 1, 0, h => ⟨n, by simp⟩
  | [], n + 1, i + 1, h => by rw [sp_nil] at h; omega
  | a :: w, n + 1, i + 1, h => by
    rw [sp_cons] at h ⊢
    obtain ⟨m, e⟩ := sp_within (w := w) (n := n + a) (i := i) (by omega)
    exact ⟨m, by rw [List.drop_succ_cons, e]; omega⟩
/-- the number of branches at i -/
def aw (w : List Nat) (i : Nat) : Nat := w[i]?.getD 0
/-- behind the plant that begins at i -/
def en (w : List Nat) (i : Nat) : Nat := i + sp 1 (w.drop i)
/-- where the branch k of i begins -/
def kd (w : List Nat) (i k : Nat) : Nat := i + 1 + sp k (w.drop (i + 1))
theorem aw_of {w : List Nat} {i a : Nat} (h : w[i]? = some a) : aw w i = a := by rw [aw, h]; rfl
theorem drop_at {w : List Nat} {i : Nat} (h : i < w.length) : w.drop i = aw w i :: w.drop (i + 1) := by
  rw [List.drop_eq_getElem_cons h, aw, List.getElem?_eq_getElem h]
  rfl
theorem kd_zero (w : List Nat) (i : Nat) : kd w i 0 = i + 1 := by rw [kd, sp_zero]
section
variable {w : List Nat} {i j k : Nat}
theorem kd_succ : kd w i (k + 1) = en w (kd w i k) := by
  unfold kd en
  rw [sp_add, List.drop_drop]
  omega
theorem en_kd (hi : i < w.length) : kd w i (aw w i) = en w i := by
  unfold kd en
  rw [drop_at hi, sp_cons, Nat.zero_add]
  omega
theorem en_gt (hi : i < w.length) : i < en w i := by
  unfold en
  rw [drop_at hi, sp_cons]
  omega
theorem Fo.below (h : Fo 1 w) (hi : i < w.length) : ∃ m, Fo (aw w i + m) (w.drop (i + 1)) := by
  obtain ⟨m, q⟩ := h.at_ hi
  rw [drop_at hi] at q
  exact ⟨m, by rw [Nat.add_comm]; exact q⟩
theorem Fo.kd_lt (h : Fo 1 w) (hi : i < w.length) (hk : k < aw w i) : kd w i k < w.length := by
  obtain ⟨m, q⟩ := h.below hi
  rw [show aw w i + m = k + (aw w i + m - k - 1 + 1) by omega] at q
  have q := Fo.le q
  have := q.2.1.pos
  rw [List.length_drop, List.length_drop] at this
  unfold kd
  omega
theorem Fo.en_le (h : Fo 1 w) (hi : i < w.length) : en w i ≤ w.length := by
  obtain ⟨m, q⟩ := h.at_ hi
  rw [Nat.add_comm] at q
  have q := q.le
  have := q.1
  rw [List.length_drop] at this
  unfold en
  omega
theorem Fo.en0 (h : Fo 1 w) : en w 0 = w.length := by
  unfold en
  rw [List.drop_zero, h.sp]
  omega
/-- the branch that begins at i is a plant -/
theorem Fo.branch (h : Fo 1 w) (hi : i < w.length) : Fo 1 ((w.drop i).take (en w i - i)) := by
  obtain ⟨m, q⟩ := h.at_ hi
  rw [Nat.add_comm] at q
  have q := q.le.2.2
  unfold en
  rw [show i + Sy.sp 1 (w.drop i) - i = Sy.sp 1 (w.drop i) by omega]
  exact q
theorem kd_gt : i < kd w i k := by unfold kd; omega
theorem kd_lt_succ (h : Fo 1 w) (hi : i < w.length) (hk : k < aw w i) : kd w i k < kd w i (k + 1) := by
  rw [kd_succ]
  exact en_gt (h.kd_lt hi hk)
theorem kd_mono (h : Fo 1 w) (hi : i < w.length) : ∀ (d : Nat), k + d ≤ aw w i → kd w i k + d ≤ kd w i (k + d)
  | 0, _ => Nat.le_refl _
  | d + 1, hd => by
    have a := kd_mono h hi d (by omega)
    have b := kd_lt_succ h hi (k := k + d) (by omega)
    rw [show k + (d + 1) = k + d + 1 by omega]
    omega
/-- nested -/
theorem en_nest (a : i ≤ j) (b : j < en w i) : en w j ≤ en w i := by
  unfold en at b ⊢
  obtain ⟨m, e⟩ := sp_within (w := w.drop i) (n := 1) (i := j - i) (by omega)
  rw [List.drop_drop, show i + (j - i) = j by omega, Nat.add_comm m 1, sp_add] at e
  omega
theorem kd_le_en (h : Fo 1 w) (hi : i < w.length) (hk : k ≤ aw w i) : kd w i k ≤ en w i := by
  have := kd_mono h hi (k := k) (aw w i - k) (by omega)
  rw [show k + (aw w i - k) = aw w i by omega, en_kd hi] at this
  omega
/-- a place behind i and within its plant stands in one of its branches -/
theorem in_branch (hi : i < w.length) (a : i < j) : ∀ (n : Nat), j < kd w i n → ∃ k, k < n ∧ kd w i k ≤ j ∧ j < kd w i (k + 1)
  | 0, b => by rw [kd_zero] at b; omega
  | n + 1, b => by
    by_cases c : j < kd w i n
    · obtain ⟨k, h1, h2, h3⟩ := in_branch hi a n c
      exact ⟨k, by omega, h2, h3⟩
    · exact ⟨n, by omega, by omega, b⟩
/-- a knot has one place above it .. -/
theorem kd_lt_of {i2 k2 : Nat} (h : Fo 1 w) (hi : i < w.length) (hi2 : i2 < w.length) (hk : k < aw w i) (hk2 : k2 < aw w i2) (lt : i < i2) : kd w i k ≠ kd w i2 k2 := by
  intro e
  have e1 : kd w i k < en w i := by
    have := kd_le_en h hi (k := k + 1) (by omega)
    have := kd_lt_succ h hi hk
    omega
  have g2 : i2 < kd w i2 k2 := kd_gt
  have hin : i2 < kd w i (aw w i) := by rw [en_kd hi]; omega
  obtain ⟨t, h1, h2, h3⟩ := in_branch hi lt _ hin
  have n1 : en w i2 ≤ en w (kd w i t) := en_nest h2 (by rw [← kd_succ]; exact h3)
  rw [← kd_succ] at n1
  have n2 : kd w i2 k2 < en w i2 := by
    have := kd_le_en h hi2 (k := k2 + 1) (by omega)
    have := kd_lt_succ h hi2 hk2
    omega
  by_cases c : k ≤ t
  · have := kd_mono h hi (k := k) (t - k) (by omega)
    rw [show k + (t - k) = t by omega] at this
    omega
  · have := kd_mono h hi (k := t + 1) (k - (t + 1)) (by omega)
    rw [show t + 1 + (k - (t + 1)) = k by omega] at this
    omega
theorem kd_inj {i2 k2 : Nat} (h : Fo 1 w) (hi : i < w.length) (hi2 : i2 < w.length) (hk : k < aw w i) (hk2 : k2 < aw w i2) (e : kd w i k = kd w i2 k2) : i = i2 ∧ k = k2 := by
  rcases Nat.lt_trichotomy i i2 with c | c | c
  · exact absurd e (kd_lt_of h hi hi2 hk hk2 c)
  · subst c
    refine ⟨rfl, ?_⟩
    rcases Nat.lt_trichotomy k k2 with d | d | d
    · have := kd_mono h hi (k := k) (k2 - k) (by omega)
      rw [show k + (k2 - k) = k2 by omega] at this
      omega
    · exact d
    · have := kd_mono h hi (k := k2) (k - k2) (by omega)
      rw [show k2 + (k - k2) = k by omega] at this
      omega
  · exact absurd e.symm (kd_lt_of h hi2 hi hk2 hk c)
/-- .. and every knot but the root has one -/
theorem has_above (h : Fo 1 w) : ∀ (j : Nat), 0 < j → j < w.length → ∃ i k, i < j ∧ k < aw w i ∧ kd w i k = j := by
  intro j
  induction j using Nat.strongRecOn with
  | _ j ih =>
    intro h0 hj
    -- from a place i < j whose plant ends at j
    have climb : ∀ i, i < j → en w i = j → ∃ i k, i < j ∧ k < aw w i ∧ kd w i k = j := by
      intro i
      induction i using Nat.strongRecOn with
      | _ i ih2 =>
        intro hi e
        by_cases z : i = 0
        · subst z
          rw [h.en0] at e
          omega
        · obtain ⟨p, k, hp, hk, ek⟩ := ih i hi (by omega) (by omega)
          have es : kd w p (k + 1) = j := by rw [kd_succ, ek]; exact e
          by_cases c : k + 1 < aw w p
          · exact ⟨p, k + 1, by omega, c, es⟩
          · have : k + 1 = aw w p := by omega
            rw [this, en_kd (by omega)] at es
            exact ih2 p hp (by omega) es
    by_cases c : 0 < aw w (j - 1)
    · exact ⟨j - 1, 0, by omega, c, by rw [kd_zero]; omega⟩
    · refine climb (j - 1) (by omega) ?_
      rw [← en_kd (by omega), show aw w (j - 1) = 0 by omega, kd_zero]
      omega
end
/-! ### the paths -/
/-- one knot's branches get their paths -/
def stp (w : List Nat) (i : Nat) (fd : List (List Nat)) (n : Nat) : List (List Nat) := (List.range n).foldl (fun fd k => fd.set (kd w i k) (fd.getD i [] ++ [k])) fd
/-- the paths after the first n knots -/
def pth (w : List Nat) (n : Nat) : List (List Nat) := (List.range n).foldl (fun fd i => stp w i fd (aw w i)) (List.replicate w.length [])
def pths (w : List Nat) : List (List Nat) := pth w w.length
theorem stp_succ (w : List Nat) (i n : Nat) (fd : List (List Nat)) : stp w i fd (n + 1) = (stp w i fd n).set (kd w i n) ((stp w i fd n).getD i [] ++ [n]) := by
  unfold stp
  rw [List.range_succ, List.foldl_append]
  rfl
theorem pth_succ (w : List Nat) (n : Nat) : pth w (n + 1) = stp w n (pth w n) (aw w n) := by
  unfold pth
  rw [List.range_succ, List.foldl_append]
  rfl
theorem stp_zero (w : List Nat) (i : Nat) (fd : List (List Nat)) : stp w i fd 0 = fd := rfl
theorem stp_len (w : List Nat) (i : Nat) (fd : List (List Nat)) : ∀ n, (stp w i fd n).length = fd.length
  | 0 => rfl
  | n + 1 => by rw [stp_succ, List.length_set, stp_len w i fd n]
theorem pth_len (w : List Nat) : ∀ n, (pth w n).length = w.length
  | 0 => by show (List.replicate w.length []).length = _; rw [List.length_replicate]
  | n + 1 => by rw [pth_succ, stp_len, pth_len w n]
theorem getD_set_ne {α : Type} (l : List α) {i j : Nat} (v d : α) (h : i ≠ j) : (l.set i v).getD j d = l.getD j d := by
  rw [List.getD_eq_getElem?_getD, List.getElem?_set_ne h, ← List.getD_eq_getElem?_getD]
theorem getD_set_eq {α : Type} (l : List α) {i : Nat} (v d : α) (h : i < l.length) : (l.set i v).getD i d = v := by
  rw [List.getD_eq_getElem?_getD, List.getElem?_set_self h]
  rfl
/-- places up to i stay; other places stay; a branch's place -/
theorem stp_ne (w : List Nat) (i j : Nat) (fd : List (List Nat)) : ∀ n, (∀ k, k < n → kd w i k ≠ j) → (stp w i fd n).getD j [] = fd.getD j []
  | 0, _ => rfl
  | n + 1, h => by
    rw [stp_succ, getD_set_ne _ _ _ (h n (by omega))]
    exact stp_ne w i j fd n fun k hk => h k (by omega)
theorem stp_at {w : List Nat} {i k : Nat} {fd : List (List Nat)} (h : Fo 1 w) (hi : i < w.length) (hl : fd.length = w.length) (hk : k < aw w i) : ∀ n, k < n → n ≤ aw w i → (stp w i fd n).getD (kd w i k) [] = fd.getD i [] ++ [k]
  | n + 1, a, b => by
    have hs : (stp w i fd n).getD i [] = fd.getD i [] := stp_ne w i i fd n fun k _ => by have := kd_gt (w := w) (i := i) (k := k); omega
    rw [stp_succ, hs]
    by_cases c : k = n
    · subst c
      rw [getD_set_eq]
      rw [stp_len, hl]
      exact h.kd_lt hi hk
    · rw [getD_set_ne]
      · exact stp_at h hi hl hk n (by omega) (by omega)
      · intro e
        have := (kd_inj h hi hi (by omega) hk e).2
        omega
theorem pth_at {w : List Nat} {i k : Nat} (h : Fo 1 w) (hi : i < w.length) (hk : k < aw w i) : ∀ n, i < n → n ≤ w.length → (pth w n).getD (kd w i k) [] = (pth w n).getD i [] ++ [k]
  | n + 1, a, b => by
    have si : (pth w (n + 1)).getD i [] = (pth w n).getD i [] := by
      rw [pth_succ]
      exact stp_ne w n i _ _ fun t _ e => by have := kd_gt (w := w) (i := n) (k := t); omega
    rw [si]
    by_cases c : i = n
    · subst c
      rw [pth_succ]
      exact stp_at h hi (pth_len w _) hk _ hk (Nat.le_refl _)
    · rw [pth_succ, stp_ne]
      · exact pth_at h hi hk n (by omega) (by omega)
      · intro t ht e
        have := (kd_inj h (by omega) hi ht hk e).1
        omega
theorem pths_at {w : List Nat} {i k : Nat} (h : Fo 1 w) (hi : i < w.length) (hk : k < aw w i) : (pths w).getD (kd w i k) [] = (pths w).getD i [] ++ [k] := pth_at h hi hk _ hi (Nat.le_refl _)
theorem pth_root (w : List Nat) : ∀ n, (pth w n).getD 0 [] = []
  | 0 => by
    show (List.replicate w.length []).getD 0 [] = []
    cases w <;> rfl
  | n + 1 => by
    rw [pth_succ, stp_ne]
    · exact pth_root w n
    · intro k _ e
      have := kd_gt (w := w) (i := n) (k := k)
      omega
/-- where a path leads -/
def pl (w : List Nat) : Nat → List Nat → Option Nat
  | i, [] => some i
  | i, k :: p => if k < aw w i then pl w (kd w i k) p else none
theorem pl_snoc (w : List Nat) (k : Nat) : ∀ (p : List Nat) (i : Nat), pl w i (p ++ [k]) = (pl w i p).bind fun j => if k < aw w j then some (kd w j k) else none
  | [], i => rfl
  | t :: p, i => by
    show (if t < aw w i then pl w (kd w i t) (p ++ [k]) else none) = (if t < aw w i then pl w (kd w i t) p else none).bind _
    by_cases c : t < aw w i
    · rw [if_pos c, if_pos c, pl_snoc w k p]
    · rw [if_neg c, if_neg c]
      rfl
theorem pl_pths {w : List Nat} (h : Fo 1 w) : ∀ j, j < w.length → pl w 0 ((pths w).getD j []) = some j := by
  intro j
  induction j using Nat.strongRecOn with
  | _ j ih =>
    intro hj
    by_cases z : j = 0
    · subst z
      rw [show pths w = pth w w.length from rfl, pth_root]
      rfl
    · obtain ⟨i, k, hi, hk, e⟩ := has_above h j (by omega) hj
      rw [← e, pths_at h (by omega) hk, pl_snoc, ih i hi (by omega)]
      show (if k < aw w i then some (kd w i k) else none) = _
      rw [if_pos hk]
/-- a path of a plant leads to the same place in each plant that is alike up to that place -/
theorem pl_local {w w' : List Nat} (h : Fo 1 w) (h' : Fo 1 w') : ∀ (p : List Nat) (i : Nat), pl w 0 p = some i → i < w'.length → w'.take i = w.take i → pl w' 0 p = some i := by
  intro p
  induction hn : p.length generalizing p with
  | zero =>
    have : p = [] := List.length_eq_zero_iff.mp hn
    subst this
    exact fun i e _ _ => e
  | succ n ih =>
    intro i e hi a
    obtain ⟨q, k, rfl⟩ : ∃ q k, p = q ++ [k] := ⟨p.dropLast, p.getLast (by intro z; rw [z] at hn; cases hn), (List.dropLast_concat_getLast _).symm⟩
    rw [pl_snoc] at e ⊢
    cases c : pl w 0 q with
    | none => rw [c] at e; cases e
    | some j =>
      rw [c] at e
      have e : (if k < aw w j then some (kd w j k) else none) = some i := e
      by_cases hk : k < aw w j
      · rw [if_pos hk] at e
        have e := Option.some.inj e
        have hj : j < i := by rw [← e]; exact kd_gt
        have hjw : j < w.length := by
          by_cases z : j < w.length
          · exact z
          · rw [aw, List.getElem?_eq_none (by omega)] at hk
            exact absurd hk (Nat.not_lt_zero _)
        have tk : w'.take j = w.take j := by
          have := congrArg (List.take j) a
          rwa [List.take_take, List.take_take, Nat.min_eq_left (by omega)] at this
        rw [ih q (by simpa using hn) j c (by omega) tk]
        have ea : aw w' j = aw w j := by
          have := congrArg (fun l => l[j]?) a
          simp only [List.getElem?_take, hj, if_true] at this
          rw [aw, aw, this]
        have ek : kd w' j k = kd w j k := by
          obtain ⟨m, f⟩ := h.below hjw
          rw [show aw w j + m = k + (aw w j + m - k) by omega] at f
          have f := f.le.2.2
          have el : i - (j + 1) = sp k (w.drop (j + 1)) := by rw [← e, kd]; omega
          have hw : w'.drop (j + 1) = (w.drop (j + 1)).take (sp k (w.drop (j + 1))) ++ w'.drop i := by
            rw [← el, List.take_drop, show j + 1 + (i - (j + 1)) = i by omega, ← a, ← List.take_append_drop i w', List.drop_append, List.take_append_drop]
            have : (w'.take i).length = i := by rw [List.length_take]; omega
            rw [this, show j + 1 - i = 0 by omega, List.drop_zero]
          unfold kd
          rw [hw, f.sp_app, List.length_take, Nat.min_eq_left]
          rw [← el, List.length_drop]
          have := h.kd_lt hjw hk
          omega
        show (if k < aw w' j then some (kd w' j k) else none) = _
        rw [ea, if_pos hk, ek, e]
      · rw [if_neg hk] at e
        cases e
end Sy
namespace Sy
open PySem PySem.Spec PyProof.Rows L2
def top (i : Nat) : Stmt := PySem.Challenge.pw_shearyard_k04_texts_of_beds_and_stumps.main.body.getD i (.Pass ⟨0, 0, 0, 0⟩)
end Sy
/-! what the head's run looks at (the run is proved early: it wants much memory) -/
namespace Sy
open PySem PySem.Spec PyProof.Rows L2
def clb (i j : Nat) : Stmt := match top i with
  | .ClassDef _ _ _ b _ _ _ _ _ _ _ => b.getD j (.Pass ⟨0, 0, 0, 0⟩)
  | s => s
abbrev iniA (K : PySem.W.Frag) (x : Str) : Addr := He.ma K (He.ga K x) "__init__"
/-- the errors by number -/
def six : Nat → Str
  | 0 => "TooMany"
  | 1 => "InvalidBed"
  | _ => "InvalidText"
structure ErD where
  x : Str
  q : Str
  st : Stmt
  fs : List Str
abbrev FnE : Type := Option (Str × Str × Arguments × FuncBody × Scope × Addr × List Str × Addr)
def ErD.val (d : ErD) : FnE := some ("__init__", d.q, defArgs d.st, .stmts (defBody d.st), defScope d.st, mainGlobals, ["__class__"], builtinsNs)
def erW (K : PySem.W.Frag) (x : Str) : FnE := match K.lookup (iniA K x) with
  | some ⟨_, _, .func fd, _⟩ => some (fd.name, fd.qualname, fd.params, fd.body, fd.scope, fd.globals, fd.closure.map (·.1), fd.builtins)
  | _ => none
/-- the class object -/
def oexB (K : PySem.W.Frag) (C : Addr) : Bool := match K.lookup C with
  | some ⟨.type t, _, .cls cd, sl⟩ => (match cd.mro, sl.toList with
    | .ref C' :: bm, [_, _, _, _, some (.builtin n), _] => decide (t = "type") && (decide (C' = C) && (decide (n = "ValueError.__new__") && (!cd.hasDel && (cd.hasDict && HandSPX.refsVE bm))))
    | _, _ => false)
  | _ => false
/-- what stands in the code object, in the cell -/
def fileB (K : PySem.W.Frag) (file : Str) (cd : Value) : Bool := match cd with
  | .ref c => (match K.lookup c with
    | some ⟨_, _, .fields vs, _⟩ => (match (vs[2]? : Option Value) with
      | some (.str fi _) => (file == fi)
      | _ => false)
    | _ => false)
  | _ => false
def cellB (K : PySem.W.Frag) (C : Addr) (cl : List (Str × Addr)) : Bool := match cl with
  | [(_, cc)] => (match K.lookup cc with
    | some ⟨_, _, .cell (some (.ref D)), _⟩ => decide (D = C)
    | _ => false)
  | _ => false
def initB (K : PySem.W.Frag) (file x q : Str) : Bool := match K.lookup (iniA K x) with
  | some ⟨_, _, .func fd, _⟩ => PySem.W.codeIn K fd.code q && (fileB K file fd.code && (cellB K (He.ga K x) fd.closure && (match fd.defaults with
    | .none => true
    | _ => false)))
  | _ => false
def ErD.ok (file : Str) (K : PySem.W.Frag) (d : ErD) : Bool :=
  He.eqO (PySem.W.nsIn K mainGlobals d.x) (some (some (.ref (He.ga K d.x)))) && (He.eqO (PySem.W.findIn K (.ref (He.ga K d.x)) "__init__") (some (some (.ref (iniA K d.x)))) && (decide (PySem.W.typeIn K (.ref (iniA K d.x)) = some (.type "function")) &&
  (decide (PySem.W.exmOne K (.ref (He.ga K d.x)) (.ref (He.ga K d.x)) = some true) && (xfB K (He.ga K d.x) && ((d.fs.all fun f => He.eqO (PySem.W.findIn K (.ref (He.ga K d.x)) f) (some none)) && (oexB K (He.ga K d.x) &&
  (He.eqO (PySem.W.findIn K (.ref (He.ga K d.x)) "__setattr__") (some (some (.builtin "object.__setattr__"))) && (decide (PySem.W.subIn K (.ref (He.ga K d.x)) (.type "BaseException") = some true) && (decide (PySem.W.typeIn K (.ref (He.ga K d.x)) = some (.type "type")) && (PySem.W.keepIn K (.ref (He.ga K d.x)) &&
  (initB K file d.x d.q && (PySem.W.isClsIn K (He.ga K d.x) && (decide (PySem.W.mroIn K (He.ga K d.x) (.ref (He.ga K d.x)) = some true) && (He.eqO (PySem.W.ks_superIn K (He.ga K d.x) (He.ga K d.x) "__init__") (some (some (.builtin "ValueError.__init__"))) &&
  (decide (PySem.W.subIn K (.ref (He.ga K d.x)) (.type "ValueError") = some true) && He.eqO (PySem.W.nsIn K cStatics "thirdparty.any") (some none))))))))))))))))
def excB (K : PySem.W.Frag) (D : Addr) : Bool :=
  He.eqO (PySem.W.findIn K (.ref D) "__getattribute__") (some (some (.builtin "BaseException.__getattribute__"))) && (He.eqO (PySem.W.findIn K (.ref D) "__getattr__") (some none) && (decide (PySem.W.subIn K (.ref D) (.type "BaseException") = some true) && (PySem.W.hasDictIn K D &&
  (He.eqO (PySem.W.findIn K (.ref D) "__class__") (some (some (.builtin "object.__class__"))) && (He.eqO (PySem.W.specialIn K (.builtin "object.__class__") "__get__") (some (some (.builtin "getset_descriptor.__get__"))) && (decide (PySem.W.takesIn K (.builtin "object.__class__") = some true) && decide (PySem.W.mroIn K D (.type "object") = some true)))))))
def metB (K : PySem.W.Frag) : Bool := (List.range 3).all fun k => excB K (He.ga K (six k)) && (decide (PySem.W.kitOne K (.ref (He.ga K (six k))) (.type "ValueError") = some true) && (decide (PySem.W.exmOne K (.ref (He.ga K (six k))) (.ref (He.ga K "YardError")) = some true) &&
  ((List.range 3).all fun j => decide (PySem.W.kitOne K (.ref (He.ga K (six k))) (.ref (He.ga K (six j))) = some (decide (k = j))))))
/-! a classmethod, a property of Bed -/
def propB (K : PySem.W.Frag) (C : Addr) (m : Str) : Bool := He.eqO (PySem.W.findIn K (.ref C) m) (some (some (.ref (He.ma K C m)))) && (He.eqO (PySem.W.specialIn K (.ref (He.ma K C m)) "__get__") (some (some (.builtin "property.__get__"))) && (decide (PySem.W.takesIn K (.ref (He.ma K C m)) = some true) &&
  (match PySem.W.recIn K (He.ma K C m) "property" with
  | some (.ref _ :: _) => true
  | _ => false)))
def bedB (K : PySem.W.Frag) : Bool := PySem.W.readsIn K (He.ga K "Bed") (.type "type") && (He5.wrapB K (He.ga K "Bed") "classmethod" "classmethod.__get__" "read" && (PySem.W.fnIn K (He5.wf K (He.ga K "Bed") "classmethod" "read") && propB K (He.ga K "Bed") "leaf"))
/-! the Hook -/
abbrev AlX : Type := He.AlD × (Bool × (List FnE × (Bool × List He.FnW)))
def obsX (file : Str) (fa : List He.Fa) (fn : List He.DefD) (er : List ErD) (fw : List He5.DefA) (K : PySem.W.Frag) : AlX := (He.obsD fa fn K, ((er.all fun d => d.ok file K) && metB K, (er.map fun d => erW K d.x, (bedB K && fw.all fun d => d.ok K, fw.map fun d => He5.fnA K (d.at_ K)))))
def valX (fn : List He.DefD) (er : List ErD) (fw : List He5.DefA) : AlX := (He.valD fn, (true, (er.map ErD.val, (true, fw.map He5.DefA.val))))
def SaysX (file : Str) (fa : List He.Fa) (fn : List He.DefD) (er : List ErD) (fw : List He5.DefA) (K : PySem.W.Frag) : Prop := obsX file fa fn er fw K = valX fn er fw
def obsXG (file : Str) (as : List Addr) (fa : List He.Fa) (fn : List He.DefD) (er : List ErD) (fw : List He5.DefA) (g : Addr → Option Obj) : AlX := obsX file fa fn er fw (He.frG g as)
def hookX (file : Str) (as : List Addr) (fa : List He.Fa) (fn : List He.DefD) (er : List ErD) (fw : List He5.DefA) : PySem.W.Hook where
  α := AlX
  obs := fun s => obsXG file as fa fn er fw s.heap.get?
  val := fun _ => valX fn er fw
  says := fun _ h => ∃ K : PySem.W.Frag, K.In h ∧ SaysX file fa fn er fw K
  of := fun _ _ e => ⟨_, He.frG_in, e⟩
  keeps := fun _ _ _ ⟨K, hK, c⟩ k => ⟨K, PySem.W.Frag.In.keeps hK k, c⟩
theorem obsXG_eq {file : Str} {as : List Addr} {fa : List He.Fa} {fn : List He.DefD} {er : List ErD} {fw : List He5.DefA} {g : Addr → Option Obj} {s : Shared} (h : ∀ a, g a = s.heap.get? a) : obsXG file as fa fn er fw g = (hookX file as fa fn er fw).obs s := by
  have e : g = s.heap.get? := funext h
  rw [e]
  rfl
end Sy
set_option maxHeartbeats 0
namespace Sy.En
open Sy PySem PySem.Spec PyProof.Rows L2
abbrev dOf (x : Str) (i : Nat) : He.DefD := ⟨(x, none), x, x, defArgs (top i), defBody (top i), defScope (top i), [], []⟩
abbrev dMe (m q : Str) (j : Nat) : He.DefD := ⟨("Bed", some m), m, q, defArgs (clb 28 j), defBody (clb 28 j), defScope (clb 28 j), [], []⟩
def fn : List He.DefD := [dOf "check_count" 11, dOf "arity" 12, dOf "fault_among" 13, dOf "check_stump" 16, dOf "written" 18, dOf "read_stump" 19, dOf "read_plant" 20, dOf "read_row" 21, dOf "joined_text" 22, dOf "only_letters" 26, dOf "is_name" 27, dOf "_law_bag" 30, dOf "_law_draw" 31, dOf "_law_word" 32, dOf "_law_name" 33, dOf "_law_rows" 34, dOf "_law_number" 35, dOf "_law_plant" 36, dOf "_law_fault" 37, dOf "_law_same" 38, dOf "_law_made" 39, dOf "_law_bent_pairs" 40, dOf "_law_good_name" 41, dOf "_law_pairs_due" 42, dOf "_law_pairs_text" 43, dOf "_law_pairs_text_due" 44, dOf "_law_char" 45, dOf "_law_bent_text" 46, dOf "_law_bed_met" 47, dOf "_law_text_met" 48, dOf "_law_unknown" 49, dOf "_law_bed_right" 50, dOf "_law_other_rows" 51, dOf "_law_written" 52, dOf "_law_stump_text_due" 53, dOf "_law_some_stump" 54, dOf "_law_stump_texts_right" 55, dOf "law" 56, dMe "__init__" "Bed.__init__" 0, dMe "leaves" "Bed.leaves" 3, dMe "branches" "Bed.branches" 4, dMe "rank" "Bed.rank" 5, dMe "same" "Bed.same" 6, dMe "written" "Bed.written" 7]
def fa : List He.Fa := [.glo "check_count", .glo "arity", .glo "fault_among", .glo "check_stump", .glo "written", .glo "read_stump", .glo "read_plant", .glo "read_row", .glo "joined_text", .glo "only_letters", .glo "is_name", .glo "_law_bag", .glo "_law_draw", .glo "_law_word", .glo "_law_name", .glo "_law_rows", .glo "_law_number", .glo "_law_plant", .glo "_law_fault", .glo "_law_same", .glo "_law_made", .glo "_law_bent_pairs", .glo "_law_good_name", .glo "_law_pairs_due", .glo "_law_pairs_text", .glo "_law_pairs_text_due", .glo "_law_char", .glo "_law_bent_text", .glo "_law_bed_met", .glo "_law_text_met", .glo "_law_unknown", .glo "_law_bed_right", .glo "_law_other_rows", .glo "_law_written", .glo "_law_stump_text_due", .glo "_law_some_stump", .glo "_law_stump_texts_right", .glo "law", .free "len", .free "range", .free "reversed", .free "enumerate", .free "tuple", .free "list", .free "int", .free "abs", .free "max", .free "isinstance", .free "bool", .free "str", .free "super", .free "ValueError", .int "MOST_KNOTS" 2000, .int "MOST_KINDS" 8, .int "MOST_BRANCHES" 3, .int "LONGEST_NAME" 8, .str "HOLE" "*", .str "DIGITS" "0123456789", .glo "YardError", .glo "Bed", .cls "Bed", .mkr "Bed", .noat "Bed" "arities", .noat "Bed" "rows", .noat "Bed" "kinds", .noat "Bed" "ranks", .meth "Bed" "__init__", .meth "Bed" "leaves", .meth "Bed" "branches", .meth "Bed" "rank", .meth "Bed" "same", .meth "Bed" "written"]
def ers : List ErD := [⟨"TooMany", "TooMany.__init__", clb 6 0, ["what", "limit"]⟩, ⟨"InvalidBed", "InvalidBed.__init__", clb 2 0, ["place"]⟩, ⟨"InvalidStump", "InvalidStump.__init__", clb 3 0, ["place"]⟩, ⟨"InvalidText", "InvalidText.__init__", clb 4 0, ["text"]⟩, ⟨"UnknownKind", "UnknownKind.__init__", clb 5 0, ["kind"]⟩]
abbrev dW0 : He5.DefA := { at_ := fun K => He5.wf K (He.ga K "Bed") "classmethod" "read", name := "read", qual := "Bed.read", params := defArgs (clb 28 1), body := defBody (clb 28 1), scope := defScope (clb 28 1) }
abbrev dW1 : He5.DefA := { at_ := fun K => He5.wf K (He.ga K "Bed") "property" "leaf", name := "leaf", qual := "Bed.leaf", params := defArgs (clb 28 2), body := defBody (clb 28 2), scope := defScope (clb 28 2) }
def fw : List He5.DefA := [dW0, dW1]
abbrev R : PySem.W.OpenRow := PySem.W.OpenLaw.row PySem.Challenge.rw_shearyard_k04_texts_of_beds_and_stumps
/-- the addresses that the facts look at -/
def lit0 : List Addr := [3, 6, 4, 24, 46, 67, 88, 109, 130, 139, 146, 153, 160, 167, 174, 181, 188, 195, 202, 209, 273, 282, 289, 294, 299, 304, 311, 316, 323, 330, 337, 342, 349, 354, 359, 366, 373, 378, 385, 392, 399, 404, 411, 418, 423, 428, 435, 442, 0, 23, 45, 66, 87, 108, 129, 138, 145, 152, 159, 166, 173, 180, 187, 194, 201, 208, 272, 281, 288, 293, 298, 303, 310, 315, 322, 329, 336, 341, 348, 353, 358, 365, 372, 377, 384, 391, 398, 403, 410, 417, 422, 427, 434, 441, 22, 25, 43, 44, 64, 65, 85, 86, 106, 107, 127, 128, 133, 134, 135, 136, 137, 140, 141, 142, 143, 144, 147, 148, 149, 150, 151, 154, 155, 156, 157, 158, 161, 162, 163, 164, 165, 168, 169, 170, 171, 172, 175, 176, 177, 178, 179, 182, 183, 184, 185, 186, 189, 190, 191, 192, 193, 196, 197, 198, 199, 200, 203, 204, 205, 206, 207, 221, 230, 239, 244, 251, 258, 265, 270, 271, 274, 275, 278, 279, 280, 283, 284, 285, 286, 287, 290, 291, 292, 295, 296, 297, 300, 301, 302, 305, 306, 307, 308, 309, 312, 313, 314, 317, 318, 319]
def lit1 : List Addr := [320, 321, 324, 325, 326, 327, 328, 331, 332, 333, 334, 335, 338, 339, 340, 343, 344, 345, 346, 347, 350, 351, 352, 355, 356, 357, 360, 361, 362, 363, 364, 367, 368, 369, 370, 371, 374, 375, 376, 379, 380, 381, 382, 383, 386, 387, 388, 389, 390, 393, 394, 395, 396, 397, 400, 401, 402, 405, 406, 407, 408, 409, 412, 413, 414, 415, 416, 419, 420, 421, 424, 425, 426, 429, 430, 431, 432, 433, 436, 437, 438, 439, 440, 42, 31, 63, 52, 84, 73, 105, 94, 126, 115, 220, 228, 229, 238, 243, 250, 257, 264, 269, 37, 38, 39, 40, 41, 58, 59, 60, 61, 62, 79, 80, 81, 82, 83, 100, 101, 102, 103, 104, 121, 122, 123, 124, 125, 217, 218, 219, 227, 231, 237, 240, 241, 242, 245, 246, 247, 248, 249, 252, 253, 254, 255, 256, 259, 260, 261, 262, 263, 266, 267, 268, 2]
def lit : List Addr := lit0 ++ lit1
abbrev hk : PySem.W.Hook := hookX R.prog.main.file lit fa fn ers fw
def ob (s : PySem.W.SharedT) : AlX := obsXG R.prog.main.file lit fa fn ers fw (HandSHeadRun.getT s)
theorem ob_eq (s : PySem.W.SharedT) : ob s = hk.obs s.abs := obsXG_eq (HandSHeadRun.getT_eq s)
def loose1 : List Str := ["YardError", "InvalidBed", "InvalidStump", "InvalidText", "UnknownKind", "TooMany", "MOST_KINDS", "MOST_BRANCHES", "MOST_KNOTS", "check_count", "arity", "fault_among", "HOLE", "check_stump", "written", "read_stump", "read_plant", "read_row", "joined_text", "LONGEST_NAME", "DIGITS", "only_letters", "is_name", "Bed", "_law_bag", "_law_draw", "_law_word", "_law_name", "_law_rows", "_law_number"]
def loose2 : List Str := ["_law_plant", "_law_fault", "_law_same", "_law_made", "_law_bent_pairs", "_law_good_name", "_law_pairs_due", "_law_pairs_text", "_law_pairs_text_due", "_law_char", "_law_bent_text", "_law_bed_met", "_law_text_met", "_law_unknown", "_law_bed_right", "_law_other_rows", "_law_written", "_law_stump_text_due", "_law_some_stump", "_law_stump_texts_right"]
theorem run (w : World) : HandSHeadRun.RunEq R (PySem.W.view R.prog [56]) hk ob 30000 (loose1 ++ loose2) w := by
  intro os
  kernel_rfl
end Sy.En
namespace Sy
open PySem PySem.Spec PyProof.Rows L2
/-- a def of the top, by its place -/
abbrev DF (K : PySem.W.Frag) (mg : Str → Option Value) (x : Str) (i : Nat) : Prop := FD K x (top i) ∧ mg x = some (.ref (He.ga K x))
section
variable {P : Program} {w : World} {K : PySem.W.Frag} {mg : Str → Option Value} {base : Heap}
def spArity (K : PySem.W.Frag) : Sp := fun vs H Q _ => ∃ a rows x, vs = [.ref a, .str x] ∧ BedAt K H a rows ∧ Q (.int (ar rows x : Nat)) H
theorem sc_arity : FnScope ["bed", "entry"] ["bed", "entry"] (defScope (top 12)) := ⟨rfl, rfl, rfl, by decide +kernel, rfl, by decide +kernel, by decide +kernel⟩
theorem k_arity (T : Txt K mg) (F : DF K mg "arity" 12) : Cal P w K mg base 1 "arity" ["bed", "entry"] (spArity K) := by
  refine cal_of F.1 F.2 sc_arity (fun _ _ _ _ _ _ us e => match us, e with | [_, _], _ => rfl) (fun vs H Q E s => by obtain ⟨a, rows, x, rfl, _⟩ := s; rfl) ?_
  intro cdv A outer s H vs Q E hr h
  obtain ⟨a, rows, x, rfl, hb, hq⟩ := h
  have hu := hu_of hr
  refine ⟨_, pss_one (ps_ret (pe_dget2 hu (pe_fld (pv 0) rfl) (pv 1) pe_int ⟨rfl, rfl, rfl, rfl⟩)), ?_⟩
  obtain ⟨dx, dA, tR, tK, dR, ps, h1, hd, h3, h4, h5, h6⟩ := hb.ex
  refine ⟨_, rfl, a, _, dx, _, _, rfl, h1, T.bed.cl, T.bed.nA, rfl, dA, rfl, .inl ⟨_, .inl hd⟩, _, rfl, _, DGet.k (k := Sum.inr x) hd, ?_⟩
  rw [valV_ar]
  unfold ar at hq
  cases e : rows.lookup x with
  | none => rw [e] at hq; exact hq
  | some n => rw [e] at hq; exact hq
end
end Sy
namespace Sy
open PySem PySem.Spec PyProof.Rows L2
section
variable {P : Program} {w : World} {K : PySem.W.Frag} {mg : Str → Option Value} {base : Heap}
/-! fault_among -/
def fa (rows : List Sy.Row) (lv : List Str) : Nat → Nat → List Str → Int
  | m, i, [] => if 0 < m then (i : Nat) else -1
  | m, i, x :: l => if m = 0 then (i : Nat) else if isK rows x = false ∧ x ∉ lv then (i : Nat) else fa rows lv (m - 1 + ar rows x) (i + 1) l
def spFault (K : PySem.W.Frag) : Sp := fun vs H Q _ => ∃ a r v rows l lv, vs = [.ref a, .ref r, .ref v] ∧ BedAt K H a rows ∧ SqT K H r (l.map V.str) ∧ SqT K H v (lv.map V.str) ∧ ∀ H', Same H H' → Q (.int (fa rows lv 1 0 l)) H'
abbrev N_fault : List Str := ["bed", "row", "leaves", "missing", "index", "entry"]
theorem sc_fault : FnScope N_fault ["bed", "row", "leaves"] (defScope (top 13)) := ⟨rfl, rfl, rfl, by decide +kernel, rfl, by decide +kernel, by decide +kernel⟩
theorem map_at {α β : Type} {f : α → β} {l : List α} {i : Nat} {y : β} (h : (l.map f)[i]? = some y) : ∃ x, l[i]? = some x ∧ y = f x := by
  rw [List.getElem?_map] at h
  cases e : l[i]? with
  | none => rw [e] at h; cases h
  | some x => rw [e] at h; exact ⟨x, rfl, (Option.some.inj h).symm⟩
theorem inV_strs (y : Str) (lv : List Str) : inV (.str y) (lv.map V.str) = decide (y ∈ lv) := by
  unfold inV
  induction lv with
  | nil => rfl
  | cons x l ih =>
    rw [List.map_cons, List.any_cons, ih]
    have : eqV (V.str x) (V.str y) = decide (x = y) := by
      by_cases h : x = y
      · subst h
        simp [eqV]
      · simp [eqV, h]
    rw [this]
    simp [List.mem_cons, eq_comm]
theorem drop_of {α : Type} {l : List α} {i : Nat} {x : α} (h : l[i]? = some x) : l.drop i = x :: l.drop (i + 1) := by
  obtain ⟨hi, e⟩ := List.getElem?_eq_some_iff.mp h
  rw [List.drop_eq_getElem_cons hi, e]
theorem k_fault (T : Txt K mg) (F : DF K mg "fault_among" 13) (c_arity : Cal P w K mg base 1 "arity" ["bed", "entry"] (spArity K)) : Cal P w K mg base 2 "fault_among" ["bed", "row", "leaves"] (spFault K) := by
  refine cal_of F.1 F.2 sc_fault (fun _ _ _ _ _ _ us e => match us, e with | [_, _, _], _ => rfl) (fun vs H Q E s => by obtain ⟨_, _, _, _, _, _, rfl, _⟩ := s; rfl) ?_
  intro cdv A outer s H vs Q E hr h
  obtain ⟨a, r, v, rows, l, lv, rfl, hb, hR, hL, hq⟩ := h
  have hu := hu_of hr
  have sc := sc_fault
  refine ⟨_, (pss_cons (ps_set (i := 3) sc.nd rfl (Or.inl rfl) pe_int)
      (pss_cons (ps_for (passes_of rfl) rfl (pi_enumT (by rfl) T.enumerate (pa_cons (pv 1) pa_nil)) (pg_tup rfl (pgs_cons (pg_name (i := 4) sc.nd rfl (Or.inl rfl)) (pgs_cons (pg_name (i := 5) sc.nd rfl (Or.inl rfl)) pgs_nil)))
        (pss_cons (ps_if (pt_cmpR op_eq (pv 3) pe_int (nomark _))
          (pss_one (ps_ret (pv 4)))
          pss_nil)
        (pss_cons (ps_if (PW.pt (pw_and (pt_cmp (pc_dnotin hu (pv 5) (pe_fld (pv 0) rfl))) (pw_and1 (pt_cmpR op_notIn_seq (pv 5) (pv 2) rfl))))
          (pss_one (ps_ret (pv 4)))
          pss_nil)
        (pss_one (ps_set (i := 3) sc.nd rfl (Or.inl rfl) (pe_op op_add (pe_op op_sub (pv 3) pe_int) (pe_cal c_arity hr (pa_cons (pv 0) (pa_cons (pv 5) pa_nil)))))))))
      (pss_cons (ps_if (pt_cmpR op_gt (pv 3) pe_int (nomark _))
        (pss_one (ps_ret (pe_callB call_len_seq (by rfl) T.len (by decide +kernel) (pa_cons (pv 1) pa_nil))))
        pss_nil)
      (pss_one (ps_ret (pe_un un_neg pe_int)))))), ?_⟩
  refine ⟨_, rfl, r, _, rfl, hR, for_enumT (K := K) (fun i σ H' => ∃ (m : Nat) (z : Int) (s4 s5 : Option V), σ = [some (.ref a), some (.ref r), some (.ref v), some (.int z), s4, s5] ∧ z = (m : Nat) ∧ Same H H' ∧ fa rows lv m i (l.drop i) = fa rows lv 1 0 l) ⟨1, 1, none, none, rfl, rfl, Same.refl H, by rw [List.drop_zero]⟩ (fun i σ H' _ ⟨_, _, _, _, _, _, s, _⟩ => Same.sqt s hR) ?_ ?_⟩
  · intro i x σ H' Tt hx ⟨m, _, s4, s5, hσ, rfl, sm, e⟩ hT
    obtain ⟨y, hy, rfl⟩ := map_at hx
    subst hσ
    rw [drop_of hy] at e
    refine ⟨_, rfl, rfl, _, rfl, if_dec (fun c => ?_) (fun c => ?_)⟩
    · rw [fa, if_pos (by have := V.int.inj c; omega)] at e
      refine ⟨_, rfl, ?_⟩
      rw [e]
      exact hq _ (sm.trans (up_same hT))
    · have c : m ≠ 0 := fun z => c (by rw [z]; rfl)
      rw [fa, if_neg c] at e
      have sm2 : Same H (upd H' Tt (.tup [.int (i : Nat), .str y])) := sm.trans (up_same hT)
      have hb2 := hb.mono (Stay.of sm2)
      obtain ⟨dx, dA, tR, tK, dR, ps, h1, hd, h3, h4, h5, h6⟩ := hb2.ex
      refine ⟨_, rfl, _, rfl, a, _, dx, _, _, rfl, h1, T.bed.cl, T.bed.nA, rfl, dA, _, rfl, DGet.k (k := Sum.inr y) hd, _, rfl, ?_⟩
      have stop : isK rows y = false → y ∉ lv → Q (.int (i : Nat)) (upd H' Tt (.tup [.int (i : Nat), .str y])) := fun z1 z2 => by
        rw [if_pos ⟨z1, z2⟩] at e
        have q := hq _ sm2
        rw [← e] at q
        exact q
      have em : ((m : Int) - 1 + (ar rows y : Nat)) = ((m - 1 + ar rows y : Nat) : Int) := by omega
      have go : ¬ (isK rows y = false ∧ y ∉ lv) → fa rows lv (m - 1 + ar rows y) (i + 1) (l.drop (i + 1)) = fa rows lv 1 0 l := fun z => by
        rw [if_neg z] at e
        exact e
      refine if_bool (fun c2 => ?_) (fun c2 => ?_)
      · have c2 : isK rows y = false := by simpa [valV_ar, isK] using c2
        refine ⟨_, rfl, _, rfl, v, _, rfl, .inr (Same.sqt sm2 hL), rfl, by simp [flatV], _, rfl, ?_⟩
        refine if_bool (fun c3 => ?_) (fun c3 => ?_)
        · exact ⟨_, rfl, stop c2 (by simpa [inV_strs] using c3)⟩
        · exact ⟨_, rfl, _, _, rfl, rfl, _, rfl, _, rfl, a, rows, y, rfl, hb2, _, _, rfl, rfl, _, _, _, _, rfl, em, sm2, go fun z => z.2 (by simpa [inV_strs] using c3)⟩
      · have c2 : isK rows y = true := by simpa [valV_ar, isK] using c2
        exact ⟨_, rfl, _, _, rfl, rfl, _, rfl, _, rfl, a, rows, y, rfl, hb2, _, _, rfl, rfl, _, _, _, _, rfl, em, sm2, go fun z => by rw [c2] at z; cases z.1⟩
  · intro σ H' ⟨m, _, s4, s5, hσ, rfl, sm, e⟩
    subst hσ
    rw [List.drop_of_length_le (by simp), fa] at e
    refine ⟨_, rfl, _, _, rfl, rfl, _, rfl, if_dec (fun c => ?_) (fun c => ?_)⟩
    · rw [if_pos (by omega)] at e
      refine ⟨_, rfl, r, _, rfl, .inr (Same.sqt sm hR), ?_⟩
      have q := hq _ sm
      rw [← e] at q
      exact q
    · rw [if_neg (by omega)] at e
      refine ⟨_, rfl, ?_⟩
      have q := hq _ sm
      rw [← e] at q
      exact q
end
end Sy
namespace Sy
open PySem PySem.Spec PyProof.Rows L2
/-! more words -/
theorem ixN_nat {n j : Nat} (h : j < n) : ixN n (j : Int) = some j := by
  unfold ixN
  rw [if_pos (by omega), if_pos (by omega)]
  rfl
/-- a row of places -/
abbrev vN (l : List Nat) : List V := l.map fun n : Nat => V.int (n : Int)
def DN (l : List Nat) : PyData := .tuple (l.map fun n : Nat => PyData.int (n : Int))
def DS (l : List Str) : PyData := .tuple (l.map PyData.str)
section
variable {K : PySem.W.Frag} {H B B' : Hp} {v : V} {vs : List V} {ds : List PyData}
theorem ImA.nats : ∀ l : List Nat, ImA K H (vN l) (l.map fun n : Nat => PyData.int (n : Int))
  | [] => .nil
  | x :: l => .cons (.int _) (ImA.nats l)
theorem Im.nats {a : Addr} {l : List Nat} (h : SqT K H a (vN l)) : Im K H (.ref a) (DN l) := .tup h (ImA.nats l)
theorem Im.tupI (h : Im K H v (.tuple ds)) : ∃ a xs, v = .ref a ∧ SqT K H a xs ∧ ImA K H xs ds := by
  cases h with
  | tup h1 h2 => exact ⟨_, _, rfl, h1, h2⟩
theorem Im.intI {i : Int} (h : Im K H v (.int i)) : v = .int i := by cases h; rfl
theorem Im.strI {x : Str} (h : Im K H v (.str x)) : v = .str x := by cases h; rfl
theorem ImA.natsI : ∀ {l : List Nat} {vs : List V}, ImA K H vs (l.map fun n : Nat => PyData.int (n : Int)) → vs = vN l
  | [], _, .nil => rfl
  | _ :: _, _, .cons a b => by rw [a.intI, ImA.natsI b]; rfl
theorem ImA.strsI : ∀ {l : List Str} {vs : List V}, ImA K H vs (l.map PyData.str) → vs = l.map V.str
  | [], _, .nil => rfl
  | _ :: _, _, .cons a b => by rw [a.strI, ImA.strsI b]; rfl
theorem Im.natsI {l : List Nat} (h : Im K H v (DN l)) : ∃ a, v = .ref a ∧ SqT K H a (vN l) := by
  obtain ⟨a, xs, rfl, h1, h2⟩ := h.tupI
  rw [h2.natsI] at h1
  exact ⟨a, rfl, h1⟩
theorem Im.strsI {l : List Str} (h : Im K H v (DS l)) : ∃ a, v = .ref a ∧ SqT K H a (l.map V.str) := by
  obtain ⟨a, xs, rfl, h1, h2⟩ := h.tupI
  rw [h2.strsI] at h1
  exact ⟨a, rfl, h1⟩
theorem ImA.set : ∀ {vs : List V} {ds : List PyData} {i : Nat} {d : PyData}, ImA K H vs ds → Im K H v d → ImA K H (vs.set i v) (ds.set i d)
  | _, _, _, _, .nil, _ => .nil
  | _, _, 0, _, .cons _ b, h => .cons h b
  | _, _, i + 1, _, .cons a b, h => .cons a (ImA.set b h)
theorem ImA.snoc {d : PyData} (h : ImA K H vs ds) (g : Im K H v d) : ImA K H (vs ++ [v]) (ds ++ [d]) := h.app (.cons g .nil)
end
/-! comprehensions over a tuple -/
abbrev LcW (J : It) (g : TG) (tt : TT) (te : TE) (vs : List Nat) (σ : L2.St) (H1 : Hp) (D : Addr) (Qd : Hp → Prop) : Prop := ∃ W : Nat → Nat → Hp → Prop, (∃ m, W 0 m (upd H1 D (.lst []))) ∧ ∀ i m H, W i m H → (J.stop i H ∧ Qd H) ∨
  (J.go i H ∧ ∃ Nx : Hp → Prop, (∀ H', Nx H' → ∃ m', m' < m ∧ W (i + 1) m' H') ∧ ∀ x H', J.yld i H x H' → g x (wipe σ vs) H' fun σ2 H2 => wipe σ2 vs = wipe σ vs ∧ tt σ2 H2 fun b H3 => if b = true then te σ2 H3 fun y H4 => ∃ acc, H4 D = some (.lst acc) ∧ acc.length < sizeLine ∧ Nx (upd H4 D (.lst (acc ++ [y]))) else Nx H3)
/-- [e for x in t] -/
theorem wipe_one (σ : L2.St) (i : Nat) (v : Option V) : wipe (σ.set i v) [i] = wipe σ [i] := by
  show (σ.set i v).set i none = σ.set i none
  rw [List.set_set]
theorem lc_map {K : PySem.W.Frag} {a : Addr} {xs : List V} {si : Nat} {te : TE} {σ : L2.St} {H B : Hp} {L : List (Addr × HO)} {D : Addr} {Qd : Hp → Prop} (h : Hs B L H) (hD : H D = none) (hx : SqT K B a xs) (hsz : xs.length ≤ 1000000)
    (Pv : Nat → Hp → List V → Prop) (h0 : Pv 0 B [])
    (hs : ∀ i x B' acc H', xs[i]? = some x → Same B B' → Pv i B' acc → Hs B' ((D, .lst acc) :: L) H' →
      ∀ R : VK, (∀ y H4 B4, Same B' B4 → Hs B4 ((D, .lst acc) :: L) H4 → Pv (i + 1) B4 (acc ++ [y]) → R y H4) → te ((wipe σ [si]).set si (some x)) H' R)
    (hd : ∀ B' acc H', Same B B' → Pv xs.length B' acc → Hs B' ((D, .lst acc) :: L) H' → Qd H') : LcW (Itt K a) (gName si) tYes te [si] σ H D Qd := by
  refine lc_tup (K := K) (a := a) (xs := xs) (fun i H' => i ≤ xs.length ∧ ∃ B' acc, acc.length = i ∧ Same B B' ∧ Pv i B' acc ∧ Hs B' ((D, .lst acc) :: L) H') ⟨Nat.zero_le _, B, [], rfl, Same.refl B, h0, h.new hD⟩ ?_ ?_ ?_
  · rintro i H' _ ⟨_, B', acc, _, s, _, hh⟩
    exact Same.sqt (s.trans hh.sub) hx
  · rintro i x H' hxi ⟨hi, B', acc, ha, s, p, hh⟩
    have lt : i < xs.length := (List.getElem?_eq_some_iff.mp hxi).1
    refine ⟨wipe_one _ _ _ |>.trans (by show (σ.set si none).set si none = σ.set si none; rw [List.set_set]), ?_⟩
    simp only [tYes, if_true]
    refine hs i x B' acc H' hxi s p hh _ (fun y H4 B4 s4 h4 p4 => ?_)
    exact ⟨acc, h4.r0, by rw [sizeLine_eq]; omega, by omega, B4, acc ++ [y], by rw [List.length_append, ha]; rfl, s.trans s4, p4, h4.w0⟩
  · rintro H' ⟨_, B', acc, _, s, p, hh⟩
    exact hd B' acc H' s p hh
end Sy
namespace Sy
open PySem PySem.Spec PyProof.Rows L2
section
variable {K : PySem.W.Frag} {H : Hp} {a b : Addr} {xs ys : List V} {Q : VK}
/-- a tuple's slice, whether it is the whole or not -/
theorem sl_any {lo hi : Option Int} {zs : List V} (hz : cutV xs lo hi = zs) (h : SqT K H a xs) (q : ∀ p H', Same H H' → SqT K H' p zs → Q (.ref p) H') : rSlA K (.ref a) lo hi H Q := by
  subst hz
  refine ⟨a, xs, rfl, h, fun c => q _ _ (Same.refl H) ?_, fun _ p hp => q _ _ (up_same hp) (SqT.of upd_same)⟩
  unfold cutV
  rw [c.1, c.2, List.drop_zero, Nat.sub_zero, List.take_length]
  exact h
theorem cat_any (h : SqT K H a xs) (g : SqT K H b ys) (hs : xs.length + ys.length ≤ 1000000) (q : ∀ p H', Same H H' → SqT K H' p (xs ++ ys) → Q (.ref p) H') : rCatA K (.ref a) (.ref b) H Q := by
  refine ⟨a, b, xs, ys, rfl, rfl, h, g, by rw [sizeLine_eq]; omega, fun c => q _ _ (Same.refl H) (by rw [c]; exact g), fun _ c => q _ _ (Same.refl H) (by rw [c, List.append_nil]; exact h), fun _ _ p hp => q _ _ (up_same hp) (SqT.of upd_same)⟩
theorem cut_take {i : Nat} (h : i ≤ xs.length) : cutV xs none (some (i : Int)) = xs.take i := by
  unfold cutV HT.sIx
  simp only [List.drop_zero, Nat.sub_zero]
  rw [if_neg (by omega), show min (i : Int).toNat xs.length = i by omega]
theorem cut_drop {i : Nat} (h : i ≤ xs.length) : cutV xs (some (i : Int)) none = xs.drop i := by
  unfold cutV HT.sIx
  simp only []
  rw [if_neg (by omega), show min (i : Int).toNat xs.length = i by omega, List.take_of_length_le]
  rw [List.length_drop]
  exact Nat.le_refl _
theorem cut_mid {i j : Nat} (h : i ≤ j) (g : j ≤ xs.length) : cutV xs (some (i : Int)) (some (j : Int)) = (xs.drop i).take (j - i) := by
  unfold cutV HT.sIx
  simp only []
  rw [if_neg (by omega), if_neg (by omega), show min (i : Int).toNat xs.length = i by omega, show min (j : Int).toNat xs.length = j by omega]
end
end Sy
/-! try: .. except X as e: suite, further clauses behind it that are not reached -/
namespace Sy
open PySem PySem.Spec PyProof.Rows L2
/-- what the body may raise: what the first clause catches -/
def wFst (K : PySem.W.Frag) (c : Value) (i : Nat) (ts : Addr → Value → Option Addr → TS) (D : Ends) : WX := fun cls d σ H => PySem.W.exmOne K cls c = some true ∧ ∀ a, H a = none →
  ts a cls d { nx := fun σ' H' => D.nx (σ'.set i none) H', rt := D.rt, bk := fun σ' H' => D.bk (σ'.set i none) H', ct := fun σ' H' => D.ct (σ'.set i none) H' } (σ.set i (some (.ref a))) H
theorem ps_try_fst {X : Cx} {x n : Str} {c : Value} {i : Nat} {body suite : List Stmt} {b₀ : Stmt} {np pos pos' : Pos} {hds : List ExceptHandler} {tb : WX → TS} {ts : Addr → Value → Option Addr → TS}
    (hs : X.stack = X.env :: X.outer) (hf : X.env.frame = some X.env.locals) (hN : X.N.Nodup) (hi : X.N[i]? = some n) (hln : X.env.kindOf n = some .local) (hc : Names X x c)
    (hb : ∀ (W : WX) (pn : List (Addr × Obj)) (xe : Value → Shared → Prop), Takes (X.tr pn xe) W → PassesOwn (model X.prog X.w) X.A X.env xe → PSs (X.tr pn xe) body (tb W))
    (hsu : ∀ (a : Addr) (oe : Obj) (cls : Value) (d : Option Addr) (pn : List (Addr × Obj)), Zc cls d oe → (∃ vs, oe.data = .fields vs) → PSs (X.suite a ((a, oe) :: pn)) (b₀ :: suite) (ts a cls d)) :
    PS X (.Try body (.ExceptHandler (some (.Name x np)) (some n) (b₀ :: suite) pos' :: hds) [] [] pos) (fun D σ H => tb (wFst X.K c i ts D) D σ H) := by
  constructor
  intro pins s σ H D I h
  have ok := I.ok
  have fr0 : X.A.frames = some (X.env :: X.outer) := by rw [ok.frames, hs]
  apply wpAny_Try_except
  refine wpAny_mono ((hb (wFst X.K c i ts D) (X.pn ++ pins) (fun e s₁ => wpAny (model X.prog X.w) X.A (noteFrame e X.env) (fun _ s₂ => wpAny (model X.prog X.w) X.A (setFlight e none) (fun _ s₃ =>
    wpAny (model X.prog X.w) X.A (handleBy e X.env (.ExceptHandler (some (.Name x np)) (some n) (b₀ :: suite) pos' :: hds)) (SP X pins D) X.xe s₃) X.xe s₂) X.xe s₁) (fun u s' q => ?cat) PassesOwn.looking).run [] s σ H D (I.toTry _) h) (fun f s1 q => ?fin) (fun _ _ q => q)
  case fin =>
    cases f
    case next =>
      obtain ⟨_, _, J, z⟩ := q
      exact wpAny_execs_nil ⟨_, _, J.ofTry ok, z⟩
    case brk =>
      obtain ⟨_, _, J, z⟩ := q
      exact ⟨_, _, J.ofTry ok, z⟩
    case cont =>
      obtain ⟨_, _, J, z⟩ := q
      exact ⟨_, _, J.ofTry ok, z⟩
    case ret =>
      obtain ⟨_, _, _, J, rv, z⟩ := q
      exact ⟨_, _, _, J.ofTry ok, rv, z⟩
  case cat =>
    obtain ⟨a, B, sI, pins', σ1, H1, cls, d, rfl, J', nb, up, sky, na, os, ag, hcat, hgo⟩ := q
    have J : Inv X pins σ1 H1 sI := J'.ofTry ok
    rw [hs] at sky
    show wpAny (model X.prog X.w) X.A (noteFrame (.ref a) X.env) _ _ _
    refine Sky.land Zc.steady fr0 hf sky fun h3 fl up3 => ?_
    have J3 : Inv X pins σ1 H1 { s' with heap := h3 } := J.landed nb fl.1 (up.trans up3) os ag
    obtain ⟨o3, v3, g3, z3, d3⟩ := fl.there
    have off : a ∉ frs (X.env :: X.outer) := fun hm => by
      obtain ⟨_, _, e', no⟩ := fl.2.2.1.mem hm
      rw [g3] at e'
      cases e'
      exact no _ d3
    have nL : a ≠ X.env.locals := fun z => off (List.mem_filterMap.mpr ⟨X.env, List.mem_cons_self, by rw [hf, z]⟩)
    have nF : a ∉ X.fs := fun hm => by
      obtain ⟨e, he, z⟩ := List.mem_filterMap.mp hm
      exact off (List.mem_filterMap.mpr ⟨e, List.mem_cons_of_mem _ he, z⟩)
    have S3 := J3.suite g3 d3 na nL nF
    refine wpAny_handleBy_cons (codeAny_handlers_test ?_) (by intro z; cases z)
    have LT : PySem.W.Looks (model X.prog X.w) h3 (typeOf (.ref a)) cls := fun _ _ _ _ k z => wpAny_typeOf_ref (k _ _ g3) (by rw [z3.1]; exact z)
    have LM := PySem.W.exm_one (M := model X.prog X.w) J3.kIn LT hcat
    have go2 : ∀ {Q E : Value → Shared → Prop}, Q c { s' with heap := h3 } → wpAny (model X.prog X.w) (X.A.mark (some (.ref a))) (eval (.Name x np) X.env) Q E { s' with heap := h3 } := fun {Q E} z => by
      rcases hc with ⟨g, dbg, m | ⟨m, v, nn⟩⟩
      · exact ld_glob (X := X.suite a ((a, o3) :: (X.pn ++ pins))) S3 g m z dbg
      · exact ld_blt (X := X.suite a ((a, o3) :: (X.pn ++ pins))) S3 g m v z nn dbg
    refine go2 (LM.here ?_)
    refine codeAny_handlers_suite_as ?_
    refine HandSPX.lands_againZ fl fun h4 fl4 up4 => ?_
    have J4 : Inv X pins σ1 H1 { s' with heap := h4 } := J.landed nb fl4.1 ((up.trans up3).trans up4) os ag
    obtain ⟨o4, v4, g4, z4, d4⟩ := fl4.there
    refine store_ok (X := X.suite a ((a, o4) :: (X.pn ++ pins))) (v := .ref a) (J4.suite g4 d4 na nL nF) hN hi (.inl hln) rfl (fun s5 S5 => ?_) (.inr hln)
    refine wpAny_mono ((hsu a o4 cls d (X.pn ++ pins) z4 ⟨_, d4⟩).run [] s5 _ H1 _ S5 (hgo a na)) (fun f s6 q => ?_) (fun _ _ z => z.elim)
    have shut : ∀ {σ6 : L2.St} {H6 : Hp} {R : Shared → Prop}, Inv (X.suite a ((a, o4) :: (X.pn ++ pins))) [] σ6 H6 s6 → (∀ s7, Inv X pins (σ6.set i none) H6 s7 → R s7) →
        wpAny (model X.prog X.w) X.A (do bindName X.env n .none; unbindBehindTheSuite X.env n pos') (fun _ s7 => R s7) X.xe s6 := fun S6 k => gone_ok (S6.unsuite ok) hN hi hln k
    cases f
    case next =>
      obtain ⟨_, _, S6, z⟩ := q
      exact shut S6 fun _ J7 => ⟨_, _, J7, z⟩
    case brk =>
      obtain ⟨_, _, S6, z⟩ := q
      exact shut S6 fun _ J7 => ⟨_, _, J7, z⟩
    case cont =>
      obtain ⟨_, _, S6, z⟩ := q
      exact shut S6 fun _ J7 => ⟨_, _, J7, z⟩
    case ret =>
      obtain ⟨_, _, _, S6, rv, z⟩ := q
      exact shut S6 fun _ J7 => ⟨_, _, _, J7, rv, z⟩
end Sy
/-! own errors: their __init__, raising them -/
namespace Sy
open PySem PySem.Spec PyProof.Rows L2
/-- the class x, its __init__ by its row, its fields -/
structure ErrB (P : Program) (K : PySem.W.Frag) (mg : Str → Option Value) (x q : Str) (st : Stmt) (fs : List Str) : Prop where
  sup : ∃ (cc cd : Addr) (kV doc pm : Value) (an : Option Addr) (ct : Value), SupF P K (He.ga K x) (iniA K x) cc cd q (defArgs st) (defBody st) (defScope st) (PySem.W.fnX "__init__" q (defArgs st) (defBody st) (defScope st) [("__class__", cc)] .none kV doc pm an (.ref cd) ct)
  iC : PySem.W.findIn K (.ref (He.ga K x)) "__init__" = some (some (.ref (iniA K x)))
  tI : PySem.W.typeIn K (.ref (iniA K x)) = some (.type "function")
  at_ : mg x = some (.ref (He.ga K x))
  ex : PySem.W.exmOne K (.ref (He.ga K x)) (.ref (He.ga K x)) = some true
  xf : XfC K (He.ga K x)
  no : ∀ f ∈ fs, PySem.W.findIn K (.ref (He.ga K x)) f = some none
  mS : mg "super" = none
  top : (P.main.scope.names.lookup ("super" : Str)).isSome = false
/-- raised: a new dict with these fields, beside what stood -/
def Ra (K : PySem.W.Frag) (x : Str) (fs : List (Str × V)) (H : Hp) (E : XK) : Prop := ∀ d H', Same H H' → H' d = some (.xd fs) → E (.ref (He.ga K x)) (some d) H'
def spInit (C : Addr) (ok : List V → Hp → List (Str × V) → Prop) : Sp := fun vs H Q _ => ∃ a us fs, vs = .ref a :: us ∧ ok us H fs ∧ H a = some (exo a C none) ∧
  ∀ dx H', H dx = none → dx ≠ a → H' a = some (exo a C (some dx)) → H' dx = some (exd dx fs) → (∀ b, b ≠ a → b ≠ dx → H' b = H b) → Q .non H'
theorem mk_ra {K : PySem.W.Frag} {x : Str} {ok : List V → Hp → List (Str × V) → Prop} {us : List V} {H : Hp} {fs : List (Str × V)} {E : XK} (hok : ∀ H', Same H H' → ok us H' fs) (hl : us.length ≤ 1000) (h : Ra K x fs H E) :
    us.length ≤ 1000 ∧ ∀ a, H a = none → spInit (He.ga K x) ok (.ref a :: (us ++ [])) (upd H a (exo a (He.ga K x) none)) (fun v H2 => v = .non ∧ ∃ (d : Addr) (fs : List (Str × V)), H2 a = some (exo a (He.ga K x) (some d)) ∧ H2 d = some (exd d fs) ∧ H d = none ∧ E (.ref (He.ga K x)) (some d) (upd (L2.del H2 a) d (.xd fs))) (fun _ _ _ => False) := by
  refine ⟨hl, fun a ha => ⟨a, us, fs, by rw [List.append_nil], hok _ (up_same ha), upd_same, fun dx H' h1 h2 h3 h4 h5 => ⟨rfl, dx, fs, h3, h4, by rw [upd_ne h2] at h1; exact h1, h dx _ (fun b o e => ?_) upd_same⟩⟩⟩
  have hb : b ≠ a := fun z => by rw [z, ha] at e; cases e
  have hd : H dx = none := by rw [upd_ne h2] at h1; exact h1
  have hb2 : b ≠ dx := fun z => by rw [z, hd] at e; cases e
  rw [upd_ne hb2, del_ne hb, h5 b hb hb2, upd_ne hb]
  exact e
section
variable {P : Program} {w : World} {K : PySem.W.Frag} {mg : Str → Option Value} {base : Heap}
/-! TooMany(what, limit) -/
def okTM : List V → Hp → List (Str × V) → Prop := fun us _ fs => ∃ (x : Str) (n : Int), us = [.str x, .int n] ∧ x.length ≤ 100 ∧ n.natAbs.log2 < 1920 ∧ (toString n : Str).length ≤ 1000 ∧ fs = ([("limit", V.int n), ("what", V.str x)] : List (Str × V))
abbrev N_tm : List Str := ["self", "what", "limit", "__class__"]
theorem sc_tm : NdefX.NScope N_tm ["self", "what", "limit"] ["__class__"] (defScope (clb 6 0)) := ⟨rfl, rfl, rfl, by decide +kernel, rfl, by decide +kernel, by decide +kernel, by decide +kernel, by decide +kernel⟩
theorem i_tm (T : ErrB P K mg "TooMany" "TooMany.__init__" (clb 6 0) ["what", "limit"]) : ∃ fd, FnOk P w K mg base CX0 1 (iniA K "TooMany") fd ["self", "what", "limit"] (spInit (He.ga K "TooMany") okTM) ∧ L2.Binds K fd ["self", "what", "limit"] [] := by
  obtain ⟨cc, cd, kV, doc, pm, an, ct, S⟩ := T.sup
  refine ⟨_, fn_sup (k := 0) S sc_tm rfl rfl rfl rfl rfl T.mS T.top (fun vs H Q E s => by obtain ⟨_, _, _, rfl, ⟨_, _, rfl, _⟩, _⟩ := s; rfl) (fun _ => rfl) (fun _ => rfl) (fun _ _ => rfl) ?_, .all fun us e => match us, e with | [_, _, _], _ => rfl⟩
  intro A outer s H vs Q E hr h
  obtain ⟨a, us, fs, rfl, ⟨x, n, rfl, hx, hn, hn2, rfl⟩, ha, hq⟩ := h
  refine ⟨_, _, pa_cons (pe_joined (.cons pe_str (.cons (pe_fmt (pv 1)) (.cons pe_str (.cons (pe_fmt (pv 2)) .nil))))) pa_nil, pss_cons (ps_ost (pv 0) (pv 1)) (pss_one (ps_ost (pv 0) (pv 2))), a, _, rfl, ha, ?_⟩
  have L1 : ((Str.empty : Str) ++ ("too many " : Str)).length = 9 := by decide +kernel
  have L2' : (": the limit is " : Str).length = 15 := by decide +kernel
  refine ⟨_, rfl, by rw [L1]; decide, _, rfl, .inl ⟨x, rfl, by rw [sizeLine_eq]; omega, _, rfl, ?_, _, rfl, ?_, _, rfl, .inr ⟨n, rfl, hn, _, rfl, ?_, (by show 1 ≤ 1000; decide), ha, _, rfl, _, rfl, a, _, rfl, S.oex, T.no _ (by decide), .inl ⟨ha, fun dx h1 h2 => ⟨_, rfl, _, rfl, a, _, rfl, S.oex, T.no _ (by decide), .inr ⟨dx, _, upd_same, by rw [upd_ne h2]; exact upd_same, (by show 1 ≤ 900; decide), hq dx _ h1 h2 ?_ upd_same ?_⟩⟩⟩⟩⟩⟩
  · rw [PySem.Str.length_append, L1, sizeLine_eq]
    omega
  · rw [PySem.Str.length_append, PySem.Str.length_append, L1, L2', sizeLine_eq]
    omega
  · rw [PySem.Str.length_append, PySem.Str.length_append, PySem.Str.length_append, L1, L2', sizeLine_eq]
    omega
  · rw [upd_ne h2.symm]
    exact upd_same
  · intro b hb hb2
    rw [upd_ne hb2, upd_ne hb, upd_ne hb2]
/-- raise TooMany(.., ..) -/
theorem mk_tm {X : Cx} {k : Nat} {p pos : Pos} {e1 e2 : Expr} {ta : TA} (T : ErrB X.prog X.K X.mg "TooMany" "TooMany.__init__" (clb 6 0) ["what", "limit"]) (hr : Room k X.A) (hg : Gl X "TooMany") (ha : PA X [e1, e2] ta)
    (hx : Passes CX0 X (fun _ _ _ => False)) (hk : 2 ≤ k := by decide) (he : starEach [e1, e2] X.env = (false, eval e1 X.env) :: starEach [e2] X.env := by rfl) (hpl : (backTo pos (starEach [e2] X.env)).any (·.1) = false := by rfl) :
    PMk X (.Call (.Name "TooMany" p) [e1, e2] [] pos) (tMkO (He.ga X.K "TooMany") (spInit (He.ga X.K "TooMany") okTM) [] ta) := by
  obtain ⟨fd, F, B⟩ := i_tm (w := X.w) (base := X.base) T
  obtain ⟨cc, cd, kV, doc, pm, an, ct, S⟩ := T.sup
  exact pmk_oex S.oex T.iC T.tI F (hr.mono hk) B .nil hx hg T.at_ ha rfl he hpl
/-! check_count -/
def spCount (K : PySem.W.Frag) : Sp := fun vs H Q E => ∃ n : Int, vs = [.int n] ∧ (n ≤ 2000 → Q .non H) ∧ (2000 < n → Ra K "TooMany" [("limit", .int 2000), ("what", .str "knots")] H E)
theorem sc_count : FnScope ["number"] ["number"] (defScope (top 11)) := ⟨rfl, rfl, rfl, by decide +kernel, rfl, by decide +kernel, by decide +kernel⟩
theorem k_count (T : Txt K mg) (TM : ErrB P K mg "TooMany" "TooMany.__init__" (clb 6 0) ["what", "limit"]) (F : DF K mg "check_count" 11) : Cal P w K mg base 3 "check_count" ["number"] (spCount K) := by
  refine cal_of F.1 F.2 sc_count (fun _ _ _ _ _ _ us e => match us, e with | [_], _ => rfl) (fun vs H Q E s => by obtain ⟨_, rfl, _⟩ := s; rfl) ?_
  intro cdv A outer s H vs Q E hr h
  obtain ⟨n, rfl, h1, h2⟩ := h
  have sc := sc_count
  refine ⟨_, (pss_one (ps_if (pt_cmpR op_gt (pv 0) (pe_gint rfl T.MOST_KNOTS) (nomark _))
        (pss_one (ps_raise rfl (takes_of rfl rfl rfl rfl) (mk_tm TM hr rfl (pa_cons pe_str (pa_cons (pe_gint rfl T.MOST_KNOTS) pa_nil)) pass0)))
        pss_nil)), ?_⟩
  refine ⟨_, rfl, _, _, rfl, rfl, _, rfl, if_dec (fun c => ?_) (fun c => ?_)⟩
  · exact mk_ra (fun _ _ => ⟨_, _, rfl, by decide +kernel, by decide +kernel, by decide +kernel, rfl⟩) (by show 2 ≤ 1000; decide) (h2 c)
  · exact h1 (by omega)
end
end Sy
/-! outcomes that are errors -/
namespace Sy
open PySem PySem.Spec PyProof.Rows L2
/-- an error that is due -/
inductive Er
  | many (x : Str) (n : Nat)
  | bed (i : Int)
  | stump (i : Nat)
  | text (x : Str)
  | kind (x : Str)
def Er.cls : Er → Str
  | .many _ _ => "TooMany"
  | .bed _ => "InvalidBed"
  | .stump _ => "InvalidStump"
  | .text _ => "InvalidText"
  | .kind _ => "UnknownKind"
/-- its fields, the newest first -/
def Er.fds : Er → List (Str × PyData)
  | .many x n => [("limit", .int (n : Nat)), ("what", .str x)]
  | .bed i => [("place", .int i)]
  | .stump i => [("place", .int (i : Nat))]
  | .text x => [("text", .str x)]
  | .kind x => [("kind", .str x)]
/-- what the law calls it -/
def Er.dat : Er → PyData
  | .many x n => .tuple [.str "many", .str x, .int (n : Nat)]
  | .bed i => .tuple [.str "bed", .int i]
  | .stump i => .tuple [.str "stump", .int (i : Nat)]
  | .text x => .tuple [.str "text", .str x]
  | .kind x => .tuple [.str "kind", .str x]
inductive ImF (K : PySem.W.Frag) (H : Hp) : List (Str × V) → List (Str × PyData) → Prop
  | nil : ImF K H [] []
  | cons {f : Str} {v : V} {d : PyData} {fs : List (Str × V)} {ds : List (Str × PyData)} : Im K H v d → ImF K H fs ds → ImF K H ((f, v) :: fs) ((f, d) :: ds)
def RaE (K : PySem.W.Frag) (e : Er) (H : Hp) (E : XK) : Prop := ∀ d H' fs, Same H H' → H' d = some (.xd fs) → ImF K H' fs e.fds → E (.ref (He.ga K e.cls)) (some d) H'
theorem RaE.mono {K : PySem.W.Frag} {e : Er} {H H1 : Hp} {E : XK} (h : RaE K e H E) (s : Same H H1) : RaE K e H1 E := fun d H' fs s' e1 i => h d H' fs (s.trans s') e1 i
theorem ImF.mono {K : PySem.W.Frag} {H H' : Hp} (s : Same H H') : ∀ {fs : List (Str × V)} {ds : List (Str × PyData)}, ImF K H fs ds → ImF K H' fs ds
  | _, _, .nil => .nil
  | _, _, .cons a b => .cons (a.mono (Stay.of s)) (ImF.mono s b)
theorem RaE.ra {K : PySem.W.Frag} {e : Er} {H : Hp} {E : XK} {fs : List (Str × V)} (h : RaE K e H E) (i : ImF K H fs e.fds) : Ra K e.cls fs H E := fun d H' s e1 => h d H' fs s e1 (i.mono s)
section
variable {P : Program} {w : World} {K : PySem.W.Frag} {mg : Str → Option Value} {base : Heap}
theorem L0 (x : Str) : ((Str.empty : Str) ++ x).length = x.length := by rw [PySem.Str.length_append]; exact Nat.zero_add _
/-! InvalidPlant(place) -/
def okIP : List V → Hp → List (Str × V) → Prop := fun us _ fs => ∃ i : Nat, us = [.int (i : Nat)] ∧ i ≤ 1000000 ∧ fs = ([("place", V.int (i : Nat))] : List (Str × V))
set_option exponentiation.threshold 3000 in
theorem nat_log {i : Nat} (h : i ≤ 1000000) : ((i : Int).natAbs).log2 < 1920 := by
  have e : (i : Int).natAbs = i := Int.natAbs_natCast i
  rw [e]
  by_cases c : i = 0
  · rw [c]; decide
  · exact (Nat.log2_lt c).mpr (Nat.lt_of_le_of_lt h (by decide))
theorem nat_txt {i : Nat} (h : i ≤ 1000000) : (toString (i : Int) : Str).length ≤ 1921 := int_text_len_1921 (nat_log h)

/-! InvalidBed(place) -/
def okIB : List V → Hp → List (Str × V) → Prop := fun us _ fs => ∃ i : Int, us = [.int i] ∧ (-1 ≤ i ∧ i ≤ 1000000) ∧ fs = ([("place", V.int i)] : List (Str × V))
theorem int_log {i : Int} (h : -1 ≤ i ∧ i ≤ 1000000) : i.natAbs.log2 < 1920 := by
  rcases Int.lt_or_le i 0 with c | c
  · have : i = -1 := by omega
    subst this
    decide
  · obtain ⟨n, rfl⟩ : ∃ n : Nat, i = (n : Int) := ⟨i.toNat, by omega⟩
    exact nat_log (by omega)
theorem sc_ib : NdefX.NScope ["self", "place", "__class__"] ["self", "place"] ["__class__"] (defScope (clb 2 0)) := ⟨rfl, rfl, rfl, by decide +kernel, rfl, by decide +kernel, by decide +kernel, by decide +kernel, by decide +kernel⟩
theorem i_ib (T : ErrB P K mg "InvalidBed" "InvalidBed.__init__" (clb 2 0) ["place"]) : ∃ fd, FnOk P w K mg base CX0 1 (iniA K "InvalidBed") fd ["self", "place"] (spInit (He.ga K "InvalidBed") okIB) ∧ L2.Binds K fd ["self", "place"] [] := by
  obtain ⟨cc, cd, kV, doc, pm, an, ct, S⟩ := T.sup
  refine ⟨_, fn_sup (k := 0) S sc_ib rfl rfl rfl rfl rfl T.mS T.top (fun vs H Q E s => by obtain ⟨_, _, _, rfl, ⟨_, rfl, _⟩, _⟩ := s; rfl) (fun _ => rfl) (fun _ => rfl) (fun _ _ => rfl) ?_, .all fun us e => match us, e with | [_, _], _ => rfl⟩
  intro A outer s H vs Q E hr h
  obtain ⟨a, us, fs, rfl, ⟨x, rfl, hx, rfl⟩, ha, hq⟩ := h
  refine ⟨_, _, pa_cons (pe_joined (.cons pe_str (.cons (pe_fmt (pv 1)) .nil))) pa_nil, pss_one (ps_ost (pv 0) (pv 1)), a, _, rfl, ha, ?_⟩
  have L1 : ((Str.empty : Str) ++ ("invalid bed: " : Str)).length = 13 := by decide +kernel
  have htx := int_text_len_1921 (int_log hx)
  refine ⟨_, rfl, by rw [L1]; decide, _, rfl, .inr ⟨x, rfl, int_log hx, _, rfl, ?_, (by show 1 ≤ 1000; decide), ha, _, rfl, _, rfl, a, _, rfl, S.oex, T.no _ (by decide), .inl ⟨ha, fun dx h1 h2 => hq dx _ h1 h2 upd_same ?_ ?_⟩⟩⟩
  · rw [PySem.Str.length_append, L1, sizeLine_eq]
    omega
  · rw [upd_ne h2]
    exact upd_same
  · intro b hb hb2
    rw [upd_ne hb, upd_ne hb2]
theorem mk_ib {X : Cx} {k : Nat} {p pos : Pos} {e1 : Expr} {ta : TA} (T : ErrB X.prog X.K X.mg "InvalidBed" "InvalidBed.__init__" (clb 2 0) ["place"]) (hr : Room k X.A) (hg : Gl X "InvalidBed") (ha : PA X [e1] ta)
    (hx : Passes CX0 X (fun _ _ _ => False)) (hk : 2 ≤ k := by decide) (he : starEach [e1] X.env = (false, eval e1 X.env) :: starEach [] X.env := by rfl) (hpl : (backTo pos (starEach [] X.env)).any (·.1) = false := by rfl) :
    PMk X (.Call (.Name "InvalidBed" p) [e1] [] pos) (tMkO (He.ga X.K "InvalidBed") (spInit (He.ga X.K "InvalidBed") okIB) [] ta) := by
  obtain ⟨fd, F, B⟩ := i_ib (w := X.w) (base := X.base) T
  obtain ⟨cc, cd, kV, doc, pm, an, ct, S⟩ := T.sup
  exact pmk_oex S.oex T.iC T.tI F (hr.mono hk) B .nil hx hg T.at_ ha rfl he hpl
theorem sc_is : NdefX.NScope ["self", "place", "__class__"] ["self", "place"] ["__class__"] (defScope (clb 3 0)) := ⟨rfl, rfl, rfl, by decide +kernel, rfl, by decide +kernel, by decide +kernel, by decide +kernel, by decide +kernel⟩
theorem i_is (T : ErrB P K mg "InvalidStump" "InvalidStump.__init__" (clb 3 0) ["place"]) : ∃ fd, FnOk P w K mg base CX0 1 (iniA K "InvalidStump") fd ["self", "place"] (spInit (He.ga K "InvalidStump") okIP) ∧ L2.Binds K fd ["self", "place"] [] := by
  obtain ⟨cc, cd, kV, doc, pm, an, ct, S⟩ := T.sup
  refine ⟨_, fn_sup (k := 0) S sc_is rfl rfl rfl rfl rfl T.mS T.top (fun vs H Q E s => by obtain ⟨_, _, _, rfl, ⟨_, rfl, _⟩, _⟩ := s; rfl) (fun _ => rfl) (fun _ => rfl) (fun _ _ => rfl) ?_, .all fun us e => match us, e with | [_, _], _ => rfl⟩
  intro A outer s H vs Q E hr h
  obtain ⟨a, us, fs, rfl, ⟨x, rfl, hx, rfl⟩, ha, hq⟩ := h
  refine ⟨_, _, pa_cons (pe_joined (.cons pe_str (.cons (pe_fmt (pv 1)) (.cons pe_str .nil)))) pa_nil, pss_one (ps_ost (pv 0) (pv 1)), a, _, rfl, ha, ?_⟩
  have L1 : ((Str.empty : Str) ++ ("not a stump from index " : Str)).length = 23 := by decide +kernel
  have L2' : (" on" : Str).length = 3 := by decide +kernel
  have htx := nat_txt hx
  refine ⟨_, rfl, by rw [L1]; decide, _, rfl, .inr ⟨(x : Int), rfl, nat_log hx, _, rfl, ?_, _, rfl, ?_, (by show 1 ≤ 1000; decide), ha, _, rfl, _, rfl, a, _, rfl, S.oex, T.no _ (by decide), .inl ⟨ha, fun dx h1 h2 => hq dx _ h1 h2 upd_same ?_ ?_⟩⟩⟩
  · rw [PySem.Str.length_append, L1, sizeLine_eq]
    omega
  · rw [PySem.Str.length_append, PySem.Str.length_append, L1, L2', sizeLine_eq]
    omega
  · rw [upd_ne h2]
    exact upd_same
  · intro b hb hb2
    rw [upd_ne hb, upd_ne hb2]
theorem mk_is {X : Cx} {k : Nat} {p pos : Pos} {e1 : Expr} {ta : TA} (T : ErrB X.prog X.K X.mg "InvalidStump" "InvalidStump.__init__" (clb 3 0) ["place"]) (hr : Room k X.A) (hg : Gl X "InvalidStump") (ha : PA X [e1] ta)
    (hx : Passes CX0 X (fun _ _ _ => False)) (hk : 2 ≤ k := by decide) (he : starEach [e1] X.env = (false, eval e1 X.env) :: starEach [] X.env := by rfl) (hpl : (backTo pos (starEach [] X.env)).any (·.1) = false := by rfl) :
    PMk X (.Call (.Name "InvalidStump" p) [e1] [] pos) (tMkO (He.ga X.K "InvalidStump") (spInit (He.ga X.K "InvalidStump") okIP) [] ta) := by
  obtain ⟨fd, F, B⟩ := i_is (w := X.w) (base := X.base) T
  obtain ⟨cc, cd, kV, doc, pm, an, ct, S⟩ := T.sup
  exact pmk_oex S.oex T.iC T.tI F (hr.mono hk) B .nil hx hg T.at_ ha rfl he hpl

/-! UnknownKind(kind) -/
def okUK : List V → Hp → List (Str × V) → Prop := fun us _ fs => ∃ x : Str, us = [.str x] ∧ (x.length ≤ 100 ∧ ∀ c ∈ x.cps.toList, c < 16 ^ 8) ∧ fs = ([("kind", V.str x)] : List (Str × V))

theorem sc_uk : NdefX.NScope ["self", "kind", "__class__"] ["self", "kind"] ["__class__"] (defScope (clb 5 0)) := ⟨rfl, rfl, rfl, by decide +kernel, rfl, by decide +kernel, by decide +kernel, by decide +kernel, by decide +kernel⟩
theorem i_uk (T : ErrB P K mg "UnknownKind" "UnknownKind.__init__" (clb 5 0) ["kind"]) : ∃ fd, FnOk P w K mg base CX0 1 (iniA K "UnknownKind") fd ["self", "kind"] (spInit (He.ga K "UnknownKind") okUK) ∧ L2.Binds K fd ["self", "kind"] [] := by
  obtain ⟨cc, cd, kV, doc, pm, an, ct, S⟩ := T.sup
  refine ⟨_, fn_sup (k := 0) S sc_uk rfl rfl rfl rfl rfl T.mS T.top (fun vs H Q E s => by obtain ⟨_, _, _, rfl, ⟨_, rfl, _⟩, _⟩ := s; rfl) (fun _ => rfl) (fun _ => rfl) (fun _ _ => rfl) ?_, .all fun us e => match us, e with | [_, _], _ => rfl⟩
  intro A outer s H vs Q E hr h
  obtain ⟨a, us, fs, rfl, ⟨x, rfl, hx, rfl⟩, ha, hq⟩ := h
  refine ⟨_, _, pa_cons (pe_joined (.cons pe_str (.cons (pe_fmtR (pv 1)) .nil))) pa_nil, pss_one (ps_ost (pv 0) (pv 1)), a, _, rfl, ha, ?_⟩
  have L1 : ((Str.empty : Str) ++ ("unknown kind: " : Str)).length = 14 := by decide +kernel
  have htx := StrLaws.reprText_len x hx.2
  have hxl := hx.1
  refine ⟨_, rfl, by rw [L1]; decide, _, rfl, .inl ⟨x, rfl, by rw [sizeLine_eq]; omega, _, rfl, ?_, (by show 1 ≤ 1000; decide), ha, _, rfl, _, rfl, a, _, rfl, S.oex, T.no _ (by decide), .inl ⟨ha, fun dx h1 h2 => hq dx _ h1 h2 upd_same ?_ ?_⟩⟩⟩
  · rw [PySem.Str.length_append, L1, sizeLine_eq]
    omega
  · rw [upd_ne h2]
    exact upd_same
  · intro b hb hb2
    rw [upd_ne hb, upd_ne hb2]
theorem mk_uk {X : Cx} {k : Nat} {p pos : Pos} {e1 : Expr} {ta : TA} (T : ErrB X.prog X.K X.mg "UnknownKind" "UnknownKind.__init__" (clb 5 0) ["kind"]) (hr : Room k X.A) (hg : Gl X "UnknownKind") (ha : PA X [e1] ta)
    (hx : Passes CX0 X (fun _ _ _ => False)) (hk : 2 ≤ k := by decide) (he : starEach [e1] X.env = (false, eval e1 X.env) :: starEach [] X.env := by rfl) (hpl : (backTo pos (starEach [] X.env)).any (·.1) = false := by rfl) :
    PMk X (.Call (.Name "UnknownKind" p) [e1] [] pos) (tMkO (He.ga X.K "UnknownKind") (spInit (He.ga X.K "UnknownKind") okUK) [] ta) := by
  obtain ⟨fd, F, B⟩ := i_uk (w := X.w) (base := X.base) T
  obtain ⟨cc, cd, kV, doc, pm, an, ct, S⟩ := T.sup
  exact pmk_oex S.oex T.iC T.tI F (hr.mono hk) B .nil hx hg T.at_ ha rfl he hpl

/-! InvalidText(text) -/
def okIT : List V → Hp → List (Str × V) → Prop := fun us _ fs => ∃ x : Str, us = [.str x] ∧ (x.length ≤ 1000000 ∧ ∀ c ∈ x.cps.toList, c < 16 ^ 8) ∧ fs = ([("text", V.str x)] : List (Str × V))

theorem sc_it : NdefX.NScope ["self", "text", "__class__"] ["self", "text"] ["__class__"] (defScope (clb 4 0)) := ⟨rfl, rfl, rfl, by decide +kernel, rfl, by decide +kernel, by decide +kernel, by decide +kernel, by decide +kernel⟩
theorem i_it (T : ErrB P K mg "InvalidText" "InvalidText.__init__" (clb 4 0) ["text"]) : ∃ fd, FnOk P w K mg base CX0 1 (iniA K "InvalidText") fd ["self", "text"] (spInit (He.ga K "InvalidText") okIT) ∧ L2.Binds K fd ["self", "text"] [] := by
  obtain ⟨cc, cd, kV, doc, pm, an, ct, S⟩ := T.sup
  refine ⟨_, fn_sup (k := 0) S sc_it rfl rfl rfl rfl rfl T.mS T.top (fun vs H Q E s => by obtain ⟨_, _, _, rfl, ⟨_, rfl, _⟩, _⟩ := s; rfl) (fun _ => rfl) (fun _ => rfl) (fun _ _ => rfl) ?_, .all fun us e => match us, e with | [_, _], _ => rfl⟩
  intro A outer s H vs Q E hr h
  obtain ⟨a, us, fs, rfl, ⟨x, rfl, hx, rfl⟩, ha, hq⟩ := h
  refine ⟨_, _, pa_cons (pe_joined (.cons pe_str (.cons (pe_fmtR (pv 1)) .nil))) pa_nil, pss_one (ps_ost (pv 0) (pv 1)), a, _, rfl, ha, ?_⟩
  have L1 : ((Str.empty : Str) ++ ("invalid text: " : Str)).length = 14 := by decide +kernel
  have htx := StrLaws.reprText_len x hx.2
  have hxl := hx.1
  refine ⟨_, rfl, by rw [L1]; decide, _, rfl, .inl ⟨x, rfl, by rw [sizeLine_eq]; omega, _, rfl, ?_, (by show 1 ≤ 1000; decide), ha, _, rfl, _, rfl, a, _, rfl, S.oex, T.no _ (by decide), .inl ⟨ha, fun dx h1 h2 => hq dx _ h1 h2 upd_same ?_ ?_⟩⟩⟩
  · rw [PySem.Str.length_append, L1, sizeLine_eq]
    omega
  · rw [upd_ne h2]
    exact upd_same
  · intro b hb hb2
    rw [upd_ne hb, upd_ne hb2]
theorem mk_it {X : Cx} {k : Nat} {p pos : Pos} {e1 : Expr} {ta : TA} (T : ErrB X.prog X.K X.mg "InvalidText" "InvalidText.__init__" (clb 4 0) ["text"]) (hr : Room k X.A) (hg : Gl X "InvalidText") (ha : PA X [e1] ta)
    (hx : Passes CX0 X (fun _ _ _ => False)) (hk : 2 ≤ k := by decide) (he : starEach [e1] X.env = (false, eval e1 X.env) :: starEach [] X.env := by rfl) (hpl : (backTo pos (starEach [] X.env)).any (·.1) = false := by rfl) :
    PMk X (.Call (.Name "InvalidText" p) [e1] [] pos) (tMkO (He.ga X.K "InvalidText") (spInit (He.ga X.K "InvalidText") okIT) [] ta) := by
  obtain ⟨fd, F, B⟩ := i_it (w := X.w) (base := X.base) T
  obtain ⟨cc, cd, kV, doc, pm, an, ct, S⟩ := T.sup
  exact pmk_oex S.oex T.iC T.tI F (hr.mono hk) B .nil hx hg T.at_ ha rfl he hpl

/-! the errors of the top -/
structure Ers (P : Program) (K : PySem.W.Frag) (mg : Str → Option Value) : Prop where
  tm : ErrB P K mg "TooMany" "TooMany.__init__" (clb 6 0) ["what", "limit"]
  ib : ErrB P K mg "InvalidBed" "InvalidBed.__init__" (clb 2 0) ["place"]
  is : ErrB P K mg "InvalidStump" "InvalidStump.__init__" (clb 3 0) ["place"]
  it : ErrB P K mg "InvalidText" "InvalidText.__init__" (clb 4 0) ["text"]
  uk : ErrB P K mg "UnknownKind" "UnknownKind.__init__" (clb 5 0) ["kind"]
end
end Sy
/-! tuples of which it is known that they have no dict: methods of a tuple -/
namespace Sy
open PySem PySem.Spec PyProof.Rows L2
def NoD (H : Hp) (a : Addr) : Prop := ∃ (o : Obj) (u : HO), H a = some (.frz o u) ∧ o.dict = none
/-- a new tuple at p -/
def NewT (H : Hp) (p : Addr) (xs : List V) (H' : Hp) : Prop := H p = none ∧ ∃ o : Obj, o.dict = none ∧ H' = upd H p (.frz o (.tup xs))
theorem NewT.same {H H' : Hp} {p : Addr} {xs : List V} (h : NewT H p xs H') : Same H H' := by
  obtain ⟨h1, o, _, rfl⟩ := h
  exact up_same h1
theorem NewT.sqt {K : PySem.W.Frag} {H H' : Hp} {p : Addr} {xs : List V} (h : NewT H p xs H') : SqT K H' p xs := by
  obtain ⟨h1, o, _, rfl⟩ := h
  exact .inl (.inr ⟨o, upd_same⟩)
theorem NewT.nod {H H' : Hp} {p : Addr} {xs : List V} (h : NewT H p xs H') : NoD H' p := by
  obtain ⟨h1, o, h2, rfl⟩ := h
  exact ⟨o, _, upd_same, h2⟩
theorem NoD.mono {H H' : Hp} {a : Addr} (h : NoD H a) (s : Stay H H') : NoD H' a := by
  obtain ⟨o, u, h1, h2⟩ := h
  exact ⟨o, u, s _ _ h1 (fun _ z => by cases z), h2⟩
section
variable {X : Cx} {es : List Expr} {t : TA} {pos : Pos}
def tTupZ (t : TA) : TE := fun σ H Q => t σ H fun xs H1 => xs.length ≤ sizeLine ∧ ∀ p H', NewT H1 p xs H' → Q (.ref p) H'
theorem pe_tupZ {x1} (h : PA X es t) : PE X (.Tuple es x1 pos) (tTupZ t) := by
  constructor
  intro pins s σ H Q I hq
  refine wpAny_Tuple_spliced (thn (h.run pos pins s σ H _ I hq) fun us s1 ⟨xs, H1, I1, r, z, q⟩ => ⟨by rw [← r.length]; exact z, ?_⟩)
  have hf : H1 s1.heap.objs.size = none := I1.hok.fresh (Nat.le_refl _)
  have hg : (s1.heap.push ({ cls := .type "tuple", data := .seq us.toArray } : Obj)).get? s1.heap.objs.size = some ({ cls := .type "tuple", data := .seq us.toArray } : Obj) := Heap.get?_push_size _ rfl
  refine ⟨.ref s1.heap.objs.size, _, I1.laid (t' := s1.toks) (o := .frz ({ cls := .type "tuple", data := .seq us.toArray } : Obj) (.tup xs)) (fun b u e => Heap.get?_push_of_some _ e) (Nat.le_refl _) ?_, rfl, q _ _ ⟨hf, _, rfl, rfl⟩⟩
  exact ⟨hg, z, us, r, ⟨_, hg, rfl, _, rfl⟩⟩
def rCatZ (K : PySem.W.Frag) : R2 := fun x y H Q => ∃ a b xs ys, x = .ref a ∧ y = .ref b ∧ SqT K H a xs ∧ SqT K H b ys ∧ xs.length + ys.length ≤ sizeLine ∧
  (xs = [] → Q (.ref b) H) ∧ (xs ≠ [] → ys = [] → Q (.ref a) H) ∧ (xs ≠ [] → ys ≠ [] → ∀ p H', NewT H p (xs ++ ys) H' → Q (.ref p) H')
theorem op_catZ : OpR X (binaryOp .Add) (rCatZ X.K) := by
  intro pins s σ H x y v u Q I rx ry h
  obtain ⟨a, b, xs, ys, rfl, rfl, ha, hb, hz, q0, q1, q2⟩ := h
  by_cases hx : xs = []
  · exact op_catA pins s σ H _ _ v u Q I rx ry ⟨a, b, xs, ys, rfl, rfl, ha, hb, hz, q0, q1, fun z => absurd hx z⟩
  cases rx
  cases ry
  obtain ⟨its, r1, p1, _⟩ := I.tuple ha
  obtain ⟨its2, r2, p2, _⟩ := I.tuple hb
  refine HT.cat_tup p1 p2 (fun z => hx (r1.nil_iff.mp z)) (fun z => ⟨.ref a, H, I, rfl, q1 hx (r2.nil_iff.mp z)⟩) (fun z => ?_) (by rw [← r1.length, ← r2.length]; exact hz)
  have hg : (s.heap.push ({ cls := .type "tuple", data := .seq (its ++ its2).toArray } : Obj)).get? s.heap.objs.size = some ({ cls := .type "tuple", data := .seq (its ++ its2).toArray } : Obj) := Heap.get?_push_size _ rfl
  refine ⟨.ref s.heap.objs.size, _, I.laid (t' := s.toks) (o := .frz ({ cls := .type "tuple", data := .seq (its ++ its2).toArray } : Obj) (.tup (xs ++ ys))) (fun b ob q => Heap.get?_push_of_some _ q) (Nat.le_refl _) ?_, rfl,
    q2 hx (fun w => z (r2.nil_iff.mpr w)) _ _ ⟨I.hok.fresh (Nat.le_refl _), _, rfl, rfl⟩⟩
  exact ⟨hg, by rw [List.length_append]; exact hz, _, r1.append r2, ⟨_, hg, rfl, _, rfl⟩⟩
def rTupZ (K : PySem.W.Frag) : List V → Hp → VK → Prop := fun xs H Q => ∃ p ys, xs = [.ref p] ∧ SqL K H p ys ∧ ∀ l H', NewT H l ys H' → Q (.ref l) H'
theorem call_tupZ : CallR X (.type "tuple") (rTupZ X.K) := by
  intro pins s σ H xs us Q I r h
  obtain ⟨p, ys, rfl, hq, q⟩ := h
  obtain ⟨u, rfl, rx⟩ := vals1 r
  cases rx
  obtain ⟨its, r', pl, hz⟩ := I.list hq
  have hlen := r'.length
  refine call_tuple_list pl.isList (fun h' kp => ?_) (by simp only [List.size_toArray]; omega)
  have I1 : Inv X pins σ H { s with heap := h' } := I.kept (t' := s.toks) kp
  have hg : (h'.push ({ cls := .type "tuple", data := .seq its.toArray } : Obj)).get? h'.objs.size = some ({ cls := .type "tuple", data := .seq its.toArray } : Obj) := Heap.get?_push_size _ rfl
  have I2 : Inv X pins σ (upd H h'.objs.size (.frz ({ cls := .type "tuple", data := .seq its.toArray } : Obj) (.tup ys))) { s with heap := h'.push { cls := .type "tuple", data := .seq its.toArray } } :=
    I1.laid (t' := s.toks) (fun b o e => Heap.get?_push_of_some _ e) (Nat.le_refl _) (show ObjOk X.prog X.w _ _ _ (.frz _ (.tup ys)) from ⟨hg, hz, its, r', ⟨_, hg, rfl, _, rfl⟩⟩)
  exact ⟨.ref h'.objs.size, _, I2, rfl, q _ _ ⟨I1.hok.fresh (Nat.le_refl _), _, rfl, rfl⟩⟩
/-! t.m(..) -/
def tBMT (K : PySem.W.Frag) (r : V → List V → Hp → VK → Prop) (to : TE) (t : TA) : TE := fun σ H Q => to σ H fun x H1 => (∃ a xs, x = .ref a ∧ SqT K H1 a xs ∧ NoD H1 a) ∧ t σ H1 fun xs H2 => r x xs H2 Q
variable {o e : Expr} {to : TE} {name : Str} {apos cpos : Pos} {id : String} {r : V → List V → Hp → VK → Prop}
theorem pe_bmT (slot : Slot "tuple" name id) (hty : typeOf (.builtin id) = pure (.type "method_descriptor")) (hm : MtR X id r) (ho : PE X o to) (ha : PA X (e :: es) t)
    (hbase : attributeBase o name X.env (eval o X.env) = eval o X.env := by rfl)
    (hfew : ((backTo cpos (starEach (e :: es) X.env)).all (fun x => !x.1) && (backToKw cpos (keywordEach [] X.env)).all (fun x => x.1.isSome)
      && decide ((e :: es).length + ([] : List Keyword).length + (if ([] : List Keyword).isEmpty then 0 else 1) < 30)) = true := by rfl)
    (hline : (apos.endLine == cpos.line) = true := by rfl) (hs : starEach (e :: es) X.env = (false, eval e X.env) :: starEach es X.env := by rfl) (hplain : (backTo cpos (starEach es X.env)).any (·.1) = false := by rfl) :
    PE X (.Call (.Attribute o name apos) (e :: es) [] cpos) (tBMT X.K r to t) := by
  constructor
  intro pins s σ H Q I h
  refine wpAny_Call_method_late hbase hfew hline rfl (thn (ho.run pins s σ H _ I h) fun v s1 ⟨x, H1, I1, r1, ⟨a, xs, ex, st, ob, u, hf, hd⟩, q1⟩ => ?_)
  subst ex
  cases r1
  obtain ⟨its, _, pt, _⟩ := I1.tuple st
  refine ⟨"tuple", id, PySem.F.plainAttrs_tuple, slot, hty, pt.typeIs, fun b e => ?_, ?_⟩
  · cases e
    exact ⟨ob, (I1.hok _ _ hf).1, hd⟩
  · have hA := ha.run cpos pins s1 σ H1 _ I1 q1
    rw [hs] at hA ⊢
    refine Calls.callWith_builtin (by show (false || (backTo cpos (starEach es X.env)).any (·.1)) = false; rw [hplain]; rfl) (Calls.evalArgs_plain ?_)
    exact thn hA fun us s2 ⟨vs, H2, I2, r2, q2⟩ => hm pins s2 σ H2 (.ref a) vs _ us Q I2 rfl r2 q2
end
end Sy
namespace Sy
open PySem PySem.Spec PyProof.Rows L2
/-- a dict comprehension over any walk -/
theorem dc_it {J : It} {n : Nat} {G : Hp → Prop} {Y : Nat → Hp → V → Hp → Prop} (w : Walk J n G Y) {g : TG} {tt : TT} {tk tv : TE} {vs : List Nat} {σ : L2.St} {H1 : Hp} {D : Addr} {Qd : Hp → Prop} (Pv : Nat → Hp → Prop) (h0 : Pv 0 (upd H1 D (.dK []))) (hG : ∀ i H, i ≤ n → Pv i H → G H)
    (hs : ∀ i x H H', i < n → Pv i H → Y i H x H' → g x (wipe σ vs) H' fun σ2 H2 => wipe σ2 vs = wipe σ vs ∧ tt σ2 H2 fun b H3 =>
      if b = true then tk σ2 H3 fun y H4 => tv σ2 H4 fun z H5 => ∃ kvs k, y = kV k ∧ H5 D = some (.dK kvs) ∧ kvs.length < sizeLine ∧ Pv (i + 1) (upd H5 D (.dK (putK kvs k z))) else Pv (i + 1) H3) (hd : ∀ H, Pv n H → Qd H) :
    ∃ W : Nat → Nat → Hp → Prop, (∃ m, W 0 m (upd H1 D (.dK []))) ∧ ∀ i m H, W i m H →
      (J.stop i H ∧ Qd H) ∨ (J.go i H ∧ ∃ Nx : Hp → Prop, (∀ H', Nx H' → ∃ m', m' < m ∧ W (i + 1) m' H') ∧ ∀ x H', J.yld i H x H' → g x (wipe σ vs) H' fun σ2 H2 => wipe σ2 vs = wipe σ vs ∧ tt σ2 H2 fun b H3 =>
        if b = true then tk σ2 H3 fun y H4 => tv σ2 H4 fun z H5 => ∃ kvs k, y = kV k ∧ H5 D = some (.dK kvs) ∧ kvs.length < sizeLine ∧ Nx (upd H5 D (.dK (putK kvs k z))) else Nx H3) := by
  refine ⟨fun i m H => i + m = n ∧ Pv i H, ⟨n, Nat.zero_add n, h0⟩, fun i m H ⟨e, p⟩ => ?_⟩
  have q := hG i H (by omega) p
  cases m with
  | zero =>
    obtain rfl : i = n := by omega
    exact .inl ⟨w.stops H q, hd H p⟩
  | succ m =>
    exact .inr ⟨w.goes i H (by omega) q, Pv (i + 1), fun H' p' => ⟨m, Nat.lt_succ_self m, by omega, p'⟩, fun x H' y => hs i x H H' (by omega) p (w.yields i H x H' (by omega) q y)⟩
theorem paired_at {α β : Type} {R : α → β → Prop} : ∀ {xs : List α} {ys : List β} {i : Nat} {y : β}, Paired R xs ys → ys[i]? = some y → ∃ x, xs[i]? = some x ∧ R x y
  | _, _, i, y, .nil, h => by simp at h
  | _, _, 0, y, .cons a _, h => by
    simp at h
    subst h
    exact ⟨_, rfl, a⟩
  | _, _, i + 1, y, .cons _ b, h => by
    obtain ⟨x, h1, h2⟩ := paired_at (i := i) b (by simpa using h)
    exact ⟨x, by simpa using h1, h2⟩
theorem paired_len {α β : Type} {R : α → β → Prop} : ∀ {xs : List α} {ys : List β}, Paired R xs ys → xs.length = ys.length
  | _, _, .nil => rfl
  | _, _, .cons _ b => by rw [List.length_cons, List.length_cons, paired_len b]
def nameOk (x : Str) : Bool := decide (x.length ≤ 8) && (Txt.isascii x && (Txt.isalpha x && Txt.islower x))
def leafs (rows : List Sy.Row) : List Str := (rows.filter fun r => decide (r.2 = 0)).map (·.1)
/-- rows of which a bed is made -/
structure RowsOk (rows : List Sy.Row) : Prop where
  nm : ∀ r ∈ rows, nameOk r.1 = true
  br : ∀ r ∈ rows, r.2 ≤ 3
  nd : (rows.map (·.1)).Nodup
  lf : ∃ r ∈ rows, r.2 = 0
  le : rows.length ≤ 8
theorem lookup_none {rows : List Sy.Row} {x : Str} (h : ∀ r ∈ rows, r.1 ≠ x) : rows.lookup x = none := by
  induction rows with
  | nil => rfl
  | cons r rs ih =>
    rw [lookup_cons, if_neg (h r List.mem_cons_self)]
    exact ih fun q hq => h q (List.mem_cons_of_mem _ hq)
theorem nodup_take {rows : List Sy.Row} (nd : (rows.map (·.1)).Nodup) {i : Nat} {r : Sy.Row} (h : rows[i]? = some r) : ∀ q ∈ rows.take i, q.1 ≠ r.1 := by
  intro q hq e
  obtain ⟨j, hj, ej⟩ := List.mem_iff_getElem.mp hq
  rw [List.length_take] at hj
  rw [List.getElem_take] at ej
  obtain ⟨hi, er⟩ := List.getElem?_eq_some_iff.mp h
  have hlt : j < rows.length := by omega
  have := List.pairwise_iff_getElem.mp nd j i (by rw [List.length_map]; omega) (by rw [List.length_map]; omega) (by omega)
  rw [List.getElem_map, List.getElem_map, ej, er] at this
  exact this e
section
variable {P : Program} {w : World} {K : PySem.W.Frag} {mg : Str → Option Value} {base : Heap}
/-! only_letters, is_name -/
def spLetters : Sp := fun vs H Q _ => ∃ x : Str, vs = [.str x] ∧ Q (.bl (Txt.isascii x && (Txt.isalpha x && Txt.islower x))) H
theorem sc_letters : FnScope ["text"] ["text"] (defScope (top 26)) := ⟨rfl, rfl, rfl, by decide +kernel, rfl, by decide +kernel, by decide +kernel⟩
theorem k_letters (F : DF K mg "only_letters" 26) : Cal P w K mg base 1 "only_letters" ["text"] spLetters := by
  refine cal_of F.1 F.2 sc_letters (fun _ _ _ _ _ _ us e => match us, e with | [_], _ => rfl) (fun vs H Q E s => by obtain ⟨_, rfl, _⟩ := s; rfl) ?_
  intro cdv A outer s H vs Q E hr h
  obtain ⟨x, rfl, hq⟩ := h
  refine ⟨_, (pss_one (ps_ret (pe_and (pe_bm0 PySem.F.plainAttrs_str PySem.F.slot_str_isascii PySem.F.type_str_isascii mt_isascii (pv 0)) (pe_and (pe_bm0 PySem.F.plainAttrs_str PySem.F.slot_str_isalpha PySem.F.type_str_isalpha mt_isalpha (pv 0)) (pe_one (pe_bm0 PySem.F.plainAttrs_str PySem.F.slot_str_islower PySem.F.type_str_islower mt_islower (pv 0))))))), ?_⟩
  refine ⟨_, rfl, rfl, x, rfl, rfl, trivial, _, rfl, if_bool (fun c1 => ?_) (fun c1 => ?_)⟩
  · rw [c1] at hq
    refine ⟨_, rfl, rfl, x, rfl, rfl, trivial, _, rfl, if_bool (fun c2 => ?_) (fun c2 => ?_)⟩
    · rw [c2] at hq
      exact ⟨_, rfl, rfl, x, rfl, rfl, trivial, hq⟩
    · rw [c2] at hq
      exact hq
  · rw [c1] at hq
    exact hq
def spName : Sp := fun vs H Q _ => ∃ x : Str, vs = [.str x] ∧ x.length ≤ 1000000 ∧ Q (.bl (nameOk x)) H
theorem sc_name : FnScope ["text"] ["text"] (defScope (top 27)) := ⟨rfl, rfl, rfl, by decide +kernel, rfl, by decide +kernel, by decide +kernel⟩
theorem k_name (T : Txt K mg) (F : DF K mg "is_name" 27) (c_only_letters : Cal P w K mg base 1 "only_letters" ["text"] spLetters) : Cal P w K mg base 2 "is_name" ["text"] spName := by
  refine cal_of F.1 F.2 sc_name (fun _ _ _ _ _ _ us e => match us, e with | [_], _ => rfl) (fun vs H Q E s => by obtain ⟨_, rfl, _⟩ := s; rfl) ?_
  intro cdv A outer s H vs Q E hr h
  obtain ⟨x, rfl, hx, hq⟩ := h
  refine ⟨_, (pss_one (ps_ret (pe_and (pe_cmpR op_le (pe_callB call_len_str (by rfl) T.len (by decide +kernel) (pa_cons (pv 0) pa_nil)) (pe_gint rfl T.LONGEST_NAME) (nomark _)) (pe_one (pe_cal c_only_letters hr (pa_cons (pv 0) pa_nil)))))), ?_⟩
  have e8 : decide ((x.length : Int) ≤ 8) = decide (x.length ≤ 8) := by
    by_cases h : x.length ≤ 8
    · rw [decide_eq_true h, decide_eq_true (by omega)]
    · rw [decide_eq_false h, decide_eq_false (by omega)]
  unfold nameOk at hq
  rw [← e8] at hq
  refine ⟨_, rfl, x, rfl, by rw [sizeLine_eq]; omega, _, _, rfl, rfl, _, rfl, if_bool (fun c1 => ?_) (fun c1 => ?_)⟩
  · rw [c1] at hq
    exact ⟨_, rfl, x, rfl, hq⟩
  · rw [c1] at hq
    exact hq
/-! methods of Bed -/
structure MB (K : PySem.W.Frag) (m q : Str) (st : Stmt) : Prop where
  me : Meth K (He.ga K "Bed") m (He.ma K (He.ga K "Bed") m)
  fn : ∃ fd, FunD K m q (defArgs st) (defBody st) (defScope st) [] [] (He.ma K (He.ga K "Bed") m) fd
structure CalM (P : Program) (w : World) (K : PySem.W.Frag) (mg : Str → Option Value) (base : Heap) (k : Nat) (m : Str) (ps : List Str) (sp : Sp) : Prop where
  me : Meth K (He.ga K "Bed") m (He.ma K (He.ga K "Bed") m)
  fn : ∃ fd, FnOk P w K mg base (L2.CX P w) k (He.ma K (He.ga K "Bed") m) fd ps sp ∧ Binds K fd ps []
theorem calM_of {m q : Str} {st : Stmt} {N ps : List Str} {k : Nat} {sp : Sp} (F : MB K m q st) (S : FnScope N ps (defScope st))
    (hb : ∀ (kV doc pm : Value) (an : Option Addr) (cdv ct : Value) (us : List Value), us.length = ps.length → bindArgs (PySem.W.fnOf m q (defArgs st) (defBody st) (defScope st) .none kV doc pm an cdv ct) ⟨us, []⟩ = pure (ps.zip us))
    (len : ∀ vs H Q E, sp vs H Q E → vs.length = ps.length)
    (body : ∀ (cdv : Value) (A : Around) (outer : List Env) (s : Shared) (H : Hp) (vs : List V) (Q : VK) (E : XK), Room k (A.deeper (envOfC q (defScope st) s.heap.objs.size (He.ma K (He.ga K "Bed") m) cdv)) → sp vs H Q E →
      ∃ t, PSs (cxOf (L2.CX P w) P w K mg base N q (defScope st) (He.ma K (He.ga K "Bed") m) cdv A outer s H E) (defBody st) t ∧ t { nx := fun _ H' => Q .non H', rt := Q } (start N vs) H) : CalM P w K mg base (k + 1) m ps sp := by
  obtain ⟨me, fd, F⟩ := F
  exact ⟨me, fd, F.ok S len body, F.bindsN hb⟩
abbrev WdB (x : Str) : Prop := x.length ≤ 100 ∧ ∀ c ∈ x.cps.toList, c < 16 ^ 8
def spBranches (K : PySem.W.Frag) : Sp := fun vs H Q E => ∃ (a : Addr) (rows : List Sy.Row) (x : Str), vs = [.ref a, .str x] ∧ BedAt K H a rows ∧ WdB x ∧ (isK rows x = true → Q (.int (ar rows x : Nat)) H) ∧ (isK rows x = false → RaE K (.kind x) H E)
theorem sc_branches : FnScope ["self", "kind"] ["self", "kind"] (defScope (clb 28 4)) := ⟨rfl, rfl, rfl, by decide +kernel, rfl, by decide +kernel, by decide +kernel⟩
theorem k_branches (T : Txt K mg) (R : Ers P K mg) (F : MB K "branches" "Bed.branches" (clb 28 4)) : CalM P w K mg base 3 "branches" ["self", "kind"] (spBranches K) := by
  refine calM_of F sc_branches (fun _ _ _ _ _ _ us e => match us, e with | [_, _], _ => rfl) (fun vs H Q E s => by obtain ⟨_, _, _, rfl, _⟩ := s; rfl) ?_
  intro cdv A outer s H vs Q E hr h
  obtain ⟨a, rows, x, rfl, hb, hx, hq, hE⟩ := h
  have hu := hu_of hr
  obtain ⟨dx, dA, tR, tK, dR, ps, h1, hd, h3, h4, h5, h6⟩ := hb.ex
  refine ⟨_, (pss_cons (ps_if (pt_cmp (pc_dnotin hu (pv 1) (pe_fld (pv 0) rfl)))
        (pss_one (ps_raise rfl (takes_of rfl rfl rfl rfl) (mk_uk R.uk hr rfl (pa_cons (pv 1) pa_nil) pass0)))
        pss_nil)
      (pss_one (ps_ret (pe_dget hu (pe_fld (pv 0) rfl) (pv 1) (fun _ _ => rfl))))), ?_⟩
  refine ⟨_, rfl, _, rfl, a, _, dx, _, _, rfl, h1, T.bed.cl, T.bed.nA, rfl, dA, _, rfl, DGet.k (k := Sum.inr x) hd, _, rfl, ?_⟩
  cases e : rows.lookup x with
  | none =>
    have hv : valV (arKV rows) (Sum.inr x : Key) = none := by rw [valV_ar, e]; rfl
    rw [hv]
    refine iteT ⟨_, rfl, mk_ra (fun _ _ => ⟨x, rfl, hx, rfl⟩) (by show 1 ≤ 1000; decide) ((hE (by unfold isK; rw [e]; rfl)).ra (.cons (.str _) .nil))⟩
  | some n =>
    have hv : valV (arKV rows) (Sum.inr x : Key) = some (.int (n : Nat)) := by rw [valV_ar, e]; rfl
    rw [hv]
    refine iteF ⟨_, rfl, a, _, dx, _, _, rfl, h1, T.bed.cl, T.bed.nA, rfl, _, rfl, dA, .int (n : Nat), rfl, ?_, ?_⟩
    · rw [← hv]
      exact DGet.k (k := Sum.inr x) hd
    · have q := hq (by unfold isK; rw [e]; rfl)
      have : ar rows x = n := by unfold ar; rw [e]; rfl
      rw [this] at q
      exact q
def spLeaves (K : PySem.W.Frag) : Sp := fun vs H Q _ => ∃ (a : Addr) (rows : List Sy.Row), vs = [.ref a] ∧ BedAt K H a rows ∧ rows.length ≤ 1000 ∧ ∀ H' p, Same H H' → SqT K H' p ((leafs rows).map V.str) → Q (.ref p) H'
abbrev N_leaves : List Str := ["self", "name", "branches"]
theorem sc_leaves : FnScope N_leaves ["self"] (defScope (clb 28 3)) := ⟨rfl, rfl, rfl, by decide +kernel, rfl, by decide +kernel, by decide +kernel⟩
theorem k_leaves (T : Txt K mg) (F : MB K "leaves" "Bed.leaves" (clb 28 3)) : CalM P w K mg base 1 "leaves" ["self"] (spLeaves K) := by
  refine calM_of F sc_leaves (fun _ _ _ _ _ _ us e => match us, e with | [_], _ => rfl) (fun vs H Q E s => by obtain ⟨_, _, rfl, _⟩ := s; rfl) ?_
  intro cdv A outer s H vs Q E hr h
  obtain ⟨a, rows, rfl, hb, hl, hq⟩ := h
  have sc := sc_leaves
  obtain ⟨dx, dA, tR, tK, dR, ps, h1, hd, h3, h4, h5, h6⟩ := hb.ex
  have hpl := paired_len h6
  refine ⟨_, (pss_one (ps_ret (pe_callTy call_tuple_of (by rfl) T.tuple (by decide +kernel) (pa_cons (pe_lc (own := [("name", 1), ("branches", 2)]) (g := gTup K 2 (gCons (gName 1) (gCons (gName 2) (gNil)))) rfl sc.nd (pi_tup (pe_fld (pv 0) rfl)) (blkOk_by (N := N_leaves) (sc := defScope (clb 28 3)) (by decide +kernel)) (fun _ _ _ _ _ => (pg_tup rfl (pgs_cons (pg_name (i := 1) sc.nd rfl (Or.inl rfl)) (pgs_cons (pg_name (i := 2) sc.nd rfl (Or.inl rfl)) pgs_nil)))) (fun _ _ _ _ _ => (pts_one (pt_cmpR op_eq (pv 2) pe_int (nomark _)))) (fun _ _ _ _ _ => (pv 1))) pa_nil)))), ?_⟩
  refine ⟨_, rfl, a, _, dx, _, _, rfl, h1, T.bed.cl, T.bed.nR, rfl, tR, rfl, ⟨_, h4⟩, fun D hD => lc_it walk_tup (fun i H' => Hs H [(D, .lst ((leafs (rows.take i)).map V.str))] H') ((Hs.start H).new hD) (fun _ _ _ p => Same.sqt p.sub h4) ?_ ?_⟩
  · rintro i x H' _ hi hh ⟨rfl, hx⟩
    rw [List.length_map, hpl] at hi
    obtain ⟨r, hr'⟩ : ∃ r, rows[i]? = some r := ⟨_, List.getElem?_eq_getElem hi⟩
    obtain ⟨q, e1, tq⟩ := paired_at h6 hr'
    rw [List.getElem?_map, e1] at hx
    cases hx
    have etk : rows.take (i + 1) = rows.take i ++ [r] := by rw [List.take_succ, hr']; rfl
    have ll : (leafs (rows.take i)).length ≤ 1000 := by
      unfold leafs
      rw [List.length_map]
      have := List.length_filter_le (fun r : Sy.Row => decide (r.2 = 0)) (rows.take i)
      rw [List.length_take] at this
      omega
    refine ⟨q, _, rfl, Same.sqt hh.sub tq, rfl, _, _, rfl, _, _, rfl, rfl, rfl, _, rfl, rfl, _, rfl, if_dec (fun c => ?_) (fun c => ?_)⟩
    · refine ⟨_, rfl, _, hh.r0, by rw [List.length_map, sizeLine_eq]; omega, ?_⟩
      have c2 : r.2 = 0 := by
        have := V.int.inj c
        omega
      have : leafs (rows.take (i + 1)) = leafs (rows.take i) ++ [r.1] := by
        unfold leafs
        rw [etk, List.filter_append, List.map_append]
        simp [c2]
      rw [this, List.map_append]
      exact hh.w0
    · have c2 : ¬ r.2 = 0 := fun z => c (by rw [z]; rfl)
      have : leafs (rows.take (i + 1)) = leafs (rows.take i) := by
        unfold leafs
        rw [etk, List.filter_append, List.map_append]
        simp [c2]
      rw [this]
      exact hh
  · intro H' hh
    rw [List.length_map, hpl, List.take_length] at hh
    exact ⟨D, _, rfl, .inl ⟨SqL.of hh.r0, fun l hl => hq _ _ (hh.sub.trans (up_same hl)) (SqT.of upd_same)⟩⟩
end
end Sy
namespace Sy
open PySem PySem.Spec PyProof.Rows L2
/-- pairs as they are given -/
abbrev PRow : Type := Str × Int
def toR (r : PRow) : Sy.Row := (r.1, r.2.toNat)
def ofR (r : Sy.Row) : PRow := (r.1, (r.2 : Int))
/-- the first pair that is no pair of a bed -/
def bedG : Nat → List Str → List PRow → Option Er
  | _, _, [] => none
  | i, seen, r :: ps => if nameOk r.1 = false ∨ r.2 < 0 ∨ 3 < r.2 ∨ r.1 ∈ seen then some (.bed (i : Nat)) else bedG (i + 1) (seen ++ [r.1]) ps
/-- what making a bed owes -/
def bedE (ps : List PRow) : Option Er := if 8 < ps.length then some (.many "kinds" 8) else match bedG 0 [] ps with
  | some e => some e
  | none => if ps.any (fun r => decide (r.2 = 0)) = true then none else some (.bed (-1))
theorem toR_ofR (r : Sy.Row) : toR (ofR r) = r := by
  obtain ⟨x, n⟩ := r
  rfl
theorem toR_map (rows : List Sy.Row) : (rows.map ofR).map toR = rows := by
  rw [List.map_map]
  have : (toR ∘ ofR) = id := funext toR_ofR
  rw [this, List.map_id]
theorem paired_of {α β γ : Type} {R : α → β → Prop} {f : γ → β} : ∀ {xs : List α} {ys : List γ}, Paired R xs (ys.map f) → Paired (fun x y => R x (f y)) xs ys
  | _, [], .nil => .nil
  | _, _ :: _, .cons a b => .cons a (paired_of b)
theorem paired_to {α β γ : Type} {R : α → β → Prop} {f : γ → β} : ∀ {xs : List α} {ys : List γ}, Paired (fun x y => R x (f y)) xs ys → Paired R xs (ys.map f)
  | _, [], .nil => .nil
  | _, _ :: _, .cons a b => .cons a (paired_to b)
section
variable {P : Program} {w : World} {K : PySem.W.Frag} {mg : Str → Option Value} {base : Heap}
/-- what a def with a star asks, by what its body asks -/
def spStar (n : Nat) (sp : Sp) : Sp := fun vs H Q E => ∃ ws rest, vs = ws ++ rest ∧ ws.length = n ∧ rest.length ≤ sizeLine ∧ ∀ p, H p = Option.none → sp (ws ++ [V.ref p]) (upd H p (.tup rest)) Q E
theorem fnR_of {x q pv : Str} {st : Stmt} {f : Addr} {fd : FuncData} {N ps : List Str} {k : Nat} {sp : Sp} (F : FunD K x q (defArgs st) (defBody st) (defScope st) [] [] f fd) (S : FnScope N (ps ++ [pv]) (defScope st))
    (hb : ∀ (kV doc pm : Value) (an : Option Addr) (cdv ct : Value) (us rest : List Value), us.length = ps.length → bindArgs (PySem.W.fnOf x q (defArgs st) (defBody st) (defScope st) .none kV doc pm an cdv ct) ⟨us ++ rest, []⟩ = (newTuple rest >>= fun t => pure (ps.zip us ++ [(pv, t)])))
    (body : ∀ (cdv : Value) (A : Around) (outer : List Env) (s : Shared) (H : Hp) (vs : List V) (Q : VK) (E : XK), Room k (A.deeper (envOfC q (defScope st) s.heap.objs.size f cdv)) → sp vs H Q E →
      ∃ t, PSs (cxOf (L2.CX P w) P w K mg base N q (defScope st) f cdv A outer s H E) (defBody st) t ∧ t { nx := fun _ H' => Q .non H', rt := Q } (start N vs) H) : FnR P w K mg base (L2.CX P w) (k + 1) f (spStar ps.length sp) := by
  obtain ⟨oc, od, dV, kV, doc, pm, an, cdv, ct, osl, rfl, lk, hcd, hD, hK⟩ := F.ex
  rcases hD with ⟨_, rfl⟩ | ⟨e, _⟩
  · exact StX.fn_star lk hcd S StX.cxUp (hb kV doc pm an cdv ct) fun A outer s H vs Q E hr h => body cdv A outer s H vs Q E hr h
  · exact absurd rfl e
/-! Bed.__init__ -/
def Keep (x : Addr) (H H' : Hp) : Prop := ∀ a o, a ≠ x → H a = some o → H' a = some o
def spInitB (K : PySem.W.Frag) : Sp := fun vs H Q E => ∃ (x p dx : Addr) (as : List Addr) (ps : List PRow), vs = [.ref x, .ref p] ∧ H x = some (.ins (He.ga K "Bed") dx []) ∧ SqT K H p (as.map V.ref) ∧ Paired (fun q (r : PRow) => SqT K H q [.str r.1, .int r.2]) as ps ∧ ps.length ≤ 100000 ∧ (∀ r ∈ ps, r.1.length ≤ 1000000) ∧
  (bedE ps = none → RowsOk (ps.map toR) → ps = (ps.map toR).map ofR → ∀ H', Keep x H H' → BedAt K H' x (ps.map toR) → Q .non H') ∧ (∀ e, bedE ps = some e → ∀ d H' fs, Keep x H H' → H' d = some (.xd fs) → ImF K H' fs e.fds → E (.ref (He.ga K e.cls)) (some d) H')
abbrev N_init : List Str := ["self", "kinds", "place", "name", "branches", "rank"]
theorem sc_init : FnScope N_init ((["self"] : List Str) ++ (["kinds"] : List Str)) (defScope (clb 28 0)) := ⟨rfl, rfl, rfl, by decide +kernel, rfl, by decide +kernel, by decide +kernel⟩
theorem sqt_del {H : Hp} {x p C dx : Addr} {fs : List (Str × V)} {xs : List V} (h : SqT K H p xs) (hx : H x = some (.ins C dx fs)) : SqT K (L2.del H x) p xs := by
  have ne : ∀ o, H p = some o → (∀ C dx fs, o ≠ .ins C dx fs) → p ≠ x := fun o e n z => by
    rw [z, hx] at e
    exact n _ _ _ (Option.some.inj e).symm
  rcases h with (h | ⟨o, h⟩) | h
  · exact .inl (.inl (by rw [del_ne (ne _ h fun _ _ _ z => by cases z)]; exact h))
  · exact .inl (.inr ⟨o, by rw [del_ne (ne _ h fun _ _ _ z => by cases z)]; exact h⟩)
  · exact .inr h
theorem nx_le (x : Str) (h : nameOk x = true) : x.length ≤ 8 := by
  unfold nameOk at h
  exact of_decide_eq_true (Bool.and_eq_true_iff.mp h).1
theorem rkKV_snoc : ∀ (l : List Sy.Row) (n : Nat) (r : Sy.Row), rkKV n (l ++ [r]) = rkKV n l ++ [(Sum.inr r.1, V.int ((n + l.length : Nat) : Int))]
  | [], n, r => rfl
  | q :: l, n, r => by
    show (Sum.inr q.1, V.int (n : Nat)) :: rkKV (n + 1) (l ++ [r]) = _
    rw [rkKV_snoc l (n + 1) r, show n + 1 + l.length = n + (q :: l).length by rw [List.length_cons]; omega]
    rfl
theorem rkKV_len : ∀ (l : List Sy.Row) (n : Nat), (rkKV n l).length = l.length
  | [], _ => rfl
  | q :: l, n => by
    show (rkKV (n + 1) l).length + 1 = _
    rw [rkKV_len l (n + 1)]
    rfl
theorem rk_none : ∀ {l : List Sy.Row} {n : Nat} {x : Str}, (∀ q ∈ l, q.1 ≠ x) → rk n l x = none
  | [], _, _, _ => rfl
  | q :: l, n, x, h => by
    rw [rk, if_neg (h q List.mem_cons_self)]
    exact rk_none fun z hz => h z (List.mem_cons_of_mem _ hz)
theorem leafs_pos {rows : List Sy.Row} (h : ∃ r ∈ rows, r.2 = 0) : 0 < (leafs rows).length := by
  obtain ⟨r, hr, e⟩ := h
  unfold leafs
  rw [List.length_map]
  exact List.length_pos_of_mem (List.mem_filter.mpr ⟨hr, decide_eq_true e⟩)
theorem lookup_has : ∀ {rows : List Sy.Row} {x : Str}, x ∈ rows.map (·.1) → ∃ n, rows.lookup x = some n
  | [], _, h => nomatch h
  | r :: rs, x, h => by
    rw [lookup_cons]
    by_cases c : r.1 = x
    · rw [if_pos c]
      exact ⟨_, rfl⟩
    · rw [if_neg c]
      rcases List.mem_cons.mp h with h | h
      · exact absurd h.symm c
      · exact lookup_has h
theorem r_init (T : Txt K mg) (R : Ers P K mg) (F : MB K "__init__" "Bed.__init__" (clb 28 0)) (c_is_name : Cal P w K mg base 2 "is_name" ["text"] spName) (c_leaves : CalM P w K mg base 1 "leaves" ["self"] (spLeaves K)) :
    FnR P w K mg base (L2.CX P w) 3 (He.ma K (He.ga K "Bed") "__init__") (spStar 1 (spInitB K)) := by
  obtain ⟨me, fd, F⟩ := F
  obtain ⟨mL, fL, FL, BL⟩ := c_leaves
  refine fnR_of (ps := ["self"]) F sc_init (fun kV doc pm an cdv ct => StX.bind_star1 (B := fun l => bindArgs (PySem.W.fnOf "__init__" "Bed.__init__" (defArgs (clb 28 0)) (defBody (clb 28 0)) (defScope (clb 28 0)) .none kV doc pm an cdv ct) ⟨l, []⟩) (fun _ => rfl) (fun _ _ _ => rfl)) ?_
  intro cdv A outer s H vs Q E hr h
  obtain ⟨x, p, dx, as, ps, rfl, hx, hp, hpr, hps, hnl, hq, hE⟩ := h
  have hu := hu_of hr
  have sc := sc_init
  refine ⟨_, (pss_cons (ps_if (pt_cmpR op_gt (pe_callB call_len_seq (by rfl) T.len (by decide +kernel) (pa_cons (pv 1) pa_nil)) (pe_gint rfl T.MOST_KINDS) (nomark _))
        (pss_one (ps_raise rfl (takes_of rfl rfl rfl rfl) (mk_tm R.tm hr rfl (pa_cons pe_str (pa_cons (pe_gint rfl T.MOST_KINDS) pa_nil)) pass0)))
        pss_nil)
      (pss_cons (ps_fld (pv 0) pe_dnewK rfl)
      (pss_cons (ps_for (passes_of rfl) rfl (pi_enumT (by rfl) T.enumerate (pa_cons (pv 1) pa_nil)) (pg_tup rfl (pgs_cons (pg_name (i := 2) sc.nd rfl (Or.inl rfl)) (pgs_cons (pg_tup rfl (pgs_cons (pg_name (i := 3) sc.nd rfl (Or.inl rfl)) (pgs_cons (pg_name (i := 4) sc.nd rfl (Or.inl rfl)) pgs_nil))) pgs_nil)))
        (pss_cons (ps_if (pt_not (pt_val (pe_cal c_is_name hr (pa_cons (pv 3) pa_nil))))
          (pss_one (ps_raise rfl (takes_of rfl rfl rfl rfl) (mk_ib R.ib hr rfl (pa_cons (pv 2) pa_nil) pass0)))
          pss_nil)
        (pss_cons (ps_if (PW.pt (pw_or (pt_cmpR op_lt (pv 4) pe_int (nomark _)) (pw_or1 (pt_cmpR op_gt (pv 4) (pe_gint rfl T.MOST_BRANCHES) (nomark _)))))
          (pss_one (ps_raise rfl (takes_of rfl rfl rfl rfl) (mk_ib R.ib hr rfl (pa_cons (pv 2) pa_nil) pass0)))
          pss_nil)
        (pss_cons (ps_if (pt_cmp (pc_din hu (pv 3) (pe_fld (pv 0) rfl)))
          (pss_one (ps_raise rfl (takes_of rfl rfl rfl rfl) (mk_ib R.ib hr rfl (pa_cons (pv 2) pa_nil) pass0)))
          pss_nil)
        (pss_one (ps_dput hu (pe_fld (pv 0) rfl) (pv 3) (pv 4) rfl))))))
      (pss_cons (ps_fld (pv 0) (pe_callTy call_tuple_of (by rfl) T.tuple (by decide +kernel) (pa_cons (pv 1) pa_nil)) rfl)
      (pss_cons (ps_fld (pv 0) (pe_callTy call_tuple_of (by rfl) T.tuple (by decide +kernel) (pa_cons (pe_lc (own := [("name", 3), ("branches", 4)]) (g := gTup K 2 (gCons (gName 3) (gCons (gName 4) (gNil)))) rfl sc.nd (pi_tup (pv 1)) (blkOk_by (N := N_init) (sc := defScope (clb 28 0)) (by decide +kernel)) (fun _ _ _ _ _ => (pg_tup rfl (pgs_cons (pg_name (i := 3) sc.nd rfl (Or.inl rfl)) (pgs_cons (pg_name (i := 4) sc.nd rfl (Or.inl rfl)) pgs_nil)))) (fun _ _ _ _ _ => pts_nil) (fun _ _ _ _ _ => (pv 3))) pa_nil)) rfl)
      (pss_cons (ps_fld (pv 0) (pe_dc (own := [("rank", 5), ("name", 3)]) (g := gTup K 2 (gCons (gName 5) (gCons (gName 3) (gNil)))) rfl sc.nd (pi_enumT (by rfl) T.enumerate (pa_cons (pe_fld (pv 0) rfl) pa_nil)) (blkOk_by (N := N_init) (sc := defScope (clb 28 0)) (by decide +kernel)) (fun _ _ _ _ _ => (pg_tup rfl (pgs_cons (pg_name (i := 5) sc.nd rfl (Or.inl rfl)) (pgs_cons (pg_name (i := 3) sc.nd rfl (Or.inl rfl)) pgs_nil)))) (fun _ _ _ _ _ => pts_nil) (fun _ _ _ _ _ => (pv 3)) (fun _ _ _ _ _ => (pv 5))) rfl)
      (pss_one (ps_if (pt_cmpR op_eq (pe_callB call_len_seq (by rfl) T.len (by decide +kernel) (pa_cons (pe_meth0 (pv 0) T.bed.cl mL FL (hr.mono (by decide)) BL .nil (E := E0) (fun pins σ H s e s' I h => passL pins σ H s e s' I h)) pa_nil)) pe_int (nomark _))
        (pss_one (ps_raise rfl (takes_of rfl rfl rfl rfl) (mk_ib R.ib hr rfl (pa_cons (pe_un un_neg pe_int) pa_nil) pass0)))
        pss_nil)))))))), ?_⟩
  have hpl := paired_len hpr
  have k0 : Hs (L2.del H x) [(x, .ins (He.ga K "Bed") dx [])] H := (Hs.start H).take hx
  have hp0 := sqt_del hp hx
  have hpr0 : Paired (fun q (r : PRow) => SqT K (L2.del H x) q [.str r.1, .int r.2]) as ps := Paired.mapP hpr fun _ _ z => sqt_del z hx
  have keep0 : ∀ {B' H' : Hp}, Same (L2.del H x) B' → Same B' H' → Keep x H H' := fun s1 s2 a o n e => s2 _ _ (s1 _ _ (by rw [del_ne n]; exact e))
  -- an error, from where it is raised
  have raise : ∀ (e : Er) (H1 : Hp) (fs : List (Str × V)), bedE ps = some e → Keep x H H1 → ImF K H1 fs e.fds → Ra K e.cls fs H1 E := fun e H1 fs he hk im d H' s ed => hE e he d H' fs (fun a o n z => s _ _ (hk a o n z)) ed (im.mono s)
  generalize hB : L2.del H x = B at *
  refine ⟨_, rfl, p, _, rfl, .inr hp, _, _, rfl, rfl, _, rfl, if_dec (fun c => ?_) (fun c => ?_)⟩
  · rw [List.length_map, hpl] at c
    have he : bedE ps = some (.many "kinds" 8) := by
      unfold bedE
      rw [if_pos (by omega)]
    exact mk_ra (fun _ _ => ⟨_, _, rfl, by decide +kernel, by decide +kernel, by decide +kernel, rfl⟩) (by show 2 ≤ 1000; decide) (raise _ H _ he (fun _ _ _ e => e) (.cons (.int _) (.cons (.str _) .nil)))
  rw [List.length_map, hpl] at c
  have hle : ps.length ≤ 8 := by omega
  have bG : ∀ e, bedG 0 [] ps = some e → bedE ps = some e := fun e h => by
    unfold bedE
    rw [if_neg (by omega), h]
  intro d hd
  have k1 := k0.new (o := .dK []) hd
  refine ⟨_, rfl, x, _, dx, _, rfl, k1.r1, T.bed.cl, T.bed.nA, by decide, ?_⟩
  have k2 := k1.w1 (o' := .ins (He.ga K "Bed") dx (putF "arities" (.ref d) []))
  refine ⟨_, rfl, p, _, rfl, Same.sqt k2.sub hp0, for_it walkE (fun i σ H' => ∃ (t2 t3 t4 : Option V) (rows : List Sy.Row), σ = [some (.ref x), some (.ref p), t2, t3, t4, none] ∧ rows.map ofR = ps.take i ∧ (∀ r ∈ rows, nameOk r.1 = true ∧ r.2 ≤ 3) ∧ (rows.map (·.1)).Nodup ∧ bedG i (rows.map (·.1)) (ps.drop i) = bedG 0 [] ps ∧ Hs B [(d, .dK (arKV rows)), (x, .ins (He.ga K "Bed") dx [("arities", .ref d)])] H')
    ⟨none, none, none, [], rfl, rfl, fun _ z => (nomatch z), List.nodup_nil, rfl, k2⟩ (fun _ _ _ _ ⟨_, _, _, _, _, _, _, _, _, z⟩ => Same.sqt z.sub hp0) ?_ ?_⟩
  · rintro i v σ H1 H2 hi ⟨t2, t3, t4, rows, rfl, etk, hok, hnd, hg, hh⟩ ⟨T1, u1, u2, rfl, hT, rfl, e1, e2⟩
    cases e1
    rw [List.length_map, hpl] at hi
    obtain ⟨r, hr'⟩ : ∃ r, ps[i]? = some r := ⟨_, List.getElem?_eq_getElem hi⟩
    obtain ⟨q, eq, tq⟩ := paired_at hpr0 hr'
    have e2 : (as.map V.ref)[i]? = some u2 := e2
    rw [List.getElem?_map, eq] at e2
    cases e2
    have hm := List.mem_of_getElem? hr'
    have hh := hh.lay (o := .tup [.int (i : Nat), .ref q]) hT
    have hlr : rows.length = i := by
      have := congrArg List.length etk
      rw [List.length_map, List.length_take] at this
      omega
    have hkeep : Keep x H (upd H1 T1 (.tup [.int (i : Nat), .ref q])) := keep0 (Same.refl _) hh.sub
    rw [drop_of hr', bedG] at hg
    have bad : (nameOk r.1 = false ∨ r.2 < 0 ∨ 3 < r.2 ∨ r.1 ∈ rows.map (·.1)) → Ra K "InvalidBed" [("place", .int (i : Nat))] (upd H1 T1 (.tup [.int (i : Nat), .ref q])) E := fun hb => by
      rw [if_pos hb] at hg
      exact raise (.bed (i : Nat)) _ _ (bG _ hg.symm) hkeep (.cons (.int _) .nil)
    have nx := hnl r hm
    refine ⟨T1, _, rfl, SqT.of upd_same, rfl, _, _, rfl, _, _, rfl, q, _, rfl, Same.sqt hh.sub tq, rfl, _, _, rfl, _, _, rfl, rfl, rfl, ?_⟩
    refine ⟨_, rfl, r.1, rfl, nx, _, rfl, ?_⟩
    have rz : ∀ σ' : L2.St, σ'[2]? = some (some (.int (i : Nat))) → True := fun _ _ => trivial
    cases hn : nameOk r.1 with
    | false => exact iteT ⟨_, rfl, mk_ra (fun _ _ => ⟨(i : Nat), rfl, by omega, rfl⟩) (by show 1 ≤ 1000; decide) (bad (.inl hn))⟩
    | true =>
      refine iteF ⟨_, rfl, _, _, rfl, rfl, _, rfl, if_dec (fun c1 => ?_) (fun c1 => ?_)⟩
      · exact ⟨_, rfl, mk_ra (fun _ _ => ⟨(i : Nat), rfl, by omega, rfl⟩) (by show 1 ≤ 1000; decide) (bad (.inr (.inl c1)))⟩
      refine ⟨_, rfl, _, _, rfl, rfl, _, rfl, if_dec (fun c2 => ?_) (fun c2 => ?_)⟩
      · exact ⟨_, rfl, mk_ra (fun _ _ => ⟨(i : Nat), rfl, by omega, rfl⟩) (by show 1 ≤ 1000; decide) (bad (.inr (.inr (.inl c2))))⟩
      refine ⟨_, rfl, _, rfl, x, _, dx, _, _, rfl, hh.r1, T.bed.cl, T.bed.nA, rfl, d, _, rfl, DGet.k (k := Sum.inr r.1) hh.r0, _, rfl, ?_⟩
      by_cases hmem : r.1 ∈ rows.map (·.1)
      · obtain ⟨n, hn'⟩ := lookup_has hmem
        have vn : valV (arKV rows) (Sum.inr r.1 : Key) = some (.int (n : Nat)) := by rw [valV_ar, hn']; rfl
        rw [vn]
        exact iteT ⟨_, rfl, mk_ra (fun _ _ => ⟨(i : Nat), rfl, by omega, rfl⟩) (by show 1 ≤ 1000; decide) (bad (.inr (.inr (.inr hmem))))⟩
      · have hnone : ∀ z ∈ rows, z.1 ≠ r.1 := fun z hz e => hmem (by rw [← e]; exact List.mem_map_of_mem hz)
        have vn : valV (arKV rows) (Sum.inr r.1 : Key) = none := by rw [valV_ar, lookup_none hnone]; rfl
        rw [vn]
        obtain ⟨y, z⟩ := r
        obtain ⟨n, rfl⟩ : ∃ n : Nat, z = (n : Int) := ⟨z.toNat, by have : ¬ z < 0 := c1; omega⟩
        refine iteF ⟨_, rfl, _, rfl, x, _, dx, _, _, rfl, hh.r1, T.bed.cl, T.bed.nA, rfl, _, rfl, d, _, rfl, DPut.k (k := Sum.inr y) hh.r0 (by unfold arKV; rw [List.length_map, sizeLine_eq]; omega), ?_⟩
        refine ⟨_, _, _, rows ++ [(y, n)], rfl, ?_, fun r hr' => ?_, ?_, ?_, ?_⟩
        · rw [List.map_append, etk, List.take_succ, hr']
          rfl
        · rcases List.mem_append.mp hr' with hr' | hr'
          · exact hok r hr'
          · rw [List.mem_singleton.mp hr']
            exact ⟨hn, by have : ¬ (3 : Int) < (n : Int) := c2; show n ≤ 3; omega⟩
        · rw [List.map_append]
          exact List.nodup_append.mpr ⟨hnd, by simp, fun a ha b hb => by
            rw [List.map_cons, List.map_nil, List.mem_singleton] at hb
            rw [hb]
            exact fun z => hmem (by rw [← z]; exact ha)⟩
        · rw [if_neg (fun z => z.elim (fun a => by rw [hn] at a; cases a) fun z => z.elim c1 fun z => z.elim c2 hmem)] at hg
          rw [List.map_append]
          exact hg
        · rw [putK_new _ vn]
          unfold arKV
          rw [List.map_append]
          exact hh.w0
  · rintro σ H1 ⟨t2, t3, t4, rows, rfl, etk, hok, hnd, hg, hh⟩
    rw [List.length_map, hpl, List.take_length] at etk
    rw [List.length_map, hpl, List.drop_length, bedG] at hg
    subst etk
    rw [toR_map] at hq
    have hpr0 : Paired (fun q (r : Sy.Row) => SqT K B q [.str r.1, .int (r.2 : Nat)]) as rows := paired_of (R := fun q (r : PRow) => SqT K B q [.str r.1, .int r.2]) (f := ofR) hpr0
    have hpl := paired_len hpr0
    rw [List.length_map] at hle
    -- rows
    refine ⟨_, rfl, p, _, rfl, .inr ⟨Same.sqt hh.sub hp0, ?_⟩⟩
    refine ⟨_, rfl, x, _, dx, _, rfl, hh.r1, T.bed.cl, T.bed.nR, (by show 1 < 1000; decide), ?_⟩
    have k3 := hh.w1 (o' := .ins (He.ga K "Bed") dx [("arities", .ref d), ("rows", .ref p)])
    -- kinds
    refine ⟨_, rfl, p, rfl, ⟨_, Same.sqt k3.sub hp0⟩, fun D hD => lc_it walk_tup (fun i H' => Hs B [(D, .lst ((rows.take i).map fun r => V.str r.1)), (d, .dK (arKV rows)), (x, .ins (He.ga K "Bed") dx [("arities", .ref d), ("rows", .ref p)])] H') (k3.new hD) (fun _ _ _ z => Same.sqt z.sub hp0) ?_ ?_⟩
    · rintro i v H1 _ hi hh ⟨rfl, hv⟩
      rw [List.length_map, hpl] at hi
      obtain ⟨r, hr'⟩ : ∃ r, rows[i]? = some r := ⟨_, List.getElem?_eq_getElem hi⟩
      obtain ⟨q, eq, tq⟩ := paired_at hpr0 hr'
      rw [List.getElem?_map, eq] at hv
      cases hv
      refine ⟨q, _, rfl, Same.sqt hh.sub tq, rfl, _, _, rfl, _, _, rfl, rfl, rfl, ?_⟩
      simp only [tYes, if_true]
      refine ⟨_, rfl, _, hh.r0, by rw [List.length_map, List.length_take, sizeLine_eq]; omega, ?_⟩
      rw [List.take_succ, hr', List.map_append]
      exact hh.w0
    intro H2 hh
    rw [List.length_map, hpl, List.take_length] at hh
    refine ⟨D, _, rfl, .inl ⟨SqL.of hh.r0, fun tK hK => ?_⟩⟩
    have k4 := (hh.drop).new (o := .tup (rows.map fun r => V.str r.1)) hK
    refine ⟨_, rfl, x, _, dx, _, rfl, k4.r2, T.bed.cl, T.bed.nK, (by show 2 < 1000; decide), ?_⟩
    have k5 := k4.w2 (o' := .ins (He.ga K "Bed") dx [("arities", .ref d), ("rows", .ref p), ("kinds", .ref tK)])
    -- ranks
    refine ⟨_, rfl, x, _, dx, _, _, rfl, k5.r2, T.bed.cl, T.bed.nK, rfl, tK, _, rfl, SqT.of k5.r0, fun R hR => dc_it walkE (fun i H' => Hs B [(R, .dK (rkKV 0 (rows.take i))), (tK, .tup (rows.map fun r => V.str r.1)), (d, .dK (arKV rows)), (x, .ins (He.ga K "Bed") dx [("arities", .ref d), ("rows", .ref p), ("kinds", .ref tK)])] H') (k5.new hR) (fun _ _ _ z => SqT.of z.r1) ?_ ?_⟩
    · rintro i v H1 H2 hi hh ⟨T1, u1, u2, rfl, hT, rfl, e1, e2⟩
      cases e1
      rw [List.length_map] at hi
      obtain ⟨r, hr'⟩ : ∃ r, rows[i]? = some r := ⟨_, List.getElem?_eq_getElem hi⟩
      have e2 : (rows.map fun r => V.str r.1)[i]? = some u2 := e2
      rw [List.getElem?_map, hr'] at e2
      cases e2
      have hh := hh.lay (o := .tup [.int (i : Nat), .str r.1]) hT
      have vn : valV (rkKV 0 (rows.take i)) (Sum.inr r.1 : Key) = none := by rw [valV_rk, rk_none (nodup_take hnd hr')]; rfl
      refine ⟨T1, _, rfl, SqT.of upd_same, rfl, _, _, rfl, _, _, rfl, rfl, rfl, ?_⟩
      simp only [tYes, if_true]
      refine ⟨_, rfl, _, rfl, _, Sum.inr r.1, rfl, hh.r0, by rw [rkKV_len, List.length_take, sizeLine_eq]; omega, ?_⟩
      rw [putK_new _ vn, List.take_succ, hr']
      show Hs B [(R, .dK (rkKV 0 (rows.take i ++ [r]))), _, _, _] _
      rw [rkKV_snoc, List.length_take, show 0 + min i rows.length = i by omega]
      exact hh.w0
    intro H3 hh
    rw [List.length_map, List.take_length] at hh
    refine ⟨_, rfl, x, _, dx, _, rfl, hh.r3, T.bed.cl, T.bed.nRk, (by show 3 < 1000; decide), ?_⟩
    generalize hH4 : upd H3 x (.ins (He.ga K "Bed") dx (putF "ranks" (.ref R) [("arities", .ref d), ("rows", .ref p), ("kinds", .ref tK)])) = H4
    have hx4 : H4 x = some (.ins (He.ga K "Bed") dx (bedF d p tK R)) := by rw [← hH4]; exact upd_same
    have nx : ∀ a o, a ≠ x → H3 a = some o → H4 a = some o := fun a o n e => by rw [← hH4, upd_ne n]; exact e
    have sB : Same B H4 := fun a o e => nx a o (fun z => by rw [z, ← hB, del_same] at e; cases e) (hh.sub a o e)
    have nK : tK ≠ x := ne_of hh.r1 hh.r3 (by intro z; cases z)
    have nd : d ≠ x := ne_of hh.r2 hh.r3 (by intro z; cases z)
    have nR : R ≠ x := ne_of hh.r0 hh.r3 (by intro z; cases z)
    have bed : BedAt K H4 x rows := ⟨dx, d, p, tK, R, as, hx4, nx _ _ nd hh.r2, nx _ _ nR hh.r0, Same.sqt sB hp0, SqT.of (nx _ _ nK hh.r1), Paired.mapP hpr0 fun _ _ z => Same.sqt sB z⟩
    refine ⟨_, rfl, x, dx, _, rfl, hx4, rfl, x, rows, rfl, bed, by omega, fun H5 t s5 ht => ?_⟩
    refine ⟨t, _, rfl, .inr ht, rfl, _, rfl, ?_⟩
    have hkeep : Keep x H H5 := keep0 sB s5
    rw [List.length_map]
    refine if_dec (fun c => ?_) (fun c => ?_)
    · have hno : ((rows.map ofR).any fun r => decide (r.2 = 0)) = false := by
        rw [List.any_eq_false]
        rintro r hr'
        obtain ⟨z, hz, rfl⟩ := List.mem_map.mp hr'
        intro h0
        have h0 : z.2 = 0 := by have : (z.2 : Int) = 0 := of_decide_eq_true h0; omega
        have := leafs_pos ⟨z, hz, h0⟩
        have := V.int.inj c
        omega
      have he : bedE (rows.map ofR) = some (.bed (-1)) := by
        unfold bedE
        rw [if_neg (by rw [List.length_map]; omega), ← hg, hno]
        rfl
      exact ⟨_, rfl, mk_ra (fun _ _ => ⟨-1, rfl, by decide, rfl⟩) (by show 1 ≤ 1000; decide) (raise _ _ _ he hkeep (.cons (.int _) .nil))⟩
    · have hlf : ∃ r ∈ rows, r.2 = 0 := by
        by_cases hz : ∃ r ∈ rows, r.2 = 0
        · exact hz
        · exfalso
          refine c ?_
          have : leafs rows = [] := by
            unfold leafs
            rw [List.map_eq_nil_iff, List.filter_eq_nil_iff]
            exact fun r hr' h0 => hz ⟨r, hr', of_decide_eq_true h0⟩
          rw [this]
          rfl
      have ok : RowsOk rows := ⟨fun r hr' => (hok r hr').1, fun r hr' => (hok r hr').2, hnd, hlf, hle⟩
      have he : bedE (rows.map ofR) = none := by
        unfold bedE
        rw [if_neg (by rw [List.length_map]; omega), ← hg]
        obtain ⟨z, hz, h0⟩ := hlf
        show (if ((rows.map ofR).any fun r => decide (r.2 = 0)) = true then none else some (Er.bed (-1))) = none
        rw [if_pos (List.any_eq_true.mpr ⟨ofR z, List.mem_map_of_mem hz, decide_eq_true (by show (z.2 : Int) = 0; omega)⟩)]
      exact hq he ok rfl _ hkeep (bed.mono (Stay.of s5))
end
end Sy
/-! making a bed, by its name or by the class at hand -/
namespace Sy
open PySem PySem.Spec PyProof.Rows L2
theorem if_nbool {c : Bool} {A B : Prop} (a : c = false → A) (b : c = true → B) : if (!c) = true then A else B := by
  cases c with
  | true => exact iteF (b rfl)
  | false => exact iteT (a rfl)
section
variable {P : Program} {w : World} {K : PySem.W.Frag} {mg : Str → Option Value} {base : Heap}
structure BedM (P : Program) (w : World) (K : PySem.W.Frag) (mg : Str → Option Value) (base : Heap) : Prop where
  mkB : Mk K (He.ga K "Bed") (He.ma K (He.ga K "Bed") "__init__")
  at_ : mg "Bed" = some (.ref (He.ga K "Bed"))
  fn : FnR P w K mg base (L2.CX P w) 3 (He.ma K (He.ga K "Bed") "__init__") (spStar 1 (spInitB K))
variable {X : Cx} {k i : Nat} {p pos sp_ : Pos} {e : Expr} {es : List Expr} {te : TE} {t : TA} {E : XK}
/-- Bed(..) -/
theorem pe_bedX (M : BedM X.prog X.w X.K X.mg X.base) (hr : Room k X.A) (tk : Takes X (fun cls d _ H => E cls d H)) (ha : PA X (e :: es) t) (hk : 4 ≤ k := by decide) (hg : Gl X "Bed" := by rfl)
    (he : starEach (e :: es) X.env = (false, eval e X.env) :: starEach es X.env := by rfl) (hpl : (backTo pos (starEach es X.env)).any (·.1) = false := by rfl) : PE X (.Call (.Name "Bed" p) (e :: es) [] pos) (StX.tMakeR (He.ga X.K "Bed") (spStar 1 (spInitB X.K)) E t) :=
  StX.pe_makeR M.mkB M.fn (hr.mono hk) hg M.at_ (fun pins σ H s e s' I h => passAt tk σ pins H s e s' I h) ha (by decide) he hpl
/-- Bed() -/
theorem pe_bed0 (M : BedM X.prog X.w X.K X.mg X.base) (hr : Room k X.A) (tk : Takes X (fun cls d _ H => E cls d H)) (hk : 4 ≤ k := by decide) (hg : Gl X "Bed" := by rfl) :
    PE X (.Call (.Name "Bed" p) [] [] pos) (StX.tMakeR (He.ga X.K "Bed") (spStar 1 (spInitB X.K)) E tNil) := by
  refine ⟨fun pins s σ H Q I h => ?_⟩
  refine wpAny_Call_Name_kw (ld_glob I hg M.at_ ?_ (by decide))
  exact PySem.W.callWith_K0 I.kIn M.mkB.kp (StX.run_makeR (us := []) M.mkB M.fn (hr.mono hk) (fun pins σ H s e s' I h => passAt tk σ pins H s e s' I h) I .nil h)
/-- cls(*pairs) -/
def tClsS (K : PySem.W.Frag) (i : Nat) (C : Addr) (sp : Sp) (E : XK) (te : TE) : TE := fun σ H Q => σ[i]? = some (some (.ref C)) ∧ te σ H fun y H1 => ∃ a xs, y = V.ref a ∧ (SqT K H1 a xs ∨ SqL K H1 a xs) ∧ ∀ x dx, H1 x = Option.none → H1 dx = Option.none → dx ≠ x →
  sp (V.ref x :: xs) (upd (upd H1 dx (.own x)) x (.ins C dx [])) (fun v H2 => v = .non ∧ Q (.ref x) H2) E
theorem pe_clsS {x : Str} (M : BedM X.prog X.w X.K X.mg X.base) (hr : Room k X.A) (hN : X.N[i]? = some x) (hv : Vis X.env.scope x) (tk : Takes X (fun cls d _ H => E cls d H)) (he : PE X e te) (hk : 4 ≤ k := by decide)
    (hdb : (x == ("__debug__" : Str)) = false := by decide) (hcd : (x == ("__classdict__" : Str)) = false := by decide) (hst : starEach [.Starred e sp_] X.env = [(true, eval e X.env)] := by rfl) :
    PE X (.Call (.Name x p) [.Starred e sp_] [] pos) (tClsS X.K i (He.ga X.K "Bed") (spStar 1 (spInitB X.K)) E te) := by
  refine ⟨fun pins s σ H Q I h => ?_⟩
  obtain ⟨hs, ht⟩ := h
  refine wpAny_Call_Name_kw (thn ((pe_var (pos := p) hN hv hdb hcd).run pins s σ H (fun v H1 => v = .ref (He.ga X.K "Bed") ∧ H1 = H) I ⟨.ref (He.ga X.K "Bed"), hs, rfl, rfl⟩) fun u s1 ⟨v, H1, I1, r1, q1⟩ => ?_)
  obtain ⟨rfl, rfl⟩ := q1
  cases r1
  refine PySem.W.callWith_S (h₀ := X.base) I1.ok.mod.kin M.mkB.kp (thn (he.run pins s1 σ _ _ I1 ht) fun v s2 ⟨y, H2, I2, ry, a, xs, ey, hxs, q⟩ => ?_) hst
  subst ey
  obtain rfl : v = Value.ref a := ry
  exact StX.star_any I2 hxs fun us s3 I3 rv => ⟨I3.kIn, StX.run_makeR M.mkB M.fn (hr.mono hk) (fun pins σ H s e s' I h => passAt tk σ pins H s e s' I h) I3 rv q⟩
/-- what making it asks -/
theorem bed_ofX {as : List Addr} {H : Hp} {Q : VK} {ps : List PRow} (hp : Paired (fun q (r : PRow) => SqT K H q [.str r.1, .int r.2]) as ps) (hl : ps.length ≤ 100000) (hn : ∀ r ∈ ps, r.1.length ≤ 1000000)
    (h : bedE ps = none → RowsOk (ps.map toR) → ps = (ps.map toR).map ofR → ∀ H' a, Same H H' → BedAt K H' a (ps.map toR) → Q (.ref a) H') (hE : ∀ e, bedE ps = some e → RaE K e H E) :
    ∀ x dx, H x = Option.none → H dx = Option.none → dx ≠ x → spStar 1 (spInitB K) (V.ref x :: as.map V.ref) (upd (upd H dx (.own x)) x (.ins (He.ga K "Bed") dx [])) (fun v H2 => v = .non ∧ Q (.ref x) H2) E := by
  intro x dx hx hdx ne
  have hpl := paired_len hp
  have s1 : Same H (upd H dx (.own x)) := up_same hdx
  have hx1 : (upd H dx (.own x)) x = none := by rw [upd_ne ne.symm]; exact hx
  have s2 : Same H (upd (upd H dx (.own x)) x (.ins (He.ga K "Bed") dx [])) := s1.trans (up_same hx1)
  refine ⟨[.ref x], as.map V.ref, rfl, rfl, by rw [List.length_map, sizeLine_eq]; omega, fun p hp' => ?_⟩
  have s3 := s2.trans (up_same (o := .tup (as.map V.ref)) hp')
  have nx : x ≠ p := fun z => by rw [← z, upd_same] at hp'; cases hp'
  have sk : ∀ {H' : Hp}, Keep x (upd (upd (upd H dx (.own x)) x (.ins (He.ga K "Bed") dx [])) p (.tup (as.map V.ref))) H' → Same H H' := fun keep b o e => keep b o (fun z => by rw [z, hx] at e; cases e) (s3 _ _ e)
  exact ⟨x, p, dx, as, ps, rfl, by rw [upd_ne nx]; exact upd_same, SqT.of upd_same, Paired.mapP hp fun _ _ z => Same.sqt s3 z, hl, hn, fun he ok hps H' keep bed => ⟨rfl, h he ok hps H' x (sk keep) bed⟩,
    fun e he d H' fs keep hd hf => hE e he d H' fs (sk keep) hd hf⟩
end
end Sy
/-! Bed.read -/
namespace Sy
open PySem PySem.Spec PyProof.Rows L2
def letters (x : Str) : Bool := Txt.isascii x && (Txt.isalpha x && Txt.islower x)
def isDig (c : Nat) : Bool := decide (48 ≤ c) && decide (c ≤ 57)
/-- one piece of a bed's text -/
def pieceR (y : Str) : Option PRow := if letters (Txt.partition y "/").1 = true then
  (match (Txt.partition y "/").2.2.cps.toList with
  | [c] => if isDig c = true then some ((Txt.partition y "/").1, ((c - 48 : Nat) : Int)) else none
  | _ => none) else none
def piecesR : List Str → Option (List PRow)
  | [] => some []
  | y :: ys => match pieceR y with
    | none => none
    | some r => (piecesR ys).map (r :: ·)
def readE (x : Str) : Option Er := match piecesR (Txt.split x " ") with
  | none => some (.text x)
  | some ps => bedE ps
theorem piecesR_fail : ∀ {l : List Str} {y : Str}, y ∈ l → pieceR y = none → piecesR l = none
  | z :: l, y, h, e => by
    rw [piecesR]
    rcases List.mem_cons.mp h with rfl | h
    · rw [e]
    · cases pieceR z with
      | none => rfl
      | some r => rw [piecesR_fail h e]; rfl
theorem piecesR_take : ∀ {l : List Str} {ps : List PRow} {i : Nat} {y : Str} {r : PRow}, piecesR (l.take i) = some ps → l[i]? = some y → pieceR y = some r → piecesR (l.take (i + 1)) = some (ps ++ [r])
  | z :: l, ps, 0, y, r, h, e, g => by
    simp only [List.take_zero, piecesR, Option.some.injEq] at h
    simp only [List.getElem?_cons_zero, Option.some.injEq] at e
    subst h e
    simp [piecesR, g]
  | z :: l, ps, i + 1, y, r, h, e, g => by
    simp only [List.take_succ_cons, piecesR] at h ⊢
    simp only [List.getElem?_cons_succ] at e
    cases hz : pieceR z with
    | none => rw [hz] at h; cases h
    | some q =>
      rw [hz] at h
      simp only at h ⊢
      cases hl : piecesR (l.take i) with
      | none => rw [hl] at h; cases h
      | some qs =>
        rw [hl] at h
        simp only [Option.map_some, Option.some.injEq] at h
        subst h
        rw [piecesR_take hl e g]
        rfl
  | [], ps, i, y, r, h, e, g => by simp at e
theorem pieceR_name {y : Str} {r : PRow} (h : pieceR y = some r) : r.1 = (Txt.partition y "/").1 := by
  unfold pieceR at h
  split at h
  · split at h
    · split at h
      · cases h; rfl
      · cases h
    · cases h
  · cases h
theorem dig_int : ∀ n, n < 10 → PySem.intText? ⟨#[48 + n]⟩ = some (n : Int) := by decide +kernel
theorem dig_mem (c : Nat) : c ∈ ("0123456789" : Str).cps.toList ↔ isDig c = true := by
  have e : ("0123456789" : Str).cps.toList = [48, 49, 50, 51, 52, 53, 54, 55, 56, 57] := by decide +kernel
  rw [e]
  unfold isDig
  simp only [List.mem_cons, List.not_mem_nil, or_false, Bool.and_eq_true, decide_eq_true_eq]
  omega
theorem part_le (y z : Str) : (Txt.partition y z).1.length ≤ y.length := (fact_partition y z).1
theorem str_one {x : Str} (h : (x.length : Int) = 1) : ∃ c, x = ⟨#[c]⟩ := by
  obtain ⟨⟨l⟩⟩ := x
  have h : l.length = 1 := by
    have h : ((⟨l⟩ : Array Nat).size : Int) = 1 := h
    have : (l.length : Int) = 1 := by simpa using h
    omega
  match l, h with
  | [c], _ => exact ⟨c, rfl⟩
theorem paired_app {α β : Type} {R : α → β → Prop} : ∀ {xs xs' : List α} {ys ys' : List β}, Paired R xs ys → Paired R xs' ys' → Paired R (xs ++ xs') (ys ++ ys')
  | _, _, _, _, .nil, b => b
  | _, _, _, _, .cons a t, b => .cons a (paired_app t b)
structure TxtW (mg : Str → Option Value) : Prop where
  hole : ∃ t, mg "HOLE" = some (.str "*" t)
  digits : ∃ t, mg "DIGITS" = some (.str "0123456789" t)
  str : mg "str" = none
section
variable {P : Program} {w : World} {K : PySem.W.Frag} {mg : Str → Option Value} {base : Heap}
abbrev SgX (x : Str) : Prop := ∀ c ∈ x.cps.toList, c < 16 ^ 8
def spRead (K : PySem.W.Frag) : Sp := fun vs H Q E => ∃ x : Str, vs = [.ref (He.ga K "Bed"), .str x] ∧ x.length ≤ 10000 ∧ SgX x ∧
  (∀ ps, piecesR (Txt.split x " ") = some ps → bedE ps = none → RowsOk (ps.map toR) → ps = (ps.map toR).map ofR → ∀ H' a, Same H H' → BedAt K H' a (ps.map toR) → Q (.ref a) H') ∧ (∀ e, readE x = some e → RaE K e H E)
abbrev rdA (K : PySem.W.Frag) : Addr := He5.wf K (He.ga K "Bed") "classmethod" "read"
abbrev N_read : List Str := ["cls", "text", "pairs", "piece", "name", "_", "digit"]
theorem sc_read : FnScope N_read ["cls", "text"] (defScope (clb 28 1)) := ⟨rfl, rfl, rfl, by decide +kernel, rfl, by decide +kernel, by decide +kernel⟩
theorem sum_mem {n : Nat} : ∀ {l : List Nat}, n ∈ l → n ≤ l.sum
  | m :: l, h => by
    rw [List.sum_cons]
    rcases List.mem_cons.mp h with rfl | h
    · omega
    · have := sum_mem h
      omega
theorem piece_le {x z y : Str} (hz : 1 ≤ z.length) (h : y ∈ Txt.split x z) : y.length ≤ x.length := by
  have w := split_weight x z hz
  have m := sum_mem (List.mem_map_of_mem (f := (·.length)) h)
  have : 1 ≤ (Txt.split x z).length := List.length_pos_of_mem h
  omega
theorem f_read (T : Txt K mg) (TS : TxtW mg) (R : Ers P K mg) (M : BedM P w K mg base) (F : ∃ fd, FunD K "read" "Bed.read" (defArgs (clb 28 1)) (defBody (clb 28 1)) (defScope (clb 28 1)) [] [] (rdA K) fd) (c_only_letters : Cal P w K mg base 1 "only_letters" ["text"] spLetters) :
    ∃ fd, FnOk P w K mg base (L2.CX P w) 6 (rdA K) fd ["cls", "text"] (spRead K) ∧ Binds K fd ["cls", "text"] [] := by
  obtain ⟨fd, F⟩ := F
  refine ⟨fd, F.ok sc_read (fun vs H Q E s => by obtain ⟨_, rfl, _⟩ := s; rfl) ?_, F.bindsN fun _ _ _ _ _ _ us e => match us, e with | [_, _], _ => rfl⟩
  intro cdv A outer s H vs Q E hr h
  obtain ⟨x, rfl, hx, hsg, hq, hE⟩ := h
  have sc := sc_read
  refine ⟨_, (pss_cons (ps_set (i := 2) sc.nd rfl (Or.inl rfl) (pe_lst pa_nil))
      (pss_cons (ps_for (passes_of rfl) rfl (pi_list (pe_split (pv 1) pe_str)) (pg_name (i := 3) sc.nd rfl (Or.inl rfl))
        (pss_cons (ps_asg (pe_partition (pv 3) pe_str) (pg_tup rfl (pgs_cons (pg_name (i := 4) sc.nd rfl (Or.inl rfl)) (pgs_cons (pg_name (i := 5) sc.nd rfl (Or.inl rfl)) (pgs_cons (pg_name (i := 6) sc.nd rfl (Or.inl rfl)) pgs_nil)))))
        (pss_cons (ps_if (pt_not (pt_val (pe_cal c_only_letters hr (pa_cons (pv 4) pa_nil))))
          (pss_one (ps_raise rfl (takes_of rfl rfl rfl rfl) (mk_it R.it hr rfl (pa_cons (pv 1) pa_nil) pass0)))
          pss_nil)
        (pss_cons (ps_if (PW.pt (pw_or (pt_cmpR op_ne (pe_callB call_len_str (by rfl) T.len (by decide +kernel) (pa_cons (pv 6) pa_nil)) pe_int (nomark _)) (pw_or1 (pt_cmpR op_notIn_sign (pv 6) (pe_gstr rfl TS.digits) rfl))))
          (pss_one (ps_raise rfl (takes_of rfl rfl rfl rfl) (mk_it R.it hr rfl (pa_cons (pv 1) pa_nil) pass0)))
          pss_nil)
        (pss_one (ps_expr (pe_bm PySem.F.plainAttrs_list PySem.F.slot_list_append PySem.F.type_list_append mt_append (pv 2) (pa_cons (pe_tup (pa_cons (pv 4) (pa_cons (pe_callTy call_int_str (by rfl) T.int (by decide +kernel) (pa_cons (pv 6) pa_nil)) pa_nil))) pa_nil))))))))
      (pss_one (ps_ret (pe_clsS (i := 0) M hr rfl (.inl rfl) (takes_of rfl rfl rfl rfl) (pv 2)))))), ?_⟩
  have lr := split_le x " "
  refine ⟨by decide, fun PD hPD => ?_⟩
  have h1 := (Hs.start H).new (o := .lst []) hPD
  refine ⟨_, rfl, ⟨_, rfl⟩, x, " ", rfl, rfl, by decide, by rw [sizeLine_eq]; omega, fun S hS => ?_⟩
  have hpc : ∀ y ∈ Txt.split x " ", y.length ≤ x.length := fun y hy => piece_le (by decide) hy
  have rE : piecesR (Txt.split x " ") = none → readE x = some (.text x) := fun z => by unfold readE; rw [z]
  have rS : ∀ ps, piecesR (Txt.split x " ") = some ps → readE x = bedE ps := fun ps z => by unfold readE; rw [z]
  generalize Txt.split x " " = l at *
  have h2 := h1.new (o := .lst (l.map V.str)) hS
  refine ⟨S, rfl, ⟨_, SqL.of h2.r0⟩, for_list (K := K) (a := S) (xs := l.map V.str) (fun i σ H' => ∃ (t3 t4 t5 t6 : Option V) (B : Hp) (as : List Addr) (ps : List PRow), σ = [some (.ref (He.ga K "Bed")), some (.str x), some (.ref PD), t3, t4, t5, t6] ∧ Same H B ∧ Hs B [(S, .lst (l.map V.str)), (PD, .lst (as.map V.ref))] H' ∧ as.length = i ∧ (∀ r ∈ ps, r.1.length ≤ x.length) ∧ piecesR (l.take i) = some ps ∧ Paired (fun q (r : PRow) => SqT K B q [.str r.1, .int r.2]) as ps)
    ⟨none, none, none, none, H, [], [], rfl, Same.refl H, h2, rfl, fun _ z => (nomatch z), rfl, .nil⟩ (fun _ _ _ _ ⟨_, _, _, _, _, _, _, _, _, h, _⟩ => SqL.of h.r0) ?_ ?_⟩
  · rintro i v σ H1 hv ⟨t3, t4, t5, t6, B, as, ps, rfl, sB, hh, hal, hpl, hps, hpr⟩
    obtain ⟨y, hy, rfl⟩ := map_at hv
    have hi : i < l.length := (List.getElem?_eq_some_iff.mp hy).1
    have ym := List.mem_of_getElem? hy
    have yl := hpc y ym
    have bad : pieceR y = none → ∀ {H' : Hp}, Same H H' → RaE K (.text x) H' E := fun z H' s => (hE _ (rE (piecesR_fail ym z))).mono s
    refine ⟨_, rfl, ⟨_, rfl⟩, y, "/", rfl, rfl, by decide, by rw [sizeLine_eq]; omega, fun T1 hT1 => ?_⟩
    have pl := part_le y "/"
    have pl2 : (Txt.partition y "/").2.2.length ≤ y.length := (fact_partition y "/").2.2
    have e1 : pieceR y = if letters (Txt.partition y "/").1 = true then (match (Txt.partition y "/").2.2.cps.toList with
      | [c] => if isDig c = true then some ((Txt.partition y "/").1, ((c - 48 : Nat) : Int)) else none
      | _ => none) else none := rfl
    generalize (Txt.partition y "/").1 = nm at *
    generalize (Txt.partition y "/").2.1 = sl at *
    generalize (Txt.partition y "/").2.2 = dg at *
    refine ⟨T1, _, rfl, SqT.of upd_same, rfl, _, _, rfl, _, _, rfl, _, _, rfl, rfl, ?_⟩
    have g1 := hh.lay (o := .tup [.str nm, .str sl, .str dg]) hT1
    have sH := sB.trans g1.sub
    refine ⟨_, rfl, nm, rfl, ?_⟩
    refine ⟨_, rfl, if_nbool (fun c => ?_) (fun c => ?_)⟩
    · exact ⟨_, rfl, mk_ra (fun _ _ => ⟨x, rfl, ⟨by omega, hsg⟩, rfl⟩) (by show 1 ≤ 1000; decide) ((bad (by rw [e1]; unfold letters; rw [c]; rfl) sH).ra (.cons (.str _) .nil))⟩
    have c0 : letters nm = true := c
    refine ⟨_, rfl, dg, rfl, by rw [sizeLine_eq]; omega, rfl, _, rfl, ?_⟩
    show if (!decide _) = true then _ else _
    refine if_ndec (fun c1 => ?_) (fun c1 => ?_)
    · refine ⟨_, rfl, mk_ra (fun _ _ => ⟨x, rfl, ⟨by omega, hsg⟩, rfl⟩) (by show 1 ≤ 1000; decide) ((bad ?_ sH).ra (.cons (.str _) .nil))⟩
      rw [e1, if_pos c0]
      split
      · rename_i c hc
        exact absurd (by rw [TL.len_tl dg]; show V.int (((dg.cps.toList).length : Nat) : Int) = _; rw [hc]; rfl) c1
      · rfl
    obtain ⟨c, rfl⟩ := str_one (V.int.inj c1)
    have e2 : (⟨#[c]⟩ : Str).cps.toList = [c] := rfl
    rw [if_pos c0, e2] at e1
    simp only at e1
    refine ⟨_, rfl, c, "0123456789", rfl, rfl, _, rfl, ?_⟩
    by_cases hd : isDig c = true
    · rw [if_pos hd] at e1
      rw [decide_eq_true ((dig_mem c).mpr hd)]
      have hdd : 48 ≤ c ∧ c ≤ 57 := by
        unfold isDig at hd
        simpa using hd
      have hin : PySem.intText? ⟨#[c]⟩ = some ((c - 48 : Nat) : Int) := by
        have := dig_int (c - 48) (by omega)
        rw [show 48 + (c - 48) = c by omega] at this
        exact this
      refine iteF ?_
      refine ⟨_, rfl, .inl ⟨rfl, _, SqL.of g1.r1⟩, _, rfl, _, rfl, _, _, rfl, hin, (by show 1 ≤ 640; decide), (by show 2 ≤ sizeLine; decide), fun T2 hT2 => ?_⟩
      have g2 := g1.tup (o := .tup [.str nm, .int ((c - 48 : Nat) : Int)]) hT2
      have sB2 : Same B (upd B T2 (.tup [.str nm, .int ((c - 48 : Nat) : Int)])) := up_same (g1.sub.free hT2)
      refine ⟨PD, _, _, rfl, rfl, g2.r1, by rw [List.length_map, hal, sizeLine_eq]; omega, ?_⟩
      refine ⟨_, _, _, _, _, as ++ [T2], ps ++ [(nm, ((c - 48 : Nat) : Int))], rfl, sB.trans sB2, ?_, by rw [List.length_append, hal]; rfl, fun r hr' => ?_, piecesR_take hps hy e1, ?_⟩
      · rw [List.map_append]
        exact g2.w1
      · rcases List.mem_append.mp hr' with hr' | hr'
        · exact hpl r hr'
        · rw [List.mem_singleton.mp hr']
          exact Nat.le_trans pl yl
      · exact paired_app (Paired.mapP hpr fun _ _ z => Same.sqt sB2 z) (.cons (SqT.of upd_same) .nil)
    · have hd : isDig c = false := by simpa using hd
      rw [hd] at e1
      have : decide (c ∈ ("0123456789" : Str).cps.toList) = false := decide_eq_false fun z => by rw [(dig_mem c).mp z] at hd; cases hd
      rw [this]
      exact iteT ⟨_, rfl, mk_ra (fun _ _ => ⟨x, rfl, ⟨by omega, hsg⟩, rfl⟩) (by show 1 ≤ 1000; decide) ((bad e1 sH).ra (.cons (.str _) .nil))⟩
  · rintro σ H1 ⟨t3, t4, t5, t6, B, as, ps, rfl, sB, hh, hal, hpl, hps, hpr⟩
    rw [List.length_map, List.take_length] at hps
    rw [List.length_map] at hal
    have sH := sB.trans hh.sub
    have hpp := paired_len hpr
    refine ⟨rfl, _, rfl, PD, _, rfl, .inr (SqL.of hh.r1), bed_ofX (Paired.mapP hpr fun _ _ z => Same.sqt hh.sub z) (by omega) (fun r hr' => Nat.le_trans (hpl r hr') (by omega)) (fun he ok hr' H' a s b => hq ps hps he ok hr' H' a (sH.trans s) b) (fun e he => (hE e (by rw [rS ps hps]; exact he)).mono sH)⟩
end
end Sy
/-! the other methods of Bed -/
namespace Sy
open PySem PySem.Spec PyProof.Rows L2
def RowD (r : Sy.Row) : PyData := .tuple [.str r.1, .int (r.2 : Nat)]
def RowsD (rows : List Sy.Row) : PyData := .tuple (rows.map RowD)
theorem eqv_RowD (x y : Sy.Row) : PyData.eqv (RowD x) (RowD y) = decide (x = y) := by
  obtain ⟨a, n⟩ := x
  obtain ⟨b, m⟩ := y
  unfold RowD
  simp only [PyData.eqv, PyData.eqvAll, Bool.and_true]
  by_cases h : a = b
  · subst h
    by_cases g : n = m
    · subst g
      simp
    · have : ¬ ((n : Int) = (m : Int)) := by omega
      simp [g, this]
  · have : (a == b) = false := beq_eq_false_iff_ne.mpr h
    simp [h, this]
theorem eqv_rows : ∀ (x y : List Sy.Row), PyData.eqvAll (x.map RowD) (y.map RowD) = decide (x = y)
  | [], [] => rfl
  | [], y :: ys => by simp [PyData.eqvAll]
  | x :: xs, [] => by simp [PyData.eqvAll]
  | x :: xs, y :: ys => by
    rw [List.map_cons, List.map_cons, PyData.eqvAll, eqv_RowD, eqv_rows xs ys]
    by_cases h : x = y
    · subst h
      simp
    · simp [h]
theorem lay_rows {rows : List Sy.Row} (h : ∀ r ∈ rows, PyData.strOk r.1 = true) : PyData.canLayAll0 (rows.map RowD) = true ∧ PyData.depthAll (rows.map RowD) ≤ 3 := by
  induction rows with
  | nil => exact ⟨rfl, Nat.zero_le _⟩
  | cons x l ih =>
    have ih := ih fun y hy => h y (List.mem_cons_of_mem _ hy)
    have hx := h x List.mem_cons_self
    rw [List.map_cons]
    unfold RowD at ih ⊢
    simp only [PyData.canLayAll0, PyData.depthAll, PyData.canLay0, PyData.depth, hx, Bool.true_and]
    exact ⟨ih.1, by omega⟩
theorem lay_RowsD {rows : List Sy.Row} (h : ∀ r ∈ rows, PyData.strOk r.1 = true) : SeqAt.shaped (RowsD rows) = true := by
  have := lay_rows h
  unfold SeqAt.shaped RowsD
  simp only [PyData.canLay0, PyData.depth]
  rw [this.1, Bool.true_and]
  exact decide_eq_true (by omega)
theorem Im.rowsD {K : PySem.W.Frag} {H : Hp} : ∀ {ps : List Addr} {rows : List Sy.Row}, Paired (fun q (r : Sy.Row) => SqT K H q [.str r.1, .int (r.2 : Nat)]) ps rows → ImA K H (ps.map V.ref) (rows.map RowD)
  | _, _, .nil => .nil
  | _, _, .cons a b => .cons (.tup a (.cons (.str _) (.cons (.int _) .nil))) (Im.rowsD b)
/-- the text of a pair -/
def pcT (r : PRow) : Str := r.1 ++ "/" ++ (toString r.2 : Str)
theorem empty_app (x : Str) : (Str.empty : Str) ++ x = x := TL.ext_tl (by rw [TL.tl_append]; rfl)
section
variable {P : Program} {w : World} {K : PySem.W.Frag} {mg : Str → Option Value} {base : Heap}
def spRank (K : PySem.W.Frag) : Sp := fun vs H Q E => ∃ (a : Addr) (rows : List Sy.Row) (x : Str), vs = [.ref a, .str x] ∧ BedAt K H a rows ∧ WdB x ∧ (∀ n, rk 0 rows x = some n → Q (.int (n : Nat)) H) ∧ (rk 0 rows x = none → RaE K (.kind x) H E)
theorem sc_rank : FnScope ["self", "kind"] ["self", "kind"] (defScope (clb 28 5)) := ⟨rfl, rfl, rfl, by decide +kernel, rfl, by decide +kernel, by decide +kernel⟩
theorem k_rank (T : Txt K mg) (R : Ers P K mg) (F : MB K "rank" "Bed.rank" (clb 28 5)) : CalM P w K mg base 3 "rank" ["self", "kind"] (spRank K) := by
  refine calM_of F sc_rank (fun _ _ _ _ _ _ us e => match us, e with | [_, _], _ => rfl) (fun vs H Q E s => by obtain ⟨_, _, _, rfl, _⟩ := s; rfl) ?_
  intro cdv A outer s H vs Q E hr h
  obtain ⟨a, rows, x, rfl, hb, hx, hq, hE⟩ := h
  have hu := hu_of hr
  obtain ⟨dx, dA, tR, tK, dR, ps, h1, hd, h3, h4, h5, h6⟩ := hb.ex
  refine ⟨_, (pss_cons (ps_if (pt_cmp (pc_dnotin hu (pv 1) (pe_fld (pv 0) rfl)))
        (pss_one (ps_raise rfl (takes_of rfl rfl rfl rfl) (mk_uk R.uk hr rfl (pa_cons (pv 1) pa_nil) pass0)))
        pss_nil)
      (pss_one (ps_ret (pe_dget hu (pe_fld (pv 0) rfl) (pv 1) (fun _ _ => rfl))))), ?_⟩
  refine ⟨_, rfl, _, rfl, a, _, dx, _, _, rfl, h1, T.bed.cl, T.bed.nRk, rfl, dR, _, rfl, DGet.k (k := Sum.inr x) h3, _, rfl, ?_⟩
  cases e : rk 0 rows x with
  | none =>
    have hv : valV (rkKV 0 rows) (Sum.inr x : Key) = none := by rw [valV_rk, e]; rfl
    rw [hv]
    refine iteT ⟨_, rfl, mk_ra (fun _ _ => ⟨x, rfl, hx, rfl⟩) (by show 1 ≤ 1000; decide) ((hE e).ra (.cons (.str _) .nil))⟩
  | some n =>
    have hv : valV (rkKV 0 rows) (Sum.inr x : Key) = some (.int (n : Nat)) := by rw [valV_rk, e]; rfl
    rw [hv]
    refine iteF ⟨_, rfl, a, _, dx, _, _, rfl, h1, T.bed.cl, T.bed.nRk, rfl, _, rfl, dR, .int (n : Nat), rfl, ?_, hq n e⟩
    rw [← hv]
    exact DGet.k (k := Sum.inr x) h3
/-! leaf -/
structure PropL (K : PySem.W.Frag) : Prop where
  pr : PropOf K (He.ga K "Bed") "leaf" (He.ma K (He.ga K "Bed") "leaf") (He5.wf K (He.ga K "Bed") "property" "leaf")
  fn : ∃ fd, FunD K "leaf" "Bed.leaf" (defArgs (clb 28 2)) (defBody (clb 28 2)) (defScope (clb 28 2)) [] [] (He5.wf K (He.ga K "Bed") "property" "leaf") fd
def spLeaf (K : PySem.W.Frag) : Sp := fun vs H Q _ => ∃ (a : Addr) (rows : List Sy.Row) (y : Str), vs = [.ref a] ∧ BedAt K H a rows ∧ rows.length ≤ 1000 ∧ (leafs rows)[0]? = some y ∧ ∀ H', Same H H' → Q (.str y) H'
theorem sc_leaf : FnScope ["self"] ["self"] (defScope (clb 28 2)) := ⟨rfl, rfl, rfl, by decide +kernel, rfl, by decide +kernel, by decide +kernel⟩
theorem f_leaf (T : Txt K mg) (F : PropL K) (c_leaves : CalM P w K mg base 1 "leaves" ["self"] (spLeaves K)) : ∃ fd, FnOk P w K mg base (L2.CX P w) 2 (He5.wf K (He.ga K "Bed") "property" "leaf") fd ["self"] (spLeaf K) ∧ Binds K fd ["self"] [] := by
  obtain ⟨fd, F⟩ := F.fn
  obtain ⟨mL, fL, FL, BL⟩ := c_leaves
  refine ⟨fd, F.ok sc_leaf (fun vs H Q E s => by obtain ⟨_, _, _, rfl, _⟩ := s; rfl) ?_, F.bindsN fun _ _ _ _ _ _ us e => match us, e with | [_], _ => rfl⟩
  intro cdv A outer s H vs Q E hr h
  obtain ⟨a, rows, y, rfl, hb, hl, hy, hq⟩ := h
  obtain ⟨dx, dA, tR, tK, dR, ps, h1, hd, h3, h4, h5, h6⟩ := id hb.ex
  refine ⟨_, (pss_one (ps_ret (pe_ix ix_tup (pe_meth0 (pv 0) T.bed.cl mL FL (hr.mono (by decide)) BL .nil (E := E0) (fun pins σ H s e s' I h => passL pins σ H s e s' I h)) pe_int (fun _ _ => rfl)))), ?_⟩
  refine ⟨_, rfl, a, dx, _, rfl, h1, rfl, a, rows, rfl, hb, hl, fun H' p s' hp => ?_⟩
  refine ⟨p, _, _, _, rfl, rfl, hp, atI_nat (j := 0) (by rw [List.getElem?_map, hy]; rfl), hq H' s'⟩
/-! same -/
def spSameB (K : PySem.W.Frag) : Sp := fun vs H Q _ => ∃ (a b : Addr) (rows rows2 : List Sy.Row), vs = [.ref a, .ref b] ∧ BedAt K H a rows ∧ BedAt K H b rows2 ∧ (∀ r ∈ rows, PyData.strOk r.1 = true) ∧ (∀ r ∈ rows2, PyData.strOk r.1 = true) ∧ Q (.bl (decide (rows = rows2))) H
theorem sc_sameB : FnScope ["self", "other"] ["self", "other"] (defScope (clb 28 6)) := ⟨rfl, rfl, rfl, by decide +kernel, rfl, by decide +kernel, by decide +kernel⟩
theorem k_sameB (T : Txt K mg) (F : MB K "same" "Bed.same" (clb 28 6)) : CalM P w K mg base 1 "same" ["self", "other"] (spSameB K) := by
  refine calM_of F sc_sameB (fun _ _ _ _ _ _ us e => match us, e with | [_, _], _ => rfl) (fun vs H Q E s => by obtain ⟨_, _, _, _, rfl, _⟩ := s; rfl) ?_
  intro cdv A outer s H vs Q E hr h
  obtain ⟨a, b, rows, rows2, rfl, hb, hb2, hs, hs2, hq⟩ := h
  obtain ⟨dx, dA, tR, tK, dR, ps, h1, hd, h3, h4, h5, h6⟩ := hb.ex
  obtain ⟨dx', dA', tR', tK', dR', ps', h1', hd', h3', h4', h5', h6'⟩ := hb2.ex
  refine ⟨_, (pss_one (ps_ret (pe_cmpR (op_eqD hr.units) (pe_fld (pv 0) rfl) (pe_fld (pv 1) rfl) (nomark _)))), ?_⟩
  refine ⟨_, rfl, a, _, dx, _, _, rfl, h1, T.bed.cl, T.bed.nR, rfl, _, rfl, b, _, dx', _, _, rfl, h1', T.bed.cl, T.bed.nR, rfl, RowsD rows, RowsD rows2, (Im.tup h4 (Im.rowsD h6)).dp, (Im.tup h4' (Im.rowsD h6')).dp, lay_RowsD hs, lay_RowsD hs2, ?_⟩
  have : PyData.eqv (RowsD rows) (RowsD rows2) = decide (rows = rows2) := by
    unfold RowsD
    rw [PyData.eqv, eqv_rows]
  rw [this]
  exact hq
/-! written -/
def spWrB (K : PySem.W.Frag) : Sp := fun vs H Q _ => ∃ (a : Addr) (rows : List Sy.Row), vs = [.ref a] ∧ BedAt K H a rows ∧ RowsOk rows ∧ ∀ H', Same H H' → Q (.str (Txt.join " " (rows.map fun r => pcT (ofR r)))) H'
abbrev N_wrB : List Str := ["self", "name", "branches"]
theorem sc_wrB : FnScope N_wrB ["self"] (defScope (clb 28 7)) := ⟨rfl, rfl, rfl, by decide +kernel, rfl, by decide +kernel, by decide +kernel⟩
theorem num_txt {n : Nat} (h : n ≤ 3) : (toString ((n : Nat) : Int) : Str).length ≤ 10 := by
  match n, h with
  | 0, _ => decide +kernel
  | 1, _ => decide +kernel
  | 2, _ => decide +kernel
  | 3, _ => decide +kernel
theorem pcT_len {r : Sy.Row} (h1 : r.1.length ≤ 8) (h2 : r.2 ≤ 3) : (pcT (ofR r)).length ≤ 19 := by
  show (r.1 ++ "/" ++ (toString ((r.2 : Nat) : Int) : Str)).length ≤ 19
  have := num_txt h2
  have e : ("/" : Str).length = 1 := by decide +kernel
  rw [Str.length_append, Str.length_append, e]
  omega
theorem summ_le {m : Nat} : ∀ {ws : List Str}, (∀ x ∈ ws, x.length ≤ m) → (ws.map (·.length)).sum ≤ m * ws.length
  | [], _ => Nat.zero_le _
  | x :: ws, h => by
    have a := h x List.mem_cons_self
    have b := summ_le fun z hz => h z (List.mem_cons_of_mem x hz)
    rw [List.map_cons, List.sum_cons, List.length_cons, Nat.mul_succ]
    omega
theorem k_wrB (T : Txt K mg) (F : MB K "written" "Bed.written" (clb 28 7)) : CalM P w K mg base 1 "written" ["self"] (spWrB K) := by
  refine calM_of F sc_wrB (fun _ _ _ _ _ _ us e => match us, e with | [_], _ => rfl) (fun vs H Q E s => by obtain ⟨_, _, rfl, _⟩ := s; rfl) ?_
  intro cdv A outer s H vs Q E hr h
  obtain ⟨a, rows, rfl, hb, ok, hq⟩ := h
  have sc := sc_wrB
  have hl := ok.le
  obtain ⟨dx, dA, tR, tK, dR, ps, h1, hd, h3, h4, h5, h6⟩ := hb.ex
  have hpl := paired_len h6
  refine ⟨_, (pss_one (ps_ret (pe_join pe_str (pe_lc (own := [("name", 1), ("branches", 2)]) (g := gTup K 2 (gCons (gName 1) (gCons (gName 2) (gNil)))) rfl sc.nd (pi_tup (pe_fld (pv 0) rfl)) (blkOk_by (N := N_wrB) (sc := defScope (clb 28 7)) (by decide +kernel)) (fun _ _ _ _ _ => (pg_tup rfl (pgs_cons (pg_name (i := 1) sc.nd rfl (Or.inl rfl)) (pgs_cons (pg_name (i := 2) sc.nd rfl (Or.inl rfl)) pgs_nil)))) (fun _ _ _ _ _ => pts_nil) (fun _ _ _ _ _ => pe_joined (.cons (pe_fmt (pv 1)) (.cons pe_str (.cons (pe_fmt (pv 2)) .nil)))))))), ?_⟩
  refine ⟨⟨_, rfl⟩, _, rfl, a, _, dx, _, _, rfl, h1, T.bed.cl, T.bed.nR, rfl, tR, rfl, ⟨_, h4⟩, fun D hD => lc_it (te := fun σ H Q => tJs [tFmt (tVar 1), tC (.str "/"), tFmt (tVar 2)] Str.empty σ H fun out H1 => Q (.str out) H1) walk_tup (fun i H' => Hs H [(D, .lst (((rows.take i).map fun r => pcT (ofR r)).map V.str))] H') ((Hs.start H).new hD) (fun _ _ _ p => Same.sqt p.sub h4) ?_ ?_⟩
  · rintro i x H' _ hi hh ⟨rfl, hx⟩
    rw [List.length_map, hpl] at hi
    obtain ⟨r, hr'⟩ : ∃ r, rows[i]? = some r := ⟨_, List.getElem?_eq_getElem hi⟩
    obtain ⟨q, e1, tq⟩ := paired_at h6 hr'
    rw [List.getElem?_map, e1] at hx
    cases hx
    have rm := List.mem_of_getElem? hr'
    have n8 := nx_le _ (ok.nm r rm)
    have b3 := ok.br r rm
    have e0 : ("/" : Str).length = 1 := by decide +kernel
    refine ⟨q, _, rfl, Same.sqt hh.sub tq, rfl, _, _, rfl, _, _, rfl, rfl, rfl, ?_⟩
    simp only [tYes, if_true]
    have nt := num_txt b3
    refine ⟨_, rfl, .inl ⟨r.1, rfl, by rw [sizeLine_eq]; omega, _, rfl, by rw [empty_app, sizeLine_eq]; omega, _, rfl, by rw [empty_app, Str.length_append, e0, sizeLine_eq]; omega, _, rfl, .inr ⟨_, rfl, nat_log (by omega), _, rfl, by rw [empty_app, Str.length_append, Str.length_append, e0, sizeLine_eq]; omega, ?_⟩⟩⟩
    have et : (Str.empty : Str) ++ r.1 ++ "/" ++ (toString ((r.2 : Nat) : Int) : Str) = pcT (ofR r) := by rw [empty_app]; rfl
    refine ⟨_, hh.r0, by rw [List.length_map, List.length_map, List.length_take, sizeLine_eq]; omega, ?_⟩
    have etk : rows.take (i + 1) = rows.take i ++ [r] := by rw [List.take_succ, hr']; rfl
    rw [etk, List.map_append, List.map_append]
    have w := hh.w0 (o' := .lst (((rows.take i).map fun r => pcT (ofR r)).map V.str ++ [.str (Str.empty ++ r.1 ++ "/" ++ (toString ((r.2 : Nat) : Int) : Str))]))
    rw [et] at w
    rw [show (V.str (Str.empty ++ r.1 ++ "/" ++ (toString ((r.2 : Nat) : Int) : Str))) = V.str (pcT (ofR r)) by rw [et]]
    exact w
  · intro H' hh
    rw [List.length_map, hpl, List.take_length] at hh
    refine ⟨_, D, _, rfl, rfl, .inl (SqL.of hh.r0), ?_, hq _ hh.sub⟩
    have := summ_le (m := 19) (ws := rows.map fun r => pcT (ofR r)) fun x hx => by
      obtain ⟨r, hr', rfl⟩ := List.mem_map.mp hx
      exact pcT_len (nx_le _ (ok.nm r hr')) (ok.br r hr')
    rw [List.length_map] at this
    have e0 : (" " : Str).length = 1 := by decide +kernel
    rw [List.length_map, e0]
    omega
end
end Sy
/-! a def that begins with a replace: a token is out when it begins -/
namespace Sy
open PySem PySem.Spec PyProof.Rows L2
section
variable {X : Cx} {o e : Expr} {to te : TE} {T : String} {x : Str} {p pos : Pos} {r : List V → Hp → VK → Prop}
theorem pet_split {apos pos : Pos} (ho : PET X o to) (he : PE X e te) (hs : starEach [e] X.env = [(false, eval e X.env)] := by rfl) (hbase : attributeBase o "split" X.env (eval o X.env) = eval o X.env := by rfl) (hline : (apos.endLine == pos.line) = true := by rfl) :
    PET X (.Call (.Attribute o "split" apos) [e] [] pos) (tM1 (fun x xs H Q => ∃ a b, x = .str a ∧ xs = [.str b] ∧ (b.length == 0) = false ∧ a.length + 2 ≤ sizeLine ∧ rNewStrs (Txt.split a b) H Q) to te) := by
  intro pins s σ H Q h0 I h
  refine PySem.Call_method1 hbase hs hline (thn (ho pins s σ H _ h0 I h) fun v s1 ⟨x, H1, I1, r1, q1⟩ => ?_)
  obtain ⟨⟨a, rfl⟩, q1⟩ := q1
  obtain ⟨t, rfl⟩ := _root_.id r1
  refine ⟨"str", _, F.plainAttrs_str, F.slot_str_split, F.type_str_split, typeIs_str _ _ _, (fun _ e => nomatch e), Calls.callWith_builtin rfl (Calls.evalArgs_plain (Calls.spliced_cons ?_))⟩
  exact thn (he.run pins s1 σ H1 _ I1 q1) fun u s2 ⟨y, H2, I2, r2, q2⟩ => Calls.spliced_nil (mt_split pins s2 σ H2 _ [y] _ [u] Q I2 r1 (.cons r2 .nil) q2)
theorem pet_callTy (hc : CallR X (.type T) r) (hg : Gl X x) (hm : X.mg x = none) (hv : bootBuiltins x = some (.type T)) (he : PET X e te) (hn : x ≠ "__name__" := by decide) (hdb : (x == ("__debug__" : Str)) = false := by decide)
    (hst : starEach [e] X.env = (false, eval e X.env) :: starEach [] X.env := by rfl) (hpl : (backTo pos (starEach [] X.env)).any (·.1) = false := by rfl) : PET X (.Call (.Name x p) [e] [] pos) (tCB r (tCons te tNil)) := by
  intro pins s σ H Q h0 I h
  refine wpAny_Call_Name_kw (ld_blt I hg hm hv ?_ hn hdb)
  exact PyProof.Rows.callWith_type1 (thn (pat_cons he pat_nil hst pos pins s σ H _ h0 I h) fun us s1 ⟨vs, H1, I1, r1, q1⟩ => hc pins s1 σ H1 vs us Q I1 r1 q1) hst hpl
theorem pst_set {i : Nat} {x : Str} {pos' : Pos} (hN : X.N.Nodup) (hi : X.N[i]? = some x) (hx : Loc X.env.scope x) (he : PET X e te) (hs : swapsWith e (some (.Name x pos')) pos.line X.env = pure false := by rfl) (hf : X.fn x = true ∨ X.env.scope.names.lookup x = some .local := by first | exact .inl rfl | exact .inr rfl | assumption) :
    PST X (.Assign [.Name x pos'] e pos) (tAsg te (gName i)) := by
  intro pins s σ H D h0 I h
  refine wpAny_Assign_Name (thn (he pins s σ H _ h0 I h) fun v s1 ⟨y, H1, I1, r1, q1⟩ => ?_) hs
  exact store_ok I1 hN hi hx r1 (fun s2 I2 => ⟨_, H1, I2, q1⟩) hf
end
theorem cal_ofT {P : Program} {w : World} {K : PySem.W.Frag} {mg : Str → Option Value} {base : Heap} {x : Str} {st : Stmt} {N ps : List Str} {k : Nat} {sp : Sp} (F : FD K x st) (hm : mg x = some (.ref (He.ga K x))) (S : FnScope N ps (defScope st)) (hnc : ∀ y ∈ (defScope st).names, y.2 ≠ .cell) (hps : 1 ≤ ps.length)
    (hb : ∀ (kV doc pm : Value) (an : Option Addr) (cdv ct : Value) (us : List Value), us.length = ps.length → bindArgs (PySem.W.fnOf x x (defArgs st) (defBody st) (defScope st) .none kV doc pm an cdv ct) ⟨us, []⟩ = pure (ps.zip us))
    (len : ∀ vs H Q E, sp vs H Q E → vs.length = ps.length)
    (body : ∀ (cdv : Value) (A : Around) (outer : List Env) (s : Shared) (H : Hp) (vs : List V) (Q : VK) (E : XK), Room k (A.deeper (envOfC x (defScope st) s.heap.objs.size (He.ga K x) cdv)) → sp vs H Q E →
      ∃ t, PSsT (cxOf (L2.CX P w) P w K mg base N x (defScope st) (He.ga K x) cdv A outer s H E) (defBody st) t ∧ t { nx := fun _ H' => Q .non H', rt := Q } (start N vs) H) : Cal P w K mg base (k + 1) x ps sp := by
  obtain ⟨fd, F⟩ := F
  refine ⟨⟨fd, ?_, F.bindsN hb⟩, hm, F.kp⟩
  obtain ⟨oc, od, dV, kV, doc, pm, an, cdv, ct, osl, rfl, lk, hcd, _, _⟩ := F.ex
  exact L2.fn_ofT lk hcd S hnc hps len fun A outer s H vs Q E hr hsp => body cdv A outer s H vs Q E hr hsp
end Sy
/-! texts.py and check_stump -/
namespace Sy
open PySem PySem.Spec PyProof.Rows L2
theorem ixN_last (n : Nat) : ixN (n + 1) (-1) = some n := by
  unfold ixN
  rw [if_neg (by omega), if_pos (by omega)]
  congr 1
  omega
theorem atI_last {α : Type} (xs : List α) (y : α) : atI (xs ++ [y]) (-1) = some y := by
  unfold atI
  rw [List.length_append]
  show ((ixN (xs.length + 1) (-1)).bind _) = _
  rw [ixN_last]
  simp
/-! the written form -/
def clJ : List Nat → List Str × List Nat
  | [] => ([], [])
  | n :: st => if n = 1 then ((")" : Str) :: (clJ st).1, (clJ st).2) else ([","], (n - 1) :: st)
def jn (rows : List Sy.Row) : List Nat → List Str → List Str
  | _, [] => []
  | st, y :: l => y :: (if 0 < ar rows y then ("(" : Str) :: jn rows (ar rows y :: st) l else (clJ st).1 ++ jn rows (clJ st).2 l)
def jT (rows : List Sy.Row) (l : List Str) : Str := Txt.join Str.empty (jn rows [] l)
theorem vN_snoc (ms : List Nat) (m : Nat) : vN (ms ++ [m]) = vN ms ++ [.int (m : Nat)] := by rw [vN, vN, List.map_append]; rfl
/-! the row of a text -/
def rowOf (x : Str) : List Str := Txt.split (Txt.replace (Txt.replace x "(" ",") ")" "") ","
def rrE (rows : List Sy.Row) (lv : List Str) (x : Str) : Option Er := if 0 ≤ fa rows lv 1 0 (rowOf x) then some (.text x) else if jT rows (rowOf x) ≠ x then some (.text x) else if 2000 < (rowOf x).length then some (.many "knots" 2000) else none
theorem isK_mem : ∀ {rows : List Sy.Row} {y : Str}, isK rows y = true → ∃ r ∈ rows, r.1 = y
  | [], _, h => by cases h
  | r :: rs, y, h => by
    unfold isK at h
    rw [lookup_cons] at h
    by_cases c : r.1 = y
    · exact ⟨r, List.mem_cons_self, c⟩
    · rw [if_neg c] at h
      obtain ⟨q, hq, e⟩ := isK_mem (rows := rs) (y := y) h
      exact ⟨q, List.mem_cons_of_mem _ hq, e⟩
theorem fa_words {rows : List Sy.Row} {lv : List Str} : ∀ {l : List Str} {m i : Nat}, fa rows lv m i l < 0 → ∀ y ∈ l, isK rows y = true ∨ y ∈ lv
  | [], _, _, _, y, hy => nomatch hy
  | x :: l, m, i, h, y, hy => by
    rw [fa] at h
    split at h
    · omega
    · split at h
      · omega
      · rename_i c
        rcases List.mem_cons.mp hy with rfl | hy
        · by_cases k : isK rows y = true
          · exact .inl k
          · exact .inr (Classical.byContradiction fun z => c ⟨by simpa using k, z⟩)
        · exact fa_words h y hy
section
variable {P : Program} {w : World} {K : PySem.W.Frag} {mg : Str → Option Value} {base : Heap}
/-! check_stump, of stumps -/
def spStumpOk (K : PySem.W.Frag) : Sp := fun vs H Q _ => ∃ a r rows l, vs = [.ref a, .ref r] ∧ BedAt K H a rows ∧ SqT K H r (l.map V.str) ∧ l.length ≤ 2000 ∧ fa rows ["*"] 1 0 l < 0 ∧ ∀ H', Same H H' → Q .non H'
abbrev N_checkS : List Str := ["bed", "stump", "place"]
theorem sc_checkS : FnScope N_checkS ["bed", "stump"] (defScope (top 16)) := ⟨rfl, rfl, rfl, by decide +kernel, rfl, by decide +kernel, by decide +kernel⟩
theorem k_checkS (T : Txt K mg) (TS : TxtW mg) (F : DF K mg "check_stump" 16) (c_check_count : Cal P w K mg base 3 "check_count" ["number"] (spCount K)) (c_fault_among : Cal P w K mg base 2 "fault_among" ["bed", "row", "leaves"] (spFault K)) : Cal P w K mg base 4 "check_stump" ["bed", "stump"] (spStumpOk K) := by
  refine cal_of F.1 F.2 sc_checkS (fun _ _ _ _ _ _ us e => match us, e with | [_, _], _ => rfl) (fun vs H Q E s => by obtain ⟨_, _, _, _, rfl, _⟩ := s; rfl) ?_
  intro cdv A outer s H vs Q E hr h
  obtain ⟨a, r, rows, l, rfl, hb, hR, hle, hfa, hq⟩ := h
  have sc := sc_checkS
  refine ⟨_, (pss_cons (ps_expr (pe_calX c_check_count hr (takes_of rfl rfl rfl rfl) (pa_cons (pe_callB call_len_seq (by rfl) T.len (by decide +kernel) (pa_cons (pv 1) pa_nil)) pa_nil)))
      (pss_cons (ps_set (i := 2) sc.nd rfl (Or.inl rfl) (pe_cal c_fault_among hr (pa_cons (pv 0) (pa_cons (pv 1) (pa_cons (pe_tup (pa_cons (pe_gstr rfl TS.hole) pa_nil)) pa_nil)))))
      (pss_one (ps_if (pt_cmpR op_ge (pv 2) pe_int (nomark _))
        (pss_one ps_never)
        pss_nil)))), ?_⟩
  refine ⟨_, rfl, r, _, rfl, .inr hR, _, rfl, fun c => ?_, fun c => ?_⟩
  · refine ⟨_, rfl, _, rfl, by decide, fun t ht => ?_⟩
    have s1 := up_same (o := .tup [.str "*"]) ht
    refine ⟨a, r, t, rows, l, ["*"], rfl, hb.mono (Stay.of s1), Same.sqt s1 hR, SqT.of upd_same, fun H' s2 => ?_⟩
    refine ⟨_, rfl, _, _, rfl, rfl, _, rfl, if_dec (fun c2 => ?_) (fun c2 => hq _ (s1.trans s2))⟩
    have c2 : 0 ≤ fa rows ["*"] 1 0 l := c2
    omega
  · rw [List.length_map] at c
    omega
/-! joined_text -/
def spJoin (K : PySem.W.Frag) : Sp := fun vs H Q E => ∃ (a r : Addr) (rows : List Sy.Row) (l : List Str), vs = [.ref a, .ref r] ∧ BedAt K H a rows ∧ SqT K H r (l.map V.str) ∧ l.length ≤ 50000 ∧ (∀ x ∈ l, x.length ≤ 100) ∧ ∀ H', Same H H' → Q (.str (jT rows l)) H'
abbrev N_join : List Str := ["bed", "row", "pieces", "missing", "entry", "below"]
theorem sc_join : FnScope N_join ["bed", "row"] (defScope (top 22)) := ⟨rfl, rfl, rfl, by decide +kernel, rfl, by decide +kernel, by decide +kernel⟩
theorem k_join (T : Txt K mg) (F : DF K mg "joined_text" 22) (c_arity : Cal P w K mg base 1 "arity" ["bed", "entry"] (spArity K)) : Cal P w K mg base 2 "joined_text" ["bed", "row"] (spJoin K) := by
  refine cal_of F.1 F.2 sc_join (fun _ _ _ _ _ _ us e => match us, e with | [_, _], _ => rfl) (fun vs H Q E s => by obtain ⟨_, _, _, _, rfl, _⟩ := s; rfl) ?_
  intro cdv A outer s H vs Q E hr h
  obtain ⟨a, r, rows, l, rfl, hb, hR, hl, hx, hq⟩ := h
  have sc := sc_join
  refine ⟨_, (pss_cons (ps_set (i := 2) sc.nd rfl (Or.inl rfl) (pe_lst pa_nil))
      (pss_cons (ps_set (i := 3) sc.nd rfl (Or.inl rfl) (pe_lst pa_nil))
      (pss_cons (ps_for (passes_of rfl) rfl (pi_tup (pv 1)) (pg_name (i := 4) sc.nd rfl (Or.inl rfl))
        (pss_cons (ps_expr (pe_bm PySem.F.plainAttrs_list PySem.F.slot_list_append PySem.F.type_list_append mt_append (pv 2) (pa_cons (pv 4) pa_nil)))
        (pss_cons (ps_set (i := 5) sc.nd rfl (Or.inl rfl) (pe_cal c_arity hr (pa_cons (pv 0) (pa_cons (pv 4) pa_nil))))
        (pss_cons (ps_if (pt_cmpR op_gt (pv 5) pe_int (nomark _))
          (pss_cons (ps_expr (pe_bm PySem.F.plainAttrs_list PySem.F.slot_list_append PySem.F.type_list_append mt_append (pv 2) (pa_cons pe_str pa_nil)))
          (pss_cons (ps_expr (pe_bm PySem.F.plainAttrs_list PySem.F.slot_list_append PySem.F.type_list_append mt_append (pv 3) (pa_cons (pv 5) pa_nil)))
          (pss_one ps_continue)))
          pss_nil)
        (pss_cons (ps_while (passes_of rfl) (PW.pt (pw_and (pt_truth (pv 3) (by intro _; rfl)) (pw_and1 (pt_cmpR op_eq (pe_ix ix_list (pv 3) (pe_un un_neg pe_int) (fun _ _ => rfl)) pe_int (nomark _)))))
          (pss_cons (ps_expr (pe_bm PySem.F.plainAttrs_list PySem.F.slot_list_append PySem.F.type_list_append mt_append (pv 2) (pa_cons pe_str pa_nil)))
          (pss_one (ps_expr (pe_bm0 PySem.F.plainAttrs_list PySem.F.slot_list_pop PySem.F.type_list_pop mt_pop (pv 3))))))
        (pss_one (ps_if (pt_truth (pv 3) (by intro _; rfl))
          (pss_cons (ps_expr (pe_bm PySem.F.plainAttrs_list PySem.F.slot_list_append PySem.F.type_list_append mt_append (pv 2) (pa_cons pe_str pa_nil)))
          (pss_one (ps_asg (pe_op op_sub (pe_ix ix_list (pv 3) (pe_un un_neg pe_int) (fun _ _ => rfl)) pe_int) (pg_sub (pv 3) (pe_un un_neg pe_int) set_list))))
          pss_nil)))))))
      (pss_one (ps_ret (pe_join pe_str (pv 2))))))), ?_⟩
  refine ⟨by decide, fun PD hPD => ?_⟩
  have h1 := (Hs.start H).new (o := .lst []) hPD
  refine ⟨by decide, fun MD hMD => ?_⟩
  have h2 := (h1.new (o := .lst []) hMD).swap
  refine ⟨_, rfl, r, rfl, ⟨_, Same.sqt h2.sub hR⟩, for_tup (K := K) (a := r) (xs := l.map V.str) (fun i σ H' => ∃ (t4 t5 : Option V) (B : Hp) (ws : List Str) (st : List Nat), σ = [some (.ref a), some (.ref r), some (.ref PD), some (.ref MD), t4, t5] ∧ Same H B ∧ Hs B [(PD, .lst (ws.map V.str)), (MD, .lst (vN st.reverse))] H' ∧ (∀ x ∈ ws, x.length ≤ 100) ∧ ws.length + st.length ≤ 3 * i ∧ ws ++ jn rows st (l.drop i) = jn rows [] l ∧ ∀ n ∈ st, 1 ≤ n)
    ⟨none, none, H, [], [], rfl, Same.refl H, h2, fun _ z => (nomatch z), Nat.le_refl _, rfl, fun _ z => (nomatch z)⟩ (fun _ _ _ _ ⟨_, _, _, _, _, _, s, h, _⟩ => Same.sqt (s.trans h.sub) hR) ?_ ?_⟩
  · rintro i v σ H1 hv ⟨t4, t5, B, ws, st, rfl, sB, hh, hw, hlen, hj, hst⟩
    obtain ⟨y, hy, rfl⟩ := map_at hv
    have hi : i < l.length := (List.getElem?_eq_some_iff.mp hy).1
    have ym := List.mem_of_getElem? hy
    rw [drop_of hy, jn] at hj
    have big : ∀ n : Nat, n ≤ 3 * i + 3 → n + 1 ≤ sizeLine := fun n hn => by rw [sizeLine_eq]; omega
    refine ⟨_, rfl, .inl ⟨rfl, _, SqL.of hh.r0⟩, _, rfl, PD, _, _, rfl, rfl, hh.r0, by rw [List.length_map]; exact big _ (by omega), ?_⟩
    have g1 := hh.w0 (o' := .lst (ws.map V.str ++ [.str y]))
    have e1 : ws.map V.str ++ [.str y] = (ws ++ [y]).map V.str := by rw [List.map_append]; rfl
    rw [e1] at g1 ⊢
    have hw1 : ∀ x ∈ ws ++ [y], x.length ≤ 100 := fun x hm => by
      rcases List.mem_append.mp hm with hm | hm
      · exact hw x hm
      · rw [List.mem_singleton.mp hm]; exact hx y ym
    have hlen1 : (ws ++ [y]).length = ws.length + 1 := by simp
    have hj : (ws ++ [y]) ++ (if 0 < ar rows y then ("(" : Str) :: jn rows (ar rows y :: st) (l.drop (i + 1)) else (clJ st).1 ++ jn rows (clJ st).2 (l.drop (i + 1))) = jn rows [] l := by rw [List.append_assoc]; exact hj
    generalize ws ++ [y] = ws1 at *
    refine ⟨_, rfl, _, rfl, a, rows, y, rfl, hb.mono (Stay.of (sB.trans g1.sub)), ?_⟩
    refine ⟨_, rfl, _, _, rfl, rfl, _, rfl, if_dec (fun c => ?_) (fun c => ?_)⟩
    · have c : 0 < ar rows y := by have c : (0 : Int) < ((ar rows y : Nat) : Int) := c; omega
      rw [if_pos c] at hj
      refine ⟨_, rfl, .inl ⟨rfl, _, SqL.of g1.r0⟩, PD, _, _, rfl, rfl, g1.r0, by rw [List.length_map]; exact big _ (by omega), ?_⟩
      have g2 := g1.w0 (o' := .lst (ws1.map V.str ++ [.str "("]))
      have e2 : ws1.map V.str ++ [.str "("] = (ws1 ++ [("(" : Str)]).map V.str := by rw [List.map_append]; rfl
      rw [e2] at g2 ⊢
      refine ⟨_, rfl, .inl ⟨rfl, _, SqL.of g2.r1⟩, _, rfl, MD, _, _, rfl, rfl, g2.r1, by rw [vN, List.length_map, List.length_reverse]; exact big _ (by omega), ?_⟩
      refine ⟨_, _, B, ws1 ++ [("(" : Str)], ar rows y :: st, rfl, sB, ?_, fun x hm => ?_, ?_, by rw [List.append_assoc]; exact hj, fun n hn => ?_⟩
      · rw [List.reverse_cons, vN_snoc]
        exact g2.w1
      · rcases List.mem_append.mp hm with hm | hm
        · exact hw1 x hm
        · rw [List.mem_singleton.mp hm]; decide
      · rw [List.length_append, List.length_cons]
        show ws1.length + 1 + (st.length + 1) ≤ _
        omega
      · rcases List.mem_cons.mp hn with rfl | hn
        · exact c
        · exact hst n hn
    · have c : ¬ 0 < ar rows y := fun z => c (by show (0 : Int) < ((ar rows y : Nat) : Int); omega)
      rw [if_neg c] at hj
      refine ⟨fun m σ H' => ∃ (ws : List Str) (st : List Nat), m = st.length ∧ σ = [some (.ref a), some (.ref r), some (.ref PD), some (.ref MD), some (.str y), some (.int (ar rows y : Nat))] ∧ Hs B [(PD, .lst (ws.map V.str)), (MD, .lst (vN st.reverse))] H' ∧ (∀ x ∈ ws, x.length ≤ 100) ∧ ws.length + st.length ≤ 3 * i + 1 ∧ ws ++ ((clJ st).1 ++ jn rows (clJ st).2 (l.drop (i + 1))) = jn rows [] l ∧ ∀ n ∈ st, 1 ≤ n, ⟨_, ws1, st, rfl, rfl, g1, hw1, by omega, hj, hst⟩, ?_⟩
      clear hj hst hlen hw hh g1 hw1 hlen1 e1
      rintro m σ H2 ⟨ws, st, rfl, rfl, g, hw, hlen, hj, hst⟩
      cases st with
      | nil =>
        refine ⟨_, rfl, _, .inl ⟨_, SqL.of g.r1, rfl⟩, iteF ?_⟩
        refine ⟨_, rfl, _, .inl ⟨_, SqL.of g.r1, rfl⟩, iteF ?_⟩
        exact ⟨_, _, B, ws, [], rfl, sB, g, hw, by omega, hj, hst⟩
      | cons z ini =>
        have hz := hst z List.mem_cons_self
        have em : vN (z :: ini).reverse = vN ini.reverse ++ [.int (z : Nat)] := by rw [List.reverse_cons, vN_snoc]
        have tr : (vN (z :: ini).reverse).isEmpty = false := by rw [em]; simp
        have la : atI (vN (z :: ini).reverse) (-1) = some (.int (z : Nat)) := by rw [em]; exact atI_last _ _
        have hlm : (z :: ini).length = ini.length + 1 := rfl
        have hln : (vN ini.reverse).length = ini.length := by rw [vN, List.length_map, List.length_reverse]
        have tt : (!(vN (z :: ini).reverse).isEmpty) = true := by rw [tr]; rfl
        rw [clJ] at hj
        refine ⟨_, rfl, _, .inl ⟨_, SqL.of g.r1, rfl⟩, ?_⟩
        rw [tt]
        refine iteT ⟨_, rfl, _, rfl, MD, _, _, _, rfl, rfl, SqL.of g.r1, la, rfl, _, rfl, if_dec (fun c2 => ?_) (fun c2 => ?_)⟩
        · have c2 : z = 1 := by have := V.int.inj c2; omega
          rw [if_pos c2] at hj
          refine ⟨fun σ' H' => ∃ m', m' < (z :: ini).length ∧ ∃ (ws : List Str) (st : List Nat), m' = st.length ∧ σ' = [some (.ref a), some (.ref r), some (.ref PD), some (.ref MD), some (.str y), some (.int (ar rows y : Nat))] ∧ Hs B [(PD, .lst (ws.map V.str)), (MD, .lst (vN st.reverse))] H' ∧ (∀ x ∈ ws, x.length ≤ 100) ∧ ws.length + st.length ≤ 3 * i + 1 ∧ ws ++ ((clJ st).1 ++ jn rows (clJ st).2 (l.drop (i + 1))) = jn rows [] l ∧ ∀ n ∈ st, 1 ≤ n, fun _ _ z => z, ?_⟩
          refine ⟨_, rfl, .inl ⟨rfl, _, SqL.of g.r0⟩, PD, _, _, rfl, rfl, g.r0, by rw [List.length_map]; exact big _ (by omega), ?_⟩
          have g2 := g.w0 (o' := .lst (ws.map V.str ++ [.str ")"]))
          have e2 : ws.map V.str ++ [.str ")"] = (ws ++ [(")" : Str)]).map V.str := by rw [List.map_append]; rfl
          rw [e2] at g2 ⊢
          refine ⟨_, rfl, .inl ⟨rfl, _, SqL.of g2.r1⟩, MD, _, .int (z : Nat), rfl, rfl, g2.r1, by rw [em]; simp, ?_⟩
          refine ⟨ini.length, by omega, ws ++ [(")" : Str)], ini, rfl, rfl, ?_, fun x hm => ?_, ?_, by rw [List.append_assoc]; exact hj, fun n hn => hst n (List.mem_cons_of_mem _ hn)⟩
          · rw [em, List.dropLast_concat]
            rw [em] at g2
            exact g2.w1
          · rcases List.mem_append.mp hm with hm | hm
            · exact hw x hm
            · rw [List.mem_singleton.mp hm]; decide
          · rw [List.length_append]
            show ws.length + 1 + ini.length ≤ _
            omega
        · have c2 : z ≠ 1 := fun e => c2 (by rw [e]; rfl)
          rw [if_neg c2] at hj
          refine ⟨_, rfl, _, .inl ⟨_, SqL.of g.r1, rfl⟩, ?_⟩
          rw [tt]
          refine iteT ⟨_, rfl, .inl ⟨rfl, _, SqL.of g.r0⟩, PD, _, _, rfl, rfl, g.r0, by rw [List.length_map]; exact big _ (by omega), ?_⟩
          have g2 := g.w0 (o' := .lst (ws.map V.str ++ [.str ","]))
          have e2 : ws.map V.str ++ [.str ","] = (ws ++ [("," : Str)]).map V.str := by rw [List.map_append]; rfl
          rw [e2] at g2 ⊢
          refine ⟨_, rfl, _, rfl, MD, _, _, _, rfl, rfl, SqL.of g2.r1, la, _, _, rfl, rfl, _, rfl, _, rfl, MD, _, _, ini.length, rfl, rfl, g2.r1, by rw [em, List.length_append, hln]; exact ixN_last _, ?_⟩
          refine ⟨_, _, B, ws ++ [("," : Str)], (z - 1) :: ini, rfl, sB, ?_, fun x hm => ?_, ?_, by rw [List.append_assoc]; exact hj, fun n hn => ?_⟩
          · have : (vN (z :: ini).reverse).set ini.length (.int ((z : Nat) - 1 : Int)) = vN ((z - 1) :: ini).reverse := by
              rw [em, List.reverse_cons, vN_snoc, List.set_append, hln, show ((z : Nat) - 1 : Int) = ((z - 1 : Nat) : Int) by omega]
              simp
            rw [this]
            exact g2.w1
          · rcases List.mem_append.mp hm with hm | hm
            · exact hw x hm
            · rw [List.mem_singleton.mp hm]; decide
          · rw [List.length_append, List.length_cons]
            show ws.length + 1 + (ini.length + 1) ≤ _
            omega
          · rcases List.mem_cons.mp hn with rfl | hn
            · omega
            · exact hst n (List.mem_cons_of_mem _ hn)
  · rintro σ H1 ⟨t4, t5, B, ws, st, rfl, sB, hh, hw, hlen, hj, hst⟩
    rw [List.length_map] at hlen hj
    rw [List.drop_length, jn, List.append_nil] at hj
    have hsum := summ_le hw
    refine ⟨⟨_, rfl⟩, _, rfl, _, PD, ws, rfl, rfl, .inl (SqL.of hh.r0), ?_, ?_⟩
    · have : (Str.empty : Str).length = 0 := rfl
      show _ + ws.length * (Str.empty : Str).length ≤ _
      rw [this]
      omega
    · rw [hj]
      exact hq _ (sB.trans hh.sub)
/-! written, read_row, read_stump, read_plant -/
def spWrS (K : PySem.W.Frag) : Sp := fun vs H Q _ => ∃ a r rows l, vs = [.ref a, .ref r] ∧ BedAt K H a rows ∧ SqT K H r (l.map V.str) ∧ l.length ≤ 2000 ∧ fa rows ["*"] 1 0 l < 0 ∧ (∀ x ∈ l, x.length ≤ 100) ∧ ∀ H', Same H H' → Q (.str (jT rows l)) H'
theorem sc_wrS : FnScope ["bed", "stump"] ["bed", "stump"] (defScope (top 18)) := ⟨rfl, rfl, rfl, by decide +kernel, rfl, by decide +kernel, by decide +kernel⟩
theorem k_wrS (F : DF K mg "written" 18) (c_check_stump : Cal P w K mg base 4 "check_stump" ["bed", "stump"] (spStumpOk K)) (c_joined_text : Cal P w K mg base 2 "joined_text" ["bed", "row"] (spJoin K)) : Cal P w K mg base 5 "written" ["bed", "stump"] (spWrS K) := by
  refine cal_of F.1 F.2 sc_wrS (fun _ _ _ _ _ _ us e => match us, e with | [_, _], _ => rfl) (fun vs H Q E s => by obtain ⟨_, _, _, _, rfl, _⟩ := s; rfl) ?_
  intro cdv A outer s H vs Q E hr h
  obtain ⟨a, r, rows, l, rfl, hb, hR, hle, hfa, hx, hq⟩ := h
  refine ⟨_, (pss_cons (ps_expr (pe_cal c_check_stump hr (pa_cons (pv 0) (pa_cons (pv 1) pa_nil))))
      (pss_one (ps_ret (pe_cal c_joined_text hr (pa_cons (pv 0) (pa_cons (pv 1) pa_nil)))))), ?_⟩
  exact ⟨_, rfl, _, rfl, a, r, rows, l, rfl, hb, hR, hle, hfa, fun H1 s1 => ⟨_, rfl, _, rfl, a, r, rows, l, rfl, hb.mono (Stay.of s1), Same.sqt s1 hR, by omega, hx, fun H2 s2 => hq _ (s1.trans s2)⟩⟩
def spReadRow (K : PySem.W.Frag) : Sp := fun vs H Q E => ∃ (a t : Addr) (rows : List Sy.Row) (x : Str) (lv : List Str), vs = [.ref a, .str x, .ref t] ∧ BedAt K H a rows ∧ SqT K H t (lv.map V.str) ∧ x.length ≤ 40000 ∧ SgX x ∧ (∀ r ∈ rows, r.1.length ≤ 100) ∧ (∀ y ∈ lv, y.length ≤ 100) ∧
  (rrE rows lv x = none → ∀ H' p, Same H H' → SqT K H' p ((rowOf x).map V.str) → Q (.ref p) H') ∧ (∀ e, rrE rows lv x = some e → RaE K e H E)
abbrev N_rrow : List Str := ["bed", "text", "leaves", "row"]
theorem sc_rrow : FnScope N_rrow ["bed", "text", "leaves"] (defScope (top 21)) := ⟨rfl, rfl, rfl, by decide +kernel, rfl, by decide +kernel, by decide +kernel⟩
theorem glue_len {w z : Str} (h : w.length ≤ z.length) : ∀ ps : List Str, (Str.join w ps).length ≤ (Str.join z ps).length
  | [] => Nat.le_refl _
  | [p] => Nat.le_refl _
  | p :: q :: r => by
    have ih := glue_len h (q :: r)
    show (p ++ w ++ Str.join w (q :: r)).length ≤ (p ++ z ++ Str.join z (q :: r)).length
    simp only [Str.length_append]
    omega
theorem repl_len {x z : Str} {c : Nat} (hz : z.length ≤ 1) : (Txt.replace x ⟨#[c]⟩ z).length ≤ x.length := by
  rw [StrLaws.replace_one]
  have := glue_len (w := z) (z := ⟨#[c]⟩) hz (Txt.split x ⟨#[c]⟩)
  rw [StrLaws.join_split] at this
  exact this
theorem k_rrow (T : Txt K mg) (R : Ers P K mg) (F : DF K mg "read_row" 21) (c_check_count : Cal P w K mg base 3 "check_count" ["number"] (spCount K)) (c_fault_among : Cal P w K mg base 2 "fault_among" ["bed", "row", "leaves"] (spFault K))
    (c_joined_text : Cal P w K mg base 2 "joined_text" ["bed", "row"] (spJoin K)) : Cal P w K mg base 4 "read_row" ["bed", "text", "leaves"] (spReadRow K) := by
  refine cal_ofT F.1 F.2 sc_rrow (by decide +kernel) (by decide) (fun _ _ _ _ _ _ us e => match us, e with | [_, _, _], _ => rfl) (fun vs H Q E s => by obtain ⟨_, _, _, _, _, rfl, _⟩ := s; rfl) ?_
  intro cdv A outer s H vs Q E hr h
  obtain ⟨a, t, rows, x, lv, rfl, hb, hL, hx, hsg, hnm, hlv, hq, hE⟩ := h
  have sc := sc_rrow
  refine ⟨_, (psst_cons (pst_set (i := 3) sc.nd rfl (Or.inl rfl) (pet_callTy call_tuple_of (by rfl) T.tuple (by decide +kernel) (pet_split (CwR.pet_replT (CwR.pet_replC (pv 1))) pe_str)))
      (PSsT.of (pss_cons (ps_if (pt_cmpR op_ge (pe_cal c_fault_among hr (pa_cons (pv 0) (pa_cons (pv 3) (pa_cons (pv 2) pa_nil)))) pe_int (nomark _))
        (pss_one (ps_raise rfl (takes_of rfl rfl rfl rfl) (mk_it R.it hr rfl (pa_cons (pv 1) pa_nil) pass0)))
        pss_nil)
      (pss_cons (ps_if (pt_cmpR op_ne (pe_cal c_joined_text hr (pa_cons (pv 0) (pa_cons (pv 3) pa_nil))) (pv 1) (nomark _))
        (pss_one (ps_raise rfl (takes_of rfl rfl rfl rfl) (mk_it R.it hr rfl (pa_cons (pv 1) pa_nil) pass0)))
        pss_nil)
      (pss_cons (ps_expr (pe_calX c_check_count hr (takes_of rfl rfl rfl rfl) (pa_cons (pe_callB call_len_seq (by rfl) T.len (by decide +kernel) (pa_cons (pv 3) pa_nil)) pa_nil)))
      (pss_one (ps_ret (pv 3)))))))), ?_⟩
  have l1 : (Txt.replace x "(" ",").length ≤ x.length := repl_len (c := 40) (by decide)
  have l2 : (Txt.replace (Txt.replace x "(" ",") ")" "").length ≤ (Txt.replace x "(" ",").length := repl_len (c := 41) (by decide)
  have lr := split_le (Txt.replace (Txt.replace x "(" ",") ")" "") ","
  have er : rowOf x = Txt.split (Txt.replace (Txt.replace x "(" ",") ")" "") "," := rfl
  have zl : ("," : Str).length = 1 := by decide +kernel
  have z0 : ("" : Str).length = 0 := by decide +kernel
  refine ⟨_, rfl, x, rfl, by rw [zl]; omega, _, rfl, by rw [z0]; omega, ⟨_, rfl⟩, _, _, rfl, rfl, by decide, by rw [sizeLine_eq]; omega, fun S hS => ?_⟩
  rw [← er] at lr ⊢
  have s1 := up_same (o := .lst ((rowOf x).map V.str)) hS
  refine ⟨S, _, rfl, .inl ⟨SqL.of upd_same, fun p hp => ?_⟩⟩
  have s2 := s1.trans (up_same (o := .tup ((rowOf x).map V.str)) hp)
  have hP : SqT K (upd (upd H S (.lst ((rowOf x).map V.str))) p (.tup ((rowOf x).map V.str))) p ((rowOf x).map V.str) := SqT.of upd_same
  generalize upd (upd H S (.lst ((rowOf x).map V.str))) p (.tup ((rowOf x).map V.str)) = H1 at *
  refine ⟨_, rfl, _, rfl, _, rfl, a, p, t, rows, rowOf x, lv, rfl, hb.mono (Stay.of s2), hP, Same.sqt s2 hL, fun H2 s3 => ?_⟩
  have s13 := s2.trans s3
  refine ⟨_, _, rfl, rfl, _, rfl, if_dec (fun c => ?_) (fun c => ?_)⟩
  · have c : 0 ≤ fa rows lv 1 0 (rowOf x) := c
    exact ⟨_, rfl, mk_ra (fun _ _ => ⟨x, rfl, ⟨by omega, hsg⟩, rfl⟩) (by show 1 ≤ 1000; decide) (((hE (.text x) (by unfold rrE; rw [if_pos c])).mono s13).ra (.cons (.str _) .nil))⟩
  have c : ¬ 0 ≤ fa rows lv 1 0 (rowOf x) := c
  have hw : ∀ y ∈ rowOf x, y.length ≤ 100 := fun y hy => by
    rcases fa_words (rows := rows) (lv := lv) (m := 1) (i := 0) (by omega) y hy with k | k
    · obtain ⟨r, hr', rfl⟩ := isK_mem k
      exact hnm r hr'
    · exact hlv y k
  refine ⟨_, rfl, _, rfl, a, p, rows, rowOf x, rfl, hb.mono (Stay.of s13), Same.sqt s3 hP, by omega, hw, fun H3 s4 => ?_⟩
  have s14 := s13.trans s4
  refine ⟨_, rfl, rfl, _, rfl, if_ndec (fun c2 => ?_) (fun c2 => ?_)⟩
  · have c2 : jT rows (rowOf x) ≠ x := fun z => c2 (by rw [z])
    exact ⟨_, rfl, mk_ra (fun _ _ => ⟨x, rfl, ⟨by omega, hsg⟩, rfl⟩) (by show 1 ≤ 1000; decide) (((hE (.text x) (by unfold rrE; rw [if_neg c, if_pos c2])).mono s14).ra (.cons (.str _) .nil))⟩
  have c2 : ¬ jT rows (rowOf x) ≠ x := fun z => z (V.str.inj c2)
  refine ⟨_, rfl, p, _, rfl, .inr (Same.sqt (s3.trans s4) hP), _, rfl, fun c3 => ?_, fun c3 => ?_⟩
  · rw [List.length_map] at c3
    exact ⟨_, rfl, hq (by unfold rrE; rw [if_neg c, if_neg c2, if_neg (by omega)]) _ _ s14 (Same.sqt (s3.trans s4) hP)⟩
  · rw [List.length_map] at c3
    exact (((hE (.many "knots" 2000) (by unfold rrE; rw [if_neg c, if_neg c2, if_pos (by omega)])).mono s14).ra (.cons (.int _) (.cons (.str _) .nil)))
def spReadX (K : PySem.W.Frag) (lv : List Str) : Sp := fun vs H Q E => ∃ (a : Addr) (rows : List Sy.Row) (x : Str), vs = [.ref a, .str x] ∧ BedAt K H a rows ∧ x.length ≤ 40000 ∧ SgX x ∧ (∀ r ∈ rows, r.1.length ≤ 100) ∧
  (rrE rows lv x = none → ∀ H' p, Same H H' → SqT K H' p ((rowOf x).map V.str) → Q (.ref p) H') ∧ (∀ e, rrE rows lv x = some e → RaE K e H E)
theorem sc_rs : FnScope ["bed", "text"] ["bed", "text"] (defScope (top 19)) := ⟨rfl, rfl, rfl, by decide +kernel, rfl, by decide +kernel, by decide +kernel⟩
theorem k_rs (TS : TxtW mg) (F : DF K mg "read_stump" 19) (c_read_row : Cal P w K mg base 4 "read_row" ["bed", "text", "leaves"] (spReadRow K)) : Cal P w K mg base 5 "read_stump" ["bed", "text"] (spReadX K ["*"]) := by
  refine cal_of F.1 F.2 sc_rs (fun _ _ _ _ _ _ us e => match us, e with | [_, _], _ => rfl) (fun vs H Q E s => by obtain ⟨_, _, _, rfl, _⟩ := s; rfl) ?_
  intro cdv A outer s H vs Q E hr h
  obtain ⟨a, rows, x, rfl, hb, hx, hsg, hnm, hq, hE⟩ := h
  refine ⟨_, (pss_one (ps_ret (pe_calX c_read_row hr (takes_of rfl rfl rfl rfl) (pa_cons (pv 0) (pa_cons (pv 1) (pa_cons (pe_tup (pa_cons (pe_gstr rfl TS.hole) pa_nil)) pa_nil)))))), ?_⟩
  refine ⟨_, rfl, _, rfl, by decide, fun t ht => ?_⟩
  have s1 := up_same (o := .tup [.str "*"]) ht
  exact ⟨a, t, rows, x, ["*"], rfl, hb.mono (Stay.of s1), SqT.of upd_same, hx, hsg, hnm, fun y hy => by rw [List.mem_singleton.mp hy]; decide, fun e H' p s' => hq e H' p (s1.trans s'), fun e he => (hE e he).mono s1⟩
theorem sc_rp : FnScope ["bed", "text"] ["bed", "text"] (defScope (top 20)) := ⟨rfl, rfl, rfl, by decide +kernel, rfl, by decide +kernel, by decide +kernel⟩
theorem k_rp (F : DF K mg "read_plant" 20) (c_read_row : Cal P w K mg base 4 "read_row" ["bed", "text", "leaves"] (spReadRow K)) : Cal P w K mg base 5 "read_plant" ["bed", "text"] (spReadX K []) := by
  refine cal_of F.1 F.2 sc_rp (fun _ _ _ _ _ _ us e => match us, e with | [_, _], _ => rfl) (fun vs H Q E s => by obtain ⟨_, _, _, rfl, _⟩ := s; rfl) ?_
  intro cdv A outer s H vs Q E hr h
  obtain ⟨a, rows, x, rfl, hb, hx, hsg, hnm, hq, hE⟩ := h
  refine ⟨_, (pss_one (ps_ret (pe_calX c_read_row hr (takes_of rfl rfl rfl rfl) (pa_cons (pv 0) (pa_cons (pv 1) (pa_cons (pe_tup pa_nil) pa_nil)))))), ?_⟩
  refine ⟨_, rfl, _, rfl, by decide, fun t ht => ?_⟩
  have s1 := up_same (o := .tup []) ht
  exact ⟨a, t, rows, x, [], rfl, hb.mono (Stay.of s1), SqT.of upd_same, hx, hsg, hnm, fun y hy => (nomatch hy), fun e H' p s' => hq e H' p (s1.trans s'), fun e he => (hE e he).mono s1⟩
end
end Sy
namespace Sy
open PySem PySem.Spec PyProof.Rows L2
/-- the law's bag of draws -/
def BagOk (l : List Int) : Prop := ∃ a b c d r, l = a :: b :: c :: d :: r ∧ 0 ≤ a ∧ 4 ≤ d ∧ ∀ x ∈ r, 0 ≤ x
/-- a bag stands at g -/
def Bag (g : Addr) (H : Hp) : Prop := ∃ l : List Int, BagOk l ∧ H g = some (.lst (l.map V.int))
/-- the bag at g is another one, nothing else has changed -/
def Dr (g : Addr) (H H' : Hp) : Prop := ∃ l : List Int, BagOk l ∧ Chg g (.lst (l.map V.int)) H H'
theorem Chg.upd {g : Addr} {o o' : HO} {H H1 : Hp} (c : Chg g o H H1) : Chg g o' H (L2.upd H1 g o') := ⟨upd_same, fun a w n e => by rw [upd_ne n]; exact c.2 a w n e⟩
theorem Chg.refl {g : Addr} {o : HO} {H : Hp} (h : H g = some o) : Chg g o H H := ⟨h, fun _ _ _ e => e⟩
section
variable {P : Program} {w : World} {K : PySem.W.Frag} {mg : Str → Option Value} {base : Heap}
def spDraw : Sp := fun vs H Q _ => ∃ (g : Addr) (n : Nat), vs = [.ref g, .int (n : Nat)] ∧ Bag g H ∧ 1 ≤ n ∧ n < 1000000000 ∧ ∀ (r : Nat) H', r < n → Dr g H H' → Q (.int (r : Nat)) H'
abbrev N_draw : List Str := ["_law_bag_here", "_law_size", "_law_cell", "_law_digit", "_law_mixed"]
theorem sc_draw : FnScope N_draw ["_law_bag_here", "_law_size"] (defScope (top 31)) := ⟨rfl, rfl, rfl, by decide +kernel, rfl, by decide +kernel, by decide +kernel⟩
theorem at0 {a b c d : Int} {r : List Int} : atI ((a :: b :: c :: d :: r).map V.int) (0 : Int) = some (.int a) := atI_nat (j := 0) rfl
theorem at1 {a b c d : Int} {r : List Int} : atI ((a :: b :: c :: d :: r).map V.int) (1 : Int) = some (.int b) := atI_nat (j := 1) rfl
theorem at2 {a b c d : Int} {r : List Int} : atI ((a :: b :: c :: d :: r).map V.int) (2 : Int) = some (.int c) := atI_nat (j := 2) rfl
theorem at3 {a b c d : Int} {r : List Int} : atI ((a :: b :: c :: d :: r).map V.int) (3 : Int) = some (.int d) := atI_nat (j := 3) rfl
theorem ix4 {a b c d : Int} {r : List Int} (j : Nat) (h : j < 4) : ixN ((a :: b :: c :: d :: r).map V.int).length (j : Int) = some j := ixN_nat (by rw [List.length_map]; simp only [List.length_cons]; omega)
theorem k_draw (T : Txt K mg) (F : DF K mg "_law_draw" 31) : Cal P w K mg base 1 "_law_draw" ["_law_bag_here", "_law_size"] spDraw := by
  refine cal_of F.1 F.2 sc_draw (fun _ _ _ _ _ _ us e => match us, e with | [_, _], _ => rfl) (fun vs H Q E s => by obtain ⟨_, _, rfl, _⟩ := s; rfl) ?_
  intro cdv A outer s H vs Q E hr h
  obtain ⟨g, n, rfl, ⟨l0, ⟨a, b, c, d, r, rfl, ha, hd, hrs⟩, hg⟩, hn, hn2, hq⟩ := h
  have sc := sc_draw
  -- what follows the first if
  have tail : ∃ t, PSs (cxOf (L2.CX P w) P w K mg base N_draw "_law_draw" (defScope (top 31)) (He.ga K "_law_draw") cdv A outer s H E) ((defBody (top 31)).drop 2) t ∧
      ∀ (t2 : Option V) (H1 : Hp) (a b c d : Int), 0 ≤ a → 4 ≤ d → Chg g (.lst ((a :: b :: c :: d :: r).map V.int)) H H1 → t { nx := fun _ H' => Q .non H', rt := Q } [some (.ref g), some (.int (n : Nat)), t2, none, none] H1 := by
    refine ⟨_, (pss_cons (ps_if (pt_cmpR op_gt (pe_ix ix_list (pv 0) pe_int (fun _ _ => rfl)) pe_int (nomark _))
        (pss_cons (ps_set (i := 3) sc.nd rfl (Or.inl rfl) (pe_op op_mod (pe_callTy call_int1 (by rfl) T.int (by decide +kernel) (pa_cons (pe_ix ix_list (pv 0) pe_int (fun _ _ => rfl)) pa_nil)) (pv 1)))
        (pss_cons (ps_asg (pe_op op_fdiv (pe_ix ix_list (pv 0) pe_int (fun _ _ => rfl)) (pv 1)) (pg_sub (pv 0) pe_int set_list))
        (pss_one (ps_ret (pv 3)))))
        pss_nil)
      (pss_cons (ps_set (i := 4) sc.nd rfl (Or.inl rfl) (pe_op op_mod (pe_callTy call_int1 (by rfl) T.int (by decide +kernel) (pa_cons (pe_op op_add (pe_op op_add (pe_op op_mul (pe_ix ix_list (pv 0) pe_int (fun _ _ => rfl)) pe_int) (pe_op op_mul (pe_ix ix_list (pv 0) pe_int (fun _ _ => rfl)) pe_int)) pe_int) pa_nil)) pe_int))
      (pss_cons (ps_set (i := 4) sc.nd rfl (Or.inl rfl) (pe_op op_mod (pe_callTy call_int1 (by rfl) T.int (by decide +kernel) (pa_cons (pe_op op_add (pe_op op_mul (pv 4) (pe_op op_add (pe_op op_fdiv (pv 4) pe_int) pe_int)) (pe_ix ix_list (pv 0) pe_int (fun _ _ => rfl))) pa_nil)) pe_int))
      (pss_one (ps_ret (pe_op op_mod (pe_callTy call_int1 (by rfl) T.int (by decide +kernel) (pa_cons (pe_op op_fdiv (pv 4) pe_int) pa_nil)) (pv 1))))))), ?_⟩
    intro t2 H1 a b c d ha hd cg
    have dr : Dr g H H1 := ⟨_, ⟨a, b, c, d, r, rfl, ha, hd, hrs⟩, cg⟩
    have S := SqL.of (K := K) cg.1
    have modr : ∀ x : Int, ∃ k : Nat, x % (n : Int) = (k : Int) ∧ k < n := fun x => by
      have h1 := Int.emod_nonneg x (show (n : Int) ≠ 0 by omega)
      have h2 := Int.emod_lt_of_pos x (show (0 : Int) < n by omega)
      exact ⟨(x % (n : Int)).toNat, by omega, by omega⟩
    refine ⟨_, rfl, g, _, _, _, rfl, rfl, S, at0, _, _, rfl, rfl, _, rfl, if_dec (fun c1 => ?_) (fun c1 => ?_)⟩
    · obtain ⟨k, ek, hk⟩ := modr a
      refine ⟨_, rfl, g, _, _, _, rfl, rfl, S, at0, .inl ⟨a, rfl, _, rfl, _, _, rfl, rfl, (by omega), ?_⟩⟩
      refine ⟨_, rfl, g, _, _, _, rfl, rfl, S, at0, _, rfl, _, _, rfl, rfl, ⟨by omega, by omega⟩, _, rfl, g, _, _, 0, rfl, rfl, cg.1, ix4 0 (by decide), _, rfl, ?_⟩
      have q := hq k (L2.upd H1 g (.lst ((a / (n : Int) :: b :: c :: d :: r).map V.int))) hk ⟨_, ⟨_, b, c, d, r, rfl, Int.ediv_nonneg ha (by omega), hd, hrs⟩, cg.upd⟩
      rw [← ek] at q
      exact q
    · refine ⟨_, rfl, g, _, _, _, rfl, rfl, S, at1, _, _, rfl, rfl, .inr (by decide), _, rfl, g, _, _, _, rfl, rfl, S, at2, _, _, rfl, rfl, .inr (by decide), _, _, rfl, rfl, _, _, rfl, rfl, .inl ⟨_, rfl, _, _, rfl, rfl, (by show (0 : Int) < 2147483647; decide), ?_⟩⟩
      refine ⟨_, rfl, _, rfl, _, _, rfl, rfl, ⟨by decide, by decide⟩, _, _, rfl, rfl, _, _, rfl, rfl, .inl ⟨by omega, by omega⟩, _, rfl, g, _, _, _, rfl, rfl, S, at2, _, _, rfl, rfl, .inl ⟨_, rfl, _, _, rfl, rfl, (by show (0 : Int) < 2147483399; decide), ?_⟩⟩
      refine ⟨_, rfl, _, _, rfl, rfl, ⟨by decide, by decide⟩, .inl ⟨_, rfl, _, rfl, _, _, rfl, rfl, (by omega), ?_⟩⟩
      generalize ((b * 1103515245 + c * 1640531527 + 12345) % 2147483647 * ((b * 1103515245 + c * 1640531527 + 12345) % 2147483647 / 65536 + 3) + c) % 2147483399 / 64 = m
      obtain ⟨k, ek, hk⟩ := modr m
      have q := hq k H1 hk dr
      rw [← ek] at q
      exact q
  obtain ⟨t, pt, ht⟩ := tail
  refine ⟨_, (pss_cons (ps_asg (pe_op op_add (pe_ix ix_list (pv 0) pe_int (fun _ _ => rfl)) pe_int) (pg_sub (pv 0) pe_int set_list))
      (pss_cons (ps_if (PW.pt (pw_and (pt_cmpR op_eq (pe_ix ix_list (pv 0) pe_int (fun _ _ => rfl)) pe_int (nomark _)) (pw_and1 (pt_cmpR op_lt (pe_ix ix_list (pv 0) pe_int (fun _ _ => rfl)) (pe_callB call_len_seq (by rfl) T.len (by decide +kernel) (pa_cons (pv 0) pa_nil)) (nomark _)))))
        (pss_cons (ps_set (i := 2) sc.nd rfl (Or.inl rfl) (pe_ix ix_list (pv 0) (pe_ix ix_list (pv 0) pe_int (fun _ _ => rfl)) (fun _ _ => rfl)))
        (pss_cons (ps_asg (pe_op op_add (pe_ix ix_list (pv 0) pe_int (fun _ _ => rfl)) pe_int) (pg_sub (pv 0) pe_int set_list))
        (pss_one (ps_if (pt_cmpR op_lt (pv 2) (pe_op op_pow pe_int pe_int) (nomark _))
          (pss_one (ps_asg (pe_op op_mod (pe_callTy call_int1 (by rfl) T.int (by decide +kernel) (pa_cons (pe_op op_add (pe_op op_add (pe_op op_mul (pe_ix ix_list (pv 0) pe_int (fun _ _ => rfl)) pe_int) (pv 2)) pe_int) pa_nil)) pe_int) (pg_sub (pv 0) pe_int set_list)))
          (pss_one (ps_asg (pv 2) (pg_sub (pv 0) pe_int set_list)))))))
        pss_nil)
      pt)), ?_⟩
  have S := SqL.of (K := K) hg
  refine ⟨_, rfl, g, _, _, _, rfl, rfl, S, at2, _, _, rfl, rfl, _, rfl, g, _, _, 2, rfl, rfl, hg, ix4 2 (by decide), ?_⟩
  have c1 : Chg g (.lst ((a :: b :: (c + 1) :: d :: r).map V.int)) H (L2.upd H g (.lst ((a :: b :: (c + 1) :: d :: r).map V.int))) := (Chg.refl hg).upd
  have S1 := SqL.of (K := K) c1.1
  refine ⟨_, rfl, g, _, _, _, rfl, rfl, S1, at0, rfl, _, rfl, if_dec (fun q1 => ?_) (fun q1 => ?_)⟩
  · refine ⟨_, rfl, g, _, _, _, rfl, rfl, S1, at3, _, rfl, g, _, rfl, .inl S1, _, _, rfl, rfl, _, rfl, if_dec (fun q2 => ?_) (fun q2 => ?_)⟩
    · rw [List.length_map] at q2
      simp only [List.length_cons] at q2
      obtain ⟨j, hj⟩ : ∃ j : Nat, d = ((j + 4 : Nat) : Int) := ⟨(d - 4).toNat, by omega⟩
      obtain ⟨x, ex⟩ : ∃ x, r[j]? = some x := ⟨_, List.getElem?_eq_getElem (by omega)⟩
      have hx := hrs x (List.mem_of_getElem? ex)
      have ad : atI ((a :: b :: (c + 1) :: d :: r).map V.int) d = some (.int x) := by
        rw [hj]
        exact atI_nat (by rw [List.getElem?_map]; show (r[j]?).map V.int = _; rw [ex]; rfl)
      refine ⟨_, rfl, _, rfl, g, _, _, _, rfl, rfl, S1, at3, g, _, _, _, rfl, rfl, S1, ad, ?_⟩
      refine ⟨_, rfl, g, _, _, _, rfl, rfl, S1, at3, _, _, rfl, rfl, _, rfl, g, _, _, 3, rfl, rfl, c1.1, ix4 3 (by decide), ?_⟩
      have c2 : Chg g (.lst ((a :: b :: (c + 1) :: (d + 1) :: r).map V.int)) H (L2.upd (L2.upd H g (.lst ((a :: b :: (c + 1) :: d :: r).map V.int))) g (.lst ((a :: b :: (c + 1) :: (d + 1) :: r).map V.int))) := c1.upd
      have S2 := SqL.of (K := K) c2.1
      refine ⟨_, rfl, _, _, rfl, rfl, ⟨by decide, by decide, by decide⟩, _, _, rfl, rfl, _, rfl, if_dec (fun q3 => ?_) (fun q3 => ?_)⟩
      · refine ⟨_, rfl, g, _, _, _, rfl, rfl, S2, at1, _, _, rfl, rfl, .inr (by decide), _, rfl, _, _, rfl, rfl, _, _, rfl, rfl, .inl ⟨_, rfl, _, _, rfl, rfl, (by show (0 : Int) < 1000000007; decide), _, rfl, g, _, _, 1, rfl, rfl, c2.1, ix4 1 (by decide), ht _ _ _ _ _ _ ha (by omega) c2.upd⟩⟩
      · exact ⟨_, rfl, _, rfl, g, _, _, 0, rfl, rfl, c2.1, ix4 0 (by decide), ht _ _ _ _ _ _ hx (by omega) c2.upd⟩
    · exact ht _ _ _ _ _ _ ha hd c1
  · exact ht _ _ _ _ _ _ ha hd c1
end
end Sy
namespace Sy
open PySem PySem.Spec PyProof.Rows L2
/-- small letters -/
def Lt (c : Nat) : Prop := 97 ≤ c ∧ c ≤ 122
def Wd (x : Str) : Prop := 1 ≤ x.cps.toList.length ∧ x.cps.toList.length ≤ 8 ∧ ∀ c ∈ x.cps.toList, Lt c
theorem lt_uni (c : Nat) (h : Lt c) : Unicode.isAlpha c = true ∧ Unicode.isLower c = true ∧ Unicode.isUpper c = false ∧ Unicode.isTitle c = false := by
  have q : ∀ i : Fin 26, Unicode.isAlpha (97 + i.val) = true ∧ Unicode.isLower (97 + i.val) = true ∧ Unicode.isUpper (97 + i.val) = false ∧ Unicode.isTitle (97 + i.val) = false := by decide +kernel
  obtain ⟨h1, h2⟩ := h
  have := q ⟨c - 97, by omega⟩
  rw [show 97 + (c - 97) = c by omega] at this
  exact this
theorem len_tl (x : Str) : x.length = x.cps.toList.length := by
  show x.cps.size = _
  simp
theorem Wd.ok {x : Str} (h : Wd x) : nameOk x = true := by
  obtain ⟨h1, h2, h3⟩ := h
  have hl := len_tl x
  have a1 : Txt.isascii x = true := by
    unfold Txt.isascii
    rw [← Array.all_toList, List.all_eq_true]
    intro c hc
    have := (h3 c hc).2
    exact decide_eq_true (by omega)
  have a2 : Txt.isalpha x = true := by
    unfold Txt.isalpha
    rw [decide_eq_true (by omega), Bool.true_and, ← Array.all_toList, List.all_eq_true]
    exact fun c hc => (lt_uni c (h3 c hc)).1
  have a3 : Txt.islower x = true := by
    unfold Txt.islower
    rw [Bool.and_eq_true]
    constructor
    · rw [← Array.any_toList, List.any_eq_true]
      obtain ⟨c, hc⟩ : ∃ c, c ∈ x.cps.toList := List.exists_mem_of_length_pos (by omega)
      exact ⟨c, hc, (lt_uni c (h3 c hc)).2.1⟩
    · rw [← Array.any_toList, Bool.not_eq_true', List.any_eq_false]
      intro c hc
      rw [(lt_uni c (h3 c hc)).2.2.1, (lt_uni c (h3 c hc)).2.2.2]
      decide
  unfold nameOk
  rw [a1, a2, a3, decide_eq_true (by omega)]
  rfl
theorem join_one (cs : List Nat) : (Txt.join (Str.empty) (cs.map fun c => (⟨#[c]⟩ : Str))).cps.toList = cs := by
  rw [TL.join_eq]
  have h := TL.tl_join Str.empty (cs.map fun c => (⟨#[c]⟩ : Str))
  show TL.tl _ = cs
  rw [h]
  have : ∀ cs : List Nat, TL.joinL (TL.tl Str.empty) ((cs.map fun c => (⟨#[c]⟩ : Str)).map TL.tl) = cs := by
    intro cs
    induction cs with
    | nil => rfl
    | cons c cs ih =>
      cases cs with
      | nil => rfl
      | cons d ds =>
        show [c] ++ ([] ++ TL.joinL _ _) = _
        rw [List.nil_append]
        exact congrArg (fun l => [c] ++ l) ih
  exact this cs
/-- fewer than 26 words leave a letter -/
theorem nodup_le {α : Type} [DecidableEq α] : ∀ {l m : List α}, l.Nodup → (∀ x ∈ l, x ∈ m) → l.length ≤ m.length
  | [], _, _, _ => Nat.zero_le _
  | x :: l, m, h, s => by
    have hx := s x List.mem_cons_self
    have h2 := List.nodup_cons.mp h
    have := nodup_le (l := l) (m := m.erase x) h2.2 fun y hy => by
      rw [List.mem_erase_of_ne (fun z => h2.1 (by rw [← z]; exact hy))]
      exact s y (List.mem_cons_of_mem _ hy)
    rw [List.length_erase_of_mem hx] at this
    have := List.length_pos_of_mem hx
    rw [List.length_cons]
    omega
def abc : Str := "abcdefghijklmnopqrstuvwxyz"
theorem abc_at : ∀ i : Nat, i < 26 → abc.cps[i]? = some (97 + i) := by
  have q : ∀ i : Fin 26, abc.cps[i.val]? = some (97 + i.val) := by decide +kernel
  exact fun i h => q ⟨i, h⟩
theorem abc_len : abc.length = 26 := by decide +kernel
theorem abc_tl (i : Nat) (h : i < 26) : abc.cps.toList[i]? = some (97 + i) := by rw [Array.getElem?_toList]; exact abc_at i h
/-- the letters that are not taken -/
def freeL (tk : List Str) (n : Nat) : List Str := ((List.range n).map fun i => (⟨#[97 + i]⟩ : Str)).filter fun x => decide (x ∉ tk)
theorem freeL_pos (tk : List Str) (h : tk.length < 26) : ∃ x r, freeL tk 26 = x :: r ∧ x ∉ tk ∧ Wd x := by
  cases e : freeL tk 26 with
  | nil =>
    exfalso
    have all : ∀ x ∈ ((List.range 26).map fun i => (⟨#[97 + i]⟩ : Str)), x ∈ tk := fun x hx => by
      have := List.filter_eq_nil_iff.mp e x hx
      simpa using this
    have nd : ((List.range 26).map fun i => (⟨#[97 + i]⟩ : Str)).Nodup := by decide +kernel
    have := nodup_le nd all
    simp at this
    omega
  | cons x r =>
    have hm : x ∈ freeL tk 26 := by rw [e]; exact List.mem_cons_self
    unfold freeL at hm
    obtain ⟨h1, h2⟩ := List.mem_filter.mp hm
    obtain ⟨i, hi, rfl⟩ := List.mem_map.mp h1
    rw [List.mem_range] at hi
    refine ⟨_, r, rfl, of_decide_eq_true h2, ?_⟩
    refine ⟨Nat.le_refl _, by show 1 ≤ 8; decide, fun c hc => ?_⟩
    have : c = 97 + i := by simpa using hc
    subst this
    exact ⟨by omega, by omega⟩
theorem Wd.first {x y : Str} {c : Nat} (hx : Wd x) (hy : Wd y) (h8 : x.length < 8) (hc : y.cps.toList[0]? = some c) : Wd (x ++ ⟨#[c]⟩) := by
  obtain ⟨h1, h2, h3⟩ := hx
  have hl := len_tl x
  have e : (x ++ ⟨#[c]⟩ : Str).cps.toList = x.cps.toList ++ [c] := by
    show (x.cps ++ #[c]).toList = _
    simp
  have hcm := hy.2.2 c (List.mem_of_getElem? hc)
  refine ⟨?_, ?_, fun d hd => ?_⟩
  · rw [e, List.length_append]
    show 1 ≤ _ + 1
    omega
  · rw [e, List.length_append]
    show _ + 1 ≤ 8
    omega
  · rw [e] at hd
    rcases List.mem_append.mp hd with hd | hd
    · exact h3 d hd
    · rw [List.mem_singleton.mp hd]
      exact hcm
theorem Wd.cut {x : Str} (hx : Wd x) (h1 : 1 < x.length) : Wd (cutS x none (some (-1))) := by
  obtain ⟨h1', h2, h3⟩ := hx
  have hl := len_tl x
  have e : (cutS x none (some (-1))).cps.toList = x.cps.toList.take (x.length - 1) := by
    unfold cutS HT.sIx
    simp only [List.drop_zero, Nat.sub_zero]
    rw [if_pos (by decide), show ((-1 : Int) + (x.length : Int)).toNat = x.length - 1 by omega]
  refine ⟨?_, ?_, fun d hd => ?_⟩
  · rw [e, List.length_take]
    omega
  · rw [e, List.length_take]
    omega
  · rw [e] at hd
    exact h3 d (List.mem_of_mem_take hd)
theorem all_strs (l : List Str) : (l.map V.str).all flatV = true := by
  rw [List.all_map, List.all_eq_true]
  intro x _
  rfl
theorem vN_at {ns : List Nat} {i n : Nat} (h : ns[i]? = some n) : (vN ns)[i]? = some (.int (n : Int)) := by rw [vN, List.getElem?_map, h]; rfl
theorem vN_set (ns : List Nat) (i n : Nat) : (vN ns).set i (.int (n : Int)) = vN (ns.set i n) := by rw [vN, vN, List.map_set]
end Sy
namespace Sy
open PySem PySem.Spec PyProof.Rows L2
section
variable {B H H' : Hp} {L : List (Addr × HO)} {g : Addr} {o : HO} {x : Addr × HO}
theorem Hs.dr0 (h : Hs B ((g, o) :: L) H) (d : Dr g H H') : ∃ l B', BagOk l ∧ Same B B' ∧ Hs B' ((g, .lst (l.map V.int)) :: L) H' ∧ B' = cut ((g, .lst (l.map V.int)) :: L) H' := by
  obtain ⟨l, hl, c⟩ := d
  have := h.chg c
  exact ⟨l, _, hl, this.1, this.2, rfl⟩
theorem Hs.dr1 (h : Hs B (x :: (g, o) :: L) H) (d : Dr g H H') : ∃ l B', BagOk l ∧ Same B B' ∧ Hs B' (x :: (g, .lst (l.map V.int)) :: L) H' := by
  obtain ⟨l, B', hl, s, h', _⟩ := h.swap.dr0 d
  exact ⟨l, B', hl, s, h'.swap⟩
theorem Hs.bag (h : Hs B ((g, .lst ((l : List Int).map V.int)) :: L) H) (hl : BagOk l) : Bag g H := ⟨l, hl, h.r0⟩
theorem Bag.take (h : Bag g H) : ∃ l, BagOk l ∧ Hs (L2.del H g) [(g, .lst (l.map V.int))] H := by
  obtain ⟨l, hl, e⟩ := h
  exact ⟨l, hl, (Hs.start H).take e⟩
end
section
variable {P : Program} {w : World} {K : PySem.W.Frag} {mg : Str → Option Value} {base : Heap}
def spWord : Sp := fun vs H Q _ => ∃ g : Addr, vs = [.ref g] ∧ Bag g H ∧ ∀ x H', Wd x → Dr g H H' → Q (.str x) H'
abbrev N_word : List Str := ["_law_bag_here", "_law_letters", "_law_k"]
theorem sc_word : FnScope N_word ["_law_bag_here"] (defScope (top 32)) := ⟨rfl, rfl, rfl, by decide +kernel, rfl, by decide +kernel, by decide +kernel⟩
theorem k_word (T : Txt K mg) (F : DF K mg "_law_word" 32) (c_law_draw : Cal P w K mg base 1 "_law_draw" ["_law_bag_here", "_law_size"] spDraw) : Cal P w K mg base 2 "_law_word" ["_law_bag_here"] spWord := by
  refine cal_of F.1 F.2 sc_word (fun _ _ _ _ _ _ us e => match us, e with | [_], _ => rfl) (fun vs H Q E s => by obtain ⟨_, rfl, _⟩ := s; rfl) ?_
  intro cdv A outer s H vs Q E hr h
  obtain ⟨g, rfl, hg, hq⟩ := h
  have sc := sc_word
  refine ⟨_, (pss_cons (ps_set (i := 1) sc.nd rfl (Or.inr rfl) pe_str)
      (pss_one (ps_ret (pe_join pe_str (pe_lc (own := [("_law_k", 2)]) (g := gName 2) rfl sc.nd (pi_range1 rfl T.range (pa_cons (pe_op op_add pe_int (pe_cal c_law_draw hr (pa_cons (pv 0) (pa_cons pe_int pa_nil)))) pa_nil)) (blkOk_by (N := N_word) (sc := defScope (top 32)) (by decide +kernel)) (fun _ _ _ _ _ => (pg_name (i := 2) sc.nd rfl (Or.inl rfl))) (fun _ _ _ _ _ => pts_nil) (fun _ _ _ _ _ => (pe_ix ix_str (pv 1) (pe_cal c_law_draw hr (pa_cons (pv 0) (pa_cons pe_int pa_nil))) (fun _ _ => rfl)))))))), ?_⟩
  obtain ⟨l0, hl0, h0⟩ := hg.take
  refine ⟨⟨_, rfl⟩, _, rfl, g, 8, rfl, hg, by decide, by decide, fun r H1 hr1 d1 => ?_⟩
  obtain ⟨l1, B1, hl1, s1, h1, _⟩ := h0.dr0 d1
  refine ⟨_, _, rfl, rfl, _, rfl, by omega, by omega, fun D hD => lc_it (n := (1 + (r : Int)).toNat) walk_range (fun i H' => ∃ (cs : List Nat) (B : Hp) (l : List Int), BagOk l ∧ cs.length = i ∧ (∀ c ∈ cs, Lt c) ∧ Same B1 B ∧ Hs B [(D, .lst ((cs.map fun c => (⟨#[c]⟩ : Str)).map V.str)), (g, .lst (l.map V.int))] H')
    ⟨[], B1, l1, hl1, rfl, fun _ z => (nomatch z), Same.refl _, h1.new hD⟩ (fun _ _ _ _ => trivial) ?_ ?_⟩
  · rintro i v H2 _ hi ⟨cs, B, l, hl, hcs, hlt, sB, hh⟩ ⟨rfl, rfl⟩
    refine ⟨rfl, ?_⟩
    simp only [tYes, if_true]
    refine ⟨_, rfl, _, rfl, g, 26, rfl, hh.swap.bag hl, by decide, by decide, fun c H3 hc d3 => ?_⟩
    obtain ⟨l3, B3, hl3, s3, h3⟩ := hh.dr1 d3
    refine ⟨abc, _, 97 + c, rfl, rfl, by decide +kernel, atI_nat (abc_tl c hc), _, h3.r0, by rw [List.length_map, List.length_map, sizeLine_eq]; omega, cs ++ [97 + c], B3, l3, hl3, by rw [List.length_append, hcs]; rfl, fun d hd => ?_, sB.trans s3, ?_⟩
    · rcases List.mem_append.mp hd with hd | hd
      · exact hlt d hd
      · rw [List.mem_singleton.mp hd]
        exact ⟨by omega, by omega⟩
    · rw [List.map_append, List.map_append]
      exact h3.w0
  · rintro H2 ⟨cs, B, l, hl, hcs, hlt, sB, hh⟩
    have hj := join_one cs
    have hsum : ((cs.map fun c => (⟨#[c]⟩ : Str)).map (·.length)).sum = cs.length := by
      clear hj hcs hlt hh
      induction cs with
      | nil => rfl
      | cons c cs ih =>
        rw [List.map_cons, List.map_cons, List.sum_cons, ih, List.length_cons]
        show 1 + _ = _
        omega
    refine ⟨Str.empty, D, (cs.map fun c => (⟨#[c]⟩ : Str)), rfl, rfl, .inl (SqL.of hh.r0), ?_, hq _ _ ⟨?_, ?_, ?_⟩ ⟨l, hl, (hh.drop).isChg (s1.trans sB)⟩⟩
    · rw [hsum]
      show _ + _ * 0 ≤ _
      omega
    · rw [hj]; omega
    · rw [hj]; omega
    · rw [hj]; exact hlt
def spNameL (K : PySem.W.Frag) : Sp := fun vs H Q _ => ∃ (g t : Addr) (tk : List Str), vs = [.ref g, .ref t] ∧ Bag g H ∧ g ≠ t ∧ H t = some (.lst (tk.map V.str)) ∧ (∀ x ∈ tk, Wd x) ∧ tk.length ≤ 20 ∧ ∀ x H', Wd x → x ∉ tk → Dr g H H' → Q (.str x) H'
abbrev N_nameL : List Str := ["_law_bag_here", "_law_taken", "_law_word_here", "_law_near", "_law_elder", "_law_one"]
theorem sc_nameL : FnScope N_nameL ["_law_bag_here", "_law_taken"] (defScope (top 33)) := ⟨rfl, rfl, rfl, by decide +kernel, rfl, by decide +kernel, by decide +kernel⟩
theorem freeL_succ (tk : List Str) (n : Nat) : freeL tk (n + 1) = if (⟨#[97 + n]⟩ : Str) ∈ tk then freeL tk n else freeL tk n ++ [(⟨#[97 + n]⟩ : Str)] := by
  unfold freeL
  rw [List.range_succ, List.map_append, List.filter_append]
  by_cases h : (⟨#[97 + n]⟩ : Str) ∈ tk
  · rw [if_pos h]
    simp [h]
  · rw [if_neg h]
    simp [h]
theorem freeL_le (tk : List Str) (n : Nat) : (freeL tk n).length ≤ n := by
  unfold freeL
  have := List.length_filter_le (fun x : Str => decide (x ∉ tk)) ((List.range n).map fun i => (⟨#[97 + i]⟩ : Str))
  rw [List.length_map, List.length_range] at this
  exact this
theorem k_nameL (T : Txt K mg) (F : DF K mg "_law_name" 33) (c_law_draw : Cal P w K mg base 1 "_law_draw" ["_law_bag_here", "_law_size"] spDraw) (c_law_word : Cal P w K mg base 2 "_law_word" ["_law_bag_here"] spWord) : Cal P w K mg base 3 "_law_name" ["_law_bag_here", "_law_taken"] (spNameL K) := by
  refine cal_of F.1 F.2 sc_nameL (fun _ _ _ _ _ _ us e => match us, e with | [_, _], _ => rfl) (fun vs H Q E s => by obtain ⟨_, _, _, rfl, _⟩ := s; rfl) ?_
  intro cdv A outer s H vs Q E hr h
  obtain ⟨g, tA, tk, rfl, hg, hne, hT, hW, hlen, hq⟩ := h
  have sc := sc_nameL
  obtain ⟨l0, hl0, h0⟩ := hg.take
  have hT0 : (L2.del H g) tA = some (.lst (tk.map V.str)) := by rw [del_ne hne.symm]; exact hT
  -- what follows the first if
  have tail : ∃ t, PSs (cxOf (L2.CX P w) P w K mg base N_nameL "_law_name" (defScope (top 33)) (He.ga K "_law_name") cdv A outer s H E) ((defBody (top 33)).drop 3) t ∧
      ∀ (t3 t4 : Option V) (H1 B : Hp) (l : List Int) (x : Str), Wd x → BagOk l → Same (L2.del H g) B → Hs B [(g, .lst (l.map V.int))] H1 → t { nx := fun _ H' => Q .non H', rt := Q } [some (.ref g), some (.ref tA), some (.str x), t3, t4, none] H1 := by
    refine ⟨_, (pss_cons (ps_if (pt_cmpR op_in_seq (pv 2) (pv 1) rfl)
        (pss_one (ps_set (i := 2) sc.nd rfl (Or.inl rfl) (pe_ix ix_list (pe_lc (own := [("_law_one", 5)]) (g := gName 5) (tt := tTest (tOp (rIn K true) (tVar 5) (tVar 1))) rfl sc.nd (pi_str pe_str) (blkOk_by (N := N_nameL) (sc := defScope (top 33)) (by decide +kernel)) (fun _ _ _ _ _ => (pg_name (i := 5) sc.nd rfl (Or.inl rfl))) (fun _ _ _ _ _ => (pts_one (pt_cmpR op_notIn_seq (pv 5) (pv 1) rfl))) (fun _ _ _ _ _ => (pv 5))) pe_int (fun _ _ => rfl))))
        pss_nil)
      (pss_one (ps_ret (pv 2)))), ?_⟩
    intro t3 t4 H1 B l x hx hl sB hh
    have hT1 : H1 tA = some (.lst (tk.map V.str)) := hh.sub _ _ (sB _ _ hT0)
    refine ⟨_, rfl, _, rfl, tA, _, rfl, .inl (SqL.of hT1), rfl, all_strs tk, _, rfl, ?_⟩
    show if inV (V.str x) (tk.map V.str) = true then _ else _
    rw [inV_strs]
    refine if_dec (fun c => ?_) (fun c => ?_)
    · refine ⟨_, rfl, fun D hD => lc_it walk_str (fun i H' => Hs B [(D, .lst ((freeL tk i).map V.str)), (g, .lst (l.map V.int))] H') (hh.new hD) (fun _ _ _ _ => trivial) ?_ ?_⟩
      · rintro i v _ H2 hi h2 ⟨rfl, c, hc, rfl⟩
        have hi26 : i < 26 := by
          have := abc_len
          exact hi
        rw [show ("abcdefghijklmnopqrstuvwxyz" : Str).cps[i]? = some (97 + i) from abc_at i hi26] at hc
        cases hc
        have hT2 : H2 tA = some (.lst (tk.map V.str)) := h2.sub _ _ (sB _ _ hT0)
        refine ⟨rfl, _, rfl, _, rfl, tA, _, rfl, .inl (SqL.of hT2), rfl, all_strs tk, _, rfl, ?_⟩
        show if (!inV (V.str ⟨#[97 + i]⟩) (tk.map V.str)) = true then _ else _
        rw [inV_strs]
        refine if_ndec (fun c => ?_) (fun c => ?_)
        · refine ⟨_, rfl, _, h2.r0, ?_, ?_⟩
          · have := freeL_le tk i
            rw [List.length_map, sizeLine_eq]
            omega
          · rw [freeL_succ, if_neg c, List.map_append]
            exact h2.w0
        · show Hs _ _ _
          rw [freeL_succ, if_pos c]
          exact h2
      · intro H2 h2
        rw [show ("abcdefghijklmnopqrstuvwxyz" : Str).cps.size = 26 from abc_len] at h2
        obtain ⟨y, r, e, hy, hyw⟩ := freeL_pos tk (by omega)
        rw [e] at h2
        refine ⟨D, _, _, _, rfl, rfl, SqL.of h2.r0, atI_nat (j := 0) rfl, _, rfl, hq y _ hyw hy ⟨l, hl, (h2.drop).isChg sB⟩⟩
    · exact ⟨_, rfl, hq x _ hx c ⟨l, hl, hh.isChg sB⟩⟩
  obtain ⟨t, pt, ht⟩ := tail
  refine ⟨_, (pss_cons (ps_set (i := 2) sc.nd rfl (Or.inl rfl) (pe_cal c_law_word hr (pa_cons (pv 0) pa_nil)))
      (pss_cons (ps_set (i := 3) sc.nd rfl (Or.inl rfl) (pe_cal c_law_draw hr (pa_cons (pv 0) (pa_cons pe_int pa_nil))))
      (pss_cons (ps_if (PW.pt (pw_and (pt_truth (pv 1) (by intro _; rfl)) (pw_and1 (pt_cmpR op_lt (pv 3) pe_int (nomark _)))))
        (pss_cons (ps_set (i := 4) sc.nd rfl (Or.inl rfl) (pe_ix ix_list (pv 1) (pe_cal c_law_draw hr (pa_cons (pv 0) (pa_cons (pe_callB call_len_seq (by rfl) T.len (by decide +kernel) (pa_cons (pv 1) pa_nil)) pa_nil))) (fun _ _ => rfl)))
        (pss_one (ps_if (PW.pt (pw_and (pt_cmpR op_eq (pv 3) pe_int (nomark _)) (pw_and1 (pt_cmpR op_lt (pe_callB call_len_str (by rfl) T.len (by decide +kernel) (pa_cons (pv 4) pa_nil)) pe_int (nomark _)))))
          (pss_one (ps_set (i := 2) sc.nd rfl (Or.inl rfl) (pe_op op_add_str (pv 4) (pe_ix ix_str (pv 2) pe_int (fun _ _ => rfl)))))
          (pss_one (ps_if (pt_cmpR op_gt (pe_callB call_len_str (by rfl) T.len (by decide +kernel) (pa_cons (pv 4) pa_nil)) pe_int (nomark _))
            (pss_one (ps_set (i := 2) sc.nd rfl (Or.inl rfl) (pe_slice sl_str (pv 4) po_none (po_some (pe_un un_neg pe_int)))))
            pss_nil)))))
        pss_nil)
      pt))), ?_⟩
  refine ⟨_, rfl, g, rfl, hg, fun x H1 hx d1 => ?_⟩
  obtain ⟨l1, B1, hl1, s1, h1, _⟩ := h0.dr0 d1
  refine ⟨_, rfl, g, 4, rfl, h1.bag hl1, by decide, by decide, fun n H2 hn d2 => ?_⟩
  obtain ⟨l2, B2, hl2, s2, h2, _⟩ := h1.dr0 d2
  have sB2 := s1.trans s2
  have hT2 : H2 tA = some (.lst (tk.map V.str)) := h2.sub _ _ (sB2 _ _ hT0)
  refine ⟨_, rfl, _, .inl ⟨_, SqL.of hT2, rfl⟩, if_bool (fun c1 => ?_) (fun c1 => ?_)⟩
  · refine ⟨_, rfl, _, _, rfl, rfl, _, rfl, if_dec (fun c2 => ?_) (fun c2 => ?_)⟩
    · have hpos : 0 < tk.length := by
        cases tk with
        | nil => simp at c1
        | cons a b => simp
      refine ⟨_, rfl, _, rfl, _, rfl, tA, _, rfl, .inl (SqL.of hT2), g, tk.length, by rw [List.length_map], h2.bag hl2, hpos, by omega, fun j H3 hj d3 => ?_⟩
      obtain ⟨l3, B3, hl3, s3, h3, _⟩ := h2.dr0 d3
      have sB3 := sB2.trans s3
      have hT3 : H3 tA = some (.lst (tk.map V.str)) := h3.sub _ _ (sB3 _ _ hT0)
      obtain ⟨el, hel⟩ : ∃ y, tk[j]? = some y := ⟨_, List.getElem?_eq_getElem hj⟩
      have wel := hW el (List.mem_of_getElem? hel)
      have lel := len_tl el
      have hsz : el.length ≤ sizeLine := by rw [sizeLine_eq, lel]; have := wel.2.1; omega
      refine ⟨tA, _, _, _, rfl, rfl, SqL.of hT3, atI_nat (by rw [List.getElem?_map, hel]; rfl), ?_⟩
      have more : ∀ H4, H4 = H3 → True := fun _ _ => trivial
      have two : ∀ D : Prop, D → D := fun _ h => h
      refine ⟨_, rfl, rfl, _, rfl, if_dec (fun c3 => ?_) (fun c3 => ?_)⟩
      · refine ⟨_, rfl, el, rfl, hsz, _, _, rfl, rfl, _, rfl, if_dec (fun c4 => ?_) (fun c4 => ?_)⟩
        · have hx0 : 0 < x.cps.toList.length := hx.1
          obtain ⟨c, hc⟩ : ∃ c, x.cps.toList[0]? = some c := ⟨_, List.getElem?_eq_getElem hx0⟩
          have lx := len_tl x
          refine ⟨_, rfl, _, rfl, x, _, c, rfl, rfl, by rw [sizeLine_eq, lx]; have := hx.2.1; omega, atI_nat (j := 0) hc, el, _, rfl, rfl, ?_, ht _ _ _ B3 l3 _ (wel.first hx (by omega) hc) hl3 sB3 h3⟩
          show el.length + 1 ≤ sizeLine
          rw [sizeLine_eq, lel]
          have := wel.2.1
          omega
        · refine ⟨_, rfl, el, rfl, hsz, _, _, rfl, rfl, _, rfl, if_dec (fun c5 => ?_) (fun c5 => ?_)⟩
          · exact ⟨_, rfl, _, rfl, _, rfl, el, rfl, hsz, ht _ _ _ B3 l3 _ (wel.cut (by omega)) hl3 sB3 h3⟩
          · exact ht _ _ _ B3 l3 _ hx hl3 sB3 h3
      · refine ⟨_, rfl, el, rfl, hsz, _, _, rfl, rfl, _, rfl, if_dec (fun c5 => ?_) (fun c5 => ?_)⟩
        · exact ⟨_, rfl, _, rfl, _, rfl, el, rfl, hsz, ht _ _ _ B3 l3 _ (wel.cut (by omega)) hl3 sB3 h3⟩
        · exact ht _ _ _ B3 l3 _ hx hl3 sB3 h3
    · exact ht _ _ _ B2 l2 _ hx hl2 sB2 h2
  · exact ht _ _ _ B2 l2 _ hx hl2 sB2 h2
end
end Sy
namespace Sy
open PySem PySem.Spec PyProof.Rows L2
section
variable {B H H' : Hp} {L : List (Addr × HO)} {g : Addr} {o : HO} {x y z : Addr × HO}
theorem Hs.rot (h : Hs B (x :: y :: z :: L) H) : Hs B (y :: z :: x :: L) H := h.perm ((List.Perm.swap _ _ _).trans (List.Perm.cons _ (List.Perm.swap _ _ _)))
theorem Hs.isDr (h : Hs B L H') {l : List Int} (hl : BagOk l) (m : (g, HO.lst (l.map V.int)) ∈ L) (s : Same (L2.del H g) B) : Dr g H H' := ⟨l, hl, h.own _ m, fun a w n e => h.sub _ _ (s _ _ (by rw [del_ne n]; exact e))⟩
end
theorem inV_nat (n : Nat) (ns : List Nat) : inV (.int (n : Int)) (vN ns) = decide (n ∈ ns) := by
  unfold inV vN
  induction ns with
  | nil => rfl
  | cons x l ih =>
    rw [List.map_cons, List.any_cons, ih]
    have : eqV (V.int (x : Int)) (V.int (n : Int)) = decide (x = n) := by
      show ((x : Int) == (n : Int)) = _
      by_cases h : x = n
      · subst h
        simp
      · rw [decide_eq_false h, beq_eq_false_iff_ne]
        omega
    rw [this]
    by_cases h : x = n
    · subst h
      simp
    · have h2 : n ≠ x := fun z => h z.symm
      simp [h, h2]
theorem all_nats (l : List Nat) : (vN l).all flatV = true := by
  rw [vN, List.all_map, List.all_eq_true]
  intro x _
  rfl
/-- rows as the law draws them -/
structure RowsL (rows : List Sy.Row) (most : Nat) : Prop where
  ok : RowsOk rows
  wd : ∀ r ∈ rows, Wd r.1
  le : rows.length ≤ most
  pos : 0 < rows.length
section
variable {P : Program} {w : World} {K : PySem.W.Frag} {mg : Str → Option Value} {base : Heap}
def spRows (K : PySem.W.Frag) : Sp := fun vs H Q _ => ∃ (g : Addr) (most : Nat), vs = [.ref g, .int (most : Nat)] ∧ Bag g H ∧ 1 ≤ most ∧ most ≤ 8 ∧ ∀ (q : Addr) (ps : List Addr) (rows : List Sy.Row) H', RowsL rows most → Dr g H H' → q ≠ g → H' q = some (.lst (ps.map V.ref)) →
  Paired (fun p (r : Sy.Row) => SqT K H' p [.str r.1, .int (r.2 : Nat)]) ps rows → Q (.ref q) H'
abbrev N_rows : List Str := ["_law_bag_here", "_law_most", "_law_names", "_law_numbers", "_law_k", "_law_place"]
theorem sc_rows : FnScope N_rows ["_law_bag_here", "_law_most"] (defScope (top 34)) := ⟨rfl, rfl, rfl, by decide +kernel, rfl, by decide +kernel, by decide +kernel⟩
theorem seven (j : Nat) (h : j < 7) : ∃ n : Nat, ([.int 0, .int 1, .int 2, .int 0, .int 2, .int 1, .int 3] : List V)[j]? = some (.int (n : Int)) ∧ n ≤ 3 := by
  match j, h with
  | 0, _ => exact ⟨0, rfl, by decide⟩
  | 1, _ => exact ⟨1, rfl, by decide⟩
  | 2, _ => exact ⟨2, rfl, by decide⟩
  | 3, _ => exact ⟨0, rfl, by decide⟩
  | 4, _ => exact ⟨2, rfl, by decide⟩
  | 5, _ => exact ⟨1, rfl, by decide⟩
  | 6, _ => exact ⟨3, rfl, by decide⟩
theorem k_rows (T : Txt K mg) (F : DF K mg "_law_rows" 34) (c_law_draw : Cal P w K mg base 1 "_law_draw" ["_law_bag_here", "_law_size"] spDraw) (c_law_name : Cal P w K mg base 3 "_law_name" ["_law_bag_here", "_law_taken"] (spNameL K)) : Cal P w K mg base 4 "_law_rows" ["_law_bag_here", "_law_most"] (spRows K) := by
  refine cal_of F.1 F.2 sc_rows (fun _ _ _ _ _ _ us e => match us, e with | [_, _], _ => rfl) (fun vs H Q E s => by obtain ⟨_, _, rfl, _⟩ := s; rfl) ?_
  intro cdv A outer s H vs Q E hr h
  obtain ⟨g, most, rfl, hg, hm1, hm8, hq⟩ := h
  have sc := sc_rows
  obtain ⟨l0, hl0, h0⟩ := hg.take
  generalize hB0 : L2.del H g = B0 at *
  -- the last row
  have fin : ∃ t, PSs (cxOf (L2.CX P w) P w K mg base N_rows "_law_rows" (defScope (top 34)) (He.ga K "_law_rows") cdv A outer s H E) ((defBody (top 34)).drop 4) t ∧
      ∀ (D1 D2 : Addr) (t4 t5 : Option V) (H1 B : Hp) (l : List Int) (nm : List Str) (ns : List Nat), BagOk l → nm.length = ns.length → 0 < nm.length → nm.length ≤ most → nm.Nodup → (∀ x ∈ nm, Wd x) → (∀ n ∈ ns, n ≤ 3) → 0 ∈ ns → Same B0 B →
        Hs B [(g, .lst (l.map V.int)), (D1, .lst (nm.map V.str)), (D2, .lst (vN ns))] H1 → t { nx := fun _ H' => Q .non H', rt := Q } [some (.ref g), some (.int (most : Nat)), some (.ref D1), some (.ref D2), t4, t5] H1 := by
    refine ⟨_, (pss_one (ps_ret (pe_lc (own := [("_law_k", 4)]) (g := gName 4) (te := tTup (tCons (tOp (rIxL K) (tVar 2) (tVar 4)) (tCons (tOp (rIxL K) (tVar 3) (tVar 4)) tNil))) rfl sc.nd (pi_range1 rfl T.range (pa_cons (pe_callB call_len_seq (by rfl) T.len (by decide +kernel) (pa_cons (pv 2) pa_nil)) pa_nil)) (blkOk_by (N := N_rows) (sc := defScope (top 34)) (by decide +kernel)) (fun _ _ _ _ _ => (pg_name (i := 4) sc.nd rfl (Or.inl rfl))) (fun _ _ _ _ _ => pts_nil) (fun _ _ _ _ _ => (pe_tup (pa_cons (pe_ix ix_list (pv 2) (pv 4) (fun _ _ => rfl)) (pa_cons (pe_ix ix_list (pv 3) (pv 4) (fun _ _ => rfl)) pa_nil))))))), ?_⟩
    intro D1 D2 t4 t5 H1 B l nm ns hl hnn hpos hmost hnd hwd h3 hzero sB hh
    refine ⟨_, rfl, D1, _, rfl, .inl (SqL.of hh.r1), _, rfl, by omega, by rw [List.length_map]; omega, fun q hq1 => lc_it (n := ((nm.map V.str).length : Int).toNat) walk_range (fun i H' => ∃ (B2 : Hp) (ps : List Addr), Same B B2 ∧ Hs B2 [(q, .lst (ps.map V.ref)), (g, .lst (l.map V.int)), (D1, .lst (nm.map V.str)), (D2, .lst (vN ns))] H' ∧ Paired (fun p (r : Sy.Row) => SqT K B2 p [.str r.1, .int (r.2 : Nat)]) ps ((nm.zip ns).take i))
      ⟨B, [], Same.refl _, hh.new hq1, .nil⟩ (fun _ _ _ _ => trivial) ?_ ?_⟩
    · rintro i v _ H2 hi ⟨B2, ps, s2, h2, pp⟩ ⟨rfl, rfl⟩
      have hi : i < nm.length := by
        rw [List.length_map] at hi
        omega
      obtain ⟨x, hx⟩ : ∃ x, nm[i]? = some x := ⟨_, List.getElem?_eq_getElem hi⟩
      obtain ⟨n, hn⟩ : ∃ n, ns[i]? = some n := ⟨_, List.getElem?_eq_getElem (by omega)⟩
      have hz : (nm.zip ns)[i]? = some (x, n) := by rw [List.getElem?_zip_eq_some]; exact ⟨hx, hn⟩
      have e0 : (0 : Int) + (i : Nat) = (i : Nat) := by omega
      have ppl := paired_len pp
      rw [List.length_take, List.length_zip] at ppl
      refine ⟨rfl, ?_⟩
      simp only [tYes, if_true]
      refine ⟨_, rfl, _, rfl, D1, _, _, _, rfl, rfl, SqL.of h2.r2, by rw [e0]; exact atI_nat (by rw [List.getElem?_map, hx]; rfl), _, rfl, _, rfl, D2, _, _, _, rfl, rfl, SqL.of h2.r3, by rw [e0]; exact atI_nat (vN_at hn), (by show 2 ≤ sizeLine; decide), fun p hp => ?_⟩
      have h3' := h2.tup (o := .tup [.str x, .int (n : Nat)]) hp
      have s3 : Same B2 (upd B2 p (.tup [.str x, .int (n : Nat)])) := up_same (h2.sub.free hp)
      refine ⟨_, h3'.r0, by rw [List.length_map, sizeLine_eq]; omega, _, ps ++ [p], s2.trans s3, by rw [List.map_append]; exact h3'.w0, ?_⟩
      rw [List.take_succ, hz]
      exact Paired.snoc (Paired.mapP pp fun _ _ z => Same.sqt s3 z) (SqT.of upd_same)
    · rintro H2 ⟨B2, ps, s2, h2, pp⟩
      rw [List.length_map, show ((nm.length : Int)).toNat = nm.length by omega, List.take_of_length_le (by rw [List.length_zip]; omega)] at pp
      have zf : (nm.zip ns).map (·.1) = nm := List.map_fst_zip (by omega)
      have zl : (nm.zip ns).length = nm.length := by rw [List.length_zip]; omega
      have mem1 : ∀ r ∈ nm.zip ns, r.1 ∈ nm := fun r hr => (List.of_mem_zip (a := r.1) (b := r.2) hr).1
      have mem2 : ∀ r ∈ nm.zip ns, r.2 ∈ ns := fun r hr => (List.of_mem_zip (a := r.1) (b := r.2) hr).2
      refine hq q ps (nm.zip ns) H2 ⟨⟨fun r hr => (hwd _ (mem1 r hr)).ok, fun r hr => h3 _ (mem2 r hr), by rw [zf]; exact hnd, ?_, by omega⟩, fun r hr => hwd _ (mem1 r hr), by omega, by omega⟩ (h2.isDr hl (by simp) (by rw [hB0]; exact sB.trans s2)) ?_ h2.r0 (Paired.mapP pp fun _ _ z => Same.sqt h2.sub z)
      · obtain ⟨j, hj, ej⟩ := List.mem_iff_getElem.mp hzero
        have hj2 : j < nm.length := by omega
        refine ⟨(nm[j], ns[j]), List.mem_iff_getElem.mpr ⟨j, by rw [List.length_zip]; omega, List.getElem_zip⟩, ej⟩
      · have := (List.nodup_cons.mp h2.nd).1
        exact fun z => this (by rw [z]; simp)
  obtain ⟨tf, pf, hf⟩ := fin
  refine ⟨_, (pss_cons (ps_set (i := 2) sc.nd rfl (Or.inr rfl) (pe_lst pa_nil))
      (pss_cons (ps_set (i := 3) sc.nd rfl (Or.inr rfl) (pe_lst pa_nil))
      (pss_cons (ps_for (passes_of rfl) rfl (pi_range1 rfl T.range (pa_cons (pe_op op_add pe_int (pe_cal c_law_draw hr (pa_cons (pv 0) (pa_cons (pv 1) pa_nil)))) pa_nil)) (pg_name (i := 4) sc.nd rfl (Or.inl rfl))
        (pss_cons (ps_expr (pe_bm PySem.F.plainAttrs_list PySem.F.slot_list_append PySem.F.type_list_append mt_append (pv 2) (pa_cons (pe_cal c_law_name hr (pa_cons (pv 0) (pa_cons (pv 2) pa_nil))) pa_nil)))
        (pss_one (ps_expr (pe_bm PySem.F.plainAttrs_list PySem.F.slot_list_append PySem.F.type_list_append mt_append (pv 3) (pa_cons (pe_ix ix_list (pe_lst (pa_cons pe_int (pa_cons pe_int (pa_cons pe_int (pa_cons pe_int (pa_cons pe_int (pa_cons pe_int (pa_cons pe_int pa_nil)))))))) (pe_cal c_law_draw hr (pa_cons (pv 0) (pa_cons pe_int pa_nil))) (fun _ _ => rfl)) pa_nil))))))
      (pss_cons (ps_if (pt_cmpR op_notIn_seq pe_int (pv 3) rfl)
        (pss_cons (ps_set (i := 5) sc.nd rfl (Or.inl rfl) (pe_cal c_law_draw hr (pa_cons (pv 0) (pa_cons (pe_callB call_len_seq (by rfl) T.len (by decide +kernel) (pa_cons (pv 3) pa_nil)) pa_nil))))
        (pss_one (ps_asg pe_int (pg_sub (pv 3) (pv 5) set_list))))
        pss_nil)
      pf)))), ?_⟩
  refine ⟨by decide, fun D1 hD1 => ⟨by decide, fun D2 hD2 => ?_⟩⟩
  have h1 := ((h0.new (o := .lst []) hD1).swap.new (o := .lst []) hD2).rot
  refine ⟨_, rfl, _, rfl, g, most, rfl, h1.bag hl0, hm1, by omega, fun r H1 hr1 d1 => ?_⟩
  obtain ⟨l1, B1, hl1, s1, h1, _⟩ := h1.dr0 d1
  refine ⟨_, _, rfl, rfl, _, rfl, by omega, by omega, for_rng (n := (1 + (r : Int)).toNat)
    (fun i σ H' => ∃ t4 B l nm ns, σ = [some (.ref g), some (.int (most : Nat)), some (.ref D1), some (.ref D2), t4, none] ∧ BagOk l ∧ nm.length = i ∧ ns.length = i ∧ nm.Nodup ∧ (∀ x ∈ nm, Wd x) ∧ (∀ n ∈ ns, n ≤ 3) ∧ Same B0 B ∧ Hs B [(g, .lst (l.map V.int)), (D1, .lst (nm.map V.str)), (D2, .lst (vN ns))] H')
    ⟨none, B1, l1, [], [], rfl, hl1, rfl, rfl, List.nodup_nil, fun _ z => (nomatch z), fun _ z => (nomatch z), s1, h1⟩ ?_ ?_⟩
  · rintro i σ H2 hi ⟨t4, B, l, nm, ns, rfl, hl, en, es, nd, wd, n3, sB, hh⟩
    have hne : g ≠ D1 := by
      have := (List.nodup_cons.mp hh.nd).1
      exact fun z => this (by rw [z]; simp)
    refine ⟨_, rfl, .inl ⟨rfl, _, SqL.of hh.r1⟩, _, rfl, _, rfl, g, D1, nm, rfl, hh.bag hl, hne, hh.r1, wd, by omega, fun x H3 hx hxn d3 => ?_⟩
    obtain ⟨l3, B3, hl3, s3, h3, _⟩ := hh.dr0 d3
    refine ⟨D1, _, _, rfl, rfl, h3.r1, by rw [List.length_map, sizeLine_eq]; omega, ?_⟩
    have h4 := h3.w1 (o' := .lst (nm.map V.str ++ [.str x]))
    refine ⟨_, rfl, .inl ⟨rfl, _, SqL.of h4.r2⟩, by decide, fun p hp => ?_⟩
    have h5 := h4.lay (o := .lst [.int 0, .int 1, .int 2, .int 0, .int 2, .int 1, .int 3]) hp
    refine ⟨_, rfl, g, 7, rfl, h5.bag hl3, by decide, by decide, fun j H6 hj d6 => ?_⟩
    have hp6 : H6 p = some (.lst [.int 0, .int 1, .int 2, .int 0, .int 2, .int 1, .int 3]) := by
      obtain ⟨_, _, c⟩ := d6
      exact c.2 _ _ (h4.ne_of_new hp (g, .lst (l3.map V.int)) (by simp)).symm upd_same
    obtain ⟨l6, B6, hl6, s6, h6, _⟩ := h5.dr0 d6
    obtain ⟨n, hn, hn3⟩ := seven j hj
    refine ⟨p, _, _, _, rfl, rfl, SqL.of hp6, atI_nat hn, D2, _, _, rfl, rfl, h6.r2, by rw [List.length_map, sizeLine_eq]; omega, _, _, _, nm ++ [x], ns ++ [n], rfl, hl6, by rw [List.length_append, en]; rfl, by rw [List.length_append, es]; rfl, ?_, fun y hy => ?_, fun y hy => ?_, (sB.trans s3).trans s6, ?_⟩
    · exact List.nodup_append.mpr ⟨nd, by simp, fun a ha b hb => by rw [List.mem_singleton.mp hb]; exact fun z => hxn (z ▸ ha)⟩
    · rcases List.mem_append.mp hy with hy | hy
      · exact wd y hy
      · rw [List.mem_singleton.mp hy]; exact hx
    · rcases List.mem_append.mp hy with hy | hy
      · exact n3 y hy
      · rw [List.mem_singleton.mp hy]; exact hn3
    · rw [List.map_append, vN, List.map_append]
      exact h6.w2
  · rintro σ H2 ⟨t4, B, l, nm, ns, rfl, hl, en, es, nd, wd, n3, sB, hh⟩
    refine ⟨_, rfl, D2, _, rfl, .inl (SqL.of hh.r2), rfl, all_nats ns, _, rfl, ?_⟩
    show if (!inV (V.int ((0 : Nat) : Int)) (vN ns)) = true then _ else _
    rw [inV_nat]
    refine if_ndec (fun c => ?_) (fun c => ?_)
    · refine ⟨_, rfl, _, rfl, D2, _, rfl, .inl (SqL.of hh.r2), g, ns.length, by rw [vN, List.length_map], hh.bag hl, by omega, by omega, fun j H3 hj d3 => ?_⟩
      obtain ⟨l3, B3, hl3, s3, h3, _⟩ := hh.dr0 d3
      refine ⟨_, rfl, _, rfl, D2, _, _, j, rfl, rfl, h3.r2, ixN_nat (by rw [List.length_map]; exact hj), ?_⟩
      refine hf D1 D2 _ _ _ B3 l3 nm (ns.set j 0) hl3 (by rw [List.length_set]; omega) (by omega) (by omega) nd wd (fun y hy => ?_) ?_ (sB.trans s3) ?_
      · rcases List.mem_or_eq_of_mem_set hy with hy | hy
        · exact n3 y hy
        · omega
      · exact List.mem_iff_getElem.mpr ⟨j, by rw [List.length_set]; exact hj, List.getElem_set_self ..⟩
      · rw [← vN_set]
        exact h3.w2
    · exact hf D1 D2 _ _ _ B l nm ns hl (by omega) (by omega) (by omega) nd wd n3 c sB hh
end
end Sy
namespace Sy
open PySem PySem.Spec PyProof.Rows L2
/-- the law's rows as a list at q -/
def RL (K : PySem.W.Frag) (H : Hp) (q : Addr) (rows : List Sy.Row) : Prop := ∃ ps : List Addr, H q = some (.lst (ps.map V.ref)) ∧ Paired (fun p (r : Sy.Row) => SqT K H p [.str r.1, .int (r.2 : Nat)]) ps rows
theorem RL.mono {K : PySem.W.Frag} {H H' : Hp} {q : Addr} {rows : List Sy.Row} (h : RL K H q rows) (s : Same H H') : RL K H' q rows := by
  obtain ⟨ps, h1, h2⟩ := h
  exact ⟨ps, s _ _ h1, Paired.mapP h2 fun _ _ z => Same.sqt s z⟩
theorem sqt_delL {K : PySem.W.Frag} {H : Hp} {g p : Addr} {xs ys : List V} (h : SqT K H p xs) (hg : H g = some (.lst ys)) : SqT K (L2.del H g) p xs := (stay_del hg).sqt h
theorem RL.del {K : PySem.W.Frag} {H : Hp} {q g : Addr} {rows : List Sy.Row} {ys : List V} (h : RL K H q rows) (ne : q ≠ g) (hg : H g = some (.lst ys)) : RL K (L2.del H g) q rows := by
  obtain ⟨ps, h1, h2⟩ := h
  exact ⟨ps, by rw [del_ne ne]; exact h1, Paired.mapP h2 fun _ _ z => sqt_delL z hg⟩
/-- the number of branches, -1 if it is no kind -/
def numb (rows : List Sy.Row) (x : Str) : Int := match rows.lookup x with
  | some n => (n : Int)
  | none => -1
theorem numb_ar {rows : List Sy.Row} {x : Str} (h : isK rows x = true) : numb rows x = (ar rows x : Nat) := by
  unfold numb ar
  unfold isK at h
  cases e : rows.lookup x with
  | none => rw [e] at h; cases h
  | some n => rfl
section
variable {P : Program} {w : World} {K : PySem.W.Frag} {mg : Str → Option Value} {base : Heap}
/-! _law_bag -/
def spBag (K : PySem.W.Frag) : Sp := fun vs H Q _ => ∃ (s : Addr) (zs : List Int), vs = [.ref s] ∧ SqL K H s (zs.map V.int) ∧ zs.length ≤ 100000 ∧ ∀ g H', H g = none → Same H H' → Bag g H' → Q (.ref g) H'
abbrev N_bag : List Str := ["_law_script", "_law_cell"]
theorem sc_bag : FnScope N_bag ["_law_script"] (defScope (top 30)) := ⟨rfl, rfl, rfl, by decide +kernel, rfl, by decide +kernel, by decide +kernel⟩
theorem k_bag (T : Txt K mg) (F : DF K mg "_law_bag" 30) : Cal P w K mg base 1 "_law_bag" ["_law_script"] (spBag K) := by
  refine cal_of F.1 F.2 sc_bag (fun _ _ _ _ _ _ us e => match us, e with | [_], _ => rfl) (fun vs H Q E s => by obtain ⟨_, _, rfl, _⟩ := s; rfl) ?_
  intro cdv A outer s H vs Q E hr h
  obtain ⟨sa, zs, rfl, hs, hl, hq⟩ := h
  have sc := sc_bag
  refine ⟨_, (pss_one (ps_ret (pe_op op_cat (pe_lst (pa_cons pe_int (pa_cons pe_int (pa_cons pe_int (pa_cons pe_int pa_nil))))) (pe_lc (own := [("_law_cell", 1)]) (g := gName 1) rfl sc.nd (pi_list (pv 0)) (blkOk_by (N := N_bag) (sc := defScope (top 30)) (by decide +kernel)) (fun _ _ _ _ _ => (pg_name (i := 1) sc.nd rfl (Or.inl rfl))) (fun _ _ _ _ _ => pts_nil) (fun _ _ _ _ _ => (pe_callB call_abs (by rfl) T.abs (by decide +kernel) (pa_cons (pe_callTy call_int1 (by rfl) T.int (by decide +kernel) (pa_cons (pv 1) pa_nil)) pa_nil))))))), ?_⟩
  refine ⟨(by show 4 ≤ sizeLine; decide), fun p hp => ?_⟩
  have h1 := (Hs.start H).new (o := .lst [.int 0, .int 0, .int 0, .int 4]) hp
  refine ⟨_, rfl, sa, rfl, ⟨_, Same.seq h1.sub hs⟩, fun D hD => lc_it walk_list (fun i H' => ∃ ys : List Int, ys.length = i ∧ (∀ y ∈ ys, 0 ≤ y) ∧ Hs H [(D, .lst (ys.map V.int)), (p, .lst [.int 0, .int 0, .int 0, .int 4])] H') ⟨[], rfl, fun _ z => (nomatch z), h1.new hD⟩ (fun _ _ _ ⟨_, _, _, z⟩ => Same.seq z.sub hs) ?_ ?_⟩
  · rintro i v H2 _ hi ⟨ys, hy, hp0, hh⟩ ⟨rfl, hv⟩
    obtain ⟨z, _, rfl⟩ := map_at hv
    rw [List.length_map] at hi
    refine ⟨rfl, ?_⟩
    simp only [tYes, if_true]
    refine ⟨_, rfl, .inl ⟨z, rfl, z, rfl, _, hh.r0, by rw [List.length_map, sizeLine_eq]; omega, ys ++ [if z < 0 then -z else z], by rw [List.length_append, hy]; rfl, fun y hy => ?_, ?_⟩⟩
    · rcases List.mem_append.mp hy with hy | hy
      · exact hp0 y hy
      · rw [List.mem_singleton.mp hy]
        split <;> omega
    · rw [List.map_append]
      exact hh.w0
  · rintro H2 ⟨ys, hy, hp0, hh⟩
    rw [List.length_map] at hy
    refine ⟨p, D, _, _, rfl, rfl, hh.r1, hh.r0, by rw [List.length_map, sizeLine_eq]; show 4 + _ ≤ _; omega, fun g hg => hq g _ (hh.sub.free hg) (hh.sub.trans (up_same hg)) ⟨0 :: 0 :: 0 :: 4 :: ys, ⟨0, 0, 0, 4, ys, rfl, by decide, by decide, hp0⟩, upd_same⟩⟩
def spNum (K : PySem.W.Frag) : Sp := fun vs H Q _ => ∃ (q : Addr) (rows : List Sy.Row) (x : Str), vs = [.ref q, .str x] ∧ RL K H q rows ∧ Q (.int (numb rows x)) H
abbrev N_num : List Str := ["_law_rows_here", "_law_word_here", "_law_row"]
theorem sc_num : FnScope N_num ["_law_rows_here", "_law_word_here"] (defScope (top 35)) := ⟨rfl, rfl, rfl, by decide +kernel, rfl, by decide +kernel, by decide +kernel⟩
theorem numb_cons (r : Sy.Row) (l : List Sy.Row) (x : Str) : numb (r :: l) x = if r.1 = x then (r.2 : Int) else numb l x := by
  unfold numb
  rw [lookup_cons]
  by_cases h : r.1 = x
  · rw [if_pos h, if_pos h]
  · rw [if_neg h, if_neg h]
theorem k_num (T : Txt K mg) (F : DF K mg "_law_number" 35) : Cal P w K mg base 1 "_law_number" ["_law_rows_here", "_law_word_here"] (spNum K) := by
  refine cal_of F.1 F.2 sc_num (fun _ _ _ _ _ _ us e => match us, e with | [_, _], _ => rfl) (fun vs H Q E s => by obtain ⟨_, _, _, rfl, _⟩ := s; rfl) ?_
  intro cdv A outer s H vs Q E hr h
  obtain ⟨q, rows, x, rfl, ⟨ps, hL, hp⟩, hq⟩ := h
  have sc := sc_num
  have hpl := paired_len hp
  refine ⟨_, (pss_cons (ps_for (passes_of rfl) rfl (pi_list (pv 0)) (pg_name (i := 2) sc.nd rfl (Or.inl rfl))
        (pss_one (ps_if (pt_cmpR op_eq (pe_ix ix_tup (pv 2) pe_int (fun _ _ => rfl)) (pv 1) (nomark _))
          (pss_one (ps_ret (pe_ix ix_tup (pv 2) pe_int (fun _ _ => rfl))))
          pss_nil)))
      (pss_one (ps_ret (pe_un un_neg pe_int)))), ?_⟩
  refine ⟨_, rfl, q, rfl, ⟨_, SqL.of hL⟩, for_list (K := K) (xs := ps.map V.ref) (fun i σ H' => ∃ t2, σ = [some (.ref q), some (.str x), t2] ∧ H' = H ∧ numb (rows.drop i) x = numb rows x) ⟨none, rfl, rfl, by rw [List.drop_zero]⟩ (fun _ _ _ _ ⟨_, _, e, _⟩ => e ▸ SqL.of hL) ?_ ?_⟩
  · rintro i v σ _ hv ⟨t2, rfl, rfl, e⟩
    obtain ⟨p, ep, rfl⟩ := map_at hv
    have hi : i < rows.length := by rw [← hpl]; exact (List.getElem?_eq_some_iff.mp ep).1
    obtain ⟨r, er⟩ : ∃ r, rows[i]? = some r := ⟨_, List.getElem?_eq_getElem hi⟩
    obtain ⟨p2, ep2, tp⟩ := paired_at hp er
    rw [ep] at ep2
    cases ep2
    rw [drop_of er, numb_cons] at e
    refine ⟨_, rfl, p, _, _, _, rfl, rfl, tp, atI_nat (j := 0) rfl, _, rfl, rfl, _, rfl, if_dec (fun c => ?_) (fun c => ?_)⟩
    · rw [if_pos (V.str.inj c)] at e
      rw [← e] at hq
      exact ⟨_, rfl, p, _, _, _, rfl, rfl, tp, atI_nat (j := 1) rfl, hq⟩
    · rw [if_neg (fun z => c (by rw [z]))] at e
      exact ⟨_, rfl, rfl, e⟩
  · rintro σ _ ⟨t2, rfl, rfl, e⟩
    rw [List.length_map, hpl, List.drop_length] at e
    have e : (-1 : Int) = numb rows x := e
    rw [← e] at hq
    exact ⟨_, rfl, hq⟩
end
end Sy
namespace Sy
open PySem PySem.Spec PyProof.Rows L2
theorem Dr.same {g : Addr} {H H1 H2 : Hp} (d : Dr g H H1) (s : Same H1 H2) : Dr g H H2 := by
  obtain ⟨l, hl, c⟩ := d
  exact ⟨l, hl, s _ _ c.1, fun a w n e => s _ _ (c.2 a w n e)⟩
theorem Dr.trans {g : Addr} {H H1 H2 : Hp} (a : Dr g H H1) (b : Dr g H1 H2) : Dr g H H2 := by
  obtain ⟨l, _, c⟩ := a
  obtain ⟨m, hm, d⟩ := b
  exact ⟨m, hm, Chg.trans c d⟩
theorem Dr.bag {g : Addr} {H H1 : Hp} (d : Dr g H H1) : Bag g H1 := by
  obtain ⟨l, hl, c⟩ := d
  exact ⟨l, hl, c.1⟩
/-- a comprehension over a list, with a test; nothing else is made -/
theorem lc_filt {K : PySem.W.Frag} {α : Type} {a : Addr} {xs : List α} {f out : α → V} {keep : α → Bool} {si : Nat} {tt : TT} {te : TE} {σ : L2.St} {H B : Hp} {L : List (Addr × HO)} {D : Addr} {Qd : Hp → Prop} (h : Hs B L H) (hD : H D = none) (ha : B a = some (.lst (xs.map f))) (hsz : xs.length ≤ 100000)
    (hs : ∀ x ∈ xs, ∀ H', Same B H' → ∀ (R1 : VK) (R2 : Hp → Prop), (keep x = true → R1 (out x) H') → (keep x = false → R2 H') → tt ((wipe σ [si]).set si (some (f x))) H' fun b H3 => if b = true then te ((wipe σ [si]).set si (some (f x))) H3 R1 else R2 H3)
    (hd : ∀ H', Hs B ((D, .lst ((xs.filter keep).map out)) :: L) H' → Qd H') : LcW (Itl K a) (gName si) tt te [si] σ H D Qd := by
  refine lc_it (walk_list (K := K) (a := a) (xs := xs.map f)) (fun i H' => Hs B ((D, .lst (((xs.take i).filter keep).map out)) :: L) H') (h.new hD) (fun _ _ _ z => SqL.of (z.sub _ _ ha)) ?_ ?_
  · rintro i v _ H2 hi hh ⟨rfl, hv⟩
    obtain ⟨x, hx, rfl⟩ := map_at hv
    rw [List.length_map] at hi
    have et : xs.take (i + 1) = xs.take i ++ [x] := by rw [List.take_succ, hx]; rfl
    have hl : ((xs.take i).filter keep).length ≤ i := by
      have := List.length_filter_le keep (xs.take i)
      rw [List.length_take] at this
      omega
    refine ⟨(by show (σ.set si none |>.set si _).set si none = σ.set si none; rw [List.set_set, List.set_set]), ?_⟩
    refine hs x (List.mem_of_getElem? hx) H2 hh.sub _ _ (fun c => ?_) (fun c => ?_)
    · refine ⟨_, hh.r0, by rw [List.length_map, sizeLine_eq]; omega, ?_⟩
      rw [et, List.filter_append, List.map_append]
      have : [x].filter keep = [x] := by simp [c]
      rw [this]
      exact hh.w0
    · rw [et, List.filter_append]
      have : [x].filter keep = [] := by simp [c]
      rw [this, List.append_nil]
      exact hh
  · intro H' hh
    rw [List.length_map, List.take_length] at hh
    exact hd H' hh
theorem lookup_mem {rows : List Sy.Row} (nd : (rows.map (·.1)).Nodup) {r : Sy.Row} (hr : r ∈ rows) : rows.lookup r.1 = some r.2 := by
  induction rows with
  | nil => cases hr
  | cons q rs ih =>
    rw [List.map_cons, List.nodup_cons] at nd
    rw [lookup_cons]
    rcases List.mem_cons.mp hr with rfl | hr
    · rw [if_pos rfl]
    · rw [if_neg, ih nd.2 hr]
      exact fun z => nd.1 (by rw [z]; exact List.mem_map_of_mem hr)
/-- words as the law makes them -/
def Wx (x : Str) : Prop := x.cps.toList.length ≤ 10 ∧ ∀ c ∈ x.cps.toList, c < 1000
theorem Wd.wx {x : Str} (h : Wd x) : Wx x := ⟨by have := h.2.1; omega, fun c hc => by have := (h.2.2 c hc).2; omega⟩
theorem Wx.hole : Wx "*" := ⟨by decide +kernel, by decide +kernel⟩
/-- a row of words at p -/
structure Rw (K : PySem.W.Frag) (H : Hp) (p : Addr) (l : List Str) : Prop where
  sq : SqT K H p (l.map V.str)
  nd : NoD H p
  wx : ∀ x ∈ l, Wx x
/-- an entry with its number of branches -/
structure KdR (rows : List Sy.Row) (r : Sy.Row) : Prop where
  wx : Wx r.1
  kd : isK rows r.1 = true ∨ r.1 ∈ [("*" : Str)]
  ar : ar rows r.1 = r.2
theorem KdR.of {rows : List Sy.Row} (nd : (rows.map (·.1)).Nodup) {r : Sy.Row} (w : Wx r.1) (hr : r ∈ rows) : KdR rows r := by
  have hlk := lookup_mem nd hr
  exact ⟨w, .inl (by unfold isK; rw [hlk]; rfl), by unfold Sy.ar; rw [hlk]; rfl⟩
theorem no_hole {rows : List Sy.Row} (ok : RowsOk rows) : isK rows "*" = false := by
  cases e : isK rows "*" with
  | false => rfl
  | true =>
    obtain ⟨r, hr, h⟩ := isK_mem e
    have := ok.nm r hr
    rw [h] at this
    exact absurd this (by decide +kernel)
theorem KdR.hole {rows : List Sy.Row} (ok : RowsOk rows) : KdR rows ("*", 0) := by
  have := no_hole ok
  refine ⟨Wx.hole, .inr (List.mem_singleton.mpr rfl), ?_⟩
  unfold isK at this
  unfold Sy.ar
  show (rows.lookup ("*" : Str)).getD 0 = 0
  cases e : rows.lookup ("*" : Str) with
  | none => rfl
  | some n => rw [e] at this; cases this
section
variable {P : Program} {w : World} {K : PySem.W.Frag} {mg : Str → Option Value} {base : Heap}
/-! _law_plant -/
def spPlantL (K : PySem.W.Frag) : Sp := fun vs H Q _ => ∃ (g q : Addr) (most : Nat) (wh : Bool) (rows : List Sy.Row), vs = [.ref g, .ref q, .int (most : Nat), .bl wh] ∧ Bag g H ∧ q ≠ g ∧ RL K H q rows ∧ RowsOk rows ∧ (∀ r ∈ rows, Wx r.1) ∧ 1 ≤ most ∧ most ≤ 2000 ∧
  ∀ l p H', 1 ≤ l.length → l.length ≤ most → fa rows ["*"] 1 0 l < 0 → Dr g H H' → Rw K H' p l → Q (.ref p) H'
abbrev N_plantL : List Str := ["_law_bag_here", "_law_rows_here", "_law_most", "_law_with_holes", "_law_menu", "_law_least", "_law_plant_here", "_law_need", "_law_k", "_law_room", "_law_let", "_law_wide", "_law_chosen", "_law_row"]
theorem sc_plantL : FnScope N_plantL ["_law_bag_here", "_law_rows_here", "_law_most", "_law_with_holes"] (defScope (top 36)) := ⟨rfl, rfl, rfl, by decide +kernel, rfl, by decide +kernel, by decide +kernel⟩
def sBody : Stmt → List Stmt
  | .For _ _ b _ _ => b
  | .If _ b _ _ => b
  | .While _ b _ _ => b
  | _ => []
theorem k_plantL (T : Txt K mg) (F : DF K mg "_law_plant" 36) (c_law_draw : Cal P w K mg base 1 "_law_draw" ["_law_bag_here", "_law_size"] spDraw) : Cal P w K mg base 2 "_law_plant" ["_law_bag_here", "_law_rows_here", "_law_most", "_law_with_holes"] (spPlantL K) := by
  refine cal_of F.1 F.2 sc_plantL (fun _ _ _ _ _ _ us e => match us, e with | [_, _, _, _], _ => rfl) (fun vs H Q E s => by obtain ⟨_, _, _, _, _, rfl, _⟩ := s; rfl) ?_
  intro cdv A outer s H vs Q E hr h
  obtain ⟨g, q, most, wh, rows, rfl, hg, hqg, hRL, ok, hwx, hm1, hm2, hq⟩ := h
  have sc := sc_plantL
  -- a knot is drawn out of the list in slot 10
  have last : ∃ t, PSs (cxOf (L2.CX P w) P w K mg base N_plantL "_law_plant" (defScope (top 36)) (He.ga K "_law_plant") cdv A outer s H E) ((sBody ((sBody ((defBody (top 36)).getD 5 (.Pass ⟨0, 0, 0, 0⟩))).getD 0 (.Pass ⟨0, 0, 0, 0⟩))).drop 4) t ∧
      ∀ (D : Ends) (PL E : Addr) (cs : List (Addr × Sy.Row)) (B H1 : Hp) (lb : List Int) (pl : List Str) (need : Int) (t4 t5 t8 t9 t11 t12 : Option V), BagOk lb → 0 < cs.length → cs.length ≤ 9 → B E = some (.lst (cs.map fun z => V.ref z.1)) → (∀ z ∈ cs, SqT K B z.1 [.str z.2.1, .int (z.2.2 : Nat)]) →
        Hs B [(g, .lst (lb.map V.int)), (PL, .lst (pl.map V.str))] H1 → pl.length ≤ 2000 →
        (∀ z ∈ cs, ∀ (B' H' : Hp) (lb' : List Int), BagOk lb' → Same B B' → Hs B' [(g, .lst (lb'.map V.int)), (PL, .lst ((pl ++ [z.2.1]).map V.str))] H' →
          D.nx [some (.ref g), some (.ref q), some (.int (most : Nat)), some (.bl wh), t4, t5, some (.ref PL), some (.int (need + (z.2.2 : Nat) - 1)), t8, t9, some (.ref E), t11, some (.ref z.1), none] H') →
        t D [some (.ref g), some (.ref q), some (.int (most : Nat)), some (.bl wh), t4, t5, some (.ref PL), some (.int need), t8, t9, some (.ref E), t11, t12, none] H1 := by
    refine ⟨_, (pss_cons (ps_set (i := 12) sc.nd rfl (Or.inl rfl) (pe_ix ix_list (pv 10) (pe_cal c_law_draw hr (pa_cons (pv 0) (pa_cons (pe_callB call_len_seq (by rfl) T.len (by decide +kernel) (pa_cons (pv 10) pa_nil)) pa_nil))) (fun _ _ => rfl)))
          (pss_cons (ps_expr (pe_bm PySem.F.plainAttrs_list PySem.F.slot_list_append PySem.F.type_list_append mt_append (pv 6) (pa_cons (pe_ix ix_tup (pv 12) pe_int (fun _ _ => rfl)) pa_nil)))
          (pss_one (ps_set (i := 7) sc.nd rfl (Or.inl rfl) (pe_op op_sub (pe_op op_add (pv 7) (pe_ix ix_tup (pv 12) pe_int (fun _ _ => rfl))) pe_int))))), ?_⟩
    intro D PL E cs B H1 lb pl need t4 t5 t8 t9 t11 t12 hlb hc0 hc8 hE hz hh hpl hnx
    refine ⟨_, rfl, _, rfl, _, rfl, E, _, rfl, .inl (SqL.of (hh.sub _ _ hE)), g, cs.length, by rw [List.length_map], hh.bag hlb, hc0, by omega, fun j H2 hj d2 => ?_⟩
    obtain ⟨l2, B2, hl2, s2, h2, _⟩ := hh.dr0 d2
    obtain ⟨z, ez⟩ : ∃ z, cs[j]? = some z := ⟨_, List.getElem?_eq_getElem hj⟩
    have hm := List.mem_of_getElem? ez
    have tz := Same.sqt (s2.trans h2.sub) (hz z hm)
    refine ⟨E, _, _, _, rfl, rfl, SqL.of (h2.sub _ _ (s2 _ _ hE)), atI_nat (by rw [List.getElem?_map, ez]; rfl), ?_⟩
    refine ⟨_, rfl, .inl ⟨rfl, _, SqL.of h2.r1⟩, _, rfl, z.1, _, _, _, rfl, rfl, tz, atI_nat (j := 0) rfl, PL, _, _, rfl, rfl, h2.r1, by rw [List.length_map, sizeLine_eq]; omega, ?_⟩
    have h3 := h2.w1 (o' := .lst (pl.map V.str ++ [.str z.2.1]))
    have tz3 := Same.sqt (s2.trans h3.sub) (hz z hm)
    refine ⟨_, rfl, _, rfl, z.1, _, _, _, rfl, rfl, tz3, atI_nat (j := 1) rfl, _, _, rfl, rfl, _, _, rfl, rfl, hnx z hm B2 _ l2 hl2 s2 ?_⟩
    rw [List.map_append]
    exact h3
  obtain ⟨tL, pL, hLast⟩ := last
  have rest : ∃ t, PSs (cxOf (L2.CX P w) P w K mg base N_plantL "_law_plant" (defScope (top 36)) (He.ga K "_law_plant") cdv A outer s H E) ((defBody (top 36)).drop 2) t ∧
      ∀ (M : Addr) (pr : List (Addr × Sy.Row)) (B1 H1 : Hp) (l0 : List Int), BagOk l0 → Same (L2.del H g) B1 → Hs B1 [(g, .lst (l0.map V.int))] H1 → B1 M = some (.lst (pr.map fun z => V.ref z.1)) → (∀ z ∈ pr, SqT K B1 z.1 [.str z.2.1, .int (z.2.2 : Nat)]) → (∀ z ∈ pr, KdR rows z.2) → (∃ z ∈ pr, z.2.2 = 0) → pr.length ≤ 9 →
        t { nx := fun _ H' => Q .non H', rt := Q } [some (.ref g), some (.ref q), some (.int (most : Nat)), some (.bl wh), some (.ref M), none, none, none, none, none, none, none, none, none] H1 := by
    refine ⟨_, (pss_cons (ps_set (i := 5) sc.nd rfl (Or.inl rfl) (pe_cal c_law_draw hr (pa_cons (pv 0) (pa_cons (pe_op op_add (pv 2) pe_int) pa_nil))))
      (pss_cons (ps_set (i := 6) sc.nd rfl (Or.inl rfl) (pe_lst pa_nil))
      (pss_cons (ps_set (i := 7) sc.nd rfl (Or.inl rfl) pe_int)
      (pss_cons (ps_for (passes_of rfl) rfl (pi_range1 rfl T.range (pa_cons (pv 2) pa_nil)) (pg_name (i := 8) sc.nd rfl (Or.inl rfl))
        (pss_one (ps_if (pt_cmpR op_gt (pv 7) pe_int (nomark _))
          (pss_cons (ps_set (i := 9) sc.nd rfl (Or.inr rfl) (pe_op op_sub (pe_op op_sub (pv 2) (pe_callB call_len_seq (by rfl) T.len (by decide +kernel) (pa_cons (pv 6) pa_nil))) (pv 7)))
          (pss_cons (ps_setLc (i := 10) (own := [("_law_row", 13)]) (g := gName 13) (tt := tTest (tOp (rI0 fun i j => V.bl (decide (i ≤ j))) (tOp (rIxT K) (tVar 13) (tC (.int 1))) (tVar 9))) rfl sc.nd rfl rfl (sw_true rfl rfl rfl (by decide +kernel)) (pi_list (pv 4)) (blkOk_by (N := N_plantL) (sc := defScope (top 36)) (by decide +kernel)) (fun _ _ _ _ _ => (pg_name (i := 13) sc.nd rfl (Or.inl rfl))) (fun _ _ _ _ _ => (pts_one (pt_cmpR op_le (pe_ix ix_tup (pv 13) pe_int (fun _ _ => rfl)) (pv 9) (nomark _)))) (fun _ _ _ _ _ => (pv 13)))
          (pss_cons (ps_setLc (i := 11) (own := [("_law_row", 13)]) (g := gName 13) (tt := tTest (tOp (rI0 fun i j => V.bl (decide (j < i))) (tOp (rIxT K) (tVar 13) (tC (.int 1))) (tC (.int 0)))) rfl sc.nd rfl rfl (sw_true rfl rfl rfl (by decide +kernel)) (pi_list (pv 10)) (blkOk_by (N := N_plantL) (sc := defScope (top 36)) (by decide +kernel)) (fun _ _ _ _ _ => (pg_name (i := 13) sc.nd rfl (Or.inl rfl))) (fun _ _ _ _ _ => (pts_one (pt_cmpR op_gt (pe_ix ix_tup (pv 13) pe_int (fun _ _ => rfl)) pe_int (nomark _)))) (fun _ _ _ _ _ => (pv 13)))
          (pss_cons (ps_if (PW.pt (pw_and (pt_truth (pv 11) (by intro _; rfl)) (pw_and (pt_cmpR op_eq (pv 7) pe_int (nomark _)) (pw_and1 (pt_cmpR op_lt (pe_op op_add (pe_callB call_len_seq (by rfl) T.len (by decide +kernel) (pa_cons (pv 6) pa_nil)) pe_int) (pv 5) (nomark _))))))
            (pss_one (ps_set (i := 10) sc.nd rfl (Or.inl rfl) (pv 11)))
            pss_nil)
          pL))))
          pss_nil)))
      (pss_one (ps_ret (pe_callTy call_tupZ (by rfl) T.tuple (by decide +kernel) (pa_cons (pv 6) pa_nil)))))))), ?_⟩
    intro M pr B1 H1 l0 hl0 sB1 hB1 hMB zs zw zleaf zlen
    refine ⟨_, rfl, _, rfl, _, _, rfl, rfl, g, most + 1, rfl, hB1.bag hl0, by omega, by omega, fun least H2 hle d2 => ?_⟩
    obtain ⟨l2, B2, hl2, s2, h2, _⟩ := hB1.dr0 d2
    refine ⟨by decide, fun PL hPL => ?_⟩
    have h3 := (h2.new (o := .lst []) hPL).swap
    have sB2 := sB1.trans s2
    refine ⟨_, rfl, _, rfl, by omega, by omega, for_rng (n := most)
      (fun i σ H' => ∃ (need : Nat) (z7 : Int) (t8 t9 t10 t11 t12 : Option V) (B : Hp) (lb : List Int) (pl : List Str), σ = [some (.ref g), some (.ref q), some (.int (most : Nat)), some (.bl wh), some (.ref M), some (.int (least : Nat)), some (.ref PL), some (.int z7), t8, t9, t10, t11, t12, none] ∧ z7 = (need : Nat) ∧ BagOk lb ∧ Same B2 B ∧ Hs B [(g, .lst (lb.map V.int)), (PL, .lst (pl.map V.str))] H' ∧
        pl.length + need ≤ most ∧ (need = 0 ∨ pl.length = i) ∧ 0 < pl.length + need ∧ (∀ x ∈ pl, Wx x) ∧ ∀ v, fa rows ["*"] 1 0 (pl ++ v) = fa rows ["*"] need pl.length v)
      ⟨1, 1, none, none, none, none, none, B2, l2, [], rfl, rfl, hl2, Same.refl _, h3, by show 0 + 1 ≤ most; omega, .inr rfl, by show 0 < 0 + 1; decide, fun _ z => (nomatch z), fun _ => rfl⟩ ?_ ?_⟩
    · rintro i σ H3 hi ⟨need, _, t8, t9, t10, t11, t12, B, lb, pl, rfl, rfl, hlb, sB, hh, hroom, hdone, hps0, hkn, hfo⟩
      refine ⟨_, rfl, _, _, rfl, rfl, _, rfl, if_dec (fun c => ?_) (fun c => ?_)⟩
      · obtain ⟨n, rfl⟩ : ∃ n, need = n + 1 := ⟨need - 1, by omega⟩
        have hpi : pl.length = i := by omega
        obtain ⟨room, hroomE⟩ : ∃ room : Int, room = (most : Int) - ((pl.map V.str).length : Nat) - ((n + 1 : Nat) : Int) := ⟨_, rfl⟩
        have hroom2 : (pl.length : Int) + (n + 1) + room = most := by
          rw [List.length_map] at hroomE
          omega
        have sB3 := s2.trans sB
        have tz : ∀ z ∈ pr, ∀ H', Same B H' → SqT K H' z.1 [.str z.2.1, .int (z.2.2 : Nat)] := fun z hz H' s' => Same.sqt (sB3.trans s') (zs z hz)
        refine ⟨_, rfl, _, rfl, PL, _, rfl, .inl (SqL.of hh.r1), _, _, rfl, rfl, _, rfl, _, _, rfl, rfl, ?_⟩
        refine ⟨_, rfl, M, rfl, ⟨_, SqL.of (hh.sub _ _ (sB _ _ (s2 _ _ hMB)))⟩, fun D1 hD1 => lc_filt (si := 13) (f := fun z : Addr × Sy.Row => V.ref z.1) (out := fun z => V.ref z.1) (keep := fun z => decide ((z.2.2 : Int) ≤ room)) hh hD1 (sB _ _ (s2 _ _ hMB)) (by omega) ?_ ?_⟩
        · intro z hz H' s' R1 R2 k1 k2
          refine ⟨_, rfl, z.1, _, _, _, rfl, rfl, tz z hz H' s', atI_nat (j := 1) rfl, _, rfl, _, _, rfl, rfl, _, rfl, if_dec (fun c => ?_) (fun c => ?_)⟩
          · exact ⟨_, rfl, k1 (decide_eq_true (by omega))⟩
          · exact k2 (decide_eq_false (by omega))
        intro H4 h4
        obtain ⟨s5, h5⟩ := h4.give
        have e5 : (upd B D1 (.lst ((pr.filter fun z => decide ((z.2.2 : Int) ≤ room)).map fun z => V.ref z.1))) D1 = some (.lst ((pr.filter fun z => decide ((z.2.2 : Int) ≤ room)).map fun z => V.ref z.1)) := upd_same
        generalize upd B D1 (.lst ((pr.filter fun z => decide ((z.2.2 : Int) ≤ room)).map fun z => V.ref z.1)) = B5 at *
        generalize hlet : (pr.filter fun z => decide ((z.2.2 : Int) ≤ room)) = lt at *
        have ltm : ∀ z ∈ lt, z ∈ pr ∧ (z.2.2 : Int) ≤ room := fun z hz => by
          rw [← hlet] at hz
          have := List.mem_filter.mp hz
          exact ⟨this.1, of_decide_eq_true this.2⟩
        have ltpos : 0 < lt.length := by
          obtain ⟨z, hz, e⟩ := zleaf
          rw [← hlet]
          exact List.length_pos_of_mem (List.mem_filter.mpr ⟨hz, decide_eq_true (by omega)⟩)
        have ltlen : lt.length ≤ 9 := by
          rw [← hlet]
          have := List.length_filter_le (fun z : Addr × Sy.Row => decide ((z.2.2 : Int) ≤ room)) pr
          omega
        have sB5 := sB3.trans s5
        have tz5 : ∀ z ∈ pr, ∀ H', Same B5 H' → SqT K H' z.1 [.str z.2.1, .int (z.2.2 : Nat)] := fun z hz H' s' => Same.sqt (sB5.trans s') (zs z hz)
        refine ⟨_, rfl, D1, rfl, ⟨_, SqL.of (h5.sub _ _ e5)⟩, fun D2 hD2 => lc_filt (si := 13) (f := fun z : Addr × Sy.Row => V.ref z.1) (out := fun z => V.ref z.1) (keep := fun z => decide (0 < z.2.2)) h5 hD2 e5 (by omega) ?_ ?_⟩
        · intro z hz H' s' R1 R2 k1 k2
          refine ⟨_, rfl, z.1, _, _, _, rfl, rfl, tz5 z (ltm z hz).1 H' s', atI_nat (j := 1) rfl, _, _, rfl, rfl, _, rfl, if_dec (fun c => ?_) (fun c => ?_)⟩
          · exact ⟨_, rfl, k1 (decide_eq_true (by omega))⟩
          · exact k2 (decide_eq_false (by omega))
        intro H6 h6
        obtain ⟨s7, h7⟩ := h6.give
        have e7 : (upd B5 D2 (.lst ((lt.filter fun z => decide (0 < z.2.2)).map fun z => V.ref z.1))) D2 = some (.lst ((lt.filter fun z => decide (0 < z.2.2)).map fun z => V.ref z.1)) := upd_same
        generalize upd B5 D2 (.lst ((lt.filter fun z => decide (0 < z.2.2)).map fun z => V.ref z.1)) = B7 at *
        generalize hwide : (lt.filter fun z => decide (0 < z.2.2)) = wd at *
        have wdm : ∀ z ∈ wd, z ∈ lt := fun z hz => by
          rw [← hwide] at hz
          exact (List.mem_filter.mp hz).1
        have wdlen : wd.length ≤ 9 := by
          rw [← hwide]
          have := List.length_filter_le (fun z : Addr × Sy.Row => decide (0 < z.2.2)) lt
          omega
        have wz : ∀ z ∈ wd, SqT K B7 z.1 [.str z.2.1, .int (z.2.2 : Nat)] := fun z hz => Same.sqt (sB5.trans s7) (zs z (ltm z (wdm z hz)).1)
        have lz : ∀ z ∈ lt, SqT K B7 z.1 [.str z.2.1, .int (z.2.2 : Nat)] := fun z hz => Same.sqt (sB5.trans s7) (zs z (ltm z hz).1)
        have sB7 : Same B2 B7 := (sB.trans s5).trans s7
        have go : ∀ z ∈ lt, ∀ (B' H' : Hp) (lb' : List Int) (x8 x9 x10 x11 x12 : Option V), BagOk lb' → Same B7 B' → Hs B' [(g, .lst (lb'.map V.int)), (PL, .lst ((pl ++ [z.2.1]).map V.str))] H' →
            ∃ (need : Nat) (z7 : Int) (t8 t9 t10 t11 t12 : Option V) (B : Hp) (lb : List Int) (pl' : List Str), [some (.ref g), some (.ref q), some (.int (most : Nat)), some (.bl wh), some (.ref M), some (.int (least : Nat)), some (.ref PL), some (.int (((n + 1 : Nat) : Int) + (z.2.2 : Nat) - 1)), x8, x9, x10, x11, x12, none] = [some (.ref g), some (.ref q), some (.int (most : Nat)), some (.bl wh), some (.ref M), some (.int (least : Nat)), some (.ref PL), some (.int z7), t8, t9, t10, t11, t12, none] ∧ z7 = (need : Nat) ∧ BagOk lb ∧ Same B2 B ∧ Hs B [(g, .lst (lb.map V.int)), (PL, .lst (pl'.map V.str))] H' ∧
              pl'.length + need ≤ most ∧ (need = 0 ∨ pl'.length = i + 1) ∧ 0 < pl'.length + need ∧ (∀ x ∈ pl', Wx x) ∧ ∀ v, fa rows ["*"] 1 0 (pl' ++ v) = fa rows ["*"] need pl'.length v := by
          intro z hz B' H' lb' x8 x9 x10 x11 x12 hlb' s' h'
          have hm := ltm z hz
          have hr2 := hm.2
          refine ⟨n + z.2.2, _, _, _, _, _, _, B', lb', pl ++ [z.2.1], rfl, by omega, hlb', sB7.trans s', h', ?_, .inr ?_, ?_, fun x hx => ?_, fun v => ?_⟩
          · rw [List.length_append]
            show pl.length + 1 + _ ≤ _
            omega
          · rw [List.length_append, hpi]
            rfl
          · rw [List.length_append]
            show 0 < pl.length + 1 + _
            omega
          · rcases List.mem_append.mp hx with hx | hx
            · exact hkn x hx
            · rw [List.mem_singleton.mp hx]
              exact (zw z hm.1).wx
          · obtain ⟨_, k1, k2⟩ := zw z hm.1
            rw [List.append_assoc, hfo]
            show fa rows ["*"] (n + 1) pl.length (z.2.1 :: v) = _
            rw [fa, if_neg (by omega), if_neg (fun y => k1.elim (fun a => by rw [a] at y; cases y.1) fun a => y.2 a), k2, List.length_append]
            rfl
        have byLet : ∀ D : Ends, (∀ z ∈ lt, ∀ (B' H' : Hp) (lb' : List Int), BagOk lb' → Same B7 B' → Hs B' [(g, .lst (lb'.map V.int)), (PL, .lst ((pl ++ [z.2.1]).map V.str))] H' → ∀ x10 x12, D.nx [some (.ref g), some (.ref q), some (.int (most : Nat)), some (.bl wh), some (.ref M), some (.int (least : Nat)), some (.ref PL), some (.int (((n + 1 : Nat) : Int) + (z.2.2 : Nat) - 1)), some (.int (i : Nat)), some (.int ((most : Int) - ((pl.map V.str).length : Nat) - ((n + 1 : Nat) : Int))), x10, some (.ref D2), x12, none] H') →
            tL D [some (.ref g), some (.ref q), some (.int (most : Nat)), some (.bl wh), some (.ref M), some (.int (least : Nat)), some (.ref PL), some (.int ((n + 1 : Nat) : Int)), some (.int (i : Nat)), some (.int ((most : Int) - ((pl.map V.str).length : Nat) - ((n + 1 : Nat) : Int))), some (.ref D1), some (.ref D2), t12, none] H6 := fun D k =>
          hLast D PL D1 lt B7 H6 lb pl _ _ _ _ _ _ _ hlb ltpos ltlen (s7 _ _ e5) lz h7 (by omega) fun z hz B' H' lb' a b c => k z hz B' H' lb' a b c _ _
        refine ⟨_, rfl, _, .inl ⟨_, SqL.of (h7.sub _ _ e7), rfl⟩, if_bool (fun c1 => ?_) (fun c1 => ?_)⟩
        · have wpos : 0 < wd.length := by
            cases wd with
            | nil => simp at c1
            | cons a b => simp
          refine ⟨_, rfl, rfl, _, rfl, if_dec (fun c2 => ?_) (fun c2 => ?_)⟩
          · refine ⟨_, rfl, PL, _, rfl, .inl (SqL.of h7.r1), _, _, rfl, rfl, _, rfl, _, _, rfl, rfl, _, rfl, if_dec (fun c3 => ?_) (fun c3 => ?_)⟩
            · refine ⟨_, rfl, hLast _ PL D2 wd B7 H6 lb pl _ _ _ _ _ _ _ hlb wpos wdlen e7 wz h7 (by omega) fun z hz B' H' lb' a b c => go z (wdm z hz) B' H' lb' _ _ _ _ _ a b c⟩
            · exact byLet _ fun z hz B' H' lb' a b c _ _ => go z hz B' H' lb' _ _ _ _ _ a b c
          · exact byLet _ fun z hz B' H' lb' a b c _ _ => go z hz B' H' lb' _ _ _ _ _ a b c
        · exact byLet _ fun z hz B' H' lb' a b c _ _ => go z hz B' H' lb' _ _ _ _ _ a b c
      · have : need = 0 := by omega
        exact ⟨need, _, _, _, _, _, _, B, lb, pl, rfl, rfl, hlb, sB, hh, hroom, .inl this, hps0, hkn, hfo⟩
    · rintro σ H3 ⟨need, _, t8, t9, t10, t11, t12, B, lb, pl, rfl, rfl, hlb, sB, hh, hroom, hdone, hps0, hkn, hfo⟩
      refine ⟨_, rfl, PL, _, rfl, SqL.of hh.r1, fun p H4 hn => hq pl p H4 (by omega) (by omega) ?_ ?_ ⟨hn.sqt, hn.nod, hkn⟩⟩
      · have z := hfo []
        have : need = 0 := by omega
        rw [List.append_nil, this, fa, if_neg (by omega)] at z
        omega
      · exact (hh.isDr hlb (by simp) (sB2.trans sB)).same hn.same
  obtain ⟨tR, pR, hR⟩ := rest
  refine ⟨_, (pss_cons (ps_set (i := 4) sc.nd rfl (Or.inl rfl) (pe_callTy call_list_of (by rfl) T.list (by decide +kernel) (pa_cons (pv 1) pa_nil)))
      (pss_cons (ps_if (pt_val (pv 3))
        (pss_one (ps_expr (pe_bm PySem.F.plainAttrs_list PySem.F.slot_list_append PySem.F.type_list_append mt_append (pv 4) (pa_cons (pe_tup (pa_cons pe_str (pa_cons pe_int pa_nil))) pa_nil))))
        pss_nil)
      pR)), ?_⟩
  obtain ⟨ps, hL, hP⟩ := id hRL
  have hpl := paired_len hP
  obtain ⟨l0, hl0, h0⟩ := hg.take
  have hB0 := hRL.del hqg h0.r0
  generalize hB : L2.del H g = B0 at hB0 h0
  have sd0 : Same (L2.del H g) B0 := by rw [hB]; exact Same.refl _
  obtain ⟨ps0, hL0, hP0⟩ := hB0
  have hps : ps0 = ps := by
    have e1 := h0.sub _ _ hL0
    rw [hL] at e1
    have e2 := HO.lst.inj (Option.some.inj e1)
    exact ((List.map_inj_right (fun a b z => V.ref.inj z)).mp e2).symm
  subst hps
  -- pairs of address and row
  generalize hpr : ps0.zip rows = pr at *
  have zf : pr.map (fun z => V.ref z.1) = ps0.map V.ref := by
    have : pr.map (·.1) = ps0 := by rw [← hpr]; exact List.map_fst_zip (by omega)
    rw [← this, List.map_map]
    rfl
  have zr : ∀ z ∈ pr, z.2 ∈ rows := fun z hz => by
    rw [← hpr] at hz
    exact (List.of_mem_zip (a := z.1) (b := z.2) hz).2
  have zs : ∀ z ∈ pr, SqT K B0 z.1 [.str z.2.1, .int (z.2.2 : Nat)] := fun z hz => by
    rw [← hpr] at hz
    obtain ⟨i, hi, e⟩ := List.mem_iff_getElem.mp hz
    rw [List.getElem_zip] at e
    rw [List.length_zip] at hi
    obtain ⟨p2, e2, t⟩ := paired_at hP0 (i := i) (y := rows[i]) (List.getElem?_eq_getElem (by omega))
    rw [List.getElem?_eq_getElem (by omega)] at e2
    have : z.1 = p2 := by rw [← e]; exact Option.some.inj e2
    have e3 : z.2 = rows[i] := by rw [← e]
    rw [this, e3]
    exact t
  have zleaf : ∃ z ∈ pr, z.2.2 = 0 := by
    obtain ⟨r, hr', e⟩ := ok.lf
    obtain ⟨i, hi, ei⟩ := List.mem_iff_getElem.mp hr'
    refine ⟨(ps0[i]'(by omega), rows[i]), ?_, by rw [ei]; exact e⟩
    rw [← hpr]
    exact List.mem_iff_getElem.mpr ⟨i, by rw [List.length_zip]; omega, List.getElem_zip⟩
  have zlen : pr.length ≤ 8 := by rw [← hpr, List.length_zip]; have := ok.le; omega
  have zw : ∀ z ∈ pr, KdR rows z.2 := fun z hz => KdR.of ok.nd (hwx _ (zr z hz)) (zr z hz)
  refine ⟨_, rfl, q, _, rfl, .inl (SqL.of hL), fun M hM => ?_⟩
  rw [← zf]
  have h1 := h0.new (o := .lst (pr.map fun z => V.ref z.1)) hM
  refine ⟨_, rfl, _, rfl, if_bool (fun c => ?_) (fun c => ?_)⟩
  · refine ⟨_, rfl, .inl ⟨rfl, _, SqL.of h1.r0⟩, (by show 2 ≤ sizeLine; decide), fun p hp => ?_⟩
    have s2 : Same B0 (upd B0 p (.tup [.str "*", .int 0])) := up_same (h1.sub.free hp)
    have h2 := h1.tup (o := .tup [.str "*", .int 0]) hp
    refine ⟨M, _, _, rfl, rfl, h2.r0, by rw [List.length_map, sizeLine_eq]; omega, ?_⟩
    have em : (pr ++ [(p, (("*" : Str), 0))]).map (fun z : Addr × Sy.Row => V.ref z.1) = pr.map (fun z : Addr × Sy.Row => V.ref z.1) ++ [V.ref p] := List.map_append
    have h3 := (h2.w0 (o' := .lst (pr.map (fun z : Addr × Sy.Row => V.ref z.1) ++ [V.ref p]))).give
    have h4 := h3.2
    refine hR M (pr ++ [(p, (("*" : Str), 0))]) _ _ l0 hl0 (sd0.trans (s2.trans h3.1)) h4 (by rw [em]; exact upd_same) (fun z hz => ?_) (fun z hz => ?_) ?_ ?_
    · have h5 := h3.1
      rcases List.mem_append.mp hz with hz | hz
      · exact Same.sqt (s2.trans h5) (zs z hz)
      · rw [List.mem_singleton.mp hz]
        exact Same.sqt h5 (SqT.of upd_same)
    · rcases List.mem_append.mp hz with hz | hz
      · exact zw z hz
      · rw [List.mem_singleton.mp hz]
        exact KdR.hole ok
    · exact ⟨(p, (("*" : Str), 0)), by simp, rfl⟩
    · rw [List.length_append]
      show pr.length + 1 ≤ 9
      omega
  · have h2 := h1.give
    exact hR M pr _ _ l0 hl0 (sd0.trans h2.1) h2.2 upd_same (fun z hz => Same.sqt h2.1 (zs z hz)) zw zleaf (by omega)
end
end Sy
/-! slices and repeats of tuples whose dict is known; rows of words -/
namespace Sy
open PySem PySem.Spec PyProof.Rows L2
section
variable {X : Cx}
/-- t[lo:hi]: the whole of it is t itself -/
def rSlZ (K : PySem.W.Frag) : V → Option Int → Option Int → Hp → VK → Prop := fun x lo hi H Q => ∃ a xs, x = .ref a ∧ SqT K H a xs ∧
  (HT.sIx xs.length 0 lo = 0 ∧ HT.sIx xs.length xs.length hi = xs.length → Q (.ref a) H) ∧ (¬ (HT.sIx xs.length 0 lo = 0 ∧ HT.sIx xs.length xs.length hi = xs.length) → ∀ p H', NewT H p (cutV xs lo hi) H' → Q (.ref p) H')
theorem sl_tupZ : SlR X (rSlZ X.K) := by
  intro pins s σ H x v vl vu lo hi sl Q I rx hs pl pu h
  obtain ⟨a, xs, rfl, hx, q1, q2⟩ := h
  by_cases hw : HT.sIx xs.length 0 lo = 0 ∧ HT.sIx xs.length xs.length hi = xs.length
  · exact sl_tupA pins s σ H _ v vl vu lo hi sl Q I rx hs pl pu ⟨a, xs, rfl, hx, q1, fun z => absurd hw z⟩
  cases rx
  obtain ⟨its, r, ht, hz⟩ := I.tuple hx
  have hlen : its.toArray.size = xs.length := by rw [List.size_toArray]; exact r.length.symm
  refine ⟨"tuple", _, PyProof.Rows.slot_tuple_getitem.lookup, ht.typeIs, ?_⟩
  refine HT.getItem_tuple_cut ht hs pl pu (by rw [hlen]; exact hw) ?_ (by rw [hlen]; exact hz)
  rw [hlen]
  have hg : (s.heap.push ({ cls := .type "tuple", data := .seq ((its.toArray.toList.drop (HT.sIx xs.length 0 lo)).take (HT.sIx xs.length xs.length hi - HT.sIx xs.length 0 lo)).toArray } : Obj)).get? s.heap.objs.size = some ({ cls := .type "tuple", data := .seq ((its.toArray.toList.drop (HT.sIx xs.length 0 lo)).take (HT.sIx xs.length xs.length hi - HT.sIx xs.length 0 lo)).toArray } : Obj) := Heap.get?_push_size _ rfl
  refine ⟨.ref s.heap.objs.size, _, I.laid (t' := s.toks) (o := .frz ({ cls := .type "tuple", data := .seq ((its.toArray.toList.drop (HT.sIx xs.length 0 lo)).take (HT.sIx xs.length xs.length hi - HT.sIx xs.length 0 lo)).toArray } : Obj) (.tup (cutV xs lo hi))) (fun b ob q => Heap.get?_push_of_some _ q) (Nat.le_refl _) ?_, rfl, q2 hw _ _ ⟨I.hok.fresh (Nat.le_refl _), _, rfl, rfl⟩⟩
  exact ⟨hg, Nat.le_trans (cutV_length xs lo hi) hz, _, (r.drop (HT.sIx xs.length 0 lo)).take (HT.sIx xs.length xs.length hi - HT.sIx xs.length 0 lo), ⟨_, hg, rfl, _, rfl⟩⟩
/-- t * k, k from 1 -/
def rRepZ (K : PySem.W.Frag) : R2 := fun x y H Q => ∃ (l : Addr) (k : Nat) (xs : List V), x = .ref l ∧ y = .int (k : Nat) ∧ SqT K H l xs ∧ 1 ≤ k ∧ k ≤ 1000000 ∧ xs.length * k ≤ 1000000 ∧ xs ≠ [] ∧ xs.length ≤ 1000000 ∧
  (k = 1 → Q (.ref l) H) ∧ (k ≠ 1 → ∀ p H', NewT H p (List.replicate k xs).flatten H' → Q (.ref p) H')
theorem op_repZ : OpR X (binaryOp .Mult) (rRepZ X.K) := by
  intro pins s σ H x y v u Q I rx ry h
  obtain ⟨l, k, xs, rfl, rfl, hT, h1, h2, hz, hne, hzl, qa, qb⟩ := h
  by_cases hk : k = 1
  · exact op_repG pins s σ H _ _ v u Q I rx ry ⟨l, _, xs, rfl, rfl, hT, by omega, by omega, by rw [show ((k : Nat) : Int).toNat = k by omega]; exact hz, hzl, fun _ => qa hk, fun z => absurd (.inr (by omega)) z⟩
  cases rx
  obtain ⟨t, rfl⟩ := ry
  obtain ⟨its, r, ⟨⟨cls, dd, data, sl⟩, ho, hc, n, hd⟩, hs⟩ := I.tuple hT
  simp only at hc hd
  subst hc hd
  have hle : its.length = xs.length := r.length.symm
  have c0 : (decide ((k : Int) < -(2 ^ 63)) || decide ((k : Int) ≥ 2 ^ 63)) = false := by
    rw [decide_eq_false (by omega), decide_eq_false (by omega)] <;> rfl
  have run : ∀ {Bb : Builtin} {R : Value → Shared → Prop}, Builtin.«tuple.__mul__» = Bb → wpAny (model X.prog X.w) X.A (call (.builtin "tuple.__mul__") [.ref l, .int k t]) R X.xe s → wpAny (model X.prog X.w) X.A (binaryOp .Mult (.ref l) (.int k t)) R X.xe s := fun _ hw =>
    wpAny_binaryOp_repeat_ref (T := "tuple") (U := "int") (by decide) ⟨_, ho, rfl⟩ (fun s' => typeIs_int s' k t) noFill_tuple_mul F.fills_int_mul F.slot_int_rmul repeat_tuple F.slot_int_index.lookup
      (call_meets F.slot_int_rmul (typeIs_int s k t) F.entry_int_rmul (F.args_int_rmul_2 _ _) (int_rmul_tuple k t l its.toArray n dd sl) ⟨ho, rfl, ⟨_, ho, rfl⟩, hw⟩)
  have eE : its.toArray.isEmpty = decide (xs = []) := by
    cases xs with
    | nil => cases r; rfl
    | cons a b => cases r; rfl
  have c1 : (its.toArray.isEmpty || (k : Int) == 1) = false := by
    rw [eE, decide_eq_false hne, Bool.false_or]
    exact beq_eq_false_iff_ne.mpr fun z => hk (by omega)
  have ek : ((k : Int)).toNat = k := by omega
  have h3 : ((its.toArray.size : Nat) : Int) * (k : Int) ≤ 1000000 := by
    rw [List.size_toArray, hle, ← Int.natCast_mul]
    generalize xs.length * k = m at hz ⊢
    omega
  have flen : (List.replicate k its).flatten.length ≤ 1000000 := by
    rw [PyProof.Rows.lm_len_rep_flat, hle, Nat.mul_comm]
    exact hz
  have sl24 := sizeLine_eq
  refine run rfl (call_meets F.slot_tuple_mul ⟨_, ho, rfl⟩ F.entry_tuple_mul (F.args_tuple_mul_2 _ _) (tuple_mulW l its.toArray n dd sl k t c0 c1 (by rw [decide_eq_false (by omega), Bool.false_or, eE]; exact decide_eq_false hne) (by omega) (by unfold Builtin.Tuple.tupleTooMany; exact decide_eq_false (by omega)) (by rw [size_rep, List.size_toArray, ek]; omega)) ⟨ho, ?_⟩)
  rw [size_rep, ek]
  have hg : (s.heap.push ({ cls := .type "tuple", data := .seq (List.replicate k its).flatten.toArray } : Obj)).get? s.heap.objs.size = some ({ cls := .type "tuple", data := .seq (List.replicate k its).flatten.toArray } : Obj) := Heap.get?_push_size _ rfl
  refine ⟨.ref s.heap.objs.size, _, I.laid (t' := s.toks) (o := .frz ({ cls := .type "tuple", data := .seq (List.replicate k its).flatten.toArray } : Obj) (.tup (List.replicate k xs).flatten)) (fun b ob q => Heap.get?_push_of_some _ q) (Nat.le_refl _) ?_, rfl, qb hk _ _ ⟨I.hok.fresh (Nat.le_refl _), _, rfl, rfl⟩⟩
  exact ⟨hg, by rw [PyProof.Rows.lm_len_rep_flat, Nat.mul_comm]; omega, _, r.rep k, ⟨_, hg, rfl, _, rfl⟩⟩
end
/-! rows of words -/
section
variable {K : PySem.W.Frag} {H H' : Hp} {a b p : Addr} {l m : List Str} {Q : VK} {lo hi : Option Int}
theorem Rw.mono (h : Rw K H p l) (s : Same H H') : Rw K H' p l := ⟨Same.sqt s h.sq, h.nd.mono (Stay.of s), h.wx⟩
theorem NewT.rw (h : NewT H p (l.map V.str) H') (w : ∀ x ∈ l, Wx x) : Rw K H' p l := ⟨h.sqt, h.nod, w⟩
theorem cut_strs (l : List Str) (lo hi : Option Int) : cutV (l.map V.str) lo hi = ((l.drop (HT.sIx l.length 0 lo)).take (HT.sIx l.length l.length hi - HT.sIx l.length 0 lo)).map V.str := by
  unfold cutV
  rw [List.length_map, List.map_take, List.map_drop]
/-- a slice of a row: again a row, no longer than it -/
theorem slZ_rw (h : Rw K H a l) (q : ∀ p H' m, Same H H' → Rw K H' p m → m.length ≤ l.length → Q (.ref p) H') : rSlZ K (.ref a) lo hi H Q := by
  refine ⟨a, _, rfl, h.sq, fun _ => q a H l (Same.refl H) h (Nat.le_refl _), fun _ p H' n => ?_⟩
  rw [cut_strs] at n
  refine q p H' _ n.same (n.rw fun x hx => h.wx x (List.mem_of_mem_drop (List.mem_of_mem_take hx))) ?_
  rw [List.length_take, List.length_drop]
  omega
theorem catZ_rw (h : Rw K H a l) (g : Rw K H b m) (hs : l.length + m.length ≤ 1000000) (q : ∀ p H', Same H H' → Rw K H' p (l ++ m) → Q (.ref p) H') : rCatZ K (.ref a) (.ref b) H Q := by
  refine ⟨a, b, _, _, rfl, rfl, h.sq, g.sq, by rw [List.length_map, List.length_map, sizeLine_eq]; omega, fun c => ?_, fun _ c => ?_, fun _ _ p H' n => ?_⟩
  · rw [List.map_eq_nil_iff] at c
    subst c
    exact q b H (Same.refl H) g
  · rw [List.map_eq_nil_iff] at c
    subst c
    refine q a H (Same.refl H) ?_
    rw [List.append_nil]
    exact h
  · rw [← List.map_append] at n
    exact q p H' n.same (n.rw fun x hx => (List.mem_append.mp hx).elim (h.wx x) (g.wx x))
theorem repZ_rw {k : Nat} (h : Rw K H a l) (hk : 1 ≤ k) (hk2 : k ≤ 3000) (hl : l ≠ []) (hl2 : l.length ≤ 100) (q : ∀ p H' m, Same H H' → Rw K H' p m → m.length = k * l.length → Q (.ref p) H') : rRepZ K (.ref a) (.int (k : Nat)) H Q := by
  have hm := Nat.mul_le_mul hl2 hk2
  refine ⟨a, k, _, rfl, rfl, h.sq, hk, by omega, by rw [List.length_map]; omega, fun z => hl (List.map_eq_nil_iff.mp z), by rw [List.length_map]; omega, fun c => ?_, fun _ p H' n => ?_⟩
  · subst c
    exact q a H l (Same.refl H) h (by omega)
  · rw [show (List.replicate k (l.map V.str)).flatten = ((List.replicate k l).flatten).map V.str by rw [List.map_flatten, List.map_replicate]] at n
    refine q p H' _ n.same (n.rw fun x hx => ?_) ?_
    · obtain ⟨z, hz, hx⟩ := List.mem_flatten.mp hx
      rw [(List.mem_replicate.mp hz).2] at hx
      exact h.wx x hx
    · rw [List.length_flatten, List.map_replicate, List.sum_replicate_nat]
end
end Sy
namespace Sy
open PySem PySem.Spec PyProof.Rows L2
/-- the leaves beside the kinds -/
def lvs (wh : Bool) : List Str := if wh = true then ["*"] else []
/-- the number of branches of a word, holes allowed or not -/
def numW (rows : List Sy.Row) (wh : Bool) (x : Str) : Int := if wh = true ∧ x = "*" then 0 else numb rows x
theorem isK_false {rows : List Sy.Row} {x : Str} (h : isK rows x = false) : rows.lookup x = none := by
  unfold isK at h
  cases e : rows.lookup x with
  | none => rfl
  | some n => rw [e] at h; cases h
theorem numb_no {rows : List Sy.Row} {x : Str} (h : isK rows x = false) : numb rows x = -1 ∧ ar rows x = 0 := by
  have := isK_false h
  unfold numb ar
  rw [this]
  exact ⟨rfl, rfl⟩
theorem numW_neg {rows : List Sy.Row} {wh : Bool} {x : Str} (hs : isK rows "*" = false) : (numW rows wh x < 0 ↔ (isK rows x = false ∧ x ∉ lvs wh)) ∧ (0 ≤ numW rows wh x → numW rows wh x = (ar rows x : Nat)) := by
  unfold numW
  by_cases h : wh = true ∧ x = "*"
  · rw [if_pos h]
    obtain ⟨rfl, rfl⟩ := h
    refine ⟨⟨fun z => by omega, fun z => absurd (show ("*" : Str) ∈ lvs true by simp [lvs]) z.2⟩, fun _ => ?_⟩
    rw [(numb_no hs).2]
    rfl
  · rw [if_neg h]
    have hn : x ∉ lvs wh := by
      unfold lvs
      split
      · rename_i c
        simp only [List.mem_singleton]
        exact fun z => h ⟨c, z⟩
      · exact fun z => nomatch z
    cases e : isK rows x with
    | true =>
      rw [numb_ar e]
      exact ⟨⟨fun z => by omega, fun z => by cases z.1⟩, fun _ => rfl⟩
    | false =>
      rw [(numb_no e).1]
      exact ⟨⟨fun _ => ⟨rfl, hn⟩, fun _ => by omega⟩, fun z => by omega⟩
section
variable {P : Program} {w : World} {K : PySem.W.Frag} {mg : Str → Option Value} {base : Heap}
def spFaultL (K : PySem.W.Frag) : Sp := fun vs H Q _ => ∃ (q r : Addr) (wh : Bool) (rows : List Sy.Row) (l : List Str), vs = [.ref q, .ref r, .bl wh] ∧ RL K H q rows ∧ SqT K H r (l.map V.str) ∧ isK rows "*" = false ∧ l.length ≤ 100000 ∧ Q (.int (fa rows (lvs wh) 1 0 l)) H
abbrev N_faultL : List Str := ["_law_rows_here", "_law_plant_here", "_law_with_holes", "_law_need", "_law_place", "_law_many"]
theorem sc_faultL : FnScope N_faultL ["_law_rows_here", "_law_plant_here", "_law_with_holes"] (defScope (top 37)) := ⟨rfl, rfl, rfl, by decide +kernel, rfl, by decide +kernel, by decide +kernel⟩
theorem k_faultL (T : Txt K mg) (F : DF K mg "_law_fault" 37) (c_law_number : Cal P w K mg base 1 "_law_number" ["_law_rows_here", "_law_word_here"] (spNum K)) : Cal P w K mg base 2 "_law_fault" ["_law_rows_here", "_law_plant_here", "_law_with_holes"] (spFaultL K) := by
  refine cal_of F.1 F.2 sc_faultL (fun _ _ _ _ _ _ us e => match us, e with | [_, _, _], _ => rfl) (fun vs H Q E s => by obtain ⟨_, _, _, _, _, rfl, _⟩ := s; rfl) ?_
  intro cdv A outer s H vs Q E hr h
  obtain ⟨q, r, wh, rows, l, rfl, hRL, hR, hs, hlen, hq⟩ := h
  have sc := sc_faultL
  have rest : ∃ t, PSs (cxOf (L2.CX P w) P w K mg base N_faultL "_law_fault" (defScope (top 37)) (He.ga K "_law_fault") cdv A outer s H E) ((sBody ((defBody (top 37)).getD 1 (.Pass ⟨0, 0, 0, 0⟩))).drop 2) t ∧
      ∀ (D : Ends) (i need : Nat) (x : Str) (z : Int), z = numW rows wh x → (need = 0 ∨ numW rows wh x < 0 → D.rt (.int (i : Nat)) H) → (0 < need → 0 ≤ numW rows wh x → D.nx [some (.ref q), some (.ref r), some (.bl wh), some (.int ((need - 1 + ar rows x : Nat) : Int)), some (.int (i : Nat)), some (.int z)] H) →
        t D [some (.ref q), some (.ref r), some (.bl wh), some (.int (need : Nat)), some (.int (i : Nat)), some (.int z)] H := by
    refine ⟨_, (pss_cons (ps_if (PW.pt (pw_or (pt_cmpR op_eq (pv 3) pe_int (nomark _)) (pw_or1 (pt_cmpR op_lt (pv 5) pe_int (nomark _)))))
          (pss_one (ps_ret (pv 4)))
          pss_nil)
        (pss_one (ps_set (i := 3) sc.nd rfl (Or.inl rfl) (pe_op op_sub (pe_op op_add (pv 3) (pv 5)) pe_int)))), ?_⟩
    intro D i need x z hz h1 h2
    have hw := (numW_neg (rows := rows) (wh := wh) (x := x) hs).2
    refine ⟨_, rfl, rfl, _, rfl, if_dec (fun c => ?_) (fun c => ?_)⟩
    · have : need = 0 := by have := V.int.inj c; omega
      exact ⟨_, rfl, h1 (.inl this)⟩
    · have hn : need ≠ 0 := fun e => c (by rw [e]; rfl)
      refine ⟨_, rfl, _, _, rfl, rfl, _, rfl, if_dec (fun c => ?_) (fun c => ?_)⟩
      · exact ⟨_, rfl, h1 (.inr (by omega))⟩
      · have h0 : 0 ≤ numW rows wh x := by omega
        have e := hw h0
        refine ⟨_, rfl, _, rfl, _, _, rfl, rfl, _, _, rfl, rfl, ?_⟩
        have q := h2 (by omega) h0
        rw [show ((need - 1 + ar rows x : Nat) : Int) = (need : Int) + z - 1 by omega] at q
        exact q
  obtain ⟨tR, pR, hRest⟩ := rest
  refine ⟨_, (pss_cons (ps_set (i := 3) sc.nd rfl (Or.inl rfl) pe_int)
      (pss_cons (ps_for (passes_of rfl) rfl (pi_range1 rfl T.range (pa_cons (pe_callB call_len_seq (by rfl) T.len (by decide +kernel) (pa_cons (pv 1) pa_nil)) pa_nil)) (pg_name (i := 4) sc.nd rfl (Or.inl rfl))
        (pss_cons (ps_set (i := 5) sc.nd rfl (Or.inl rfl) (pe_cal c_law_number hr (pa_cons (pv 0) (pa_cons (pe_ix ix_tup (pv 1) (pv 4) (fun _ _ => rfl)) pa_nil))))
        (pss_cons (ps_if (PW.pt (pw_and (pt_val (pv 2)) (pw_and1 (pt_cmpR op_eq (pe_ix ix_tup (pv 1) (pv 4) (fun _ _ => rfl)) pe_str (nomark _)))))
          (pss_one (ps_set (i := 5) sc.nd rfl (Or.inl rfl) pe_int))
          pss_nil)
        pR)))
      (pss_cons (ps_if (pt_cmpR op_gt (pv 3) pe_int (nomark _))
        (pss_one (ps_ret (pe_callB call_len_seq (by rfl) T.len (by decide +kernel) (pa_cons (pv 1) pa_nil))))
        pss_nil)
      (pss_one (ps_ret (pe_un un_neg pe_int)))))), ?_⟩
  refine ⟨_, rfl, r, _, rfl, .inr hR, _, rfl, by omega, by rw [List.length_map]; omega, for_rng (n := (l.map V.str).length)
    (fun i σ H' => ∃ (need : Nat) (t4 t5 : Option V), σ = [some (.ref q), some (.ref r), some (.bl wh), some (.int (need : Nat)), t4, t5] ∧ H' = H ∧ fa rows (lvs wh) need i (l.drop i) = fa rows (lvs wh) 1 0 l)
    ⟨1, none, none, rfl, rfl, by rw [List.drop_zero]⟩ ?_ ?_⟩
  · rintro i σ H2 hi ⟨need, t4, t5, rfl, rfl, e⟩
    rw [List.length_map] at hi
    obtain ⟨x, ex⟩ : ∃ x, l[i]? = some x := ⟨_, List.getElem?_eq_getElem hi⟩
    rw [drop_of ex, fa] at e
    have ea : atI (l.map V.str) (i : Nat) = some (.str x) := atI_nat (by rw [List.getElem?_map, ex]; rfl)
    have hw := (numW_neg (rows := rows) (wh := wh) (x := x) hs)
    have goal : ∀ (D : Ends), D.rt = Q → (∀ (need : Nat) (t4 t5 : Option V), fa rows (lvs wh) need (i + 1) (l.drop (i + 1)) = fa rows (lvs wh) 1 0 l → D.nx [some (.ref q), some (.ref r), some (.bl wh), some (.int (need : Nat)), t4, t5] H2) →
        ∀ z, z = numW rows wh x → tR D [some (.ref q), some (.ref r), some (.bl wh), some (.int (need : Nat)), some (.int (i : Nat)), some (.int z)] H2 := by
      intro D hD hn z hz
      refine hRest D i need x z hz (fun c => ?_) (fun c1 c2 => hn _ _ _ ?_)
      · rw [hD]
        by_cases c0 : need = 0
        · rw [if_pos c0] at e
          rw [← e] at hq
          exact hq
        · rw [if_neg c0, if_pos (hw.1.mp (c.resolve_left c0))] at e
          rw [← e] at hq
          exact hq
      · rw [if_neg (by omega), if_neg (fun y => by have := hw.1.mpr y; omega)] at e
        exact e
    refine ⟨_, rfl, _, rfl, _, rfl, r, _, _, _, rfl, rfl, hR, ea, q, rows, x, rfl, hRL, ?_⟩
    refine ⟨_, rfl, wh, rfl, if_bool (fun c1 => ?_) (fun c1 => ?_)⟩
    · refine ⟨_, rfl, _, rfl, r, _, _, _, rfl, rfl, hR, ea, rfl, _, rfl, if_dec (fun c2 => ?_) (fun c2 => ?_)⟩
      · refine goal _ ?_ ?_ 0 ?_
        · rfl
        · exact fun need t4 t5 e' => ⟨need, t4, t5, rfl, rfl, e'⟩
        · unfold numW
          rw [if_pos ⟨c1, V.str.inj c2⟩]
      · refine goal _ ?_ ?_ _ ?_
        · rfl
        · exact fun need t4 t5 e' => ⟨need, t4, t5, rfl, rfl, e'⟩
        · unfold numW
          rw [if_neg fun y => c2 (by rw [y.2])]
    · refine goal _ ?_ ?_ _ ?_
      · rfl
      · exact fun need t4 t5 e' => ⟨need, t4, t5, rfl, rfl, e'⟩
      · unfold numW
        rw [if_neg fun y => by rw [c1] at y; cases y.1]
  · rintro σ _ ⟨need, t4, t5, rfl, rfl, e⟩
    rw [List.length_map, List.drop_length, fa] at e
    refine ⟨_, rfl, _, _, rfl, rfl, _, rfl, if_dec (fun c => ?_) (fun c => ?_)⟩
    · rw [if_pos (by omega)] at e
      rw [← e] at hq
      exact ⟨_, rfl, r, _, rfl, .inr hR, by rw [List.length_map]; exact hq⟩
    · rw [if_neg (by omega)] at e
      rw [← e] at hq
      exact ⟨_, rfl, hq⟩
end
end Sy
namespace Sy
open PySem PySem.Spec PyProof.Rows L2
/-- data of at most that depth -/
def Fit : Nat → PyData → Prop
  | _, .none => True
  | _, .bool _ => True
  | _, .int _ => True
  | _, .str _ => True
  | n + 1, .tuple ds => ds.length ≤ 1000000 ∧ ∀ d ∈ ds, Fit n d
  | _, _ => False
theorem tyx_tup {K : PySem.W.Frag} {H : Hp} {a : Addr} {xs : List V} (h : SqT K H a xs) : TyX K H (.ref a) (.type "tuple") := by
  rcases h with (h | ⟨o, h⟩) | ⟨o, its, n, hk, hc, _⟩
  · exact .base (.tup h)
  · exact .fTuple h
  · exact .kTuple hk hc
section
variable {P : Program} {w : World} {K : PySem.W.Frag} {mg : Str → Option Value} {base : Heap}
def spSame (K : PySem.W.Frag) (n : Nat) : Sp := fun vs H Q _ => ∃ (x y : V) (d d' : PyData), vs = [x, y] ∧ Im K H x d ∧ Im K H y d' ∧ Fit n d' ∧ ((d = d' ∧ Q (.bl true) H) ∨ ∃ ds es, d = .tuple ds ∧ d' = .tuple es ∧ ds.length ≠ es.length ∧ Q (.bl false) H)
abbrev N_same : List Str := ["_law_told", "_law_due", "_law_k"]
theorem sc_same : FnScope N_same ["_law_told", "_law_due"] (defScope (top 38)) := ⟨rfl, rfl, rfl, by decide +kernel, rfl, by decide +kernel, by decide +kernel⟩
/-- the names of the built-in classes that are asked for -/
structure TxtC (mg : Str → Option Value) : Prop where
  tuple : mg "tuple" = none
  bool : mg "bool" = none
  int : mg "int" = none
  str : mg "str" = none
  isinstance : mg "isinstance" = none
  len : mg "len" = none
  range : mg "range" = none
theorem k_same (T : TxtC mg) (F : DF K mg "_law_same" 38) : ∀ n : Nat, Cal P w K mg base (n + 1) "_law_same" ["_law_told", "_law_due"] (spSame K n) := by
  -- what is no tuple
  have flat : ∀ (k : Nat) (cdv : Value) (A : Around) (outer : List Env) (s : Shared) (H : Hp) (E : XK), Room k (A.deeper (envOfC "_law_same" (defScope (top 38)) s.heap.objs.size (He.ga K "_law_same") cdv)) →
      ∃ t, PSs (cxOf (L2.CX P w) P w K mg base N_same "_law_same" (defScope (top 38)) (He.ga K "_law_same") cdv A outer s H E) ((defBody (top 38)).drop 2) t ∧ ∀ (D : Ends) (Q : VK) (x y : V) (d : PyData), Im K H x d → Im K H y d → D.rt = Q → (∀ ds, d ≠ .tuple ds) → d ≠ .none → Q (.bl true) H → t D [some x, some y, none] H := by
    intro k cdv A outer s H E hr
    refine ⟨_, (pss_cons (ps_if (pt_val (pe_callB call_isi (by rfl) T.isinstance (by decide +kernel) (pa_cons (pv 1) (pa_cons (pe_bltn (v := .ty "bool") (by rfl) T.bool (by decide +kernel) rfl) pa_nil))))
        (pss_one (ps_ret (pe_and (pe_callB call_isi (by rfl) T.isinstance (by decide +kernel) (pa_cons (pv 0) (pa_cons (pe_bltn (v := .ty "bool") (by rfl) T.bool (by decide +kernel) rfl) pa_nil))) (pe_one (pe_cmpR op_eq (pv 0) (pv 1) (nomark _))))))
        pss_nil)
      (pss_cons (ps_if (pt_val (pe_callB call_isi (by rfl) T.isinstance (by decide +kernel) (pa_cons (pv 1) (pa_cons (pe_bltn (v := .ty "int") (by rfl) T.int (by decide +kernel) rfl) pa_nil))))
        (pss_one (ps_ret (pe_and (pe_callB call_isi (by rfl) T.isinstance (by decide +kernel) (pa_cons (pv 0) (pa_cons (pe_bltn (v := .ty "int") (by rfl) T.int (by decide +kernel) rfl) pa_nil))) (pe_and (pe_not (pe_callB call_isi (by rfl) T.isinstance (by decide +kernel) (pa_cons (pv 0) (pa_cons (pe_bltn (v := .ty "bool") (by rfl) T.bool (by decide +kernel) rfl) pa_nil)))) (pe_one (pe_cmpR op_eq (pv 0) (pv 1) (nomark _)))))))
        pss_nil)
      (pss_one (ps_ret (pe_and (pe_callB call_isi (by rfl) T.isinstance (by decide +kernel) (pa_cons (pv 0) (pa_cons (pe_bltn (v := .ty "str") (by rfl) T.str (by decide +kernel) rfl) pa_nil))) (pe_one (pe_cmpR op_eq (pv 0) (pv 1) (nomark _)))))))), ?_⟩
    intro D Q x y d ix iy hD nt nn hq
    cases ix with
    | non => exact absurd rfl nn
    | tup _ _ => exact absurd rfl (nt _)
    | bl b =>
      cases iy
      refine ⟨_, rfl, _, _, _, _, true, rfl, .ty _, .base (.bl b), kit_ty (by decide +kernel), _, rfl, iteT ?_⟩
      refine ⟨_, rfl, _, _, _, _, true, rfl, .ty _, .base (.bl b), kit_ty (by decide +kernel), _, rfl, iteT ?_⟩
      refine ⟨_, rfl, _, rfl, rfl, ?_⟩
      rw [hD, decide_eq_true rfl]
      exact hq
    | int i =>
      cases iy
      refine ⟨_, rfl, _, _, _, _, false, rfl, .ty _, .base (.int i), kit_ty (by decide +kernel), _, rfl, iteF ?_⟩
      refine ⟨_, rfl, _, _, _, _, true, rfl, .ty _, .base (.int i), kit_ty (by decide +kernel), _, rfl, iteT ?_⟩
      refine ⟨_, rfl, _, _, _, _, true, rfl, .ty _, .base (.int i), kit_ty (by decide +kernel), _, rfl, iteT ?_⟩
      refine ⟨_, rfl, _, _, _, _, false, rfl, .ty _, .base (.int i), kit_ty (by decide +kernel), _, rfl, _, rfl, iteT ?_⟩
      refine ⟨_, rfl, _, rfl, rfl, ?_⟩
      rw [hD, decide_eq_true rfl]
      exact hq
    | str z =>
      cases iy
      refine ⟨_, rfl, _, _, _, _, false, rfl, .ty _, .base (.str z), kit_ty (by decide +kernel), _, rfl, iteF ?_⟩
      refine ⟨_, rfl, _, _, _, _, false, rfl, .ty _, .base (.str z), kit_ty (by decide +kernel), _, rfl, iteF ?_⟩
      refine ⟨_, rfl, _, _, _, _, true, rfl, .ty _, .base (.str z), kit_ty (by decide +kernel), _, rfl, iteT ?_⟩
      refine ⟨_, rfl, _, rfl, rfl, ?_⟩
      rw [hD, decide_eq_true rfl]
      exact hq
  have len : ∀ n vs H Q E, spSame K n vs H Q E → vs.length = (["_law_told", "_law_due"] : List Str).length := fun n vs H Q E s => by obtain ⟨_, _, _, _, rfl, _⟩ := s; rfl
  -- what is asked of all but a tuple
  have notT : ∀ {H : Hp} {y : V} {d : PyData}, Im K H y d → (∀ ds, d ≠ .tuple ds) → ∃ t, TyX K H y t ∧ PySem.W.kitOne K t (.type "tuple") = some false := by
    intro H y d iy nt
    cases iy with
    | non => exact ⟨_, .base .non, kit_ty (by decide +kernel)⟩
    | bl b => exact ⟨_, .base (.bl b), kit_ty (by decide +kernel)⟩
    | int i => exact ⟨_, .base (.int i), kit_ty (by decide +kernel)⟩
    | str z => exact ⟨_, .base (.str z), kit_ty (by decide +kernel)⟩
    | tup _ _ => exact absurd rfl (nt _)
  intro n
  induction n with
  | zero =>
    refine cal_of F.1 F.2 sc_same (fun _ _ _ _ _ _ us e => match us, e with | [_, _], _ => rfl) (len 0) ?_
    intro cdv A outer s H vs Q E hr h
    obtain ⟨x, y, d, d', rfl, ix, iy, fit, hq⟩ := h
    have hq2 : d = d' ∧ Q (.bl true) H := hq.elim id fun ⟨_, es, _, e, _⟩ => by rw [e] at fit; exact fit.elim
    clear hq
    obtain ⟨rfl, hq⟩ := hq2
    obtain ⟨t, pt, ht⟩ := flat 0 cdv A outer s H E hr
    refine ⟨_, (pss_cons (ps_if (pt_cmpR op_isN (pv 1) pe_non (nomark _))
        (pss_one (ps_ret (pe_cmpR op_isN (pv 0) pe_non (nomark _))))
        pss_nil)
      (pss_cons (ps_if (pt_val (pe_callB call_isi (by rfl) T.isinstance (by decide +kernel) (pa_cons (pv 1) (pa_cons (pe_bltn (v := .ty "tuple") (by rfl) T.tuple (by decide +kernel) rfl) pa_nil))))
        (pss_cons ps_never (pss_cons ps_never (pss_one ps_never)))
        pss_nil)
      pt)), ?_⟩
    have nt : ∀ ds, d ≠ .tuple ds := fun ds z => by rw [z] at fit; exact fit
    refine ⟨_, rfl, rfl, _, rfl, if_dec (fun c => ?_) (fun c => ?_)⟩
    · subst c
      cases iy
      cases ix
      refine ⟨_, rfl, rfl, ?_⟩
      rw [decide_eq_true rfl]
      exact hq
    · obtain ⟨ty, h1, h2⟩ := notT iy nt
      exact ⟨_, rfl, _, _, _, _, false, rfl, .ty _, h1, h2, _, rfl, iteF (ht _ Q x y d ix iy rfl nt (fun z => by subst z; cases iy; exact c rfl) hq)⟩
  | succ n ih =>
    refine cal_of F.1 F.2 sc_same (fun _ _ _ _ _ _ us e => match us, e with | [_, _], _ => rfl) (len (n + 1)) ?_
    intro cdv A outer s H vs Q E hr h
    obtain ⟨x, y, d, d', rfl, ix, iy, fit, hq⟩ := h
    have sc := sc_same
    obtain ⟨t, pt, ht⟩ := flat (n + 1) cdv A outer s H E hr
    refine ⟨_, (pss_cons (ps_if (pt_cmpR op_isN (pv 1) pe_non (nomark _))
        (pss_one (ps_ret (pe_cmpR op_isN (pv 0) pe_non (nomark _))))
        pss_nil)
      (pss_cons (ps_if (pt_val (pe_callB call_isi (by rfl) T.isinstance (by decide +kernel) (pa_cons (pv 1) (pa_cons (pe_bltn (v := .ty "tuple") (by rfl) T.tuple (by decide +kernel) rfl) pa_nil))))
        (pss_cons (ps_if (PW.pt (pw_or (pt_not (pt_val (pe_callB call_isi (by rfl) T.isinstance (by decide +kernel) (pa_cons (pv 0) (pa_cons (pe_bltn (v := .ty "tuple") (by rfl) T.tuple (by decide +kernel) rfl) pa_nil))))) (pw_or1 (pt_cmpR op_ne (pe_callB call_len_seq (by rfl) T.len (by decide +kernel) (pa_cons (pv 0) pa_nil)) (pe_callB call_len_seq (by rfl) T.len (by decide +kernel) (pa_cons (pv 1) pa_nil)) (nomark _)))))
          (pss_one (ps_ret pe_bl))
          pss_nil)
        (pss_cons (ps_for (passes_of rfl) rfl (pi_range1 rfl T.range (pa_cons (pe_callB call_len_seq (by rfl) T.len (by decide +kernel) (pa_cons (pv 1) pa_nil)) pa_nil)) (pg_name (i := 2) sc.nd rfl (Or.inl rfl))
          (pss_one (ps_if (pt_not (pt_val (pe_cal ih hr (pa_cons (pe_ix ix_tup (pv 0) (pv 2) (fun _ _ => rfl)) (pa_cons (pe_ix ix_tup (pv 1) (pv 2) (fun _ _ => rfl)) pa_nil)) (Nat.le_refl _))))
            (pss_one (ps_ret pe_bl))
            pss_nil)))
        (pss_one (ps_ret pe_bl))))
        pss_nil)
      pt)), ?_⟩
    rcases hq with ⟨rfl, hq⟩ | ⟨ds, es, rfl, rfl, hne, hq⟩
    case inr =>
      obtain ⟨a, xs, rfl, ta, ia⟩ := ix.tupI
      obtain ⟨b, ys, rfl, tb, ib⟩ := iy.tupI
      have la := ia.len
      have lb := ib.len
      refine ⟨_, rfl, rfl, _, rfl, if_dec (fun c => by cases c) (fun c => ?_)⟩
      refine ⟨_, rfl, _, _, _, _, true, rfl, .ty _, tyx_tup tb, kit_ty (by decide +kernel), _, rfl, iteT ?_⟩
      refine ⟨_, rfl, _, _, _, _, true, rfl, .ty _, tyx_tup ta, kit_ty (by decide +kernel), _, rfl, iteF ?_⟩
      refine ⟨_, rfl, a, _, rfl, .inr ta, _, rfl, b, _, rfl, .inr tb, rfl, _, rfl, ?_⟩
      rw [la, lb, decide_eq_false (fun z => hne (by have := V.int.inj z; omega))]
      exact iteT hq
    refine ⟨_, rfl, rfl, _, rfl, if_dec (fun c => ?_) (fun c => ?_)⟩
    · subst c
      cases iy
      cases ix
      refine ⟨_, rfl, rfl, ?_⟩
      rw [decide_eq_true rfl]
      exact hq
    by_cases nt : ∀ ds, d ≠ .tuple ds
    · obtain ⟨ty, h1, h2⟩ := notT iy nt
      exact ⟨_, rfl, _, _, _, _, false, rfl, .ty _, h1, h2, _, rfl, iteF (ht _ Q x y d ix iy rfl nt (fun z => by subst z; cases iy; exact c rfl) hq)⟩
    · obtain ⟨ds, rfl⟩ : ∃ ds, d = .tuple ds := by
        cases d with
        | tuple ds => exact ⟨ds, rfl⟩
        | _ => exact absurd (fun _ z => by cases z) nt
      obtain ⟨a, xs, rfl, ta, ia⟩ := ix.tupI
      obtain ⟨b, ys, rfl, tb, ib⟩ := iy.tupI
      have la := ia.len
      have lb := ib.len
      have hz : ds.length ≤ 1000000 := fit.1
      refine ⟨_, rfl, _, _, _, _, true, rfl, .ty _, tyx_tup tb, kit_ty (by decide +kernel), _, rfl, iteT ?_⟩
      refine ⟨_, rfl, _, _, _, _, true, rfl, .ty _, tyx_tup ta, kit_ty (by decide +kernel), _, rfl, iteF ?_⟩
      refine ⟨_, rfl, a, _, rfl, .inr ta, _, rfl, b, _, rfl, .inr tb, rfl, _, rfl, ?_⟩
      rw [la, lb, decide_eq_true rfl]
      refine iteF ⟨_, rfl, b, _, rfl, .inr tb, _, rfl, by omega, by omega, for_rng (n := ys.length) (fun i σ H' => ∃ t2, σ = [some (.ref a), some (.ref b), t2] ∧ H' = H) ⟨_, rfl, rfl⟩ ?_ ?_⟩
      · rintro i σ H1 hi ⟨t2, rfl, rfl⟩
        obtain ⟨d, ed⟩ : ∃ d, ds[i]? = some d := ⟨_, List.getElem?_eq_getElem (by omega)⟩
        obtain ⟨u, eu, iu⟩ := ia.get ed
        obtain ⟨v, ev, iv⟩ := ib.get ed
        exact ⟨_, rfl, _, rfl, a, _, _, _, rfl, rfl, ta, atI_nat eu, _, rfl, _, rfl, b, _, _, _, rfl, rfl, tb, atI_nat ev, u, v, d, d, rfl, iu, iv, fit.2 d (List.mem_of_getElem? ed), .inl ⟨rfl, _, rfl, iteF ⟨_, rfl, rfl⟩⟩⟩
      · rintro σ H1 ⟨t2, rfl, rfl⟩
        exact hq
end
end Sy
/-! plain laws of texts: names, pieces of a bed's text -/
namespace Sy
open PySem PySem.Spec PyProof.Rows L2
theorem asc_uni (c : Nat) (h : c < 128) (a : Unicode.isAlpha c = true) (u : (Unicode.isUpper c || Unicode.isTitle c) = false) : Lt c := by
  have q : ∀ i : Fin 128, Unicode.isAlpha i.val = true → (Unicode.isUpper i.val || Unicode.isTitle i.val) = false → 97 ≤ i.val ∧ i.val ≤ 122 := by decide +kernel
  exact q ⟨c, h⟩ a u
theorem letters_iff (x : Str) : letters x = true ↔ x.cps.toList ≠ [] ∧ ∀ c ∈ x.cps.toList, Lt c := by
  have hl := len_tl x
  constructor
  · intro h
    unfold letters at h
    obtain ⟨h1, h⟩ := Bool.and_eq_true_iff.mp h
    obtain ⟨h2, h3⟩ := Bool.and_eq_true_iff.mp h
    unfold Txt.isascii at h1
    rw [← Array.all_toList, List.all_eq_true] at h1
    unfold Txt.isalpha at h2
    obtain ⟨h2a, h2b⟩ := Bool.and_eq_true_iff.mp h2
    rw [← Array.all_toList, List.all_eq_true] at h2b
    unfold Txt.islower at h3
    obtain ⟨_, h3b⟩ := Bool.and_eq_true_iff.mp h3
    rw [← Array.any_toList, Bool.not_eq_true', List.any_eq_false] at h3b
    have hp : 0 < x.length := of_decide_eq_true h2a
    refine ⟨fun z => ?_, fun c hc => asc_uni c (of_decide_eq_true (h1 c hc)) (h2b c hc) (by simpa using h3b c hc)⟩
    rw [z] at hl
    simp at hl
    omega
  · rintro ⟨h0, h3⟩
    have h1 : 0 < x.cps.toList.length := List.length_pos_iff.mpr h0
    have a1 : Txt.isascii x = true := by
      unfold Txt.isascii
      rw [← Array.all_toList, List.all_eq_true]
      intro c hc
      have := (h3 c hc).2
      exact decide_eq_true (by omega)
    have a2 : Txt.isalpha x = true := by
      unfold Txt.isalpha
      rw [decide_eq_true (by omega), Bool.true_and, ← Array.all_toList, List.all_eq_true]
      exact fun c hc => (lt_uni c (h3 c hc)).1
    have a3 : Txt.islower x = true := by
      unfold Txt.islower
      rw [Bool.and_eq_true]
      constructor
      · rw [← Array.any_toList, List.any_eq_true]
        obtain ⟨c, hc⟩ : ∃ c, c ∈ x.cps.toList := List.exists_mem_of_length_pos (by omega)
        exact ⟨c, hc, (lt_uni c (h3 c hc)).2.1⟩
      · rw [← Array.any_toList, Bool.not_eq_true', List.any_eq_false]
        intro c hc
        rw [(lt_uni c (h3 c hc)).2.2.1, (lt_uni c (h3 c hc)).2.2.2]
        decide
    unfold letters
    rw [a1, a2, a3]
    rfl
theorem nameOk_iff (x : Str) : nameOk x = true ↔ Wd x := by
  have e : nameOk x = (decide (x.length ≤ 8) && letters x) := rfl
  rw [e, Bool.and_eq_true, letters_iff, len_tl]
  unfold Wd
  constructor
  · rintro ⟨h1, h2, h3⟩
    exact ⟨List.length_pos_iff.mpr h2, of_decide_eq_true h1, h3⟩
  · rintro ⟨h1, h2, h3⟩
    exact ⟨decide_eq_true h2, List.length_pos_iff.mp h1, h3⟩
/-! a piece of a bed's text -/
theorem tl_sl : TL.tl ("/" : Str) = [47] := by decide +kernel
theorem pieceR_some {y : Str} {A : List Nat} {d : Nat} (h : y.cps.toList = A ++ [47, d]) (h0 : A ≠ []) (hA : ∀ c ∈ A, Lt c) (hd : isDig d = true) : pieceR y = some (⟨A.toArray⟩, ((d - 48 : Nat) : Int)) := by
  have e : y = (⟨A.toArray⟩ : Str) ++ "/" ++ ⟨#[d]⟩ := TL.ext_tl (by
    rw [TL.tl_append, TL.tl_append, tl_sl]
    show y.cps.toList = A ++ [47] ++ [d]
    rw [h, List.append_assoc]
    rfl)
  have nA : (47 : Nat) ∉ TL.tl (⟨A.toArray⟩ : Str) := fun z => by
    have := (hA 47 z).1
    omega
  have ep := TL.partition_app (y := "/") (s := 47) (S := []) tl_sl (a := ⟨A.toArray⟩) (b := ⟨#[d]⟩) nA
  rw [← e] at ep
  have hl : letters (⟨A.toArray⟩ : Str) = true := (letters_iff _).mpr ⟨h0, hA⟩
  unfold pieceR
  rw [ep]
  simp only [hl, if_true, hd]
theorem pieceR_inv {y : Str} {r : PRow} (h : pieceR y = some r) : ∃ A d, y.cps.toList = A ++ [47, d] ∧ A ≠ [] ∧ (∀ c ∈ A, Lt c) ∧ isDig d = true ∧ r = (⟨A.toArray⟩, ((d - 48 : Nat) : Int)) := by
  have hs := StrLaws.partition_sum y "/"
  have hp := TL.partition_par y "/" (by rw [tl_sl]; decide)
  unfold pieceR at h
  split at h
  · rename_i hl
    split at h
    · rename_i c hc
      split at h
      · rename_i hd
        have hm : (Txt.partition y "/").2.1 = "/" := by
          cases e : TL.par (TL.tl ("/" : Str)) [] (TL.tl y) with
          | none =>
            rw [e] at hp
            rw [hp] at hc
            cases hc
          | some q =>
            rw [e] at hp
            rw [hp]
        obtain ⟨h0, hA⟩ := (letters_iff _).mp hl
        refine ⟨(Txt.partition y "/").1.cps.toList, c, ?_, h0, hA, hd, ?_⟩
        · have z := congrArg TL.tl hs
          rw [hm, TL.tl_append, TL.tl_append, tl_sl] at z
          have : TL.tl (Txt.partition y "/").2.2 = [c] := hc
          rw [this, List.append_assoc] at z
          exact z.symm
        · cases h
          congr 1
      · cases h
    · cases h
  · cases h
/-! words and signs -/
theorem tl_rep1 (c d : Nat) : ∀ parts : List Str, (∀ p ∈ parts, c ∉ TL.tl p) → TL.tl (Str.join ⟨#[d]⟩ parts) = (TL.tl (Str.join ⟨#[c]⟩ parts)).map fun k => if k = c then d else k
  | [], _ => rfl
  | [p], h => by
    show TL.tl p = (TL.tl p).map _
    have hp := h p (List.mem_singleton.mpr rfl)
    symm
    calc (TL.tl p).map (fun k => if k = c then d else k) = (TL.tl p).map id := List.map_congr_left fun k hk => if_neg fun e => hp (by rw [← e]; exact hk)
      _ = TL.tl p := List.map_id _
  | p :: q :: r, h => by
    have ih := tl_rep1 c d (q :: r) fun a ha => h a (List.mem_cons_of_mem _ ha)
    have hp := h p (List.mem_cons_self ..)
    show TL.tl (p ++ ⟨#[d]⟩ ++ Str.join ⟨#[d]⟩ (q :: r)) = (TL.tl (p ++ ⟨#[c]⟩ ++ Str.join ⟨#[c]⟩ (q :: r))).map _
    rw [TL.tl_append, TL.tl_append, TL.tl_append, TL.tl_append, List.map_append, List.map_append, ih]
    have e1 : (TL.tl p).map (fun k => if k = c then d else k) = TL.tl p := by
      calc (TL.tl p).map (fun k => if k = c then d else k) = (TL.tl p).map id := List.map_congr_left fun k hk => if_neg fun e => hp (by rw [← e]; exact hk)
        _ = TL.tl p := List.map_id _
    rw [e1]
    have e2 : (TL.tl (⟨#[c]⟩ : Str)).map (fun k => if k = c then d else k) = TL.tl (⟨#[d]⟩ : Str) := by
      show [if c = c then d else c] = [d]
      rw [if_pos rfl]
    rw [e2]
theorem tl_replace1 (x : Str) (c d : Nat) : TL.tl (Txt.replace x ⟨#[c]⟩ ⟨#[d]⟩) = (TL.tl x).map fun k => if k = c then d else k := by
  rw [StrLaws.replace_one, tl_rep1 c d _ (StrLaws.split_free x c), StrLaws.join_split]
theorem tl_strike (x : Str) (c : Nat) : TL.tl (Txt.replace x ⟨#[c]⟩ ⟨#[]⟩) = (TL.tl x).filter (· != c) := replace_strikes x c
theorem joinL_nil : ∀ ps : List (List Nat), TL.joinL [] ps = ps.flatten
  | [] => rfl
  | [p] => by simp [TL.joinL]
  | p :: q :: r => by
    show p ++ ([] ++ TL.joinL [] (q :: r)) = _
    rw [joinL_nil (q :: r)]
    rfl
theorem tl_joinE (ps : List Str) : TL.tl (Txt.join Str.empty ps) = (ps.map TL.tl).flatten := by
  rw [TL.join_eq, TL.tl_join]
  exact joinL_nil _
end Sy
/-! the written form of a row gives the row back -/
namespace Sy
open PySem PySem.Spec PyProof.Rows L2
/-- what stands in a row's word -/
def WordOk (y : Str) : Prop := TL.tl y ≠ [] ∧ ∀ c ∈ TL.tl y, c ≠ 40 ∧ c ≠ 41 ∧ c ≠ 44 ∧ c ≠ 32
/-- open branches: how many entries are still missing -/
def MS (st : List Nat) (m : Nat) : Prop := (st = [] ∧ m = 0) ∨ (st ≠ [] ∧ m + st.length = st.sum + 1)
def MS1 (st : List Nat) (m : Nat) : Prop := (st = [] ∧ m = 1) ∨ (st ≠ [] ∧ m + st.length = st.sum + 1)
theorem sum_ge {st : List Nat} (h : ∀ n ∈ st, 1 ≤ n) : st.length ≤ st.sum := by
  induction st with
  | nil => exact Nat.le_refl _
  | cons n s ih =>
    have := ih fun k hk => h k (List.mem_cons_of_mem _ hk)
    have := h n List.mem_cons_self
    rw [List.length_cons, List.sum_cons]
    omega
theorem clJ_ms : ∀ {st : List Nat} {m : Nat}, (∀ n ∈ st, 1 ≤ n) → MS1 st m → MS (clJ st).2 (m - 1) ∧ (∀ n ∈ (clJ st).2, 1 ≤ n)
  | [], m, _, h => by
    rcases h with ⟨_, rfl⟩ | ⟨z, _⟩
    · exact ⟨.inl ⟨rfl, rfl⟩, fun _ z => nomatch z⟩
    · exact absurd rfl z
  | n :: s, m, hp, h => by
    have hn := hp n List.mem_cons_self
    have hs : ∀ k ∈ s, 1 ≤ k := fun k hk => hp k (List.mem_cons_of_mem _ hk)
    have hge := sum_ge hs
    rcases h with ⟨z, _⟩ | ⟨_, e⟩
    · cases z
    rw [List.length_cons, List.sum_cons] at e
    rw [clJ]
    by_cases c : n = 1
    · rw [if_pos c]
      refine clJ_ms hs ?_
      by_cases z : s = []
      · subst z
        rw [List.sum_nil, List.length_nil] at e
        exact .inl ⟨rfl, by omega⟩
      · exact .inr ⟨z, by omega⟩
    · rw [if_neg c]
      refine ⟨.inr ⟨by simp, ?_⟩, fun k hk => ?_⟩
      · show m - 1 + (s.length + 1) = ((n - 1) :: s).sum + 1
        rw [List.sum_cons]
        omega
      · rcases List.mem_cons.mp hk with rfl | hk
        · omega
        · exact hs k hk
theorem push_ms {st : List Nat} {m a : Nat} (ha : 0 < a) (hp : ∀ n ∈ st, 1 ≤ n) (h : MS1 st m) : MS (a :: st) (m - 1 + a) ∧ ∀ n ∈ a :: st, 1 ≤ n := by
  have hge := sum_ge hp
  refine ⟨.inr ⟨by simp, ?_⟩, fun n hn => ?_⟩
  · rw [List.length_cons, List.sum_cons]
    rcases h with ⟨rfl, rfl⟩ | ⟨_, e⟩
    · simp only [List.length_nil, List.sum_nil]
      omega
    · omega
  · rcases List.mem_cons.mp hn with rfl | hn
    · exact ha
    · exact hp n hn
theorem MS.one {st : List Nat} {m : Nat} (h : MS st m) (hm : m ≠ 0) : MS1 st m := by
  rcases h with ⟨_, z⟩ | h
  · exact absurd z hm
  · exact .inr h
theorem MS.nil_iff {st : List Nat} {m : Nat} (hp : ∀ n ∈ st, 1 ≤ n) (h : MS st m) : st = [] ↔ m = 0 := by
  have hge := sum_ge hp
  rcases h with ⟨a, b⟩ | ⟨a, b⟩
  · exact ⟨fun _ => b, fun _ => a⟩
  · exact ⟨fun z => absurd z a, fun z => by omega⟩
/-- a step of fault_among that finds nothing -/
theorem fa_step {rows : List Sy.Row} {lv : List Str} {m i : Nat} {y : Str} {l : List Str} (h : fa rows lv m i (y :: l) < 0) : m ≠ 0 ∧ fa rows lv (m - 1 + ar rows y) (i + 1) l < 0 := by
  rw [fa] at h
  split at h
  · omega
  · rename_i c
    split at h
    · omega
    · exact ⟨c, h⟩
theorem fa_end {rows : List Sy.Row} {lv : List Str} {m i : Nat} (h : fa rows lv m i [] < 0) : m = 0 := by
  rw [fa] at h
  split at h
  · omega
  · omega
/-- m entries are missing: the row behind is empty just if none is -/
theorem fa_nil_iff {rows : List Sy.Row} {lv : List Str} {m i : Nat} {l : List Str} (h : fa rows lv m i l < 0) : l = [] ↔ m = 0 := by
  cases l with
  | nil => exact ⟨fun _ => fa_end h, fun _ => rfl⟩
  | cons y l => exact ⟨fun z => (nomatch z), fun z => absurd z (fa_step h).1⟩
/-! read_row's way -/
def rrT (l : List Nat) : List Nat := (l.map fun k => if k = 40 then 44 else k).filter (· != 41)
theorem rrT_append (a b : List Nat) : rrT (a ++ b) = rrT a ++ rrT b := by unfold rrT; rw [List.map_append, List.filter_append]
theorem rrT_word {y : Str} (h : WordOk y) : rrT (TL.tl y) = TL.tl y := by
  unfold rrT
  have e1 : (TL.tl y).map (fun k => if k = 40 then 44 else k) = TL.tl y := by
    calc (TL.tl y).map (fun k => if k = 40 then 44 else k) = (TL.tl y).map id := List.map_congr_left fun k hk => if_neg (h.2 k hk).1
      _ = TL.tl y := List.map_id _
  rw [e1, List.filter_eq_self]
  intro c hc
  have := (h.2 c hc).2.1
  simpa using this
def pcs (ps : List Str) : List Nat := (ps.map TL.tl).flatten
theorem pcs_append (a b : List Str) : pcs (a ++ b) = pcs a ++ pcs b := by unfold pcs; rw [List.map_append, List.flatten_append]
theorem pcs_cons (a : Str) (b : List Str) : pcs (a :: b) = TL.tl a ++ pcs b := rfl
theorem tl_op : TL.tl ("(" : Str) = [40] := by decide +kernel
theorem tl_cl : TL.tl (")" : Str) = [41] := by decide +kernel
theorem tl_co : TL.tl ("," : Str) = [44] := by decide +kernel
theorem tl_bl : TL.tl (" " : Str) = [32] := by decide +kernel
theorem clJ_rr : ∀ st : List Nat, rrT (pcs (clJ st).1) = if (clJ st).2 = [] then [] else [44]
  | [] => rfl
  | n :: s => by
    rw [clJ]
    by_cases c : n = 1
    · rw [if_pos c, pcs_cons, rrT_append, clJ_rr s, tl_cl]
      rfl
    · rw [if_neg c, if_neg (by simp), pcs_cons, tl_co]
      rfl
theorem joinL_cons {S p : List Nat} {l : List (List Nat)} (h : l ≠ []) : TL.joinL S (p :: l) = p ++ (S ++ TL.joinL S l) := by
  cases l with
  | nil => exact absurd rfl h
  | cons q r => rfl
theorem rr_join {rows : List Sy.Row} {lv : List Str} : ∀ {l : List Str} {st : List Nat} {m i : Nat}, (∀ y ∈ l, WordOk y) → (∀ n ∈ st, 1 ≤ n) → MS1 st m → l ≠ [] → fa rows lv m i l < 0 → rrT (pcs (jn rows st l)) = TL.joinL [44] (l.map TL.tl)
  | [], _, _, _, _, _, _, h, _ => absurd rfl h
  | y :: l, st, m, i, hw, hp, hm, _, hf => by
    obtain ⟨hm0, hf2⟩ := fa_step hf
    have hy := hw y List.mem_cons_self
    have hl : ∀ z ∈ l, WordOk z := fun z hz => hw z (List.mem_cons_of_mem _ hz)
    rw [jn, pcs_cons, rrT_append, rrT_word hy, List.map_cons]
    by_cases c : 0 < ar rows y
    · rw [if_pos c, pcs_cons, rrT_append, tl_op]
      obtain ⟨k1, k2⟩ := push_ms c hp hm
      have hne : l ≠ [] := fun z => by have := (fa_nil_iff hf2).mp z; omega
      rw [rr_join hl k2 (k1.one (by omega)) hne hf2, joinL_cons (by simpa using hne)]
      rfl
    · rw [if_neg c, pcs_append, rrT_append, clJ_rr]
      obtain ⟨k1, k2⟩ := clJ_ms hp hm
      have e0 : m - 1 + ar rows y = m - 1 := by omega
      rw [e0] at hf2
      by_cases z : (clJ st).2 = []
      · have hm1 := (k1.nil_iff k2).mp z
        have hln : l = [] := (fa_nil_iff hf2).mpr hm1
        rw [if_pos z, hln]
        show TL.tl y ++ ([] ++ rrT (pcs [])) = TL.tl y
        simp [pcs, rrT]
      · have hm1 : m - 1 ≠ 0 := fun q => z ((k1.nil_iff k2).mpr q)
        have hne : l ≠ [] := fun q => hm1 ((fa_nil_iff hf2).mp q)
        rw [if_neg z, rr_join hl k2 (k1.one hm1) hne hf2, joinL_cons (by simpa using hne)]
theorem tl_jT (rows : List Sy.Row) (l : List Str) : TL.tl (jT rows l) = pcs (jn rows [] l) := tl_joinE _
theorem ne_of_fa {rows : List Sy.Row} {lv l : List Str} (h : fa rows lv 1 0 l < 0) : l ≠ [] := fun z => by have := (fa_nil_iff h).mp z; omega
theorem rowOf_jT {rows : List Sy.Row} {lv l : List Str} (hw : ∀ y ∈ l, WordOk y) (h : fa rows lv 1 0 l < 0) : rowOf (jT rows l) = l := by
  have hne := ne_of_fa h
  refine TL.map_tl_inj ?_
  unfold rowOf
  rw [TL.split_spl _ _ (by rw [tl_co]; decide) (TL.kind_ok (by decide +kernel)), tl_co]
  have e1 : TL.tl (Txt.replace (Txt.replace (jT rows l) "(" ",") ")" "") = rrT (pcs (jn rows [] l)) := by
    have h1 : TL.tl (Txt.replace (jT rows l) "(" ",") = (TL.tl (jT rows l)).map fun k => if k = 40 then 44 else k := tl_replace1 _ 40 44
    have h2 : TL.tl (Txt.replace (Txt.replace (jT rows l) "(" ",") ")" "") = (TL.tl (Txt.replace (jT rows l) "(" ",")).filter (· != 41) := tl_strike _ 41
    rw [h2, h1, tl_jT]
    rfl
  rw [e1, rr_join (st := []) hw (fun _ z => nomatch z) (.inl ⟨rfl, rfl⟩) hne h]
  refine TL.spl_join (fun z => hne (List.map_eq_nil_iff.mp z)) fun p hp => ?_
  obtain ⟨y, hy, rfl⟩ := List.mem_map.mp hp
  exact fun z => ((hw y hy).2 44 z).2.2.1 rfl
/-! the law's way -/
def lwT (l : List Nat) : List Nat := l.map fun k => if k = 40 ∨ k = 41 ∨ k = 44 then 32 else k
theorem lwT_append (a b : List Nat) : lwT (a ++ b) = lwT a ++ lwT b := List.map_append
theorem lwT_word {y : Str} (h : WordOk y) : lwT (TL.tl y) = TL.tl y := by
  unfold lwT
  calc (TL.tl y).map (fun k => if k = 40 ∨ k = 41 ∨ k = 44 then 32 else k) = (TL.tl y).map id := List.map_congr_left fun k hk => if_neg fun z => z.elim (h.2 k hk).1 fun z => z.elim (h.2 k hk).2.1 (h.2 k hk).2.2.1
    _ = TL.tl y := List.map_id _
def wdsL (l : List Nat) : List (List Nat) := (TL.spl [32] 0 [] l).filter (· != [])
theorem wdsL_nil : wdsL [] = [] := rfl
theorem wdsL_bl (l : List Nat) : wdsL (32 :: l) = wdsL l := by
  unfold wdsL
  have := TL.spl_part1 (s := 32) (S := []) (p := []) (acc := []) (rest := l) (by simp)
  have e : ([] : List Nat) ++ ([32] ++ l) = 32 :: l := rfl
  rw [e] at this
  rw [this]
  rfl
theorem wdsL_word {p l : List Nat} (h : (32 : Nat) ∉ p) (hp : p ≠ []) : wdsL (p ++ 32 :: l) = p :: wdsL l := by
  unfold wdsL
  have := TL.spl_part1 (s := 32) (S := []) (p := p) (acc := []) (rest := l) h
  have e : p ++ ([32] ++ l) = p ++ 32 :: l := rfl
  rw [e] at this
  rw [this, List.filter_cons, List.nil_append, if_pos (by simpa using hp)]
theorem wdsL_last {p : List Nat} (h : (32 : Nat) ∉ p) (hp : p ≠ []) : wdsL p = [p] := by
  unfold wdsL
  rw [TL.spl_last1 h, List.nil_append, List.filter_cons, if_pos (by simpa using hp)]
  rfl
theorem clJ_lw : ∀ (st : List Nat) (l : List Nat), wdsL (lwT (pcs (clJ st).1) ++ l) = wdsL l
  | [], _ => rfl
  | n :: s, l => by
    rw [clJ]
    by_cases c : n = 1
    · rw [if_pos c, pcs_cons, lwT_append, tl_cl, List.append_assoc]
      show wdsL (32 :: (lwT (pcs (clJ s).1) ++ l)) = _
      rw [wdsL_bl, clJ_lw s l]
    · rw [if_neg c, pcs_cons, tl_co]
      show wdsL (32 :: l) = _
      rw [wdsL_bl]
theorem clJ_head {st : List Nat} (h : st ≠ []) : ∃ r, lwT (pcs (clJ st).1) = 32 :: r := by
  cases st with
  | nil => exact absurd rfl h
  | cons n s =>
    rw [clJ]
    by_cases c : n = 1
    · rw [if_pos c, pcs_cons, lwT_append, tl_cl]
      exact ⟨_, rfl⟩
    · rw [if_neg c, pcs_cons, lwT_append, tl_co]
      exact ⟨_, rfl⟩
theorem lw_join {rows : List Sy.Row} {lv : List Str} : ∀ {l : List Str} {st : List Nat} {m i : Nat}, (∀ y ∈ l, WordOk y) → (∀ n ∈ st, 1 ≤ n) → (l ≠ [] → MS1 st m) → fa rows lv m i l < 0 → wdsL (lwT (pcs (jn rows st l))) = l.map TL.tl
  | [], _, _, _, _, _, _, _ => rfl
  | y :: l, st, m, i, hw, hp, hm, hf => by
    have hm := hm (by simp)
    obtain ⟨hm0, hf2⟩ := fa_step hf
    have hy := hw y List.mem_cons_self
    have hl : ∀ z ∈ l, WordOk z := fun z hz => hw z (List.mem_cons_of_mem _ hz)
    have h32 : (32 : Nat) ∉ TL.tl y := fun z => (hy.2 32 z).2.2.2 rfl
    rw [jn, pcs_cons, lwT_append, lwT_word hy, List.map_cons]
    by_cases c : 0 < ar rows y
    · rw [if_pos c, pcs_cons, lwT_append, tl_op]
      obtain ⟨k1, k2⟩ := push_ms c hp hm
      show wdsL (TL.tl y ++ 32 :: lwT (pcs (jn rows (ar rows y :: st) l))) = _
      rw [wdsL_word h32 hy.1, lw_join hl k2 (fun _ => k1.one (by omega)) hf2]
    · rw [if_neg c, pcs_append, lwT_append]
      obtain ⟨k1, k2⟩ := clJ_ms hp hm
      have e0 : m - 1 + ar rows y = m - 1 := by omega
      rw [e0] at hf2
      have ih := lw_join hl k2 (fun hne => k1.one fun q => hne ((fa_nil_iff hf2).mpr q)) hf2
      by_cases z : st = []
      · subst z
        have hm1 : m - 1 = 0 := by
          rcases hm with ⟨_, q⟩ | ⟨q, _⟩
          · omega
          · exact absurd rfl q
        have hln : l = [] := (fa_nil_iff hf2).mpr hm1
        subst hln
        show wdsL (TL.tl y ++ ([] ++ [])) = [TL.tl y]
        rw [List.append_nil, List.append_nil, wdsL_last h32 hy.1]
      · obtain ⟨r, er⟩ := clJ_head z
        have ec := clJ_lw st (lwT (pcs (jn rows (clJ st).2 l)))
        rw [er, List.cons_append, wdsL_bl] at ec
        rw [er, List.cons_append, wdsL_word h32 hy.1, ec, ih]
/-- the words of a text, as the law takes them -/
def wordsOf (x : Str) : List Str := (Txt.split (Txt.replace (Txt.replace (Txt.replace x "(" " ") ")" " ") "," " ") " ").filter fun y : Str => decide (y ≠ ("" : Str))
theorem filter_tl : ∀ l : List Str, (l.filter fun y : Str => decide (y ≠ ("" : Str))).map TL.tl = (l.map TL.tl).filter (· != [])
  | [] => rfl
  | y :: l => by
    rw [List.map_cons, List.filter_cons, List.filter_cons]
    by_cases c : y = ("" : Str)
    · subst c
      rw [if_neg (by simp), if_neg (by decide +kernel), filter_tl l]
    · have : TL.tl y ≠ [] := fun z => c (TL.ext_tl (by rw [z]; rfl))
      rw [if_pos (by simpa using c), if_pos (by simpa using this), List.map_cons, filter_tl l]
theorem tl_wordsOf (x : Str) : (wordsOf x).map TL.tl = wdsL (lwT (TL.tl x)) := by
  unfold wordsOf
  rw [filter_tl, TL.split_spl _ _ (by rw [tl_bl]; decide) (TL.kind_ok (by decide +kernel)), tl_bl]
  unfold wdsL
  congr 2
  have h1 : TL.tl (Txt.replace x "(" " ") = (TL.tl x).map fun k => if k = 40 then 32 else k := tl_replace1 _ 40 32
  have h2 : TL.tl (Txt.replace (Txt.replace x "(" " ") ")" " ") = (TL.tl (Txt.replace x "(" " ")).map fun k => if k = 41 then 32 else k := tl_replace1 _ 41 32
  have h3 : TL.tl (Txt.replace (Txt.replace (Txt.replace x "(" " ") ")" " ") "," " ") = (TL.tl (Txt.replace (Txt.replace x "(" " ") ")" " ")).map fun k => if k = 44 then 32 else k := tl_replace1 _ 44 32
  rw [h3, h2, h1, List.map_map, List.map_map]
  unfold lwT
  refine List.map_congr_left fun k _ => ?_
  simp only [Function.comp]
  by_cases a : k = 40
  · subst a
    decide
  · rw [if_neg a]
    by_cases b : k = 41
    · subst b
      decide
    · rw [if_neg b]
      by_cases c : k = 44
      · rw [if_pos c, if_pos (.inr (.inr c))]
      · rw [if_neg c, if_neg fun z => z.elim a fun z => z.elim b c]
theorem wordsOf_jT {rows : List Sy.Row} {lv l : List Str} (hw : ∀ y ∈ l, WordOk y) (h : fa rows lv 1 0 l < 0) : wordsOf (jT rows l) = l := by
  refine TL.map_tl_inj ?_
  rw [tl_wordsOf, tl_jT, lw_join (st := []) hw (fun _ z => nomatch z) (fun _ => .inl ⟨rfl, rfl⟩) h]
/-! both ways answer alike -/
theorem fa_mono {rows : List Sy.Row} {lv lv' : List Str} (hs : ∀ y ∈ lv, y ∈ lv') : ∀ {l : List Str} {m i : Nat}, fa rows lv m i l < 0 → fa rows lv' m i l < 0
  | [], m, i, h => by
    rw [fa] at h ⊢
    exact h
  | y :: l, m, i, h => by
    obtain ⟨h1, h2⟩ := fa_step h
    rw [fa, if_neg h1] at h
    rw [fa, if_neg h1]
    split at h
    · omega
    · rename_i c
      rw [if_neg fun z => c ⟨z.1, fun q => z.2 (hs y q)⟩]
      exact fa_mono hs h2
theorem fa_noleaf {rows : List Sy.Row} : ∀ {l : List Str} {m i : Nat}, ("*" : Str) ∉ l → fa rows ["*"] m i l < 0 → fa rows [] m i l < 0
  | [], m, i, _, h => by
    rw [fa] at h ⊢
    exact h
  | y :: l, m, i, hn, h => by
    obtain ⟨h1, h2⟩ := fa_step h
    rw [fa, if_neg h1] at h
    rw [fa, if_neg h1]
    split at h
    · omega
    · rename_i c
      have hy : y ∉ [("*" : Str)] := fun q => hn (by rw [← List.mem_singleton.mp q]; exact List.mem_cons_self)
      rw [if_neg fun z => c ⟨z.1, hy⟩]
      exact fa_noleaf (fun q => hn (List.mem_cons_of_mem _ q)) h2
/-- what the law says of a text -/
def lwE (rows : List Sy.Row) (wh : Bool) (x : Str) : Option Er := if 0 ≤ fa rows ["*"] 1 0 (wordsOf x) ∨ jT rows (wordsOf x) ≠ x then some (.text x) else if ("*" : Str) ∈ wordsOf x ∧ wh = false then some (.text x) else if 2000 < (wordsOf x).length then some (.many "knots" 2000) else none
theorem word_ok {rows : List Sy.Row} {lv l : List Str} {m i : Nat} (hr : ∀ r ∈ rows, Wd r.1) (hlv : ∀ y ∈ lv, y = "*") (h : fa rows lv m i l < 0) : ∀ y ∈ l, WordOk y := fun y hy => by
  rcases fa_words h y hy with k | k
  · obtain ⟨r, hr', rfl⟩ := isK_mem k
    obtain ⟨h1, _, h3⟩ := hr r hr'
    refine ⟨List.length_pos_iff.mp h1, fun c hc => ?_⟩
    obtain ⟨q1, q2⟩ := h3 c hc
    exact ⟨by omega, by omega, by omega, by omega⟩
  · rw [hlv y k]
    exact ⟨by decide +kernel, by decide +kernel⟩
theorem lwE_eq {rows : List Sy.Row} (hr : ∀ r ∈ rows, Wd r.1) (wh : Bool) (x : Str) : rrE rows (lvs wh) x = lwE rows wh x ∧ (rrE rows (lvs wh) x = none → rowOf x = wordsOf x) := by
  have hlv : ∀ y ∈ lvs wh, y = ("*" : Str) := fun y hy => by
    unfold lvs at hy
    split at hy
    · exact List.mem_singleton.mp hy
    · exact nomatch hy
  have hlv1 : ∀ y ∈ [("*" : Str)], y = ("*" : Str) := fun y hy => List.mem_singleton.mp hy
  have hsub : ∀ y ∈ lvs wh, y ∈ [("*" : Str)] := fun y hy => List.mem_singleton.mpr (hlv y hy)
  have hK : isK rows "*" = false := by
    cases e : isK rows "*" with
    | false => rfl
    | true =>
      obtain ⟨r, hr', h⟩ := isK_mem e
      have := (hr r hr').2.2
      rw [h] at this
      exact absurd (this 42 (by decide +kernel)).1 (by decide)
  -- read_row takes it: so does the law
  have A : fa rows (lvs wh) 1 0 (rowOf x) < 0 → jT rows (rowOf x) = x → wordsOf x = rowOf x := fun h1 h2 => by
    have := wordsOf_jT (word_ok hr hlv h1) h1
    rw [h2] at this
    exact this
  have B : fa rows ["*"] 1 0 (wordsOf x) < 0 → jT rows (wordsOf x) = x → rowOf x = wordsOf x := fun h1 h2 => by
    have := rowOf_jT (word_ok hr hlv1 h1) h1
    rw [h2] at this
    exact this
  unfold rrE lwE
  by_cases c : 0 ≤ fa rows ["*"] 1 0 (wordsOf x) ∨ jT rows (wordsOf x) ≠ x
  · rw [if_pos c]
    have no : ¬ (fa rows (lvs wh) 1 0 (rowOf x) < 0 ∧ jT rows (rowOf x) = x) := fun ⟨h1, h2⟩ => by
      have e := A h1 h2
      rw [e] at c
      have := fa_mono hsub h1
      rcases c with c | c
      · omega
      · exact c h2
    by_cases c1 : 0 ≤ fa rows (lvs wh) 1 0 (rowOf x)
    · rw [if_pos c1]
      exact ⟨rfl, fun z => nomatch z⟩
    · rw [if_neg c1, if_pos fun z => no ⟨by omega, z⟩]
      exact ⟨rfl, fun z => nomatch z⟩
  · rw [if_neg c]
    have c1 : fa rows ["*"] 1 0 (wordsOf x) < 0 := by
      have : ¬ 0 ≤ fa rows ["*"] 1 0 (wordsOf x) := fun z => c (.inl z)
      omega
    have c2 : jT rows (wordsOf x) = x := Classical.byContradiction fun z => c (.inr z)
    have e := B c1 c2
    rw [e]
    by_cases d : ("*" : Str) ∈ wordsOf x ∧ wh = false
    · rw [if_pos d]
      obtain ⟨d1, rfl⟩ := d
      have : 0 ≤ fa rows (lvs false) 1 0 (wordsOf x) := by
        rcases Int.lt_or_le (fa rows (lvs false) 1 0 (wordsOf x)) 0 with z | z
        · rcases fa_words z _ d1 with k | k
          · rw [hK] at k
            cases k
          · exact nomatch k
        · exact z
      rw [if_pos this]
      exact ⟨rfl, fun _ => rfl⟩
    · rw [if_neg d]
      have c3 : ¬ 0 ≤ fa rows (lvs wh) 1 0 (wordsOf x) := by
        cases wh with
        | true => show ¬ 0 ≤ fa rows ["*"] 1 0 (wordsOf x); omega
        | false =>
          have : ("*" : Str) ∉ wordsOf x := fun z => d ⟨z, rfl⟩
          have := fa_noleaf this c1
          show ¬ 0 ≤ fa rows [] 1 0 (wordsOf x)
          omega
      rw [if_neg c3, if_neg fun z => z c2]
      exact ⟨rfl, fun _ => rfl⟩
end Sy
/-! own rules: xs[::-1] of a list, a text again and again -/
namespace Sy
open PySem PySem.Spec PyProof.Rows L2
theorem filterMap_at {α : Type} (xs : Array α) : ∀ n : Nat, n ≤ xs.size → ((List.range n).map fun k => n - 1 - k).filterMap (xs[·]?) = (xs.toList.take n).reverse
  | 0, _ => by simp
  | n + 1, h => by
    have ih := filterMap_at xs n (by omega)
    have e : (List.range (n + 1)).map (fun k => n + 1 - 1 - k) = n :: (List.range n).map (fun k => n - 1 - k) := by
      rw [List.range_succ_eq_map, List.map_cons, List.map_map]
      congr 1
      refine List.map_congr_left fun k hk => ?_
      have := List.mem_range.mp hk
      show n + 1 - 1 - (k + 1) = n - 1 - k
      omega
    have hx : xs[n]? = some (xs[n]'(by omega)) := Array.getElem?_eq_getElem (by omega)
    rw [e, List.filterMap_cons, hx]
    simp only
    rw [ih, List.take_succ, Array.getElem?_toList, hx, List.reverse_append]
    rfl
theorem slicePick_rev (items : Array Value) : slicePick items none none (some (-1)) = items.toList.reverse.toArray := by
  unfold slicePick
  have e : sliceBounds none none (some (-1)) items.size = ((items.size : Int) - 1, -1, -1) := rfl
  rw [e]
  congr 1
  have e2 : sliceRange ((items.size : Int) - 1) (-1) (-1) = (List.range items.size).map fun k => items.size - 1 - k := by
    unfold sliceRange
    have h1 : ¬ ((-1 : Int) > 0) := by decide
    simp only [h1, if_false]
    by_cases h : items.size = 0
    · rw [h]
      rfl
    · have h2 : (items.size : Int) - 1 > -1 := by omega
      simp only [h2, if_true]
      have h3 : ((items.size : Int) - 1 - -1 - -1 - 1) / (- -1) = (items.size : Int) := by
        rw [show (- -1 : Int) = 1 by decide, Int.ediv_one]
        omega
      rw [h3, Int.toNat_natCast]
      refine List.map_congr_left fun k hk => ?_
      have := List.mem_range.mp hk
      omega
  show ((sliceRange ((items.size : Int) - 1) (-1) (-1)).filterMap (items[·]?)) = _
  rw [e2, filterMap_at items items.size (Nat.le_refl _)]
  rw [show items.size = items.toList.length by simp, List.take_length]
section
variable {X : Cx} {e : Expr} {te : TE} {p2 pos : Pos} {st : Expr} {ts : TO}
def tRev (K : PySem.W.Frag) (te : TE) (ts : TO) : TE := fun σ H Q => te σ H fun x H1 => ts σ H1 fun c H2 => c = some (-1) ∧ ∃ a xs, x = .ref a ∧ SqL K H2 a xs ∧ ∀ p, H2 p = none → Q (.ref p) (upd H2 p (.lst xs.reverse))
theorem pe_rev (he : PE X e te) (hst : PO X (some st) ts) : PE X (.Subscript e (.Slice none none (some st) p2) pos) (tRev X.K te ts) := by
  refine ⟨fun pins s σ H Q I h => ?_⟩
  refine Subscript_ (thn (he.run pins s σ H _ I h) fun v s1 ⟨x, H1, I1, r1, q1⟩ => ?_)
  refine wpAny_Slice ?_
  rw [evalPart_none]
  refine wpAny_pure (wpAny_pure (thn (hst.run pins s1 σ H1 _ I1 q1) fun vt s3 ⟨c, H3, I3, ps, ec, a, xs, ex, hx, q⟩ => ?_))
  subst ec ex
  cases r1
  have I4 : Inv X pins σ H3 { s3 with heap := s3.heap.push { cls := .type "slice", data := .fields #[.none, .none, vt] } } := I3.kept (t' := s3.toks) fun b ob q => Heap.get?_push_of_some _ q
  obtain ⟨its, r, ht, hz⟩ := I4.list hx
  have hlen := r.length
  show wpAny (model X.prog X.w) X.A (subscriptTail e (.Slice none none (some st) p2) (.ref a) (.ref s3.heap.objs.size)) (EP X pins σ Q) X.xe { s3 with heap := s3.heap.push { cls := .type "slice", data := .fields #[.none, .none, vt] } }
  refine tail_any (T := "list") (ops := [.ref a, .ref s3.heap.objs.size]) ht.isList.typeIs slot_list_getitem.lookup ?_ (by with_unfolding_all rfl)
  refine wpAny_getItem_list_slice ht.isList (Heap.IsSliceOf.new ..) .none .none ps (by decide) ?_ (by rw [List.size_toArray] <;> omega)
  rw [slicePick_rev]
  refine ⟨.ref _, _, I4.laid (t' := s3.toks) (o := .lst xs.reverse) (fun b ob q => Heap.get?_push_of_some _ q) (Nat.le_refl _) ?_, rfl, q _ (I4.hok.fresh (Nat.le_refl _))⟩
  refine ⟨by rw [List.length_reverse]; exact hz, _, 0, ?_, Heap.get?_push_size _ rfl⟩
  have : its.toArray.toList.reverse = its.reverse := by simp
  rw [this]
  exact r.reverse
end
/-! rules that name K -/
theorem pe_ixTK (K : PySem.W.Frag) {X : Cx} {a b : Expr} {ta tb : TE} {pos : Pos} (hK : X.K = K) (ha : PE X a ta) (hb : PE X b tb) (hs : PlainIx b) : PE X (.Subscript a b pos) (tOp (rIxT K) ta tb) := by
  subst hK
  exact pe_ix ix_tup ha hb hs
theorem pe_ixK (K : PySem.W.Frag) {X : Cx} {a b : Expr} {ta tb : TE} {pos : Pos} (hK : X.K = K) (ha : PE X a ta) (hb : PE X b tb) (hs : PlainIx b) : PE X (.Subscript a b pos) (tOp (rIxL K) ta tb) := by
  subst hK
  exact pe_ix ix_list ha hb hs
/-! z * n -/
theorem fold_app (a : Array Nat) : ∀ (n : Nat) (b : Array Nat), ((List.replicate n a).foldl (· ++ ·) b).toList = b.toList ++ (List.replicate n a.toList).flatten
  | 0, b => by simp
  | n + 1, b => by
    rw [List.replicate_succ, List.foldl_cons, fold_app a n (b ++ a), List.replicate_succ, List.flatten_cons, Array.toList_append, List.append_assoc]
def rMulS : R2 := fun x y H Q => ∃ (z : Str) (n : Nat), x = .str z ∧ y = .int (n : Nat) ∧ 2 ≤ n ∧ n ≤ 1000 ∧ 1 ≤ z.length ∧ z.length ≤ 1000 ∧ Q (.str ⟨(List.replicate n z.cps.toList).flatten.toArray⟩) H
theorem op_mulS {X : Cx} : OpR X (binaryOp .Mult) rMulS := by
  intro pins s σ H x y v u Q I rx ry h
  obtain ⟨z, n, rfl, rfl, h2, h1000, hz, hz2, q⟩ := h
  obtain ⟨t, rfl⟩ := rx
  obtain ⟨tu, rfl⟩ := ry
  have hlt : ¬ ((n : Int) < 1) := by omega
  have hnb : ((n : Int) == 1 || z.length == 0) = false := by
    have a : ((n : Int) == 1) = false := beq_eq_false_iff_ne.mpr (by omega)
    have b : (z.length == 0) = false := beq_eq_false_iff_ne.mpr (by omega)
    rw [a, b]
    rfl
  have hsz : z.length * n ≤ 1000000 := Nat.le_trans (Nat.mul_le_mul hz2 h1000) (by decide)
  refine PySem.P.mul_str ?_ (fun _ _ => ?_) (fun _ _ => ?_) ?_
  · rw [decide_eq_false (by omega), decide_eq_false (by omega)]
    rfl
  · have : (1000 : Int) ≤ (2 ^ 63 - 1) / n := by
      refine (Int.le_ediv_iff_mul_le (by omega)).mpr ?_
      have : (1000 : Int) * (n : Int) ≤ 1000 * 1000 := by omega
      omega
    omega
  · rw [Int.toNat_natCast]
    unfold PySem.Builtin.Str.tooLong sizeLine
    exact decide_eq_false (by omega)
  · rw [if_neg hlt, hnb, if_neg (by decide), Int.toNat_natCast]
    have e : (⟨(List.replicate n z.cps).foldl (· ++ ·) #[]⟩ : Str) = ⟨(List.replicate n z.cps.toList).flatten.toArray⟩ := TL.ext_tl (by
      show ((List.replicate n z.cps).foldl (· ++ ·) #[]).toList = _
      rw [fold_app]
      rfl)
    rw [e]
    refine ⟨?_, .str _, H, I.tok _, ⟨_, rfl⟩, q⟩
    show Str.length _ ≤ sizeLine
    rw [TL.len_tl, TL.tl_mk, List.length_flatten, List.map_replicate, List.sum_replicate_nat, ← TL.len_tl, sizeLine_eq]
    rw [Nat.mul_comm] at hsz
    omega
end Sy
/-! pairs: good names, what is due, their text, a bed of them -/
namespace Sy
open PySem PySem.Spec PyProof.Rows L2
/-- the law's pairs as a list at q -/
def PL (K : PySem.W.Frag) (H : Hp) (q : Addr) (ps : List PRow) : Prop := ∃ as : List Addr, H q = some (.lst (as.map V.ref)) ∧ Paired (fun p (r : PRow) => SqT K H p [.str r.1, .int r.2]) as ps
theorem PL.mono {K : PySem.W.Frag} {H H' : Hp} {q : Addr} {ps : List PRow} (h : PL K H q ps) (s : Same H H') : PL K H' q ps := by
  obtain ⟨as, h1, h2⟩ := h
  exact ⟨as, s _ _ h1, Paired.mapP h2 fun _ _ z => Same.sqt s z⟩
theorem RL.pl {K : PySem.W.Frag} {H : Hp} {q : Addr} {rows : List Sy.Row} (h : RL K H q rows) : PL K H q (rows.map ofR) := by
  obtain ⟨as, h1, h2⟩ := h
  exact ⟨as, h1, paired_to h2⟩
theorem PL.rl {K : PySem.W.Frag} {H : Hp} {q : Addr} {rows : List Sy.Row} (h : PL K H q (rows.map ofR)) : RL K H q rows := by
  obtain ⟨as, h1, h2⟩ := h
  exact ⟨as, h1, paired_of (R := fun p (r : PRow) => SqT K H p [.str r.1, .int r.2]) (f := ofR) h2⟩
theorem abc_mem (c : Nat) : c ∈ ("abcdefghijklmnopqrstuvwxyz" : Str).cps.toList ↔ Lt c := by
  have e : ("abcdefghijklmnopqrstuvwxyz" : Str).cps.toList = List.range' 97 26 := by decide +kernel
  rw [e, List.mem_range'_1]
  unfold Lt
  omega
section
variable {P : Program} {w : World} {K : PySem.W.Frag} {mg : Str → Option Value} {base : Heap}
/-! _law_good_name -/
def spGoodN : Sp := fun vs H Q _ => ∃ x : Str, vs = [.str x] ∧ x.length ≤ 1000000 ∧ Q (.bl (nameOk x)) H
abbrev N_goodN : List Str := ["_law_word_here", "_law_char_here"]
theorem sc_goodN : FnScope N_goodN ["_law_word_here"] (defScope (top 41)) := ⟨rfl, rfl, rfl, by decide +kernel, rfl, by decide +kernel, by decide +kernel⟩
theorem k_goodN (T : Txt K mg) (F : DF K mg "_law_good_name" 41) : Cal P w K mg base 1 "_law_good_name" ["_law_word_here"] spGoodN := by
  refine cal_of F.1 F.2 sc_goodN (fun _ _ _ _ _ _ us e => match us, e with | [_], _ => rfl) (fun vs H Q E s => by obtain ⟨_, rfl, _⟩ := s; rfl) ?_
  intro cdv A outer s H vs Q E hr h
  obtain ⟨x, rfl, hx, hq⟩ := h
  have sc := sc_goodN
  have hl := len_tl x
  refine ⟨_, (pss_cons (ps_for (passes_of rfl) rfl (pi_str (pv 0)) (pg_name (i := 1) sc.nd rfl (Or.inl rfl))
        (pss_one (ps_if (pt_cmpR op_notIn_sign (pv 1) pe_str rfl)
          (pss_one (ps_ret pe_bl))
          pss_nil)))
      (pss_one (ps_ret (pe_and (pe_cmpR op_le pe_int (pe_callB call_len_str (by rfl) T.len (by decide +kernel) (pa_cons (pv 0) pa_nil)) (nomark _)) (pe_one (pe_cmpR op_le (pe_callB call_len_str (by rfl) T.len (by decide +kernel) (pa_cons (pv 0) pa_nil)) pe_int (nomark _))))))), ?_⟩
  have no : ¬ Wd x → Q (.bl false) H := fun z => by
    have e : nameOk x = false := by
      cases e : nameOk x with
      | false => rfl
      | true => exact absurd ((nameOk_iff x).mp e) z
    rw [e] at hq
    exact hq
  refine ⟨_, rfl, x, rfl, for_it walk_str (fun i σ H' => ∃ t1, σ = [some (.str x), t1] ∧ H' = H ∧ ∀ c ∈ x.cps.toList.take i, Lt c) ⟨none, rfl, rfl, fun _ z => (nomatch z)⟩ (fun _ _ _ _ _ => trivial) ?_ ?_⟩
  · rintro i v σ H1 H2 hi ⟨t1, rfl, rfl, hall⟩ ⟨rfl, c, hc, rfl⟩
    have hc2 : x.cps.toList[i]? = some c := by rw [Array.getElem?_toList]; exact hc
    refine ⟨_, rfl, c, _, rfl, rfl, _, rfl, if_nbool (fun c1 => ?_) (fun c1 => ?_)⟩
    · refine no fun z => ?_
      have := of_decide_eq_false c1
      exact this ((abc_mem c).mpr (z.2.2 c (List.mem_of_getElem? hc2)))
    · refine ⟨_, rfl, rfl, fun k hk => ?_⟩
      rw [List.take_succ, hc2] at hk
      rcases List.mem_append.mp hk with hk | hk
      · exact hall k hk
      · rw [List.mem_singleton.mp hk]
        exact (abc_mem c).mp (of_decide_eq_true c1)
  · rintro σ H1 ⟨t1, rfl, rfl, hall⟩
    have hall : ∀ c ∈ x.cps.toList, Lt c := fun c hc => hall c (by rw [List.take_of_length_le (by simp)]; exact hc)
    refine ⟨_, rfl, x, rfl, by rw [sizeLine_eq]; omega, _, _, rfl, rfl, _, rfl, if_dec (fun c1 => ?_) (fun c1 => ?_)⟩
    · refine ⟨_, rfl, x, rfl, by rw [sizeLine_eq]; omega, _, _, rfl, rfl, ?_⟩
      have e : nameOk x = decide ((x.length : Int) ≤ 8) := by
        by_cases z : (x.length : Int) ≤ 8
        · rw [decide_eq_true z]
          exact (nameOk_iff x).mpr ⟨by omega, by omega, hall⟩
        · rw [decide_eq_false z]
          cases e : nameOk x with
          | false => rfl
          | true =>
            have := ((nameOk_iff x).mp e).2.1
            omega
      rw [e] at hq
      exact hq
    · have := no fun z => by
        have := z.1
        have c1 : ¬ (1 : Int) ≤ (x.length : Nat) := c1
        omega
      exact this
/-! _law_pairs_due -/
def spDueP (K : PySem.W.Frag) : Sp := fun vs H Q _ => ∃ (q : Addr) (ps : List PRow), vs = [.ref q] ∧ PL K H q ps ∧ ps.length ≤ 100000 ∧ (∀ r ∈ ps, r.1.length ≤ 1000000) ∧ (bedE ps = none → ∀ H', Same H H' → Q .non H') ∧ (∀ e, bedE ps = some e → ∀ H' v, Same H H' → Im K H' v e.dat → Q v H')
abbrev N_dueP : List Str := ["_law_pairs", "_law_names", "_law_place", "_law_word_here", "_law_pair"]
theorem sc_dueP : FnScope N_dueP ["_law_pairs"] (defScope (top 42)) := ⟨rfl, rfl, rfl, by decide +kernel, rfl, by decide +kernel, by decide +kernel⟩
theorem inV_zero : ∀ ps : List PRow, inV (.int 0) (ps.map fun r => V.int r.2) = ps.any fun r => decide (r.2 = 0)
  | [] => rfl
  | r :: ps => by
    have ih := inV_zero ps
    unfold inV at ih ⊢
    rw [List.map_cons, List.any_cons, List.any_cons, ih]
    congr 1
theorem k_dueP (T : Txt K mg) (F : DF K mg "_law_pairs_due" 42) (c_law_good_name : Cal P w K mg base 1 "_law_good_name" ["_law_word_here"] spGoodN) : Cal P w K mg base 2 "_law_pairs_due" ["_law_pairs"] (spDueP K) := by
  refine cal_of F.1 F.2 sc_dueP (fun _ _ _ _ _ _ us e => match us, e with | [_], _ => rfl) (fun vs H Q E s => by obtain ⟨_, _, rfl, _⟩ := s; rfl) ?_
  intro cdv A outer s H vs Q E hr h
  obtain ⟨q, ps, rfl, ⟨as, hL, hP⟩, hps, hnl, hq, hE⟩ := h
  have sc := sc_dueP
  have hpl := paired_len hP
  refine ⟨_, (pss_cons (ps_if (pt_cmpR op_gt (pe_callB call_len_seq (by rfl) T.len (by decide +kernel) (pa_cons (pv 0) pa_nil)) pe_int (nomark _))
        (pss_one (ps_ret (pe_tup (pa_cons pe_str (pa_cons pe_str (pa_cons pe_int pa_nil))))))
        pss_nil)
      (pss_cons (ps_set (i := 1) sc.nd rfl (Or.inl rfl) (pe_lst pa_nil))
      (pss_cons (ps_for (passes_of rfl) rfl (pi_range1 rfl T.range (pa_cons (pe_callB call_len_seq (by rfl) T.len (by decide +kernel) (pa_cons (pv 0) pa_nil)) pa_nil)) (pg_name (i := 2) sc.nd rfl (Or.inl rfl))
        (pss_cons (ps_set (i := 3) sc.nd rfl (Or.inl rfl) (pe_ix ix_tup (pe_ix ix_list (pv 0) (pv 2) (fun _ _ => rfl)) pe_int (fun _ _ => rfl)))
        (pss_cons (ps_if (PW.pt (pw_or (pt_not (pt_val (pe_cal c_law_good_name hr (pa_cons (pv 3) pa_nil)))) (pw_or (pt_cmpR op_in_seq (pv 3) (pv 1) rfl) (pw_or (pt_cmpR op_lt (pe_ix ix_tup (pe_ix ix_list (pv 0) (pv 2) (fun _ _ => rfl)) pe_int (fun _ _ => rfl)) pe_int (nomark _)) (pw_or1 (pt_cmpR op_gt (pe_ix ix_tup (pe_ix ix_list (pv 0) (pv 2) (fun _ _ => rfl)) pe_int (fun _ _ => rfl)) pe_int (nomark _)))))))
          (pss_one (ps_ret (pe_tup (pa_cons pe_str (pa_cons (pv 2) pa_nil)))))
          pss_nil)
        (pss_one (ps_expr (pe_bm PySem.F.plainAttrs_list PySem.F.slot_list_append PySem.F.type_list_append mt_append (pv 1) (pa_cons (pv 3) pa_nil)))))))
      (pss_cons (ps_if (pt_cmpR op_notIn_seq pe_int (pe_lc (own := [("_law_pair", 4)]) (g := gName 4) rfl sc.nd (pi_list (pv 0)) (blkOk_by (N := N_dueP) (sc := defScope (top 42)) (by decide +kernel)) (fun _ _ _ _ _ => (pg_name (i := 4) sc.nd rfl (Or.inl rfl))) (fun _ _ _ _ _ => pts_nil) (fun _ _ _ _ _ => (pe_ixTK K rfl (pv 4) pe_int (fun _ _ => rfl)))) rfl)
        (pss_one (ps_ret (pe_tup (pa_cons pe_str (pa_cons (pe_op op_sub pe_int pe_int) pa_nil)))))
        pss_nil)
      (pss_one (ps_ret pe_non)))))), ?_⟩
  refine ⟨_, rfl, q, _, rfl, .inl (SqL.of hL), _, _, rfl, rfl, _, rfl, if_dec (fun c => ?_) (fun c => ?_)⟩
  · rw [List.length_map, hpl] at c
    refine ⟨(by show 3 ≤ sizeLine; decide), fun t ht => ?_⟩
    refine hE (.many "kinds" 8) ?_ _ _ (up_same ht) (.tup (SqT.of upd_same) (.cons (.str _) (.cons (.str _) (.cons (.int _) .nil))))
    unfold bedE
    rw [if_pos (by omega)]
  rw [List.length_map, hpl] at c
  have hle : ps.length ≤ 8 := by omega
  have bG : ∀ e, bedG 0 [] ps = some e → bedE ps = some e := fun e h => by
    unfold bedE
    rw [if_neg (by omega), h]
  refine ⟨by decide, fun D hD => ?_⟩
  have h1 := (Hs.start H).new (o := .lst []) hD
  refine ⟨_, rfl, q, _, rfl, .inl (SqL.of (h1.sub _ _ hL)), _, rfl, by rw [List.length_map]; omega, by rw [List.length_map]; omega, for_rng (n := ((as.map V.ref).length : Int).toNat)
    (fun i σ H' => ∃ (t2 t3 : Option V) (B : Hp), σ = [some (.ref q), some (.ref D), t2, t3, none] ∧ Same H B ∧ Hs B [(D, .lst (((ps.take i).map (·.1)).map V.str))] H' ∧ bedG i ((ps.take i).map (·.1)) (ps.drop i) = bedG 0 [] ps) ⟨none, none, H, rfl, Same.refl H, h1, rfl⟩ ?_ ?_⟩
  · rintro i σ H1 hi ⟨t2, t3, B, rfl, sB, hh, hg⟩
    have hi : i < ps.length := by
      rw [List.length_map, hpl] at hi
      omega
    obtain ⟨r, hr'⟩ : ∃ r, ps[i]? = some r := ⟨_, List.getElem?_eq_getElem hi⟩
    obtain ⟨p, ep, tp⟩ := paired_at hP hr'
    have rm := List.mem_of_getElem? hr'
    have sH := sB.trans hh.sub
    have tp1 := Same.sqt sH tp
    rw [drop_of hr', bedG] at hg
    have hix : atI (as.map V.ref) ((i : Nat) : Int) = some (V.ref p) := atI_nat (by rw [List.getElem?_map, ep]; rfl)
    refine ⟨_, rfl, _, rfl, q, _, _, _, rfl, rfl, SqL.of (sH _ _ hL), hix, p, _, _, _, rfl, rfl, tp1, atI_nat (j := 0) rfl, ?_⟩
    have bad : (nameOk r.1 = false ∨ r.2 < 0 ∨ 3 < r.2 ∨ r.1 ∈ (ps.take i).map (·.1)) → (2 ≤ sizeLine ∧ ∀ t, H1 t = none → Q (.ref t) (upd H1 t (.tup [.str "bed", .int (i : Nat)]))) := fun hb => by
      rw [if_pos hb] at hg
      exact ⟨by decide, fun t ht => hE (.bed (i : Nat)) (bG _ hg.symm) _ _ (sH.trans (up_same ht)) (.tup (SqT.of upd_same) (.cons (.str _) (.cons (.int _) .nil)))⟩
    refine ⟨_, rfl, r.1, rfl, hnl r rm, _, rfl, if_nbool (fun c1 => ?_) (fun c1 => ?_)⟩
    · exact ⟨_, rfl, bad (.inl c1)⟩
    refine ⟨_, rfl, _, rfl, D, _, rfl, .inl (SqL.of hh.r0), rfl, all_strs _, _, rfl, ?_⟩
    rw [inV_strs]
    refine if_dec (fun c2 => ?_) (fun c2 => ?_)
    · exact ⟨_, rfl, bad (.inr (.inr (.inr c2)))⟩
    refine ⟨_, rfl, _, rfl, q, _, _, _, rfl, rfl, SqL.of (sH _ _ hL), hix, p, _, _, _, rfl, rfl, tp1, atI_nat (j := 1) rfl, _, _, rfl, rfl, _, rfl, if_dec (fun c3 => ?_) (fun c3 => ?_)⟩
    · exact ⟨_, rfl, bad (.inr (.inl c3))⟩
    refine ⟨_, rfl, _, rfl, q, _, _, _, rfl, rfl, SqL.of (sH _ _ hL), hix, p, _, _, _, rfl, rfl, tp1, atI_nat (j := 1) rfl, _, _, rfl, rfl, _, rfl, if_dec (fun c4 => ?_) (fun c4 => ?_)⟩
    · exact ⟨_, rfl, bad (.inr (.inr (.inl c4)))⟩
    rw [if_neg (fun z => z.elim (fun a => by rw [c1] at a; cases a) fun z => z.elim c3 fun z => z.elim c4 c2)] at hg
    refine ⟨_, rfl, .inl ⟨rfl, _, SqL.of hh.r0⟩, _, rfl, D, _, _, rfl, rfl, hh.r0, by rw [List.length_map, List.length_map, List.length_take, sizeLine_eq]; omega, ?_⟩
    have et : ps.take (i + 1) = ps.take i ++ [r] := by rw [List.take_succ, hr']; rfl
    refine ⟨_, _, B, rfl, sB, ?_, ?_⟩
    · rw [et, List.map_append, List.map_append]
      exact hh.w0
    · rw [et, List.map_append]
      exact hg
  · rintro σ H1 ⟨t2, t3, B, rfl, sB, hh, hg⟩
    have e0 : ((as.map V.ref).length : Int).toNat = ps.length := by rw [List.length_map, hpl]; rfl
    rw [e0, List.take_length] at hh
    rw [e0, List.drop_length, bedG] at hg
    have sH := sB.trans hh.sub
    refine ⟨_, rfl, q, rfl, ⟨_, SqL.of (sH _ _ hL)⟩, fun D2 hD2 => lc_it walk_list (fun i H' => Hs B [(D2, .lst ((ps.take i).map fun r => V.int r.2)), (D, .lst ((ps.map (·.1)).map V.str))] H') (hh.new hD2) (fun _ _ _ z => SqL.of ((sB.trans z.sub) _ _ hL)) ?_ ?_⟩
    · rintro i v H2 _ hi h2 ⟨rfl, hv⟩
      obtain ⟨p, ep, rfl⟩ := map_at hv
      have hi : i < ps.length := by rw [← hpl]; exact (List.getElem?_eq_some_iff.mp ep).1
      obtain ⟨r, hr'⟩ : ∃ r, ps[i]? = some r := ⟨_, List.getElem?_eq_getElem hi⟩
      obtain ⟨p2, ep2, tp⟩ := paired_at hP hr'
      rw [ep] at ep2
      cases ep2
      refine ⟨rfl, ?_⟩
      simp only [tYes, if_true]
      refine ⟨_, rfl, p, _, _, _, rfl, rfl, Same.sqt (sB.trans h2.sub) tp, atI_nat (j := 1) rfl, _, h2.r0, by rw [List.length_map, List.length_take, sizeLine_eq]; omega, ?_⟩
      have et : ps.take (i + 1) = ps.take i ++ [r] := by rw [List.take_succ, hr']; rfl
      rw [et, List.map_append]
      exact h2.w0
    · intro H2 h2
      rw [List.length_map, hpl, List.take_length] at h2
      have allF : (ps.map fun r => V.int r.2).all flatV = true := by
        rw [List.all_map, List.all_eq_true]
        intro _ _
        rfl
      refine ⟨D2, _, rfl, .inl (SqL.of h2.r0), rfl, allF, _, rfl, ?_⟩
      rw [inV_zero]
      refine if_nbool (fun c2 => ?_) (fun c2 => ?_)
      · refine ⟨_, _, rfl, rfl, (by show 2 ≤ sizeLine; decide), fun t ht => ?_⟩
        refine hE (.bed (-1)) ?_ _ _ ((sB.trans h2.sub).trans (up_same ht)) (.tup (SqT.of upd_same) (.cons (.str _) (.cons (.int _) .nil)))
        unfold bedE
        rw [if_neg (by omega), ← hg]
        show (if (ps.any fun r => decide (r.2 = 0)) = true then none else some (Er.bed (-1))) = _
        rw [c2]
        rfl
      · refine hq ?_ _ (sB.trans h2.sub)
        unfold bedE
        rw [if_neg (by omega), ← hg]
        show (if (ps.any fun r => decide (r.2 = 0)) = true then none else some (Er.bed (-1))) = _
        rw [c2]
        rfl
/-! _law_pairs_text -/
def pairsT (ps : List PRow) : Str := Txt.join " " (ps.map pcT)
def spPTxt (K : PySem.W.Frag) : Sp := fun vs H Q _ => ∃ (q : Addr) (ps : List PRow), vs = [.ref q] ∧ PL K H q ps ∧ ps.length ≤ 1000 ∧ (∀ r ∈ ps, r.1.length ≤ 100 ∧ r.2.natAbs.log2 < 1920) ∧ ∀ H', Same H H' → Q (.str (pairsT ps)) H'
abbrev N_pTxt : List Str := ["_law_pairs", "_law_pair"]
theorem sc_pTxt : FnScope N_pTxt ["_law_pairs"] (defScope (top 43)) := ⟨rfl, rfl, rfl, by decide +kernel, rfl, by decide +kernel, by decide +kernel⟩
theorem k_pTxt (T : Txt K mg) (TS : TxtW mg) (F : DF K mg "_law_pairs_text" 43) : Cal P w K mg base 1 "_law_pairs_text" ["_law_pairs"] (spPTxt K) := by
  refine cal_of F.1 F.2 sc_pTxt (fun _ _ _ _ _ _ us e => match us, e with | [_], _ => rfl) (fun vs H Q E s => by obtain ⟨_, _, rfl, _⟩ := s; rfl) ?_
  intro cdv A outer s H vs Q E hr h
  obtain ⟨q, ps, rfl, ⟨as, hL, hP⟩, hps, hnl, hq⟩ := h
  have sc := sc_pTxt
  have hpl := paired_len hP
  refine ⟨_, (pss_one (ps_ret (pe_join pe_str (pe_lc (own := [("_law_pair", 1)]) (g := gName 1) rfl sc.nd (pi_list (pv 0)) (blkOk_by (N := N_pTxt) (sc := defScope (top 43)) (by decide +kernel)) (fun _ _ _ _ _ => (pg_name (i := 1) sc.nd rfl (Or.inl rfl))) (fun _ _ _ _ _ => pts_nil) (fun _ _ _ _ _ => (pe_op op_add_str (pe_op op_add_str (pe_ixTK K rfl (pv 1) pe_int (fun _ _ => rfl)) pe_str) (pe_callTy call_str_int (by rfl) TS.str (by decide +kernel) (pa_cons (pe_ixTK K rfl (pv 1) pe_int (fun _ _ => rfl)) pa_nil)))))))), ?_⟩
  have e1 : ("/" : Str).length = 1 := by decide +kernel
  have bl : ∀ r ∈ ps, (pcT r).length ≤ 2100 := fun r hr' => by
    have h1 := (hnl r hr').1
    have h2 := int_text_len_1921 (hnl r hr').2
    unfold pcT
    rw [Str.length_append, Str.length_append, e1]
    omega
  refine ⟨⟨_, rfl⟩, _, rfl, q, rfl, ⟨_, SqL.of hL⟩, fun D hD => lc_it walk_list (fun i H' => Hs H [(D, .lst (((ps.take i).map pcT).map V.str))] H') ((Hs.start H).new hD) (fun _ _ _ z => SqL.of (z.sub _ _ hL)) ?_ ?_⟩
  · rintro i v H2 _ hi h2 ⟨rfl, hv⟩
    obtain ⟨p, ep, rfl⟩ := map_at hv
    have hi : i < ps.length := by rw [← hpl]; exact (List.getElem?_eq_some_iff.mp ep).1
    obtain ⟨r, hr'⟩ : ∃ r, ps[i]? = some r := ⟨_, List.getElem?_eq_getElem hi⟩
    obtain ⟨p2, ep2, tp⟩ := paired_at hP hr'
    rw [ep] at ep2
    cases ep2
    have rm := List.mem_of_getElem? hr'
    have tp2 := Same.sqt h2.sub tp
    refine ⟨rfl, ?_⟩
    simp only [tYes, if_true]
    have h1 := (hnl r rm).1
    have h3 := int_text_len_1921 (hnl r rm).2
    refine ⟨_, rfl, p, _, _, _, rfl, rfl, tp2, atI_nat (j := 0) rfl, _, _, rfl, rfl, by rw [e1, sizeLine_eq]; omega, _, rfl, p, _, _, _, rfl, rfl, tp2, atI_nat (j := 1) rfl, _, rfl, (hnl r rm).2, _, _, rfl, rfl, by rw [Str.length_append, e1, sizeLine_eq]; omega, ?_⟩
    refine ⟨_, h2.r0, by rw [List.length_map, List.length_map, List.length_take, sizeLine_eq]; omega, ?_⟩
    have et : ps.take (i + 1) = ps.take i ++ [r] := by rw [List.take_succ, hr']; rfl
    rw [et, List.map_append, List.map_append]
    exact h2.w0
  · intro H2 h2
    rw [List.length_map, hpl, List.take_length] at h2
    refine ⟨_, D, _, rfl, rfl, .inl (SqL.of h2.r0), ?_, hq _ h2.sub⟩
    have := summ_le (m := 2100) (ws := ps.map pcT) fun x hx => by
      obtain ⟨r, hr', rfl⟩ := List.mem_map.mp hx
      exact bl r hr'
    have e0 : (" " : Str).length = 1 := by decide +kernel
    rw [List.length_map] at this
    rw [List.length_map, e0]
    omega
/-! _law_made -/
def spMade (K : PySem.W.Frag) : Sp := fun vs H Q E => ∃ (q : Addr) (ps : List PRow), vs = [.ref q] ∧ PL K H q ps ∧ ps.length ≤ 9 ∧ (∀ r ∈ ps, r.1.length ≤ 1000000) ∧
  (bedE ps = none → RowsOk (ps.map toR) → ps = (ps.map toR).map ofR → ∀ H' a, Same H H' → BedAt K H' a (ps.map toR) → Q (.ref a) H') ∧ (∀ e, bedE ps = some e → RaE K e H E)
theorem sc_made : FnScope ["_law_pairs"] ["_law_pairs"] (defScope (top 39)) := ⟨rfl, rfl, rfl, by decide +kernel, rfl, by decide +kernel, by decide +kernel⟩
theorem k_made (T : Txt K mg) (M : BedM P w K mg base) (F : DF K mg "_law_made" 39) : Cal P w K mg base 5 "_law_made" ["_law_pairs"] (spMade K) := by
  refine cal_of F.1 F.2 sc_made (fun _ _ _ _ _ _ us e => match us, e with | [_], _ => rfl) (fun vs H Q E s => by obtain ⟨_, _, rfl, _⟩ := s; rfl) ?_
  intro cdv A outer s H vs Q E hr h
  obtain ⟨q, ps, rfl, ⟨as, hL, hp⟩, hps, hnl, hq, hE⟩ := h
  have hpl := paired_len hp
  refine ⟨_, (pss_cons (ps_if (pt_cmpR op_eq (pe_callB call_len_seq (by rfl) T.len (by decide +kernel) (pa_cons (pv 0) pa_nil)) pe_int (nomark _))
        (pss_one (ps_ret (pe_bed0 M hr (takes_of rfl rfl rfl rfl))))
        pss_nil)
      (pss_cons (ps_if (pt_cmpR op_eq (pe_callB call_len_seq (by rfl) T.len (by decide +kernel) (pa_cons (pv 0) pa_nil)) pe_int (nomark _))
        (pss_one (ps_ret (pe_bedX M hr (takes_of rfl rfl rfl rfl) (pa_cons (pe_ix ix_list (pv 0) pe_int (fun _ _ => rfl)) pa_nil))))
        pss_nil)
      (pss_cons (ps_if (pt_cmpR op_eq (pe_callB call_len_seq (by rfl) T.len (by decide +kernel) (pa_cons (pv 0) pa_nil)) pe_int (nomark _))
        (pss_one (ps_ret (pe_bedX M hr (takes_of rfl rfl rfl rfl) (pa_cons (pe_ix ix_list (pv 0) pe_int (fun _ _ => rfl)) (pa_cons (pe_ix ix_list (pv 0) pe_int (fun _ _ => rfl)) pa_nil)))))
        pss_nil)
      (pss_cons (ps_if (pt_cmpR op_eq (pe_callB call_len_seq (by rfl) T.len (by decide +kernel) (pa_cons (pv 0) pa_nil)) pe_int (nomark _))
        (pss_one (ps_ret (pe_bedX M hr (takes_of rfl rfl rfl rfl) (pa_cons (pe_ix ix_list (pv 0) pe_int (fun _ _ => rfl)) (pa_cons (pe_ix ix_list (pv 0) pe_int (fun _ _ => rfl)) (pa_cons (pe_ix ix_list (pv 0) pe_int (fun _ _ => rfl)) pa_nil))))))
        pss_nil)
      (pss_cons (ps_if (pt_cmpR op_eq (pe_callB call_len_seq (by rfl) T.len (by decide +kernel) (pa_cons (pv 0) pa_nil)) pe_int (nomark _))
        (pss_one (ps_ret (pe_bedX M hr (takes_of rfl rfl rfl rfl) (pa_cons (pe_ix ix_list (pv 0) pe_int (fun _ _ => rfl)) (pa_cons (pe_ix ix_list (pv 0) pe_int (fun _ _ => rfl)) (pa_cons (pe_ix ix_list (pv 0) pe_int (fun _ _ => rfl)) (pa_cons (pe_ix ix_list (pv 0) pe_int (fun _ _ => rfl)) pa_nil)))))))
        pss_nil)
      (pss_cons (ps_if (pt_cmpR op_eq (pe_callB call_len_seq (by rfl) T.len (by decide +kernel) (pa_cons (pv 0) pa_nil)) pe_int (nomark _))
        (pss_one (ps_ret (pe_bedX M hr (takes_of rfl rfl rfl rfl) (pa_cons (pe_ix ix_list (pv 0) pe_int (fun _ _ => rfl)) (pa_cons (pe_ix ix_list (pv 0) pe_int (fun _ _ => rfl)) (pa_cons (pe_ix ix_list (pv 0) pe_int (fun _ _ => rfl)) (pa_cons (pe_ix ix_list (pv 0) pe_int (fun _ _ => rfl)) (pa_cons (pe_ix ix_list (pv 0) pe_int (fun _ _ => rfl)) pa_nil))))))))
        pss_nil)
      (pss_cons (ps_if (pt_cmpR op_eq (pe_callB call_len_seq (by rfl) T.len (by decide +kernel) (pa_cons (pv 0) pa_nil)) pe_int (nomark _))
        (pss_one (ps_ret (pe_bedX M hr (takes_of rfl rfl rfl rfl) (pa_cons (pe_ix ix_list (pv 0) pe_int (fun _ _ => rfl)) (pa_cons (pe_ix ix_list (pv 0) pe_int (fun _ _ => rfl)) (pa_cons (pe_ix ix_list (pv 0) pe_int (fun _ _ => rfl)) (pa_cons (pe_ix ix_list (pv 0) pe_int (fun _ _ => rfl)) (pa_cons (pe_ix ix_list (pv 0) pe_int (fun _ _ => rfl)) (pa_cons (pe_ix ix_list (pv 0) pe_int (fun _ _ => rfl)) pa_nil)))))))))
        pss_nil)
      (pss_cons (ps_if (pt_cmpR op_eq (pe_callB call_len_seq (by rfl) T.len (by decide +kernel) (pa_cons (pv 0) pa_nil)) pe_int (nomark _))
        (pss_one (ps_ret (pe_bedX M hr (takes_of rfl rfl rfl rfl) (pa_cons (pe_ix ix_list (pv 0) pe_int (fun _ _ => rfl)) (pa_cons (pe_ix ix_list (pv 0) pe_int (fun _ _ => rfl)) (pa_cons (pe_ix ix_list (pv 0) pe_int (fun _ _ => rfl)) (pa_cons (pe_ix ix_list (pv 0) pe_int (fun _ _ => rfl)) (pa_cons (pe_ix ix_list (pv 0) pe_int (fun _ _ => rfl)) (pa_cons (pe_ix ix_list (pv 0) pe_int (fun _ _ => rfl)) (pa_cons (pe_ix ix_list (pv 0) pe_int (fun _ _ => rfl)) pa_nil))))))))))
        pss_nil)
      (pss_cons (ps_if (pt_cmpR op_eq (pe_callB call_len_seq (by rfl) T.len (by decide +kernel) (pa_cons (pv 0) pa_nil)) pe_int (nomark _))
        (pss_one (ps_ret (pe_bedX M hr (takes_of rfl rfl rfl rfl) (pa_cons (pe_ix ix_list (pv 0) pe_int (fun _ _ => rfl)) (pa_cons (pe_ix ix_list (pv 0) pe_int (fun _ _ => rfl)) (pa_cons (pe_ix ix_list (pv 0) pe_int (fun _ _ => rfl)) (pa_cons (pe_ix ix_list (pv 0) pe_int (fun _ _ => rfl)) (pa_cons (pe_ix ix_list (pv 0) pe_int (fun _ _ => rfl)) (pa_cons (pe_ix ix_list (pv 0) pe_int (fun _ _ => rfl)) (pa_cons (pe_ix ix_list (pv 0) pe_int (fun _ _ => rfl)) (pa_cons (pe_ix ix_list (pv 0) pe_int (fun _ _ => rfl)) pa_nil)))))))))))
        pss_nil)
      (pss_one (ps_ret (pe_bedX M hr (takes_of rfl rfl rfl rfl) (pa_cons (pe_ix ix_list (pv 0) pe_int (fun _ _ => rfl)) (pa_cons (pe_ix ix_list (pv 0) pe_int (fun _ _ => rfl)) (pa_cons (pe_ix ix_list (pv 0) pe_int (fun _ _ => rfl)) (pa_cons (pe_ix ix_list (pv 0) pe_int (fun _ _ => rfl)) (pa_cons (pe_ix ix_list (pv 0) pe_int (fun _ _ => rfl)) (pa_cons (pe_ix ix_list (pv 0) pe_int (fun _ _ => rfl)) (pa_cons (pe_ix ix_list (pv 0) pe_int (fun _ _ => rfl)) (pa_cons (pe_ix ix_list (pv 0) pe_int (fun _ _ => rfl)) (pa_cons (pe_ix ix_list (pv 0) pe_int (fun _ _ => rfl)) pa_nil))))))))))))))))))))), ?_⟩
  refine ⟨_, rfl, q, _, rfl, .inl (SqL.of hL), rfl, _, rfl, if_dec (fun c => ?_) (fun c0 => ?_)⟩
  · have en : as.length = 0 := by
      have := V.int.inj c
      rw [List.length_map] at this
      omega
    obtain rfl : as = [] := by
      match as, en with
      | [], _ => rfl
    exact bed_ofX (as := []) hp (by omega) hnl hq hE
  refine ⟨_, rfl, q, _, rfl, .inl (SqL.of hL), rfl, _, rfl, if_dec (fun c => ?_) (fun c1 => ?_)⟩
  · have en : as.length = 1 := by
      have := V.int.inj c
      rw [List.length_map] at this
      omega
    obtain ⟨p0, rfl⟩ : ∃ p0, as = [p0] := by
      match as, en with
      | [p0], _ => exact ⟨_, rfl⟩
    exact ⟨_, rfl, q, _, _, _, rfl, rfl, SqL.of hL, atI_nat (j := 0) rfl, bed_ofX (as := [p0]) hp (by omega) hnl hq hE⟩
  refine ⟨_, rfl, q, _, rfl, .inl (SqL.of hL), rfl, _, rfl, if_dec (fun c => ?_) (fun c2 => ?_)⟩
  · have en : as.length = 2 := by
      have := V.int.inj c
      rw [List.length_map] at this
      omega
    obtain ⟨p0, p1, rfl⟩ : ∃ p0 p1, as = [p0, p1] := by
      match as, en with
      | [p0, p1], _ => exact ⟨_, _, rfl⟩
    exact ⟨_, rfl, q, _, _, _, rfl, rfl, SqL.of hL, atI_nat (j := 0) rfl, _, rfl, q, _, _, _, rfl, rfl, SqL.of hL, atI_nat (j := 1) rfl, bed_ofX (as := [p0, p1]) hp (by omega) hnl hq hE⟩
  refine ⟨_, rfl, q, _, rfl, .inl (SqL.of hL), rfl, _, rfl, if_dec (fun c => ?_) (fun c3 => ?_)⟩
  · have en : as.length = 3 := by
      have := V.int.inj c
      rw [List.length_map] at this
      omega
    obtain ⟨p0, p1, p2, rfl⟩ : ∃ p0 p1 p2, as = [p0, p1, p2] := by
      match as, en with
      | [p0, p1, p2], _ => exact ⟨_, _, _, rfl⟩
    exact ⟨_, rfl, q, _, _, _, rfl, rfl, SqL.of hL, atI_nat (j := 0) rfl, _, rfl, q, _, _, _, rfl, rfl, SqL.of hL, atI_nat (j := 1) rfl, _, rfl, q, _, _, _, rfl, rfl, SqL.of hL, atI_nat (j := 2) rfl, bed_ofX (as := [p0, p1, p2]) hp (by omega) hnl hq hE⟩
  refine ⟨_, rfl, q, _, rfl, .inl (SqL.of hL), rfl, _, rfl, if_dec (fun c => ?_) (fun c4 => ?_)⟩
  · have en : as.length = 4 := by
      have := V.int.inj c
      rw [List.length_map] at this
      omega
    obtain ⟨p0, p1, p2, p3, rfl⟩ : ∃ p0 p1 p2 p3, as = [p0, p1, p2, p3] := by
      match as, en with
      | [p0, p1, p2, p3], _ => exact ⟨_, _, _, _, rfl⟩
    exact ⟨_, rfl, q, _, _, _, rfl, rfl, SqL.of hL, atI_nat (j := 0) rfl, _, rfl, q, _, _, _, rfl, rfl, SqL.of hL, atI_nat (j := 1) rfl, _, rfl, q, _, _, _, rfl, rfl, SqL.of hL, atI_nat (j := 2) rfl, _, rfl, q, _, _, _, rfl, rfl, SqL.of hL, atI_nat (j := 3) rfl, bed_ofX (as := [p0, p1, p2, p3]) hp (by omega) hnl hq hE⟩
  refine ⟨_, rfl, q, _, rfl, .inl (SqL.of hL), rfl, _, rfl, if_dec (fun c => ?_) (fun c5 => ?_)⟩
  · have en : as.length = 5 := by
      have := V.int.inj c
      rw [List.length_map] at this
      omega
    obtain ⟨p0, p1, p2, p3, p4, rfl⟩ : ∃ p0 p1 p2 p3 p4, as = [p0, p1, p2, p3, p4] := by
      match as, en with
      | [p0, p1, p2, p3, p4], _ => exact ⟨_, _, _, _, _, rfl⟩
    exact ⟨_, rfl, q, _, _, _, rfl, rfl, SqL.of hL, atI_nat (j := 0) rfl, _, rfl, q, _, _, _, rfl, rfl, SqL.of hL, atI_nat (j := 1) rfl, _, rfl, q, _, _, _, rfl, rfl, SqL.of hL, atI_nat (j := 2) rfl, _, rfl, q, _, _, _, rfl, rfl, SqL.of hL, atI_nat (j := 3) rfl, _, rfl, q, _, _, _, rfl, rfl, SqL.of hL, atI_nat (j := 4) rfl, bed_ofX (as := [p0, p1, p2, p3, p4]) hp (by omega) hnl hq hE⟩
  refine ⟨_, rfl, q, _, rfl, .inl (SqL.of hL), rfl, _, rfl, if_dec (fun c => ?_) (fun c6 => ?_)⟩
  · have en : as.length = 6 := by
      have := V.int.inj c
      rw [List.length_map] at this
      omega
    obtain ⟨p0, p1, p2, p3, p4, p5, rfl⟩ : ∃ p0 p1 p2 p3 p4 p5, as = [p0, p1, p2, p3, p4, p5] := by
      match as, en with
      | [p0, p1, p2, p3, p4, p5], _ => exact ⟨_, _, _, _, _, _, rfl⟩
    exact ⟨_, rfl, q, _, _, _, rfl, rfl, SqL.of hL, atI_nat (j := 0) rfl, _, rfl, q, _, _, _, rfl, rfl, SqL.of hL, atI_nat (j := 1) rfl, _, rfl, q, _, _, _, rfl, rfl, SqL.of hL, atI_nat (j := 2) rfl, _, rfl, q, _, _, _, rfl, rfl, SqL.of hL, atI_nat (j := 3) rfl, _, rfl, q, _, _, _, rfl, rfl, SqL.of hL, atI_nat (j := 4) rfl, _, rfl, q, _, _, _, rfl, rfl, SqL.of hL, atI_nat (j := 5) rfl, bed_ofX (as := [p0, p1, p2, p3, p4, p5]) hp (by omega) hnl hq hE⟩
  refine ⟨_, rfl, q, _, rfl, .inl (SqL.of hL), rfl, _, rfl, if_dec (fun c => ?_) (fun c7 => ?_)⟩
  · have en : as.length = 7 := by
      have := V.int.inj c
      rw [List.length_map] at this
      omega
    obtain ⟨p0, p1, p2, p3, p4, p5, p6, rfl⟩ : ∃ p0 p1 p2 p3 p4 p5 p6, as = [p0, p1, p2, p3, p4, p5, p6] := by
      match as, en with
      | [p0, p1, p2, p3, p4, p5, p6], _ => exact ⟨_, _, _, _, _, _, _, rfl⟩
    exact ⟨_, rfl, q, _, _, _, rfl, rfl, SqL.of hL, atI_nat (j := 0) rfl, _, rfl, q, _, _, _, rfl, rfl, SqL.of hL, atI_nat (j := 1) rfl, _, rfl, q, _, _, _, rfl, rfl, SqL.of hL, atI_nat (j := 2) rfl, _, rfl, q, _, _, _, rfl, rfl, SqL.of hL, atI_nat (j := 3) rfl, _, rfl, q, _, _, _, rfl, rfl, SqL.of hL, atI_nat (j := 4) rfl, _, rfl, q, _, _, _, rfl, rfl, SqL.of hL, atI_nat (j := 5) rfl, _, rfl, q, _, _, _, rfl, rfl, SqL.of hL, atI_nat (j := 6) rfl, bed_ofX (as := [p0, p1, p2, p3, p4, p5, p6]) hp (by omega) hnl hq hE⟩
  refine ⟨_, rfl, q, _, rfl, .inl (SqL.of hL), rfl, _, rfl, if_dec (fun c => ?_) (fun c8 => ?_)⟩
  · have en : as.length = 8 := by
      have := V.int.inj c
      rw [List.length_map] at this
      omega
    obtain ⟨p0, p1, p2, p3, p4, p5, p6, p7, rfl⟩ : ∃ p0 p1 p2 p3 p4 p5 p6 p7, as = [p0, p1, p2, p3, p4, p5, p6, p7] := by
      match as, en with
      | [p0, p1, p2, p3, p4, p5, p6, p7], _ => exact ⟨_, _, _, _, _, _, _, _, rfl⟩
    exact ⟨_, rfl, q, _, _, _, rfl, rfl, SqL.of hL, atI_nat (j := 0) rfl, _, rfl, q, _, _, _, rfl, rfl, SqL.of hL, atI_nat (j := 1) rfl, _, rfl, q, _, _, _, rfl, rfl, SqL.of hL, atI_nat (j := 2) rfl, _, rfl, q, _, _, _, rfl, rfl, SqL.of hL, atI_nat (j := 3) rfl, _, rfl, q, _, _, _, rfl, rfl, SqL.of hL, atI_nat (j := 4) rfl, _, rfl, q, _, _, _, rfl, rfl, SqL.of hL, atI_nat (j := 5) rfl, _, rfl, q, _, _, _, rfl, rfl, SqL.of hL, atI_nat (j := 6) rfl, _, rfl, q, _, _, _, rfl, rfl, SqL.of hL, atI_nat (j := 7) rfl, bed_ofX (as := [p0, p1, p2, p3, p4, p5, p6, p7]) hp (by omega) hnl hq hE⟩
  have en : as.length = 9 := by
    have k : ∀ n : Nat, ¬ (V.int ((as.map V.ref).length : Nat) = V.int (n : Nat)) → as.length ≠ n := fun n z e => z (by rw [List.length_map, e])
    have z0 := k 0 c0
    have z1 := k 1 c1
    have z2 := k 2 c2
    have z3 := k 3 c3
    have z4 := k 4 c4
    have z5 := k 5 c5
    have z6 := k 6 c6
    have z7 := k 7 c7
    have z8 := k 8 c8
    omega
  obtain ⟨p0, p1, p2, p3, p4, p5, p6, p7, p8, rfl⟩ : ∃ p0 p1 p2 p3 p4 p5 p6 p7 p8, as = [p0, p1, p2, p3, p4, p5, p6, p7, p8] := by
    match as, en with
    | [p0, p1, p2, p3, p4, p5, p6, p7, p8], _ => exact ⟨_, _, _, _, _, _, _, _, _, rfl⟩
  exact ⟨_, rfl, q, _, _, _, rfl, rfl, SqL.of hL, atI_nat (j := 0) rfl, _, rfl, q, _, _, _, rfl, rfl, SqL.of hL, atI_nat (j := 1) rfl, _, rfl, q, _, _, _, rfl, rfl, SqL.of hL, atI_nat (j := 2) rfl, _, rfl, q, _, _, _, rfl, rfl, SqL.of hL, atI_nat (j := 3) rfl, _, rfl, q, _, _, _, rfl, rfl, SqL.of hL, atI_nat (j := 4) rfl, _, rfl, q, _, _, _, rfl, rfl, SqL.of hL, atI_nat (j := 5) rfl, _, rfl, q, _, _, _, rfl, rfl, SqL.of hL, atI_nat (j := 6) rfl, _, rfl, q, _, _, _, rfl, rfl, SqL.of hL, atI_nat (j := 7) rfl, _, rfl, q, _, _, _, rfl, rfl, SqL.of hL, atI_nat (j := 8) rfl, bed_ofX (as := [p0, p1, p2, p3, p4, p5, p6, p7, p8]) hp (by omega) hnl hq hE⟩
end
end Sy
/-! what a bed's text owes -/
namespace Sy
open PySem PySem.Spec PyProof.Rows L2
theorem cutS_take {z : Str} {k : Nat} (h : k ≤ z.length) : cutS z none (some (k : Int)) = ⟨(z.cps.toList.take k).toArray⟩ := by
  unfold cutS HT.sIx
  simp only [List.drop_zero, Nat.sub_zero]
  rw [if_neg (by omega), show min (k : Int).toNat z.length = k by omega]
theorem cutS_drop {z : Str} {k : Nat} (h : k ≤ z.length) : cutS z (some (k : Int)) none = ⟨(z.cps.toList.drop k).toArray⟩ := by
  unfold cutS HT.sIx
  simp only []
  rw [if_neg (by omega), show min (k : Int).toNat z.length = k by omega, List.take_of_length_le]
  rw [List.length_drop, ← len_tl]
  exact Nat.le_refl _
theorem split_two {L : List Nat} {n : Nat} (hn : L.length = n + 2) : ∃ c d, L[n]? = some c ∧ L[n + 1]? = some d ∧ L = L.take n ++ [c, d] := by
  have h1 : L[n]? = some L[n] := List.getElem?_eq_getElem (by omega)
  have h2 : L[n + 1]? = some L[n + 1] := List.getElem?_eq_getElem (by omega)
  refine ⟨_, _, h1, h2, ?_⟩
  have e : L.drop n = [L[n], L[n + 1]] := by
    rw [drop_of h1, drop_of h2, List.drop_of_length_le (by omega)]
  rw [← e, List.take_append_drop]
def PRowD (r : PRow) : PyData := .tuple [.str r.1, .int r.2]
def PRowsD (ps : List PRow) : PyData := .tuple (ps.map PRowD)
theorem Im.prows {K : PySem.W.Frag} {H : Hp} : ∀ {as : List Addr} {ps : List PRow}, Paired (fun q (r : PRow) => SqT K H q [.str r.1, .int r.2]) as ps → ImA K H (as.map V.ref) (ps.map PRowD)
  | _, _, .nil => .nil
  | _, _, .cons a b => .cons (.tup a (.cons (.str _) (.cons (.int _) .nil))) (Im.prows b)
section
variable {P : Program} {w : World} {K : PySem.W.Frag} {mg : Str → Option Value} {base : Heap}
def spPTD (K : PySem.W.Frag) : Sp := fun vs H Q _ => ∃ x : Str, vs = [.str x] ∧ x.length ≤ 10000 ∧
  (∀ ps, piecesR (Txt.split x " ") = some ps → bedE ps = none → ∀ H' v, Same H H' → Im K H' v (.tuple [.str "told", PRowsD ps]) → Q v H') ∧ (∀ e, readE x = some e → ∀ H' v, Same H H' → Im K H' v e.dat → Q v H')
abbrev N_ptd : List Str := ["_law_text", "_law_pairs", "_law_piece", "_law_last", "_law_char_here", "_law_due"]
theorem sc_ptd : FnScope N_ptd ["_law_text"] (defScope (top 44)) := ⟨rfl, rfl, rfl, by decide +kernel, rfl, by decide +kernel, by decide +kernel⟩
theorem k_ptd (T : Txt K mg) (F : DF K mg "_law_pairs_text_due" 44) (c_law_pairs_due : Cal P w K mg base 2 "_law_pairs_due" ["_law_pairs"] (spDueP K)) : Cal P w K mg base 3 "_law_pairs_text_due" ["_law_text"] (spPTD K) := by
  refine cal_of F.1 F.2 sc_ptd (fun _ _ _ _ _ _ us e => match us, e with | [_], _ => rfl) (fun vs H Q E s => by obtain ⟨_, rfl, _⟩ := s; rfl) ?_
  intro cdv A outer s H vs Q E hr h
  obtain ⟨x, rfl, hx, hq, hE⟩ := h
  have sc := sc_ptd
  refine ⟨_, (pss_cons (ps_set (i := 1) sc.nd rfl (Or.inl rfl) (pe_lst pa_nil))
      (pss_cons (ps_for (passes_of rfl) rfl (pi_list (pe_split (pv 0) pe_str)) (pg_name (i := 2) sc.nd rfl (Or.inl rfl))
        (pss_cons (ps_set (i := 3) sc.nd rfl (Or.inl rfl) (pe_op op_sub (pe_callB call_len_str (by rfl) T.len (by decide +kernel) (pa_cons (pv 2) pa_nil)) pe_int))
        (pss_cons (ps_if (PW.pt (pw_or (pt_cmpR op_lt (pv 3) pe_int (nomark _)) (pw_or (pt_cmpR op_ne (pe_ix ix_str (pv 2) (pe_op op_sub (pv 3) pe_int) (fun _ _ => rfl)) pe_str (nomark _)) (pw_or1 (pt_cmpR op_notIn_sign (pe_ix ix_str (pv 2) (pv 3) (fun _ _ => rfl)) pe_str rfl)))))
          (pss_one (ps_ret (pe_tup (pa_cons pe_str (pa_cons (pv 0) pa_nil)))))
          pss_nil)
        (pss_cons (ps_for (passes_of rfl) rfl (pi_str (pe_slice sl_str (pv 2) po_none (po_some (pe_op op_sub (pv 3) pe_int)))) (pg_name (i := 4) sc.nd rfl (Or.inl rfl))
          (pss_one (ps_if (pt_cmpR op_notIn_sign (pv 4) pe_str rfl)
            (pss_one (ps_ret (pe_tup (pa_cons pe_str (pa_cons (pv 0) pa_nil)))))
            pss_nil)))
        (pss_one (ps_expr (pe_bm PySem.F.plainAttrs_list PySem.F.slot_list_append PySem.F.type_list_append mt_append (pv 1) (pa_cons (pe_tup (pa_cons (pe_slice sl_str (pv 2) po_none (po_some (pe_op op_sub (pv 3) pe_int))) (pa_cons (pe_callTy call_int_str (by rfl) T.int (by decide +kernel) (pa_cons (pe_ix ix_str (pv 2) (pv 3) (fun _ _ => rfl)) pa_nil)) pa_nil))) pa_nil))))))))
      (pss_cons (ps_set (i := 5) sc.nd rfl (Or.inl rfl) (pe_cal c_law_pairs_due hr (pa_cons (pv 1) pa_nil)))
      (pss_cons (ps_if (pt_cmpR op_isN (pv 5) pe_non (nomark _))
        (pss_one (ps_ret (pe_tup (pa_cons pe_str (pa_cons (pe_callTy call_tuple_of (by rfl) T.tuple (by decide +kernel) (pa_cons (pv 1) pa_nil)) pa_nil)))))
        pss_nil)
      (pss_one (ps_ret (pv 5))))))), ?_⟩
  have lr := split_le x " "
  refine ⟨by decide, fun PD hPD => ?_⟩
  have h1 := (Hs.start H).new (o := .lst []) hPD
  refine ⟨_, rfl, ⟨_, rfl⟩, x, " ", rfl, rfl, by decide, by rw [sizeLine_eq]; omega, fun S hS => ?_⟩
  have hpc : ∀ y ∈ Txt.split x " ", y.length ≤ x.length := fun y hy => piece_le (by decide) hy
  have rE : piecesR (Txt.split x " ") = none → readE x = some (.text x) := fun z => by unfold readE; rw [z]
  have rS : ∀ ps, piecesR (Txt.split x " ") = some ps → readE x = bedE ps := fun ps z => by unfold readE; rw [z]
  generalize Txt.split x " " = l at *
  have h2 := h1.new (o := .lst (l.map V.str)) hS
  refine ⟨S, rfl, ⟨_, SqL.of h2.r0⟩, for_list (K := K) (a := S) (xs := l.map V.str) (fun i σ H' => ∃ (t2 t3 t4 : Option V) (B : Hp) (as : List Addr) (ps : List PRow), σ = [some (.str x), some (.ref PD), t2, t3, t4, none] ∧ Same H B ∧ Hs B [(S, .lst (l.map V.str)), (PD, .lst (as.map V.ref))] H' ∧ as.length = i ∧ (∀ r ∈ ps, r.1.length ≤ x.length) ∧ piecesR (l.take i) = some ps ∧ Paired (fun q (r : PRow) => SqT K B q [.str r.1, .int r.2]) as ps)
    ⟨none, none, none, H, [], [], rfl, Same.refl H, h2, rfl, fun _ z => (nomatch z), rfl, .nil⟩ (fun _ _ _ _ ⟨_, _, _, _, _, _, _, _, h, _⟩ => SqL.of h.r0) ?_ ?_⟩
  · rintro i v σ H1 hv ⟨t2, t3, t4, B, as, ps, rfl, sB, hh, hal, hpl, hps, hpr⟩
    obtain ⟨y, hy, rfl⟩ := map_at hv
    have hi : i < l.length := (List.getElem?_eq_some_iff.mp hy).1
    have ym := List.mem_of_getElem? hy
    have yl := hpc y ym
    have hn := len_tl y
    have sH := sB.trans hh.sub
    have bad : pieceR y = none → (2 ≤ sizeLine ∧ ∀ t, H1 t = none → Q (.ref t) (upd H1 t (.tup [.str "text", .str x]))) := fun z =>
      ⟨by decide, fun t ht => hE (.text x) (rE (piecesR_fail ym z)) _ _ (sH.trans (up_same ht)) (.tup (SqT.of upd_same) (.cons (.str _) (.cons (.str _) .nil)))⟩
    have none_of : (∀ r, pieceR y ≠ some r) → pieceR y = none := fun z => by
      cases e : pieceR y with
      | none => rfl
      | some r => exact absurd e (z r)
    refine ⟨_, rfl, y, rfl, by rw [sizeLine_eq]; omega, _, _, rfl, rfl, ?_⟩
    refine ⟨_, rfl, _, _, rfl, rfl, _, rfl, if_dec (fun c1 => ?_) (fun c1 => ?_)⟩
    · have c1 : (y.length : Int) - 1 < 2 := c1
      refine ⟨_, rfl, bad (none_of fun r e => ?_)⟩
      obtain ⟨A, d, e1, h0, _⟩ := pieceR_inv e
      have := congrArg List.length e1
      rw [List.length_append] at this
      have h3 : 0 < A.length := List.length_pos_iff.mpr h0
      have h4 : ([47, d] : List Nat).length = 2 := rfl
      omega
    have c1 : ¬ (y.length : Int) - 1 < 2 := c1
    obtain ⟨n, en⟩ : ∃ n, y.cps.toList.length = n + 2 := ⟨y.cps.toList.length - 2, by omega⟩
    obtain ⟨c, d, ec, ed, eL⟩ := split_two en
    have i1 : atI y.cps.toList ((y.length : Int) - 1 - 1) = some c := by
      rw [show (y.length : Int) - 1 - 1 = (n : Int) by omega]
      exact atI_nat ec
    have i2 : atI y.cps.toList ((y.length : Int) - 1) = some d := by
      rw [show (y.length : Int) - 1 = ((n + 1 : Nat) : Int) by omega]
      exact atI_nat ed
    have inv : ∀ r, pieceR y = some r → c = 47 ∧ isDig d = true ∧ ∀ k ∈ y.cps.toList.take n, Lt k := fun r e => by
      obtain ⟨A, d', e1, h0, hA, hd, _⟩ := pieceR_inv e
      have el := congrArg List.length e1
      rw [List.length_append] at el
      have h4 : ([47, d'] : List Nat).length = 2 := rfl
      have eA : A.length = n := by omega
      have e2 : y.cps.toList.take n = A := by rw [e1, ← eA, List.take_left]
      rw [e2] at eL
      rw [e1] at eL
      have e3 := List.append_cancel_left eL
      cases e3
      refine ⟨rfl, hd, fun k hk => ?_⟩
      rw [e2] at hk
      exact hA k hk
    refine ⟨_, rfl, _, rfl, _, _, rfl, rfl, y, _, c, rfl, rfl, by rw [sizeLine_eq]; omega, i1, rfl, _, rfl, if_ndec (fun c2 => ?_) (fun c2 => ?_)⟩
    · refine ⟨_, rfl, bad (none_of fun r e => c2 ?_)⟩
      rw [(inv r e).1]
      rfl
    have c2 : c = 47 := by
      have := congrArg (fun z : Str => z.cps.toList) (V.str.inj c2)
      have e : ("/" : Str).cps.toList = [47] := tl_sl
      simp only at this
      rw [e] at this
      exact (List.cons.inj this).1
    refine ⟨_, rfl, _, rfl, y, _, d, rfl, rfl, by rw [sizeLine_eq]; omega, i2, d, _, rfl, rfl, _, rfl, if_nbool (fun c3 => ?_) (fun c3 => ?_)⟩
    · refine ⟨_, rfl, bad (none_of fun r e => ?_)⟩
      exact of_decide_eq_false c3 ((dig_mem d).mpr (inv r e).2.1)
    have c3 : isDig d = true := (dig_mem d).mp (of_decide_eq_true c3)
    have ecut : cutS y none (some ((y.length : Int) - 1 - 1)) = ⟨(y.cps.toList.take n).toArray⟩ := by
      rw [show (y.length : Int) - 1 - 1 = (n : Int) by omega]
      exact cutS_take (by omega)
    refine ⟨_, rfl, ?_⟩
    refine ⟨_, rfl, _, _, rfl, rfl, _, rfl, y, rfl, by rw [sizeLine_eq]; omega, ?_⟩
    rw [ecut]
    refine ⟨_, rfl, for_it walk_str (fun j σ H' => ∃ t4, σ = [some (.str x), some (.ref PD), some (.str y), some (.int ((y.length : Int) - 1)), t4, none] ∧ H' = H1 ∧ ∀ k ∈ (y.cps.toList.take n).take j, Lt k) ⟨t4, rfl, rfl, fun _ z => (nomatch z)⟩ (fun _ _ _ _ _ => trivial) ?_ ?_⟩
    · rintro j v σ H2 H3 hj ⟨t4, rfl, rfl, hall⟩ ⟨rfl, k, hk, rfl⟩
      have hk2 : (y.cps.toList.take n)[j]? = some k := by
        have : (y.cps.toList.take n).toArray[j]? = some k := hk
        simpa using this
      refine ⟨_, rfl, k, _, rfl, rfl, _, rfl, if_nbool (fun c4 => ?_) (fun c4 => ?_)⟩
      · refine ⟨_, rfl, bad (none_of fun r e => ?_)⟩
        exact of_decide_eq_false c4 ((abc_mem k).mpr ((inv r e).2.2 k (List.mem_of_getElem? hk2)))
      · refine ⟨_, rfl, rfl, fun q hq' => ?_⟩
        rw [List.take_succ, hk2] at hq'
        rcases List.mem_append.mp hq' with hq' | hq'
        · exact hall q hq'
        · rw [List.mem_singleton.mp hq']
          exact (abc_mem k).mp (of_decide_eq_true c4)
    · rintro σ H2 ⟨t4, rfl, rfl, hall⟩
      have hall : ∀ k ∈ y.cps.toList.take n, Lt k := fun k hk => hall k (by rw [List.take_of_length_le (by simp)]; exact hk)
      have hn0 : y.cps.toList.take n ≠ [] := fun z => by
        have := congrArg List.length z
        rw [List.length_take] at this
        have h0 : ([] : List Nat).length = 0 := rfl
        omega
      rw [c2] at eL
      have ep := pieceR_some eL hn0 hall c3
      have hdd : 48 ≤ d ∧ d ≤ 57 := by
        unfold isDig at c3
        simpa using c3
      have hin : PySem.intText? ⟨#[d]⟩ = some ((d - 48 : Nat) : Int) := by
        have := dig_int (d - 48) (by omega)
        rw [show 48 + (d - 48) = d by omega] at this
        exact this
      refine ⟨_, rfl, .inl ⟨rfl, _, SqL.of hh.r1⟩, _, rfl, ?_⟩
      refine ⟨_, rfl, _, _, rfl, rfl, _, rfl, y, rfl, by rw [sizeLine_eq]; omega, ?_⟩
      rw [ecut]
      refine ⟨_, rfl, _, rfl, y, _, d, rfl, rfl, by rw [sizeLine_eq]; omega, i2, _, _, rfl, hin, (by show 1 ≤ 640; decide), (by show 2 ≤ sizeLine; decide), fun T2 hT2 => ?_⟩
      have g2 := hh.tup (o := .tup [.str ⟨(y.cps.toList.take n).toArray⟩, .int ((d - 48 : Nat) : Int)]) hT2
      have sB2 : Same B (upd B T2 (.tup [.str ⟨(y.cps.toList.take n).toArray⟩, .int ((d - 48 : Nat) : Int)])) := up_same (hh.sub.free hT2)
      refine ⟨PD, _, _, rfl, rfl, g2.r1, by rw [List.length_map, hal, sizeLine_eq]; omega, ?_⟩
      refine ⟨_, _, _, _, as ++ [T2], ps ++ [(⟨(y.cps.toList.take n).toArray⟩, ((d - 48 : Nat) : Int))], rfl, sB.trans sB2, ?_, by rw [List.length_append, hal]; rfl, fun r hr' => ?_, piecesR_take hps hy ep, ?_⟩
      · rw [List.map_append]
        exact g2.w1
      · rcases List.mem_append.mp hr' with hr' | hr'
        · exact hpl r hr'
        · rw [List.mem_singleton.mp hr']
          show Str.length _ ≤ _
          rw [TL.len_tl, TL.tl_mk, List.length_take]
          omega
      · exact paired_app (Paired.mapP hpr fun _ _ z => Same.sqt sB2 z) (.cons (SqT.of upd_same) .nil)
  · rintro σ H1 ⟨t2, t3, t4, B, as, ps, rfl, sB, hh, hal, hpl, hps, hpr⟩
    rw [List.length_map, List.take_length] at hps
    rw [List.length_map] at hal
    have sH := sB.trans hh.sub
    have hpp := paired_len hpr
    have hPL : PL K H1 PD ps := ⟨as, hh.r1, Paired.mapP hpr fun _ _ z => Same.sqt hh.sub z⟩
    refine ⟨_, rfl, PD, ps, rfl, hPL, ?_, fun r hr' => Nat.le_trans (hpl r hr') (by omega), fun he H2 s2 => ?_, fun e he H2 v s2 iv => ?_⟩
    · omega
    · refine ⟨_, rfl, rfl, _, rfl, ?_⟩
      rw [decide_eq_true rfl]
      refine iteT ⟨_, rfl, PD, _, rfl, .inl ⟨SqL.of (s2 _ _ hh.r1), fun p hp => ?_⟩⟩
      have s3 := s2.trans (up_same (o := .tup (as.map V.ref)) hp)
      refine ⟨(by show 2 ≤ sizeLine; decide), fun t ht => ?_⟩
      have s4 := s3.trans (up_same (o := .tup [.str "told", .ref p]) ht)
      refine hq ps hps he _ _ (sH.trans s4) (.tup (SqT.of upd_same) (.cons (.str _) (.cons (.tup (Same.sqt (up_same ht) (SqT.of upd_same)) (Im.prows (Paired.mapP hpr fun _ _ z => Same.sqt (hh.sub.trans s4) z))) .nil)))
    · have hv : v ≠ V.non := fun z => by
        rw [z] at iv
        cases e <;> cases iv
      refine ⟨_, rfl, rfl, _, rfl, ?_⟩
      rw [decide_eq_false hv]
      exact iteF ⟨_, rfl, hE e (by rw [rS ps hps]; exact he) _ _ (sH.trans s2) iv⟩
end
end Sy
/-! bent texts -/
namespace Sy
open PySem PySem.Spec PyProof.Rows L2
/-- a text of at most n plain signs -/
def TxA (n : Nat) (x : Str) : Prop := x.length ≤ n ∧ ∀ c ∈ x.cps.toList, c < 128
theorem TxA.mono {n m : Nat} {x : Str} (h : TxA n x) (g : n ≤ m) : TxA m x := ⟨Nat.le_trans h.1 g, h.2⟩
theorem TxA.app {n m : Nat} {x y : Str} (h : TxA n x) (g : TxA m y) : TxA (n + m) (x ++ y) := by
  refine ⟨by rw [Str.length_append]; have := h.1; have := g.1; omega, fun c hc => ?_⟩
  have hc : c ∈ TL.tl (x ++ y) := hc
  rw [TL.tl_append] at hc
  rcases List.mem_append.mp hc with hc | hc
  · exact h.2 c hc
  · exact g.2 c hc
theorem TxA.cut {n : Nat} {x : Str} (h : TxA n x) (lo hi : Option Int) : TxA n (cutS x lo hi) := by
  refine ⟨Nat.le_trans (cutS_length x lo hi) h.1, fun c hc => ?_⟩
  unfold cutS at hc
  exact h.2 c (List.mem_of_mem_drop (List.mem_of_mem_take (by simpa using hc)))
theorem TxA.sg {n : Nat} {x : Str} (h : TxA n x) : SgX x := fun c hc => by
  have := h.2 c hc
  exact Nat.lt_of_lt_of_le this (by decide)
theorem TxA.at {n : Nat} {x : Str} (h : TxA n x) {i c : Nat} (e : x.cps.toList[i]? = some c) : TxA 1 ⟨#[c]⟩ := by
  refine ⟨by show 1 ≤ 1; decide, fun k hk => ?_⟩
  have : k = c := List.mem_singleton.mp hk
  rw [this]
  exact h.2 c (List.mem_of_getElem? e)
theorem TxA.join {m : Nat} : ∀ {ps : List Str}, (∀ p ∈ ps, TxA m p) → TxA (m * ps.length) (Txt.join Str.empty ps)
  | [], _ => by
    rw [TL.join_eq]
    exact ⟨Nat.zero_le _, fun c hc => nomatch (show c ∈ ([] : List Nat) from hc)⟩
  | p :: ps, h => by
    have ih := TxA.join fun q hq => h q (List.mem_cons_of_mem p hq)
    have hp := h p List.mem_cons_self
    have e : TL.tl (Txt.join Str.empty (p :: ps)) = TL.tl p ++ TL.tl (Txt.join Str.empty ps) := by rw [tl_joinE, tl_joinE]; rfl
    have e2 : Txt.join Str.empty (p :: ps) = p ++ Txt.join Str.empty ps := TL.ext_tl (by rw [e, TL.tl_append])
    rw [e2, List.length_cons, Nat.mul_succ, Nat.add_comm]
    exact hp.app ih
theorem cut_lo (x : Str) (k : Nat) : (cutS x (some (k : Int)) none).length ≤ x.length - k := by
  unfold cutS HT.sIx
  simp only []
  rw [if_neg (by omega)]
  show (List.toArray _).size ≤ _
  rw [List.size_toArray, List.length_take, List.length_drop, ← len_tl]
  omega
theorem cut_hi (x : Str) (k : Nat) : (cutS x none (some (k : Int))).length ≤ k := by
  unfold cutS HT.sIx
  simp only []
  rw [if_neg (by omega)]
  show (List.toArray _).size ≤ _
  rw [List.size_toArray, List.length_take, List.length_drop, ← len_tl]
  omega
section
variable {P : Program} {w : World} {K : PySem.W.Frag} {mg : Str → Option Value} {base : Heap}
def spChar : Sp := fun vs H Q _ => ∃ g : Addr, vs = [.ref g] ∧ Bag g H ∧ ∀ x H', TxA 1 x → Dr g H H' → Q (.str x) H'
abbrev N_char : List Str := ["_law_bag_here", "_law_chars"]
theorem sc_char : FnScope N_char ["_law_bag_here"] (defScope (top 45)) := ⟨rfl, rfl, rfl, by decide +kernel, rfl, by decide +kernel, by decide +kernel⟩
def chA : Str := " !\"#$&'()*+,-./0123456789:;<=>?@ABCDEFGHIJKLMNOPQRSTUVWXYZ[\\]^_`"
def chB : Str := "abcdefghijklmnopqrstuvwxyz{|}~\n\t"
def chC : Str := " /0123(),*ab\n"
theorem chAB : (chA ++ chB).cps.toList.length = 96 ∧ (chA ++ chB).cps.toList.all (· < 128) = true := by decide +kernel
theorem chCC : chC.cps.toList.length = 13 ∧ chC.cps.toList.all (· < 128) = true := by decide +kernel
theorem k_char (F : DF K mg "_law_char" 45) (c_law_draw : Cal P w K mg base 1 "_law_draw" ["_law_bag_here", "_law_size"] spDraw) : Cal P w K mg base 2 "_law_char" ["_law_bag_here"] spChar := by
  refine cal_of F.1 F.2 sc_char (fun _ _ _ _ _ _ us e => match us, e with | [_], _ => rfl) (fun vs H Q E s => by obtain ⟨_, rfl, _⟩ := s; rfl) ?_
  intro cdv A outer s H vs Q E hr h
  obtain ⟨g, rfl, hg, hq⟩ := h
  have sc := sc_char
  refine ⟨_, (pss_cons (ps_set (i := 1) sc.nd rfl (Or.inl rfl) pe_str)
      (pss_cons (ps_set (i := 1) sc.nd rfl (Or.inl rfl) (pe_op op_add_str (pv 1) pe_str))
      (pss_cons (ps_if (pt_cmpR op_eq (pe_cal c_law_draw hr (pa_cons (pv 0) (pa_cons pe_int pa_nil))) pe_int (nomark _))
        (pss_one (ps_ret (pe_ix ix_str (pv 1) (pe_cal c_law_draw hr (pa_cons (pv 0) (pa_cons pe_int pa_nil))) (fun _ _ => rfl))))
        pss_nil)
      (pss_one (ps_ret (pe_ix ix_str pe_str (pe_cal c_law_draw hr (pa_cons (pv 0) (pa_cons pe_int pa_nil))) (fun _ _ => rfl))))))), ?_⟩
  have tA : TxA 96 (chA ++ chB) := ⟨by rw [len_tl, chAB.1]; exact Nat.le_refl _, fun c hc => of_decide_eq_true (List.all_eq_true.mp chAB.2 c hc)⟩
  have tC : TxA 13 chC := ⟨by rw [len_tl, chCC.1]; exact Nat.le_refl _, fun c hc => of_decide_eq_true (List.all_eq_true.mp chCC.2 c hc)⟩
  refine ⟨_, rfl, chA, chB, rfl, rfl, by decide +kernel, ?_⟩
  refine ⟨_, rfl, g, 2, rfl, hg, by decide, by decide, fun r H1 hr1 d1 => ?_⟩
  refine ⟨rfl, _, rfl, if_dec (fun _ => ?_) (fun _ => ?_)⟩
  · refine ⟨_, rfl, _, rfl, g, 96, rfl, d1.bag, by decide, by decide, fun i H2 hi d2 => ?_⟩
    obtain ⟨c, ec⟩ : ∃ c, (chA ++ chB).cps.toList[i]? = some c := ⟨_, List.getElem?_eq_getElem (by rw [chAB.1]; exact hi)⟩
    exact ⟨chA ++ chB, _, c, rfl, rfl, by rw [sizeLine_eq]; have := tA.1; omega, atI_nat ec, hq _ _ (tA.at ec) (d1.trans d2)⟩
  · refine ⟨_, rfl, g, 13, rfl, d1.bag, by decide, by decide, fun i H2 hi d2 => ?_⟩
    obtain ⟨c, ec⟩ : ∃ c, chC.cps.toList[i]? = some c := ⟨_, List.getElem?_eq_getElem (by rw [chCC.1]; exact hi)⟩
    exact ⟨chC, _, c, rfl, rfl, by rw [sizeLine_eq]; have := tC.1; omega, atI_nat ec, hq _ _ (tC.at ec) (d1.trans d2)⟩
def spBentT : Sp := fun vs H Q _ => ∃ (g : Addr) (x : Str) (n : Nat), vs = [.ref g, .str x] ∧ Bag g H ∧ TxA n x ∧ n ≤ 100000 ∧ ∀ y H', TxA (n + 10) y → Dr g H H' → Q (.str y) H'
abbrev N_bentT : List Str := ["_law_bag_here", "_law_text", "_law_way", "_law_place", "_law_k"]
theorem sc_bentT : FnScope N_bentT ["_law_bag_here", "_law_text"] (defScope (top 46)) := ⟨rfl, rfl, rfl, by decide +kernel, rfl, by decide +kernel, by decide +kernel⟩
def tails : List Str := [" ", "\n", ")", ",*", "  a/0", " a/0", "()"]
theorem tails_ok : ∀ i, i < 7 → ∃ y, tails[i]? = some y ∧ TxA 5 y := by
  have h : ∀ y ∈ tails, TxA 5 y := fun y hy => by
    have : tails.all (fun y => decide (y.length ≤ 5) && y.cps.toList.all (· < 128)) = true := by decide +kernel
    have := List.all_eq_true.mp this y hy
    obtain ⟨a, b⟩ := Bool.and_eq_true_iff.mp this
    exact ⟨of_decide_eq_true a, fun c hc => of_decide_eq_true (List.all_eq_true.mp b c hc)⟩
  intro i hi
  have e : tails[i]? = some (tails[i]'hi) := List.getElem?_eq_getElem hi
  exact ⟨_, e, h _ (List.mem_of_getElem? e)⟩
theorem k_bentT (T : Txt K mg) (F : DF K mg "_law_bent_text" 46) (c_law_draw : Cal P w K mg base 1 "_law_draw" ["_law_bag_here", "_law_size"] spDraw) (c_law_char : Cal P w K mg base 2 "_law_char" ["_law_bag_here"] spChar) :
    Cal P w K mg base 3 "_law_bent_text" ["_law_bag_here", "_law_text"] spBentT := by
  refine cal_of F.1 F.2 sc_bentT (fun _ _ _ _ _ _ us e => match us, e with | [_, _], _ => rfl) (fun vs H Q E s => by obtain ⟨_, _, _, rfl, _⟩ := s; rfl) ?_
  intro cdv A outer s H vs Q E hr h
  obtain ⟨g, x, n, rfl, hg, hx, hn, hq⟩ := h
  have sc := sc_bentT
  refine ⟨_, (pss_cons (ps_set (i := 2) sc.nd rfl (Or.inl rfl) (pe_cal c_law_draw hr (pa_cons (pv 0) (pa_cons pe_int pa_nil))))
      (pss_cons (ps_set (i := 3) sc.nd rfl (Or.inl rfl) (pe_cal c_law_draw hr (pa_cons (pv 0) (pa_cons (pe_op op_add (pe_callB call_len_str (by rfl) T.len (by decide +kernel) (pa_cons (pv 1) pa_nil)) pe_int) pa_nil))))
      (pss_cons (ps_if (pt_cmpR op_eq (pv 2) pe_int (nomark _))
        (pss_one (ps_ret (pe_op op_add_str (pe_op op_add_str (pe_slice sl_str (pv 1) po_none (po_some (pv 3))) (pe_cal c_law_char hr (pa_cons (pv 0) pa_nil))) (pe_slice sl_str (pv 1) (po_some (pe_op op_add (pv 3) pe_int)) po_none))))
        pss_nil)
      (pss_cons (ps_if (pt_cmpR op_eq (pv 2) pe_int (nomark _))
        (pss_one (ps_ret (pe_op op_add_str (pe_op op_add_str (pe_slice sl_str (pv 1) po_none (po_some (pv 3))) (pe_cal c_law_char hr (pa_cons (pv 0) pa_nil))) (pe_slice sl_str (pv 1) (po_some (pv 3)) po_none))))
        pss_nil)
      (pss_cons (ps_if (pt_cmpR op_eq (pv 2) pe_int (nomark _))
        (pss_one (ps_ret (pe_op op_add_str (pe_slice sl_str (pv 1) po_none (po_some (pv 3))) (pe_slice sl_str (pv 1) (po_some (pe_op op_add (pv 3) pe_int)) po_none))))
        pss_nil)
      (pss_cons (ps_if (pt_cmpR op_eq (pv 2) pe_int (nomark _))
        (pss_one (ps_ret (pe_op op_add_str (pv 1) (pe_ix ix_list (pe_lst (pa_cons pe_str (pa_cons pe_str (pa_cons pe_str (pa_cons pe_str (pa_cons pe_str (pa_cons pe_str (pa_cons pe_str pa_nil)))))))) (pe_cal c_law_draw hr (pa_cons (pv 0) (pa_cons pe_int pa_nil))) (fun _ _ => rfl)))))
        pss_nil)
      (pss_cons (ps_if (pt_cmpR op_eq (pv 2) pe_int (nomark _))
        (pss_one (ps_ret (pe_join pe_str (pe_lc (own := [("_law_k", 4)]) (g := gName 4) rfl sc.nd (pi_range1 rfl T.range (pa_cons (pe_cal c_law_draw hr (pa_cons (pv 0) (pa_cons pe_int pa_nil))) pa_nil)) (blkOk_by (N := N_bentT) (sc := defScope (top 46)) (by decide +kernel)) (fun _ _ _ _ _ => (pg_name (i := 4) sc.nd rfl (Or.inl rfl))) (fun _ _ _ _ _ => pts_nil) (fun _ _ _ _ _ => (pe_cal c_law_char hr (pa_cons (pv 0) pa_nil)))))))
        pss_nil)
      (pss_one (ps_ret (pv 1)))))))))), ?_⟩
  have hl := hx.1
  refine ⟨_, rfl, g, 7, rfl, hg, by decide, by decide, fun way H1 hw d1 => ?_⟩
  refine ⟨_, rfl, _, rfl, x, rfl, by rw [sizeLine_eq]; omega, _, _, rfl, rfl, g, x.length + 1, rfl, d1.bag, by omega, by omega, fun pl H2 hpl d2 => ?_⟩
  have d12 := d1.trans d2
  have lx : x.length ≤ sizeLine := by rw [sizeLine_eq]; omega
  refine ⟨_, rfl, rfl, _, rfl, if_dec (fun _ => ?_) (fun _ => ?_)⟩
  · refine ⟨_, rfl, _, rfl, _, rfl, x, rfl, lx, _, rfl, g, rfl, d12.bag, fun z H3 hz d3 => ?_⟩
    have a1 := cut_hi x pl
    have a2 := cut_lo x (pl + 1)
    have t1 := (hx.cut none (some (pl : Int))).app hz
    have t2 := t1.app (hx.cut (some ((pl + 1 : Nat) : Int)) none)
    have z1 := hz.1
    refine ⟨_, _, rfl, rfl, by rw [sizeLine_eq]; omega, _, rfl, _, rfl, _, _, rfl, rfl, _, rfl, x, rfl, lx, _, _, rfl, rfl, by rw [Str.length_append, sizeLine_eq]; have := cutS_length x (some ((pl : Int) + 1)) none; omega, ?_⟩
    refine hq _ _ ⟨?_, t2.2⟩ (d12.trans d3)
    rw [Str.length_append, Str.length_append]
    show _ + _ + (cutS x (some ((pl + 1 : Nat) : Int)) none).length ≤ _
    omega
  refine ⟨_, rfl, rfl, _, rfl, if_dec (fun _ => ?_) (fun _ => ?_)⟩
  · refine ⟨_, rfl, _, rfl, _, rfl, x, rfl, lx, _, rfl, g, rfl, d12.bag, fun z H3 hz d3 => ?_⟩
    have a1 := cut_hi x pl
    have a2 := cut_lo x pl
    have t1 := (hx.cut none (some (pl : Int))).app hz
    have t2 := t1.app (hx.cut (some (pl : Int)) none)
    have z1 := hz.1
    refine ⟨_, _, rfl, rfl, by rw [sizeLine_eq]; omega, _, rfl, _, rfl, _, rfl, x, rfl, lx, _, _, rfl, rfl, by rw [Str.length_append, sizeLine_eq]; omega, ?_⟩
    refine hq _ _ ⟨?_, t2.2⟩ (d12.trans d3)
    rw [Str.length_append, Str.length_append]
    omega
  refine ⟨_, rfl, rfl, _, rfl, if_dec (fun _ => ?_) (fun _ => ?_)⟩
  · have a1 := cut_hi x pl
    have a2 := cut_lo x (pl + 1)
    have t2 := (hx.cut none (some (pl : Int))).app (hx.cut (some ((pl + 1 : Nat) : Int)) none)
    refine ⟨_, rfl, _, rfl, _, rfl, x, rfl, lx, _, rfl, _, rfl, _, _, rfl, rfl, _, rfl, x, rfl, lx, _, _, rfl, rfl, by rw [sizeLine_eq]; have := cutS_length x (some ((pl : Int) + 1)) none; omega, ?_⟩
    refine hq _ _ ⟨?_, t2.2⟩ d12
    rw [Str.length_append]
    show _ + (cutS x (some ((pl + 1 : Nat) : Int)) none).length ≤ _
    omega
  refine ⟨_, rfl, rfl, _, rfl, if_dec (fun _ => ?_) (fun _ => ?_)⟩
  · refine ⟨_, rfl, (by show 7 ≤ sizeLine; decide), fun D hD => ?_⟩
    obtain ⟨l2, hl2, h2⟩ := d12.bag.take
    have h3 := (h2.new (o := .lst (tails.map V.str)) hD).swap
    refine ⟨_, rfl, g, 7, rfl, h3.bag hl2, by decide, by decide, fun i H3 hi d3 => ?_⟩
    obtain ⟨l4, B4, hl4, s4, h4, _⟩ := h3.dr0 d3
    obtain ⟨y, ey, ty⟩ := tails_ok i hi
    have t1 := hx.app ty
    have l1 := ty.1
    refine ⟨D, _, _, _, rfl, rfl, SqL.of h4.r1, atI_nat (by rw [List.getElem?_map, ey]; rfl), _, _, rfl, rfl, by rw [sizeLine_eq]; omega, hq _ _ (t1.mono (by omega)) ((d12.same (up_same hD)).trans d3)⟩
  refine ⟨_, rfl, rfl, _, rfl, if_dec (fun _ => ?_) (fun _ => ?_)⟩
  · refine ⟨⟨_, rfl⟩, _, rfl, g, 9, rfl, d12.bag, by decide, by decide, fun m H3 hm d3 => ?_⟩
    have d13 := d12.trans d3
    obtain ⟨l1, hl1, h1⟩ := d13.bag.take
    refine ⟨_, rfl, by omega, by omega, fun D hD => lc_it (n := (m : Int).toNat) (te := tCallS spChar (fun _ => E0) (tCons (tVar 0) tNil)) walk_range (fun i H' => ∃ (ws : List Str) (B : Hp) (l : List Int), BagOk l ∧ ws.length = i ∧ (∀ z ∈ ws, TxA 1 z) ∧ Same (L2.del H3 g) B ∧ Hs B [(D, .lst (ws.map V.str)), (g, .lst (l.map V.int))] H')
      ⟨[], _, l1, hl1, rfl, fun _ z => (nomatch z), Same.refl _, h1.new hD⟩ (fun _ _ _ _ => trivial) ?_ ?_⟩
    · rintro i v H4 _ hi ⟨ws, B, l, hl, hws, hlt, sB, hh⟩ ⟨rfl, rfl⟩
      refine ⟨rfl, ?_⟩
      simp only [tYes, if_true]
      refine ⟨_, rfl, g, rfl, hh.swap.bag hl, fun z H5 hz d5 => ?_⟩
      obtain ⟨l3, B3, hl3, s3, h3⟩ := hh.dr1 d5
      refine ⟨_, h3.r0, by rw [List.length_map, sizeLine_eq]; omega, ws ++ [z], B3, l3, hl3, by rw [List.length_append, hws]; rfl, fun q hq' => ?_, sB.trans s3, ?_⟩
      · rcases List.mem_append.mp hq' with hq' | hq'
        · exact hlt q hq'
        · rw [List.mem_singleton.mp hq']
          exact hz
      · rw [List.map_append]
        exact h3.w0
    · rintro H4 ⟨ws, B, l, hl, hws, hlt, sB, hh⟩
      have hs := summ_le (m := 1) (ws := ws) fun z hz => (hlt z hz).1
      have tj := TxA.join hlt
      refine ⟨Str.empty, D, ws, rfl, rfl, .inl (SqL.of hh.r0), ?_, hq _ _ (tj.mono (by omega)) ?_⟩
      · show _ + _ * 0 ≤ _
        omega
      · exact d13.trans ⟨l, hl, (hh.drop).isChg sB⟩
  · exact ⟨_, rfl, hq _ _ (hx.mono (by omega)) d12⟩
end
end Sy
/-! isinstance of a caught own error that has fields (own rule) -/
namespace Sy
open PySem PySem.Spec PySem.Calls PySem.W PyProof.Rows L2
section
variable {prog : Program} {w : World} {A : Around} {E : Value → Shared → Prop} {s : Shared} {K : PySem.W.Frag} {x D : Addr} {ox od : Obj}
theorem findX {C : Addr} {name : Str} {a g : Value} (hc : (clsIn K C).isSome = true) (ha : findIn K (.ref C) name = some (some a)) (hg : specialIn K a "__get__" = some (some g)) (ht : takesIn K a = some true) : findObj K C (some od) name = some (.bind g a) := by
  obtain ⟨cd, hc⟩ := Option.isSome_iff_exists.mp hc
  unfold findObj
  rw [hc, Option.bind_some, ha, Option.bind_some]
  simp [hg, ht]
theorem classX {Q : Option Value → Shared → Prop} (C : ExcC K D) (X : K.In s.heap) (I : PySem.W.InstAt s.heap x ox D (some od)) (h : Q (some (.ref D)) { s with toks := s.toks + 1 }) : wpAny (model prog w) A (getAttr? (.ref x) "__class__") Q E s := by
  have hf : findObj K D (some od) "__class__" = some (.bind (.builtin "getset_descriptor.__get__") (.builtin "object.__class__")) := findX (by obtain ⟨cd, hc, _⟩ := any_some C.hd; rw [hc]; rfl) C.ha C.hn C.ht
  obtain ⟨hp, g, d, t, os⟩ := s
  have L0 := I.type (M := model prog w)
  have L1 := looks_findIn (M := model prog w) X C.hg
  have L2 := looks_findIn (M := model prog w) X C.hk
  have L3 := looks_find (M := model prog w) X I hf
  have sub : Looks (model prog w) hp (isInstance (.ref x) (.type "BaseException")) true := L0.andThen (looks_subIn X C.hs)
  have n1 : (false && onTheHeap (Value.builtin "BaseException.__getattribute__")) = false := rfl
  have n2 : (onTheHeap (Value.ref D) && Value.builtin "BaseException.__getattribute__" == Value.builtin "object.__getattribute__") = false := by
    rw [show (Value.builtin "BaseException.__getattribute__" == Value.builtin "object.__getattribute__") = false by decide +kernel]; rfl
  unfold getAttr? getAttrBy? getAttrBy
  refine wpAny_bind (wpAny_mkText (wpAny_bind (wpAny_attempt (wpAny_holding (wpAny_bind (L0.at (wpAny_bind (L1.at ?_))))))))
  show wpAny _ _ (if (onTheHeap (Value.ref D) && Value.builtin "BaseException.__getattribute__" == Value.builtin "object.__getattribute__") = true then _ else _) _ _ _
  rw [n2, if_neg Bool.false_ne_true]
  unfold getAttrByItsOwn hookBefore
  refine wpAny_bind ?_
  rw [if_pos (show onTheHeap (Value.ref D) = true from rfl)]
  refine L2.at ?_
  refine wpAny_bind (wpAny_attempt (wpAny_holding ?_))
  unfold callGetattribute
  rw [n1, if_neg Bool.false_ne_true]
  unfold boundAndCalled
  rw [PySem.F.excAttr_ValueError.ga.bind (.ref x)]
  refine wpAny_bind (wpAny_pure ?_)
  show wpAny _ _ (call (.builtin "BaseException.__getattribute__") [.ref x, .str "__class__" t]) _ _ _
  refine wpAny_call (codeAny_call_builtin PySem.F.excAttr_ValueError.ga.plain PySem.F.entry_bexc_ga ?_)
  refine @check_slot (model prog w) _ _ ⟨hp, g, d, t + 1, os⟩ "BaseException.__getattribute__" "BaseException" "__getattribute__" (.ref x) [.str "__class__" t] [] _ (by decide +kernel) (by decide +kernel) sub (PySem.F.args_bexc_ga (.ref x) (.str "__class__" t)) ?_
  unfold Builtin.«object.__getattribute__»
  refine wpAny_bind (wpAny_of_eq (a := ((Value.ref x : Value), [Value.str "__class__" t])) (by first | rfl | (simp only [slotArgs]; rfl)) ?_)
  refine wpAny_bind (wpAny_pure (wpAny_bind (L0.at (wpAny_bind (L3.at ?_)))))
  show wpAny _ _ (holding [Value.builtin "object.__class__"] (call (.builtin "getset_descriptor.__get__") [.builtin "object.__class__", .ref x, .ref D]) >>= ret) _ _ _
  refine wpAny_bind (wpAny_holding (wpAny_call (class_get (s := ⟨hp, g, d, t + 1, os⟩) (ox := ox) (od := some od) X I C.hm ?_)))
  refine wpAny_pure ?_
  show wpAny _ _ (handedOut (.ref D)) _ _ _
  rw [handedOut_of (v := .ref D) rfl]
  first
    | exact wpAny_pure (wpAny_pure h)
    | exact wpAny_pure h
    | exact wpAny_pure (wpAny_bind (wpAny_pure (wpAny_pure h)))
theorem kitX (C : ExcC K D) : KitX K (.ref x) (.ref D) (fun h => PySem.W.InstAt h x ox D (some od)) where
  ty := fun _ _ _ I => I.type
  it := fun _ _ X _ => by
    obtain ⟨cdD, hcD, _⟩ := any_some C.hd
    unfold clsIn at hcD
    split at hcD
    · rename_i c' d' cd' sl' ho
      intro A' Q' E' s' k q
      unfold isType loadHead
      exact wpAny_bind (wpAny_loadPart (k _ _ (X _ _ ho)) (wpAny_pure q))
    · cases hcD
  ne := fun h tp dd its n sl X htp => by
    obtain ⟨cdD, hcD, _⟩ := any_some C.hd
    refine Bool.eq_false_iff.mpr fun q => ?_
    have e : D = tp := Value.ref.inj (beq_iff_eq.mp q)
    subst e
    unfold clsIn at hcD
    split at hcD
    · rename_i c' d' cd' sl' ho
      have z := (X _ _ ho).symm.trans htp
      cases z
    · cases hcD
  ca := fun X I k => classX C X I k
end
/-- isinstance(e, c): which class e has is told by the reading -/
def rIsX (K : PySem.W.Frag) (a : Addr) (cls : Value) (d : Option Addr) : List V → Hp → VK → Prop := fun xs H Q => ∃ (D dd : Addr) (fs : List (Str × V)) (c : V) (cv : Value) (b : Bool), cls = .ref D ∧ d = some dd ∧ H dd = some (.xd fs) ∧ ExcC K D ∧ xs = [.ref a, c] ∧ (∀ u, RelV c u → u = cv) ∧ PySem.W.kitOne K (.ref D) cv = some b ∧ Q (.bl b) H
theorem call_isX {X : Cx} {a : Addr} {cls : Value} {d : Option Addr} {oe : Obj} {pn : List (Addr × Obj)} (hz : Zc cls d oe) (hf : ∃ vs, oe.data = .fields vs) : CallR (X.suite a ((a, oe) :: pn)) (.builtin "isinstance") (rIsX X.K a cls d) := by
  intro pins s σ H xs us Q I r h
  obtain ⟨D, dd, fs, c, cv, b, rfl, rfl, ea, C, rfl, hcv, e, q⟩ := h
  obtain ⟨u, u2, rfl, rx, rt⟩ : ∃ u u2, us = [u, u2] ∧ RelV (.ref a) u ∧ RelV c u2 := by
    cases r with
    | cons r rr => cases rr with
      | cons r' rr => cases rr; exact ⟨_, _, rfl, r, r'⟩
  cases rx
  have ec := hcv _ rt
  subst ec
  obtain ⟨hget, _⟩ := I.pin (a, oe) (List.mem_append.mpr (.inl List.mem_cons_self))
  obtain ⟨vs, hv⟩ := hf
  have hx : ObjOk X.prog X.w H s.heap dd (.xd fs) := I.hok dd _ ea
  obtain ⟨mA, hns, hr⟩ := hx
  obtain ⟨od, ho, hl⟩ := lookIn_ns hns
  have J : PySem.W.InstAt s.heap a oe D (some od) := ⟨hget, hz.1, by unfold PySem.W.notCls; rw [hv] <;> rfl, by rw [hz.2]; exact ho⟩
  exact PySem.W.kia_one (kitX C) I.kIn J e (fun z => nomatch z) fun tk => ⟨.bl b, H, I.kept (t' := tk) fun _ _ z => z, rfl, q⟩
end Sy
/-! methods and classmethods that may raise, what is raised being wished for at the caller's slots -/
namespace Sy
open PySem PySem.Spec PyProof.Rows L2
section
variable {X : Cx} {CX : CXT} {k : Nat} {C p g f : Addr} {mc : Value} {fd : FuncData} {ps : List Str} {sp : Sp} {E : L2.St → XK} {o e : Expr} {es : List Expr} {m : Str} {pos apos : Pos} {ta : TE} {t : TA} {pl : Sem Bool}
def tCMethW (C : Addr) (sp : Sp) (E : L2.St → XK) (ta : TE) (t : TA) : TE := fun σ H Q => ta σ H fun x H1 => x = .ref C ∧ t σ H1 fun vs H2 => sp (.ref C :: vs) H2 Q (E σ)
theorem run_fnC {pins : List (Addr × Obj)} {σ : L2.St} {H : Hp} {s : Shared} {Q : VK} {us : List Value} {vs : List V} (F : FnOk X.prog X.w X.K X.mg X.base CX k f fd ps sp) (hr : Room k X.A) (hb : Binds X.K fd ps []) (hx : PassesAt CX X σ (E σ))
    (I : Inv X pins σ H s) (r : Vals vs us) (h : sp vs H Q (E σ)) : codeAny (model X.prog X.w) X.A (.call (.ref f) ⟨us, []⟩) (fun r s' => match r with | .ok (.ret v) => EP X pins σ Q v s' | .ok _ => False | .error e => X.xe e s') s := by
  have hl : us.length = ps.length := by rw [← r.length]; exact F.len _ _ _ _ h
  have b := hb s us I.kIn (by rw [List.append_nil]; exact hl)
  rw [List.append_nil] at b
  refine codeAny_mono (F.run X.A X.stack s H ⟨us, []⟩ us vs Q (E σ) hr I.env0 b r h) fun r s' hq => ?_
  cases r with
  | error e => exact hx pins H s e s' I hq
  | ok fl =>
    cases fl with
    | ret u => exact I.after hq
    | next => exact False.elim hq
    | brk => exact False.elim hq
    | cont => exact False.elim hq
theorem pe_cmethW (he : PE X o ta) (r : ClX.CRead X.K C mc) (c : ClX.CMet X.K C mc m p g) (F : FnOk X.prog X.w X.K X.mg X.base CX k g fd ps sp) (hb : Binds X.K fd ps []) (hr : Room k X.A) (hx : ∀ σ, PassesAt CX X σ (E σ)) (ha : PA X (e :: es) t)
    (hst : starEach (e :: es) X.env = (false, eval e X.env) :: starEach es X.env := by rfl) (hpl : (backTo pos (starEach es X.env)).any (·.1) = false := by rfl)
    (ht : eval (.Call (.Attribute o m apos) (e :: es) [] pos) X.env = (do
      let ov ← eval o X.env
      standAt apos.atName
      let (f, first) ← holding [ov] (getMethod ov m pl)
      callWith pos f first (backTo pos (starEach (e :: es) X.env)) (backToKw pos (keywordEach [] X.env))) := by rfl) :
    PE X (.Call (.Attribute o m apos) (e :: es) [] pos) (tCMethW C sp E ta t) := by
  refine ⟨fun pins s σ H Q I h => ?_⟩
  refine PySem.W.methodCall_KW (pl := pl) (thn (he.run pins s σ H _ I h) fun u s1 ⟨x, H1, I1, rx, ex, q⟩ => ?_) ht
  subst ex
  obtain rfl : u = Value.ref C := rx
  refine ClX.getmethcm_ok I1 r c fun s2 I2 => ?_
  refine ClX.callwith_cm I2 (ClX.base_none I1 (Nat.le_refl _)) c.fi (thn (ha.run pos _ s2 σ H1 _ I2 q) fun us s3 ⟨vs, H2, I3, rv, q2⟩ => ⟨⟨ClX.pin_at I3, I3.kIn⟩, ?_⟩) hst hpl
  have z : wpAny (model X.prog X.w) X.A (call (.ref s1.heap.objs.size) us) (EP X ((s1.heap.objs.size, PySem.W.methodObj (.ref g) (.ref C)) :: pins) σ Q) X.xe s3 :=
    wpAny_call (PySem.W.method_call (ClX.pin_at I3) (run_fnC (us := .ref C :: us) (vs := .ref C :: vs) F hr hb (hx σ) I3 (.cons rfl rv) q2))
  exact thn z fun _ _ y => ClX.unpinE y
def tMethW (C : Addr) (m : Str) (sp : Sp) (E : L2.St → XK) (ta : TE) (t : TA) : TE := fun σ H Q => ta σ H fun x H1 => ∃ a dx fs, x = .ref a ∧ H1 a = some (.ins C dx fs) ∧ fs.lookup m = none ∧ t σ H1 fun vs H2 => sp (.ref a :: vs) H2 Q (E σ)
theorem pe_methW (he : PE X o ta) (c : Cls X.K C) (hm : Meth X.K C m f) (F : FnOk X.prog X.w X.K X.mg X.base CX k f fd ps sp) (hr : Room k X.A) (hb : Binds X.K fd ps []) (hx : ∀ σ, PassesAt CX X σ (E σ)) (ha : PA X (e :: es) t)
    (hst : starEach (e :: es) X.env = (false, eval e X.env) :: starEach es X.env := by rfl) (hpl : (backTo pos (starEach es X.env)).any (·.1) = false := by rfl)
    (ht : eval (.Call (.Attribute o m apos) (e :: es) [] pos) X.env = (do
      let ov ← eval o X.env
      standAt apos.atName
      let (f, first) ← holding [ov] (getMethod ov m pl)
      callWith pos f first (backTo pos (starEach (e :: es) X.env)) (backToKw pos (keywordEach [] X.env))) := by rfl) :
    PE X (.Call (.Attribute o m apos) (e :: es) [] pos) (tMethW C m sp E ta t) := by
  refine ⟨fun pins s σ H Q I h => ?_⟩
  refine PySem.W.methodCall_KW (pl := pl) (thn (he.run pins s σ H _ I h) fun u s1 ⟨x, H1, I1, rx, a, dx, fs, ex, ea, l, q⟩ => ?_) ht
  subst ex
  obtain rfl : u = Value.ref a := rx
  refine getmeth_ok I1 ea c hm l ?_
  refine PySem.W.callWith_K (first := [.ref a]) (h₀ := X.base) I.ok.mod.kin hm.kp (thn (ha.run pos pins s1 σ H1 _ I1 q) fun us s2 ⟨vs, H2, I2, r, q2⟩ => ⟨I2.kIn, ?_⟩) hst hpl
  exact run_fnS (us := .ref a :: us) (vs := .ref a :: vs) F hr hb (hx σ) I2 (.cons rfl r) q2
end
theorem pe_fldK (K : PySem.W.Frag) {X : Cx} {e : Expr} {f : Str} {ta : TE} {pos : Pos} (hK : X.K = K) (he : PE X e ta) (hb : attributeBase e f X.env (eval e X.env) = eval e X.env) : PE X (.Attribute e f pos) (tFld K ta f) := by
  subst hK
  exact pe_fld he hb
/-- Bed.read, from outside -/
structure ReadM (P : Program) (w : World) (K : PySem.W.Frag) (mg : Str → Option Value) (base : Heap) : Prop where
  rd : ClX.CRead K (He.ga K "Bed") (.type "type")
  cm : ClX.CMet K (He.ga K "Bed") (.type "type") "read" (He.ma K (He.ga K "Bed") "read") (rdA K)
  at_ : mg "Bed" = some (.ref (He.ga K "Bed"))
  fn : ∃ fd, FnOk P w K mg base (L2.CX P w) 6 (rdA K) fd ["cls", "text"] (spRead K) ∧ Binds K fd ["cls", "text"] []
end Sy
/-! what is met -/
namespace Sy
open PySem PySem.Spec PyProof.Rows L2
section
variable {X : Cx}
/-- l.count(y), all flat -/
def rLCnt (K : PySem.W.Frag) : V → List V → Hp → VK → Prop := fun x xs H Q => ∃ (a : Addr) (ys : List V) (y : V), x = V.ref a ∧ xs = [y] ∧ SqL K H a ys ∧ flatV y = true ∧ ys.all flatV = true ∧ Q (.int (ys.countP fun z => eqV z y : Nat)) H
theorem mt_lcountV : MtR X "list.count" (rLCnt X.K) := by
  intro pins s σ H x xs v us Q I rx rxs h
  obtain ⟨a, ys, y, rfl, rfl, hs, fy, fys, q⟩ := h
  cases rx
  cases rxs with
  | cons ry rt =>
    rename_i uy ut
    cases rt
    obtain ⟨its, rv, ⟨⟨cls, dd, data, sl⟩, n, ho, hc, hdn, hd⟩, hlen⟩ := I.list hs
    simp only at hc hd
    subst hc hd
    refine call_meets PySem.F.slot_list_count ⟨_, ho, rfl⟩ PySem.F.entry_list_count (PySem.F.args_list_count_2 _ _) (SeqAt.list_countAt a its.toArray n dd sl uy (eqU y)) ⟨ho, fun u' hu' => mem_eqAt ry fy rv fys u' (by simpa using hu'), ?_⟩
    have e1 : its.toArray.toList.countP (eqU y) = ys.countP fun z => eqV z y := by
      rw [← countU rv fys]
    rw [e1]
    exact ⟨.int (ys.countP fun z => eqV z y : Nat), H, I.tok _, ⟨_, rfl⟩, q⟩
/-! rules that name the heap's frame themselves -/
theorem pe_cntK (K : PySem.W.Frag) {o e : Expr} {to : TE} {t : TA} {apos cpos : Pos} (hK : X.K = K) (ho : PE X o to) (ha : PA X [e] t)
    (hbase : attributeBase o "count" X.env (eval o X.env) = eval o X.env := by rfl)
    (hfew : ((backTo cpos (starEach [e] X.env)).all (fun x => !x.1) && (backToKw cpos (keywordEach [] X.env)).all (fun x => x.1.isSome)
      && decide ([e].length + ([] : List Keyword).length + (if ([] : List Keyword).isEmpty then 0 else 1) < 30)) = true := by rfl)
    (hline : (apos.endLine == cpos.line) = true := by rfl) (hs : starEach [e] X.env = (false, eval e X.env) :: starEach [] X.env := by rfl) (hplain : (backTo cpos (starEach [] X.env)).any (·.1) = false := by rfl) :
    PE X (.Call (.Attribute o "count" apos) [e] [] cpos) (tBM K "list" (rLCnt K) to t) := by
  subst hK
  exact pe_bm PySem.F.plainAttrs_list PySem.F.slot_list_count PySem.F.type_list_count mt_lcountV ho ha hbase hfew hline hs hplain
theorem call_isXK (K : PySem.W.Frag) {a : Addr} {cls : Value} {d : Option Addr} {oe : Obj} {pn : List (Addr × Obj)} (hK : X.K = K) (hz : Zc cls d oe) (hf : ∃ vs, oe.data = .fields vs) : CallR (X.suite a ((a, oe) :: pn)) (.builtin "isinstance") (rIsX K a cls d) := by
  subst hK
  exact call_isX hz hf
end
def Er.idx : Er → Nat
  | .many _ _ => 0
  | .bed _ => 1
  | .text _ => 2
  | .kind _ => 3
  | .stump _ => 4
theorem Er.six : ∀ e : Er, e.idx < 3 → e.cls = Sy.six e.idx
  | .many _ _, _ => rfl
  | .bed _, _ => rfl
  | .text _, _ => rfl
  | .kind _, h => absurd h (by show ¬ 3 < 3; decide)
  | .stump _, h => absurd h (by show ¬ 4 < 3; decide)
theorem bedG_idx : ∀ {ps : List PRow} {i : Nat} {seen : List Str} {e : Er}, bedG i seen ps = some e → e.idx < 3
  | [], _, _, _, h => by cases h
  | r :: ps, i, seen, e, h => by
    rw [bedG] at h
    split at h
    · cases h
      show 1 < 3
      decide
    · exact bedG_idx h
theorem bedE_idx {ps : List PRow} {e : Er} (h : bedE ps = some e) : e.idx < 3 := by
  unfold bedE at h
  split at h
  · cases h
    show 0 < 3
    decide
  · split at h
    · rename_i q hq
      cases h
      exact bedG_idx hq
    · split at h
      · cases h
      · cases h
        show 1 < 3
        decide
theorem readE_idx {x : Str} {e : Er} (h : readE x = some e) : e.idx < 3 := by
  unfold readE at h
  split at h
  · cases h
    show 2 < 3
    decide
  · exact bedE_idx h
theorem rrE_idx {rows : List Sy.Row} {lv : List Str} {x : Str} {e : Er} (h : rrE rows lv x = some e) : e.idx < 3 ∧ e.idx ≠ 1 := by
  unfold rrE at h
  split at h
  · cases h
    exact ⟨by show 2 < 3; decide, by show 2 ≠ 1; decide⟩
  · split at h
    · cases h
      exact ⟨by show 2 < 3; decide, by show 2 ≠ 1; decide⟩
    · split at h
      · cases h
        exact ⟨by show 0 < 3; decide, by show 0 ≠ 1; decide⟩
      · cases h
/-- what is asked of the classes of the errors -/
structure MetT (K : PySem.W.Frag) (mg : Str → Option Value) : Prop where
  exc : ∀ k, k < 3 → ExcC K (He.ga K (six k))
  kit : ∀ k j, k < 3 → j < 3 → PySem.W.kitOne K (.ref (He.ga K (six k))) (.ref (He.ga K (six j))) = some (decide (k = j))
  val : ∀ k, k < 3 → PySem.W.kitOne K (.ref (He.ga K (six k))) (.type "ValueError") = some true
  exm : ∀ k, k < 3 → PySem.W.exmOne K (.ref (He.ga K (six k))) (.ref (He.ga K "YardError")) = some true
  yard : mg "YardError" = some (.ref (He.ga K "YardError"))
  ve : mg "ValueError" = none
def dTold (d : PyData) : PyData := .tuple [.str "told", d]
theorem cnt3 (k : Nat) (h : k < 3) : ([V.bl (decide (k = 0)), .bl (decide (k = 1)), .bl (decide (k = 2))] : List V).countP (fun z => eqV z (.bl true)) = 1 := by
  match k, h with
  | 0, _ => rfl
  | 1, _ => rfl
  | 2, _ => rfl
theorem RowsD_eq (rows : List Sy.Row) : RowsD rows = PRowsD (rows.map ofR) := by
  unfold RowsD PRowsD
  rw [List.map_map]
  rfl
section
variable {P : Program} {w : World} {K : PySem.W.Frag} {mg : Str → Option Value} {base : Heap}
/-- how an error that is due is told -/
abbrev DueQ (K : PySem.W.Frag) (H : Hp) (Q : VK) (e : Er) : Prop := ∀ H' v, Same H H' → Im K H' v e.dat → Q v H'
def spBedMet (K : PySem.W.Frag) : Sp := fun vs H Q _ => ∃ (q : Addr) (x : Str) (bt : Bool) (ps : List PRow), vs = [.ref q, .str x, .bl bt] ∧ PL K H q ps ∧ ps.length ≤ 9 ∧ (∀ r ∈ ps, r.1.length ≤ 1000000) ∧ x.length ≤ 10000 ∧ SgX x ∧
  (bt = true → (∀ ps', piecesR (Txt.split x " ") = some ps' → bedE ps' = none → ∀ H' v, Same H H' → Im K H' v (dTold (PRowsD ps')) → Q v H') ∧ ∀ e, readE x = some e → DueQ K H Q e) ∧
  (bt = false → (bedE ps = none → ∀ H' v, Same H H' → Im K H' v (dTold (PRowsD ps)) → Q v H') ∧ ∀ e, bedE ps = some e → DueQ K H Q e)
abbrev N_bmet : List Str := ["_law_pairs", "_law_text", "_law_by_text", "e", "_law_alone"]
theorem sc_bmet : FnScope N_bmet ["_law_pairs", "_law_text", "_law_by_text"] (defScope (top 47)) := ⟨rfl, rfl, rfl, by decide +kernel, rfl, by decide +kernel, by decide +kernel⟩
theorem k_bmet (T : Txt K mg) (R : Ers P K mg) (M : MetT K mg) (RD : ReadM P w K mg base) (F : DF K mg "_law_bed_met" 47) (c_law_made : Cal P w K mg base 5 "_law_made" ["_law_pairs"] (spMade K)) : Cal P w K mg base 7 "_law_bed_met" ["_law_pairs", "_law_text", "_law_by_text"] (spBedMet K) := by
  refine cal_of F.1 F.2 sc_bmet (fun _ _ _ _ _ _ us e => match us, e with | [_, _, _], _ => rfl) (fun vs H Q E s => by obtain ⟨_, _, _, _, rfl, _⟩ := s; rfl) ?_
  intro cdv A outer s H vs Q E hr h
  obtain ⟨q, x, bt, ps, rfl, hPL, hps, hnl, hx, hsg, hT, hF⟩ := h
  have sc := sc_bmet
  obtain ⟨rfd, FR, BR⟩ := RD.fn
  refine ⟨_, pss_one (ps_try_fst (i := 3) rfl rfl sc.nd rfl rfl ⟨rfl, by decide, .inl M.yard⟩
    (fun W pn xe tk _ => pss_cons (ps_if (pt_val (pv 2))
          (pss_one (ps_ret (pe_tup (pa_cons pe_str (pa_cons (pe_fldK K rfl (pe_cmethW (pe_glob (v := .ref (He.ga K "Bed")) (by rfl) RD.at_ (by rfl)) RD.rd RD.cm FR BR hr (fun σ => passAt tk σ) (pa_cons (pv 1) pa_nil)) rfl) pa_nil)))))
          pss_nil)
        (pss_one (ps_ret (pe_tup (pa_cons pe_str (pa_cons (pe_fldK K rfl (pe_calX c_law_made hr tk (pa_cons (pv 0) pa_nil)) rfl) pa_nil))))))
    (fun ea oe cls d pn hz hf => pss_cons (ps_set (i := 4) sc.nd rfl (Or.inl rfl) (pe_lst (pa_cons (pe_callB (call_isXK K rfl hz hf) (by rfl) T.isinstance (by decide +kernel) (pa_cons (pv 3) (pa_cons (pe_glob (v := .ref (He.ga K "TooMany")) rfl R.tm.at_ rfl) pa_nil)))
          (pa_cons (pe_callB (call_isXK K rfl hz hf) (by rfl) T.isinstance (by decide +kernel) (pa_cons (pv 3) (pa_cons (pe_glob (v := .ref (He.ga K "InvalidBed")) rfl R.ib.at_ rfl) pa_nil)))
          (pa_cons (pe_callB (call_isXK K rfl hz hf) (by rfl) T.isinstance (by decide +kernel) (pa_cons (pv 3) (pa_cons (pe_glob (v := .ref (He.ga K "InvalidText")) rfl R.it.at_ rfl) pa_nil))) pa_nil)))))
      (pss_cons (ps_if (PW.pt (pw_or (pt_not (pt_val (pe_callB (call_isXK K rfl hz hf) (by rfl) T.isinstance (by decide +kernel) (pa_cons (pv 3) (pa_cons (pe_bltn (v := .ty "ValueError") (by rfl) M.ve (by decide +kernel) rfl) pa_nil))))) (pw_or1 (pt_cmpR op_ne (pe_cntK K rfl (pv 4) (pa_cons pe_bl pa_nil)) pe_int (nomark _)))))
          (pss_one ps_never)
          pss_nil)
      (pss_cons (ps_if (pt_val (pe_ixK K rfl (pv 4) pe_int (fun _ _ => rfl)))
          (pss_one (ps_ret (pe_tup (pa_cons pe_str (pa_cons (pe_xf R.tm.xf (R.tm.no _ (by decide)) hz hf (pv 3)) (pa_cons (pe_xf R.tm.xf (R.tm.no _ (by decide)) hz hf (pv 3)) pa_nil))))))
          pss_nil)
      (pss_cons (ps_if (pt_val (pe_ixK K rfl (pv 4) pe_int (fun _ _ => rfl)))
          (pss_one (ps_ret (pe_tup (pa_cons pe_str (pa_cons (pe_xf R.ib.xf (R.ib.no _ (by decide)) hz hf (pv 3)) pa_nil)))))
          pss_nil)
      (pss_one (ps_ret (pe_tup (pa_cons pe_str (pa_cons (pe_xf R.it.xf (R.it.no _ (by decide)) hz hf (pv 3)) pa_nil)))))))))), ?_⟩
  have told : ∀ (rows : List Sy.Row) (ps' : List PRow) (H1 : Hp) (a : Addr), ps' = rows.map ofR → Same H H1 → BedAt K H1 a rows → (∀ H' v, Same H H' → Im K H' v (dTold (PRowsD ps')) → Q v H') → ∃ dx dA tR tK dR, H1 a = some (.ins (He.ga K "Bed") dx (bedF dA tR tK dR)) ∧ (2 ≤ sizeLine ∧ ∀ t, H1 t = none → Q (.ref t) (upd H1 t (.tup [.str "told", .ref tR]))) := by
    intro rows ps' H1 a eps s1 hb hq
    obtain ⟨dx, dA, tR, tK, dR, as, h1, hd, h3, h4, h5, h6⟩ := hb.ex
    refine ⟨dx, dA, tR, tK, dR, h1, by decide, fun t ht => hq _ _ (s1.trans (up_same ht)) (.tup (SqT.of upd_same) (.cons (.str _) (.cons ?_ .nil)))⟩
    rw [eps, ← RowsD_eq]
    exact (Im.tup h4 (Im.rowsD h6)).mono (Stay.of (up_same ht))
  refine ⟨_, rfl, _, rfl, if_bool (fun c => ?_) (fun c => ?_)⟩
  · obtain ⟨hq1, hq2⟩ := hT c
    refine ⟨rfl, _, rfl, x, rfl, hx, hsg, fun ps' hp he hok hps' H1 a s1 hb => ?_, fun e he => ?_⟩
    · obtain ⟨dx, dA, tR, tK, dR, h1, ho⟩ := told _ ps' H1 a hps' s1 hb (hq1 ps' hp he)
      exact ⟨a, _, dx, _, _, rfl, h1, T.bed.cl, T.bed.nR, rfl, ho⟩
    · have hq := hq2 e he
      have h6 := readE_idx he
      intro d H1 fs s1 ed im
      have hcls := e.six h6
      refine ⟨?_, fun ea hea => ?_⟩
      · rw [hcls]
        exact M.exm _ h6
      have exc : ExcC K (He.ga K e.cls) := by rw [hcls]; exact M.exc _ h6
      have kit : ∀ j, j < 3 → PySem.W.kitOne K (.ref (He.ga K e.cls)) (.ref (He.ga K (Sy.six j))) = some (decide (e.idx = j)) := fun j hj => by rw [hcls]; exact M.kit _ j h6 hj
      have val : PySem.W.kitOne K (.ref (He.ga K e.cls)) (.type "ValueError") = some true := by rw [hcls]; exact M.val _ h6
      refine ⟨_, rfl, _, d, fs, _, _, _, rfl, rfl, ed, exc, rfl, fun _ z => z, kit 0 (by decide), _, rfl, _, d, fs, _, _, _, rfl, rfl, ed, exc, rfl, fun _ z => z, kit 1 (by decide), _, rfl, _, d, fs, _, _, _, rfl, rfl, ed, exc, rfl, fun _ z => z, kit 2 (by decide), (by show 3 ≤ sizeLine; decide), fun L1 hL1 => ?_⟩
      have u1 := up_same (o := .lst [V.bl (decide (e.idx = 0)), .bl (decide (e.idx = 1)), .bl (decide (e.idx = 2))]) hL1
      have e1 : (upd H1 L1 (.lst [V.bl (decide (e.idx = 0)), .bl (decide (e.idx = 1)), .bl (decide (e.idx = 2))])) L1 = some (.lst [V.bl (decide (e.idx = 0)), .bl (decide (e.idx = 1)), .bl (decide (e.idx = 2))]) := upd_same
      have ed3 := u1 _ _ ed
      have im3 := im.mono u1
      have s3 := s1.trans u1
      refine ⟨_, rfl, _, d, fs, _, _, true, rfl, rfl, ed3, exc, rfl, fun _ z => z, val, _, rfl, iteF ?_⟩
      refine ⟨_, rfl, .inl ⟨rfl, _, SqL.of e1⟩, L1, _, .bl true, rfl, rfl, SqL.of e1, rfl, rfl, ?_⟩
      rw [cnt3 _ h6]
      refine ⟨rfl, _, rfl, iteF ?_⟩
      refine ⟨_, rfl, L1, _, _, _, rfl, rfl, SqL.of e1, atI_nat (j := 0) rfl, _, rfl, if_dec (fun c => ?_) (fun c0 => ?_)⟩
      · cases e with
        | many _ _ =>
          cases im3 with
          | cons i1 r1 =>
            cases r1 with
            | cons i2 r2 =>
              cases r2
              exact ⟨_, rfl, rfl, rfl, d, _, _, rfl, ed3, rfl, _, rfl, rfl, rfl, d, _, _, rfl, ed3, rfl, (by show 3 ≤ sizeLine; decide), fun t hn => hq _ _ (s3.trans (up_same hn)) (.tup (SqT.of upd_same) (.cons (.str _) (.cons (i2.mono (Stay.of (up_same hn))) (.cons (i1.mono (Stay.of (up_same hn))) .nil))))⟩
        | bed _ => exact absurd c (by simp [Er.idx])
        | text _ => exact absurd c (by simp [Er.idx])
        | kind _ => exact absurd c (by simp [Er.idx])
        | stump _ => exact absurd c (by simp [Er.idx])
      refine ⟨_, rfl, L1, _, _, _, rfl, rfl, SqL.of e1, atI_nat (j := 1) rfl, _, rfl, if_dec (fun c => ?_) (fun c1 => ?_)⟩
      · cases e with
        | many _ _ => exact absurd c (by simp [Er.idx])
        | bed _ =>
          cases im3 with
          | cons i1 r1 =>
            cases r1
            exact ⟨_, rfl, rfl, rfl, d, _, _, rfl, ed3, rfl, (by show 2 ≤ sizeLine; decide), fun t hn => hq _ _ (s3.trans (up_same hn)) (.tup (SqT.of upd_same) (.cons (.str _) (.cons (i1.mono (Stay.of (up_same hn))) .nil)))⟩
        | text _ => exact absurd c (by simp [Er.idx])
        | kind _ => exact absurd c (by simp [Er.idx])
        | stump _ => exact absurd c (by simp [Er.idx])
      cases e with
      | many _ _ => exact absurd rfl c0
      | bed _ => exact absurd rfl c1
      | text _ =>
        cases im3 with
        | cons i1 r1 =>
          cases r1
          exact ⟨_, rfl, rfl, rfl, d, _, _, rfl, ed3, rfl, (by show 2 ≤ sizeLine; decide), fun t hn => hq _ _ (s3.trans (up_same hn)) (.tup (SqT.of upd_same) (.cons (.str _) (.cons (i1.mono (Stay.of (up_same hn))) .nil)))⟩
      | kind _ => exact absurd h6 (by show ¬ 3 < 3; decide)
      | stump _ => exact absurd h6 (by show ¬ 4 < 3; decide)
  · obtain ⟨hq1, hq2⟩ := hF c
    refine ⟨_, rfl, q, ps, rfl, hPL, hps, hnl, fun he hok hps' H1 a s1 hb => ?_, fun e he => ?_⟩
    · obtain ⟨dx, dA, tR, tK, dR, h1, ho⟩ := told _ ps H1 a hps' s1 hb (hq1 he)
      exact ⟨a, _, dx, _, _, rfl, h1, T.bed.cl, T.bed.nR, rfl, ho⟩
    · have hq := hq2 e he
      have h6 := bedE_idx he
      intro d H1 fs s1 ed im
      have hcls := e.six h6
      refine ⟨?_, fun ea hea => ?_⟩
      · rw [hcls]
        exact M.exm _ h6
      have exc : ExcC K (He.ga K e.cls) := by rw [hcls]; exact M.exc _ h6
      have kit : ∀ j, j < 3 → PySem.W.kitOne K (.ref (He.ga K e.cls)) (.ref (He.ga K (Sy.six j))) = some (decide (e.idx = j)) := fun j hj => by rw [hcls]; exact M.kit _ j h6 hj
      have val : PySem.W.kitOne K (.ref (He.ga K e.cls)) (.type "ValueError") = some true := by rw [hcls]; exact M.val _ h6
      refine ⟨_, rfl, _, d, fs, _, _, _, rfl, rfl, ed, exc, rfl, fun _ z => z, kit 0 (by decide), _, rfl, _, d, fs, _, _, _, rfl, rfl, ed, exc, rfl, fun _ z => z, kit 1 (by decide), _, rfl, _, d, fs, _, _, _, rfl, rfl, ed, exc, rfl, fun _ z => z, kit 2 (by decide), (by show 3 ≤ sizeLine; decide), fun L1 hL1 => ?_⟩
      have u1 := up_same (o := .lst [V.bl (decide (e.idx = 0)), .bl (decide (e.idx = 1)), .bl (decide (e.idx = 2))]) hL1
      have e1 : (upd H1 L1 (.lst [V.bl (decide (e.idx = 0)), .bl (decide (e.idx = 1)), .bl (decide (e.idx = 2))])) L1 = some (.lst [V.bl (decide (e.idx = 0)), .bl (decide (e.idx = 1)), .bl (decide (e.idx = 2))]) := upd_same
      have ed3 := u1 _ _ ed
      have im3 := im.mono u1
      have s3 := s1.trans u1
      refine ⟨_, rfl, _, d, fs, _, _, true, rfl, rfl, ed3, exc, rfl, fun _ z => z, val, _, rfl, iteF ?_⟩
      refine ⟨_, rfl, .inl ⟨rfl, _, SqL.of e1⟩, L1, _, .bl true, rfl, rfl, SqL.of e1, rfl, rfl, ?_⟩
      rw [cnt3 _ h6]
      refine ⟨rfl, _, rfl, iteF ?_⟩
      refine ⟨_, rfl, L1, _, _, _, rfl, rfl, SqL.of e1, atI_nat (j := 0) rfl, _, rfl, if_dec (fun c => ?_) (fun c0 => ?_)⟩
      · cases e with
        | many _ _ =>
          cases im3 with
          | cons i1 r1 =>
            cases r1 with
            | cons i2 r2 =>
              cases r2
              exact ⟨_, rfl, rfl, rfl, d, _, _, rfl, ed3, rfl, _, rfl, rfl, rfl, d, _, _, rfl, ed3, rfl, (by show 3 ≤ sizeLine; decide), fun t hn => hq _ _ (s3.trans (up_same hn)) (.tup (SqT.of upd_same) (.cons (.str _) (.cons (i2.mono (Stay.of (up_same hn))) (.cons (i1.mono (Stay.of (up_same hn))) .nil))))⟩
        | bed _ => exact absurd c (by simp [Er.idx])
        | text _ => exact absurd c (by simp [Er.idx])
        | kind _ => exact absurd c (by simp [Er.idx])
        | stump _ => exact absurd c (by simp [Er.idx])
      refine ⟨_, rfl, L1, _, _, _, rfl, rfl, SqL.of e1, atI_nat (j := 1) rfl, _, rfl, if_dec (fun c => ?_) (fun c1 => ?_)⟩
      · cases e with
        | many _ _ => exact absurd c (by simp [Er.idx])
        | bed _ =>
          cases im3 with
          | cons i1 r1 =>
            cases r1
            exact ⟨_, rfl, rfl, rfl, d, _, _, rfl, ed3, rfl, (by show 2 ≤ sizeLine; decide), fun t hn => hq _ _ (s3.trans (up_same hn)) (.tup (SqT.of upd_same) (.cons (.str _) (.cons (i1.mono (Stay.of (up_same hn))) .nil)))⟩
        | text _ => exact absurd c (by simp [Er.idx])
        | kind _ => exact absurd c (by simp [Er.idx])
        | stump _ => exact absurd c (by simp [Er.idx])
      cases e with
      | many _ _ => exact absurd rfl c0
      | bed _ => exact absurd rfl c1
      | text _ =>
        cases im3 with
        | cons i1 r1 =>
          cases r1
          exact ⟨_, rfl, rfl, rfl, d, _, _, rfl, ed3, rfl, (by show 2 ≤ sizeLine; decide), fun t hn => hq _ _ (s3.trans (up_same hn)) (.tup (SqT.of upd_same) (.cons (.str _) (.cons (i1.mono (Stay.of (up_same hn))) .nil)))⟩
      | kind _ => exact absurd h6 (by show ¬ 3 < 3; decide)
      | stump _ => exact absurd h6 (by show ¬ 4 < 3; decide)
def spTxtMet (K : PySem.W.Frag) : Sp := fun vs H Q _ => ∃ (a : Addr) (rows : List Sy.Row) (x : Str) (wh : Bool), vs = [.ref a, .str x, .bl wh] ∧ BedAt K H a rows ∧ x.length ≤ 40000 ∧ SgX x ∧ (∀ r ∈ rows, r.1.length ≤ 100) ∧
  (rrE rows (lvs wh) x = none → ∀ H' v, Same H H' → Im K H' v (dTold (DS (rowOf x))) → Q v H') ∧ ∀ e, rrE rows (lvs wh) x = some e → DueQ K H Q e
abbrev N_tmet : List Str := ["_law_bed", "_law_text", "_law_with_holes", "e", "_law_alone"]
theorem sc_tmet : FnScope N_tmet ["_law_bed", "_law_text", "_law_with_holes"] (defScope (top 48)) := ⟨rfl, rfl, rfl, by decide +kernel, rfl, by decide +kernel, by decide +kernel⟩
theorem k_tmet (T : Txt K mg) (R : Ers P K mg) (M : MetT K mg) (F : DF K mg "_law_text_met" 48) (c_read_stump : Cal P w K mg base 5 "read_stump" ["bed", "text"] (spReadX K ["*"])) (c_read_plant : Cal P w K mg base 5 "read_plant" ["bed", "text"] (spReadX K [])) :
    Cal P w K mg base 6 "_law_text_met" ["_law_bed", "_law_text", "_law_with_holes"] (spTxtMet K) := by
  refine cal_of F.1 F.2 sc_tmet (fun _ _ _ _ _ _ us e => match us, e with | [_, _, _], _ => rfl) (fun vs H Q E s => by obtain ⟨_, _, _, _, rfl, _⟩ := s; rfl) ?_
  intro cdv A outer s H vs Q E hr h
  obtain ⟨a, rows, x, wh, rfl, hb, hx, hsg, hnm, hQ, hE⟩ := h
  have sc := sc_tmet
  refine ⟨_, pss_one (ps_try_fst (i := 3) rfl rfl sc.nd rfl rfl ⟨rfl, by decide, .inl M.yard⟩
    (fun W pn xe tk _ => pss_cons (ps_if (pt_val (pv 2))
          (pss_one (ps_ret (pe_tup (pa_cons pe_str (pa_cons (pe_calX c_read_stump hr tk (pa_cons (pv 0) (pa_cons (pv 1) pa_nil))) pa_nil)))))
          pss_nil)
        (pss_one (ps_ret (pe_tup (pa_cons pe_str (pa_cons (pe_calX c_read_plant hr tk (pa_cons (pv 0) (pa_cons (pv 1) pa_nil))) pa_nil))))))
    (fun ea oe cls d pn hz hf => pss_cons (ps_set (i := 4) sc.nd rfl (Or.inl rfl) (pe_lst (pa_cons (pe_callB (call_isXK K rfl hz hf) (by rfl) T.isinstance (by decide +kernel) (pa_cons (pv 3) (pa_cons (pe_glob (v := .ref (He.ga K "TooMany")) rfl R.tm.at_ rfl) pa_nil)))
          (pa_cons (pe_callB (call_isXK K rfl hz hf) (by rfl) T.isinstance (by decide +kernel) (pa_cons (pv 3) (pa_cons (pe_glob (v := .ref (He.ga K "InvalidBed")) rfl R.ib.at_ rfl) pa_nil)))
          (pa_cons (pe_callB (call_isXK K rfl hz hf) (by rfl) T.isinstance (by decide +kernel) (pa_cons (pv 3) (pa_cons (pe_glob (v := .ref (He.ga K "InvalidText")) rfl R.it.at_ rfl) pa_nil))) pa_nil)))))
      (pss_cons (ps_if (PW.pt (pw_or (pt_not (pt_val (pe_callB (call_isXK K rfl hz hf) (by rfl) T.isinstance (by decide +kernel) (pa_cons (pv 3) (pa_cons (pe_bltn (v := .ty "ValueError") (by rfl) M.ve (by decide +kernel) rfl) pa_nil))))) (pw_or (pt_cmpR op_ne (pe_cntK K rfl (pv 4) (pa_cons pe_bl pa_nil)) pe_int (nomark _)) (pw_or1 (pt_val (pe_ixK K rfl (pv 4) pe_int (fun _ _ => rfl)))))))
          (pss_one ps_never)
          pss_nil)
      (pss_cons (ps_if (pt_val (pe_ixK K rfl (pv 4) pe_int (fun _ _ => rfl)))
          (pss_one (ps_ret (pe_tup (pa_cons pe_str (pa_cons (pe_xf R.tm.xf (R.tm.no _ (by decide)) hz hf (pv 3)) (pa_cons (pe_xf R.tm.xf (R.tm.no _ (by decide)) hz hf (pv 3)) pa_nil))))))
          pss_nil)
      (pss_one (ps_ret (pe_tup (pa_cons pe_str (pa_cons (pe_xf R.it.xf (R.it.no _ (by decide)) hz hf (pv 3)) pa_nil))))))))), ?_⟩
  have told : rrE rows (lvs wh) x = none → ∀ (H1 : Hp) (p : Addr), Same H H1 → SqT K H1 p ((rowOf x).map V.str) → (2 ≤ sizeLine ∧ ∀ t, H1 t = none → Q (.ref t) (upd H1 t (.tup [.str "told", .ref p]))) := fun hn H1 p s1 hp =>
    ⟨by decide, fun t ht => hQ hn _ _ (s1.trans (up_same ht)) (.tup (SqT.of upd_same) (.cons (.str _) (.cons (Im.strs (Same.sqt (up_same ht) hp)) .nil)))⟩
  refine ⟨_, rfl, _, rfl, if_bool (fun c => ?_) (fun c => ?_)⟩
  · subst c
    refine ⟨_, rfl, _, rfl, a, rows, x, rfl, hb, hx, hsg, hnm, told, fun e he => ?_⟩
    have hq := hE e he
    obtain ⟨h6, h61⟩ := rrE_idx he
    intro d H1 fs s1 ed im
    have hcls := e.six h6
    refine ⟨?_, fun ea hea => ?_⟩
    · rw [hcls]
      exact M.exm _ h6
    have exc : ExcC K (He.ga K e.cls) := by rw [hcls]; exact M.exc _ h6
    have kit : ∀ j, j < 3 → PySem.W.kitOne K (.ref (He.ga K e.cls)) (.ref (He.ga K (Sy.six j))) = some (decide (e.idx = j)) := fun j hj => by rw [hcls]; exact M.kit _ j h6 hj
    have val : PySem.W.kitOne K (.ref (He.ga K e.cls)) (.type "ValueError") = some true := by rw [hcls]; exact M.val _ h6
    refine ⟨_, rfl, _, d, fs, _, _, _, rfl, rfl, ed, exc, rfl, fun _ z => z, kit 0 (by decide), _, rfl, _, d, fs, _, _, _, rfl, rfl, ed, exc, rfl, fun _ z => z, kit 1 (by decide), _, rfl, _, d, fs, _, _, _, rfl, rfl, ed, exc, rfl, fun _ z => z, kit 2 (by decide), (by show 3 ≤ sizeLine; decide), fun L1 hL1 => ?_⟩
    have u1 := up_same (o := .lst [V.bl (decide (e.idx = 0)), .bl (decide (e.idx = 1)), .bl (decide (e.idx = 2))]) hL1
    have e1 : (upd H1 L1 (.lst [V.bl (decide (e.idx = 0)), .bl (decide (e.idx = 1)), .bl (decide (e.idx = 2))])) L1 = some (.lst [V.bl (decide (e.idx = 0)), .bl (decide (e.idx = 1)), .bl (decide (e.idx = 2))]) := upd_same
    have ed3 := u1 _ _ ed
    have im3 := im.mono u1
    have s3 := s1.trans u1
    refine ⟨_, rfl, _, d, fs, _, _, true, rfl, rfl, ed3, exc, rfl, fun _ z => z, val, _, rfl, iteF ?_⟩
    refine ⟨_, rfl, .inl ⟨rfl, _, SqL.of e1⟩, L1, _, .bl true, rfl, rfl, SqL.of e1, rfl, rfl, ?_⟩
    rw [cnt3 _ h6]
    refine ⟨rfl, _, rfl, iteF ?_⟩
    refine ⟨_, rfl, L1, _, _, _, rfl, rfl, SqL.of e1, atI_nat (j := 1) rfl, _, rfl, if_dec (fun c => absurd c h61) (fun c1 => ?_)⟩
    refine ⟨_, rfl, L1, _, _, _, rfl, rfl, SqL.of e1, atI_nat (j := 0) rfl, _, rfl, if_dec (fun c => ?_) (fun c0 => ?_)⟩
    · cases e with
      | many _ _ =>
        cases im3 with
        | cons i1 r1 =>
          cases r1 with
          | cons i2 r2 =>
            cases r2
            exact ⟨_, rfl, rfl, rfl, d, _, _, rfl, ed3, rfl, _, rfl, rfl, rfl, d, _, _, rfl, ed3, rfl, (by show 3 ≤ sizeLine; decide), fun t hn => hq _ _ (s3.trans (up_same hn)) (.tup (SqT.of upd_same) (.cons (.str _) (.cons (i2.mono (Stay.of (up_same hn))) (.cons (i1.mono (Stay.of (up_same hn))) .nil))))⟩
      | bed _ => exact absurd c (by simp [Er.idx])
      | text _ => exact absurd c (by simp [Er.idx])
      | kind _ => exact absurd c (by simp [Er.idx])
      | stump _ => exact absurd c (by simp [Er.idx])
    cases e with
    | many _ _ => exact absurd rfl c0
    | bed _ => exact absurd rfl c1
    | text _ =>
      cases im3 with
      | cons i1 r1 =>
        cases r1
        exact ⟨_, rfl, rfl, rfl, d, _, _, rfl, ed3, rfl, (by show 2 ≤ sizeLine; decide), fun t hn => hq _ _ (s3.trans (up_same hn)) (.tup (SqT.of upd_same) (.cons (.str _) (.cons (i1.mono (Stay.of (up_same hn))) .nil)))⟩
    | kind _ => exact absurd h6 (by show ¬ 3 < 3; decide)
    | stump _ => exact absurd h6 (by show ¬ 4 < 3; decide)
  · subst c
    refine ⟨_, rfl, _, rfl, a, rows, x, rfl, hb, hx, hsg, hnm, told, fun e he => ?_⟩
    have hq := hE e he
    obtain ⟨h6, h61⟩ := rrE_idx he
    intro d H1 fs s1 ed im
    have hcls := e.six h6
    refine ⟨?_, fun ea hea => ?_⟩
    · rw [hcls]
      exact M.exm _ h6
    have exc : ExcC K (He.ga K e.cls) := by rw [hcls]; exact M.exc _ h6
    have kit : ∀ j, j < 3 → PySem.W.kitOne K (.ref (He.ga K e.cls)) (.ref (He.ga K (Sy.six j))) = some (decide (e.idx = j)) := fun j hj => by rw [hcls]; exact M.kit _ j h6 hj
    have val : PySem.W.kitOne K (.ref (He.ga K e.cls)) (.type "ValueError") = some true := by rw [hcls]; exact M.val _ h6
    refine ⟨_, rfl, _, d, fs, _, _, _, rfl, rfl, ed, exc, rfl, fun _ z => z, kit 0 (by decide), _, rfl, _, d, fs, _, _, _, rfl, rfl, ed, exc, rfl, fun _ z => z, kit 1 (by decide), _, rfl, _, d, fs, _, _, _, rfl, rfl, ed, exc, rfl, fun _ z => z, kit 2 (by decide), (by show 3 ≤ sizeLine; decide), fun L1 hL1 => ?_⟩
    have u1 := up_same (o := .lst [V.bl (decide (e.idx = 0)), .bl (decide (e.idx = 1)), .bl (decide (e.idx = 2))]) hL1
    have e1 : (upd H1 L1 (.lst [V.bl (decide (e.idx = 0)), .bl (decide (e.idx = 1)), .bl (decide (e.idx = 2))])) L1 = some (.lst [V.bl (decide (e.idx = 0)), .bl (decide (e.idx = 1)), .bl (decide (e.idx = 2))]) := upd_same
    have ed3 := u1 _ _ ed
    have im3 := im.mono u1
    have s3 := s1.trans u1
    refine ⟨_, rfl, _, d, fs, _, _, true, rfl, rfl, ed3, exc, rfl, fun _ z => z, val, _, rfl, iteF ?_⟩
    refine ⟨_, rfl, .inl ⟨rfl, _, SqL.of e1⟩, L1, _, .bl true, rfl, rfl, SqL.of e1, rfl, rfl, ?_⟩
    rw [cnt3 _ h6]
    refine ⟨rfl, _, rfl, iteF ?_⟩
    refine ⟨_, rfl, L1, _, _, _, rfl, rfl, SqL.of e1, atI_nat (j := 1) rfl, _, rfl, if_dec (fun c => absurd c h61) (fun c1 => ?_)⟩
    refine ⟨_, rfl, L1, _, _, _, rfl, rfl, SqL.of e1, atI_nat (j := 0) rfl, _, rfl, if_dec (fun c => ?_) (fun c0 => ?_)⟩
    · cases e with
      | many _ _ =>
        cases im3 with
        | cons i1 r1 =>
          cases r1 with
          | cons i2 r2 =>
            cases r2
            exact ⟨_, rfl, rfl, rfl, d, _, _, rfl, ed3, rfl, _, rfl, rfl, rfl, d, _, _, rfl, ed3, rfl, (by show 3 ≤ sizeLine; decide), fun t hn => hq _ _ (s3.trans (up_same hn)) (.tup (SqT.of upd_same) (.cons (.str _) (.cons (i2.mono (Stay.of (up_same hn))) (.cons (i1.mono (Stay.of (up_same hn))) .nil))))⟩
      | bed _ => exact absurd c (by simp [Er.idx])
      | text _ => exact absurd c (by simp [Er.idx])
      | kind _ => exact absurd c (by simp [Er.idx])
      | stump _ => exact absurd c (by simp [Er.idx])
    cases e with
    | many _ _ => exact absurd rfl c0
    | bed _ => exact absurd rfl c1
    | text _ =>
      cases im3 with
      | cons i1 r1 =>
        cases r1
        exact ⟨_, rfl, rfl, rfl, d, _, _, rfl, ed3, rfl, (by show 2 ≤ sizeLine; decide), fun t hn => hq _ _ (s3.trans (up_same hn)) (.tup (SqT.of upd_same) (.cons (.str _) (.cons (i1.mono (Stay.of (up_same hn))) .nil)))⟩
    | kind _ => exact absurd h6 (by show ¬ 3 < 3; decide)
    | stump _ => exact absurd h6 (by show ¬ 4 < 3; decide)
end
end Sy
/-! _law_unknown -/
namespace Sy
open PySem PySem.Spec PyProof.Rows L2
theorem rk_isK : ∀ {rows : List Sy.Row} {n : Nat} {x : Str}, isK rows x = false → rk n rows x = none
  | [], _, _, _ => rfl
  | r :: rs, n, x, h => by
    unfold isK at h
    rw [lookup_cons] at h
    rw [rk]
    by_cases c : r.1 = x
    · rw [if_pos c] at h
      cases h
    · rw [if_neg c] at h ⊢
      exact rk_isK h
theorem rk_at : ∀ {rows : List Sy.Row} {n i : Nat} {r : Sy.Row}, (rows.map (·.1)).Nodup → rows[i]? = some r → rk n rows r.1 = some (n + i)
  | q :: rs, n, 0, r, _, h => by
    simp only [List.getElem?_cons_zero, Option.some.injEq] at h
    subst h
    rw [rk, if_pos rfl]
    rfl
  | q :: rs, n, i + 1, r, nd, h => by
    simp only [List.getElem?_cons_succ] at h
    rw [List.map_cons, List.nodup_cons] at nd
    rw [rk, if_neg, rk_at (n := n + 1) (i := i) nd.2 h, show n + 1 + i = n + (i + 1) by omega]
    exact fun z => nd.1 (by rw [z]; exact List.mem_map_of_mem (List.mem_of_getElem? h))
theorem fit_strs {n : Nat} {l : List Str} (h : l.length ≤ 1000000) : Fit (n + 1) (DS l) := by
  refine ⟨by rw [List.length_map]; exact h, fun d hd => ?_⟩
  obtain ⟨x, _, rfl⟩ := List.mem_map.mp hd
  cases n <;> trivial
section
variable {P : Program} {w : World} {K : PySem.W.Frag} {mg : Str → Option Value} {base : Heap}
def spUnk (K : PySem.W.Frag) : Sp := fun vs H Q _ => ∃ (a : Addr) (rows : List Sy.Row) (x : Str), vs = [.ref a, .str x] ∧ BedAt K H a rows ∧ WdB x ∧ isK rows x = false ∧ ∀ H', Same H H' → Q (.bl true) H'
abbrev N_unk : List Str := ["_law_bed", "_law_word_here", "_law_first", "_law_second", "e", "f"]
theorem sc_unk : FnScope N_unk ["_law_bed", "_law_word_here"] (defScope (top 49)) := ⟨rfl, rfl, rfl, by decide +kernel, rfl, by decide +kernel, by decide +kernel⟩
theorem k_unk (T : Txt K mg) (R : Ers P K mg) (F : DF K mg "_law_unknown" 49) (c_branches : CalM P w K mg base 3 "branches" ["self", "kind"] (spBranches K)) (c_rank : CalM P w K mg base 3 "rank" ["self", "kind"] (spRank K))
    (c_law_same : ∀ n : Nat, Cal P w K mg base (n + 1) "_law_same" ["_law_told", "_law_due"] (spSame K n)) : Cal P w K mg base 4 "_law_unknown" ["_law_bed", "_law_word_here"] (spUnk K) := by
  refine cal_of F.1 F.2 sc_unk (fun _ _ _ _ _ _ us e => match us, e with | [_, _], _ => rfl) (fun vs H Q E s => by obtain ⟨_, _, _, rfl, _⟩ := s; rfl) ?_
  intro cdv A outer s H vs Q E hr h
  obtain ⟨a, rows, x, rfl, hb, hx, hk, hq⟩ := h
  have sc := sc_unk
  have c_law_same := c_law_same 2
  obtain ⟨mB, fB, FB, BB⟩ := c_branches
  obtain ⟨mR, fR, FR, BR⟩ := c_rank
  have hrk := rk_isK (n := 0) hk
  refine ⟨_, (pss_cons (ps_set (i := 2) sc.nd rfl (Or.inl rfl) pe_str)
      (pss_cons (ps_set (i := 3) sc.nd rfl (Or.inl rfl) pe_str)
      (pss_cons (ps_try_fst (i := 4) rfl rfl sc.nd rfl rfl ⟨rfl, by decide, .inl R.uk.at_⟩
        (fun W pn xe tk _ => pss_one (ps_expr (pe_methW (pv 0) T.bed.cl mB FB (hr.mono (by decide)) BB (fun σ => passAt tk σ) (pa_cons (pv 1) pa_nil))))
        (fun ea oe cls d pn hz hf => pss_one (ps_set (i := 2) sc.nd rfl (Or.inl rfl) (pe_xf R.uk.xf (R.uk.no _ (by decide)) hz hf (pv 4)))))
      (pss_cons (ps_try_fst (i := 5) rfl rfl sc.nd rfl rfl ⟨rfl, by decide, .inl R.uk.at_⟩
        (fun W pn xe tk _ => pss_one (ps_expr (pe_methW (pv 0) T.bed.cl mR FR (hr.mono (by decide)) BR (fun σ => passAt tk σ) (pa_cons (pv 1) pa_nil))))
        (fun ea oe cls d pn hz hf => pss_one (ps_set (i := 3) sc.nd rfl (Or.inl rfl) (pe_xf R.uk.xf (R.uk.no _ (by decide)) hz hf (pv 5)))))
      (pss_one (ps_ret (pe_cal c_law_same hr (pa_cons (pe_tup (pa_cons (pv 2) (pa_cons (pv 3) (pa_cons pe_str pa_nil)))) (pa_cons (pe_tup (pa_cons (pv 1) (pa_cons (pv 1) (pa_cons pe_str pa_nil)))) pa_nil))))))))), ?_⟩
  obtain ⟨dx, dA, tR, tK, dR, as, h1, hd, h3, h4, h5, h6⟩ := id hb.ex
  refine ⟨_, rfl, a, dx, _, rfl, h1, rfl, _, rfl, a, rows, x, rfl, hb, hx, fun z => (by rw [hk] at z; cases z), fun _ d H1 fs s1 ed im => ?_⟩
  refine ⟨R.uk.ex, fun ea hea => ?_⟩
  cases im with
  | cons i1 r1 =>
    cases r1
    rw [i1.strI] at ed
    refine ⟨_, rfl, rfl, rfl, d, _, _, rfl, ed, rfl, ?_⟩
    have hb1 := hb.mono (Stay.of s1)
    refine ⟨_, rfl, a, dx, _, rfl, s1 _ _ h1, rfl, _, rfl, a, rows, x, rfl, hb1, hx, fun n z => (by rw [hrk] at z; cases z), fun _ d2 H2 fs2 s2 ed2 im2 => ?_⟩
    refine ⟨R.uk.ex, fun ea2 hea2 => ?_⟩
    cases im2 with
    | cons i2 r2 =>
      cases r2
      rw [i2.strI] at ed2
      refine ⟨_, rfl, rfl, rfl, d2, _, _, rfl, ed2, rfl, ?_⟩
      have s12 := s1.trans s2
      refine ⟨_, rfl, _, rfl, (by show 3 ≤ sizeLine; decide), fun t1 ht1 => ?_⟩
      have u1 := up_same (o := .tup [.str x, .str x, .str "x"]) ht1
      refine ⟨_, rfl, _, rfl, (by show 3 ≤ sizeLine; decide), fun t2 ht2 => ?_⟩
      have u2 := up_same (o := .tup [.str x, .str x, .str "x"]) ht2
      exact ⟨_, _, DS [x, x, "x"], DS [x, x, "x"], rfl, Im.strs (l := [x, x, "x"]) (Same.sqt u2 (SqT.of upd_same)), Im.strs (l := [x, x, "x"]) (SqT.of upd_same), fit_strs (by show 3 ≤ 1000000; decide), .inl ⟨rfl, hq _ ((s12.trans u1).trans u2)⟩⟩
end
end Sy
/-! bent pairs, other rows -/
namespace Sy
open PySem PySem.Spec PyProof.Rows L2
/-- a statement, cut off from what follows: what holds behind it is told first -/
theorem ps_cut {X : Cx} {st : Stmt} {t : TS} (h : PS X st t) : PS X st (fun D σ H => ∃ J : L2.St → Hp → Prop, t { D with nx := J } σ H ∧ ∀ σ' H', J σ' H' → D.nx σ' H') := by
  refine ⟨fun pins s σ H D I hq => ?_⟩
  obtain ⟨J, h1, h2⟩ := hq
  refine wpAny_mono (h.run pins s σ H _ I h1) (fun f s' q => ?_) (fun _ _ q => q)
  cases f with
  | next =>
    obtain ⟨σ', H', I', q⟩ := q
    exact ⟨σ', H', I', h2 _ _ q⟩
  | brk => exact q
  | cont => exact q
  | ret v => exact q
theorem up_one (c : Nat) (h : Lt c) : Unicode.upperOf c = [c - 32] := by
  have q : ∀ i : Fin 26, Unicode.upperOf (97 + i.val) = [97 + i.val - 32] := by decide +kernel
  obtain ⟨h1, h2⟩ := h
  have := q ⟨c - 97, by omega⟩
  rw [show 97 + (c - 97) = c by omega] at this
  exact this
theorem mapIdx_up (L : List Nat) (h : ∀ c ∈ L, Lt c) : (L.mapIdx fun _ c => (Unicode.upperOf c).toArray) = L.map fun c => #[c - 32] := by
  refine List.ext_getElem? fun i => ?_
  rw [List.getElem?_mapIdx, List.getElem?_map]
  cases e : L[i]? with
  | none => rfl
  | some c =>
    show some (Unicode.upperOf c).toArray = some #[c - 32]
    rw [up_one c (h c (List.mem_of_getElem? e))]
theorem upper_tl {x : Str} (h : ∀ c ∈ x.cps.toList, Lt c) : TL.tl (Txt.upper x) = x.cps.toList.map (· - 32) := by
  show (placed x fun _ c => Unicode.upperOf c).toList = _
  unfold placed
  rw [Array.toList_flatten, Array.toList_mapIdx, mapIdx_up _ h, List.map_map]
  show (List.map (fun c => [c - 32]) x.cps.toList).flatten = _
  clear h
  induction x.cps.toList with
  | nil => rfl
  | cons c l ih => rw [List.map_cons, List.flatten_cons, ih]; rfl
theorem Wd.tx {x : Str} (h : Wd x) : TxA 8 x := ⟨by rw [len_tl]; exact h.2.1, fun c hc => by have := (h.2.2 c hc).2; omega⟩
theorem Wd.up {x : Str} (h : Wd x) : TxA 8 (Txt.upper x) := by
  have e := upper_tl h.2.2
  refine ⟨?_, fun c hc => ?_⟩
  · rw [TL.len_tl, e, List.length_map]
    exact h.2.1
  · have hc : c ∈ TL.tl (Txt.upper x) := hc
    rw [e] at hc
    obtain ⟨d, hd, rfl⟩ := List.mem_map.mp hc
    have := (h.2.2 d hd).2
    omega
theorem tx_lit {x : Str} {n : Nat} (h : (decide (x.length ≤ n) && x.cps.toList.all (· < 128)) = true) : TxA n x := by
  obtain ⟨a, b⟩ := Bool.and_eq_true_iff.mp h
  exact ⟨of_decide_eq_true a, fun c hc => of_decide_eq_true (List.all_eq_true.mp b c hc)⟩
/-- pairs as the law bends them -/
structure PrOk (ps : List PRow) : Prop where
  len : ps.length ≤ 9
  tx : ∀ r ∈ ps, TxA 20 r.1
  lo : ∀ r ∈ ps, -1 ≤ r.2
  hi : ∀ r ∈ ps, r.2 ≤ 1000000000
theorem PrOk.sub {ps qs : List PRow} (h : PrOk ps) (hs : ∀ r ∈ qs, r ∈ ps) (hl : qs.length ≤ 9) : PrOk qs := ⟨hl, fun r hr => h.tx r (hs r hr), fun r hr => h.lo r (hs r hr), fun r hr => h.hi r (hs r hr)⟩
theorem PrOk.set {ps : List PRow} (h : PrOk ps) {i : Nat} {r : PRow} (h1 : TxA 20 r.1) (h2 : -1 ≤ r.2) (h3 : r.2 ≤ 1000000000) : PrOk (ps.set i r) := by
  refine ⟨by rw [List.length_set]; exact h.len, fun q hq => ?_, fun q hq => ?_, fun q hq => ?_⟩
  · rcases List.mem_or_eq_of_mem_set hq with hq | rfl
    · exact h.tx q hq
    · exact h1
  · rcases List.mem_or_eq_of_mem_set hq with hq | rfl
    · exact h.lo q hq
    · exact h2
  · rcases List.mem_or_eq_of_mem_set hq with hq | rfl
    · exact h.hi q hq
    · exact h3
theorem paired_set {α β : Type} {R : α → β → Prop} : ∀ {xs : List α} {ys : List β} {i : Nat} {x : α} {y : β}, Paired R xs ys → R x y → Paired R (xs.set i x) (ys.set i y)
  | _, _, _, _, _, .nil, _ => .nil
  | _, _, 0, _, _, .cons _ t, h => .cons h t
  | _, _, i + 1, _, _, .cons a t, h => .cons a (paired_set t h)
theorem paired_take {α β : Type} {R : α → β → Prop} : ∀ {xs : List α} {ys : List β} (n : Nat), Paired R xs ys → Paired R (xs.take n) (ys.take n)
  | _, _, 0, _ => .nil
  | _, _, n + 1, .nil => .nil
  | _, _, n + 1, .cons a t => .cons a (paired_take n t)
theorem paired_rev {α β : Type} {R : α → β → Prop} : ∀ {xs : List α} {ys : List β}, Paired R xs ys → Paired R xs.reverse ys.reverse
  | _, _, .nil => .nil
  | _, _, .cons a t => by
    rw [List.reverse_cons, List.reverse_cons]
    exact paired_app (paired_rev t) (.cons a .nil)
theorem paired_rep {α β : Type} {R : α → β → Prop} {xs : List α} {ys : List β} (h : Paired R xs ys) : ∀ n : Nat, Paired R (List.replicate n xs).flatten (List.replicate n ys).flatten
  | 0 => .nil
  | n + 1 => by
    rw [List.replicate_succ, List.replicate_succ, List.flatten_cons, List.flatten_cons]
    exact paired_app h (paired_rep h n)
theorem cut_takeA {xs : List V} {i : Nat} : cutV xs none (some (i : Int)) = xs.take i := by
  by_cases h : i ≤ xs.length
  · exact cut_take h
  · unfold cutV HT.sIx
    simp only [List.drop_zero, Nat.sub_zero]
    rw [if_neg (by omega), show min (i : Int).toNat xs.length = xs.length by omega, List.take_length, List.take_of_length_le (by omega)]
theorem Hs.drop1 {B H : Hp} {x y : Addr × HO} {L : List (Addr × HO)} (h : Hs B (x :: y :: L) H) : Hs B (x :: L) H := h.swap.drop
def halfR (r : Sy.Row) : PRow := (r.1, 1 + (r.2 : Nat) / 2)
theorem rows_prok {rows : List Sy.Row} (ok : RowsOk rows) : PrOk (rows.map ofR) := by
  refine ⟨by rw [List.length_map]; have := ok.le; omega, fun r hr => ?_, fun r hr => ?_, fun r hr => ?_⟩
  · obtain ⟨q, hq, rfl⟩ := List.mem_map.mp hr
    exact ((nameOk_iff _).mp (ok.nm q hq)).tx.mono (by decide)
  · obtain ⟨q, hq, rfl⟩ := List.mem_map.mp hr
    show (-1 : Int) ≤ (q.2 : Nat)
    omega
  · obtain ⟨q, hq, rfl⟩ := List.mem_map.mp hr
    have := ok.br q hq
    show ((q.2 : Nat) : Int) ≤ _
    omega
section
variable {P : Program} {w : World} {K : PySem.W.Frag} {mg : Str → Option Value} {base : Heap}
def spBentP (K : PySem.W.Frag) : Sp := fun vs H Q _ => ∃ (g q : Addr) (rows : List Sy.Row), vs = [.ref g, .ref q] ∧ Bag g H ∧ q ≠ g ∧ RL K H q rows ∧ RowsOk rows ∧ 0 < rows.length ∧
  ∀ q2 ps H', PrOk ps → Dr g H H' → PL K H' q2 ps → q2 ≠ g → Q (.ref q2) H'
abbrev N_bentP : List Str := ["_law_bag_here", "_law_rows_here", "_law_way", "_law_place", "_law_place2", "_law_word_here", "_law_odd", "_law_pairs", "_law_row"]
theorem sc_bentP : FnScope N_bentP ["_law_bag_here", "_law_rows_here"] (defScope (top 40)) := ⟨rfl, rfl, rfl, by decide +kernel, rfl, by decide +kernel, by decide +kernel⟩
def four : List Int := [0 - 1, 4, 5, 10 ^ (9 : Int).toNat]
theorem four_ok : ∀ i, i < 4 → ∃ z, four[i]? = some z ∧ -1 ≤ z ∧ z ≤ 1000000000 := by
  intro i hi
  match i, hi with
  | 0, _ => exact ⟨0 - 1, rfl, by decide, by decide⟩
  | 1, _ => exact ⟨4, rfl, by decide, by decide⟩
  | 2, _ => exact ⟨5, rfl, by decide, by decide⟩
  | 3, _ => exact ⟨10 ^ (9 : Int).toNat, rfl, by decide, by decide⟩
theorem k_bentP (T : Txt K mg) (F : DF K mg "_law_bent_pairs" 40) (c_law_draw : Cal P w K mg base 1 "_law_draw" ["_law_bag_here", "_law_size"] spDraw) : Cal P w K mg base 2 "_law_bent_pairs" ["_law_bag_here", "_law_rows_here"] (spBentP K) := by
  refine cal_of F.1 F.2 sc_bentP (fun _ _ _ _ _ _ us e => match us, e with | [_, _], _ => rfl) (fun vs H Q E s => by obtain ⟨_, _, _, rfl, _⟩ := s; rfl) ?_
  intro cdv A outer s H vs Q E hr h
  obtain ⟨g, q, rows, rfl, hg, hqg, hRL, ok, hpos, hq⟩ := h
  have sc := sc_bentP
  refine ⟨_, (pss_cons (ps_set (i := 2) sc.nd rfl (Or.inl rfl) (pe_cal c_law_draw hr (pa_cons (pv 0) (pa_cons pe_int pa_nil))))
      (pss_cons (ps_set (i := 3) sc.nd rfl (Or.inl rfl) (pe_cal c_law_draw hr (pa_cons (pv 0) (pa_cons (pe_callB call_len_seq (by rfl) T.len (by decide +kernel) (pa_cons (pv 1) pa_nil)) pa_nil))))
      (pss_cons (ps_set (i := 4) sc.nd rfl (Or.inl rfl) (pe_cal c_law_draw hr (pa_cons (pv 0) (pa_cons (pe_callB call_len_seq (by rfl) T.len (by decide +kernel) (pa_cons (pv 1) pa_nil)) pa_nil))))
      (pss_cons (ps_set (i := 5) sc.nd rfl (Or.inl rfl) (pe_ix ix_tup (pe_ix ix_list (pv 1) (pv 3) (fun _ _ => rfl)) pe_int (fun _ _ => rfl)))
      (pss_cons (ps_set (i := 6) sc.nd rfl (Or.inl rfl) (pe_lst (pa_cons (pe_upper (pv 5)) (pa_cons (pe_op op_add_str (pv 5) pe_str) (pa_cons pe_str (pa_cons (pe_op op_add_str pe_str (pv 5)) (pa_cons (pe_op op_add_str (pe_op op_add_str (pe_slice sl_str (pv 5) po_none (po_some pe_int)) pe_str) (pe_slice sl_str (pv 5) (po_some pe_int) po_none)) (pa_cons pe_str (pa_cons (pe_op op_add_str (pv 5) pe_str) (pa_cons pe_str (pa_cons (pe_slice sl_str (pe_op op_mulS (pv 5) pe_int) po_none (po_some pe_int)) pa_nil)))))))))))
      (pss_cons (ps_set (i := 7) sc.nd rfl (Or.inl rfl) (pe_callTy call_list_of (by rfl) T.list (by decide +kernel) (pa_cons (pv 1) pa_nil)))
      (pss_cons (ps_cut (ps_if (PW.pt (pw_or (pt_cmpR op_eq (pv 2) pe_int (nomark _)) (pw_or1 (pt_cmpR op_eq (pv 2) pe_int (nomark _)))))
        (pss_one (ps_asg (pe_tup (pa_cons (pe_ix ix_list (pv 6) (pe_cal c_law_draw hr (pa_cons (pv 0) (pa_cons pe_int pa_nil))) (fun _ _ => rfl)) (pa_cons (pe_ix ix_tup (pe_ix ix_list (pv 1) (pv 3) (fun _ _ => rfl)) pe_int (fun _ _ => rfl)) pa_nil))) (pg_sub (pv 7) (pv 3) set_list)))
        pss_nil))
      (pss_cons (ps_cut (ps_if (PW.pt (pw_or (pt_cmpR op_eq (pv 2) pe_int (nomark _)) (pw_or1 (pt_cmpR op_eq (pv 2) pe_int (nomark _)))))
        (pss_one (ps_asg (pe_tup (pa_cons (pe_ix ix_tup (pe_ix ix_list (pv 1) (pv 4) (fun _ _ => rfl)) pe_int (fun _ _ => rfl)) (pa_cons (pe_ix ix_list (pe_lst (pa_cons (pe_op op_sub pe_int pe_int) (pa_cons pe_int (pa_cons pe_int (pa_cons (pe_op op_pow pe_int pe_int) pa_nil))))) (pe_cal c_law_draw hr (pa_cons (pv 0) (pa_cons pe_int pa_nil))) (fun _ _ => rfl)) pa_nil))) (pg_sub (pv 7) (pv 4) set_list)))
        pss_nil))
      (pss_cons (ps_cut (ps_if (pt_cmpR op_eq (pv 2) pe_int (nomark _))
        (pss_one (ps_asg (pe_tup (pa_cons (pe_ix ix_tup (pe_ix ix_list (pv 1) (pv 4) (fun _ _ => rfl)) pe_int (fun _ _ => rfl)) (pa_cons (pe_ix ix_tup (pe_ix ix_list (pv 1) (pv 3) (fun _ _ => rfl)) pe_int (fun _ _ => rfl)) pa_nil))) (pg_sub (pv 7) (pv 3) set_list)))
        pss_nil))
      (pss_cons (ps_cut (ps_if (pt_cmpR op_eq (pv 2) pe_int (nomark _))
        (pss_one (ps_set (i := 7) sc.nd rfl (Or.inl rfl) (pe_slice sl_list (pe_op op_rep (pv 7) pe_int) po_none (po_some pe_int))))
        pss_nil))
      (pss_cons (ps_cut (ps_if (pt_cmpR op_eq (pv 2) pe_int (nomark _))
        (pss_one (ps_setLc (i := 7) (own := [("_law_row", 8)]) (g := gName 8) (te := tTup (tCons (tOp (rIxT K) (tVar 8) (tC (.int 0))) (tCons (tOp (rI0 fun i j => V.int (i + j)) (tC (.int 1)) (tOp (rI CDiv fun i j => V.int (i / j)) (tOp (rIxT K) (tVar 8) (tC (.int 1))) (tC (.int 2)))) tNil))) rfl sc.nd rfl rfl (sw_true rfl rfl rfl (by decide +kernel)) (pi_list (pv 1)) (blkOk_by (N := N_bentP) (sc := defScope (top 40)) (by decide +kernel)) (fun _ _ _ _ _ => (pg_name (i := 8) sc.nd rfl (Or.inl rfl))) (fun _ _ _ _ _ => pts_nil) (fun _ _ _ _ _ => (pe_tup (pa_cons (pe_ixTK K rfl (pv 8) pe_int (fun _ _ => rfl)) (pa_cons (pe_op op_add pe_int (pe_op op_fdiv (pe_ixTK K rfl (pv 8) pe_int (fun _ _ => rfl)) pe_int)) pa_nil))))))
        pss_nil))
      (pss_cons (ps_cut (ps_if (pt_cmpR op_eq (pv 2) pe_int (nomark _))
        (pss_one (ps_set (i := 7) sc.nd rfl (Or.inl rfl) (pe_slice sl_list (pv 7) po_none (po_some (pv 3)))))
        pss_nil))
      (pss_one (ps_ret (pv 7))))))))))))))), ?_⟩
  obtain ⟨l0, hl0, h0⟩ := hg.take
  have hB0 := hRL.del hqg h0.r0
  have sd0 : Same (L2.del H g) (L2.del H g) := Same.refl _
  generalize hB : L2.del H g = B0 at hB0 h0
  rw [hB] at sd0
  have ule := ok.le
  have ql : ∀ {H' : Hp}, Same B0 H' → ∃ as : List Addr, H' q = some (.lst (as.map V.ref)) ∧ as.length = rows.length ∧ ∀ (i : Nat) (r : Sy.Row), rows[i]? = some r → ∃ p, as[i]? = some p ∧ SqT K H' p [.str r.1, .int (r.2 : Nat)] := fun {H'} s' => by
    obtain ⟨as, hL, hP⟩ := hB0.mono s'
    exact ⟨as, hL, paired_len hP, fun i r hr' => paired_at (R := fun p (r : Sy.Row) => SqT K H' p [.str r.1, .int (r.2 : Nat)]) hP hr'⟩
  refine ⟨_, rfl, g, 9, rfl, h0.bag hl0, by decide, by decide, fun way H1 hw d1 => ?_⟩
  obtain ⟨l1, B1, hl1, s1, h1, _⟩ := h0.dr0 d1
  obtain ⟨as1, hL1, ha1, _⟩ := ql (s1.trans h1.sub)
  refine ⟨_, rfl, _, rfl, q, _, rfl, .inl (SqL.of hL1), g, rows.length, by rw [List.length_map, ha1], h1.bag hl1, by omega, by omega, fun pl H2 hpl d2 => ?_⟩
  obtain ⟨l2, B2, hl2, s2, h2, _⟩ := h1.dr0 d2
  have sB2 := s1.trans s2
  obtain ⟨as2, hL2, ha2, _⟩ := ql (sB2.trans h2.sub)
  refine ⟨_, rfl, _, rfl, q, _, rfl, .inl (SqL.of hL2), g, rows.length, by rw [List.length_map, ha2], h2.bag hl2, by omega, by omega, fun pl2 H3 hpl2 d3 => ?_⟩
  obtain ⟨l3, B3, hl3, s3, h3, _⟩ := h2.dr0 d3
  have sB3 := sB2.trans s3
  have d123 := (d1.trans d2).trans d3
  obtain ⟨as3, hL3, ha3, at3⟩ := ql (sB3.trans h3.sub)
  obtain ⟨r, hr'⟩ : ∃ r, rows[pl]? = some r := ⟨_, List.getElem?_eq_getElem hpl⟩
  obtain ⟨r2, hr2⟩ : ∃ r, rows[pl2]? = some r := ⟨_, List.getElem?_eq_getElem hpl2⟩
  obtain ⟨p3, ep3, tp3⟩ := at3 pl r hr'
  have wd := (nameOk_iff _).mp (ok.nm r (List.mem_of_getElem? hr'))
  have wd2 := (nameOk_iff _).mp (ok.nm r2 (List.mem_of_getElem? hr2))
  have b3 := ok.br r (List.mem_of_getElem? hr')
  have b32 := ok.br r2 (List.mem_of_getElem? hr2)
  have t8 := wd.tx
  have wl : r.1.length ≤ 8 := t8.1
  have wl1 : 1 ≤ r.1.length := by rw [len_tl]; exact wd.1
  refine ⟨_, rfl, _, rfl, q, _, _, _, rfl, rfl, SqL.of hL3, atI_nat (by rw [List.getElem?_map, ep3]; rfl), p3, _, _, _, rfl, rfl, tp3, atI_nat (j := 0) rfl, ?_⟩
  have c1 : TxA 1 ("1" : Str) := tx_lit (by decide +kernel)
  have cb : TxA 1 (" " : Str) := tx_lit (by decide +kernel)
  have cn : TxA 1 ("\n" : Str) := tx_lit (by decide +kernel)
  have lz : r.1.length ≤ sizeLine := by rw [sizeLine_eq]; omega
  have z1 : ("1" : Str).length = 1 := by decide +kernel
  have zb : (" " : Str).length = 1 := by decide +kernel
  have zn : ("\n" : Str).length = 1 := by decide +kernel
  have cut1 := (t8.cut none (some 1)).1
  have cut2 := (t8.cut (some 1) none).1
  have rep : TxA 72 (⟨(List.replicate 9 r.1.cps.toList).flatten.toArray⟩ : Str) := by
    refine ⟨?_, fun c hc => ?_⟩
    · rw [TL.len_tl, TL.tl_mk, List.length_flatten, List.map_replicate, List.sum_replicate_nat, ← TL.len_tl]
      omega
    · have hc : c ∈ (List.replicate 9 r.1.cps.toList).flatten := by simpa using hc
      obtain ⟨l, hl, hcl⟩ := List.mem_flatten.mp hc
      rw [(List.mem_replicate.mp hl).2] at hcl
      exact t8.2 c hcl
  have rep9 := cut_hi (⟨(List.replicate 9 r.1.cps.toList).flatten.toArray⟩ : Str) 9
  have tr9 := rep.cut none (some 9)
  refine ⟨_, rfl, ⟨_, rfl⟩, r.1, rfl, rfl, by omega, _, rfl, _, _, rfl, rfl, by rw [z1, sizeLine_eq]; omega, _, rfl, _, _, rfl, rfl, by rw [zb, sizeLine_eq]; omega, ?_⟩
  refine ⟨_, rfl, _, rfl, r.1, rfl, lz, _, _, rfl, rfl, by rw [zb, sizeLine_eq]; omega, _, rfl, _, rfl, r.1, rfl, lz, _, _, rfl, rfl, by rw [Str.length_append, zb, sizeLine_eq]; omega, _, rfl, _, _, rfl, rfl, by rw [zn, sizeLine_eq]; omega, ?_⟩
  refine ⟨_, rfl, r.1, 9, rfl, rfl, by decide, by decide, wl1, by omega, _, rfl, _, rfl, by have := rep.1; rw [sizeLine_eq]; omega, (by show 9 ≤ sizeLine; decide), fun O hO => ?_⟩
  have hodd : ∃ odd : List Str, odd.length = 9 ∧ (∀ z ∈ odd, TxA 20 z) ∧ [V.str (Txt.upper r.1), .str (r.1 ++ "1"), .str "", .str (" " ++ r.1), .str (cutS r.1 none (some 1) ++ " " ++ cutS r.1 (some 1) none), .str "*", .str (r.1 ++ "\n"), .str "/", .str (cutS ⟨(List.replicate 9 r.1.cps.toList).flatten.toArray⟩ none (some 9))] = odd.map V.str := by
    refine ⟨[Txt.upper r.1, r.1 ++ "1", "", " " ++ r.1, cutS r.1 none (some 1) ++ " " ++ cutS r.1 (some 1) none, "*", r.1 ++ "\n", "/", cutS ⟨(List.replicate 9 r.1.cps.toList).flatten.toArray⟩ none (some 9)], rfl, fun z hz => ?_, rfl⟩
    simp only [List.mem_cons, List.not_mem_nil, or_false] at hz
    rcases hz with rfl | rfl | rfl | rfl | rfl | rfl | rfl | rfl | rfl
    · exact wd.up.mono (by decide)
    · exact (t8.app c1).mono (by decide)
    · exact tx_lit (by decide +kernel)
    · exact (cb.app t8).mono (by decide)
    · exact (((t8.cut _ _).app cb).app (t8.cut _ _)).mono (by decide)
    · exact tx_lit (by decide +kernel)
    · exact (t8.app cn).mono (by decide)
    · exact tx_lit (by decide +kernel)
    · exact ⟨by have : (cutS (⟨(List.replicate 9 r.1.cps.toList).flatten.toArray⟩ : Str) none (some 9)).length ≤ 9 := rep9; omega, tr9.2⟩
  obtain ⟨odd, hol, hot, eo⟩ := hodd
  have eo2 : ∀ {xs : List V}, xs = odd.map V.str → xs = odd.map V.str := fun z => z
  have hO2 := h3.new (o := .lst (odd.map V.str)) hO
  obtain ⟨s4, h4⟩ := hO2.give
  have sB4 := sB3.trans s4
  have eO : (upd B3 O (.lst (odd.map V.str))) O = some (.lst (odd.map V.str)) := upd_same
  generalize upd B3 O (.lst (odd.map V.str)) = B4 at *
  have d4 := d123.same (up_same (o := .lst (odd.map V.str)) hO)
  obtain ⟨as4, hL4, hP4⟩ := hB0.mono (sB4.trans h4.sub)
  rw [eo]
  refine ⟨_, rfl, q, _, rfl, .inl (SqL.of hL4), fun M hM => ?_⟩
  have h5 := h4.new (o := .lst (as4.map V.ref)) hM
  have hP5 := hB0.mono sB4
  obtain ⟨as5, hL5, hP5⟩ := hP5
  have hps : as5 = as4 := by
    have e1 := h4.sub _ _ hL5
    rw [hL4] at e1
    have e2 := HO.lst.inj (Option.some.inj e1)
    exact ((List.map_inj_right (fun a b z => V.ref.inj z)).mp e2).symm
  subst hps
  have get : ∀ {H' : Hp}, Same B4 H' → ∀ (i : Nat) (r : Sy.Row), rows[i]? = some r → ∃ (as : List Addr) (p : Addr), H' q = some (.lst (as.map V.ref)) ∧ atI (as.map V.ref) ((i : Nat) : Int) = some (V.ref p) ∧ SqT K H' p [.str r.1, .int (r.2 : Nat)] := fun {H'} s' i r hr' => by
    obtain ⟨as, hL, _, hat⟩ := ql (sB4.trans s')
    obtain ⟨p, ep, tp⟩ := hat i r hr'
    exact ⟨as, p, hL, atI_nat (by rw [List.getElem?_map, ep]; rfl), tp⟩
  have pk := rows_prok ok
  have hP6 : Paired (fun p (r : PRow) => SqT K B4 p [.str r.1, .int r.2]) as5 (rows.map ofR) := paired_to hP5
  -- what holds from here on
  let J : Prop → L2.St → Hp → Prop := fun le σ H' => ∃ (q2 : Addr) (as : List Addr) (ps : List PRow) (B : Hp) (l : List Int), σ = [some (.ref g), some (.ref q), some (.int (way : Nat)), some (.int (pl : Nat)), some (.int (pl2 : Nat)), some (.str r.1), some (.ref O), some (.ref q2), none] ∧ BagOk l ∧ Same B4 B ∧ Hs B [(q2, .lst (as.map V.ref)), (g, .lst (l.map V.int))] H' ∧ Paired (fun p (r : PRow) => SqT K B p [.str r.1, .int r.2]) as ps ∧ PrOk ps ∧ (le → ps.length = rows.length)
  have J0 : J True [some (.ref g), some (.ref q), some (.int (way : Nat)), some (.int (pl : Nat)), some (.int (pl2 : Nat)), some (.str r.1), some (.ref O), some (.ref M), none] (upd (upd H3 O (.lst (odd.map V.str))) M (.lst (as5.map V.ref))) := ⟨M, as5, rows.map ofR, B4, l3, rfl, hl3, Same.refl _, h5, hP6, pk, fun _ => by rw [List.length_map]⟩
  generalize upd (upd H3 O (.lst (odd.map V.str))) M (.lst (as5.map V.ref)) = H5 at *
  have nat9 : ∀ {n : Nat} {xs : List V}, n < xs.length → ixN xs.length ((n : Nat) : Int) = some n := fun h => ixN_nat h
  -- way 0, 1
  refine ⟨J True, ?_, ?_⟩
  · obtain ⟨q2, as, ps, B, l, eσ, hl, sB, hh, hP, hk, hle⟩ := id J0
    cases eσ
    have hle := hle trivial
    have hpl := paired_len hP
    refine ⟨_, rfl, rfl, _, rfl, if_dec (fun _ => ?_) (fun _ => ⟨_, rfl, rfl, _, rfl, if_dec (fun _ => ?_) (fun _ => J0)⟩)⟩
    all_goals
      refine ⟨_, rfl, _, rfl, g, 9, rfl, hh.swap.bag hl, by decide, by decide, fun i H6 hi d6 => ?_⟩
      obtain ⟨l6, B6, hl6, s6, h6⟩ := hh.dr1 d6
      obtain ⟨z, ez⟩ : ∃ z, odd[i]? = some z := ⟨_, List.getElem?_eq_getElem (by rw [hol]; exact hi)⟩
      have sB6 := sB.trans s6
      obtain ⟨as7, p7, hL7, hat7, tp7⟩ := get (sB6.trans h6.sub) pl r hr'
      refine ⟨O, _, _, _, rfl, rfl, SqL.of (h6.sub _ _ (sB6 _ _ eO)), atI_nat (by rw [List.getElem?_map, ez]; rfl), ?_⟩
      refine ⟨_, rfl, _, rfl, q, _, _, _, rfl, rfl, SqL.of hL7, hat7, p7, _, _, _, rfl, rfl, tp7, atI_nat (j := 1) rfl, (by show 2 ≤ sizeLine; decide), fun t ht => ?_⟩
      have s7 : Same B6 (upd B6 t (.tup [.str z, .int (r.2 : Nat)])) := up_same (h6.sub.free ht)
      have h7 := h6.tup (o := .tup [.str z, .int (r.2 : Nat)]) ht
      refine ⟨_, rfl, _, rfl, M, _, _, pl, rfl, rfl, h7.r0, nat9 (by rw [List.length_map]; omega), ?_⟩
      refine ⟨M, as.set pl t, ps.set pl (z, ((r.2 : Nat) : Int)), _, l6, rfl, hl6, sB6.trans s7, ?_, paired_set (Paired.mapP hP fun _ _ y => Same.sqt (s6.trans s7) y) (SqT.of upd_same), hk.set (hot z (List.mem_of_getElem? ez)) (by show (-1 : Int) ≤ (r.2 : Nat); omega) (by show ((r.2 : Nat) : Int) ≤ _; omega), fun _ => by rw [List.length_set]; exact hle⟩
      rw [List.map_set]
      exact h7.w0
  -- way 0, 2
  rintro σ H' j1
  refine ⟨J True, ?_, ?_⟩
  · obtain ⟨q2, as, ps, B, l, rfl, hl, sB, hh, hP, hk, hle⟩ := id j1
    have hle := hle trivial
    have hpl := paired_len hP
    refine ⟨_, rfl, rfl, _, rfl, if_dec (fun _ => ?_) (fun _ => ⟨_, rfl, rfl, _, rfl, if_dec (fun _ => ?_) (fun _ => j1)⟩)⟩
    all_goals
      obtain ⟨as7, p7, hL7, hat7, tp7⟩ := get (sB.trans hh.sub) pl2 r2 hr2
      refine ⟨_, rfl, _, rfl, q, _, _, _, rfl, rfl, SqL.of hL7, hat7, p7, _, _, _, rfl, rfl, tp7, atI_nat (j := 0) rfl, ?_⟩
      refine ⟨_, _, rfl, rfl, _, _, rfl, rfl, ⟨by decide, by decide, by decide⟩, (by show 4 ≤ sizeLine; decide), fun D hD => ?_⟩
      have hh8 := (hh.new (o := .lst (four.map V.int)) hD).give
      obtain ⟨s8, h8⟩ := hh8
      have e8 : (upd B D (.lst (four.map V.int))) D = some (.lst (four.map V.int)) := upd_same
      generalize upd B D (.lst (four.map V.int)) = B8 at *
      refine ⟨_, rfl, g, 4, rfl, h8.swap.bag hl, by decide, by decide, fun i H6 hi d6 => ?_⟩
      obtain ⟨l6, B6, hl6, s6, h6⟩ := h8.dr1 d6
      obtain ⟨z, ez, z1, z2⟩ := four_ok i hi
      have sB6 := s8.trans s6
      refine ⟨D, _, _, _, rfl, rfl, SqL.of (h6.sub _ _ (s6 _ _ e8)), atI_nat (by rw [List.getElem?_map, ez]; rfl), (by show 2 ≤ sizeLine; decide), fun t ht => ?_⟩
      have s7 : Same B6 (upd B6 t (.tup [.str r2.1, .int z])) := up_same (h6.sub.free ht)
      have h7 := h6.tup (o := .tup [.str r2.1, .int z]) ht
      refine ⟨_, rfl, _, rfl, q2, _, _, pl2, rfl, rfl, h7.r0, nat9 (by rw [List.length_map]; omega), ?_⟩
      refine ⟨q2, as.set pl2 t, ps.set pl2 (r2.1, z), _, l6, rfl, hl6, (sB.trans sB6).trans s7, ?_, paired_set (Paired.mapP hP fun _ _ y => Same.sqt (sB6.trans s7) y) (SqT.of upd_same), hk.set (wd2.tx.mono (by decide)) z1 z2, fun _ => by rw [List.length_set]; exact hle⟩
      rw [List.map_set]
      exact h7.w0
  clear j1
  -- way 3
  rintro σ H' j1
  refine ⟨J True, ?_, ?_⟩
  · obtain ⟨q2, as, ps, B, l, rfl, hl, sB, hh, hP, hk, hle⟩ := id j1
    have hle := hle trivial
    have hpl := paired_len hP
    refine ⟨_, rfl, rfl, _, rfl, if_dec (fun _ => ?_) (fun _ => j1)⟩
    obtain ⟨as7, p7, hL7, hat7, tp7⟩ := get (sB.trans hh.sub) pl2 r2 hr2
    obtain ⟨as8, p8, hL8, hat8, tp8⟩ := get (sB.trans hh.sub) pl r hr'
    refine ⟨_, rfl, _, rfl, q, _, _, _, rfl, rfl, SqL.of hL7, hat7, p7, _, _, _, rfl, rfl, tp7, atI_nat (j := 0) rfl, ?_⟩
    refine ⟨_, rfl, _, rfl, q, _, _, _, rfl, rfl, SqL.of hL8, hat8, p8, _, _, _, rfl, rfl, tp8, atI_nat (j := 1) rfl, (by show 2 ≤ sizeLine; decide), fun t ht => ?_⟩
    have s7 : Same B (upd B t (.tup [.str r2.1, .int (r.2 : Nat)])) := up_same (hh.sub.free ht)
    have h7 := hh.tup (o := .tup [.str r2.1, .int (r.2 : Nat)]) ht
    refine ⟨_, rfl, _, rfl, q2, _, _, pl, rfl, rfl, h7.r0, nat9 (by rw [List.length_map]; omega), ?_⟩
    refine ⟨q2, as.set pl t, ps.set pl (r2.1, ((r.2 : Nat) : Int)), _, l, rfl, hl, sB.trans s7, ?_, paired_set (Paired.mapP hP fun _ _ y => Same.sqt s7 y) (SqT.of upd_same), hk.set (wd2.tx.mono (by decide)) (by show (-1 : Int) ≤ (r.2 : Nat); omega) (by show ((r.2 : Nat) : Int) ≤ _; omega), fun _ => by rw [List.length_set]; exact hle⟩
    rw [List.map_set]
    exact h7.w0
  clear j1
  -- way 4
  rintro σ H' j1
  refine ⟨J False, ?_, ?_⟩
  · obtain ⟨q2, as, ps, B, l, rfl, hl, sB, hh, hP, hk, hle⟩ := id j1
    have hpl := paired_len hP
    have hk9 := hk.len
    refine ⟨_, rfl, rfl, _, rfl, if_dec (fun _ => ?_) (fun _ => ⟨q2, as, ps, B, l, rfl, hl, sB, hh, hP, hk, fun z => z.elim⟩)⟩
    refine ⟨_, rfl, q2, 9, _, rfl, rfl, hh.r0, by decide, by decide, by rw [List.length_map, sizeLine_eq]; show _ * 9 ≤ _; omega, fun D hD => ?_⟩
    have h7 := hh.new (o := .lst (List.replicate (9 : Int).toNat (as.map V.ref)).flatten) hD
    refine ⟨_, rfl, D, _, rfl, SqL.of h7.r0, fun D2 hD2 => ?_⟩
    have ec : cutV (List.replicate (9 : Int).toNat (as.map V.ref)).flatten none (some 9) = (((List.replicate 9 as).flatten).take 9).map V.ref := by
      have : (List.replicate (9 : Int).toNat (as.map V.ref)).flatten = ((List.replicate 9 as).flatten).map V.ref := by
        rw [List.map_flatten, List.map_replicate]
        rfl
      rw [this, show (some (9 : Int)) = some ((9 : Nat) : Int) from rfl, cut_takeA, List.map_take]
    rw [ec]
    have h8 := (h7.new (o := .lst ((((List.replicate 9 as).flatten).take 9).map V.ref)) hD2).drop1.drop1
    refine ⟨D2, _, ((List.replicate 9 ps).flatten).take 9, B, l, rfl, hl, sB, h8, paired_take 9 (paired_rep hP 9), hk.sub (fun r hr => ?_) (by rw [List.length_take]; omega), fun z => z.elim⟩
    obtain ⟨k, hk1, hk2⟩ := List.mem_flatten.mp (List.mem_of_mem_take hr)
    rw [(List.mem_replicate.mp hk1).2] at hk2
    exact hk2
  clear j1
  -- way 5
  rintro σ H' j1
  refine ⟨J False, ?_, ?_⟩
  · obtain ⟨q2, as, ps, B, l, rfl, hl, sB, hh, hP, hk, hle⟩ := id j1
    refine ⟨_, rfl, rfl, _, rfl, if_dec (fun _ => ?_) (fun _ => j1)⟩
    obtain ⟨as7, hL7, ha7, hat7⟩ := ql ((sB4.trans sB).trans hh.sub)
    refine ⟨_, rfl, q, rfl, ⟨_, SqL.of hL7⟩, fun D hD => lc_it (walk_list (K := K) (a := q) (xs := as7.map V.ref)) (fun i H' => ∃ (B' : Hp) (bs : List Addr), Same B B' ∧ bs.length = i ∧ (∃ xs, H' q = some (.lst xs) ∧ xs = as7.map V.ref) ∧ Hs B' [(D, .lst (bs.map V.ref)), (q2, .lst (as.map V.ref)), (g, .lst (l.map V.int))] H' ∧ Paired (fun p (r : PRow) => SqT K B' p [.str r.1, .int r.2]) bs ((rows.take i).map halfR)) ⟨B, [], Same.refl _, rfl, ⟨_, (up_same hD) _ _ hL7, rfl⟩, hh.new hD, .nil⟩ (fun _ _ _ ⟨_, _, _, _, ⟨_, e, ex⟩, _, _⟩ => SqL.of (by rw [e, ex])) ?_ ?_⟩
    · rintro i v H6 _ hi ⟨B', bs, s6, hbs, ⟨_, e6, rfl⟩, h6, hP6'⟩ ⟨rfl, hv⟩
      obtain ⟨p, ep, rfl⟩ := map_at hv
      have hi : i < rows.length := by rw [← ha7]; exact (List.getElem?_eq_some_iff.mp ep).1
      obtain ⟨r9, hr9⟩ : ∃ r, rows[i]? = some r := ⟨_, List.getElem?_eq_getElem hi⟩
      obtain ⟨p9, ep9, tp9⟩ := hat7 i r9 hr9
      rw [ep] at ep9
      cases ep9
      obtain ⟨asx, hLx, _, hatx⟩ := ql (((sB4.trans sB).trans s6).trans h6.sub)
      rw [e6] at hLx
      have hxx : asx = as7 := (List.map_inj_right (fun a b z => V.ref.inj z)).mp (HO.lst.inj (Option.some.inj hLx)).symm
      subst hxx
      obtain ⟨px, epx, tpx⟩ := hatx i r9 hr9
      rw [ep] at epx
      cases epx
      refine ⟨rfl, ?_⟩
      simp only [tYes, if_true]
      refine ⟨_, rfl, p, _, _, _, rfl, rfl, tpx, atI_nat (j := 0) rfl, _, rfl, p, _, _, _, rfl, rfl, tpx, atI_nat (j := 1) rfl, _, _, rfl, rfl, ⟨by decide, by decide⟩, _, _, rfl, rfl, (by show 2 ≤ sizeLine; decide), fun t ht => ?_⟩
      have s7 : Same B' (upd B' t (.tup [.str r9.1, .int (1 + (r9.2 : Nat) / 2)])) := up_same (h6.sub.free ht)
      have h7 := h6.tup (o := .tup [.str r9.1, .int (1 + (r9.2 : Nat) / 2)]) ht
      have nqD : q ≠ D := fun z => by
        have := h6.r0
        rw [← z, e6] at this
        have hD0 := hD
        rw [← z, hL7] at hD0
        cases hD0
      refine ⟨_, h7.r0, by rw [List.length_map, hbs, sizeLine_eq]; omega, _, bs ++ [t], s6.trans s7, by rw [List.length_append, hbs]; rfl, ⟨_, by rw [upd_ne nqD]; exact (up_same ht) _ _ e6, rfl⟩, ?_, ?_⟩
      · rw [List.map_append]
        exact h7.w0
      · rw [List.take_succ, hr9, List.map_append]
        exact paired_app (Paired.mapP hP6' fun _ _ y => Same.sqt s7 y) (.cons (SqT.of upd_same) .nil)
    · rintro H6 ⟨B', bs, s6, hbs, _, h6, hP6'⟩
      rw [List.length_map, ha7, List.take_length] at hP6'
      refine ⟨D, bs, _, B', l, rfl, hl, sB.trans s6, h6.drop1, hP6', ⟨by rw [List.length_map]; omega, fun r hr => ?_, fun r hr => ?_, fun r hr => ?_⟩, fun z => z.elim⟩
      · obtain ⟨z, hz, rfl⟩ := List.mem_map.mp hr
        exact ((nameOk_iff _).mp (ok.nm z hz)).tx.mono (by decide)
      · obtain ⟨z, hz, rfl⟩ := List.mem_map.mp hr
        show (-1 : Int) ≤ 1 + ((z.2 : Nat) : Int) / 2
        omega
      · obtain ⟨z, hz, rfl⟩ := List.mem_map.mp hr
        have := ok.br z hz
        show 1 + ((z.2 : Nat) : Int) / 2 ≤ _
        omega
  clear j1
  -- way 6
  rintro σ H' j1
  refine ⟨J False, ?_, ?_⟩
  · obtain ⟨q2, as, ps, B, l, rfl, hl, sB, hh, hP, hk, hle⟩ := id j1
    refine ⟨_, rfl, rfl, _, rfl, if_dec (fun _ => ?_) (fun _ => j1)⟩
    refine ⟨_, rfl, _, rfl, _, rfl, q2, _, rfl, SqL.of hh.r0, fun D hD => ?_⟩
    rw [cut_takeA, ← List.map_take]
    have h8 := (hh.new (o := .lst ((as.take pl).map V.ref)) hD).drop1
    exact ⟨D, _, ps.take pl, B, l, rfl, hl, sB, h8, paired_take pl hP, hk.sub (fun r hr => List.mem_of_mem_take hr) (by rw [List.length_take]; have := hk.len; omega), fun z => z.elim⟩
  rintro σ H' ⟨q2, as, ps, B, l, rfl, hl, sB, hh, hP, hk, hle⟩
  refine ⟨_, rfl, hq q2 ps _ hk ?_ ⟨as, hh.r0, Paired.mapP hP fun _ _ y => Same.sqt hh.sub y⟩ ?_⟩
  · exact hh.isDr hl (by simp) (by rw [hB]; exact sB4.trans sB)
  · intro z
    have nd := hh.nd
    rw [z] at nd
    exact absurd nd (by simp)
end
end Sy
/-! other rows -/
namespace Sy
open PySem PySem.Spec PyProof.Rows L2
theorem bedG_none : ∀ {ps : List PRow} {i : Nat} {seen : List Str}, bedG i seen ps = none → (∀ r ∈ ps, nameOk r.1 = true ∧ 0 ≤ r.2 ∧ r.2 ≤ 3 ∧ r.1 ∉ seen) ∧ (ps.map (·.1)).Nodup
  | [], _, _, _ => ⟨fun _ h => (nomatch h), List.nodup_nil⟩
  | r :: ps, i, seen, h => by
    rw [bedG] at h
    split at h
    · cases h
    · rename_i c
      obtain ⟨h1, h2⟩ := bedG_none h
      have cn : nameOk r.1 = true := by
        cases e : nameOk r.1 with
        | true => rfl
        | false => exact absurd (.inl e) c
      have c2 : ¬ r.2 < 0 := fun z => c (.inr (.inl z))
      have c3 : ¬ 3 < r.2 := fun z => c (.inr (.inr (.inl z)))
      have c4 : r.1 ∉ seen := fun z => c (.inr (.inr (.inr z)))
      refine ⟨fun q hq => ?_, ?_⟩
      · rcases List.mem_cons.mp hq with rfl | hq
        · exact ⟨cn, by omega, by omega, c4⟩
        · obtain ⟨a, b, d, e⟩ := h1 q hq
          exact ⟨a, b, d, fun z => e (List.mem_append.mpr (.inl z))⟩
      · rw [List.map_cons, List.nodup_cons]
        refine ⟨fun z => ?_, h2⟩
        obtain ⟨q, hq, e⟩ := List.mem_map.mp z
        exact (h1 q hq).2.2.2 (by rw [e]; simp)
theorem bedE_ok {ps : List PRow} (h : bedE ps = none) : RowsOk (ps.map toR) ∧ ps = (ps.map toR).map ofR := by
  unfold bedE at h
  split at h
  · cases h
  · rename_i h8
    split at h
    · cases h
    · rename_i hG
      obtain ⟨h1, h2⟩ := bedG_none hG
      split at h
      · rename_i h0
        have e : ps = (ps.map toR).map ofR := by
          rw [List.map_map]
          symm
          calc ps.map (ofR ∘ toR) = ps.map id := List.map_congr_left fun r hr => by
                obtain ⟨_, a, _, _⟩ := h1 r hr
                show (r.1, ((r.2.toNat : Nat) : Int)) = r
                rw [show ((r.2.toNat : Nat) : Int) = r.2 by omega]
            _ = ps := List.map_id _
        refine ⟨⟨fun r hr => ?_, fun r hr => ?_, ?_, ?_, by rw [List.length_map]; omega⟩, e⟩
        · obtain ⟨z, hz, rfl⟩ := List.mem_map.mp hr
          exact (h1 z hz).1
        · obtain ⟨z, hz, rfl⟩ := List.mem_map.mp hr
          have := (h1 z hz).2.2.1
          show z.2.toNat ≤ 3
          omega
        · rw [List.map_map]
          exact h2
        · obtain ⟨z, hz, hz0⟩ := List.any_eq_true.mp h0
          exact ⟨toR z, List.mem_map_of_mem hz, by have : z.2 = 0 := of_decide_eq_true hz0; show z.2.toNat = 0; omega⟩
      · cases h
theorem bedE_of {rows : List Sy.Row} (ok : RowsOk rows) : bedE (rows.map ofR) = none := by
  have key : ∀ (rs : List Sy.Row) (i : Nat) (seen : List Str), (∀ r ∈ rs, nameOk r.1 = true ∧ r.2 ≤ 3 ∧ r.1 ∉ seen) → (rs.map (·.1)).Nodup → bedG i seen (rs.map ofR) = none := by
    intro rs
    induction rs with
    | nil => intro _ _ _ _; rfl
    | cons r rs ih =>
      intro i seen h nd
      rw [List.map_cons, List.nodup_cons] at nd
      obtain ⟨a, b, c⟩ := h r List.mem_cons_self
      rw [List.map_cons, bedG, if_neg]
      · refine ih _ _ (fun q hq => ?_) nd.2
        obtain ⟨a', b', c'⟩ := h q (List.mem_cons_of_mem _ hq)
        refine ⟨a', b', fun z => ?_⟩
        rcases List.mem_append.mp z with z | z
        · exact c' z
        · have e : q.1 = r.1 := List.mem_singleton.mp z
          exact nd.1 (by rw [← e]; exact List.mem_map_of_mem hq)
      · rintro (z | z | z | z)
        · have z : nameOk r.1 = false := z
          rw [a] at z
          cases z
        · have z : ((r.2 : Nat) : Int) < 0 := z
          omega
        · have z : (3 : Int) < ((r.2 : Nat) : Int) := z
          omega
        · exact c z
  unfold bedE
  have hle := ok.le
  rw [if_neg (by rw [List.length_map]; omega), key rows 0 [] (fun r hr => ⟨ok.nm r hr, ok.br r hr, fun z => nomatch z⟩) ok.nd]
  obtain ⟨z, hz, h0⟩ := ok.lf
  show (if ((rows.map ofR).any fun r => decide (r.2 = 0)) = true then none else some (Er.bed (-1))) = none
  rw [if_pos (List.any_eq_true.mpr ⟨ofR z, List.mem_map_of_mem hz, decide_eq_true (by show (z.2 : Int) = 0; omega)⟩)]
theorem toR_of {rows : List Sy.Row} {ps : List PRow} (h : rows.map ofR = ps) : ps.map toR = rows := by rw [← h, toR_map]
theorem cut_init {xs : List V} : cutV xs none (some (-1)) = xs.take (xs.length - 1) := by
  unfold cutV HT.sIx
  simp only [List.drop_zero, Nat.sub_zero]
  congr 1
  rw [if_pos (by decide)]
  omega
theorem PL.cut {K : PySem.W.Frag} {H : Hp} {q g : Addr} {xs : List V} {ps : List PRow} (h : PL K H q ps) (ne : q ≠ g) (hg : H g = some (.lst xs)) : PL K (Sy.cut [(g, .lst xs)] H) q ps := by
  obtain ⟨as, h1, h2⟩ := h
  have st : Stay H (Sy.cut [(g, .lst xs)] H) := fun a w e n => by
    rw [cut_at]
    · exact e
    · intro hm
      have : a = g := by simpa using hm
      rw [this, hg] at e
      exact n _ (Option.some.inj e).symm
  exact ⟨as, by rw [cut_at (by simpa using ne)]; exact h1, Paired.mapP h2 fun _ _ z => st.sqt z⟩
theorem Er.noNone {K : PySem.W.Frag} {H : Hp} {v : V} {e : Er} (iv : Im K H v e.dat) : v ≠ V.non := fun z => by
  rw [z] at iv
  cases e <;> cases iv
section
variable {P : Program} {w : World} {K : PySem.W.Frag} {mg : Str → Option Value} {base : Heap}
def spOther (K : PySem.W.Frag) : Sp := fun vs H Q _ => ∃ (g q : Addr) (rows : List Sy.Row), vs = [.ref g, .ref q] ∧ Bag g H ∧ q ≠ g ∧ RL K H q rows ∧ RowsOk rows ∧ 0 < rows.length ∧
  ∀ q2 rows2 H', RowsOk rows2 → Dr g H H' → RL K H' q2 rows2 → q2 ≠ g → Q (.ref q2) H'
abbrev N_other : List Str := ["_law_bag_here", "_law_rows_here", "_law_place", "_law_pairs", "_law_other"]
theorem sc_other : FnScope N_other ["_law_bag_here", "_law_rows_here"] (defScope (top 51)) := ⟨rfl, rfl, rfl, by decide +kernel, rfl, by decide +kernel, by decide +kernel⟩
def next4 : List Nat := [1, 2, 3, 0]
theorem next4_ok : ∀ i, i ≤ 3 → ∃ z, next4[i]? = some z ∧ z ≤ 3 := by
  intro i hi
  match i, hi with
  | 0, _ => exact ⟨1, rfl, by decide⟩
  | 1, _ => exact ⟨2, rfl, by decide⟩
  | 2, _ => exact ⟨3, rfl, by decide⟩
  | 3, _ => exact ⟨0, rfl, by decide⟩
theorem k_other (T : Txt K mg) (F : DF K mg "_law_other_rows" 51) (c_law_draw : Cal P w K mg base 1 "_law_draw" ["_law_bag_here", "_law_size"] spDraw) (c_law_rows : Cal P w K mg base 4 "_law_rows" ["_law_bag_here", "_law_most"] (spRows K)) (c_law_pairs_due : Cal P w K mg base 2 "_law_pairs_due" ["_law_pairs"] (spDueP K)) :
    Cal P w K mg base 5 "_law_other_rows" ["_law_bag_here", "_law_rows_here"] (spOther K) := by
  refine cal_of F.1 F.2 sc_other (fun _ _ _ _ _ _ us e => match us, e with | [_, _], _ => rfl) (fun vs H Q E s => by obtain ⟨_, _, _, rfl, _⟩ := s; rfl) ?_
  intro cdv A outer s H vs Q E hr h
  obtain ⟨g, q, rows, rfl, hg, hqg, hRL, ok, hpos, hq⟩ := h
  have sc := sc_other
  refine ⟨_, (pss_cons (ps_set (i := 2) sc.nd rfl (Or.inl rfl) (pe_cal c_law_draw hr (pa_cons (pv 0) (pa_cons (pe_callB call_len_seq (by rfl) T.len (by decide +kernel) (pa_cons (pv 1) pa_nil)) pa_nil))))
      (pss_cons (ps_set (i := 3) sc.nd rfl (Or.inl rfl) (pe_callTy call_list_of (by rfl) T.list (by decide +kernel) (pa_cons (pv 1) pa_nil)))
      (pss_cons (ps_asg (pe_tup (pa_cons (pe_ix ix_tup (pe_ix ix_list (pv 1) (pv 2) (fun _ _ => rfl)) pe_int (fun _ _ => rfl)) (pa_cons (pe_ix ix_list (pe_lst (pa_cons pe_int (pa_cons pe_int (pa_cons pe_int (pa_cons pe_int pa_nil))))) (pe_ix ix_tup (pe_ix ix_list (pv 1) (pv 2) (fun _ _ => rfl)) pe_int (fun _ _ => rfl)) (fun _ _ => rfl)) pa_nil))) (pg_sub (pv 3) (pv 2) set_list))
      (pss_cons (ps_set (i := 4) sc.nd rfl (Or.inl rfl) (pe_ix ix_list (pe_lst (pa_cons (pe_rev (pv 1) (po_some (pe_un un_neg pe_int))) (pa_cons (pe_slice sl_list (pv 1) po_none (po_some (pe_un un_neg pe_int))) (pa_cons (pv 3) (pa_cons (pv 1) (pa_cons (pe_cal c_law_rows hr (pa_cons (pv 0) (pa_cons pe_int pa_nil))) pa_nil)))))) (pe_cal c_law_draw hr (pa_cons (pv 0) (pa_cons pe_int pa_nil))) (fun _ _ => rfl)))
      (pss_cons (ps_if (pt_cmpR op_notN (pe_cal c_law_pairs_due hr (pa_cons (pv 4) pa_nil)) pe_non (nomark _))
        (pss_one (ps_ret (pv 1)))
        pss_nil)
      (pss_one (ps_ret (pv 4)))))))), ?_⟩
  obtain ⟨l0, hl0, h0⟩ := hg.take
  have hB0 := hRL.del hqg h0.r0
  generalize hB : L2.del H g = B0 at hB0 h0
  have ule := ok.le
  have ql : ∀ {H' : Hp}, Same B0 H' → ∃ as : List Addr, H' q = some (.lst (as.map V.ref)) ∧ as.length = rows.length ∧ Paired (fun p (r : Sy.Row) => SqT K H' p [.str r.1, .int (r.2 : Nat)]) as rows ∧ ∀ (i : Nat) (r : Sy.Row), rows[i]? = some r → ∃ p, as[i]? = some p ∧ SqT K H' p [.str r.1, .int (r.2 : Nat)] := fun {H'} s' => by
    obtain ⟨as, hL, hP⟩ := hB0.mono s'
    exact ⟨as, hL, paired_len hP, hP, fun i r hr' => paired_at (R := fun p (r : Sy.Row) => SqT K H' p [.str r.1, .int (r.2 : Nat)]) hP hr'⟩
  obtain ⟨as0, hL0, ha0, _⟩ := ql h0.sub
  refine ⟨_, rfl, _, rfl, q, _, rfl, .inl (SqL.of hL0), g, rows.length, by rw [List.length_map, ha0], h0.bag hl0, by omega, by omega, fun pl H1 hpl d1 => ?_⟩
  obtain ⟨l1, B1, hl1, s1, h1, _⟩ := h0.dr0 d1
  obtain ⟨as1, hL1, ha1, hP1, hat1⟩ := ql (s1.trans h1.sub)
  obtain ⟨r, hr'⟩ : ∃ r, rows[pl]? = some r := ⟨_, List.getElem?_eq_getElem hpl⟩
  have b3 := ok.br r (List.mem_of_getElem? hr')
  refine ⟨_, rfl, q, _, rfl, .inl (SqL.of hL1), fun M hM => ?_⟩
  have h2 := h1.new (o := .lst (as1.map V.ref)) hM
  obtain ⟨as2, hL2, ha2, _, hat2⟩ := ql (s1.trans h2.sub)
  obtain ⟨p2, ep2, tp2⟩ := hat2 pl r hr'
  have i2 : atI (as2.map V.ref) ((pl : Nat) : Int) = some (V.ref p2) := atI_nat (by rw [List.getElem?_map, ep2]; rfl)
  refine ⟨_, rfl, _, rfl, q, _, _, _, rfl, rfl, SqL.of hL2, i2, p2, _, _, _, rfl, rfl, tp2, atI_nat (j := 0) rfl, (by show 4 ≤ sizeLine; decide), fun D hD => ?_⟩
  have h3 := h2.new (o := .lst [V.int 1, .int 2, .int 3, .int 0]) hD
  obtain ⟨as3, hL3, ha3, hP3, hat3⟩ := ql (s1.trans h3.sub)
  obtain ⟨p3, ep3, tp3⟩ := hat3 pl r hr'
  have i3 : atI (as3.map V.ref) ((pl : Nat) : Int) = some (V.ref p3) := atI_nat (by rw [List.getElem?_map, ep3]; rfl)
  obtain ⟨z, ez, hz3⟩ := next4_ok r.2 b3
  refine ⟨_, rfl, _, rfl, q, _, _, _, rfl, rfl, SqL.of hL3, i3, p3, _, _, _, rfl, rfl, tp3, atI_nat (j := 1) rfl, D, _, _, _, rfl, rfl, SqL.of h3.r0, atI_nat (show ([V.int 1, .int 2, .int 3, .int 0] : List V)[r.2]? = some (.int (z : Nat)) from vN_at ez), (by show 2 ≤ sizeLine; decide), fun t ht => ?_⟩
  have s4 : Same B1 (upd B1 t (.tup [.str r.1, .int (z : Nat)])) := up_same (h3.sub.free ht)
  have h4 := (h3.tup (o := .tup [.str r.1, .int (z : Nat)]) ht).drop
  have hpl1 : as1.length = rows.length := ha1
  refine ⟨_, rfl, _, rfl, M, _, _, pl, rfl, rfl, h4.r0, ixN_nat (by rw [List.length_map]; omega), ?_⟩
  have h5 := h4.w0 (o' := .lst ((as1.map V.ref).set pl (.ref t)))
  have ept : (upd B1 t (.tup [.str r.1, .int (z : Nat)])) t = some (.tup [.str r.1, .int (z : Nat)]) := upd_same
  generalize upd B1 t (.tup [.str r.1, .int (z : Nat)]) = B4 at *
  obtain ⟨asB, hLB, haB, hPB, _⟩ := ql s1
  have hasB : asB = as1 := by
    have e1 := h1.sub _ _ hLB
    rw [hL1] at e1
    exact ((List.map_inj_right (fun a b z => V.ref.inj z)).mp (HO.lst.inj (Option.some.inj e1))).symm
  subst hasB
  have hP5 : Paired (fun p (r : PRow) => SqT K B4 p [.str r.1, .int r.2]) (asB.set pl t) ((rows.map ofR).set pl (r.1, ((z : Nat) : Int))) := paired_set (Paired.mapP (paired_to (f := ofR) (R := fun p (r : PRow) => SqT K B1 p [.str r.1, .int r.2]) hPB) fun _ _ y => Same.sqt s4 y) (SqT.of ept)
  rw [← List.map_set] at h5 ⊢
  obtain ⟨s6, h6⟩ := h5.give
  have e6 : (upd B4 M (.lst ((asB.set pl t).map V.ref))) M = some (.lst ((asB.set pl t).map V.ref)) := upd_same
  generalize upd B4 M (.lst ((asB.set pl t).map V.ref)) = B6 at *
  have PL6 : PL K B6 M ((rows.map ofR).set pl (r.1, ((z : Nat) : Int))) := ⟨_, e6, Paired.mapP hP5 fun _ _ y => Same.sqt s6 y⟩
  have sB6 : Same B0 B6 := (s1.trans s4).trans s6
  generalize hH6 : upd (upd (upd (upd H1 M (.lst (asB.map V.ref))) D (.lst [V.int 1, .int 2, .int 3, .int 0])) t (.tup [.str r.1, .int (z : Nat)])) M (.lst ((asB.set pl t).map V.ref)) = H6 at *
  have Mg : M ≠ g := fun e => by
    have nd := h5.nd
    rw [e] at nd
    exact absurd nd (by simp)
  have qB6 : B6 q = some (.lst (asB.map V.ref)) := s6 _ _ (s4 _ _ hLB)
  have hPB6 : Paired (fun p (r : PRow) => SqT K B6 p [.str r.1, .int r.2]) asB (rows.map ofR) := Paired.mapP (paired_to (f := ofR) (R := fun p (r : PRow) => SqT K B1 p [.str r.1, .int r.2]) hPB) fun _ _ y => Same.sqt (s4.trans s6) y
  refine ⟨_, rfl, _, rfl, _, rfl, rfl, q, _, rfl, SqL.of (h6.sub _ _ qB6), fun R1 hR1 => ?_⟩
  rw [← List.map_reverse]
  obtain ⟨s7, h7⟩ := (h6.new (o := .lst (asB.reverse.map V.ref)) hR1).give
  have R1g : R1 ≠ g := fun e => by
    have nd := (h6.new (o := .lst (asB.reverse.map V.ref)) hR1).nd
    rw [e] at nd
    exact absurd nd (by simp)
  have e7 : (upd B6 R1 (.lst (asB.reverse.map V.ref))) R1 = some (.lst (asB.reverse.map V.ref)) := upd_same
  generalize upd B6 R1 (.lst (asB.reverse.map V.ref)) = B7 at *
  have sB7 := sB6.trans s7
  generalize upd H6 R1 (.lst (asB.reverse.map V.ref)) = H7 at *
  have PL7 : PL K B7 R1 (rows.reverse.map ofR) := ⟨_, e7, by rw [List.map_reverse]; exact paired_rev (Paired.mapP hPB6 fun _ _ y => Same.sqt s7 y)⟩
  refine ⟨_, rfl, _, rfl, _, rfl, q, _, rfl, SqL.of (h7.sub _ _ (s7 _ _ qB6)), fun R2 hR2 => ?_⟩
  rw [cut_init, ← List.map_take, List.length_map]
  obtain ⟨s8, h8⟩ := (h7.new (o := .lst ((asB.take (asB.length - 1)).map V.ref)) hR2).give
  have R2g : R2 ≠ g := fun e => by
    have nd := (h7.new (o := .lst ((asB.take (asB.length - 1)).map V.ref)) hR2).nd
    rw [e] at nd
    exact absurd nd (by simp)
  have e8 : (upd B7 R2 (.lst ((asB.take (asB.length - 1)).map V.ref))) R2 = some (.lst ((asB.take (asB.length - 1)).map V.ref)) := upd_same
  generalize upd B7 R2 (.lst ((asB.take (asB.length - 1)).map V.ref)) = B8 at *
  have sB8 := sB7.trans s8
  generalize upd H7 R2 (.lst ((asB.take (asB.length - 1)).map V.ref)) = H8 at *
  have PL8 : PL K B8 R2 ((rows.map ofR).take (asB.length - 1)) := ⟨_, e8, paired_take _ (Paired.mapP hPB6 fun _ _ y => Same.sqt (s7.trans s8) y)⟩
  refine ⟨_, rfl, _, rfl, _, rfl, g, 4, rfl, h8.bag hl1, by decide, by decide, fun q5 as5 rows5 H9 rl5 d9 ne5 e5 P5 => ?_⟩
  obtain ⟨l9, B9, hl9, s9, h9, eB9⟩ := h8.dr0 d9
  have sB9 := sB8.trans s9
  have PL5 : PL K B9 q5 (rows5.map ofR) := by
    rw [eB9]
    exact PL.cut ⟨as5, e5, paired_to P5⟩ ne5 h9.r0
  refine ⟨(by show 5 ≤ sizeLine; decide), fun LL hLL => ?_⟩
  have h10 := (h9.new (o := .lst [V.ref R1, .ref R2, .ref M, .ref q, .ref q5]) hLL).swap
  refine ⟨_, rfl, g, 5, rfl, h10.bag hl9, by decide, by decide, fun i H11 hi d11 => ?_⟩
  obtain ⟨l11, B11, hl11, s11, h11, _⟩ := h10.dr0 d11
  have s9' := s9.trans s11
  have hsel : ∃ (q' : Addr) (ps' : List PRow), ([V.ref R1, .ref R2, .ref M, .ref q, .ref q5] : List V)[i]? = some (.ref q') ∧ PL K B11 q' ps' ∧ PrOk ps' ∧ q' ≠ g := by
    have pk := rows_prok ok
    match i, hi with
    | 0, _ => exact ⟨R1, _, rfl, PL7.mono (s8.trans s9'), pk.sub (fun r hr => by rw [List.map_reverse] at hr; exact List.mem_reverse.mp hr) (by rw [List.length_map, List.length_reverse]; omega), R1g⟩
    | 1, _ => exact ⟨R2, _, rfl, PL8.mono s9', pk.sub (fun r hr => List.mem_of_mem_take hr) (by rw [List.length_take, List.length_map]; omega), R2g⟩
    | 2, _ => exact ⟨M, _, rfl, PL6.mono ((s7.trans s8).trans s9'), pk.set (((nameOk_iff _).mp (ok.nm r (List.mem_of_getElem? hr'))).tx.mono (by decide)) (by show (-1 : Int) ≤ (z : Nat); omega) (by show ((z : Nat) : Int) ≤ _; omega), Mg⟩
    | 3, _ => exact ⟨q, _, rfl, (hB0.mono ((sB8.trans s9'))).pl, pk, hqg⟩
    | 4, _ => exact ⟨q5, _, rfl, PL5.mono s11, rows_prok rl5.ok, ne5⟩
  obtain ⟨q', ps', eq', hPL', hk', ne'⟩ := hsel
  refine ⟨LL, _, _, _, rfl, rfl, SqL.of h11.r1, atI_nat eq', ?_⟩
  have hdr : Dr g H H11 := h11.isDr hl11 (by simp) (by rw [hB]; exact sB9.trans s11)
  have hlen := hk'.len
  refine ⟨_, rfl, q', ps', rfl, hPL'.mono h11.sub, by omega, fun r hr => Nat.le_trans (hk'.tx r hr).1 (by decide), fun he H12 s12 => ?_, fun e he H12 v s12 iv => ?_⟩
  · obtain ⟨ok2, eps⟩ := bedE_ok he
    refine ⟨rfl, _, rfl, ?_⟩
    refine iteF ⟨_, rfl, hq q' (ps'.map toR) _ ok2 (hdr.same s12) ?_ ne'⟩
    exact PL.rl (by rw [← eps]; exact hPL'.mono (h11.sub.trans s12))
  · have hv := Er.noNone iv
    refine ⟨rfl, _, rfl, ?_⟩
    rw [decide_eq_false hv]
    exact iteT ⟨_, rfl, hq q rows _ ok (hdr.same s12) (hB0.mono (((sB9.trans s11).trans h11.sub).trans s12)) hqg⟩
end
end Sy
/-! _law_written -/
namespace Sy
open PySem PySem.Spec PyProof.Rows L2
theorem numb_pos {rows : List Sy.Row} {x : Str} : (0 < numb rows x ↔ 0 < ar rows x) ∧ (0 < ar rows x → numb rows x = (ar rows x : Nat)) := by
  cases e : isK rows x with
  | true =>
    rw [numb_ar e]
    exact ⟨⟨fun h => by omega, fun h => by omega⟩, fun _ => rfl⟩
  | false =>
    rw [(numb_no e).1, (numb_no e).2]
    exact ⟨⟨fun h => by omega, fun h => by omega⟩, fun h => by omega⟩
section
variable {P : Program} {w : World} {K : PySem.W.Frag} {mg : Str → Option Value} {base : Heap}
def spWrL (K : PySem.W.Frag) : Sp := fun vs H Q _ => ∃ (q r : Addr) (rows : List Sy.Row) (l : List Str), vs = [.ref q, .ref r] ∧ RL K H q rows ∧ SqT K H r (l.map V.str) ∧ (l.map (·.length)).sum + 2 * l.length ≤ 1000000 ∧ ∀ H', Same H H' → Q (.str (jT rows l)) H'
abbrev N_wrL : List Str := ["_law_rows_here", "_law_stump", "_law_pieces", "_law_waiting", "_law_word_here", "_law_many", "_law_turn", "_law_rest"]
theorem sc_wrL : FnScope N_wrL ["_law_rows_here", "_law_stump"] (defScope (top 52)) := ⟨rfl, rfl, rfl, by decide +kernel, rfl, by decide +kernel, by decide +kernel⟩
theorem sum_app (a b : List Str) : ((a ++ b).map (·.length)).sum = (a.map (·.length)).sum + (b.map (·.length)).sum := by rw [List.map_append, List.sum_append_nat]
theorem k_wrL (T : Txt K mg) (F : DF K mg "_law_written" 52) (c_law_number : Cal P w K mg base 1 "_law_number" ["_law_rows_here", "_law_word_here"] (spNum K)) : Cal P w K mg base 2 "_law_written" ["_law_rows_here", "_law_stump"] (spWrL K) := by
  refine cal_of F.1 F.2 sc_wrL (fun _ _ _ _ _ _ us e => match us, e with | [_, _], _ => rfl) (fun vs H Q E s => by obtain ⟨_, _, _, _, rfl, _⟩ := s; rfl) ?_
  intro cdv A outer s H vs Q E hr h
  obtain ⟨q, r, rows, l, rfl, hRL, hR, hsz, hq⟩ := h
  have sc := sc_wrL
  refine ⟨_, (pss_cons (ps_set (i := 2) sc.nd rfl (Or.inl rfl) (pe_lst pa_nil))
      (pss_cons (ps_set (i := 3) sc.nd rfl (Or.inl rfl) (pe_lst pa_nil))
      (pss_cons (ps_for (passes_of rfl) rfl (pi_tup (pv 1)) (pg_name (i := 4) sc.nd rfl (Or.inl rfl))
        (pss_cons (ps_expr (pe_bm PySem.F.plainAttrs_list PySem.F.slot_list_append PySem.F.type_list_append mt_append (pv 2) (pa_cons (pv 4) pa_nil)))
        (pss_cons (ps_set (i := 5) sc.nd rfl (Or.inl rfl) (pe_cal c_law_number hr (pa_cons (pv 0) (pa_cons (pv 4) pa_nil))))
        (pss_one (ps_if (pt_cmpR op_gt (pv 5) pe_int (nomark _))
          (pss_cons (ps_expr (pe_bm PySem.F.plainAttrs_list PySem.F.slot_list_append PySem.F.type_list_append mt_append (pv 2) (pa_cons pe_str pa_nil)))
          (pss_one (ps_expr (pe_bm PySem.F.plainAttrs_list PySem.F.slot_list_append PySem.F.type_list_append mt_append (pv 3) (pa_cons (pv 5) pa_nil)))))
          (pss_one (ps_for (passes_of rfl) rfl (pi_range1 rfl T.range (pa_cons (pe_callB call_len_seq (by rfl) T.len (by decide +kernel) (pa_cons (pv 3) pa_nil)) pa_nil)) (pg_name (i := 6) sc.nd rfl (Or.inl rfl))
            (pss_cons (ps_set (i := 7) sc.nd rfl (Or.inl rfl) (pe_op op_sub (pe_bm0 PySem.F.plainAttrs_list PySem.F.slot_list_pop PySem.F.type_list_pop mt_pop (pv 3)) pe_int))
            (pss_cons (ps_if (pt_cmpR op_gt (pv 7) pe_int (nomark _))
              (pss_cons (ps_expr (pe_bm PySem.F.plainAttrs_list PySem.F.slot_list_append PySem.F.type_list_append mt_append (pv 2) (pa_cons pe_str pa_nil)))
              (pss_cons (ps_expr (pe_bm PySem.F.plainAttrs_list PySem.F.slot_list_append PySem.F.type_list_append mt_append (pv 3) (pa_cons (pv 7) pa_nil)))
              (pss_one ps_break)))
              pss_nil)
            (pss_one (ps_expr (pe_bm PySem.F.plainAttrs_list PySem.F.slot_list_append PySem.F.type_list_append mt_append (pv 2) (pa_cons pe_str pa_nil)))))))))))))
      (pss_one (ps_ret (pe_join pe_str (pv 2))))))), ?_⟩
  refine ⟨by decide, fun PD hPD => ?_⟩
  have h1 := (Hs.start H).new (o := .lst []) hPD
  refine ⟨by decide, fun MD hMD => ?_⟩
  have h2 := (h1.new (o := .lst []) hMD).swap
  have lo : ("(" : Str).length = 1 := by decide +kernel
  have lc : (")" : Str).length = 1 := by decide +kernel
  have lm : ("," : Str).length = 1 := by decide +kernel
  have one : ∀ z : Str, ([z].map (·.length)).sum = z.length := fun z => by simp
  have hsz2 : ∀ i y, l[i]? = some y → ((l.take (i + 1)).map (·.length)).sum = ((l.take i).map (·.length)).sum + y.length := fun i y hy => by
    have : l.take (i + 1) = l.take i ++ [y] := by rw [List.take_succ, hy]; rfl
    rw [this, sum_app, one]
  have hszT : ∀ i, ((l.take i).map (·.length)).sum ≤ (l.map (·.length)).sum := fun i => by
    have := sum_app (l.take i) (l.drop i)
    rw [List.take_append_drop] at this
    omega
  -- pieces ws, open branches st
  let Iv : Nat → List Str → List Nat → Prop := fun i ws st => (ws.map (·.length)).sum + st.length ≤ ((l.take i).map (·.length)).sum + 2 * i ∧ ws.length + st.length ≤ 3 * i ∧ ∀ n ∈ st, 1 ≤ n
  refine ⟨_, rfl, r, rfl, ⟨_, Same.sqt h2.sub hR⟩, for_tup (K := K) (a := r) (xs := l.map V.str) (fun i σ H' => ∃ (t4 t5 t6 t7 : Option V) (B : Hp) (ws : List Str) (st : List Nat), σ = [some (.ref q), some (.ref r), some (.ref PD), some (.ref MD), t4, t5, t6, t7] ∧ Same H B ∧ Hs B [(PD, .lst (ws.map V.str)), (MD, .lst (vN st.reverse))] H' ∧ Iv i ws st ∧ ws ++ jn rows st (l.drop i) = jn rows [] l)
    ⟨none, none, none, none, H, [], [], rfl, Same.refl H, h2, ⟨Nat.le_refl _, Nat.le_refl _, fun _ z => (nomatch z)⟩, rfl⟩ (fun _ _ _ _ ⟨_, _, _, _, _, _, _, _, s, h, _⟩ => Same.sqt (s.trans h.sub) hR) ?_ ?_⟩
  · rintro i v σ H1 hv ⟨t4, t5, t6, t7, B, ws, st, rfl, sB, hh, ⟨hI1, hI2, hst⟩, hj⟩
    obtain ⟨y, hy, rfl⟩ := map_at hv
    have hi : i < l.length := (List.getElem?_eq_some_iff.mp hy).1
    have ym := List.mem_of_getElem? hy
    have hT := hszT (i + 1)
    have hT2 := hsz2 i y hy
    have li : i ≤ 500000 := by omega
    rw [drop_of hy, jn] at hj
    have big : ∀ n : Nat, n ≤ 3 * i + 3 → n + 1 ≤ sizeLine := fun n hn => by rw [sizeLine_eq]; omega
    refine ⟨_, rfl, .inl ⟨rfl, _, SqL.of hh.r0⟩, _, rfl, PD, _, _, rfl, rfl, hh.r0, by rw [List.length_map]; exact big _ (by omega), ?_⟩
    have g1 := hh.w0 (o' := .lst (ws.map V.str ++ [.str y]))
    have e1 : ws.map V.str ++ [.str y] = (ws ++ [y]).map V.str := by rw [List.map_append]; rfl
    rw [e1] at g1 ⊢
    have hs1 : ((ws ++ [y]).map (·.length)).sum = (ws.map (·.length)).sum + y.length := by rw [sum_app, one]
    have hlen1 : (ws ++ [y]).length = ws.length + 1 := by simp
    have hj : (ws ++ [y]) ++ (if 0 < ar rows y then ("(" : Str) :: jn rows (ar rows y :: st) (l.drop (i + 1)) else (clJ st).1 ++ jn rows (clJ st).2 (l.drop (i + 1))) = jn rows [] l := by rw [List.append_assoc]; exact hj
    generalize ws ++ [y] = ws1 at *
    obtain ⟨np1, np2⟩ := numb_pos (rows := rows) (x := y)
    refine ⟨_, rfl, _, rfl, q, rows, y, rfl, hRL.mono (sB.trans g1.sub), ?_⟩
    refine ⟨_, rfl, _, _, rfl, rfl, _, rfl, if_dec (fun c => ?_) (fun c => ?_)⟩
    · have c : 0 < ar rows y := np1.mp c
      rw [if_pos c] at hj
      refine ⟨_, rfl, .inl ⟨rfl, _, SqL.of g1.r0⟩, PD, _, _, rfl, rfl, g1.r0, by rw [List.length_map]; exact big _ (by omega), ?_⟩
      have g2 := g1.w0 (o' := .lst (ws1.map V.str ++ [.str "("]))
      have e2 : ws1.map V.str ++ [.str "("] = (ws1 ++ [("(" : Str)]).map V.str := by rw [List.map_append]; rfl
      rw [e2] at g2 ⊢
      rw [np2 c]
      refine ⟨_, rfl, .inl ⟨rfl, _, SqL.of g2.r1⟩, _, rfl, MD, _, _, rfl, rfl, g2.r1, by rw [vN, List.length_map, List.length_reverse]; exact big _ (by omega), ?_⟩
      refine ⟨_, _, _, _, B, ws1 ++ [("(" : Str)], ar rows y :: st, rfl, sB, ?_, ⟨?_, ?_, fun n hn => ?_⟩, by rw [List.append_assoc]; exact hj⟩
      · rw [List.reverse_cons, vN_snoc]
        exact g2.w1
      · rw [sum_app, one, lo, List.length_cons]
        omega
      · rw [List.length_append, List.length_cons]
        show ws1.length + 1 + (st.length + 1) ≤ _
        omega
      · rcases List.mem_cons.mp hn with rfl | hn
        · exact c
        · exact hst n hn
    · have c : ¬ 0 < ar rows y := fun z => c (np1.mpr z)
      rw [if_neg c] at hj
      have eln : (vN st.reverse).length = st.length := by rw [vN, List.length_map, List.length_reverse]
      refine ⟨_, rfl, MD, _, rfl, .inl (SqL.of g1.r1), _, rfl, by omega, by omega, for_rng (n := ((vN st.reverse).length : Int).toNat)
        (fun j σ H' => ∃ (t6 t7 : Option V) (ws : List Str) (st' : List Nat), σ = [some (.ref q), some (.ref r), some (.ref PD), some (.ref MD), some (.str y), some (.int (numb rows y)), t6, t7] ∧ Hs B [(PD, .lst (ws.map V.str)), (MD, .lst (vN st'.reverse))] H' ∧ st'.length + j = st.length ∧ (ws.map (·.length)).sum + st'.length ≤ ((l.take (i + 1)).map (·.length)).sum + 2 * i ∧ ws.length + st'.length ≤ 3 * i + 1 ∧ ws ++ ((clJ st').1 ++ jn rows (clJ st').2 (l.drop (i + 1))) = jn rows [] l ∧ ∀ n ∈ st', 1 ≤ n)
        ⟨t6, t7, ws1, st, rfl, g1, rfl, by omega, by omega, hj, hst⟩ ?_ ?_⟩
      · clear hj hst hI1 hI2 hh g1 hs1 hlen1 e1
        rintro j σ H2 hjn ⟨t6, t7, ws, st', rfl, g, hsj, hI1, hI2, hj, hst⟩
        rw [eln] at hjn
        have hjn : j < st.length := by omega
        cases st' with
        | nil =>
          have : ([] : List Nat).length = 0 := rfl
          omega
        | cons z ini =>
          have hz := hst z List.mem_cons_self
          have em : vN (z :: ini).reverse = vN ini.reverse ++ [.int (z : Nat)] := by rw [List.reverse_cons, vN_snoc]
          have hlc : (z :: ini).length = ini.length + 1 := rfl
          rw [clJ] at hj
          refine ⟨_, rfl, .inl ⟨rfl, _, SqL.of g.r1⟩, MD, _, .int (z : Nat), rfl, rfl, g.r1, by rw [em]; simp, ?_⟩
          rw [em, List.dropLast_concat]
          rw [em] at g
          have g2 := g.w1 (o' := .lst (vN ini.reverse))
          refine ⟨_, _, rfl, rfl, ?_⟩
          refine ⟨_, rfl, _, _, rfl, rfl, _, rfl, if_dec (fun c2 => ?_) (fun c2 => ?_)⟩
          · have c2 : z ≠ 1 := by have c2 : (0 : Int) < (z : Nat) - 1 := c2; omega
            rw [if_neg c2] at hj
            refine ⟨_, rfl, .inl ⟨rfl, _, SqL.of g2.r0⟩, PD, _, _, rfl, rfl, g2.r0, by rw [List.length_map]; exact big _ (by omega), ?_⟩
            have g3 := g2.w0 (o' := .lst (ws.map V.str ++ [.str ","]))
            have e3 : ws.map V.str ++ [.str ","] = (ws ++ [("," : Str)]).map V.str := by rw [List.map_append]; rfl
            rw [e3] at g3 ⊢
            refine ⟨_, rfl, .inl ⟨rfl, _, SqL.of g3.r1⟩, _, rfl, MD, _, _, rfl, rfl, g3.r1, by rw [vN, List.length_map, List.length_reverse]; exact big _ (by omega), ?_⟩
            refine ⟨_, _, _, _, B, ws ++ [("," : Str)], (z - 1) :: ini, rfl, sB, ?_, ⟨?_, ?_, fun n hn => ?_⟩, by rw [List.append_assoc]; exact hj⟩
            · rw [List.reverse_cons, vN_snoc, show (((z - 1 : Nat) : Int)) = (z : Nat) - 1 by omega]
              exact g3.w1
            · rw [sum_app, one, lm, List.length_cons]
              omega
            · rw [List.length_append, List.length_cons]
              show ws.length + 1 + (ini.length + 1) ≤ _
              omega
            · rcases List.mem_cons.mp hn with rfl | hn
              · omega
              · exact hst n (List.mem_cons_of_mem _ hn)
          · have c2 : z = 1 := by have c2 : ¬ (0 : Int) < (z : Nat) - 1 := c2; omega
            rw [if_pos c2] at hj
            refine ⟨_, rfl, .inl ⟨rfl, _, SqL.of g2.r0⟩, PD, _, _, rfl, rfl, g2.r0, by rw [List.length_map]; exact big _ (by omega), ?_⟩
            have g3 := g2.w0 (o' := .lst (ws.map V.str ++ [.str ")"]))
            have e3 : ws.map V.str ++ [.str ")"] = (ws ++ [(")" : Str)]).map V.str := by rw [List.map_append]; rfl
            rw [e3] at g3 ⊢
            refine ⟨_, _, ws ++ [(")" : Str)], ini, rfl, g3, by omega, ?_, ?_, by rw [List.append_assoc]; exact hj, fun n hn => hst n (List.mem_cons_of_mem _ hn)⟩
            · rw [sum_app, one, lc]
              omega
            · rw [List.length_append]
              show ws.length + 1 + ini.length ≤ _
              omega
      · rintro σ H2 ⟨t6, t7, ws, st', rfl, g, hsj, hI1', hI2', hj', hst'⟩
        rw [eln] at hsj
        have e0 : st' = [] := List.eq_nil_of_length_eq_zero (by omega)
        subst e0
        exact ⟨_, _, _, _, B, ws, [], rfl, sB, g, ⟨by omega, by omega, hst'⟩, hj'⟩
  · rintro σ H1 ⟨t4, t5, t6, t7, B, ws, st, rfl, sB, hh, ⟨hI1, hI2, hst⟩, hj⟩
    rw [List.length_map] at hI1 hI2 hj
    rw [List.drop_length, jn, List.append_nil] at hj
    rw [List.take_length] at hI1
    refine ⟨⟨_, rfl⟩, _, rfl, _, PD, ws, rfl, rfl, .inl (SqL.of hh.r0), ?_, ?_⟩
    · have : (Str.empty : Str).length = 0 := rfl
      show _ + ws.length * (Str.empty : Str).length ≤ _
      rw [this]
      omega
    · rw [hj]
      exact hq _ (sB.trans hh.sub)
end
end Sy
/-! _law_stump_text_due -/
namespace Sy
open PySem PySem.Spec PyProof.Rows L2
theorem sum_filter (f : Str → Bool) : ∀ l : List Str, ((l.filter f).map (·.length)).sum + 2 * (l.filter f).length ≤ (l.map (·.length)).sum + 2 * l.length
  | [] => Nat.le_refl _
  | y :: l => by
    have ih := sum_filter f l
    rw [List.filter_cons]
    split
    · simp only [List.map_cons, List.sum_cons, List.length_cons]
      omega
    · simp only [List.map_cons, List.sum_cons, List.length_cons]
      omega
theorem rep1_len (x : Str) (c d : Nat) : (Txt.replace x ⟨#[c]⟩ ⟨#[d]⟩).length = x.length := by
  rw [TL.len_tl, tl_replace1, List.length_map, ← TL.len_tl]
theorem words_len (x : Str) : ((wordsOf x).map (·.length)).sum + 2 * (wordsOf x).length ≤ 2 * (x.length + 1) := by
  unfold wordsOf
  refine Nat.le_trans (sum_filter _ _) ?_
  have w := split_weight (Txt.replace (Txt.replace (Txt.replace x "(" " ") ")" " ") "," " ") " " (by decide)
  have e1 : (Txt.replace x "(" " ").length = x.length := rep1_len x 40 32
  have e2 : (Txt.replace (Txt.replace x "(" " ") ")" " ").length = (Txt.replace x "(" " ").length := rep1_len _ 41 32
  have e3 : (Txt.replace (Txt.replace (Txt.replace x "(" " ") ")" " ") "," " ").length = (Txt.replace (Txt.replace x "(" " ") ")" " ").length := rep1_len _ 44 32
  omega
section
variable {P : Program} {w : World} {K : PySem.W.Frag} {mg : Str → Option Value} {base : Heap}
def spStD (K : PySem.W.Frag) : Sp := fun vs H Q _ => ∃ (q : Addr) (x : Str) (wh : Bool) (rows : List Sy.Row), vs = [.ref q, .str x, .bl wh] ∧ RL K H q rows ∧ RowsOk rows ∧ x.length ≤ 40000 ∧
  (lwE rows wh x = none → ∀ H' v, Same H H' → Im K H' v (dTold (DS (wordsOf x))) → Q v H') ∧ ∀ e, lwE rows wh x = some e → DueQ K H Q e
abbrev N_stD : List Str := ["_law_rows_here", "_law_text", "_law_with_holes", "_law_plain", "_law_stump", "_law_word_here"]
theorem sc_stD : FnScope N_stD ["_law_rows_here", "_law_text", "_law_with_holes"] (defScope (top 53)) := ⟨rfl, rfl, rfl, by decide +kernel, rfl, by decide +kernel, by decide +kernel⟩
theorem k_stD (T : Txt K mg) (F : DF K mg "_law_stump_text_due" 53) (c_law_fault : Cal P w K mg base 2 "_law_fault" ["_law_rows_here", "_law_plant_here", "_law_with_holes"] (spFaultL K)) (c_law_written : Cal P w K mg base 2 "_law_written" ["_law_rows_here", "_law_stump"] (spWrL K)) :
    Cal P w K mg base 3 "_law_stump_text_due" ["_law_rows_here", "_law_text", "_law_with_holes"] (spStD K) := by
  refine cal_ofT F.1 F.2 sc_stD (by decide +kernel) (by decide) (fun _ _ _ _ _ _ us e => match us, e with | [_, _, _], _ => rfl) (fun vs H Q E s => by obtain ⟨_, _, _, _, rfl, _⟩ := s; rfl) ?_
  intro cdv A outer s H vs Q E hr h
  obtain ⟨q, x, wh, rows, rfl, hRL, ok, hx, hq, hE⟩ := h
  have sc := sc_stD
  refine ⟨_, (psst_cons (pst_set (i := 3) sc.nd rfl (Or.inl rfl) (CwR.pet_replT (CwR.pet_replT (CwR.pet_replC (pv 1)))))
      (PSsT.of (pss_cons (ps_set (i := 4) sc.nd rfl (Or.inl rfl) (pe_callTy call_tuple_of (by rfl) T.tuple (by decide +kernel) (pa_cons (pe_lc (own := [("_law_word_here", 5)]) (g := gName 5) rfl sc.nd (pi_list (pe_split (pv 3) pe_str)) (blkOk_by (N := N_stD) (sc := defScope (top 53)) (by decide +kernel)) (fun _ _ _ _ _ => (pg_name (i := 5) sc.nd rfl (Or.inl rfl))) (fun _ _ _ _ _ => (pts_one (pt_cmpR op_ne (pv 5) pe_str (nomark _)))) (fun _ _ _ _ _ => (pv 5))) pa_nil)))
      (pss_cons (ps_if (PW.pt (pw_or (pt_cmpR op_ge (pe_cal c_law_fault hr (pa_cons (pv 0) (pa_cons (pv 4) (pa_cons pe_bl pa_nil)))) pe_int (nomark _)) (pw_or1 (pt_cmpR op_ne (pe_cal c_law_written hr (pa_cons (pv 0) (pa_cons (pv 4) pa_nil))) (pv 1) (nomark _)))))
        (pss_one (ps_ret (pe_tup (pa_cons pe_str (pa_cons (pv 1) pa_nil)))))
        pss_nil)
      (pss_cons (ps_if (PW.pt (pw_and (pt_cmpR op_in_seq pe_str (pv 4) rfl) (pw_and1 (pt_not (pt_val (pv 2))))))
        (pss_one (ps_ret (pe_tup (pa_cons pe_str (pa_cons (pv 1) pa_nil)))))
        pss_nil)
      (pss_cons (ps_if (pt_cmpR op_gt (pe_callB call_len_seq (by rfl) T.len (by decide +kernel) (pa_cons (pv 4) pa_nil)) pe_int (nomark _))
        (pss_one (ps_ret (pe_tup (pa_cons pe_str (pa_cons pe_str (pa_cons pe_int pa_nil))))))
        pss_nil)
      (pss_one (ps_ret (pe_tup (pa_cons pe_str (pa_cons (pv 4) pa_nil))))))))))), ?_⟩
  have e1 : (Txt.replace x "(" " ").length = x.length := rep1_len x 40 32
  have e2 : (Txt.replace (Txt.replace x "(" " ") ")" " ").length = (Txt.replace x "(" " ").length := rep1_len _ 41 32
  have e3 : (Txt.replace (Txt.replace (Txt.replace x "(" " ") ")" " ") "," " ").length = (Txt.replace (Txt.replace x "(" " ") ")" " ").length := rep1_len _ 44 32
  have zl : (" " : Str).length = 1 := by decide +kernel
  have wl := words_len x
  have lr := split_le (Txt.replace (Txt.replace (Txt.replace x "(" " ") ")" " ") "," " ") " "
  have ew : wordsOf x = (Txt.split (Txt.replace (Txt.replace (Txt.replace x "(" " ") ")" " ") "," " ") " ").filter fun y : Str => decide (y ≠ ("" : Str)) := rfl
  refine ⟨_, rfl, x, rfl, by rw [zl]; omega, _, rfl, by rw [zl]; omega, _, rfl, by rw [zl]; omega, ?_⟩
  refine ⟨_, rfl, ⟨_, rfl⟩, _, " ", rfl, rfl, by decide, by rw [sizeLine_eq]; omega, fun S hS => ?_⟩
  generalize Txt.split (Txt.replace (Txt.replace (Txt.replace x "(" " ") ")" " ") "," " ") " " = parts at *
  have h1 := (Hs.start H).new (o := .lst (parts.map V.str)) hS
  refine ⟨S, rfl, ⟨_, SqL.of h1.r0⟩, fun D hD => lc_it walk_list (fun i H' => Hs H [(D, .lst (((parts.take i).filter fun y : Str => decide (y ≠ ("" : Str))).map V.str)), (S, .lst (parts.map V.str))] H') (h1.new hD) (fun _ _ _ z => SqL.of z.r1) ?_ ?_⟩
  · rintro i v H2 _ hi h2 ⟨rfl, hv⟩
    obtain ⟨y, hy, rfl⟩ := map_at hv
    have et : parts.take (i + 1) = parts.take i ++ [y] := by rw [List.take_succ, hy]; rfl
    have hl : ((parts.take i).filter fun y : Str => decide (y ≠ ("" : Str))).length ≤ 50000 := by
      have := List.length_filter_le (fun y : Str => decide (y ≠ ("" : Str))) (parts.take i)
      rw [List.length_take] at this
      omega
    refine ⟨rfl, _, rfl, rfl, _, rfl, if_ndec (fun c => ?_) (fun c => ?_)⟩
    · have c : y ≠ "" := fun z => c (by rw [z])
      refine ⟨_, rfl, _, h2.r0, by rw [List.length_map, sizeLine_eq]; omega, ?_⟩
      rw [et, List.filter_append, List.map_append]
      have : ([y].filter fun y : Str => decide (y ≠ ("" : Str))) = [y] := by simp [c]
      rw [this]
      exact h2.w0
    · have c : y = "" := V.str.inj c
      rw [et, List.filter_append]
      have : ([y].filter fun y : Str => decide (y ≠ ("" : Str))) = [] := by simp [c]
      rw [this, List.append_nil]
      exact h2
  intro H2 h2
  rw [List.length_map, List.take_length, ← ew] at h2
  refine ⟨D, _, rfl, .inl ⟨SqL.of h2.r0, fun p hp => ?_⟩⟩
  have s1 : Same H (upd H2 p (.tup ((wordsOf x).map V.str))) := h2.sub.trans (up_same hp)
  have hP : SqT K (upd H2 p (.tup ((wordsOf x).map V.str))) p ((wordsOf x).map V.str) := SqT.of upd_same
  generalize upd H2 p (.tup ((wordsOf x).map V.str)) = H3 at *
  have txt : ∀ {H' : Hp}, lwE rows wh x = some (.text x) → Same H H' → (2 ≤ sizeLine ∧ ∀ t, H' t = none → Q (.ref t) (upd H' t (.tup [.str "text", .str x]))) := fun {H'} he s' =>
    ⟨by decide, fun t ht => hE _ he _ _ (s'.trans (up_same ht)) (.tup (SqT.of upd_same) (.cons (.str _) (.cons (.str _) .nil)))⟩
  refine ⟨_, rfl, _, rfl, q, p, true, rows, wordsOf x, rfl, hRL.mono s1, hP, no_hole ok, by omega, ?_⟩
  refine ⟨_, _, rfl, rfl, _, rfl, if_dec (fun c => ?_) (fun c => ?_)⟩
  · have c : 0 ≤ fa rows ["*"] 1 0 (wordsOf x) := c
    exact ⟨_, rfl, txt (by unfold lwE; rw [if_pos (.inl c)]) s1⟩
  have c : ¬ 0 ≤ fa rows ["*"] 1 0 (wordsOf x) := c
  refine ⟨_, rfl, _, rfl, q, p, rows, wordsOf x, rfl, hRL.mono s1, hP, by omega, fun H4 s4 => ?_⟩
  have s14 := s1.trans s4
  refine ⟨_, rfl, rfl, _, rfl, if_ndec (fun c2 => ?_) (fun c2 => ?_)⟩
  · have c2 : jT rows (wordsOf x) ≠ x := fun z => c2 (by rw [z])
    exact ⟨_, rfl, txt (by unfold lwE; rw [if_pos (.inr c2)]) s14⟩
  have c2 : jT rows (wordsOf x) = x := V.str.inj c2
  have nc : ¬ (0 ≤ fa rows ["*"] 1 0 (wordsOf x) ∨ jT rows (wordsOf x) ≠ x) := fun z => z.elim c fun z => z c2
  have hP4 := Same.sqt s4 hP
  have rest : ¬ (("*" : Str) ∈ wordsOf x ∧ wh = false) → ∀ D : Ends, D.rt = Q → True := fun _ _ _ => trivial
  refine ⟨_, rfl, p, _, rfl, .inr hP4, rfl, all_strs _, _, rfl, ?_⟩
  rw [inV_strs]
  refine if_dec (fun c3 => ?_) (fun c3 => ?_)
  · refine ⟨_, rfl, _, rfl, if_nbool (fun c4 => ?_) (fun c4 => ?_)⟩
    · exact ⟨_, rfl, txt (by unfold lwE; rw [if_neg nc, if_pos ⟨c3, c4⟩]) s14⟩
    · refine ⟨_, rfl, p, _, rfl, .inr hP4, _, _, rfl, rfl, _, rfl, if_dec (fun c5 => ?_) (fun c5 => ?_)⟩
      · rw [List.length_map] at c5
        refine ⟨(by show 3 ≤ sizeLine; decide), fun t ht => hE (.many "knots" 2000) ?_ _ _ (s14.trans (up_same ht)) (.tup (SqT.of upd_same) (.cons (.str _) (.cons (.str _) (.cons (.int _) .nil))))⟩
        unfold lwE
        rw [if_neg nc, if_neg (fun z => by rw [c4] at z; cases z.2), if_pos (by omega)]
      · rw [List.length_map] at c5
        refine ⟨_, rfl, (by show 2 ≤ sizeLine; decide), fun t ht => hq ?_ _ _ (s14.trans (up_same ht)) (.tup (SqT.of upd_same) (.cons (.str _) (.cons (Im.strs (Same.sqt (up_same ht) hP4)) .nil)))⟩
        unfold lwE
        rw [if_neg nc, if_neg (fun z => by rw [c4] at z; cases z.2), if_neg (by omega)]
  · refine ⟨_, rfl, p, _, rfl, .inr hP4, _, _, rfl, rfl, _, rfl, if_dec (fun c5 => ?_) (fun c5 => ?_)⟩
    · rw [List.length_map] at c5
      refine ⟨(by show 3 ≤ sizeLine; decide), fun t ht => hE (.many "knots" 2000) ?_ _ _ (s14.trans (up_same ht)) (.tup (SqT.of upd_same) (.cons (.str _) (.cons (.str _) (.cons (.int _) .nil))))⟩
      unfold lwE
      rw [if_neg nc, if_neg (fun z => c3 z.1), if_pos (by omega)]
    · rw [List.length_map] at c5
      refine ⟨_, rfl, (by show 2 ≤ sizeLine; decide), fun t ht => hq ?_ _ _ (s14.trans (up_same ht)) (.tup (SqT.of upd_same) (.cons (.str _) (.cons (Im.strs (Same.sqt (up_same ht) hP4)) .nil)))⟩
      unfold lwE
      rw [if_neg nc, if_neg (fun z => c3 z.1), if_neg (by omega)]
end
end Sy
/-! _law_some_stump -/
namespace Sy
open PySem PySem.Spec PyProof.Rows L2
theorem fa_leafs {rows : List Sy.Row} {lv : List Str} {x : Str} (hk : isK rows x = true) (ha : ar rows x = 0) : ∀ (n : Nat) {m i : Nat} {v : List Str}, n ≤ m → fa rows lv m i (List.replicate n x ++ v) = fa rows lv (m - n) (i + n) v
  | 0, _, _, _, _ => rfl
  | n + 1, m, i, v, h => by
    rw [List.replicate_succ, List.cons_append, fa, if_neg (by omega), if_neg (fun z => by rw [hk] at z; cases z.1), ha, fa_leafs hk ha n (by omega), show m - 1 + 0 - n = m - (n + 1) by omega, show i + 1 + n = i + (n + 1) by omega]
theorem fa_wides {rows : List Sy.Row} {lv : List Str} {x : Str} (hk : isK rows x = true) : ∀ (n : Nat) {m i : Nat} {v : List Str}, 1 ≤ ar rows x → 1 ≤ m → fa rows lv m i (List.replicate n x ++ v) = fa rows lv (m + n * (ar rows x - 1)) (i + n) v
  | 0, m, i, v, _, _ => by simp
  | n + 1, m, i, v, ha, h => by
    rw [List.replicate_succ, List.cons_append, fa, if_neg (by omega), if_neg (fun z => by rw [hk] at z; cases z.1), fa_wides hk n ha (by omega), Nat.succ_mul, show m - 1 + ar rows x + n * (ar rows x - 1) = m + (n * (ar rows x - 1) + (ar rows x - 1)) by omega, show i + 1 + n = i + (n + 1) by omega]
theorem fa_last {rows : List Sy.Row} {x : Str} {i : Nat} (hk : isK rows x = true ∨ x ∈ [("*" : Str)]) (ha : ar rows x = 0) : fa rows ["*"] 1 i [x] < 0 := by
  rw [fa, if_neg (by decide), if_neg (fun z => hk.elim (fun a => by rw [a] at z; cases z.1) fun a => z.2 a), ha, fa, if_neg (by decide)]
  decide
theorem fa_comb {rows : List Sy.Row} {x y z : Str} (hx : isK rows x = true) (hxa : 1 ≤ ar rows x) (hy : isK rows y = true) (hya : ar rows y = 0) (hz : isK rows z = true ∨ z ∈ [("*" : Str)]) (hza : ar rows z = 0) : ∀ (n : Nat) {i : Nat}, fa rows ["*"] 1 i ((List.replicate n ([x] ++ List.replicate (ar rows x - 1) y)).flatten ++ [z]) < 0
  | 0, i => fa_last hz hza
  | n + 1, i => by
    rw [List.replicate_succ, List.flatten_cons, List.append_assoc, List.append_assoc]
    show fa rows ["*"] 1 i (x :: (List.replicate (ar rows x - 1) y ++ _)) < 0
    rw [fa, if_neg (by decide), if_neg (fun z => by rw [hx] at z; cases z.1), fa_leafs hy hya _ (by omega), show 1 - 1 + ar rows x - (ar rows x - 1) = 1 by omega]
    exact fa_comb hx hxa hy hya hz hza n
theorem fa_chain {rows : List Sy.Row} {x y z : Str} (hx : isK rows x = true) (hxa : 1 ≤ ar rows x) (hy : isK rows y = true) (hya : ar rows y = 0) (hz : isK rows z = true ∨ z ∈ [("*" : Str)]) (hza : ar rows z = 0) (n : Nat) :
    fa rows ["*"] 1 0 (List.replicate n x ++ List.replicate (n * (ar rows x - 1)) y ++ [z]) < 0 := by
  rw [List.append_assoc, fa_wides hx n hxa (by decide), fa_leafs hy hya _ (by omega), show 1 + n * (ar rows x - 1) - n * (ar rows x - 1) = 1 by omega]
  exact fa_last hz hza
theorem rep_any {K : PySem.W.Frag} {H : Hp} {a : Addr} {m : List Str} {k : Nat} {Q : VK} (h : SqT K H a (m.map V.str)) (hs : m.length * k ≤ 1000000) (hm : m.length ≤ 1000000) (hk : k ≤ 1000000) (q : ∀ p H', Same H H' → SqT K H' p ((List.replicate k m).flatten.map V.str) → Q (.ref p) H') : rRepG K (.ref a) (.int (k : Nat)) H Q := by
  refine ⟨a, _, _, rfl, rfl, h, by omega, by omega, by rw [List.length_map, Int.toNat_natCast]; exact hs, by rw [List.length_map]; exact hm, fun c => ?_, fun _ p hp => ?_⟩
  · refine q a H (Same.refl H) ?_
    have : (List.replicate k m).flatten = m := by
      rcases c with c | c
      · rw [List.map_eq_nil_iff] at c
        subst c
        simp
      · have : k = 1 := by omega
        subst this
        simp
    rw [this]
    exact h
  · refine q p _ (up_same hp) (SqT.of ?_)
    have : (List.replicate k m).flatten.map V.str = (List.replicate ((k : Nat) : Int).toNat (m.map V.str)).flatten := by
      rw [Int.toNat_natCast, List.map_flatten, List.map_replicate]
    rw [this]
    exact upd_same
theorem lay_RowsL {rows : List Sy.Row} (h : ∀ r ∈ rows, PyData.strOk r.1 = true) : SeqAt.shaped (.list (rows.map RowD)) = true := by
  have := lay_rows h
  unfold SeqAt.shaped
  simp only [PyData.canLay0, PyData.depth]
  rw [this.1, Bool.true_and]
  exact decide_eq_true (by omega)
theorem Wd.sok {x : Str} (h : Wd x) : PyData.strOk x = true := by
  unfold PyData.strOk
  rw [← Array.all_toList, List.all_eq_true]
  intro c hc
  have := (h.2.2 c hc).2
  exact decide_eq_true (by omega)
theorem div_nat {m k : Nat} (hm : 1 ≤ m) (hk : 1 ≤ k) : ∃ n : Nat, ((m : Int) - 1) / (k : Int) = (n : Int) ∧ n * k + 1 ≤ m := by
  refine ⟨(m - 1) / k, ?_, ?_⟩
  · rw [show (m : Int) - 1 = ((m - 1 : Nat) : Int) by omega]
    rfl
  · have := Nat.div_mul_le_self (m - 1) k
    omega
section
variable {P : Program} {w : World} {K : PySem.W.Frag} {mg : Str → Option Value} {base : Heap}
def spSome (K : PySem.W.Frag) : Sp := fun vs H Q _ => ∃ (g q : Addr) (rows : List Sy.Row), vs = [.ref g, .ref q] ∧ Bag g H ∧ q ≠ g ∧ RL K H q rows ∧ RowsOk rows ∧
  ∀ l p H', l.length ≤ 2002 → fa rows ["*"] 1 0 l < 0 → Dr g H H' → SqT K H' p (l.map V.str) → Q (.ref p) H'
abbrev N_some : List Str := ["_law_bag_here", "_law_rows_here", "_law_row", "_law_leaf", "_law_last", "_law_many", "_law_wide"]
theorem sc_some : FnScope N_some ["_law_bag_here", "_law_rows_here"] (defScope (top 54)) := ⟨rfl, rfl, rfl, by decide +kernel, rfl, by decide +kernel, by decide +kernel⟩
theorem k_some (T : Txt K mg) (F : DF K mg "_law_some_stump" 54) (c_law_draw : Cal P w K mg base 1 "_law_draw" ["_law_bag_here", "_law_size"] spDraw)
    (c_law_plant : Cal P w K mg base 2 "_law_plant" ["_law_bag_here", "_law_rows_here", "_law_most", "_law_with_holes"] (spPlantL K)) : Cal P w K mg base 3 "_law_some_stump" ["_law_bag_here", "_law_rows_here"] (spSome K) := by
  refine cal_of F.1 F.2 sc_some (fun _ _ _ _ _ _ us e => match us, e with | [_, _], _ => rfl) (fun vs H Q E s => by obtain ⟨_, _, _, rfl, _⟩ := s; rfl) ?_
  intro cdv A outer s H vs Q E hr h
  obtain ⟨g, q, rows, rfl, hg, hqg, hRL, ok, hq⟩ := h
  have sc := sc_some
  refine ⟨_, (pss_cons (ps_set (i := 3) sc.nd rfl (Or.inl rfl) (pe_ix ix_list (pe_lc (own := [("_law_row", 2)]) (g := gName 2) rfl sc.nd (pi_list (pv 1)) (blkOk_by (N := N_some) (sc := defScope (top 54)) (by decide +kernel)) (fun _ _ _ _ _ => (pg_name (i := 2) sc.nd rfl (Or.inl rfl))) (fun _ _ _ _ _ => (pts_one (pt_cmpR op_eq (pe_ixTK K rfl (pv 2) pe_int (fun _ _ => rfl)) pe_int (nomark _)))) (fun _ _ _ _ _ => (pe_ixTK K rfl (pv 2) pe_int (fun _ _ => rfl)))) pe_int (fun _ _ => rfl)))
      (pss_cons (ps_set (i := 4) sc.nd rfl (Or.inl rfl) (pe_ix ix_list (pe_lst (pa_cons (pv 3) (pa_cons pe_str pa_nil))) (pe_cal c_law_draw hr (pa_cons (pv 0) (pa_cons pe_int pa_nil))) (fun _ _ => rfl)))
      (pss_cons (ps_if (pt_cmpR op_gt (pe_cal c_law_draw hr (pa_cons (pv 0) (pa_cons pe_int pa_nil))) pe_int (nomark _))
        (pss_one (ps_ret (pe_cal c_law_plant hr (pa_cons (pv 0) (pa_cons (pv 1) (pa_cons (pe_op op_add pe_int (pe_cal c_law_draw hr (pa_cons (pv 0) (pa_cons pe_int pa_nil)))) (pa_cons (pe_cmpR op_eq (pv 4) pe_str (nomark _)) pa_nil)))))))
        pss_nil)
      (pss_cons (ps_set (i := 5) sc.nd rfl (Or.inl rfl) (pe_ix ix_list (pe_lst (pa_cons pe_int (pa_cons pe_int (pa_cons pe_int (pa_cons (pe_op op_add pe_int (pe_cal c_law_draw hr (pa_cons (pv 0) (pa_cons pe_int pa_nil)))) pa_nil))))) (pe_cal c_law_draw hr (pa_cons (pv 0) (pa_cons pe_int pa_nil))) (fun _ _ => rfl)))
      (pss_cons (ps_setLc (i := 6) (own := [("_law_row", 2)]) (g := gName 2) rfl sc.nd rfl rfl (sw_true rfl rfl rfl (by decide +kernel)) (pi_list (pv 1)) (blkOk_by (N := N_some) (sc := defScope (top 54)) (by decide +kernel)) (fun _ _ _ _ _ => (pg_name (i := 2) sc.nd rfl (Or.inl rfl))) (fun _ _ _ _ _ => (pts_one (pt_cmpR op_gt (pe_ixTK K rfl (pv 2) pe_int (fun _ _ => rfl)) pe_int (nomark _)))) (fun _ _ _ _ _ => (pv 2)))
      (pss_cons (ps_if (pt_cmpR (op_eqD hr.units) (pv 6) (pe_lst pa_nil) (nomark _))
        (pss_one (ps_ret (pe_tup (pa_cons (pv 4) pa_nil))))
        pss_nil)
      (pss_cons (ps_set (i := 2) sc.nd rfl (Or.inl rfl) (pe_ix ix_list (pv 6) (pe_cal c_law_draw hr (pa_cons (pv 0) (pa_cons (pe_callB call_len_seq (by rfl) T.len (by decide +kernel) (pa_cons (pv 6) pa_nil)) pa_nil))) (fun _ _ => rfl)))
      (pss_cons (ps_if (pt_cmpR op_eq (pe_cal c_law_draw hr (pa_cons (pv 0) (pa_cons pe_int pa_nil))) pe_int (nomark _))
        (pss_one (ps_ret (pe_op op_catA (pe_op op_repG (pe_op op_catA (pe_tup (pa_cons (pe_ix ix_tup (pv 2) pe_int (fun _ _ => rfl)) pa_nil)) (pe_op op_repG (pe_tup (pa_cons (pv 3) pa_nil)) (pe_op op_sub (pe_ix ix_tup (pv 2) pe_int (fun _ _ => rfl)) pe_int))) (pe_op op_fdiv (pe_op op_sub (pv 5) pe_int) (pe_ix ix_tup (pv 2) pe_int (fun _ _ => rfl)))) (pe_tup (pa_cons (pv 4) pa_nil)))))
        pss_nil)
      (pss_one (ps_ret (pe_op op_catA (pe_op op_catA (pe_op op_repG (pe_tup (pa_cons (pe_ix ix_tup (pv 2) pe_int (fun _ _ => rfl)) pa_nil)) (pe_op op_fdiv (pe_op op_sub (pv 5) pe_int) (pe_ix ix_tup (pv 2) pe_int (fun _ _ => rfl)))) (pe_op op_repG (pe_tup (pa_cons (pv 3) pa_nil)) (pe_op op_mul (pe_op op_fdiv (pe_op op_sub (pv 5) pe_int) (pe_ix ix_tup (pv 2) pe_int (fun _ _ => rfl))) (pe_op op_sub (pe_ix ix_tup (pv 2) pe_int (fun _ _ => rfl)) pe_int)))) (pe_tup (pa_cons (pv 4) pa_nil))))))))))))), ?_⟩
  obtain ⟨l0, hl0, h0⟩ := hg.take
  have hB0 := hRL.del hqg h0.r0
  generalize hB : L2.del H g = B0 at hB0 h0
  have ule := ok.le
  have wd : ∀ r ∈ rows, Wd r.1 := fun r hr' => (nameOk_iff _).mp (ok.nm r hr')
  obtain ⟨ps0, hL0, hP0⟩ := id hB0
  have hpl := paired_len hP0
  generalize hpr : ps0.zip rows = pr at *
  have zf : pr.map (fun z => V.ref z.1) = ps0.map V.ref := by
    have : pr.map (·.1) = ps0 := by rw [← hpr]; exact List.map_fst_zip (by omega)
    rw [← this, List.map_map]
    rfl
  have zr : ∀ z ∈ pr, z.2 ∈ rows := fun z hz => by
    rw [← hpr] at hz
    exact (List.of_mem_zip (a := z.1) (b := z.2) hz).2
  have zs : ∀ z ∈ pr, SqT K B0 z.1 [.str z.2.1, .int (z.2.2 : Nat)] := fun z hz => by
    rw [← hpr] at hz
    obtain ⟨i, hi, e⟩ := List.mem_iff_getElem.mp hz
    rw [List.getElem_zip] at e
    rw [List.length_zip] at hi
    obtain ⟨p2, e2, t⟩ := paired_at hP0 (i := i) (y := rows[i]) (List.getElem?_eq_getElem (by omega))
    rw [List.getElem?_eq_getElem (by omega)] at e2
    have : z.1 = p2 := by rw [← e]; exact Option.some.inj e2
    have e3 : z.2 = rows[i] := by rw [← e]
    rw [this, e3]
    exact t
  have zleaf : ∃ z ∈ pr, z.2.2 = 0 := by
    obtain ⟨r, hr', e⟩ := ok.lf
    obtain ⟨i, hi, ei⟩ := List.mem_iff_getElem.mp hr'
    refine ⟨(ps0[i]'(by omega), rows[i]), ?_, by rw [ei]; exact e⟩
    rw [← hpr]
    exact List.mem_iff_getElem.mpr ⟨i, by rw [List.length_zip]; omega, List.getElem_zip⟩
  have zlen : pr.length ≤ 8 := by rw [← hpr, List.length_zip]; omega
  have zk : ∀ z ∈ pr, isK rows z.2.1 = true ∧ ar rows z.2.1 = z.2.2 := fun z hz => by
    have hlk := lookup_mem ok.nd (zr z hz)
    exact ⟨by unfold isK; rw [hlk]; rfl, by unfold ar; rw [hlk]; rfl⟩
  have hLp : B0 q = some (.lst (pr.map fun z => V.ref z.1)) := by rw [zf]; exact hL0
  refine ⟨_, rfl, q, rfl, ⟨_, SqL.of (h0.sub _ _ hLp)⟩, fun D1 hD1 => lc_filt (si := 2) (f := fun z : Addr × Sy.Row => V.ref z.1) (out := fun z => V.str z.2.1) (keep := fun z => decide (z.2.2 = 0)) h0 hD1 hLp (by omega) ?_ ?_⟩
  · intro z hz H' s' R1 R2 k1 k2
    refine ⟨_, rfl, z.1, _, _, _, rfl, rfl, Same.sqt s' (zs z hz), atI_nat (j := 1) rfl, rfl, _, rfl, if_dec (fun c => ?_) (fun c => ?_)⟩
    · have c : z.2.2 = 0 := by have := V.int.inj c; omega
      exact ⟨_, rfl, z.1, _, _, _, rfl, rfl, Same.sqt s' (zs z hz), atI_nat (j := 0) rfl, k1 (decide_eq_true c)⟩
    · exact k2 (decide_eq_false fun z0 => c (by rw [z0]; rfl))
  intro H1 h1
  obtain ⟨y, ly, ey⟩ : ∃ z l, (pr.filter fun z => decide (z.2.2 = 0)) = z :: l := by
    obtain ⟨z, hz, e⟩ := zleaf
    cases ef : pr.filter fun z => decide (z.2.2 = 0) with
    | nil =>
      have : z ∈ pr.filter fun z => decide (z.2.2 = 0) := List.mem_filter.mpr ⟨hz, decide_eq_true e⟩
      rw [ef] at this
      cases this
    | cons a b => exact ⟨a, b, rfl⟩
  have ym : y ∈ pr ∧ y.2.2 = 0 := by
    have : y ∈ pr.filter fun z => decide (z.2.2 = 0) := by rw [ey]; exact List.mem_cons_self
    have := List.mem_filter.mp this
    exact ⟨this.1, of_decide_eq_true this.2⟩
  have yk := zk y ym.1
  rw [ym.2] at yk
  rw [ey] at h1
  refine ⟨D1, _, _, .str y.2.1, rfl, rfl, SqL.of h1.r0, atI_nat (j := 0) rfl, ?_⟩
  have h2 := h1.drop
  generalize y.2.1 = lf at *
  refine ⟨_, rfl, (by show 2 ≤ sizeLine; decide), fun L3 hL3 => ?_⟩
  have h3 := (h2.new (o := .lst [V.str lf, .str "*"]) hL3).swap
  refine ⟨_, rfl, g, 2, rfl, h3.bag hl0, by decide, by decide, fun i4 H4 hi4 d4 => ?_⟩
  obtain ⟨l4, B4, hl4, s4, h4, _⟩ := h3.dr0 d4
  obtain ⟨la, ela, hla1, hla2⟩ : ∃ la, ([V.str lf, .str "*"] : List V)[i4]? = some (.str la) ∧ (isK rows la = true ∨ la ∈ [("*" : Str)]) ∧ ar rows la = 0 := by
    match i4, hi4 with
    | 0, _ => exact ⟨lf, rfl, .inl yk.1, yk.2⟩
    | 1, _ => exact ⟨"*", rfl, .inr (List.mem_singleton.mpr rfl), (numb_no (no_hole ok)).2⟩
  refine ⟨L3, _, _, _, rfl, rfl, SqL.of h4.r1, atI_nat ela, ?_⟩
  have h5 := h4.drop1
  clear h4 h3 h2
  refine ⟨_, rfl, g, 10, rfl, h5.bag hl4, by decide, by decide, fun i6 H6 hi6 d6 => ?_⟩
  obtain ⟨l6, B6, hl6, s6, h6, _⟩ := h5.dr0 d6
  have sB6 := s4.trans s6
  refine ⟨_, _, rfl, rfl, _, rfl, if_dec (fun c => ?_) (fun c => ?_)⟩
  · refine ⟨_, rfl, _, rfl, _, rfl, g, 12, rfl, h6.bag hl6, by decide, by decide, fun i7 H7 hi7 d7 => ?_⟩
    obtain ⟨l7, B7, hl7, s7, h7, _⟩ := h6.dr0 d7
    refine ⟨_, _, rfl, rfl, _, rfl, rfl, ?_⟩
    have hd7 : Dr g H H7 := h7.isDr hl7 (by simp) (by rw [hB]; exact sB6.trans s7)
    refine ⟨g, q, 1 + i7, decide (V.str la = V.str "*"), rows, ?_, h7.bag hl7, hqg, hB0.mono ((sB6.trans s7).trans h7.sub), ok, fun r hr' => (wd r hr').wx, by omega, by omega, fun l p H8 hl1 hlm hf d8 hw => hq l p H8 (by omega) hf (hd7.trans d8) hw.sq⟩
    show [V.ref g, V.ref q, V.int (1 + (i7 : Nat) : Int), V.bl (decide (V.str la = V.str "*"))] = _
    rw [show (1 + (i7 : Nat) : Int) = ((1 + i7 : Nat) : Int) by omega]
  refine ⟨_, rfl, g, 2002, rfl, h6.bag hl6, by decide, by decide, fun i7 H7 hi7 d7 => ?_⟩
  obtain ⟨l7, B7, hl7, s7, h7, _⟩ := h6.dr0 d7
  refine ⟨_, _, rfl, rfl, (by show 4 ≤ sizeLine; decide), fun L8 hL8 => ?_⟩
  have h8 := (h7.new (o := .lst [V.int 1999, .int 2000, .int 2001, .int (1 + (i7 : Nat))]) hL8).swap
  refine ⟨_, rfl, g, 4, rfl, h8.bag hl7, by decide, by decide, fun i9 H9 hi9 d9 => ?_⟩
  obtain ⟨l9, B9, hl9, s9, h9, _⟩ := h8.dr0 d9
  obtain ⟨many, em, hm1, hm2⟩ : ∃ many : Nat, ([V.int 1999, .int 2000, .int 2001, .int (1 + (i7 : Nat))] : List V)[i9]? = some (.int (many : Nat)) ∧ 1 ≤ many ∧ many ≤ 2002 := by
    match i9, hi9 with
    | 0, _ => exact ⟨1999, rfl, by decide, by decide⟩
    | 1, _ => exact ⟨2000, rfl, by decide, by decide⟩
    | 2, _ => exact ⟨2001, rfl, by decide, by decide⟩
    | 3, _ => exact ⟨1 + i7, by show some (V.int (1 + (i7 : Nat))) = some (V.int ((1 + i7 : Nat) : Int)); rw [show (1 + (i7 : Nat) : Int) = ((1 + i7 : Nat) : Int) by omega], by omega, by omega⟩
  refine ⟨L8, _, _, _, rfl, rfl, SqL.of h9.r1, atI_nat em, ?_⟩
  have h10 := h9.drop1
  have sB9 := (sB6.trans s7).trans s9
  clear h9 h8 h7
  have qB9 := sB9 _ _ hLp
  refine ⟨_, rfl, q, rfl, ⟨_, SqL.of (h10.sub _ _ qB9)⟩, fun D2 hD2 => lc_filt (si := 2) (f := fun z : Addr × Sy.Row => V.ref z.1) (out := fun z => V.ref z.1) (keep := fun z => decide (0 < z.2.2)) h10 hD2 qB9 (by omega) ?_ ?_⟩
  · intro z hz H' s' R1 R2 k1 k2
    refine ⟨_, rfl, z.1, _, _, _, rfl, rfl, Same.sqt (sB9.trans s') (zs z hz), atI_nat (j := 1) rfl, _, _, rfl, rfl, _, rfl, if_dec (fun c => ?_) (fun c => ?_)⟩
    · have c : (0 : Int) < (z.2.2 : Nat) := c
      exact ⟨_, rfl, k1 (decide_eq_true (by omega))⟩
    · have c : ¬ (0 : Int) < (z.2.2 : Nat) := c
      exact k2 (decide_eq_false (by omega))
  intro H11 h11
  have tw : ∀ z ∈ pr.filter (fun z => decide (0 < z.2.2)), z ∈ pr ∧ 1 ≤ z.2.2 := fun z hz => by
    have := List.mem_filter.mp hz
    exact ⟨this.1, of_decide_eq_true this.2⟩
  have twl : (pr.filter fun z => decide (0 < z.2.2)).length ≤ 8 := by
    have := List.length_filter_le (fun z : Addr × Sy.Row => decide (0 < z.2.2)) pr
    omega
  generalize (pr.filter fun z => decide (0 < z.2.2)) = wd2 at *
  have zs11 : ∀ z ∈ wd2, SqT K H11 z.1 [.str z.2.1, .int (z.2.2 : Nat)] := fun z hz => Same.sqt (sB9.trans h11.sub) (zs z (tw z hz).1)
  have fin : ∀ {H' : Hp} {B' : Hp} {l' : List Int}, BagOk l' → Same B9 B' → Hs B' [(g, .lst (l'.map V.int))] H' → Dr g H H' := fun hl' s' h' => h'.isDr hl' (by simp) (by rw [hB]; exact sB9.trans s')
  refine ⟨_, rfl, by decide, fun E0' hE0 => ?_⟩
  have h12 := h11.lay (o := .lst []) hE0
  have ia : ∀ l : List (Addr × Sy.Row), (∀ z ∈ l, SqT K (upd H11 E0' (.lst [])) z.1 [.str z.2.1, .int (z.2.2 : Nat)]) → ImA K (upd H11 E0' (.lst [])) (l.map fun z => V.ref z.1) ((l.map fun z : Addr × Sy.Row => z.2).map RowD) := fun l => by
    induction l with
    | nil => intro _; exact .nil
    | cons z l ih => intro h; exact .cons (.tup (h z List.mem_cons_self) (.cons (.str _) (.cons (.int _) .nil))) (ih fun q hq => h q (List.mem_cons_of_mem _ hq))
  refine ⟨.list ((wd2.map fun z : Addr × Sy.Row => z.2).map RowD), .list (([] : List Sy.Row).map RowD), .lst (SqL.of h12.r0) (ia wd2 fun z hz => Same.sqt (up_same hE0) (zs11 z hz)).dp, .lst (SqL.of upd_same) .nil, lay_RowsL (fun r hr' => ?_), lay_RowsL (fun r hr' => nomatch hr'), _, rfl, ?_⟩
  · obtain ⟨z, hz, rfl⟩ := List.mem_map.mp hr'
    exact (wd _ (zr z (tw z hz).1)).sok
  rw [PyData.eqv, eqv_rows]
  refine if_dec (fun c2 => ?_) (fun c2 => ?_)
  · refine ⟨_, rfl, (by show 1 ≤ sizeLine; decide), fun t ht => hq [la] t _ (by show 1 ≤ 2002; decide) (fa_last hla1 hla2) ?_ (SqT.of upd_same)⟩
    have h13 := (h12.drop).lay (o := .tup [.str la]) ht
    exact fin hl9 (Same.refl _) h13
  have wpos : 0 < wd2.length := by
    cases wd2 with
    | nil => exact absurd rfl c2
    | cons a b => simp
  obtain ⟨s13, h13⟩ := h12.give
  have e13 : (upd B9 D2 (.lst (wd2.map fun z => V.ref z.1))) D2 = some (.lst (wd2.map fun z => V.ref z.1)) := upd_same
  generalize upd B9 D2 (.lst (wd2.map fun z => V.ref z.1)) = B13 at *
  refine ⟨_, rfl, _, rfl, _, rfl, D2, _, rfl, .inl (SqL.of (h13.sub _ _ e13)), g, wd2.length, by rw [List.length_map], h13.bag hl9, wpos, by omega, fun i14 H14 hi14 d14 => ?_⟩
  obtain ⟨l14, B14, hl14, s14, h14, _⟩ := h13.dr0 d14
  obtain ⟨z, ez⟩ : ∃ z, wd2[i14]? = some z := ⟨_, List.getElem?_eq_getElem hi14⟩
  have zm := List.mem_of_getElem? ez
  have zw := tw z zm
  have zkk := zk z zw.1
  have z3 := ok.br _ (zr z zw.1)
  have sB14 := s13.trans s14
  refine ⟨D2, _, _, .ref z.1, rfl, rfl, SqL.of (h14.sub _ _ (s14 _ _ e13)), atI_nat (by rw [List.getElem?_map, ez]; rfl), ?_⟩
  refine ⟨_, rfl, g, 2, rfl, h14.bag hl14, by decide, by decide, fun i15 H15 hi15 d15 => ?_⟩
  obtain ⟨l15, B15, hl15, s15, h15, _⟩ := h14.dr0 d15
  have sB15 := sB14.trans s15
  have hdr := fin hl15 sB15 h15
  have tz : SqT K H15 z.1 [.str z.2.1, .int (z.2.2 : Nat)] := Same.sqt ((sB9.trans sB15).trans h15.sub) (zs z zw.1)
  obtain ⟨n, en, hn⟩ := div_nat (m := many) (k := z.2.2) hm1 zw.2
  have ekm : ((z.2.2 : Nat) : Int) - 1 = ((z.2.2 - 1 : Nat) : Int) := by omega
  have ars : ar rows z.2.1 = z.2.2 := zkk.2
  have hnk : n * z.2.2 ≤ 2001 := by omega
  have hn1 : n ≤ 2001 := by
    have : n * 1 ≤ n * z.2.2 := Nat.mul_le_mul_left n zw.2
    omega
  refine ⟨rfl, _, rfl, if_dec (fun _ => ?_) (fun _ => ?_)⟩
  · refine ⟨_, rfl, z.1, _, _, _, rfl, rfl, tz, atI_nat (j := 0) rfl, (by show 1 ≤ sizeLine; decide), fun t1 ht1 => ?_⟩
    have u1 := up_same (o := .tup [.str z.2.1]) ht1
    have q1 : SqT K (upd H15 t1 (.tup [.str z.2.1])) t1 ([z.2.1].map V.str) := SqT.of upd_same
    generalize upd H15 t1 (.tup [.str z.2.1]) = H16 at *
    refine ⟨_, rfl, (by show 1 ≤ sizeLine; decide), fun t2 ht2 => ?_⟩
    have u2 := up_same (o := .tup [.str lf]) ht2
    have q2 : SqT K (upd H16 t2 (.tup [.str lf])) t2 ([lf].map V.str) := SqT.of upd_same
    generalize upd H16 t2 (.tup [.str lf]) = H17 at *
    refine ⟨_, rfl, z.1, _, _, _, rfl, rfl, Same.sqt (u1.trans u2) tz, atI_nat (j := 1) rfl, _, _, rfl, rfl, ?_⟩
    show rRepG K (.ref t2) (.int (((z.2.2 : Nat) : Int) - 1)) _ _
    rw [ekm]
    refine rep_any q2 (by show 1 * _ ≤ _; omega) (by show 1 ≤ _; decide) (by omega) fun p3 H18 s18 q3 => ?_
    rw [List.map_flatten] at q3
    have q3 : SqT K H18 p3 ((List.replicate (z.2.2 - 1) [lf]).flatten.map V.str) := by rw [List.map_flatten]; exact q3
    have er : ∀ (k : Nat) (v : Str), (List.replicate k [v]).flatten = List.replicate k v := fun k v => by
      induction k with
      | zero => rfl
      | succ k ih => rw [List.replicate_succ, List.flatten_cons, ih]; rfl
    rw [er] at q3
    refine cat_any (Same.sqt (u2.trans s18) q1) q3 (by rw [List.length_map, List.length_map, List.length_replicate]; show 1 + _ ≤ _; omega) fun p4 H19 s19 q4 => ?_
    rw [← List.map_append] at q4
    refine ⟨_, rfl, _, _, rfl, rfl, _, rfl, z.1, _, _, _, rfl, rfl, Same.sqt (((u1.trans u2).trans s18).trans s19) tz, atI_nat (j := 1) rfl, _, _, rfl, rfl, ⟨by omega, by omega⟩, ?_⟩
    show rRepG K (.ref p4) (.int ((((many : Nat) : Int) - 1) / ((z.2.2 : Nat) : Int))) _ _
    rw [en]
    have l4 : ([z.2.1] ++ List.replicate (z.2.2 - 1) lf).length = z.2.2 := by rw [List.length_append, List.length_replicate]; show 1 + _ = _; omega
    refine rep_any q4 (by rw [l4, Nat.mul_comm]; omega) (by rw [l4]; omega) (by omega) fun p5 H20 s20 q5 => ?_
    refine ⟨_, rfl, (by show 1 ≤ sizeLine; decide), fun t6 ht6 => ?_⟩
    have u6 := up_same (o := .tup [.str la]) ht6
    have q6 : SqT K (upd H20 t6 (.tup [.str la])) t6 ([la].map V.str) := SqT.of upd_same
    generalize upd H20 t6 (.tup [.str la]) = H21 at *
    have l5 : ((List.replicate n ([z.2.1] ++ List.replicate (z.2.2 - 1) lf)).flatten).length = n * z.2.2 := by rw [List.length_flatten, List.map_replicate, List.sum_replicate_nat, l4]
    refine cat_any (Same.sqt u6 q5) q6 (by rw [List.length_map, List.length_map, l5]; show _ + 1 ≤ _; omega) fun p7 H22 s22 q7 => ?_
    rw [← List.map_append] at q7
    refine hq _ p7 _ (by rw [List.length_append, l5]; show _ + 1 ≤ _; omega) ?_ (hdr.same ((((((u1.trans u2).trans s18).trans s19).trans s20).trans u6).trans s22)) q7
    rw [← ars]
    exact fa_comb zkk.1 (by omega) yk.1 yk.2 hla1 hla2 n
  · refine ⟨_, rfl, z.1, _, _, _, rfl, rfl, tz, atI_nat (j := 0) rfl, (by show 1 ≤ sizeLine; decide), fun t1 ht1 => ?_⟩
    have u1 := up_same (o := .tup [.str z.2.1]) ht1
    have q1 : SqT K (upd H15 t1 (.tup [.str z.2.1])) t1 ([z.2.1].map V.str) := SqT.of upd_same
    generalize upd H15 t1 (.tup [.str z.2.1]) = H16 at *
    have er : ∀ (k : Nat) (v : Str), (List.replicate k [v]).flatten = List.replicate k v := fun k v => by
      induction k with
      | zero => rfl
      | succ k ih => rw [List.replicate_succ, List.flatten_cons, ih]; rfl
    have hk1 : n * (z.2.2 - 1) ≤ 4002 := by
      have : n * (z.2.2 - 1) ≤ n * z.2.2 := Nat.mul_le_mul_left n (by omega)
      omega
    have hsum : n + n * (z.2.2 - 1) = n * z.2.2 := by
      obtain ⟨k, ek⟩ : ∃ k, z.2.2 = k + 1 := ⟨z.2.2 - 1, by omega⟩
      rw [ek, Nat.add_sub_cancel, Nat.mul_succ]
      omega
    refine ⟨_, rfl, _, _, rfl, rfl, _, rfl, z.1, _, _, _, rfl, rfl, Same.sqt u1 tz, atI_nat (j := 1) rfl, _, _, rfl, rfl, ⟨by omega, by omega⟩, ?_⟩
    show rRepG K (.ref t1) (.int ((((many : Nat) : Int) - 1) / ((z.2.2 : Nat) : Int))) _ _
    rw [en]
    refine rep_any q1 (by show 1 * _ ≤ _; omega) (by show 1 ≤ _; decide) (by omega) fun p2 H17 s17 q2 => ?_
    rw [er] at q2
    refine ⟨_, rfl, (by show 1 ≤ sizeLine; decide), fun t3 ht3 => ?_⟩
    have u3 := up_same (o := .tup [.str lf]) ht3
    have q3 : SqT K (upd H17 t3 (.tup [.str lf])) t3 ([lf].map V.str) := SqT.of upd_same
    generalize upd H17 t3 (.tup [.str lf]) = H18 at *
    have tz18 := Same.sqt ((u1.trans s17).trans u3) tz
    refine ⟨_, rfl, _, _, rfl, rfl, _, rfl, z.1, _, _, _, rfl, rfl, tz18, atI_nat (j := 1) rfl, _, _, rfl, rfl, ⟨by omega, by omega⟩, _, rfl, z.1, _, _, _, rfl, rfl, tz18, atI_nat (j := 1) rfl, _, _, rfl, rfl, _, _, rfl, rfl, .inl ⟨by rw [en]; omega, by rw [en]; omega⟩, ?_⟩
    show rRepG K (.ref t3) (.int ((((many : Nat) : Int) - 1) / ((z.2.2 : Nat) : Int) * (((z.2.2 : Nat) : Int) - 1))) _ _
    rw [en, ekm, ← Int.natCast_mul]
    refine rep_any q3 (by show 1 * _ ≤ _; omega) (by show 1 ≤ _; decide) (by omega) fun p4 H19 s19 q4 => ?_
    rw [er] at q4
    refine cat_any (Same.sqt (u3.trans s19) q2) q4 (by rw [List.length_map, List.length_map, List.length_replicate, List.length_replicate]; omega) fun p5 H20 s20 q5 => ?_
    rw [← List.map_append] at q5
    refine ⟨_, rfl, (by show 1 ≤ sizeLine; decide), fun t6 ht6 => ?_⟩
    have u6 := up_same (o := .tup [.str la]) ht6
    have q6 : SqT K (upd H20 t6 (.tup [.str la])) t6 ([la].map V.str) := SqT.of upd_same
    generalize upd H20 t6 (.tup [.str la]) = H21 at *
    have l5 : (List.replicate n z.2.1 ++ List.replicate (n * (z.2.2 - 1)) lf).length = n * z.2.2 := by rw [List.length_append, List.length_replicate, List.length_replicate, hsum]
    refine cat_any (Same.sqt u6 q5) q6 (by rw [List.length_map, List.length_map, l5]; show _ + 1 ≤ _; omega) fun p7 H22 s22 q7 => ?_
    rw [← List.map_append] at q7
    refine hq _ p7 _ (by rw [List.length_append, l5]; show _ + 1 ≤ _; omega) ?_ (hdr.same ((((((u1.trans s17).trans u3).trans s19).trans s20).trans u6).trans s22)) q7
    rw [← ars]
    exact fa_chain zkk.1 (by omega) yk.1 yk.2 hla1 hla2 n
end
end Sy
/-! _law_bed_right -/
namespace Sy
open PySem PySem.Spec PyProof.Rows L2
theorem fit_rows {n : Nat} {rows : List Sy.Row} (h : rows.length ≤ 1000000) : Fit (n + 2) (RowsD rows) := by
  refine ⟨by rw [List.length_map]; exact h, fun d hd => ?_⟩
  obtain ⟨x, _, rfl⟩ := List.mem_map.mp hd
  refine ⟨by show 2 ≤ 1000000; decide, fun d hd => ?_⟩
  simp only [List.mem_cons, List.not_mem_nil, or_false] at hd
  rcases hd with rfl | rfl <;> cases n <;> trivial
theorem not_mem_isK {rows : List Sy.Row} {x : Str} (h : x ∉ rows.map (·.1)) : isK rows x = false := by
  cases e : isK rows x with
  | false => rfl
  | true =>
    obtain ⟨r, hr, rfl⟩ := isK_mem e
    exact absurd (List.mem_map_of_mem hr) h
theorem leafs_zip {pr : List (Addr × Sy.Row)} {rows : List Sy.Row} (h : pr.map (fun z => z.2) = rows) : (pr.filter fun z => decide (z.2.2 = 0)).map (fun z => V.str z.2.1) = (leafs rows).map V.str := by
  subst h
  unfold leafs
  rw [List.filter_map, List.map_map, List.map_map]
  rfl
theorem leafs_le (rows : List Sy.Row) : (leafs rows).length ≤ rows.length := by
  unfold leafs
  rw [List.length_map]
  exact List.length_filter_le _ _
section
variable {P : Program} {w : World} {K : PySem.W.Frag} {mg : Str → Option Value} {base : Heap}
def spBR (K : PySem.W.Frag) : Sp := fun vs H Q _ => ∃ (a q : Addr) (rows : List Sy.Row), vs = [.ref a, .ref q] ∧ BedAt K H a rows ∧ RL K H q rows ∧ RowsOk rows ∧ ∀ H', Same H H' → Q (.bl true) H'
abbrev N_br : List Str := ["_law_bed", "_law_rows_here", "_law_names", "_law_leaves", "_law_place", "_law_word_here", "_law_row"]
theorem sc_br : FnScope N_br ["_law_bed", "_law_rows_here"] (defScope (top 50)) := ⟨rfl, rfl, rfl, by decide +kernel, rfl, by decide +kernel, by decide +kernel⟩
theorem k_br (T : Txt K mg) (PR : PropL K) (F : DF K mg "_law_bed_right" 50) (c_branches : CalM P w K mg base 3 "branches" ["self", "kind"] (spBranches K)) (c_rank : CalM P w K mg base 3 "rank" ["self", "kind"] (spRank K)) (c_leaves : CalM P w K mg base 1 "leaves" ["self"] (spLeaves K)) (c_written : CalM P w K mg base 1 "written" ["self"] (spWrB K))
    (f_leaf : ∃ fd, FnOk P w K mg base (L2.CX P w) 2 (He5.wf K (He.ga K "Bed") "property" "leaf") fd ["self"] (spLeaf K) ∧ Binds K fd ["self"] [])
    (c_law_same : ∀ n : Nat, Cal P w K mg base (n + 1) "_law_same" ["_law_told", "_law_due"] (spSame K n)) (c_law_unknown : Cal P w K mg base 4 "_law_unknown" ["_law_bed", "_law_word_here"] (spUnk K)) (c_law_pairs_text : Cal P w K mg base 1 "_law_pairs_text" ["_law_pairs"] (spPTxt K)) :
    Cal P w K mg base 5 "_law_bed_right" ["_law_bed", "_law_rows_here"] (spBR K) := by
  refine cal_of F.1 F.2 sc_br (fun _ _ _ _ _ _ us e => match us, e with | [_, _], _ => rfl) (fun vs H Q E s => by obtain ⟨_, _, _, rfl, _⟩ := s; rfl) ?_
  intro cdv A outer s H vs Q E hr h
  obtain ⟨a, q, rows, rfl, hb, hRL, ok, hq⟩ := h
  have sc := sc_br
  have c_law_same := c_law_same 3
  obtain ⟨mB, fB, FB, BB⟩ := c_branches
  obtain ⟨mR, fR, FR, BR⟩ := c_rank
  obtain ⟨mL, fL, FL, BL⟩ := c_leaves
  obtain ⟨mW, fW, FW, BW⟩ := c_written
  obtain ⟨fP, FP, BP⟩ := f_leaf
  refine ⟨_, (pss_cons (ps_setLc (i := 2) (own := [("_law_row", 6)]) (g := gName 6) rfl sc.nd rfl rfl (sw_true rfl rfl rfl (by decide +kernel)) (pi_list (pv 1)) (blkOk_by (N := N_br) (sc := defScope (top 50)) (by decide +kernel)) (fun _ _ _ _ _ => (pg_name (i := 6) sc.nd rfl (Or.inl rfl))) (fun _ _ _ _ _ => pts_nil) (fun _ _ _ _ _ => (pe_ixTK K rfl (pv 6) pe_int (fun _ _ => rfl))))
      (pss_cons (ps_setLc (i := 3) (own := [("_law_row", 6)]) (g := gName 6) rfl sc.nd rfl rfl (sw_true rfl rfl rfl (by decide +kernel)) (pi_list (pv 1)) (blkOk_by (N := N_br) (sc := defScope (top 50)) (by decide +kernel)) (fun _ _ _ _ _ => (pg_name (i := 6) sc.nd rfl (Or.inl rfl))) (fun _ _ _ _ _ => (pts_one (pt_cmpR op_eq (pe_ixTK K rfl (pv 6) pe_int (fun _ _ => rfl)) pe_int (nomark _)))) (fun _ _ _ _ _ => (pe_ixTK K rfl (pv 6) pe_int (fun _ _ => rfl))))
      (pss_cons (ps_if (PW.pt (pw_or (pt_not (pt_val (pe_cal c_law_same hr (pa_cons (pe_fld (pv 0) rfl) (pa_cons (pe_callTy call_tuple_of (by rfl) T.tuple (by decide +kernel) (pa_cons (pv 1) pa_nil)) pa_nil))))) (pw_or1 (pt_not (pt_val (pe_cal c_law_same hr (pa_cons (pe_fld (pv 0) rfl) (pa_cons (pe_callTy call_tuple_of (by rfl) T.tuple (by decide +kernel) (pa_cons (pv 2) pa_nil)) pa_nil))))))))
        (pss_one (ps_ret pe_bl))
        pss_nil)
      (pss_cons (ps_if (PW.pt (pw_or (pt_not (pt_val (pe_cal c_law_same hr (pa_cons (pe_prop (pv 0) T.bed.cl PR.pr FP (hr.mono (by decide)) BP .nil (E := E0) (fun pins σ H s e s' I h => passL pins σ H s e s' I h) rfl) (pa_cons (pe_ix ix_list (pv 3) pe_int (fun _ _ => rfl)) pa_nil))))) (pw_or1 (pt_not (pt_val (pe_cal c_law_same hr (pa_cons (pe_meth0 (pv 0) T.bed.cl mL FL (hr.mono (by decide)) BL .nil (E := E0) (fun pins σ H s e s' I h => passL pins σ H s e s' I h)) (pa_cons (pe_callTy call_tuple_of (by rfl) T.tuple (by decide +kernel) (pa_cons (pv 3) pa_nil)) pa_nil))))))))
        (pss_one (ps_ret pe_bl))
        pss_nil)
      (pss_cons (ps_for (passes_of rfl) rfl (pi_range1 rfl T.range (pa_cons (pe_callB call_len_seq (by rfl) T.len (by decide +kernel) (pa_cons (pv 1) pa_nil)) pa_nil)) (pg_name (i := 4) sc.nd rfl (Or.inl rfl))
        (pss_cons (ps_if (pt_not (pt_val (pe_cal c_law_same hr (pa_cons (pe_meth (pv 0) T.bed.cl mB FB (hr.mono (by decide)) BB .nil (E := E0) (fun pins σ H s e s' I h => passL pins σ H s e s' I h) (pa_cons (pe_ix ix_list (pv 2) (pv 4) (fun _ _ => rfl)) pa_nil)) (pa_cons (pe_ix ix_tup (pe_ix ix_list (pv 1) (pv 4) (fun _ _ => rfl)) pe_int (fun _ _ => rfl)) pa_nil)))))
          (pss_one (ps_ret pe_bl))
          pss_nil)
        (pss_cons (ps_if (pt_not (pt_val (pe_cal c_law_same hr (pa_cons (pe_meth (pv 0) T.bed.cl mR FR (hr.mono (by decide)) BR .nil (E := E0) (fun pins σ H s e s' I h => passL pins σ H s e s' I h) (pa_cons (pe_ix ix_list (pv 2) (pv 4) (fun _ _ => rfl)) pa_nil)) (pa_cons (pv 4) pa_nil)))))
          (pss_one (ps_ret pe_bl))
          pss_nil)
        (pss_one (ps_for (passes_of rfl) rfl (pi_list (pe_lst (pa_cons (pe_op op_add_str (pe_ix ix_list (pv 2) (pv 4) (fun _ _ => rfl)) pe_str) (pa_cons (pe_slice sl_str (pe_ix ix_list (pv 2) (pv 4) (fun _ _ => rfl)) (po_some pe_int) po_none) (pa_cons (pe_upper (pe_ix ix_list (pv 2) (pv 4) (fun _ _ => rfl))) (pa_cons pe_str pa_nil)))))) (pg_name (i := 5) sc.nd rfl (Or.inl rfl))
          (pss_one (ps_if (PW.pt (pw_and (pt_cmpR op_notIn_seq (pv 5) (pv 2) rfl) (pw_and (pt_cmpR op_ne (pv 5) pe_str (nomark _)) (pw_and1 (pt_not (pt_val (pe_cal c_law_unknown hr (pa_cons (pv 0) (pa_cons (pv 5) pa_nil)))))))))
            (pss_one (ps_ret pe_bl))
            pss_nil)))))))
      (pss_one (ps_ret (pe_cal c_law_same hr (pa_cons (pe_meth0 (pv 0) T.bed.cl mW FW (hr.mono (by decide)) BW .nil (E := E0) (fun pins σ H s e s' I h => passL pins σ H s e s' I h)) (pa_cons (pe_cal c_law_pairs_text hr (pa_cons (pv 1) pa_nil)) pa_nil)))))))))), ?_⟩
  have ule := ok.le
  have wd : ∀ r ∈ rows, Wd r.1 := fun r hr' => (nameOk_iff _).mp (ok.nm r hr')
  obtain ⟨ps0, hL0, hP0⟩ := id hRL
  have hpl := paired_len hP0
  generalize hpr : ps0.zip rows = pr at *
  have zf : pr.map (fun z => V.ref z.1) = ps0.map V.ref := by
    have : pr.map (·.1) = ps0 := by rw [← hpr]; exact List.map_fst_zip (by omega)
    rw [← this, List.map_map]
    rfl
  have z2 : pr.map (fun z => z.2) = rows := by rw [← hpr]; exact List.map_snd_zip (by omega)
  have zs : ∀ z ∈ pr, SqT K H z.1 [.str z.2.1, .int (z.2.2 : Nat)] := fun z hz => by
    rw [← hpr] at hz
    obtain ⟨i, hi, e⟩ := List.mem_iff_getElem.mp hz
    rw [List.getElem_zip] at e
    rw [List.length_zip] at hi
    obtain ⟨p2, e2, t⟩ := paired_at hP0 (i := i) (y := rows[i]) (List.getElem?_eq_getElem (by omega))
    rw [List.getElem?_eq_getElem (by omega)] at e2
    have : z.1 = p2 := by rw [← e]; exact Option.some.inj e2
    have e3 : z.2 = rows[i] := by rw [← e]
    rw [this, e3]
    exact t
  have zlen : pr.length ≤ 8 := by rw [← hpr, List.length_zip]; omega
  have hLp : H q = some (.lst (pr.map fun z => V.ref z.1)) := by rw [zf]; exact hL0
  have h0 := Hs.start H
  refine ⟨_, rfl, q, rfl, ⟨_, SqL.of hLp⟩, fun N1 hN1 => lc_filt (si := 6) (f := fun z : Addr × Sy.Row => V.ref z.1) (out := fun z => V.str z.2.1) (keep := fun _ => true) h0 hN1 hLp (by omega) ?_ ?_⟩
  · intro z hz H' s' R1 R2 k1 k2
    simp only [tYes, if_true]
    exact ⟨_, rfl, z.1, _, _, _, rfl, rfl, Same.sqt s' (zs z hz), atI_nat (j := 0) rfl, k1 rfl⟩
  intro H1 h1
  have en : (pr.filter fun _ => true).map (fun z => V.str z.2.1) = (rows.map (·.1)).map V.str := by
    rw [List.filter_eq_self.mpr fun _ _ => rfl, ← z2, List.map_map, List.map_map]
    rfl
  rw [en] at h1
  refine ⟨_, rfl, q, rfl, ⟨_, SqL.of (h1.sub _ _ hLp)⟩, fun L1 hL1 => lc_filt (si := 6) (f := fun z : Addr × Sy.Row => V.ref z.1) (out := fun z => V.str z.2.1) (keep := fun z => decide (z.2.2 = 0)) h1 hL1 hLp (by omega) ?_ ?_⟩
  · intro z hz H' s' R1 R2 k1 k2
    refine ⟨_, rfl, z.1, _, _, _, rfl, rfl, Same.sqt s' (zs z hz), atI_nat (j := 1) rfl, rfl, _, rfl, if_dec (fun c => ?_) (fun c => ?_)⟩
    · have c : z.2.2 = 0 := by have := V.int.inj c; omega
      exact ⟨_, rfl, z.1, _, _, _, rfl, rfl, Same.sqt s' (zs z hz), atI_nat (j := 0) rfl, k1 (decide_eq_true c)⟩
    · exact k2 (decide_eq_false fun z0 => c (by rw [z0]; rfl))
  intro H2 h2
  rw [leafs_zip z2] at h2
  have s2 : Same H H2 := h2.sub
  have eL1 := h2.r0
  have eN1 := h2.r1
  have hb2 := hb.mono (Stay.of s2)
  have hRL2 := hRL.mono s2
  clear h1 h2
  obtain ⟨dx, dA, tR, tK, dR, as, b1, b2, b3, b4, b5, b6⟩ := id hb2.ex
  obtain ⟨ps2, hL2, hP2⟩ := id hRL2
  have hpl2 := paired_len hP2
  have hll := leafs_le rows
  obtain ⟨y, hy⟩ : ∃ y, (leafs rows)[0]? = some y := by
    have := leafs_pos ok.lf
    exact ⟨_, List.getElem?_eq_getElem this⟩
  -- pairs, kinds
  refine ⟨_, rfl, a, _, dx, _, _, rfl, b1, T.bed.cl, T.bed.nR, rfl, _, rfl, q, _, rfl, .inl ⟨SqL.of hL2, fun p3 hp3 => ?_⟩⟩
  have u3 := up_same (o := .tup (ps2.map V.ref)) hp3
  have q3 : SqT K (upd H2 p3 (.tup (ps2.map V.ref))) p3 (ps2.map V.ref) := SqT.of upd_same
  generalize upd H2 p3 (.tup (ps2.map V.ref)) = H3 at *
  refine ⟨_, _, RowsD rows, RowsD rows, rfl, (Im.tup b4 (Im.rowsD b6)).mono (Stay.of u3), .tup q3 (Im.rowsD (Paired.mapP hP2 fun _ _ z => Same.sqt u3 z)), fit_rows (by omega), .inl ⟨rfl, _, rfl, iteF ?_⟩⟩
  refine ⟨_, rfl, a, _, dx, _, _, rfl, u3 _ _ b1, T.bed.cl, T.bed.nK, rfl, _, rfl, N1, _, rfl, .inl ⟨SqL.of (u3 _ _ eN1), fun p4 hp4 => ?_⟩⟩
  have u4 := up_same (o := .tup ((rows.map (·.1)).map V.str)) hp4
  have q4 : SqT K (upd H3 p4 (.tup ((rows.map (·.1)).map V.str))) p4 ((rows.map (·.1)).map V.str) := SqT.of upd_same
  generalize upd H3 p4 (.tup ((rows.map (·.1)).map V.str)) = H4 at *
  have b5' : SqT K H2 tK ((rows.map (·.1)).map V.str) := by rw [List.map_map]; exact b5
  have u34 := u3.trans u4
  refine ⟨_, _, DS (rows.map (·.1)), DS (rows.map (·.1)), rfl, Im.strs (Same.sqt u34 b5'), Im.strs q4, fit_strs (by rw [List.length_map]; omega), .inl ⟨rfl, _, rfl, iteF ?_⟩⟩
  -- leaves
  refine ⟨_, rfl, a, dx, _, rfl, u34 _ _ b1, a, rows, y, rfl, hb2.mono (Stay.of u34), by omega, hy, fun H5 s5 => ?_⟩
  have u5 := u34.trans s5
  refine ⟨_, rfl, L1, _, _, _, rfl, rfl, SqL.of (u5 _ _ eL1), atI_nat (by rw [List.getElem?_map, hy]; rfl), ?_⟩
  refine ⟨_, _, .str y, .str y, rfl, .str _, .str _, trivial, .inl ⟨rfl, _, rfl, iteF ?_⟩⟩
  refine ⟨_, rfl, a, dx, _, rfl, u5 _ _ b1, rfl, a, rows, rfl, hb2.mono (Stay.of u5), by omega, fun H6 p6 s6 q6 => ?_⟩
  have u6 := u5.trans s6
  refine ⟨_, rfl, L1, _, rfl, .inl ⟨SqL.of (u6 _ _ eL1), fun p7 hp7 => ?_⟩⟩
  have u7 := up_same (o := .tup ((leafs rows).map V.str)) hp7
  have q7 : SqT K (upd H6 p7 (.tup ((leafs rows).map V.str))) p7 ((leafs rows).map V.str) := SqT.of upd_same
  generalize upd H6 p7 (.tup ((leafs rows).map V.str)) = H7 at *
  have u27 := u6.trans u7
  refine ⟨_, _, DS (leafs rows), DS (leafs rows), rfl, Im.strs (Same.sqt u7 q6), Im.strs q7, fit_strs (by omega), .inl ⟨rfl, _, rfl, iteF ?_⟩⟩
  -- each kind
  refine ⟨_, rfl, q, _, rfl, .inl (SqL.of (u27 _ _ hL2)), _, rfl, by rw [List.length_map]; omega, by rw [List.length_map]; omega, for_rng (n := ((ps2.map V.ref).length : Int).toNat) (fun i σ H' => ∃ t4 t5, σ = [some (.ref a), some (.ref q), some (.ref N1), some (.ref L1), t4, t5, none] ∧ Same H2 H') ⟨none, none, rfl, u27⟩ ?_ ?_⟩
  · rintro i σ H8 hi ⟨t4, t5, rfl, s8⟩
    have hi : i < rows.length := by
      rw [List.length_map] at hi
      omega
    obtain ⟨r, hr'⟩ : ∃ r, rows[i]? = some r := ⟨_, List.getElem?_eq_getElem hi⟩
    have rm := List.mem_of_getElem? hr'
    obtain ⟨p8, ep8, tp8⟩ := paired_at hP2 hr'
    have w := wd r rm
    have wb : WdB r.1 := ⟨by have := w.tx.1; omega, w.tx.sg⟩
    have hlk := lookup_mem ok.nd rm
    have hk : isK rows r.1 = true := by unfold isK; rw [hlk]; rfl
    have ha : ar rows r.1 = r.2 := by unfold ar; rw [hlk]; rfl
    have hrk := rk_at (n := 0) ok.nd hr'
    have iN : atI ((rows.map (·.1)).map V.str) ((i : Nat) : Int) = some (V.str r.1) := atI_nat (by rw [List.getElem?_map, List.getElem?_map, hr']; rfl)
    have iQ : atI (ps2.map V.ref) ((i : Nat) : Int) = some (V.ref p8) := atI_nat (by rw [List.getElem?_map, ep8]; rfl)
    refine ⟨_, rfl, a, dx, _, rfl, s8 _ _ b1, rfl, _, rfl, _, rfl, N1, _, _, _, rfl, rfl, SqL.of (s8 _ _ eN1), iN, a, rows, r.1, rfl, hb2.mono (Stay.of s8), wb, fun _ => ?_, fun z => by rw [hk] at z; cases z⟩
    rw [ha]
    refine ⟨_, rfl, _, rfl, q, _, _, _, rfl, rfl, SqL.of (s8 _ _ hL2), iQ, p8, _, _, _, rfl, rfl, Same.sqt s8 tp8, atI_nat (j := 1) rfl, ?_⟩
    refine ⟨_, _, .int (r.2 : Nat), .int (r.2 : Nat), rfl, .int _, .int _, trivial, .inl ⟨rfl, _, rfl, iteF ?_⟩⟩
    refine ⟨_, rfl, a, dx, _, rfl, s8 _ _ b1, rfl, _, rfl, _, rfl, N1, _, _, _, rfl, rfl, SqL.of (s8 _ _ eN1), iN, a, rows, r.1, rfl, hb2.mono (Stay.of s8), wb, fun n z => ?_, fun z => by rw [hrk] at z; cases z⟩
    rw [hrk] at z
    have en : n = i := by have := Option.some.inj z; omega
    subst en
    refine ⟨_, rfl, _, _, .int (n : Nat), .int (n : Nat), rfl, .int _, .int _, trivial, .inl ⟨rfl, _, rfl, iteF ?_⟩⟩
    -- strange words
    have ls : ("s" : Str).length = 1 := by decide +kernel
    have ts : TxA 1 ("s" : Str) := tx_lit (by decide +kernel)
    have wl := w.tx.1
    have wz : r.1.length ≤ sizeLine := by rw [sizeLine_eq]; omega
    refine ⟨_, rfl, _, rfl, N1, _, _, _, rfl, rfl, SqL.of (s8 _ _ eN1), iN, _, _, rfl, rfl, by rw [ls, sizeLine_eq]; omega, ?_⟩
    refine ⟨_, rfl, _, rfl, N1, _, _, _, rfl, rfl, SqL.of (s8 _ _ eN1), iN, _, rfl, r.1, rfl, wz, ?_⟩
    refine ⟨_, rfl, _, rfl, N1, _, _, _, rfl, rfl, SqL.of (s8 _ _ eN1), iN, ⟨_, rfl⟩, r.1, rfl, rfl, by omega, (by show 4 ≤ sizeLine; decide), fun W9 hW9 => ?_⟩
    have hwords : ∃ ws : List Str, (∀ z ∈ ws, TxA 20 z) ∧ [V.str (r.1 ++ "s"), .str (cutS r.1 (some 1) none), .str (Txt.upper r.1), .str "*"] = ws.map V.str := by
      refine ⟨[r.1 ++ "s", cutS r.1 (some 1) none, Txt.upper r.1, "*"], fun z hz => ?_, rfl⟩
      simp only [List.mem_cons, List.not_mem_nil, or_false] at hz
      rcases hz with rfl | rfl | rfl | rfl
      · exact (w.tx.app ts).mono (by decide)
      · exact (w.tx.cut _ _).mono (by decide)
      · exact w.up.mono (by decide)
      · exact tx_lit (by decide +kernel)
    obtain ⟨ws, hws, ews⟩ := hwords
    rw [ews] at *
    have u9 := up_same (o := .lst (ws.map V.str)) hW9
    have eW9 : (upd H8 W9 (.lst (ws.map V.str))) W9 = some (.lst (ws.map V.str)) := upd_same
    generalize upd H8 W9 (.lst (ws.map V.str)) = H9 at *
    refine ⟨W9, rfl, ⟨_, SqL.of eW9⟩, for_list (K := K) (a := W9) (xs := ws.map V.str) (fun j σ H' => ∃ t5, σ = [some (.ref a), some (.ref q), some (.ref N1), some (.ref L1), some (.int (n : Nat)), t5, none] ∧ Same H9 H') ⟨t5, rfl, Same.refl _⟩ (fun _ _ _ _ ⟨_, _, s'⟩ => SqL.of (s' _ _ eW9)) ?_ ?_⟩
    · rintro j v σ H10 hv ⟨t5, rfl, s10⟩
      obtain ⟨x, hx, rfl⟩ := map_at hv
      have tx := hws x (List.mem_of_getElem? hx)
      have s210 := (s8.trans u9).trans s10
      refine ⟨_, rfl, _, rfl, N1, _, rfl, .inl (SqL.of (s210 _ _ eN1)), rfl, all_strs _, _, rfl, ?_⟩
      rw [inV_strs]
      refine if_ndec (fun c => ?_) (fun c => ⟨_, rfl, s10⟩)
      refine ⟨_, rfl, rfl, _, rfl, if_ndec (fun c2 => ?_) (fun c2 => ⟨_, rfl, s10⟩)⟩
      refine ⟨_, rfl, _, rfl, a, rows, x, rfl, hb2.mono (Stay.of s210), ⟨by have := tx.1; omega, tx.sg⟩, not_mem_isK c, fun H11 s11 => ?_⟩
      exact ⟨_, rfl, ⟨_, rfl, s10.trans s11⟩⟩
    · rintro σ H10 ⟨t5, rfl, s10⟩
      exact ⟨_, _, rfl, (s8.trans u9).trans s10⟩
  · rintro σ H8 ⟨t4, t5, rfl, s8⟩
    refine ⟨_, rfl, a, dx, _, rfl, s8 _ _ b1, rfl, a, rows, rfl, hb2.mono (Stay.of s8), ok, fun H9 s9 => ?_⟩
    have s89 := s8.trans s9
    refine ⟨_, rfl, q, rows.map ofR, rfl, (hRL2.mono s89).pl, by rw [List.length_map]; omega, fun r hr' => ?_, fun H10 s10 => ?_⟩
    · obtain ⟨z, hz, rfl⟩ := List.mem_map.mp hr'
      have h3 := ok.br z hz
      exact ⟨by have := (wd z hz).tx.1; show z.1.length ≤ 100; omega, nat_log (by omega)⟩
    · refine ⟨_, _, .str (pairsT (rows.map ofR)), .str (pairsT (rows.map ofR)), rfl, ?_, .str _, trivial, .inl ⟨rfl, hq _ ((s2.trans s89).trans s10)⟩⟩
      have : (rows.map fun r => pcT (ofR r)) = (rows.map ofR).map pcT := by
        rw [List.map_map]
        rfl
      rw [this]
      exact .str _
end
end Sy
/-! _law_stump_texts_right -/
namespace Sy
open PySem PySem.Spec PyProof.Rows L2
theorem clJ_len : ∀ st : List Nat, (pcs (clJ st).1).length + (clJ st).2.length ≤ st.length + 1
  | [] => Nat.le_succ _
  | n :: s => by
    have ih := clJ_len s
    rw [clJ]
    by_cases c : n = 1
    · rw [if_pos c, pcs_cons, List.length_append, tl_cl, List.length_cons]
      show 1 + (pcs (clJ s).1).length + (clJ s).2.length ≤ s.length + 1 + 1
      omega
    · rw [if_neg c, pcs_cons, List.length_append, tl_co]
      show 1 + 0 + (s.length + 1) ≤ s.length + 1 + 1
      omega
theorem jn_len {rows : List Sy.Row} {m : Nat} : ∀ {l : List Str} {st : List Nat}, (∀ y ∈ l, (TL.tl y).length ≤ m) → (pcs (jn rows st l)).length ≤ (m + 2) * l.length + st.length
  | [], st, _ => Nat.zero_le _
  | y :: l, st, h => by
    have hy := h y List.mem_cons_self
    have hl : ∀ z ∈ l, (TL.tl z).length ≤ m := fun z hz => h z (List.mem_cons_of_mem _ hz)
    rw [jn, pcs_cons, List.length_append, List.length_cons, Nat.mul_succ]
    by_cases c : 0 < ar rows y
    · have ih := jn_len (rows := rows) (st := ar rows y :: st) hl
      rw [if_pos c, pcs_cons, List.length_append, tl_op]
      rw [List.length_cons] at ih
      show _ + (1 + _) ≤ _
      omega
    · have ih := jn_len (rows := rows) (st := (clJ st).2) hl
      have hc := clJ_len st
      rw [if_neg c, pcs_append, List.length_append]
      omega
theorem clJ_sg : ∀ (st : List Nat) (c : Nat), c ∈ pcs (clJ st).1 → c < 128
  | [], c, h => nomatch (show c ∈ ([] : List Nat) from h)
  | n :: s, c, h => by
    rw [clJ] at h
    by_cases e : n = 1
    · rw [if_pos e, pcs_cons, tl_cl] at h
      rcases List.mem_append.mp h with h | h
      · rw [List.mem_singleton.mp h]; decide
      · exact clJ_sg s c h
    · rw [if_neg e, pcs_cons, tl_co] at h
      rcases List.mem_append.mp h with h | h
      · rw [List.mem_singleton.mp h]; decide
      · exact nomatch (show c ∈ ([] : List Nat) from h)
theorem jn_sg {rows : List Sy.Row} : ∀ {l : List Str} {st : List Nat}, (∀ y ∈ l, ∀ c ∈ TL.tl y, c < 128) → ∀ c ∈ pcs (jn rows st l), c < 128
  | [], st, _, c, h => nomatch (show c ∈ ([] : List Nat) from h)
  | y :: l, st, h, c, hc => by
    have hl : ∀ z ∈ l, ∀ c ∈ TL.tl z, c < 128 := fun z hz => h z (List.mem_cons_of_mem _ hz)
    rw [jn, pcs_cons] at hc
    rcases List.mem_append.mp hc with hc | hc
    · exact h y List.mem_cons_self c hc
    · by_cases e : 0 < ar rows y
      · rw [if_pos e, pcs_cons, tl_op] at hc
        rcases List.mem_append.mp hc with hc | hc
        · rw [List.mem_singleton.mp hc]; decide
        · exact jn_sg hl c hc
      · rw [if_neg e, pcs_append] at hc
        rcases List.mem_append.mp hc with hc | hc
        · exact clJ_sg st c hc
        · exact jn_sg hl c hc
theorem jT_tx {rows : List Sy.Row} {l : List Str} (h : ∀ y ∈ l, TxA 8 y) : TxA (10 * l.length) (jT rows l) := by
  refine ⟨?_, fun c hc => ?_⟩
  · rw [TL.len_tl, tl_jT]
    have := jn_len (rows := rows) (m := 8) (l := l) (st := []) fun y hy => by rw [← TL.len_tl]; exact (h y hy).1
    simpa using this
  · have hc : c ∈ TL.tl (jT rows l) := hc
    rw [tl_jT] at hc
    exact jn_sg (fun y hy => (h y hy).2) c hc
theorem word_tx {rows : List Sy.Row} {l : List Str} {m i : Nat} (hr : ∀ r ∈ rows, Wd r.1) (h : fa rows ["*"] m i l < 0) : ∀ y ∈ l, TxA 8 y := fun y hy => by
  rcases fa_words h y hy with k | k
  · obtain ⟨r, hr', rfl⟩ := isK_mem k
    exact (hr r hr').tx
  · rw [List.mem_singleton.mp k]
    exact tx_lit (by decide +kernel)
theorem fit_told {n : Nat} {l : List Str} (h : l.length ≤ 1000000) : Fit (n + 2) (dTold (DS l)) := by
  refine ⟨by show 2 ≤ 1000000; decide, fun d hd => ?_⟩
  simp only [List.mem_cons, List.not_mem_nil, or_false] at hd
  rcases hd with rfl | rfl
  · trivial
  · exact fit_strs h
theorem fit_er {n : Nat} : ∀ e : Er, Fit (n + 1) e.dat
  | .many _ _ => ⟨by show 3 ≤ 1000000; decide, fun d hd => by
      simp only [List.mem_cons, List.not_mem_nil, or_false] at hd
      rcases hd with rfl | rfl | rfl <;> cases n <;> trivial⟩
  | .bed _ => ⟨by show 2 ≤ 1000000; decide, fun d hd => by
      simp only [List.mem_cons, List.not_mem_nil, or_false] at hd
      rcases hd with rfl | rfl <;> cases n <;> trivial⟩
  | .stump _ => ⟨by show 2 ≤ 1000000; decide, fun d hd => by
      simp only [List.mem_cons, List.not_mem_nil, or_false] at hd
      rcases hd with rfl | rfl <;> cases n <;> trivial⟩
  | .text _ => ⟨by show 2 ≤ 1000000; decide, fun d hd => by
      simp only [List.mem_cons, List.not_mem_nil, or_false] at hd
      rcases hd with rfl | rfl <;> cases n <;> trivial⟩
  | .kind _ => ⟨by show 2 ≤ 1000000; decide, fun d hd => by
      simp only [List.mem_cons, List.not_mem_nil, or_false] at hd
      rcases hd with rfl | rfl <;> cases n <;> trivial⟩
section
variable {P : Program} {w : World} {K : PySem.W.Frag} {mg : Str → Option Value} {base : Heap}
def spStR (K : PySem.W.Frag) : Sp := fun vs H Q _ => ∃ (g q a : Addr) (rows : List Sy.Row), vs = [.ref g, .ref q, .ref a] ∧ Bag g H ∧ q ≠ g ∧ RL K H q rows ∧ RowsOk rows ∧ BedAt K H a rows ∧ ∀ H', Q (.bl true) H'
abbrev N_stR : List Str := ["_law_bag_here", "_law_rows_here", "_law_bed", "_law_stump", "_law_text", "_law_line"]
theorem sc_stR : FnScope N_stR ["_law_bag_here", "_law_rows_here", "_law_bed"] (defScope (top 55)) := ⟨rfl, rfl, rfl, by decide +kernel, rfl, by decide +kernel, by decide +kernel⟩
theorem Dr.stay {g : Addr} {H H' : Hp} (d : Dr g H H') (hg : Bag g H) : Stay H H' := by
  obtain ⟨l, _, c⟩ := d
  obtain ⟨l', _, e⟩ := hg
  exact c.stay e
theorem RL.dr {g q : Addr} {rows : List Sy.Row} {H H' : Hp} (h : RL K H q rows) (ne : q ≠ g) (hg : Bag g H) (d : Dr g H H') : RL K H' q rows := by
  have st := d.stay hg
  obtain ⟨as, h1, h2⟩ := h
  obtain ⟨l, _, c⟩ := d
  exact ⟨as, c.2 _ _ ne h1, Paired.mapP h2 fun _ _ z => st.sqt z⟩
theorem k_stR (T : Txt K mg) (F : DF K mg "_law_stump_texts_right" 55) (c_law_some_stump : Cal P w K mg base 3 "_law_some_stump" ["_law_bag_here", "_law_rows_here"] (spSome K)) (c_law_written : Cal P w K mg base 2 "_law_written" ["_law_rows_here", "_law_stump"] (spWrL K))
    (c_written : Cal P w K mg base 5 "written" ["bed", "stump"] (spWrS K)) (c_law_bent_text : Cal P w K mg base 3 "_law_bent_text" ["_law_bag_here", "_law_text"] spBentT) (c_law_text_met : Cal P w K mg base 6 "_law_text_met" ["_law_bed", "_law_text", "_law_with_holes"] (spTxtMet K))
    (c_law_stump_text_due : Cal P w K mg base 3 "_law_stump_text_due" ["_law_rows_here", "_law_text", "_law_with_holes"] (spStD K)) (c_law_same : ∀ n : Nat, Cal P w K mg base (n + 1) "_law_same" ["_law_told", "_law_due"] (spSame K n)) :
    Cal P w K mg base 7 "_law_stump_texts_right" ["_law_bag_here", "_law_rows_here", "_law_bed"] (spStR K) := by
  refine cal_of F.1 F.2 sc_stR (fun _ _ _ _ _ _ us e => match us, e with | [_, _, _], _ => rfl) (fun vs H Q E s => by obtain ⟨_, _, _, _, rfl, _⟩ := s; rfl) ?_
  intro cdv A outer s H vs Q E hr h
  obtain ⟨g, q, a, rows, rfl, hg, hqg, hRL, ok, hb, hq⟩ := h
  have sc := sc_stR
  have c_law_same := c_law_same 3
  refine ⟨_, (pss_cons (ps_set (i := 3) sc.nd rfl (Or.inl rfl) (pe_cal c_law_some_stump hr (pa_cons (pv 0) (pa_cons (pv 1) pa_nil))))
      (pss_cons (ps_set (i := 4) sc.nd rfl (Or.inl rfl) (pe_cal c_law_written hr (pa_cons (pv 1) (pa_cons (pv 3) pa_nil))))
      (pss_cons (ps_cut (ps_if (PW.pt (pw_and (pt_cmpR op_le (pe_callB call_len_seq (by rfl) T.len (by decide +kernel) (pa_cons (pv 3) pa_nil)) pe_int (nomark _)) (pw_and1 (pt_not (pt_val (pe_cal c_law_same hr (pa_cons (pe_cal c_written hr (pa_cons (pv 2) (pa_cons (pv 3) pa_nil))) (pa_cons (pv 4) pa_nil))))))))
        (pss_one (ps_ret pe_bl))
        pss_nil))
      (pss_cons (ps_for (passes_of rfl) rfl (pi_list (pe_lst (pa_cons (pv 4) (pa_cons (pe_cal c_law_bent_text hr (pa_cons (pv 0) (pa_cons (pv 4) pa_nil))) pa_nil)))) (pg_name (i := 5) sc.nd rfl (Or.inl rfl))
        (pss_cons (ps_if (pt_not (pt_val (pe_cal c_law_same hr (pa_cons (pe_cal c_law_text_met hr (pa_cons (pv 2) (pa_cons (pv 5) (pa_cons pe_bl pa_nil)))) (pa_cons (pe_cal c_law_stump_text_due hr (pa_cons (pv 1) (pa_cons (pv 5) (pa_cons pe_bl pa_nil)))) pa_nil)))))
          (pss_one (ps_ret pe_bl))
          pss_nil)
        (pss_one (ps_if (pt_not (pt_val (pe_cal c_law_same hr (pa_cons (pe_cal c_law_text_met hr (pa_cons (pv 2) (pa_cons (pv 5) (pa_cons pe_bl pa_nil)))) (pa_cons (pe_cal c_law_stump_text_due hr (pa_cons (pv 1) (pa_cons (pv 5) (pa_cons pe_bl pa_nil)))) pa_nil)))))
          (pss_one (ps_ret pe_bl))
          pss_nil))))
      (pss_one (ps_ret pe_bl)))))), ?_⟩
  have wd : ∀ r ∈ rows, Wd r.1 := fun r hr' => (nameOk_iff _).mp (ok.nm r hr')
  have nm100 : ∀ r ∈ rows, r.1.length ≤ 100 := fun r hr' => by have := (wd r hr').tx.1; omega
  refine ⟨_, rfl, _, rfl, g, q, rows, rfl, hg, hqg, hRL, ok, fun l p H1 hl hf d1 hp => ?_⟩
  have hb1 := hb.mono (d1.stay hg)
  have hRL1 := hRL.dr hqg hg d1
  have hg1 := d1.bag
  have wtx := word_tx wd hf
  have hsum := summ_le (m := 8) fun y hy => (wtx y hy).1
  refine ⟨_, rfl, _, rfl, q, p, rows, l, rfl, hRL1, hp, by omega, fun H2 s2 => ?_⟩
  have tx := (jT_tx (rows := rows) wtx).mono (m := 20020) (by omega)
  have hb2 := hb1.mono (Stay.of s2)
  have hRL2 := hRL1.mono s2
  have hg2 : Bag g H2 := by
    obtain ⟨l', hl', e⟩ := hg1
    exact ⟨l', hl', s2 _ _ e⟩
  have hp2 := Same.sqt s2 hp
  refine ⟨fun σ H' => σ = [some (.ref g), some (.ref q), some (.ref a), some (.ref p), some (.str (jT rows l)), none] ∧ Same H2 H', ?_, ?_⟩
  · refine ⟨_, rfl, p, _, rfl, .inr hp2, _, _, rfl, rfl, _, rfl, if_dec (fun c => ?_) (fun c => ⟨rfl, Same.refl _⟩)⟩
    rw [List.length_map] at c
    refine ⟨_, rfl, _, rfl, a, p, rows, l, rfl, hb2, hp2, by omega, hf, fun y hy => by have := (wtx y hy).1; omega, fun H3 s3 => ?_⟩
    exact ⟨_, rfl, _, _, .str (jT rows l), .str (jT rows l), rfl, .str _, .str _, trivial, .inl ⟨rfl, _, rfl, ⟨rfl, s3⟩⟩⟩
  rintro σ H3 ⟨rfl, s3⟩
  have hb3 := hb2.mono (Stay.of s3)
  have hRL3 := hRL2.mono s3
  have hg3 : Bag g H3 := by
    obtain ⟨l', hl', e⟩ := hg2
    exact ⟨l', hl', s3 _ _ e⟩
  refine ⟨_, rfl, _, rfl, _, rfl, g, jT rows l, 20020, rfl, hg3, tx, by decide, fun y4 H4 ty4 d4 => ?_⟩
  refine ⟨(by show 2 ≤ sizeLine; decide), fun LL hLL => ?_⟩
  have u5 := up_same (o := .lst [V.str (jT rows l), .str y4]) hLL
  have hb5 := (hb3.mono (d4.stay hg3)).mono (Stay.of u5)
  have hRL5 := (hRL3.dr hqg hg3 d4).mono u5
  have eLL : (upd H4 LL (.lst [V.str (jT rows l), .str y4])) LL = some (.lst ([jT rows l, y4].map V.str)) := upd_same
  have htx : ∀ z ∈ [jT rows l, y4], TxA 20030 z := fun z hz => by
    simp only [List.mem_cons, List.not_mem_nil, or_false] at hz
    rcases hz with rfl | rfl
    · exact tx.mono (by decide)
    · exact ty4
  generalize upd H4 LL (.lst [V.str (jT rows l), .str y4]) = H5 at *
  refine ⟨LL, rfl, ⟨_, SqL.of eLL⟩, for_list (K := K) (a := LL) (xs := [jT rows l, y4].map V.str) (fun i σ H' => ∃ t5, σ = [some (.ref g), some (.ref q), some (.ref a), some (.ref p), some (.str (jT rows l)), t5] ∧ Same H5 H') ⟨none, rfl, Same.refl _⟩ (fun _ _ _ _ ⟨_, _, s'⟩ => SqL.of (s' _ _ eLL)) ?_ ?_⟩
  · rintro i v σ H6 hv ⟨t5, rfl, s6⟩
    obtain ⟨x, hx, rfl⟩ := map_at hv
    have tx1 := htx x (List.mem_of_getElem? hx)
    refine ⟨_, rfl, _, rfl, a, rows, x, true, rfl, hb5.mono (Stay.of s6), by have := tx1.1; omega, tx1.sg, nm100, fun hn H7 v7 s7 i7 => ?_, fun e he H7 v7 s7 i7 => ?_⟩
    · have hn2 := hn
      rw [(lwE_eq wd true x).1] at hn2
      refine ⟨_, rfl, _, rfl, q, x, true, rows, rfl, hRL5.mono (s6.trans s7), ok, by have := tx1.1; omega, fun _ H8 v8 s8 i8 => ?_, fun e he => by rw [hn2] at he; cases he⟩
      refine ⟨v7, v8, dTold (DS (wordsOf x)), dTold (DS (wordsOf x)), rfl, ?_, i8, fit_told (by have := words_len x; have := tx1.1; omega), .inl ⟨rfl, _, rfl, iteF ?_⟩⟩
      · rw [← (lwE_eq wd true x).2 hn]
        exact i7.mono (Stay.of s8)
      refine ⟨_, rfl, _, rfl, a, rows, x, false, rfl, hb5.mono (Stay.of ((s6.trans s7).trans s8)), by have := tx1.1; omega, tx1.sg, nm100, fun hn H9 v9 s9 i9 => ?_, fun e he H9 v9 s9 i9 => ?_⟩
      · have hn2 := hn
        rw [(lwE_eq wd false x).1] at hn2
        refine ⟨_, rfl, _, rfl, q, x, false, rows, rfl, hRL5.mono (((s6.trans s7).trans s8).trans s9), ok, by have := tx1.1; omega, fun _ H10 v10 s10 i10 => ?_, fun e he => by rw [hn2] at he; cases he⟩
        refine ⟨v9, v10, dTold (DS (wordsOf x)), dTold (DS (wordsOf x)), rfl, ?_, i10, fit_told (by have := words_len x; have := tx1.1; omega), .inl ⟨rfl, _, rfl, iteF ?_⟩⟩
        · rw [← (lwE_eq wd false x).2 hn]
          exact i9.mono (Stay.of s10)
        exact ⟨_, rfl, (((s6.trans s7).trans s8).trans s9).trans s10⟩
      · have he2 := he
        rw [(lwE_eq wd false x).1] at he2
        refine ⟨_, rfl, _, rfl, q, x, false, rows, rfl, hRL5.mono (((s6.trans s7).trans s8).trans s9), ok, by have := tx1.1; omega, (fun hn => by rw [he2] at hn; cases hn), fun e' he' H10 v10 s10 i10 => ?_⟩
        rw [he2] at he'
        cases he'
        refine ⟨v9, v10, e.dat, e.dat, rfl, i9.mono (Stay.of s10), i10, fit_er e, .inl ⟨rfl, _, rfl, iteF ?_⟩⟩
        exact ⟨_, rfl, (((s6.trans s7).trans s8).trans s9).trans s10⟩
    · have he2 := he
      rw [(lwE_eq wd true x).1] at he2
      refine ⟨_, rfl, _, rfl, q, x, true, rows, rfl, hRL5.mono (s6.trans s7), ok, by have := tx1.1; omega, (fun hn => by rw [he2] at hn; cases hn), fun e' he' H8 v8 s8 i8 => ?_⟩
      rw [he2] at he'
      cases he'
      refine ⟨v7, v8, e.dat, e.dat, rfl, i7.mono (Stay.of s8), i8, fit_er e, .inl ⟨rfl, _, rfl, iteF ?_⟩⟩
      refine ⟨_, rfl, _, rfl, a, rows, x, false, rfl, hb5.mono (Stay.of ((s6.trans s7).trans s8)), by have := tx1.1; omega, tx1.sg, nm100, fun hn H9 v9 s9 i9 => ?_, fun e he H9 v9 s9 i9 => ?_⟩
      · have hn2 := hn
        rw [(lwE_eq wd false x).1] at hn2
        refine ⟨_, rfl, _, rfl, q, x, false, rows, rfl, hRL5.mono (((s6.trans s7).trans s8).trans s9), ok, by have := tx1.1; omega, fun _ H10 v10 s10 i10 => ?_, fun e he => by rw [hn2] at he; cases he⟩
        refine ⟨v9, v10, dTold (DS (wordsOf x)), dTold (DS (wordsOf x)), rfl, ?_, i10, fit_told (by have := words_len x; have := tx1.1; omega), .inl ⟨rfl, _, rfl, iteF ?_⟩⟩
        · rw [← (lwE_eq wd false x).2 hn]
          exact i9.mono (Stay.of s10)
        exact ⟨_, rfl, (((s6.trans s7).trans s8).trans s9).trans s10⟩
      · have he2 := he
        rw [(lwE_eq wd false x).1] at he2
        refine ⟨_, rfl, _, rfl, q, x, false, rows, rfl, hRL5.mono (((s6.trans s7).trans s8).trans s9), ok, by have := tx1.1; omega, (fun hn => by rw [he2] at hn; cases hn), fun e' he' H10 v10 s10 i10 => ?_⟩
        rw [he2] at he'
        cases he'
        refine ⟨v9, v10, e.dat, e.dat, rfl, i9.mono (Stay.of s10), i10, fit_er e, .inl ⟨rfl, _, rfl, iteF ?_⟩⟩
        exact ⟨_, rfl, (((s6.trans s7).trans s8).trans s9).trans s10⟩
  · rintro σ H6 ⟨t5, rfl, s6⟩
    exact hq _
end
end Sy
/-! the law -/
namespace Sy
open PySem PySem.Spec PyProof.Rows L2
theorem PL.dr {K : PySem.W.Frag} {g q : Addr} {ps : List PRow} {H H' : Hp} (h : PL K H q ps) (ne : q ≠ g) (hg : Bag g H) (d : Dr g H H') : PL K H' q ps := by
  have st := d.stay hg
  obtain ⟨as, h1, h2⟩ := h
  obtain ⟨l, _, c⟩ := d
  exact ⟨as, c.2 _ _ ne h1, Paired.mapP h2 fun _ _ z => st.sqt z⟩
theorem Bag.same {g : Addr} {H H' : Hp} (h : Bag g H) (s : Same H H') : Bag g H' := by
  obtain ⟨l, hl, e⟩ := h
  exact ⟨l, hl, s _ _ e⟩
def dueD (ps : List PRow) : PyData := match bedE ps with
  | none => dTold (PRowsD ps)
  | some e => e.dat
theorem fit_prows {n : Nat} {ps : List PRow} (h : ps.length ≤ 1000000) : Fit (n + 2) (PRowsD ps) := by
  refine ⟨by rw [List.length_map]; exact h, fun d hd => ?_⟩
  obtain ⟨x, _, rfl⟩ := List.mem_map.mp hd
  refine ⟨by show 2 ≤ 1000000; decide, fun d hd => ?_⟩
  simp only [List.mem_cons, List.not_mem_nil, or_false] at hd
  rcases hd with rfl | rfl <;> cases n <;> trivial
theorem fit_toldP {n : Nat} {ps : List PRow} (h : ps.length ≤ 1000000) : Fit (n + 3) (dTold (PRowsD ps)) := by
  refine ⟨by show 2 ≤ 1000000; decide, fun d hd => ?_⟩
  simp only [List.mem_cons, List.not_mem_nil, or_false] at hd
  rcases hd with rfl | rfl
  · trivial
  · exact fit_prows h
theorem fit_due {ps : List PRow} (h : ps.length ≤ 1000000) : Fit 3 (dueD ps) := by
  unfold dueD
  cases bedE ps with
  | none => exact fit_toldP h
  | some e => exact fit_er e
theorem num_tl {n : Nat} (h : n ≤ 3) : TL.tl (toString ((n : Nat) : Int) : Str) = [48 + n] := by
  match n, h with
  | 0, _ => decide +kernel
  | 1, _ => decide +kernel
  | 2, _ => decide +kernel
  | 3, _ => decide +kernel
theorem pcT_tl {r : Sy.Row} (h : r.2 ≤ 3) : TL.tl (pcT (ofR r)) = r.1.cps.toList ++ [47, 48 + r.2] := by
  show TL.tl (r.1 ++ "/" ++ (toString ((r.2 : Nat) : Int) : Str)) = _
  rw [TL.tl_append, TL.tl_append, tl_sl, num_tl h, List.append_assoc]
  rfl
theorem pieceR_pcT {r : Sy.Row} (w : Wd r.1) (h : r.2 ≤ 3) : pieceR (pcT (ofR r)) = some (ofR r) := by
  have e := pieceR_some (y := pcT (ofR r)) (A := r.1.cps.toList) (d := 48 + r.2) (pcT_tl h) (List.length_pos_iff.mp w.1) w.2.2 (by
    unfold isDig
    rw [decide_eq_true (by omega), decide_eq_true (by omega)]
    rfl)
  rw [e]
  show some (_, _) = some (r.1, ((r.2 : Nat) : Int))
  rw [show 48 + r.2 - 48 = r.2 by omega]
theorem piecesR_all : ∀ {rows : List Sy.Row}, (∀ r ∈ rows, Wd r.1 ∧ r.2 ≤ 3) → piecesR ((rows.map ofR).map pcT) = some (rows.map ofR)
  | [], _ => rfl
  | r :: rs, h => by
    obtain ⟨a, b⟩ := h r List.mem_cons_self
    rw [List.map_cons, List.map_cons, piecesR, pieceR_pcT a b]
    simp only
    rw [piecesR_all fun q hq => h q (List.mem_cons_of_mem _ hq)]
    rfl
theorem read_back {rows : List Sy.Row} (ok : RowsOk rows) (hpos : 0 < rows.length) : piecesR (Txt.split (pairsT (rows.map ofR)) " ") = some (rows.map ofR) := by
  have wd : ∀ r ∈ rows, Wd r.1 ∧ r.2 ≤ 3 := fun r hr' => ⟨(nameOk_iff _).mp (ok.nm r hr'), ok.br r hr'⟩
  have e : Txt.split (pairsT (rows.map ofR)) " " = (rows.map ofR).map pcT := by
    refine TL.split_join (s := 32) (S := []) tl_bl (by decide +kernel) (fun z => ?_) fun p hp => ?_
    · rw [List.map_eq_nil_iff, List.map_eq_nil_iff] at z
      rw [z] at hpos
      exact absurd hpos (by decide)
    · obtain ⟨q, hq, rfl⟩ := List.mem_map.mp hp
      obtain ⟨r, hr', rfl⟩ := List.mem_map.mp hq
      obtain ⟨w, h3⟩ := wd r hr'
      intro z
      rw [pcT_tl h3] at z
      rcases List.mem_append.mp z with z | z
      · have := (w.2.2 32 z).1
        omega
      · simp only [List.mem_cons, List.not_mem_nil, or_false] at z
        omega
  rw [e]
  exact piecesR_all wd
/-- the text of pairs -/
theorem glue_tx {m : Nat} : ∀ {ps : List Str}, (∀ p ∈ ps, TxA m p) → TxA ((m + 1) * ps.length) (Txt.join " " ps)
  | [], _ => by
    rw [TL.join_eq]
    exact ⟨Nat.zero_le _, fun c hc => nomatch (show c ∈ ([] : List Nat) from hc)⟩
  | [p], h => by
    rw [TL.join_eq]
    exact (h p List.mem_cons_self).mono (by show m ≤ (m + 1) * 1; omega)
  | p :: q :: r, h => by
    have ih := glue_tx (ps := q :: r) fun z hz => h z (List.mem_cons_of_mem p hz)
    rw [TL.join_eq] at ih ⊢
    show TxA _ (p ++ " " ++ Str.join " " (q :: r))
    refine TxA.mono (((h p List.mem_cons_self).app (tx_lit (n := 1) (by decide +kernel))).app ih) ?_
    simp only [List.length_cons, Nat.mul_succ]
    omega
theorem int_tx {i : Int} (h1 : -1 ≤ i) (h2 : i ≤ 1000000000) : TxA 40 (toString i : Str) := by
  rcases Int.lt_or_le i 0 with c | c
  · obtain rfl : i = -1 := by omega
    exact tx_lit (by decide +kernel)
  · obtain ⟨n, rfl⟩ : ∃ n : Nat, i = (n : Int) := ⟨i.toNat, by omega⟩
    have e : TL.tl (toString ((n : Nat) : Int) : Str) = TL.numL n := TL.tl_num n
    refine ⟨?_, fun c hc => ?_⟩
    · rw [TL.len_tl, e]
      exact Nat.le_trans (TL.numL_len (k := 10) (by decide) (by omega)) (by decide)
    · have hc : c ∈ TL.tl (toString ((n : Nat) : Int) : Str) := hc
      rw [e] at hc
      have := TL.numL_digits n c hc
      omega
theorem pcT_tx {r : PRow} (h : TxA 20 r.1) (h1 : -1 ≤ r.2) (h2 : r.2 ≤ 1000000000) : TxA 61 (pcT r) := (h.app (tx_lit (n := 1) (by decide +kernel))).app (int_tx h1 h2)
theorem pairsT_tx {ps : List PRow} (h : PrOk ps) : TxA 600 (pairsT ps) := by
  have hl := h.len
  refine (glue_tx (m := 61) (ps := ps.map pcT) fun p hp => ?_).mono (by rw [List.length_map]; omega)
  obtain ⟨r, hr', rfl⟩ := List.mem_map.mp hp
  exact pcT_tx (h.tx r hr') (h.lo r hr') (h.hi r hr')
set_option exponentiation.threshold 3000 in
theorem int_log9 {i : Int} (h1 : -1 ≤ i) (h2 : i ≤ 1000000000) : i.natAbs.log2 < 1920 := by
  by_cases c : i.natAbs = 0
  · rw [c]; decide
  · exact (Nat.log2_lt c).mpr (Nat.lt_of_le_of_lt (show i.natAbs ≤ 1000000000 by omega) (by decide))
section
variable {P : Program} {w : World} {K : PySem.W.Frag} {mg : Str → Option Value} {base : Heap}
def spLaw (K : PySem.W.Frag) : Sp := fun vs H Q _ => ∃ (s : Addr) (zs : List Int), vs = [.ref s] ∧ SqL K H s (zs.map V.int) ∧ zs.length ≤ 100000 ∧ ∀ H', Q (.bl true) H'
abbrev N_law : List Str := ["_law_script", "_law_bag_here", "_law_rows_here", "_law_pairs", "_law_text", "_law_other", "_law_due", "_law_bed", "_law_bed2", "_law_again"]
theorem sc_law : FnScope N_law ["_law_script"] (defScope (top 56)) := ⟨rfl, rfl, rfl, by decide +kernel, rfl, by decide +kernel, by decide +kernel⟩
theorem k_law (T : Txt K mg) (RD : ReadM P w K mg base) {fd : FuncData} (F : FunD K "law" "law" (defArgs (top 56)) (defBody (top 56)) (defScope (top 56)) [] [] (He.ga K "law") fd)
    (c_law_bag : Cal P w K mg base 1 "_law_bag" ["_law_script"] (spBag K)) (c_law_draw : Cal P w K mg base 1 "_law_draw" ["_law_bag_here", "_law_size"] spDraw) (c_law_rows : Cal P w K mg base 4 "_law_rows" ["_law_bag_here", "_law_most"] (spRows K))
    (c_law_bent_pairs : Cal P w K mg base 2 "_law_bent_pairs" ["_law_bag_here", "_law_rows_here"] (spBentP K)) (c_law_bent_text : Cal P w K mg base 3 "_law_bent_text" ["_law_bag_here", "_law_text"] spBentT) (c_law_pairs_text : Cal P w K mg base 1 "_law_pairs_text" ["_law_pairs"] (spPTxt K))
    (c_law_other_rows : Cal P w K mg base 5 "_law_other_rows" ["_law_bag_here", "_law_rows_here"] (spOther K)) (c_law_pairs_due : Cal P w K mg base 2 "_law_pairs_due" ["_law_pairs"] (spDueP K)) (c_law_bed_met : Cal P w K mg base 7 "_law_bed_met" ["_law_pairs", "_law_text", "_law_by_text"] (spBedMet K))
    (c_law_pairs_text_due : Cal P w K mg base 3 "_law_pairs_text_due" ["_law_text"] (spPTD K)) (c_law_made : Cal P w K mg base 5 "_law_made" ["_law_pairs"] (spMade K)) (c_law_bed_right : Cal P w K mg base 5 "_law_bed_right" ["_law_bed", "_law_rows_here"] (spBR K))
    (c_law_stump_texts_right : Cal P w K mg base 7 "_law_stump_texts_right" ["_law_bag_here", "_law_rows_here", "_law_bed"] (spStR K)) (c_same : CalM P w K mg base 1 "same" ["self", "other"] (spSameB K)) (c_law_same : ∀ n : Nat, Cal P w K mg base (n + 1) "_law_same" ["_law_told", "_law_due"] (spSame K n)) :
    FnOk P w K mg base (L2.CX P w) (7 + 1) (He.ga K "law") fd ["_law_script"] (spLaw K) := by
  refine F.ok sc_law (fun vs H Q E s => by obtain ⟨_, _, rfl, _⟩ := s; rfl) ?_
  intro cdv A outer s H vs Q E hr h
  obtain ⟨sa, zs, rfl, hs, hl, hq⟩ := h
  have sc := sc_law
  have c_law_same := c_law_same 3
  obtain ⟨mS, fS, FS, BS⟩ := c_same
  obtain ⟨rfd, FR, BR⟩ := RD.fn
  refine ⟨_, (pss_cons (ps_set (i := 1) sc.nd rfl (Or.inl rfl) (pe_cal c_law_bag hr (pa_cons (pv 0) pa_nil)))
      (pss_cons (ps_set (i := 2) sc.nd rfl (Or.inl rfl) (pe_cal c_law_rows hr (pa_cons (pv 1) (pa_cons pe_int pa_nil))))
      (pss_cons (ps_set (i := 3) sc.nd rfl (Or.inl rfl) (pe_cal c_law_bent_pairs hr (pa_cons (pv 1) (pa_cons (pv 2) pa_nil))))
      (pss_cons (ps_set (i := 4) sc.nd rfl (Or.inl rfl) (pe_cal c_law_bent_text hr (pa_cons (pv 1) (pa_cons (pe_cal c_law_pairs_text hr (pa_cons (pe_ix ix_list (pe_lst (pa_cons (pv 2) (pa_cons (pv 3) pa_nil))) (pe_cal c_law_draw hr (pa_cons (pv 1) (pa_cons pe_int pa_nil))) (fun _ _ => rfl)) pa_nil)) pa_nil))))
      (pss_cons (ps_set (i := 5) sc.nd rfl (Or.inl rfl) (pe_cal c_law_other_rows hr (pa_cons (pv 1) (pa_cons (pv 2) pa_nil))))
      (pss_cons (ps_cut (ps_set (i := 6) sc.nd rfl (Or.inl rfl) (pe_cal c_law_pairs_due hr (pa_cons (pv 3) pa_nil))))
      (pss_cons (ps_cut (ps_if (pt_cmpR op_isN (pv 6) pe_non (nomark _))
        (pss_one (ps_set (i := 6) sc.nd rfl (Or.inl rfl) (pe_tup (pa_cons pe_str (pa_cons (pe_callTy call_tuple_of (by rfl) T.tuple (by decide +kernel) (pa_cons (pv 3) pa_nil)) pa_nil)))))
        pss_nil))
      (pss_cons (ps_cut (ps_if (pt_not (pt_val (pe_cal c_law_same hr (pa_cons (pe_cal c_law_bed_met hr (pa_cons (pv 3) (pa_cons pe_str (pa_cons pe_bl pa_nil)))) (pa_cons (pv 6) pa_nil)))))
        (pss_one (ps_ret pe_bl))
        pss_nil))
      (pss_cons (ps_cut (ps_if (pt_not (pt_val (pe_cal c_law_same hr (pa_cons (pe_cal c_law_bed_met hr (pa_cons (pv 2) (pa_cons (pv 4) (pa_cons pe_bl pa_nil)))) (pa_cons (pe_cal c_law_pairs_text_due hr (pa_cons (pv 4) pa_nil)) pa_nil)))))
        (pss_one (ps_ret pe_bl))
        pss_nil))
      (pss_cons (ps_set (i := 7) sc.nd rfl (Or.inl rfl) (pe_cal c_law_made hr (pa_cons (pv 2) pa_nil)))
      (pss_cons (ps_set (i := 8) sc.nd rfl (Or.inl rfl) (pe_cal c_law_made hr (pa_cons (pv 5) pa_nil)))
      (pss_cons (ps_if (PW.pt (pw_or (pt_not (pt_val (pe_cal c_law_bed_right hr (pa_cons (pv 7) (pa_cons (pv 2) pa_nil))))) (pw_or (pt_not (pt_val (pe_cal c_law_bed_right hr (pa_cons (pv 8) (pa_cons (pv 5) pa_nil))))) (pw_or1 (pt_not (pt_val (pe_cal c_law_bed_right hr (pa_cons (pv 7) (pa_cons (pv 2) pa_nil)))))))))
        (pss_one (ps_ret pe_bl))
        pss_nil)
      (pss_cons (ps_set (i := 9) sc.nd rfl (Or.inl rfl) (pe_cmethW (E := fun _ => E0) (pe_glob (v := .ref (He.ga K "Bed")) (by rfl) RD.at_ (by rfl)) RD.rd RD.cm FR BR (hr.mono (by decide)) (fun σ pins H s e s' I h => passL pins σ H s e s' I h) (pa_cons (pe_cal c_law_pairs_text hr (pa_cons (pv 2) pa_nil)) pa_nil)))
      (pss_cons (ps_if (PW.pt (pw_or (pt_not (pt_val (pe_cal c_law_bed_right hr (pa_cons (pv 9) (pa_cons (pv 2) pa_nil))))) (pw_or1 (pt_not (pt_val (pe_cal c_law_same hr (pa_cons (pe_meth (pv 7) T.bed.cl mS FS (hr.mono (by decide)) BS .nil (E := E0) (fun pins σ H s e s' I h => passL pins σ H s e s' I h) (pa_cons (pv 9) pa_nil)) (pa_cons pe_bl pa_nil))))))))
        (pss_one (ps_ret pe_bl))
        pss_nil)
      (pss_cons (ps_if (PW.pt (pw_or (pt_not (pt_val (pe_cal c_law_same hr (pa_cons (pe_meth (pv 7) T.bed.cl mS FS (hr.mono (by decide)) BS .nil (E := E0) (fun pins σ H s e s' I h => passL pins σ H s e s' I h) (pa_cons (pv 8) pa_nil)) (pa_cons (pe_cmpR (op_eqD hr.units) (pv 2) (pv 5) (nomark _)) pa_nil))))) (pw_or1 (pt_not (pt_val (pe_cal c_law_same hr (pa_cons (pe_meth (pv 8) T.bed.cl mS FS (hr.mono (by decide)) BS .nil (E := E0) (fun pins σ H s e s' I h => passL pins σ H s e s' I h) (pa_cons (pv 9) pa_nil)) (pa_cons (pe_cmpR (op_eqD hr.units) (pv 2) (pv 5) (nomark _)) pa_nil))))))))
        (pss_one (ps_ret pe_bl))
        pss_nil)
      (pss_one (ps_ret (pe_and (pe_cal c_law_stump_texts_right hr (pa_cons (pv 1) (pa_cons (pv 2) (pa_cons (pv 7) pa_nil)))) (pe_and (pe_cmpR op_eq (pe_gint rfl T.MOST_KINDS) pe_int (nomark _)) (pe_one (pe_cmpR op_eq (pe_gint rfl T.MOST_BRANCHES) pe_int (nomark _)))))))))))))))))))))), ?_⟩
  refine ⟨_, rfl, sa, zs, rfl, hs, hl, fun g H1 hg1 s1 bg1 => ?_⟩
  refine ⟨_, rfl, g, 8, rfl, bg1, by decide, by decide, fun q as rows H2 rl d2 hqg eq2 hP2 => ?_⟩
  have ok := rl.ok
  have hpos := rl.pos
  have ule := ok.le
  have hRL2 : RL K H2 q rows := ⟨as, eq2, hP2⟩
  have bg2 := d2.bag
  refine ⟨_, rfl, _, rfl, g, q, rows, rfl, bg2, hqg, hRL2, ok, hpos, fun q3 ps H3 hk d3 hPL3 hq3 => ?_⟩
  have hRL3 := hRL2.dr hqg bg2 d3
  have bg3 := d3.bag
  have hkl := hk.len
  -- the text
  refine ⟨_, rfl, _, rfl, _, rfl, (by show 2 ≤ sizeLine; decide), fun L4 hL4 => ?_⟩
  have u4 := up_same (o := .lst [V.ref q, .ref q3]) hL4
  have e4 : (upd H3 L4 (.lst [V.ref q, .ref q3])) L4 = some (.lst [V.ref q, .ref q3]) := upd_same
  generalize upd H3 L4 (.lst [V.ref q, .ref q3]) = H4 at *
  have bg4 := bg3.same u4
  refine ⟨_, rfl, g, 2, rfl, bg4, by decide, by decide, fun i5 H5 hi5 d5 => ?_⟩
  have bg5 := d5.bag
  have L4g : L4 ≠ g := fun e => by
    obtain ⟨l', _, e'⟩ := bg3
    rw [e] at hL4
    rw [hL4] at e'
    cases e'
  have e5 : H5 L4 = some (.lst [V.ref q, .ref q3]) := by
    obtain ⟨l', _, c⟩ := d5
    exact c.2 _ _ L4g e4
  have hRL5 := (hRL3.mono u4).dr hqg bg4 d5
  have hPL5 := (hPL3.mono u4).dr hq3 bg4 d5
  obtain ⟨q5, ps5, eq5, hPL5', hk5⟩ : ∃ (q5 : Addr) (ps5 : List PRow), ([V.ref q, .ref q3] : List V)[i5]? = some (.ref q5) ∧ PL K H5 q5 ps5 ∧ PrOk ps5 := by
    match i5, hi5 with
    | 0, _ => exact ⟨q, _, rfl, hRL5.pl, rows_prok ok⟩
    | 1, _ => exact ⟨q3, _, rfl, hPL5, hk⟩
  have hk5l := hk5.len
  refine ⟨L4, _, _, _, rfl, rfl, SqL.of e5, atI_nat eq5, q5, ps5, rfl, hPL5', by omega, fun r hr' => ⟨by have := (hk5.tx r hr').1; omega, int_log9 (hk5.lo r hr') (hk5.hi r hr')⟩, fun H6 s6 => ?_⟩
  have bg6 := bg5.same s6
  refine ⟨g, pairsT ps5, 600, rfl, bg6, pairsT_tx hk5, by decide, fun x H7 tx d7 => ?_⟩
  have bg7 := d7.bag
  have hRL7 := (hRL5.mono s6).dr hqg bg6 d7
  have hPL7 := (hPL5.mono s6).dr hq3 bg6 d7
  have hxl := tx.1
  -- other rows
  refine ⟨_, rfl, _, rfl, g, q, rows, rfl, bg7, hqg, hRL7, ok, hpos, fun q8 rows8 H8 ok8 d8 hRL8' hq8 => ?_⟩
  have bg8 := d8.bag
  have hRL8 := hRL7.dr hqg bg7 d8
  have hPL8 := hPL7.dr hq3 bg7 d8
  have ule8 := ok8.le
  have hnl : ∀ r ∈ ps, r.1.length ≤ 1000000 := fun r hr' => by have := (hk.tx r hr').1; omega
  have hnl0 : ∀ r ∈ rows.map ofR, r.1.length ≤ 1000000 := fun r hr' => by have := ((rows_prok ok).tx r hr').1; omega
  have hnl8 : ∀ r ∈ rows8.map ofR, r.1.length ≤ 1000000 := fun r hr' => by have := ((rows_prok ok8).tx r hr').1; omega
  -- what is due
  refine ⟨fun σ H9 => ∃ v9 : V, σ = [some (.ref sa), some (.ref g), some (.ref q), some (.ref q3), some (.str x), some (.ref q8), some v9, none, none, none] ∧ Same H8 H9 ∧ ((bedE ps = none ∧ v9 = .non) ∨ ∃ e, bedE ps = some e ∧ Im K H9 v9 e.dat), ?_, ?_⟩
  · refine ⟨_, rfl, q3, ps, rfl, hPL8, by omega, hnl, fun he H9 s9 => ⟨_, rfl, s9, .inl ⟨he, rfl⟩⟩, fun e he H9 v9 s9 iv9 => ⟨_, rfl, s9, .inr ⟨e, he, iv9⟩⟩⟩
  rintro σ H9 ⟨v9, rfl, s9, hv9⟩
  refine ⟨fun σ H10 => ∃ v9 : V, σ = [some (.ref sa), some (.ref g), some (.ref q), some (.ref q3), some (.str x), some (.ref q8), some v9, none, none, none] ∧ Same H8 H10 ∧ Im K H10 v9 (dueD ps), ?_, ?_⟩
  · rcases hv9 with ⟨he, rfl⟩ | ⟨e, he, iv9⟩
    · refine ⟨_, rfl, rfl, _, rfl, ?_⟩
      rw [decide_eq_true rfl]
      obtain ⟨as9, hL9, hP9⟩ := hPL8.mono s9
      refine iteT ⟨_, rfl, q3, _, rfl, .inl ⟨SqL.of hL9, fun p hp => ?_⟩⟩
      have u10 := up_same (o := .tup (as9.map V.ref)) hp
      refine ⟨(by show 2 ≤ sizeLine; decide), fun t ht => ?_⟩
      have u11 := up_same (o := .tup [.str "told", .ref p]) ht
      refine ⟨.ref t, rfl, (s9.trans u10).trans u11, ?_⟩
      unfold dueD
      rw [he]
      exact .tup (SqT.of upd_same) (.cons (.str _) (.cons (.tup (Same.sqt u11 (SqT.of upd_same)) (Im.prows (Paired.mapP hP9 fun _ _ z => Same.sqt (u10.trans u11) z))) .nil))
    · have hv := Er.noNone iv9
      refine ⟨_, rfl, rfl, _, rfl, ?_⟩
      rw [decide_eq_false hv]
      refine iteF ⟨v9, rfl, s9, ?_⟩
      unfold dueD
      rw [he]
      exact iv9
  rintro σ H10 ⟨v10, rfl, s10, iv10⟩
  have hPL10 := hPL8.mono s10
  have hRL10 := hRL8.mono s10
  have hRL10' := hRL8'.mono s10
  have bg10 := bg8.same s10
  -- pairs are met
  have hx10 : x.length ≤ 10000 := by omega
  have met1 : ∀ (H11 : Hp) (v11 : V), Same H10 H11 → Im K H11 v11 (dueD ps) → (∀ R : Prop, R → R) := fun _ _ _ _ _ r => r
  refine ⟨fun σ H11 => σ = [some (.ref sa), some (.ref g), some (.ref q), some (.ref q3), some (.str x), some (.ref q8), some v10, none, none, none] ∧ Same H10 H11, ?_, ?_⟩
  · refine ⟨_, rfl, q3, "", false, ps, rfl, hPL10, hkl, hnl, by decide, (fun c hc => nomatch (show c ∈ ([] : List Nat) from hc)), (fun c => by cases c), fun _ => ⟨fun he H11 v11 s11 iv11 => ?_, fun e he H11 v11 s11 iv11 => ?_⟩⟩
    · have iv : Im K H11 v11 (dueD ps) := by unfold dueD; rw [he]; exact iv11
      exact ⟨_, rfl, v11, v10, dueD ps, dueD ps, rfl, iv, iv10.mono (Stay.of s11), fit_due (by omega), .inl ⟨rfl, _, rfl, ⟨rfl, s11⟩⟩⟩
    · have iv : Im K H11 v11 (dueD ps) := by unfold dueD; rw [he]; exact iv11
      exact ⟨_, rfl, v11, v10, dueD ps, dueD ps, rfl, iv, iv10.mono (Stay.of s11), fit_due (by omega), .inl ⟨rfl, _, rfl, ⟨rfl, s11⟩⟩⟩
  rintro σ H11 ⟨rfl, s11⟩
  have hRL11 := hRL10.mono s11
  have pk0 := rows_prok ok
  refine ⟨fun σ H12 => σ = [some (.ref sa), some (.ref g), some (.ref q), some (.ref q3), some (.str x), some (.ref q8), some v10, none, none, none] ∧ Same H11 H12, ?_, ?_⟩
  · refine ⟨_, rfl, _, rfl, q, x, true, rows.map ofR, rfl, hRL11.pl, by rw [List.length_map]; omega, hnl0, hx10, tx.sg, (fun _ => ⟨fun ps' hp he H12 v12 s12 iv12 => ?_, fun e he H12 v12 s12 iv12 => ?_⟩), fun c => by cases c⟩
    · have hre : readE x = none := by unfold readE; rw [hp]; exact he
      refine ⟨_, rfl, x, rfl, hx10, (fun ps'' hp' he' H13 v13 s13 iv13 => ?_), fun e he' => by rw [hre] at he'; cases he'⟩
      rw [hp] at hp'
      cases hp'
      have hl' : ps'.length ≤ 1000000 := by
        have := (bedE_ok he).1.le
        rw [List.length_map] at this
        omega
      exact ⟨v12, v13, _, _, rfl, iv12.mono (Stay.of s13), iv13, fit_toldP hl', .inl ⟨rfl, _, rfl, ⟨rfl, s12.trans s13⟩⟩⟩
    · refine ⟨_, rfl, x, rfl, hx10, (fun ps'' hp' he' => ?_), fun e' he' H13 v13 s13 iv13 => ?_⟩
      · have hre : readE x = none := by unfold readE; rw [hp']; exact he'
        rw [hre] at he
        cases he
      · rw [he] at he'
        cases he'
        exact ⟨v12, v13, _, _, rfl, iv12.mono (Stay.of s13), iv13, fit_er e, .inl ⟨rfl, _, rfl, ⟨rfl, s12.trans s13⟩⟩⟩
  rintro σ H12 ⟨rfl, s12⟩
  have s1012 := s11.trans s12
  have hRL12 := hRL10.mono s1012
  have hRL12' := hRL10'.mono s1012
  have bg12 := bg10.same s1012
  -- two beds
  refine ⟨_, rfl, q, rows.map ofR, rfl, hRL12.pl, by rw [List.length_map]; omega, hnl0, (fun _ _ _ H13 a13 s13 hb13 => ?_), fun e he => by rw [bedE_of ok] at he; cases he⟩
  rw [toR_map] at hb13
  refine ⟨_, rfl, q8, rows8.map ofR, rfl, (hRL12'.mono s13).pl, by rw [List.length_map]; omega, hnl8, (fun _ _ _ H14 a14 s14 hb14 => ?_), fun e he => by rw [bedE_of ok8] at he; cases he⟩
  rw [toR_map] at hb14
  have hb13' := hb13.mono (Stay.of s14)
  have s1214 := s13.trans s14
  refine ⟨_, rfl, _, rfl, a13, q, rows, rfl, hb13', hRL12.mono s1214, ok, fun H15 s15 => ⟨_, rfl, iteF ?_⟩⟩
  have t15 := s1214.trans s15
  refine ⟨_, rfl, _, rfl, a14, q8, rows8, rfl, hb14.mono (Stay.of s15), hRL12'.mono t15, ok8, fun H16 s16 => ⟨_, rfl, iteF ?_⟩⟩
  have t16 := t15.trans s16
  refine ⟨_, rfl, _, rfl, a13, q, rows, rfl, hb13'.mono (Stay.of (s15.trans s16)), hRL12.mono t16, ok, fun H17 s17 => ⟨_, rfl, iteF ?_⟩⟩
  have t17 := t16.trans s17
  -- read back
  have hbnd : ∀ r ∈ rows.map ofR, r.1.length ≤ 100 ∧ r.2.natAbs.log2 < 1920 := fun r hr' => ⟨by have := (pk0.tx r hr').1; omega, int_log9 (pk0.lo r hr') (pk0.hi r hr')⟩
  have ptx := pairsT_tx pk0
  refine ⟨rfl, _, rfl, q, rows.map ofR, rfl, (hRL12.mono t17).pl, by rw [List.length_map]; omega, hbnd, fun H18 s18 => ?_⟩
  have t18 := t17.trans s18
  have rb := read_back ok hpos
  refine ⟨pairsT (rows.map ofR), rfl, by have := ptx.1; omega, ptx.sg, (fun ps' hp he _ _ H19 a19 s19 hb19 => ?_), fun e he => ?_⟩
  rotate_left
  · unfold readE at he
    rw [rb] at he
    have he : bedE (rows.map ofR) = some e := he
    rw [bedE_of ok] at he
    cases he
  rw [rb] at hp
  cases hp
  rw [toR_map] at hb19
  have t19 := t18.trans s19
  have wd : ∀ r ∈ rows, PyData.strOk r.1 = true := fun r hr' => ((nameOk_iff _).mp (ok.nm r hr')).sok
  have wd8 : ∀ r ∈ rows8, PyData.strOk r.1 = true := fun r hr' => ((nameOk_iff _).mp (ok8.nm r hr')).sok
  have kb : ∀ {H' : Hp}, Same H14 H' → BedAt K H' a13 rows ∧ BedAt K H' a14 rows8 := fun s' => ⟨hb13'.mono (Stay.of s'), hb14.mono (Stay.of s')⟩
  have s1419 := (((s15.trans s16).trans s17).trans s18).trans s19
  refine ⟨_, rfl, _, rfl, a19, q, rows, rfl, hb19, hRL12.mono t19, ok, fun H20 s20 => ⟨_, rfl, iteF ?_⟩⟩
  have t20 := t19.trans s20
  have s1420 := s1419.trans s20
  have hb20 := hb19.mono (Stay.of s20)
  obtain ⟨k13, k14⟩ := kb s1420
  obtain ⟨dx, dA, tR, tK, dR, as13, x1, _⟩ := k13.ex
  obtain ⟨dy, eA, eR, eK, eRR, as14, y1, _⟩ := k14.ex
  refine ⟨_, rfl, a13, dx, _, rfl, x1, rfl, _, rfl, a13, a19, rows, rows, rfl, k13, hb20, wd, wd, ?_⟩
  refine ⟨_, _, .bool (decide (rows = rows)), .bool true, rfl, .bl _, .bl _, trivial, .inl ⟨by rw [decide_eq_true rfl], _, rfl, iteF ?_⟩⟩
  obtain ⟨asq, hLq, hPq⟩ := hRL12.mono t20
  obtain ⟨as8, hL8, hP8⟩ := hRL12'.mono t20
  have eqr : PyData.eqv (.list (rows.map RowD)) (.list (rows8.map RowD)) = decide (rows = rows8) := by rw [PyData.eqv, eqv_rows]
  refine ⟨_, rfl, a13, dx, _, rfl, x1, rfl, _, rfl, a13, a14, rows, rows8, rfl, k13, k14, wd, wd8, ?_⟩
  refine ⟨_, rfl, _, rfl, .list (rows.map RowD), .list (rows8.map RowD), .lst (SqL.of hLq) (Im.rowsD hPq).dp, .lst (SqL.of hL8) (Im.rowsD hP8).dp, lay_RowsL wd, lay_RowsL wd8, ?_⟩
  rw [eqr]
  refine ⟨_, _, .bool (decide (rows = rows8)), .bool (decide (rows = rows8)), rfl, .bl _, .bl _, trivial, .inl ⟨rfl, _, rfl, iteF ?_⟩⟩
  refine ⟨_, rfl, a14, dy, _, rfl, y1, rfl, _, rfl, a14, a19, rows8, rows, rfl, k14, hb20, wd8, wd, ?_⟩
  refine ⟨_, rfl, _, rfl, .list (rows.map RowD), .list (rows8.map RowD), .lst (SqL.of hLq) (Im.rowsD hPq).dp, .lst (SqL.of hL8) (Im.rowsD hP8).dp, lay_RowsL wd, lay_RowsL wd8, ?_⟩
  rw [eqr]
  have esym : decide (rows8 = rows) = decide (rows = rows8) := by
    by_cases z : rows = rows8
    · rw [decide_eq_true z, decide_eq_true z.symm]
    · rw [decide_eq_false z, decide_eq_false fun y => z y.symm]
  refine ⟨_, _, .bool (decide (rows8 = rows)), .bool (decide (rows = rows8)), rfl, .bl _, .bl _, trivial, .inl ⟨by rw [esym], _, rfl, iteF ?_⟩⟩
  -- texts of stumps
  refine ⟨_, rfl, _, rfl, _, rfl, g, q, a13, rows, rfl, bg12.same t20, hqg, hRL12.mono t20, ok, k13, fun H21 => ?_⟩
  refine ⟨_, rfl, iteT ⟨rfl, _, rfl, ?_⟩⟩
  rw [decide_eq_true rfl]
  refine iteT ⟨rfl, ?_⟩
  rw [decide_eq_true rfl]
  exact hq _
end
end Sy
/-! the head's facts, own errors with an __init__ among them -/
namespace Sy
open PySem PySem.Spec PyProof.Rows L2
theorem oexB_ok {K : PySem.W.Frag} {C : Addr} (h : oexB K C = true) : ∃ nm q N bs bm sn sub ab col dd k0 k1 k2 k3 k5, K.lookup C = some (excClassObj nm q C N bs bm true sn sub ab col dd k0 k1 k2 k3 k5 "ValueError.__new__") ∧ HandSPX.refsVE bm = true := by
  unfold oexB at h
  split at h
  · rename_i t dd cd sl ho
    split at h
    · rename_i C' bm k0 k1 k2 k3 n k5 hm hs
      simp only [Bool.and_eq_true, decide_eq_true_eq, Bool.not_eq_true'] at h
      obtain ⟨h1, h2, h3, h4, h5, h6⟩ := h
      obtain ⟨nm, bs, mro, ns, qn, hd, sn, sub, ab, col, del⟩ := cd
      dsimp only at hm h4 h5
      subst hm h4 h5 h1 h2 h3
      have hsl : sl = #[k0, k1, k2, k3, some (.builtin "ValueError.__new__"), k5] := by
        obtain ⟨z⟩ := sl
        simp only at hs
        rw [hs]
      subst hsl
      exact ⟨nm, qn, ns, bs, bm, sn, sub, ab, col, dd, k0, k1, k2, k3, k5, ho, h6⟩
    · cases h
  · cases h
theorem initB_ok {K : PySem.W.Frag} {file : Str} {d : ErD} (e : erW K d.x = d.val) (h : initB K file d.x d.q = true) : ∃ (cc cd : Addr) (oc : Value) (od : Option Addr) (kV doc pm : Value) (an : Option Addr) (ct : Value) (osl : Array (Option Value)),
    K.lookup (iniA K d.x) = some ⟨oc, od, .func (PySem.W.fnX "__init__" d.q (defArgs d.st) (defBody d.st) (defScope d.st) [("__class__", cc)] .none kV doc pm an (.ref cd) ct), osl⟩ ∧ PySem.W.codeIn K (.ref cd) d.q = true ∧
    (∃ (cl : Value) (dd : Option Addr) (vs : Array Value) (sl : Array (Option Value)) (fi : Str) (tf : Tok), K.lookup cd = some ⟨cl, dd, .fields vs, sl⟩ ∧ vs[2]? = some (.str fi tf) ∧ (file == fi) = true) ∧ ∃ (cl : Value) (dd : Option Addr) (sl : Array (Option Value)), K.lookup cc = some ⟨cl, dd, .cell (some (.ref (He.ga K d.x))), sl⟩ := by
  unfold initB at h
  unfold erW at e
  split at h
  · rename_i oc od fd osl ho
    rw [ho] at e
    obtain ⟨n1, n2, n3, n4, n5, n6, n7, n8, n9, n10, n11, n12, n13, n14, n15⟩ := fd
    have e2 : (some (n1, n2, n3, n4, n5, n6, n7.map (·.1), n15) : FnE) = d.val := e
    unfold ErD.val at e2
    simp only [Option.some.injEq, Prod.mk.injEq] at e2
    obtain ⟨e1, e2, e3, e4, e5, e6, e7, e8⟩ := e2
    simp only [Bool.and_eq_true] at h
    obtain ⟨h1, h2, h3, h4⟩ := h
    have hd : n8 = .none := by
      split at h4
      · first | rfl | assumption
      · cases h4
    unfold fileB at h2
    split at h2
    · rename_i cd
      unfold cellB at h3
      split at h3
      · rename_i y cc
        have hy : y = "__class__" := by simpa using e7
        subst hy
        split at h3
        · rename_i cl2 dd2 D sl2 hc
          have hD := of_decide_eq_true h3
          subst hD
          split at h2
          · rename_i cl dd vs sl hv
            split at h2
            · rename_i fi tf hf
              subst e1 e2 e3 e4 e5 e6 e8 hd
              exact ⟨cc, cd, oc, od, n9, n10, n11, n12, n14, osl, ho, h1, ⟨cl, dd, vs, sl, fi, tf, hv, hf, h2⟩, ⟨cl2, dd2, sl2, hc⟩⟩
            · cases h2
          · cases h2
        · cases h3
      · cases h3
    · cases h2
  · cases h
theorem ErD.errB {P : Program} {K : PySem.W.Frag} {h : Heap} {mg : Str → Option Value} {d : ErD} (X : K.In h) (G : h.Ns mainGlobals mg) (e : erW K d.x = d.val) (c : d.ok P.main.file K = true) (mS : mg "super" = none) (top : (P.main.scope.names.lookup ("super" : Str)).isSome = false) : ErrB P K mg d.x d.q d.st d.fs := by
  obtain ⟨c1, c⟩ := Bool.and_eq_true_iff.mp c
  obtain ⟨c2, c⟩ := Bool.and_eq_true_iff.mp c
  obtain ⟨c3, c⟩ := Bool.and_eq_true_iff.mp c
  obtain ⟨c4, c⟩ := Bool.and_eq_true_iff.mp c
  obtain ⟨c5, c⟩ := Bool.and_eq_true_iff.mp c
  obtain ⟨c6, c⟩ := Bool.and_eq_true_iff.mp c
  obtain ⟨c7, c⟩ := Bool.and_eq_true_iff.mp c
  obtain ⟨c8, c⟩ := Bool.and_eq_true_iff.mp c
  obtain ⟨c9, c⟩ := Bool.and_eq_true_iff.mp c
  obtain ⟨c10, c⟩ := Bool.and_eq_true_iff.mp c
  obtain ⟨c11, c⟩ := Bool.and_eq_true_iff.mp c
  obtain ⟨c12, c⟩ := Bool.and_eq_true_iff.mp c
  obtain ⟨c13, c⟩ := Bool.and_eq_true_iff.mp c
  obtain ⟨c14, c⟩ := Bool.and_eq_true_iff.mp c
  obtain ⟨c15, c⟩ := Bool.and_eq_true_iff.mp c
  obtain ⟨c16, c17⟩ := Bool.and_eq_true_iff.mp c
  obtain ⟨cc, cd, oc, od, kV, doc, pm, an, ct, osl, l1, l2, l3, l4⟩ := initB_ok e c12
  refine ⟨⟨cc, cd, kV, doc, pm, an, ct, ⟨⟨oc, od, .none, kV, doc, pm, an, ct, osl, rfl, l1⟩, l2, l3, l4, ?_, of_decide_eq_true c14, He.eqO_ok c15, of_decide_eq_true c16, He.eqO_ok c17, ⟨oexB_ok c7, He.eqO_ok c8, of_decide_eq_true c9, of_decide_eq_true c10, c11⟩⟩⟩, He.eqO_ok c2, of_decide_eq_true c3, PySem.W.mg_of X G (He.eqO_ok c1), of_decide_eq_true c4, xfB_ok c5, fun f hf => He.eqO_ok (List.all_eq_true.mp c6 f hf), mS, top⟩
  unfold PySem.W.isClsIn at c13
  exact Option.isSome_iff_exists.mp c13
/-! isinstance and except of the errors -/
theorem excB_ok {K : PySem.W.Frag} {D : Addr} (c : excB K D = true) : ExcC K D := by
  obtain ⟨c1, c⟩ := Bool.and_eq_true_iff.mp c
  obtain ⟨c2, c⟩ := Bool.and_eq_true_iff.mp c
  obtain ⟨c3, c⟩ := Bool.and_eq_true_iff.mp c
  obtain ⟨c4, c⟩ := Bool.and_eq_true_iff.mp c
  obtain ⟨c5, c⟩ := Bool.and_eq_true_iff.mp c
  obtain ⟨c6, c⟩ := Bool.and_eq_true_iff.mp c
  obtain ⟨c7, c8⟩ := Bool.and_eq_true_iff.mp c
  exact ⟨He.eqO_ok c1, He.eqO_ok c2, of_decide_eq_true c3, c4, He.eqO_ok c5, He.eqO_ok c6, of_decide_eq_true c7, of_decide_eq_true c8⟩
theorem metB_ok {K : PySem.W.Frag} {mg : Str → Option Value} (c : metB K = true) (h1 : mg "YardError" = some (.ref (He.ga K "YardError"))) (h2 : mg "ValueError" = none) : MetT K mg := by
  have q : ∀ k, k < 3 → ExcC K (He.ga K (six k)) ∧ PySem.W.kitOne K (.ref (He.ga K (six k))) (.type "ValueError") = some true ∧ PySem.W.exmOne K (.ref (He.ga K (six k))) (.ref (He.ga K "YardError")) = some true ∧ ∀ j, j < 3 → PySem.W.kitOne K (.ref (He.ga K (six k))) (.ref (He.ga K (six j))) = some (decide (k = j)) := fun k hk => by
    have c := List.all_eq_true.mp c k (List.mem_range.mpr hk)
    obtain ⟨c1, c⟩ := Bool.and_eq_true_iff.mp c
    obtain ⟨c2, c⟩ := Bool.and_eq_true_iff.mp c
    obtain ⟨c3, c4⟩ := Bool.and_eq_true_iff.mp c
    exact ⟨excB_ok c1, of_decide_eq_true c2, of_decide_eq_true c3, fun j hj => of_decide_eq_true (List.all_eq_true.mp c4 j (List.mem_range.mpr hj))⟩
  exact ⟨fun k hk => (q k hk).1, fun k j hk hj => (q k hk).2.2.2 j hj, fun k hk => (q k hk).2.1, fun k hk => (q k hk).2.2.1, h1, h2⟩
/-! Bed's classmethod and property -/
theorem propB_ok {K : PySem.W.Frag} {C : Addr} {m : Str} (c : propB K C m = true) : PropOf K C m (He.ma K C m) (He5.wf K C "property" m) := by
  obtain ⟨c1, c⟩ := Bool.and_eq_true_iff.mp c
  obtain ⟨c2, c⟩ := Bool.and_eq_true_iff.mp c
  obtain ⟨c3, c4⟩ := Bool.and_eq_true_iff.mp c
  refine ⟨He.eqO_ok c1, He.eqO_ok c2, of_decide_eq_true c3, ?_⟩
  unfold He5.wf
  split at c4
  · rename_i f r e
    exact ⟨r, by rw [e]⟩
  · cases c4
theorem cread_ok {K : PySem.W.Frag} {C : Addr} (h : PySem.W.readsIn K C (.type "type") = true) : ClX.CRead K C (.type "type") := by
  refine ⟨h, ?_⟩
  unfold PySem.W.readsIn at h
  obtain ⟨h, _⟩ := Bool.and_eq_true_iff.mp h
  obtain ⟨h, _⟩ := Bool.and_eq_true_iff.mp h
  obtain ⟨h, h3⟩ := Bool.and_eq_true_iff.mp h
  obtain ⟨_, h2⟩ := Bool.and_eq_true_iff.mp h
  unfold PySem.W.specialIn
  rw [beq_iff_eq.mp h2, Option.bind_some]
  exact beq_iff_eq.mp h3
theorem bedB_ok {K : PySem.W.Frag} (c : bedB K = true) : ClX.CRead K (He.ga K "Bed") (.type "type") ∧ ClX.CMet K (He.ga K "Bed") (.type "type") "read" (He.ma K (He.ga K "Bed") "read") (rdA K) ∧ PropOf K (He.ga K "Bed") "leaf" (He.ma K (He.ga K "Bed") "leaf") (He5.wf K (He.ga K "Bed") "property" "leaf") := by
  obtain ⟨c1, c⟩ := Bool.and_eq_true_iff.mp c
  obtain ⟨c2, c⟩ := Bool.and_eq_true_iff.mp c
  obtain ⟨c3, c4⟩ := Bool.and_eq_true_iff.mp c
  exact ⟨cread_ok c1, He5.cmet_of c2 c3, propB_ok c4⟩
section
variable {file : Str} {fa : List He.Fa} {fn : List He.DefD} {er : List ErD} {fw : List He5.DefA} {K : PySem.W.Frag}
theorem SaysX.d (c : SaysX file fa fn er fw K) : He.SaysD fa fn K := congrArg (fun z : AlX => z.1) c
theorem SaysX.met (c : SaysX file fa fn er fw K) : metB K = true := (Bool.and_eq_true_iff.mp (show ((er.all fun d => d.ok file K) && metB K) = true from congrArg (fun z : AlX => z.2.1) c)).2
theorem SaysX.bed (c : SaysX file fa fn er fw K) : bedB K = true := (Bool.and_eq_true_iff.mp (show (bedB K && fw.all fun d => d.ok K) = true from congrArg (fun z : AlX => z.2.2.2.1) c)).1
theorem SaysX.fw_ (c : SaysX file fa fn er fw K) (i : Nat) {d : He5.DefA} (h : fw[i]? = some d := by rfl) : ∃ fd, L2.FunD K d.name d.qual d.params d.body d.scope (d.dvs K) (d.kws K) (d.at_ K) fd := by
  have c2 := (Bool.and_eq_true_iff.mp (show (bedB K && fw.all fun d => d.ok K) = true from congrArg (fun z : AlX => z.2.2.2.1) c)).2
  have e : fw.map (fun d => He5.fnA K (d.at_ K)) = fw.map He5.DefA.val := congrArg (fun z : AlX => z.2.2.2.2) c
  have e2 : (fw.map fun d => He5.fnA K (d.at_ K))[i]? = (fw.map He5.DefA.val)[i]? := by rw [e]
  rw [List.getElem?_map, List.getElem?_map, h] at e2
  exact He5.DefA.funD (Option.some.inj e2) (List.all_eq_true.mp c2 d (List.mem_of_getElem? h))
theorem SaysX.err_ (c : SaysX file fa fn er fw K) (i : Nat) {d : ErD} (h : er[i]? = some d := by rfl) : erW K d.x = d.val ∧ d.ok file K = true := by
  have c0 : ((er.all fun d => d.ok file K) && metB K) = true := congrArg (fun z : AlX => z.2.1) c
  have c1 := (Bool.and_eq_true_iff.mp c0).1
  have c2 : (er.map fun d => erW K d.x) = er.map ErD.val := congrArg (fun z : AlX => z.2.2.1) c
  refine ⟨?_, List.all_eq_true.mp c1 d (List.mem_of_getElem? h)⟩
  have e2 : (er.map fun d => erW K d.x)[i]? = (er.map ErD.val)[i]? := by rw [c2]
  rw [List.getElem?_map, List.getElem?_map, h] at e2
  exact Option.some.inj e2
end
/-- a def that lets nothing out -/
theorem fn_calm {P : Program} {w : World} {K : PySem.W.Frag} {mg : Str → Option Value} {base : Heap} {k : Nat} {f : Addr} {fd : FuncData} {ps : List Str} {sp : Sp} (F : FnOk P w K mg base (L2.CX P w) k f fd ps sp) (h : ∀ vs H Q E, sp vs H Q E → sp vs H Q E0) : FnOk P w K mg base CX0 k f fd ps sp := by
  obtain ⟨len, run⟩ := F
  refine ⟨len, fun A outer s H args us vs Q E hr e0 hb r hsp => codeAny_mono (run A outer s H args us vs Q E0 hr e0 hb r (h _ _ _ _ hsp)) fun x s' z => ?_⟩
  cases x with
  | ok fl => cases fl <;> exact z
  | error e =>
    obtain ⟨_, _, _, _, _, _, _, _, _, _, _, _, q⟩ := z
    exact q.elim
end Sy
set_option maxHeartbeats 0
namespace Sy.En
open Sy PySem PySem.Spec PyProof.Rows L2
theorem facts {P : Program} {w : World} {K : PySem.W.Frag} {h : Heap} {mg : Str → Option Value} {f : Addr} (hfile : P.main.file = R.prog.main.file) (top_ : (P.main.scope.names.lookup ("super" : Str)).isSome = false) (X : K.In h) (G : h.Ns mainGlobals mg) (hfa : mg ("law" : Str) = some (.ref f)) (c : SaysX R.prog.main.file fa fn ers fw K) :
    ∃ fd : FuncData, (∀ (s : Shared) (v : Value), BindsTo s fd ⟨[v], []⟩ [("_law_script", v)]) ∧ ∀ base : Heap, K.In base → base.Ns mainGlobals mg → FnOk P w K mg base CX0 8 f fd ["_law_script"] (spLaw K) := by
  have D := c.d
  have e := hfa.symm.trans (He.glo_ok X G (D.fact 37 (f := .glo "law") rfl))
  cases e
  have f_check_count : DF K mg "check_count" 11 := ⟨D.def_ 0 (d := dOf "check_count" 11) rfl, He.glo_ok X G (D.fact 0 (f := .glo "check_count") rfl)⟩
  have f_arity : DF K mg "arity" 12 := ⟨D.def_ 1 (d := dOf "arity" 12) rfl, He.glo_ok X G (D.fact 1 (f := .glo "arity") rfl)⟩
  have f_fault_among : DF K mg "fault_among" 13 := ⟨D.def_ 2 (d := dOf "fault_among" 13) rfl, He.glo_ok X G (D.fact 2 (f := .glo "fault_among") rfl)⟩
  have f_check_stump : DF K mg "check_stump" 16 := ⟨D.def_ 3 (d := dOf "check_stump" 16) rfl, He.glo_ok X G (D.fact 3 (f := .glo "check_stump") rfl)⟩
  have f_written : DF K mg "written" 18 := ⟨D.def_ 4 (d := dOf "written" 18) rfl, He.glo_ok X G (D.fact 4 (f := .glo "written") rfl)⟩
  have f_read_stump : DF K mg "read_stump" 19 := ⟨D.def_ 5 (d := dOf "read_stump" 19) rfl, He.glo_ok X G (D.fact 5 (f := .glo "read_stump") rfl)⟩
  have f_read_plant : DF K mg "read_plant" 20 := ⟨D.def_ 6 (d := dOf "read_plant" 20) rfl, He.glo_ok X G (D.fact 6 (f := .glo "read_plant") rfl)⟩
  have f_read_row : DF K mg "read_row" 21 := ⟨D.def_ 7 (d := dOf "read_row" 21) rfl, He.glo_ok X G (D.fact 7 (f := .glo "read_row") rfl)⟩
  have f_joined_text : DF K mg "joined_text" 22 := ⟨D.def_ 8 (d := dOf "joined_text" 22) rfl, He.glo_ok X G (D.fact 8 (f := .glo "joined_text") rfl)⟩
  have f_only_letters : DF K mg "only_letters" 26 := ⟨D.def_ 9 (d := dOf "only_letters" 26) rfl, He.glo_ok X G (D.fact 9 (f := .glo "only_letters") rfl)⟩
  have f_is_name : DF K mg "is_name" 27 := ⟨D.def_ 10 (d := dOf "is_name" 27) rfl, He.glo_ok X G (D.fact 10 (f := .glo "is_name") rfl)⟩
  have f_law_bag : DF K mg "_law_bag" 30 := ⟨D.def_ 11 (d := dOf "_law_bag" 30) rfl, He.glo_ok X G (D.fact 11 (f := .glo "_law_bag") rfl)⟩
  have f_law_draw : DF K mg "_law_draw" 31 := ⟨D.def_ 12 (d := dOf "_law_draw" 31) rfl, He.glo_ok X G (D.fact 12 (f := .glo "_law_draw") rfl)⟩
  have f_law_word : DF K mg "_law_word" 32 := ⟨D.def_ 13 (d := dOf "_law_word" 32) rfl, He.glo_ok X G (D.fact 13 (f := .glo "_law_word") rfl)⟩
  have f_law_name : DF K mg "_law_name" 33 := ⟨D.def_ 14 (d := dOf "_law_name" 33) rfl, He.glo_ok X G (D.fact 14 (f := .glo "_law_name") rfl)⟩
  have f_law_rows : DF K mg "_law_rows" 34 := ⟨D.def_ 15 (d := dOf "_law_rows" 34) rfl, He.glo_ok X G (D.fact 15 (f := .glo "_law_rows") rfl)⟩
  have f_law_number : DF K mg "_law_number" 35 := ⟨D.def_ 16 (d := dOf "_law_number" 35) rfl, He.glo_ok X G (D.fact 16 (f := .glo "_law_number") rfl)⟩
  have f_law_plant : DF K mg "_law_plant" 36 := ⟨D.def_ 17 (d := dOf "_law_plant" 36) rfl, He.glo_ok X G (D.fact 17 (f := .glo "_law_plant") rfl)⟩
  have f_law_fault : DF K mg "_law_fault" 37 := ⟨D.def_ 18 (d := dOf "_law_fault" 37) rfl, He.glo_ok X G (D.fact 18 (f := .glo "_law_fault") rfl)⟩
  have f_law_same : DF K mg "_law_same" 38 := ⟨D.def_ 19 (d := dOf "_law_same" 38) rfl, He.glo_ok X G (D.fact 19 (f := .glo "_law_same") rfl)⟩
  have f_law_made : DF K mg "_law_made" 39 := ⟨D.def_ 20 (d := dOf "_law_made" 39) rfl, He.glo_ok X G (D.fact 20 (f := .glo "_law_made") rfl)⟩
  have f_law_bent_pairs : DF K mg "_law_bent_pairs" 40 := ⟨D.def_ 21 (d := dOf "_law_bent_pairs" 40) rfl, He.glo_ok X G (D.fact 21 (f := .glo "_law_bent_pairs") rfl)⟩
  have f_law_good_name : DF K mg "_law_good_name" 41 := ⟨D.def_ 22 (d := dOf "_law_good_name" 41) rfl, He.glo_ok X G (D.fact 22 (f := .glo "_law_good_name") rfl)⟩
  have f_law_pairs_due : DF K mg "_law_pairs_due" 42 := ⟨D.def_ 23 (d := dOf "_law_pairs_due" 42) rfl, He.glo_ok X G (D.fact 23 (f := .glo "_law_pairs_due") rfl)⟩
  have f_law_pairs_text : DF K mg "_law_pairs_text" 43 := ⟨D.def_ 24 (d := dOf "_law_pairs_text" 43) rfl, He.glo_ok X G (D.fact 24 (f := .glo "_law_pairs_text") rfl)⟩
  have f_law_pairs_text_due : DF K mg "_law_pairs_text_due" 44 := ⟨D.def_ 25 (d := dOf "_law_pairs_text_due" 44) rfl, He.glo_ok X G (D.fact 25 (f := .glo "_law_pairs_text_due") rfl)⟩
  have f_law_char : DF K mg "_law_char" 45 := ⟨D.def_ 26 (d := dOf "_law_char" 45) rfl, He.glo_ok X G (D.fact 26 (f := .glo "_law_char") rfl)⟩
  have f_law_bent_text : DF K mg "_law_bent_text" 46 := ⟨D.def_ 27 (d := dOf "_law_bent_text" 46) rfl, He.glo_ok X G (D.fact 27 (f := .glo "_law_bent_text") rfl)⟩
  have f_law_bed_met : DF K mg "_law_bed_met" 47 := ⟨D.def_ 28 (d := dOf "_law_bed_met" 47) rfl, He.glo_ok X G (D.fact 28 (f := .glo "_law_bed_met") rfl)⟩
  have f_law_text_met : DF K mg "_law_text_met" 48 := ⟨D.def_ 29 (d := dOf "_law_text_met" 48) rfl, He.glo_ok X G (D.fact 29 (f := .glo "_law_text_met") rfl)⟩
  have f_law_unknown : DF K mg "_law_unknown" 49 := ⟨D.def_ 30 (d := dOf "_law_unknown" 49) rfl, He.glo_ok X G (D.fact 30 (f := .glo "_law_unknown") rfl)⟩
  have f_law_bed_right : DF K mg "_law_bed_right" 50 := ⟨D.def_ 31 (d := dOf "_law_bed_right" 50) rfl, He.glo_ok X G (D.fact 31 (f := .glo "_law_bed_right") rfl)⟩
  have f_law_other_rows : DF K mg "_law_other_rows" 51 := ⟨D.def_ 32 (d := dOf "_law_other_rows" 51) rfl, He.glo_ok X G (D.fact 32 (f := .glo "_law_other_rows") rfl)⟩
  have f_law_written : DF K mg "_law_written" 52 := ⟨D.def_ 33 (d := dOf "_law_written" 52) rfl, He.glo_ok X G (D.fact 33 (f := .glo "_law_written") rfl)⟩
  have f_law_stump_text_due : DF K mg "_law_stump_text_due" 53 := ⟨D.def_ 34 (d := dOf "_law_stump_text_due" 53) rfl, He.glo_ok X G (D.fact 34 (f := .glo "_law_stump_text_due") rfl)⟩
  have f_law_some_stump : DF K mg "_law_some_stump" 54 := ⟨D.def_ 35 (d := dOf "_law_some_stump" 54) rfl, He.glo_ok X G (D.fact 35 (f := .glo "_law_some_stump") rfl)⟩
  have f_law_stump_texts_right : DF K mg "_law_stump_texts_right" 55 := ⟨D.def_ 36 (d := dOf "_law_stump_texts_right" 55) rfl, He.glo_ok X G (D.fact 36 (f := .glo "_law_stump_texts_right") rfl)⟩
  have f_law : DF K mg "law" 56 := ⟨D.def_ 37 (d := dOf "law" 56) rfl, He.glo_ok X G (D.fact 37 (f := .glo "law") rfl)⟩
  have m_init : MB K "__init__" "Bed.__init__" (clb 28 0) := ⟨He.meth_ok (D.fact 66 (f := .meth "Bed" "__init__") rfl), D.def_ 38 (d := dMe "__init__" "Bed.__init__" 0) rfl⟩
  have m_leaves : MB K "leaves" "Bed.leaves" (clb 28 3) := ⟨He.meth_ok (D.fact 67 (f := .meth "Bed" "leaves") rfl), D.def_ 39 (d := dMe "leaves" "Bed.leaves" 3) rfl⟩
  have m_branches : MB K "branches" "Bed.branches" (clb 28 4) := ⟨He.meth_ok (D.fact 68 (f := .meth "Bed" "branches") rfl), D.def_ 40 (d := dMe "branches" "Bed.branches" 4) rfl⟩
  have m_rank : MB K "rank" "Bed.rank" (clb 28 5) := ⟨He.meth_ok (D.fact 69 (f := .meth "Bed" "rank") rfl), D.def_ 41 (d := dMe "rank" "Bed.rank" 5) rfl⟩
  have m_same : MB K "same" "Bed.same" (clb 28 6) := ⟨He.meth_ok (D.fact 70 (f := .meth "Bed" "same") rfl), D.def_ 42 (d := dMe "same" "Bed.same" 6) rfl⟩
  have m_written : MB K "written" "Bed.written" (clb 28 7) := ⟨He.meth_ok (D.fact 71 (f := .meth "Bed" "written") rfl), D.def_ 43 (d := dMe "written" "Bed.written" 7) rfl⟩
  have n_len : mg "len" = none := He.free_ok X G (D.fact 38 (f := .free "len") rfl)
  have n_range : mg "range" = none := He.free_ok X G (D.fact 39 (f := .free "range") rfl)
  have n_reversed : mg "reversed" = none := He.free_ok X G (D.fact 40 (f := .free "reversed") rfl)
  have n_enumerate : mg "enumerate" = none := He.free_ok X G (D.fact 41 (f := .free "enumerate") rfl)
  have n_tuple : mg "tuple" = none := He.free_ok X G (D.fact 42 (f := .free "tuple") rfl)
  have n_list : mg "list" = none := He.free_ok X G (D.fact 43 (f := .free "list") rfl)
  have n_int : mg "int" = none := He.free_ok X G (D.fact 44 (f := .free "int") rfl)
  have n_abs : mg "abs" = none := He.free_ok X G (D.fact 45 (f := .free "abs") rfl)
  have n_max : mg "max" = none := He.free_ok X G (D.fact 46 (f := .free "max") rfl)
  have n_isinstance : mg "isinstance" = none := He.free_ok X G (D.fact 47 (f := .free "isinstance") rfl)
  have n_bool : mg "bool" = none := He.free_ok X G (D.fact 48 (f := .free "bool") rfl)
  have n_str : mg "str" = none := He.free_ok X G (D.fact 49 (f := .free "str") rfl)
  have n_super : mg "super" = none := He.free_ok X G (D.fact 50 (f := .free "super") rfl)
  have n_ValueError : mg "ValueError" = none := He.free_ok X G (D.fact 51 (f := .free "ValueError") rfl)
  have T : Txt K mg := ⟨⟨He.cls_ok (D.fact 60 (f := .cls "Bed") rfl), He.noat_ok (D.fact 62 (f := .noat "Bed" "arities") rfl), He.noat_ok (D.fact 63 (f := .noat "Bed" "rows") rfl), He.noat_ok (D.fact 64 (f := .noat "Bed" "kinds") rfl), He.noat_ok (D.fact 65 (f := .noat "Bed" "ranks") rfl)⟩, n_len, n_range, n_reversed, n_enumerate, n_tuple, n_list, n_int, n_abs, n_max, n_isinstance, He.int_ok X G (D.fact 52 (f := .int "MOST_KNOTS" 2000) rfl), He.int_ok X G (D.fact 53 (f := .int "MOST_KINDS" 8) rfl), He.int_ok X G (D.fact 54 (f := .int "MOST_BRANCHES" 3) rfl), He.int_ok X G (D.fact 55 (f := .int "LONGEST_NAME" 8) rfl)⟩
  have TC : TxtC mg := ⟨n_tuple, n_bool, n_int, n_str, n_isinstance, n_len, n_range⟩
  have bb := bedB_ok c.bed
  have PR : PropL K := ⟨bb.2.2, c.fw_ 1 (d := dW1) rfl⟩
  have TW : TxtW mg := ⟨He.str_ok X G (D.fact 56 (f := .str "HOLE" "*") rfl), He.str_ok X G (D.fact 57 (f := .str "DIGITS" "0123456789") rfl), n_str⟩
  have e_TooMany : ErrB P K mg "TooMany" "TooMany.__init__" (clb 6 0) ["what", "limit"] := ErD.errB (d := ⟨"TooMany", "TooMany.__init__", clb 6 0, ["what", "limit"]⟩) X G (c.err_ 0 rfl).1 (by rw [hfile]; exact (c.err_ 0 rfl).2) n_super top_
  have e_InvalidBed : ErrB P K mg "InvalidBed" "InvalidBed.__init__" (clb 2 0) ["place"] := ErD.errB (d := ⟨"InvalidBed", "InvalidBed.__init__", clb 2 0, ["place"]⟩) X G (c.err_ 1 rfl).1 (by rw [hfile]; exact (c.err_ 1 rfl).2) n_super top_
  have e_InvalidStump : ErrB P K mg "InvalidStump" "InvalidStump.__init__" (clb 3 0) ["place"] := ErD.errB (d := ⟨"InvalidStump", "InvalidStump.__init__", clb 3 0, ["place"]⟩) X G (c.err_ 2 rfl).1 (by rw [hfile]; exact (c.err_ 2 rfl).2) n_super top_
  have e_InvalidText : ErrB P K mg "InvalidText" "InvalidText.__init__" (clb 4 0) ["text"] := ErD.errB (d := ⟨"InvalidText", "InvalidText.__init__", clb 4 0, ["text"]⟩) X G (c.err_ 3 rfl).1 (by rw [hfile]; exact (c.err_ 3 rfl).2) n_super top_
  have e_UnknownKind : ErrB P K mg "UnknownKind" "UnknownKind.__init__" (clb 5 0) ["kind"] := ErD.errB (d := ⟨"UnknownKind", "UnknownKind.__init__", clb 5 0, ["kind"]⟩) X G (c.err_ 4 rfl).1 (by rw [hfile]; exact (c.err_ 4 rfl).2) n_super top_
  have R : Ers P K mg := ⟨e_TooMany, e_InvalidBed, e_InvalidStump, e_InvalidText, e_UnknownKind⟩
  have MT : MetT K mg := metB_ok c.met (He.glo_ok X G (D.fact 58 (f := .glo "YardError") rfl)) n_ValueError
  have M := He.mkr_ok (D.fact 61 (f := .mkr "Bed") rfl)
  have gBed := He.glo_ok X G (D.fact 59 (f := .glo "Bed") rfl)
  obtain ⟨fd, FD1⟩ := f_law.1
  have b := FunD.bindsA (ps := ["_law_script"]) FD1 fun _ _ _ _ _ _ us hl => match us, hl with | [_], _ => rfl
  refine ⟨fd, fun s v => b s [v] rfl, fun base _ _ => ?_⟩
  have c_arity := k_arity (P := P) (w := w) (base := base) T f_arity 
  have c_fault_among := k_fault (P := P) (w := w) (base := base) T f_fault_among c_arity 
  have c_check_count := k_count (P := P) (w := w) (base := base) T e_TooMany f_check_count 
  have c_only_letters := k_letters (P := P) (w := w) (base := base) f_only_letters 
  have c_is_name := k_name (P := P) (w := w) (base := base) T f_is_name c_only_letters 
  have cm_branches := k_branches (P := P) (w := w) (base := base) T R m_branches 
  have cm_leaves := k_leaves (P := P) (w := w) (base := base) T m_leaves 
  have c_init := r_init (P := P) (w := w) (base := base) T R m_init c_is_name cm_leaves 
  have BM : BedM P w K mg base := ⟨M, gBed, c_init⟩
  have f_Read := f_read (P := P) (w := w) (base := base) T TW R BM (c.fw_ 0 (d := dW0) rfl) c_only_letters 
  have RD : ReadM P w K mg base := ⟨bb.1, bb.2.1, gBed, f_Read⟩
  have cm_rank := k_rank (P := P) (w := w) (base := base) T R m_rank 
  have f_Leaf := f_leaf (P := P) (w := w) (base := base) T PR cm_leaves 
  have cm_same := k_sameB (P := P) (w := w) (base := base) T m_same 
  have cm_written := k_wrB (P := P) (w := w) (base := base) T m_written 
  have c_check_stump := k_checkS (P := P) (w := w) (base := base) T TW f_check_stump c_check_count c_fault_among 
  have c_joined_text := k_join (P := P) (w := w) (base := base) T f_joined_text c_arity 
  have c_written := k_wrS (P := P) (w := w) (base := base) f_written c_check_stump c_joined_text 
  have c_read_row := k_rrow (P := P) (w := w) (base := base) T R f_read_row c_check_count c_fault_among c_joined_text 
  have c_read_stump := k_rs (P := P) (w := w) (base := base) TW f_read_stump c_read_row 
  have c_read_plant := k_rp (P := P) (w := w) (base := base) f_read_plant c_read_row 
  have c_law_draw := k_draw (P := P) (w := w) (base := base) T f_law_draw 
  have c_law_word := k_word (P := P) (w := w) (base := base) T f_law_word c_law_draw 
  have c_law_name := k_nameL (P := P) (w := w) (base := base) T f_law_name c_law_draw c_law_word 
  have c_law_rows := k_rows (P := P) (w := w) (base := base) T f_law_rows c_law_draw c_law_name 
  have c_law_bag := k_bag (P := P) (w := w) (base := base) T f_law_bag 
  have c_law_number := k_num (P := P) (w := w) (base := base) T f_law_number 
  have c_law_plant := k_plantL (P := P) (w := w) (base := base) T f_law_plant c_law_draw 
  have c_law_fault := k_faultL (P := P) (w := w) (base := base) T f_law_fault c_law_number 
  have c_law_same := k_same (P := P) (w := w) (base := base) TC f_law_same 
  have c_law_good_name := k_goodN (P := P) (w := w) (base := base) T f_law_good_name 
  have c_law_pairs_due := k_dueP (P := P) (w := w) (base := base) T f_law_pairs_due c_law_good_name 
  have c_law_pairs_text := k_pTxt (P := P) (w := w) (base := base) T TW f_law_pairs_text 
  have c_law_made := k_made (P := P) (w := w) (base := base) T BM f_law_made 
  have c_law_pairs_text_due := k_ptd (P := P) (w := w) (base := base) T f_law_pairs_text_due c_law_pairs_due 
  have c_law_char := k_char (P := P) (w := w) (base := base) f_law_char c_law_draw 
  have c_law_bent_text := k_bentT (P := P) (w := w) (base := base) T f_law_bent_text c_law_draw c_law_char 
  have c_law_bed_met := k_bmet (P := P) (w := w) (base := base) T R MT RD f_law_bed_met c_law_made 
  have c_law_text_met := k_tmet (P := P) (w := w) (base := base) T R MT f_law_text_met c_read_stump c_read_plant 
  have c_law_unknown := k_unk (P := P) (w := w) (base := base) T R f_law_unknown cm_branches cm_rank c_law_same 
  have c_law_bent_pairs := k_bentP (P := P) (w := w) (base := base) T f_law_bent_pairs c_law_draw 
  have c_law_other_rows := k_other (P := P) (w := w) (base := base) T f_law_other_rows c_law_draw c_law_rows c_law_pairs_due 
  have c_law_written := k_wrL (P := P) (w := w) (base := base) T f_law_written c_law_number 
  have c_law_stump_text_due := k_stD (P := P) (w := w) (base := base) T f_law_stump_text_due c_law_fault c_law_written 
  have c_law_some_stump := k_some (P := P) (w := w) (base := base) T f_law_some_stump c_law_draw c_law_plant 
  have c_law_bed_right := k_br (P := P) (w := w) (base := base) T PR f_law_bed_right cm_branches cm_rank cm_leaves cm_written f_Leaf c_law_same c_law_unknown c_law_pairs_text 
  have c_law_stump_texts_right := k_stR (P := P) (w := w) (base := base) T f_law_stump_texts_right c_law_some_stump c_law_written c_written c_law_bent_text c_law_text_met c_law_stump_text_due c_law_same 
  have c_law := k_law (P := P) (w := w) (base := base) T RD FD1 c_law_bag c_law_draw c_law_rows c_law_bent_pairs c_law_bent_text c_law_pairs_text c_law_other_rows c_law_pairs_due c_law_bed_met c_law_pairs_text_due c_law_made c_law_bed_right c_law_stump_texts_right cm_same c_law_same 
  exact fn_calm c_law fun vs H Q E q => q
end Sy.En
open PySem PySem.W PySem.Calls PyProof.Rows
theorem PySem.Challenge.cw_shearyard_k04_texts_of_beds_and_stumps_holds : PySem.Challenge.rw_shearyard_k04_texts_of_beds_and_stumps.Holds := by
  w_on; o_law
  refine HandSHeadRun.head_any (r := OpenLaw.row PySem.Challenge.rw_shearyard_k04_texts_of_beds_and_stumps) (q := view (OpenLaw.row PySem.Challenge.rw_shearyard_k04_texts_of_beds_and_stumps).prog [56]) (H := Sy.En.hk) (ob := Sy.En.ob) (M := 30000) (loose := Sy.En.loose1 ++ Sy.En.loose2) (d := HandSHeadRun.topDef (OpenLaw.row PySem.Challenge.rw_shearyard_k04_texts_of_beds_and_stumps).prog 56) (kwd := []) Sy.En.ob_eq
    (by kernel_rfl) (fun s => by kernel_rfl) Sy.En.run (by kernel_rfl) (by kernel_rfl) (by kernel_rfl) (by rfl) (by first | assumption | decide +kernel) (by decide +kernel) ⟨rfl, rfl, rfl, rfl, rfl, by decide +kernel⟩ ?hw ?hc
  case hw => w_witness2
  case hc =>
    refine L2.walk_ofE (l := PySem.Challenge.rw_shearyard_k04_texts_of_beds_and_stumps) (n := 63) (k := 8) (x := "_law_script") (CX := L2.CX0) rfl (by decide) (by kernel_rfl) ⟨rfl, by decide, by decide⟩ ?F (fun _ _ _ _ z => z)
    intro w mg fa h Y G hmg0
    obtain ⟨K, KX, c⟩ := Y
    have hmg : mg ("law" : PySem.Str) = some (.ref fa) := by
      have e : (HandSHeadRun.topDef (OpenLaw.row PySem.Challenge.rw_shearyard_k04_texts_of_beds_and_stumps).prog 56).name = ("law" : PySem.Str) := by kernel_rfl
      rw [← e]
      exact hmg0
    obtain ⟨fd, hb, hF⟩ := Sy.En.facts (P := (PySem.Challenge.rw_shearyard_k04_texts_of_beds_and_stumps).prog) (w := w) rfl (by kernel_rfl) KX G hmg c
    exact ⟨K, fd, Sy.spLaw K, KX, hb, fun H a ns hl _ hS => ⟨a, ns, rfl, hS, Nat.le_trans hl (by decide), fun _ => rfl⟩, hF⟩
