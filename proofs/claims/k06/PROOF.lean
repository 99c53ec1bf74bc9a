import PyProof.Rows.All
import Wide.All
import OpenK.AllK
import Wide.FinOn
import KE.KStateDown
import HandS.ForMost
import HandS.ForExc
import HandS.Walk
import HandS.StrMore
import HandS.Star
import KE.GoesEnum
import HandS.ExcInit
import HandS.Nested
import KE.KExcSuper
import HandS.TupMul
import HandS.TupAny
import HandS.FStrTup
import HandS.FStr
import HandS.Deep
import HandS.IsInst
import HandS.RevRange
import HandS.DictComp
import HandS.Defaults
import HandS.Flow
import HandS.HeadHook1
import HandS.HeadHook2
import HandS.Ends
import HandS.Words
import HandS.WordsExc
import HandS.Head0
import HandS.Head1
import HandS.Head2
import HandS.HeadEnd
import HandS.ExcField
import HandS.HeadNt
import HandS.Property
import HandS.Dict
import HandS.ClsMeth
import HandS.Style
import PyProof.Rows.StrStrike
import HandS.Text
import KE.SortData
import KE.DataMinKey
import KE.DataMinMax
import HandS.More
import HandS.WordsDict
import HandS.MakeKwOnly
import HandS.Conv
import HandS.EndTab
import PySem.Challenge.RW_shearyard_k06_whole_least_plants
set_option Elab.async false
set_option linter.all false
set_option maxRecDepth 100000
set_option maxHeartbeats 4000000
/-! enumerate over a tuple (own rule) -/
namespace Sy
open PySem PySem.Spec PyProof.Rows L2
open AutoSeq1 (wpAny_loadPart')
theorem enumNew {v : Value} {o : Obj} {Hh : Heap → Prop} (B : Begins v o Hh) : Meets (Builtin.«enumerate.__new__» ⟨[.type "enumerate", v], []⟩) (fun _ R s => Hh s.heap ∧
    R (.ok (.ret (.ref (s.heap.push o).objs.size))) { s with heap := (s.heap.push o).push { cls := .type "enumerate", data := .fields #[.none, .bool false, .ref s.heap.objs.size, rawInt 0, .none, .none] } }) :=
  .of_wp fun prog w A R s hs => by
    obtain ⟨hp, g, d, tk, os⟩ := s
    obtain ⟨h1, hR⟩ := hs
    have hsub := sub_enumerate
    have it1 : ∀ {A' : Around} {E : Value → Shared → Prop} {Q : Value → Shared → Prop}, Q (.ref hp.objs.size) ⟨hp.push o, g, d, tk, os⟩ → wpAny (model prog w) A' (pyIter v) Q E ⟨hp, g, d, tk, os⟩ := fun q => B.iter prog w _ _ ⟨hp, g, d, tk, os⟩ _ h1 q
    wp_walk using it1
    refine wpAny_stack_any fun st => wpAny_pure ?_
    split
    · rename_i c _ _ _ _ _
      cases (c == Value.type "enumerate") <;> (wp_walk using it1; exact ⟨_, rfl, hR⟩)
    · (wp_walk using it1; exact ⟨_, rfl, hR⟩)
theorem enumCall {prog : Program} {w : World} {A : Around} {E : Value → Shared → Prop} {s : Shared} {v : Value} {o : Obj} {Hh : Heap → Prop} {Q : Value → Shared → Prop} (B : Begins v o Hh) (h1 : Hh s.heap)
    (h : ∀ h', IsEnum h' (s.heap.objs.size + 1) s.heap.objs.size 0 .none → h'.get? s.heap.objs.size = some o → (∀ b ob, s.heap.get? b = some ob → h'.get? b = some ob) → Q (.ref (s.heap.objs.size + 1)) { s with heap := h' }) :
    wpAny (model prog w) A (call (.type "enumerate") [v]) Q E s := by
  refine callType_new F.called_enumerate (by decide) (F.typeCall_enumerate_1 _) (F.newCall_enumerate_1 _) (fun obj => F.args_object_init_2 obj _) F.entry_enumerate_new (enumNew B) ⟨h1, ?_⟩
  have hz : (s.heap.push o).objs.size = s.heap.objs.size + 1 := Heap.size_push ..
  show _ ∧ _
  rw [hz]
  have he : IsEnum ((s.heap.push o).push { cls := .type "enumerate", data := .fields #[.none, .bool false, .ref s.heap.objs.size, rawInt 0, .none, .none] }) (s.heap.objs.size + 1) s.heap.objs.size 0 .none := by
    have q := Heap.get?_push_size (s.heap.push o) (o := { cls := .type "enumerate", data := .fields #[.none, .bool false, .ref s.heap.objs.size, rawInt 0, .none, .none] }) rfl
    rw [hz] at q
    exact q
  exact ⟨⟨_, he, rfl⟩, h _ he (Heap.get?_push_of_some _ (Heap.get?_push_size _ B.free)) fun b ob x => Heap.get?_push_of_some _ (Heap.get?_push_of_some _ x)⟩
/-- the tuple at a, each item in a new pair -/
def ItE (K : PySem.W.Frag) (a : Addr) : It :=
  ⟨fun i H => ∃ (xs : List V) (x : V), SqT K H a xs ∧ xs[i]? = some x,
   fun i H v H' => ∃ T x, v = .ref T ∧ H T = none ∧ H' = upd H T (.tup [.int (i : Nat), x]) ∧ ∀ xs, SqT K H a xs → xs[i]? = some x,
   fun i H => ∃ xs : List V, SqT K H a xs ∧ xs.length ≤ i⟩
theorem turnE {P : Program} {w : World} {K : PySem.W.Frag} {elts : List Expr} {kk : Nat} {tpos : Pos} (a e it : Addr) :
    Turn P w K (.Tuple elts kk tpos) (ItE K a) [e, it] e (fun i h => (∃ old, IsEnum h e it ((i : Nat) : Int) old) ∧ h.IsTupleIter it a i ∧ e ≠ it ∧ a ≠ it ∧ a ≠ e) where
  mem := by simp
  obj := fun i h st b hb => by
    obtain ⟨⟨old, he⟩, ⟨o, ho, hc, hd⟩, _⟩ := st
    rcases (show b = e ∨ b = it by simpa using hb) with z | z
    · subst z; exact ⟨_, he, fun v q => nomatch q⟩
    · subst z; exact ⟨o, ho, fun v q => by rw [hd] at q; cases q⟩
  keep := fun i h h' st k => by
    obtain ⟨⟨old, he⟩, hi, n1⟩ := st
    exact ⟨⟨old, k e (by simp) _ he⟩, hi.at fun o q => k it (by simp) o q, n1⟩
  item := by
    intro X hP hw hK hc i pins s σ H E I hf st hg
    subst hP hw hK
    obtain ⟨⟨old, he⟩, hit, hne, ha1, ha2⟩ := st
    obtain ⟨xs, x, hq, hx⟩ := hg
    obtain ⟨its, rv, p, hz⟩ := I.tuple hq
    obtain ⟨u, hu, ru⟩ := rv.get hx
    have hlen : i < its.toArray.size := by
      rw [List.size_toArray]
      exact (List.getElem?_eq_some_iff.mp hu).1
    have D := Draws.tuple (prog := X.prog) (w := X.w) (A := X.A.in1) (by have q := I.ok.hd hc; exact q) it a ha1 its.toArray
    have hel : e < s.heap.objs.size := Heap.lt_size he
    have hil : it < s.heap.objs.size := by obtain ⟨_, q, _⟩ := hit; exact Heap.lt_size q
    refine wpAny_pyNext_enum_itemC D he ⟨hit, p⟩ hlen hne (by simp [hne, Ne.symm ha2]) fun y h' tk hP ho st' hT hsz hk => ?_
    have ey : y = u := by
      have z : its.toArray[i]? = some u := by simpa using hu
      exact Option.some.inj (hP.symm.trans z)
    subst ey
    refine ⟨_, rfl, wpAny_letOwnedTupleGo_enum (s := { s with heap := h', toks := tk + 1 }) ho fun h'' he' sb => ?_⟩
    have hT2 : h''.get? s.heap.objs.size = some { cls := .type "tuple", data := .seq #[.int i tk, y] } := (sb.2 _ (Nat.ne_of_gt hel)).trans hT
    have new : ObjOk X.prog X.w (upd H s.heap.objs.size (.tup [.int (i : Nat), x])) h'' s.heap.objs.size (.tup [.int (i : Nat), x]) :=
      ⟨by show 2 ≤ sizeLine; decide, [.int i tk, y], .cons ⟨_, rfl⟩ (.cons ru .nil), ⟨_, hT2, rfl, _, rfl⟩⟩
    have I1 : Inv X pins σ (upd H s.heap.objs.size (.tup [.int (i : Nat), x])) { s with heap := h'', toks := tk + 1 } :=
      I.turnedNew (ch := [e, it]) (fun b ob hb q => by
        have hb' : b ≠ e ∧ b ≠ it := by simpa using hb
        exact (sb.2 b hb'.1).trans (hk b ob hb'.1 hb'.2 q)) hf (Nat.le_refl _) new
    refine ⟨.ref s.heap.objs.size, _, I1, rfl, ⟨_, x, rfl, I.hok.fresh (Nat.le_refl _), rfl, fun ys hy => by rw [I.tuple_inj hy hq]; exact hx⟩, ⟨⟨y, ?_⟩, st'.1.at fun o q => (sb.2 it (Ne.symm hne)).trans q, hne, ha1, ha2⟩, fun b hb => ?_⟩
    · have e1 : ((i + 1 : Nat) : Int) = (i : Int) + 1 := by omega
      rw [e1]
      exact he'
    · have hb' : b < s.heap.objs.size := by
        rcases (show b = e ∨ b = it by simpa using hb) with z | z <;> (rw [z]; assumption)
      rw [upd_ne (Nat.ne_of_lt hb')]
      exact (hf b hb).1
  done := by
    intro X hP hw hK hc i pins s σ H E I hf st hg
    subst hP hw hK
    obtain ⟨⟨old, he⟩, hit, hne, ha1, ha2⟩ := st
    obtain ⟨xs, hq, hx⟩ := hg
    obtain ⟨its, rv, p, hz⟩ := I.tuple hq
    obtain ⟨f0, f1, f2, f3, f4, f5⟩ := hf it (by simp)
    have hl := rv.length
    have hT : s.TypeIs (.ref e) "enumerate" := ⟨_, he, rfl⟩
    unfold pyNext
    refine wpAny_bind (wpAny_attempt (wpAny_callSpecial?_slot (name := Str.ofString "__next__") hT F.slot_enumerate_next (wpAny_call_entry F.slot_enumerate_next hT F.entry_enumerate_next ?_ (F.args_enumerate_next_1 _))))
    show wpAny _ _ (field (.ref e) 2 >>= _) _ _ _
    refine wpAny_bind (wpAny_field he rfl (x := .ref it) rfl ?_)
    refine wpAny_bind (wpAny_nextOf_tuple_end (I.ok.hd hc) hit p (by simp; omega) fun h' x he' hx' => ?_)
    obtain ⟨o, ho, hcl⟩ := hx'
    refine wpAny_bind (wpAny_isInstance (T := "StopIteration") (b := true) ⟨o, ho, hcl⟩ isSubtype_stop ?_)
    exact wpAny_pure ⟨rfl, I.turned (t' := s.toks) (fun b ob hb q => he' b ob hb q) f0 f1 f3 f4 f5⟩
  self := fun A i s Q E st h => by
    obtain ⟨⟨_, he⟩, _⟩ := st
    exact wpAny_pyIter_enum he h
/-- for i, x in enumerate(t), t a tuple -/
def iEnumT (K : PySem.W.Frag) (ta : TA) : TI := fun σ H R => ta σ H fun vs H1 => ∃ a xs, vs = [.ref a] ∧ SqT K H1 a xs ∧ R (ItE K a) H1
theorem pi_enumT {X : Cx} {e : Expr} {ta : TA} {p pos tpos : Pos} {elts : List Expr} {kk : Nat} (hg : Gl X "enumerate") (hm : X.mg "enumerate" = none) (ha : PA X [e] ta) (hs : starEach [e] X.env = [(false, eval e X.env)] := by rfl) :
    PI X (.Tuple elts kk tpos) (.Call (.Name "enumerate" p) [e] [] pos) (iEnumT X.K ta) := by
  refine ⟨fun pins s σ H R I h => ?_⟩
  refine Call_ (ld_blt I hg hm boot_enumerate (PyProof.Rows.callWith_type1 (thn (ha.run pos pins s σ H _ I h) fun us s1 ⟨vs, H1, I1, r1, a, xs, ex, hq, q⟩ => ?_) hs rfl))
  subst ex
  cases r1 with
  | cons r rr =>
    cases rr
    cases r
    obtain ⟨its, rv, p', hz⟩ := I1.tuple hq
    have hal : a < s1.heap.objs.size := by obtain ⟨_, z, _⟩ := p'; exact Heap.lt_size z
    refine enumCall (begins_tuple a its.toArray) p' fun h' he hit hk => wpAny_pyIter_enum he ?_
    have I2 : Inv X pins σ H1 { s1 with heap := h' } := I1.kept (t' := s1.toks) hk
    refine ⟨s1.heap.objs.size + 1, [s1.heap.objs.size + 1, s1.heap.objs.size], _, _, H1, rfl, I2, turnE a (s1.heap.objs.size + 1) s1.heap.objs.size, ⟨⟨.none, he⟩, ⟨_, hit, rfl, rfl⟩, Nat.succ_ne_self _, Nat.ne_of_lt hal, Nat.ne_of_lt (Nat.lt_succ_of_lt hal)⟩, fun b hb => ?_, q⟩
    have hle : s1.heap.objs.size ≤ b := by
      rcases (show b = s1.heap.objs.size + 1 ∨ b = s1.heap.objs.size by simpa using hb) with z | z <;> (rw [z]; first | exact Nat.le_refl _ | exact Nat.le_add_right _ _)
    exact I1.fpOk hle (I1.hok.fresh hle)
theorem walkE {K : PySem.W.Frag} {a : Addr} {xs : List V} : Walk (ItE K a) xs.length (fun H => SqT K H a xs) (YPair (fun i => some (.int (i : Nat))) (fun i => xs[i]?)) :=
  ⟨fun i H hi h => ⟨xs, xs[i], h, by simp [hi]⟩, fun H h => ⟨xs, h, Nat.le_refl _⟩, fun i H x H' hi h y => by
    obtain ⟨T, z, e1, e2, e3, e4⟩ := y
    exact ⟨T, _, z, e1, e2, e3, rfl, e4 xs h⟩⟩
end Sy
/-! super().__init__(..) as the first row of an own error's __init__ (own rule) -/
namespace Sy
open PySem PySem.Spec PyProof.Rows L2 NdefX
/-- what the written part says of the error's class at D and its __init__ at f (its cell at cc, its code at cd) -/
structure SupF (P : Program) (K : PySem.W.Frag) (D f cc cd : Addr) (qual : Str) (pa : Arguments) (bo : List Stmt) (sc : Scope) (fd : FuncData) : Prop where
  ex : ∃ (oc : Value) (od : Option Addr) (dV kV doc pm : Value) (an : Option Addr) (ct : Value) (osl : Array (Option Value)),
    fd = PySem.W.fnX "__init__" qual pa bo sc [("__class__", cc)] dV kV doc pm an (.ref cd) ct ∧ K.lookup f = some ⟨oc, od, .func fd, osl⟩
  co : PySem.W.codeIn K (.ref cd) qual = true
  file : ∃ (cl : Value) (dd : Option Addr) (vs : Array Value) (sl : Array (Option Value)) (fi : Str) (tf : Tok), K.lookup cd = some ⟨cl, dd, .fields vs, sl⟩ ∧ vs[2]? = some (.str fi tf) ∧ ((P.main.file : Str) == fi) = true
  cell : ∃ (cl : Value) (dd : Option Addr) (sl : Array (Option Value)), K.lookup cc = some ⟨cl, dd, .cell (some (.ref D)), sl⟩
  isc : ∃ c, PySem.W.clsIn K D = some c
  sub : PySem.W.mroIn K D (.ref D) = some true
  sup : PySem.W.ks_superIn K D D "__init__" = some (some (.builtin "ValueError.__init__"))
  ve : PySem.W.subIn K (.ref D) (.type "ValueError") = some true
  opq : PySem.W.nsIn K cStatics "thirdparty.any" = some none
  oex : OexC K D
section
variable {P : Program} {w : World} {K : PySem.W.Frag} {mg : Str → Option Value} {base : Heap} {CX : CXT} {k : Nat} {D f cc cd : Addr} {qual : Str} {pa : Arguments} {bo rest : List Stmt} {sc : Scope} {fd : FuncData} {N ps : List Str} {sp : Sp} {e : Expr} {es : List Expr} {q0 q1 q2 q3 q4 : Pos} {p0 : Arg}
theorem fn_sup (T : SupF P K D f cc cd qual pa bo sc fd) (S : NScope N ps ["__class__"] sc) (hbo : bo = .Expr (.Call (.Attribute (.Call (.Name "super" q0) [] [] q1) "__init__" q2) (e :: es) [] q3) q4 :: rest)
    (hp : (pa.posonlyargs ++ pa.args).head? = some p0) (hps : N[0]? = some p0.arg) (hp1 : sc.names.lookup p0.arg = some .local) (hks : sc.names.lookup ("super" : Str) = some .globalImplicit) (mS : mg "super" = none) (top : (P.main.scope.names.lookup ("super" : Str)).isSome = false)
    (len : ∀ vs H Q E, sp vs H Q E → vs.length = ps.length)
    {pl : Sem Bool} (hev : ∀ env : Env, eval (.Call (.Attribute (.Call (.Name "super" q0) [] [] q1) "__init__" q2) (e :: es) [] q3) env = (do
      let ov ← attributeBase (.Call (.Name "super" q0) [] [] q1) "__init__" env (eval (.Call (.Name "super" q0) [] [] q1) env)
      standAt q2.atName
      let (f, first) ← holding [ov] (getMethod ov "__init__" pl)
      callWith q3 f first (backTo q3 (starEach (e :: es) env)) []))
    (he : ∀ env : Env, starEach (e :: es) env = (false, eval e env) :: starEach es env) (hpl : ∀ (env : Env) (pos : Pos), (backTo pos (starEach es env)).any (·.1) = false)
    (hbody : ∀ (A : Around) (outer : List Env) (s : Shared) (H : Hp) (vs : List V) (Q : VK) (E : XK), Room k (A.deeper (envF ⟨"__init__", qual, pa, bo, sc, [("__class__", cc)], cd⟩ f s.heap.objs.size)) → sp vs H Q E →
      ∃ ta t, PA (ncx CX P w K mg base N ⟨"__init__", qual, pa, bo, sc, [("__class__", cc)], cd⟩ f A outer s H E) (e :: es) ta ∧ PSs (ncx CX P w K mg base N ⟨"__init__", qual, pa, bo, sc, [("__class__", cc)], cd⟩ f A outer s H E) rest t ∧
        ∃ a vr, vs = .ref a :: vr ∧ H a = some (exo a D none) ∧ ta (startF N vs [some (.ref D)]) H fun ws H1 => ws.length ≤ 1000 ∧ H1 a = some (exo a D none) ∧ t { nx := fun _ H' => Q .non H', rt := Q } (startF N vs [some (.ref D)]) H1) :
    FnOk P w K mg base CX (k + 1) f fd ps sp := by
  obtain ⟨oc, od, dV, kV, doc, pm, an, ct, osl, rfl, lk⟩ := T.ex
  refine ⟨len, fun A outer s H args us vs Q E hr e0 hb r hsp => ?_⟩
  have hl := len _ _ _ _ hsp
  have KX : K.In s.heap := e0.mod.kin.keeps fun b o e => (e0.bs b o e).1
  have lim : s.heap.NoLimit := e0.mod.nolimit.keeps fun b o e => (e0.bs b o e).1
  obtain ⟨cl1, dd1, sl1, hcell⟩ := T.cell
  have hcn : H cc = none := (e0.bs _ _ (e0.mod.kin _ _ hcell)).2
  have CA : CellsAt [("__class__", cc)] ["__class__"] [some (.ref D)] s.heap H := by
    refine ⟨rfl, fun y c e => ?_, fun x y c e1 e2 => ?_, fun i y hi => ?_⟩
    · simp only [List.lookup] at e
      split at e
      · cases e; exact ⟨hcn, _, _, KX _ _ hcell, rfl⟩
      · cases e
    · simp only [List.lookup] at e1 e2
      split at e1
      · split at e2
        · rename_i z1 _ z2
          exact (beq_iff_eq.mp z1).trans (beq_iff_eq.mp z2).symm
        · cases e2
      · cases e1
    · cases i with
      | zero =>
        cases hi
        refine ⟨cc, rfl, fun v ev => ?_⟩
        cases ev
        exact ⟨.ref D, rfl, _, KX _ _ hcell, rfl⟩
      | succ n => simp at hi
  obtain ⟨ta, t, hA, hS, a, vr, rfl, hea, hq⟩ := hbody A outer s H _ Q E (hr.deeper _) hsp
  refine ks_codeAny_call_defAt hr.depth (KX _ _ lk) rfl lim (PySem.W.codeRec_of KX T.co) rfl hb S.nocell (fun ⟨n, _⟩ hy => S.par n (List.of_mem_zip hy).1) (fun h0 hns hk => ?_) S.co S.gen S.kind
  have I : Inv (ncx CX P w K mg base N ⟨"__init__", qual, pa, bo, sc, [("__class__", cc)], cd⟩ f A outer s H E) [] (startF N (.ref a :: vr) [some (.ref D)]) H { s with heap := h0, toks := s.toks + (ps.zip us).length } := inv_startN S hr.hd e0 hl r CA hns hk
  show _root_.PySem.wpAt _ (A.deeper (envF ⟨"__init__", qual, pa, bo, sc, [("__class__", cc)], cd⟩ f s.heap.objs.size)) (.func bo (envF ⟨"__init__", qual, pa, bo, sc, [("__class__", cc)], cd⟩ f s.heap.objs.size)) (execs bo (envF ⟨"__init__", qual, pa, bo, sc, [("__class__", cc)], cd⟩ f s.heap.objs.size)) _ _ _
  generalize hX : ncx CX P w K mg base N ⟨"__init__", qual, pa, bo, sc, [("__class__", cc)], cd⟩ f A outer s H E = X at *
  have hXe : X.env = envF ⟨"__init__", qual, pa, bo, sc, [("__class__", cc)], cd⟩ f s.heap.objs.size := by rw [← hX] <;> rfl
  have hXA : X.A = A.deeper (envF ⟨"__init__", qual, pa, bo, sc, [("__class__", cc)], cd⟩ f s.heap.objs.size) := by rw [← hX] <;> rfl
  have hK : X.K = K := by rw [← hX] <;> rfl
  have hP : X.prog = P := by rw [← hX] <;> rfl
  have hW : X.w = w := by rw [← hX] <;> rfl
  have hmg : X.mg = mg := by rw [← hX] <;> rfl
  have hN : X.N = N := by rw [← hX] <;> rfl
  have hxe : X.xe = fun e s' => wpAny (model P w) (A.deeper (envF ⟨"__init__", qual, pa, bo, sc, [("__class__", cc)], cd⟩ f s.heap.objs.size)) (leaving (envF ⟨"__init__", qual, pa, bo, sc, [("__class__", cc)], cd⟩ f s.heap.objs.size) e) (fun _ s'' => CX outer H s E e s'') (fun e' s'' => CX outer H s E e' s'') s' := by rw [← hX] <;> rfl
  have hs0 : X.s_0 = s := by rw [← hX] <;> rfl
  have hH0 : X.H_0 = H := by rw [← hX] <;> rfl
  have hstk : X.stack = envF ⟨"__init__", qual, pa, bo, sc, [("__class__", cc)], cd⟩ f s.heap.objs.size :: outer := by rw [← hX] <;> rfl
  have hfs : X.fs = frs outer := by rw [← hX] <;> rfl
  have hex : X.ex = [] := by rw [← hX] <;> rfl
  obtain ⟨cl2, dd2, vs2, sl2, fi, tf, hcode, hvs, hfi⟩ := T.file
  obtain ⟨cdD, hcd⟩ := T.isc
  obtain ⟨m, hm, hlook⟩ := I.loc
  obtain ⟨u0, ru0, hu0⟩ := hlook 0 p0.arg (.ref a) (by rw [hN]; exact hps) rfl (by rw [hXe]; exact .inl hp1)
  obtain rfl : u0 = Value.ref a := ru0
  have hself : m p0.arg = some (.ref a) := by
    rcases hu0 with ⟨_, z⟩ | ⟨z, _⟩
    · exact z
    · rw [hXe] at z
      have z1 : sc.names.lookup p0.arg = some .cell ∨ sc.names.lookup p0.arg = some .free := z
      rw [hp1] at z1
      rcases z1 with z1 | z1 <;> cases z1
  have kin : K.In h0 := by have q := I.kIn; rw [hK] at q; exact q
  rw [hXe] at hm
  subst hbo
  refine ks_wpAt_execs_cons (ks_wpAt_Expr_any (ks_wpAt_MethodCall ?_ (hev _)) (hi := by simp [interactive, S.kind]))
  obtain ⟨oD, hD1, hD2⟩ : ∃ oD, h0.get? D = some oD ∧ oD.data = .cls cdD := by
    unfold PySem.W.clsIn at hcd
    split at hcd
    · rename_i c d cd' sl ho
      cases hcd
      exact ⟨_, kin _ _ ho, rfl⟩
    · cases hcd
  obtain ⟨t1, hoe⟩ := exo_at I.hok hea
  have IA : PySem.W.InstAt h0 a ({ cls := .ref D, dict := none, data := .fields #[.ref t1, .none, .none, .none, .bool false, .none] } : Obj) D none := ⟨hoe, rfl, rfl, trivial⟩
  refine ks_wpAt_super_base hks (S.frk _ List.mem_cons_self) (by decide) rfl (hk _ _ (KX _ _ lk)) rfl hp rfl (hk _ _ (KX _ _ hcode)) rfl hvs hfi top ?_
  obtain ⟨mb, hb1, hb2⟩ := I.mod.blt
  have hbs : mb "super" = some (.type "super") := (hb2 ("super" : Str) (by decide)).trans (by first | boot_by_name | rfl | decide +kernel)
  refine PySem.W.ks_loadName_global S.kind hks (PySem.Calls.loadGlobal_builtin (mg := mg) (by have q := I.mod.glob.keeps I.bk; rw [hmg] at q; exact q) mS (hb1.keeps I.bk) hbs ⟨rfl, ?_⟩)
  refine wpAny_loadName_free S.kind (S.frk _ List.mem_cons_self) rfl ⟨_, kin _ _ hcell, rfl⟩ ?_
  refine wpAny_loadName_local S.kind hp1 hm hself ?_
  refine ks_wpAny_isType_cls hD1 hD2 ⟨rfl, ?_⟩
  refine ks_wpAny_call_super hD1 hD2 hoe rfl (fun c z => by cases z) (PySem.W.looks_mroIn kin T.sub) (fun h1 hso kp1 => ?_)
  have I1 := I.kept (h' := h1) (t' := s.toks + (ps.zip us).length) kp1
  have kin1 : K.In h1 := by have q := I1.kIn; rw [hK] at q; exact q
  have hoe1 := kp1 _ _ hoe
  have hsup := T.sup
  unfold PySem.W.ks_superIn at hsup
  rw [hcd] at hsup
  have IA1 : PySem.W.InstAt h1 a ({ cls := .ref D, dict := none, data := .fields #[.ref t1, .none, .none, .none, .bool false, .none] } : Obj) D none := ⟨hoe1, rfl, rfl, trivial⟩
  refine PySem.W.kxs_getMethod PySem.W.kxs_ValueError hso (PySem.W.looks_opaque kin1 T.opq) (l₀ := cdD.mro) (fun A Q E s k q => wpAny_bind ((PySem.W.looks_clsIn kin1 hcd) A _ E s k (wpAny_pure q))) rfl kin1 hsup (IA1.type.andThen (PySem.W.looks_subIn kin1 T.ve)) (PySem.W.ks_ne kin1 IA1 hcd) (by decide) ?_
  have kp2 : ∀ b o, h1.get? b = some o → (h1.push (PySem.W.kxs_mw "ValueError.__init__" a)).get? b = some o := fun b o z => Heap.get?_push_of_some _ z
  have hu : (h1.push (PySem.W.kxs_mw "ValueError.__init__" a)).get? h1.objs.size = some (PySem.W.kxs_mw "ValueError.__init__" a) := Heap.get?_push_at rfl rfl
  have I2 := I1.kept (h' := h1.push (PySem.W.kxs_mw "ValueError.__init__" a)) (t' := s.toks + (ps.zip us).length + 1) kp2
  have hfresh : H h1.objs.size = none := I1.hok.fresh (Nat.le_refl _)
  have hsz : h1.objs.size ≠ X.env.locals := Nat.ne_of_gt I1.lt
  have I3 : Inv X [(h1.objs.size, PySem.W.kxs_mw "ValueError.__init__" a)] (startF N (.ref a :: vr) [some (.ref D)]) H ⟨h1.push (PySem.W.kxs_mw "ValueError.__init__" a), s.gens, s.drawn, s.toks + (ps.zip us).length + 1, s.os⟩ := I2.pins_of fun p hp => by
    have hp' : p = (h1.objs.size, PySem.W.kxs_mw "ValueError.__init__" a) := by simpa using hp
    subst hp'
    exact ⟨hu, hfresh, hsz, I1.nofs (Nat.le_refl _), fun v z => by cases z⟩
  rw [← hP, ← hW]
  rw [he]
  refine PySem.W.kxs_callWith (i := "ValueError.__init__") (x := a) (by show (false || (backTo q3 (starEach es _)).any (·.1)) = false; rw [hpl]; rfl) ?_
  have hA2 := hA.run q3 _ _ _ _ (fun ws H1 => ws.length ≤ 1000 ∧ H1 a = some (exo a D none) ∧ t { nx := fun _ H' => Q .non H', rt := Q } (startF N (.ref a :: vr) [some (.ref D)]) H1) I3 hq
  rw [hXe, he, hXA, hxe] at hA2
  refine PySem.Calls.evalArgs_plain (wpAny_mono hA2 (fun us3 s3 h3 => ?_) (fun _ _ z => by rw [hP, hW]; exact z))
  obtain ⟨ws, H3, J, rv, hlen, hea3, hq3⟩ := h3
  have hu3 : s3.heap.get? h1.objs.size = some (PySem.W.kxs_mw "ValueError.__init__" a) := (J.pin _ (List.mem_append_right _ (List.mem_singleton.mpr rfl))).1
  refine ⟨hu3, ?_⟩
  have J0 : Inv X [] (startF N (.ref a :: vr) [some (.ref D)]) H3 s3 := J.pins_of fun p hp => by simp at hp
  have hus : us3.length ≤ sizeLine := by
    rw [← rv.length, sizeLine_eq]
    omega
  show wpAny _ _ (call (.ref h1.objs.size) us3) _ _ s3
  obtain ⟨nm, q, Nn, bs, bm, sn, sub, ab, col, dd, k0, k1, k2, k3, k5, hC, hbm⟩ := T.oex.cls
  have kin3 : K.In s3.heap := by have q := J0.kIn; rw [hK] at q; exact q
  obtain ⟨t3, ho3⟩ := exo_at J0.hok hea3
  obtain ⟨hp3, g3, d3, tk3, os3⟩ := s3
  refine wpAny_call (codeAny_of_tree ?_)
  show wpAny _ _ (callAny (.ref h1.objs.size) ⟨us3, []⟩) _ _ _
  simp only [callAny]
  refine wpAny_bind (wpAny_load hu3 ?_)
  simp only [PySem.W.kxs_mw, show (Value.type "method-wrapper" == Value.type "method" || Value.type "method-wrapper" == Value.type "builtin_function_or_method" || Value.type "method-wrapper" == Value.type "method-wrapper") = true by decide, if_true]
  refine PySem.W.KFB.if_so (by decide) ?_
  refine wpAny_bind (PySem.W.check_bound_init F.excBase_ValueError.toExcCallFacts (kin3 _ _ hC) ho3 rfl ?_)
  refine wpAny_bind (wpAny_pure (wpAny_pure ?_))
  refine ⟨plainId_quiet F.excBase_ValueError.init.plain _, codeAny_builtin F.excBase_ValueError.initEntry ?_⟩
  refine PySem.W.exc_init_tree (cls := .ref D) (t0 := t3) (dv := none) (c2 := .none) (c3 := .none) (b4 := .bool false) ho3 hus fun h4 kp4 hx4 _ => ?_
  have J4 := J0.write (t' := tk3) (x := a) (e := a) (o := exo a D none) (by rw [hea3]; exact True.intro) (.inl rfl) kp4 ⟨_, hx4⟩ (exo_ok hx4)
  have eu : upd H3 a (exo a D none) = H3 := by
    funext b
    by_cases hb : b = a
    · rw [hb, upd_same, hea3]
    · rw [upd_ne hb]
  rw [eu] at J4
  have hS4 := hS.run _ _ _ _ { nx := fun _ H' => Q .non H', rt := Q } J4 hq3
  rw [hXe, hXA, hxe, hP, hW] at hS4
  show _root_.PySem.wpAt _ _ _ _ _ _ _
  rw [hP, hW]
  refine wpAt_of_wpAny (wpAny_mono hS4 (fun fl s' hs => ?_) fun _ _ z => z)
  have fin : ∀ {σ' : L2.St} {H' : Hp} {v : V} {u : Value}, Inv X [] σ' H' s' → RelV v u → Q v H' → CE outer P w H s Q u s' := fun {σ' H' v u} J rv q => by
    have b1 := J.base
    have o1 := J.os
    have k1 := J.hok
    rw [hfs, hex, hH0, hs0] at b1
    rw [hs0] at o1
    rw [hP, hW] at k1
    exact ⟨v, H', o1, J.bare, b1, k1, rv, q⟩
  cases fl with
  | ret u =>
    obtain ⟨v, σ', H', J, rv, q⟩ := hs
    exact fin J rv q
  | next =>
    obtain ⟨σ', H', J, q⟩ := hs
    exact fin (v := V.non) (u := Value.none) J rfl q
  | brk =>
    obtain ⟨_, _, _, q⟩ := hs
    exact False.elim q
  | cont =>
    obtain ⟨_, _, _, q⟩ := hs
    exact False.elim q
end
end Sy
/-! tuple.count, tuple * int of any size, a tuple of ints in an f-string (own rules) -/
namespace Sy
open PySem PySem.Spec PyProof.Rows L2
open AutoSeq1 (wpAny_loadPart')
section
variable {X : Cx}
/-- t.count(y), all flat -/
def rTCnt (K : PySem.W.Frag) : V → List V → Hp → VK → Prop := fun x xs H Q => ∃ (a : Addr) (ys : List V) (y : V), x = V.ref a ∧ xs = [y] ∧ SqT K H a ys ∧ flatV y = true ∧ ys.all flatV = true ∧ Q (.int (ys.countP fun z => eqV z y : Nat)) H
theorem countU {y : V} : ∀ {ys : List V} {its : List Value}, Vals ys its → ys.all flatV = true → its.countP (eqU y) = ys.countP fun z => eqV z y
  | [], _, r, _ => by cases r; rfl
  | z :: ys, _, r, f => by
    cases r with
    | cons r1 r2 =>
      have f' := Bool.and_eq_true_iff.mp (show (flatV z && ys.all flatV) = true from f)
      rw [List.countP_cons, List.countP_cons, countU r2 f'.2, eqU_of r1 f'.1]
theorem mt_tcount : MtR X "tuple.count" (rTCnt X.K) := by
  intro pins s σ H x xs v us Q I rx rxs h
  obtain ⟨a, ys, y, rfl, rfl, hs, fy, fys, q⟩ := h
  cases rx
  cases rxs with
  | cons ry rt =>
    rename_i uy ut
    cases rt
    obtain ⟨its, rv, ⟨⟨cls, dd, data, sl⟩, ho, hc, n, hd⟩, hlen⟩ := I.tuple hs
    simp only at hc hd
    subst hc hd
    refine call_meets PySem.F.slot_tuple_count ⟨_, ho, rfl⟩ PySem.F.entry_tuple_count (PySem.F.args_tuple_count_2 _ _) (SeqAt.tuple_countAt a its.toArray n dd sl uy (eqU y)) ⟨ho, fun u' hu' => mem_eqAt ry fy rv fys u' (by simpa using hu'), ?_⟩
    have e1 : its.toArray.toList.countP (eqU y) = ys.countP fun z => eqV z y := by
      rw [← countU rv fys]
    rw [e1]
    exact ⟨.int (ys.countP fun z => eqV z y : Nat), H, I.tok _, ⟨_, rfl⟩, q⟩
/-! tuple * int -/
theorem tupMul1 (l : Addr) (items : Array Value) (n : Nat) (dd : Option Addr) (sl : Array (Option Value)) (x : Int) (u : Tok) (c0 : (decide (x < -(2 ^ 63)) || decide (x ≥ 2 ^ 63)) = false) (c1 : (items.isEmpty || x == 1) = true) :
    Meets (Builtin.«tuple.__mul__» ⟨[.ref l, .int x u], []⟩) (fun _ R s => s.heap.get? l = some { cls := .type "tuple", dict := dd, data := .seq items n, slots := sl } ∧ R (.ok (.ret (Value.ref l))) s) :=
  .of_wp fun prog w A R s h => by
    obtain ⟨hp, g, d, tk, os⟩ := s
    obtain ⟨hl, h⟩ := h
    have f1 := AutoSeq1.idx_int
    wp_walk using wpAny_loadPart' hl
    repeat (first
      | (refine wpAny_ite_false (decide_eq_false (by rw [c0]; exact Bool.false_ne_true)) ?_; wp_walk using wpAny_loadPart' hl)
      | (refine wpAny_ite_true (decide_eq_true c1) ?_; wp_walk using wpAny_loadPart' hl))
    all_goals exact ⟨_, rfl, h⟩
theorem tupMul0 (l : Addr) (items : Array Value) (n : Nat) (dd : Option Addr) (sl : Array (Option Value)) (x : Int) (u : Tok) (c0 : (decide (x < -(2 ^ 63)) || decide (x ≥ 2 ^ 63)) = false) (c1 : (items.isEmpty || x == 1) = false) (c2 : (decide (x ≤ 0) || items.isEmpty) = true) :
    Meets (Builtin.«tuple.__mul__» ⟨[.ref l, .int x u], []⟩) (fun _ R s => s.heap.get? l = some { cls := .type "tuple", dict := dd, data := .seq items n, slots := sl } ∧
      R (.ok (.ret (Value.ref s.heap.objs.size))) { s with heap := s.heap.push { cls := Value.type "tuple", data := Data.seq #[] } }) :=
  .of_wp fun prog w A R s h => by
    obtain ⟨hp, g, d, tk, os⟩ := s
    obtain ⟨hl, h⟩ := h
    have f1 := AutoSeq1.idx_int
    wp_walk using wpAny_loadPart' hl
    repeat (first
      | (refine wpAny_ite_false (decide_eq_false (by rw [c0]; exact Bool.false_ne_true)) ?_; wp_walk using wpAny_loadPart' hl)
      | (refine wpAny_ite_false (decide_eq_false (by rw [c1]; exact Bool.false_ne_true)) ?_; wp_walk using wpAny_loadPart' hl)
      | (refine wpAny_ite_true (decide_eq_true c2) ?_; wp_walk using wpAny_loadPart' hl))
    all_goals exact ⟨_, rfl, h⟩
/-- t * k: t itself where k is 1 or t is empty -/
def rRepG (K : PySem.W.Frag) : R2 := fun x y H Q => ∃ l k xs, x = .ref l ∧ y = .int k ∧ SqT K H l xs ∧ -(2 ^ 63) ≤ k ∧ k < 2 ^ 63 ∧ xs.length * k.toNat ≤ 1000000 ∧ xs.length ≤ 1000000 ∧
  ((xs = [] ∨ k = 1) → Q (.ref l) H) ∧ (¬(xs = [] ∨ k = 1) → ∀ p, H p = none → Q (.ref p) (upd H p (.tup (List.replicate k.toNat xs).flatten)))
theorem op_repG : OpR X (binaryOp .Mult) (rRepG X.K) := by
  intro pins s σ H x y v u Q I rx ry h
  obtain ⟨l, k, xs, rfl, rfl, hT, h1, h2, hz, hzl, qa, qb⟩ := h
  cases rx
  obtain ⟨t, rfl⟩ := ry
  obtain ⟨its, r, ⟨⟨cls, dd, data, sl⟩, ho, hc, n, hd⟩, hs⟩ := I.tuple hT
  simp only at hc hd
  subst hc hd
  have hle : its.length = xs.length := r.length.symm
  have c0 : (decide (k < -(2 ^ 63)) || decide (k ≥ 2 ^ 63)) = false := by
    rw [decide_eq_false (by omega), decide_eq_false (by omega)] <;> rfl
  have run : ∀ {Bb : Builtin} {R : Value → Shared → Prop}, Builtin.«tuple.__mul__» = Bb → wpAny (model X.prog X.w) X.A (call (.builtin "tuple.__mul__") [.ref l, .int k t]) R X.xe s → wpAny (model X.prog X.w) X.A (binaryOp .Mult (.ref l) (.int k t)) R X.xe s := fun _ hw =>
    wpAny_binaryOp_repeat_ref (T := "tuple") (U := "int") (by decide) ⟨_, ho, rfl⟩ (fun s' => typeIs_int s' k t) noFill_tuple_mul F.fills_int_mul F.slot_int_rmul repeat_tuple F.slot_int_index.lookup
      (call_meets F.slot_int_rmul (typeIs_int s k t) F.entry_int_rmul (F.args_int_rmul_2 _ _) (int_rmul_tuple k t l its.toArray n dd sl) ⟨ho, rfl, ⟨_, ho, rfl⟩, hw⟩)
  have eE : its.toArray.isEmpty = decide (xs = []) := by
    cases xs with
    | nil => cases r; rfl
    | cons a b => cases r; rfl
  by_cases hc : xs = [] ∨ k = 1
  · refine run rfl (call_meets F.slot_tuple_mul ⟨_, ho, rfl⟩ F.entry_tuple_mul (F.args_tuple_mul_2 _ _) (tupMul1 l its.toArray n dd sl k t c0 ?_) ⟨ho, ?_⟩)
    · rw [eE]
      rcases hc with hc | hc
      · rw [decide_eq_true hc, Bool.true_or]
      · rw [hc]
        exact Bool.or_true _
    · exact ⟨.ref l, H, I, rfl, qa hc⟩
  · have c1 : (its.toArray.isEmpty || k == 1) = false := by
      rw [eE, decide_eq_false (fun z => hc (.inl z)), Bool.false_or]
      exact beq_eq_false_iff_ne.mpr fun z => hc (.inr z)
    by_cases hk : k ≤ 0
    · refine run rfl (call_meets F.slot_tuple_mul ⟨_, ho, rfl⟩ F.entry_tuple_mul (F.args_tuple_mul_2 _ _) (tupMul0 l its.toArray n dd sl k t c0 c1 (by rw [decide_eq_true hk, Bool.true_or])) ⟨ho, ?_⟩)
      have e0 : k.toNat = 0 := by omega
      have q := qb hc _ (I.hok.fresh (Nat.le_refl _))
      rw [e0] at q
      refine ⟨.ref s.heap.objs.size, _, I.laid (t' := s.toks) (o := .tup (List.replicate 0 xs).flatten) (fun b ob q => Heap.get?_push_of_some _ q) (Nat.le_refl _) ?_, rfl, q⟩
      exact ⟨Nat.zero_le _, [], .nil, IsTup.new _ _⟩
    · have h3 : ((its.toArray.size : Nat) : Int) * k ≤ 1000000 := by
        rw [List.size_toArray, hle]
        have e1 : ((xs.length : Nat) : Int) * k = ((xs.length * k.toNat : Nat) : Int) := by
          rw [Int.natCast_mul, Int.toNat_of_nonneg (by omega)]
        rw [e1]
        generalize xs.length * k.toNat = m at hz ⊢
        omega
      have flen : (List.replicate k.toNat its).flatten.length ≤ 1000000 := by
        rw [PyProof.Rows.lm_len_rep_flat, hle, Nat.mul_comm]
        exact hz
      have sl24 := sizeLine_eq
      refine run rfl (call_meets F.slot_tuple_mul ⟨_, ho, rfl⟩ F.entry_tuple_mul (F.args_tuple_mul_2 _ _) (tuple_mulW l its.toArray n dd sl k t c0 c1 (by rw [decide_eq_false hk, Bool.false_or, eE]; exact decide_eq_false fun z => hc (.inl z)) (by omega) (by unfold Builtin.Tuple.tupleTooMany; exact decide_eq_false (by omega)) (by rw [size_rep, List.size_toArray]; omega)) ⟨ho, ?_⟩)
      rw [size_rep]
      refine ⟨.ref s.heap.objs.size, _, I.laid (t' := s.toks) (o := .tup (List.replicate k.toNat xs).flatten) (fun b ob q => Heap.get?_push_of_some _ q) (Nat.le_refl _) ?_, rfl, qb hc _ (I.hok.fresh (Nat.le_refl _))⟩
      exact ⟨by rw [PyProof.Rows.lm_len_rep_flat, Nat.mul_comm]; omega, _, r.rep k.toNat, IsTup.new _ _⟩
/-! a tuple of ints in an f-string -/
theorem reprInts {prog : Program} {w : World} : ∀ {l : List Int} {its : List Value}, Vals (l.map V.int) its → (∀ y ∈ l, y.natAbs.log2 < 1920) → ReprAll prog w its (l.map fun y => (toString y : Str))
  | [], _, r, _ => by
    cases r
    exact .nil
  | y :: l, _, r, h => by
    cases r with
    | cons r1 r2 =>
      obtain ⟨t, rfl⟩ := r1
      exact .cons (ReprIs.int t (h y List.mem_cons_self)) (reprInts r2 fun z hz => h z (List.mem_cons_of_mem _ hz))
theorem piledInts : ∀ l : List Int, (∀ y ∈ l, y.natAbs.log2 < 1920) → piled (l.map fun y => (toString y : Str)) ≤ 1923 * l.length
  | [], _ => Nat.zero_le _
  | y :: l, h => by
    have h1 := int_text_len_1921 (h y List.mem_cons_self)
    have h2 := piledInts l fun z hz => h z (List.mem_cons_of_mem _ hz)
    rw [List.map_cons, piled_cons, List.length_cons]
    omega
def tFmtI (K : PySem.W.Frag) (te : TE) : TE := fun σ H Q => te σ H fun x H1 => ∃ (a : Addr) (l : List Int), x = .ref a ∧ SqT K H1 a (l.map V.int) ∧ (∀ y ∈ l, y.natAbs.log2 < 1920) ∧ l.length ≤ 5000 ∧ ∀ m : Str, m.length ≤ 9700000 → Q (.str m) H1
theorem pe_fmtI {e : Expr} {te : TE} {pos : Pos} {k : Nat} (hr : Room k X.A) (he : PE X e te) : PE X (.FormattedValue e (-1) none pos) (tFmtI X.K te) := by
  refine ⟨fun pins s σ H Q I h => ?_⟩
  refine wpAny_FormattedValue_plain (thn (he.run pins s σ H _ I h) fun v s1 hv => ?_)
  obtain ⟨x, H1, I1, r1, a, l, rfl, ht, hc, hz, q⟩ := hv
  cases r1
  obtain ⟨its, rv, ⟨o, ho, hcl, n, hd⟩, _⟩ := I1.tuple ht
  have hp := piledInts l hc
  have htx := fmt_text (l.map fun y => (toString y : Str))
  have hu := hr.units
  have hsl := sizeLine_eq
  refine fmt_tuple (ts := l.map fun y => (toString y : Str)) (by omega) ho hcl hd (reprInts rv hc) (by omega) fun m u tk hm => ⟨.str m, H1, I1.tok _, ⟨u, rfl⟩, q m (by omega)⟩
end
end Sy
/-! own core: heaps, data that never changes, callables, forms of loops -/
namespace Sy
open PySem PySem.Spec PyProof.Rows L2
/-! ### heaps -/
theorem up_same {H : Hp} {p : Addr} {o : HO} (h : H p = none) : Same H (upd H p o) := fun b x e => by
  rw [upd_ne (ne_of_none e h)]
  exact e
theorem Same.sqt {K : PySem.W.Frag} {H H' : Hp} {a : Addr} {xs : List V} (e : Same H H') (h : SqT K H a xs) : SqT K H' a xs := by
  rcases h with (h | ⟨o, h⟩) | h
  · exact .inl (.inl (e _ _ h))
  · exact .inl (.inr ⟨o, e _ _ h⟩)
  · exact .inr h
/-- what is no list of one's own stays -/
def Stay (H H' : Hp) : Prop := ∀ a o, H a = some o → (∀ xs, o ≠ .lst xs) → H' a = some o
theorem Stay.of {H H' : Hp} (s : Same H H') : Stay H H' := fun a o h _ => s a o h
theorem Stay.refl (H : Hp) : Stay H H := fun _ _ h _ => h
theorem Stay.trans {H H1 H2 : Hp} (a : Stay H H1) (b : Stay H1 H2) : Stay H H2 := fun c o h n => b c o (a c o h n) n
theorem Stay.lst {H : Hp} {p : Addr} {xs : List V} {o : HO} (h : H p = some (.lst xs)) : Stay H (upd H p o) := fun a x e n => by
  rw [upd_ne]
  · exact e
  · intro z
    rw [z, h] at e
    exact n _ (Option.some.inj e).symm
theorem Stay.new {H : Hp} {p : Addr} {o : HO} (h : H p = none) : Stay H (upd H p o) := Stay.of (up_same h)
theorem Stay.sqt {K : PySem.W.Frag} {H H' : Hp} {a : Addr} {xs : List V} (e : Stay H H') (h : SqT K H a xs) : SqT K H' a xs := by
  rcases h with (h | ⟨o, h⟩) | h
  · exact .inl (.inl (e _ _ h fun _ z => by cases z))
  · exact .inl (.inr ⟨o, e _ _ h fun _ z => by cases z⟩)
  · exact .inr h
/-! ### data that never changes -/
mutual
inductive Im (K : PySem.W.Frag) (H : Hp) : V → PyData → Prop
  | non : Im K H .non .none
  | bl (b : Bool) : Im K H (.bl b) (.bool b)
  | int (i : Int) : Im K H (.int i) (.int i)
  | str (x : Str) : Im K H (.str x) (.str x)
  | tup {a : Addr} {xs : List V} {ds : List PyData} : SqT K H a xs → ImA K H xs ds → Im K H (.ref a) (.tuple ds)
inductive ImA (K : PySem.W.Frag) (H : Hp) : List V → List PyData → Prop
  | nil : ImA K H [] []
  | cons {v : V} {vs : List V} {d : PyData} {ds : List PyData} : Im K H v d → ImA K H vs ds → ImA K H (v :: vs) (d :: ds)
end
mutual
theorem Im.mono {K : PySem.W.Frag} {H H' : Hp} (s : Stay H H') : ∀ {v : V} {d : PyData}, Im K H v d → Im K H' v d
  | _, _, .non => .non
  | _, _, .bl b => .bl b
  | _, _, .int i => .int i
  | _, _, .str x => .str x
  | _, _, .tup h a => .tup (s.sqt h) (ImA.mono s a)
theorem ImA.mono {K : PySem.W.Frag} {H H' : Hp} (s : Stay H H') : ∀ {vs : List V} {ds : List PyData}, ImA K H vs ds → ImA K H' vs ds
  | _, _, .nil => .nil
  | _, _, .cons a b => .cons (Im.mono s a) (ImA.mono s b)
end
mutual
theorem Im.dp {K : PySem.W.Frag} {H : Hp} : ∀ {v : V} {d : PyData}, Im K H v d → Dp K H v d
  | _, _, .non => .non
  | _, _, .bl b => .bl b
  | _, _, .int i => .int i
  | _, _, .str x => .str x
  | _, _, .tup h a => .tup h (ImA.dp a)
theorem ImA.dp {K : PySem.W.Frag} {H : Hp} : ∀ {vs : List V} {ds : List PyData}, ImA K H vs ds → DpAll K H vs ds
  | _, _, .nil => .nil
  | _, _, .cons a b => .cons (Im.dp a) (ImA.dp b)
end
theorem ImA.len {K : PySem.W.Frag} {H : Hp} : ∀ {vs : List V} {ds : List PyData}, ImA K H vs ds → vs.length = ds.length
  | _, _, .nil => rfl
  | _, _, .cons _ b => by rw [List.length_cons, List.length_cons, ImA.len b]
theorem ImA.get {K : PySem.W.Frag} {H : Hp} : ∀ {vs : List V} {ds : List PyData} {i : Nat} {d : PyData}, ImA K H vs ds → ds[i]? = some d → ∃ v, vs[i]? = some v ∧ Im K H v d
  | _, _, _, _, .nil, e => by simp at e
  | _, _, 0, _, .cons a _, e => by simp at e; subst e; exact ⟨_, rfl, a⟩
  | _, _, i + 1, d, .cons _ b, e => by
    obtain ⟨v, h1, h2⟩ := ImA.get (i := i) (d := d) b (by simpa using e)
    exact ⟨v, by simpa using h1, h2⟩
theorem ImA.app {K : PySem.W.Frag} {H : Hp} : ∀ {vs ws : List V} {ds es : List PyData}, ImA K H vs ds → ImA K H ws es → ImA K H (vs ++ ws) (ds ++ es)
  | _, _, _, _, .nil, b => b
  | _, _, _, _, .cons a r, b => .cons a (ImA.app r b)
theorem ImA.strs {K : PySem.W.Frag} {H : Hp} : ∀ l : List Str, ImA K H (l.map V.str) (l.map PyData.str)
  | [] => .nil
  | x :: l => .cons (.str x) (ImA.strs l)
theorem ImA.ints {K : PySem.W.Frag} {H : Hp} : ∀ l : List Int, ImA K H (l.map V.int) (l.map PyData.int)
  | [] => .nil
  | x :: l => .cons (.int x) (ImA.ints l)
theorem Im.strs {K : PySem.W.Frag} {H : Hp} {a : Addr} {l : List Str} (h : SqT K H a (l.map V.str)) : Im K H (.ref a) (.tuple (l.map PyData.str)) := .tup h (ImA.strs l)
theorem Im.ints {K : PySem.W.Frag} {H : Hp} {a : Addr} {l : List Int} (h : SqT K H a (l.map V.int)) : Im K H (.ref a) (.tuple (l.map PyData.int)) := .tup h (ImA.ints l)
/-! ### known for good, and own -/
structure Hs (B : Hp) (L : List (Addr × HO)) (H : Hp) : Prop where
  sub : Same B H
  own : ∀ q ∈ L, H q.1 = some q.2
  nd : (L.map (·.1)).Nodup
  ap : ∀ q ∈ L, B q.1 = none
section
variable {B B' H H' : Hp} {L : List (Addr × HO)} {p : Addr} {o o' : HO} {x y z u : Addr × HO}
theorem Hs.start (H : Hp) : Hs H [] H := ⟨Same.refl H, fun _ h => (nomatch h), List.nodup_nil, fun _ h => (nomatch h)⟩
theorem Hs.ne_of_new (h : Hs B L H) (hp : H p = none) : ∀ q ∈ L, q.1 ≠ p := fun q hq z => by
  have e := h.own q hq
  rw [z, hp] at e
  cases e
theorem Hs.new (h : Hs B L H) (hp : H p = none) : Hs B ((p, o) :: L) (upd H p o) where
  sub := h.sub.trans (up_same hp)
  own := fun q hq => by
    rcases List.mem_cons.mp hq with rfl | hq
    · exact upd_same
    · rw [upd_ne (h.ne_of_new hp q hq)]
      exact h.own q hq
  nd := List.nodup_cons.mpr ⟨fun hm => by
    obtain ⟨q, hq, e⟩ := List.mem_map.mp hm
    exact h.ne_of_new hp q hq e, h.nd⟩
  ap := fun q hq => by
    rcases List.mem_cons.mp hq with rfl | hq
    · exact h.sub.free hp
    · exact h.ap q hq
theorem Hs.tup (h : Hs B L H) (hp : H p = none) : Hs (upd B p o) L (upd H p o) where
  sub := fun b w e => by
    by_cases hb : b = p
    · subst hb
      rw [upd_same] at e ⊢
      exact e
    · rw [upd_ne hb] at e ⊢
      exact h.sub b w e
  own := fun q hq => by
    rw [upd_ne (h.ne_of_new hp q hq)]
    exact h.own q hq
  nd := h.nd
  ap := fun q hq => by
    rw [upd_ne (h.ne_of_new hp q hq)]
    exact h.ap q hq
/-- what is laid and never told of again -/
theorem Hs.lay (h : Hs B L H) (hp : H p = none) : Hs B L (upd H p o) where
  sub := h.sub.trans (up_same hp)
  own := fun q hq => by
    rw [upd_ne (h.ne_of_new hp q hq)]
    exact h.own q hq
  nd := h.nd
  ap := h.ap
theorem Hs.swap (h : Hs B (x :: y :: L) H) : Hs B (y :: x :: L) H :=
  ⟨h.sub, fun q hq => h.own q (by simp only [List.mem_cons] at hq ⊢; rcases hq with a | a | a <;> simp [a]),
   (List.Perm.swap _ _ _).nodup_iff.mp (by simpa using h.nd), fun q hq => h.ap q (by simp only [List.mem_cons] at hq ⊢; rcases hq with a | a | a <;> simp [a])⟩
theorem Hs.perm {L' : List (Addr × HO)} (h : Hs B L H) (pm : L.Perm L') : Hs B L' H :=
  ⟨h.sub, fun q hq => h.own q (pm.mem_iff.mpr hq), (pm.map _).nodup_iff.mp h.nd, fun q hq => h.ap q (pm.mem_iff.mpr hq)⟩
theorem Hs.r0 (h : Hs B ((p, o) :: L) H) : H p = some o := h.own (p, o) List.mem_cons_self
theorem Hs.r1 (h : Hs B (x :: (p, o) :: L) H) : H p = some o := h.own (p, o) (by simp)
theorem Hs.r2 (h : Hs B (x :: y :: (p, o) :: L) H) : H p = some o := h.own (p, o) (by simp)
theorem Hs.r3 (h : Hs B (x :: y :: z :: (p, o) :: L) H) : H p = some o := h.own (p, o) (by simp)
theorem Hs.r4 (h : Hs B (x :: y :: z :: u :: (p, o) :: L) H) : H p = some o := h.own (p, o) (by simp)
theorem Hs.w0 (h : Hs B ((p, o) :: L) H) : Hs B ((p, o') :: L) (upd H p o') where
  sub := fun b w e => by
    rw [upd_ne]
    · exact h.sub b w e
    · intro q
      have := h.ap (p, o) List.mem_cons_self
      rw [q, this] at e
      cases e
  own := fun q hq => by
    rcases List.mem_cons.mp hq with rfl | hq
    · exact upd_same
    · have nd := List.nodup_cons.mp h.nd
      rw [upd_ne]
      · exact h.own q (List.mem_cons_of_mem _ hq)
      · intro e
        exact nd.1 (List.mem_map.mpr ⟨q, hq, e⟩)
  nd := h.nd
  ap := fun q hq => by
    rcases List.mem_cons.mp hq with rfl | hq
    · exact h.ap (p, o) List.mem_cons_self
    · exact h.ap q (List.mem_cons_of_mem _ hq)
theorem Hs.w1 (h : Hs B (x :: (p, o) :: L) H) : Hs B (x :: (p, o') :: L) (upd H p o') := h.swap.w0.swap
theorem Hs.w2 (h : Hs B (x :: y :: (p, o) :: L) H) : Hs B (x :: y :: (p, o') :: L) (upd H p o') :=
  (h.perm (L' := (p, o) :: x :: y :: L) ((List.Perm.cons _ (List.Perm.swap _ _ _)).trans (List.Perm.swap _ _ _))).w0.perm ((List.Perm.swap _ _ _).trans (List.Perm.cons _ (List.Perm.swap _ _ _)))
theorem Hs.drop (h : Hs B (x :: L) H) : Hs B L H := ⟨h.sub, fun q hq => h.own q (List.mem_cons_of_mem _ hq), (List.nodup_cons.mp h.nd).2, fun q hq => h.ap q (List.mem_cons_of_mem _ hq)⟩
/-- own no more: known for good -/
theorem Hs.give (h : Hs B ((p, o) :: L) H) : Same B (upd B p o) ∧ Hs (upd B p o) L H := by
  have hp : B p = none := h.ap (p, o) List.mem_cons_self
  refine ⟨up_same hp, fun b w e => ?_, fun q hq => h.own q (List.mem_cons_of_mem _ hq), (List.nodup_cons.mp h.nd).2, fun q hq => ?_⟩
  · by_cases hb : b = p
    · subst hb
      rw [upd_same] at e
      rw [h.r0]
      exact e
    · rw [upd_ne hb] at e
      exact h.sub b w e
  · rw [upd_ne]
    · exact h.ap q (List.mem_cons_of_mem _ hq)
    · intro e
      exact (List.nodup_cons.mp h.nd).1 (List.mem_map.mpr ⟨q, hq, e⟩)
/-- a known list (an argument that the def changes) becomes own -/
theorem Hs.take (h : Hs B L H) (hb : B p = some o) : Hs (L2.del B p) ((p, o) :: L) H where
  sub := fun b w e => by
    unfold L2.del at e
    split at e
    · cases e
    · exact h.sub b w e
  own := fun q hq => by
    rcases List.mem_cons.mp hq with rfl | hq
    · exact h.sub _ _ hb
    · exact h.own q hq
  nd := by
    refine List.nodup_cons.mpr ⟨fun hm => ?_, h.nd⟩
    obtain ⟨q, hq, e⟩ := List.mem_map.mp hm
    have e2 := h.ap q hq
    rw [e, hb] at e2
    cases e2
  ap := fun q hq => by
    rcases List.mem_cons.mp hq with rfl | hq
    · exact del_same
    · unfold L2.del
      split
      · rfl
      · exact h.ap q hq
theorem stay_del {xs : List V} (hb : B p = some (.lst xs)) : Stay B (L2.del B p) := fun a w e n => by
  rw [del_ne]
  · exact e
  · intro z
    rw [z, hb] at e
    exact n _ (Option.some.inj e).symm
/-! behind a call -/
def cut (L : List (Addr × HO)) (H : Hp) : Hp := fun a => if a ∈ L.map (·.1) then none else H a
theorem cut_at {a : Addr} (h : a ∉ L.map (·.1)) : cut L H a = H a := if_neg h
theorem cut_in {a : Addr} (h : a ∈ L.map (·.1)) : cut L H a = none := if_pos h
theorem Hs.out (h : Hs B L H) {a : Addr} {w : HO} (e : B a = some w) : a ∉ L.map (·.1) := fun hm => by
  obtain ⟨q, hq, z⟩ := List.mem_map.mp hm
  have := h.ap q hq
  rw [z, e] at this
  cases this
theorem Hs.out_new (h : Hs B L H) {a : Addr} (e : H a = none) : a ∉ L.map (·.1) := fun hm => by
  obtain ⟨q, hq, z⟩ := List.mem_map.mp hm
  have := h.own q hq
  rw [z, e] at this
  cases this
/-- a call that changes nothing tracked -/
theorem Hs.after (h : Hs B L H) (s : Same H H') : Same B (cut L H') ∧ Hs (cut L H') L H' :=
  ⟨fun a w e => by rw [cut_at (h.out e)]; exact s a w (h.sub a w e), fun a w e => by
    unfold cut at e
    split at e
    · cases e
    · exact e, fun q hq => s _ _ (h.own q hq), h.nd, fun q hq => cut_in (List.mem_map_of_mem hq)⟩
/-- .. that changes the one at p -/
def Chg (p : Addr) (o' : HO) (H H' : Hp) : Prop := H' p = some o' ∧ ∀ a w, a ≠ p → H a = some w → H' a = some w
theorem Hs.chg (h : Hs B ((p, o) :: L) H) (s : Chg p o' H H') : Same B (cut ((p, o') :: L) H') ∧ Hs (cut ((p, o') :: L) H') ((p, o') :: L) H' := by
  have kk : ((p, o') :: L).map (·.1) = ((p, o) :: L).map (·.1) := rfl
  refine ⟨fun a w e => ?_, fun a w e => ?_, fun q hq => ?_, by rw [kk]; exact h.nd, fun q hq => cut_in (List.mem_map_of_mem hq)⟩
  · have ho := h.out e
    rw [cut_at (by rw [kk]; exact ho)]
    exact s.2 a w (fun z => ho (by rw [z]; simp)) (h.sub a w e)
  · unfold cut at e
    split at e
    · cases e
    · exact e
  · rcases List.mem_cons.mp hq with rfl | hq
    · exact s.1
    · refine s.2 _ _ (fun z => (List.nodup_cons.mp h.nd).1 (List.mem_map.mpr ⟨q, hq, z⟩)) (h.own q (List.mem_cons_of_mem _ hq))
theorem Chg.stay {xs : List V} (c : Chg p o' H H') (hb : H p = some (.lst xs)) : Stay H H' := fun a w e n => c.2 a w (fun z => by
  rw [z, hb] at e
  exact n _ (Option.some.inj e).symm) e
/-- at a def's end -/
theorem Hs.same (h : Hs B L H') (s : Same H B) : Same H H' := s.trans h.sub
theorem Hs.isChg {B0 : Hp} (h : Hs B ((p, o') :: L) H') (s : Same (L2.del B0 p) B) : Chg p o' B0 H' :=
  ⟨h.r0, fun a w hne e => h.sub a w (s a w (by rw [del_ne hne]; exact e))⟩
theorem Chg.trans {o1 o2 : HO} {H1 H2 : Hp} (a : Chg p o1 H H1) (b : Chg p o2 H1 H2) : Chg p o2 H H2 := ⟨b.1, fun c w n e => b.2 c w n (a.2 c w n e)⟩
end
/-- lists of one's own are lists -/
def AllL (L : List (Addr × HO)) : Prop := ∀ q ∈ L, ∃ xs, q.2 = .lst xs
theorem stay_cut {L : List (Addr × HO)} {B H H' : Hp} (h : Hs B L H) (al : AllL L) (s : Same H H') : Stay H' (cut L H') := fun a w e n => by
  rw [cut_at]
  · exact e
  · intro hm
    obtain ⟨q, hq, z⟩ := List.mem_map.mp hm
    obtain ⟨xs, hx⟩ := al q hq
    have := s _ _ (h.own q hq)
    rw [z, e, hx] at this
    exact n _ (Option.some.inj this)
theorem stay_cutC {L : List (Addr × HO)} {p : Addr} {o o' : HO} {B H H' : Hp} (h : Hs B ((p, o) :: L) H) (al : AllL ((p, o') :: L)) (s : Chg p o' H H') : Stay H' (cut ((p, o') :: L) H') := fun a w e n => by
  rw [cut_at]
  · exact e
  · intro hm
    obtain ⟨q, hq, z⟩ := List.mem_map.mp hm
    obtain ⟨xs, hx⟩ := al q hq
    have := (h.chg s).2.own q hq
    rw [z, e, hx] at this
    exact n _ (Option.some.inj this)
theorem AllL.nil : AllL [] := fun _ h => (nomatch h)
theorem AllL.cons {p : Addr} {xs : List V} {L : List (Addr × HO)} (h : AllL L) : AllL ((p, .lst xs) :: L) := fun q hq => by
  rcases List.mem_cons.mp hq with rfl | hq
  · exact ⟨xs, rfl⟩
  · exact h q hq
/-! ### callables: a module's def -/
structure Cal (P : Program) (w : World) (K : PySem.W.Frag) (mg : Str → Option Value) (base : Heap) (k : Nat) (x : Str) (ps : List Str) (sp : Sp) : Prop where
  fn : ∃ fd, FnOk P w K mg base (L2.CX P w) k (He.ga K x) fd ps sp ∧ Binds K fd ps []
  at_ : mg x = some (.ref (He.ga K x))
  kp : PySem.W.keepIn K (.ref (He.ga K x)) = true
theorem Cal.mono {P : Program} {w : World} {K : PySem.W.Frag} {mg : Str → Option Value} {base : Heap} {j k : Nat} {x : Str} {ps : List Str} {sp : Sp} (c : Cal P w K mg base j x ps sp) (h : j ≤ k) : Cal P w K mg base k x ps sp :=
  ⟨let ⟨fd, a, b⟩ := c.fn; ⟨fd, a.mono h, b⟩, c.at_, c.kp⟩
section
variable {X : Cx} {k j : Nat} {x : Str} {ps : List Str} {sp : Sp} {p pos : Pos} {e : Expr} {es : List Expr} {t : TA} {W : WX}
/-- f(..) that raises nothing -/
theorem pe_cal (c : Cal X.prog X.w X.K X.mg X.base j x ps sp) (hr : Room k X.A) (ha : PA X (e :: es) t) (hk : j ≤ k := by decide) (hg : Gl X x := by rfl) (hdb : (x == ("__debug__" : Str)) = false := by decide)
    (he : starEach (e :: es) X.env = (false, eval e X.env) :: starEach es X.env := by rfl) (hpl : (backTo pos (starEach es X.env)).any (·.1) = false := by rfl) : PE X (.Call (.Name x p) (e :: es) [] pos) (tCallS sp (fun _ => E0) t) := by
  obtain ⟨fd, F, b⟩ := c.fn
  exact pe_callS F (hr.mono hk) hg c.at_ c.kp b (fun σ => fun pins H s e s' I h => passL pins σ H s e s' I h) ha hdb he hpl
/-- f(..) that may raise -/
theorem pe_calX (c : Cal X.prog X.w X.K X.mg X.base j x ps sp) (hr : Room k X.A) (tk : Takes X W) (ha : PA X (e :: es) t) (hk : j ≤ k := by decide) (hg : Gl X x := by rfl) (hdb : (x == ("__debug__" : Str)) = false := by decide)
    (he : starEach (e :: es) X.env = (false, eval e X.env) :: starEach es X.env := by rfl) (hpl : (backTo pos (starEach es X.env)).any (·.1) = false := by rfl) : PE X (.Call (.Name x p) (e :: es) [] pos) (tCallS sp (WE W) t) := by
  obtain ⟨fd, F, b⟩ := c.fn
  exact pe_callS F (hr.mono hk) hg c.at_ c.kp b (fun σ => passAt tk σ) ha hdb he hpl
end
/-! ### steps of a reading -/
section
variable {σ : L2.St} {H : Hp} {D : Ends} {Q : VK} {K : PySem.W.Frag}
theorem if_dec {p : Prop} [Decidable p] {A B : Prop} (a : p → A) (b : ¬p → B) : if decide p = true then A else B := by
  by_cases h : p
  · rw [decide_eq_true h]
    exact iteT (a h)
  · rw [decide_eq_false h]
    exact iteF (b h)
theorem if_ndec {p : Prop} [Decidable p] {A B : Prop} (a : ¬p → A) (b : p → B) : if (!decide p) = true then A else B := by
  by_cases h : p
  · rw [decide_eq_true h]
    exact iteF (b h)
  · rw [decide_eq_false h]
    exact iteT (a h)
theorem if_bool {c : Bool} {A B : Prop} (a : c = true → A) (b : c = false → B) : if c = true then A else B := by
  cases c with
  | true => exact iteT (a rfl)
  | false => exact iteF (b rfl)
end
end Sy
/-! defs of the top; a bed as an object -/
namespace Sy
open PySem PySem.Spec PyProof.Rows L2
/-- the def x of the top, by its row st -/
def FD (K : PySem.W.Frag) (x : Str) (st : Stmt) : Prop := ∃ fd, FunD K x x (defArgs st) (defBody st) (defScope st) [] [] (He.ga K x) fd
theorem cal_of {P : Program} {w : World} {K : PySem.W.Frag} {mg : Str → Option Value} {base : Heap} {x : Str} {st : Stmt} {N ps : List Str} {k : Nat} {sp : Sp} (F : FD K x st) (hm : mg x = some (.ref (He.ga K x))) (S : FnScope N ps (defScope st))
    (hb : ∀ (kV doc pm : Value) (an : Option Addr) (cdv ct : Value) (us : List Value), us.length = ps.length → bindArgs (PySem.W.fnOf x x (defArgs st) (defBody st) (defScope st) .none kV doc pm an cdv ct) ⟨us, []⟩ = pure (ps.zip us))
    (len : ∀ vs H Q E, sp vs H Q E → vs.length = ps.length)
    (body : ∀ (cdv : Value) (A : Around) (outer : List Env) (s : Shared) (H : Hp) (vs : List V) (Q : VK) (E : XK), Room k (A.deeper (envOfC x (defScope st) s.heap.objs.size (He.ga K x) cdv)) → sp vs H Q E →
      ∃ t, PSs (cxOf (L2.CX P w) P w K mg base N x (defScope st) (He.ga K x) cdv A outer s H E) (defBody st) t ∧ t { nx := fun _ H' => Q .non H', rt := Q } (start N vs) H) : Cal P w K mg base (k + 1) x ps sp := by
  obtain ⟨fd, F⟩ := F
  exact ⟨⟨fd, F.ok S len body, F.bindsN hb⟩, hm, F.kp⟩
/-! ### a bed -/
abbrev Row := Str × Nat
/-- the number of branches, 0 if it is no kind -/
def ar (rows : List Sy.Row) (x : Str) : Nat := (rows.lookup x).getD 0
def isK (rows : List Sy.Row) (x : Str) : Bool := (rows.lookup x).isSome
def arKV (rows : List Sy.Row) : List (Key × V) := rows.map fun r => (Sum.inr r.1, V.int (r.2 : Nat))
def rkKV : Nat → List Sy.Row → List (Key × V)
  | _, [] => []
  | n, r :: rs => (Sum.inr r.1, V.int (n : Nat)) :: rkKV (n + 1) rs
/-- the place of a kind -/
def rk : Nat → List Sy.Row → Str → Option Nat
  | _, [], _ => none
  | n, r :: rs, x => if r.1 = x then some n else rk (n + 1) rs x
theorem lookup_cons (r : Sy.Row) (rs : List Sy.Row) (x : Str) : (r :: rs).lookup x = if r.1 = x then some r.2 else rs.lookup x := by
  obtain ⟨a, b⟩ := r
  by_cases h : a = x
  · subst h
    simp [List.lookup]
  · rw [if_neg h]
    have h2 : (x == a) = false := beq_eq_false_iff_ne.mpr fun z => h z.symm
    simp [List.lookup, h2]
theorem valV_cons {κ : Type} [DecidableEq κ] (k : κ) (v : V) (l : List (κ × V)) (x : κ) : valV ((k, v) :: l) x = if k = x then some v else valV l x := by
  unfold valV
  rw [List.find?_cons]
  by_cases h : k = x
  · subst h
    simp
  · simp [h]
theorem valV_ar (x : Str) : ∀ rows : List Sy.Row, valV (arKV rows) (Sum.inr x : Key) = (rows.lookup x).map fun n => V.int (n : Nat)
  | [] => rfl
  | r :: rs => by
    show valV ((Sum.inr r.1, V.int (r.2 : Nat)) :: arKV rs) (Sum.inr x : Key) = _
    rw [valV_cons, lookup_cons, valV_ar x rs]
    by_cases h : r.1 = x
    · subst h
      simp
    · rw [if_neg h, if_neg]
      exact fun z => h (Sum.inr.inj z)
theorem valV_rk (x : Str) : ∀ (n : Nat) (rows : List Sy.Row), valV (rkKV n rows) (Sum.inr x : Key) = (rk n rows x).map fun n => V.int (n : Nat)
  | _, [] => rfl
  | n, r :: rs => by
    show valV ((Sum.inr r.1, V.int (n : Nat)) :: rkKV (n + 1) rs) (Sum.inr x : Key) = _
    rw [valV_cons, valV_rk x (n + 1) rs]
    show _ = (if r.1 = x then some n else rk (n + 1) rs x).map _
    by_cases h : r.1 = x
    · subst h
      simp
    · rw [if_neg h, if_neg]
      exact fun z => h (Sum.inr.inj z)
/-- the fields, in the order in which __init__ stores them -/
def bedF (dA tR tK dR : Addr) : List (Str × V) := [("arities", .ref dA), ("rows", .ref tR), ("kinds", .ref tK), ("ranks", .ref dR)]
/-- a bed stands at a -/
structure BedAt (K : PySem.W.Frag) (H : Hp) (a : Addr) (rows : List Sy.Row) : Prop where
  ex : ∃ (dx dA tR tK dR : Addr) (ps : List Addr), H a = some (.ins (He.ga K "Bed") dx (bedF dA tR tK dR)) ∧ H dA = some (.dK (arKV rows)) ∧ H dR = some (.dK (rkKV 0 rows)) ∧ SqT K H tR (ps.map V.ref) ∧ SqT K H tK (rows.map fun r => V.str r.1) ∧
    Paired (fun p (r : Sy.Row) => SqT K H p [.str r.1, .int (r.2 : Nat)]) ps rows
theorem BedAt.mono {K : PySem.W.Frag} {H H' : Hp} {a : Addr} {rows : List Sy.Row} (s : Stay H H') (b : BedAt K H a rows) : BedAt K H' a rows := by
  obtain ⟨dx, dA, tR, tK, dR, ps, h1, h2, h3, h4, h5, h6⟩ := b.ex
  exact ⟨dx, dA, tR, tK, dR, ps, s _ _ h1 (fun _ z => nomatch z), s _ _ h2 (fun _ z => nomatch z), s _ _ h3 (fun _ z => nomatch z), s.sqt h4, s.sqt h5, Paired.mapP h6 fun _ _ z => s.sqt z⟩
/-- what the walk asks of the top: the class Bed -/
structure BedT (K : PySem.W.Frag) : Prop where
  cl : Cls K (He.ga K "Bed")
  nA : NoAttr K (He.ga K "Bed") "arities"
  nR : NoAttr K (He.ga K "Bed") "rows"
  nK : NoAttr K (He.ga K "Bed") "kinds"
  nRk : NoAttr K (He.ga K "Bed") "ranks"
section
variable {K : PySem.W.Frag} {σ : L2.St} {H : Hp} {Q : VK} {i : Nat} {a : Addr} {rows : List Sy.Row}
/-- bed.arities, the bed in slot i -/
theorem bed_ar (T : BedT K) (b : BedAt K H a rows) (hi : σ[i]? = some (some (.ref a))) (h : ∀ dA, H dA = some (.dK (arKV rows)) → Q (.ref dA) H) : tFld K (tVar i) "arities" σ H Q := by
  obtain ⟨dx, dA, tR, tK, dR, ps, h1, h2, h3, h4, h5, h6⟩ := b.ex
  exact ⟨_, hi, a, _, dx, _, _, rfl, h1, T.cl, T.nA, rfl, h dA h2⟩
theorem bed_rk (T : BedT K) (b : BedAt K H a rows) (hi : σ[i]? = some (some (.ref a))) (h : ∀ dR, H dR = some (.dK (rkKV 0 rows)) → Q (.ref dR) H) : tFld K (tVar i) "ranks" σ H Q := by
  obtain ⟨dx, dA, tR, tK, dR, ps, h1, h2, h3, h4, h5, h6⟩ := b.ex
  exact ⟨_, hi, a, _, dx, _, _, rfl, h1, T.cl, T.nRk, rfl, h dR h3⟩
theorem bed_kd (T : BedT K) (b : BedAt K H a rows) (hi : σ[i]? = some (some (.ref a))) (h : ∀ tK, SqT K H tK (rows.map fun r => V.str r.1) → Q (.ref tK) H) : tFld K (tVar i) "kinds" σ H Q := by
  obtain ⟨dx, dA, tR, tK, dR, ps, h1, h2, h3, h4, h5, h6⟩ := b.ex
  exact ⟨_, hi, a, _, dx, _, _, rfl, h1, T.cl, T.nK, rfl, h tK h5⟩
end
end Sy
namespace Sy
open PySem PySem.Spec PyProof.Rows L2
theorem pe_gint {X : Cx} {x : Str} {i : Int} {pos : Pos} (hg : Gl X x) (hm : ∃ t, X.mg x = some (.int i t)) (hd : (x == ("__debug__" : Str)) = false := by decide) : PE X (.Name x pos) (tC (.int i)) := by
  obtain ⟨t, hm⟩ := hm
  exact pe_glob hg hm ⟨_, rfl⟩ hd
theorem pe_gstr {X : Cx} {x z : Str} {pos : Pos} (hg : Gl X x) (hm : ∃ t, X.mg x = some (.str z t)) (hd : (x == ("__debug__" : Str)) = false := by decide) : PE X (.Name x pos) (tC (.str z)) := by
  obtain ⟨t, hm⟩ := hm
  exact pe_glob hg hm ⟨_, rfl⟩ hd
/-- built-in names and constants that the module leaves alone -/
structure Txt (K : PySem.W.Frag) (mg : Str → Option Value) : Prop where
  bed : BedT K
  len : mg "len" = none
  range : mg "range" = none
  reversed : mg "reversed" = none
  enumerate : mg "enumerate" = none
  tuple : mg "tuple" = none
  list : mg "list" = none
  int : mg "int" = none
  abs : mg "abs" = none
  max : mg "max" = none
  isinstance : mg "isinstance" = none
  MOST_KNOTS : ∃ t, mg "MOST_KNOTS" = some (.int 2000 t)
  MOST_KINDS : ∃ t, mg "MOST_KINDS" = some (.int 8 t)
  MOST_BRANCHES : ∃ t, mg "MOST_BRANCHES" = some (.int 3 t)
  LONGEST_NAME : ∃ t, mg "LONGEST_NAME" = some (.int 8 t)
/-! loops, in the form that a reading asks for -/
abbrev Loop (J : It) (g : TG) (tb : TS) (D : Ends) (σ : L2.St) (H : Hp) : Prop := ∃ W : Nat → Nat → L2.St → Hp → Prop, (∃ m, W 0 m σ H) ∧ ∀ i m σ H, W i m σ H → (J.stop i H ∧ D.nx σ H) ∨
  (J.go i H ∧ ∃ N : L2.St → Hp → Prop, (∀ σ' H', N σ' H' → ∃ m', m' < m ∧ W (i + 1) m' σ' H') ∧ ∀ x H', J.yld i H x H' → g x σ H' fun σ2 H2 => tb { D with nx := N, ct := N, bk := D.nx } σ2 H2)
/-- for i, x in enumerate(t) -/
theorem for_enumT {K : PySem.W.Frag} {si sj : Nat} {tb : TS} {D : Ends} {σ : L2.St} {H : Hp} {a : Addr} {xs : List V} (Pv : Nat → L2.St → Hp → Prop)
    (h0 : Pv 0 σ H) (hG : ∀ i σ H, i ≤ xs.length → Pv i σ H → SqT K H a xs)
    (hs : ∀ i x σ H T, xs[i]? = some x → Pv i σ H → H T = none → tb { D with nx := Pv (i + 1), ct := Pv (i + 1), bk := D.nx } ((σ.set si (some (.int (i : Nat)))).set sj (some x)) (upd H T (.tup [.int (i : Nat), x])))
    (hd : ∀ σ H, Pv xs.length σ H → D.nx σ H) : Loop (ItE K a) (gTup K 2 (gCons (gName si) (gCons (gName sj) gNil))) tb D σ H := by
  refine for_it walkE Pv h0 hG (fun i v σ H H' hi hp y => ?_) hd
  obtain ⟨T, x, z, rfl, hT, rfl, e1, e2⟩ := y
  cases e1
  exact ⟨T, _, rfl, SqT.of upd_same, rfl, _, _, rfl, _, _, rfl, rfl, hs i z σ H T e2 hp hT⟩
/-- .. over a list that the body leaves alone -/
theorem for_enumL {K : PySem.W.Frag} {si sj : Nat} {tb : TS} {D : Ends} {σ : L2.St} {H : Hp} {a : Addr} {xs : List V} (Pv : Nat → L2.St → Hp → Prop)
    (h0 : Pv 0 σ H) (hG : ∀ i σ H, i ≤ xs.length → Pv i σ H → SqL K H a xs)
    (hs : ∀ i x σ H T, xs[i]? = some x → Pv i σ H → H T = none → tb { D with nx := Pv (i + 1), ct := Pv (i + 1), bk := D.nx } ((σ.set si (some (.int (i : Nat)))).set sj (some x)) (upd H T (.tup [.int (i : Nat), x])))
    (hd : ∀ σ H, Pv xs.length σ H → D.nx σ H) : Loop (Ite K a) (gTup K 2 (gCons (gName si) (gCons (gName sj) gNil))) tb D σ H := by
  refine for_it walk_enum Pv h0 hG (fun i v σ H H' hi hp y => ?_) hd
  obtain ⟨T, x, z, rfl, hT, rfl, e1, e2⟩ := y
  cases e1
  exact ⟨T, _, rfl, SqT.of upd_same, rfl, _, _, rfl, _, _, rfl, rfl, hs i z σ H T e2 hp hT⟩
/-- for k in range(n) -/
theorem for_rng {si : Nat} {tb : TS} {D : Ends} {σ : L2.St} {H : Hp} {n : Nat} (Pv : Nat → L2.St → Hp → Prop) (h0 : Pv 0 σ H)
    (hs : ∀ (i : Nat) σ H, i < n → Pv i σ H → tb { D with nx := Pv (i + 1), ct := Pv (i + 1), bk := D.nx } (σ.set si (some (.int (i : Nat)))) H)
    (hd : ∀ σ H, Pv n σ H → D.nx σ H) : Loop (Itr 0 n) (gName si) tb D σ H := by
  refine for_range Pv h0 (fun i σ H hi hp => ?_) hd
  have e : (0 : Int) + (i : Nat) = (i : Nat) := by omega
  have q := hs i σ _ hi hp
  rw [← e] at q
  exact q
/-- for k in reversed(range(n)) -/
theorem for_rrng {si : Nat} {tb : TS} {D : Ends} {σ : L2.St} {H : Hp} {n : Nat} (Pv : Nat → L2.St → Hp → Prop) (h0 : Pv n σ H)
    (hs : ∀ (i : Nat) σ H, i < n → Pv (i + 1) σ H → tb { D with nx := Pv i, ct := Pv i, bk := D.nx } (σ.set si (some (.int (i : Nat)))) H)
    (hd : ∀ σ H, Pv 0 σ H → D.nx σ H) : Loop (Itc (0 + (((n : Int) - 0).toNat : Int) - 1) (-1) (((n : Int) - 0).toNat)) (gName si) tb D σ H := by
  have e0 : (((n : Nat) : Int) - 0).toNat = n := by omega
  rw [e0]
  refine for_it walk_rangeC (fun j σ H => Pv (n - j) σ H) h0 (fun _ _ _ _ _ => trivial) (fun j v σ H H' hj hp y => ?_) (fun σ H q => ?_)
  · obtain ⟨rfl, rfl⟩ := y
    have e : (0 : Int) + (n : Nat) - 1 + (j : Nat) * -1 = ((n - 1 - j : Nat) : Int) := by omega
    have e1 : n - j = (n - 1 - j) + 1 := by omega
    rw [e1] at hp
    have q := hs (n - 1 - j) σ _ (by omega) hp
    rw [← e] at q
    have e2 : n - (j + 1) = n - 1 - j := by omega
    show tb { D with nx := fun σ H => Pv (n - (j + 1)) σ H, ct := fun σ H => Pv (n - (j + 1)) σ H, bk := D.nx } _ _
    rw [e2]
    exact q
  · rw [Nat.sub_self] at q
    exact hd σ H q
end Sy
namespace Sy
open PySem PySem.Spec PyProof.Rows L2
def top (i : Nat) : Stmt := PySem.Challenge.pw_shearyard_k06_whole_least_plants.main.body.getD i (.Pass ⟨0, 0, 0, 0⟩)
end Sy
/-! what the head's run looks at (the run is proved early: it wants much memory) -/
namespace Sy
open PySem PySem.Spec PyProof.Rows L2
def clb (i j : Nat) : Stmt := match top i with
  | .ClassDef _ _ _ b _ _ _ _ _ _ _ => b.getD j (.Pass ⟨0, 0, 0, 0⟩)
  | s => s
abbrev iniA (K : PySem.W.Frag) (x : Str) : Addr := He.ma K (He.ga K x) "__init__"
structure ErD where
  x : Str
  q : Str
  st : Stmt
  fs : List Str
abbrev FnE : Type := Option (Str × Str × Arguments × FuncBody × Scope × Addr × List Str × Addr)
def ErD.val (d : ErD) : FnE := some ("__init__", d.q, defArgs d.st, .stmts (defBody d.st), defScope d.st, mainGlobals, ["__class__"], builtinsNs)
def erW (K : PySem.W.Frag) (x : Str) : FnE := match K.lookup (iniA K x) with
  | some ⟨_, _, .func fd, _⟩ => some (fd.name, fd.qualname, fd.params, fd.body, fd.scope, fd.globals, fd.closure.map (·.1), fd.builtins)
  | _ => none
/-- the class object -/
def oexB (K : PySem.W.Frag) (C : Addr) : Bool := match K.lookup C with
  | some ⟨.type t, _, .cls cd, sl⟩ => (match cd.mro, sl.toList with
    | .ref C' :: bm, [_, _, _, _, some (.builtin n), _] => decide (t = "type") && (decide (C' = C) && (decide (n = "ValueError.__new__") && (!cd.hasDel && (cd.hasDict && HandSPX.refsVE bm))))
    | _, _ => false)
  | _ => false
/-- what stands in the code object, in the cell -/
def fileB (K : PySem.W.Frag) (file : Str) (cd : Value) : Bool := match cd with
  | .ref c => (match K.lookup c with
    | some ⟨_, _, .fields vs, _⟩ => (match (vs[2]? : Option Value) with
      | some (.str fi _) => (file == fi)
      | _ => false)
    | _ => false)
  | _ => false
def cellB (K : PySem.W.Frag) (C : Addr) (cl : List (Str × Addr)) : Bool := match cl with
  | [(_, cc)] => (match K.lookup cc with
    | some ⟨_, _, .cell (some (.ref D)), _⟩ => decide (D = C)
    | _ => false)
  | _ => false
def initB (K : PySem.W.Frag) (file x q : Str) : Bool := match K.lookup (iniA K x) with
  | some ⟨_, _, .func fd, _⟩ => PySem.W.codeIn K fd.code q && (fileB K file fd.code && (cellB K (He.ga K x) fd.closure && (match fd.defaults with
    | .none => true
    | _ => false)))
  | _ => false
def ErD.ok (file : Str) (K : PySem.W.Frag) (d : ErD) : Bool :=
  He.eqO (PySem.W.nsIn K mainGlobals d.x) (some (some (.ref (He.ga K d.x)))) && (He.eqO (PySem.W.findIn K (.ref (He.ga K d.x)) "__init__") (some (some (.ref (iniA K d.x)))) && (decide (PySem.W.typeIn K (.ref (iniA K d.x)) = some (.type "function")) &&
  (decide (PySem.W.exmOne K (.ref (He.ga K d.x)) (.ref (He.ga K d.x)) = some true) && (xfB K (He.ga K d.x) && ((d.fs.all fun f => He.eqO (PySem.W.findIn K (.ref (He.ga K d.x)) f) (some none)) && (oexB K (He.ga K d.x) &&
  (He.eqO (PySem.W.findIn K (.ref (He.ga K d.x)) "__setattr__") (some (some (.builtin "object.__setattr__"))) && (decide (PySem.W.subIn K (.ref (He.ga K d.x)) (.type "BaseException") = some true) && (decide (PySem.W.typeIn K (.ref (He.ga K d.x)) = some (.type "type")) && (PySem.W.keepIn K (.ref (He.ga K d.x)) &&
  (initB K file d.x d.q && (PySem.W.isClsIn K (He.ga K d.x) && (decide (PySem.W.mroIn K (He.ga K d.x) (.ref (He.ga K d.x)) = some true) && (He.eqO (PySem.W.ks_superIn K (He.ga K d.x) (He.ga K d.x) "__init__") (some (some (.builtin "ValueError.__init__"))) &&
  (decide (PySem.W.subIn K (.ref (He.ga K d.x)) (.type "ValueError") = some true) && He.eqO (PySem.W.nsIn K cStatics "thirdparty.any") (some none))))))))))))))))
def excB (K : PySem.W.Frag) (D : Addr) : Bool :=
  He.eqO (PySem.W.findIn K (.ref D) "__getattribute__") (some (some (.builtin "BaseException.__getattribute__"))) && (He.eqO (PySem.W.findIn K (.ref D) "__getattr__") (some none) && (decide (PySem.W.subIn K (.ref D) (.type "BaseException") = some true) && (PySem.W.hasDictIn K D &&
  (He.eqO (PySem.W.findIn K (.ref D) "__class__") (some (some (.builtin "object.__class__"))) && (He.eqO (PySem.W.specialIn K (.builtin "object.__class__") "__get__") (some (some (.builtin "getset_descriptor.__get__"))) && (decide (PySem.W.takesIn K (.builtin "object.__class__") = some true) && decide (PySem.W.mroIn K D (.type "object") = some true)))))))
/-- a code object's table is none of the known things -/
def tabFree (K : PySem.W.Frag) : Value → Bool
  | .ref c => (match K.lookup c with
    | some ⟨_, _, .fields vs, _⟩ => (match (vs[11]? : Option Value) with
      | some (.ref P) => (K.lookup P).isNone
      | _ => false)
    | _ => false)
  | _ => false
/-- .. that of settled_plants -/
def metB (K : PySem.W.Frag) : Bool := match K.lookup (He.ga K "settled_plants") with
  | some ⟨_, _, .func fd, _⟩ => tabFree K fd.code
  | _ => false
/-! a classmethod of Bed -/
def bedB (K : PySem.W.Frag) : Bool := PySem.W.readsIn K (He.ga K "Bed") (.type "type") && (He5.wrapB K (He.ga K "Bed") "classmethod" "classmethod.__get__" "read" && PySem.W.fnIn K (He5.wf K (He.ga K "Bed") "classmethod" "read"))
/-! the Hook -/
abbrev AlX : Type := He.AlD × (Bool × (List FnE × (Bool × List He.FnW)))
def obsX (file : Str) (fa : List He.Fa) (fn : List He.DefD) (er : List ErD) (fw : List He5.DefA) (K : PySem.W.Frag) : AlX := (He.obsD fa fn K, ((er.all fun d => d.ok file K) && metB K, (er.map fun d => erW K d.x, (bedB K && fw.all fun d => d.ok K, fw.map fun d => He5.fnA K (d.at_ K)))))
def valX (fn : List He.DefD) (er : List ErD) (fw : List He5.DefA) : AlX := (He.valD fn, (true, (er.map ErD.val, (true, fw.map He5.DefA.val))))
def SaysX (file : Str) (fa : List He.Fa) (fn : List He.DefD) (er : List ErD) (fw : List He5.DefA) (K : PySem.W.Frag) : Prop := obsX file fa fn er fw K = valX fn er fw
def obsXG (file : Str) (as : List Addr) (fa : List He.Fa) (fn : List He.DefD) (er : List ErD) (fw : List He5.DefA) (g : Addr → Option Obj) : AlX := obsX file fa fn er fw (He.frG g as)
def hookX (file : Str) (as : List Addr) (fa : List He.Fa) (fn : List He.DefD) (er : List ErD) (fw : List He5.DefA) : PySem.W.Hook where
  α := AlX
  obs := fun s => obsXG file as fa fn er fw s.heap.get?
  val := fun _ => valX fn er fw
  says := fun _ h => ∃ K : PySem.W.Frag, K.In h ∧ SaysX file fa fn er fw K
  of := fun _ _ e => ⟨_, He.frG_in, e⟩
  keeps := fun _ _ _ ⟨K, hK, c⟩ k => ⟨K, PySem.W.Frag.In.keeps hK k, c⟩
theorem obsXG_eq {file : Str} {as : List Addr} {fa : List He.Fa} {fn : List He.DefD} {er : List ErD} {fw : List He5.DefA} {g : Addr → Option Obj} {s : Shared} (h : ∀ a, g a = s.heap.get? a) : obsXG file as fa fn er fw g = (hookX file as fa fn er fw).obs s := by
  have e : g = s.heap.get? := funext h
  rw [e]
  rfl
end Sy
set_option maxHeartbeats 0
namespace Sy.En
open Sy PySem PySem.Spec PyProof.Rows L2
abbrev dOf (x : Str) (i : Nat) : He.DefD := ⟨(x, none), x, x, defArgs (top i), defBody (top i), defScope (top i), [], []⟩
abbrev dMe (m q : Str) (j : Nat) : He.DefD := ⟨("Bed", some m), m, q, defArgs (clb 39 j), defBody (clb 39 j), defScope (clb 39 j), [], []⟩
abbrev dMeR (m q : Str) (j : Nat) (kw : List (Str × He.Dv)) : He.DefD := ⟨("Reader", some m), m, q, defArgs (clb 26 j), defBody (clb 26 j), defScope (clb 26 j), [], kw⟩
def fn : List He.DefD := [dOf "check_count" 14, dOf "arity" 15, dOf "fault_among" 16, dOf "check_plant" 18, dOf "below_tuples" 20, dOf "tuples_with" 21, dOf "rows_with" 22, dOf "_entered" 24, dOf "_check_marks" 25, dOf "full_table" 28, dOf "_offer" 29, dOf "settled_plants" 30, dOf "_spelled" 31, dOf "least_rows" 32, dOf "least_plants" 33, dOf "only_letters" 37, dOf "is_name" 38, dOf "_law_box" 41, dOf "_law_take" 42, dOf "_law_bed" 43, dOf "_law_text" 44, dOf "_law_tuples" 45, dOf "_law_marks" 46, dOf "_law_reader" 47, dOf "_law_long" 48, dOf "_law_doubler" 49, dOf "_law_made" 50, dOf "_law_same" 51, dOf "_law_sizes" 52, dOf "_law_fault" 53, dOf "_law_row_states" 54, dOf "_law_kept" 55, dOf "_law_told" 56, dOf "_law_is_plant" 57, dOf "_law_ranked" 58, dOf "_law_least_right" 59, dOf "_law_doubled_right" 60, dOf "law" 61, dMe "__init__" "Bed.__init__" 0, dMe "leaves" "Bed.leaves" 3, dMe "branches" "Bed.branches" 4, dMe "rank" "Bed.rank" 5, dMeR "__init__" "Reader.__init__" 0 [("otherwise", .int 0)], dMeR "table" "Reader.table" 6 []]
def fa : List He.Fa := [.glo "check_count", .glo "arity", .glo "fault_among", .glo "check_plant", .glo "below_tuples", .glo "tuples_with", .glo "rows_with", .glo "_entered", .glo "_check_marks", .glo "full_table", .glo "_offer", .glo "settled_plants", .glo "_spelled", .glo "least_rows", .glo "least_plants", .glo "only_letters", .glo "is_name", .glo "_law_box", .glo "_law_take", .glo "_law_bed", .glo "_law_text", .glo "_law_tuples", .glo "_law_marks", .glo "_law_reader", .glo "_law_long", .glo "_law_doubler", .glo "_law_made", .glo "_law_same", .glo "_law_sizes", .glo "_law_fault", .glo "_law_row_states", .glo "_law_kept", .glo "_law_told", .glo "_law_is_plant", .glo "_law_ranked", .glo "_law_least_right", .glo "_law_doubled_right", .glo "law", .free "len", .free "range", .free "reversed", .free "enumerate", .free "tuple", .free "list", .free "int", .free "abs", .free "max", .free "isinstance", .free "bool", .free "str", .free "super", .free "ValueError", .free "min", .free "sum", .int "MOST_KNOTS" 2000, .int "MOST_KINDS" 8, .int "MOST_BRANCHES" 3, .int "LONGEST_NAME" 8, .int "MOST_STATES" 40, .str "DIGITS" "0123456789", .glo "Bed", .cls "Bed", .mkr "Bed", .noat "Bed" "arities", .noat "Bed" "rows", .noat "Bed" "kinds", .noat "Bed" "ranks", .meth "Bed" "__init__", .meth "Bed" "leaves", .meth "Bed" "branches", .meth "Bed" "rank", .glo "Reader", .cls "Reader", .mkr "Reader", .noat "Reader" "bed", .noat "Reader" "states", .noat "Reader" "marks", .noat "Reader" "_otherwise", .noat "Reader" "_entered", .meth "Reader" "table"]
def ers : List ErD := [⟨"TooMany", "TooMany.__init__", clb 12 0, ["what", "limit"]⟩, ⟨"InvalidBed", "InvalidBed.__init__", clb 7 0, ["place"]⟩, ⟨"InvalidPlant", "InvalidPlant.__init__", clb 8 0, ["place"]⟩, ⟨"InvalidReader", "InvalidReader.__init__", clb 9 0, ["place"]⟩, ⟨"InvalidText", "InvalidText.__init__", clb 10 0, ["text"]⟩, ⟨"UnknownKind", "UnknownKind.__init__", clb 11 0, ["kind"]⟩]
abbrev dW0 : He5.DefA := { at_ := fun K => He5.wf K (He.ga K "Bed") "classmethod" "read", name := "read", qual := "Bed.read", params := defArgs (clb 39 1), body := defBody (clb 39 1), scope := defScope (clb 39 1) }
def fw : List He5.DefA := [dW0]
abbrev R : PySem.W.OpenRow := PySem.W.OpenLaw.row PySem.Challenge.rw_shearyard_k06_whole_least_plants
/-- the addresses that the facts look at -/
def lit0 : List Addr := [3, 6, 4, 21, 31, 53, 74, 95, 116, 137, 158, 167, 174, 181, 188, 193, 200, 207, 214, 221, 279, 290, 295, 300, 305, 312, 319, 326, 333, 397, 408, 415, 422, 427, 432, 439, 446, 451, 456, 463, 470, 477, 484, 491, 496, 503, 510, 515, 520, 525, 530, 0, 20, 30, 52, 73, 94, 115, 136, 157, 166, 173, 180, 187, 192, 199, 206, 213, 220, 278, 289, 294, 299, 304, 311, 318, 325, 332, 396, 407, 414, 421, 426, 431, 438, 445, 450, 455, 462, 469, 476, 483, 490, 495, 502, 509, 514, 519, 524, 529, 15, 17, 18, 19, 29, 32, 50, 51, 71, 72, 92, 93, 113, 114, 134, 135, 155, 156, 161, 163, 164, 165, 168, 170, 171, 172, 175, 177, 178, 179, 182, 184, 185, 186, 189, 191, 194, 196, 197, 198, 201, 203, 204, 205, 208, 210, 211, 212, 215, 217, 218, 219, 236, 243, 248, 255, 262, 269, 276, 277, 280, 281, 284, 286, 287, 288, 291, 293, 296, 298, 301, 303, 306, 308, 309, 310, 313, 315, 316, 317, 320, 322, 323, 324, 327, 329, 330, 331, 345, 354, 363, 368, 375, 382, 389, 394, 395, 398, 399, 402]
def lit1 : List Addr := [404, 405, 406, 409, 411, 412, 413, 416, 418, 419, 420, 423, 425, 428, 430, 433, 435, 436, 437, 440, 442, 443, 444, 447, 449, 452, 454, 457, 459, 460, 461, 464, 466, 467, 468, 471, 473, 474, 475, 478, 480, 481, 482, 485, 487, 488, 489, 492, 494, 497, 499, 500, 501, 504, 506, 507, 508, 511, 513, 516, 518, 521, 523, 526, 528, 49, 38, 70, 59, 91, 80, 112, 101, 133, 122, 154, 143, 235, 229, 242, 247, 254, 261, 268, 275, 344, 352, 353, 362, 367, 374, 381, 388, 393, 44, 46, 47, 48, 65, 67, 68, 69, 86, 88, 89, 90, 107, 109, 110, 111, 128, 130, 131, 132, 149, 151, 152, 153, 230, 232, 233, 234, 237, 239, 240, 241, 244, 246, 249, 251, 252, 253, 256, 258, 259, 260, 263, 265, 266, 267, 270, 272, 273, 274, 341, 343, 351, 355, 361, 364, 366, 369, 371, 372, 373, 376, 378, 379, 380, 383, 385, 386, 387, 390, 392, 2]
def lit : List Addr := lit0 ++ lit1
abbrev hk : PySem.W.Hook := hookX R.prog.main.file lit fa fn ers fw
def ob (s : PySem.W.SharedT) : AlX := obsXG R.prog.main.file lit fa fn ers fw (HandSHeadRun.getT s)
theorem ob_eq (s : PySem.W.SharedT) : ob s = hk.obs s.abs := obsXG_eq (HandSHeadRun.getT_eq s)
def loose1 : List Str := ["_wall", "MOST_KINDS", "MOST_BRANCHES", "MOST_KNOTS", "MOST_STATES", "YardError", "InvalidBed", "InvalidPlant", "InvalidReader", "InvalidText", "UnknownKind", "TooMany", "check_count", "arity", "fault_among", "check_plant", "below_tuples", "tuples_with", "rows_with", "_entered", "_check_marks", "Reader", "full_table", "_offer", "_spelled", "least_rows", "least_plants", "LONGEST_NAME", "DIGITS", "only_letters"]
def loose2 : List Str := ["is_name", "Bed", "_law_box", "_law_take", "_law_bed", "_law_text", "_law_tuples", "_law_marks", "_law_reader", "_law_long", "_law_doubler", "_law_made", "_law_same", "_law_sizes", "_law_fault", "_law_row_states", "_law_kept", "_law_told", "_law_is_plant", "_law_ranked", "_law_least_right", "_law_doubled_right"]
theorem run (w : World) : HandSHeadRun.RunEq R (PySem.W.view R.prog [30, 61]) hk ob 30000 (loose1 ++ loose2) w := by
  intro os
  kernel_rfl
end Sy.En
/-! keys (k, tuple of keys) of a dict -/
namespace Sy
open PySem PySem.Spec PyProof.Rows L2
abbrev NKey : Type := Key × List Key
section
variable {prog : Program} {w : World} {A : Around} {E : Value → Shared → Prop} {s : Shared}
def IsNest (prog : Program) (w : World) (h : Heap) (k : NKey) (a : Addr) : Prop :=
  ∃ (o : Obj) (v : Value) (b : Addr) (n : Nat), h.get? a = some o ∧ o.cls = .type "tuple" ∧ o.data = .seq #[v, .ref b] n ∧ (mixKind prog w).is k.1 v = true ∧ IsTupleKey (mixKind prog w) h k.2 b
theorem IsNest.typeIs {k : NKey} {a : Addr} (x : IsNest prog w s.heap k a) : s.TypeIs (.ref a) "tuple" := let ⟨o, _, _, _, ho, hc, _⟩ := x; ⟨o, ho, hc⟩
theorem IsNest.inj {h : Heap} {a : Addr} {x y : NKey} (hx : IsNest prog w h x a) (hy : IsNest prog w h y a) : x = y := by
  obtain ⟨o, v, b, n, ho, _, hd, h1, h2⟩ := hx
  obtain ⟨o', v', b', n', ho', _, hd', h1', h2'⟩ := hy
  obtain rfl : o = o' := Option.some.inj (ho.symm.trans ho')
  rw [hd] at hd'
  injection hd' with e1 _
  have e2 : [v, Value.ref b] = [v', Value.ref b'] := congrArg Array.toList e1
  injection e2 with e3 e4
  injection e4 with e5 _
  injection e5 with e5
  subst e3 e5
  exact Prod.ext ((mixKind prog w).inj _ _ _ h1 h1') (h2.inj h2')
theorem IsNest.keeps {h h' : Heap} {k : NKey} {a d : Addr} {o : Obj} {es ep} (x : IsNest prog w h k a) (ho : h.get? d = some o) (hd : o.data = .dict es ep) (hs : Heap.SameBut d h h') : IsNest prog w h' k a := by
  obtain ⟨o', v, b, n, ho', hc, hd', h1, h2⟩ := x
  have hne : a ≠ d := by
    rintro rfl
    obtain rfl : o' = o := Option.some.inj (ho'.symm.trans ho)
    rw [hd] at hd'; exact nomatch hd'
  exact ⟨o', v, b, n, (hs.2 a hne).trans ho', hc, hd', h1, h2.keeps ho hd hs⟩
def nestHash (prog : Program) (w : World) (k : NKey) : Int := reduceHash (Builtin.Tuple.tupleHashOf [(mixKind prog w).hash k.1, tupleKeyHash (mixKind prog w) k.2])
theorem wpAny_pyHash_nest {k : NKey} {a : Addr} {Q : Int → Shared → Prop} (hu : A.units + 3 < cLine) (hk : IsNest prog w s.heap k a) (h : Q (nestHash prog w k) { s with toks := s.toks + (k.2.length + 3) }) :
    wpAny (model prog w) A (pyHash (.ref a)) Q E s := by
  have hT := hk.typeIs
  obtain ⟨o, v, b, n, ho, _, hd, h1, h2⟩ := hk
  unfold pyHash
  first | unfold pyHashByItsType | skip
  first | refine wpAny_bind (wpAny_cRoomFor_or (.inr (by omega)) ?_) | skip
  refine wpAny_bind (wpAny_specialOf hT F.slot_tuple_hash.lookup ?_)
  show wpAny _ _ (if (some (Value.builtin "tuple.__hash__") == some Value.none) = true then _ else _) Q E s
  rw [if_neg (by rw [beq_builtin_none]; exact Bool.false_ne_true)]
  refine wpAny_bind (wpAny_specialOf hT F.slot_tuple_hash.lookup ?_)
  show wpAny _ _ (callSpecialIfBoundUnlessNone? (.ref a) "__hash__" _ >>= _) Q E s
  refine wpAny_bind (wpAny_callSpecialIfBoundUnlessNone?_slot hT F.slot_tuple_hash (wpAny_call_entry F.slot_tuple_hash hT F.entry_tuple_hash ?_ (F.args_tuple_hash_1 _)))
  show wpAny _ _ (Builtin.Tuple.tupleItemsOf (.ref a) >>= _) _ _ s
  refine wpAny_bind (wpAny_tupleItemsOf ho hd ?_)
  refine wpAny_bind ?_
  rw [← Array.forIn_toList]
  refine wpAny_forIn_list _
    (fun rest (bs : Array Int) s' => (rest = [v, .ref b] ∧ bs.toList = [] ∧ s' = s) ∨ (rest = [.ref b] ∧ bs.toList = [(mixKind prog w).hash k.1] ∧ s' = { s with toks := s.toks + 1 }) ∨
      (rest = [] ∧ bs.toList = [(mixKind prog w).hash k.1, tupleKeyHash (mixKind prog w) k.2] ∧ s' = { s with toks := s.toks + (k.2.length + 2) }))
    _ ?_ ?_ _ _ (.inl ⟨rfl, rfl, rfl⟩)
  · rintro x rest bs s' (⟨e, hb, rfl⟩ | ⟨e, hb, rfl⟩ | ⟨e, _⟩)
    · injection e with e1 e2
      subst e1 e2
      refine wpAny_bind ((mixKind prog w).pyHash h1 ?_)
      first
        | exact wpAny_pure (.inr (.inl ⟨rfl, by simp [hb], rfl⟩))
        | exact wpAny_bind (wpAny_pure (wpAny_pure (.inr (.inl ⟨rfl, by simp [hb], rfl⟩))))
    · injection e with e1 e2
      subst e1 e2
      refine wpAny_bind (wpAny_pyHash_tuple (s := { s with toks := s.toks + 1 }) (by first | exact hu | (show A.units + 1 < cLine; omega) | (show A.units + 2 < cLine; omega) | (show A.units + 3 < cLine; omega)) h2 ?_)
      have e3 : s.toks + 1 + (k.2.length + 1) = s.toks + (k.2.length + 2) := by omega
      first
        | exact wpAny_pure (.inr (.inr ⟨rfl, by simp [hb], by simp [e3]⟩))
        | exact wpAny_bind (wpAny_pure (wpAny_pure (.inr (.inr ⟨rfl, by simp [hb], by simp [e3]⟩))))
    · exact nomatch e
  · rintro bs s' (⟨e, _⟩ | ⟨e, _⟩ | ⟨_, hb, rfl⟩)
    · exact nomatch e
    · exact nomatch e
    show wpAny _ _ (retInt (Builtin.Tuple.tupleHashOf bs.toList)) _ _ _
    rw [hb]
    refine wpAny_ret_mkInt ?_
    show wpAny _ _ (if (decide (-(2 : Int) ^ 63 ≤ Builtin.Tuple.tupleHashOf [(mixKind prog w).hash k.1, tupleKeyHash (mixKind prog w) k.2]) && decide (Builtin.Tuple.tupleHashOf [(mixKind prog w).hash k.1, tupleKeyHash (mixKind prog w) k.2] < 2 ^ 63)) = true then _ else _) Q E _
    unfold nestHash reduceHash at h
    by_cases hr : (decide (-(2 : Int) ^ 63 ≤ Builtin.Tuple.tupleHashOf [(mixKind prog w).hash k.1, tupleKeyHash (mixKind prog w) k.2]) && decide (Builtin.Tuple.tupleHashOf [(mixKind prog w).hash k.1, tupleKeyHash (mixKind prog w) k.2] < 2 ^ 63)) = true
    · rw [if_pos hr]
      rw [if_pos hr] at h
      exact wpAny_pure (by simpa [Nat.add_assoc] using h)
    · rw [if_neg hr]
      rw [if_neg hr] at h
      exact wpAny_bind (wpAny_rule (wpAny_pure (by simpa [Nat.add_assoc] using h)))
theorem nest_eq_tree {x y : NKey} {a b : Addr} {P : Fin → Shared → Prop} (hu : A.units < cLine) (hx : IsNest prog w s.heap x a) (hy : IsNest prog w s.heap y b) (h : P (.done (.ret (.bool (decide (x = y))))) s) :
    wpAny (model prog w) A (Builtin.«tuple.__eq__» ⟨[.ref a, .ref b], []⟩) P E s := by
  have hTb := hy.typeIs
  obtain ⟨oa, va, ba, na, hoa, _, hda, ha1, ha2⟩ := hx
  obtain ⟨ob, vb, bb, nb, hob, _, hdb, hb1, hb2⟩ := hy
  obtain ⟨x1, x2⟩ := x
  obtain ⟨y1, y2⟩ := y
  show wpAny _ _ (isInstance (.ref b) (.type "tuple") >>= _) _ _ s
  refine wpAny_bind (wpAny_isInstance hTb isSubtype_tuple_tuple ?_)
  simp only [Bool.not_true, Bool.false_eq_true, if_false]
  refine wpAny_bind (wpAny_tupleItemsOf hoa hda ?_)
  refine wpAny_bind (wpAny_tupleItemsOf hob hdb ?_)
  refine wpAny_bind ?_
  refine wpAny_forIn_list _
    (fun rest r s' => r.1 = none ∧ s' = s ∧ ((rest = [(va, vb), (.ref ba, .ref bb)]) ∨ (rest = [(.ref ba, .ref bb)] ∧ x1 = y1) ∨ (rest = [] ∧ x1 = y1 ∧ x2 = y2)))
    _ ?_ ?_ _ _ ⟨rfl, rfl, .inl rfl⟩
  · rintro ⟨u, v⟩ rest r s' ⟨hr, rfl, (e | ⟨e, he⟩ | ⟨e, _⟩)⟩
    · injection e with e1 e2
      injection e1 with e3 e4
      subst e2 e3 e4
      refine wpAny_bind ((mixKind prog w).eqBool (a := x1) (b := y1) ha1 hb1 ?_)
      by_cases hk : x1 = y1
      · subst hk
        rw [decide_eq_true rfl]
        simp only [Bool.not_true, Bool.false_eq_true, if_false]
        exact wpAny_pure (by simp)
      · rw [decide_eq_false hk]
        simp only [Bool.not_false, if_true]
        have hf : decide ((x1, x2) = (y1, y2)) = false := by simp [hk]
        rw [hf] at h
        exact wpAny_bind (wpAny_pure (wpAny_pure (wpAny_pure h)))
    · injection e with e1 e2
      injection e1 with e3 e4
      subst e2 e3 e4 he
      refine wpAny_bind (wpAny_eqBool_tuple (x := x2) (y := y2) hu ha2 hb2 ?_)
      by_cases hk : x2 = y2
      · subst hk
        rw [decide_eq_true rfl]
        simp only [Bool.not_true, Bool.false_eq_true, if_false]
        exact wpAny_pure (by simp)
      · rw [decide_eq_false hk]
        simp only [Bool.not_false, if_true]
        have hf : decide ((x1, x2) = (x1, y2)) = false := by simp [hk]
        rw [hf] at h
        exact wpAny_bind (wpAny_pure (wpAny_pure (wpAny_pure h)))
    · exact nomatch e
  · rintro ⟨r1, r2⟩ s' ⟨hr, rfl, (e | ⟨e, _⟩ | ⟨_, rfl, rfl⟩)⟩
    · exact nomatch e
    · exact nomatch e
    simp only at hr
    subst hr
    refine wpAny_pure ?_
    show P (.done (.ret (.bool ((#[va, Value.ref ba] : Array Value).size == (#[vb, Value.ref bb] : Array Value).size)))) s'
    simpa using h
theorem wpAny_eqBool_nest {x y : NKey} {a b : Addr} {Q : Bool → Shared → Prop} (hu : A.units + 3 < cLine) (hx : IsNest prog w s.heap x a) (hy : IsNest prog w s.heap y b) (h : Q (decide (x = y)) s) :
    wpAny (model prog w) A (eqBool (.ref a) (.ref b)) Q E s := by
  unfold eqBool
  try with_reducible refine wpAny_holding ?_
  show wpAny _ _ (if (Value.ref a == Value.ref b) = true then _ else _) Q E s
  by_cases hab : (Value.ref a == Value.ref b) = true
  · rw [if_pos hab]
    have e : a = b := by have := eq_of_beq hab; injection this
    subst e
    obtain rfl := hx.inj hy
    exact wpAny_bind (wpAny_rule (wpAny_pure (by simpa using h)))
  · rw [if_neg hab]
    refine wpAny_bind (wpAny_richCompare_same_room (op := .Eq) hx.typeIs hy.typeIs F.slot_tuple_eq
      (wpAny_call_entry F.slot_tuple_eq hx.typeIs F.entry_tuple_eq (nest_eq_tree ?_ hx hy ⟨_, rfl, (fun e => nomatch e), wpAny_truthy_bool h⟩) (F.args_tuple_eq_2 _ _)) (by omega))
    first | exact (show A.units + 1 < cLine by omega) | exact (show A.units + 2 < cLine by omega) | exact (show A.units + 3 < cLine by omega)
theorem quiet_tuple {n : Nat} {ks : List Key} {a : Addr} {Q : Bool → Shared → Prop} (hk : IsTupleKey (mixKind prog w) s.heap ks a) (h : Q true s) : wpAny (model prog w) A (eqIsQuiet (n + 1) (.ref a)) Q E s := by
  have hT := hk.typeIs
  obtain ⟨o, items, n, ho, _, hd, hi⟩ := hk
  unfold eqIsQuiet
  refine wpAny_bind (wpAny_specialOf hT F.slot_tuple_eq.lookup ?_)
  show wpAny _ _ (isInstance (.ref a) (.type "tuple") >>= _) _ _ s
  refine wpAny_bind (wpAny_isInstance hT isSubtype_tuple_tuple ?_)
  simp only [Bool.not_true, Bool.false_eq_true, if_false]
  refine wpAny_bind (wpAny_seqItems ho hd ?_)
  refine wpAny_bind ?_
  show wpAny _ _ (forIn items _ _) _ _ s
  rw [← Array.forIn_toList]
  refine wpAny_forIn_list _ (fun rest r s' => r.1 = none ∧ s' = s ∧ ∀ v ∈ rest, carriedByValue v = true) _ ?_ ?_ _ _ ⟨rfl, rfl, hi.byValue⟩
  · rintro v rest r s' ⟨hr, rfl, hall⟩
    rw [eqIsQuiet_byValue _ (hall v List.mem_cons_self)]
    refine wpAny_bind (wpAny_pure ?_)
    simp only [Bool.not_true, Bool.false_eq_true, if_false]
    exact wpAny_pure ⟨rfl, rfl, fun u hu' => hall u (List.mem_cons_of_mem _ hu')⟩
  · rintro ⟨r1, r2⟩ s' ⟨hr, rfl, _⟩
    simp only at hr
    subst hr
    exact wpAny_pure h
theorem wpAny_quiet_nest {k : NKey} {a : Addr} {Q : Bool → Shared → Prop} (hk : IsNest prog w s.heap k a) (h : Q true s) : wpAny (model prog w) A (eqIsQuiet 8 (.ref a)) Q E s := by
  have hT := hk.typeIs
  obtain ⟨o, v, b, n, ho, _, hd, h1, h2⟩ := hk
  unfold eqIsQuiet
  refine wpAny_bind (wpAny_specialOf hT F.slot_tuple_eq.lookup ?_)
  show wpAny _ _ (isInstance (.ref a) (.type "tuple") >>= _) _ _ s
  refine wpAny_bind (wpAny_isInstance hT isSubtype_tuple_tuple ?_)
  simp only [Bool.not_true, Bool.false_eq_true, if_false]
  refine wpAny_bind (wpAny_seqItems ho hd ?_)
  refine wpAny_bind ?_
  show wpAny _ _ (forIn #[v, Value.ref b] _ _) _ _ s
  rw [← Array.forIn_toList]
  refine wpAny_forIn_list _ (fun rest r s' => r.1 = none ∧ s' = s ∧ (rest = [v, .ref b] ∨ rest = [.ref b] ∨ rest = [])) _ ?_ ?_ _ _ ⟨rfl, rfl, .inl rfl⟩
  · rintro u rest r s' ⟨hr, rfl, (e | e | e)⟩
    · injection e with e1 e2
      subst e1 e2
      rw [eqIsQuiet_byValue _ ((mixKind prog w).byValue _ _ h1)]
      refine wpAny_bind (wpAny_pure ?_)
      simp only [Bool.not_true, Bool.false_eq_true, if_false]
      exact wpAny_pure (by simp)
    · injection e with e1 e2
      subst e1 e2
      refine wpAny_bind (quiet_tuple h2 ?_)
      simp only [Bool.not_true, Bool.false_eq_true, if_false]
      exact wpAny_pure (by simp)
    · exact nomatch e
  · rintro ⟨r1, r2⟩ s' ⟨hr, rfl, _⟩
    simp only at hr
    subst hr
    exact wpAny_pure h
end
/-- keys (k, tuple of keys) -/
def nestKind (prog : Program) (w : World) : HeapKind prog w NKey where
  is := IsNest prog w
  hash := nestHash prog w
  draws := fun k => k.2.length + 3
  room := fun A => A.units + 3 < cLine
  inj := fun hx hy => hx.inj hy
  keeps := fun x ho hd hs => x.keeps ho hd hs
  pyHash := fun hu hk h => wpAny_pyHash_nest hu hk h
  eqBool := fun hu hx hy h => wpAny_eqBool_nest hu hx hy h
  quiet := fun hk h => wpAny_quiet_nest hk h
end Sy
/-! dicts with keys (k, tuple of keys) -/
namespace Sy
open PySem PySem.Spec PyProof.Rows L2
/-- the dict at a holds these entries -/
def HN (P : Program) (w : World) (a : Addr) (xs : List (NKey × Addr × Value)) : HO := .ext fun h => ∃ o es ep, h.get? a = some o ∧ o.ExactDict ∧ o.data = .dict es ep ∧ es.toList = xs.map (entryOfKey (nestKind P w)) ∧ (xs.map (·.1)).Nodup
/-- the key k at b -/
def NK (K : PySem.W.Frag) (H : Hp) (k : NKey) (b : Addr) : Prop := ∃ c, SqT K H b [kV k.1, .ref c] ∧ SqT K H c (k.2.map kV)
abbrev KN (K : PySem.W.Frag) (H : Hp) : List (NKey × V) → List (NKey × Addr × Value) → Prop := Paired fun p q => p.1 = q.1 ∧ NK K H p.1 q.2.1 ∧ RelV p.2 q.2.2
/-- ob, the thing at a, is the dict kvs -/
structure NOf (P : Program) (w : World) (K : PySem.W.Frag) (H : Hp) (a : Addr) (ob : HO) (kvs : List (NKey × V)) : Prop where
  ex : ∃ xs, ob = HN P w a xs ∧ kvs.length ≤ sizeLine ∧ (a == sysModules) = false ∧ KN K H kvs xs
theorem NK.mono {K : PySem.W.Frag} {H H' : Hp} {k : NKey} {b : Addr} (h : NK K H k b) (s : Stay H H') : NK K H' k b := by
  obtain ⟨c, h1, h2⟩ := h
  exact ⟨c, s.sqt h1, s.sqt h2⟩
theorem NOf.mono {P : Program} {w : World} {K : PySem.W.Frag} {H H' : Hp} {a : Addr} {ob : HO} {kvs : List (NKey × V)} (h : NOf P w K H a ob kvs) (s : Stay H H') : NOf P w K H' a ob kvs := by
  obtain ⟨xs, h1, h2, h3, h4⟩ := h.ex
  exact ⟨xs, h1, h2, h3, Paired.mapP h4 fun _ _ z => ⟨z.1, z.2.1.mono s, z.2.2⟩⟩
theorem NOf.ext {P : Program} {w : World} {K : PySem.W.Frag} {H : Hp} {a : Addr} {ob : HO} {kvs : List (NKey × V)} (h : NOf P w K H a ob kvs) : ∃ φ, ob = .ext φ := by
  obtain ⟨xs, h1, _⟩ := h.ex
  exact ⟨_, h1⟩
theorem KN.val {K : PySem.W.Frag} {H : Hp} {kvs : List (NKey × V)} {xs : List (NKey × Addr × Value)} (r : KN K H kvs xs) (k : NKey) : RelO (valV kvs k) ((atKey xs k).map (·.2)) := by
  induction r with
  | nil => exact True.intro
  | @cons p q ps qs h t ih =>
    obtain ⟨h1, _, h2⟩ := h
    by_cases e : p.1 = k
    · have e' : q.1 = k := h1.symm.trans e
      have b : atKey (q :: qs) k = some q.2 := by simp [atKey, List.find?_cons, e']
      rw [valV_pos e, b]; exact h2
    · have e' : ¬ q.1 = k := fun z => e (h1.trans z)
      have b : atKey (q :: qs) k = atKey qs k := by simp [atKey, List.find?_cons, e']
      rw [valV_neg e, b]; exact ih
theorem KN.repl {K : PySem.W.Frag} {H : Hp} {kvs : List (NKey × V)} {xs : List (NKey × Addr × Value)} (r : KN K H kvs xs) (k : NKey) {y : V} {u : Value} (ry : RelV y u) :
    KN K H (kvs.map fun kv => if kv.1 = k then (kv.1, y) else kv) (xs.map (putAt k u)) := by
  induction r with
  | nil => exact .nil
  | @cons p q ps qs h t ih =>
    rw [List.map_cons, List.map_cons]
    refine .cons ?_ ih
    obtain ⟨h1, h2, h3⟩ := h
    unfold putAt
    by_cases e : p.1 = k
    · rw [if_pos e, if_pos (h1.symm.trans e)]; exact ⟨h1, h2, ry⟩
    · rw [if_neg e, if_neg (fun z => e (h1.trans z))]; exact ⟨h1, h2, h3⟩
theorem KN.put {K : PySem.W.Frag} {H : Hp} {kvs : List (NKey × V)} {xs : List (NKey × Addr × Value)} (r : KN K H kvs xs) (k : NKey) {b : Addr} {y : V} {u : Value} (hb : NK K H k b) (ry : RelV y u) :
    KN K H (putK kvs k y) (storedH xs k b u) := by
  have e : (kvs.any fun kv => decide (kv.1 = k)) = (atKey xs k).isSome := by
    rw [valV_any, (r.val k).isSome_eq, Option.isSome_map]
  unfold putK storedH
  rw [e]
  by_cases q : (atKey xs k).isSome = true
  · rw [if_pos q, if_pos q]; exact r.repl k ry
  · rw [if_neg q, if_neg q]; exact Paired.snoc r ⟨rfl, hb, ry⟩
section
variable {X : Cx} {pins : List (Addr × Obj)} {σ : L2.St} {H : Hp} {s : Shared} {a b : Addr} {y v : V} {u r : Value} {o : Option V} {A : Around} {E : Value → Shared → Prop} {ob : HO} {kvs : List (NKey × V)} {k : NKey}
theorem nk_of (I : Inv X pins σ H s) (h : NK X.K H k b) : (nestKind X.prog X.w).is s.heap k b := by
  obtain ⟨c, h1, h2⟩ := h
  obtain ⟨its, r1, ⟨o1, g1, c1, n1, d1⟩, _⟩ := I.tuple h1
  obtain ⟨jts, r2, ⟨o2, g2, c2, n2, d2⟩, _⟩ := I.tuple h2
  cases r1 with
  | cons e1 r1 =>
    cases r1 with
    | cons e2 r1 =>
      cases r1
      cases e2
      exact ⟨o1, _, c, n1, g1, c1, d1, kV_is e1, o2, _, n2, g2, c2, d2, by simpa using items_are r2⟩
theorem dn_dict {xs : List (NKey × Addr × Value)} (I : Inv X pins σ H s) (h4 : KN X.K H kvs xs) (e : H a = some (HN X.prog X.w a xs)) : s.heap.DictOfH (nestKind X.prog X.w) a xs := by
  obtain ⟨⟨o, es, ep, g1, g2, g3, g4, g5⟩, _⟩ := (show ObjOk X.prog X.w H s.heap a (HN X.prog X.w a xs) from I.hok a _ e)
  refine ⟨o, es, ep, g1, g2, g3, g4, fun x hx => ?_, g5⟩
  have all : ∀ {l : List (NKey × V)} {m : List (NKey × Addr × Value)}, KN X.K H l m → ∀ x ∈ m, (nestKind X.prog X.w).is s.heap x.1 x.2.1 := by
    intro l m q
    induction q with
    | nil => intro x hx; exact nomatch hx
    | @cons p q ps qs hq t ih =>
      intro x hx
      rcases List.mem_cons.mp hx with e | hx
      · subst e
        exact nk_of I (by rw [← hq.1]; exact hq.2.1)
      · exact ih x hx
  exact all h4 x hx
theorem dn_rd (I : Inv X pins σ H s) (hq : NOf X.prog X.w X.K H a ob kvs) (e : H a = some ob) : kvs.length ≤ sizeLine ∧ (a == sysModules) = false ∧ ∃ xs, ob = HN X.prog X.w a xs ∧ KN X.K H kvs xs ∧ s.heap.DictOfH (nestKind X.prog X.w) a xs := by
  obtain ⟨xs, rfl, h2, h3, h4⟩ := hq.ex
  exact ⟨h2, h3, xs, rfl, h4, dn_dict I h4 e⟩
theorem dn_noDict (I : Inv X pins σ H s) (hq : NOf X.prog X.w X.K H a ob kvs) (e : H a = some ob) : s.TypeIs (.ref a) "dict" ∧ (∀ b, Value.ref a = .ref b → ∃ ob, s.heap.get? b = some ob ∧ ob.dict = none) := by
  obtain ⟨_, _, xs, _, _, dd⟩ := dn_rd I hq e
  refine ⟨dd.typeIs, fun b q => ?_⟩
  cases q
  obtain ⟨ob, _, _, h1, h2, _⟩ := dd
  exact ⟨ob, h1, h2.2.1⟩
theorem dn_getItem {Q : Value → Shared → Prop} (hu : A.units + 4 < cLine) (I : Inv X pins σ H s) (hq : NOf X.prog X.w X.K H a ob kvs) (e : H a = some ob) (hk : NK X.K H k b) (l : valV kvs k = some v) (h : ∀ w' s', Inv X pins σ H s' → RelV v w' → Q w' s') :
    wpAny (model X.prog X.w) A (getItem (.ref a) (.ref b)) Q E s := by
  obtain ⟨z, hd, xs, _, rel, dd⟩ := dn_rd I hq e
  obtain ⟨w', hw, rw'⟩ := RelO.some_of (v := v) (o := (atKey xs k).map (·.2)) (by rw [← l]; exact rel.val k)
  obtain ⟨p, hp, hp2⟩ := Option.map_eq_some_iff.mp hw
  refine wpAny_getItem_heap (show A.units + 1 + 3 < cLine by omega) (nk_of I hk) dd hp ?_
  rw [hp2]
  exact h w' _ (I.tok _) rw'
theorem dn_in {Q : Value → Shared → Prop} (hu : A.units + 4 < cLine) (I : Inv X pins σ H s) (hq : NOf X.prog X.w X.K H a ob kvs) (e : H a = some ob) (hk : NK X.K H k b) (h : ∀ s', Inv X pins σ H s' → Q (.bool (valV kvs k).isSome) s') :
    wpAny (model X.prog X.w) A (compareOp .In (.ref b) (.ref a)) Q E s := by
  obtain ⟨z, hd, xs, _, rel, dd⟩ := dn_rd I hq e
  refine wpAny_in_heap (show A.units + 1 + 3 < cLine by omega) (nk_of I hk) hd dd ?_
  have q := (rel.val k).isSome_eq
  rw [Option.isSome_map] at q
  rw [← q]
  exact h _ (I.tok _)
theorem dn_get2 {Q : Value → Shared → Prop} {d : V} (hu : A.units + 4 < cLine) (I : Inv X pins σ H s) (hq : NOf X.prog X.w X.K H a ob kvs) (e : H a = some ob) (hk : NK X.K H k b) (rd : RelV d r) (h : ∀ w' s', Inv X pins σ H s' → RelV ((valV kvs k).getD d) w' → Q w' s') :
    wpAny (model X.prog X.w) A (call (.builtin "dict.get") [.ref a, .ref b, r]) Q E s := by
  obtain ⟨z, hd, xs, _, rel, dd⟩ := dn_rd I hq e
  refine call_meetsIn PySem.F.slot_dict_get dd.typeIs PySem.F.entry_dict_get (PySem.F.args_dict_get_3 _ _ _) (meetsH_dict_get_default (nestKind X.prog X.w) a b hd r) ⟨(show A.units + 1 + 3 < cLine by omega), k, xs, nk_of I hk, dd, h _ _ (I.tok _) ?_⟩
  exact (rel.val k).getD rd
theorem dn_setItem {B : Hp} {Q : Unit → Shared → Prop} (hu : A.units + 4 < cLine) (I : Inv X pins σ H s) (st : Stay B H) (hq : NOf X.prog X.w X.K B a ob kvs) (e : H a = some ob) (hk : NK X.K B k b) (hl : kvs.length < sizeLine) (rv : RelV v r)
    (h : ∀ ob' s', NOf X.prog X.w X.K B a ob' (putK kvs k v) → Inv X pins σ (upd H a ob') s' → Q () s') :
    wpAny (model X.prog X.w) A (setItem (.ref a) (.ref b) r) Q E s := by
  obtain ⟨xs, eo, z, hd, rel⟩ := hq.ex
  have relH : KN X.K H kvs xs := Paired.mapP rel fun _ _ z => ⟨z.1, z.2.1.mono st, z.2.2⟩
  have dd := dn_dict I relH (by rw [e, eo])
  have hz : xs.length ≤ sizeLine := by rw [← Paired.length rel]; exact z
  have hl2 : (putK kvs k v).length ≤ sizeLine := by have := length_putK kvs k v; omega
  refine wpAny_setItem_heap (hsz := hz) (show A.units + 1 + 3 < cLine by omega) (nk_of I (hk.mono st)) dd fun h' dd' hs => h (HN X.prog X.w a (storedH xs k b r)) _ ⟨_, rfl, hl2, hd, rel.put k hk rv⟩ ?_
  obtain ⟨q, es, ep, h1, h2, h3, h4, _, h5⟩ := dd'
  refine d_write I (by rw [e, eo]; exact True.intro) hs ⟨q, h1⟩ ⟨⟨q, es, ep, h1, h2, h3, h4, h5⟩, ⟨q, h1⟩, fun g1 g2 z1 z2 => ?_⟩
  obtain ⟨o, es, ep, y1, y2⟩ := z1
  exact ⟨o, es, ep, z2 _ y1, y2⟩
end
/-! readings and rules -/
/-- {}, to be such a dict -/
def tNNew (P : Program) (w : World) (K : PySem.W.Frag) : TE := fun _ H Q => ∀ p ob, H p = none → NOf P w K H p ob [] → Q (.ref p) (upd H p ob)
def tNGet (P : Program) (w : World) (K : PySem.W.Frag) (td ty : TE) : TE := fun σ H Q => td σ H fun x H1 => ty σ H1 fun y H2 => ∃ a b ob kvs k v, x = .ref a ∧ y = .ref b ∧ H2 a = some ob ∧ NOf P w K H2 a ob kvs ∧ NK K H2 k b ∧ valV kvs k = some v ∧ Q v H2
def tNIn (P : Program) (w : World) (K : PySem.W.Frag) (ty td : TE) : TE := fun σ H Q => ty σ H fun y H1 => td σ H1 fun x H2 => ∃ a b ob kvs k, x = .ref a ∧ y = .ref b ∧ H2 a = some ob ∧ NOf P w K H2 a ob kvs ∧ NK K H2 k b ∧ Q (.bl (valV kvs k).isSome) H2
def tNGet2 (P : Program) (w : World) (K : PySem.W.Frag) (td ty tx : TE) : TE := fun σ H Q => td σ H fun x H1 => ∃ a ob1 kvs1, x = .ref a ∧ H1 a = some ob1 ∧ NOf P w K H1 a ob1 kvs1 ∧ ty σ H1 fun y H2 => tx σ H2 fun z H3 => ∃ b ob kvs k, y = .ref b ∧ H3 a = some ob ∧ NOf P w K H3 a ob kvs ∧ NK K H3 k b ∧ Q ((valV kvs k).getD z) H3
def sNPut (P : Program) (w : World) (K : PySem.W.Frag) (td ty tv : TE) : TS := fun D σ H => tv σ H fun v H1 => td σ H1 fun x H2 => ty σ H2 fun y H3 => ∃ a b ob kvs k B, x = .ref a ∧ y = .ref b ∧ H3 a = some ob ∧ Stay B H3 ∧ NOf P w K B a ob kvs ∧ NK K B k b ∧ kvs.length < sizeLine ∧
  ∀ ob', NOf P w K B a ob' (putK kvs k v) → D.nx σ (upd H3 a ob')
section
variable {X : Cx} {o i e f value : Expr} {pos pos' tpos apos cpos : Pos} {td ty tv tx : TE}
theorem pe_nnew : PE X (.Dict [] [] pos) (tNNew X.prog X.w X.K) := ⟨fun pins s σ H Q I h => by
  have hb := I.big
  have hob : NOf X.prog X.w X.K H s.heap.objs.size (HN X.prog X.w s.heap.objs.size []) [] := ⟨[], rfl, Nat.zero_le _, beq_eq_false_iff_ne.mpr (Ne.symm (Nat.ne_of_lt hb)), .nil⟩
  refine wpAny_Dict_empty ⟨.ref s.heap.objs.size, _, I.laid (a := s.heap.objs.size) (o := HN X.prog X.w s.heap.objs.size []) (t' := s.toks) (fun _ _ q => Heap.get?_push_of_some _ q) (Nat.le_refl _) ?_, rfl, h _ _ (I.hok.fresh (Nat.le_refl _)) hob⟩
  refine ⟨⟨_, #[], 0, Heap.get?_push_size _ rfl, ⟨rfl, rfl, rfl⟩, rfl, rfl, List.nodup_nil⟩, ⟨_, Heap.get?_push_size _ rfl⟩, fun g1 g2 z1 z2 => ?_⟩
  obtain ⟨o, es, ep, y1, y2⟩ := z1
  exact ⟨o, es, ep, z2 _ y1, y2⟩⟩
theorem pe_nget (hu : X.A.units + 4 < cLine) (ho : PE X o td) (hi : PE X i ty) (hs : NoSl i) : PE X (.Subscript o i pos) (tNGet X.prog X.w X.K td ty) := by
  refine ⟨fun pins s σ H Q I h => ?_⟩
  refine subD_of PySem.F.slot_dict_getitem.lookup hs (thn (ho.run pins s σ H _ I h) fun u s1 ⟨x, H1, I1, rx, q1⟩ => thn (hi.run pins s1 σ H1 _ I1 q1) fun iv s2 ⟨y, H2, I2, ry, a, b, ob, kvs, k, v, ex, ey, ea, hq, hk, hv, q2⟩ => ?_)
  subst ex ey
  obtain rfl : u = Value.ref a := rx
  obtain rfl : iv = Value.ref b := ry
  exact ⟨(dn_noDict I2 hq ea).1, dn_getItem hu I2 hq ea hk hv fun w' s3 I3 rw' => ⟨v, H2, I3, rw', q2⟩⟩
theorem pc_nin (hu : X.A.units + 4 < cLine) (hi : PE X i ty) (ho : PE X o td) : PC X .In i o (tNIn X.prog X.w X.K ty td) := by
  refine ⟨fun pins s σ H Q I h => ?_⟩
  refine thn (hi.run pins s σ H _ I h) fun iv s1 ⟨y, H1, I1, ry, q1⟩ => thn (ho.run pins s1 σ H1 _ I1 q1) fun u s2 ⟨x, H2, I2, rx, a, b, ob, kvs, k, ex, ey, ea, hq, hk, q2⟩ => ?_
  subst ex ey
  obtain rfl : u = Value.ref a := rx
  obtain rfl : iv = Value.ref b := ry
  exact dn_in hu I2 hq ea hk fun s3 I3 => ⟨.bl (valV kvs k).isSome, H2, I3, rfl, q2⟩
theorem ps_nput (hu : X.A.units + 4 < cLine) (ho : PE X o td) (hi : PE X i ty) (hv : PE X value tv) (hs : swapsWith value (some (.Subscript o i pos')) pos.line X.env = pure false) :
    PS X (.Assign [.Subscript o i pos'] value pos) (sNPut X.prog X.w X.K td ty tv) := by
  refine ⟨fun pins s σ H D I h => ?_⟩
  refine wpAny_Assign_Subscript (thn (hv.run pins s σ H _ I h) fun r s1 ⟨v, H1, I1, rv, q1⟩ => thn (ho.run pins s1 σ H1 _ I1 q1) fun u s2 ⟨x, H2, I2, rx, q2⟩ => thn (hi.run pins s2 σ H2 _ I2 q2) fun iv s3 ⟨y, H3, I3, ry, a, b, ob, kvs, k, B, ex, ey, ea, st, hq, hk, hl, q3⟩ => ?_) hs
  subst ex ey
  obtain rfl : u = Value.ref a := rx
  obtain rfl : iv = Value.ref b := ry
  exact dn_setItem hu I3 st hq ea hk hl rv fun ob' s4 n4 I4 => ⟨σ, _, I4, q3 ob' n4⟩
theorem pe_nget2 (hu : X.A.units + 4 < cLine) (ho : PE X o td) (he : PE X e ty) (hf : PE X f tx) (m : M2 X o "get" apos e f cpos) : PE X (.Call (.Attribute o "get" apos) [e, f] [] cpos) (tNGet2 X.prog X.w X.K td ty tx) := by
  refine ⟨fun pins s σ H Q I h => ?_⟩
  refine wpAny_Call_method m.base m.few m.line PySem.F.plainAttrs_dict PySem.F.slot_dict_get PySem.F.type_dict_get (thn (ho.run pins s σ H _ I h) fun u s1 ⟨x, H1, I1, rx, a, ob1, kvs1, ex, ea1, hq1, q1⟩ => ?_)
  subst ex
  obtain rfl : u = Value.ref a := rx
  obtain ⟨t1, t2⟩ := dn_noDict I1 hq1 ea1
  refine ⟨t1, t2, ?_⟩
  rw [m.trees]
  refine Calls.callWith_builtin rfl (Calls.evalArgs_plain (Calls.spliced_cons (thn (he.run pins s1 σ H1 _ I1 q1) fun iv s2 ⟨y, H2, I2, ry, q2⟩ =>
    Calls.spliced_cons (thn (hf.run pins s2 σ H2 _ I2 q2) fun fv s3 ⟨z, H3, I3, rz, b, ob, kvs, k, ey, ea, hq, hk, q3⟩ => Calls.spliced_nil ?_))))
  subst ey
  obtain rfl : iv = Value.ref b := ry
  exact dn_get2 hu I3 hq ea hk rz fun w' s4 I4 rw' => ⟨_, H3, I4, rw', q3⟩
end
/-- a statement that is not reached -/
theorem ps_never {X : Cx} {st : Stmt} : PS X st (fun _ _ _ => False) := ⟨fun _ _ _ _ _ _ h => h.elim⟩
end Sy
namespace Sy
open PySem PySem.Spec PyProof.Rows L2
/-- a def of the top, by its place -/
abbrev DF (K : PySem.W.Frag) (mg : Str → Option Value) (x : Str) (i : Nat) : Prop := FD K x (top i) ∧ mg x = some (.ref (He.ga K x))
section
variable {P : Program} {w : World} {K : PySem.W.Frag} {mg : Str → Option Value} {base : Heap}
def spArity (K : PySem.W.Frag) : Sp := fun vs H Q _ => ∃ a rows x, vs = [.ref a, .str x] ∧ BedAt K H a rows ∧ Q (.int (ar rows x : Nat)) H
theorem sc_arity : FnScope ["bed", "entry"] ["bed", "entry"] (defScope (top 15)) := ⟨rfl, rfl, rfl, by decide +kernel, rfl, by decide +kernel, by decide +kernel⟩
theorem k_arity (T : Txt K mg) (F : DF K mg "arity" 15) : Cal P w K mg base 1 "arity" ["bed", "entry"] (spArity K) := by
  refine cal_of F.1 F.2 sc_arity (fun _ _ _ _ _ _ us e => match us, e with | [_, _], _ => rfl) (fun vs H Q E s => by obtain ⟨a, rows, x, rfl, _⟩ := s; rfl) ?_
  intro cdv A outer s H vs Q E hr h
  obtain ⟨a, rows, x, rfl, hb, hq⟩ := h
  have hu := hu_of hr
  refine ⟨_, pss_one (ps_ret (pe_dget2 hu (pe_fld (pv 0) rfl) (pv 1) pe_int ⟨rfl, rfl, rfl, rfl⟩)), ?_⟩
  obtain ⟨dx, dA, tR, tK, dR, ps, h1, hd, h3, h4, h5, h6⟩ := hb.ex
  refine ⟨_, rfl, a, _, dx, _, _, rfl, h1, T.bed.cl, T.bed.nA, rfl, dA, rfl, .inl ⟨_, .inl hd⟩, _, rfl, _, DGet.k (k := Sum.inr x) hd, ?_⟩
  rw [valV_ar]
  unfold ar at hq
  cases e : rows.lookup x with
  | none => rw [e] at hq; exact hq
  | some n => rw [e] at hq; exact hq
end
end Sy
namespace Sy
open PySem PySem.Spec PyProof.Rows L2
section
variable {P : Program} {w : World} {K : PySem.W.Frag} {mg : Str → Option Value} {base : Heap}
/-! fault_among -/
def fa (rows : List Sy.Row) (lv : List Str) : Nat → Nat → List Str → Int
  | m, i, [] => if 0 < m then (i : Nat) else -1
  | m, i, x :: l => if m = 0 then (i : Nat) else if isK rows x = false ∧ x ∉ lv then (i : Nat) else fa rows lv (m - 1 + ar rows x) (i + 1) l
def spFault (K : PySem.W.Frag) : Sp := fun vs H Q _ => ∃ a r v rows l lv, vs = [.ref a, .ref r, .ref v] ∧ BedAt K H a rows ∧ SqT K H r (l.map V.str) ∧ SqT K H v (lv.map V.str) ∧ ∀ H', Same H H' → Q (.int (fa rows lv 1 0 l)) H'
abbrev N_fault : List Str := ["bed", "row", "leaves", "missing", "index", "entry"]
theorem sc_fault : FnScope N_fault ["bed", "row", "leaves"] (defScope (top 16)) := ⟨rfl, rfl, rfl, by decide +kernel, rfl, by decide +kernel, by decide +kernel⟩
theorem map_at {α β : Type} {f : α → β} {l : List α} {i : Nat} {y : β} (h : (l.map f)[i]? = some y) : ∃ x, l[i]? = some x ∧ y = f x := by
  rw [List.getElem?_map] at h
  cases e : l[i]? with
  | none => rw [e] at h; cases h
  | some x => rw [e] at h; exact ⟨x, rfl, (Option.some.inj h).symm⟩
theorem inV_strs (y : Str) (lv : List Str) : inV (.str y) (lv.map V.str) = decide (y ∈ lv) := by
  unfold inV
  induction lv with
  | nil => rfl
  | cons x l ih =>
    rw [List.map_cons, List.any_cons, ih]
    have : eqV (V.str x) (V.str y) = decide (x = y) := by
      by_cases h : x = y
      · subst h
        simp [eqV]
      · simp [eqV, h]
    rw [this]
    simp [List.mem_cons, eq_comm]
theorem drop_of {α : Type} {l : List α} {i : Nat} {x : α} (h : l[i]? = some x) : l.drop i = x :: l.drop (i + 1) := by
  obtain ⟨hi, e⟩ := List.getElem?_eq_some_iff.mp h
  rw [List.drop_eq_getElem_cons hi, e]
theorem k_fault (T : Txt K mg) (F : DF K mg "fault_among" 16) (c_arity : Cal P w K mg base 1 "arity" ["bed", "entry"] (spArity K)) : Cal P w K mg base 2 "fault_among" ["bed", "row", "leaves"] (spFault K) := by
  refine cal_of F.1 F.2 sc_fault (fun _ _ _ _ _ _ us e => match us, e with | [_, _, _], _ => rfl) (fun vs H Q E s => by obtain ⟨_, _, _, _, _, _, rfl, _⟩ := s; rfl) ?_
  intro cdv A outer s H vs Q E hr h
  obtain ⟨a, r, v, rows, l, lv, rfl, hb, hR, hL, hq⟩ := h
  have hu := hu_of hr
  have sc := sc_fault
  refine ⟨_, (pss_cons (ps_set (i := 3) sc.nd rfl (Or.inl rfl) pe_int)
      (pss_cons (ps_for (passes_of rfl) rfl (pi_enumT (by rfl) T.enumerate (pa_cons (pv 1) pa_nil)) (pg_tup rfl (pgs_cons (pg_name (i := 4) sc.nd rfl (Or.inl rfl)) (pgs_cons (pg_name (i := 5) sc.nd rfl (Or.inl rfl)) pgs_nil)))
        (pss_cons (ps_if (pt_cmpR op_eq (pv 3) pe_int (nomark _))
          (pss_one (ps_ret (pv 4)))
          pss_nil)
        (pss_cons (ps_if (PW.pt (pw_and (pt_cmp (pc_dnotin hu (pv 5) (pe_fld (pv 0) rfl))) (pw_and1 (pt_cmpR op_notIn_seq (pv 5) (pv 2) rfl))))
          (pss_one (ps_ret (pv 4)))
          pss_nil)
        (pss_one (ps_set (i := 3) sc.nd rfl (Or.inl rfl) (pe_op op_add (pe_op op_sub (pv 3) pe_int) (pe_cal c_arity hr (pa_cons (pv 0) (pa_cons (pv 5) pa_nil)))))))))
      (pss_cons (ps_if (pt_cmpR op_gt (pv 3) pe_int (nomark _))
        (pss_one (ps_ret (pe_callB call_len_seq (by rfl) T.len (by decide +kernel) (pa_cons (pv 1) pa_nil))))
        pss_nil)
      (pss_one (ps_ret (pe_un un_neg pe_int)))))), ?_⟩
  refine ⟨_, rfl, r, _, rfl, hR, for_enumT (K := K) (fun i σ H' => ∃ (m : Nat) (z : Int) (s4 s5 : Option V), σ = [some (.ref a), some (.ref r), some (.ref v), some (.int z), s4, s5] ∧ z = (m : Nat) ∧ Same H H' ∧ fa rows lv m i (l.drop i) = fa rows lv 1 0 l) ⟨1, 1, none, none, rfl, rfl, Same.refl H, by rw [List.drop_zero]⟩ (fun i σ H' _ ⟨_, _, _, _, _, _, s, _⟩ => Same.sqt s hR) ?_ ?_⟩
  · intro i x σ H' Tt hx ⟨m, _, s4, s5, hσ, rfl, sm, e⟩ hT
    obtain ⟨y, hy, rfl⟩ := map_at hx
    subst hσ
    rw [drop_of hy] at e
    refine ⟨_, rfl, rfl, _, rfl, if_dec (fun c => ?_) (fun c => ?_)⟩
    · rw [fa, if_pos (by have := V.int.inj c; omega)] at e
      refine ⟨_, rfl, ?_⟩
      rw [e]
      exact hq _ (sm.trans (up_same hT))
    · have c : m ≠ 0 := fun z => c (by rw [z]; rfl)
      rw [fa, if_neg c] at e
      have sm2 : Same H (upd H' Tt (.tup [.int (i : Nat), .str y])) := sm.trans (up_same hT)
      have hb2 := hb.mono (Stay.of sm2)
      obtain ⟨dx, dA, tR, tK, dR, ps, h1, hd, h3, h4, h5, h6⟩ := hb2.ex
      refine ⟨_, rfl, _, rfl, a, _, dx, _, _, rfl, h1, T.bed.cl, T.bed.nA, rfl, dA, _, rfl, DGet.k (k := Sum.inr y) hd, _, rfl, ?_⟩
      have stop : isK rows y = false → y ∉ lv → Q (.int (i : Nat)) (upd H' Tt (.tup [.int (i : Nat), .str y])) := fun z1 z2 => by
        rw [if_pos ⟨z1, z2⟩] at e
        have q := hq _ sm2
        rw [← e] at q
        exact q
      have em : ((m : Int) - 1 + (ar rows y : Nat)) = ((m - 1 + ar rows y : Nat) : Int) := by omega
      have go : ¬ (isK rows y = false ∧ y ∉ lv) → fa rows lv (m - 1 + ar rows y) (i + 1) (l.drop (i + 1)) = fa rows lv 1 0 l := fun z => by
        rw [if_neg z] at e
        exact e
      refine if_bool (fun c2 => ?_) (fun c2 => ?_)
      · have c2 : isK rows y = false := by simpa [valV_ar, isK] using c2
        refine ⟨_, rfl, _, rfl, v, _, rfl, .inr (Same.sqt sm2 hL), rfl, by simp [flatV], _, rfl, ?_⟩
        refine if_bool (fun c3 => ?_) (fun c3 => ?_)
        · exact ⟨_, rfl, stop c2 (by simpa [inV_strs] using c3)⟩
        · exact ⟨_, rfl, _, _, rfl, rfl, _, rfl, _, rfl, a, rows, y, rfl, hb2, _, _, rfl, rfl, _, _, _, _, rfl, em, sm2, go fun z => z.2 (by simpa [inV_strs] using c3)⟩
      · have c2 : isK rows y = true := by simpa [valV_ar, isK] using c2
        exact ⟨_, rfl, _, _, rfl, rfl, _, rfl, _, rfl, a, rows, y, rfl, hb2, _, _, rfl, rfl, _, _, _, _, rfl, em, sm2, go fun z => by rw [c2] at z; cases z.1⟩
  · intro σ H' ⟨m, _, s4, s5, hσ, rfl, sm, e⟩
    subst hσ
    rw [List.drop_of_length_le (by simp), fa] at e
    refine ⟨_, rfl, _, _, rfl, rfl, _, rfl, if_dec (fun c => ?_) (fun c => ?_)⟩
    · rw [if_pos (by omega)] at e
      refine ⟨_, rfl, r, _, rfl, .inr (Same.sqt sm hR), ?_⟩
      have q := hq _ sm
      rw [← e] at q
      exact q
    · rw [if_neg (by omega)] at e
      refine ⟨_, rfl, ?_⟩
      have q := hq _ sm
      rw [← e] at q
      exact q
end
end Sy
namespace Sy
open PySem PySem.Spec PyProof.Rows L2
/-! more words -/
theorem ixN_nat {n j : Nat} (h : j < n) : ixN n (j : Int) = some j := by
  unfold ixN
  rw [if_pos (by omega), if_pos (by omega)]
  rfl
/-- a row of places -/
abbrev vN (l : List Nat) : List V := l.map fun n : Nat => V.int (n : Int)
def DN (l : List Nat) : PyData := .tuple (l.map fun n : Nat => PyData.int (n : Int))
def DS (l : List Str) : PyData := .tuple (l.map PyData.str)
section
variable {K : PySem.W.Frag} {H B B' : Hp} {v : V} {vs : List V} {ds : List PyData}
theorem ImA.nats : ∀ l : List Nat, ImA K H (vN l) (l.map fun n : Nat => PyData.int (n : Int))
  | [] => .nil
  | x :: l => .cons (.int _) (ImA.nats l)
theorem Im.nats {a : Addr} {l : List Nat} (h : SqT K H a (vN l)) : Im K H (.ref a) (DN l) := .tup h (ImA.nats l)
theorem Im.tupI (h : Im K H v (.tuple ds)) : ∃ a xs, v = .ref a ∧ SqT K H a xs ∧ ImA K H xs ds := by
  cases h with
  | tup h1 h2 => exact ⟨_, _, rfl, h1, h2⟩
theorem Im.intI {i : Int} (h : Im K H v (.int i)) : v = .int i := by cases h; rfl
theorem Im.strI {x : Str} (h : Im K H v (.str x)) : v = .str x := by cases h; rfl
theorem ImA.natsI : ∀ {l : List Nat} {vs : List V}, ImA K H vs (l.map fun n : Nat => PyData.int (n : Int)) → vs = vN l
  | [], _, .nil => rfl
  | _ :: _, _, .cons a b => by rw [a.intI, ImA.natsI b]; rfl
theorem ImA.strsI : ∀ {l : List Str} {vs : List V}, ImA K H vs (l.map PyData.str) → vs = l.map V.str
  | [], _, .nil => rfl
  | _ :: _, _, .cons a b => by rw [a.strI, ImA.strsI b]; rfl
theorem Im.natsI {l : List Nat} (h : Im K H v (DN l)) : ∃ a, v = .ref a ∧ SqT K H a (vN l) := by
  obtain ⟨a, xs, rfl, h1, h2⟩ := h.tupI
  rw [h2.natsI] at h1
  exact ⟨a, rfl, h1⟩
theorem Im.strsI {l : List Str} (h : Im K H v (DS l)) : ∃ a, v = .ref a ∧ SqT K H a (l.map V.str) := by
  obtain ⟨a, xs, rfl, h1, h2⟩ := h.tupI
  rw [h2.strsI] at h1
  exact ⟨a, rfl, h1⟩
theorem ImA.set : ∀ {vs : List V} {ds : List PyData} {i : Nat} {d : PyData}, ImA K H vs ds → Im K H v d → ImA K H (vs.set i v) (ds.set i d)
  | _, _, _, _, .nil, _ => .nil
  | _, _, 0, _, .cons _ b, h => .cons h b
  | _, _, i + 1, _, .cons a b, h => .cons a (ImA.set b h)
theorem ImA.snoc {d : PyData} (h : ImA K H vs ds) (g : Im K H v d) : ImA K H (vs ++ [v]) (ds ++ [d]) := h.app (.cons g .nil)
end
/-! comprehensions over a tuple -/
abbrev LcW (J : It) (g : TG) (tt : TT) (te : TE) (vs : List Nat) (σ : L2.St) (H1 : Hp) (D : Addr) (Qd : Hp → Prop) : Prop := ∃ W : Nat → Nat → Hp → Prop, (∃ m, W 0 m (upd H1 D (.lst []))) ∧ ∀ i m H, W i m H → (J.stop i H ∧ Qd H) ∨
  (J.go i H ∧ ∃ Nx : Hp → Prop, (∀ H', Nx H' → ∃ m', m' < m ∧ W (i + 1) m' H') ∧ ∀ x H', J.yld i H x H' → g x (wipe σ vs) H' fun σ2 H2 => wipe σ2 vs = wipe σ vs ∧ tt σ2 H2 fun b H3 => if b = true then te σ2 H3 fun y H4 => ∃ acc, H4 D = some (.lst acc) ∧ acc.length < sizeLine ∧ Nx (upd H4 D (.lst (acc ++ [y]))) else Nx H3)
/-- [e for x in t] -/
theorem wipe_one (σ : L2.St) (i : Nat) (v : Option V) : wipe (σ.set i v) [i] = wipe σ [i] := by
  show (σ.set i v).set i none = σ.set i none
  rw [List.set_set]
theorem lc_map {K : PySem.W.Frag} {a : Addr} {xs : List V} {si : Nat} {te : TE} {σ : L2.St} {H B : Hp} {L : List (Addr × HO)} {D : Addr} {Qd : Hp → Prop} (h : Hs B L H) (hD : H D = none) (hx : SqT K B a xs) (hsz : xs.length ≤ 1000000)
    (Pv : Nat → Hp → List V → Prop) (h0 : Pv 0 B [])
    (hs : ∀ i x B' acc H', xs[i]? = some x → Same B B' → Pv i B' acc → Hs B' ((D, .lst acc) :: L) H' →
      ∀ R : VK, (∀ y H4 B4, Same B' B4 → Hs B4 ((D, .lst acc) :: L) H4 → Pv (i + 1) B4 (acc ++ [y]) → R y H4) → te ((wipe σ [si]).set si (some x)) H' R)
    (hd : ∀ B' acc H', Same B B' → Pv xs.length B' acc → Hs B' ((D, .lst acc) :: L) H' → Qd H') : LcW (Itt K a) (gName si) tYes te [si] σ H D Qd := by
  refine lc_tup (K := K) (a := a) (xs := xs) (fun i H' => i ≤ xs.length ∧ ∃ B' acc, acc.length = i ∧ Same B B' ∧ Pv i B' acc ∧ Hs B' ((D, .lst acc) :: L) H') ⟨Nat.zero_le _, B, [], rfl, Same.refl B, h0, h.new hD⟩ ?_ ?_ ?_
  · rintro i H' _ ⟨_, B', acc, _, s, _, hh⟩
    exact Same.sqt (s.trans hh.sub) hx
  · rintro i x H' hxi ⟨hi, B', acc, ha, s, p, hh⟩
    have lt : i < xs.length := (List.getElem?_eq_some_iff.mp hxi).1
    refine ⟨wipe_one _ _ _ |>.trans (by show (σ.set si none).set si none = σ.set si none; rw [List.set_set]), ?_⟩
    simp only [tYes, if_true]
    refine hs i x B' acc H' hxi s p hh _ (fun y H4 B4 s4 h4 p4 => ?_)
    exact ⟨acc, h4.r0, by rw [sizeLine_eq]; omega, by omega, B4, acc ++ [y], by rw [List.length_append, ha]; rfl, s.trans s4, p4, h4.w0⟩
  · rintro H' ⟨_, B', acc, _, s, p, hh⟩
    exact hd B' acc H' s p hh
end Sy
/-! plants as rows of numbers of branches: plain mathematics -/
namespace Sy
/-- how many entries n plants take that stand one behind the other -/
def sp : Nat → List Nat → Nat
  | 0, _ => 0
  | _ + 1, [] => 0
  | n + 1, a :: w => 1 + sp (n + a) w
/-- w is n plants, one behind the other -/
def Fo : Nat → List Nat → Prop
  | 0, [] => True
  | 0, _ :: _ => False
  | _ + 1, [] => False
  | n + 1, a :: w => Fo (n + a) w
theorem sp_zero (w : List Nat) : sp 0 w = 0 := by cases w <;> rfl
theorem sp_nil (n : Nat) : sp n [] = 0 := by cases n <;> rfl
theorem sp_cons (n a : Nat) (w : List Nat) : sp (n + 1) (a :: w) = 1 + sp (n + a) w := rfl
theorem sp_add : ∀ (w : List Nat) (n m : Nat), sp (n + m) w = sp n w + sp m (w.drop (sp n w))
  | w, 0, m => by rw [sp_zero, Nat.zero_add, Nat.zero_add, List.drop_zero]
  | [], n + 1, m => by simp [sp_nil]
  | a :: w, n + 1, m => by
    have e : n + 1 + m = (n + m) + 1 := by omega
    rw [e, sp_cons, sp_cons, show n + m + a = (n + a) + m by omega, sp_add w (n + a) m, Nat.add_assoc, show 1 + sp (n + a) w = sp (n + a) w + 1 by omega, List.drop_succ_cons]
theorem Fo.zero {w : List Nat} (h : Fo 0 w) : w = [] := by
  cases w with
  | nil => rfl
  | cons a w => exact h.elim
theorem Fo.le : ∀ {w : List Nat} {k m : Nat}, Fo (k + m) w → sp k w ≤ w.length ∧ Fo m (w.drop (sp k w)) ∧ Fo k (w.take (sp k w))
  | w, 0, m, h => by
    rw [Nat.zero_add] at h
    rw [sp_zero]
    exact ⟨Nat.zero_le _, h, trivial⟩
  | [], k + 1, m, h => by
    rw [show k + 1 + m = (k + m) + 1 by omega] at h
    exact h.elim
  | a :: w, k + 1, m, h => by
    rw [show k + 1 + m = (k + m) + 1 by omega] at h
    have h : Fo (k + m + a) w := h
    rw [show k + m + a = (k + a) + m by omega] at h
    have q := Fo.le h
    rw [sp_cons, show 1 + sp (k + a) w = sp (k + a) w + 1 by omega, List.drop_succ_cons, List.take_succ_cons]
    exact ⟨by rw [List.length_cons]; omega, q.2.1, q.2.2⟩
theorem Fo.sp : ∀ {w : List Nat} {m : Nat}, Fo m w → sp m w = w.length
  | [], m, _ => sp_nil m
  | a :: w, 0, h => h.elim
  | a :: w, m + 1, h => by
    rw [sp_cons, Fo.sp (w := w) (m := m + a) h, List.length_cons]
    omega
theorem Fo.app : ∀ {u v : List Nat} {n m : Nat}, Fo n u → Fo m v → Fo (n + m) (u ++ v)
  | [], v, 0, m, _, h => by rw [Nat.zero_add]; exact h
  | a :: u, v, n + 1, m, g, h => by
    have q : Fo (n + a + m) (u ++ v) := Fo.app (u := u) (n := n + a) g h
    rw [show n + 1 + m = (n + m) + 1 by omega]
    show Fo (n + m + a) (u ++ v)
    rw [show n + m + a = n + a + m by omega]
    exact q
theorem Fo.sp_app : ∀ {u : List Nat} {n : Nat} (v : List Nat), Fo n u → Sy.sp n (u ++ v) = u.length
  | [], 0, v, _ => sp_zero _
  | [], n + 1, v, h => h.elim
  | a :: u, 0, v, h => h.elim
  | a :: u, n + 1, v, h => by
    rw [List.cons_append, sp_cons, Fo.sp_app (u := u) (n := n + a) v h, List.length_cons]
    omega
theorem Fo.cut : ∀ {u v : List Nat} {n k : Nat}, Fo k u → Fo n (u ++ v) → k ≤ n ∧ Fo (n - k) v
  | [], v, n, 0, _, h => ⟨Nat.zero_le _, by simpa using h⟩
  | a :: u, v, 0, k, _, h => h.elim
  | a :: u, v, n + 1, k + 1, g, h => by
    have q := Fo.cut (u := u) (v := v) (n := n + a) (k := k + a) g h
    refine ⟨by omega, ?_⟩
    have := q.2
    rw [show n + a - (k + a) = n + 1 - (k + 1) by omega] at this
    exact this
/-- one plant of a row is put in another's place -/
theorem Fo.put : ∀ {u x y v : List Nat} {n : Nat}, Fo 1 x → Fo 1 y → Fo n (u ++ (x ++ v)) → Fo n (u ++ (y ++ v))
  | [], x, y, v, n, hx, hy, h => by
    have q := Fo.cut hx h
    have := hy.app q.2
    rw [show 1 + (n - 1) = n by omega] at this
    exact this
  | a :: u, x, y, v, 0, hx, hy, h => h.elim
  | a :: u, x, y, v, n + 1, hx, hy, h => Fo.put (u := u) (n := n + a) hx hy h
theorem Fo.pos {w : List Nat} {n : Nat} (h : Fo (n + 1) w) : 0 < w.length := by
  cases w with
  | nil => exact h.elim
  | cons a w => rw [List.length_cons]; omega
theorem Fo.at_ : ∀ {w : List Nat} {n : Nat} {i : Nat}, Fo n w → i < w.length → ∃ m, Fo (m + 1) (w.drop i)
  | a :: w, 0, _, h, _ => h.elim
  | a :: w, n + 1, 0, h, _ => ⟨n, h⟩
  | a :: w, n + 1, i + 1, h, hi => by
    rw [List.drop_succ_cons]
    exact Fo.at_ (w := w) (n := n + a) h (by rw [List.length_cons] at hi; omega)
/-- what begins within n plants ends within them -/
theorem sp_within : ∀ {w : List Nat} {n i : Nat}, i < sp n w → ∃ m, sp n w = i + sp (m + 1) (w.drop i)
  | w, 0, i, h => by rw [sp_zero] at h; omega
  | w, n + 1, 0, h => ⟨n, by simp⟩
  | [], n + 1, i + 1, h => by rw [sp_nil] at h; omega
  | a :: w, n + 1, i + 1, h => by
    rw [sp_cons] at h ⊢
    obtain ⟨m, e⟩ := sp_within (w := w) (n := n + a) (i := i) (by omega)
    exact ⟨m, by rw [List.drop_succ_cons, e]; omega⟩
/-- the number of branches at i -/
def aw (w : List Nat) (i : Nat) : Nat := w[i]?.getD 0
/-- behind the plant that begins at i -/
def en (w : List Nat) (i : Nat) : Nat := i + sp 1 (w.drop i)
/-- where the branch k of i begins -/
def kd (w : List Nat) (i k : Nat) : Nat := i + 1 + sp k (w.drop (i + 1))
theorem aw_of {w : List Nat} {i a : Nat} (h : w[i]? = some a) : aw w i = a := by rw [aw, h]; rfl
theorem drop_at {w : List Nat} {i : Nat} (h : i < w.length) : w.drop i = aw w i :: w.drop (i + 1) := by
  rw [List.drop_eq_getElem_cons h, aw, List.getElem?_eq_getElem h]
  rfl
theorem kd_zero (w : List Nat) (i : Nat) : kd w i 0 = i + 1 := by rw [kd, sp_zero]
section
variable {w : List Nat} {i j k : Nat}
theorem kd_succ : kd w i (k + 1) = en w (kd w i k) := by
  unfold kd en
  rw [sp_add, List.drop_drop]
  omega
theorem en_kd (hi : i < w.length) : kd w i (aw w i) = en w i := by
  unfold kd en
  rw [drop_at hi, sp_cons, Nat.zero_add]
  omega
theorem en_gt (hi : i < w.length) : i < en w i := by
  unfold en
  rw [drop_at hi, sp_cons]
  omega
theorem Fo.below (h : Fo 1 w) (hi : i < w.length) : ∃ m, Fo (aw w i + m) (w.drop (i + 1)) := by
  obtain ⟨m, q⟩ := h.at_ hi
  rw [drop_at hi] at q
  exact ⟨m, by rw [Nat.add_comm]; exact q⟩
theorem Fo.kd_lt (h : Fo 1 w) (hi : i < w.length) (hk : k < aw w i) : kd w i k < w.length := by
  obtain ⟨m, q⟩ := h.below hi
  rw [show aw w i + m = k + (aw w i + m - k - 1 + 1) by omega] at q
  have q := Fo.le q
  have := q.2.1.pos
  rw [List.length_drop, List.length_drop] at this
  unfold kd
  omega
theorem Fo.en_le (h : Fo 1 w) (hi : i < w.length) : en w i ≤ w.length := by
  obtain ⟨m, q⟩ := h.at_ hi
  rw [Nat.add_comm] at q
  have q := q.le
  have := q.1
  rw [List.length_drop] at this
  unfold en
  omega
theorem Fo.en0 (h : Fo 1 w) : en w 0 = w.length := by
  unfold en
  rw [List.drop_zero, h.sp]
  omega
/-- the branch that begins at i is a plant -/
theorem Fo.branch (h : Fo 1 w) (hi : i < w.length) : Fo 1 ((w.drop i).take (en w i - i)) := by
  obtain ⟨m, q⟩ := h.at_ hi
  rw [Nat.add_comm] at q
  have q := q.le.2.2
  unfold en
  rw [show i + Sy.sp 1 (w.drop i) - i = Sy.sp 1 (w.drop i) by omega]
  exact q
theorem kd_gt : i < kd w i k := by unfold kd; omega
theorem kd_lt_succ (h : Fo 1 w) (hi : i < w.length) (hk : k < aw w i) : kd w i k < kd w i (k + 1) := by
  rw [kd_succ]
  exact en_gt (h.kd_lt hi hk)
theorem kd_mono (h : Fo 1 w) (hi : i < w.length) : ∀ (d : Nat), k + d ≤ aw w i → kd w i k + d ≤ kd w i (k + d)
  | 0, _ => Nat.le_refl _
  | d + 1, hd => by
    have a := kd_mono h hi d (by omega)
    have b := kd_lt_succ h hi (k := k + d) (by omega)
    rw [show k + (d + 1) = k + d + 1 by omega]
    omega
/-- nested -/
theorem en_nest (a : i ≤ j) (b : j < en w i) : en w j ≤ en w i := by
  unfold en at b ⊢
  obtain ⟨m, e⟩ := sp_within (w := w.drop i) (n := 1) (i := j - i) (by omega)
  rw [List.drop_drop, show i + (j - i) = j by omega, Nat.add_comm m 1, sp_add] at e
  omega
theorem kd_le_en (h : Fo 1 w) (hi : i < w.length) (hk : k ≤ aw w i) : kd w i k ≤ en w i := by
  have := kd_mono h hi (k := k) (aw w i - k) (by omega)
  rw [show k + (aw w i - k) = aw w i by omega, en_kd hi] at this
  omega
/-- a place behind i and within its plant stands in one of its branches -/
theorem in_branch (hi : i < w.length) (a : i < j) : ∀ (n : Nat), j < kd w i n → ∃ k, k < n ∧ kd w i k ≤ j ∧ j < kd w i (k + 1)
  | 0, b => by rw [kd_zero] at b; omega
  | n + 1, b => by
    by_cases c : j < kd w i n
    · obtain ⟨k, h1, h2, h3⟩ := in_branch hi a n c
      exact ⟨k, by omega, h2, h3⟩
    · exact ⟨n, by omega, by omega, b⟩
/-- a knot has one place above it .. -/
theorem kd_lt_of {i2 k2 : Nat} (h : Fo 1 w) (hi : i < w.length) (hi2 : i2 < w.length) (hk : k < aw w i) (hk2 : k2 < aw w i2) (lt : i < i2) : kd w i k ≠ kd w i2 k2 := by
  intro e
  have e1 : kd w i k < en w i := by
    have := kd_le_en h hi (k := k + 1) (by omega)
    have := kd_lt_succ h hi hk
    omega
  have g2 : i2 < kd w i2 k2 := kd_gt
  have hin : i2 < kd w i (aw w i) := by rw [en_kd hi]; omega
  obtain ⟨t, h1, h2, h3⟩ := in_branch hi lt _ hin
  have n1 : en w i2 ≤ en w (kd w i t) := en_nest h2 (by rw [← kd_succ]; exact h3)
  rw [← kd_succ] at n1
  have n2 : kd w i2 k2 < en w i2 := by
    have := kd_le_en h hi2 (k := k2 + 1) (by omega)
    have := kd_lt_succ h hi2 hk2
    omega
  by_cases c : k ≤ t
  · have := kd_mono h hi (k := k) (t - k) (by omega)
    rw [show k + (t - k) = t by omega] at this
    omega
  · have := kd_mono h hi (k := t + 1) (k - (t + 1)) (by omega)
    rw [show t + 1 + (k - (t + 1)) = k by omega] at this
    omega
theorem kd_inj {i2 k2 : Nat} (h : Fo 1 w) (hi : i < w.length) (hi2 : i2 < w.length) (hk : k < aw w i) (hk2 : k2 < aw w i2) (e : kd w i k = kd w i2 k2) : i = i2 ∧ k = k2 := by
  rcases Nat.lt_trichotomy i i2 with c | c | c
  · exact absurd e (kd_lt_of h hi hi2 hk hk2 c)
  · subst c
    refine ⟨rfl, ?_⟩
    rcases Nat.lt_trichotomy k k2 with d | d | d
    · have := kd_mono h hi (k := k) (k2 - k) (by omega)
      rw [show k + (k2 - k) = k2 by omega] at this
      omega
    · exact d
    · have := kd_mono h hi (k := k2) (k - k2) (by omega)
      rw [show k2 + (k - k2) = k by omega] at this
      omega
  · exact absurd e.symm (kd_lt_of h hi2 hi hk2 hk c)
/-- .. and every knot but the root has one -/
theorem has_above (h : Fo 1 w) : ∀ (j : Nat), 0 < j → j < w.length → ∃ i k, i < j ∧ k < aw w i ∧ kd w i k = j := by
  intro j
  induction j using Nat.strongRecOn with
  | _ j ih =>
    intro h0 hj
    -- from a place i < j whose plant ends at j
    have climb : ∀ i, i < j → en w i = j → ∃ i k, i < j ∧ k < aw w i ∧ kd w i k = j := by
      intro i
      induction i using Nat.strongRecOn with
      | _ i ih2 =>
        intro hi e
        by_cases z : i = 0
        · subst z
          rw [h.en0] at e
          omega
        · obtain ⟨p, k, hp, hk, ek⟩ := ih i hi (by omega) (by omega)
          have es : kd w p (k + 1) = j := by rw [kd_succ, ek]; exact e
          by_cases c : k + 1 < aw w p
          · exact ⟨p, k + 1, by omega, c, es⟩
          · have : k + 1 = aw w p := by omega
            rw [this, en_kd (by omega)] at es
            exact ih2 p hp (by omega) es
    by_cases c : 0 < aw w (j - 1)
    · exact ⟨j - 1, 0, by omega, c, by rw [kd_zero]; omega⟩
    · refine climb (j - 1) (by omega) ?_
      rw [← en_kd (by omega), show aw w (j - 1) = 0 by omega, kd_zero]
      omega
end
/-! ### the paths -/
/-- one knot's branches get their paths -/
def stp (w : List Nat) (i : Nat) (fd : List (List Nat)) (n : Nat) : List (List Nat) := (List.range n).foldl (fun fd k => fd.set (kd w i k) (fd.getD i [] ++ [k])) fd
/-- the paths after the first n knots -/
def pth (w : List Nat) (n : Nat) : List (List Nat) := (List.range n).foldl (fun fd i => stp w i fd (aw w i)) (List.replicate w.length [])
def pths (w : List Nat) : List (List Nat) := pth w w.length
theorem stp_succ (w : List Nat) (i n : Nat) (fd : List (List Nat)) : stp w i fd (n + 1) = (stp w i fd n).set (kd w i n) ((stp w i fd n).getD i [] ++ [n]) := by
  unfold stp
  rw [List.range_succ, List.foldl_append]
  rfl
theorem pth_succ (w : List Nat) (n : Nat) : pth w (n + 1) = stp w n (pth w n) (aw w n) := by
  unfold pth
  rw [List.range_succ, List.foldl_append]
  rfl
theorem stp_zero (w : List Nat) (i : Nat) (fd : List (List Nat)) : stp w i fd 0 = fd := rfl
theorem stp_len (w : List Nat) (i : Nat) (fd : List (List Nat)) : ∀ n, (stp w i fd n).length = fd.length
  | 0 => rfl
  | n + 1 => by rw [stp_succ, List.length_set, stp_len w i fd n]
theorem pth_len (w : List Nat) : ∀ n, (pth w n).length = w.length
  | 0 => by show (List.replicate w.length []).length = _; rw [List.length_replicate]
  | n + 1 => by rw [pth_succ, stp_len, pth_len w n]
theorem getD_set_ne {α : Type} (l : List α) {i j : Nat} (v d : α) (h : i ≠ j) : (l.set i v).getD j d = l.getD j d := by
  rw [List.getD_eq_getElem?_getD, List.getElem?_set_ne h, ← List.getD_eq_getElem?_getD]
theorem getD_set_eq {α : Type} (l : List α) {i : Nat} (v d : α) (h : i < l.length) : (l.set i v).getD i d = v := by
  rw [List.getD_eq_getElem?_getD, List.getElem?_set_self h]
  rfl
/-- places up to i stay; other places stay; a branch's place -/
theorem stp_ne (w : List Nat) (i j : Nat) (fd : List (List Nat)) : ∀ n, (∀ k, k < n → kd w i k ≠ j) → (stp w i fd n).getD j [] = fd.getD j []
  | 0, _ => rfl
  | n + 1, h => by
    rw [stp_succ, getD_set_ne _ _ _ (h n (by omega))]
    exact stp_ne w i j fd n fun k hk => h k (by omega)
theorem stp_at {w : List Nat} {i k : Nat} {fd : List (List Nat)} (h : Fo 1 w) (hi : i < w.length) (hl : fd.length = w.length) (hk : k < aw w i) : ∀ n, k < n → n ≤ aw w i → (stp w i fd n).getD (kd w i k) [] = fd.getD i [] ++ [k]
  | n + 1, a, b => by
    have hs : (stp w i fd n).getD i [] = fd.getD i [] := stp_ne w i i fd n fun k _ => by have := kd_gt (w := w) (i := i) (k := k); omega
    rw [stp_succ, hs]
    by_cases c : k = n
    · subst c
      rw [getD_set_eq]
      rw [stp_len, hl]
      exact h.kd_lt hi hk
    · rw [getD_set_ne]
      · exact stp_at h hi hl hk n (by omega) (by omega)
      · intro e
        have := (kd_inj h hi hi (by omega) hk e).2
        omega
theorem pth_at {w : List Nat} {i k : Nat} (h : Fo 1 w) (hi : i < w.length) (hk : k < aw w i) : ∀ n, i < n → n ≤ w.length → (pth w n).getD (kd w i k) [] = (pth w n).getD i [] ++ [k]
  | n + 1, a, b => by
    have si : (pth w (n + 1)).getD i [] = (pth w n).getD i [] := by
      rw [pth_succ]
      exact stp_ne w n i _ _ fun t _ e => by have := kd_gt (w := w) (i := n) (k := t); omega
    rw [si]
    by_cases c : i = n
    · subst c
      rw [pth_succ]
      exact stp_at h hi (pth_len w _) hk _ hk (Nat.le_refl _)
    · rw [pth_succ, stp_ne]
      · exact pth_at h hi hk n (by omega) (by omega)
      · intro t ht e
        have := (kd_inj h (by omega) hi ht hk e).1
        omega
theorem pths_at {w : List Nat} {i k : Nat} (h : Fo 1 w) (hi : i < w.length) (hk : k < aw w i) : (pths w).getD (kd w i k) [] = (pths w).getD i [] ++ [k] := pth_at h hi hk _ hi (Nat.le_refl _)
theorem pth_root (w : List Nat) : ∀ n, (pth w n).getD 0 [] = []
  | 0 => by
    show (List.replicate w.length []).getD 0 [] = []
    cases w <;> rfl
  | n + 1 => by
    rw [pth_succ, stp_ne]
    · exact pth_root w n
    · intro k _ e
      have := kd_gt (w := w) (i := n) (k := k)
      omega
/-- where a path leads -/
def pl (w : List Nat) : Nat → List Nat → Option Nat
  | i, [] => some i
  | i, k :: p => if k < aw w i then pl w (kd w i k) p else none
theorem pl_snoc (w : List Nat) (k : Nat) : ∀ (p : List Nat) (i : Nat), pl w i (p ++ [k]) = (pl w i p).bind fun j => if k < aw w j then some (kd w j k) else none
  | [], i => rfl
  | t :: p, i => by
    show (if t < aw w i then pl w (kd w i t) (p ++ [k]) else none) = (if t < aw w i then pl w (kd w i t) p else none).bind _
    by_cases c : t < aw w i
    · rw [if_pos c, if_pos c, pl_snoc w k p]
    · rw [if_neg c, if_neg c]
      rfl
theorem pl_pths {w : List Nat} (h : Fo 1 w) : ∀ j, j < w.length → pl w 0 ((pths w).getD j []) = some j := by
  intro j
  induction j using Nat.strongRecOn with
  | _ j ih =>
    intro hj
    by_cases z : j = 0
    · subst z
      rw [show pths w = pth w w.length from rfl, pth_root]
      rfl
    · obtain ⟨i, k, hi, hk, e⟩ := has_above h j (by omega) hj
      rw [← e, pths_at h (by omega) hk, pl_snoc, ih i hi (by omega)]
      show (if k < aw w i then some (kd w i k) else none) = _
      rw [if_pos hk]
/-- a path of a plant leads to the same place in each plant that is alike up to that place -/
theorem pl_local {w w' : List Nat} (h : Fo 1 w) (h' : Fo 1 w') : ∀ (p : List Nat) (i : Nat), pl w 0 p = some i → i < w'.length → w'.take i = w.take i → pl w' 0 p = some i := by
  intro p
  induction hn : p.length generalizing p with
  | zero =>
    have : p = [] := List.length_eq_zero_iff.mp hn
    subst this
    exact fun i e _ _ => e
  | succ n ih =>
    intro i e hi a
    obtain ⟨q, k, rfl⟩ : ∃ q k, p = q ++ [k] := ⟨p.dropLast, p.getLast (by intro z; rw [z] at hn; cases hn), (List.dropLast_concat_getLast _).symm⟩
    rw [pl_snoc] at e ⊢
    cases c : pl w 0 q with
    | none => rw [c] at e; cases e
    | some j =>
      rw [c] at e
      have e : (if k < aw w j then some (kd w j k) else none) = some i := e
      by_cases hk : k < aw w j
      · rw [if_pos hk] at e
        have e := Option.some.inj e
        have hj : j < i := by rw [← e]; exact kd_gt
        have hjw : j < w.length := by
          by_cases z : j < w.length
          · exact z
          · rw [aw, List.getElem?_eq_none (by omega)] at hk
            exact absurd hk (Nat.not_lt_zero _)
        have tk : w'.take j = w.take j := by
          have := congrArg (List.take j) a
          rwa [List.take_take, List.take_take, Nat.min_eq_left (by omega)] at this
        rw [ih q (by simpa using hn) j c (by omega) tk]
        have ea : aw w' j = aw w j := by
          have := congrArg (fun l => l[j]?) a
          simp only [List.getElem?_take, hj, if_true] at this
          rw [aw, aw, this]
        have ek : kd w' j k = kd w j k := by
          obtain ⟨m, f⟩ := h.below hjw
          rw [show aw w j + m = k + (aw w j + m - k) by omega] at f
          have f := f.le.2.2
          have el : i - (j + 1) = sp k (w.drop (j + 1)) := by rw [← e, kd]; omega
          have hw : w'.drop (j + 1) = (w.drop (j + 1)).take (sp k (w.drop (j + 1))) ++ w'.drop i := by
            rw [← el, List.take_drop, show j + 1 + (i - (j + 1)) = i by omega, ← a, ← List.take_append_drop i w', List.drop_append, List.take_append_drop]
            have : (w'.take i).length = i := by rw [List.length_take]; omega
            rw [this, show j + 1 - i = 0 by omega, List.drop_zero]
          unfold kd
          rw [hw, f.sp_app, List.length_take, Nat.min_eq_left]
          rw [← el, List.length_drop]
          have := h.kd_lt hjw hk
          omega
        show (if k < aw w' j then some (kd w' j k) else none) = _
        rw [ea, if_pos hk, ek, e]
      · rw [if_neg hk] at e
        cases e
end Sy
namespace Sy
open PySem PySem.Spec PyProof.Rows L2
/-- the numbers of branches of a row's entries -/
def wt (rows : List Sy.Row) (l : List Str) : List Nat := l.map (ar rows)
def ens (w : List Nat) : List Nat := (List.range w.length).map (en w)
def kidsN (w : List Nat) (i : Nat) : List Nat := (List.range (aw w i)).map (kd w i)
def dKids (w : List Nat) : PyData := .tuple ((List.range w.length).map fun i => DN (kidsN w i))
section
variable {rows : List Sy.Row} {l : List Str} {i : Nat} {y : Str} {w : List Nat}
theorem wt_len (rows : List Sy.Row) (l : List Str) : (wt rows l).length = l.length := List.length_map ..
theorem wt_at (h : l[i]? = some y) : aw (wt rows l) i = ar rows y := aw_of (by rw [wt, List.getElem?_map, h]; rfl)
theorem ens_of {ss : List Nat} (hl : ss.length = w.length) (h : ∀ j, j < w.length → ss[j]? = some (en w j)) : ss = ens w := by
  apply List.ext_getElem?
  intro j
  by_cases hj : j < w.length
  · rw [h j hj, ens, List.getElem?_map, List.getElem?_range hj]
    rfl
  · rw [List.getElem?_eq_none (by omega), List.getElem?_eq_none (by rw [ens, List.length_map, List.length_range]; omega)]
theorem ens_at (h : i < w.length) : (ens w)[i]? = some (en w i) := by rw [ens, List.getElem?_map, List.getElem?_range h]; rfl
theorem ens_len (w : List Nat) : (ens w).length = w.length := by rw [ens, List.length_map, List.length_range]
theorem vN_at {ns : List Nat} {n : Nat} (h : ns[i]? = some n) : (vN ns)[i]? = some (.int (n : Int)) := by rw [vN, List.getElem?_map, h]; rfl
theorem vN_set (ns : List Nat) (i n : Nat) : (vN ns).set i (.int (n : Int)) = vN (ns.set i n) := by rw [vN, vN, List.map_set]
theorem aw_le (h : Fo 1 w) (hi : i < w.length) : aw w i ≤ w.length := by
  have a := kd_mono h hi (k := 0) (aw w i) (by omega)
  have b := h.en_le hi
  rw [Nat.zero_add, en_kd hi] at a
  omega
end
end Sy
namespace Sy
open PySem PySem.Spec PyProof.Rows L2
section
variable {K : PySem.W.Frag} {H : Hp} {a b : Addr} {xs ys : List V} {Q : VK}
/-- a tuple's slice, whether it is the whole or not -/
theorem sl_any {lo hi : Option Int} {zs : List V} (hz : cutV xs lo hi = zs) (h : SqT K H a xs) (q : ∀ p H', Same H H' → SqT K H' p zs → Q (.ref p) H') : rSlA K (.ref a) lo hi H Q := by
  subst hz
  refine ⟨a, xs, rfl, h, fun c => q _ _ (Same.refl H) ?_, fun _ p hp => q _ _ (up_same hp) (SqT.of upd_same)⟩
  unfold cutV
  rw [c.1, c.2, List.drop_zero, Nat.sub_zero, List.take_length]
  exact h
theorem cat_any (h : SqT K H a xs) (g : SqT K H b ys) (hs : xs.length + ys.length ≤ 1000000) (q : ∀ p H', Same H H' → SqT K H' p (xs ++ ys) → Q (.ref p) H') : rCatA K (.ref a) (.ref b) H Q := by
  refine ⟨a, b, xs, ys, rfl, rfl, h, g, by rw [sizeLine_eq]; omega, fun c => q _ _ (Same.refl H) (by rw [c]; exact g), fun _ c => q _ _ (Same.refl H) (by rw [c, List.append_nil]; exact h), fun _ _ p hp => q _ _ (up_same hp) (SqT.of upd_same)⟩
theorem cut_take {i : Nat} (h : i ≤ xs.length) : cutV xs none (some (i : Int)) = xs.take i := by
  unfold cutV HT.sIx
  simp only [List.drop_zero, Nat.sub_zero]
  rw [if_neg (by omega), show min (i : Int).toNat xs.length = i by omega]
theorem cut_drop {i : Nat} (h : i ≤ xs.length) : cutV xs (some (i : Int)) none = xs.drop i := by
  unfold cutV HT.sIx
  simp only []
  rw [if_neg (by omega), show min (i : Int).toNat xs.length = i by omega, List.take_of_length_le]
  rw [List.length_drop]
  exact Nat.le_refl _
theorem cut_mid {i j : Nat} (h : i ≤ j) (g : j ≤ xs.length) : cutV xs (some (i : Int)) (some (j : Int)) = (xs.drop i).take (j - i) := by
  unfold cutV HT.sIx
  simp only []
  rw [if_neg (by omega), if_neg (by omega), show min (i : Int).toNat xs.length = i by omega, show min (j : Int).toNat xs.length = j by omega]
end
end Sy
/-! try: .. except X as e: suite, further clauses behind it that are not reached -/
namespace Sy
open PySem PySem.Spec PyProof.Rows L2
/-- what the body may raise: what the first clause catches -/
def wFst (K : PySem.W.Frag) (c : Value) (i : Nat) (ts : Addr → Value → Option Addr → TS) (D : Ends) : WX := fun cls d σ H => PySem.W.exmOne K cls c = some true ∧ ∀ a, H a = none →
  ts a cls d { nx := fun σ' H' => D.nx (σ'.set i none) H', rt := D.rt, bk := fun σ' H' => D.bk (σ'.set i none) H', ct := fun σ' H' => D.ct (σ'.set i none) H' } (σ.set i (some (.ref a))) H
theorem ps_try_fst {X : Cx} {x n : Str} {c : Value} {i : Nat} {body suite : List Stmt} {b₀ : Stmt} {np pos pos' : Pos} {hds : List ExceptHandler} {tb : WX → TS} {ts : Addr → Value → Option Addr → TS}
    (hs : X.stack = X.env :: X.outer) (hf : X.env.frame = some X.env.locals) (hN : X.N.Nodup) (hi : X.N[i]? = some n) (hln : X.env.kindOf n = some .local) (hc : Names X x c)
    (hb : ∀ (W : WX) (pn : List (Addr × Obj)) (xe : Value → Shared → Prop), Takes (X.tr pn xe) W → PassesOwn (model X.prog X.w) X.A X.env xe → PSs (X.tr pn xe) body (tb W))
    (hsu : ∀ (a : Addr) (oe : Obj) (cls : Value) (d : Option Addr) (pn : List (Addr × Obj)), Zc cls d oe → (∃ vs, oe.data = .fields vs) → PSs (X.suite a ((a, oe) :: pn)) (b₀ :: suite) (ts a cls d)) :
    PS X (.Try body (.ExceptHandler (some (.Name x np)) (some n) (b₀ :: suite) pos' :: hds) [] [] pos) (fun D σ H => tb (wFst X.K c i ts D) D σ H) := by
  constructor
  intro pins s σ H D I h
  have ok := I.ok
  have fr0 : X.A.frames = some (X.env :: X.outer) := by rw [ok.frames, hs]
  apply wpAny_Try_except
  refine wpAny_mono ((hb (wFst X.K c i ts D) (X.pn ++ pins) (fun e s₁ => wpAny (model X.prog X.w) X.A (noteFrame e X.env) (fun _ s₂ => wpAny (model X.prog X.w) X.A (setFlight e none) (fun _ s₃ =>
    wpAny (model X.prog X.w) X.A (handleBy e X.env (.ExceptHandler (some (.Name x np)) (some n) (b₀ :: suite) pos' :: hds)) (SP X pins D) X.xe s₃) X.xe s₂) X.xe s₁) (fun u s' q => ?cat) PassesOwn.looking).run [] s σ H D (I.toTry _) h) (fun f s1 q => ?fin) (fun _ _ q => q)
  case fin =>
    cases f
    case next =>
      obtain ⟨_, _, J, z⟩ := q
      exact wpAny_execs_nil ⟨_, _, J.ofTry ok, z⟩
    case brk =>
      obtain ⟨_, _, J, z⟩ := q
      exact ⟨_, _, J.ofTry ok, z⟩
    case cont =>
      obtain ⟨_, _, J, z⟩ := q
      exact ⟨_, _, J.ofTry ok, z⟩
    case ret =>
      obtain ⟨_, _, _, J, rv, z⟩ := q
      exact ⟨_, _, _, J.ofTry ok, rv, z⟩
  case cat =>
    obtain ⟨a, B, sI, pins', σ1, H1, cls, d, rfl, J', nb, up, sky, na, os, ag, hcat, hgo⟩ := q
    have J : Inv X pins σ1 H1 sI := J'.ofTry ok
    rw [hs] at sky
    show wpAny (model X.prog X.w) X.A (noteFrame (.ref a) X.env) _ _ _
    refine Sky.land Zc.steady fr0 hf sky fun h3 fl up3 => ?_
    have J3 : Inv X pins σ1 H1 { s' with heap := h3 } := J.landed nb fl.1 (up.trans up3) os ag
    obtain ⟨o3, v3, g3, z3, d3⟩ := fl.there
    have off : a ∉ frs (X.env :: X.outer) := fun hm => by
      obtain ⟨_, _, e', no⟩ := fl.2.2.1.mem hm
      rw [g3] at e'
      cases e'
      exact no _ d3
    have nL : a ≠ X.env.locals := fun z => off (List.mem_filterMap.mpr ⟨X.env, List.mem_cons_self, by rw [hf, z]⟩)
    have nF : a ∉ X.fs := fun hm => by
      obtain ⟨e, he, z⟩ := List.mem_filterMap.mp hm
      exact off (List.mem_filterMap.mpr ⟨e, List.mem_cons_of_mem _ he, z⟩)
    have S3 := J3.suite g3 d3 na nL nF
    refine wpAny_handleBy_cons (codeAny_handlers_test ?_) (by intro z; cases z)
    have LT : PySem.W.Looks (model X.prog X.w) h3 (typeOf (.ref a)) cls := fun _ _ _ _ k z => wpAny_typeOf_ref (k _ _ g3) (by rw [z3.1]; exact z)
    have LM := PySem.W.exm_one (M := model X.prog X.w) J3.kIn LT hcat
    have go2 : ∀ {Q E : Value → Shared → Prop}, Q c { s' with heap := h3 } → wpAny (model X.prog X.w) (X.A.mark (some (.ref a))) (eval (.Name x np) X.env) Q E { s' with heap := h3 } := fun {Q E} z => by
      rcases hc with ⟨g, dbg, m | ⟨m, v, nn⟩⟩
      · exact ld_glob (X := X.suite a ((a, o3) :: (X.pn ++ pins))) S3 g m z dbg
      · exact ld_blt (X := X.suite a ((a, o3) :: (X.pn ++ pins))) S3 g m v z nn dbg
    refine go2 (LM.here ?_)
    refine codeAny_handlers_suite_as ?_
    refine HandSPX.lands_againZ fl fun h4 fl4 up4 => ?_
    have J4 : Inv X pins σ1 H1 { s' with heap := h4 } := J.landed nb fl4.1 ((up.trans up3).trans up4) os ag
    obtain ⟨o4, v4, g4, z4, d4⟩ := fl4.there
    refine store_ok (X := X.suite a ((a, o4) :: (X.pn ++ pins))) (v := .ref a) (J4.suite g4 d4 na nL nF) hN hi (.inl hln) rfl (fun s5 S5 => ?_) (.inr hln)
    refine wpAny_mono ((hsu a o4 cls d (X.pn ++ pins) z4 ⟨_, d4⟩).run [] s5 _ H1 _ S5 (hgo a na)) (fun f s6 q => ?_) (fun _ _ z => z.elim)
    have shut : ∀ {σ6 : L2.St} {H6 : Hp} {R : Shared → Prop}, Inv (X.suite a ((a, o4) :: (X.pn ++ pins))) [] σ6 H6 s6 → (∀ s7, Inv X pins (σ6.set i none) H6 s7 → R s7) →
        wpAny (model X.prog X.w) X.A (do bindName X.env n .none; unbindBehindTheSuite X.env n pos') (fun _ s7 => R s7) X.xe s6 := fun S6 k => gone_ok (S6.unsuite ok) hN hi hln k
    cases f
    case next =>
      obtain ⟨_, _, S6, z⟩ := q
      exact shut S6 fun _ J7 => ⟨_, _, J7, z⟩
    case brk =>
      obtain ⟨_, _, S6, z⟩ := q
      exact shut S6 fun _ J7 => ⟨_, _, J7, z⟩
    case cont =>
      obtain ⟨_, _, S6, z⟩ := q
      exact shut S6 fun _ J7 => ⟨_, _, J7, z⟩
    case ret =>
      obtain ⟨_, _, _, S6, rv, z⟩ := q
      exact shut S6 fun _ J7 => ⟨_, _, _, J7, rv, z⟩
end Sy
/-! own errors: their __init__, raising them -/
namespace Sy
open PySem PySem.Spec PyProof.Rows L2
/-- the class x, its __init__ by its row, its fields -/
structure ErrB (P : Program) (K : PySem.W.Frag) (mg : Str → Option Value) (x q : Str) (st : Stmt) (fs : List Str) : Prop where
  sup : ∃ (cc cd : Addr) (kV doc pm : Value) (an : Option Addr) (ct : Value), SupF P K (He.ga K x) (iniA K x) cc cd q (defArgs st) (defBody st) (defScope st) (PySem.W.fnX "__init__" q (defArgs st) (defBody st) (defScope st) [("__class__", cc)] .none kV doc pm an (.ref cd) ct)
  iC : PySem.W.findIn K (.ref (He.ga K x)) "__init__" = some (some (.ref (iniA K x)))
  tI : PySem.W.typeIn K (.ref (iniA K x)) = some (.type "function")
  at_ : mg x = some (.ref (He.ga K x))
  ex : PySem.W.exmOne K (.ref (He.ga K x)) (.ref (He.ga K x)) = some true
  xf : XfC K (He.ga K x)
  no : ∀ f ∈ fs, PySem.W.findIn K (.ref (He.ga K x)) f = some none
  mS : mg "super" = none
  top : (P.main.scope.names.lookup ("super" : Str)).isSome = false
/-- raised: a new dict with these fields, beside what stood -/
def Ra (K : PySem.W.Frag) (x : Str) (fs : List (Str × V)) (H : Hp) (E : XK) : Prop := ∀ d H', Same H H' → H' d = some (.xd fs) → E (.ref (He.ga K x)) (some d) H'
def spInit (C : Addr) (ok : List V → Hp → List (Str × V) → Prop) : Sp := fun vs H Q _ => ∃ a us fs, vs = .ref a :: us ∧ ok us H fs ∧ H a = some (exo a C none) ∧
  ∀ dx H', H dx = none → dx ≠ a → H' a = some (exo a C (some dx)) → H' dx = some (exd dx fs) → (∀ b, b ≠ a → b ≠ dx → H' b = H b) → Q .non H'
theorem mk_ra {K : PySem.W.Frag} {x : Str} {ok : List V → Hp → List (Str × V) → Prop} {us : List V} {H : Hp} {fs : List (Str × V)} {E : XK} (hok : ∀ H', Same H H' → ok us H' fs) (hl : us.length ≤ 1000) (h : Ra K x fs H E) :
    us.length ≤ 1000 ∧ ∀ a, H a = none → spInit (He.ga K x) ok (.ref a :: (us ++ [])) (upd H a (exo a (He.ga K x) none)) (fun v H2 => v = .non ∧ ∃ (d : Addr) (fs : List (Str × V)), H2 a = some (exo a (He.ga K x) (some d)) ∧ H2 d = some (exd d fs) ∧ H d = none ∧ E (.ref (He.ga K x)) (some d) (upd (L2.del H2 a) d (.xd fs))) (fun _ _ _ => False) := by
  refine ⟨hl, fun a ha => ⟨a, us, fs, by rw [List.append_nil], hok _ (up_same ha), upd_same, fun dx H' h1 h2 h3 h4 h5 => ⟨rfl, dx, fs, h3, h4, by rw [upd_ne h2] at h1; exact h1, h dx _ (fun b o e => ?_) upd_same⟩⟩⟩
  have hb : b ≠ a := fun z => by rw [z, ha] at e; cases e
  have hd : H dx = none := by rw [upd_ne h2] at h1; exact h1
  have hb2 : b ≠ dx := fun z => by rw [z, hd] at e; cases e
  rw [upd_ne hb2, del_ne hb, h5 b hb hb2, upd_ne hb]
  exact e
section
variable {P : Program} {w : World} {K : PySem.W.Frag} {mg : Str → Option Value} {base : Heap}
/-! TooMany(what, limit) -/
def okTM : List V → Hp → List (Str × V) → Prop := fun us _ fs => ∃ (x : Str) (n : Int), us = [.str x, .int n] ∧ x.length ≤ 100 ∧ n.natAbs.log2 < 1920 ∧ (toString n : Str).length ≤ 1000 ∧ fs = ([("limit", V.int n), ("what", V.str x)] : List (Str × V))
abbrev N_tm : List Str := ["self", "what", "limit", "__class__"]
theorem sc_tm : NdefX.NScope N_tm ["self", "what", "limit"] ["__class__"] (defScope (clb 12 0)) := ⟨rfl, rfl, rfl, by decide +kernel, rfl, by decide +kernel, by decide +kernel, by decide +kernel, by decide +kernel⟩
theorem i_tm (T : ErrB P K mg "TooMany" "TooMany.__init__" (clb 12 0) ["what", "limit"]) : ∃ fd, FnOk P w K mg base CX0 1 (iniA K "TooMany") fd ["self", "what", "limit"] (spInit (He.ga K "TooMany") okTM) ∧ L2.Binds K fd ["self", "what", "limit"] [] := by
  obtain ⟨cc, cd, kV, doc, pm, an, ct, S⟩ := T.sup
  refine ⟨_, fn_sup (k := 0) S sc_tm rfl rfl rfl rfl rfl T.mS T.top (fun vs H Q E s => by obtain ⟨_, _, _, rfl, ⟨_, _, rfl, _⟩, _⟩ := s; rfl) (fun _ => rfl) (fun _ => rfl) (fun _ _ => rfl) ?_, .all fun us e => match us, e with | [_, _, _], _ => rfl⟩
  intro A outer s H vs Q E hr h
  obtain ⟨a, us, fs, rfl, ⟨x, n, rfl, hx, hn, hn2, rfl⟩, ha, hq⟩ := h
  refine ⟨_, _, pa_cons (pe_joined (.cons pe_str (.cons (pe_fmt (pv 1)) (.cons pe_str (.cons (pe_fmt (pv 2)) .nil))))) pa_nil, pss_cons (ps_ost (pv 0) (pv 1)) (pss_one (ps_ost (pv 0) (pv 2))), a, _, rfl, ha, ?_⟩
  have L1 : ((Str.empty : Str) ++ ("too many " : Str)).length = 9 := by decide +kernel
  have L2' : (": the limit is " : Str).length = 15 := by decide +kernel
  refine ⟨_, rfl, by rw [L1]; decide, _, rfl, .inl ⟨x, rfl, by rw [sizeLine_eq]; omega, _, rfl, ?_, _, rfl, ?_, _, rfl, .inr ⟨n, rfl, hn, _, rfl, ?_, (by show 1 ≤ 1000; decide), ha, _, rfl, _, rfl, a, _, rfl, S.oex, T.no _ (by decide), .inl ⟨ha, fun dx h1 h2 => ⟨_, rfl, _, rfl, a, _, rfl, S.oex, T.no _ (by decide), .inr ⟨dx, _, upd_same, by rw [upd_ne h2]; exact upd_same, (by show 1 ≤ 900; decide), hq dx _ h1 h2 ?_ upd_same ?_⟩⟩⟩⟩⟩⟩
  · rw [PySem.Str.length_append, L1, sizeLine_eq]
    omega
  · rw [PySem.Str.length_append, PySem.Str.length_append, L1, L2', sizeLine_eq]
    omega
  · rw [PySem.Str.length_append, PySem.Str.length_append, PySem.Str.length_append, L1, L2', sizeLine_eq]
    omega
  · rw [upd_ne h2.symm]
    exact upd_same
  · intro b hb hb2
    rw [upd_ne hb2, upd_ne hb, upd_ne hb2]
/-- raise TooMany(.., ..) -/
theorem mk_tm {X : Cx} {k : Nat} {p pos : Pos} {e1 e2 : Expr} {ta : TA} (T : ErrB X.prog X.K X.mg "TooMany" "TooMany.__init__" (clb 12 0) ["what", "limit"]) (hr : Room k X.A) (hg : Gl X "TooMany") (ha : PA X [e1, e2] ta)
    (hx : Passes CX0 X (fun _ _ _ => False)) (hk : 2 ≤ k := by decide) (he : starEach [e1, e2] X.env = (false, eval e1 X.env) :: starEach [e2] X.env := by rfl) (hpl : (backTo pos (starEach [e2] X.env)).any (·.1) = false := by rfl) :
    PMk X (.Call (.Name "TooMany" p) [e1, e2] [] pos) (tMkO (He.ga X.K "TooMany") (spInit (He.ga X.K "TooMany") okTM) [] ta) := by
  obtain ⟨fd, F, B⟩ := i_tm (w := X.w) (base := X.base) T
  obtain ⟨cc, cd, kV, doc, pm, an, ct, S⟩ := T.sup
  exact pmk_oex S.oex T.iC T.tI F (hr.mono hk) B .nil hx hg T.at_ ha rfl he hpl
/-! check_count -/
def spCount (K : PySem.W.Frag) : Sp := fun vs H Q E => ∃ n : Int, vs = [.int n] ∧ (n ≤ 2000 → Q .non H) ∧ (2000 < n → Ra K "TooMany" [("limit", .int 2000), ("what", .str "knots")] H E)
theorem sc_count : FnScope ["number"] ["number"] (defScope (top 14)) := ⟨rfl, rfl, rfl, by decide +kernel, rfl, by decide +kernel, by decide +kernel⟩
theorem k_count (T : Txt K mg) (TM : ErrB P K mg "TooMany" "TooMany.__init__" (clb 12 0) ["what", "limit"]) (F : DF K mg "check_count" 14) : Cal P w K mg base 3 "check_count" ["number"] (spCount K) := by
  refine cal_of F.1 F.2 sc_count (fun _ _ _ _ _ _ us e => match us, e with | [_], _ => rfl) (fun vs H Q E s => by obtain ⟨_, rfl, _⟩ := s; rfl) ?_
  intro cdv A outer s H vs Q E hr h
  obtain ⟨n, rfl, h1, h2⟩ := h
  have sc := sc_count
  refine ⟨_, (pss_one (ps_if (pt_cmpR op_gt (pv 0) (pe_gint rfl T.MOST_KNOTS) (nomark _))
        (pss_one (ps_raise rfl (takes_of rfl rfl rfl rfl) (mk_tm TM hr rfl (pa_cons pe_str (pa_cons (pe_gint rfl T.MOST_KNOTS) pa_nil)) pass0)))
        pss_nil)), ?_⟩
  refine ⟨_, rfl, _, _, rfl, rfl, _, rfl, if_dec (fun c => ?_) (fun c => ?_)⟩
  · exact mk_ra (fun _ _ => ⟨_, _, rfl, by decide +kernel, by decide +kernel, by decide +kernel, rfl⟩) (by show 2 ≤ 1000; decide) (h2 c)
  · exact h1 (by omega)
end
end Sy
/-! outcomes that are errors -/
namespace Sy
open PySem PySem.Spec PyProof.Rows L2
/-- an error that is due -/
inductive Er
  | many (x : Str) (n : Nat)
  | bed (i : Int)
  | plant (i : Nat)
  | reader (i : Int)
  | text (x : Str)
  | kind (x : Str)
def Er.cls : Er → Str
  | .many _ _ => "TooMany"
  | .bed _ => "InvalidBed"
  | .plant _ => "InvalidPlant"
  | .reader _ => "InvalidReader"
  | .text _ => "InvalidText"
  | .kind _ => "UnknownKind"
/-- its fields, newest first -/
def Er.fds : Er → List (Str × PyData)
  | .many x n => [("limit", .int (n : Nat)), ("what", .str x)]
  | .bed i => [("place", .int i)]
  | .plant i => [("place", .int (i : Nat))]
  | .reader i => [("place", .int i)]
  | .text x => [("text", .str x)]
  | .kind x => [("kind", .str x)]
inductive ImF (K : PySem.W.Frag) (H : Hp) : List (Str × V) → List (Str × PyData) → Prop
  | nil : ImF K H [] []
  | cons {f : Str} {v : V} {d : PyData} {fs : List (Str × V)} {ds : List (Str × PyData)} : Im K H v d → ImF K H fs ds → ImF K H ((f, v) :: fs) ((f, d) :: ds)
def RaE (K : PySem.W.Frag) (e : Er) (H : Hp) (E : XK) : Prop := ∀ d H' fs, Same H H' → H' d = some (.xd fs) → ImF K H' fs e.fds → E (.ref (He.ga K e.cls)) (some d) H'
theorem RaE.mono {K : PySem.W.Frag} {e : Er} {H H1 : Hp} {E : XK} (h : RaE K e H E) (s : Same H H1) : RaE K e H1 E := fun d H' fs s' e1 i => h d H' fs (s.trans s') e1 i
theorem ImF.mono {K : PySem.W.Frag} {H H' : Hp} (s : Same H H') : ∀ {fs : List (Str × V)} {ds : List (Str × PyData)}, ImF K H fs ds → ImF K H' fs ds
  | _, _, .nil => .nil
  | _, _, .cons a b => .cons (a.mono (Stay.of s)) (ImF.mono s b)
theorem RaE.ra {K : PySem.W.Frag} {e : Er} {H : Hp} {E : XK} {fs : List (Str × V)} (h : RaE K e H E) (i : ImF K H fs e.fds) : Ra K e.cls fs H E := fun d H' s e1 => h d H' fs s e1 (i.mono s)
section
variable {P : Program} {w : World} {K : PySem.W.Frag} {mg : Str → Option Value} {base : Heap}
theorem L0 (x : Str) : ((Str.empty : Str) ++ x).length = x.length := by rw [PySem.Str.length_append]; exact Nat.zero_add _
/-! InvalidPlant(place) -/
def okIP : List V → Hp → List (Str × V) → Prop := fun us _ fs => ∃ i : Nat, us = [.int (i : Nat)] ∧ i ≤ 1000000 ∧ fs = ([("place", V.int (i : Nat))] : List (Str × V))
set_option exponentiation.threshold 3000 in
theorem nat_log {i : Nat} (h : i ≤ 1000000) : ((i : Int).natAbs).log2 < 1920 := by
  have e : (i : Int).natAbs = i := Int.natAbs_natCast i
  rw [e]
  by_cases c : i = 0
  · rw [c]; decide
  · exact (Nat.log2_lt c).mpr (Nat.lt_of_le_of_lt h (by decide))
theorem nat_txt {i : Nat} (h : i ≤ 1000000) : (toString (i : Int) : Str).length ≤ 1921 := int_text_len_1921 (nat_log h)

/-! InvalidBed(place) -/
def okIB : List V → Hp → List (Str × V) → Prop := fun us _ fs => ∃ i : Int, us = [.int i] ∧ (-1 ≤ i ∧ i ≤ 1000000) ∧ fs = ([("place", V.int i)] : List (Str × V))
theorem int_log {i : Int} (h : -1 ≤ i ∧ i ≤ 1000000) : i.natAbs.log2 < 1920 := by
  rcases Int.lt_or_le i 0 with c | c
  · have : i = -1 := by omega
    subst this
    decide
  · obtain ⟨n, rfl⟩ : ∃ n : Nat, i = (n : Int) := ⟨i.toNat, by omega⟩
    exact nat_log (by omega)
theorem sc_ib : NdefX.NScope ["self", "place", "__class__"] ["self", "place"] ["__class__"] (defScope (clb 7 0)) := ⟨rfl, rfl, rfl, by decide +kernel, rfl, by decide +kernel, by decide +kernel, by decide +kernel, by decide +kernel⟩
theorem i_ib (T : ErrB P K mg "InvalidBed" "InvalidBed.__init__" (clb 7 0) ["place"]) : ∃ fd, FnOk P w K mg base CX0 1 (iniA K "InvalidBed") fd ["self", "place"] (spInit (He.ga K "InvalidBed") okIB) ∧ L2.Binds K fd ["self", "place"] [] := by
  obtain ⟨cc, cd, kV, doc, pm, an, ct, S⟩ := T.sup
  refine ⟨_, fn_sup (k := 0) S sc_ib rfl rfl rfl rfl rfl T.mS T.top (fun vs H Q E s => by obtain ⟨_, _, _, rfl, ⟨_, rfl, _⟩, _⟩ := s; rfl) (fun _ => rfl) (fun _ => rfl) (fun _ _ => rfl) ?_, .all fun us e => match us, e with | [_, _], _ => rfl⟩
  intro A outer s H vs Q E hr h
  obtain ⟨a, us, fs, rfl, ⟨x, rfl, hx, rfl⟩, ha, hq⟩ := h
  refine ⟨_, _, pa_cons (pe_joined (.cons pe_str (.cons (pe_fmt (pv 1)) .nil))) pa_nil, pss_one (ps_ost (pv 0) (pv 1)), a, _, rfl, ha, ?_⟩
  have L1 : ((Str.empty : Str) ++ ("invalid bed: " : Str)).length = 13 := by decide +kernel
  have htx := int_text_len_1921 (int_log hx)
  refine ⟨_, rfl, by rw [L1]; decide, _, rfl, .inr ⟨x, rfl, int_log hx, _, rfl, ?_, (by show 1 ≤ 1000; decide), ha, _, rfl, _, rfl, a, _, rfl, S.oex, T.no _ (by decide), .inl ⟨ha, fun dx h1 h2 => hq dx _ h1 h2 upd_same ?_ ?_⟩⟩⟩
  · rw [PySem.Str.length_append, L1, sizeLine_eq]
    omega
  · rw [upd_ne h2]
    exact upd_same
  · intro b hb hb2
    rw [upd_ne hb, upd_ne hb2]
theorem mk_ib {X : Cx} {k : Nat} {p pos : Pos} {e1 : Expr} {ta : TA} (T : ErrB X.prog X.K X.mg "InvalidBed" "InvalidBed.__init__" (clb 7 0) ["place"]) (hr : Room k X.A) (hg : Gl X "InvalidBed") (ha : PA X [e1] ta)
    (hx : Passes CX0 X (fun _ _ _ => False)) (hk : 2 ≤ k := by decide) (he : starEach [e1] X.env = (false, eval e1 X.env) :: starEach [] X.env := by rfl) (hpl : (backTo pos (starEach [] X.env)).any (·.1) = false := by rfl) :
    PMk X (.Call (.Name "InvalidBed" p) [e1] [] pos) (tMkO (He.ga X.K "InvalidBed") (spInit (He.ga X.K "InvalidBed") okIB) [] ta) := by
  obtain ⟨fd, F, B⟩ := i_ib (w := X.w) (base := X.base) T
  obtain ⟨cc, cd, kV, doc, pm, an, ct, S⟩ := T.sup
  exact pmk_oex S.oex T.iC T.tI F (hr.mono hk) B .nil hx hg T.at_ ha rfl he hpl
def okIZ (f : Str) : List V → Hp → List (Str × V) → Prop := fun us _ fs => ∃ i : Int, us = [.int i] ∧ (-1000000 ≤ i ∧ i ≤ 1000000) ∧ fs = ([(f, V.int i)] : List (Str × V))
set_option exponentiation.threshold 3000 in
theorem intz_log {i : Int} (h : -1000000 ≤ i ∧ i ≤ 1000000) : i.natAbs.log2 < 1920 := by
  have : i.natAbs ≤ 1000000 := by omega
  by_cases c : i.natAbs = 0
  · rw [c]; decide
  · exact (Nat.log2_lt c).mpr (Nat.lt_of_le_of_lt this (by decide))
theorem sc_ip : NdefX.NScope ["self", "place", "__class__"] ["self", "place"] ["__class__"] (defScope (clb 8 0)) := ⟨rfl, rfl, rfl, by decide +kernel, rfl, by decide +kernel, by decide +kernel, by decide +kernel, by decide +kernel⟩
theorem i_ip (T : ErrB P K mg "InvalidPlant" "InvalidPlant.__init__" (clb 8 0) ["place"]) : ∃ fd, FnOk P w K mg base CX0 1 (iniA K "InvalidPlant") fd ["self", "place"] (spInit (He.ga K "InvalidPlant") okIP) ∧ L2.Binds K fd ["self", "place"] [] := by
  obtain ⟨cc, cd, kV, doc, pm, an, ct, S⟩ := T.sup
  refine ⟨_, fn_sup (k := 0) S sc_ip rfl rfl rfl rfl rfl T.mS T.top (fun vs H Q E s => by obtain ⟨_, _, _, rfl, ⟨_, rfl, _⟩, _⟩ := s; rfl) (fun _ => rfl) (fun _ => rfl) (fun _ _ => rfl) ?_, .all fun us e => match us, e with | [_, _], _ => rfl⟩
  intro A outer s H vs Q E hr h
  obtain ⟨a, us, fs, rfl, ⟨x, rfl, hx, rfl⟩, ha, hq⟩ := h
  refine ⟨_, _, pa_cons (pe_joined (.cons pe_str (.cons (pe_fmt (pv 1)) (.cons pe_str .nil)))) pa_nil, pss_one (ps_ost (pv 0) (pv 1)), a, _, rfl, ha, ?_⟩
  have L1 : ((Str.empty : Str) ++ ("not a plant from index " : Str)).length = 23 := by decide +kernel
  have L2' : (" on" : Str).length = 3 := by decide +kernel
  have htx := nat_txt hx
  refine ⟨_, rfl, by rw [L1]; decide, _, rfl, .inr ⟨(x : Int), rfl, nat_log hx, _, rfl, ?_, _, rfl, ?_, (by show 1 ≤ 1000; decide), ha, _, rfl, _, rfl, a, _, rfl, S.oex, T.no _ (by decide), .inl ⟨ha, fun dx h1 h2 => hq dx _ h1 h2 upd_same ?_ ?_⟩⟩⟩
  · rw [PySem.Str.length_append, L1, sizeLine_eq]
    omega
  · rw [PySem.Str.length_append, PySem.Str.length_append, L1, L2', sizeLine_eq]
    omega
  · rw [upd_ne h2]
    exact upd_same
  · intro b hb hb2
    rw [upd_ne hb, upd_ne hb2]
theorem mk_ip {X : Cx} {k : Nat} {p pos : Pos} {e1 : Expr} {ta : TA} (T : ErrB X.prog X.K X.mg "InvalidPlant" "InvalidPlant.__init__" (clb 8 0) ["place"]) (hr : Room k X.A) (hg : Gl X "InvalidPlant") (ha : PA X [e1] ta)
    (hx : Passes CX0 X (fun _ _ _ => False)) (hk : 2 ≤ k := by decide) (he : starEach [e1] X.env = (false, eval e1 X.env) :: starEach [] X.env := by rfl) (hpl : (backTo pos (starEach [] X.env)).any (·.1) = false := by rfl) :
    PMk X (.Call (.Name "InvalidPlant" p) [e1] [] pos) (tMkO (He.ga X.K "InvalidPlant") (spInit (He.ga X.K "InvalidPlant") okIP) [] ta) := by
  obtain ⟨fd, F, B⟩ := i_ip (w := X.w) (base := X.base) T
  obtain ⟨cc, cd, kV, doc, pm, an, ct, S⟩ := T.sup
  exact pmk_oex S.oex T.iC T.tI F (hr.mono hk) B .nil hx hg T.at_ ha rfl he hpl
theorem sc_ir : NdefX.NScope ["self", "place", "__class__"] ["self", "place"] ["__class__"] (defScope (clb 9 0)) := ⟨rfl, rfl, rfl, by decide +kernel, rfl, by decide +kernel, by decide +kernel, by decide +kernel, by decide +kernel⟩
theorem i_ir (T : ErrB P K mg "InvalidReader" "InvalidReader.__init__" (clb 9 0) ["place"]) : ∃ fd, FnOk P w K mg base CX0 1 (iniA K "InvalidReader") fd ["self", "place"] (spInit (He.ga K "InvalidReader") (okIZ "place")) ∧ L2.Binds K fd ["self", "place"] [] := by
  obtain ⟨cc, cd, kV, doc, pm, an, ct, S⟩ := T.sup
  refine ⟨_, fn_sup (k := 0) S sc_ir rfl rfl rfl rfl rfl T.mS T.top (fun vs H Q E s => by obtain ⟨_, _, _, rfl, ⟨_, rfl, _⟩, _⟩ := s; rfl) (fun _ => rfl) (fun _ => rfl) (fun _ _ => rfl) ?_, .all fun us e => match us, e with | [_, _], _ => rfl⟩
  intro A outer s H vs Q E hr h
  obtain ⟨a, us, fs, rfl, ⟨x, rfl, hx, rfl⟩, ha, hq⟩ := h
  refine ⟨_, _, pa_cons (pe_joined (.cons pe_str (.cons (pe_fmt (pv 1)) .nil))) pa_nil, pss_one (ps_ost (pv 0) (pv 1)), a, _, rfl, ha, ?_⟩
  have L1 : ((Str.empty : Str) ++ ("invalid reader: " : Str)).length = 16 := by decide +kernel
  have htx := int_text_len_1921 (intz_log hx)
  refine ⟨_, rfl, by rw [L1]; decide, _, rfl, .inr ⟨x, rfl, intz_log hx, _, rfl, ?_, (by show 1 ≤ 1000; decide), ha, _, rfl, _, rfl, a, _, rfl, S.oex, T.no _ (by decide), .inl ⟨ha, fun dx h1 h2 => hq dx _ h1 h2 upd_same ?_ ?_⟩⟩⟩
  · rw [PySem.Str.length_append, L1, sizeLine_eq]
    omega
  · rw [upd_ne h2]
    exact upd_same
  · intro b hb hb2
    rw [upd_ne hb, upd_ne hb2]
theorem mk_ir {X : Cx} {k : Nat} {p pos : Pos} {e1 : Expr} {ta : TA} (T : ErrB X.prog X.K X.mg "InvalidReader" "InvalidReader.__init__" (clb 9 0) ["place"]) (hr : Room k X.A) (hg : Gl X "InvalidReader") (ha : PA X [e1] ta)
    (hx : Passes CX0 X (fun _ _ _ => False)) (hk : 2 ≤ k := by decide) (he : starEach [e1] X.env = (false, eval e1 X.env) :: starEach [] X.env := by rfl) (hpl : (backTo pos (starEach [] X.env)).any (·.1) = false := by rfl) :
    PMk X (.Call (.Name "InvalidReader" p) [e1] [] pos) (tMkO (He.ga X.K "InvalidReader") (spInit (He.ga X.K "InvalidReader") (okIZ "place")) [] ta) := by
  obtain ⟨fd, F, B⟩ := i_ir (w := X.w) (base := X.base) T
  obtain ⟨cc, cd, kV, doc, pm, an, ct, S⟩ := T.sup
  exact pmk_oex S.oex T.iC T.tI F (hr.mono hk) B .nil hx hg T.at_ ha rfl he hpl
/-! UnknownKind(kind) -/
def okUK : List V → Hp → List (Str × V) → Prop := fun us _ fs => ∃ x : Str, us = [.str x] ∧ (x.length ≤ 100 ∧ ∀ c ∈ x.cps.toList, c < 16 ^ 8) ∧ fs = ([("kind", V.str x)] : List (Str × V))

theorem sc_uk : NdefX.NScope ["self", "kind", "__class__"] ["self", "kind"] ["__class__"] (defScope (clb 11 0)) := ⟨rfl, rfl, rfl, by decide +kernel, rfl, by decide +kernel, by decide +kernel, by decide +kernel, by decide +kernel⟩
theorem i_uk (T : ErrB P K mg "UnknownKind" "UnknownKind.__init__" (clb 11 0) ["kind"]) : ∃ fd, FnOk P w K mg base CX0 1 (iniA K "UnknownKind") fd ["self", "kind"] (spInit (He.ga K "UnknownKind") okUK) ∧ L2.Binds K fd ["self", "kind"] [] := by
  obtain ⟨cc, cd, kV, doc, pm, an, ct, S⟩ := T.sup
  refine ⟨_, fn_sup (k := 0) S sc_uk rfl rfl rfl rfl rfl T.mS T.top (fun vs H Q E s => by obtain ⟨_, _, _, rfl, ⟨_, rfl, _⟩, _⟩ := s; rfl) (fun _ => rfl) (fun _ => rfl) (fun _ _ => rfl) ?_, .all fun us e => match us, e with | [_, _], _ => rfl⟩
  intro A outer s H vs Q E hr h
  obtain ⟨a, us, fs, rfl, ⟨x, rfl, hx, rfl⟩, ha, hq⟩ := h
  refine ⟨_, _, pa_cons (pe_joined (.cons pe_str (.cons (pe_fmtR (pv 1)) .nil))) pa_nil, pss_one (ps_ost (pv 0) (pv 1)), a, _, rfl, ha, ?_⟩
  have L1 : ((Str.empty : Str) ++ ("unknown kind: " : Str)).length = 14 := by decide +kernel
  have htx := StrLaws.reprText_len x hx.2
  have hxl := hx.1
  refine ⟨_, rfl, by rw [L1]; decide, _, rfl, .inl ⟨x, rfl, by rw [sizeLine_eq]; omega, _, rfl, ?_, (by show 1 ≤ 1000; decide), ha, _, rfl, _, rfl, a, _, rfl, S.oex, T.no _ (by decide), .inl ⟨ha, fun dx h1 h2 => hq dx _ h1 h2 upd_same ?_ ?_⟩⟩⟩
  · rw [PySem.Str.length_append, L1, sizeLine_eq]
    omega
  · rw [upd_ne h2]
    exact upd_same
  · intro b hb hb2
    rw [upd_ne hb, upd_ne hb2]
theorem mk_uk {X : Cx} {k : Nat} {p pos : Pos} {e1 : Expr} {ta : TA} (T : ErrB X.prog X.K X.mg "UnknownKind" "UnknownKind.__init__" (clb 11 0) ["kind"]) (hr : Room k X.A) (hg : Gl X "UnknownKind") (ha : PA X [e1] ta)
    (hx : Passes CX0 X (fun _ _ _ => False)) (hk : 2 ≤ k := by decide) (he : starEach [e1] X.env = (false, eval e1 X.env) :: starEach [] X.env := by rfl) (hpl : (backTo pos (starEach [] X.env)).any (·.1) = false := by rfl) :
    PMk X (.Call (.Name "UnknownKind" p) [e1] [] pos) (tMkO (He.ga X.K "UnknownKind") (spInit (He.ga X.K "UnknownKind") okUK) [] ta) := by
  obtain ⟨fd, F, B⟩ := i_uk (w := X.w) (base := X.base) T
  obtain ⟨cc, cd, kV, doc, pm, an, ct, S⟩ := T.sup
  exact pmk_oex S.oex T.iC T.tI F (hr.mono hk) B .nil hx hg T.at_ ha rfl he hpl

/-! InvalidText(text) -/
def okIT : List V → Hp → List (Str × V) → Prop := fun us _ fs => ∃ x : Str, us = [.str x] ∧ (x.length ≤ 1000000 ∧ ∀ c ∈ x.cps.toList, c < 16 ^ 8) ∧ fs = ([("text", V.str x)] : List (Str × V))

theorem sc_it : NdefX.NScope ["self", "text", "__class__"] ["self", "text"] ["__class__"] (defScope (clb 10 0)) := ⟨rfl, rfl, rfl, by decide +kernel, rfl, by decide +kernel, by decide +kernel, by decide +kernel, by decide +kernel⟩
theorem i_it (T : ErrB P K mg "InvalidText" "InvalidText.__init__" (clb 10 0) ["text"]) : ∃ fd, FnOk P w K mg base CX0 1 (iniA K "InvalidText") fd ["self", "text"] (spInit (He.ga K "InvalidText") okIT) ∧ L2.Binds K fd ["self", "text"] [] := by
  obtain ⟨cc, cd, kV, doc, pm, an, ct, S⟩ := T.sup
  refine ⟨_, fn_sup (k := 0) S sc_it rfl rfl rfl rfl rfl T.mS T.top (fun vs H Q E s => by obtain ⟨_, _, _, rfl, ⟨_, rfl, _⟩, _⟩ := s; rfl) (fun _ => rfl) (fun _ => rfl) (fun _ _ => rfl) ?_, .all fun us e => match us, e with | [_, _], _ => rfl⟩
  intro A outer s H vs Q E hr h
  obtain ⟨a, us, fs, rfl, ⟨x, rfl, hx, rfl⟩, ha, hq⟩ := h
  refine ⟨_, _, pa_cons (pe_joined (.cons pe_str (.cons (pe_fmtR (pv 1)) .nil))) pa_nil, pss_one (ps_ost (pv 0) (pv 1)), a, _, rfl, ha, ?_⟩
  have L1 : ((Str.empty : Str) ++ ("invalid text: " : Str)).length = 14 := by decide +kernel
  have htx := StrLaws.reprText_len x hx.2
  have hxl := hx.1
  refine ⟨_, rfl, by rw [L1]; decide, _, rfl, .inl ⟨x, rfl, by rw [sizeLine_eq]; omega, _, rfl, ?_, (by show 1 ≤ 1000; decide), ha, _, rfl, _, rfl, a, _, rfl, S.oex, T.no _ (by decide), .inl ⟨ha, fun dx h1 h2 => hq dx _ h1 h2 upd_same ?_ ?_⟩⟩⟩
  · rw [PySem.Str.length_append, L1, sizeLine_eq]
    omega
  · rw [upd_ne h2]
    exact upd_same
  · intro b hb hb2
    rw [upd_ne hb, upd_ne hb2]
theorem mk_it {X : Cx} {k : Nat} {p pos : Pos} {e1 : Expr} {ta : TA} (T : ErrB X.prog X.K X.mg "InvalidText" "InvalidText.__init__" (clb 10 0) ["text"]) (hr : Room k X.A) (hg : Gl X "InvalidText") (ha : PA X [e1] ta)
    (hx : Passes CX0 X (fun _ _ _ => False)) (hk : 2 ≤ k := by decide) (he : starEach [e1] X.env = (false, eval e1 X.env) :: starEach [] X.env := by rfl) (hpl : (backTo pos (starEach [] X.env)).any (·.1) = false := by rfl) :
    PMk X (.Call (.Name "InvalidText" p) [e1] [] pos) (tMkO (He.ga X.K "InvalidText") (spInit (He.ga X.K "InvalidText") okIT) [] ta) := by
  obtain ⟨fd, F, B⟩ := i_it (w := X.w) (base := X.base) T
  obtain ⟨cc, cd, kV, doc, pm, an, ct, S⟩ := T.sup
  exact pmk_oex S.oex T.iC T.tI F (hr.mono hk) B .nil hx hg T.at_ ha rfl he hpl

/-! the errors of the top -/
structure Ers (P : Program) (K : PySem.W.Frag) (mg : Str → Option Value) : Prop where
  tm : ErrB P K mg "TooMany" "TooMany.__init__" (clb 12 0) ["what", "limit"]
  ib : ErrB P K mg "InvalidBed" "InvalidBed.__init__" (clb 7 0) ["place"]
  ip : ErrB P K mg "InvalidPlant" "InvalidPlant.__init__" (clb 8 0) ["place"]
  ir : ErrB P K mg "InvalidReader" "InvalidReader.__init__" (clb 9 0) ["place"]
  it : ErrB P K mg "InvalidText" "InvalidText.__init__" (clb 10 0) ["text"]
  uk : ErrB P K mg "UnknownKind" "UnknownKind.__init__" (clb 11 0) ["kind"]
end
end Sy
namespace Sy
open PySem PySem.Spec PyProof.Rows L2
/-- a plant of the bed -/
structure Pln (rows : List Sy.Row) (l : List Str) : Prop where
  fo : Fo 1 (wt rows l)
  kn : ∀ x ∈ l, isK rows x = true
  le : l.length ≤ 2000
theorem fa_ok {rows : List Sy.Row} {lv : List Str} : ∀ {l : List Str} {m i : Nat}, Fo m (wt rows l) → (∀ x ∈ l, isK rows x = true) → fa rows lv m i l = -1
  | [], 0, i, _, _ => rfl
  | x :: l, m + 1, i, h, k => by
    have h : Fo (m + ar rows x) (wt rows l) := h
    rw [fa, if_neg (by omega), if_neg (fun z => by rw [k x List.mem_cons_self] at z; cases z.1)]
    exact fa_ok (m := m + 1 - 1 + ar rows x) h fun y hy => k y (List.mem_cons_of_mem _ hy)
theorem kidsN_len (w : List Nat) (i : Nat) : (kidsN w i).length = aw w i := by rw [kidsN, List.length_map, List.length_range]
theorem kidsN_at {w : List Nat} {i k : Nat} (h : k < aw w i) : (kidsN w i)[k]? = some (kd w i k) := by rw [kidsN, List.getElem?_map, List.getElem?_range h]; rfl
theorem Ra.mono {K : PySem.W.Frag} {x : Str} {fs : List (Str × V)} {H H1 : Hp} {E : XK} (h : Ra K x fs H E) (s : Same H H1) : Ra K x fs H1 E := fun d H' s' e => h d H' (s.trans s') e
section
variable {K : PySem.W.Frag} {H : Hp} {v : V} {w : List Nat} {i : Nat}
/-- kids' answer, by its places -/
theorem kids_get (h : Im K H v (dKids w)) : ∃ a ks, v = .ref a ∧ SqT K H a ks ∧ ks.length = w.length ∧ ∀ i, i < w.length → ∃ b, ks[i]? = some (.ref b) ∧ SqT K H b (vN (kidsN w i)) := by
  obtain ⟨a, ks, rfl, h1, h2⟩ := h.tupI
  refine ⟨a, ks, rfl, h1, by rw [h2.len, List.length_map, List.length_range], fun i hi => ?_⟩
  obtain ⟨z, e, iz⟩ := h2.get (i := i) (d := DN (kidsN w i)) (by rw [List.getElem?_map, List.getElem?_range hi]; rfl)
  obtain ⟨b, rfl, t⟩ := iz.natsI
  exact ⟨b, e, t⟩
end
section
variable {P : Program} {w : World} {K : PySem.W.Frag} {mg : Str → Option Value} {base : Heap}
/-! check_plant, check_stump -/
def ckr (tag : Nat → Er) (rows : List Sy.Row) (lv l : List Str) : Option Er := if 2000 < l.length then some (.many "knots" 2000) else if 0 ≤ fa rows lv 1 0 l then some (tag (fa rows lv 1 0 l).toNat) else none
abbrev ckP (rows : List Sy.Row) (l : List Str) : Option Er := ckr .plant rows [] l
theorem fa_neg {rows : List Sy.Row} {lv : List Str} : ∀ {l : List Str} {m i : Nat}, fa rows lv m i l < 0 → Fo m (wt rows l) ∧ ∀ x ∈ l, isK rows x = true ∨ x ∈ lv
  | [], m, i, h => by
    rw [fa] at h
    by_cases c : 0 < m
    · rw [if_pos c] at h; omega
    · have : m = 0 := by omega
      subst this
      exact ⟨trivial, fun _ z => (nomatch z)⟩
  | x :: l, m, i, h => by
    rw [fa] at h
    by_cases c : m = 0
    · rw [if_pos c] at h; omega
    · rw [if_neg c] at h
      by_cases d : isK rows x = false ∧ x ∉ lv
      · rw [if_pos d] at h; omega
      · rw [if_neg d] at h
        obtain ⟨h1, h2⟩ := fa_neg h
        obtain ⟨n, rfl⟩ : ∃ n, m = n + 1 := ⟨m - 1, by omega⟩
        refine ⟨h1, fun y hy => ?_⟩
        rcases List.mem_cons.mp hy with rfl | hy
        · by_cases e : isK rows y = true
          · exact .inl e
          · refine .inr (Decidable.byContradiction fun z => d ⟨by simpa using e, z⟩)
        · exact h2 y hy
theorem fa_le {rows : List Sy.Row} {lv : List Str} : ∀ {l : List Str} {m i : Nat}, fa rows lv m i l ≤ ((i + l.length : Nat) : Int)
  | [], m, i => by rw [fa]; split <;> simp <;> omega
  | x :: l, m, i => by
    rw [fa]
    split
    · simp only [List.length_cons]; omega
    · split
      · simp only [List.length_cons]; omega
      · have := fa_le (rows := rows) (lv := lv) (l := l) (m := m - 1 + ar rows x) (i := i + 1)
        simp only [List.length_cons]
        omega
theorem pln_of {rows : List Sy.Row} {l : List Str} (h : ckP rows l = none) : Pln rows l := by
  unfold ckP ckr at h
  split at h
  · cases h
  · split at h
    · cases h
    · obtain ⟨h1, h2⟩ := fa_neg (rows := rows) (lv := []) (l := l) (m := 1) (i := 0) (by omega)
      exact ⟨h1, fun x hx => (h2 x hx).elim id fun z => (nomatch z), by omega⟩
def spCheckE (K : PySem.W.Frag) (ck : List Sy.Row → List Str → Option Er) : Sp := fun vs H Q E => ∃ a r rows l, vs = [.ref a, .ref r] ∧ BedAt K H a rows ∧ SqT K H r (l.map V.str) ∧ (ck rows l = none → ∀ H', Same H H' → Q .non H') ∧ (∀ e, ck rows l = some e → RaE K e H E)
abbrev N_check : List Str := ["bed", "plant", "place"]
theorem sc_check : FnScope N_check ["bed", "plant"] (defScope (top 18)) := ⟨rfl, rfl, rfl, by decide +kernel, rfl, by decide +kernel, by decide +kernel⟩
theorem im_int {H : Hp} (i : Nat) : ImF K H [("place", V.int (i : Nat))] [("place", .int (i : Nat))] := .cons (.int _) .nil
theorem im_tm {H : Hp} : ImF K H [("limit", .int 2000), ("what", .str "knots")] (Er.many "knots" 2000).fds := .cons (.int _) (.cons (.str _) .nil)
theorem k_check (T : Txt K mg) (R : Ers P K mg) (F : DF K mg "check_plant" 18) (c_check_count : Cal P w K mg base 3 "check_count" ["number"] (spCount K)) (c_fault_among : Cal P w K mg base 2 "fault_among" ["bed", "row", "leaves"] (spFault K)) : Cal P w K mg base 4 "check_plant" ["bed", "plant"] (spCheckE K ckP) := by
  refine cal_of F.1 F.2 sc_check (fun _ _ _ _ _ _ us e => match us, e with | [_, _], _ => rfl) (fun vs H Q E s => by obtain ⟨_, _, _, _, rfl, _⟩ := s; rfl) ?_
  intro cdv A outer s H vs Q E hr h
  obtain ⟨a, r, rows, l, rfl, hb, hR, hq, hE⟩ := h
  have sc := sc_check
  refine ⟨_, (pss_cons (ps_expr (pe_calX c_check_count hr (takes_of rfl rfl rfl rfl) (pa_cons (pe_callB call_len_seq (by rfl) T.len (by decide +kernel) (pa_cons (pv 1) pa_nil)) pa_nil)))
      (pss_cons (ps_set (i := 2) sc.nd rfl (Or.inl rfl) (pe_cal c_fault_among hr (pa_cons (pv 0) (pa_cons (pv 1) (pa_cons (pe_tup pa_nil) pa_nil)))))
      (pss_one (ps_if (pt_cmpR op_ge (pv 2) pe_int (nomark _))
        (pss_one (ps_raise rfl (takes_of rfl rfl rfl rfl) (mk_ip R.ip hr rfl (pa_cons (pv 2) pa_nil) pass0)))
        pss_nil)))), ?_⟩
  refine ⟨_, rfl, r, _, rfl, .inr hR, _, rfl, fun c => ?_, fun c => (hE (.many "knots" 2000) ?_).ra im_tm⟩
  · rw [List.length_map] at c
    refine ⟨_, rfl, _, rfl, by decide, fun t ht => ?_⟩
    have s1 := up_same (o := .tup []) ht
    refine ⟨a, r, t, rows, l, [], rfl, hb.mono (Stay.of s1), Same.sqt s1 hR, SqT.of upd_same, fun H' s2 => ?_⟩
    refine ⟨_, rfl, _, _, rfl, rfl, _, rfl, if_dec (fun c2 => ?_) (fun c2 => ?_)⟩
    · have c2 : 0 ≤ fa rows [] 1 0 l := c2
      have hle := fa_le (rows := rows) (lv := []) (l := l) (m := 1) (i := 0)
      obtain ⟨n, en⟩ : ∃ n : Nat, fa rows [] 1 0 l = (n : Nat) := ⟨(fa rows [] 1 0 l).toNat, by omega⟩
      rw [en] at hle ⊢
      refine ⟨_, rfl, mk_ra (fun _ _ => ⟨n, rfl, by omega, rfl⟩) (by show 1 ≤ 1000; decide) (((hE (.plant n) ?_).ra (im_int n)).mono (s1.trans s2))⟩
      unfold ckP ckr
      rw [if_neg (by omega), en, if_pos (by omega)]
      rfl
    · have c2 : ¬ 0 ≤ fa rows [] 1 0 l := c2
      refine hq ?_ _ (s1.trans s2)
      unfold ckP ckr
      rw [if_neg (by omega), if_neg c2]
  · rw [List.length_map] at c
    unfold ckP ckr
    rw [if_pos (by omega)]
end
end Sy
/-! tuples of which it is known that they have no dict: methods of a tuple -/
namespace Sy
open PySem PySem.Spec PyProof.Rows L2
def NoD (H : Hp) (a : Addr) : Prop := ∃ (o : Obj) (u : HO), H a = some (.frz o u) ∧ o.dict = none
/-- a new tuple at p -/
def NewT (H : Hp) (p : Addr) (xs : List V) (H' : Hp) : Prop := H p = none ∧ ∃ o : Obj, o.dict = none ∧ H' = upd H p (.frz o (.tup xs))
theorem NewT.same {H H' : Hp} {p : Addr} {xs : List V} (h : NewT H p xs H') : Same H H' := by
  obtain ⟨h1, o, _, rfl⟩ := h
  exact up_same h1
theorem NewT.sqt {K : PySem.W.Frag} {H H' : Hp} {p : Addr} {xs : List V} (h : NewT H p xs H') : SqT K H' p xs := by
  obtain ⟨h1, o, _, rfl⟩ := h
  exact .inl (.inr ⟨o, upd_same⟩)
theorem NewT.nod {H H' : Hp} {p : Addr} {xs : List V} (h : NewT H p xs H') : NoD H' p := by
  obtain ⟨h1, o, h2, rfl⟩ := h
  exact ⟨o, _, upd_same, h2⟩
theorem NoD.mono {H H' : Hp} {a : Addr} (h : NoD H a) (s : Stay H H') : NoD H' a := by
  obtain ⟨o, u, h1, h2⟩ := h
  exact ⟨o, u, s _ _ h1 (fun _ z => by cases z), h2⟩
section
variable {X : Cx} {es : List Expr} {t : TA} {pos : Pos}
def tTupZ (t : TA) : TE := fun σ H Q => t σ H fun xs H1 => xs.length ≤ sizeLine ∧ ∀ p H', NewT H1 p xs H' → Q (.ref p) H'
theorem pe_tupZ {x1} (h : PA X es t) : PE X (.Tuple es x1 pos) (tTupZ t) := by
  constructor
  intro pins s σ H Q I hq
  refine wpAny_Tuple_spliced (thn (h.run pos pins s σ H _ I hq) fun us s1 ⟨xs, H1, I1, r, z, q⟩ => ⟨by rw [← r.length]; exact z, ?_⟩)
  have hf : H1 s1.heap.objs.size = none := I1.hok.fresh (Nat.le_refl _)
  have hg : (s1.heap.push ({ cls := .type "tuple", data := .seq us.toArray } : Obj)).get? s1.heap.objs.size = some ({ cls := .type "tuple", data := .seq us.toArray } : Obj) := Heap.get?_push_size _ rfl
  refine ⟨.ref s1.heap.objs.size, _, I1.laid (t' := s1.toks) (o := .frz ({ cls := .type "tuple", data := .seq us.toArray } : Obj) (.tup xs)) (fun b u e => Heap.get?_push_of_some _ e) (Nat.le_refl _) ?_, rfl, q _ _ ⟨hf, _, rfl, rfl⟩⟩
  exact ⟨hg, z, us, r, ⟨_, hg, rfl, _, rfl⟩⟩
def rCatZ (K : PySem.W.Frag) : R2 := fun x y H Q => ∃ a b xs ys, x = .ref a ∧ y = .ref b ∧ SqT K H a xs ∧ SqT K H b ys ∧ xs.length + ys.length ≤ sizeLine ∧
  (xs = [] → Q (.ref b) H) ∧ (xs ≠ [] → ys = [] → Q (.ref a) H) ∧ (xs ≠ [] → ys ≠ [] → ∀ p H', NewT H p (xs ++ ys) H' → Q (.ref p) H')
theorem op_catZ : OpR X (binaryOp .Add) (rCatZ X.K) := by
  intro pins s σ H x y v u Q I rx ry h
  obtain ⟨a, b, xs, ys, rfl, rfl, ha, hb, hz, q0, q1, q2⟩ := h
  by_cases hx : xs = []
  · exact op_catA pins s σ H _ _ v u Q I rx ry ⟨a, b, xs, ys, rfl, rfl, ha, hb, hz, q0, q1, fun z => absurd hx z⟩
  cases rx
  cases ry
  obtain ⟨its, r1, p1, _⟩ := I.tuple ha
  obtain ⟨its2, r2, p2, _⟩ := I.tuple hb
  refine HT.cat_tup p1 p2 (fun z => hx (r1.nil_iff.mp z)) (fun z => ⟨.ref a, H, I, rfl, q1 hx (r2.nil_iff.mp z)⟩) (fun z => ?_) (by rw [← r1.length, ← r2.length]; exact hz)
  have hg : (s.heap.push ({ cls := .type "tuple", data := .seq (its ++ its2).toArray } : Obj)).get? s.heap.objs.size = some ({ cls := .type "tuple", data := .seq (its ++ its2).toArray } : Obj) := Heap.get?_push_size _ rfl
  refine ⟨.ref s.heap.objs.size, _, I.laid (t' := s.toks) (o := .frz ({ cls := .type "tuple", data := .seq (its ++ its2).toArray } : Obj) (.tup (xs ++ ys))) (fun b ob q => Heap.get?_push_of_some _ q) (Nat.le_refl _) ?_, rfl,
    q2 hx (fun w => z (r2.nil_iff.mpr w)) _ _ ⟨I.hok.fresh (Nat.le_refl _), _, rfl, rfl⟩⟩
  exact ⟨hg, by rw [List.length_append]; exact hz, _, r1.append r2, ⟨_, hg, rfl, _, rfl⟩⟩
def rTupZ (K : PySem.W.Frag) : List V → Hp → VK → Prop := fun xs H Q => ∃ p ys, xs = [.ref p] ∧ SqL K H p ys ∧ ∀ l H', NewT H l ys H' → Q (.ref l) H'
theorem call_tupZ : CallR X (.type "tuple") (rTupZ X.K) := by
  intro pins s σ H xs us Q I r h
  obtain ⟨p, ys, rfl, hq, q⟩ := h
  obtain ⟨u, rfl, rx⟩ := vals1 r
  cases rx
  obtain ⟨its, r', pl, hz⟩ := I.list hq
  have hlen := r'.length
  refine call_tuple_list pl.isList (fun h' kp => ?_) (by simp only [List.size_toArray]; omega)
  have I1 : Inv X pins σ H { s with heap := h' } := I.kept (t' := s.toks) kp
  have hg : (h'.push ({ cls := .type "tuple", data := .seq its.toArray } : Obj)).get? h'.objs.size = some ({ cls := .type "tuple", data := .seq its.toArray } : Obj) := Heap.get?_push_size _ rfl
  have I2 : Inv X pins σ (upd H h'.objs.size (.frz ({ cls := .type "tuple", data := .seq its.toArray } : Obj) (.tup ys))) { s with heap := h'.push { cls := .type "tuple", data := .seq its.toArray } } :=
    I1.laid (t' := s.toks) (fun b o e => Heap.get?_push_of_some _ e) (Nat.le_refl _) (show ObjOk X.prog X.w _ _ _ (.frz _ (.tup ys)) from ⟨hg, hz, its, r', ⟨_, hg, rfl, _, rfl⟩⟩)
  exact ⟨.ref h'.objs.size, _, I2, rfl, q _ _ ⟨I1.hok.fresh (Nat.le_refl _), _, rfl, rfl⟩⟩
/-! t.m(..) -/
def tBMT (K : PySem.W.Frag) (r : V → List V → Hp → VK → Prop) (to : TE) (t : TA) : TE := fun σ H Q => to σ H fun x H1 => (∃ a xs, x = .ref a ∧ SqT K H1 a xs ∧ NoD H1 a) ∧ t σ H1 fun xs H2 => r x xs H2 Q
variable {o e : Expr} {to : TE} {name : Str} {apos cpos : Pos} {id : String} {r : V → List V → Hp → VK → Prop}
theorem pe_bmT (slot : Slot "tuple" name id) (hty : typeOf (.builtin id) = pure (.type "method_descriptor")) (hm : MtR X id r) (ho : PE X o to) (ha : PA X (e :: es) t)
    (hbase : attributeBase o name X.env (eval o X.env) = eval o X.env := by rfl)
    (hfew : ((backTo cpos (starEach (e :: es) X.env)).all (fun x => !x.1) && (backToKw cpos (keywordEach [] X.env)).all (fun x => x.1.isSome)
      && decide ((e :: es).length + ([] : List Keyword).length + (if ([] : List Keyword).isEmpty then 0 else 1) < 30)) = true := by rfl)
    (hline : (apos.endLine == cpos.line) = true := by rfl) (hs : starEach (e :: es) X.env = (false, eval e X.env) :: starEach es X.env := by rfl) (hplain : (backTo cpos (starEach es X.env)).any (·.1) = false := by rfl) :
    PE X (.Call (.Attribute o name apos) (e :: es) [] cpos) (tBMT X.K r to t) := by
  constructor
  intro pins s σ H Q I h
  refine wpAny_Call_method_late hbase hfew hline rfl (thn (ho.run pins s σ H _ I h) fun v s1 ⟨x, H1, I1, r1, ⟨a, xs, ex, st, ob, u, hf, hd⟩, q1⟩ => ?_)
  subst ex
  cases r1
  obtain ⟨its, _, pt, _⟩ := I1.tuple st
  refine ⟨"tuple", id, PySem.F.plainAttrs_tuple, slot, hty, pt.typeIs, fun b e => ?_, ?_⟩
  · cases e
    exact ⟨ob, (I1.hok _ _ hf).1, hd⟩
  · have hA := ha.run cpos pins s1 σ H1 _ I1 q1
    rw [hs] at hA ⊢
    refine Calls.callWith_builtin (by show (false || (backTo cpos (starEach es X.env)).any (·.1)) = false; rw [hplain]; rfl) (Calls.evalArgs_plain ?_)
    exact thn hA fun us s2 ⟨vs, H2, I2, r2, q2⟩ => hm pins s2 σ H2 (.ref a) vs _ us Q I2 rfl r2 q2
end
end Sy
namespace Sy
open PySem PySem.Spec PyProof.Rows L2
/-- a dict comprehension over any walk -/
theorem dc_it {J : It} {n : Nat} {G : Hp → Prop} {Y : Nat → Hp → V → Hp → Prop} (w : Walk J n G Y) {g : TG} {tt : TT} {tk tv : TE} {vs : List Nat} {σ : L2.St} {H1 : Hp} {D : Addr} {Qd : Hp → Prop} (Pv : Nat → Hp → Prop) (h0 : Pv 0 (upd H1 D (.dK []))) (hG : ∀ i H, i ≤ n → Pv i H → G H)
    (hs : ∀ i x H H', i < n → Pv i H → Y i H x H' → g x (wipe σ vs) H' fun σ2 H2 => wipe σ2 vs = wipe σ vs ∧ tt σ2 H2 fun b H3 =>
      if b = true then tk σ2 H3 fun y H4 => tv σ2 H4 fun z H5 => ∃ kvs k, y = kV k ∧ H5 D = some (.dK kvs) ∧ kvs.length < sizeLine ∧ Pv (i + 1) (upd H5 D (.dK (putK kvs k z))) else Pv (i + 1) H3) (hd : ∀ H, Pv n H → Qd H) :
    ∃ W : Nat → Nat → Hp → Prop, (∃ m, W 0 m (upd H1 D (.dK []))) ∧ ∀ i m H, W i m H →
      (J.stop i H ∧ Qd H) ∨ (J.go i H ∧ ∃ Nx : Hp → Prop, (∀ H', Nx H' → ∃ m', m' < m ∧ W (i + 1) m' H') ∧ ∀ x H', J.yld i H x H' → g x (wipe σ vs) H' fun σ2 H2 => wipe σ2 vs = wipe σ vs ∧ tt σ2 H2 fun b H3 =>
        if b = true then tk σ2 H3 fun y H4 => tv σ2 H4 fun z H5 => ∃ kvs k, y = kV k ∧ H5 D = some (.dK kvs) ∧ kvs.length < sizeLine ∧ Nx (upd H5 D (.dK (putK kvs k z))) else Nx H3) := by
  refine ⟨fun i m H => i + m = n ∧ Pv i H, ⟨n, Nat.zero_add n, h0⟩, fun i m H ⟨e, p⟩ => ?_⟩
  have q := hG i H (by omega) p
  cases m with
  | zero =>
    obtain rfl : i = n := by omega
    exact .inl ⟨w.stops H q, hd H p⟩
  | succ m =>
    exact .inr ⟨w.goes i H (by omega) q, Pv (i + 1), fun H' p' => ⟨m, Nat.lt_succ_self m, by omega, p'⟩, fun x H' y => hs i x H H' (by omega) p (w.yields i H x H' (by omega) q y)⟩
theorem paired_at {α β : Type} {R : α → β → Prop} : ∀ {xs : List α} {ys : List β} {i : Nat} {y : β}, Paired R xs ys → ys[i]? = some y → ∃ x, xs[i]? = some x ∧ R x y
  | _, _, i, y, .nil, h => by simp at h
  | _, _, 0, y, .cons a _, h => by
    simp at h
    subst h
    exact ⟨_, rfl, a⟩
  | _, _, i + 1, y, .cons _ b, h => by
    obtain ⟨x, h1, h2⟩ := paired_at (i := i) b (by simpa using h)
    exact ⟨x, by simpa using h1, h2⟩
theorem paired_len {α β : Type} {R : α → β → Prop} : ∀ {xs : List α} {ys : List β}, Paired R xs ys → xs.length = ys.length
  | _, _, .nil => rfl
  | _, _, .cons _ b => by rw [List.length_cons, List.length_cons, paired_len b]
def nameOk (x : Str) : Bool := decide (x.length ≤ 8) && (Txt.isascii x && (Txt.isalpha x && Txt.islower x))
def leafs (rows : List Sy.Row) : List Str := (rows.filter fun r => decide (r.2 = 0)).map (·.1)
/-- rows of which a bed is made -/
structure RowsOk (rows : List Sy.Row) : Prop where
  nm : ∀ r ∈ rows, nameOk r.1 = true
  br : ∀ r ∈ rows, r.2 ≤ 3
  nd : (rows.map (·.1)).Nodup
  lf : ∃ r ∈ rows, r.2 = 0
  le : rows.length ≤ 8
theorem lookup_none {rows : List Sy.Row} {x : Str} (h : ∀ r ∈ rows, r.1 ≠ x) : rows.lookup x = none := by
  induction rows with
  | nil => rfl
  | cons r rs ih =>
    rw [lookup_cons, if_neg (h r List.mem_cons_self)]
    exact ih fun q hq => h q (List.mem_cons_of_mem _ hq)
theorem nodup_take {rows : List Sy.Row} (nd : (rows.map (·.1)).Nodup) {i : Nat} {r : Sy.Row} (h : rows[i]? = some r) : ∀ q ∈ rows.take i, q.1 ≠ r.1 := by
  intro q hq e
  obtain ⟨j, hj, ej⟩ := List.mem_iff_getElem.mp hq
  rw [List.length_take] at hj
  rw [List.getElem_take] at ej
  obtain ⟨hi, er⟩ := List.getElem?_eq_some_iff.mp h
  have hlt : j < rows.length := by omega
  have := List.pairwise_iff_getElem.mp nd j i (by rw [List.length_map]; omega) (by rw [List.length_map]; omega) (by omega)
  rw [List.getElem_map, List.getElem_map, ej, er] at this
  exact this e
section
variable {P : Program} {w : World} {K : PySem.W.Frag} {mg : Str → Option Value} {base : Heap}
/-! only_letters, is_name -/
def spLetters : Sp := fun vs H Q _ => ∃ x : Str, vs = [.str x] ∧ Q (.bl (Txt.isascii x && (Txt.isalpha x && Txt.islower x))) H
theorem sc_letters : FnScope ["text"] ["text"] (defScope (top 37)) := ⟨rfl, rfl, rfl, by decide +kernel, rfl, by decide +kernel, by decide +kernel⟩
theorem k_letters (F : DF K mg "only_letters" 37) : Cal P w K mg base 1 "only_letters" ["text"] spLetters := by
  refine cal_of F.1 F.2 sc_letters (fun _ _ _ _ _ _ us e => match us, e with | [_], _ => rfl) (fun vs H Q E s => by obtain ⟨_, rfl, _⟩ := s; rfl) ?_
  intro cdv A outer s H vs Q E hr h
  obtain ⟨x, rfl, hq⟩ := h
  refine ⟨_, (pss_one (ps_ret (pe_and (pe_bm0 PySem.F.plainAttrs_str PySem.F.slot_str_isascii PySem.F.type_str_isascii mt_isascii (pv 0)) (pe_and (pe_bm0 PySem.F.plainAttrs_str PySem.F.slot_str_isalpha PySem.F.type_str_isalpha mt_isalpha (pv 0)) (pe_one (pe_bm0 PySem.F.plainAttrs_str PySem.F.slot_str_islower PySem.F.type_str_islower mt_islower (pv 0))))))), ?_⟩
  refine ⟨_, rfl, rfl, x, rfl, rfl, trivial, _, rfl, if_bool (fun c1 => ?_) (fun c1 => ?_)⟩
  · rw [c1] at hq
    refine ⟨_, rfl, rfl, x, rfl, rfl, trivial, _, rfl, if_bool (fun c2 => ?_) (fun c2 => ?_)⟩
    · rw [c2] at hq
      exact ⟨_, rfl, rfl, x, rfl, rfl, trivial, hq⟩
    · rw [c2] at hq
      exact hq
  · rw [c1] at hq
    exact hq
def spName : Sp := fun vs H Q _ => ∃ x : Str, vs = [.str x] ∧ x.length ≤ 1000000 ∧ Q (.bl (nameOk x)) H
theorem sc_name : FnScope ["text"] ["text"] (defScope (top 38)) := ⟨rfl, rfl, rfl, by decide +kernel, rfl, by decide +kernel, by decide +kernel⟩
theorem k_name (T : Txt K mg) (F : DF K mg "is_name" 38) (c_only_letters : Cal P w K mg base 1 "only_letters" ["text"] spLetters) : Cal P w K mg base 2 "is_name" ["text"] spName := by
  refine cal_of F.1 F.2 sc_name (fun _ _ _ _ _ _ us e => match us, e with | [_], _ => rfl) (fun vs H Q E s => by obtain ⟨_, rfl, _⟩ := s; rfl) ?_
  intro cdv A outer s H vs Q E hr h
  obtain ⟨x, rfl, hx, hq⟩ := h
  refine ⟨_, (pss_one (ps_ret (pe_and (pe_cmpR op_le (pe_callB call_len_str (by rfl) T.len (by decide +kernel) (pa_cons (pv 0) pa_nil)) (pe_gint rfl T.LONGEST_NAME) (nomark _)) (pe_one (pe_cal c_only_letters hr (pa_cons (pv 0) pa_nil)))))), ?_⟩
  have e8 : decide ((x.length : Int) ≤ 8) = decide (x.length ≤ 8) := by
    by_cases h : x.length ≤ 8
    · rw [decide_eq_true h, decide_eq_true (by omega)]
    · rw [decide_eq_false h, decide_eq_false (by omega)]
  unfold nameOk at hq
  rw [← e8] at hq
  refine ⟨_, rfl, x, rfl, by rw [sizeLine_eq]; omega, _, _, rfl, rfl, _, rfl, if_bool (fun c1 => ?_) (fun c1 => ?_)⟩
  · rw [c1] at hq
    exact ⟨_, rfl, x, rfl, hq⟩
  · rw [c1] at hq
    exact hq
/-! methods of Bed -/
structure MB (K : PySem.W.Frag) (m q : Str) (st : Stmt) : Prop where
  me : Meth K (He.ga K "Bed") m (He.ma K (He.ga K "Bed") m)
  fn : ∃ fd, FunD K m q (defArgs st) (defBody st) (defScope st) [] [] (He.ma K (He.ga K "Bed") m) fd
structure CalM (P : Program) (w : World) (K : PySem.W.Frag) (mg : Str → Option Value) (base : Heap) (k : Nat) (m : Str) (ps : List Str) (sp : Sp) : Prop where
  me : Meth K (He.ga K "Bed") m (He.ma K (He.ga K "Bed") m)
  fn : ∃ fd, FnOk P w K mg base (L2.CX P w) k (He.ma K (He.ga K "Bed") m) fd ps sp ∧ Binds K fd ps []
theorem calM_of {m q : Str} {st : Stmt} {N ps : List Str} {k : Nat} {sp : Sp} (F : MB K m q st) (S : FnScope N ps (defScope st))
    (hb : ∀ (kV doc pm : Value) (an : Option Addr) (cdv ct : Value) (us : List Value), us.length = ps.length → bindArgs (PySem.W.fnOf m q (defArgs st) (defBody st) (defScope st) .none kV doc pm an cdv ct) ⟨us, []⟩ = pure (ps.zip us))
    (len : ∀ vs H Q E, sp vs H Q E → vs.length = ps.length)
    (body : ∀ (cdv : Value) (A : Around) (outer : List Env) (s : Shared) (H : Hp) (vs : List V) (Q : VK) (E : XK), Room k (A.deeper (envOfC q (defScope st) s.heap.objs.size (He.ma K (He.ga K "Bed") m) cdv)) → sp vs H Q E →
      ∃ t, PSs (cxOf (L2.CX P w) P w K mg base N q (defScope st) (He.ma K (He.ga K "Bed") m) cdv A outer s H E) (defBody st) t ∧ t { nx := fun _ H' => Q .non H', rt := Q } (start N vs) H) : CalM P w K mg base (k + 1) m ps sp := by
  obtain ⟨me, fd, F⟩ := F
  exact ⟨me, fd, F.ok S len body, F.bindsN hb⟩
abbrev WdB (x : Str) : Prop := x.length ≤ 100 ∧ ∀ c ∈ x.cps.toList, c < 16 ^ 8
def spBranches (K : PySem.W.Frag) : Sp := fun vs H Q E => ∃ (a : Addr) (rows : List Sy.Row) (x : Str), vs = [.ref a, .str x] ∧ BedAt K H a rows ∧ WdB x ∧ (isK rows x = true → Q (.int (ar rows x : Nat)) H) ∧ (isK rows x = false → RaE K (.kind x) H E)
theorem sc_branches : FnScope ["self", "kind"] ["self", "kind"] (defScope (clb 39 4)) := ⟨rfl, rfl, rfl, by decide +kernel, rfl, by decide +kernel, by decide +kernel⟩
theorem k_branches (T : Txt K mg) (R : Ers P K mg) (F : MB K "branches" "Bed.branches" (clb 39 4)) : CalM P w K mg base 3 "branches" ["self", "kind"] (spBranches K) := by
  refine calM_of F sc_branches (fun _ _ _ _ _ _ us e => match us, e with | [_, _], _ => rfl) (fun vs H Q E s => by obtain ⟨_, _, _, rfl, _⟩ := s; rfl) ?_
  intro cdv A outer s H vs Q E hr h
  obtain ⟨a, rows, x, rfl, hb, hx, hq, hE⟩ := h
  have hu := hu_of hr
  obtain ⟨dx, dA, tR, tK, dR, ps, h1, hd, h3, h4, h5, h6⟩ := hb.ex
  refine ⟨_, (pss_cons (ps_if (pt_cmp (pc_dnotin hu (pv 1) (pe_fld (pv 0) rfl)))
        (pss_one (ps_raise rfl (takes_of rfl rfl rfl rfl) (mk_uk R.uk hr rfl (pa_cons (pv 1) pa_nil) pass0)))
        pss_nil)
      (pss_one (ps_ret (pe_dget hu (pe_fld (pv 0) rfl) (pv 1) (fun _ _ => rfl))))), ?_⟩
  refine ⟨_, rfl, _, rfl, a, _, dx, _, _, rfl, h1, T.bed.cl, T.bed.nA, rfl, dA, _, rfl, DGet.k (k := Sum.inr x) hd, _, rfl, ?_⟩
  cases e : rows.lookup x with
  | none =>
    have hv : valV (arKV rows) (Sum.inr x : Key) = none := by rw [valV_ar, e]; rfl
    rw [hv]
    refine iteT ⟨_, rfl, mk_ra (fun _ _ => ⟨x, rfl, hx, rfl⟩) (by show 1 ≤ 1000; decide) ((hE (by unfold isK; rw [e]; rfl)).ra (.cons (.str _) .nil))⟩
  | some n =>
    have hv : valV (arKV rows) (Sum.inr x : Key) = some (.int (n : Nat)) := by rw [valV_ar, e]; rfl
    rw [hv]
    refine iteF ⟨_, rfl, a, _, dx, _, _, rfl, h1, T.bed.cl, T.bed.nA, rfl, _, rfl, dA, .int (n : Nat), rfl, ?_, ?_⟩
    · rw [← hv]
      exact DGet.k (k := Sum.inr x) hd
    · have q := hq (by unfold isK; rw [e]; rfl)
      have : ar rows x = n := by unfold ar; rw [e]; rfl
      rw [this] at q
      exact q
def spLeaves (K : PySem.W.Frag) : Sp := fun vs H Q _ => ∃ (a : Addr) (rows : List Sy.Row), vs = [.ref a] ∧ BedAt K H a rows ∧ rows.length ≤ 1000 ∧ ∀ H' p, Same H H' → SqT K H' p ((leafs rows).map V.str) → Q (.ref p) H'
abbrev N_leaves : List Str := ["self", "name", "branches"]
theorem sc_leaves : FnScope N_leaves ["self"] (defScope (clb 39 3)) := ⟨rfl, rfl, rfl, by decide +kernel, rfl, by decide +kernel, by decide +kernel⟩
theorem k_leaves (T : Txt K mg) (F : MB K "leaves" "Bed.leaves" (clb 39 3)) : CalM P w K mg base 1 "leaves" ["self"] (spLeaves K) := by
  refine calM_of F sc_leaves (fun _ _ _ _ _ _ us e => match us, e with | [_], _ => rfl) (fun vs H Q E s => by obtain ⟨_, _, rfl, _⟩ := s; rfl) ?_
  intro cdv A outer s H vs Q E hr h
  obtain ⟨a, rows, rfl, hb, hl, hq⟩ := h
  have sc := sc_leaves
  obtain ⟨dx, dA, tR, tK, dR, ps, h1, hd, h3, h4, h5, h6⟩ := hb.ex
  have hpl := paired_len h6
  refine ⟨_, (pss_one (ps_ret (pe_callTy call_tuple_of (by rfl) T.tuple (by decide +kernel) (pa_cons (pe_lc (own := [("name", 1), ("branches", 2)]) (g := gTup K 2 (gCons (gName 1) (gCons (gName 2) (gNil)))) rfl sc.nd (pi_tup (pe_fld (pv 0) rfl)) (blkOk_by (N := N_leaves) (sc := defScope (clb 39 3)) (by decide +kernel)) (fun _ _ _ _ _ => (pg_tup rfl (pgs_cons (pg_name (i := 1) sc.nd rfl (Or.inl rfl)) (pgs_cons (pg_name (i := 2) sc.nd rfl (Or.inl rfl)) pgs_nil)))) (fun _ _ _ _ _ => (pts_one (pt_cmpR op_eq (pv 2) pe_int (nomark _)))) (fun _ _ _ _ _ => (pv 1))) pa_nil)))), ?_⟩
  refine ⟨_, rfl, a, _, dx, _, _, rfl, h1, T.bed.cl, T.bed.nR, rfl, tR, rfl, ⟨_, h4⟩, fun D hD => lc_it walk_tup (fun i H' => Hs H [(D, .lst ((leafs (rows.take i)).map V.str))] H') ((Hs.start H).new hD) (fun _ _ _ p => Same.sqt p.sub h4) ?_ ?_⟩
  · rintro i x H' _ hi hh ⟨rfl, hx⟩
    rw [List.length_map, hpl] at hi
    obtain ⟨r, hr'⟩ : ∃ r, rows[i]? = some r := ⟨_, List.getElem?_eq_getElem hi⟩
    obtain ⟨q, e1, tq⟩ := paired_at h6 hr'
    rw [List.getElem?_map, e1] at hx
    cases hx
    have etk : rows.take (i + 1) = rows.take i ++ [r] := by rw [List.take_succ, hr']; rfl
    have ll : (leafs (rows.take i)).length ≤ 1000 := by
      unfold leafs
      rw [List.length_map]
      have := List.length_filter_le (fun r : Sy.Row => decide (r.2 = 0)) (rows.take i)
      rw [List.length_take] at this
      omega
    refine ⟨q, _, rfl, Same.sqt hh.sub tq, rfl, _, _, rfl, _, _, rfl, rfl, rfl, _, rfl, rfl, _, rfl, if_dec (fun c => ?_) (fun c => ?_)⟩
    · refine ⟨_, rfl, _, hh.r0, by rw [List.length_map, sizeLine_eq]; omega, ?_⟩
      have c2 : r.2 = 0 := by
        have := V.int.inj c
        omega
      have : leafs (rows.take (i + 1)) = leafs (rows.take i) ++ [r.1] := by
        unfold leafs
        rw [etk, List.filter_append, List.map_append]
        simp [c2]
      rw [this, List.map_append]
      exact hh.w0
    · have c2 : ¬ r.2 = 0 := fun z => c (by rw [z]; rfl)
      have : leafs (rows.take (i + 1)) = leafs (rows.take i) := by
        unfold leafs
        rw [etk, List.filter_append, List.map_append]
        simp [c2]
      rw [this]
      exact hh
  · intro H' hh
    rw [List.length_map, hpl, List.take_length] at hh
    exact ⟨D, _, rfl, .inl ⟨SqL.of hh.r0, fun l hl => hq _ _ (hh.sub.trans (up_same hl)) (SqT.of upd_same)⟩⟩
end
end Sy
namespace Sy
open PySem PySem.Spec PyProof.Rows L2
/-- pairs as they are given -/
abbrev PRow : Type := Str × Int
def toR (r : PRow) : Sy.Row := (r.1, r.2.toNat)
def ofR (r : Sy.Row) : PRow := (r.1, (r.2 : Int))
/-- the first pair that is no pair of a bed -/
def bedG : Nat → List Str → List PRow → Option Er
  | _, _, [] => none
  | i, seen, r :: ps => if nameOk r.1 = false ∨ r.2 < 0 ∨ 3 < r.2 ∨ r.1 ∈ seen then some (.bed (i : Nat)) else bedG (i + 1) (seen ++ [r.1]) ps
/-- what making a bed owes -/
def bedE (ps : List PRow) : Option Er := if 8 < ps.length then some (.many "kinds" 8) else match bedG 0 [] ps with
  | some e => some e
  | none => if ps.any (fun r => decide (r.2 = 0)) = true then none else some (.bed (-1))
theorem toR_ofR (r : Sy.Row) : toR (ofR r) = r := by
  obtain ⟨x, n⟩ := r
  rfl
theorem toR_map (rows : List Sy.Row) : (rows.map ofR).map toR = rows := by
  rw [List.map_map]
  have : (toR ∘ ofR) = id := funext toR_ofR
  rw [this, List.map_id]
theorem paired_of {α β γ : Type} {R : α → β → Prop} {f : γ → β} : ∀ {xs : List α} {ys : List γ}, Paired R xs (ys.map f) → Paired (fun x y => R x (f y)) xs ys
  | _, [], .nil => .nil
  | _, _ :: _, .cons a b => .cons a (paired_of b)
theorem paired_to {α β γ : Type} {R : α → β → Prop} {f : γ → β} : ∀ {xs : List α} {ys : List γ}, Paired (fun x y => R x (f y)) xs ys → Paired R xs (ys.map f)
  | _, [], .nil => .nil
  | _, _ :: _, .cons a b => .cons a (paired_to b)
section
variable {P : Program} {w : World} {K : PySem.W.Frag} {mg : Str → Option Value} {base : Heap}
/-- what a def with a star asks, by what its body asks -/
def spStar (n : Nat) (sp : Sp) : Sp := fun vs H Q E => ∃ ws rest, vs = ws ++ rest ∧ ws.length = n ∧ rest.length ≤ sizeLine ∧ ∀ p, H p = Option.none → sp (ws ++ [V.ref p]) (upd H p (.tup rest)) Q E
theorem fnR_of {x q pv : Str} {st : Stmt} {f : Addr} {fd : FuncData} {N ps : List Str} {k : Nat} {sp : Sp} (F : FunD K x q (defArgs st) (defBody st) (defScope st) [] [] f fd) (S : FnScope N (ps ++ [pv]) (defScope st))
    (hb : ∀ (kV doc pm : Value) (an : Option Addr) (cdv ct : Value) (us rest : List Value), us.length = ps.length → bindArgs (PySem.W.fnOf x q (defArgs st) (defBody st) (defScope st) .none kV doc pm an cdv ct) ⟨us ++ rest, []⟩ = (newTuple rest >>= fun t => pure (ps.zip us ++ [(pv, t)])))
    (body : ∀ (cdv : Value) (A : Around) (outer : List Env) (s : Shared) (H : Hp) (vs : List V) (Q : VK) (E : XK), Room k (A.deeper (envOfC q (defScope st) s.heap.objs.size f cdv)) → sp vs H Q E →
      ∃ t, PSs (cxOf (L2.CX P w) P w K mg base N q (defScope st) f cdv A outer s H E) (defBody st) t ∧ t { nx := fun _ H' => Q .non H', rt := Q } (start N vs) H) : FnR P w K mg base (L2.CX P w) (k + 1) f (spStar ps.length sp) := by
  obtain ⟨oc, od, dV, kV, doc, pm, an, cdv, ct, osl, rfl, lk, hcd, hD, hK⟩ := F.ex
  rcases hD with ⟨_, rfl⟩ | ⟨e, _⟩
  · exact StX.fn_star lk hcd S StX.cxUp (hb kV doc pm an cdv ct) fun A outer s H vs Q E hr h => body cdv A outer s H vs Q E hr h
  · exact absurd rfl e
/-! Bed.__init__ -/
def Keep (x : Addr) (H H' : Hp) : Prop := ∀ a o, a ≠ x → H a = some o → H' a = some o
def spInitB (K : PySem.W.Frag) : Sp := fun vs H Q E => ∃ (x p dx : Addr) (as : List Addr) (ps : List PRow), vs = [.ref x, .ref p] ∧ H x = some (.ins (He.ga K "Bed") dx []) ∧ SqT K H p (as.map V.ref) ∧ Paired (fun q (r : PRow) => SqT K H q [.str r.1, .int r.2]) as ps ∧ ps.length ≤ 100000 ∧ (∀ r ∈ ps, r.1.length ≤ 1000000) ∧
  (bedE ps = none → RowsOk (ps.map toR) → ps = (ps.map toR).map ofR → ∀ H', Keep x H H' → BedAt K H' x (ps.map toR) → Q .non H') ∧ (∀ e, bedE ps = some e → ∀ d H' fs, Keep x H H' → H' d = some (.xd fs) → ImF K H' fs e.fds → E (.ref (He.ga K e.cls)) (some d) H')
abbrev N_init : List Str := ["self", "kinds", "place", "name", "branches", "rank"]
theorem sc_init : FnScope N_init ((["self"] : List Str) ++ (["kinds"] : List Str)) (defScope (clb 39 0)) := ⟨rfl, rfl, rfl, by decide +kernel, rfl, by decide +kernel, by decide +kernel⟩
theorem sqt_del {H : Hp} {x p C dx : Addr} {fs : List (Str × V)} {xs : List V} (h : SqT K H p xs) (hx : H x = some (.ins C dx fs)) : SqT K (L2.del H x) p xs := by
  have ne : ∀ o, H p = some o → (∀ C dx fs, o ≠ .ins C dx fs) → p ≠ x := fun o e n z => by
    rw [z, hx] at e
    exact n _ _ _ (Option.some.inj e).symm
  rcases h with (h | ⟨o, h⟩) | h
  · exact .inl (.inl (by rw [del_ne (ne _ h fun _ _ _ z => by cases z)]; exact h))
  · exact .inl (.inr ⟨o, by rw [del_ne (ne _ h fun _ _ _ z => by cases z)]; exact h⟩)
  · exact .inr h
theorem nx_le (x : Str) (h : nameOk x = true) : x.length ≤ 8 := by
  unfold nameOk at h
  exact of_decide_eq_true (Bool.and_eq_true_iff.mp h).1
theorem rkKV_snoc : ∀ (l : List Sy.Row) (n : Nat) (r : Sy.Row), rkKV n (l ++ [r]) = rkKV n l ++ [(Sum.inr r.1, V.int ((n + l.length : Nat) : Int))]
  | [], n, r => rfl
  | q :: l, n, r => by
    show (Sum.inr q.1, V.int (n : Nat)) :: rkKV (n + 1) (l ++ [r]) = _
    rw [rkKV_snoc l (n + 1) r, show n + 1 + l.length = n + (q :: l).length by rw [List.length_cons]; omega]
    rfl
theorem rkKV_len : ∀ (l : List Sy.Row) (n : Nat), (rkKV n l).length = l.length
  | [], _ => rfl
  | q :: l, n => by
    show (rkKV (n + 1) l).length + 1 = _
    rw [rkKV_len l (n + 1)]
    rfl
theorem rk_none : ∀ {l : List Sy.Row} {n : Nat} {x : Str}, (∀ q ∈ l, q.1 ≠ x) → rk n l x = none
  | [], _, _, _ => rfl
  | q :: l, n, x, h => by
    rw [rk, if_neg (h q List.mem_cons_self)]
    exact rk_none fun z hz => h z (List.mem_cons_of_mem _ hz)
theorem leafs_pos {rows : List Sy.Row} (h : ∃ r ∈ rows, r.2 = 0) : 0 < (leafs rows).length := by
  obtain ⟨r, hr, e⟩ := h
  unfold leafs
  rw [List.length_map]
  exact List.length_pos_of_mem (List.mem_filter.mpr ⟨hr, decide_eq_true e⟩)
theorem lookup_has : ∀ {rows : List Sy.Row} {x : Str}, x ∈ rows.map (·.1) → ∃ n, rows.lookup x = some n
  | [], _, h => nomatch h
  | r :: rs, x, h => by
    rw [lookup_cons]
    by_cases c : r.1 = x
    · rw [if_pos c]
      exact ⟨_, rfl⟩
    · rw [if_neg c]
      rcases List.mem_cons.mp h with h | h
      · exact absurd h.symm c
      · exact lookup_has h
theorem r_init (T : Txt K mg) (R : Ers P K mg) (F : MB K "__init__" "Bed.__init__" (clb 39 0)) (c_is_name : Cal P w K mg base 2 "is_name" ["text"] spName) (c_leaves : CalM P w K mg base 1 "leaves" ["self"] (spLeaves K)) :
    FnR P w K mg base (L2.CX P w) 3 (He.ma K (He.ga K "Bed") "__init__") (spStar 1 (spInitB K)) := by
  obtain ⟨me, fd, F⟩ := F
  obtain ⟨mL, fL, FL, BL⟩ := c_leaves
  refine fnR_of (ps := ["self"]) F sc_init (fun kV doc pm an cdv ct => StX.bind_star1 (B := fun l => bindArgs (PySem.W.fnOf "__init__" "Bed.__init__" (defArgs (clb 39 0)) (defBody (clb 39 0)) (defScope (clb 39 0)) .none kV doc pm an cdv ct) ⟨l, []⟩) (fun _ => rfl) (fun _ _ _ => rfl)) ?_
  intro cdv A outer s H vs Q E hr h
  obtain ⟨x, p, dx, as, ps, rfl, hx, hp, hpr, hps, hnl, hq, hE⟩ := h
  have hu := hu_of hr
  have sc := sc_init
  refine ⟨_, (pss_cons (ps_if (pt_cmpR op_gt (pe_callB call_len_seq (by rfl) T.len (by decide +kernel) (pa_cons (pv 1) pa_nil)) (pe_gint rfl T.MOST_KINDS) (nomark _))
        (pss_one (ps_raise rfl (takes_of rfl rfl rfl rfl) (mk_tm R.tm hr rfl (pa_cons pe_str (pa_cons (pe_gint rfl T.MOST_KINDS) pa_nil)) pass0)))
        pss_nil)
      (pss_cons (ps_fld (pv 0) pe_dnewK rfl)
      (pss_cons (ps_for (passes_of rfl) rfl (pi_enumT (by rfl) T.enumerate (pa_cons (pv 1) pa_nil)) (pg_tup rfl (pgs_cons (pg_name (i := 2) sc.nd rfl (Or.inl rfl)) (pgs_cons (pg_tup rfl (pgs_cons (pg_name (i := 3) sc.nd rfl (Or.inl rfl)) (pgs_cons (pg_name (i := 4) sc.nd rfl (Or.inl rfl)) pgs_nil))) pgs_nil)))
        (pss_cons (ps_if (pt_not (pt_val (pe_cal c_is_name hr (pa_cons (pv 3) pa_nil))))
          (pss_one (ps_raise rfl (takes_of rfl rfl rfl rfl) (mk_ib R.ib hr rfl (pa_cons (pv 2) pa_nil) pass0)))
          pss_nil)
        (pss_cons (ps_if (PW.pt (pw_or (pt_cmpR op_lt (pv 4) pe_int (nomark _)) (pw_or1 (pt_cmpR op_gt (pv 4) (pe_gint rfl T.MOST_BRANCHES) (nomark _)))))
          (pss_one (ps_raise rfl (takes_of rfl rfl rfl rfl) (mk_ib R.ib hr rfl (pa_cons (pv 2) pa_nil) pass0)))
          pss_nil)
        (pss_cons (ps_if (pt_cmp (pc_din hu (pv 3) (pe_fld (pv 0) rfl)))
          (pss_one (ps_raise rfl (takes_of rfl rfl rfl rfl) (mk_ib R.ib hr rfl (pa_cons (pv 2) pa_nil) pass0)))
          pss_nil)
        (pss_one (ps_dput hu (pe_fld (pv 0) rfl) (pv 3) (pv 4) rfl))))))
      (pss_cons (ps_fld (pv 0) (pe_callTy call_tuple_of (by rfl) T.tuple (by decide +kernel) (pa_cons (pv 1) pa_nil)) rfl)
      (pss_cons (ps_fld (pv 0) (pe_callTy call_tuple_of (by rfl) T.tuple (by decide +kernel) (pa_cons (pe_lc (own := [("name", 3), ("branches", 4)]) (g := gTup K 2 (gCons (gName 3) (gCons (gName 4) (gNil)))) rfl sc.nd (pi_tup (pv 1)) (blkOk_by (N := N_init) (sc := defScope (clb 39 0)) (by decide +kernel)) (fun _ _ _ _ _ => (pg_tup rfl (pgs_cons (pg_name (i := 3) sc.nd rfl (Or.inl rfl)) (pgs_cons (pg_name (i := 4) sc.nd rfl (Or.inl rfl)) pgs_nil)))) (fun _ _ _ _ _ => pts_nil) (fun _ _ _ _ _ => (pv 3))) pa_nil)) rfl)
      (pss_cons (ps_fld (pv 0) (pe_dc (own := [("rank", 5), ("name", 3)]) (g := gTup K 2 (gCons (gName 5) (gCons (gName 3) (gNil)))) rfl sc.nd (pi_enumT (by rfl) T.enumerate (pa_cons (pe_fld (pv 0) rfl) pa_nil)) (blkOk_by (N := N_init) (sc := defScope (clb 39 0)) (by decide +kernel)) (fun _ _ _ _ _ => (pg_tup rfl (pgs_cons (pg_name (i := 5) sc.nd rfl (Or.inl rfl)) (pgs_cons (pg_name (i := 3) sc.nd rfl (Or.inl rfl)) pgs_nil)))) (fun _ _ _ _ _ => pts_nil) (fun _ _ _ _ _ => (pv 3)) (fun _ _ _ _ _ => (pv 5))) rfl)
      (pss_one (ps_if (pt_cmpR op_eq (pe_callB call_len_seq (by rfl) T.len (by decide +kernel) (pa_cons (pe_meth0 (pv 0) T.bed.cl mL FL (hr.mono (by decide)) BL .nil (E := E0) (fun pins σ H s e s' I h => passL pins σ H s e s' I h)) pa_nil)) pe_int (nomark _))
        (pss_one (ps_raise rfl (takes_of rfl rfl rfl rfl) (mk_ib R.ib hr rfl (pa_cons (pe_un un_neg pe_int) pa_nil) pass0)))
        pss_nil)))))))), ?_⟩
  have hpl := paired_len hpr
  have k0 : Hs (L2.del H x) [(x, .ins (He.ga K "Bed") dx [])] H := (Hs.start H).take hx
  have hp0 := sqt_del hp hx
  have hpr0 : Paired (fun q (r : PRow) => SqT K (L2.del H x) q [.str r.1, .int r.2]) as ps := Paired.mapP hpr fun _ _ z => sqt_del z hx
  have keep0 : ∀ {B' H' : Hp}, Same (L2.del H x) B' → Same B' H' → Keep x H H' := fun s1 s2 a o n e => s2 _ _ (s1 _ _ (by rw [del_ne n]; exact e))
  -- an error, from where it is raised
  have raise : ∀ (e : Er) (H1 : Hp) (fs : List (Str × V)), bedE ps = some e → Keep x H H1 → ImF K H1 fs e.fds → Ra K e.cls fs H1 E := fun e H1 fs he hk im d H' s ed => hE e he d H' fs (fun a o n z => s _ _ (hk a o n z)) ed (im.mono s)
  generalize hB : L2.del H x = B at *
  refine ⟨_, rfl, p, _, rfl, .inr hp, _, _, rfl, rfl, _, rfl, if_dec (fun c => ?_) (fun c => ?_)⟩
  · rw [List.length_map, hpl] at c
    have he : bedE ps = some (.many "kinds" 8) := by
      unfold bedE
      rw [if_pos (by omega)]
    exact mk_ra (fun _ _ => ⟨_, _, rfl, by decide +kernel, by decide +kernel, by decide +kernel, rfl⟩) (by show 2 ≤ 1000; decide) (raise _ H _ he (fun _ _ _ e => e) (.cons (.int _) (.cons (.str _) .nil)))
  rw [List.length_map, hpl] at c
  have hle : ps.length ≤ 8 := by omega
  have bG : ∀ e, bedG 0 [] ps = some e → bedE ps = some e := fun e h => by
    unfold bedE
    rw [if_neg (by omega), h]
  intro d hd
  have k1 := k0.new (o := .dK []) hd
  refine ⟨_, rfl, x, _, dx, _, rfl, k1.r1, T.bed.cl, T.bed.nA, by decide, ?_⟩
  have k2 := k1.w1 (o' := .ins (He.ga K "Bed") dx (putF "arities" (.ref d) []))
  refine ⟨_, rfl, p, _, rfl, Same.sqt k2.sub hp0, for_it walkE (fun i σ H' => ∃ (t2 t3 t4 : Option V) (rows : List Sy.Row), σ = [some (.ref x), some (.ref p), t2, t3, t4, none] ∧ rows.map ofR = ps.take i ∧ (∀ r ∈ rows, nameOk r.1 = true ∧ r.2 ≤ 3) ∧ (rows.map (·.1)).Nodup ∧ bedG i (rows.map (·.1)) (ps.drop i) = bedG 0 [] ps ∧ Hs B [(d, .dK (arKV rows)), (x, .ins (He.ga K "Bed") dx [("arities", .ref d)])] H')
    ⟨none, none, none, [], rfl, rfl, fun _ z => (nomatch z), List.nodup_nil, rfl, k2⟩ (fun _ _ _ _ ⟨_, _, _, _, _, _, _, _, _, z⟩ => Same.sqt z.sub hp0) ?_ ?_⟩
  · rintro i v σ H1 H2 hi ⟨t2, t3, t4, rows, rfl, etk, hok, hnd, hg, hh⟩ ⟨T1, u1, u2, rfl, hT, rfl, e1, e2⟩
    cases e1
    rw [List.length_map, hpl] at hi
    obtain ⟨r, hr'⟩ : ∃ r, ps[i]? = some r := ⟨_, List.getElem?_eq_getElem hi⟩
    obtain ⟨q, eq, tq⟩ := paired_at hpr0 hr'
    have e2 : (as.map V.ref)[i]? = some u2 := e2
    rw [List.getElem?_map, eq] at e2
    cases e2
    have hm := List.mem_of_getElem? hr'
    have hh := hh.lay (o := .tup [.int (i : Nat), .ref q]) hT
    have hlr : rows.length = i := by
      have := congrArg List.length etk
      rw [List.length_map, List.length_take] at this
      omega
    have hkeep : Keep x H (upd H1 T1 (.tup [.int (i : Nat), .ref q])) := keep0 (Same.refl _) hh.sub
    rw [drop_of hr', bedG] at hg
    have bad : (nameOk r.1 = false ∨ r.2 < 0 ∨ 3 < r.2 ∨ r.1 ∈ rows.map (·.1)) → Ra K "InvalidBed" [("place", .int (i : Nat))] (upd H1 T1 (.tup [.int (i : Nat), .ref q])) E := fun hb => by
      rw [if_pos hb] at hg
      exact raise (.bed (i : Nat)) _ _ (bG _ hg.symm) hkeep (.cons (.int _) .nil)
    have nx := hnl r hm
    refine ⟨T1, _, rfl, SqT.of upd_same, rfl, _, _, rfl, _, _, rfl, q, _, rfl, Same.sqt hh.sub tq, rfl, _, _, rfl, _, _, rfl, rfl, rfl, ?_⟩
    refine ⟨_, rfl, r.1, rfl, nx, _, rfl, ?_⟩
    have rz : ∀ σ' : L2.St, σ'[2]? = some (some (.int (i : Nat))) → True := fun _ _ => trivial
    cases hn : nameOk r.1 with
    | false => exact iteT ⟨_, rfl, mk_ra (fun _ _ => ⟨(i : Nat), rfl, by omega, rfl⟩) (by show 1 ≤ 1000; decide) (bad (.inl hn))⟩
    | true =>
      refine iteF ⟨_, rfl, _, _, rfl, rfl, _, rfl, if_dec (fun c1 => ?_) (fun c1 => ?_)⟩
      · exact ⟨_, rfl, mk_ra (fun _ _ => ⟨(i : Nat), rfl, by omega, rfl⟩) (by show 1 ≤ 1000; decide) (bad (.inr (.inl c1)))⟩
      refine ⟨_, rfl, _, _, rfl, rfl, _, rfl, if_dec (fun c2 => ?_) (fun c2 => ?_)⟩
      · exact ⟨_, rfl, mk_ra (fun _ _ => ⟨(i : Nat), rfl, by omega, rfl⟩) (by show 1 ≤ 1000; decide) (bad (.inr (.inr (.inl c2))))⟩
      refine ⟨_, rfl, _, rfl, x, _, dx, _, _, rfl, hh.r1, T.bed.cl, T.bed.nA, rfl, d, _, rfl, DGet.k (k := Sum.inr r.1) hh.r0, _, rfl, ?_⟩
      by_cases hmem : r.1 ∈ rows.map (·.1)
      · obtain ⟨n, hn'⟩ := lookup_has hmem
        have vn : valV (arKV rows) (Sum.inr r.1 : Key) = some (.int (n : Nat)) := by rw [valV_ar, hn']; rfl
        rw [vn]
        exact iteT ⟨_, rfl, mk_ra (fun _ _ => ⟨(i : Nat), rfl, by omega, rfl⟩) (by show 1 ≤ 1000; decide) (bad (.inr (.inr (.inr hmem))))⟩
      · have hnone : ∀ z ∈ rows, z.1 ≠ r.1 := fun z hz e => hmem (by rw [← e]; exact List.mem_map_of_mem hz)
        have vn : valV (arKV rows) (Sum.inr r.1 : Key) = none := by rw [valV_ar, lookup_none hnone]; rfl
        rw [vn]
        obtain ⟨y, z⟩ := r
        obtain ⟨n, rfl⟩ : ∃ n : Nat, z = (n : Int) := ⟨z.toNat, by have : ¬ z < 0 := c1; omega⟩
        refine iteF ⟨_, rfl, _, rfl, x, _, dx, _, _, rfl, hh.r1, T.bed.cl, T.bed.nA, rfl, _, rfl, d, _, rfl, DPut.k (k := Sum.inr y) hh.r0 (by unfold arKV; rw [List.length_map, sizeLine_eq]; omega), ?_⟩
        refine ⟨_, _, _, rows ++ [(y, n)], rfl, ?_, fun r hr' => ?_, ?_, ?_, ?_⟩
        · rw [List.map_append, etk, List.take_succ, hr']
          rfl
        · rcases List.mem_append.mp hr' with hr' | hr'
          · exact hok r hr'
          · rw [List.mem_singleton.mp hr']
            exact ⟨hn, by have : ¬ (3 : Int) < (n : Int) := c2; show n ≤ 3; omega⟩
        · rw [List.map_append]
          exact List.nodup_append.mpr ⟨hnd, by simp, fun a ha b hb => by
            rw [List.map_cons, List.map_nil, List.mem_singleton] at hb
            rw [hb]
            exact fun z => hmem (by rw [← z]; exact ha)⟩
        · rw [if_neg (fun z => z.elim (fun a => by rw [hn] at a; cases a) fun z => z.elim c1 fun z => z.elim c2 hmem)] at hg
          rw [List.map_append]
          exact hg
        · rw [putK_new _ vn]
          unfold arKV
          rw [List.map_append]
          exact hh.w0
  · rintro σ H1 ⟨t2, t3, t4, rows, rfl, etk, hok, hnd, hg, hh⟩
    rw [List.length_map, hpl, List.take_length] at etk
    rw [List.length_map, hpl, List.drop_length, bedG] at hg
    subst etk
    rw [toR_map] at hq
    have hpr0 : Paired (fun q (r : Sy.Row) => SqT K B q [.str r.1, .int (r.2 : Nat)]) as rows := paired_of (R := fun q (r : PRow) => SqT K B q [.str r.1, .int r.2]) (f := ofR) hpr0
    have hpl := paired_len hpr0
    rw [List.length_map] at hle
    -- rows
    refine ⟨_, rfl, p, _, rfl, .inr ⟨Same.sqt hh.sub hp0, ?_⟩⟩
    refine ⟨_, rfl, x, _, dx, _, rfl, hh.r1, T.bed.cl, T.bed.nR, (by show 1 < 1000; decide), ?_⟩
    have k3 := hh.w1 (o' := .ins (He.ga K "Bed") dx [("arities", .ref d), ("rows", .ref p)])
    -- kinds
    refine ⟨_, rfl, p, rfl, ⟨_, Same.sqt k3.sub hp0⟩, fun D hD => lc_it walk_tup (fun i H' => Hs B [(D, .lst ((rows.take i).map fun r => V.str r.1)), (d, .dK (arKV rows)), (x, .ins (He.ga K "Bed") dx [("arities", .ref d), ("rows", .ref p)])] H') (k3.new hD) (fun _ _ _ z => Same.sqt z.sub hp0) ?_ ?_⟩
    · rintro i v H1 _ hi hh ⟨rfl, hv⟩
      rw [List.length_map, hpl] at hi
      obtain ⟨r, hr'⟩ : ∃ r, rows[i]? = some r := ⟨_, List.getElem?_eq_getElem hi⟩
      obtain ⟨q, eq, tq⟩ := paired_at hpr0 hr'
      rw [List.getElem?_map, eq] at hv
      cases hv
      refine ⟨q, _, rfl, Same.sqt hh.sub tq, rfl, _, _, rfl, _, _, rfl, rfl, rfl, ?_⟩
      simp only [tYes, if_true]
      refine ⟨_, rfl, _, hh.r0, by rw [List.length_map, List.length_take, sizeLine_eq]; omega, ?_⟩
      rw [List.take_succ, hr', List.map_append]
      exact hh.w0
    intro H2 hh
    rw [List.length_map, hpl, List.take_length] at hh
    refine ⟨D, _, rfl, .inl ⟨SqL.of hh.r0, fun tK hK => ?_⟩⟩
    have k4 := (hh.drop).new (o := .tup (rows.map fun r => V.str r.1)) hK
    refine ⟨_, rfl, x, _, dx, _, rfl, k4.r2, T.bed.cl, T.bed.nK, (by show 2 < 1000; decide), ?_⟩
    have k5 := k4.w2 (o' := .ins (He.ga K "Bed") dx [("arities", .ref d), ("rows", .ref p), ("kinds", .ref tK)])
    -- ranks
    refine ⟨_, rfl, x, _, dx, _, _, rfl, k5.r2, T.bed.cl, T.bed.nK, rfl, tK, _, rfl, SqT.of k5.r0, fun R hR => dc_it walkE (fun i H' => Hs B [(R, .dK (rkKV 0 (rows.take i))), (tK, .tup (rows.map fun r => V.str r.1)), (d, .dK (arKV rows)), (x, .ins (He.ga K "Bed") dx [("arities", .ref d), ("rows", .ref p), ("kinds", .ref tK)])] H') (k5.new hR) (fun _ _ _ z => SqT.of z.r1) ?_ ?_⟩
    · rintro i v H1 H2 hi hh ⟨T1, u1, u2, rfl, hT, rfl, e1, e2⟩
      cases e1
      rw [List.length_map] at hi
      obtain ⟨r, hr'⟩ : ∃ r, rows[i]? = some r := ⟨_, List.getElem?_eq_getElem hi⟩
      have e2 : (rows.map fun r => V.str r.1)[i]? = some u2 := e2
      rw [List.getElem?_map, hr'] at e2
      cases e2
      have hh := hh.lay (o := .tup [.int (i : Nat), .str r.1]) hT
      have vn : valV (rkKV 0 (rows.take i)) (Sum.inr r.1 : Key) = none := by rw [valV_rk, rk_none (nodup_take hnd hr')]; rfl
      refine ⟨T1, _, rfl, SqT.of upd_same, rfl, _, _, rfl, _, _, rfl, rfl, rfl, ?_⟩
      simp only [tYes, if_true]
      refine ⟨_, rfl, _, rfl, _, Sum.inr r.1, rfl, hh.r0, by rw [rkKV_len, List.length_take, sizeLine_eq]; omega, ?_⟩
      rw [putK_new _ vn, List.take_succ, hr']
      show Hs B [(R, .dK (rkKV 0 (rows.take i ++ [r]))), _, _, _] _
      rw [rkKV_snoc, List.length_take, show 0 + min i rows.length = i by omega]
      exact hh.w0
    intro H3 hh
    rw [List.length_map, List.take_length] at hh
    refine ⟨_, rfl, x, _, dx, _, rfl, hh.r3, T.bed.cl, T.bed.nRk, (by show 3 < 1000; decide), ?_⟩
    generalize hH4 : upd H3 x (.ins (He.ga K "Bed") dx (putF "ranks" (.ref R) [("arities", .ref d), ("rows", .ref p), ("kinds", .ref tK)])) = H4
    have hx4 : H4 x = some (.ins (He.ga K "Bed") dx (bedF d p tK R)) := by rw [← hH4]; exact upd_same
    have nx : ∀ a o, a ≠ x → H3 a = some o → H4 a = some o := fun a o n e => by rw [← hH4, upd_ne n]; exact e
    have sB : Same B H4 := fun a o e => nx a o (fun z => by rw [z, ← hB, del_same] at e; cases e) (hh.sub a o e)
    have nK : tK ≠ x := ne_of hh.r1 hh.r3 (by intro z; cases z)
    have nd : d ≠ x := ne_of hh.r2 hh.r3 (by intro z; cases z)
    have nR : R ≠ x := ne_of hh.r0 hh.r3 (by intro z; cases z)
    have bed : BedAt K H4 x rows := ⟨dx, d, p, tK, R, as, hx4, nx _ _ nd hh.r2, nx _ _ nR hh.r0, Same.sqt sB hp0, SqT.of (nx _ _ nK hh.r1), Paired.mapP hpr0 fun _ _ z => Same.sqt sB z⟩
    refine ⟨_, rfl, x, dx, _, rfl, hx4, rfl, x, rows, rfl, bed, by omega, fun H5 t s5 ht => ?_⟩
    refine ⟨t, _, rfl, .inr ht, rfl, _, rfl, ?_⟩
    have hkeep : Keep x H H5 := keep0 sB s5
    rw [List.length_map]
    refine if_dec (fun c => ?_) (fun c => ?_)
    · have hno : ((rows.map ofR).any fun r => decide (r.2 = 0)) = false := by
        rw [List.any_eq_false]
        rintro r hr'
        obtain ⟨z, hz, rfl⟩ := List.mem_map.mp hr'
        intro h0
        have h0 : z.2 = 0 := by have : (z.2 : Int) = 0 := of_decide_eq_true h0; omega
        have := leafs_pos ⟨z, hz, h0⟩
        have := V.int.inj c
        omega
      have he : bedE (rows.map ofR) = some (.bed (-1)) := by
        unfold bedE
        rw [if_neg (by rw [List.length_map]; omega), ← hg, hno]
        rfl
      exact ⟨_, rfl, mk_ra (fun _ _ => ⟨-1, rfl, by decide, rfl⟩) (by show 1 ≤ 1000; decide) (raise _ _ _ he hkeep (.cons (.int _) .nil))⟩
    · have hlf : ∃ r ∈ rows, r.2 = 0 := by
        by_cases hz : ∃ r ∈ rows, r.2 = 0
        · exact hz
        · exfalso
          refine c ?_
          have : leafs rows = [] := by
            unfold leafs
            rw [List.map_eq_nil_iff, List.filter_eq_nil_iff]
            exact fun r hr' h0 => hz ⟨r, hr', of_decide_eq_true h0⟩
          rw [this]
          rfl
      have ok : RowsOk rows := ⟨fun r hr' => (hok r hr').1, fun r hr' => (hok r hr').2, hnd, hlf, hle⟩
      have he : bedE (rows.map ofR) = none := by
        unfold bedE
        rw [if_neg (by rw [List.length_map]; omega), ← hg]
        obtain ⟨z, hz, h0⟩ := hlf
        show (if ((rows.map ofR).any fun r => decide (r.2 = 0)) = true then none else some (Er.bed (-1))) = none
        rw [if_pos (List.any_eq_true.mpr ⟨ofR z, List.mem_map_of_mem hz, decide_eq_true (by show (z.2 : Int) = 0; omega)⟩)]
      exact hq he ok rfl _ hkeep (bed.mono (Stay.of s5))
end
end Sy
/-! making a bed, by its name or by the class at hand -/
namespace Sy
open PySem PySem.Spec PyProof.Rows L2
theorem if_nbool {c : Bool} {A B : Prop} (a : c = false → A) (b : c = true → B) : if (!c) = true then A else B := by
  cases c with
  | true => exact iteF (b rfl)
  | false => exact iteT (a rfl)
section
variable {P : Program} {w : World} {K : PySem.W.Frag} {mg : Str → Option Value} {base : Heap}
structure BedM (P : Program) (w : World) (K : PySem.W.Frag) (mg : Str → Option Value) (base : Heap) : Prop where
  mkB : Mk K (He.ga K "Bed") (He.ma K (He.ga K "Bed") "__init__")
  at_ : mg "Bed" = some (.ref (He.ga K "Bed"))
  fn : FnR P w K mg base (L2.CX P w) 3 (He.ma K (He.ga K "Bed") "__init__") (spStar 1 (spInitB K))
variable {X : Cx} {k i : Nat} {p pos sp_ : Pos} {e : Expr} {es : List Expr} {te : TE} {t : TA} {E : XK}
/-- Bed(..) -/
theorem pe_bedX (M : BedM X.prog X.w X.K X.mg X.base) (hr : Room k X.A) (tk : Takes X (fun cls d _ H => E cls d H)) (ha : PA X (e :: es) t) (hk : 4 ≤ k := by decide) (hg : Gl X "Bed" := by rfl)
    (he : starEach (e :: es) X.env = (false, eval e X.env) :: starEach es X.env := by rfl) (hpl : (backTo pos (starEach es X.env)).any (·.1) = false := by rfl) : PE X (.Call (.Name "Bed" p) (e :: es) [] pos) (StX.tMakeR (He.ga X.K "Bed") (spStar 1 (spInitB X.K)) E t) :=
  StX.pe_makeR M.mkB M.fn (hr.mono hk) hg M.at_ (fun pins σ H s e s' I h => passAt tk σ pins H s e s' I h) ha (by decide) he hpl
/-- Bed() -/
theorem pe_bed0 (M : BedM X.prog X.w X.K X.mg X.base) (hr : Room k X.A) (tk : Takes X (fun cls d _ H => E cls d H)) (hk : 4 ≤ k := by decide) (hg : Gl X "Bed" := by rfl) :
    PE X (.Call (.Name "Bed" p) [] [] pos) (StX.tMakeR (He.ga X.K "Bed") (spStar 1 (spInitB X.K)) E tNil) := by
  refine ⟨fun pins s σ H Q I h => ?_⟩
  refine wpAny_Call_Name_kw (ld_glob I hg M.at_ ?_ (by decide))
  exact PySem.W.callWith_K0 I.kIn M.mkB.kp (StX.run_makeR (us := []) M.mkB M.fn (hr.mono hk) (fun pins σ H s e s' I h => passAt tk σ pins H s e s' I h) I .nil h)
/-- cls(*pairs) -/
def tClsS (K : PySem.W.Frag) (i : Nat) (C : Addr) (sp : Sp) (E : XK) (te : TE) : TE := fun σ H Q => σ[i]? = some (some (.ref C)) ∧ te σ H fun y H1 => ∃ a xs, y = V.ref a ∧ (SqT K H1 a xs ∨ SqL K H1 a xs) ∧ ∀ x dx, H1 x = Option.none → H1 dx = Option.none → dx ≠ x →
  sp (V.ref x :: xs) (upd (upd H1 dx (.own x)) x (.ins C dx [])) (fun v H2 => v = .non ∧ Q (.ref x) H2) E
theorem pe_clsS {x : Str} (M : BedM X.prog X.w X.K X.mg X.base) (hr : Room k X.A) (hN : X.N[i]? = some x) (hv : Vis X.env.scope x) (tk : Takes X (fun cls d _ H => E cls d H)) (he : PE X e te) (hk : 4 ≤ k := by decide)
    (hdb : (x == ("__debug__" : Str)) = false := by decide) (hcd : (x == ("__classdict__" : Str)) = false := by decide) (hst : starEach [.Starred e sp_] X.env = [(true, eval e X.env)] := by rfl) :
    PE X (.Call (.Name x p) [.Starred e sp_] [] pos) (tClsS X.K i (He.ga X.K "Bed") (spStar 1 (spInitB X.K)) E te) := by
  refine ⟨fun pins s σ H Q I h => ?_⟩
  obtain ⟨hs, ht⟩ := h
  refine wpAny_Call_Name_kw (thn ((pe_var (pos := p) hN hv hdb hcd).run pins s σ H (fun v H1 => v = .ref (He.ga X.K "Bed") ∧ H1 = H) I ⟨.ref (He.ga X.K "Bed"), hs, rfl, rfl⟩) fun u s1 ⟨v, H1, I1, r1, q1⟩ => ?_)
  obtain ⟨rfl, rfl⟩ := q1
  cases r1
  refine PySem.W.callWith_S (h₀ := X.base) I1.ok.mod.kin M.mkB.kp (thn (he.run pins s1 σ _ _ I1 ht) fun v s2 ⟨y, H2, I2, ry, a, xs, ey, hxs, q⟩ => ?_) hst
  subst ey
  obtain rfl : v = Value.ref a := ry
  exact StX.star_any I2 hxs fun us s3 I3 rv => ⟨I3.kIn, StX.run_makeR M.mkB M.fn (hr.mono hk) (fun pins σ H s e s' I h => passAt tk σ pins H s e s' I h) I3 rv q⟩
/-- what making it asks -/
theorem bed_ofX {as : List Addr} {H : Hp} {Q : VK} {ps : List PRow} (hp : Paired (fun q (r : PRow) => SqT K H q [.str r.1, .int r.2]) as ps) (hl : ps.length ≤ 100000) (hn : ∀ r ∈ ps, r.1.length ≤ 1000000)
    (h : bedE ps = none → RowsOk (ps.map toR) → ps = (ps.map toR).map ofR → ∀ H' a, Same H H' → BedAt K H' a (ps.map toR) → Q (.ref a) H') (hE : ∀ e, bedE ps = some e → RaE K e H E) :
    ∀ x dx, H x = Option.none → H dx = Option.none → dx ≠ x → spStar 1 (spInitB K) (V.ref x :: as.map V.ref) (upd (upd H dx (.own x)) x (.ins (He.ga K "Bed") dx [])) (fun v H2 => v = .non ∧ Q (.ref x) H2) E := by
  intro x dx hx hdx ne
  have hpl := paired_len hp
  have s1 : Same H (upd H dx (.own x)) := up_same hdx
  have hx1 : (upd H dx (.own x)) x = none := by rw [upd_ne ne.symm]; exact hx
  have s2 : Same H (upd (upd H dx (.own x)) x (.ins (He.ga K "Bed") dx [])) := s1.trans (up_same hx1)
  refine ⟨[.ref x], as.map V.ref, rfl, rfl, by rw [List.length_map, sizeLine_eq]; omega, fun p hp' => ?_⟩
  have s3 := s2.trans (up_same (o := .tup (as.map V.ref)) hp')
  have nx : x ≠ p := fun z => by rw [← z, upd_same] at hp'; cases hp'
  have sk : ∀ {H' : Hp}, Keep x (upd (upd (upd H dx (.own x)) x (.ins (He.ga K "Bed") dx [])) p (.tup (as.map V.ref))) H' → Same H H' := fun keep b o e => keep b o (fun z => by rw [z, hx] at e; cases e) (s3 _ _ e)
  exact ⟨x, p, dx, as, ps, rfl, by rw [upd_ne nx]; exact upd_same, SqT.of upd_same, Paired.mapP hp fun _ _ z => Same.sqt s3 z, hl, hn, fun he ok hps H' keep bed => ⟨rfl, h he ok hps H' x (sk keep) bed⟩,
    fun e he d H' fs keep hd hf => hE e he d H' fs (sk keep) hd hf⟩
end
end Sy
/-! Bed.read -/
namespace Sy
open PySem PySem.Spec PyProof.Rows L2
def letters (x : Str) : Bool := Txt.isascii x && (Txt.isalpha x && Txt.islower x)
def isDig (c : Nat) : Bool := decide (48 ≤ c) && decide (c ≤ 57)
/-- one piece of a bed's text -/
def pieceR (y : Str) : Option PRow := if letters (Txt.partition y "/").1 = true then
  (match (Txt.partition y "/").2.2.cps.toList with
  | [c] => if isDig c = true then some ((Txt.partition y "/").1, ((c - 48 : Nat) : Int)) else none
  | _ => none) else none
def piecesR : List Str → Option (List PRow)
  | [] => some []
  | y :: ys => match pieceR y with
    | none => none
    | some r => (piecesR ys).map (r :: ·)
def readE (x : Str) : Option Er := match piecesR (Txt.split x " ") with
  | none => some (.text x)
  | some ps => bedE ps
theorem piecesR_fail : ∀ {l : List Str} {y : Str}, y ∈ l → pieceR y = none → piecesR l = none
  | z :: l, y, h, e => by
    rw [piecesR]
    rcases List.mem_cons.mp h with rfl | h
    · rw [e]
    · cases pieceR z with
      | none => rfl
      | some r => rw [piecesR_fail h e]; rfl
theorem piecesR_take : ∀ {l : List Str} {ps : List PRow} {i : Nat} {y : Str} {r : PRow}, piecesR (l.take i) = some ps → l[i]? = some y → pieceR y = some r → piecesR (l.take (i + 1)) = some (ps ++ [r])
  | z :: l, ps, 0, y, r, h, e, g => by
    simp only [List.take_zero, piecesR, Option.some.injEq] at h
    simp only [List.getElem?_cons_zero, Option.some.injEq] at e
    subst h e
    simp [piecesR, g]
  | z :: l, ps, i + 1, y, r, h, e, g => by
    simp only [List.take_succ_cons, piecesR] at h ⊢
    simp only [List.getElem?_cons_succ] at e
    cases hz : pieceR z with
    | none => rw [hz] at h; cases h
    | some q =>
      rw [hz] at h
      simp only at h ⊢
      cases hl : piecesR (l.take i) with
      | none => rw [hl] at h; cases h
      | some qs =>
        rw [hl] at h
        simp only [Option.map_some, Option.some.injEq] at h
        subst h
        rw [piecesR_take hl e g]
        rfl
  | [], ps, i, y, r, h, e, g => by simp at e
theorem pieceR_name {y : Str} {r : PRow} (h : pieceR y = some r) : r.1 = (Txt.partition y "/").1 := by
  unfold pieceR at h
  split at h
  · split at h
    · split at h
      · cases h; rfl
      · cases h
    · cases h
  · cases h
theorem dig_int : ∀ n, n < 10 → PySem.intText? ⟨#[48 + n]⟩ = some (n : Int) := by decide +kernel
theorem dig_mem (c : Nat) : c ∈ ("0123456789" : Str).cps.toList ↔ isDig c = true := by
  have e : ("0123456789" : Str).cps.toList = [48, 49, 50, 51, 52, 53, 54, 55, 56, 57] := by decide +kernel
  rw [e]
  unfold isDig
  simp only [List.mem_cons, List.not_mem_nil, or_false, Bool.and_eq_true, decide_eq_true_eq]
  omega
theorem part_le (y z : Str) : (Txt.partition y z).1.length ≤ y.length := (fact_partition y z).1
theorem str_one {x : Str} (h : (x.length : Int) = 1) : ∃ c, x = ⟨#[c]⟩ := by
  obtain ⟨⟨l⟩⟩ := x
  have h : l.length = 1 := by
    have h : ((⟨l⟩ : Array Nat).size : Int) = 1 := h
    have : (l.length : Int) = 1 := by simpa using h
    omega
  match l, h with
  | [c], _ => exact ⟨c, rfl⟩
theorem paired_app {α β : Type} {R : α → β → Prop} : ∀ {xs xs' : List α} {ys ys' : List β}, Paired R xs ys → Paired R xs' ys' → Paired R (xs ++ xs') (ys ++ ys')
  | _, _, _, _, .nil, b => b
  | _, _, _, _, .cons a t, b => .cons a (paired_app t b)
structure TxtW (mg : Str → Option Value) : Prop where
  digits : ∃ t, mg "DIGITS" = some (.str "0123456789" t)
  str : mg "str" = none
section
variable {P : Program} {w : World} {K : PySem.W.Frag} {mg : Str → Option Value} {base : Heap}
abbrev SgX (x : Str) : Prop := ∀ c ∈ x.cps.toList, c < 16 ^ 8
def spRead (K : PySem.W.Frag) : Sp := fun vs H Q E => ∃ x : Str, vs = [.ref (He.ga K "Bed"), .str x] ∧ x.length ≤ 10000 ∧ SgX x ∧
  (∀ ps, piecesR (Txt.split x " ") = some ps → bedE ps = none → RowsOk (ps.map toR) → ps = (ps.map toR).map ofR → ∀ H' a, Same H H' → BedAt K H' a (ps.map toR) → Q (.ref a) H') ∧ (∀ e, readE x = some e → RaE K e H E)
abbrev rdA (K : PySem.W.Frag) : Addr := He5.wf K (He.ga K "Bed") "classmethod" "read"
abbrev N_read : List Str := ["cls", "text", "pairs", "piece", "name", "_", "digit"]
theorem sc_read : FnScope N_read ["cls", "text"] (defScope (clb 39 1)) := ⟨rfl, rfl, rfl, by decide +kernel, rfl, by decide +kernel, by decide +kernel⟩
theorem sum_mem {n : Nat} : ∀ {l : List Nat}, n ∈ l → n ≤ l.sum
  | m :: l, h => by
    rw [List.sum_cons]
    rcases List.mem_cons.mp h with rfl | h
    · omega
    · have := sum_mem h
      omega
theorem piece_le {x z y : Str} (hz : 1 ≤ z.length) (h : y ∈ Txt.split x z) : y.length ≤ x.length := by
  have w := split_weight x z hz
  have m := sum_mem (List.mem_map_of_mem (f := (·.length)) h)
  have : 1 ≤ (Txt.split x z).length := List.length_pos_of_mem h
  omega
theorem f_read (T : Txt K mg) (TS : TxtW mg) (R : Ers P K mg) (M : BedM P w K mg base) (F : ∃ fd, FunD K "read" "Bed.read" (defArgs (clb 39 1)) (defBody (clb 39 1)) (defScope (clb 39 1)) [] [] (rdA K) fd) (c_only_letters : Cal P w K mg base 1 "only_letters" ["text"] spLetters) :
    ∃ fd, FnOk P w K mg base (L2.CX P w) 6 (rdA K) fd ["cls", "text"] (spRead K) ∧ Binds K fd ["cls", "text"] [] := by
  obtain ⟨fd, F⟩ := F
  refine ⟨fd, F.ok sc_read (fun vs H Q E s => by obtain ⟨_, rfl, _⟩ := s; rfl) ?_, F.bindsN fun _ _ _ _ _ _ us e => match us, e with | [_, _], _ => rfl⟩
  intro cdv A outer s H vs Q E hr h
  obtain ⟨x, rfl, hx, hsg, hq, hE⟩ := h
  have sc := sc_read
  refine ⟨_, (pss_cons (ps_set (i := 2) sc.nd rfl (Or.inl rfl) (pe_lst pa_nil))
      (pss_cons (ps_for (passes_of rfl) rfl (pi_list (pe_split (pv 1) pe_str)) (pg_name (i := 3) sc.nd rfl (Or.inl rfl))
        (pss_cons (ps_asg (pe_partition (pv 3) pe_str) (pg_tup rfl (pgs_cons (pg_name (i := 4) sc.nd rfl (Or.inl rfl)) (pgs_cons (pg_name (i := 5) sc.nd rfl (Or.inl rfl)) (pgs_cons (pg_name (i := 6) sc.nd rfl (Or.inl rfl)) pgs_nil)))))
        (pss_cons (ps_if (pt_not (pt_val (pe_cal c_only_letters hr (pa_cons (pv 4) pa_nil))))
          (pss_one (ps_raise rfl (takes_of rfl rfl rfl rfl) (mk_it R.it hr rfl (pa_cons (pv 1) pa_nil) pass0)))
          pss_nil)
        (pss_cons (ps_if (PW.pt (pw_or (pt_cmpR op_ne (pe_callB call_len_str (by rfl) T.len (by decide +kernel) (pa_cons (pv 6) pa_nil)) pe_int (nomark _)) (pw_or1 (pt_cmpR op_notIn_sign (pv 6) (pe_gstr rfl TS.digits) rfl))))
          (pss_one (ps_raise rfl (takes_of rfl rfl rfl rfl) (mk_it R.it hr rfl (pa_cons (pv 1) pa_nil) pass0)))
          pss_nil)
        (pss_one (ps_expr (pe_bm PySem.F.plainAttrs_list PySem.F.slot_list_append PySem.F.type_list_append mt_append (pv 2) (pa_cons (pe_tup (pa_cons (pv 4) (pa_cons (pe_callTy call_int_str (by rfl) T.int (by decide +kernel) (pa_cons (pv 6) pa_nil)) pa_nil))) pa_nil))))))))
      (pss_one (ps_ret (pe_clsS (i := 0) M hr rfl (.inl rfl) (takes_of rfl rfl rfl rfl) (pv 2)))))), ?_⟩
  have lr := split_le x " "
  refine ⟨by decide, fun PD hPD => ?_⟩
  have h1 := (Hs.start H).new (o := .lst []) hPD
  refine ⟨_, rfl, ⟨_, rfl⟩, x, " ", rfl, rfl, by decide, by rw [sizeLine_eq]; omega, fun S hS => ?_⟩
  have hpc : ∀ y ∈ Txt.split x " ", y.length ≤ x.length := fun y hy => piece_le (by decide) hy
  have rE : piecesR (Txt.split x " ") = none → readE x = some (.text x) := fun z => by unfold readE; rw [z]
  have rS : ∀ ps, piecesR (Txt.split x " ") = some ps → readE x = bedE ps := fun ps z => by unfold readE; rw [z]
  generalize Txt.split x " " = l at *
  have h2 := h1.new (o := .lst (l.map V.str)) hS
  refine ⟨S, rfl, ⟨_, SqL.of h2.r0⟩, for_list (K := K) (a := S) (xs := l.map V.str) (fun i σ H' => ∃ (t3 t4 t5 t6 : Option V) (B : Hp) (as : List Addr) (ps : List PRow), σ = [some (.ref (He.ga K "Bed")), some (.str x), some (.ref PD), t3, t4, t5, t6] ∧ Same H B ∧ Hs B [(S, .lst (l.map V.str)), (PD, .lst (as.map V.ref))] H' ∧ as.length = i ∧ (∀ r ∈ ps, r.1.length ≤ x.length) ∧ piecesR (l.take i) = some ps ∧ Paired (fun q (r : PRow) => SqT K B q [.str r.1, .int r.2]) as ps)
    ⟨none, none, none, none, H, [], [], rfl, Same.refl H, h2, rfl, fun _ z => (nomatch z), rfl, .nil⟩ (fun _ _ _ _ ⟨_, _, _, _, _, _, _, _, _, h, _⟩ => SqL.of h.r0) ?_ ?_⟩
  · rintro i v σ H1 hv ⟨t3, t4, t5, t6, B, as, ps, rfl, sB, hh, hal, hpl, hps, hpr⟩
    obtain ⟨y, hy, rfl⟩ := map_at hv
    have hi : i < l.length := (List.getElem?_eq_some_iff.mp hy).1
    have ym := List.mem_of_getElem? hy
    have yl := hpc y ym
    have bad : pieceR y = none → ∀ {H' : Hp}, Same H H' → RaE K (.text x) H' E := fun z H' s => (hE _ (rE (piecesR_fail ym z))).mono s
    refine ⟨_, rfl, ⟨_, rfl⟩, y, "/", rfl, rfl, by decide, by rw [sizeLine_eq]; omega, fun T1 hT1 => ?_⟩
    have pl := part_le y "/"
    have pl2 : (Txt.partition y "/").2.2.length ≤ y.length := (fact_partition y "/").2.2
    have e1 : pieceR y = if letters (Txt.partition y "/").1 = true then (match (Txt.partition y "/").2.2.cps.toList with
      | [c] => if isDig c = true then some ((Txt.partition y "/").1, ((c - 48 : Nat) : Int)) else none
      | _ => none) else none := rfl
    generalize (Txt.partition y "/").1 = nm at *
    generalize (Txt.partition y "/").2.1 = sl at *
    generalize (Txt.partition y "/").2.2 = dg at *
    refine ⟨T1, _, rfl, SqT.of upd_same, rfl, _, _, rfl, _, _, rfl, _, _, rfl, rfl, ?_⟩
    have g1 := hh.lay (o := .tup [.str nm, .str sl, .str dg]) hT1
    have sH := sB.trans g1.sub
    refine ⟨_, rfl, nm, rfl, ?_⟩
    refine ⟨_, rfl, if_nbool (fun c => ?_) (fun c => ?_)⟩
    · exact ⟨_, rfl, mk_ra (fun _ _ => ⟨x, rfl, ⟨by omega, hsg⟩, rfl⟩) (by show 1 ≤ 1000; decide) ((bad (by rw [e1]; unfold letters; rw [c]; rfl) sH).ra (.cons (.str _) .nil))⟩
    have c0 : letters nm = true := c
    refine ⟨_, rfl, dg, rfl, by rw [sizeLine_eq]; omega, rfl, _, rfl, ?_⟩
    show if (!decide _) = true then _ else _
    refine if_ndec (fun c1 => ?_) (fun c1 => ?_)
    · refine ⟨_, rfl, mk_ra (fun _ _ => ⟨x, rfl, ⟨by omega, hsg⟩, rfl⟩) (by show 1 ≤ 1000; decide) ((bad ?_ sH).ra (.cons (.str _) .nil))⟩
      rw [e1, if_pos c0]
      split
      · rename_i c hc
        exact absurd (by rw [TL.len_tl dg]; show V.int (((dg.cps.toList).length : Nat) : Int) = _; rw [hc]; rfl) c1
      · rfl
    obtain ⟨c, rfl⟩ := str_one (V.int.inj c1)
    have e2 : (⟨#[c]⟩ : Str).cps.toList = [c] := rfl
    rw [if_pos c0, e2] at e1
    simp only at e1
    refine ⟨_, rfl, c, "0123456789", rfl, rfl, _, rfl, ?_⟩
    by_cases hd : isDig c = true
    · rw [if_pos hd] at e1
      rw [decide_eq_true ((dig_mem c).mpr hd)]
      have hdd : 48 ≤ c ∧ c ≤ 57 := by
        unfold isDig at hd
        simpa using hd
      have hin : PySem.intText? ⟨#[c]⟩ = some ((c - 48 : Nat) : Int) := by
        have := dig_int (c - 48) (by omega)
        rw [show 48 + (c - 48) = c by omega] at this
        exact this
      refine iteF ?_
      refine ⟨_, rfl, .inl ⟨rfl, _, SqL.of g1.r1⟩, _, rfl, _, rfl, _, _, rfl, hin, (by show 1 ≤ 640; decide), (by show 2 ≤ sizeLine; decide), fun T2 hT2 => ?_⟩
      have g2 := g1.tup (o := .tup [.str nm, .int ((c - 48 : Nat) : Int)]) hT2
      have sB2 : Same B (upd B T2 (.tup [.str nm, .int ((c - 48 : Nat) : Int)])) := up_same (g1.sub.free hT2)
      refine ⟨PD, _, _, rfl, rfl, g2.r1, by rw [List.length_map, hal, sizeLine_eq]; omega, ?_⟩
      refine ⟨_, _, _, _, _, as ++ [T2], ps ++ [(nm, ((c - 48 : Nat) : Int))], rfl, sB.trans sB2, ?_, by rw [List.length_append, hal]; rfl, fun r hr' => ?_, piecesR_take hps hy e1, ?_⟩
      · rw [List.map_append]
        exact g2.w1
      · rcases List.mem_append.mp hr' with hr' | hr'
        · exact hpl r hr'
        · rw [List.mem_singleton.mp hr']
          exact Nat.le_trans pl yl
      · exact paired_app (Paired.mapP hpr fun _ _ z => Same.sqt sB2 z) (.cons (SqT.of upd_same) .nil)
    · have hd : isDig c = false := by simpa using hd
      rw [hd] at e1
      have : decide (c ∈ ("0123456789" : Str).cps.toList) = false := decide_eq_false fun z => by rw [(dig_mem c).mp z] at hd; cases hd
      rw [this]
      exact iteT ⟨_, rfl, mk_ra (fun _ _ => ⟨x, rfl, ⟨by omega, hsg⟩, rfl⟩) (by show 1 ≤ 1000; decide) ((bad e1 sH).ra (.cons (.str _) .nil))⟩
  · rintro σ H1 ⟨t3, t4, t5, t6, B, as, ps, rfl, sB, hh, hal, hpl, hps, hpr⟩
    rw [List.length_map, List.take_length] at hps
    rw [List.length_map] at hal
    have sH := sB.trans hh.sub
    have hpp := paired_len hpr
    refine ⟨rfl, _, rfl, PD, _, rfl, .inr (SqL.of hh.r1), bed_ofX (Paired.mapP hpr fun _ _ z => Same.sqt hh.sub z) (by omega) (fun r hr' => Nat.le_trans (hpl r hr') (by omega)) (fun he ok hr' H' a s b => hq ps hps he ok hr' H' a (sH.trans s) b) (fun e he => (hE e (by rw [rS ps hps]; exact he)).mono sH)⟩
end
end Sy
/-! x in o, by an own __contains__ that returns a bool (own rule over OpenK's in_K) -/
namespace Sy
open PySem PySem.Spec PyProof.Rows L2
def tInOwn (C : Addr) (sp : Sp) (E : XK) (ty td : TE) : TE := fun σ H Q => ty σ H fun y H1 => td σ H1 fun x H2 => ∃ a dx fs, x = .ref a ∧ H2 a = some (.ins C dx fs) ∧ sp [.ref a, y] H2 (fun v H3 => ∃ b, v = .bl b ∧ Q (.bl b) H3) E
theorem pc_inOwn {X : Cx} {CI : CXT} {k : Nat} {C f : Addr} {fd : FuncData} {ps : List Str} {sp : Sp} {E : XK} {ty td : TE} {i o : Expr} (hm : Meth X.K C "__contains__" f) (F : FnOk X.prog X.w X.K X.mg X.base CI k f fd ps sp) (hr : Room k X.A)
    (hb : Binds X.K fd ps []) (hx : Passes CI X E) (hi : PE X i ty) (ho : PE X o td) : PC X .In i o (tInOwn C sp E ty td) := by
  refine ⟨fun pins s σ H Q I h => ?_⟩
  refine thn (hi.run pins s σ H _ I h) fun iv s1 ⟨y, H1, I1, ry, q1⟩ => thn (ho.run pins s1 σ H1 _ I1 q1) fun u s2 ⟨x, H2, I2, rx, a, dx, fs, ex, ha, q2⟩ => ?_
  subst ex
  obtain rfl : u = Value.ref a := rx
  obtain ⟨mA, J, _⟩ := ins_get I2.hok ha
  obtain ⟨od, J, _⟩ := J.look
  obtain ⟨m, hF⟩ := I2.fr
  refine PySem.W.in_K hF I2.ok.mod.kin J hm.at_ hm.fn ?_
  refine wpAny_mono (run_fn (us := [.ref a, iv]) (vs := [.ref a, y]) (dvs := []) F hr hb .nil hx I2 (.cons rfl (.cons ry .nil)) q2) (fun v s' ⟨w, H3, I3, rw', b, eb, q⟩ => ?_) fun _ _ z => z
  subst eb
  obtain rfl : v = Value.bool b := rw'
  exact wpAny_truthy_bool ⟨.bl b, H3, I3, rfl, q⟩
end Sy
/-! readers with any rows: _entered, _check_marks -/
namespace Sy
open PySem PySem.Spec PyProof.Rows L2
abbrev ZRow : Type := Str × List Int × Int
abbrev ZKey : Type := Str × List Int
def vI (l : List Int) : List V := l.map V.int
def iZ (l : List Int) : List Key := l.map Sum.inl
def zky (r : ZRow) : ZKey := (r.1, r.2.1)
def zkey (k : ZKey) : NKey := (Sum.inr k.1, iZ k.2)
def tabZ (rws : List ZRow) : List (NKey × V) := rws.map fun r => (zkey (zky r), V.int r.2.2)
theorem iZ_kV (l : List Int) : (iZ l).map kV = vI l := by
  unfold iZ vI
  rw [List.map_map]
  rfl
theorem iZ_inj : ∀ {l m : List Int}, iZ l = iZ m → l = m
  | [], [], _ => rfl
  | [], _ :: _, h => by simp [iZ] at h
  | _ :: _, [], h => by simp [iZ] at h
  | a :: l, b :: m, h => by
    simp only [iZ, List.map_cons, List.cons.injEq, Sum.inl.injEq] at h
    rw [iZ_inj (l := l) (m := m) h.2, h.1]
theorem zkey_iff {k m : ZKey} : zkey k = zkey m ↔ k = m := by
  constructor
  · intro h
    unfold zkey at h
    injection h with h1 h2
    injection h1 with h1
    exact Prod.ext h1 (iZ_inj h2)
  · intro h
    rw [h]
def ZrAt (K : PySem.W.Frag) (H : Hp) (q : Addr) (r : ZRow) : Prop := ∃ c, SqT K H q [.str r.1, .ref c, .int r.2.2] ∧ SqT K H c (vI r.2.1)
theorem ZrAt.mono {K : PySem.W.Frag} {H H' : Hp} {q : Addr} {r : ZRow} (h : ZrAt K H q r) (s : Stay H H') : ZrAt K H' q r := by
  obtain ⟨c, h1, h2⟩ := h
  exact ⟨c, s.sqt h1, s.sqt h2⟩
theorem NK.ofZ {K : PySem.W.Frag} {H : Hp} {x : Str} {l : List Int} {b c : Addr} (h1 : SqT K H b [.str x, .ref c]) (h2 : SqT K H c (vI l)) : NK K H (zkey (x, l)) b := ⟨c, h1, by
  show SqT K H c ((iZ l).map kV)
  rw [iZ_kV]
  exact h2⟩
def lkZ (rws : List ZRow) (k : ZKey) : Option Int := (rws.find? fun r => decide (zky r = k)).map (·.2.2)
theorem valV_tabZ (rws : List ZRow) (k : ZKey) : valV (tabZ rws) (zkey k) = (lkZ rws k).map V.int := by
  unfold tabZ valV lkZ
  rw [List.find?_map, Option.map_map, Option.map_map]
  have : ((fun kv : NKey × V => decide (kv.1 = zkey k)) ∘ fun r : ZRow => (zkey (zky r), V.int r.2.2)) = fun r => decide (zky r = k) := by
    funext r
    show decide (zkey (zky r) = zkey k) = decide (zky r = k)
    exact decide_eq_decide.mpr zkey_iff
  rw [this]
  rfl
theorem lkZ_none {rws : List ZRow} {k : ZKey} : lkZ rws k = none ↔ k ∉ rws.map zky := by
  unfold lkZ
  rw [Option.map_eq_none_iff, List.find?_eq_none]
  constructor
  · intro h hm
    obtain ⟨r, hr, e⟩ := List.mem_map.mp hm
    exact h r hr (decide_eq_true e)
  · intro h r hr e
    exact h (List.mem_map.mpr ⟨r, hr, of_decide_eq_true e⟩)
theorem putK_tabZ {rws : List ZRow} {r : ZRow} (h : zky r ∉ rws.map zky) : putK (tabZ rws) (zkey (zky r)) (V.int r.2.2) = tabZ (rws ++ [r]) := by
  unfold putK
  rw [valV_any, valV_tabZ, lkZ_none.mpr h]
  unfold tabZ
  rw [List.map_append]
  rfl
def inS (many n : Int) : Bool := decide (0 ≤ n) && decide (n < many)
theorem inS_iff {many n : Int} : inS many n = true ↔ 0 ≤ n ∧ n < many := by unfold inS; simp
def zOk (rows : List Sy.Row) (many : Int) (r : ZRow) : Bool := isK rows r.1 && (decide (r.2.1.length = ar rows r.1) && (r.2.1 ++ [r.2.2]).all (inS many))
def entF (rows : List Sy.Row) (many : Int) : List ZKey → Nat → List ZRow → Option Nat
  | _, _, [] => none
  | sn, i, r :: rs => if zOk rows many r = true ∧ zky r ∉ sn then entF rows many (sn ++ [zky r]) (i + 1) rs else some i
def mrkF (many : Int) : Int → List Int → Bool
  | _, [] => true
  | last, m :: ms => if last < m ∧ m < many then mrkF many m ms else false
theorem entF_none {rows : List Sy.Row} {many : Int} : ∀ {rws : List ZRow} {sn : List ZKey} {i : Nat}, entF rows many sn i rws = none → (∀ r ∈ rws, zOk rows many r = true) ∧ (∀ r ∈ rws, zky r ∉ sn) ∧ (rws.map zky).Nodup
  | [], _, _, _ => ⟨fun _ z => (nomatch z), fun _ z => (nomatch z), List.nodup_nil⟩
  | r :: rs, sn, i, h => by
    rw [entF] at h
    by_cases c : zOk rows many r = true ∧ zky r ∉ sn
    · rw [if_pos c] at h
      obtain ⟨a, b, d⟩ := entF_none h
      refine ⟨fun q hq => ?_, fun q hq => ?_, ?_⟩
      · rcases List.mem_cons.mp hq with rfl | hq
        · exact c.1
        · exact a q hq
      · rcases List.mem_cons.mp hq with rfl | hq
        · exact c.2
        · exact fun z => b q hq (List.mem_append_left _ z)
      · rw [List.map_cons, List.nodup_cons]
        refine ⟨fun hm => ?_, d⟩
        obtain ⟨q, hq, e⟩ := List.mem_map.mp hm
        exact b q hq (by rw [e]; exact List.mem_append_right _ (List.mem_singleton.mpr rfl))
    · rw [if_neg c] at h
      cases h
theorem lookup_at {x : Str} {n : Nat} : ∀ {rows : List Sy.Row}, rows.lookup x = some n → (x, n) ∈ rows
  | [], h => by cases h
  | (y, m) :: l, h => by
    rw [List.lookup_cons] at h
    by_cases c : x = y
    · subst c
      have : (x == x) = true := beq_self_eq_true x
      rw [this] at h
      cases h
      exact List.mem_cons_self
    · have : (x == y) = false := beq_eq_false_iff_ne.mpr c
      rw [this] at h
      exact List.mem_cons_of_mem _ (lookup_at h)
theorem isK_in (x : Str) : ∀ rows : List Sy.Row, inV (.str x) (rows.map fun r => V.str r.1) = isK rows x
  | [] => rfl
  | r :: rs => by
    have ih := isK_in x rs
    unfold isK inV at *
    rw [List.map_cons, List.any_cons, ih, lookup_cons]
    have : eqV (V.str r.1) (V.str x) = decide (r.1 = x) := by
      by_cases h : r.1 = x
      · rw [h]; simp [eqV]
      · simp [eqV, h]
    rw [this]
    by_cases h : r.1 = x
    · simp [h]
    · simp [h]
theorem flat_kd (rows : List Sy.Row) : (rows.map fun r => V.str r.1).all flatV = true := by
  rw [List.all_map, List.all_eq_true]
  intro x _
  rfl
theorem isK_mem' {rows : List Sy.Row} {x : Str} (h : isK rows x = true) : ∃ r ∈ rows, r.1 = x := by
  induction rows with
  | nil => cases h
  | cons r rs ih =>
    unfold isK at h ih
    rw [lookup_cons] at h
    by_cases c : r.1 = x
    · exact ⟨r, List.mem_cons_self, c⟩
    · rw [if_neg c] at h
      obtain ⟨q, hq, e⟩ := ih h
      exact ⟨q, List.mem_cons_of_mem _ hq, e⟩
theorem wdB_of {x : Str} (h : nameOk x = true) : WdB x := by
  have hl := nx_le x h
  unfold nameOk at h
  have h2 := (Bool.and_eq_true_iff.mp (Bool.and_eq_true_iff.mp h).2).1
  refine ⟨by omega, fun c hc => ?_⟩
  unfold Txt.isascii at h2
  rw [← Array.all_toList, List.all_eq_true] at h2
  have := of_decide_eq_true (h2 c hc)
  exact Nat.lt_of_lt_of_le this (by decide)
theorem RowsOk.wdB {rows : List Sy.Row} (ok : RowsOk rows) {x : Str} (h : isK rows x = true) : WdB x := by
  obtain ⟨r, hr, rfl⟩ := isK_mem' h
  exact wdB_of (ok.nm r hr)
/-- a method of the class C -/
structure MC (K : PySem.W.Frag) (C m q : Str) (st : Stmt) : Prop where
  me : Meth K (He.ga K C) m (He.ma K (He.ga K C) m)
  fn : ∃ fd, FunD K m q (defArgs st) (defBody st) (defScope st) [] [] (He.ma K (He.ga K C) m) fd
structure CalC (P : Program) (w : World) (K : PySem.W.Frag) (mg : Str → Option Value) (base : Heap) (k : Nat) (C m : Str) (ps : List Str) (sp : Sp) : Prop where
  me : Meth K (He.ga K C) m (He.ma K (He.ga K C) m)
  fn : ∃ fd, FnOk P w K mg base (L2.CX P w) k (He.ma K (He.ga K C) m) fd ps sp ∧ Binds K fd ps []
section
variable {P : Program} {w : World} {K : PySem.W.Frag} {mg : Str → Option Value} {base : Heap}
theorem hu4_of {k : Nat} {A : Around} (h : Room k A) : A.units + 4 < cLine := by have := h.un; omega
theorem RowsOk.ar_le {rows : List Sy.Row} (ok : RowsOk rows) (x : Str) : ar rows x ≤ 3 := by
  unfold ar
  cases e : rows.lookup x with
  | none => exact Nat.zero_le _
  | some n => exact ok.br _ (lookup_at e)
/-! _entered -/
def spEnt (P : Program) (w : World) (K : PySem.W.Frag) : Sp := fun vs H Q E => ∃ (b t : Addr) (many : Int) (rows : List Sy.Row) (ps : List Addr) (rws : List ZRow), vs = [.ref b, .int many, .ref t] ∧ BedAt K H b rows ∧ RowsOk rows ∧ SqT K H t (ps.map V.ref) ∧ Paired (ZrAt K H) ps rws ∧ rws.length ≤ 20000 ∧ (∀ r ∈ rws, r.2.1.length ≤ 1000) ∧
  (entF rows many [] 0 rws = none → ∀ d ob H', H d = none → Same H H' → H' d = some ob → NOf P w K H' d ob (tabZ rws) → Q (.ref d) H') ∧ (∀ i : Nat, entF rows many [] 0 rws = some i → RaE K (.reader (i : Nat)) H E)
abbrev N_ent : List Str := ["bed", "states", "rows", "found", "place", "row", "kind", "below", "state", "one"]
theorem sc_ent : FnScope N_ent ["bed", "states", "rows"] (defScope (top 24)) := ⟨rfl, rfl, rfl, by decide +kernel, rfl, by decide +kernel, by decide +kernel⟩
theorem k_ent (T : Txt K mg) (R : Ers P K mg) (F : DF K mg "_entered" 24) (c_branches : CalM P w K mg base 3 "branches" ["self", "kind"] (spBranches K)) : Cal P w K mg base 4 "_entered" ["bed", "states", "rows"] (spEnt P w K) := by
  refine cal_of F.1 F.2 sc_ent (fun _ _ _ _ _ _ us e => match us, e with | [_, _, _], _ => rfl) (fun vs H Q E s => by obtain ⟨_, _, _, _, _, _, rfl, _⟩ := s; rfl) ?_
  intro cdv A outer s H vs Q E hr h
  obtain ⟨b, t, many, rows, ps, rws, rfl, hb, ok, hp, hpr, hle, hbl, hq, hE⟩ := h
  obtain ⟨mB, fB, FB, BB⟩ := c_branches
  have hu := hu4_of hr
  have sc := sc_ent
  have hpl := paired_len hpr
  refine ⟨_, (pss_cons (ps_set (i := 3) sc.nd rfl (Or.inl rfl) pe_nnew)
      (pss_cons (ps_for (passes_of rfl) rfl (pi_enumT (by rfl) T.enumerate (pa_cons (pv 2) pa_nil)) (pg_tup rfl (pgs_cons (pg_name (i := 4) sc.nd rfl (Or.inl rfl)) (pgs_cons (pg_name (i := 5) sc.nd rfl (Or.inl rfl)) pgs_nil)))
        (pss_cons (ps_asg (pv 5) (pg_tup rfl (pgs_cons (pg_name (i := 6) sc.nd rfl (Or.inl rfl)) (pgs_cons (pg_name (i := 7) sc.nd rfl (Or.inl rfl)) (pgs_cons (pg_name (i := 8) sc.nd rfl (Or.inl rfl)) pgs_nil)))))
        (pss_cons (ps_if (pt_cmpR op_notIn_seq (pv 6) (pe_fld (pv 0) rfl) rfl)
          (pss_one (ps_raise rfl (takes_of rfl rfl rfl rfl) (mk_ir R.ir hr rfl (pa_cons (pv 4) pa_nil) pass0)))
          pss_nil)
        (pss_cons (ps_if (pt_cmpR op_ne (pe_callB call_len_seq (by rfl) T.len (by decide +kernel) (pa_cons (pv 7) pa_nil)) (pe_meth (pv 0) T.bed.cl mB FB (hr.mono (by decide)) BB .nil (E := E0) (fun pins σ H s e s' I h => passL pins σ H s e s' I h) (pa_cons (pv 6) pa_nil)) (nomark _))
          (pss_one (ps_raise rfl (takes_of rfl rfl rfl rfl) (mk_ir R.ir hr rfl (pa_cons (pv 4) pa_nil) pass0)))
          pss_nil)
        (pss_cons (ps_for (passes_of rfl) rfl (pi_tup (pe_tup (StX.pa_star (pv 7) (pa_cons (pv 8) pa_nil)))) (pg_name (i := 9) sc.nd rfl (Or.inl rfl))
          (pss_one (ps_if (PW.pt (pw_or (pt_cmpR op_lt (pv 9) pe_int (nomark _)) (pw_or1 (pt_cmpR op_ge (pv 9) (pv 1) (nomark _)))))
            (pss_one (ps_raise rfl (takes_of rfl rfl rfl rfl) (mk_ir R.ir hr rfl (pa_cons (pv 4) pa_nil) pass0)))
            pss_nil)))
        (pss_cons (ps_if (pt_cmp (pc_nin hu (pe_tup (pa_cons (pv 6) (pa_cons (pv 7) pa_nil))) (pv 3)))
          (pss_one (ps_raise rfl (takes_of rfl rfl rfl rfl) (mk_ir R.ir hr rfl (pa_cons (pv 4) pa_nil) pass0)))
          pss_nil)
        (pss_one (ps_nput hu (pv 3) (pe_tup (pa_cons (pv 6) (pa_cons (pv 7) pa_nil))) (pv 8) rfl))))))))
      (pss_one (ps_ret (pv 3))))), ?_⟩
  refine fun d ob hd hN0 => ?_
  have k1 := (Hs.start H).new (o := ob) hd
  obtain ⟨dx, dA, tR, tK, dR, pp, b1, b2, b3, b4, b5, b6⟩ := id hb.ex
  refine ⟨_, rfl, t, _, rfl, Same.sqt k1.sub hp, for_it walkE (fun i σ H' => ∃ (t4 t5 t6 t7 t8 t9 : Option V) (B : Hp) (ob : HO), σ = [some (.ref b), some (.int many), some (.ref t), some (.ref d), t4, t5, t6, t7, t8, t9] ∧ Same H B ∧ Hs B [(d, ob)] H' ∧ NOf P w K B d ob (tabZ (rws.take i)) ∧ entF rows many ((rws.take i).map zky) i (rws.drop i) = entF rows many [] 0 rws)
    ⟨none, none, none, none, none, none, H, ob, rfl, Same.refl _, k1, hN0, rfl⟩ (fun _ _ _ _ ⟨_, _, _, _, _, _, _, _, _, sB, h, _⟩ => Same.sqt (sB.trans h.sub) hp) ?_ ?_⟩
  · rintro i v σ H1 H2 hi ⟨t4, t5, t6, t7, t8, t9, B, ob, rfl, sB, hh, hN, hg⟩ ⟨T1, u1, u2, rfl, hT, rfl, e1, e2⟩
    cases e1
    rw [List.length_map, hpl] at hi
    obtain ⟨r, hr'⟩ : ∃ r, rws[i]? = some r := ⟨_, List.getElem?_eq_getElem hi⟩
    have hrm := List.mem_of_getElem? hr'
    have hb1000 := hbl r hrm
    obtain ⟨q, eq, c, tq, tc⟩ := paired_at hpr hr'
    have e2 : (ps.map V.ref)[i]? = some u2 := e2
    rw [List.getElem?_map, eq] at e2
    cases e2
    rw [drop_of hr', entF] at hg
    have etk : rws.take (i + 1) = rws.take i ++ [r] := by rw [List.take_succ, hr']; rfl
    have sB1 : Same B (upd B T1 (.tup [.int (i : Nat), .ref q])) := up_same (hh.sub.free hT)
    have hh := hh.tup (o := .tup [.int (i : Nat), .ref q]) hT
    replace sB := sB.trans sB1
    replace hN := hN.mono (Stay.of sB1)
    generalize upd B T1 (.tup [.int (i : Nat), .ref q]) = B at *
    generalize hH3 : upd H1 T1 (.tup [.int (i : Nat), .ref q]) = H3 at *
    have tT : SqT K H3 T1 [.int (i : Nat), .ref q] := by rw [← hH3]; exact SqT.of upd_same
    have sH := sB.trans hh.sub
    have bad : ∀ {H4 : Hp}, Same H H4 → ¬ (zOk rows many r = true ∧ zky r ∉ (rws.take i).map zky) → Ra K "InvalidReader" [("place", .int ((i : Nat) : Int))] H4 E := fun s4 hn => by
      rw [if_neg hn] at hg
      exact ((hE i hg.symm).mono s4).ra (.cons (.int _) .nil)
    refine ⟨T1, _, rfl, tT, rfl, _, _, rfl, _, _, rfl, rfl, ?_⟩
    refine ⟨_, rfl, q, _, rfl, Same.sqt sH tq, rfl, _, _, rfl, _, _, rfl, _, _, rfl, rfl, ?_⟩
    simp only [List.set_cons_succ, List.set_cons_zero]
    refine ⟨_, rfl, _, rfl, b, _, dx, _, _, rfl, sH _ _ b1, T.bed.cl, T.bed.nK, rfl, tK, _, rfl, .inr (Same.sqt sH b5), rfl, flat_kd rows, _, rfl, ?_⟩
    rw [isK_in]
    cases ck : isK rows r.1 with
    | false =>
      exact iteT ⟨_, rfl, mk_ra (fun _ _ => ⟨(i : Nat), rfl, by omega, rfl⟩) (by show 1 ≤ 1000; decide) (bad sH fun z => by have := z.1; unfold zOk at this; rw [ck] at this; cases this)⟩
    | true =>
    refine iteF ?_
    refine ⟨_, rfl, c, _, rfl, .inr (Same.sqt sH tc), _, rfl, b, dx, _, rfl, sH _ _ b1, rfl, _, rfl, b, rows, r.1, rfl, hb.mono (Stay.of sH), ok.wdB ck, fun _ => ?_, fun z => by rw [ck] at z; cases z⟩
    refine ⟨rfl, _, rfl, if_ndec (fun c1 => ?_) (fun c1 => ?_)⟩
    · refine ⟨_, rfl, mk_ra (fun _ _ => ⟨(i : Nat), rfl, by omega, rfl⟩) (by show 1 ≤ 1000; decide) (bad sH fun z => c1 ?_)⟩
      have := z.1
      unfold zOk at this
      simp only [Bool.and_eq_true, decide_eq_true_eq] at this
      rw [vI, List.length_map, this.2.1]
    have cl : r.2.1.length = ar rows r.1 := by
      have := V.int.inj c1
      rw [vI, List.length_map] at this
      omega
    refine ⟨_, rfl, c, _, rfl, .inl (Same.sqt sH tc), _, rfl, by rw [vI, List.length_append, List.length_map]; show _ + 1 ≤ sizeLine; rw [sizeLine_eq]; omega, fun T2 hT2 => ?_⟩
    have sB2 : Same B (upd B T2 (.tup (vI r.2.1 ++ [.int r.2.2]))) := up_same (hh.sub.free hT2)
    have h2 := hh.tup (o := .tup (vI r.2.1 ++ [.int r.2.2])) hT2
    have tT2 : SqT K (upd H3 T2 (.tup (vI r.2.1 ++ [.int r.2.2]))) T2 (vI r.2.1 ++ [.int r.2.2]) := SqT.of upd_same
    generalize upd H3 T2 (.tup (vI r.2.1 ++ [.int r.2.2])) = H4 at *
    replace sB := sB.trans sB2
    replace hN := hN.mono (Stay.of sB2)
    generalize upd B T2 (.tup (vI r.2.1 ++ [.int r.2.2])) = B2 at *
    have eN : vI r.2.1 ++ [V.int r.2.2] = vI (r.2.1 ++ [r.2.2]) := by rw [vI, vI, List.map_append]; rfl
    rw [eN] at tT2
    have sH4 := sB.trans h2.sub
    refine ⟨T2, rfl, ⟨_, tT2⟩, for_tup (K := K) (a := T2) (xs := vI (r.2.1 ++ [r.2.2])) (fun j σ H' => ∃ t9, σ = [some (.ref b), some (.int many), some (.ref t), some (.ref d), some (.int (i : Nat)), some (.ref q), some (.str r.1), some (.ref c), some (.int r.2.2), t9] ∧ H' = H4 ∧ ∀ n ∈ (r.2.1 ++ [r.2.2]).take j, inS many n = true)
      ⟨t9, rfl, rfl, fun n hn => by simp at hn⟩ (fun _ _ _ _ ⟨_, _, e, _⟩ => by rw [e]; exact tT2) ?_ ?_⟩
    · rintro j v σ _ hv ⟨t9, rfl, rfl, hall⟩
      obtain ⟨n, en, rfl⟩ := map_at hv
      have out := fun (hn : ¬ inS many n = true) => bad sH4 fun z => hn (by
        have := z.1
        unfold zOk at this
        simp only [Bool.and_eq_true] at this
        exact List.all_eq_true.mp this.2.2 n (List.mem_of_getElem? en))
      refine ⟨_, rfl, _, _, rfl, rfl, _, rfl, if_dec (fun z => ?_) (fun z => ?_)⟩
      · exact ⟨_, rfl, mk_ra (fun _ _ => ⟨(i : Nat), rfl, by omega, rfl⟩) (by show 1 ≤ 1000; decide) (out fun y => by have := inS_iff.mp y; omega)⟩
      refine ⟨_, rfl, _, rfl, _, _, rfl, rfl, _, rfl, if_dec (fun z2 => ?_) (fun z2 => ?_)⟩
      · exact ⟨_, rfl, mk_ra (fun _ _ => ⟨(i : Nat), rfl, by omega, rfl⟩) (by show 1 ≤ 1000; decide) (out fun y => by have := inS_iff.mp y; omega)⟩
      refine ⟨_, rfl, rfl, fun m hm => ?_⟩
      rw [List.take_succ, en] at hm
      rcases List.mem_append.mp hm with hm | hm
      · exact hall m hm
      · rw [List.mem_singleton.mp hm]
        exact inS_iff.mpr ⟨by omega, by omega⟩
    · rintro σ _ ⟨t9, rfl, rfl, hall⟩
      rw [show (vI (r.2.1 ++ [r.2.2])).length = (r.2.1 ++ [r.2.2]).length from List.length_map .., List.take_length] at hall
      have zok : zOk rows many r = true := by
        unfold zOk
        rw [ck, decide_eq_true cl, List.all_eq_true.mpr hall]
        rfl
      refine ⟨_, rfl, _, rfl, (by show 2 ≤ sizeLine; decide), fun T5 hT5 => ?_⟩
      have sB5 : Same B2 (upd B2 T5 (.tup [.str r.1, .ref c])) := up_same (h2.sub.free hT5)
      have h5 := h2.tup (o := .tup [.str r.1, .ref c]) hT5
      have sH5 := (sB.trans sB5).trans h5.sub
      refine ⟨_, rfl, d, T5, ob, _, zkey (zky r), rfl, rfl, h5.r0, (hN.mono (Stay.of sB5)).mono (Stay.of h5.sub), NK.ofZ (SqT.of upd_same) (Same.sqt sH5 tc), _, rfl, ?_⟩
      rw [valV_tabZ]
      cases lk : lkZ (rws.take i) (zky r) with
      | some v0 =>
        exact iteT ⟨_, rfl, mk_ra (fun _ _ => ⟨(i : Nat), rfl, by omega, rfl⟩) (by show 1 ≤ 1000; decide) (bad sH5 fun z => by rw [lkZ_none.mpr z.2] at lk; cases lk)⟩
      | none =>
      have hnot := lkZ_none.mp lk
      refine iteF ?_
      refine ⟨_, rfl, _, rfl, _, rfl, _, rfl, (by show 2 ≤ sizeLine; decide), fun T6 hT6 => ?_⟩
      have sB6 : Same (upd B2 T5 (.tup [.str r.1, .ref c])) (upd (upd B2 T5 (.tup [.str r.1, .ref c])) T6 (.tup [.str r.1, .ref c])) := up_same (h5.sub.free hT6)
      have h6 := h5.tup (o := .tup [.str r.1, .ref c]) hT6
      have hN6 := (hN.mono (Stay.of sB5)).mono (Stay.of sB6)
      refine ⟨d, T6, ob, _, zkey (zky r), upd (upd B2 T5 (.tup [.str r.1, .ref c])) T6 (.tup [.str r.1, .ref c]), rfl, rfl, h6.r0, Stay.of h6.sub, hN6, NK.ofZ (SqT.of upd_same) (Same.sqt ((sB.trans sB5).trans sB6) tc), ?_, fun ob' hN' => ?_⟩
      · unfold tabZ
        rw [List.length_map, List.length_take, sizeLine_eq]
        omega
      rw [putK_tabZ hnot, ← etk] at hN'
      rw [if_pos ⟨zok, hnot⟩] at hg
      exact ⟨_, _, _, _, _, _, _, ob', rfl, (sB.trans sB5).trans sB6, h6.w0, hN', by rw [etk, List.map_append]; exact hg⟩
  · rintro σ H1 ⟨t4, t5, t6, t7, t8, t9, B, ob, rfl, sB, hh, hN, hg⟩
    rw [List.length_map, hpl, List.take_length] at hN
    rw [List.length_map, hpl, List.drop_length] at hg
    exact ⟨_, rfl, hq hg.symm d ob H1 hd (sB.trans hh.sub) hh.r0 (hN.mono (Stay.of hh.sub))⟩
/-! _check_marks -/
def spMarks (K : PySem.W.Frag) : Sp := fun vs H Q E => ∃ (m : Addr) (many : Int) (marks : List Int), vs = [.int many, .ref m] ∧ SqT K H m (vI marks) ∧ (mrkF many (-1) marks = true → Q .non H) ∧ (mrkF many (-1) marks = false → RaE K (.reader (-2)) H E)
theorem sc_marks : FnScope ["states", "marks", "last", "one"] ["states", "marks"] (defScope (top 25)) := ⟨rfl, rfl, rfl, by decide +kernel, rfl, by decide +kernel, by decide +kernel⟩
theorem k_marks (R : Ers P K mg) (F : DF K mg "_check_marks" 25) : Cal P w K mg base 3 "_check_marks" ["states", "marks"] (spMarks K) := by
  refine cal_of F.1 F.2 sc_marks (fun _ _ _ _ _ _ us e => match us, e with | [_, _], _ => rfl) (fun vs H Q E s => by obtain ⟨_, _, _, rfl, _⟩ := s; rfl) ?_
  intro cdv A outer s H vs Q E hr h
  obtain ⟨m, many, marks, rfl, hm, hq, hE⟩ := h
  have sc := sc_marks
  refine ⟨_, (pss_cons (ps_set (i := 2) sc.nd rfl (Or.inl rfl) (pe_un un_neg pe_int))
      (pss_one (ps_for (passes_of rfl) rfl (pi_tup (pv 1)) (pg_name (i := 3) sc.nd rfl (Or.inl rfl))
        (pss_cons (ps_if (PW.pt (pw_or (pt_cmpR op_le (pv 3) (pv 2) (nomark _)) (pw_or1 (pt_cmpR op_ge (pv 3) (pv 0) (nomark _)))))
          (pss_one (ps_raise rfl (takes_of rfl rfl rfl rfl) (mk_ir R.ir hr rfl (pa_cons (pe_un un_neg pe_int) pa_nil) pass0)))
          pss_nil)
        (pss_one (ps_set (i := 2) sc.nd rfl (Or.inl rfl) (pv 3))))))), ?_⟩
  refine ⟨1, rfl, ?_⟩
  refine ⟨_, rfl, m, rfl, ⟨_, hm⟩, for_tup (K := K) (a := m) (xs := vI marks) (fun i σ H' => ∃ (last : Int) (t3 : Option V), σ = [some (.int many), some (.ref m), some (.int last), t3] ∧ H' = H ∧ mrkF many last (marks.drop i) = mrkF many (-1) marks)
    ⟨-1, none, rfl, rfl, rfl⟩ (fun _ _ _ _ ⟨_, _, _, e, _⟩ => by rw [e]; exact hm) ?_ ?_⟩
  · rintro i v σ H' hv ⟨last, t3, rfl, rfl, hg⟩
    obtain ⟨n, en, rfl⟩ := map_at hv
    rw [drop_of en, mrkF] at hg
    have bad : ¬ (last < n ∧ n < many) → Ra K "InvalidReader" [("place", .int (-2))] H' E := fun hn => by
      rw [if_neg hn] at hg
      exact (hE hg.symm).ra (.cons (.int _) .nil)
    refine ⟨_, rfl, _, rfl, _, _, rfl, rfl, _, rfl, if_dec (fun z => ?_) (fun z => ?_)⟩
    · exact ⟨2, rfl, mk_ra (fun _ _ => ⟨-2, rfl, by omega, rfl⟩) (by show 1 ≤ 1000; decide) (bad fun y => by omega)⟩
    refine ⟨_, rfl, _, rfl, _, _, rfl, rfl, _, rfl, if_dec (fun z2 => ?_) (fun z2 => ?_)⟩
    · exact ⟨2, rfl, mk_ra (fun _ _ => ⟨-2, rfl, by omega, rfl⟩) (by show 1 ≤ 1000; decide) (bad fun y => by omega)⟩
    rw [if_pos ⟨by omega, by omega⟩] at hg
    exact ⟨_, rfl, _, _, rfl, rfl, hg⟩
  · rintro σ H' ⟨last, t3, rfl, rfl, hg⟩
    rw [show (vI marks).length = marks.length from List.length_map .., List.drop_length] at hg
    exact hq hg.symm
end
end Sy
/-! Reader: made, step -/
namespace Sy
open PySem PySem.Spec PyProof.Rows L2
structure RdrZ where
  many : Int
  rws : List ZRow
  marks : List Int
  rest : Int
def rdF (b : Addr) (many : Int) (tM : Addr) (rest : Int) (dE : Addr) : List (Str × V) := [("bed", .ref b), ("states", .int many), ("marks", .ref tM), ("_otherwise", .int rest), ("_entered", .ref dE)]
structure RdzAt (P : Program) (w : World) (K : PySem.W.Frag) (H : Hp) (a b : Addr) (rows : List Sy.Row) (d : RdrZ) : Prop where
  ex : ∃ (dx tM dE : Addr) (ob : HO), H a = some (.ins (He.ga K "Reader") dx (rdF b d.many tM d.rest dE)) ∧ BedAt K H b rows ∧ SqT K H tM (vI d.marks) ∧ H dE = some ob ∧ NOf P w K H dE ob (tabZ d.rws)
theorem RdzAt.mono {P : Program} {w : World} {K : PySem.W.Frag} {H H' : Hp} {a b : Addr} {rows : List Sy.Row} {d : RdrZ} (h : RdzAt P w K H a b rows d) (s : Stay H H') : RdzAt P w K H' a b rows d := by
  obtain ⟨dx, tM, dE, ob, h1, h2, h3, h4, h5⟩ := h.ex
  refine ⟨dx, tM, dE, ob, s _ _ h1 (fun _ z => nomatch z), h2.mono s, s.sqt h3, s _ _ h4 (fun xs z => ?_), h5.mono s⟩
  obtain ⟨φ, e⟩ := h5.ext
  rw [e] at z
  cases z
/-- what making a reader raises -/
def rdDue (rows : List Sy.Row) (many : Int) (rws : List ZRow) (marks : List Int) (rest : Int) : Option Er :=
  if 40 < many then some (.many "states" 40) else if many < 1 then some (.reader (-1)) else match entF rows many [] 0 rws with
    | some i => some (.reader (i : Nat))
    | none => if mrkF many (-1) marks = true then (if inS many rest = true then none else some (.reader (-3))) else some (.reader (-2))
def stepZ (d : RdrZ) (x : Str) (l : List Int) : Int := (lkZ d.rws (x, l)).getD d.rest
/-- what a step raises -/
structure TxtR (K : PySem.W.Frag) (mg : Str → Option Value) : Prop where
  cl : Cls K (He.ga K "Reader")
  nB : NoAttr K (He.ga K "Reader") "bed"
  nS : NoAttr K (He.ga K "Reader") "states"
  nM : NoAttr K (He.ga K "Reader") "marks"
  nO : NoAttr K (He.ga K "Reader") "_otherwise"
  nE : NoAttr K (He.ga K "Reader") "_entered"
  MOST_STATES : ∃ t, mg "MOST_STATES" = some (.int 40 t)
theorem BedAt.del {K : PySem.W.Frag} {H : Hp} {x a C dx : Addr} {rows : List Sy.Row} (b : BedAt K H a rows) (hx : H x = some (.ins C dx [])) : BedAt K (L2.del H x) a rows := by
  obtain ⟨dx', dA, tR, tK, dR, ps, h1, h2, h3, h4, h5, h6⟩ := b.ex
  have ne : ∀ {p o}, H p = some o → o ≠ .ins C dx [] → p ≠ x := fun e n z => by
    rw [z, hx] at e
    exact n (Option.some.inj e).symm
  refine ⟨dx', dA, tR, tK, dR, ps, ?_, ?_, ?_, sqt_del h4 hx, sqt_del h5 hx, Paired.mapP h6 fun _ _ z => sqt_del z hx⟩
  · rw [del_ne (ne h1 (by unfold bedF; intro z; injection z with _ _ z; cases z))]
    exact h1
  · rw [del_ne (ne h2 (by intro z; cases z))]
    exact h2
  · rw [del_ne (ne h3 (by intro z; cases z))]
    exact h3
theorem NOf.del {P : Program} {w : World} {K : PySem.W.Frag} {H : Hp} {a x C dx : Addr} {fs : List (Str × V)} {ob : HO} {kvs : List (NKey × V)} (h : NOf P w K H a ob kvs) (hx : H x = some (.ins C dx fs)) : NOf P w K (L2.del H x) a ob kvs := by
  obtain ⟨xs, h1, h2, h3, h4⟩ := h.ex
  exact ⟨xs, h1, h2, h3, Paired.mapP h4 fun _ _ ⟨z1, ⟨c, z2, z3⟩, z4⟩ => ⟨z1, ⟨c, sqt_del z2 hx, sqt_del z3 hx⟩, z4⟩⟩
theorem getD_tabZ (rws : List ZRow) (k : ZKey) (n : Int) : (valV (tabZ rws) (zkey k)).getD (.int n) = .int ((lkZ rws k).getD n) := by
  rw [valV_tabZ]
  cases lkZ rws k <;> rfl
section
variable {P : Program} {w : World} {K : PySem.W.Frag} {mg : Str → Option Value} {base : Heap}
/-! Reader.__init__ -/
def spInitR (P : Program) (w : World) (K : PySem.W.Frag) : Sp := fun vs H Q E => ∃ (x b t m dx : Addr) (rows : List Sy.Row) (ps : List Addr) (d : RdrZ), vs = [.ref x, .ref b, .int d.many, .ref t, .ref m, .int d.rest] ∧ H x = some (.ins (He.ga K "Reader") dx []) ∧ BedAt K H b rows ∧ RowsOk rows ∧
  SqT K H t (ps.map V.ref) ∧ Paired (ZrAt K H) ps d.rws ∧ d.rws.length ≤ 20000 ∧ (∀ r ∈ d.rws, r.2.1.length ≤ 1000) ∧ SqT K H m (vI d.marks) ∧ (rdDue rows d.many d.rws d.marks d.rest = none → ∀ H', Keep x H H' → RdzAt P w K H' x b rows d → Q .non H') ∧
  (∀ e, rdDue rows d.many d.rws d.marks d.rest = some e → RaE K e H E)
abbrev N_initR : List Str := ["self", "bed", "states", "rows", "marks", "otherwise", "entered"]
theorem sc_initR : FnScope N_initR ["self", "bed", "states", "rows", "marks", "otherwise"] (defScope (clb 26 0)) := ⟨rfl, rfl, rfl, by decide +kernel, rfl, by decide +kernel, by decide +kernel⟩
theorem f_initR (T : Txt K mg) (TR : TxtR K mg) (R : Ers P K mg) {fd : FuncData} (F : FunD K "__init__" "Reader.__init__" (defArgs (clb 26 0)) (defBody (clb 26 0)) (defScope (clb 26 0)) [] [("otherwise", .int 0)] (He.ma K (He.ga K "Reader") "__init__") fd)
    (c_entered : Cal P w K mg base 4 "_entered" ["bed", "states", "rows"] (spEnt P w K)) (c_check_marks : Cal P w K mg base 3 "_check_marks" ["states", "marks"] (spMarks K)) :
    FnOk P w K mg base (L2.CX P w) (4 + 1) (He.ma K (He.ga K "Reader") "__init__") fd ["self", "bed", "states", "rows", "marks", "otherwise"] (spInitR P w K) := by
  refine F.ok sc_initR (fun vs H Q E s => by obtain ⟨_, _, _, _, _, _, _, _, rfl, _⟩ := s; rfl) ?_
  intro cdv A outer s H vs Q E hr h
  obtain ⟨x, b, t, m, dx, rows, ps, d, rfl, hx, hb, ok, hT, hP, hle, hbl, hM, hq, hE⟩ := h
  have sc := sc_initR
  refine ⟨_, (pss_cons (ps_if (pt_cmpR op_gt (pv 2) (pe_gint rfl TR.MOST_STATES) (nomark _))
        (pss_one (ps_raise rfl (takes_of rfl rfl rfl rfl) (mk_tm R.tm hr rfl (pa_cons pe_str (pa_cons (pe_gint rfl TR.MOST_STATES) pa_nil)) pass0)))
        pss_nil)
      (pss_cons (ps_if (pt_cmpR op_lt (pv 2) pe_int (nomark _))
        (pss_one (ps_raise rfl (takes_of rfl rfl rfl rfl) (mk_ir R.ir hr rfl (pa_cons (pe_un un_neg pe_int) pa_nil) pass0)))
        pss_nil)
      (pss_cons (ps_set (i := 6) sc.nd rfl (Or.inl rfl) (pe_calX c_entered hr (takes_of rfl rfl rfl rfl) (pa_cons (pv 1) (pa_cons (pv 2) (pa_cons (pv 3) pa_nil)))))
      (pss_cons (ps_expr (pe_calX c_check_marks hr (takes_of rfl rfl rfl rfl) (pa_cons (pv 2) (pa_cons (pv 4) pa_nil))))
      (pss_cons (ps_if (PW.pt (pw_or (pt_cmpR op_lt (pv 5) pe_int (nomark _)) (pw_or1 (pt_cmpR op_ge (pv 5) (pv 2) (nomark _)))))
        (pss_one (ps_raise rfl (takes_of rfl rfl rfl rfl) (mk_ir R.ir hr rfl (pa_cons (pe_un un_neg pe_int) pa_nil) pass0)))
        pss_nil)
      (pss_cons (ps_fld (pv 0) (pv 1) rfl)
      (pss_cons (ps_fld (pv 0) (pv 2) rfl)
      (pss_cons (ps_fld (pv 0) (pe_callTy call_tuple_of (by rfl) T.tuple (by decide +kernel) (pa_cons (pv 4) pa_nil)) rfl)
      (pss_cons (ps_fld (pv 0) (pv 5) rfl)
      (pss_one (ps_fld (pv 0) (pv 6) rfl))))))))))), ?_⟩
  unfold rdDue at hq hE
  refine ⟨_, rfl, _, _, rfl, rfl, _, rfl, if_dec (fun z => ?_) (fun z => ?_)⟩
  · have z : 40 < d.many := by omega
    refine mk_ra (fun _ _ => ⟨"states", 40, rfl, by decide +kernel, by decide, by decide +kernel, rfl⟩) (by show 2 ≤ 1000; decide) ((hE (.many "states" 40) (by rw [if_pos z])).ra (.cons (.int 40) (.cons (.str _) .nil)))
  rw [if_neg (by omega : ¬ 40 < d.many)] at hq hE
  refine ⟨_, rfl, _, _, rfl, rfl, _, rfl, if_dec (fun z2 => ?_) (fun z2 => ?_)⟩
  · exact ⟨1, rfl, mk_ra (fun _ _ => ⟨-1, rfl, by omega, rfl⟩) (by show 1 ≤ 1000; decide) ((hE (.reader (-1)) (by rw [if_pos z2])).ra (.cons (.int _) .nil))⟩
  rw [if_neg z2] at hq hE
  refine ⟨_, rfl, _, rfl, _, rfl, b, t, d.many, rows, ps, d.rws, rfl, hb, ok, hT, hP, hle, hbl, fun en dE ob H1 hdE s1 hEx hN => ?_, fun i en => hE _ (by rw [en])⟩
  rw [en] at hq hE
  simp only at hq hE
  have hx1 := s1 _ _ hx
  simp only [List.set_cons_succ, List.set_cons_zero]
  refine ⟨_, rfl, _, rfl, m, d.many, d.marks, rfl, Same.sqt s1 hM, fun mk => ?_, fun mk => (hE (.reader (-2)) (by rw [if_neg (by rw [mk]; exact Bool.false_ne_true)])).mono s1⟩
  rw [if_pos mk] at hq hE
  have bad : ¬ inS d.many d.rest = true → Ra K "InvalidReader" [("place", .int (-3))] H1 E := fun hn => ((hE (.reader (-3)) (by rw [if_neg hn])).mono s1).ra (.cons (.int _) .nil)
  refine ⟨_, rfl, _, _, rfl, rfl, _, rfl, if_dec (fun z3 => ?_) (fun z3 => ?_)⟩
  · exact ⟨3, rfl, mk_ra (fun _ _ => ⟨-3, rfl, by omega, rfl⟩) (by show 1 ≤ 1000; decide) (bad fun y => by have := inS_iff.mp y; omega)⟩
  refine ⟨_, rfl, _, rfl, _, _, rfl, rfl, _, rfl, if_dec (fun z4 => ?_) (fun z4 => ?_)⟩
  · exact ⟨3, rfl, mk_ra (fun _ _ => ⟨-3, rfl, by omega, rfl⟩) (by show 1 ≤ 1000; decide) (bad fun y => by have := inS_iff.mp y; omega)⟩
  rw [if_pos (inS_iff.mpr ⟨by omega, by omega⟩)] at hq
  have k1 : Hs (L2.del H1 x) [(x, .ins (He.ga K "Reader") dx [])] H1 := (Hs.start H1).take hx1
  have hb1 : BedAt K (L2.del H1 x) b rows := (hb.mono (Stay.of s1)).del hx1
  have hM1 := sqt_del (Same.sqt s1 hM) hx1
  have hN1 := hN.del hx1
  have ndE : dE ≠ x := fun z => by rw [z, hx] at hdE; cases hdE
  have hE1 : (L2.del H1 x) dE = some ob := by rw [del_ne ndE]; exact hEx
  have keep0 : ∀ {H' : Hp}, Same (L2.del H1 x) H' → Keep x H H' := fun s2 a o n e => s2 _ _ (by rw [del_ne n]; exact s1 _ _ e)
  refine ⟨_, rfl, _, rfl, x, _, dx, _, rfl, k1.r0, TR.cl, TR.nB, (by show 0 < 1000; decide), ?_⟩
  have h2 := k1.w0 (o' := .ins (He.ga K "Reader") dx [("bed", .ref b)])
  refine ⟨_, rfl, _, rfl, x, _, dx, _, rfl, h2.r0, TR.cl, TR.nS, (by show 1 < 1000; decide), ?_⟩
  have h3 := h2.w0 (o' := .ins (He.ga K "Reader") dx [("bed", .ref b), ("states", .int d.many)])
  refine ⟨_, rfl, m, _, rfl, .inr ⟨Same.sqt h3.sub hM1, ?_⟩⟩
  refine ⟨_, rfl, x, _, dx, _, rfl, h3.r0, TR.cl, TR.nM, (by show 2 < 1000; decide), ?_⟩
  have h4 := h3.w0 (o' := .ins (He.ga K "Reader") dx [("bed", .ref b), ("states", .int d.many), ("marks", .ref m)])
  refine ⟨_, rfl, _, rfl, x, _, dx, _, rfl, h4.r0, TR.cl, TR.nO, (by show 3 < 1000; decide), ?_⟩
  have h5 := h4.w0 (o' := .ins (He.ga K "Reader") dx [("bed", .ref b), ("states", .int d.many), ("marks", .ref m), ("_otherwise", .int d.rest)])
  refine ⟨_, rfl, _, rfl, x, _, dx, _, rfl, h5.r0, TR.cl, TR.nE, (by show 4 < 1000; decide), ?_⟩
  have h6 := h5.w0 (o' := .ins (He.ga K "Reader") dx (rdF b d.many m d.rest dE))
  exact hq rfl _ (keep0 h6.sub) ⟨dx, m, dE, ob, h6.r0, hb1.mono (Stay.of h6.sub), Same.sqt h6.sub hM1, h6.sub _ _ hE1, hN1.mono (Stay.of h6.sub)⟩
end
end Sy
/-! tuples of states; below_tuples, table -/
namespace Sy
open PySem PySem.Spec PyProof.Rows L2
theorem lp_it {J : It} {n : Nat} {G : Hp → Prop} {Y : Nat → Hp → V → Hp → Prop} (w : Walk J n G Y) {step : V → Hp → (Hp → Prop) → Prop} {H0 : Hp} {Qd : Hp → Prop} (Pv : Nat → Hp → Prop) (h0 : Pv 0 H0) (hG : ∀ i H, i ≤ n → Pv i H → G H)
    (hs : ∀ i x H H', i < n → Pv i H → Y i H x H' → step x H' (Pv (i + 1))) (hd : ∀ H, Pv n H → Qd H) :
    ∃ W : Nat → Nat → Hp → Prop, (∃ m, W 0 m H0) ∧ ∀ i m H, W i m H → (J.stop i H ∧ Qd H) ∨ (J.go i H ∧ ∃ Nx : Hp → Prop, (∀ H', Nx H' → ∃ m', m' < m ∧ W (i + 1) m' H') ∧ ∀ x H', J.yld i H x H' → step x H' Nx) := by
  refine ⟨fun i m H => m = n - i ∧ i ≤ n ∧ Pv i H, ⟨n, by simp, Nat.zero_le _, h0⟩, ?_⟩
  rintro i m H ⟨rfl, hi, p⟩
  have q := hG i H hi p
  by_cases hlt : i < n
  · refine .inr ⟨w.goes i H hlt q, Pv (i + 1), fun H' p' => ⟨n - (i + 1), by omega, rfl, hlt, p'⟩, fun x H' y => hs i x H H' hlt p (w.yields i H x H' hlt q y)⟩
  · have e : i = n := by omega
    subst e
    exact .inl ⟨w.stops H q, hd H p⟩
theorem allL1 {a : Addr} {xs : List V} : AllL [(a, .lst xs)] := fun q hq => by rw [List.mem_singleton.mp hq]; exact ⟨_, rfl⟩
theorem allL2 {a b : Addr} {xs ys : List V} : AllL [(a, .lst xs), (b, .lst ys)] := fun q hq => by
  rcases List.mem_cons.mp hq with rfl | hq
  · exact ⟨_, rfl⟩
  · rw [List.mem_singleton.mp hq]; exact ⟨_, rfl⟩
theorem Hs.go {B H H' : Hp} {L : List (Addr × HO)} (h : Hs B L H) (al : AllL L) (s : Same H H') : ∃ B', Same B B' ∧ Hs B' L H' ∧ Stay H' B' := by
  obtain ⟨a, b⟩ := h.after s
  exact ⟨_, a, b, stay_cut h al s⟩
def widZ (m : Nat) (r : List Int) : List (List Int) := (List.range m).map fun s => r ++ [((s : Nat) : Int)]
def tupZ (m : Nat) : Nat → List (List Int)
  | 0 => [[]]
  | k + 1 => (tupZ m k).flatMap (widZ m)
theorem widZ_len (m : Nat) (r : List Int) : (widZ m r).length = m := by unfold widZ; rw [List.length_map, List.length_range]
theorem flat_widZ (m : Nat) : ∀ L : List (List Int), (L.flatMap (widZ m)).length = L.length * m
  | [] => by simp
  | r :: L => by rw [List.flatMap_cons, List.length_append, flat_widZ m L, widZ_len, List.length_cons, Nat.succ_mul, Nat.add_comm]
theorem tupZ_len (m : Nat) : ∀ k, (tupZ m k).length = m ^ k
  | 0 => rfl
  | k + 1 => by
    unfold tupZ
    rw [flat_widZ, tupZ_len m k, Nat.pow_succ]
theorem tupZ_mem {m : Nat} : ∀ {k : Nat} {ns : List Int}, ns ∈ tupZ m k ↔ ns.length = k ∧ ∀ n ∈ ns, inS (m : Nat) n = true
  | 0, ns => by
    unfold tupZ
    rw [List.mem_singleton]
    constructor
    · rintro rfl
      exact ⟨rfl, fun _ z => (nomatch z)⟩
    · rintro ⟨h, _⟩
      exact List.length_eq_zero_iff.mp h
  | k + 1, ns => by
    unfold tupZ
    rw [List.mem_flatMap]
    constructor
    · rintro ⟨r, hr, hm⟩
      obtain ⟨s, hs, rfl⟩ := List.mem_map.mp hm
      obtain ⟨h1, h2⟩ := tupZ_mem.mp hr
      have hs := List.mem_range.mp hs
      refine ⟨by rw [List.length_append, h1]; rfl, fun n hn => ?_⟩
      rcases List.mem_append.mp hn with hn | hn
      · exact h2 n hn
      · rw [List.mem_singleton.mp hn]
        exact inS_iff.mpr ⟨by omega, by omega⟩
    · rintro ⟨h1, h2⟩
      obtain ⟨r, s, rfl⟩ : ∃ r s, ns = r ++ [s] := by
        rcases List.eq_nil_or_concat ns with rfl | ⟨r, s, rfl⟩
        · cases h1
        · exact ⟨r, s, by simp⟩
      rw [List.length_append] at h1
      have h1 : r.length = k := by simpa using h1
      have hs := inS_iff.mp (h2 s (List.mem_append_right _ (List.mem_singleton.mpr rfl)))
      refine ⟨r, tupZ_mem.mpr ⟨h1, fun n hn => h2 n (List.mem_append_left _ hn)⟩, List.mem_map.mpr ⟨s.toNat, List.mem_range.mpr (by omega), ?_⟩⟩
      rw [show ((s.toNat : Nat) : Int) = s by omega]
theorem tupZ_nd (m : Nat) : ∀ k, (tupZ m k).Nodup
  | 0 => by unfold tupZ; simp
  | k + 1 => by
    unfold tupZ List.Nodup
    rw [List.pairwise_flatMap]
    refine ⟨fun r _ => ?_, List.Pairwise.imp (fun {a b} h x hx y hy e => ?_) (tupZ_nd m k)⟩
    · unfold widZ
      rw [List.pairwise_map]
      refine List.Pairwise.imp (fun {a b} h e => h ?_) List.nodup_range
      have := (List.append_inj' e rfl).2
      injection this with e1 _
      omega
    · obtain ⟨s, _, rfl⟩ := List.mem_map.mp hx
      obtain ⟨t, _, rfl⟩ := List.mem_map.mp hy
      exact h (List.append_inj' e rfl).1
theorem pow_le_k {m t k c : Nat} (hm : 1 ≤ m) (h : m ^ k ≤ c) (ht : t ≤ k) : m ^ t ≤ c := Nat.le_trans (Nat.pow_le_pow_right hm ht) h
theorem pow_le_z {m t k : Nat} (h : m ^ k ≤ 2000) (ht : t ≤ k) : m ^ t ≤ 2000 := by
  rcases Nat.eq_zero_or_pos m with rfl | hm
  · rcases Nat.eq_zero_or_pos t with rfl | h2
    · decide
    · rw [Nat.zero_pow h2]; decide
  · exact pow_le_k hm h ht
/-- a tuple of numbers -/
def TpZ (K : PySem.W.Frag) (H : Hp) (q : Addr) (ns : List Int) : Prop := SqT K H q (vI ns)
section
variable {P : Program} {w : World} {K : PySem.W.Frag} {mg : Str → Option Value} {base : Heap}
def spBel (K : PySem.W.Frag) : Sp := fun vs H Q _ => ∃ m k : Nat, vs = [.int (m : Nat), .int (k : Nat)] ∧ m ≤ 1000 ∧ k ≤ 100 ∧ m ^ k ≤ 2000 ∧ ∀ H' q (qs : List Addr), H q = none → Same H H' → H' q = some (.lst (qs.map V.ref)) → Paired (TpZ K H') qs (tupZ m k) → Q (.ref q) H'
abbrev N_bel : List Str := ["many", "length", "found", "_", "head", "state"]
theorem sc_bel : FnScope N_bel ["many", "length"] (defScope (top 20)) := ⟨rfl, rfl, rfl, by decide +kernel, rfl, by decide +kernel, by decide +kernel⟩
theorem k_bel (T : Txt K mg) (F : DF K mg "below_tuples" 20) : Cal P w K mg base 1 "below_tuples" ["many", "length"] (spBel K) := by
  refine cal_of F.1 F.2 sc_bel (fun _ _ _ _ _ _ us e => match us, e with | [_, _], _ => rfl) (fun vs H Q E s => by obtain ⟨_, _, rfl, _⟩ := s; rfl) ?_
  intro cdv A outer s H vs Q E hr h
  obtain ⟨m, k, rfl, hm, hk, hc, hq⟩ := h
  have sc := sc_bel
  refine ⟨_, (pss_cons (ps_set (i := 2) sc.nd rfl (Or.inl rfl) (pe_lst (pa_cons (pe_tup pa_nil) pa_nil)))
      (pss_cons (ps_for (passes_of rfl) rfl (pi_range1 rfl T.range (pa_cons (pv 1) pa_nil)) (pg_name (i := 3) sc.nd rfl (Or.inl rfl))
        (pss_one (ps_setLc2 (i := 2) (own := [("head", 4), ("state", 5)]) (vs1 := [5]) (g := gName 4) (g1 := gName 5) (te := tTup (StX.tStar K (tVar 4) (tCons (tVar 5) tNil))) rfl sc.nd rfl rfl (sw_true rfl rfl rfl (by decide +kernel)) (pi_list (pv 2)) (blkOk_by (N := N_bel) (sc := defScope (top 20)) (by decide +kernel)) (by decide)
          (fun _ _ _ _ _ => (pg_name (i := 4) sc.nd rfl (Or.inl rfl))) (fun _ _ _ _ _ => pts_nil)
          (fun _ _ _ _ _ => (pi_range1 rfl T.range (pa_cons (pv 0) pa_nil)))
          (fun _ _ _ _ _ => (pg_name (i := 5) sc.nd rfl (Or.inl rfl))) (fun _ _ _ _ _ => pts_nil)
          (fun _ _ _ _ _ => (pe_tup (StX.pa_star (pv 4) (pa_cons (pv 5) pa_nil)))))))
      (pss_one (ps_ret (pv 2))))), ?_⟩
  refine ⟨by decide, fun T1 hT1 => ⟨(by show 1 ≤ sizeLine; decide), fun D0 hD0 => ?_⟩⟩
  have k0 := ((Hs.start H).tup (o := .tup []) hT1).new (o := .lst [.ref T1]) hD0
  have u1 := up_same (o := .tup []) hT1
  have hD00 : H D0 = none := u1.free hD0
  simp only [List.set_cons_succ, List.set_cons_zero]
  refine ⟨_, rfl, _, rfl, by omega, by omega, for_rng (n := k) (fun t σ H' => ∃ (rq : Addr) (t3 : Option V) (B : Hp) (qs : List Addr), σ = [some (.int (m : Nat)), some (.int (k : Nat)), some (.ref rq), t3, none, none] ∧ H rq = none ∧ Same H B ∧ Hs B [(rq, .lst (qs.map V.ref))] H' ∧ Paired (TpZ K B) qs (tupZ m t))
    ⟨D0, none, _, [T1], rfl, hD00, u1, k0, .cons (SqT.of upd_same) .nil⟩ ?_ ?_⟩
  · rintro t σ H1 ht ⟨rq, t3, B, qs, rfl, hrq, sB, hh, hP⟩
    have hPl := paired_len hP
    have hcard : (tupZ m t).length ≤ 2000 := by rw [tupZ_len]; exact pow_le_z hc (by omega)
    have hcard2 : (tupZ m t).length * m ≤ 2000 := by
      rw [tupZ_len, ← Nat.pow_succ]
      exact pow_le_z hc (by omega)
    simp only [List.set_cons_succ, List.set_cons_zero]
    refine ⟨_, rfl, rq, rfl, ⟨_, SqL.of hh.r0⟩, fun D hD => lp_it (walk_list (K := K) (a := rq) (xs := qs.map V.ref)) (fun n H' => ∃ (B2 : Hp) (qs2 : List Addr), Same B B2 ∧ Hs B2 [(D, .lst (qs2.map V.ref)), (rq, .lst (qs.map V.ref))] H' ∧ Paired (TpZ K B2) qs2 (((tupZ m t).take n).flatMap (widZ m)))
      ⟨B, [], Same.refl _, hh.new hD, .nil⟩ (fun _ _ _ ⟨_, _, _, h2, _⟩ => SqL.of h2.r1) ?_ ?_⟩
    · rintro n x H2 _ hn ⟨B2, qs2, s2, h2, hP2⟩ ⟨rfl, hx⟩
      obtain ⟨q, eq, rfl⟩ := map_at hx
      have hi : n < (tupZ m t).length := by rw [← hPl]; exact (List.getElem?_eq_some_iff.mp eq).1
      obtain ⟨r, er⟩ : ∃ r, (tupZ m t)[n]? = some r := ⟨_, List.getElem?_eq_getElem hi⟩
      obtain ⟨q2, eq2, tq⟩ := paired_at hP er
      rw [eq] at eq2
      cases eq2
      have tq : SqT K B q (vI r) := tq
      have rl := (tupZ_mem.mp (List.mem_of_getElem? er)).1
      refine ⟨?_, ?_⟩
      · simp only [wipe, List.map_cons, List.map_nil, List.set_cons_succ, List.set_cons_zero]
      simp only [tYes, if_true, wipe, List.map_cons, List.map_nil, List.set_cons_succ, List.set_cons_zero]
      refine ⟨_, rfl, _, rfl, by omega, by omega, lp_it (walk_range (lo := 0) (n := m)) (fun j H' => ∃ (B3 : Hp) (qs3 : List Addr), Same B2 B3 ∧ Hs B3 [(D, .lst (qs3.map V.ref)), (rq, .lst (qs.map V.ref))] H' ∧ Paired (TpZ K B3) qs3 (((tupZ m t).take n).flatMap (widZ m) ++ (List.range j).map fun s => r ++ [((s : Nat) : Int)]))
        ⟨B2, qs2, Same.refl _, h2, by rw [List.range_zero, List.map_nil, List.append_nil]; exact hP2⟩ (fun _ _ _ _ => trivial) ?_ ?_⟩
      · rintro j x H3 _ hj ⟨B3, qs3, s3, h3, hP3⟩ ⟨rfl, rfl⟩
        simp only [Int.zero_add]
        refine ⟨?_, ?_⟩
        · simp only [wipe, List.map_cons, List.map_nil, List.set_cons_succ, List.set_cons_zero]
        simp only [tYes, if_true, wipe, List.map_cons, List.map_nil, List.set_cons_succ, List.set_cons_zero]
        refine ⟨_, rfl, q, _, rfl, .inl (Same.sqt ((s2.trans s3).trans h3.sub) tq), _, rfl, by rw [vI, List.length_append, List.length_map, rl]; show _ + 1 ≤ sizeLine; rw [sizeLine_eq]; omega, fun T6 hT6 => ?_⟩
        have h6 := h3.tup (o := .tup (vI r ++ [.int ((j : Nat) : Int)])) hT6
        have s6 : Same B3 (upd B3 T6 (.tup (vI r ++ [.int ((j : Nat) : Int)]))) := up_same (h3.sub.free hT6)
        have ql := paired_len hP3
        have et : (List.range (j + 1)).map (fun s => r ++ [((s : Nat) : Int)]) = (List.range j).map (fun s => r ++ [((s : Nat) : Int)]) ++ [r ++ [((j : Nat) : Int)]] := by rw [List.range_succ, List.map_append]; rfl
        refine ⟨_, h6.r0, ?_, _, qs3 ++ [T6], s3.trans s6, by rw [List.map_append]; exact h6.w0, ?_⟩
        · rw [List.length_map, ql, List.length_append, List.length_map, List.length_range, flat_widZ, List.length_take, sizeLine_eq]
          have := Nat.mul_le_mul_right m (Nat.min_le_right n (tupZ m t).length)
          omega
        · rw [et, ← List.append_assoc]
          refine Paired.snoc (Paired.mapP hP3 fun _ _ z => Same.sqt s6 z) ?_
          show SqT K _ T6 (vI (r ++ [((j : Nat) : Int)]))
          rw [show vI (r ++ [((j : Nat) : Int)]) = vI r ++ [.int ((j : Nat) : Int)] from List.map_append ..]
          exact SqT.of upd_same
      · rintro H3 ⟨B3, qs3, s3, h3, hP3⟩
        refine ⟨B3, qs3, s2.trans s3, h3, ?_⟩
        rw [List.take_succ, er, List.flatMap_append]
        have : [r].flatMap (widZ m) = (List.range m).map fun s => r ++ [((s : Nat) : Int)] := by simp [widZ]
        rw [show (some r).toList = [r] from rfl, this]
        exact hP3
    · rintro H2 ⟨B2, qs2, s2, h2, hP2⟩
      rw [List.length_map, hPl, List.take_length] at hP2
      have hDn : H D = none := (sB.trans hh.sub).free hD
      exact ⟨D, _, B2, qs2, rfl, hDn, sB.trans s2, h2.swap.drop, hP2⟩
  · rintro σ H1 ⟨rq, t3, B, qs, rfl, hrq, sB, hh, hP⟩
    exact ⟨_, rfl, hq H1 rq qs hrq (sB.trans hh.sub) hh.r0 (Paired.mapP hP fun _ _ z => Same.sqt hh.sub z)⟩
end
end Sy
/-! roots of plants in a row -/
namespace Sy
open PySem PySem.Spec PyProof.Rows L2
theorem Fo.uniq : ∀ {w : List Nat} {n m : Nat}, Fo n w → Fo m w → n = m
  | [], 0, 0, _, _ => rfl
  | [], n + 1, _, h, _ => h.elim
  | [], 0, m + 1, _, h => h.elim
  | a :: w, 0, _, h, _ => h.elim
  | a :: w, n + 1, 0, _, h => h.elim
  | a :: w, n + 1, m + 1, h, g => by
    have := Fo.uniq (w := w) (n := n + a) (m := m + a) h g
    omega
theorem szN : ∀ {w : List Nat} {n : Nat}, Fo n w → n ≤ w.length
  | [], 0, _ => Nat.zero_le _
  | [], n + 1, h => h.elim
  | a :: w, 0, h => Nat.zero_le _
  | a :: w, n + 1, h => by
    have := szN (w := w) (n := n + a) h
    rw [List.length_cons]
    omega
/-- where the plants begin that stand from i on -/
def rts (w : List Nat) (i m : Nat) : List Nat := (List.range m).map fun k => i + sp k (w.drop i)
theorem rts_len (w : List Nat) (i m : Nat) : (rts w i m).length = m := by rw [rts, List.length_map, List.length_range]
theorem rts_at {w : List Nat} {i m k : Nat} (h : k < m) : (rts w i m)[k]? = some (i + sp k (w.drop i)) := by rw [rts, List.getElem?_map, List.getElem?_range h]; rfl
theorem rts_step {w : List Nat} {i m : Nat} (hi : i < w.length) : rts w i (m + 1) = i :: (rts w (i + 1) (aw w i + m)).drop (aw w i) := by
  apply List.ext_getElem?
  intro k
  cases k with
  | zero =>
    rw [rts_at (by omega), sp_zero]
    rfl
  | succ k =>
    rw [List.getElem?_cons_succ, List.getElem?_drop]
    by_cases h : k < m
    · rw [rts_at (by omega), rts_at (by omega), drop_at hi, sp_cons, show k + aw w i = aw w i + k by omega]
      congr 1
      omega
    · rw [List.getElem?_eq_none (by rw [rts_len]; omega), List.getElem?_eq_none (by rw [rts_len]; omega)]
theorem rts_kd {w : List Nat} {i m k : Nat} (h : k < m) : (rts w (i + 1) m)[k]? = some (kd w i k) := rts_at h
end Sy
/-! Reader.table, _states_in, state_of, states_of, __contains__ -/
namespace Sy
open PySem PySem.Spec PyProof.Rows L2
/-- the stack of states of a row's end, the top first -/
def stkF (rows : List Sy.Row) (d : RdrZ) : List Str → List Int
  | [] => []
  | x :: l => stepZ d x ((stkF rows d l).take (ar rows x)) :: (stkF rows d l).drop (ar rows x)
def stsF (rows : List Sy.Row) (d : RdrZ) : List Str → List Int
  | [] => []
  | x :: l => stepZ d x ((stkF rows d l).take (ar rows x)) :: stsF rows d l
theorem stsF_len (rows : List Sy.Row) (d : RdrZ) : ∀ l, (stsF rows d l).length = l.length
  | [] => rfl
  | x :: l => by rw [stsF, List.length_cons, stsF_len rows d l, List.length_cons]
theorem stkF_len {rows : List Sy.Row} {d : RdrZ} : ∀ {l : List Str} {m : Nat}, Fo m (wt rows l) → (stkF rows d l).length = m
  | [], 0, _ => rfl
  | [], _ + 1, h => h.elim
  | x :: l, 0, h => h.elim
  | x :: l, m + 1, h => by
    have h : Fo (m + ar rows x) (wt rows l) := h
    have ih := stkF_len (d := d) h
    rw [stkF, List.length_cons, List.length_drop, ih]
    omega
def tabF (rows : List Sy.Row) (m : Nat) (d : RdrZ) : List ZRow := rows.flatMap fun r => (tupZ m r.2).map fun l => (r.1, l, stepZ d r.1 l)
theorem set_zero {i : Nat} {v : Int} {S : List Int} : (vI (List.replicate (i + 1) 0 ++ S)).set i (.int v) = vI (List.replicate i 0 ++ v :: S) := by
  unfold vI
  rw [List.map_append, List.map_append, List.map_replicate, List.map_replicate, List.replicate_succ', List.append_assoc, List.set_append_right _ _ (by rw [List.length_replicate]; exact Nat.le_refl _), List.length_replicate, Nat.sub_self]
  rfl
section
variable {P : Program} {w : World} {K : PySem.W.Frag} {mg : Str → Option Value} {base : Heap}
/-! _states_in -/
def spStIn (P : Program) (w : World) (K : PySem.W.Frag) : Sp := fun vs H Q E => ∃ (a b p : Addr) (rows : List Sy.Row) (d : RdrZ) (l : List Str), vs = [.ref a, .ref p] ∧ RdzAt P w K H a b rows d ∧ RowsOk rows ∧ SqT K H p (l.map V.str) ∧
  (ckP rows l = none → ∀ H' q, Same H H' → H' q = some (.lst (vI (stsF rows d l))) → Q (.ref q) H') ∧ (∀ e, ckP rows l = some e → RaE K e H E)
abbrev N_stI : List Str := ["self", "plant", "_", "found", "waiting", "place", "below", "state"]
theorem sc_stI : FnScope N_stI ["self", "plant"] (defScope (clb 26 2)) := ⟨rfl, rfl, rfl, by decide +kernel, rfl, by decide +kernel, by decide +kernel⟩
theorem k_stI (T : Txt K mg) (TR : TxtR K mg) (F : MC K "Reader" "_states_in" "Reader._states_in" (clb 26 2)) (c_branches : CalM P w K mg base 3 "branches" ["self", "kind"] (spBranches K)) (c_check_plant : Cal P w K mg base 4 "check_plant" ["bed", "plant"] (spCheckE K ckP)) :
    CalC P w K mg base 5 "Reader" "_states_in" ["self", "plant"] (spStIn P w K) := by
  obtain ⟨me, fd, F⟩ := F
  refine ⟨me, fd, F.ok sc_stI (fun vs H Q E s => by obtain ⟨_, _, _, _, _, _, rfl, _⟩ := s; rfl) ?_, F.bindsN (fun _ _ _ _ _ _ us e => match us, e with | [_, _], _ => rfl)⟩
  intro cdv A outer s H vs Q E hr h
  obtain ⟨a, b, p, rows, d, l, rfl, hR, ok, hp, hq, hE⟩ := h
  obtain ⟨mB, fB, FB, BB⟩ := c_branches
  have hu := hu4_of hr
  have sc := sc_stI
  obtain ⟨dx, tM, dE, ob, h1, h2, h3, h4, h5⟩ := hR.ex
  obtain ⟨dx', dA, tR, tK, dR, pp, b1, b2⟩ := id h2.ex
  refine ⟨_, (pss_cons (ps_expr (pe_calX c_check_plant hr (takes_of rfl rfl rfl rfl) (pa_cons (pe_fld (pv 0) rfl) (pa_cons (pv 1) pa_nil))))
      (pss_cons (ps_setLc (i := 3) (own := [("_", 2)]) (g := gName 2) rfl sc.nd rfl rfl (sw_true rfl rfl rfl (by decide +kernel)) (pi_tup (pv 1)) (blkOk_by (N := N_stI) (sc := defScope (clb 26 2)) (by decide +kernel)) (fun _ _ _ _ _ => (pg_name (i := 2) sc.nd rfl (Or.inl rfl))) (fun _ _ _ _ _ => pts_nil) (fun _ _ _ _ _ => pe_int))
      (pss_cons (ps_set (i := 4) sc.nd rfl (Or.inl rfl) (pe_lst pa_nil))
      (pss_cons (ps_for (passes_of rfl) rfl (pi_revR rfl T.reversed (prg_1 rfl T.range (pe_callB call_len_seq (by rfl) T.len (by decide +kernel) (pa_cons (pv 1) pa_nil)))) (pg_name (i := 5) sc.nd rfl (Or.inl rfl))
        (pss_cons (ps_set (i := 6) sc.nd rfl (Or.inl rfl) (pe_lst pa_nil))
        (pss_cons (ps_for (passes_of rfl) rfl (pi_range1 rfl T.range (pa_cons (pe_meth (pe_fld (pv 0) rfl) T.bed.cl mB FB (hr.mono (by decide)) BB .nil (E := E0) (fun pins σ H s e s' I h => passL pins σ H s e s' I h) (pa_cons (pe_ix ix_tup (pv 1) (pv 5) (fun _ _ => rfl)) pa_nil)) pa_nil)) (pg_name (i := 2) sc.nd rfl (Or.inl rfl))
          (pss_one (ps_expr (pe_bm PySem.F.plainAttrs_list PySem.F.slot_list_append PySem.F.type_list_append mt_append (pv 6) (pa_cons (pe_bm0 PySem.F.plainAttrs_list PySem.F.slot_list_pop PySem.F.type_list_pop mt_pop (pv 4)) pa_nil)))))
        (pss_cons (ps_set (i := 7) sc.nd rfl (Or.inl rfl) (pe_nget2 hu (pe_fld (pv 0) rfl) (pe_tup (pa_cons (pe_ix ix_tup (pv 1) (pv 5) (fun _ _ => rfl)) (pa_cons (pe_callTy call_tuple_of (by rfl) T.tuple (by decide +kernel) (pa_cons (pv 6) pa_nil)) pa_nil))) (pe_fld (pv 0) rfl) ⟨rfl, rfl, rfl, rfl⟩))
        (pss_cons (ps_asg (pv 7) (pg_sub (pv 3) (pv 5) set_list))
        (pss_one (ps_expr (pe_bm PySem.F.plainAttrs_list PySem.F.slot_list_append PySem.F.type_list_append mt_append (pv 4) (pa_cons (pv 7) pa_nil)))))))))
      (pss_one (ps_ret (pv 3))))))), ?_⟩
  refine ⟨_, rfl, a, _, dx, _, _, rfl, h1, TR.cl, TR.nB, rfl, _, rfl, b, p, rows, l, rfl, h2, hp, fun ck H1 s1 => ?_, hE⟩
  have pl := pln_of ck
  have hp1 := Same.sqt s1 hp
  have ll := pl.le
  have hwl := wt_len rows l
  refine ⟨_, rfl, p, rfl, ⟨_, hp1⟩, fun F0 hF0 => lc_tup (K := K) (a := p) (xs := l.map V.str) (fun i H' => Hs H1 [(F0, .lst (vI (List.replicate i 0)))] H') ((Hs.start H1).new hF0) ?_ ?_ ?_⟩
  · rintro i H' _ hh
    exact Same.sqt hh.sub hp1
  · rintro i x H' hx hh
    have hi : i < l.length := by
      have := (List.getElem?_eq_some_iff.mp hx).1
      rw [List.length_map] at this
      exact this
    refine ⟨rfl, ?_⟩
    refine ⟨_, hh.r0, by unfold vI; rw [List.length_map, List.length_replicate, sizeLine_eq]; omega, ?_⟩
    rw [show vI (List.replicate (i + 1) 0) = vI (List.replicate i 0) ++ [.int 0] by unfold vI; rw [List.replicate_succ', List.map_append]; rfl]
    exact hh.w0
  rintro H2 hh
  rw [List.length_map] at hh
  refine ⟨by decide, fun W hW => ?_⟩
  have h6 := (hh.new (o := .lst []) hW)
  have s12 : ∀ {B : Hp}, Same H1 B → Same H B := fun s => s1.trans s
  simp only [List.set_cons_succ, List.set_cons_zero]
  refine ⟨_, rfl, p, _, rfl, .inr (Same.sqt h6.sub hp1), _, rfl, by decide, by decide, by rw [List.length_map]; omega, by rw [List.length_map]; omega, ?_⟩
  rw [List.length_map]
  refine for_rrng (n := l.length) (fun i σ H' => ∃ (t2 t5 t6 t7 : Option V) (B : Hp) (m : Nat), σ = [some (.ref a), some (.ref p), t2, some (.ref F0), some (.ref W), t5, t6, t7] ∧ Same H1 B ∧ Hs B [(W, .lst (vI (stkF rows d (l.drop i)).reverse)), (F0, .lst (vI (List.replicate i 0 ++ stsF rows d (l.drop i))))] H' ∧ Fo m ((wt rows l).drop i))
    ⟨none, none, none, none, H1, 0, rfl, Same.refl _, by rw [List.drop_length]; show Hs H1 [(W, .lst []), (F0, .lst (vI (List.replicate l.length 0 ++ [])))] _; rw [List.append_nil]; exact h6, by rw [List.drop_of_length_le (by omega)]; trivial⟩ ?_ ?_
  · rintro i σ H3 hi ⟨t2, t5, t6, t7, B, m0, rfl, sB, h7, hFo⟩
    obtain ⟨x, ex⟩ : ∃ x, l[i]? = some x := ⟨_, List.getElem?_eq_getElem hi⟩
    have hiw : i < (wt rows l).length := by omega
    have kx := pl.kn x (List.mem_of_getElem? ex)
    have eaw : aw (wt rows l) i = ar rows x := wt_at ex
    obtain ⟨m, hm⟩ := pl.fo.below hiw
    obtain rfl : m0 = aw (wt rows l) i + m := Fo.uniq hFo hm
    have hRl := stkF_len (d := d) (rows := rows) (l := l.drop (i + 1)) (m := aw (wt rows l) i + m) (by rw [show wt rows (l.drop (i + 1)) = (wt rows l).drop (i + 1) from List.map_drop ..]; exact hm)
    rw [eaw] at hRl
    have har := ok.ar_le x
    have hml := szN hm
    rw [List.length_drop] at hml
    have edr := drop_of ex
    generalize hRdef : stkF rows d (l.drop (i + 1)) = R at *
    refine ⟨by decide, fun D hD => ?_⟩
    have h8 := h7.new (o := .lst []) hD
    have sH := (s1.trans sB).trans h8.sub
    simp only [List.set_cons_succ, List.set_cons_zero]
    refine ⟨_, rfl, a, _, dx, _, _, rfl, sH _ _ h1, TR.cl, TR.nB, rfl, b, dx', _, rfl, sH _ _ b1, rfl, _, rfl, _, rfl, p, _, _, _, rfl, rfl, Same.sqt sH hp, atI_nat (by rw [List.getElem?_map, ex]; rfl), b, rows, x, rfl, h2.mono (Stay.of sH), ok.wdB kx, fun _ => ?_, fun z => by rw [kx] at z; cases z⟩
    refine ⟨_, rfl, by omega, by omega, for_rng (n := ar rows x) (fun t σ H' => ∃ t2, σ = [some (.ref a), some (.ref p), t2, some (.ref F0), some (.ref W), some (.int (i : Nat)), some (.ref D), t7] ∧ Hs B [(D, .lst (vI (R.take t))), (W, .lst (vI (R.drop t).reverse)), (F0, .lst (vI (List.replicate (i + 1) 0 ++ stsF rows d (l.drop (i + 1)))))] H') ⟨_, rfl, h8⟩ ?_ ?_⟩
    · rintro t σ H4 ht ⟨t2, rfl, h9⟩
      obtain ⟨u, eq⟩ : ∃ u, R[t]? = some u := ⟨_, List.getElem?_eq_getElem (by omega)⟩
      have eR : vI (R.drop t).reverse = vI (R.drop (t + 1)).reverse ++ [V.int u] := by unfold vI; rw [drop_of eq, List.reverse_cons, List.map_append]; rfl
      refine ⟨_, rfl, .inl ⟨rfl, _, SqL.of h9.r0⟩, _, rfl, .inl ⟨rfl, _, SqL.of h9.r1⟩, W, vI (R.drop t).reverse, .int u, rfl, rfl, h9.r1, ?_, ?_⟩
      · rw [eR, List.length_append, List.length_singleton, Nat.add_sub_cancel, List.getElem?_append_right (Nat.le_refl _), Nat.sub_self]
        rfl
      have edl : (vI (R.drop t).reverse).dropLast = vI (R.drop (t + 1)).reverse := by
        rw [eR]
        exact List.dropLast_concat
      rw [edl]
      have h10 := h9.w1 (o' := .lst (vI (R.drop (t + 1)).reverse))
      refine ⟨D, _, _, rfl, rfl, h10.r0, by unfold vI; rw [List.length_map, List.length_take, sizeLine_eq]; omega, _, rfl, ?_⟩
      have h11 := h10.w0 (o' := .lst (vI (R.take t) ++ [.int u]))
      rw [show vI (R.take t) ++ [V.int u] = vI (R.take (t + 1)) by unfold vI; rw [List.take_succ, eq, List.map_append]; rfl] at h11 ⊢
      exact h11
    · rintro σ H4 ⟨t2, rfl, h9⟩
      have s04 := (s1.trans sB).trans h9.sub
      refine ⟨_, rfl, a, _, dx, _, _, rfl, s04 _ _ h1, TR.cl, TR.nE, rfl, dE, ob, _, rfl, s04 _ _ h4, h5.mono (Stay.of s04), _, rfl, _, rfl, p, _, _, _, rfl, rfl, Same.sqt s04 hp, atI_nat (by rw [List.getElem?_map, ex]; rfl), _, rfl, D, _, rfl, .inl ⟨SqL.of h9.r0, fun T5 hT5 => ⟨(by show 2 ≤ sizeLine; decide), fun T6 hT6 => ?_⟩⟩⟩
      have h10 := (h9.tup (o := .tup (vI (R.take (ar rows x)))) hT5).tup (o := .tup [.str x, .ref T5]) hT6
      have s5 : Same B (upd B T5 (.tup (vI (R.take (ar rows x))))) := up_same (h9.sub.free hT5)
      have s6 : Same (upd B T5 (.tup (vI (R.take (ar rows x))))) (upd (upd B T5 (.tup (vI (R.take (ar rows x))))) T6 (.tup [.str x, .ref T5])) := up_same ((h9.tup (o := .tup (vI (R.take (ar rows x)))) hT5).sub.free hT6)
      have t5 : SqT K (upd B T5 (.tup (vI (R.take (ar rows x))))) T5 (vI (R.take (ar rows x))) := SqT.of upd_same
      have t6 : SqT K (upd (upd B T5 (.tup (vI (R.take (ar rows x))))) T6 (.tup [.str x, .ref T5])) T6 [.str x, .ref T5] := SqT.of upd_same
      generalize upd (upd B T5 (.tup (vI (R.take (ar rows x))))) T6 (.tup [.str x, .ref T5]) = B6 at *
      generalize upd B T5 (.tup (vI (R.take (ar rows x)))) = B5 at *
      generalize upd (upd H4 T5 (.tup (vI (R.take (ar rows x))))) T6 (.tup [.str x, .ref T5]) = H6 at *
      have s06 := (((s1.trans sB).trans s5).trans s6).trans h10.sub
      refine ⟨_, rfl, a, _, dx, _, _, rfl, s06 _ _ h1, TR.cl, TR.nO, rfl, T6, ob, _, zkey (x, R.take (ar rows x)), rfl, s06 _ _ h4, h5.mono (Stay.of s06), NK.ofZ (Same.sqt h10.sub t6) (Same.sqt (s6.trans h10.sub) t5), ?_⟩
      rw [getD_tabZ]
      have ev : (lkZ d.rws (x, R.take (ar rows x))).getD d.rest = stepZ d x (R.take (ar rows x)) := rfl
      rw [ev]
      have e1 : stkF rows d (l.drop i) = stepZ d x (R.take (ar rows x)) :: R.drop (ar rows x) := by rw [edr, stkF, hRdef]
      have e2 : stsF rows d (l.drop i) = stepZ d x (R.take (ar rows x)) :: stsF rows d (l.drop (i + 1)) := by rw [edr, stsF, hRdef]
      generalize stepZ d x (R.take (ar rows x)) = v at *
      simp only [List.set_cons_succ, List.set_cons_zero]
      refine ⟨_, rfl, _, rfl, _, rfl, F0, _, _, i, rfl, rfl, h10.r2, ixN_nat (by unfold vI; rw [List.length_map, List.length_append, List.length_replicate]; omega), ?_⟩
      rw [set_zero]
      have h11 := h10.w2 (o' := .lst (vI (List.replicate i 0 ++ v :: stsF rows d (l.drop (i + 1)))))
      refine ⟨_, rfl, .inl ⟨rfl, _, SqL.of h11.r1⟩, _, rfl, W, _, _, rfl, rfl, h11.r1, by unfold vI; rw [List.length_map, List.length_reverse, List.length_drop, sizeLine_eq]; omega, ?_⟩
      have h12 := h11.w1 (o' := .lst (vI (R.drop (ar rows x)).reverse ++ [.int v]))
      rw [show vI (R.drop (ar rows x)).reverse ++ [V.int v] = vI (v :: R.drop (ar rows x)).reverse by unfold vI; rw [List.reverse_cons, List.map_append]; rfl] at h12 ⊢
      refine ⟨_, _, _, _, B6, m + 1, rfl, (sB.trans s5).trans s6, ?_, ?_⟩
      · rw [e1, e2]
        exact h12.drop
      · rw [drop_at hiw]
        show Fo (m + aw (wt rows l) i) _
        rw [Nat.add_comm]
        exact hm
  · rintro σ H3 ⟨t2, t5, t6, t7, B, m, rfl, sB, h7, _⟩
    rw [List.drop_zero] at h7
    exact ⟨_, rfl, hq ck H3 F0 ((s1.trans sB).trans h7.sub) h7.r1⟩
/-! state_of, states_of, __contains__ -/
def spStOf (P : Program) (w : World) (K : PySem.W.Frag) : Sp := fun vs H Q E => ∃ (a b p : Addr) (rows : List Sy.Row) (d : RdrZ) (l : List Str), vs = [.ref a, .ref p] ∧ RdzAt P w K H a b rows d ∧ RowsOk rows ∧ SqT K H p (l.map V.str) ∧
  (ckP rows l = none → ∀ H' n, Same H H' → (stsF rows d l)[0]? = some n → Q (.int n) H') ∧ (∀ e, ckP rows l = some e → RaE K e H E)
def spStsOf (P : Program) (w : World) (K : PySem.W.Frag) : Sp := fun vs H Q E => ∃ (a b p : Addr) (rows : List Sy.Row) (d : RdrZ) (l : List Str), vs = [.ref a, .ref p] ∧ RdzAt P w K H a b rows d ∧ RowsOk rows ∧ SqT K H p (l.map V.str) ∧
  (ckP rows l = none → ∀ H' t, Same H H' → SqT K H' t (vI (stsF rows d l)) → Q (.ref t) H') ∧ (∀ e, ckP rows l = some e → RaE K e H E)
def spCont (P : Program) (w : World) (K : PySem.W.Frag) : Sp := fun vs H Q E => ∃ (a b p : Addr) (rows : List Sy.Row) (d : RdrZ) (l : List Str), vs = [.ref a, .ref p] ∧ RdzAt P w K H a b rows d ∧ RowsOk rows ∧ SqT K H p (l.map V.str) ∧
  (ckP rows l = none → ∀ H' n, Same H H' → (stsF rows d l)[0]? = some n → Q (.bl (decide (n ∈ d.marks))) H') ∧ (∀ e, ckP rows l = some e → RaE K e H E)
theorem inV_int (n : Int) (ns : List Int) : inV (.int n) (vI ns) = decide (n ∈ ns) := by
  unfold inV vI
  induction ns with
  | nil => rfl
  | cons x l ih =>
    rw [List.map_cons, List.any_cons, ih]
    have : eqV (V.int x) (V.int n) = decide (x = n) := by
      show (x == n) = _
      by_cases h : x = n
      · subst h; simp
      · rw [decide_eq_false h, beq_eq_false_iff_ne]
        exact h
    rw [this]
    by_cases h : x = n
    · subst h; simp
    · have h2 : n ≠ x := fun z => h z.symm
      simp [h, h2]
theorem all_ints (l : List Int) : (vI l).all flatV = true := by
  rw [vI, List.all_map, List.all_eq_true]
  intro x _
  rfl
theorem sts_pos {rows : List Sy.Row} {d : RdrZ} {l : List Str} (pl : Pln rows l) : ∃ n, (stsF rows d l)[0]? = some n := by
  have h := Fo.pos pl.fo
  rw [wt_len] at h
  exact ⟨_, List.getElem?_eq_getElem (by rw [stsF_len]; exact h)⟩
/-! table -/
def spTab (P : Program) (w : World) (K : PySem.W.Frag) : Sp := fun vs H Q _ => ∃ (a b : Addr) (rows : List Sy.Row) (d : RdrZ) (m : Nat), vs = [.ref a] ∧ RdzAt P w K H a b rows d ∧ RowsOk rows ∧ d.many = (m : Nat) ∧ 1 ≤ m ∧ m ≤ 1000 ∧ (∀ r ∈ rows, m ^ r.2 ≤ 2000) ∧
  ∀ H' t (ps : List Addr), Same H H' → SqT K H' t (ps.map V.ref) → Paired (ZrAt K H') ps (tabF rows m d) → Q (.ref t) H'
abbrev N_tab : List Str := ["self", "rows", "kind", "branches", "below"]
theorem sc_tab : FnScope N_tab ["self"] (defScope (clb 26 6)) := ⟨rfl, rfl, rfl, by decide +kernel, rfl, by decide +kernel, by decide +kernel⟩
theorem k_tab (T : Txt K mg) (TR : TxtR K mg) (F : MC K "Reader" "table" "Reader.table" (clb 26 6)) (c_below_tuples : Cal P w K mg base 1 "below_tuples" ["many", "length"] (spBel K)) : CalC P w K mg base 2 "Reader" "table" ["self"] (spTab P w K) := by
  obtain ⟨me, fd, F⟩ := F
  refine ⟨me, fd, F.ok sc_tab (fun vs H Q E s => by obtain ⟨_, _, _, _, _, rfl, _⟩ := s; rfl) ?_, F.bindsN (fun _ _ _ _ _ _ us e => match us, e with | [_], _ => rfl)⟩
  intro cdv A outer s H vs Q E hr h
  obtain ⟨a, b, rows, d, m, rfl, hR, ok, edm, hm1, hm, hpw, hq⟩ := h
  have hu := hu4_of hr
  have sc := sc_tab
  have ule := ok.le
  obtain ⟨dx, tM, dE, ob, h1, h2, h3, h4, h5⟩ := hR.ex
  obtain ⟨dx', dA, tR, tK, dR, pp, b1, b2, b3, b4, b5, b6⟩ := id h2.ex
  have hppl := paired_len b6
  refine ⟨_, (pss_cons (ps_set (i := 1) sc.nd rfl (Or.inl rfl) (pe_lst pa_nil))
      (pss_cons (ps_for (passes_of rfl) rfl (pi_tup (pe_fld (pe_fld (pv 0) rfl) rfl)) (pg_tup rfl (pgs_cons (pg_name (i := 2) sc.nd rfl (Or.inl rfl)) (pgs_cons (pg_name (i := 3) sc.nd rfl (Or.inl rfl)) pgs_nil)))
        (pss_one (ps_for (passes_of rfl) rfl (pi_list (pe_cal c_below_tuples hr (pa_cons (pe_fld (pv 0) rfl) (pa_cons (pv 3) pa_nil)))) (pg_name (i := 4) sc.nd rfl (Or.inl rfl))
          (pss_one (ps_expr (pe_bm PySem.F.plainAttrs_list PySem.F.slot_list_append PySem.F.type_list_append mt_append (pv 1) (pa_cons (pe_tup (pa_cons (pv 2) (pa_cons (pv 4) (pa_cons (pe_nget2 hu (pe_fld (pv 0) rfl) (pe_tup (pa_cons (pv 2) (pa_cons (pv 4) pa_nil))) (pe_fld (pv 0) rfl) ⟨rfl, rfl, rfl, rfl⟩) pa_nil)))) pa_nil)))))))
      (pss_one (ps_ret (pe_callTy call_tuple_of (by rfl) T.tuple (by decide +kernel) (pa_cons (pv 1) pa_nil)))))), ?_⟩
  refine ⟨by decide, fun D hD => ?_⟩
  have k1 := (Hs.start H).new (o := .lst []) hD
  simp only [List.set_cons_succ, List.set_cons_zero]
  refine ⟨_, rfl, a, _, dx, _, _, rfl, k1.sub _ _ h1, TR.cl, TR.nB, rfl, b, _, dx', _, _, rfl, k1.sub _ _ b1, T.bed.cl, T.bed.nR, rfl, tR, rfl, ⟨_, Same.sqt k1.sub b4⟩, for_tup (K := K) (a := tR) (xs := pp.map V.ref) (fun i σ H' => ∃ (t2 t3 t4 : Option V) (B : Hp) (qs : List Addr), σ = [some (.ref a), some (.ref D), t2, t3, t4] ∧ Same H B ∧ Hs B [(D, .lst (qs.map V.ref))] H' ∧ Paired (ZrAt K B) qs (tabF (rows.take i) m d) ∧ qs.length ≤ 2000 * i)
    ⟨none, none, none, H, [], rfl, Same.refl _, k1, .nil, Nat.le_refl _⟩ (fun _ _ _ _ ⟨_, _, _, _, _, _, sB, hh, _⟩ => Same.sqt (sB.trans hh.sub) b4) ?_ ?_⟩
  · rintro i v σ H1 hv ⟨t2, t3, t4, B, qs, rfl, sB, hh, hP, hql⟩
    obtain ⟨y, ey, rfl⟩ := map_at hv
    have hi : i < rows.length := by rw [← hppl]; exact (List.getElem?_eq_some_iff.mp ey).1
    obtain ⟨r, er⟩ : ∃ r, rows[i]? = some r := ⟨_, List.getElem?_eq_getElem hi⟩
    obtain ⟨y', ey', ty⟩ := paired_at b6 er
    rw [ey] at ey'
    cases ey'
    have hrm := List.mem_of_getElem? er
    have hbr := ok.br r hrm
    have hpr := hpw r hrm
    have sH := sB.trans hh.sub
    refine ⟨y, _, rfl, Same.sqt sH ty, rfl, _, _, rfl, _, _, rfl, rfl, ?_⟩
    simp only [List.set_cons_succ, List.set_cons_zero]
    refine ⟨_, rfl, a, _, dx, _, _, rfl, sH _ _ h1, TR.cl, TR.nS, rfl, _, rfl, m, r.2, by rw [edm], hm, by omega, hpr, fun H2 zq zs hzq s2 hL2 hP2 => ?_⟩
    have eL := (hh.out_new hzq)
    obtain ⟨c1, c2⟩ := hh.after s2
    have st2 := stay_cut hh allL1 s2
    have hL2' : cut [(D, HO.lst (qs.map V.ref))] H2 zq = some (.lst (zs.map V.ref)) := by rw [cut_at eL]; exact hL2
    have hP2 := Paired.mapP hP2 fun _ _ u => st2.sqt u
    generalize cut [(D, HO.lst (qs.map V.ref))] H2 = B2 at *
    have hzl := paired_len hP2
    have s02 := sB.trans c1
    have hcard : (tupZ m r.2).length ≤ 2000 := by rw [tupZ_len]; exact hpr
    refine ⟨zq, rfl, ⟨_, SqL.of (c2.sub _ _ hL2')⟩, for_list (K := K) (xs := zs.map V.ref) (fun j σ H' => ∃ (t4 : Option V) (B : Hp) (qs2 : List Addr), σ = [some (.ref a), some (.ref D), some (.str r.1), some (.int (r.2 : Nat)), t4] ∧ Same B2 B ∧ Hs B [(D, .lst (qs2.map V.ref))] H' ∧ Paired (ZrAt K B) qs2 (tabF (rows.take i) m d ++ ((tupZ m r.2).take j).map fun l => (r.1, l, stepZ d r.1 l)) ∧ qs2.length ≤ 2000 * i + j)
      ⟨t4, B2, qs, rfl, Same.refl _, c2, by show Paired _ _ (_ ++ []); rw [List.append_nil]; exact Paired.mapP hP fun _ _ u => u.mono (Stay.of c1), by omega⟩ (fun _ _ _ _ ⟨_, _, _, _, s3, h3, _⟩ => SqL.of (h3.sub _ _ (s3 _ _ hL2'))) ?_ ?_⟩
    · rintro j v σ H3 hv ⟨t4, B3, qs2, rfl, s3, h3', hP3, hq3⟩
      obtain ⟨z, ez, rfl⟩ := map_at hv
      have hj : j < (tupZ m r.2).length := by rw [← hzl]; exact (List.getElem?_eq_some_iff.mp ez).1
      obtain ⟨l, el⟩ : ∃ l, (tupZ m r.2)[j]? = some l := ⟨_, List.getElem?_eq_getElem hj⟩
      obtain ⟨z', ez', tz⟩ := paired_at hP2 el
      rw [ez] at ez'
      cases ez'
      have tz : SqT K B2 z (vI l) := tz
      have sH3 := (s02.trans s3).trans h3'.sub
      simp only [List.set_cons_succ, List.set_cons_zero]
      refine ⟨_, rfl, .inl ⟨rfl, _, SqL.of h3'.r0⟩, _, rfl, _, rfl, _, rfl, a, _, dx, _, _, rfl, sH3 _ _ h1, TR.cl, TR.nE, rfl, dE, ob, _, rfl, sH3 _ _ h4, h5.mono (Stay.of sH3), _, rfl, _, rfl, (by show 2 ≤ sizeLine; decide), fun T5 hT5 => ?_⟩
      have h6 := h3'.tup (o := .tup [.str r.1, .ref z]) hT5
      have s6 : Same B3 (upd B3 T5 (.tup [.str r.1, .ref z])) := up_same (h3'.sub.free hT5)
      have s06 := ((s02.trans s3).trans s6).trans h6.sub
      refine ⟨_, rfl, a, _, dx, _, _, rfl, s06 _ _ h1, TR.cl, TR.nO, rfl, T5, ob, _, zkey (r.1, l), rfl, s06 _ _ h4, h5.mono (Stay.of s06), NK.ofZ (Same.sqt h6.sub (SqT.of upd_same)) (Same.sqt ((s3.trans s6).trans h6.sub) tz), ?_⟩
      rw [getD_tabZ]
      have ev : (lkZ d.rws (r.1, l)).getD d.rest = stepZ d r.1 l := rfl
      rw [ev]
      refine ⟨(by show 3 ≤ sizeLine; decide), fun T7 hT7 => ?_⟩
      have h7 := h6.tup (o := .tup [.str r.1, .ref z, .int (stepZ d r.1 l)]) hT7
      have s7 : Same (upd B3 T5 (.tup [.str r.1, .ref z])) (upd (upd B3 T5 (.tup [.str r.1, .ref z])) T7 (.tup [.str r.1, .ref z, .int (stepZ d r.1 l)])) := up_same (h6.sub.free hT7)
      refine ⟨D, _, _, rfl, rfl, h7.r0, by rw [List.length_map, sizeLine_eq]; omega, _, _, qs2 ++ [T7], rfl, (s3.trans s6).trans s7, by rw [List.map_append]; exact h7.w0, ?_, by rw [List.length_append]; show _ + 1 ≤ _; omega⟩
      rw [List.take_succ, el, List.map_append, ← List.append_assoc]
      exact Paired.snoc (Paired.mapP hP3 fun _ _ u => u.mono (Stay.of (s6.trans s7))) ⟨z, SqT.of upd_same, Same.sqt ((s3.trans s6).trans s7) tz⟩
    · rintro σ H3 ⟨t4, B3, qs2, rfl, s3, h3', hP3, hq3⟩
      rw [List.length_map, hzl, List.take_length] at hP3
      rw [List.length_map, hzl] at hq3
      refine ⟨_, _, _, B3, qs2, rfl, s02.trans s3, h3', ?_, by omega⟩
      rw [List.take_succ, er]
      unfold tabF
      rw [List.flatMap_append]
      show Paired _ _ (_ ++ [r].flatMap _)
      rw [List.flatMap_cons, List.flatMap_nil, List.append_nil]
      exact hP3
  · rintro σ H1 ⟨t2, t3, t4, B, qs, rfl, sB, hh, hP, hql⟩
    rw [List.length_map, hppl, List.take_length] at hP
    exact ⟨_, rfl, D, _, rfl, .inl ⟨SqL.of hh.r0, fun t ht => hq _ t qs ((sB.trans hh.sub).trans (up_same ht)) (SqT.of upd_same) (Paired.mapP hP fun _ _ u => u.mono (Stay.of (hh.sub.trans (up_same ht))))⟩⟩
end
end Sy
/-! tuples_with, rows_with; the rank of a kind -/
namespace Sy
open PySem PySem.Spec PyProof.Rows L2
def twP (n len p : Nat) : List (List Int) := (tupZ n p).flatMap fun h => (tupZ (n + 1) (len - p - 1)).map fun t => h ++ (n : Int) :: t
def twZ (n len : Nat) : List (List Int) := (List.range len).flatMap (twP n len)
theorem flat_len_c {α β : Type} {f : α → List β} {c : Nat} : ∀ {l : List α}, (∀ x ∈ l, (f x).length = c) → (l.flatMap f).length = l.length * c
  | [], _ => by simp
  | x :: l, h => by
    rw [List.flatMap_cons, List.length_append, h x List.mem_cons_self, flat_len_c fun y hy => h y (List.mem_cons_of_mem _ hy), List.length_cons, Nat.succ_mul, Nat.add_comm]
theorem twP_len {n len p : Nat} (hp : p < len) (hc : (n + 1) ^ len ≤ 2000) : (tupZ n p).length * (tupZ (n + 1) (len - p - 1)).length ≤ 2000 := by
  rw [tupZ_len, tupZ_len]
  have h1 : n ^ p ≤ (n + 1) ^ p := Nat.pow_le_pow_left (Nat.le_succ n) p
  have h2 : (n + 1) ^ p * (n + 1) ^ (len - p - 1) = (n + 1) ^ (len - 1) := by
    rw [← Nat.pow_add]
    congr 1
    omega
  have h3 := Nat.mul_le_mul_right ((n + 1) ^ (len - p - 1)) h1
  have h4 : (n + 1) ^ (len - 1) ≤ 2000 := pow_le_z hc (by omega)
  omega
/-- what stands in it -/
theorem tw_mem {n len : Nat} {b : List Int} : b ∈ twZ n len ↔ b.length = len ∧ (∀ x ∈ b, inS ((n + 1 : Nat) : Int) x = true) ∧ (n : Int) ∈ b := by
  unfold twZ
  rw [List.mem_flatMap]
  constructor
  · rintro ⟨p, hp, hm⟩
    have hp := List.mem_range.mp hp
    unfold twP at hm
    obtain ⟨h, hh, hm⟩ := List.mem_flatMap.mp hm
    obtain ⟨t, ht, rfl⟩ := List.mem_map.mp hm
    obtain ⟨a1, a2⟩ := tupZ_mem.mp hh
    obtain ⟨b1, b2⟩ := tupZ_mem.mp ht
    refine ⟨by rw [List.length_append, List.length_cons, a1, b1]; omega, fun x hx => ?_, by simp⟩
    rcases List.mem_append.mp hx with hx | hx
    · have := inS_iff.mp (a2 x hx)
      exact inS_iff.mpr ⟨by omega, by omega⟩
    · rcases List.mem_cons.mp hx with rfl | hx
      · exact inS_iff.mpr ⟨by omega, by omega⟩
      · exact b2 x hx
  · rintro ⟨hl, hr, hm⟩
    have : ∃ h t, b = h ++ (n : Int) :: t ∧ (n : Int) ∉ h := by
      clear hl hr
      induction b with
      | nil => cases hm
      | cons y l ih =>
        by_cases c : y = (n : Int)
        · exact ⟨[], l, by rw [c]; rfl, by simp⟩
        · obtain ⟨h, t, e, z⟩ := ih ((List.mem_cons.mp hm).resolve_left fun z => c z.symm)
          refine ⟨y :: h, t, by rw [e]; rfl, fun q => ?_⟩
          rcases List.mem_cons.mp q with q | q
          · exact c q.symm
          · exact z q
    obtain ⟨h, t, rfl, hn⟩ := this
    rw [List.length_append, List.length_cons] at hl
    refine ⟨h.length, List.mem_range.mpr (by omega), ?_⟩
    unfold twP
    refine List.mem_flatMap.mpr ⟨h, tupZ_mem.mpr ⟨rfl, fun x hx => ?_⟩, List.mem_map.mpr ⟨t, tupZ_mem.mpr ⟨by omega, fun x hx => hr x (by simp [hx])⟩, rfl⟩⟩
    have h1 := inS_iff.mp (hr x (by simp [hx]))
    have h2 : x ≠ (n : Int) := fun z => hn (by rw [← z]; exact hx)
    exact inS_iff.mpr ⟨by omega, by omega⟩
section
variable {P : Program} {w : World} {K : PySem.W.Frag} {mg : Str → Option Value} {base : Heap}
def spTw (K : PySem.W.Frag) : Sp := fun vs H Q _ => ∃ n len : Nat, vs = [.int (n : Nat), .int (len : Nat)] ∧ n ≤ 900 ∧ len ≤ 50 ∧ (n + 1) ^ len ≤ 2000 ∧ ∀ H' q (qs : List Addr), H q = none → Same H H' → H' q = some (.lst (qs.map V.ref)) → Paired (TpZ K H') qs (twZ n len) → Q (.ref q) H'
abbrev N_tw : List Str := ["newest", "length", "found", "place", "head", "tail"]
theorem sc_tw : FnScope N_tw ["newest", "length"] (defScope (top 21)) := ⟨rfl, rfl, rfl, by decide +kernel, rfl, by decide +kernel, by decide +kernel⟩
theorem k_tw (T : Txt K mg) (F : DF K mg "tuples_with" 21) (c_below_tuples : Cal P w K mg base 1 "below_tuples" ["many", "length"] (spBel K)) : Cal P w K mg base 2 "tuples_with" ["newest", "length"] (spTw K) := by
  refine cal_of F.1 F.2 sc_tw (fun _ _ _ _ _ _ us e => match us, e with | [_, _], _ => rfl) (fun vs H Q E s => by obtain ⟨_, _, rfl, _⟩ := s; rfl) ?_
  intro cdv A outer s H vs Q E hr h
  obtain ⟨n, len, rfl, hn, hlen, hc, hq⟩ := h
  have sc := sc_tw
  refine ⟨_, (pss_cons (ps_set (i := 2) sc.nd rfl (Or.inl rfl) (pe_lst pa_nil))
      (pss_cons (ps_for (passes_of rfl) rfl (pi_range1 rfl T.range (pa_cons (pv 1) pa_nil)) (pg_name (i := 3) sc.nd rfl (Or.inl rfl))
        (pss_one (ps_for (passes_of rfl) rfl (pi_list (pe_cal c_below_tuples hr (pa_cons (pv 0) (pa_cons (pv 3) pa_nil)))) (pg_name (i := 4) sc.nd rfl (Or.inl rfl))
          (pss_one (ps_for (passes_of rfl) rfl (pi_list (pe_cal c_below_tuples hr (pa_cons (pe_op op_add (pv 0) pe_int) (pa_cons (pe_op op_sub (pe_op op_sub (pv 1) (pv 3)) pe_int) pa_nil)))) (pg_name (i := 5) sc.nd rfl (Or.inl rfl))
            (pss_one (ps_expr (pe_bm PySem.F.plainAttrs_list PySem.F.slot_list_append PySem.F.type_list_append mt_append (pv 2) (pa_cons (pe_tup (StX.pa_star (pv 4) (pa_cons (pv 0) (StX.pa_star (pv 5) pa_nil)))) pa_nil)))))))))
      (pss_one (ps_ret (pv 2))))), ?_⟩
  refine ⟨by decide, fun D hD => ?_⟩
  have k1 := (Hs.start H).new (o := .lst []) hD
  have pw : ∀ t, t ≤ len → n ^ t ≤ 2000 := fun t ht => Nat.le_trans (Nat.pow_le_pow_left (Nat.le_succ n) t) (pow_le_z hc ht)
  simp only [List.set_cons_succ, List.set_cons_zero]
  refine ⟨_, rfl, _, rfl, by omega, by omega, for_rng (n := len) (fun p σ H' => ∃ (t3 t4 t5 : Option V) (B : Hp) (qs : List Addr), σ = [some (.int (n : Nat)), some (.int (len : Nat)), some (.ref D), t3, t4, t5] ∧ Same H B ∧ Hs B [(D, .lst (qs.map V.ref))] H' ∧ Paired (TpZ K B) qs ((List.range p).flatMap (twP n len)) ∧ qs.length ≤ 2000 * p)
    ⟨none, none, none, H, [], rfl, Same.refl _, k1, .nil, Nat.le_refl _⟩ ?_ ?_⟩
  · rintro p σ H1 hp ⟨t3, t4, t5, B, qs, rfl, sB, hh, hP, hql⟩
    simp only [List.set_cons_succ, List.set_cons_zero]
    refine ⟨_, rfl, _, rfl, n, p, rfl, by omega, by omega, pw p (by omega), fun H2 zq zs hzq s2 hL2 hP2 => ?_⟩
    have eL := (hh.out_new hzq)
    obtain ⟨c1, c2⟩ := hh.after s2
    have st2 := stay_cut hh allL1 s2
    have hL2' : cut [(D, HO.lst (qs.map V.ref))] H2 zq = some (.lst (zs.map V.ref)) := by rw [cut_at eL]; exact hL2
    have hP2 : Paired (TpZ K (cut [(D, HO.lst (qs.map V.ref))] H2)) zs (tupZ n p) := Paired.mapP hP2 fun _ _ u => st2.sqt u
    generalize cut [(D, HO.lst (qs.map V.ref))] H2 = B2 at *
    have hzl := paired_len hP2
    have s02 := sB.trans c1
    have hcd := twP_len hp hc
    refine ⟨zq, rfl, ⟨_, SqL.of (c2.sub _ _ hL2')⟩, for_list (K := K) (xs := zs.map V.ref) (fun i σ H' => ∃ (t4 t5 : Option V) (B3 : Hp) (qs3 : List Addr), σ = [some (.int (n : Nat)), some (.int (len : Nat)), some (.ref D), some (.int (p : Nat)), t4, t5] ∧ Same B2 B3 ∧ Hs B3 [(D, .lst (qs3.map V.ref))] H' ∧
        Paired (TpZ K B3) qs3 ((List.range p).flatMap (twP n len) ++ ((tupZ n p).take i).flatMap fun h => (tupZ (n + 1) (len - p - 1)).map fun t => h ++ (n : Int) :: t) ∧ qs3.length ≤ 2000 * p + i * (tupZ (n + 1) (len - p - 1)).length)
      ⟨t4, t5, B2, qs, rfl, Same.refl _, c2, by rw [List.take_zero, List.flatMap_nil, List.append_nil]; exact Paired.mapP hP fun _ _ u => (Stay.of c1).sqt u, by omega⟩ (fun _ _ _ _ ⟨_, _, _, _, _, s3, h3, _⟩ => SqL.of (h3.sub _ _ (s3 _ _ hL2'))) ?_ ?_⟩
    · rintro i v σ H3 hv ⟨t4, t5, B3, qs3, rfl, s3, h3, hP3, hq3⟩
      obtain ⟨y, ey, rfl⟩ := map_at hv
      have hi : i < (tupZ n p).length := by rw [← hzl]; exact (List.getElem?_eq_some_iff.mp ey).1
      obtain ⟨hd, ehd⟩ : ∃ r, (tupZ n p)[i]? = some r := ⟨_, List.getElem?_eq_getElem hi⟩
      obtain ⟨y', ey', ty⟩ := paired_at hP2 ehd
      rw [ey] at ey'
      cases ey'
      have ty : SqT K B2 y (vI hd) := ty
      have hdl := (tupZ_mem.mp (List.mem_of_getElem? ehd)).1
      simp only [List.set_cons_succ, List.set_cons_zero]
      refine ⟨_, rfl, _, _, rfl, rfl, _, rfl, _, rfl, _, _, rfl, rfl, _, _, rfl, rfl, n + 1, len - p - 1, by show [V.int ((n : Int) + 1), V.int ((len : Int) - (p : Nat) - 1)] = _; rw [show ((len : Int) - (p : Nat) - 1) = ((len - p - 1 : Nat) : Int) by omega]; rfl, by omega, by omega, pow_le_z hc (by omega), fun H4 uq us huq s4 hL4 hP4 => ?_⟩
      have eL4 := (h3.out_new huq)
      obtain ⟨c3, c4⟩ := h3.after s4
      have st4 := stay_cut h3 allL1 s4
      have hL4' : cut [(D, HO.lst (qs3.map V.ref))] H4 uq = some (.lst (us.map V.ref)) := by rw [cut_at eL4]; exact hL4
      have hP4 : Paired (TpZ K (cut [(D, HO.lst (qs3.map V.ref))] H4)) us (tupZ (n + 1) (len - p - 1)) := Paired.mapP hP4 fun _ _ u => st4.sqt u
      generalize cut [(D, HO.lst (qs3.map V.ref))] H4 = B4 at *
      have hul := paired_len hP4
      have hic : i * (tupZ (n + 1) (len - p - 1)).length + (tupZ (n + 1) (len - p - 1)).length ≤ 2000 := by
        have := Nat.mul_le_mul_right (tupZ (n + 1) (len - p - 1)).length (show i + 1 ≤ (tupZ n p).length from hi)
        rw [Nat.succ_mul] at this
        omega
      refine ⟨uq, rfl, ⟨_, SqL.of (c4.sub _ _ hL4')⟩, for_list (K := K) (xs := us.map V.ref) (fun j σ H' => ∃ (t5 : Option V) (B5 : Hp) (qs5 : List Addr), σ = [some (.int (n : Nat)), some (.int (len : Nat)), some (.ref D), some (.int (p : Nat)), some (.ref y), t5] ∧ Same B4 B5 ∧ Hs B5 [(D, .lst (qs5.map V.ref))] H' ∧
          Paired (TpZ K B5) qs5 ((List.range p).flatMap (twP n len) ++ (((tupZ n p).take i).flatMap fun h => (tupZ (n + 1) (len - p - 1)).map fun t => h ++ (n : Int) :: t) ++ ((tupZ (n + 1) (len - p - 1)).take j).map fun t => hd ++ (n : Int) :: t) ∧ qs5.length ≤ 2000 * p + i * (tupZ (n + 1) (len - p - 1)).length + j)
        ⟨t5, B4, qs3, rfl, Same.refl _, c4, by rw [List.take_zero, List.map_nil, List.append_nil]; exact Paired.mapP hP3 fun _ _ u => (Stay.of c3).sqt u, by omega⟩ (fun _ _ _ _ ⟨_, _, _, _, s5, h5, _⟩ => SqL.of (h5.sub _ _ (s5 _ _ hL4'))) ?_ ?_⟩
      · rintro j v σ H5 hv ⟨t5, B5, qs5, rfl, s5, h5, hP5, hq5⟩
        obtain ⟨z, ez, rfl⟩ := map_at hv
        have hj : j < (tupZ (n + 1) (len - p - 1)).length := by rw [← hul]; exact (List.getElem?_eq_some_iff.mp ez).1
        obtain ⟨tl, etl⟩ : ∃ r, (tupZ (n + 1) (len - p - 1))[j]? = some r := ⟨_, List.getElem?_eq_getElem hj⟩
        obtain ⟨z', ez', tz⟩ := paired_at hP4 etl
        rw [ez] at ez'
        cases ez'
        have tz : SqT K B4 z (vI tl) := tz
        have tll := (tupZ_mem.mp (List.mem_of_getElem? etl)).1
        simp only [List.set_cons_succ, List.set_cons_zero]
        refine ⟨_, rfl, .inl ⟨rfl, _, SqL.of h5.r0⟩, _, rfl, y, _, rfl, .inl (Same.sqt ((((s3.trans c3).trans s5).trans h5.sub)) ty), _, rfl, _, rfl, z, _, rfl, .inl (Same.sqt (s5.trans h5.sub) tz), ?_, fun T6 hT6 => ?_⟩
        · rw [sizeLine_eq]
          simp only [vI, List.length_append, List.length_cons, List.length_map, List.length_nil]
          omega
        have h6 := h5.tup (o := .tup (vI hd ++ (.int (n : Nat) :: (vI tl ++ [])))) hT6
        have s6 : Same B5 (upd B5 T6 (.tup (vI hd ++ (.int (n : Nat) :: (vI tl ++ []))))) := up_same (h5.sub.free hT6)
        refine ⟨D, _, _, rfl, rfl, h6.r0, by rw [List.length_map, sizeLine_eq]; omega, _, _, qs5 ++ [T6], rfl, s5.trans s6, by rw [List.map_append]; exact h6.w0, ?_, by rw [List.length_append]; show _ + 1 ≤ _; omega⟩
        rw [List.take_succ, etl, List.map_append, ← List.append_assoc]
        refine Paired.snoc (Paired.mapP hP5 fun _ _ u => (Stay.of s6).sqt u) ?_
        show SqT K _ T6 (vI (hd ++ (n : Int) :: tl))
        rw [show vI (hd ++ (n : Int) :: tl) = vI hd ++ (.int (n : Nat) :: (vI tl ++ [])) by unfold vI; rw [List.map_append, List.map_cons, List.append_nil]]
        exact SqT.of upd_same
      · rintro σ H5 ⟨t5, B5, qs5, rfl, s5, h5, hP5, hq5⟩
        rw [List.length_map, hul, List.take_length] at hP5
        rw [List.length_map, hul] at hq5
        refine ⟨_, _, B5, qs5, rfl, (s3.trans c3).trans s5, h5, ?_, by rw [show (i + 1) * (tupZ (n + 1) (len - p - 1)).length = i * (tupZ (n + 1) (len - p - 1)).length + (tupZ (n + 1) (len - p - 1)).length from Nat.succ_mul _ _]; omega⟩
        rw [List.take_succ, ehd, List.flatMap_append]
        show Paired _ _ (_ ++ (_ ++ [hd].flatMap _))
        rw [List.flatMap_cons, List.flatMap_nil, List.append_nil, ← List.append_assoc]
        exact hP5
    · rintro σ H3 ⟨t4, t5, B3, qs3, rfl, s3, h3, hP3, hq3⟩
      rw [List.length_map, hzl, List.take_length] at hP3
      rw [List.length_map, hzl] at hq3
      refine ⟨_, _, _, B3, qs3, rfl, s02.trans s3, h3, ?_, by omega⟩
      rw [List.range_succ, List.flatMap_append]
      show Paired _ _ (_ ++ [p].flatMap _)
      rw [List.flatMap_cons, List.flatMap_nil, List.append_nil]
      exact hP3
  · rintro σ H1 ⟨t3, t4, t5, B, qs, rfl, sB, hh, hP, hql⟩
    exact ⟨_, rfl, hq H1 D qs hD (sB.trans hh.sub) hh.r0 (Paired.mapP hP fun _ _ u => Same.sqt hh.sub u)⟩
end
end Sy
/-! try with several clauses, each with a name; what the body raises is caught by one of them -/
namespace Sy
open PySem PySem.Spec PyProof.Rows L2
abbrev ClA : Type := Value × Nat × (Addr → Value → Option Addr → TS)
def wManyA (K : PySem.W.Frag) (D : Ends) : List ClA → WX
  | [] => fun _ _ _ _ => False
  | (c, i, ts) :: r => fun cls d σ H => ∃ b, PySem.W.exmOne K cls c = some b ∧ (b = true → ∀ a, H a = none →
      ts a cls d { nx := fun σ' H' => D.nx (σ'.set i none) H', rt := D.rt, bk := fun σ' H' => D.bk (σ'.set i none) H', ct := fun σ' H' => D.ct (σ'.set i none) H' } (σ.set i (some (.ref a))) H) ∧ (b = false → wManyA K D r cls d σ H)
inductive HdsA (X : Cx) : List ExceptHandler → List ClA → Prop
  | nil : HdsA X [] []
  | cons {x n : Str} {c : Value} {i : Nat} {ts : Addr → Value → Option Addr → TS} {b₀ : Stmt} {suite : List Stmt} {np pos' : Pos} {hds : List ExceptHandler} {l : List ClA} (hi : X.N[i]? = some n) (hln : X.env.kindOf n = some .local) (hc : Names X x c)
      (hsu : ∀ (a : Addr) (oe : Obj) (cls : Value) (d : Option Addr) (pn : List (Addr × Obj)), Zc cls d oe → (∃ vs, oe.data = .fields vs) → PSs (X.suite a ((a, oe) :: pn)) (b₀ :: suite) (ts a cls d)) (r : HdsA X hds l) :
      HdsA X (.ExceptHandler (some (.Name x np)) (some n) (b₀ :: suite) pos' :: hds) ((c, i, ts) :: l)
theorem ps_try_manyA {X : Cx} {body : List Stmt} {h₀ : ExceptHandler} {hds : List ExceptHandler} {l : List ClA} {pos : Pos} {tb : WX → TS} (hs : X.stack = X.env :: X.outer) (hf : X.env.frame = some X.env.locals) (hN : X.N.Nodup)
    (hb : ∀ (W : WX) (pn : List (Addr × Obj)) (xe : Value → Shared → Prop), Takes (X.tr pn xe) W → PassesOwn (model X.prog X.w) X.A X.env xe → PSs (X.tr pn xe) body (tb W))
    (hh : HdsA X (h₀ :: hds) l) : PS X (.Try body (h₀ :: hds) [] [] pos) (fun D σ H => tb (wManyA X.K D l) D σ H) := by
  refine ⟨fun pins s σ H D I h => ?_⟩
  have ok := I.ok
  have fr0 : X.A.frames = some (X.env :: X.outer) := by rw [ok.frames, hs]
  apply wpAny_Try_except
  refine wpAny_mono ((hb (wManyA X.K D l) (X.pn ++ pins) (fun e s₁ => wpAny (model X.prog X.w) X.A (noteFrame e X.env) (fun _ s₂ => wpAny (model X.prog X.w) X.A (setFlight e none) (fun _ s₃ =>
    wpAny (model X.prog X.w) X.A (handleBy e X.env (h₀ :: hds)) (SP X pins D) X.xe s₃) X.xe s₂) X.xe s₁) (fun u s' q => ?cat) PassesOwn.looking).run [] s σ H D (I.toTry _) h) (fun f s1 q => ?fin) (fun _ _ q => q)
  case fin =>
    cases f
    case next =>
      obtain ⟨_, _, J, z⟩ := q
      exact wpAny_execs_nil ⟨_, _, J.ofTry ok, z⟩
    case brk =>
      obtain ⟨_, _, J, z⟩ := q
      exact ⟨_, _, J.ofTry ok, z⟩
    case cont =>
      obtain ⟨_, _, J, z⟩ := q
      exact ⟨_, _, J.ofTry ok, z⟩
    case ret =>
      obtain ⟨_, _, _, J, rv, z⟩ := q
      exact ⟨_, _, _, J.ofTry ok, rv, z⟩
  case cat =>
    obtain ⟨a, B, sI, pins', σ1, H1, cls, d, rfl, J', nb, up, sky, na, os, ag, hgo⟩ := q
    have J : Inv X pins σ1 H1 sI := J'.ofTry ok
    rw [hs] at sky
    show wpAny (model X.prog X.w) X.A (noteFrame (.ref a) X.env) _ _ _
    refine Sky.land Zc.steady fr0 hf sky fun h3 fl up3 => ?_
    have J3 : Inv X pins σ1 H1 { s' with heap := h3 } := J.landed nb fl.1 (up.trans up3) os ag
    obtain ⟨o3, v3, g3, z3, d3⟩ := fl.there
    have off : a ∉ frs (X.env :: X.outer) := fun hm => by
      obtain ⟨_, _, e', no⟩ := fl.2.2.1.mem hm
      rw [g3] at e'
      cases e'
      exact no _ d3
    have nL : a ≠ X.env.locals := fun z => off (List.mem_filterMap.mpr ⟨X.env, List.mem_cons_self, by rw [hf, z]⟩)
    have nF : a ∉ X.fs := fun hm => by
      obtain ⟨e, he, z⟩ := List.mem_filterMap.mp hm
      exact off (List.mem_filterMap.mpr ⟨e, List.mem_cons_of_mem _ he, z⟩)
    have S3 := J3.suite g3 d3 na nL nF
    have LT : PySem.W.Looks (model X.prog X.w) h3 (typeOf (.ref a)) cls := fun _ _ _ _ k z => wpAny_typeOf_ref (k _ _ g3) (by rw [z3.1]; exact z)
    have go : ∀ {hds' : List ExceptHandler} {l' : List ClA}, HdsA X hds' l' → wManyA X.K D l' cls d σ1 H1 → wpAny (model X.prog X.w) X.A (handleBy (.ref a) X.env hds') (SP X pins D) X.xe { s' with heap := h3 } := by
      intro hds' l' hk
      induction hk with
      | nil =>
        intro w
        exact w.elim
      | @cons x n c i ts b₀ suite np pos' hds2 l2 hi hln hc hsu r ih =>
        intro w
        obtain ⟨bb, hcat, hyes, hno⟩ := w
        refine wpAny_handleBy_cons (codeAny_handlers_test ?_) (by intro z; cases z)
        have LM := PySem.W.exm_one (M := model X.prog X.w) J3.kIn LT hcat
        have go2 : ∀ {Q E : Value → Shared → Prop}, Q c { s' with heap := h3 } → wpAny (model X.prog X.w) (X.A.mark (some (.ref a))) (eval (.Name x np) X.env) Q E { s' with heap := h3 } := fun {Q E} z => by
          rcases hc with ⟨g, dbg, m | ⟨m, v, nn⟩⟩
          · exact ld_glob (X := X.suite a ((a, o3) :: (X.pn ++ pins))) S3 g m z dbg
          · exact ld_blt (X := X.suite a ((a, o3) :: (X.pn ++ pins))) S3 g m v z nn dbg
        refine go2 (LM.here ?_)
        cases bb with
        | false =>
          show wpAny _ X.A (handleBy (.ref a) X.env hds2) _ _ _
          exact ih (hno rfl)
        | true =>
          refine codeAny_handlers_suite_as ?_
          refine HandSPX.lands_againZ fl fun h4 fl4 up4 => ?_
          have J4 : Inv X pins σ1 H1 { s' with heap := h4 } := J.landed nb fl4.1 ((up.trans up3).trans up4) os ag
          obtain ⟨o4, v4, g4, z4, d4⟩ := fl4.there
          refine store_ok (X := X.suite a ((a, o4) :: (X.pn ++ pins))) (v := .ref a) (J4.suite g4 d4 na nL nF) hN hi (.inl hln) rfl (fun s5 S5 => ?_) (.inr hln)
          refine wpAny_mono ((hsu a o4 cls d (X.pn ++ pins) z4 ⟨_, d4⟩).run [] s5 _ H1 _ S5 (hyes rfl a na)) (fun f s6 q => ?_) (fun _ _ z => z.elim)
          have shut : ∀ {σ6 : L2.St} {H6 : Hp} {R : Shared → Prop}, Inv (X.suite a ((a, o4) :: (X.pn ++ pins))) [] σ6 H6 s6 → (∀ s7, Inv X pins (σ6.set i none) H6 s7 → R s7) →
              wpAny (model X.prog X.w) X.A (do bindName X.env n .none; unbindBehindTheSuite X.env n pos') (fun _ s7 => R s7) X.xe s6 := fun S6 k => gone_ok (S6.unsuite ok) hN hi hln k
          cases f
          case next =>
            obtain ⟨_, _, S6, z⟩ := q
            exact shut S6 fun _ J7 => ⟨_, _, J7, z⟩
          case brk =>
            obtain ⟨_, _, S6, z⟩ := q
            exact shut S6 fun _ J7 => ⟨_, _, J7, z⟩
          case cont =>
            obtain ⟨_, _, S6, z⟩ := q
            exact shut S6 fun _ J7 => ⟨_, _, J7, z⟩
          case ret =>
            obtain ⟨_, _, _, S6, rv, z⟩ := q
            exact shut S6 fun _ J7 => ⟨_, _, _, J7, rv, z⟩
    exact go hh hgo
end Sy
/-! the law's box: _law_box, _law_take -/
namespace Sy
open PySem PySem.Spec PyProof.Rows L2
theorem sqt_delL {K : PySem.W.Frag} {H : Hp} {g p : Addr} {xs ys : List V} (h : SqT K H p xs) (hg : H g = some (.lst ys)) : SqT K (L2.del H g) p xs := (stay_del hg).sqt h
theorem Same.sql {K : PySem.W.Frag} {H H' : Hp} {a : Addr} {xs : List V} (e : Same H H') (h : SqL K H a xs) : SqL K H' a xs := by
  rcases h with (h | ⟨o, h⟩) | h
  · exact .inl (.inl (e _ _ h))
  · exact .inl (.inr ⟨o, e _ _ h⟩)
  · exact .inr h
theorem same_del {H H' : Hp} {g : Addr} (hg : H g = none) (s : Same H H') : Same H (L2.del H' g) := fun a o e => by
  rw [del_ne (fun z => by rw [z, hg] at e; cases e)]
  exact s a o e
theorem cut_del (H : Hp) (g : Addr) (o : HO) : cut [(g, o)] H = L2.del H g := by
  funext a
  unfold cut L2.del
  simp
theorem Hs.ne0 {B H : Hp} {g a : Addr} {o w : HO} {L : List (Addr × HO)} (h : Hs B ((g, o) :: L) H) (e : B a = some w) : a ≠ g := fun z => by
  have := h.ap _ List.mem_cons_self
  rw [z] at e
  rw [this] at e
  cases e
/-- the law's box of draws -/
def BagOk (l : List Int) : Prop := ∃ a b c, l = [a, b, c]
def Bag (g : Addr) (H : Hp) : Prop := ∃ l : List Int, BagOk l ∧ H g = some (.lst (l.map V.int))
/-- the box at g is another one, nothing else has changed -/
def Dr (g : Addr) (H H' : Hp) : Prop := ∃ l : List Int, BagOk l ∧ Chg g (.lst (l.map V.int)) H H'
theorem Chg.upd {g : Addr} {o o' : HO} {H H1 : Hp} (c : Chg g o H H1) : Chg g o' H (L2.upd H1 g o') := ⟨upd_same, fun a w n e => by rw [upd_ne n]; exact c.2 a w n e⟩
theorem Chg.refl {g : Addr} {o : HO} {H : Hp} (h : H g = some o) : Chg g o H H := ⟨h, fun _ _ _ e => e⟩
theorem Dr.same {g : Addr} {H H1 H2 : Hp} (d : Dr g H H1) (s : Same H1 H2) : Dr g H H2 := by
  obtain ⟨l, hl, c⟩ := d
  exact ⟨l, hl, s _ _ c.1, fun a w n e => s _ _ (c.2 a w n e)⟩
theorem Dr.trans {g : Addr} {H H1 H2 : Hp} (a : Dr g H H1) (b : Dr g H1 H2) : Dr g H H2 := by
  obtain ⟨l, _, c⟩ := a
  obtain ⟨m, hm, d⟩ := b
  exact ⟨m, hm, Chg.trans c d⟩
theorem Dr.bag {g : Addr} {H H1 : Hp} (d : Dr g H H1) : Bag g H1 := by
  obtain ⟨l, hl, c⟩ := d
  exact ⟨l, hl, c.1⟩
theorem Bag.same {g : Addr} {H H1 : Hp} (d : Bag g H) (s : Same H H1) : Bag g H1 := by
  obtain ⟨l, hl, c⟩ := d
  exact ⟨l, hl, s _ _ c⟩
theorem Bag.dr {g : Addr} {H : Hp} (d : Bag g H) : Dr g H H := by
  obtain ⟨l, hl, c⟩ := d
  exact ⟨l, hl, Chg.refl c⟩
section
variable {B H H' : Hp} {L : List (Addr × HO)} {g : Addr} {o : HO} {x y z : Addr × HO}
theorem Hs.dr0 (h : Hs B ((g, o) :: L) H) (d : Dr g H H') : ∃ l B', BagOk l ∧ Same B B' ∧ Hs B' ((g, .lst (l.map V.int)) :: L) H' ∧ B' = cut ((g, .lst (l.map V.int)) :: L) H' := by
  obtain ⟨l, hl, c⟩ := d
  have := h.chg c
  exact ⟨l, _, hl, this.1, this.2, rfl⟩
theorem Hs.dr1 (h : Hs B (x :: (g, o) :: L) H) (d : Dr g H H') : ∃ l B', BagOk l ∧ Same B B' ∧ Hs B' (x :: (g, .lst (l.map V.int)) :: L) H' := by
  obtain ⟨l, B', hl, s, h', _⟩ := h.swap.dr0 d
  exact ⟨l, B', hl, s, h'.swap⟩
theorem Hs.bag (h : Hs B ((g, .lst ((l : List Int).map V.int)) :: L) H) (hl : BagOk l) : Bag g H := ⟨l, hl, h.r0⟩
theorem Bag.take (h : Bag g H) : ∃ l, BagOk l ∧ Hs (L2.del H g) [(g, .lst (l.map V.int))] H := by
  obtain ⟨l, hl, e⟩ := h
  exact ⟨l, hl, (Hs.start H).take e⟩
theorem Hs.rot (h : Hs B (x :: y :: z :: L) H) : Hs B (y :: z :: x :: L) H := h.perm ((List.Perm.swap _ _ _).trans (List.Perm.cons _ (List.Perm.swap _ _ _)))
theorem Hs.isDr (h : Hs B L H') {l : List Int} (hl : BagOk l) (m : (g, HO.lst (l.map V.int)) ∈ L) (s : Same (L2.del H g) B) : Dr g H H' := ⟨l, hl, h.own _ m, fun a w n e => h.sub _ _ (s _ _ (by rw [del_ne n]; exact e))⟩
end
theorem modr {n : Nat} (hn : 1 ≤ n) (x : Int) : ∃ k : Nat, x % (n : Int) = (k : Int) ∧ k < n := by
  have h1 := Int.emod_nonneg x (show (n : Int) ≠ 0 by omega)
  have h2 := Int.emod_lt_of_pos x (show (0 : Int) < n by omega)
  exact ⟨(x % (n : Int)).toNat, by omega, by omega⟩
theorem pe_catK {X : Cx} (K : PySem.W.Frag) (hK : X.K = K) {a b : Expr} {ta tb : TE} {pos : Pos} (ha : PE X a ta) (hb : PE X b tb) : PE X (.BinOp a .Add b pos) (tOp (rCatA K) ta tb) := by
  subst hK
  exact pe_op op_catA ha hb
section
variable {P : Program} {w : World} {K : PySem.W.Frag} {mg : Str → Option Value} {base : Heap}
theorem Hs.drS {K : PySem.W.Frag} {B H H' : Hp} {g : Addr} {o : HO} (h : Hs B [(g, o)] H) (d : Dr g H H') : ∃ l B', BagOk l ∧ Same B B' ∧ Hs B' [(g, .lst (l.map V.int))] H' ∧ (∀ a xs, SqT K H' a xs → SqT K B' a xs) := by
  obtain ⟨l, B', hl, s, h', e⟩ := h.dr0 d
  rw [cut_del] at e
  subst e
  exact ⟨l, _, hl, s, h', fun a xs t => sqt_delL t h'.r0⟩
theorem sqt_cutL {K : PySem.W.Frag} {B H H' : Hp} {L : List (Addr × HO)} (h : Hs B L H) (al : AllL L) (s : Same H H') {a : Addr} {xs : List V} (t : SqT K H' a xs) : SqT K (cut L H') a xs := (stay_cut h al s).sqt t
def spBox (K : PySem.W.Frag) : Sp := fun vs H Q _ => ∃ (s : Addr) (zs : List Int) (k : Nat), vs = [.ref s, .int (k : Nat)] ∧ SqL K H s (zs.map V.int) ∧ zs.length ≤ 100000 ∧ k < 100 ∧ ∀ g H', H g = none → Same H H' → Bag g H' → Q (.ref g) H'
theorem sc_box : FnScope ["_law_script", "_law_k"] ["_law_script", "_law_k"] (defScope (top 41)) := ⟨rfl, rfl, rfl, by decide +kernel, rfl, by decide +kernel, by decide +kernel⟩
theorem k_box (T : Txt K mg) (hsum : mg "sum" = none) (F : DF K mg "_law_box" 41) : Cal P w K mg base 1 "_law_box" ["_law_script", "_law_k"] (spBox K) := by
  refine cal_of F.1 F.2 sc_box (fun _ _ _ _ _ _ us e => match us, e with | [_, _], _ => rfl) (fun vs H Q E s => by obtain ⟨_, _, _, rfl, _⟩ := s; rfl) ?_
  intro cdv A outer s H vs Q E hr h
  obtain ⟨sa, zs, k, rfl, hs, hl, hk, hq⟩ := h
  refine ⟨_, (pss_cons (ps_if (pt_cmpR op_lt (pv 1) (pe_callB call_len_seq (by rfl) T.len (by decide +kernel) (pa_cons (pv 0) pa_nil)) (nomark _))
        (pss_one (ps_ret (pe_lst (pa_cons (pe_callTy call_int1 (by rfl) T.int (by decide +kernel) (pa_cons (pe_ix ix_list (pv 0) (pv 1) (fun _ _ => rfl)) pa_nil)) (pa_cons pe_int (pa_cons (pv 1) pa_nil))))))
        pss_nil)
      (pss_one (ps_ret (pe_lst (pa_cons (pe_op op_add (pe_op op_mul (pe_op op_mod (pe_callTy call_int1 (by rfl) T.int (by decide +kernel) (pa_cons (pe_callB (cr_sum rfl) (by rfl) hsum (by decide +kernel) (pa_cons (pv 0) pa_nil)) pa_nil)) pe_int) pe_int) (pv 1)) (pa_cons pe_int (pa_cons (pv 1) pa_nil))))))), ?_⟩
  refine ⟨_, rfl, _, rfl, sa, _, rfl, .inl hs, _, _, rfl, rfl, _, rfl, if_dec (fun c => ?_) (fun c => ?_)⟩
  · rw [List.length_map] at c
    obtain ⟨z, hz⟩ : ∃ z, zs[k]? = some z := ⟨_, List.getElem?_eq_getElem (by omega)⟩
    exact ⟨_, rfl, _, rfl, sa, _, _, _, rfl, rfl, hs, atI_nat (by rw [List.getElem?_map, hz]; rfl), .inl ⟨z, rfl, _, rfl, (by show 3 ≤ sizeLine; decide), fun g hg => hq g _ hg (up_same hg) ⟨[z, 0, k], ⟨_, _, _, rfl⟩, upd_same⟩⟩⟩
  · refine ⟨_, rfl, sa, zs, rfl, hs, .inl ⟨_, rfl, _, _, rfl, rfl, (by show (0 : Int) < 1000003; decide), _, _, rfl, rfl, .inr (by decide), _, rfl, _, _, rfl, rfl, _, rfl, (by show 3 ≤ sizeLine; decide), fun g hg => hq g _ hg (up_same hg) ⟨[_, 0, k], ⟨_, _, _, rfl⟩, upd_same⟩⟩⟩
def spDraw : Sp := fun vs H Q _ => ∃ (g : Addr) (n : Nat), vs = [.ref g, .int (n : Nat)] ∧ Bag g H ∧ 1 ≤ n ∧ n < 1000000000 ∧ ∀ (r : Nat) H', r < n → Dr g H H' → Q (.int (r : Nat)) H'
abbrev N_draw : List Str := ["_law_box_here", "_law_many", "_law_digit", "_law_mixed"]
theorem sc_draw : FnScope N_draw ["_law_box_here", "_law_many"] (defScope (top 42)) := ⟨rfl, rfl, rfl, by decide +kernel, rfl, by decide +kernel, by decide +kernel⟩
theorem k_draw (T : Txt K mg) (F : DF K mg "_law_take" 42) : Cal P w K mg base 1 "_law_take" ["_law_box_here", "_law_many"] spDraw := by
  refine cal_of F.1 F.2 sc_draw (fun _ _ _ _ _ _ us e => match us, e with | [_, _], _ => rfl) (fun vs H Q E s => by obtain ⟨_, _, rfl, _⟩ := s; rfl) ?_
  intro cdv A outer s H vs Q E hr h
  obtain ⟨g, n, rfl, ⟨_, ⟨a, b, c, rfl⟩, hg⟩, hn, hn2, hq⟩ := h
  have sc := sc_draw
  refine ⟨_, (pss_cons (ps_asg (pe_op op_add (pe_ix ix_list (pv 0) pe_int (fun _ _ => rfl)) pe_int) (pg_sub (pv 0) pe_int set_list))
      (pss_cons (ps_if (pt_cmpR op_ge (pe_ix ix_list (pv 0) pe_int (fun _ _ => rfl)) (pe_op op_pow pe_int pe_int) (nomark _))
        (pss_cons (ps_set (i := 2) sc.nd rfl (Or.inl rfl) (pe_op op_mod (pe_callTy call_int1 (by rfl) T.int (by decide +kernel) (pa_cons (pe_ix ix_list (pv 0) pe_int (fun _ _ => rfl)) pa_nil)) (pv 1)))
        (pss_cons (ps_asg (pe_op op_fdiv (pe_callTy call_int1 (by rfl) T.int (by decide +kernel) (pa_cons (pe_ix ix_list (pv 0) pe_int (fun _ _ => rfl)) pa_nil)) (pv 1)) (pg_sub (pv 0) pe_int set_list))
        (pss_one (ps_ret (pv 2)))))
        pss_nil)
      (pss_cons (ps_set (i := 3) sc.nd rfl (Or.inl rfl) (pe_op op_mod (pe_callTy call_int1 (by rfl) T.int (by decide +kernel) (pa_cons (pe_op op_add (pe_op op_add (pe_op op_add (pe_op op_mul (pe_ix ix_list (pv 0) pe_int (fun _ _ => rfl)) pe_int) (pe_op op_mul (pe_ix ix_list (pv 0) pe_int (fun _ _ => rfl)) pe_int)) (pe_op op_mul (pe_ix ix_list (pv 0) pe_int (fun _ _ => rfl)) pe_int)) pe_int) pa_nil)) pe_int))
      (pss_cons (ps_set (i := 3) sc.nd rfl (Or.inl rfl) (pe_op op_mod (pe_callTy call_int1 (by rfl) T.int (by decide +kernel) (pa_cons (pe_op op_add (pe_op op_mul (pv 3) (pv 3)) (pe_op op_mul (pe_ix ix_list (pv 0) pe_int (fun _ _ => rfl)) pe_int)) pa_nil)) pe_int))
      (pss_cons (ps_set (i := 3) sc.nd rfl (Or.inl rfl) (pe_op op_mod (pe_callTy call_int1 (by rfl) T.int (by decide +kernel) (pa_cons (pe_op op_add (pe_op op_mul (pv 3) (pv 3)) (pe_op op_mul (pe_ix ix_list (pv 0) pe_int (fun _ _ => rfl)) pe_int)) pa_nil)) pe_int))
      (pss_one (ps_ret (pe_op op_mod (pe_callTy call_int1 (by rfl) T.int (by decide +kernel) (pa_cons (pe_op op_fdiv (pv 3) pe_int) pa_nil)) (pv 1))))))))), ?_⟩
  have hg : H g = some (.lst [.int a, .int b, .int c]) := hg
  have at0 : ∀ a b c : Int, atI ([.int a, .int b, .int c] : List V) (0 : Int) = some (.int a) := fun _ _ _ => atI_nat (j := 0) rfl
  have at1 : ∀ a b c : Int, atI ([.int a, .int b, .int c] : List V) (1 : Int) = some (.int b) := fun _ _ _ => atI_nat (j := 1) rfl
  have at2 : ∀ a b c : Int, atI ([.int a, .int b, .int c] : List V) (2 : Int) = some (.int c) := fun _ _ _ => atI_nat (j := 2) rfl
  refine ⟨_, rfl, g, _, _, _, rfl, rfl, SqL.of hg, at1 a b c, _, _, rfl, rfl, _, rfl, g, _, _, 1, rfl, rfl, hg, ixN_nat (by show 1 < 3; decide), ?_⟩
  have S : SqL K (L2.upd H g (.lst ([.int a, .int b, .int c].set 1 (.int (b + 1))))) g [.int a, .int (b + 1), .int c] := SqL.of upd_same
  have c1 : Chg g (.lst ([.int a, .int b, .int c].set 1 (.int (b + 1)))) H (L2.upd H g (.lst ([.int a, .int b, .int c].set 1 (.int (b + 1))))) := (Chg.refl hg).upd
  refine ⟨_, rfl, g, _, _, _, rfl, rfl, S, at0 _ _ _, _, _, rfl, rfl, ⟨by decide, by decide, by decide⟩, _, _, rfl, rfl, _, rfl, if_dec (fun cc => ?_) (fun cc => ?_)⟩
  · obtain ⟨k, ek, hk⟩ := modr hn a
    refine ⟨_, rfl, g, _, _, _, rfl, rfl, S, at0 _ _ _, .inl ⟨a, rfl, _, rfl, _, _, rfl, rfl, (by omega), ?_⟩⟩
    refine ⟨_, rfl, g, _, _, _, rfl, rfl, S, at0 _ _ _, .inl ⟨a, rfl, _, rfl, _, _, rfl, rfl, ⟨by omega, by omega⟩, _, rfl, g, _, _, 0, rfl, rfl, upd_same, ixN_nat (by show 0 < 3; decide), _, rfl, ?_⟩⟩
    have q := hq k _ hk ⟨[a / (n : Int), b + 1, c], ⟨_, _, _, rfl⟩, Chg.trans c1 (Chg.refl upd_same).upd⟩
    rw [← ek] at q
    exact q
  · have fin : ∀ x : Int, Q (.int (x % (n : Int))) (L2.upd H g (.lst ([.int a, .int b, .int c].set 1 (.int (b + 1))))) := fun x => by
      obtain ⟨k, ek, hk⟩ := modr hn x
      have q := hq k _ hk ⟨[a, b + 1, c], ⟨_, _, _, rfl⟩, c1⟩
      rw [← ek] at q
      exact q
    refine ⟨_, rfl, g, _, _, _, rfl, rfl, S, at0 _ _ _, _, _, rfl, rfl, .inr (by decide), _, rfl, g, _, _, _, rfl, rfl, S, at1 _ _ _, _, _, rfl, rfl, .inr (by decide), _, _, rfl, rfl, _, rfl, g, _, _, _, rfl, rfl, S, at2 _ _ _, _, _, rfl, rfl, .inr (by decide), _, _, rfl, rfl, _, _, rfl, rfl, .inl ⟨_, rfl, _, _, rfl, rfl, (by show (0 : Int) < 2147483647; decide), ?_⟩⟩
    refine ⟨_, rfl, _, rfl, _, _, rfl, rfl, .inl ⟨?_, ?_⟩, _, rfl, g, _, _, _, rfl, rfl, S, at1 _ _ _, _, _, rfl, rfl, .inr (by decide), _, _, rfl, rfl, .inl ⟨_, rfl, _, _, rfl, rfl, (by show (0 : Int) < 2147483629; decide), ?_⟩⟩
    · omega
    · omega
    refine ⟨_, rfl, _, rfl, _, _, rfl, rfl, .inl ⟨?_, ?_⟩, _, rfl, g, _, _, _, rfl, rfl, S, at1 _ _ _, _, _, rfl, rfl, .inr (by decide), _, _, rfl, rfl, .inl ⟨_, rfl, _, _, rfl, rfl, (by show (0 : Int) < 2147483587; decide), ?_⟩⟩
    · omega
    · omega
    exact ⟨_, rfl, _, _, rfl, rfl, ⟨by omega, by decide⟩, .inl ⟨_, rfl, _, rfl, _, _, rfl, rfl, (by omega), fin _⟩⟩
end
end Sy
namespace Sy
open PySem PySem.Spec PyProof.Rows L2
/-- small letters -/
def Lt (c : Nat) : Prop := 97 ≤ c ∧ c ≤ 122
def Wd (x : Str) : Prop := 1 ≤ x.cps.toList.length ∧ x.cps.toList.length ≤ 8 ∧ ∀ c ∈ x.cps.toList, Lt c
theorem lt_uni (c : Nat) (h : Lt c) : Unicode.isAlpha c = true ∧ Unicode.isLower c = true ∧ Unicode.isUpper c = false ∧ Unicode.isTitle c = false := by
  have q : ∀ i : Fin 26, Unicode.isAlpha (97 + i.val) = true ∧ Unicode.isLower (97 + i.val) = true ∧ Unicode.isUpper (97 + i.val) = false ∧ Unicode.isTitle (97 + i.val) = false := by decide +kernel
  obtain ⟨h1, h2⟩ := h
  have := q ⟨c - 97, by omega⟩
  rw [show 97 + (c - 97) = c by omega] at this
  exact this
theorem len_tl (x : Str) : x.length = x.cps.toList.length := by
  show x.cps.size = _
  simp
theorem Wd.ok {x : Str} (h : Wd x) : nameOk x = true := by
  obtain ⟨h1, h2, h3⟩ := h
  have hl := len_tl x
  have a1 : Txt.isascii x = true := by
    unfold Txt.isascii
    rw [← Array.all_toList, List.all_eq_true]
    intro c hc
    have := (h3 c hc).2
    exact decide_eq_true (by omega)
  have a2 : Txt.isalpha x = true := by
    unfold Txt.isalpha
    rw [decide_eq_true (by omega), Bool.true_and, ← Array.all_toList, List.all_eq_true]
    exact fun c hc => (lt_uni c (h3 c hc)).1
  have a3 : Txt.islower x = true := by
    unfold Txt.islower
    rw [Bool.and_eq_true]
    constructor
    · rw [← Array.any_toList, List.any_eq_true]
      obtain ⟨c, hc⟩ : ∃ c, c ∈ x.cps.toList := List.exists_mem_of_length_pos (by omega)
      exact ⟨c, hc, (lt_uni c (h3 c hc)).2.1⟩
    · rw [← Array.any_toList, Bool.not_eq_true', List.any_eq_false]
      intro c hc
      rw [(lt_uni c (h3 c hc)).2.2.1, (lt_uni c (h3 c hc)).2.2.2]
      decide
  unfold nameOk
  rw [a1, a2, a3, decide_eq_true (by omega)]
  rfl
theorem join_one (cs : List Nat) : (Txt.join (Str.empty) (cs.map fun c => (⟨#[c]⟩ : Str))).cps.toList = cs := by
  rw [TL.join_eq]
  have h := TL.tl_join Str.empty (cs.map fun c => (⟨#[c]⟩ : Str))
  show TL.tl _ = cs
  rw [h]
  have : ∀ cs : List Nat, TL.joinL (TL.tl Str.empty) ((cs.map fun c => (⟨#[c]⟩ : Str)).map TL.tl) = cs := by
    intro cs
    induction cs with
    | nil => rfl
    | cons c cs ih =>
      cases cs with
      | nil => rfl
      | cons d ds =>
        show [c] ++ ([] ++ TL.joinL _ _) = _
        rw [List.nil_append]
        exact congrArg (fun l => [c] ++ l) ih
  exact this cs
/-- fewer than 26 words leave a letter -/
theorem nodup_le {α : Type} [DecidableEq α] : ∀ {l m : List α}, l.Nodup → (∀ x ∈ l, x ∈ m) → l.length ≤ m.length
  | [], _, _, _ => Nat.zero_le _
  | x :: l, m, h, s => by
    have hx := s x List.mem_cons_self
    have h2 := List.nodup_cons.mp h
    have := nodup_le (l := l) (m := m.erase x) h2.2 fun y hy => by
      rw [List.mem_erase_of_ne (fun z => h2.1 (by rw [← z]; exact hy))]
      exact s y (List.mem_cons_of_mem _ hy)
    rw [List.length_erase_of_mem hx] at this
    have := List.length_pos_of_mem hx
    rw [List.length_cons]
    omega
def abc : Str := "abcdefghijklmnopqrstuvwxyz"
theorem abc_at : ∀ i : Nat, i < 26 → abc.cps[i]? = some (97 + i) := by
  have q : ∀ i : Fin 26, abc.cps[i.val]? = some (97 + i.val) := by decide +kernel
  exact fun i h => q ⟨i, h⟩
theorem abc_len : abc.length = 26 := by decide +kernel
theorem abc_tl (i : Nat) (h : i < 26) : abc.cps.toList[i]? = some (97 + i) := by rw [Array.getElem?_toList]; exact abc_at i h
/-- the letters that are not taken -/
def freeL (tk : List Str) (n : Nat) : List Str := ((List.range n).map fun i => (⟨#[97 + i]⟩ : Str)).filter fun x => decide (x ∉ tk)
theorem freeL_pos (tk : List Str) (h : tk.length < 26) : ∃ x r, freeL tk 26 = x :: r ∧ x ∉ tk ∧ Wd x := by
  cases e : freeL tk 26 with
  | nil =>
    exfalso
    have all : ∀ x ∈ ((List.range 26).map fun i => (⟨#[97 + i]⟩ : Str)), x ∈ tk := fun x hx => by
      have := List.filter_eq_nil_iff.mp e x hx
      simpa using this
    have nd : ((List.range 26).map fun i => (⟨#[97 + i]⟩ : Str)).Nodup := by decide +kernel
    have := nodup_le nd all
    simp at this
    omega
  | cons x r =>
    have hm : x ∈ freeL tk 26 := by rw [e]; exact List.mem_cons_self
    unfold freeL at hm
    obtain ⟨h1, h2⟩ := List.mem_filter.mp hm
    obtain ⟨i, hi, rfl⟩ := List.mem_map.mp h1
    rw [List.mem_range] at hi
    refine ⟨_, r, rfl, of_decide_eq_true h2, ?_⟩
    refine ⟨Nat.le_refl _, by show 1 ≤ 8; decide, fun c hc => ?_⟩
    have : c = 97 + i := by simpa using hc
    subst this
    exact ⟨by omega, by omega⟩
theorem Wd.first {x y : Str} {c : Nat} (hx : Wd x) (hy : Wd y) (h8 : x.length < 8) (hc : y.cps.toList[0]? = some c) : Wd (x ++ ⟨#[c]⟩) := by
  obtain ⟨h1, h2, h3⟩ := hx
  have hl := len_tl x
  have e : (x ++ ⟨#[c]⟩ : Str).cps.toList = x.cps.toList ++ [c] := by
    show (x.cps ++ #[c]).toList = _
    simp
  have hcm := hy.2.2 c (List.mem_of_getElem? hc)
  refine ⟨?_, ?_, fun d hd => ?_⟩
  · rw [e, List.length_append]
    show 1 ≤ _ + 1
    omega
  · rw [e, List.length_append]
    show _ + 1 ≤ 8
    omega
  · rw [e] at hd
    rcases List.mem_append.mp hd with hd | hd
    · exact h3 d hd
    · rw [List.mem_singleton.mp hd]
      exact hcm
theorem Wd.cut {x : Str} (hx : Wd x) (h1 : 1 < x.length) : Wd (cutS x none (some (-1))) := by
  obtain ⟨h1', h2, h3⟩ := hx
  have hl := len_tl x
  have e : (cutS x none (some (-1))).cps.toList = x.cps.toList.take (x.length - 1) := by
    unfold cutS HT.sIx
    simp only [List.drop_zero, Nat.sub_zero]
    rw [if_pos (by decide), show ((-1 : Int) + (x.length : Int)).toNat = x.length - 1 by omega]
  refine ⟨?_, ?_, fun d hd => ?_⟩
  · rw [e, List.length_take]
    omega
  · rw [e, List.length_take]
    omega
  · rw [e] at hd
    exact h3 d (List.mem_of_mem_take hd)
theorem all_strs (l : List Str) : (l.map V.str).all flatV = true := by
  rw [List.all_map, List.all_eq_true]
  intro x _
  rfl
end Sy
/-! the text of the kinds: plain, and _law_text -/
namespace Sy
open PySem PySem.Spec PyProof.Rows L2
theorem asc_uni (c : Nat) (h : c < 128) (a : Unicode.isAlpha c = true) (u : (Unicode.isUpper c || Unicode.isTitle c) = false) : Lt c := by
  have q : ∀ i : Fin 128, Unicode.isAlpha i.val = true → (Unicode.isUpper i.val || Unicode.isTitle i.val) = false → 97 ≤ i.val ∧ i.val ≤ 122 := by decide +kernel
  exact q ⟨c, h⟩ a u
theorem letters_iff (x : Str) : letters x = true ↔ x.cps.toList ≠ [] ∧ ∀ c ∈ x.cps.toList, Lt c := by
  have hl := len_tl x
  constructor
  · intro h
    unfold letters at h
    obtain ⟨h1, h⟩ := Bool.and_eq_true_iff.mp h
    obtain ⟨h2, h3⟩ := Bool.and_eq_true_iff.mp h
    unfold Txt.isascii at h1
    rw [← Array.all_toList, List.all_eq_true] at h1
    unfold Txt.isalpha at h2
    obtain ⟨h2a, h2b⟩ := Bool.and_eq_true_iff.mp h2
    rw [← Array.all_toList, List.all_eq_true] at h2b
    unfold Txt.islower at h3
    obtain ⟨_, h3b⟩ := Bool.and_eq_true_iff.mp h3
    rw [← Array.any_toList, Bool.not_eq_true', List.any_eq_false] at h3b
    have hp : 0 < x.length := of_decide_eq_true h2a
    refine ⟨fun z => ?_, fun c hc => asc_uni c (of_decide_eq_true (h1 c hc)) (h2b c hc) (by simpa using h3b c hc)⟩
    rw [z] at hl
    simp at hl
    omega
  · rintro ⟨h0, h3⟩
    have h1 : 0 < x.cps.toList.length := List.length_pos_iff.mpr h0
    have a1 : Txt.isascii x = true := by
      unfold Txt.isascii
      rw [← Array.all_toList, List.all_eq_true]
      intro c hc
      have := (h3 c hc).2
      exact decide_eq_true (by omega)
    have a2 : Txt.isalpha x = true := by
      unfold Txt.isalpha
      rw [decide_eq_true (by omega), Bool.true_and, ← Array.all_toList, List.all_eq_true]
      exact fun c hc => (lt_uni c (h3 c hc)).1
    have a3 : Txt.islower x = true := by
      unfold Txt.islower
      rw [Bool.and_eq_true]
      constructor
      · rw [← Array.any_toList, List.any_eq_true]
        obtain ⟨c, hc⟩ : ∃ c, c ∈ x.cps.toList := List.exists_mem_of_length_pos (by omega)
        exact ⟨c, hc, (lt_uni c (h3 c hc)).2.1⟩
      · rw [← Array.any_toList, Bool.not_eq_true', List.any_eq_false]
        intro c hc
        rw [(lt_uni c (h3 c hc)).2.2.1, (lt_uni c (h3 c hc)).2.2.2]
        decide
    unfold letters
    rw [a1, a2, a3]
    rfl
theorem nameOk_iff (x : Str) : nameOk x = true ↔ Wd x := by
  have e : nameOk x = (decide (x.length ≤ 8) && letters x) := rfl
  rw [e, Bool.and_eq_true, letters_iff, len_tl]
  unfold Wd
  constructor
  · rintro ⟨h1, h2, h3⟩
    exact ⟨List.length_pos_iff.mpr h2, of_decide_eq_true h1, h3⟩
  · rintro ⟨h1, h2, h3⟩
    exact ⟨decide_eq_true h2, List.length_pos_iff.mp h1, h3⟩
/-! a piece of a bed's text -/
theorem tl_sl : TL.tl ("/" : Str) = [47] := by decide +kernel
theorem pieceR_some {y : Str} {A : List Nat} {d : Nat} (h : y.cps.toList = A ++ [47, d]) (h0 : A ≠ []) (hA : ∀ c ∈ A, Lt c) (hd : isDig d = true) : pieceR y = some (⟨A.toArray⟩, ((d - 48 : Nat) : Int)) := by
  have e : y = (⟨A.toArray⟩ : Str) ++ "/" ++ ⟨#[d]⟩ := TL.ext_tl (by
    rw [TL.tl_append, TL.tl_append, tl_sl]
    show y.cps.toList = A ++ [47] ++ [d]
    rw [h, List.append_assoc]
    rfl)
  have nA : (47 : Nat) ∉ TL.tl (⟨A.toArray⟩ : Str) := fun z => by
    have := (hA 47 z).1
    omega
  have ep := TL.partition_app (y := "/") (s := 47) (S := []) tl_sl (a := ⟨A.toArray⟩) (b := ⟨#[d]⟩) nA
  rw [← e] at ep
  have hl : letters (⟨A.toArray⟩ : Str) = true := (letters_iff _).mpr ⟨h0, hA⟩
  unfold pieceR
  rw [ep]
  simp only [hl, if_true, hd]
/-- the text of a pair -/
def pcT (r : PRow) : Str := r.1 ++ "/" ++ (toString r.2 : Str)
theorem empty_app (x : Str) : (Str.empty : Str) ++ x = x := TL.ext_tl (by rw [TL.tl_append]; rfl)
theorem num_txt {n : Nat} (h : n ≤ 3) : (toString ((n : Nat) : Int) : Str).length ≤ 10 := by
  match n, h with
  | 0, _ => decide +kernel
  | 1, _ => decide +kernel
  | 2, _ => decide +kernel
  | 3, _ => decide +kernel
theorem pcT_len {r : Sy.Row} (h1 : r.1.length ≤ 8) (h2 : r.2 ≤ 3) : (pcT (ofR r)).length ≤ 19 := by
  show (r.1 ++ "/" ++ (toString ((r.2 : Nat) : Int) : Str)).length ≤ 19
  have := num_txt h2
  have e : ("/" : Str).length = 1 := by decide +kernel
  rw [Str.length_append, Str.length_append, e]
  omega
theorem summ_le {m : Nat} : ∀ {ws : List Str}, (∀ x ∈ ws, x.length ≤ m) → (ws.map (·.length)).sum ≤ m * ws.length
  | [], _ => Nat.zero_le _
  | x :: ws, h => by
    have a := h x List.mem_cons_self
    have b := summ_le fun z hz => h z (List.mem_cons_of_mem x hz)
    rw [List.map_cons, List.sum_cons, List.length_cons, Nat.mul_succ]
    omega
theorem bedE_of {rows : List Sy.Row} (ok : RowsOk rows) : bedE (rows.map ofR) = none := by
  have key : ∀ (rs : List Sy.Row) (i : Nat) (seen : List Str), (∀ r ∈ rs, nameOk r.1 = true ∧ r.2 ≤ 3 ∧ r.1 ∉ seen) → (rs.map (·.1)).Nodup → bedG i seen (rs.map ofR) = none := by
    intro rs
    induction rs with
    | nil => intro _ _ _ _; rfl
    | cons r rs ih =>
      intro i seen h nd
      rw [List.map_cons, List.nodup_cons] at nd
      obtain ⟨a, b, c⟩ := h r List.mem_cons_self
      rw [List.map_cons, bedG, if_neg]
      · refine ih _ _ (fun q hq => ?_) nd.2
        obtain ⟨a', b', c'⟩ := h q (List.mem_cons_of_mem _ hq)
        refine ⟨a', b', fun z => ?_⟩
        rcases List.mem_append.mp z with z | z
        · exact c' z
        · have e : q.1 = r.1 := List.mem_singleton.mp z
          exact nd.1 (by rw [← e]; exact List.mem_map_of_mem hq)
      · rintro (z | z | z | z)
        · have z : nameOk r.1 = false := z
          rw [a] at z
          cases z
        · have z : ((r.2 : Nat) : Int) < 0 := z
          omega
        · have z : (3 : Int) < ((r.2 : Nat) : Int) := z
          omega
        · exact c z
  unfold bedE
  have hle := ok.le
  rw [if_neg (by rw [List.length_map]; omega), key rows 0 [] (fun r hr => ⟨ok.nm r hr, ok.br r hr, fun z => nomatch z⟩) ok.nd]
  obtain ⟨z, hz, h0⟩ := ok.lf
  show (if ((rows.map ofR).any fun r => decide (r.2 = 0)) = true then none else some (Er.bed (-1))) = none
  rw [if_pos (List.any_eq_true.mpr ⟨ofR z, List.mem_map_of_mem hz, decide_eq_true (by show (z.2 : Int) = 0; omega)⟩)]

/-- the kinds at q -/
def KtAt (K : PySem.W.Frag) (H : Hp) (q : Addr) (rows : List Sy.Row) : Prop := ∃ ps : List Addr, SqT K H q (ps.map V.ref) ∧ Paired (fun p (r : Sy.Row) => SqT K H p [.str r.1, .int (r.2 : Nat)]) ps rows
theorem KtAt.mono {K : PySem.W.Frag} {H H' : Hp} {q : Addr} {rows : List Sy.Row} (h : KtAt K H q rows) (s : Stay H H') : KtAt K H' q rows := by
  obtain ⟨ps, h1, h2⟩ := h
  exact ⟨ps, s.sqt h1, Paired.mapP h2 fun _ _ z => s.sqt z⟩
/-- kinds as the law draws them -/
structure RowsL (rows : List Sy.Row) : Prop where
  ok : RowsOk rows
  wd : ∀ r ∈ rows, Wd r.1
  le : rows.length ≤ 4
  pos : 0 < rows.length
def bedT (rows : List Sy.Row) : Str := Txt.join " " ((rows.map ofR).map pcT)
theorem tl_slash : TL.tl ("/" : Str) = [47] := by decide +kernel
theorem dig_txt {n : Nat} (h : n ≤ 3) : TL.tl (toString ((n : Nat) : Int) : Str) = [48 + n] := by
  match n, h with
  | 0, _ => decide +kernel
  | 1, _ => decide +kernel
  | 2, _ => decide +kernel
  | 3, _ => decide +kernel
theorem tl_pcT {r : Sy.Row} (h : r.2 ≤ 3) : TL.tl (pcT (ofR r)) = TL.tl r.1 ++ [47, 48 + r.2] := by
  show TL.tl (r.1 ++ "/" ++ (toString ((r.2 : Nat) : Int) : Str)) = _
  rw [TL.tl_append, TL.tl_append, tl_slash, dig_txt h, List.append_assoc]
  rfl
theorem pieceR_pcT {r : Sy.Row} (hw : Wd r.1) (h : r.2 ≤ 3) : pieceR (pcT (ofR r)) = some (ofR r) := by
  have h0 : TL.tl r.1 ≠ [] := fun z => by
    have := hw.1
    have z : r.1.cps.toList = [] := z
    rw [z] at this
    exact absurd this (by decide)
  rw [pieceR_some (tl_pcT h) h0 hw.2.2 (by unfold isDig; rw [decide_eq_true (by omega), decide_eq_true (by omega)]; rfl)]
  have e : (⟨(TL.tl r.1).toArray⟩ : Str) = r.1 := by
    apply TL.ext_tl
    rfl
  rw [e, show 48 + r.2 - 48 = r.2 by omega]
  rfl
theorem pcs_read : ∀ {rows : List Sy.Row}, (∀ r ∈ rows, Wd r.1 ∧ r.2 ≤ 3) → piecesR ((rows.map ofR).map pcT) = some (rows.map ofR)
  | [], _ => rfl
  | r :: rows, h => by
    obtain ⟨a, b⟩ := h r List.mem_cons_self
    rw [List.map_cons, List.map_cons, piecesR, pieceR_pcT a b, pcs_read fun q hq => h q (List.mem_cons_of_mem _ hq)]
    rfl
theorem bedT_split {rows : List Sy.Row} (rl : RowsL rows) : Txt.split (bedT rows) " " = (rows.map ofR).map pcT := by
  unfold bedT
  refine TL.map_tl_inj ?_
  have e1 : TL.tl (" " : Str) = [32] := by decide +kernel
  rw [TL.split_spl _ _ (by rw [e1]; decide) (TL.kind_ok (by decide +kernel)), TL.join_eq, TL.tl_join, e1]
  refine TL.spl_join ?_ ?_
  · have := rl.pos
    intro z
    have := congrArg List.length z
    simp only [List.length_map, List.length_nil] at this
    omega
  · intro p hp z
    obtain ⟨y, hy, rfl⟩ := List.mem_map.mp hp
    obtain ⟨u, hu, rfl⟩ := List.mem_map.mp hy
    obtain ⟨r, hr, rfl⟩ := List.mem_map.mp hu
    have h3 := rl.ok.br r hr
    rw [tl_pcT h3] at z
    rcases List.mem_append.mp z with z | z
    · have := (rl.wd r hr).2.2 32 z
      unfold Lt at this
      omega
    · simp only [List.mem_cons, List.not_mem_nil, or_false] at z
      omega
theorem bedT_read {rows : List Sy.Row} (rl : RowsL rows) : piecesR (Txt.split (bedT rows) " ") = some (rows.map ofR) ∧ bedE (rows.map ofR) = none ∧ readE (bedT rows) = none := by
  have h1 : piecesR (Txt.split (bedT rows) " ") = some (rows.map ofR) := by rw [bedT_split rl, pcs_read fun r hr => ⟨rl.wd r hr, rl.ok.br r hr⟩]
  have h2 := bedE_of rl.ok
  exact ⟨h1, h2, by unfold readE; rw [h1]; exact h2⟩
theorem glue_sum (z : Str) (hz : z.length = 1) : ∀ ps : List Str, (Str.join z ps).length ≤ (ps.map (·.length)).sum + ps.length
  | [] => Nat.zero_le _
  | [p] => by show p.length ≤ _; rw [List.map_cons, List.sum_cons]; omega
  | p :: q :: r => by
    have ih := glue_sum z hz (q :: r)
    show (p ++ z ++ Str.join z (q :: r)).length ≤ _
    rw [Str.length_append, Str.length_append, hz, List.map_cons, List.sum_cons]
    rw [List.length_cons]
    omega
theorem bedT_len {rows : List Sy.Row} (rl : RowsL rows) : (bedT rows).length ≤ 1000 := by
  have e : bedT rows = Str.join " " ((rows.map ofR).map pcT) := TL.join_eq _ _
  rw [e]
  have h1 := glue_sum " " (by decide +kernel) ((rows.map ofR).map pcT)
  have h2 := summ_le (m := 19) (ws := (rows.map ofR).map pcT) fun x hx => by
    obtain ⟨u, hu, rfl⟩ := List.mem_map.mp hx
    obtain ⟨r, hr, rfl⟩ := List.mem_map.mp hu
    exact pcT_len (by rw [len_tl]; exact (rl.wd r hr).2.1) (rl.ok.br r hr)
  rw [List.length_map, List.length_map] at h1 h2
  have := rl.le
  omega
theorem tl_joinM (S : List Nat) (M : Nat → Prop) (hS : ∀ c ∈ S, M c) : ∀ ps : List (List Nat), (∀ p ∈ ps, ∀ c ∈ p, M c) → ∀ c ∈ TL.joinL S ps, M c
  | [], _, c, h => nomatch h
  | [p], hp, c, h => hp p (List.mem_singleton.mpr rfl) c h
  | p :: q :: r, hp, c, h => by
    have h : c ∈ p ++ (S ++ TL.joinL S (q :: r)) := h
    rcases List.mem_append.mp h with h | h
    · exact hp p List.mem_cons_self c h
    · rcases List.mem_append.mp h with h | h
      · exact hS c h
      · exact tl_joinM S M hS (q :: r) (fun z hz => hp z (List.mem_cons_of_mem _ hz)) c h
theorem bedT_sg {rows : List Sy.Row} (rl : RowsL rows) : SgX (bedT rows) := by
  intro c hc
  have e : TL.tl (bedT rows) = TL.joinL [32] (((rows.map ofR).map pcT).map TL.tl) := by
    unfold bedT
    rw [TL.join_eq, TL.tl_join, show TL.tl (" " : Str) = [32] by decide +kernel]
  have hc : c ∈ TL.tl (bedT rows) := hc
  rw [e] at hc
  have hl : c < 200 := tl_joinM [32] (fun c => c < 200) (fun z hz => by rw [List.mem_singleton.mp hz]; decide) _ (fun p hp z hz => by
    obtain ⟨y, hy, rfl⟩ := List.mem_map.mp hp
    obtain ⟨u, hu, rfl⟩ := List.mem_map.mp hy
    obtain ⟨r, hr, rfl⟩ := List.mem_map.mp hu
    have h3 := rl.ok.br r hr
    rw [tl_pcT h3] at hz
    rcases List.mem_append.mp hz with hz | hz
    · have := (rl.wd r hr).2.2 z hz
      unfold Lt at this
      omega
    · simp only [List.mem_cons, List.not_mem_nil, or_false] at hz
      omega) c hc
  exact Nat.lt_of_lt_of_le hl (by decide)
section
variable {P : Program} {w : World} {K : PySem.W.Frag} {mg : Str → Option Value} {base : Heap}
theorem pe_ixTK (K : PySem.W.Frag) {X : Cx} {a b : Expr} {ta tb : TE} {pos : Pos} (hK : X.K = K) (ha : PE X a ta) (hb : PE X b tb) (hs : PlainIx b) : PE X (.Subscript a b pos) (tOp (rIxT K) ta tb) := by
  subst hK
  exact pe_ix ix_tup ha hb hs
def spText (K : PySem.W.Frag) : Sp := fun vs H Q _ => ∃ (q : Addr) (rows : List Sy.Row), vs = [.ref q] ∧ KtAt K H q rows ∧ RowsL rows ∧ ∀ H', Same H H' → Q (.str (bedT rows)) H'
theorem sc_text : FnScope ["_law_kinds", "_law_pair"] ["_law_kinds"] (defScope (top 44)) := ⟨rfl, rfl, rfl, by decide +kernel, rfl, by decide +kernel, by decide +kernel⟩
theorem k_text (T : Txt K mg) (hstr : mg "str" = none) (F : DF K mg "_law_text" 44) : Cal P w K mg base 1 "_law_text" ["_law_kinds"] (spText K) := by
  refine cal_of F.1 F.2 sc_text (fun _ _ _ _ _ _ us e => match us, e with | [_], _ => rfl) (fun vs H Q E s => by obtain ⟨_, _, rfl, _⟩ := s; rfl) ?_
  intro cdv A outer s H vs Q E hr h
  obtain ⟨q, rows, rfl, ⟨as, hL, hP⟩, rl, hq⟩ := h
  have sc := sc_text
  have hpl := paired_len hP
  have rle := rl.le
  refine ⟨_, (pss_one (ps_ret (pe_join pe_str (pe_lc (own := [("_law_pair", 1)]) (g := gName 1) rfl sc.nd (pi_tup (pv 0)) (blkOk_by (N := ["_law_kinds", "_law_pair"]) (sc := defScope (top 44)) (by decide +kernel)) (fun _ _ _ _ _ => (pg_name (i := 1) sc.nd rfl (Or.inl rfl))) (fun _ _ _ _ _ => pts_nil) (fun _ _ _ _ _ => (pe_op op_add_str (pe_op op_add_str (pe_ixTK K rfl (pv 1) pe_int (fun _ _ => rfl)) pe_str) (pe_callTy call_str_int (by rfl) hstr (by decide +kernel) (pa_cons (pe_ixTK K rfl (pv 1) pe_int (fun _ _ => rfl)) pa_nil)))))))), ?_⟩
  have e1 : ("/" : Str).length = 1 := by decide +kernel
  have bl : ∀ r ∈ rows, (pcT (ofR r)).length ≤ 19 := fun r hr' => pcT_len (by rw [len_tl]; exact (rl.wd r hr').2.1) (rl.ok.br r hr')
  refine ⟨⟨_, rfl⟩, _, rfl, q, rfl, ⟨_, hL⟩, fun D hD => lc_tup (K := K) (a := q) (xs := as.map V.ref) (fun i H' => Hs H [(D, .lst ((((rows.take i).map ofR).map pcT).map V.str))] H') ((Hs.start H).new hD) (fun _ _ _ z => Same.sqt z.sub hL) ?_ ?_⟩
  · rintro i v H2 hv h2
    obtain ⟨p, ep, rfl⟩ := map_at hv
    have hi : i < rows.length := by rw [← hpl]; exact (List.getElem?_eq_some_iff.mp ep).1
    obtain ⟨r, hr'⟩ : ∃ r, rows[i]? = some r := ⟨_, List.getElem?_eq_getElem hi⟩
    obtain ⟨p2, ep2, tp⟩ := paired_at hP hr'
    rw [ep] at ep2
    cases ep2
    have rm := List.mem_of_getElem? hr'
    have tp2 := Same.sqt h2.sub tp
    have h1 : r.1.length ≤ 8 := by rw [len_tl]; exact (rl.wd r rm).2.1
    have h3 := rl.ok.br r rm
    have hz : ((r.2 : Nat) : Int).natAbs.log2 < 1920 := nat_log (by omega)
    have h5 := num_txt h3
    refine ⟨rfl, ?_⟩
    refine ⟨_, rfl, p, _, _, _, rfl, rfl, tp2, atI_nat (j := 0) rfl, _, _, rfl, rfl, by rw [e1, sizeLine_eq]; omega, _, rfl, p, _, _, _, rfl, rfl, tp2, atI_nat (j := 1) rfl, _, rfl, hz, _, _, rfl, rfl, by rw [Str.length_append, e1, sizeLine_eq]; omega, ?_⟩
    refine ⟨_, h2.r0, by rw [List.length_map, List.length_map, List.length_map, List.length_take, sizeLine_eq]; omega, ?_⟩
    have et : rows.take (i + 1) = rows.take i ++ [r] := by rw [List.take_succ, hr']; rfl
    rw [et, List.map_append, List.map_append, List.map_append]
    exact h2.w0
  · intro H2 h2
    rw [List.length_map, hpl, List.take_length] at h2
    refine ⟨_, D, _, rfl, rfl, .inl (SqL.of h2.r0), ?_, hq _ h2.sub⟩
    have := summ_le (m := 19) (ws := (rows.map ofR).map pcT) fun x hx => by
      obtain ⟨u, hu, rfl⟩ := List.mem_map.mp hx
      obtain ⟨r, hr', rfl⟩ := List.mem_map.mp hu
      exact bl r hr'
    have e0 : (" " : Str).length = 1 := by decide +kernel
    rw [List.length_map, List.length_map] at this
    rw [List.length_map, List.length_map, e0]
    omega
end
end Sy
/-! small defs of the law -/
namespace Sy
open PySem PySem.Spec PyProof.Rows L2
section
variable {P : Program} {w : World} {K : PySem.W.Frag} {mg : Str → Option Value} {base : Heap}
def spFaultL (K : PySem.W.Frag) : Sp := fun vs H Q _ => ∃ (d p : Addr) (rows : List Sy.Row) (l : List Str), vs = [.ref d, .ref p] ∧ H d = some (.dK (arKV rows)) ∧ SqT K H p (l.map V.str) ∧ l.length ≤ 1000000 ∧ Q (.int (fa rows [] 1 0 l)) H
abbrev N_faultL : List Str := ["_law_sizes_here", "_law_row", "_law_need", "_law_place"]
theorem sc_faultL : FnScope N_faultL ["_law_sizes_here", "_law_row"] (defScope (top 53)) := ⟨rfl, rfl, rfl, by decide +kernel, rfl, by decide +kernel, by decide +kernel⟩
theorem k_faultL (T : Txt K mg) (F : DF K mg "_law_fault" 53) : Cal P w K mg base 1 "_law_fault" ["_law_sizes_here", "_law_row"] (spFaultL K) := by
  refine cal_of F.1 F.2 sc_faultL (fun _ _ _ _ _ _ us e => match us, e with | [_, _], _ => rfl) (fun vs H Q E s => by obtain ⟨_, _, _, _, rfl, _⟩ := s; rfl) ?_
  intro cdv A outer s H vs Q E hr h
  obtain ⟨d, p, rows, l, rfl, hd, hP, hl, hq⟩ := h
  have hu := hu_of hr
  have sc := sc_faultL
  refine ⟨_, (pss_cons (ps_set (i := 2) sc.nd rfl (Or.inl rfl) pe_int)
      (pss_cons (ps_for (passes_of rfl) rfl (pi_range1 rfl T.range (pa_cons (pe_callB call_len_seq (by rfl) T.len (by decide +kernel) (pa_cons (pv 1) pa_nil)) pa_nil)) (pg_name (i := 3) sc.nd rfl (Or.inl rfl))
        (pss_cons (ps_if (PW.pt (pw_or (pt_cmpR op_eq (pv 2) pe_int (nomark _)) (pw_or1 (pt_cmp (pc_dnotin hu (pe_ix ix_tup (pv 1) (pv 3) (fun _ _ => rfl)) (pv 0))))))
          (pss_one (ps_ret (pv 3)))
          pss_nil)
        (pss_one (ps_set (i := 2) sc.nd rfl (Or.inl rfl) (pe_op op_add (pe_op op_sub (pv 2) pe_int) (pe_dget hu (pv 0) (pe_ix ix_tup (pv 1) (pv 3) (fun _ _ => rfl)) (fun _ _ => rfl)))))))
      (pss_cons (ps_if (pt_cmpR op_gt (pv 2) pe_int (nomark _))
        (pss_one (ps_ret (pe_callB call_len_seq (by rfl) T.len (by decide +kernel) (pa_cons (pv 1) pa_nil))))
        pss_nil)
      (pss_one (ps_ret (pe_un un_neg pe_int)))))), ?_⟩
  refine ⟨_, rfl, p, _, rfl, .inr hP, _, rfl, by omega, by rw [List.length_map]; omega, for_rng (n := (l.map V.str).length) (fun i σ H' => ∃ (m : Nat) (z : Int) (t3 : Option V), σ = [some (.ref d), some (.ref p), some (.int z), t3] ∧ z = (m : Nat) ∧ H' = H ∧ fa rows [] m i (l.drop i) = fa rows [] 1 0 l) ⟨1, 1, none, rfl, rfl, rfl, by rw [List.drop_zero]⟩ ?_ ?_⟩
  · rintro i σ _ hi ⟨m, _, t3, rfl, rfl, rfl, e⟩
    rw [List.length_map] at hi
    obtain ⟨y, hy⟩ : ∃ y, l[i]? = some y := ⟨_, List.getElem?_eq_getElem hi⟩
    have hyv : (l.map V.str)[i]? = some (.str y) := by rw [List.getElem?_map, hy]; rfl
    rw [drop_of hy, fa] at e
    refine ⟨_, rfl, rfl, _, rfl, if_dec (fun c => ?_) (fun c => ?_)⟩
    · rw [if_pos (by have := V.int.inj c; omega)] at e
      refine ⟨_, rfl, ?_⟩
      rw [← e] at hq
      exact hq
    have c : m ≠ 0 := fun z => c (by rw [z]; rfl)
    rw [if_neg c] at e
    refine ⟨_, rfl, _, rfl, p, _, _, _, rfl, rfl, hP, atI_nat hyv, _, rfl, d, _, rfl, DGet.k (k := Sum.inr y) hd, _, rfl, ?_⟩
    rw [valV_ar]
    cases e2 : rows.lookup y with
    | none =>
      have hk : isK rows y = false := by unfold isK; rw [e2]; rfl
      rw [if_pos ⟨hk, by simp⟩] at e
      rw [← e] at hq
      exact iteT ⟨_, rfl, hq⟩
    | some n =>
      have hk : isK rows y = true := by unfold isK; rw [e2]; rfl
      have ha : ar rows y = n := by unfold ar; rw [e2]; rfl
      rw [if_neg (fun z => by rw [hk] at z; cases z.1), ha] at e
      refine iteF ⟨_, rfl, _, _, rfl, rfl, _, rfl, _, rfl, _, rfl, p, _, _, _, rfl, rfl, hP, atI_nat hyv, d, .int (n : Nat), rfl, ?_, _, _, rfl, rfl, m - 1 + n, _, _, rfl, by omega, rfl, e⟩
      have := DGet.k (k := (Sum.inr y : Key)) hd
      rw [valV_ar, e2] at this
      exact this
  · rintro σ _ ⟨m, _, t3, rfl, rfl, rfl, e⟩
    rw [List.length_map, List.drop_length, fa] at e
    refine ⟨_, rfl, _, _, rfl, rfl, _, rfl, if_dec (fun c => ?_) (fun c => ?_)⟩
    · rw [if_pos (by omega)] at e
      rw [← e] at hq
      refine ⟨_, rfl, p, _, rfl, .inr hP, ?_⟩
      rw [List.length_map]
      exact hq
    · rw [if_neg (by omega)] at e
      rw [← e] at hq
      exact ⟨_, rfl, hq⟩

/-! _law_sizes -/
def spSz (K : PySem.W.Frag) : Sp := fun vs H Q _ => ∃ (q : Addr) (rows : List Sy.Row), vs = [.ref q] ∧ KtAt K H q rows ∧ (rows.map (·.1)).Nodup ∧ rows.length ≤ 8 ∧ ∀ d H', Same H H' → H' d = some (.dK (arKV rows)) → Q (.ref d) H'
abbrev N_sz : List Str := ["_law_kinds", "_law_sizes_here", "_law_name", "_law_size"]
theorem sc_sz : FnScope N_sz ["_law_kinds"] (defScope (top 52)) := ⟨rfl, rfl, rfl, by decide +kernel, rfl, by decide +kernel, by decide +kernel⟩
theorem k_sz (F : DF K mg "_law_sizes" 52) : Cal P w K mg base 1 "_law_sizes" ["_law_kinds"] (spSz K) := by
  refine cal_of F.1 F.2 sc_sz (fun _ _ _ _ _ _ us e => match us, e with | [_], _ => rfl) (fun vs H Q E s => by obtain ⟨_, _, rfl, _⟩ := s; rfl) ?_
  intro cdv A outer s H vs Q E hr h
  obtain ⟨q, rows, rfl, ⟨ps, hL, hP⟩, hnd, hle, hq⟩ := h
  have hu := hu_of hr
  have sc := sc_sz
  have hpl := paired_len hP
  refine ⟨_, (pss_cons (ps_set (i := 1) sc.nd rfl (Or.inl rfl) pe_dnewK)
      (pss_cons (ps_for (passes_of rfl) rfl (pi_tup (pv 0)) (pg_tup rfl (pgs_cons (pg_name (i := 2) sc.nd rfl (Or.inl rfl)) (pgs_cons (pg_name (i := 3) sc.nd rfl (Or.inl rfl)) pgs_nil)))
        (pss_one (ps_dput hu (pv 1) (pv 2) (pv 3) rfl)))
      (pss_one (ps_ret (pv 1))))), ?_⟩
  intro d hd
  have k1 := (Hs.start H).new (o := .dK []) hd
  simp only [List.set_cons_succ, List.set_cons_zero]
  refine ⟨_, rfl, q, rfl, ⟨_, Same.sqt k1.sub hL⟩, for_tup (K := K) (a := q) (xs := ps.map V.ref) (fun i σ H' => ∃ t2 t3, σ = [some (.ref q), some (.ref d), t2, t3] ∧ Hs H [(d, .dK (arKV (rows.take i)))] H') ⟨none, none, rfl, k1⟩ (fun _ _ _ _ ⟨_, _, _, h⟩ => Same.sqt h.sub hL) ?_ ?_⟩
  · rintro i v σ H1 hv ⟨t2, t3, rfl, hh⟩
    obtain ⟨p, ep, rfl⟩ := map_at hv
    have hi : i < rows.length := by rw [← hpl]; exact (List.getElem?_eq_some_iff.mp ep).1
    obtain ⟨r, er⟩ : ∃ r, rows[i]? = some r := ⟨_, List.getElem?_eq_getElem hi⟩
    obtain ⟨p', ep', tp⟩ := paired_at hP er
    rw [ep] at ep'
    cases ep'
    have hn : valV (arKV (rows.take i)) (Sum.inr r.1 : Key) = none := by
      rw [valV_ar, lookup_none (nodup_take hnd er)]
      rfl
    refine ⟨p, _, rfl, Same.sqt hh.sub tp, rfl, _, _, rfl, _, _, rfl, rfl, ?_⟩
    simp only [List.set_cons_succ, List.set_cons_zero]
    refine ⟨_, rfl, _, rfl, _, rfl, d, _, rfl, DPut.k (k := Sum.inr r.1) hh.r0 (by unfold arKV; rw [List.length_map, List.length_take, sizeLine_eq]; omega), _, _, rfl, ?_⟩
    rw [putK_new _ hn]
    have et : rows.take (i + 1) = rows.take i ++ [r] := by rw [List.take_succ, er]; rfl
    rw [et]
    have : arKV (rows.take i ++ [r]) = arKV (rows.take i) ++ [((Sum.inr r.1 : Key), V.int ((r.2 : Nat) : Int))] := by unfold arKV; rw [List.map_append]; rfl
    rw [this]
    exact hh.w0
  · rintro σ H1 ⟨t2, t3, rfl, hh⟩
    rw [List.length_map, hpl, List.take_length] at hh
    exact ⟨_, rfl, hq d H1 hh.sub hh.r0⟩
/-! _law_tuples -/
abbrev N_tup : List Str := ["_law_many", "_law_length", "_law_found", "_law_turn", "_law_longer", "_law_start", "_law_k"]
theorem sc_tup : FnScope N_tup ["_law_many", "_law_length"] (defScope (top 45)) := ⟨rfl, rfl, rfl, by decide +kernel, rfl, by decide +kernel, by decide +kernel⟩
theorem k_tup (T : Txt K mg) (F : DF K mg "_law_tuples" 45) : Cal P w K mg base 1 "_law_tuples" ["_law_many", "_law_length"] (spBel K) := by
  refine cal_of F.1 F.2 sc_tup (fun _ _ _ _ _ _ us e => match us, e with | [_, _], _ => rfl) (fun vs H Q E s => by obtain ⟨_, _, rfl, _⟩ := s; rfl) ?_
  intro cdv A outer s H vs Q E hr h
  obtain ⟨m, k, rfl, hm, hk, hc, hq⟩ := h
  have sc := sc_tup
  refine ⟨_, (pss_cons (ps_set (i := 2) sc.nd rfl (Or.inl rfl) (pe_lst (pa_cons (pe_tup pa_nil) pa_nil)))
      (pss_cons (ps_for (passes_of rfl) rfl (pi_range1 rfl T.range (pa_cons (pv 1) pa_nil)) (pg_name (i := 3) sc.nd rfl (Or.inl rfl))
        (pss_cons (ps_set (i := 4) sc.nd rfl (Or.inl rfl) (pe_lst pa_nil))
        (pss_cons (ps_for (passes_of rfl) rfl (pi_list (pv 2)) (pg_name (i := 5) sc.nd rfl (Or.inr rfl))
          (pss_one (ps_expr (pe_bm PySem.F.plainAttrs_list PySem.F.slot_list_extend PySem.F.type_list_extend mt_extend (pv 4) (pa_cons (pe_lc (own := [("_law_k", 6)]) (g := gName 6) (te := tOp (rCatA K) (tVar 5) (tTup (tCons (tVar 6) tNil))) rfl sc.nd (pi_range1 rfl T.range (pa_cons (pv 0) pa_nil)) (blkOk_by (N := N_tup) (sc := defScope (top 45)) (by decide +kernel)) (fun _ _ _ _ _ => (pg_name (i := 6) sc.nd rfl (Or.inl rfl))) (fun _ _ _ _ _ => pts_nil) (fun _ _ _ _ _ => (pe_catK K rfl (pv 5) (pe_tup (pa_cons (pv 6) pa_nil))))) pa_nil)))))
        (pss_one (ps_set (i := 2) sc.nd rfl (Or.inl rfl) (pv 4))))))
      (pss_one (ps_ret (pv 2))))), ?_⟩
  refine ⟨by decide, fun T1 hT1 => ⟨(by show 1 ≤ sizeLine; decide), fun D0 hD0 => ?_⟩⟩
  have k0 := ((Hs.start H).tup (o := .tup []) hT1).new (o := .lst [.ref T1]) hD0
  have u1 := up_same (o := .tup []) hT1
  have hD00 : H D0 = none := u1.free hD0
  simp only [List.set_cons_succ, List.set_cons_zero]
  refine ⟨_, rfl, _, rfl, by omega, by omega, for_rng (n := k) (fun t σ H' => ∃ (rq : Addr) (t3 t4 t5 : Option V) (B : Hp) (qs : List Addr), σ = [some (.int (m : Nat)), some (.int (k : Nat)), some (.ref rq), t3, t4, t5, none] ∧ H rq = none ∧ Same H B ∧ Hs B [(rq, .lst (qs.map V.ref))] H' ∧ Paired (TpZ K B) qs (tupZ m t))
    ⟨D0, none, none, none, _, [T1], rfl, hD00, u1, k0, .cons (SqT.of upd_same) .nil⟩ ?_ ?_⟩
  · rintro t σ H1 ht ⟨rq, t3, t4, t5, B, qs, rfl, hrq, sB, hh, hP⟩
    have hPl := paired_len hP
    have hcard2 : (tupZ m t).length * m ≤ 2000 := by
      rw [tupZ_len, ← Nat.pow_succ]
      exact pow_le_z hc (by omega)
    refine ⟨by decide, fun D hD => ?_⟩
    have h1 := hh.new (o := .lst []) hD
    have hD0' : H D = none := (sB.trans hh.sub).free hD
    simp only [List.set_cons_succ, List.set_cons_zero]
    refine ⟨_, rfl, rq, rfl, ⟨_, SqL.of h1.r1⟩, for_list (K := K) (xs := qs.map V.ref) (fun i σ H' => ∃ (t5 : Option V) (B2 : Hp) (qs2 : List Addr), σ = [some (.int (m : Nat)), some (.int (k : Nat)), some (.ref rq), some (.int (t : Nat)), some (.ref D), t5, none] ∧ Same B B2 ∧ Hs B2 [(D, .lst (qs2.map V.ref)), (rq, .lst (qs.map V.ref))] H' ∧ Paired (TpZ K B2) qs2 (((tupZ m t).take i).flatMap (widZ m)))
      ⟨t5, B, [], rfl, Same.refl _, h1, .nil⟩ (fun _ _ _ _ ⟨_, _, _, _, _, h2, _⟩ => SqL.of h2.r1) ?_ ?_⟩
    · rintro i v σ H2 hv ⟨t5, B2, qs2, rfl, s2, h2, hP2⟩
      obtain ⟨q, eq, rfl⟩ := map_at hv
      have hi : i < (tupZ m t).length := by rw [← hPl]; exact (List.getElem?_eq_some_iff.mp eq).1
      obtain ⟨r, er⟩ : ∃ r, (tupZ m t)[i]? = some r := ⟨_, List.getElem?_eq_getElem hi⟩
      obtain ⟨q2, eq2, tq⟩ := paired_at hP er
      rw [eq] at eq2
      cases eq2
      have tq : SqT K B q (vI r) := tq
      have rl := (tupZ_mem.mp (List.mem_of_getElem? er)).1
      simp only [List.set_cons_succ, List.set_cons_zero]
      refine ⟨_, rfl, .inl ⟨rfl, _, SqL.of h2.r0⟩, _, rfl, _, rfl, by omega, by omega, fun D3 hD3 => lc_it (walk_range (lo := 0) (n := m)) (fun j H' => ∃ (B3 : Hp) (qs3 : List Addr), Same B2 B3 ∧ Hs B3 [(D3, .lst (qs3.map V.ref)), (D, .lst (qs2.map V.ref)), (rq, .lst (qs.map V.ref))] H' ∧ Paired (TpZ K B3) qs3 ((List.range j).map fun s => r ++ [((s : Nat) : Int)]) ∧ qs3.length = j)
        ⟨B2, [], Same.refl _, h2.new hD3, .nil, rfl⟩ (fun _ _ _ _ => trivial) ?_ ?_⟩
      · rintro j x H3 _ hj ⟨B3, qs3, s3, h3, hP3, hl3⟩ ⟨rfl, rfl⟩
        simp only [Int.zero_add]
        refine ⟨?_, ?_⟩
        · simp only [wipe, List.map_cons, List.map_nil, List.set_cons_succ, List.set_cons_zero]
        simp only [tYes, if_true, wipe, List.map_cons, List.map_nil, List.set_cons_succ, List.set_cons_zero]
        refine ⟨_, rfl, _, rfl, (by show 1 ≤ sizeLine; decide), fun Tu hTu => ?_⟩
        have h4 := h3.tup (o := .tup [.int (j : Nat)]) hTu
        have s4 : Same B3 (upd B3 Tu (.tup [.int (j : Nat)])) := up_same (h3.sub.free hTu)
        have tu : SqT K (upd B3 Tu (.tup [.int (j : Nat)])) Tu [.int (j : Nat)] := SqT.of upd_same
        generalize upd B3 Tu (.tup [.int (j : Nat)]) = B4 at *
        refine cat_any (Same.sqt (((s2.trans s3).trans s4).trans h4.sub) tq) (Same.sqt h4.sub tu) (by rw [show (vI r).length = r.length from List.length_map .., rl]; show _ + 1 ≤ 1000000; omega) (fun p6 H6 s6 t6' => ?_)
        obtain ⟨c1, c2⟩ := h4.after s6
        have t6' := sqt_cutL h4 (fun q hq => by
          simp only [List.mem_cons, List.not_mem_nil, or_false] at hq
          rcases hq with rfl | rfl | rfl <;> exact ⟨_, rfl⟩) s6 t6'
        refine ⟨_, c2.r0, by rw [List.length_map, hl3, sizeLine_eq]; omega, _, qs3 ++ [p6], (s3.trans s4).trans c1, by rw [List.map_append]; exact c2.w0, ?_, by rw [List.length_append, hl3]; rfl⟩
        rw [List.range_succ, List.map_append]
        refine Paired.snoc (Paired.mapP hP3 fun _ _ z => Same.sqt (s4.trans c1) z) ?_
        show SqT K _ p6 (vI (r ++ [((j : Nat) : Int)]))
        rw [show vI (r ++ [((j : Nat) : Int)]) = vI r ++ [.int (j : Nat)] from List.map_append ..]
        exact t6'
      · rintro H3 ⟨B3, qs3, s3, h3, hP3, hl3⟩
        have ql := paired_len hP2
        refine ⟨D, D3, _, _, rfl, rfl, h3.r1, h3.r0, ?_, ?_⟩
        · rw [List.length_map, List.length_map, hl3, ql, flat_widZ, List.length_take, sizeLine_eq]
          have := Nat.mul_le_mul_right m (Nat.min_le_right i (tupZ m t).length)
          omega
        rw [← List.map_append]
        refine ⟨_, B3, qs2 ++ qs3, rfl, s2.trans s3, h3.drop.w0, ?_⟩
        rw [List.take_succ, er, List.flatMap_append]
        have : [r].flatMap (widZ m) = (List.range m).map fun s => r ++ [((s : Nat) : Int)] := by simp [widZ]
        rw [show (some r).toList = [r] from rfl, this]
        exact paired_app (Paired.mapP hP2 fun _ _ z => Same.sqt s3 z) hP3
    · rintro σ H2 ⟨t5, B2, qs2, rfl, s2, h2, hP2⟩
      rw [List.length_map, hPl, List.take_length] at hP2
      exact ⟨_, rfl, D, _, _, _, B2, qs2, rfl, hD0', sB.trans s2, h2.swap.drop, hP2⟩
  · rintro σ H1 ⟨rq, t3, t4, t5, B, qs, rfl, hrq, sB, hh, hP⟩
    exact ⟨_, rfl, hq H1 rq qs hrq (sB.trans hh.sub) hh.r0 (Paired.mapP hP fun _ _ z => Same.sqt hh.sub z)⟩
/-! _law_marks -/
def spMk (K : PySem.W.Frag) : Sp := fun vs H Q _ => ∃ (g : Addr) (m : Nat), vs = [.ref g, .int (m : Nat)] ∧ Bag g H ∧ m ≤ 1000 ∧ ∀ t (mks : List Int) H', mrkF (m : Nat) (-1) mks = true → Dr g H H' → SqT K H' t (vI mks) → Q (.ref t) H'
theorem mrkF_snoc {many : Int} : ∀ {l : List Int} {last x : Int}, mrkF many last l = true → last < x → (∀ y ∈ l, y < x) → x < many → mrkF many last (l ++ [x]) = true
  | [], last, x, _, h1, _, h3 => by
    show (if last < x ∧ x < many then true else false) = true
    rw [if_pos ⟨h1, h3⟩]
  | m :: ms, last, x, h, h1, h2, h3 => by
    rw [mrkF] at h
    show (if last < m ∧ m < many then mrkF many m (ms ++ [x]) else false) = true
    by_cases c : last < m ∧ m < many
    · rw [if_pos c] at h ⊢
      exact mrkF_snoc h (h2 m List.mem_cons_self) (fun y hy => h2 y (List.mem_cons_of_mem _ hy)) h3
    · rw [if_neg c] at h
      cases h
abbrev N_mk : List Str := ["_law_box_here", "_law_states", "_law_choice", "_law_marks_here", "_law_state", "_law_bit"]
theorem sc_mk : FnScope N_mk ["_law_box_here", "_law_states"] (defScope (top 46)) := ⟨rfl, rfl, rfl, by decide +kernel, rfl, by decide +kernel, by decide +kernel⟩
theorem k_mk (T : Txt K mg) (F : DF K mg "_law_marks" 46) (c_law_take : Cal P w K mg base 1 "_law_take" ["_law_box_here", "_law_many"] spDraw) : Cal P w K mg base 2 "_law_marks" ["_law_box_here", "_law_states"] (spMk K) := by
  refine cal_of F.1 F.2 sc_mk (fun _ _ _ _ _ _ us e => match us, e with | [_, _], _ => rfl) (fun vs H Q E s => by obtain ⟨_, _, rfl, _⟩ := s; rfl) ?_
  intro cdv A outer s H vs Q E hr h
  obtain ⟨g, m, rfl, hg, hm, hq⟩ := h
  have sc := sc_mk
  obtain ⟨l0, hl0, h0⟩ := hg.take
  refine ⟨_, (pss_cons (ps_set (i := 2) sc.nd rfl (Or.inl rfl) (pe_cal c_law_take hr (pa_cons (pv 0) (pa_cons pe_int pa_nil))))
      (pss_cons (ps_set (i := 3) sc.nd rfl (Or.inl rfl) (pe_lst pa_nil))
      (pss_cons (ps_for (passes_of rfl) rfl (pi_range1 rfl T.range (pa_cons (pv 1) pa_nil)) (pg_name (i := 4) sc.nd rfl (Or.inl rfl))
        (pss_cons (ps_set (i := 5) sc.nd rfl (Or.inl rfl) (pe_cal c_law_take hr (pa_cons (pv 0) (pa_cons pe_int pa_nil))))
        (pss_one (ps_if (PW.pt (pw_or (pt_cmpR op_eq (pv 2) pe_int (nomark _)) (pw_or1 (PW.pt (pw_and (pt_cmpR op_gt (pv 2) pe_int (nomark _)) (pw_and1 (pt_cmpR op_gt (pv 5) pe_int (nomark _))))))))
          (pss_one (ps_expr (pe_bm PySem.F.plainAttrs_list PySem.F.slot_list_append PySem.F.type_list_append mt_append (pv 3) (pa_cons (pv 4) pa_nil))))
          pss_nil))))
      (pss_one (ps_ret (pe_callTy call_tuple_of (by rfl) T.tuple (by decide +kernel) (pa_cons (pv 3) pa_nil))))))), ?_⟩
  refine ⟨_, rfl, g, 8, rfl, hg, by decide, by decide, fun ch H1 hch d1 => ?_⟩
  obtain ⟨l1, B1, hl1, s1, h1, _⟩ := h0.dr0 d1
  refine ⟨by decide, fun D hD => ?_⟩
  have h2 := (h1.new (o := .lst []) hD).swap
  simp only [List.set_cons_succ, List.set_cons_zero]
  refine ⟨_, rfl, _, rfl, by omega, by omega, for_rng (n := m) (fun i σ H' => ∃ (t4 t5 : Option V) (B : Hp) (lb : List Int) (mks : List Int), σ = [some (.ref g), some (.int (m : Nat)), some (.int (ch : Nat)), some (.ref D), t4, t5] ∧ BagOk lb ∧ Same (L2.del H g) B ∧ Hs B [(g, .lst (lb.map V.int)), (D, .lst (vI mks))] H' ∧ mrkF (m : Nat) (-1) mks = true ∧ (∀ y ∈ mks, y < (i : Int)) ∧ mks.length ≤ i)
    ⟨none, none, B1, l1, [], rfl, hl1, s1, h2, rfl, fun _ z => (nomatch z), Nat.le_refl _⟩ ?_ ?_⟩
  · rintro i σ H3 hi ⟨t4, t5, B, lb, mks, rfl, hlb, sB, hh, hmk, hlt, hml⟩
    refine ⟨_, rfl, g, 3, rfl, hh.bag hlb, by decide, by decide, fun bit H4 hbit d4 => ?_⟩
    obtain ⟨l4, B4, hl4, s4, h4, _⟩ := hh.dr0 d4
    have hmz : (vI mks).length < sizeLine := by rw [vI, List.length_map, sizeLine_eq]; omega
    have app : ∀ (t5 : Option V), ∃ (t4 t5' : Option V) (B : Hp) (lb : List Int) (mk : List Int), [some (.ref g), some (.int (m : Nat)), some (.int (ch : Nat)), some (.ref D), some (.int (i : Nat)), t5] = [some (.ref g), some (.int (m : Nat)), some (.int (ch : Nat)), some (.ref D), t4, t5'] ∧ BagOk lb ∧ Same (L2.del H g) B ∧
        Hs B [(g, .lst (lb.map V.int)), (D, .lst (vI mk))] (upd H4 D (.lst (vI mks ++ [.int (i : Nat)]))) ∧ mrkF (m : Nat) (-1) mk = true ∧ (∀ y ∈ mk, y < ((i + 1 : Nat) : Int)) ∧ mk.length ≤ i + 1 := fun t5 => by
      refine ⟨_, _, B4, l4, mks ++ [((i : Nat) : Int)], rfl, hl4, sB.trans s4, ?_, mrkF_snoc hmk (by omega) hlt (by omega), fun y hy => ?_, by rw [List.length_append]; show _ + 1 ≤ _; omega⟩
      · rw [show vI (mks ++ [((i : Nat) : Int)]) = vI mks ++ [.int (i : Nat)] from List.map_append ..]
        exact h4.w1
      · rcases List.mem_append.mp hy with hy | hy
        · have := hlt y hy
          omega
        · rw [List.mem_singleton.mp hy]; omega
    simp only [List.set_cons_succ, List.set_cons_zero]
    refine ⟨_, rfl, rfl, _, rfl, if_dec (fun c => ?_) (fun c => ⟨_, rfl, _, _, rfl, rfl, _, rfl, if_dec (fun c2 => ⟨_, rfl, _, _, rfl, rfl, _, rfl, if_dec (fun c3 => ?_) (fun c3 => ?_)⟩) (fun c2 => ?_)⟩)⟩
    · exact ⟨_, rfl, .inl ⟨rfl, _, SqL.of h4.r1⟩, _, rfl, D, _, _, rfl, rfl, h4.r1, hmz, app _⟩
    · exact ⟨_, rfl, .inl ⟨rfl, _, SqL.of h4.r1⟩, _, rfl, D, _, _, rfl, rfl, h4.r1, hmz, app _⟩
    · exact ⟨_, _, B4, l4, mks, rfl, hl4, sB.trans s4, h4, hmk, fun y hy => by have := hlt y hy; omega, by omega⟩
    · exact ⟨_, _, B4, l4, mks, rfl, hl4, sB.trans s4, h4, hmk, fun y hy => by have := hlt y hy; omega, by omega⟩
  · rintro σ H3 ⟨t4, t5, B, lb, mks, rfl, hlb, sB, hh, hmk, hlt, hml⟩
    refine ⟨_, rfl, D, _, rfl, .inl ⟨SqL.of hh.r1, fun t ht => hq t mks _ hmk (Dr.same (hh.isDr hlb (by simp) sB) (up_same ht)) (SqT.of upd_same)⟩⟩
end
end Sy
/-! a reader as the law draws it: plain -/
namespace Sy
open PySem PySem.Spec PyProof.Rows L2
def kysZ (m : Nat) (rows : List Sy.Row) : List ZKey := rows.flatMap fun r => (tupZ m r.2).map fun l => (r.1, l)
theorem ar_memZ {rows : List Sy.Row} (nd : (rows.map (·.1)).Nodup) {r : Sy.Row} (hr : r ∈ rows) : ar rows r.1 = r.2 ∧ isK rows r.1 = true := by
  have e : rows.lookup r.1 = some r.2 := by
    induction rows with
    | nil => exact nomatch hr
    | cons q rs ih =>
      rw [lookup_cons]
      rw [List.map_cons, List.nodup_cons] at nd
      rcases List.mem_cons.mp hr with e | hr2
      · rw [e, if_pos rfl]
      · rw [if_neg (fun z => nd.1 (by rw [z]; exact List.mem_map_of_mem hr2))]
        exact ih nd.2 hr2
  unfold ar isK
  rw [e]
  exact ⟨rfl, rfl⟩
theorem kysZ_nd {m : Nat} {rows : List Sy.Row} (nd : (rows.map (·.1)).Nodup) : (kysZ m rows).Nodup := by
  unfold kysZ List.Nodup
  rw [List.pairwise_flatMap]
  refine ⟨fun r _ => ?_, ?_⟩
  · rw [List.pairwise_map]
    exact List.Pairwise.imp (fun {a b} h e => h (by injection e)) (tupZ_nd m r.2)
  · unfold List.Nodup at nd
    rw [List.pairwise_map] at nd
    refine List.Pairwise.imp (fun {a b} h x hx y hy e => ?_) nd
    obtain ⟨s, _, rfl⟩ := List.mem_map.mp hx
    obtain ⟨t, _, rfl⟩ := List.mem_map.mp hy
    injection e with e1 e2
    exact h e1
theorem kysZ_mem {m : Nat} {rows : List Sy.Row} (ok : RowsOk rows) {x : Str} {l : List Int} : (x, l) ∈ kysZ m rows ↔ isK rows x = true ∧ l.length = ar rows x ∧ ∀ n ∈ l, inS (m : Nat) n = true := by
  unfold kysZ
  rw [List.mem_flatMap]
  constructor
  · rintro ⟨r, hr, hm⟩
    obtain ⟨l', hl, e⟩ := List.mem_map.mp hm
    injection e with e1 e2
    subst e1 e2
    obtain ⟨h1, h2⟩ := tupZ_mem.mp hl
    obtain ⟨a1, a2⟩ := ar_memZ ok.nd hr
    exact ⟨a2, by rw [a1]; exact h1, h2⟩
  · rintro ⟨h1, h2, h3⟩
    unfold isK at h1
    obtain ⟨n, e⟩ := Option.isSome_iff_exists.mp h1
    have hm := lookup_at e
    obtain ⟨a1, a2⟩ := ar_memZ ok.nd hm
    exact ⟨_, hm, List.mem_map.mpr ⟨l, tupZ_mem.mpr ⟨by rw [h2]; exact a1, h3⟩, rfl⟩⟩
theorem kysZ_next {m i j : Nat} {rows : List Sy.Row} {r : Sy.Row} {l : List Int} (nd : (rows.map (·.1)).Nodup) (hr : rows[i]? = some r) (hl : (tupZ m r.2)[j]? = some l) : (r.1, l) ∉ kysZ m (rows.take i) ++ ((tupZ m r.2).take j).map (fun l => (r.1, l)) := fun hm => by
  have h := kysZ_nd (m := m) nd
  rw [show rows = rows.take i ++ (r :: rows.drop (i + 1)) by rw [← drop_of hr, List.take_append_drop]] at h
  unfold kysZ at h hm
  rw [List.flatMap_append, List.flatMap_cons] at h
  rw [show (tupZ m r.2).map (fun l => (r.1, l)) = ((tupZ m r.2).take j).map (fun l => (r.1, l)) ++ (r.1, l) :: ((tupZ m r.2).drop (j + 1)).map (fun l => (r.1, l)) by rw [← List.map_cons (f := fun l => (r.1, l)), ← drop_of hl, ← List.map_append, List.take_append_drop]] at h
  rw [List.append_assoc, ← List.append_assoc] at h
  rw [List.nodup_append] at h
  exact h.2.2 _ hm _ List.mem_cons_self rfl
theorem kysZ_len {m : Nat} : ∀ {rows : List Sy.Row}, (∀ r ∈ rows, m ^ r.2 ≤ 2000) → (kysZ m rows).length ≤ 2000 * rows.length
  | [], _ => Nat.zero_le _
  | r :: rows, h => by
    have ih := kysZ_len (rows := rows) fun r hr => h r (List.mem_cons_of_mem _ hr)
    unfold kysZ at ih ⊢
    rw [List.flatMap_cons, List.length_append, List.length_map, tupZ_len, List.length_cons]
    have := h r List.mem_cons_self
    omega
theorem map_nd_inj {α β : Type} {f : α → β} : ∀ {l : List α}, (l.map f).Nodup → ∀ {a b : α}, a ∈ l → b ∈ l → f a = f b → a = b
  | [], _, _, _, h, _, _ => nomatch h
  | x :: l, nd, a, b, ha, hb, e => by
    rw [List.map_cons, List.nodup_cons] at nd
    rcases List.mem_cons.mp ha with ea | ha2
    · rcases List.mem_cons.mp hb with eb | hb2
      · rw [ea, eb]
      · exact absurd (by rw [← ea, e]; exact List.mem_map_of_mem hb2) nd.1
    · rcases List.mem_cons.mp hb with eb | hb2
      · exact absurd (by rw [← eb, ← e]; exact List.mem_map_of_mem ha2) nd.1
      · exact map_nd_inj nd.2 ha2 hb2 e
theorem find_uq {α : Type} {p : α → Bool} {l : List α} {z : α} (hz : z ∈ l) (pz : p z = true) (u : ∀ y ∈ l, p y = true → y = z) : l.find? p = some z := by
  cases e : l.find? p with
  | none => exact absurd pz (List.find?_eq_none.mp e z hz)
  | some y => rw [u y (List.mem_of_find?_eq_some e) (List.find?_some e)]
structure FulZ (m : Nat) (rest : Int) (ks : List ZKey) (full rws : List ZRow) : Prop where
  ke : full.map zky = ks
  sb : rws.Sublist full
  df : ∀ z ∈ full, z ∉ rws → z.2.2 = rest
  lt : ∀ z ∈ full, inS (m : Nat) z.2.2 = true
theorem FulZ.nil {m : Nat} {rest : Int} : FulZ m rest [] [] [] := ⟨rfl, List.Sublist.refl _, fun _ h => (nomatch h), fun _ h => (nomatch h)⟩
theorem FulZ.both {m : Nat} {rest : Int} {ks : List ZKey} {full rws : List ZRow} (h : FulZ m rest ks full rws) {z : ZRow} (hz : inS (m : Nat) z.2.2 = true) : FulZ m rest (ks ++ [zky z]) (full ++ [z]) (rws ++ [z]) where
  ke := by rw [List.map_append, h.ke]; rfl
  sb := h.sb.append (List.Sublist.refl _)
  df := fun y hy hn => by
    rcases List.mem_append.mp hy with hy | hy
    · exact h.df y hy fun q => hn (List.mem_append_left _ q)
    · exact absurd (List.mem_append_right _ hy) hn
  lt := fun y hy => by
    rcases List.mem_append.mp hy with hy | hy
    · exact h.lt y hy
    · rw [List.mem_singleton.mp hy]; exact hz
theorem FulZ.one {m : Nat} {rest : Int} {ks : List ZKey} {full rws : List ZRow} (h : FulZ m rest ks full rws) {z : ZRow} (hz : inS (m : Nat) z.2.2 = true) (e : z.2.2 = rest) : FulZ m rest (ks ++ [zky z]) (full ++ [z]) rws where
  ke := by rw [List.map_append, h.ke]; rfl
  sb := h.sb.trans (List.sublist_append_left _ _)
  df := fun y hy hn => by
    rcases List.mem_append.mp hy with hy | hy
    · exact h.df y hy hn
    · rw [List.mem_singleton.mp hy]; exact e
  lt := fun y hy => by
    rcases List.mem_append.mp hy with hy | hy
    · exact h.lt y hy
    · rw [List.mem_singleton.mp hy]; exact hz
theorem entF_ok {rows : List Sy.Row} {many : Int} : ∀ {rws : List ZRow} {sn : List ZKey} {i : Nat}, (∀ r ∈ rws, zOk rows many r = true) → (sn ++ rws.map zky).Nodup → entF rows many sn i rws = none
  | [], _, _, _, _ => rfl
  | r :: rs, sn, i, h, nd => by
    rw [entF]
    have e : sn ++ (r :: rs).map zky = (sn ++ [zky r]) ++ rs.map zky := by rw [List.append_assoc]; rfl
    have hn : zky r ∉ sn := fun z => by
      rw [List.nodup_append] at nd
      exact nd.2.2 _ z _ (by rw [List.map_cons]; exact List.mem_cons_self) rfl
    rw [if_pos ⟨h r List.mem_cons_self, hn⟩]
    rw [e] at nd
    exact entF_ok (fun q hq => h q (List.mem_cons_of_mem _ hq)) nd
/-- the full table says what the reader does -/
def FullZ (rows : List Sy.Row) (m : Nat) (d : RdrZ) (full : List ZRow) : Prop := ∀ x l, isK rows x = true → l.length = ar rows x → (∀ n ∈ l, inS (m : Nat) n = true) → lkZ full (x, l) = some (stepZ d x l) ∧ inS (m : Nat) (stepZ d x l) = true
/-- what is known of a drawn reader -/
structure DrOk (rows : List Sy.Row) (m : Nat) (d : RdrZ) (full : List ZRow) : Prop where
  ed : d.many = (m : Nat)
  m1 : 1 ≤ m
  m2 : m ≤ 40
  due : rdDue rows d.many d.rws d.marks d.rest = none
  full : FullZ rows m d full
  pw : ∀ r ∈ rows, m ^ r.2 ≤ 2000
  le : d.rws.length ≤ 20000
  kd : ∀ r ∈ d.rws, isK rows r.1 = true ∧ r.2.1.length = ar rows r.1 ∧ (∀ n ∈ r.2.1, inS (m : Nat) n = true) ∧ inS (m : Nat) r.2.2 = true
theorem FulZ.drOk {m : Nat} {rest : Int} {rows : List Sy.Row} {full rws rw2 : List ZRow} {marks : List Int} (ok : RowsOk rows) (h : FulZ m rest (kysZ m rows) full rws) (pm : rw2.Perm rws) (hm1 : 1 ≤ m) (hm2 : m ≤ 40) (hpw : ∀ r ∈ rows, m ^ r.2 ≤ 2000)
    (hmk : mrkF (m : Nat) (-1) marks = true) (hr : inS (m : Nat) rest = true) : DrOk rows m ⟨(m : Nat), rw2, marks, rest⟩ full := by
  have ndf : (full.map zky).Nodup := by rw [h.ke]; exact kysZ_nd ok.nd
  have ndr : (rw2.map zky).Nodup := (pm.map zky).nodup_iff.mpr (ndf.sublist (h.sb.map _))
  have kd : ∀ r ∈ rw2, isK rows r.1 = true ∧ r.2.1.length = ar rows r.1 ∧ (∀ n ∈ r.2.1, inS (m : Nat) n = true) ∧ inS (m : Nat) r.2.2 = true := fun r hr => by
    have hf := h.sb.subset (pm.mem_iff.mp hr)
    have hk : zky r ∈ kysZ m rows := by rw [← h.ke]; exact List.mem_map_of_mem hf
    obtain ⟨a, b, c⟩ := (kysZ_mem ok).mp hk
    exact ⟨a, b, c, h.lt r hf⟩
  refine ⟨rfl, hm1, hm2, ?_, ?_, hpw, ?_, kd⟩
  · unfold rdDue
    rw [if_neg (by show ¬ (40 : Int) < (m : Nat); omega), if_neg (by show ¬ ((m : Nat) : Int) < 1; omega)]
    have e : entF rows (m : Nat) [] 0 rw2 = none := entF_ok (fun r hr => by
      obtain ⟨a, b, c, e⟩ := kd r hr
      unfold zOk
      rw [a, decide_eq_true b, List.all_eq_true.mpr fun n hn => (List.mem_append.mp hn).elim (c n) fun q => by rw [List.mem_singleton.mp q]; exact e]
      rfl) ndr
    show (match entF rows (m : Nat) [] 0 rw2 with
      | some i => some (Er.reader (i : Nat))
      | none => if mrkF (m : Nat) (-1) marks = true then (if inS (m : Nat) rest = true then none else some (.reader (-3))) else some (.reader (-2))) = none
    rw [e]
    show (if mrkF (m : Nat) (-1) marks = true then (if inS (m : Nat) rest = true then none else some (Er.reader (-3))) else some (.reader (-2))) = none
    rw [if_pos hmk, if_pos hr]
  · intro x l h1 h2 h3
    have hk := (kysZ_mem ok).mpr ⟨h1, h2, h3⟩
    rw [← h.ke] at hk
    obtain ⟨z, hz, ez⟩ := List.mem_map.mp hk
    have uq : ∀ y ∈ full, decide (zky y = (x, l)) = true → y = z := fun y hy e => map_nd_inj ndf hy hz ((of_decide_eq_true e).trans ez.symm)
    have f1 : lkZ full (x, l) = some z.2.2 := by
      unfold lkZ
      rw [find_uq (p := fun r => decide (zky r = (x, l))) hz (decide_eq_true ez) uq]
      rfl
    have f2 : stepZ ⟨(m : Nat), rw2, marks, rest⟩ x l = z.2.2 := by
      unfold stepZ lkZ
      show ((rw2.find? fun r => decide (zky r = (x, l))).map (·.2.2)).getD rest = _
      by_cases c : z ∈ rws
      · rw [find_uq (p := fun r => decide (zky r = (x, l))) (pm.mem_iff.mpr c) (decide_eq_true ez) fun y hy e => uq y (h.sb.subset (pm.mem_iff.mp hy)) e]
        rfl
      · rw [List.find?_eq_none.mpr fun y hy e => c (by
          have hy := pm.mem_iff.mp hy
          rw [← uq y (h.sb.subset hy) e]; exact hy)]
        exact (h.df z hz c).symm
    rw [f2]
    exact ⟨f1, h.lt z hz⟩
  · have h1 := pm.length_eq
    have h2 := h.sb.length_le
    have h3 := congrArg List.length h.ke
    rw [List.length_map] at h3
    have h4 := kysZ_len (rows := rows) hpw
    have := ok.le
    show rw2.length ≤ 20000
    omega
/-- a drawn reader at z -/
def DrAt (P : Program) (w : World) (K : PySem.W.Frag) (H : Hp) (z : Addr) (d : RdrZ) (full : List ZRow) : Prop := ∃ (tr tm dS : Addr) (ob : HO) (ps : List Addr) (more : List V), H z = some (.lst (.int d.many :: .ref tr :: .int d.rest :: .ref tm :: .ref dS :: more)) ∧ SqT K H tr (ps.map V.ref) ∧ Paired (ZrAt K H) ps d.rws ∧ SqT K H tm (vI d.marks) ∧
  H dS = some ob ∧ NOf P w K H dS ob (tabZ full)
theorem DrAt.mono {P : Program} {w : World} {K : PySem.W.Frag} {H H' : Hp} {z : Addr} {d : RdrZ} {full : List ZRow} (h : DrAt P w K H z d full) (s : Same H H') : DrAt P w K H' z d full := by
  obtain ⟨tr, tm, dS, ob, ps, more, h1, h2, h3, h4, h5, h6⟩ := h
  exact ⟨tr, tm, dS, ob, ps, more, s _ _ h1, Same.sqt s h2, Paired.mapP h3 fun _ _ y => y.mono (Stay.of s), Same.sqt s h4, s _ _ h5, h6.mono (Stay.of s)⟩
theorem NOf.nil {P : Program} {w : World} {K : PySem.W.Frag} {H H' : Hp} {a : Addr} {ob : HO} (h : NOf P w K H a ob []) : NOf P w K H' a ob [] := by
  obtain ⟨xs, h1, h2, h3, h4⟩ := h.ex
  cases h4
  exact ⟨[], h1, h2, h3, .nil⟩
theorem nt3 {a b c : Addr} {ob : HO} {xs ys : List V} (he : ∃ φ, ob = .ext φ) : ∀ q ∈ ([(a, .lst xs), (b, ob), (c, .lst ys)] : List (Addr × HO)), (∀ xs, q.2 ≠ .tup xs) ∧ ∀ o u, q.2 ≠ .frz o u := fun q hq => by
  obtain ⟨φ, rfl⟩ := he
  rcases List.mem_cons.mp hq with rfl | hq
  · exact ⟨fun _ z => (nomatch z), fun _ _ z => (nomatch z)⟩
  rcases List.mem_cons.mp hq with rfl | hq
  · exact ⟨fun _ z => (nomatch z), fun _ _ z => (nomatch z)⟩
  · rw [List.mem_singleton.mp hq]
    exact ⟨fun _ z => (nomatch z), fun _ _ z => (nomatch z)⟩
end Sy
namespace Sy
open PySem PySem.Spec PyProof.Rows L2
/-! rules that name K; a word between two statements; filters -/
theorem pe_ixK (K : PySem.W.Frag) {X : Cx} {a b : Expr} {ta tb : TE} {pos : Pos} (hK : X.K = K) (ha : PE X a ta) (hb : PE X b tb) (hs : PlainIx b) : PE X (.Subscript a b pos) (tOp (rIxL K) ta tb) := by
  subst hK
  exact pe_ix ix_list ha hb hs
theorem ps_cut {X : Cx} {st : Stmt} {t : TS} (h : PS X st t) : PS X st (fun D σ H => ∃ J : L2.St → Hp → Prop, t { D with nx := J } σ H ∧ ∀ σ' H', J σ' H' → D.nx σ' H') := by
  refine ⟨fun pins s σ H D I hh => ?_⟩
  obtain ⟨J, h1, h2⟩ := hh
  refine thn (h.run pins s σ H { D with nx := J } I h1) fun f s1 q => ?_
  cases f with
  | next =>
    obtain ⟨σ', H', I', q⟩ := q
    exact ⟨σ', H', I', h2 _ _ q⟩
  | ret v => exact q
  | brk => exact q
  | cont => exact q
/-- [e for x in t if c], t a tuple; nothing else is made -/
theorem lc_filtT {K : PySem.W.Frag} {α : Type} {a : Addr} {xs : List α} {f out : α → V} {keep : α → Bool} {si : Nat} {tt : TT} {te : TE} {σ : L2.St} {H B : Hp} {L : List (Addr × HO)} {D : Addr} {Qd : Hp → Prop} (h : Hs B L H) (hD : H D = none)
    (ha : SqT K B a (xs.map f)) (hsz : xs.length ≤ 100000)
    (hs : ∀ x ∈ xs, ∀ H', Same B H' → ∀ (R1 : VK) (R2 : Hp → Prop), (keep x = true → R1 (out x) H') → (keep x = false → R2 H') → tt ((wipe σ [si]).set si (some (f x))) H' fun b H3 => if b = true then te ((wipe σ [si]).set si (some (f x))) H3 R1 else R2 H3)
    (hd : ∀ H', Hs B ((D, .lst ((xs.filter keep).map out)) :: L) H' → Qd H') : LcW (Itt K a) (gName si) tt te [si] σ H D Qd := by
  refine lc_tup (K := K) (a := a) (xs := xs.map f) (fun i H' => Hs B ((D, .lst (((xs.take i).filter keep).map out)) :: L) H') (h.new hD) (fun _ _ _ z => Same.sqt z.sub ha) ?_ ?_
  · rintro i v H2 hv hh
    obtain ⟨x, hx, rfl⟩ := map_at hv
    have hi := (List.getElem?_eq_some_iff.mp hx).1
    have et : xs.take (i + 1) = xs.take i ++ [x] := by rw [List.take_succ, hx]; rfl
    have hl : ((xs.take i).filter keep).length ≤ i := by
      have := List.length_filter_le keep (xs.take i)
      rw [List.length_take] at this
      omega
    refine ⟨(by show (σ.set si none |>.set si _).set si none = σ.set si none; rw [List.set_set, List.set_set]), ?_⟩
    refine hs x (List.mem_of_getElem? hx) H2 hh.sub _ _ (fun c => ?_) (fun c => ?_)
    · refine ⟨_, hh.r0, by rw [List.length_map, sizeLine_eq]; omega, ?_⟩
      rw [et, List.filter_append, List.map_append]
      have : [x].filter keep = [x] := by simp [c]
      rw [this]
      exact hh.w0
    · rw [et, List.filter_append]
      have : [x].filter keep = [] := by simp [c]
      rw [this, List.append_nil]
      exact hh
  · intro H' hh
    rw [List.length_map, List.take_length] at hh
    exact hd H' hh
/-- [e for k in range(n) if c]; nothing else is made -/
theorem lc_filtR {out : Nat → V} {keep : Nat → Bool} {si n : Nat} {tt : TT} {te : TE} {σ : L2.St} {H B : Hp} {L : List (Addr × HO)} {D : Addr} {Qd : Hp → Prop} (h : Hs B L H) (hD : H D = none) (hsz : n ≤ 100000)
    (hs : ∀ k < n, ∀ H', Same B H' → ∀ (R1 : VK) (R2 : Hp → Prop), (keep k = true → R1 (out k) H') → (keep k = false → R2 H') → tt ((wipe σ [si]).set si (some (.int (k : Nat)))) H' fun b H3 => if b = true then te ((wipe σ [si]).set si (some (.int (k : Nat)))) H3 R1 else R2 H3)
    (hd : ∀ H', Hs B ((D, .lst (((List.range n).filter keep).map out)) :: L) H' → Qd H') : LcW (Itr 0 n) (gName si) tt te [si] σ H D Qd := by
  refine lc_it (walk_range (lo := 0) (n := n)) (fun i H' => Hs B ((D, .lst (((List.range i).filter keep).map out)) :: L) H') (h.new hD) (fun _ _ _ _ => trivial) ?_ hd
  rintro i v _ H1 hi hh ⟨rfl, rfl⟩
  simp only [Int.zero_add]
  have hl : ((List.range i).filter keep).length ≤ i := by
    have := List.length_filter_le keep (List.range i)
    rw [List.length_range] at this
    exact this
  refine ⟨(by show (σ.set si none |>.set si _).set si none = σ.set si none; rw [List.set_set, List.set_set]), ?_⟩
  refine hs i hi H1 hh.sub _ _ (fun c => ?_) (fun c => ?_)
  · refine ⟨_, hh.r0, by rw [List.length_map, sizeLine_eq]; omega, ?_⟩
    rw [List.range_succ, List.filter_append, List.map_append]
    have : [i].filter keep = [i] := by simp [c]
    rw [this]
    exact hh.w0
  · rw [List.range_succ, List.filter_append]
    have : [i].filter keep = [] := by simp [c]
    rw [this, List.append_nil]
    exact hh
/-- [e for x in xs if t], xs a list that stays; nothing else is made -/
theorem lc_filt {K : PySem.W.Frag} {α : Type} {a : Addr} {xs : List α} {f out : α → V} {keep : α → Bool} {si : Nat} {tt : TT} {te : TE} {σ : L2.St} {H B : Hp} {L : List (Addr × HO)} {D : Addr} {Qd : Hp → Prop} (h : Hs B L H) (hD : H D = none)
    (ha : ∀ H' o, Hs B ((D, o) :: L) H' → H' a = some (.lst (xs.map f))) (hsz : xs.length ≤ 100000)
    (hs : ∀ x ∈ xs, ∀ H', Same B H' → ∀ (R1 : VK) (R2 : Hp → Prop), (keep x = true → R1 (out x) H') → (keep x = false → R2 H') → tt ((wipe σ [si]).set si (some (f x))) H' fun b H3 => if b = true then te ((wipe σ [si]).set si (some (f x))) H3 R1 else R2 H3)
    (hd : ∀ H', Hs B ((D, .lst ((xs.filter keep).map out)) :: L) H' → Qd H') : LcW (Itl K a) (gName si) tt te [si] σ H D Qd := by
  refine lc_it (walk_list (K := K) (a := a) (xs := xs.map f)) (fun i H' => Hs B ((D, .lst (((xs.take i).filter keep).map out)) :: L) H') (h.new hD) (fun _ _ _ z => SqL.of (ha _ _ z)) ?_ ?_
  · rintro i v _ H2 hi hh ⟨rfl, hv⟩
    obtain ⟨x, hx, rfl⟩ := map_at hv
    rw [List.length_map] at hi
    have et : xs.take (i + 1) = xs.take i ++ [x] := by rw [List.take_succ, hx]; rfl
    have hl : ((xs.take i).filter keep).length ≤ i := by
      have := List.length_filter_le keep (xs.take i)
      rw [List.length_take] at this
      omega
    refine ⟨(by show (σ.set si none |>.set si _).set si none = σ.set si none; rw [List.set_set, List.set_set]), ?_⟩
    refine hs x (List.mem_of_getElem? hx) H2 hh.sub _ _ (fun c => ?_) (fun c => ?_)
    · refine ⟨_, hh.r0, by rw [List.length_map, sizeLine_eq]; omega, ?_⟩
      rw [et, List.filter_append, List.map_append]
      have : [x].filter keep = [x] := by simp [c]
      rw [this]
      exact hh.w0
    · rw [et, List.filter_append]
      have : [x].filter keep = [] := by simp [c]
      rw [this, List.append_nil]
      exact hh
  · intro H' hh
    rw [List.length_map, List.take_length] at hh
    exact hd H' hh
/-- .. without a test -/
theorem lc_maps {K : PySem.W.Frag} {α : Type} {a : Addr} {xs : List α} {f out : α → V} {si : Nat} {te : TE} {σ : L2.St} {H B : Hp} {L : List (Addr × HO)} {D : Addr} {Qd : Hp → Prop} (h : Hs B L H) (hD : H D = none)
    (ha : ∀ H' o, Hs B ((D, o) :: L) H' → H' a = some (.lst (xs.map f))) (hsz : xs.length ≤ 100000)
    (hs : ∀ x ∈ xs, ∀ H', Same B H' → ∀ (R1 : VK), R1 (out x) H' → te ((wipe σ [si]).set si (some (f x))) H' R1)
    (hd : ∀ H', Hs B ((D, .lst (xs.map out)) :: L) H' → Qd H') : LcW (Itl K a) (gName si) tYes te [si] σ H D Qd := by
  refine lc_filt (keep := fun _ => true) (out := out) h hD ha hsz (fun x hx H' s R1 R2 k1 _ => ?_) (fun H' hh => ?_)
  · simp only [tYes, if_true]
    exact hs x hx H' s R1 (k1 rfl)
  · rw [List.filter_eq_self.mpr (fun _ _ => rfl)] at hh
    exact hd H' hh
end Sy
/-! _law_reader -/
namespace Sy
open PySem PySem.Spec PyProof.Rows L2
theorem sqt_cut {K : PySem.W.Frag} {H : Hp} {L : List (Addr × HO)} {a : Addr} {xs : List V} (hs : ∀ q ∈ L, H q.1 = some q.2) (nt : ∀ q ∈ L, (∀ xs, q.2 ≠ .tup xs) ∧ ∀ o u, q.2 ≠ .frz o u) (h : SqT K H a xs) : SqT K (cut L H) a xs := by
  have out : ∀ o, H a = some o → ((∃ xs, o = .tup xs) ∨ ∃ b u, o = .frz b u) → a ∉ L.map (·.1) := fun o e c hm => by
    obtain ⟨q, hq, rfl⟩ := List.mem_map.mp hm
    have := hs q hq
    rw [e] at this
    have := Option.some.inj this
    rcases c with ⟨xs, rfl⟩ | ⟨b, u, rfl⟩
    · exact (nt q hq).1 _ this.symm
    · exact (nt q hq).2 _ _ this.symm
  rcases h with (h | ⟨o, h⟩) | h
  · exact .inl (.inl (by rw [cut_at (out _ h (.inl ⟨_, rfl⟩))]; exact h))
  · exact .inl (.inr ⟨o, by rw [cut_at (out _ h (.inr ⟨_, _, rfl⟩))]; exact h⟩)
  · exact .inr h
theorem paired_drop {α β : Type} {R : α → β → Prop} : ∀ (k : Nat) {xs : List α} {ys : List β}, Paired R xs ys → Paired R (xs.drop k) (ys.drop k)
  | 0, _, _, h => h
  | _ + 1, _, _, .nil => .nil
  | k + 1, _, _, .cons _ h => paired_drop k h
theorem paired_take {α β : Type} {R : α → β → Prop} : ∀ (k : Nat) {xs : List α} {ys : List β}, Paired R xs ys → Paired R (xs.take k) (ys.take k)
  | 0, _, _, _ => .nil
  | _ + 1, _, _, .nil => .nil
  | k + 1, _, _, .cons a h => .cons a (paired_take k h)
theorem Dr.free0 {g a : Addr} {H H' : Hp} (d : Dr g H H') (h : H' a = none) : H a = none := by
  obtain ⟨l, _, c⟩ := d
  cases e : H a with
  | none => rfl
  | some o =>
    have n : a ≠ g := fun z => by rw [z, c.1] at h; cases h
    rw [c.2 a o n e] at h
    cases h
theorem KtAt.delL {K : PySem.W.Frag} {H : Hp} {q g : Addr} {ys : List V} {rows : List Sy.Row} (h : KtAt K H q rows) (hg : H g = some (.lst ys)) : KtAt K (L2.del H g) q rows := by
  obtain ⟨ps, h1, h2⟩ := h
  exact ⟨ps, sqt_delL h1 hg, Paired.mapP h2 fun _ _ z => sqt_delL z hg⟩
theorem KtAt.delB {K : PySem.W.Frag} {H : Hp} {q g : Addr} {rows : List Sy.Row} (h : KtAt K H q rows) (hg : Bag g H) : KtAt K (L2.del H g) q rows := by
  obtain ⟨l, _, e⟩ := hg
  exact h.delL e
theorem ints8 (most : Nat) (hm : 1 ≤ most) (j : Nat) (h : j < 8) : ∃ n : Nat, ([.int 2, .int 3, .int 2, .int 4, .int 1, .int 3, .int 2, .int 4] : List V)[j]? = some (.int (n : Nat)) ∧ ∃ m : Nat, (if ((n : Nat) : Int) < ((most : Nat) : Int) then ((n : Nat) : Int) else ((most : Nat) : Int)) = (m : Nat) ∧ 1 ≤ m ∧ m ≤ most := by
  have key : ∀ n : Nat, 1 ≤ n → ∃ m : Nat, (if ((n : Nat) : Int) < ((most : Nat) : Int) then ((n : Nat) : Int) else ((most : Nat) : Int)) = (m : Nat) ∧ 1 ≤ m ∧ m ≤ most := fun n hn => by
    by_cases c : ((n : Nat) : Int) < ((most : Nat) : Int)
    · exact ⟨n, if_pos c, hn, by omega⟩
    · exact ⟨most, if_neg c, hm, Nat.le_refl _⟩
  match j, h with
  | 0, _ => exact ⟨2, rfl, key 2 (by decide)⟩
  | 1, _ => exact ⟨3, rfl, key 3 (by decide)⟩
  | 2, _ => exact ⟨2, rfl, key 2 (by decide)⟩
  | 3, _ => exact ⟨4, rfl, key 4 (by decide)⟩
  | 4, _ => exact ⟨1, rfl, key 1 (by decide)⟩
  | 5, _ => exact ⟨3, rfl, key 3 (by decide)⟩
  | 6, _ => exact ⟨2, rfl, key 2 (by decide)⟩
  | 7, _ => exact ⟨4, rfl, key 4 (by decide)⟩
  | n + 8, h => omega
theorem pow_le3 {m k : Nat} (hm : m ≤ 3) (hk : k ≤ 3) : m ^ k ≤ 27 :=
  Nat.le_trans (Nat.pow_le_pow_left hm k) (Nat.le_trans (Nat.pow_le_pow_right (n := 3) (by decide) hk) (by decide))
theorem kysZ_take {m i : Nat} {rows : List Sy.Row} {r : Sy.Row} (h : rows[i]? = some r) : kysZ m (rows.take (i + 1)) = kysZ m (rows.take i) ++ (tupZ m r.2).map fun l => (r.1, l) := by
  rw [List.take_succ, h]
  unfold kysZ
  rw [List.flatMap_append]
  show _ ++ [r].flatMap _ = _
  rw [List.flatMap_cons, List.flatMap_nil, List.append_nil]
theorem kysJ {m j : Nat} {ks : List ZKey} {x : Str} {k : Nat} {l : List Int} (el : (tupZ m k)[j]? = some l) : ks ++ ((tupZ m k).take (j + 1)).map (fun l => (x, l)) = (ks ++ ((tupZ m k).take j).map fun l => (x, l)) ++ [(x, l)] := by
  rw [List.take_succ, el, List.map_append, List.append_assoc]
  rfl
theorem kys_bd {m i j : Nat} {rows : List Sy.Row} {x : Str} {k : Nat} (ok : RowsOk rows) (hk : k ≤ 3) (hp : ∀ r ∈ rows, m ^ r.2 ≤ 2000) (hp2 : m ^ k ≤ 2000) : (kysZ m (rows.take i) ++ ((tupZ m k).take j).map fun l => (x, l)).length ≤ 20000 := by
  have h1 := kysZ_len (m := m) (rows := rows.take i) fun r hr => hp r (List.mem_of_mem_take hr)
  rw [List.length_append, List.length_map, List.length_take]
  rw [List.length_take] at h1
  have := ok.le
  rw [tupZ_len]
  omega
section
variable {P : Program} {w : World} {K : PySem.W.Frag} {mg : Str → Option Value} {base : Heap}
def spRdr (P : Program) (w : World) (K : PySem.W.Frag) : Sp := fun vs H Q _ => ∃ (g q : Addr) (most : Nat) (rows : List Sy.Row), vs = [.ref g, .ref q, .int (most : Nat)] ∧ 1 ≤ most ∧ most ≤ 4 ∧ (∀ r ∈ rows, most ^ r.2 ≤ 2000) ∧ Bag g H ∧ KtAt K H q rows ∧ RowsL rows ∧
  ∀ z d full m H', DrOk rows m d full → Dr g H H' → DrAt P w K H' z d full → H z = none → m ≤ most → Q (.ref z) H'
abbrev N_rdr : List Str := ["_law_box_here", "_law_kinds", "_law_most", "_law_states", "_law_spare", "_law_rows", "_law_steps", "_law_name", "_law_size", "_law_below", "_law_state", "_law_turn"]
theorem sc_rdr : FnScope N_rdr ["_law_box_here", "_law_kinds", "_law_most"] (defScope (top 47)) := ⟨rfl, rfl, rfl, by decide +kernel, rfl, by decide +kernel, by decide +kernel⟩
theorem k_rdr (T : Txt K mg) (hmin : mg "min" = none) (F : DF K mg "_law_reader" 47) (c_law_take : Cal P w K mg base 1 "_law_take" ["_law_box_here", "_law_many"] spDraw) (c_law_tuples : Cal P w K mg base 1 "_law_tuples" ["_law_many", "_law_length"] (spBel K)) (c_law_marks : Cal P w K mg base 2 "_law_marks" ["_law_box_here", "_law_states"] (spMk K)) :
    Cal P w K mg base 3 "_law_reader" ["_law_box_here", "_law_kinds", "_law_most"] (spRdr P w K) := by
  refine cal_of F.1 F.2 sc_rdr (fun _ _ _ _ _ _ us e => match us, e with | [_, _, _], _ => rfl) (fun vs H Q E s => by obtain ⟨_, _, _, _, rfl, _⟩ := s; rfl) ?_
  intro cdv A outer s H vs Q E hr h
  obtain ⟨g, q, most, rows, rfl, hmo1, hmo4, hmop, hg, hq0, rl, hq⟩ := h
  have sc := sc_rdr
  have hu := hu4_of hr
  obtain ⟨pk, hL0, hP0⟩ := hq0.delB hg
  obtain ⟨l0, hl0, h0⟩ := hg.take
  generalize hB0 : L2.del H g = B0 at *
  have ok := rl.ok
  have hle := rl.le
  have hpl := paired_len hP0
  refine ⟨_, (pss_cons (ps_set (i := 3) sc.nd rfl (Or.inl rfl) (pe_callB (call_min2 rfl) (by rfl) hmin (by decide +kernel) (pa_cons (pv 2) (pa_cons (pe_ix ix_list (pe_lst (pa_cons pe_int (pa_cons pe_int (pa_cons pe_int (pa_cons pe_int (pa_cons pe_int (pa_cons pe_int (pa_cons pe_int (pa_cons pe_int pa_nil))))))))) (pe_cal c_law_take hr (pa_cons (pv 0) (pa_cons pe_int pa_nil))) (fun _ _ => rfl)) pa_nil))))
      (pss_cons (ps_set (i := 4) sc.nd rfl (Or.inl rfl) (pe_cal c_law_take hr (pa_cons (pv 0) (pa_cons (pv 3) pa_nil))))
      (pss_cons (ps_set (i := 5) sc.nd rfl (Or.inl rfl) (pe_lst pa_nil))
      (pss_cons (ps_set (i := 6) sc.nd rfl (Or.inl rfl) pe_nnew)
      (pss_cons (ps_for (passes_of rfl) rfl (pi_tup (pv 1)) (pg_tup rfl (pgs_cons (pg_name (i := 7) sc.nd rfl (Or.inl rfl)) (pgs_cons (pg_name (i := 8) sc.nd rfl (Or.inl rfl)) pgs_nil)))
        (pss_one (ps_for (passes_of rfl) rfl (pi_list (pe_cal c_law_tuples hr (pa_cons (pv 3) (pa_cons (pv 8) pa_nil)))) (pg_name (i := 9) sc.nd rfl (Or.inl rfl))
          (pss_cons (ps_set (i := 10) sc.nd rfl (Or.inl rfl) (pe_cal c_law_take hr (pa_cons (pv 0) (pa_cons (pe_op op_add (pv 3) pe_int) pa_nil))))
          (pss_cons (ps_cut (ps_if (pt_cmpR op_lt (pv 10) (pv 3) (nomark _))
            (pss_one (ps_expr (pe_bm PySem.F.plainAttrs_list PySem.F.slot_list_append PySem.F.type_list_append mt_append (pv 5) (pa_cons (pe_tup (pa_cons (pv 7) (pa_cons (pv 9) (pa_cons (pv 10) pa_nil)))) pa_nil))))
            (pss_one (ps_set (i := 10) sc.nd rfl (Or.inl rfl) (pv 4)))))
          (pss_one (ps_nput hu (pv 6) (pe_tup (pa_cons (pv 7) (pa_cons (pv 9) pa_nil))) (pv 10) rfl)))))))
      (pss_cons (ps_set (i := 11) sc.nd rfl (Or.inl rfl) (pe_cal c_law_take hr (pa_cons (pv 0) (pa_cons (pe_op op_add (pe_callB call_len_seq (by rfl) T.len (by decide +kernel) (pa_cons (pv 5) pa_nil)) pe_int) pa_nil))))
      (pss_cons (ps_set (i := 5) sc.nd rfl (Or.inl rfl) (pe_op op_cat (pe_slice sl_list (pv 5) (po_some (pv 11)) po_none) (pe_slice sl_list (pv 5) po_none (po_some (pv 11)))))
      (pss_one (ps_ret (pe_lst (pa_cons (pv 3) (pa_cons (pe_callTy call_tuple_of (by rfl) T.tuple (by decide +kernel) (pa_cons (pv 5) pa_nil)) (pa_cons (pv 4) (pa_cons (pe_cal c_law_marks hr (pa_cons (pv 0) (pa_cons (pv 3) pa_nil))) (pa_cons (pv 6) pa_nil))))))))))))))), ?_⟩
  refine ⟨_, rfl, (by show 8 ≤ sizeLine; decide), fun D1 hD1 => ?_⟩
  have h1 := h0.lay (o := .lst [.int 2, .int 3, .int 2, .int 4, .int 1, .int 3, .int 2, .int 4]) hD1
  have hgD : g ≠ D1 := h0.ne_of_new hD1 (g, .lst (l0.map V.int)) (by simp)
  refine ⟨_, rfl, g, 8, rfl, h1.bag hl0, by decide, by decide, fun j1 H1 hj1 d1 => ?_⟩
  have hD1' : H1 D1 = some (.lst [.int 2, .int 3, .int 2, .int 4, .int 1, .int 3, .int 2, .int 4]) := by
    obtain ⟨_, _, c⟩ := d1
    exact c.2 _ _ hgD.symm upd_same
  obtain ⟨l1, B1, hl1, s1, h1, _⟩ := h1.dr0 d1
  obtain ⟨n, en, m, em, hm1, hm3⟩ := ints8 most hmo1 j1 hj1
  refine ⟨D1, _, _, _, rfl, rfl, SqL.of hD1', atI_nat en, ((most : Nat) : Int), _, rfl, ?_⟩
  dsimp only
  rw [em]
  refine ⟨_, rfl, _, rfl, g, m, rfl, h1.bag hl1, by omega, by omega, fun rest H2 hrest d2 => ?_⟩
  obtain ⟨l2, B2, hl2, s2, h2, _⟩ := h1.dr0 d2
  have s02 := s1.trans s2
  refine ⟨by decide, fun dR hdR => ?_⟩
  have h3 := (h2.new (o := .lst []) hdR).swap
  refine fun dT ob0 hdT hN0 => ?_
  have h4 := (h3.new (o := ob0) hdT).swap
  have hpw : ∀ r ∈ rows, m ^ r.2 ≤ 2000 := fun r hr' => Nat.le_trans (Nat.pow_le_pow_left hm3 _) (hmop r hr')
  have hrI : inS (m : Nat) ((rest : Nat) : Int) = true := inS_iff.mpr ⟨by omega, by omega⟩
  simp only [List.set_cons_succ, List.set_cons_zero]
  refine ⟨_, rfl, q, rfl, ⟨_, Same.sqt (s02.trans h4.sub) hL0⟩, for_tup (K := K) (a := q) (xs := pk.map V.ref)
    (fun i σ H' => ∃ (t7 t8 t9 t10 : Option V) (B : Hp) (lb : List Int) (ob : HO) (full rws : List ZRow) (ps : List Addr), σ = [some (.ref g), some (.ref q), some (.int (most : Nat)), some (.int (m : Nat)), some (.int (rest : Nat)), some (.ref dR), some (.ref dT), t7, t8, t9, t10, none] ∧ BagOk lb ∧ Same B0 B ∧
      Hs B [(g, .lst (lb.map V.int)), (dT, ob), (dR, .lst (ps.map V.ref))] H' ∧ NOf P w K B dT ob (tabZ full) ∧ Paired (ZrAt K B) ps rws ∧ FulZ m (rest : Nat) (kysZ m (rows.take i)) full rws)
    ⟨none, none, none, none, B2, l2, ob0, [], [], [], rfl, hl2, s02, h4, hN0.nil, .nil, FulZ.nil⟩ (fun _ _ _ _ ⟨_, _, _, _, _, _, _, _, _, _, _, _, s, z, _⟩ => Same.sqt (s.trans z.sub) hL0) ?_ ?_⟩
  · rintro i v σ H4 hv ⟨t7, t8, t9, t10, B, lb, ob, full, rws, ps, rfl, hlb, sB, hh, hN, hR, hF⟩
    obtain ⟨p, ep, rfl⟩ := map_at hv
    have hi : i < rows.length := by rw [← hpl]; exact (List.getElem?_eq_some_iff.mp ep).1
    obtain ⟨r, er⟩ : ∃ r, rows[i]? = some r := ⟨_, List.getElem?_eq_getElem hi⟩
    obtain ⟨p', ep', tp⟩ := paired_at hP0 er
    rw [ep] at ep'
    cases ep'
    have rm := List.mem_of_getElem? er
    have hk3 := ok.br r rm
    refine ⟨p, _, rfl, Same.sqt (sB.trans hh.sub) tp, rfl, _, _, rfl, _, _, rfl, rfl, ?_⟩
    refine ⟨_, rfl, _, rfl, m, r.2, rfl, by omega, by omega, hpw r rm, fun H5 tq qs htq s5 hL5 hP5 => ?_⟩
    obtain ⟨c1, c2⟩ := hh.after s5
    have nt := nt3 (a := g) (b := dT) (c := dR) (xs := lb.map V.int) (ys := ps.map V.ref) hN.ext
    have hP5 : Paired (TpZ K (cut [(g, HO.lst (lb.map V.int)), (dT, ob), (dR, .lst (ps.map V.ref))] H5)) qs (tupZ m r.2) := Paired.mapP hP5 fun _ _ y => sqt_cut c2.own nt y
    have hL5' : cut [(g, HO.lst (lb.map V.int)), (dT, ob), (dR, .lst (ps.map V.ref))] H5 tq = some (.lst (qs.map V.ref)) := by rw [cut_at (hh.out_new htq)]; exact hL5
    generalize hB5 : cut [(g, HO.lst (lb.map V.int)), (dT, ob), (dR, .lst (ps.map V.ref))] H5 = B5 at *
    have hqs := paired_len hP5
    have s05 := sB.trans c1
    refine ⟨tq, rfl, ⟨_, SqL.of (c2.sub _ _ hL5')⟩, for_list (K := K) (xs := qs.map V.ref)
      (fun j σ H' => ∃ (t9 t10 : Option V) (B : Hp) (lb : List Int) (ob : HO) (full rws : List ZRow) (ps : List Addr), σ = [some (.ref g), some (.ref q), some (.int (most : Nat)), some (.int (m : Nat)), some (.int (rest : Nat)), some (.ref dR), some (.ref dT), some (.str r.1), some (.int (r.2 : Nat)), t9, t10, none] ∧ BagOk lb ∧ Same B5 B ∧
        Hs B [(g, .lst (lb.map V.int)), (dT, ob), (dR, .lst (ps.map V.ref))] H' ∧ NOf P w K B dT ob (tabZ full) ∧ Paired (ZrAt K B) ps rws ∧ FulZ m (rest : Nat) (kysZ m (rows.take i) ++ ((tupZ m r.2).take j).map fun l => (r.1, l)) full rws)
      ⟨t9, t10, B5, lb, ob, full, rws, ps, rfl, hlb, Same.refl _, c2, hN.mono (Stay.of c1), Paired.mapP hR fun _ _ y => y.mono (Stay.of c1), by show FulZ _ _ (_ ++ []) _ _; rw [List.append_nil]; exact hF⟩ (fun _ _ _ _ ⟨_, _, _, _, _, _, _, _, _, _, s, z, _⟩ => SqL.of (z.sub _ _ (s _ _ hL5'))) ?_ ?_⟩
    · clear hh hN hR hF c2 nt hB5 hlb
      clear lb ob full rws ps
      rintro j v σ H6 hv ⟨t9, t10, B, lb, ob, full, rws, ps, rfl, hlb, sB, hh, hN, hR, hF⟩
      obtain ⟨a, ea, rfl⟩ := map_at hv
      have hj : j < (tupZ m r.2).length := by rw [← hqs]; exact (List.getElem?_eq_some_iff.mp ea).1
      obtain ⟨l, el⟩ : ∃ l, (tupZ m r.2)[j]? = some l := ⟨_, List.getElem?_eq_getElem hj⟩
      obtain ⟨a', ea', ta0⟩ := paired_at hP5 el
      rw [ea] at ea'
      cases ea'
      have ta0 : SqT K B5 a (vI l) := ta0
      have hnk := kysZ_next ok.nd er el
      have hfr : (r.1, l) ∉ full.map zky := by rw [hF.ke]; exact hnk
      have hfl : full.length ≤ 20000 := by
        have h1 := congrArg List.length hF.ke
        have h2 := kys_bd (i := i) (j := j) (x := r.1) ok hk3 hpw (hpw r rm)
        rw [List.length_map] at h1
        omega
      have hps : ps.length ≤ 20000 := by
        have h1 := paired_len hR
        have h2 := hF.sb.length_le
        omega
      refine ⟨_, rfl, _, rfl, _, _, rfl, rfl, g, m + 1, rfl, hh.bag hlb, by omega, by omega, fun st H7 hst d7 => ?_⟩
      obtain ⟨l7, B7, hl7, s7, h7, _⟩ := hh.dr0 d7
      have sB7 := sB.trans s7
      simp only [List.set_cons_succ, List.set_cons_zero]
      refine ⟨fun σ' H' => ∃ (st : Nat) (B' : Hp) (rws' : List ZRow) (ps' : List Addr), σ' = [some (.ref g), some (.ref q), some (.int (most : Nat)), some (.int (m : Nat)), some (.int (rest : Nat)), some (.ref dR), some (.ref dT), some (.str r.1), some (.int (r.2 : Nat)), some (.ref a), some (.int (st : Nat)), none] ∧ Same B7 B' ∧
        Hs B' [(g, .lst (l7.map V.int)), (dT, ob), (dR, .lst (ps'.map V.ref))] H' ∧ Paired (ZrAt K B') ps' rws' ∧ FulZ m (rest : Nat) ((kysZ m (rows.take i) ++ ((tupZ m r.2).take j).map fun l => (r.1, l)) ++ [(r.1, l)]) (full ++ [(r.1, l, ((st : Nat) : Int))]) rws', ⟨_, rfl, _, rfl, _, _, rfl, rfl, _, rfl, if_dec (fun c => ?_) (fun c => ?_)⟩, ?_⟩
      · refine ⟨_, rfl, .inl ⟨rfl, _, SqL.of h7.r2⟩, _, rfl, _, rfl, _, rfl, (by show 3 ≤ sizeLine; decide), fun T8 hT8 => ?_⟩
        have h10 := h7.tup (o := .tup [.str r.1, .ref a, .int (st : Nat)]) hT8
        have s10 : Same B7 (upd B7 T8 (.tup [.str r.1, .ref a, .int (st : Nat)])) := up_same (h7.sub.free hT8)
        refine ⟨dR, _, _, rfl, rfl, h10.r2, by rw [List.length_map, sizeLine_eq]; omega, st, _, rws ++ [(r.1, l, ((st : Nat) : Int))], ps ++ [T8], rfl, s10, ?_, ?_, hF.both (z := (r.1, l, ((st : Nat) : Int))) (inS_iff.mpr ⟨by show (0 : Int) ≤ (st : Nat); omega, by show ((st : Nat) : Int) < _; omega⟩)⟩
        · rw [List.map_append]; exact h10.w2
        · exact Paired.snoc (Paired.mapP hR fun _ _ y => y.mono (Stay.of (s7.trans s10))) ⟨a, SqT.of upd_same, Same.sqt (sB7.trans s10) ta0⟩
      · exact ⟨_, rfl, rest, B7, rws, ps, rfl, Same.refl _, h7, Paired.mapP hR fun _ _ y => y.mono (Stay.of s7), hF.one (z := (r.1, l, ((rest : Nat) : Int))) hrI rfl⟩
      clear hst st hps hR hF h7
      rintro σ' H8 ⟨st, B8, rws', ps', rfl, s8, h8, hR, hF⟩
      replace s7 := s7.trans s8
      replace sB7 := sB7.trans s8
      refine ⟨_, rfl, _, rfl, _, rfl, _, rfl, (by show 2 ≤ sizeLine; decide), fun T5 hT5 => ?_⟩
      have h9 := h8.tup (o := .tup [.str r.1, .ref a]) hT5
      have s9 : Same B8 (upd B8 T5 (.tup [.str r.1, .ref a])) := up_same (h8.sub.free hT5)
      have tT5 : SqT K (upd B8 T5 (.tup [.str r.1, .ref a])) T5 [.str r.1, .ref a] := SqT.of upd_same
      generalize upd B8 T5 (.tup [.str r.1, .ref a]) = B9 at *
      refine ⟨dT, T5, ob, _, zkey (r.1, l), B9, rfl, rfl, h9.r1, Stay.of h9.sub, hN.mono (Stay.of (s7.trans s9)), NK.ofZ tT5 (Same.sqt (sB7.trans s9) ta0), by unfold tabZ; rw [List.length_map, sizeLine_eq]; omega, fun ob' hN' => ?_⟩
      have hN' : NOf P w K B9 dT ob' (putK (tabZ full) (zkey (zky (r.1, l, ((st : Nat) : Int)))) (V.int ((r.1, l, ((st : Nat) : Int)) : ZRow).2.2)) := hN'
      rw [putK_tabZ hfr] at hN'
      exact ⟨_, _, B9, l7, ob', _, rws', ps', rfl, hl7, sB7.trans s9, h9.w1, hN', Paired.mapP hR fun _ _ y => y.mono (Stay.of s9), by rw [kysJ el]; exact hF⟩
    · clear hh hN hR hF c2 nt hB5 hlb
      clear lb ob full rws ps
      rintro σ H6 ⟨t9, t10, B, lb, ob, full, rws, ps, rfl, hlb, sB, hh, hN, hR, hF⟩
      rw [List.length_map, hqs, List.take_length, ← kysZ_take er] at hF
      exact ⟨_, _, _, _, B, lb, ob, full, rws, ps, rfl, hlb, s05.trans sB, hh, hN, hR, hF⟩
  · rintro σ H4 ⟨t7, t8, t9, t10, B, lb, ob, full, rws, ps, rfl, hlb, sB, hh, hN, hR, hF⟩
    rw [List.length_map, hpl, List.take_length] at hF
    have hps : ps.length ≤ 20000 := by
      have h1 := paired_len hR
      have h2 := hF.sb.length_le
      have h3 := congrArg List.length hF.ke
      have h4 := kysZ_len (m := m) hpw
      rw [List.length_map] at h3
      omega
    obtain ⟨g1, h5⟩ := hh.rot.give
    obtain ⟨g2, h6⟩ := h5.give
    have eT : upd (upd B dT ob) dR (.lst (ps.map V.ref)) dT = some ob := g2 _ _ upd_same
    have eR : upd (upd B dT ob) dR (.lst (ps.map V.ref)) dR = some (.lst (ps.map V.ref)) := upd_same
    have s02 := (sB.trans g1).trans g2
    replace hN := hN.mono (Stay.of (g1.trans g2))
    replace hR : Paired (ZrAt K _) ps rws := Paired.mapP hR fun _ _ y => y.mono (Stay.of (g1.trans g2))
    generalize upd (upd B dT ob) dR (.lst (ps.map V.ref)) = B6 at *
    refine ⟨_, rfl, _, rfl, dR, _, rfl, .inl (SqL.of (h6.sub _ _ eR)), _, _, rfl, rfl, g, (ps.map V.ref).length + 1, rfl, h6.bag hlb, by omega, by rw [List.length_map]; omega, fun k H7 hk d7 => ?_⟩
    obtain ⟨l7, B7, hl7, s7, h7, _⟩ := h6.dr0 d7
    have hk2 : k ≤ (ps.map V.ref).length := by omega
    simp only [List.set_cons_succ, List.set_cons_zero]
    refine ⟨_, rfl, _, rfl, _, rfl, dR, _, rfl, SqL.of (h7.sub _ _ (s7 _ _ eR)), fun D8 hD8 => ?_⟩
    dsimp only [tNoPart]
    rw [cut_drop hk2, ← List.map_drop]
    have h8 := h7.tup (o := .lst ((ps.drop k).map V.ref)) hD8
    have s8 : Same B7 (upd B7 D8 (.lst ((ps.drop k).map V.ref))) := up_same (h7.sub.free hD8)
    have e8 : upd B7 D8 (.lst ((ps.drop k).map V.ref)) D8 = some (.lst ((ps.drop k).map V.ref)) := upd_same
    generalize upd B7 D8 (.lst ((ps.drop k).map V.ref)) = B8 at *
    refine ⟨_, rfl, _, rfl, _, rfl, dR, _, rfl, SqL.of (h8.sub _ _ (s8 _ _ (s7 _ _ eR))), fun D9 hD9 => ?_⟩
    dsimp only [tNoPart]
    rw [cut_take hk2, ← List.map_take]
    have h9 := h8.tup (o := .lst ((ps.take k).map V.ref)) hD9
    have s9 : Same B8 (upd B8 D9 (.lst ((ps.take k).map V.ref))) := up_same (h8.sub.free hD9)
    have e9 : upd B8 D9 (.lst ((ps.take k).map V.ref)) D9 = some (.lst ((ps.take k).map V.ref)) := upd_same
    generalize upd B8 D9 (.lst ((ps.take k).map V.ref)) = B9 at *
    refine ⟨D8, D9, _, _, rfl, rfl, h9.sub _ _ (s9 _ _ e8), h9.sub _ _ e9, by rw [List.length_map, List.length_map, List.length_take, List.length_drop, sizeLine_eq]; omega, fun D10 hD10 => ?_⟩
    rw [← List.map_append]
    have h10 := h9.tup (o := .lst ((ps.drop k ++ ps.take k).map V.ref)) hD10
    have s10 : Same B9 (upd B9 D10 (.lst ((ps.drop k ++ ps.take k).map V.ref))) := up_same (h9.sub.free hD10)
    have e10 : upd B9 D10 (.lst ((ps.drop k ++ ps.take k).map V.ref)) D10 = some (.lst ((ps.drop k ++ ps.take k).map V.ref)) := upd_same
    generalize upd B9 D10 (.lst ((ps.drop k ++ ps.take k).map V.ref)) = B10 at *
    have s610 := ((s7.trans s8).trans s9).trans s10
    simp only [List.set_cons_succ, List.set_cons_zero]
    refine ⟨_, rfl, _, rfl, D10, _, rfl, .inl ⟨SqL.of (h10.sub _ _ e10), fun tr htr => ?_⟩⟩
    have h11 := h10.tup (o := .tup ((ps.drop k ++ ps.take k).map V.ref)) htr
    have s11 : Same B10 (upd B10 tr (.tup ((ps.drop k ++ ps.take k).map V.ref))) := up_same (h10.sub.free htr)
    have e11 : SqT K (upd B10 tr (.tup ((ps.drop k ++ ps.take k).map V.ref))) tr ((ps.drop k ++ ps.take k).map V.ref) := SqT.of upd_same
    generalize upd B10 tr (.tup ((ps.drop k ++ ps.take k).map V.ref)) = B11 at *
    replace s610 := s610.trans s11
    refine ⟨_, rfl, _, rfl, _, rfl, g, m, rfl, h11.bag hl7, by omega, fun tm mks H12 hmk d12 hTm => ?_⟩
    obtain ⟨l12, B12, hl12, s12, h12, hB12⟩ := h11.dr0 d12
    have hTm2 : SqT K B12 tm (vI mks) := by rw [hB12]; exact sqt_cutL h12 allL1 (Same.refl _) hTm
    refine ⟨_, rfl, (by show 5 ≤ sizeLine; decide), fun z hz => ?_⟩
    have su := up_same (o := .lst [.int (m : Nat), .ref tr, .int (rest : Nat), .ref tm, .ref dT]) hz
    have sall := h12.sub.trans su
    have s612 := s610.trans s12
    have dr0 : Dr g H H12 := h12.isDr hl12 List.mem_cons_self (by rw [hB0]; exact s02.trans s612)
    have dr := Dr.same dr0 su
    have pm : (rws.drop k ++ rws.take k).Perm rws := by
      have : (rws.drop k ++ rws.take k).Perm (rws.take k ++ rws.drop k) := List.perm_append_comm
      rw [List.take_append_drop] at this
      exact this
    have hz0 : H z = none := dr0.free0 hz
    refine hq z ⟨(m : Nat), rws.drop k ++ rws.take k, mks, (rest : Nat)⟩ full m _ (hF.drOk ok pm hm1 (by omega) hpw hmk hrI) dr ?_ hz0 hm3
    have sAll := s612.trans sall
    exact ⟨tr, tm, dT, ob, ps.drop k ++ ps.take k, [], upd_same, Same.sqt (s12.trans sall) e11, paired_app (Paired.mapP (paired_drop k hR) fun _ _ y => y.mono (Stay.of sAll)) (Paired.mapP (paired_take k hR) fun _ _ y => y.mono (Stay.of sAll)), Same.sqt sall hTm2, sAll _ _ eT, hN.mono (Stay.of sAll)⟩
end
end Sy
/-! rows_with, Bed.rank, full_table, _spelled -/
namespace Sy
open PySem PySem.Spec PyProof.Rows L2
theorem twP_l {n len p : Nat} (hp : p < len) (hc : (n + 1) ^ len ≤ 2000) : (twP n len p).length ≤ 2000 := by
  unfold twP
  rw [flat_len_c (c := (tupZ (n + 1) (len - p - 1)).length) fun x _ => List.length_map ..]
  exact twP_len hp hc
theorem flat_le {α β : Type} {f : α → List β} {c : Nat} : ∀ {l : List α}, (∀ x ∈ l, (f x).length ≤ c) → (l.flatMap f).length ≤ l.length * c
  | [], _ => by simp
  | x :: l, h => by
    have h1 := h x List.mem_cons_self
    have h2 := flat_le (f := f) (c := c) (l := l) fun y hy => h y (List.mem_cons_of_mem _ hy)
    rw [List.flatMap_cons, List.length_append, List.length_cons, Nat.succ_mul]
    omega
theorem tw_len {n len : Nat} (hc : (n + 1) ^ len ≤ 2000) : (twZ n len).length ≤ 2000 * len := by
  unfold twZ
  have := flat_le (f := twP n len) (c := 2000) (l := List.range len) fun p hp => twP_l (List.mem_range.mp hp) hc
  rw [List.length_range] at this
  omega
def rwZ (n : Nat) (rows : List Sy.Row) : List (Str × List Int) := rows.flatMap fun r => (twZ n r.2).map fun l => (r.1, l)
/-- a kind and a tuple of numbers -/
def KbAt (K : PySem.W.Frag) (H : Hp) (q : Addr) (r : Str × List Int) : Prop := ∃ c, SqT K H q [.str r.1, .ref c] ∧ SqT K H c (vI r.2)
theorem KbAt.mono {K : PySem.W.Frag} {H H' : Hp} {q : Addr} {r : Str × List Int} (h : KbAt K H q r) (s : Stay H H') : KbAt K H' q r := by
  obtain ⟨c, h1, h2⟩ := h
  exact ⟨c, s.sqt h1, s.sqt h2⟩
section
variable {P : Program} {w : World} {K : PySem.W.Frag} {mg : Str → Option Value} {base : Heap}
def spRw (K : PySem.W.Frag) : Sp := fun vs H Q _ => ∃ (b : Addr) (n : Nat) (rows : List Sy.Row), vs = [.ref b, .int (n : Nat)] ∧ BedAt K H b rows ∧ RowsOk rows ∧ n ≤ 900 ∧ (∀ r ∈ rows, (n + 1) ^ r.2 ≤ 2000) ∧ ∀ H' q (qs : List Addr), H q = none → Same H H' → H' q = some (.lst (qs.map V.ref)) → Paired (KbAt K H') qs (rwZ n rows) → Q (.ref q) H'
abbrev N_rw : List Str := ["bed", "newest", "found", "kind", "branches", "below"]
theorem sc_rw : FnScope N_rw ["bed", "newest"] (defScope (top 22)) := ⟨rfl, rfl, rfl, by decide +kernel, rfl, by decide +kernel, by decide +kernel⟩
theorem k_rw (T : Txt K mg) (F : DF K mg "rows_with" 22) (c_tuples_with : Cal P w K mg base 2 "tuples_with" ["newest", "length"] (spTw K)) : Cal P w K mg base 3 "rows_with" ["bed", "newest"] (spRw K) := by
  refine cal_of F.1 F.2 sc_rw (fun _ _ _ _ _ _ us e => match us, e with | [_, _], _ => rfl) (fun vs H Q E s => by obtain ⟨_, _, _, rfl, _⟩ := s; rfl) ?_
  intro cdv A outer s H vs Q E hr h
  obtain ⟨b, n, rows, rfl, hb, ok, hn, hc, hq⟩ := h
  have sc := sc_rw
  have ule := ok.le
  obtain ⟨dx, dA, tR, tK, dR, pp, b1, b2, b3, b4, b5, b6⟩ := id hb.ex
  have hppl := paired_len b6
  refine ⟨_, (pss_cons (ps_set (i := 2) sc.nd rfl (Or.inl rfl) (pe_lst pa_nil))
      (pss_cons (ps_for (passes_of rfl) rfl (pi_tup (pe_fld (pv 0) rfl)) (pg_tup rfl (pgs_cons (pg_name (i := 3) sc.nd rfl (Or.inl rfl)) (pgs_cons (pg_name (i := 4) sc.nd rfl (Or.inl rfl)) pgs_nil)))
        (pss_one (ps_for (passes_of rfl) rfl (pi_list (pe_cal c_tuples_with hr (pa_cons (pv 1) (pa_cons (pv 4) pa_nil)))) (pg_name (i := 5) sc.nd rfl (Or.inl rfl))
          (pss_one (ps_expr (pe_bm PySem.F.plainAttrs_list PySem.F.slot_list_append PySem.F.type_list_append mt_append (pv 2) (pa_cons (pe_tup (pa_cons (pv 3) (pa_cons (pv 5) pa_nil))) pa_nil)))))))
      (pss_one (ps_ret (pv 2))))), ?_⟩
  refine ⟨by decide, fun D hD => ?_⟩
  have k1 := (Hs.start H).new (o := .lst []) hD
  simp only [List.set_cons_succ, List.set_cons_zero]
  refine ⟨_, rfl, b, _, dx, _, _, rfl, k1.sub _ _ b1, T.bed.cl, T.bed.nR, rfl, tR, rfl, ⟨_, Same.sqt k1.sub b4⟩, for_tup (K := K) (a := tR) (xs := pp.map V.ref) (fun i σ H' => ∃ (t3 t4 t5 : Option V) (B : Hp) (qs : List Addr), σ = [some (.ref b), some (.int (n : Nat)), some (.ref D), t3, t4, t5] ∧ Same H B ∧ Hs B [(D, .lst (qs.map V.ref))] H' ∧ Paired (KbAt K B) qs (rwZ n (rows.take i)) ∧ qs.length ≤ 6000 * i)
    ⟨none, none, none, H, [], rfl, Same.refl _, k1, .nil, Nat.le_refl _⟩ (fun _ _ _ _ ⟨_, _, _, _, _, _, sB, hh, _⟩ => Same.sqt (sB.trans hh.sub) b4) ?_ ?_⟩
  · rintro i v σ H1 hv ⟨t3, t4, t5, B, qs, rfl, sB, hh, hP, hql⟩
    obtain ⟨y, ey, rfl⟩ := map_at hv
    have hi : i < rows.length := by rw [← hppl]; exact (List.getElem?_eq_some_iff.mp ey).1
    obtain ⟨r, er⟩ : ∃ r, rows[i]? = some r := ⟨_, List.getElem?_eq_getElem hi⟩
    obtain ⟨y', ey', ty⟩ := paired_at b6 er
    rw [ey] at ey'
    cases ey'
    have hrm := List.mem_of_getElem? er
    have hbr := ok.br r hrm
    have hpr := hc r hrm
    have htl := tw_len hpr
    refine ⟨y, _, rfl, Same.sqt (sB.trans hh.sub) ty, rfl, _, _, rfl, _, _, rfl, rfl, ?_⟩
    simp only [List.set_cons_succ, List.set_cons_zero]
    refine ⟨_, rfl, _, rfl, n, r.2, rfl, hn, by omega, hpr, fun H2 zq zs hzq s2 hL2 hP2 => ?_⟩
    have eL := (hh.out_new hzq)
    obtain ⟨c1, c2⟩ := hh.after s2
    have st2 := stay_cut hh allL1 s2
    have hL2' : cut [(D, HO.lst (qs.map V.ref))] H2 zq = some (.lst (zs.map V.ref)) := by rw [cut_at eL]; exact hL2
    have hP2 : Paired (TpZ K (cut [(D, HO.lst (qs.map V.ref))] H2)) zs (twZ n r.2) := Paired.mapP hP2 fun _ _ u => st2.sqt u
    generalize cut [(D, HO.lst (qs.map V.ref))] H2 = B2 at *
    have hzl := paired_len hP2
    have s02 := sB.trans c1
    refine ⟨zq, rfl, ⟨_, SqL.of (c2.sub _ _ hL2')⟩, for_list (K := K) (xs := zs.map V.ref) (fun j σ H' => ∃ (t5 : Option V) (B3 : Hp) (qs3 : List Addr), σ = [some (.ref b), some (.int (n : Nat)), some (.ref D), some (.str r.1), some (.int (r.2 : Nat)), t5] ∧ Same B2 B3 ∧ Hs B3 [(D, .lst (qs3.map V.ref))] H' ∧
        Paired (KbAt K B3) qs3 (rwZ n (rows.take i) ++ ((twZ n r.2).take j).map fun l => (r.1, l)) ∧ qs3.length ≤ 6000 * i + j)
      ⟨t5, B2, qs, rfl, Same.refl _, c2, by rw [List.take_zero, List.map_nil, List.append_nil]; exact Paired.mapP hP fun _ _ u => u.mono (Stay.of c1), by omega⟩ (fun _ _ _ _ ⟨_, _, _, _, s3, h3, _⟩ => SqL.of (h3.sub _ _ (s3 _ _ hL2'))) ?_ ?_⟩
    · rintro j v σ H3 hv ⟨t5, B3, qs3, rfl, s3, h3, hP3, hq3⟩
      obtain ⟨z, ez, rfl⟩ := map_at hv
      have hj : j < (twZ n r.2).length := by rw [← hzl]; exact (List.getElem?_eq_some_iff.mp ez).1
      obtain ⟨l, el⟩ : ∃ l, (twZ n r.2)[j]? = some l := ⟨_, List.getElem?_eq_getElem hj⟩
      obtain ⟨z', ez', tz⟩ := paired_at hP2 el
      rw [ez] at ez'
      cases ez'
      have tz : SqT K B2 z (vI l) := tz
      simp only [List.set_cons_succ, List.set_cons_zero]
      refine ⟨_, rfl, .inl ⟨rfl, _, SqL.of h3.r0⟩, _, rfl, _, rfl, (by show 2 ≤ sizeLine; decide), fun T6 hT6 => ?_⟩
      have h6 := h3.tup (o := .tup [.str r.1, .ref z]) hT6
      have s6 : Same B3 (upd B3 T6 (.tup [.str r.1, .ref z])) := up_same (h3.sub.free hT6)
      refine ⟨D, _, _, rfl, rfl, h6.r0, by rw [List.length_map, sizeLine_eq]; omega, _, _, qs3 ++ [T6], rfl, s3.trans s6, by rw [List.map_append]; exact h6.w0, ?_, by rw [List.length_append]; show _ + 1 ≤ _; omega⟩
      rw [List.take_succ, el, List.map_append, ← List.append_assoc]
      exact Paired.snoc (Paired.mapP hP3 fun _ _ u => u.mono (Stay.of s6)) ⟨z, SqT.of upd_same, Same.sqt (s3.trans s6) tz⟩
    · rintro σ H3 ⟨t5, B3, qs3, rfl, s3, h3, hP3, hq3⟩
      rw [List.length_map, hzl, List.take_length] at hP3
      rw [List.length_map, hzl] at hq3
      refine ⟨_, _, _, B3, qs3, rfl, s02.trans s3, h3, ?_, by omega⟩
      rw [List.take_succ, er]
      unfold rwZ
      rw [List.flatMap_append]
      show Paired _ _ (_ ++ [r].flatMap _)
      rw [List.flatMap_cons, List.flatMap_nil, List.append_nil]
      exact hP3
  · rintro σ H1 ⟨t3, t4, t5, B, qs, rfl, sB, hh, hP, hql⟩
    rw [List.length_map, hppl, List.take_length] at hP
    exact ⟨_, rfl, hq H1 D qs hD (sB.trans hh.sub) hh.r0 (Paired.mapP hP fun _ _ u => u.mono (Stay.of hh.sub))⟩
/-! Bed.rank -/
def spRank (K : PySem.W.Frag) : Sp := fun vs H Q _ => ∃ (a : Addr) (rows : List Sy.Row) (x : Str) (n : Nat), vs = [.ref a, .str x] ∧ BedAt K H a rows ∧ rk 0 rows x = some n ∧ Q (.int (n : Nat)) H
theorem sc_rank : FnScope ["self", "kind"] ["self", "kind"] (defScope (clb 39 5)) := ⟨rfl, rfl, rfl, by decide +kernel, rfl, by decide +kernel, by decide +kernel⟩
theorem k_rank (T : Txt K mg) (F : MB K "rank" "Bed.rank" (clb 39 5)) : CalM P w K mg base 1 "rank" ["self", "kind"] (spRank K) := by
  refine calM_of F sc_rank (fun _ _ _ _ _ _ us e => match us, e with | [_, _], _ => rfl) (fun vs H Q E s => by obtain ⟨_, _, _, _, rfl, _⟩ := s; rfl) ?_
  intro cdv A outer s H vs Q E hr h
  obtain ⟨a, rows, x, n, rfl, hb, e, hq⟩ := h
  have hu := hu_of hr
  obtain ⟨dx, dA, tR, tK, dR, ps, h1, hd, h3, h4, h5, h6⟩ := hb.ex
  refine ⟨_, (pss_cons (ps_if (pt_cmp (pc_dnotin hu (pv 1) (pe_fld (pv 0) rfl)))
        (pss_one ps_never)
        pss_nil)
      (pss_one (ps_ret (pe_dget hu (pe_fld (pv 0) rfl) (pv 1) (fun _ _ => rfl))))), ?_⟩
  have hv : valV (rkKV 0 rows) (Sum.inr x : Key) = some (.int (n : Nat)) := by rw [valV_rk, e]; rfl
  refine ⟨_, rfl, _, rfl, a, _, dx, _, _, rfl, h1, T.bed.cl, T.bed.nRk, rfl, dR, _, rfl, DGet.k (k := Sum.inr x) h3, _, rfl, ?_⟩
  rw [hv]
  refine iteF ⟨_, rfl, a, _, dx, _, _, rfl, h1, T.bed.cl, T.bed.nRk, rfl, _, rfl, dR, .int (n : Nat), rfl, ?_, hq⟩
  rw [← hv]
  exact DGet.k (k := Sum.inr x) h3
/-! full_table -/
/-- a whole table of steps at t -/
def TabAt (P : Program) (w : World) (K : PySem.W.Frag) (H : Hp) (t : Addr) (rows : List Sy.Row) (m : Nat) (d : RdrZ) : Prop := ∃ (ob : HO) (kvs : List (NKey × V)), H t = some ob ∧ NOf P w K H t ob kvs ∧ ∀ (x : Str) (l : List Int), isK rows x = true → l.length = ar rows x → (∀ n ∈ l, inS (m : Nat) n = true) → valV kvs (zkey (x, l)) = some (.int (stepZ d x l))
theorem TabAt.same {H H' : Hp} {t : Addr} {rows : List Sy.Row} {m : Nat} {d : RdrZ} (h : TabAt P w K H t rows m d) (s : Same H H') : TabAt P w K H' t rows m d := by
  obtain ⟨ob, kvs, h1, h2, h3⟩ := h
  exact ⟨ob, kvs, s _ _ h1, h2.mono (Stay.of s), h3⟩
theorem zkey_inj {x y : Str} {l k : List Int} (h : zkey (x, l) = zkey (y, k)) : x = y ∧ l = k := by
  unfold zkey at h
  have h1 := congrArg Prod.fst h
  have h2 := congrArg Prod.snd h
  exact ⟨Sum.inr.inj h1, iZ_inj h2⟩
def spFt (P : Program) (w : World) (K : PySem.W.Frag) : Sp := fun vs H Q _ => ∃ (a b : Addr) (rows : List Sy.Row) (d : RdrZ) (m : Nat), vs = [.ref a] ∧ RdzAt P w K H a b rows d ∧ RowsOk rows ∧ d.many = (m : Nat) ∧ 1 ≤ m ∧ m ≤ 1000 ∧ (∀ r ∈ rows, m ^ r.2 ≤ 2000) ∧
  ∀ H' t, Same H H' → TabAt P w K H' t rows m d → Q (.ref t) H'
abbrev N_ft : List Str := ["reader", "found", "kind", "below", "state"]
theorem sc_ft : FnScope N_ft ["reader"] (defScope (top 28)) := ⟨rfl, rfl, rfl, by decide +kernel, rfl, by decide +kernel, by decide +kernel⟩
theorem tabF_le {rows : List Sy.Row} {m : Nat} {d : RdrZ} (ok : RowsOk rows) (hp : ∀ r ∈ rows, m ^ r.2 ≤ 2000) : (tabF rows m d).length ≤ 16000 := by
  unfold tabF
  have := flat_le (f := fun r : Sy.Row => (tupZ m r.2).map fun l => (r.1, l, stepZ d r.1 l)) (c := 2000) (l := rows) fun r hr => by
    rw [List.length_map, tupZ_len]
    exact hp r hr
  have := ok.le
  omega
theorem tabF_mem {rows : List Sy.Row} {m : Nat} {d : RdrZ} {x : Str} {l : List Int} (hk : isK rows x = true) (hl : l.length = ar rows x) (hn : ∀ n ∈ l, inS (m : Nat) n = true) : (x, l, stepZ d x l) ∈ tabF rows m d := by
  have hm : (x, ar rows x) ∈ rows := by
    unfold isK at hk
    obtain ⟨n, en⟩ := Option.isSome_iff_exists.mp hk
    have e2 : ar rows x = n := by unfold ar; rw [en]; rfl
    rw [e2]
    clear hl hn hk e2
    induction rows with
    | nil => cases en
    | cons r rs ih =>
      rw [lookup_cons] at en
      by_cases c : r.1 = x
      · rw [if_pos c] at en
        have : r.2 = n := Option.some.inj en
        rw [← c, ← this]
        exact List.mem_cons_self
      · rw [if_neg c] at en
        exact List.mem_cons_of_mem _ (ih en)
  unfold tabF
  exact List.mem_flatMap.mpr ⟨_, hm, List.mem_map.mpr ⟨l, tupZ_mem.mpr ⟨hl, hn⟩, rfl⟩⟩
theorem k_ft (T : Txt K mg) (TR : TxtR K mg) (F : DF K mg "full_table" 28) (cc_table : CalC P w K mg base 2 "Reader" "table" ["self"] (spTab P w K)) : Cal P w K mg base 4 "full_table" ["reader"] (spFt P w K) := by
  refine cal_of F.1 F.2 sc_ft (fun _ _ _ _ _ _ us e => match us, e with | [_], _ => rfl) (fun vs H Q E s => by obtain ⟨_, _, _, _, _, rfl, _⟩ := s; rfl) ?_
  intro cdv A outer s H vs Q E hr h
  obtain ⟨a, b, rows, d, m, rfl, hR, ok, edm, hm1, hm, hpw, hq⟩ := h
  have hu := hu4_of hr
  have sc := sc_ft
  obtain ⟨mT, fdT, FT, BT⟩ := cc_table
  obtain ⟨dx, tM, dE, ob, h1, h2, h3, h4, h5⟩ := hR.ex
  refine ⟨_, (pss_cons (ps_set (i := 1) sc.nd rfl (Or.inl rfl) pe_nnew)
      (pss_cons (ps_for (passes_of rfl) rfl (pi_tup (pe_meth0 (pv 0) TR.cl mT FT (hr.mono (by decide)) BT .nil (E := E0) (fun pins σ H s e s' I h => passL pins σ H s e s' I h))) (pg_tup rfl (pgs_cons (pg_name (i := 2) sc.nd rfl (Or.inl rfl)) (pgs_cons (pg_name (i := 3) sc.nd rfl (Or.inl rfl)) (pgs_cons (pg_name (i := 4) sc.nd rfl (Or.inl rfl)) pgs_nil))))
        (pss_one (ps_nput hu (pv 1) (pe_tup (pa_cons (pv 2) (pa_cons (pv 3) pa_nil))) (pv 4) rfl)))
      (pss_one (ps_ret (pv 1))))), ?_⟩
  refine fun D ob0 hD hN0 => ?_
  have k1 := (Hs.start H).new (o := ob0) hD
  simp only [List.set_cons_succ, List.set_cons_zero]
  refine ⟨_, rfl, a, dx, _, rfl, k1.sub _ _ h1, rfl, a, b, rows, d, m, rfl, hR.mono (Stay.of k1.sub), ok, edm, hm1, hm, hpw, fun H2 t ps s2 ht hP2 => ?_⟩
  obtain ⟨φ, eφ⟩ := hN0.ext
  subst eφ
  obtain ⟨c1, c2⟩ := k1.after s2
  have nt : ∀ q ∈ [(D, HO.ext φ)], (∀ xs, q.2 ≠ .tup xs) ∧ ∀ o u, q.2 ≠ .frz o u := fun q hq => by
    rw [List.mem_singleton.mp hq]
    refine ⟨fun xs z => ?_, fun o u z => ?_⟩
    · cases z
    · cases z
  have ht : SqT K (cut [(D, HO.ext φ)] H2) t (ps.map V.ref) := sqt_cut c2.own nt ht
  have hP2 : Paired (ZrAt K (cut [(D, HO.ext φ)] H2)) ps (tabF rows m d) := Paired.mapP hP2 fun _ _ u => by
    obtain ⟨c, u1, u2⟩ := u
    exact ⟨c, sqt_cut c2.own nt u1, sqt_cut c2.own nt u2⟩
  generalize cut [(D, HO.ext φ)] H2 = B2 at *
  have hpl := paired_len hP2
  have htl := tabF_le (d := d) ok hpw
  have hN0 := hN0.nil.mono (Stay.of c1)
  refine ⟨t, rfl, ⟨_, Same.sqt c2.sub ht⟩, for_tup (K := K) (a := t) (xs := ps.map V.ref) (fun i σ H' => ∃ (t2 t3 t4 : Option V) (B : Hp) (ob : HO) (kvs : List (NKey × V)), σ = [some (.ref a), some (.ref D), t2, t3, t4] ∧ Same B2 B ∧ Hs B [(D, ob)] H' ∧ NOf P w K B D ob kvs ∧ kvs.length ≤ i ∧
      ∀ x l, (x, l, stepZ d x l) ∈ (tabF rows m d).take i → valV kvs (zkey (x, l)) = some (.int (stepZ d x l)))
    ⟨none, none, none, B2, _, [], rfl, Same.refl _, c2, hN0, Nat.le_refl _, fun x l hm => nomatch hm⟩ (fun _ _ _ _ ⟨_, _, _, _, _, _, _, sB, hh, _⟩ => Same.sqt (sB.trans hh.sub) ht) ?_ ?_⟩
  · rintro i v σ H3 hv ⟨t2, t3, t4, B, ob, kvs, rfl, sB, hh, hN, hkl, hkv⟩
    obtain ⟨y, ey, rfl⟩ := map_at hv
    have hi : i < (tabF rows m d).length := by rw [← hpl]; exact (List.getElem?_eq_some_iff.mp ey).1
    obtain ⟨r, er⟩ : ∃ r, (tabF rows m d)[i]? = some r := ⟨_, List.getElem?_eq_getElem hi⟩
    obtain ⟨y', ey', ty⟩ := paired_at hP2 er
    rw [ey] at ey'
    cases ey'
    obtain ⟨cc, ty1, ty2⟩ := ty
    have sH := sB.trans hh.sub
    have erz : r.2.2 = stepZ d r.1 r.2.1 := by
      obtain ⟨r0, _, hm⟩ := List.mem_flatMap.mp (List.mem_of_getElem? er)
      obtain ⟨l, _, rfl⟩ := List.mem_map.mp hm
      rfl
    refine ⟨y, _, rfl, Same.sqt sH ty1, rfl, _, _, rfl, _, _, rfl, _, _, rfl, rfl, ?_⟩
    simp only [List.set_cons_succ, List.set_cons_zero]
    refine ⟨_, rfl, _, rfl, _, rfl, _, rfl, (by show 2 ≤ sizeLine; decide), fun T5 hT5 => ?_⟩
    have h6 := hh.tup (o := .tup [.str r.1, .ref cc]) hT5
    have s6 : Same B (upd B T5 (.tup [.str r.1, .ref cc])) := up_same (hh.sub.free hT5)
    refine ⟨D, T5, ob, kvs, zkey (r.1, r.2.1), _, rfl, rfl, h6.r0, Stay.of h6.sub, hN.mono (Stay.of s6), NK.ofZ (SqT.of upd_same) (Same.sqt (sB.trans s6) ty2), by rw [sizeLine_eq]; omega, fun ob' hN' => ?_⟩
    refine ⟨_, _, _, _, ob', _, rfl, sB.trans s6, h6.w0, hN', Nat.le_trans (length_putK _ _ _) (Nat.succ_le_succ hkl), fun x l hm => ?_⟩
    rw [valV_put]
    by_cases c : zkey (x, l) = zkey (r.1, r.2.1)
    · rw [if_pos c]
      obtain ⟨e1, e2⟩ := zkey_inj c
      rw [erz, e1, e2]
    · rw [if_neg c]
      rw [List.take_succ, er] at hm
      rcases List.mem_append.mp hm with hm | hm
      · exact hkv x l hm
      · have : (x, l, stepZ d x l) = r := by simpa using hm
        exact absurd (by rw [← this]) c
  · rintro σ H3 ⟨t2, t3, t4, B, ob, kvs, rfl, sB, hh, hN, hkl, hkv⟩
    rw [List.length_map, hpl, List.take_length] at hkv
    refine ⟨_, rfl, hq H3 D ((c1.trans sB).trans hh.sub) ⟨ob, kvs, hh.r0, hN.mono (Stay.of hh.sub), fun x l hk hl hn => hkv x l (tabF_mem hk hl hn)⟩⟩
/-! _spelled -/
def spSpl (K : PySem.W.Frag) : Sp := fun vs H Q _ => ∃ (b q : Addr) (rows : List Sy.Row) (ks : List Nat), vs = [.ref b, .ref q] ∧ BedAt K H b rows ∧ SqT K H q (vI (ks.map fun n : Nat => (n : Int))) ∧ ks.length ≤ 2000 ∧ (∀ k ∈ ks, k < rows.length) ∧ ∀ H' t, Same H H' → SqT K H' t ((ks.map fun k => (rows.getD k ("", 0)).1).map V.str) → Q (.ref t) H'
abbrev N_spl : List Str := ["bed", "ranks", "rank"]
theorem sc_spl : FnScope N_spl ["bed", "ranks"] (defScope (top 31)) := ⟨rfl, rfl, rfl, by decide +kernel, rfl, by decide +kernel, by decide +kernel⟩
theorem k_spl (T : Txt K mg) (F : DF K mg "_spelled" 31) : Cal P w K mg base 1 "_spelled" ["bed", "ranks"] (spSpl K) := by
  refine cal_of F.1 F.2 sc_spl (fun _ _ _ _ _ _ us e => match us, e with | [_, _], _ => rfl) (fun vs H Q E s => by obtain ⟨_, _, _, _, rfl, _⟩ := s; rfl) ?_
  intro cdv A outer s H vs Q E hr h
  obtain ⟨b, q, rows, ks, rfl, hb, hqt, hl, hk, hq⟩ := h
  have sc := sc_spl
  obtain ⟨dx, dA, tR, tK, dR, pp, b1, b2, b3, b4, b5, b6⟩ := id hb.ex
  refine ⟨_, (pss_one (ps_ret (pe_callTy call_tuple_of (by rfl) T.tuple (by decide +kernel) (pa_cons (pe_lc (own := [("rank", 2)]) (g := gName 2) (te := tOp (rIxT K) (tFld K (tVar 0) "kinds") (tVar 2)) rfl sc.nd (pi_tup (pv 1)) (blkOk_by (N := N_spl) (sc := defScope (top 31)) (by decide +kernel)) (fun _ _ _ _ _ => (pg_name (i := 2) sc.nd rfl (Or.inl rfl))) (fun _ _ _ _ _ => pts_nil) (fun _ _ _ _ _ => (pe_ix ix_tup (pe_fld (pv 0) rfl) (pv 2) (fun _ _ => rfl)))) pa_nil)))), ?_⟩
  have hqt : SqT K H q (ks.map fun k : Nat => V.int (k : Nat)) := by rw [vI, List.map_map] at hqt; exact hqt
  refine ⟨_, rfl, q, rfl, ⟨_, hqt⟩, fun D hD => lc_filtT (K := K) (α := Nat) (a := q) (xs := ks) (f := fun k => .int (k : Nat)) (out := fun k => .str (rows.getD k ("", 0)).1) (keep := fun _ => true) (Hs.start H) hD hqt (by omega) (fun k hk' H' s R1 R2 y1 _ => ?_) fun H' hh => ?_⟩
  · simp only [tYes, if_true, wipe, List.map_cons, List.map_nil, List.set_cons_succ, List.set_cons_zero]
    have hkr := hk k hk'
    have e : rows[k]? = some (rows.getD k ("", 0)) := by rw [List.getD_eq_getElem?_getD, List.getElem?_eq_getElem hkr]; rfl
    refine ⟨_, rfl, b, _, dx, _, _, rfl, s _ _ b1, T.bed.cl, T.bed.nK, rfl, _, rfl, tK, _, (k : Nat), _, rfl, rfl, Same.sqt s b5, atI_nat (by rw [List.getElem?_map, e]; rfl), y1 rfl⟩
  · rw [List.filter_eq_self.mpr (fun _ _ => rfl)] at hh
    refine ⟨D, _, rfl, .inl ⟨SqL.of hh.r0, fun t ht => hq _ t (hh.sub.trans (up_same ht)) ?_⟩⟩
    rw [List.map_map]
    exact SqT.of upd_same
end
end Sy
/-! least plants of states: plain mathematics -/
namespace Sy
open PySem PySem.Spec PyProof.Rows PySem.W
/-- an entry: the number of knots, the ranks -/
abbrev Ent : Type := Int × List Int
def EntD (e : Ent) : PyData := .tuple [.int e.1, .tuple (e.2.map PyData.int)]
def eLt (a b : Ent) : Bool := decide (a.1 < b.1 ∨ (a.1 = b.1 ∧ a.2 < b.2))
theorem alike_ints : ∀ xs ys : List Int, alike (.tuple (xs.map PyData.int)) (.tuple (ys.map PyData.int)) = true := by
  have h : ∀ xs ys : List Int, alikeAll (xs.map PyData.int) (ys.map PyData.int) = true := by
    intro xs
    induction xs with
    | nil => intro ys; cases ys <;> simp [alikeAll]
    | cons x xs ih =>
      intro ys
      cases ys with
      | nil => simp [alikeAll]
      | cons y ys =>
        simp only [List.map_cons, alikeAll, ih ys, Bool.and_true]
        simp [alike]
  intro xs ys
  simp [alike, h]
theorem alike_ent (a b : Ent) : alike (EntD a) (EntD b) = true := by
  have h := alike_ints a.2 b.2
  unfold EntD
  simp [alike, alikeAll] at h ⊢
  exact h
theorem eqv_ints : ∀ xs ys : List Int, PyData.eqv (.tuple (xs.map PyData.int)) (.tuple (ys.map PyData.int)) = decide (xs = ys) := by
  have h : ∀ xs ys : List Int, PyData.eqvAll (xs.map PyData.int) (ys.map PyData.int) = decide (xs = ys) := by
    intro xs
    induction xs with
    | nil => intro ys; cases ys <;> simp [PyData.eqvAll]
    | cons x xs ih =>
      intro ys
      cases ys with
      | nil => simp [PyData.eqvAll]
      | cons y ys =>
        simp only [List.map_cons, PyData.eqvAll, ih ys, PyData.eqv]
        by_cases e : x = y <;> by_cases e2 : xs = ys <;> simp [e, e2]
  intro xs ys
  simp [PyData.eqv, h]
theorem lt_irr (l : List Int) : ¬ l < l := List.lt_irrefl l
theorem eLt_data (a b : Ent) : dataLt (EntD a) (EntD b) = eLt a b := by
  unfold EntD eLt
  rw [dataLt_pair (by simp [alike]) (alike_ints _ _), dataLt_int, eqv_ints, dataLt_tuple]
  have e := dataLt_ints a.2 b.2
  unfold rowLt at e
  rw [e]
  by_cases h1 : a.1 = b.1
  · by_cases h2 : a.2 = b.2
    · have := lt_irr b.2
      simp [PyData.eqv, h1, h2]
    · simp [PyData.eqv, h1, h2]
  · simp [PyData.eqv, h1]
theorem eLt_iff {a b : Ent} : eLt a b = true ↔ (a.1 < b.1 ∨ (a.1 = b.1 ∧ a.2 < b.2)) := decide_eq_true_iff
theorem nLt_iff {a b : Ent} : eLt a b = false ↔ (b.1 < a.1 ∨ (a.1 = b.1 ∧ ¬ a.2 < b.2)) := by
  unfold eLt
  rw [decide_eq_false_iff_not]
  constructor
  · intro h
    by_cases c : b.1 < a.1
    · exact .inl c
    · have : ¬ a.1 < b.1 := fun z => h (.inl z)
      have e : a.1 = b.1 := by omega
      exact .inr ⟨e, fun z => h (.inr ⟨e, z⟩)⟩
  · rintro (h | ⟨h1, h2⟩) (g | ⟨g1, g2⟩)
    · omega
    · omega
    · omega
    · exact h2 g2
theorem nLt_self (a : Ent) : eLt a a = false := nLt_iff.mpr (.inr ⟨rfl, lt_irr _⟩)
theorem nLt_trans {a b c : Ent} (h1 : eLt b a = false) (h2 : eLt c b = false) : eLt c a = false := by
  rw [nLt_iff] at h1 h2 ⊢
  rcases h1 with h1 | ⟨h1, g1⟩ <;> rcases h2 with h2 | ⟨h2, g2⟩
  · exact .inl (by omega)
  · exact .inl (by omega)
  · exact .inl (by omega)
  · refine .inr ⟨by omega, ?_⟩
    exact List.not_lt.mpr (List.le_trans (List.not_lt.mp g1) (List.not_lt.mp g2))
theorem nLt_asym {a b : Ent} (h : eLt a b = true) : eLt b a = false := by
  rw [eLt_iff] at h
  rw [nLt_iff]
  rcases h with h | ⟨h1, h2⟩
  · exact .inl h
  · exact .inr ⟨h1.symm, fun z => lt_irr _ (List.lt_trans h2 z)⟩
theorem nLt_fst {a b : Ent} (h : eLt b a = false) : a.1 ≤ b.1 := by
  rw [nLt_iff] at h
  rcases h with h | ⟨h, _⟩ <;> omega
theorem nLt_of {a b : Ent} (h : a.1 < b.1) : eLt b a = false := nLt_iff.mpr (.inl h)
/-! the dict of entries -/
abbrev EMap : Type := List (Int × Ent)
def lkE : EMap → Int → Option Ent
  | [], _ => none
  | (k, e) :: l, s => if k = s then some e else lkE l s
def gE (E : EMap) (s : Int) : Ent := (lkE E s).getD (0, [])
def kyE (E : EMap) : List Int := E.map (·.1)
def putE : EMap → Int → Ent → EMap
  | [], s, e => [(s, e)]
  | (k, x) :: l, s, e => if k = s then (k, e) :: l else (k, x) :: putE l s e
theorem lk_some {E : EMap} {s : Int} : s ∈ kyE E ↔ ∃ e, lkE E s = some e := by
  induction E with
  | nil =>
    constructor
    · intro h
      cases h
    · rintro ⟨_, h⟩
      cases h
  | cons p l ih =>
    obtain ⟨k, x⟩ := p
    unfold lkE
    show s ∈ k :: kyE l ↔ _
    rw [List.mem_cons]
    by_cases h : k = s
    · rw [if_pos h]
      constructor
      · intro _
        exact ⟨x, rfl⟩
      · intro _
        exact .inl h.symm
    · rw [if_neg h]
      constructor
      · intro z
        exact ih.mp (z.resolve_left fun y => h y.symm)
      · intro z
        exact .inr (ih.mpr z)
theorem lk_none {E : EMap} {s : Int} (h : s ∉ kyE E) : lkE E s = none := by
  cases e : lkE E s with
  | none => rfl
  | some x => exact absurd (lk_some.mpr ⟨x, e⟩) h
theorem gE_of {E : EMap} {s : Int} {e : Ent} (h : lkE E s = some e) : gE E s = e := by rw [gE, h]; rfl
theorem lk_gE {E : EMap} {s : Int} (h : s ∈ kyE E) : lkE E s = some (gE E s) := by
  obtain ⟨e, h⟩ := lk_some.mp h
  rw [gE_of h, h]
theorem lk_put {E : EMap} {s t : Int} {e : Ent} : lkE (putE E s e) t = if t = s then some e else lkE E t := by
  induction E with
  | nil =>
    show (if s = t then some e else none) = _
    by_cases h : t = s
    · rw [if_pos h, if_pos h.symm]
    · rw [if_neg h, if_neg (fun z => h z.symm)]; rfl
  | cons p l ih =>
    obtain ⟨k, x⟩ := p
    unfold putE
    by_cases h : k = s
    · rw [if_pos h]
      show (if k = t then some e else lkE l t) = if t = s then some e else if k = t then some x else lkE l t
      by_cases g : t = s
      · rw [if_pos g, if_pos (h.trans g.symm)]
      · rw [if_neg g, if_neg (fun z => g (z.symm.trans h)), if_neg (fun z => g (z.symm.trans h))]
    · rw [if_neg h]
      show (if k = t then some x else lkE (putE l s e) t) = if t = s then some e else if k = t then some x else lkE l t
      rw [ih]
      by_cases g : k = t
      · rw [if_pos g, if_pos g, if_neg (fun z => h (g.trans z))]
      · rw [if_neg g, if_neg g]
theorem ky_put {E : EMap} {s : Int} {e : Ent} : kyE (putE E s e) = if s ∈ kyE E then kyE E else kyE E ++ [s] := by
  induction E with
  | nil => rfl
  | cons p l ih =>
    obtain ⟨k, x⟩ := p
    unfold putE
    by_cases h : k = s
    · rw [if_pos h]
      show k :: kyE l = if s ∈ k :: kyE l then k :: kyE l else _
      rw [if_pos (by rw [h]; exact List.mem_cons_self)]
    · rw [if_neg h]
      show k :: kyE (putE l s e) = if s ∈ k :: kyE l then k :: kyE l else k :: kyE l ++ [s]
      rw [ih]
      by_cases g : s ∈ kyE l
      · rw [if_pos g, if_pos (List.mem_cons_of_mem _ g)]
      · rw [if_neg g, if_neg (fun z => by rcases List.mem_cons.mp z with z | z; exact h z.symm; exact g z)]
        rfl
theorem mem_put {E : EMap} {s t : Int} {e : Ent} : t ∈ kyE (putE E s e) ↔ t = s ∨ t ∈ kyE E := by
  rw [ky_put]
  by_cases g : s ∈ kyE E
  · rw [if_pos g]
    exact ⟨.inr, fun h => h.elim (fun z => by rw [z]; exact g) id⟩
  · rw [if_neg g, List.mem_append, List.mem_singleton]
    exact ⟨fun h => h.symm, fun h => h.symm⟩
theorem nd_put {E : EMap} {s : Int} {e : Ent} (h : (kyE E).Nodup) : (kyE (putE E s e)).Nodup := by
  rw [ky_put]
  by_cases g : s ∈ kyE E
  · rw [if_pos g]; exact h
  · rw [if_neg g]
    refine List.nodup_append.mpr ⟨h, by simp, fun a ha b hb z => ?_⟩
    rw [List.mem_singleton] at hb
    exact g (by rw [← hb, ← z]; exact ha)
/-! an offer -/
def sumI : List Int → Int
  | [] => 0
  | x :: l => x + sumI l
def val (g : Int → Ent) (r : Int) (b : List Int) : Ent := (1 + sumI (b.map fun x => (g x).1), if 1 + sumI (b.map fun x => (g x).1) ≤ 2000 then r :: b.flatMap (fun x => (g x).2) else [])
theorem val_congr {g g' : Int → Ent} {r : Int} {b : List Int} (h : ∀ x ∈ b, g x = g' x) : val g r b = val g' r b := by
  have e1 : (b.map fun x => (g x).1) = b.map fun x => (g' x).1 := List.map_congr_left fun x hx => by rw [h x hx]
  have e2 : b.flatMap (fun x => (g x).2) = b.flatMap fun x => (g' x).2 := by
    induction b with
    | nil => rfl
    | cons y l ih =>
      rw [List.flatMap_cons, List.flatMap_cons, h y List.mem_cons_self]
      congr 1
      refine ih (fun x hx => h x (List.mem_cons_of_mem _ hx)) ?_
      exact List.map_congr_left fun x hx => by rw [h x (List.mem_cons_of_mem _ hx)]
  unfold val
  rw [e1, e2]
def offE (E : EMap) (s r : Int) (b : List Int) : EMap :=
  match lkE E s with
  | none => putE E s (val (gE E) r b)
  | some e => if eLt (val (gE E) r b) e = true then putE E s (val (gE E) r b) else E
theorem sumI_nn {l : List Int} (h : ∀ x ∈ l, 0 ≤ x) : 0 ≤ sumI l := by
  induction l with
  | nil => exact Int.le_refl _
  | cons y l ih =>
    have := h y List.mem_cons_self
    have := ih fun x hx => h x (List.mem_cons_of_mem _ hx)
    unfold sumI
    omega
theorem sumI_ge {l : List Int} (h : ∀ x ∈ l, 0 ≤ x) {y : Int} (hy : y ∈ l) : y ≤ sumI l := by
  induction l with
  | nil => cases hy
  | cons z l ih =>
    have h1 := h z List.mem_cons_self
    have h2 := sumI_nn fun x hx => h x (List.mem_cons_of_mem _ hx)
    unfold sumI
    rcases List.mem_cons.mp hy with rfl | hy
    · omega
    · have := ih (fun x hx => h x (List.mem_cons_of_mem _ hx)) hy
      omega
theorem sumI_le {c : Int} {l : List Int} (h : ∀ x ∈ l, x ≤ c) : sumI l ≤ l.length * c := by
  induction l with
  | nil => simp [sumI]
  | cons z l ih =>
    have h1 := h z List.mem_cons_self
    have h2 := ih fun x hx => h x (List.mem_cons_of_mem _ hx)
    unfold sumI
    rw [List.length_cons, Int.natCast_add, Int.add_mul]
    omega
/-- what every entry keeps -/
def EOk (e : Ent) : Prop := 1 ≤ e.1 ∧ (e.1 ≤ 2000 → (e.2.length : Int) = e.1) ∧ (2000 < e.1 → e.2 = [])
theorem flat_len {g : Int → Ent} : ∀ {b : List Int}, (∀ x ∈ b, EOk (g x)) → sumI (b.map fun x => (g x).1) ≤ 2000 → ((b.flatMap fun x => (g x).2).length : Int) = sumI (b.map fun x => (g x).1)
  | [], _, _ => rfl
  | y :: b, h, hs => by
    have h1 := h y List.mem_cons_self
    have h2 := fun x hx => h x (List.mem_cons_of_mem y hx)
    have nn : 0 ≤ sumI (b.map fun x => (g x).1) := sumI_nn fun z hz => by
      obtain ⟨x, hx, rfl⟩ := List.mem_map.mp hz
      have := (h2 x hx).1
      omega
    rw [List.map_cons] at hs ⊢
    unfold sumI at hs ⊢
    have h3 := h1.1
    rw [List.flatMap_cons, List.length_append, Int.natCast_add, h1.2.1 (by omega), flat_len h2 (by omega)]
theorem sumE_pos {g : Int → Ent} {b : List Int} (h : ∀ x ∈ b, EOk (g x)) : 0 ≤ sumI (b.map fun x => (g x).1) := sumI_nn fun z hz => by
  obtain ⟨x, hx, rfl⟩ := List.mem_map.mp hz
  have := (h x hx).1
  omega
theorem sumE_mem {g : Int → Ent} {b : List Int} (h : ∀ x ∈ b, EOk (g x)) {y : Int} (hy : y ∈ b) : (g y).1 ≤ sumI (b.map fun x => (g x).1) := sumI_ge (fun z hz => by
  obtain ⟨x, hx, rfl⟩ := List.mem_map.mp hz
  have := (h x hx).1
  omega) (List.mem_map.mpr ⟨y, hy, rfl⟩)
theorem val_ok {g : Int → Ent} {r : Int} {b : List Int} (h : ∀ x ∈ b, EOk (g x)) : EOk (val g r b) := by
  have nn := sumE_pos h
  unfold EOk val
  refine ⟨by show 1 ≤ 1 + _; omega, fun hs => ?_, fun hs => ?_⟩
  · have hs : 1 + sumI (b.map fun x => (g x).1) ≤ 2000 := hs
    simp only [if_pos hs]
    rw [List.length_cons, Int.natCast_add, flat_len h (by omega)]
    omega
  · have hs : 2000 < 1 + sumI (b.map fun x => (g x).1) := hs
    simp only [if_neg (show ¬ 1 + sumI (b.map fun x => (g x).1) ≤ 2000 by omega)]
theorem val_gt {g : Int → Ent} {r : Int} {b : List Int} (h : ∀ x ∈ b, EOk (g x)) {y : Int} (hy : y ∈ b) : (g y).1 < (val g r b).1 := by
  have := sumE_mem h hy
  show _ < 1 + _
  omega
/-! the invariants -/
section
variable (sz : List Nat) (st : Nat → List Int → Int) (m top : Nat)
def gr : Nat → Nat
  | 0 => 0
  | n + 1 => 1 + top * gr n
structure LInv (E : EMap) (S : List Int) : Prop where
  nd : (kyE E).Nodup
  sn : S.Nodup
  sub : ∀ s ∈ S, s ∈ kyE E
  rng : ∀ s ∈ kyE E, 0 ≤ s ∧ s < (m : Nat)
  ok : ∀ s e, lkE E s = some e → EOk e
  A : ∀ s e, lkE E s = some e → ∃ (i n : Nat) (b : List Int), sz[i]? = some n ∧ b.length = n ∧ (∀ x ∈ b, x ∈ S) ∧ st i b = s ∧ e = val (gE E) (i : Nat) b
  B : ∀ (i n : Nat) (b : List Int), sz[i]? = some n → b.length = n → (∀ x ∈ b, x ∈ S) → ∃ e, lkE E (st i b) = some e ∧ eLt (val (gE E) (i : Nat) b) e = false
  M : ∀ s ∈ S, ∀ t ∈ kyE E, t ∉ S → (gE E s).1 ≤ (gE E t).1
  K : ∀ s ∈ S, (gE E s).1 ≤ (gr top S.length : Nat)
structure OInv (E0 : EMap) (S : List Int) (done : List (Nat × List Int)) (E : EMap) : Prop where
  nd : (kyE E).Nodup
  rng : ∀ s ∈ kyE E, 0 ≤ s ∧ s < (m : Nat)
  ok : ∀ s e, lkE E s = some e → EOk e
  fix : ∀ s ∈ S, lkE E s = lkE E0 s
  old : ∀ s e0, lkE E0 s = some e0 → ∃ e, lkE E s = some e ∧ eLt e0 e = false
  src : ∀ s e, lkE E s = some e → lkE E0 s = some e ∨ ∃ p ∈ done, st p.1 p.2 = s ∧ e = val (gE E0) (p.1 : Nat) p.2
  dn : ∀ p ∈ done, ∃ e, lkE E (st p.1 p.2) = some e ∧ eLt (val (gE E0) (p.1 : Nat) p.2) e = false
end
variable {sz : List Nat} {st : Nat → List Int → Int} {m top : Nat} {E0 E : EMap} {S : List Int} {done : List (Nat × List Int)}
theorem EOk.g {E : EMap} (h : ∀ s e, lkE E s = some e → EOk e) {s : Int} (hs : s ∈ kyE E) : EOk (gE E s) := h s _ (lk_gE hs)
theorem OInv.start (nd : (kyE E0).Nodup) (rng : ∀ s ∈ kyE E0, 0 ≤ s ∧ s < (m : Nat)) (ok : ∀ s e, lkE E0 s = some e → EOk e) : OInv st m E0 S [] E0 :=
  ⟨nd, rng, ok, fun _ _ => rfl, fun s e h => ⟨e, h, nLt_self e⟩, fun s e h => .inl h, fun p hp => nomatch hp⟩
theorem OInv.gS (I : OInv st m E0 S done E) {x : Int} (hx : x ∈ S) : gE E x = gE E0 x := by rw [gE, I.fix x hx]; rfl
theorem OInv.step (I : OInv st m E0 S done E) {i : Nat} {b : List Int} (hk : ∀ x ∈ S, x ∈ kyE E0) (hb : ∀ x ∈ b, x ∈ S) (hst : 0 ≤ st i b ∧ st i b < (m : Nat)) (hS : st i b ∈ S → (gE E0 (st i b)).1 < (val (gE E0) (i : Nat) b).1) :
    OInv st m E0 S (done ++ [(i, b)]) (offE E (st i b) (i : Nat) b) := by
  have hv : val (gE E) (i : Nat) b = val (gE E0) (i : Nat) b := val_congr fun x hx => I.gS (hb x hx)
  have kS : ∀ x ∈ S, x ∈ kyE E := fun x hx => by
    obtain ⟨e, he⟩ := lk_some.mp (hk x hx)
    exact lk_some.mpr ⟨e, by rw [I.fix x hx, he]⟩
  have ov : EOk (val (gE E) (i : Nat) b) := val_ok fun x hx => EOk.g I.ok (kS x (hb x hx))
  have put : (∀ e, lkE E (st i b) = some e → eLt (val (gE E) (i : Nat) b) e = true) → OInv st m E0 S (done ++ [(i, b)]) (putE E (st i b) (val (gE E) (i : Nat) b)) := by
    intro hlt
    have nS : st i b ∉ S := fun z => by
      have h1 := hS z
      rw [← hv] at h1
      have h2 := hlt _ (lk_gE (kS _ z))
      rw [I.gS z] at h2
      rw [nLt_of h1] at h2
      cases h2
    refine ⟨nd_put I.nd, fun s hs => ?_, fun s e he => ?_, fun s hs => ?_, fun s e0 h0 => ?_, fun s e he => ?_, fun p hp => ?_⟩
    · rcases mem_put.mp hs with rfl | hs
      · exact hst
      · exact I.rng s hs
    · rw [lk_put] at he
      by_cases c : s = st i b
      · rw [if_pos c] at he
        cases he
        exact ov
      · rw [if_neg c] at he
        exact I.ok s e he
    · rw [lk_put, if_neg (fun z => nS (by rw [← z]; exact hs))]
      exact I.fix s hs
    · obtain ⟨e, h1, h2⟩ := I.old s e0 h0
      rw [lk_put]
      by_cases c : s = st i b
      · rw [if_pos c]
        subst c
        exact ⟨_, rfl, nLt_trans (nLt_asym (hlt e h1)) h2⟩
      · rw [if_neg c]
        exact ⟨e, h1, h2⟩
    · rw [lk_put] at he
      by_cases c : s = st i b
      · rw [if_pos c] at he
        cases he
        exact .inr ⟨(i, b), by simp, c.symm, hv⟩
      · rw [if_neg c] at he
        rcases I.src s e he with h | ⟨p, hp, h⟩
        · exact .inl h
        · exact .inr ⟨p, List.mem_append_left _ hp, h⟩
    · rw [lk_put]
      by_cases c : st p.1 p.2 = st i b
      · rw [if_pos c]
        refine ⟨_, rfl, ?_⟩
        rcases List.mem_append.mp hp with hp | hp
        · obtain ⟨e, h1, h2⟩ := I.dn p hp
          rw [c] at h1
          exact nLt_trans (nLt_asym (hlt e h1)) h2
        · rw [List.mem_singleton.mp hp, ← hv]
          exact nLt_self _
      · rw [if_neg c]
        rcases List.mem_append.mp hp with hp | hp
        · exact I.dn p hp
        · rw [List.mem_singleton.mp hp] at c
          exact absurd rfl c
  unfold offE
  cases hl : lkE E (st i b) with
  | none => exact put fun e he => by rw [hl] at he; cases he
  | some e =>
    simp only
    by_cases c : eLt (val (gE E) (i : Nat) b) e = true
    · rw [if_pos c]
      exact put fun e' he => by rw [hl] at he; cases he; exact c
    · rw [if_neg c]
      refine ⟨I.nd, I.rng, I.ok, I.fix, I.old, fun s e' he => ?_, fun p hp => ?_⟩
      · rcases I.src s e' he with h | ⟨p, hp, h⟩
        · exact .inl h
        · exact .inr ⟨p, List.mem_append_left _ hp, h⟩
      · rcases List.mem_append.mp hp with hp | hp
        · exact I.dn p hp
        · rw [List.mem_singleton.mp hp]
          exact ⟨e, hl, by rw [← hv]; simpa using c⟩
/-- behind the leaves -/
theorem OInv.leaves (I : OInv st m [] [] done E) (hd : ∀ p ∈ done, sz[p.1]? = some 0 ∧ p.2 = []) (hall : ∀ i, sz[i]? = some 0 → (i, []) ∈ done) : LInv sz st m top E [] := by
  refine ⟨I.nd, List.nodup_nil, fun _ h => (nomatch h), I.rng, I.ok, fun s e he => ?_, fun i n b hi hb hs => ?_, fun _ h => (nomatch h), fun _ h => (nomatch h)⟩
  · rcases I.src s e he with h | ⟨p, hp, h1, h2⟩
    · cases h
    · obtain ⟨g1, g2⟩ := hd p hp
      obtain ⟨i, b⟩ := p
      simp only at g1 g2 h1 h2
      subst g2
      exact ⟨i, 0, [], g1, rfl, fun _ h => (nomatch h), h1, h2.trans (val_congr fun _ h => (nomatch h))⟩
  · have : b = [] := List.eq_nil_iff_forall_not_mem.mpr fun x hx => nomatch hs x hx
    subst this
    have : n = 0 := hb.symm
    subst this
    obtain ⟨e, h1, h2⟩ := I.dn _ (hall i hi)
    exact ⟨e, h1, by rw [val_congr (g' := gE []) (fun x hx => absurd hx (by simp))]; exact h2⟩
theorem gr_mono (n : Nat) : gr top n ≤ gr top (n + 1) := by
  induction n with
  | zero => exact Nat.zero_le _
  | succ n ih =>
    show 1 + top * gr top n ≤ 1 + top * gr top (n + 1)
    have := Nat.mul_le_mul_left top ih
    omega
theorem LInv.bound (I : LInv sz st m top E S) (ht : ∀ n ∈ sz, n ≤ top) {s : Int} {e : Ent} (h : lkE E s = some e) : e.1 ≤ (gr top (S.length + 1) : Nat) := by
  obtain ⟨i, n, b, h1, h2, h3, h4, rfl⟩ := I.A s e h
  have hle := sumI_le (c := (gr top S.length : Nat)) (l := b.map fun x => (gE E x).1) fun z hz => by
    obtain ⟨x, hx, rfl⟩ := List.mem_map.mp hz
    exact I.K x (h3 x hx)
  rw [List.length_map, h2] at hle
  have := ht n (List.mem_of_getElem? h1)
  have h5 := Nat.mul_le_mul_right (gr top S.length) this
  show 1 + sumI _ ≤ ((1 + top * gr top S.length : Nat) : Int)
  rw [← Int.natCast_mul] at hle
  omega
/-- one state more is settled -/
theorem LInv.next (I : LInv sz st m top E S) (ht : ∀ n ∈ sz, n ≤ top) {s : Int} (hs : s ∈ kyE E) (hn : s ∉ S) (hmin : ∀ t ∈ kyE E, t ∉ S → eLt (gE E t) (gE E s) = false) {E' : EMap} (O : OInv st m E (S ++ [s]) done E')
    (hd : ∀ p ∈ done, ∃ n, sz[p.1]? = some n ∧ p.2.length = n ∧ (∀ x ∈ p.2, x ∈ S ++ [s]) ∧ s ∈ p.2) (hall : ∀ (i n : Nat) (b : List Int), sz[i]? = some n → b.length = n → (∀ x ∈ b, x ∈ S ++ [s]) → s ∈ b → (i, b) ∈ done) : LInv sz st m top E' (S ++ [s]) := by
  have kS : ∀ x ∈ S ++ [s], x ∈ kyE E := fun x hx => by
    rcases List.mem_append.mp hx with hx | hx
    · exact I.sub x hx
    · rw [List.mem_singleton.mp hx]; exact hs
  have le_s : ∀ x ∈ S ++ [s], (gE E x).1 ≤ (gE E s).1 := fun x hx => by
    rcases List.mem_append.mp hx with hx | hx
    · exact I.M x hx s hs hn
    · rw [List.mem_singleton.mp hx]; exact Int.le_refl _
  refine ⟨O.nd, ?_, fun x hx => ?_, O.rng, O.ok, fun x e he => ?_, fun i n b hi hb hx => ?_, fun x hx t ht' hnt => ?_, fun x hx => ?_⟩
  · refine List.nodup_append.mpr ⟨I.sn, by simp, fun a ha b hb z => ?_⟩
    rw [List.mem_singleton] at hb
    exact hn (by rw [← hb, ← z]; exact ha)
  · exact lk_some.mpr ⟨_, (O.fix x hx).trans (lk_gE (kS x hx))⟩
  · rcases O.src x e he with h | ⟨p, hp, h1, h2⟩
    · obtain ⟨i, n, b, h1, h2, h3, h4, h5⟩ := I.A x e h
      exact ⟨i, n, b, h1, h2, fun y hy => List.mem_append_left _ (h3 y hy), h4, h5.trans (val_congr fun y hy => (O.gS (List.mem_append_left _ (h3 y hy))).symm)⟩
    · obtain ⟨n, g1, g2, g3, _⟩ := hd p hp
      exact ⟨p.1, n, p.2, g1, g2, g3, h1, h2.trans (val_congr fun y hy => (O.gS (g3 y hy)).symm)⟩
  · have ev : val (gE E') (i : Nat) b = val (gE E) (i : Nat) b := val_congr fun y hy => O.gS (hx y hy)
    rw [ev]
    by_cases c : s ∈ b
    · exact O.dn _ (hall i n b hi hb hx c)
    · obtain ⟨e0, h1, h2⟩ := I.B i n b hi hb fun y hy => by
        rcases List.mem_append.mp (hx y hy) with z | z
        · exact z
        · rw [List.mem_singleton.mp z] at hy
          exact absurd hy c
      obtain ⟨e, g1, g2⟩ := O.old _ e0 h1
      exact ⟨e, g1, nLt_trans g2 h2⟩
  · rw [O.gS hx]
    have h1 := le_s x hx
    rcases O.src t _ (lk_gE ht') with h | ⟨p, hp, g1, g2⟩
    · have tk : t ∈ kyE E := lk_some.mpr ⟨_, h⟩
      have := nLt_fst (hmin t tk fun z => hnt (List.mem_append_left _ z))
      rw [gE_of h] at this
      omega
    · obtain ⟨n, _, _, g5, g6⟩ := hd p hp
      have := val_gt (g := gE E) (r := (p.1 : Nat)) (fun y hy => EOk.g I.ok (kS y (g5 y hy))) g6
      rw [g2]
      omega
  · rw [O.gS hx, List.length_append]
    rcases List.mem_append.mp hx with hx | hx
    · have := I.K x hx
      have := gr_mono (top := top) S.length
      show _ ≤ ((gr top (S.length + 1) : Nat) : Int)
      omega
    · rw [List.mem_singleton.mp hx]
      exact I.bound ht (lk_gE hs)
theorem nd_le {α : Type} [DecidableEq α] : ∀ {l k : List α}, l.Nodup → (∀ x ∈ l, x ∈ k) → l.length ≤ k.length
  | [], _, _, _ => Nat.zero_le _
  | x :: l, k, h, hs => by
    obtain ⟨h1, h2⟩ := List.nodup_cons.mp h
    have hx := hs x List.mem_cons_self
    have := nd_le (l := l) (k := k.erase x) h2 fun y hy => (List.mem_erase_of_ne (fun z => h1 (by rw [← z]; exact hy))).mpr (hs y (List.mem_cons_of_mem _ hy))
    rw [List.length_erase_of_mem hx] at this
    have := List.length_pos_of_mem hx
    rw [List.length_cons]
    omega
/-- all are settled -/
theorem LInv.allS (I : LInv sz st m top E S) (h : ¬ S.length < E.length) : ∀ s ∈ kyE E, s ∈ S := fun s hs => by
  refine Classical.byContradiction fun hn => ?_
  have h1 := nd_le (l := s :: S) (k := kyE E) (List.nodup_cons.mpr ⟨hn, I.sn⟩) fun x hx => by
    rcases List.mem_cons.mp hx with rfl | hx
    · exact hs
    · exact I.sub x hx
  rw [List.length_cons, kyE, List.length_map] at h1
  omega
theorem LInv.left (I : LInv sz st m top E S) (h : S.length < E.length) : ∃ s ∈ kyE E, s ∉ S := by
  refine Classical.byContradiction fun hn => ?_
  have h1 := nd_le (l := kyE E) (k := S) I.nd fun x hx => Classical.byContradiction fun z => hn ⟨x, hx, z⟩
  rw [kyE, List.length_map] at h1
  omega
theorem rng_len {E : EMap} {m : Nat} (nd : (kyE E).Nodup) (rng : ∀ s ∈ kyE E, 0 ≤ s ∧ s < (m : Nat)) : E.length ≤ m := by
  have h1 := nd_le (l := kyE E) (k := (List.range m).map fun n : Nat => (n : Int)) nd fun x hx => by
    obtain ⟨g1, g2⟩ := rng x hx
    exact List.mem_map.mpr ⟨x.toNat, List.mem_range.mpr (by omega), by omega⟩
  rw [kyE, List.length_map, List.length_map, List.length_range] at h1
  exact h1
theorem LInv.lenE (I : LInv sz st m top E S) : E.length ≤ m := rng_len I.nd I.rng
theorem OInv.lenE (I : OInv st m E0 S done E) : E.length ≤ m := rng_len I.nd I.rng
end Sy
/-! < of data, min of a list of data (own rules over the library's) -/
namespace Sy
open PySem PySem.Spec PyProof.Rows L2 PySem.W
def rLtD (K : PySem.W.Frag) : R2 := fun x y H Q => ∃ d e, Dp K H x d ∧ Dp K H y e ∧ alike d e = true ∧ d ≠ .none ∧ d.depth ≤ 40 ∧ Q (.bl (dataLt d e)) H
theorem op_ltD {X : Cx} (hu : X.A.units + 65 < cLine) : OpR X (compareOp .Lt) (rLtD X.K) := by
  intro pins s σ H x y v u Q I rx ry h
  obtain ⟨d, e, hd, he, ha, hn, hl, q⟩ := h
  obtain ⟨as, r1⟩ := Dp.reads I d x v hd rx
  obtain ⟨bs, r2⟩ := Dp.reads I e y u he ry
  exact lt_data r1 r2 ha hn (by have := Nat.min_le_left d.depth e.depth; omega) ⟨.bl _, H, I, rfl, q⟩
end Sy
/-! min(l, key=lambda x: ..), the lambda with one parameter and captured cells; the table of code objects told exactly -/
namespace Sy
open PySem PySem.Spec PyProof.Rows L2 PySem.W LamX NdefX
/-- the table ps tells code objects of the name q, known in H -/
def TbOk (H : Hp) (ps : Array Value) (q : Str) : Prop := TriplesOk ps.toList ∧ ∀ (pos : Pos) (cv : Value), codeAmong pos ps.toList = some cv → ∃ c, cv = .ref c ∧ H c = some (CodeO c q)
theorem TbOk.nil (H : Hp) (q : Str) : TbOk H #[] q := ⟨True.intro, fun pos cv hc => by
  have z : codeAmong pos [] = some cv := hc
  simp [codeAmong] at z⟩
theorem codeO_nl {c : Addr} {q : Str} (xs : List V) : CodeO c q ≠ .lst xs := fun z => by
  unfold CodeO at z
  cases z
theorem TbOk.stay {H H' : Hp} {ps : Array Value} {q : Str} (t : TbOk H ps q) (s : Stay H H') : TbOk H' ps q := ⟨t.1, fun pos cv hc => by
  obtain ⟨c, e1, e2⟩ := t.2 pos cv hc
  exact ⟨c, e1, s _ _ e2 fun xs => codeO_nl xs⟩⟩
theorem TbOk.same {H H' : Hp} {ps : Array Value} {q : Str} (t : TbOk H ps q) (s : Same H H') : TbOk H' ps q := t.stay (Stay.of s)
/-- the object at f is such a lambda -/
def LamO (f : Addr) (q : Str) (params : Arguments) (body : Expr) (scope : Scope) (cl : List (Str × Addr)) (c : Addr) : HO := .ext fun h => ∃ pm ctv, h.get? f = some (kla_obj "<lambda>" q params body scope cl pm c ctv)
section
variable {X : Cx} {pins : List (Addr × Obj)} {σ : L2.St} {H : Hp} {s : Shared}
theorem inv_lam {q : Str} {params : Arguments} {body : Expr} {scope : Scope} {cl : List (Str × Addr)} {c : Addr} {h' : Heap} {t' : Nat} {pm ctv : Value} (I : Inv X pins σ H { s with heap := h', toks := t' }) :
    Inv X pins σ (upd H h'.objs.size (LamO h'.objs.size q params body scope cl c)) { s with heap := h'.push (kla_obj "<lambda>" q params body scope cl pm c ctv), toks := t' } := by
  have e : (h'.push (kla_obj "<lambda>" q params body scope cl pm c ctv)).get? h'.objs.size = some (kla_obj "<lambda>" q params body scope cl pm c ctv) := Heap.get?_push_size _ rfl
  exact I.laid (a := h'.objs.size) (t' := t') (fun b u e => Heap.get?_push_of_some _ e) (Nat.le_refl _) ⟨⟨_, _, e⟩, ⟨_, e⟩, fun h1 h2 ⟨p, z, k⟩ st => ⟨p, z, st _ k⟩⟩
theorem lam_makeC {c P : Addr} {ps : Array Value} {params : Arguments} {body : Expr} {scope : Scope} {pos : Pos} {E : Value → Shared → Prop} {Q : Value → Shared → Prop} (I : Inv X pins σ H s) (TB : TabB X.base X.mg c P) (hcode : X.env.code = .ref c)
    (hP : H P = some (.tbl ps)) (hT : TbOk H ps (X.env.qual ++ "<lambda>")) (hdef : defaultsOf params X.env = ([], [])) (hfree : ∀ y ∈ scope.names, y.2 = .free → ∃ c, X.env.cells.lookup y.1 = some c)
    (h : ∀ (f c' : Addr) (ps' : Array Value) (H1 : Hp) (s' : Shared), Inv X pins σ H1 s' → Chg P (.tbl ps') H H1 → TbOk H1 ps' (X.env.qual ++ "<lambda>") →
      H f = none → H1 f = some (LamO f (X.env.qual ++ "<lambda>") params body scope (cloFrom X.env.cells scope.names []) c') → H1 c' = some (CodeO c' (X.env.qual ++ "<lambda>")) → Q (.ref f) s') :
    wpAny (model X.prog X.w) X.A (eval (.Lambda params body scope pos) X.env) Q E s := by
  obtain ⟨ht, ha⟩ := hT
  refine PySem.W.kla_eval hdef ?_
  have bP : s.heap.BuiltinsAt X.mg P := TB.bm.keeps I.bk
  have hP' : s.heap.get? P = some { cls := .none, data := .fields ps } := I.hok P _ hP
  cases hc : codeAmong pos ps.toList with
  | none =>
    refine PySem.W.kla_makeFunction (mg := X.mg) (c := c) (P := P) (ps := ps) (closure_ok hfree) I.ok.glob (I.mod.glob.keeps I.bk) hcode (TB.code.keeps I.bk) hP' ht hc TB.gP bP fun c' ctv h' tk hx hge hlt hrec htb => ?_
    obtain ⟨c2, oc, vs, t, e2, hoc, hd, hv⟩ := hrec
    cases e2
    have hsz : s.heap.objs.size ≤ h'.objs.size := Nat.le_trans hge (Nat.le_of_lt hlt)
    have nC : H c' = none := I.hok.fresh hge
    have I1 := inv_table (t' := tk) (more := #[rawInt pos.line, rawInt pos.col, .ref c']) (h' := h') I hP (fun b o hb e => hx b o hb e) htb hge ⟨oc, vs, t, hoc, hd, hv⟩
    have nF : (upd (upd H P (.tbl (ps ++ #[rawInt pos.line, rawInt pos.col, .ref c']))) c' (CodeO c' (X.env.qual ++ "<lambda>"))) h'.objs.size = none := I1.hok.fresh (Nat.le_refl _)
    have I2 := inv_lam (pm := (X.mg "__name__").getD .none) (ctv := ctv) (q := X.env.qual ++ "<lambda>") (params := params) (body := body) (scope := scope) (cl := cloFrom X.env.cells scope.names []) (c := c') I1
    have eL : (ps ++ #[rawInt pos.line, rawInt pos.col, .ref c']).toList = ps.toList ++ [rawInt pos.line, rawInt pos.col, .ref c'] := by simp
    have cat : upd (upd (upd H P (.tbl (ps ++ #[rawInt pos.line, rawInt pos.col, .ref c']))) c' (CodeO c' (X.env.qual ++ "<lambda>"))) h'.objs.size (LamO h'.objs.size (X.env.qual ++ "<lambda>") params body scope (cloFrom X.env.cells scope.names []) c') c' = some (CodeO c' (X.env.qual ++ "<lambda>")) := by
      rw [upd_ne (Nat.ne_of_lt hlt), upd_same]
    have chg : Chg P (.tbl (ps ++ #[rawInt pos.line, rawInt pos.col, .ref c'])) H (upd (upd (upd H P (.tbl (ps ++ #[rawInt pos.line, rawInt pos.col, .ref c']))) c' (CodeO c' (X.env.qual ++ "<lambda>"))) h'.objs.size (LamO h'.objs.size (X.env.qual ++ "<lambda>") params body scope (cloFrom X.env.cells scope.names []) c')) := by
      refine ⟨?_, fun a w ne e => ?_⟩
      · have n1 : P ≠ h'.objs.size := Nat.ne_of_lt (Nat.lt_of_lt_of_le (Heap.lt_size hP') hsz)
        rw [upd_ne n1, upd_ne (ne_of_none hP nC), upd_same]
      · have e1 : upd (upd H P (.tbl (ps ++ #[rawInt pos.line, rawInt pos.col, .ref c']))) c' (CodeO c' (X.env.qual ++ "<lambda>")) a = some w := by
          rw [upd_ne (ne_of_none e nC), upd_ne ne]
          exact e
        rw [upd_ne (ne_of_none e1 nF)]
        exact e1
    refine h h'.objs.size c' _ _ _ I2 chg ⟨by rw [eL]; exact PySem.TriplesOk_snoc _ _ _ _ ht, fun p' cv hcv => ?_⟩ (I.hok.fresh hsz) upd_same cat
    rw [eL] at hcv
    rcases among_app _ ht hcv with z | z
    · obtain ⟨c0, e1, e2⟩ := ha p' cv z
      refine ⟨c0, e1, chg.2 _ _ (fun q => ?_) e2⟩
      rw [q, hP] at e2
      exact codeO_ne _ (Option.some.inj e2).symm
    · exact ⟨c', z, cat⟩
  | some cv =>
    obtain ⟨c', e, hco⟩ := ha pos cv hc
    subst e
    refine PySem.W.kla_makeFunctionHit (mg := X.mg) (c := c) (P := P) (ps := ps) (closure_ok hfree) I.ok.glob (I.mod.glob.keeps I.bk) hcode (TB.code.keeps I.bk) hP' ht hc bP fun ctv h' tk hx hsz => ?_
    have I1 : Inv X pins σ H { s with heap := h', toks := tk } := I.kept hx
    have nF : H h'.objs.size = none := I1.hok.fresh (Nat.le_refl _)
    have I2 := inv_lam (pm := (X.mg "__name__").getD .none) (ctv := ctv) (q := X.env.qual ++ "<lambda>") (params := params) (body := body) (scope := scope) (cl := cloFrom X.env.cells scope.names []) (c := c') I1
    have chg : Chg P (.tbl ps) H (upd H h'.objs.size (LamO h'.objs.size (X.env.qual ++ "<lambda>") params body scope (cloFrom X.env.cells scope.names []) c')) :=
      ⟨by rw [upd_ne (ne_of_none hP nF)]; exact hP, fun a w ne e => by rw [upd_ne (ne_of_none e nF)]; exact e⟩
    refine h h'.objs.size c' ps _ _ I2 chg ⟨ht, fun p' cv hcv => ?_⟩ nF upd_same (by rw [upd_ne (ne_of_none hco nF)]; exact hco)
    obtain ⟨c0, e1, e2⟩ := ha p' cv hcv
    exact ⟨c0, e1, by rw [upd_ne (ne_of_none e2 nF)]; exact e2⟩
/-- the lambda called with one argument; nothing tracked changes -/
theorem lam_run {N fr : List Str} {js : List Nat} {x : Str} {q : Str} {params : Arguments} {body : Expr} {scope : Scope} {cl : List (Str × Addr)} {c f : Addr} {k : Nat} {tb : TE} {v w : V} {u : Value} {E : Value → Shared → Prop} {Qq : Value → Shared → Prop}
    (I : Inv X pins σ H s) (S : NScope N [x] fr scope) (cp : Caps X cl fr js) (hr : Room (k + 2) X.A) (hf : H f = some (LamO f q params body scope cl c)) (hc : H c = some (CodeO c q))
    (hbind : ∀ (pm cv ctv : Value) (u : Value), bindArgs (kla_fn "<lambda>" q params body scope cl pm cv ctv) ⟨[u], []⟩ = pure [(x, u)])
    (hbody : ∀ (A : Around) (outer : List Env) (s : Shared) (H : Hp), Room k (A.deeper (envF ⟨"<lambda>", q, params, [], scope, cl, c⟩ f s.heap.objs.size)) → PE (ncx C8.CX0 X.prog X.w X.K X.mg X.base N ⟨"<lambda>", q, params, [], scope, cl, c⟩ f A outer s H C8.E0) body tb)
    (rv : RelV v u) (ht : tb (startF N [v] (js.map (slotAt σ))) H fun w' H' => w' = w ∧ H' = H)
    (h : ∀ u' s', Inv X pins σ H s' → Un (frs X.stack) [] H H s.heap s'.heap → RelV w u' → Qq u' s') : wpAny (model X.prog X.w) X.A.in1 (call (.ref f) [u]) Qq E s := by
  have C : CellsAt cl fr (js.map (slotAt σ)) s.heap H := cells_of I cp
  obtain ⟨⟨pm, ctv, ho⟩, _, _⟩ := I.hok f _ hf
  have hrec := codeO_at I.hok hc
  have e0 : Env0 X.prog X.w X.K X.mg X.base X.A.in1 X.stack s H := I.env0.in1
  have hr1 : Room (k + 1) X.A.in1 := hr.in1
  have rc : codeAny (model X.prog X.w) X.A.in1 (.call (.ref f) ⟨[u], []⟩) (CR C8.CX0 X.stack X.prog X.w H s (fun w' H' => w' = w ∧ H' = H) C8.E0) s := by
    refine PySem.W.kla_callFunE hr1.depth ho rfl S.co S.gen rfl hrec ?_
    rw [hbind]
    refine wpAny_pure (wpAny_newFunctionEnv S.nocell (fun y hy => ?_) (fun h₁ hns hsb => ⟨I.nolimit.fresh _ hsb, ?_⟩) S.kind)
    · rw [List.mem_singleton.mp hy]
      exact S.par x List.mem_cons_self
    show codeAny _ _ (.expr body (envF ⟨"<lambda>", q, params, [], scope, cl, c⟩ f s.heap.objs.size)) _ _
    have kp : ∀ b o, s.heap.get? b = some o → h₁.get? b = some o := fun b o e => hsb.extBut b o (Nat.ne_of_lt (Heap.lt_size e)) (Heap.get?_push_of_some _ e)
    have J : Inv (ncx C8.CX0 X.prog X.w X.K X.mg X.base N ⟨"<lambda>", q, params, [], scope, cl, c⟩ f X.A.in1 X.stack s H C8.E0) [] (startF N [v] (js.map (slotAt σ))) H { s with heap := h₁, toks := s.toks + ([(x, u)] : List (Str × Value)).length } :=
      inv_startN (ps := [x]) (us := [u]) S hr1.hd e0 rfl (.cons rv .nil) C hns kp
    refine PySem.W.kla_codeExpr (wpAny_mono ((hbody _ _ s H (hr1.deeper _)).run [] _ _ H _ J ht) (fun v s' hq => ?_) fun e s' hq => hq)
    obtain ⟨w', H', J', rv', q'⟩ := hq
    exact ⟨w', H', J'.os, J'.bare, J'.base, J'.hok, rv', q'⟩
  refine wpAny_call (codeAny_mono rc fun r s' hq => ?_)
  cases r with
  | error e => exact (show False from hq).elim
  | ok fl =>
    cases fl with
    | ret u' =>
      obtain ⟨w', H', os, bare, un, hok, rw', q1, q2⟩ := hq
      subst q1
      subst q2
      obtain ⟨w2, H2, I2, r2, q1, q2⟩ := I.after (Q := fun a b => a = w' ∧ b = H') ⟨w', H', os, bare, un, hok, rw', rfl, rfl⟩
      subst q1
      subst q2
      exact h u' s' I2 un r2
    | next => exact False.elim hq
    | brk => exact False.elim hq
    | cont => exact False.elim hq
end
theorem upd_back {H : Hp} {l : Addr} {o u : HO} (h : H l = some u) : upd (upd H l o) l u = H := by
  funext a
  by_cases e : a = l
  · rw [e, upd_same, h]
  · rw [upd_ne e, upd_ne e]
/-- all but l stays -/
def But (l : Addr) (H H' : Hp) : Prop := ∀ a o, a ≠ l → H a = some o → H' a = some o
def tMinL (K : PySem.W.Frag) (P : Addr) (q : Str) (N : List Str) (js : List Nat) (tb : TE) (te : TA) : TE := fun σ H Q => te σ H fun vs H1 => ∃ ps, H1 P = some (.tbl ps) ∧ TbOk H1 ps q ∧ ∀ ps' H2, Chg P (.tbl ps') H1 H2 → TbOk H2 ps' q →
  ∃ (l : Addr) (items ws : List V) (ds : List PyData), vs = [.ref l] ∧ H2 l = some (.lst items) ∧ 0 < items.length ∧ ws.length = items.length ∧ DpAll K H2 ws ds ∧ AlikeAll ds ∧ PyData.depthAll ds ≤ 40 ∧
    (∀ H3, But l H2 H3 → DpAll K H3 ws ds ∧ ∀ (i : Nat) (x w : V), items[i]? = some x → ws[i]? = some w → tb (startF N [x] (js.map (slotAt σ))) H3 fun w' H' => w' = w ∧ H' = H3) ∧
    ∀ x, items[argBest (fun i j => dataLt (ds.getD i .none) (ds.getD j .none)) (items.length - 1)]? = some x → Q x H2
section
variable {X : Cx}
theorem dpAll_at {K : PySem.W.Frag} {H : Hp} : ∀ {xs : List V} {ds : List PyData} {i : Nat} {x : V}, DpAll K H xs ds → xs[i]? = some x → ds[i]? = some (ds.getD i .none) ∧ Dp K H x (ds.getD i .none)
  | _, _, _, _, .nil, h => by simp at h
  | _, _, 0, _, .cons r _, h => by
    have := Option.some.inj h
    subst this
    exact ⟨rfl, r⟩
  | _, _, i + 1, _, .cons _ t, h => dpAll_at (i := i) t h
theorem vals_at {xs : List V} {us : List Value} (h : Vals xs us) {i : Nat} {u : Value} (e : us[i]? = some u) : ∃ x, xs[i]? = some x ∧ RelV x u := by
  induction h generalizing i with
  | nil => simp at e
  | cons r t ih =>
    cases i with
    | zero =>
      simp at e
      subst e
      exact ⟨_, rfl, r⟩
    | succ i => exact ih (by simpa using e)
theorem depth_mem {d : PyData} : ∀ {ds : List PyData}, d ∈ ds → d.depth ≤ PyData.depthAll ds
  | [], h => by cases h
  | x :: l, h => by
    rcases List.mem_cons.mp h with rfl | h
    · exact Nat.le_max_left _ _
    · exact Nat.le_trans (depth_mem h) (Nat.le_max_right _ _)
theorem pe_minLam {P c : Addr} {N fr : List Str} {js : List Nat} {x : Str} {params : Arguments} {body e : Expr} {scope : Scope} {lpos kp p pos : Pos} {k : Nat} {tb : TE} {te : TA}
    (hg : Gl X "min") (hm : X.mg "min" = none) (ha : PA X [e] te) (TB : TabB X.base X.mg c P) (hcode : X.env.code = .ref c) (hcalm : X.calm = true) (hr : Room (k + 3) X.A)
    (S : NScope N [x] fr scope) (hfree : ∀ y ∈ scope.names, y.2 = .free → X.env.scope.names.lookup y.1 = some .cell ∨ X.env.scope.names.lookup y.1 = some .free) (hfr : ∀ y ∈ fr, (y, NameKind.free) ∈ scope.names) (hjs : js.map (fun j => X.N[j]?) = fr.map some)
    (hdef : defaultsOf params X.env = ([], [])) (hbind : ∀ (q : Str) (cl : List (Str × Addr)) (pm cv ctv : Value) (u : Value), bindArgs (kla_fn "<lambda>" q params body scope cl pm cv ctv) ⟨[u], []⟩ = pure [(x, u)])
    (hbody : ∀ (A : Around) (outer : List Env) (s : Shared) (H : Hp) (cl : List (Str × Addr)) (c f : Addr), Room k (A.deeper (envF ⟨"<lambda>", X.env.qual ++ "<lambda>", params, [], scope, cl, c⟩ f s.heap.objs.size)) →
      PE (ncx C8.CX0 X.prog X.w X.K X.mg X.base N ⟨"<lambda>", X.env.qual ++ "<lambda>", params, [], scope, cl, c⟩ f A outer s H C8.E0) body tb)
    (he : backTo pos (starEach (e :: []) X.env) = (false, eval e X.env) :: backTo pos (starEach [] X.env) := by rfl) :
    PE X (.Call (.Name "min" p) [e] [⟨some "key", .Lambda params body scope lpos, kp⟩] pos) (tMinL X.K P (X.env.qual ++ "<lambda>") N js tb te) := by
  refine ⟨fun pins s σ H Q I h => ?_⟩
  have hfr2 : ∀ y ∈ scope.names, y.2 = .free → ∃ c, X.env.cells.lookup y.1 = some c := fun y hy e => (hfree y hy e).elim (fun z => I.ok.has _ (.inl z)) fun z => I.ok.has _ (.inr z)
  have cp : Caps X (cloFrom X.env.cells scope.names []) fr js := Caps.made I.ok hfree hfr hjs
  refine wpAny_Call_Name_kw (ld_blt I hg hm (by rfl) ?_ (by decide) (by decide))
  have hpl : (backTo pos (starEach (e :: []) X.env)).any (·.1) = false := by
    rw [he]
    rfl
  refine PyProof.Rows.callWith_kw (thn (ha.run pos pins s σ H _ I h) fun us s1 ⟨vs, H1, I1, r1, ps, hP, hT, q1⟩ => kws_cons (lam_makeC I1 TB hcode hP hT hdef hfr2 fun f c' ps' H2 s2 I2 chg tok nf hf hc => kws_nil ?_)) he hpl (by rfl) (by rfl)
  show wpAny (model X.prog X.w) X.A (call (.builtin "min") us [(Str.ofString "key", .ref f)]) _ _ _
  obtain ⟨l, items, ws, ds, rfl, hl, hn0, hwl, hds, hal, hdep, hrd, hq⟩ := q1 ps' H2 chg tok
  obtain ⟨u, rfl, rx⟩ := vals1 r1
  obtain rfl : u = Value.ref l := rx
  obtain ⟨od, I3⟩ := I2.lock hl True.intro
  have h3l : upd H2 l (.frz od (.lst items)) l = some (.frz od (.lst items)) := upd_same
  obtain ⟨its, rv, pl, hz⟩ := I3.list (.inl (.inr ⟨_, h3l⟩))
  have hnf : f ≠ l := fun z => by
    rw [z, hl] at hf
    cases hf
  have hnc : c' ≠ l := fun z => by
    rw [z, hl] at hc
    exact codeO_nl _ (Option.some.inj hc).symm
  have hf3 : upd H2 l (.frz od (.lst items)) f = some _ := (upd_ne hnf).trans hf
  have hc3 : upd H2 l (.frz od (.lst items)) c' = some _ := (upd_ne hnc).trans hc
  obtain ⟨hds3, hrd3⟩ := hrd _ fun a o ne e => (upd_ne ne).trans e
  have hu := hr.un
  have hh := I3.ok.hd hcalm
  have hlen : its.length = items.length := rv.length.symm
  refine call_min_walkK (iter_listW (A := X.A.in1) hh pl.isList fun s₃ e₃ W st hfp hw hk => ?_)
  have I4 : Inv X pins σ (upd H2 l (.frz od (.lst items))) s₃ := by
    rw [e₃]
    exact I3.kept (t' := s2.toks) fun b o e => Heap.get?_push_of_some _ e
  have sz3 : s₃.heap.objs.size = s2.heap.objs.size + 1 := by
    rw [e₃]
    exact Heap.size_push _ _
  have fpI : FpOk X pins (upd H2 l (.frz od (.lst items))) s2.heap.objs.size := I3.fpOk (Nat.le_refl _) (I3.hok.fresh (Nat.le_refl _))
  have fpS : FpOk X pins (upd H2 l (.frz od (.lst items))) s₃.heap.objs.size := I4.fpOk (Nat.le_refl _) (I4.hok.fresh (Nat.le_refl _))
  refine ⟨_, _, _, _, _, _, _, (fun s => Inv X pins σ (upd H2 l (.frz od (.lst items))) s), (fun i u _ => ∃ w, ws[i]? = some w ∧ RelV w u), (fun i j => dataLt (ds.getD i .none) (ds.getD j .none)), rfl, W, st, hfp, by rw [List.size_toArray]; omega, ?_, I4, fun v s' hPv hJ => ?_⟩
  · refine ⟨fun sa sb J m => ?_, fun i k sa sb hv m => hv, fun i v sa o Qa Ea hi hPv hJ hst hS cont => ?_, fun i j ki kj sa Qa Ea hJ hi hj hQ => ?_⟩
    · have eb : sb = { sa with heap := sb.heap, toks := sb.toks } := by
        obtain ⟨hp, g, d, tk, os⟩ := sb
        have h1 : g = sa.gens := m.gens
        have h2 : d = sa.drawn := m.drawn
        have h3 : os = sa.os := m.os
        subst h1
        subst h2
        subst h3
        rfl
      rw [eb]
      refine J.turnedL (ch := [s₃.heap.objs.size, s2.heap.objs.size]) (fun b o hb e => m.heap b o hb e) fun b hb => ?_
      rcases List.mem_cons.mp hb with rfl | hb
      · exact fpS
      · rw [List.mem_singleton.mp hb]
        exact fpI
    · have hPv' : its[i]? = some v := by simpa using hPv
      obtain ⟨xi, hxi, rxi⟩ := vals_at rv hPv'
      have hlt : i < items.length := by
        have := hi
        rw [List.size_toArray] at this
        omega
      have hwi : ws[i]? = some ws[i] := List.getElem?_eq_getElem (by omega)
      refine lam_run (k := k) hJ S cp (hr.mono (by omega)) hf3 hc3 (hbind _ _) (fun A outer s H r => hbody A outer s H _ _ _ r) rxi (hrd3 i xi _ hxi hwi) fun u' s' I' un r' => ?_
      have kp : ∀ b o, FpOk X pins (upd H2 l (.frz od (.lst items))) b → sa.heap.get? b = some o → s'.heap.get? b = some o := fun b o fp e => un.keep b o e fp.1 (fun z => (List.mem_cons.mp (hJ.stkSub b z)).elim fp.2.1 fp.2.2.1) (by simp)
      have hl' : s'.heap.IsList l its.toArray := by
        obtain ⟨e1, _⟩ := hJ.hok l _ h3l
        obtain ⟨e2, _⟩ := I'.hok l _ h3l
        obtain ⟨o1, e3, k1, k2⟩ := hst.2
        exact ⟨o1, by rw [e2, ← e1]; exact e3, k1, k2⟩
      have hI' : s'.heap.IsListIter s2.heap.objs.size l (i + 1) := by
        obtain ⟨o1, e3, k1⟩ := hst.1
        exact ⟨o1, kp _ _ fpI e3, k1⟩
      exact cont u' s' I' ⟨hI', hl'⟩ (kp _ _ fpS hS) ⟨_, hwi, r'⟩ fun j k' hv => hv
    · obtain ⟨wi, hwi, ri⟩ := hi
      obtain ⟨wj, hwj, rj⟩ := hj
      obtain ⟨mi, di⟩ := dpAll_at hds3 hwi
      obtain ⟨mj, dj⟩ := dpAll_at hds3 hwj
      obtain ⟨as, r1⟩ := Dp.reads hJ _ wi ki di ri
      obtain ⟨bs, r2⟩ := Dp.reads hJ _ wj kj dj rj
      have m1 := List.mem_of_getElem? mi
      have m2 := List.mem_of_getElem? mj
      refine lt_data r1 r2 (hal.1 _ m1 _ m2) (hal.2 _ m1) ?_ hQ
      have := Nat.min_le_left (ds.getD i .none).depth (ds.getD j .none).depth
      have := depth_mem m1
      show X.A.units + 1 + _ < _
      omega
  · have hPv' : its[argBest (fun i j => dataLt (ds.getD i .none) (ds.getD j .none)) (its.length - 1)]? = some v := by simpa using hPv
    rw [hlen] at hPv'
    obtain ⟨xi, hxi, rxi⟩ := vals_at rv hPv'
    have I5 := hJ.unlock h3l (I2.nofrz hl True.intro)
    rw [upd_back hl] at I5
    exact ⟨xi, H2, I5, rxi, hq xi hxi⟩
end
end Sy
/-! _offer -/
namespace Sy
open PySem PySem.Spec PyProof.Rows L2
/-- an entry -/
def EnAt (K : PySem.W.Frag) (H : Hp) (q : Addr) (e : Ent) : Prop := ∃ c, SqT K H q [.int e.1, .ref c] ∧ SqT K H c (vI e.2)
theorem EnAt.mono {K : PySem.W.Frag} {H H' : Hp} {q : Addr} {e : Ent} (h : EnAt K H q e) (s : Stay H H') : EnAt K H' q e := by
  obtain ⟨c, h1, h2⟩ := h
  exact ⟨c, s.sqt h1, s.sqt h2⟩
theorem EnAt.same {K : PySem.W.Frag} {H H' : Hp} {q : Addr} {e : Ent} (h : EnAt K H q e) (s : Same H H') : EnAt K H' q e := h.mono (Stay.of s)
theorem imA_vI {K : PySem.W.Frag} {H : Hp} : ∀ l : List Int, ImA K H (vI l) (l.map PyData.int)
  | [] => .nil
  | n :: l => .cons (.int n) (imA_vI l)
theorem EnAt.im {K : PySem.W.Frag} {H : Hp} {q : Addr} {e : Ent} (h : EnAt K H q e) : Im K H (.ref q) (EntD e) := by
  obtain ⟨c, h1, h2⟩ := h
  exact .tup h1 (.cons (.int _) (.cons (.tup h2 (imA_vI _)) .nil))
/-- the entries of the dict -/
abbrev BestR (K : PySem.W.Frag) (H : Hp) : List (Key × V) → EMap → Prop := Paired fun p q => p.1 = Sum.inl q.1 ∧ ∃ a, p.2 = .ref a ∧ EnAt K H a q.2
theorem BestR.same {K : PySem.W.Frag} {H H' : Hp} {kvs : List (Key × V)} {E : EMap} (h : BestR K H kvs E) (s : Same H H') : BestR K H' kvs E := Paired.mapP h fun _ _ ⟨z, a, z1, z2⟩ => ⟨z, a, z1, z2.same s⟩
theorem BestR.get {K : PySem.W.Frag} {H : Hp} {kvs : List (Key × V)} {E : EMap} (h : BestR K H kvs E) (s : Int) : (lkE E s = none → valV kvs (Sum.inl s : Key) = none) ∧ ∀ e, lkE E s = some e → ∃ a, valV kvs (Sum.inl s : Key) = some (.ref a) ∧ EnAt K H a e := by
  induction h with
  | nil =>
    constructor
    · intro _
      rfl
    · intro e z
      cases z
  | @cons p q ps qs h t ih =>
    obtain ⟨k, x⟩ := q
    obtain ⟨h1, a, h2, h3⟩ := h
    have h1 : p.1 = Sum.inl k := h1
    unfold lkE
    by_cases c : k = s
    · rw [if_pos c, valV_pos (by rw [h1, c])]
      constructor
      · intro z
        cases z
      · intro e z
        cases z
        exact ⟨a, by rw [h2], h3⟩
    · rw [if_neg c, valV_neg (fun z => c (Sum.inl.inj (h1.symm.trans z)))]
      exact ih
theorem BestR.repl {K : PySem.W.Frag} {H : Hp} {kvs : List (Key × V)} {E : EMap} (h : BestR K H kvs E) (s : Int) {a : Addr} {e : Ent} (ha : EnAt K H a e) (nd : (kyE E).Nodup) (hs : s ∈ kyE E) : BestR K H (kvs.map fun kv => if kv.1 = (Sum.inl s : Key) then (kv.1, .ref a) else kv) (putE E s e) := by
  induction h with
  | nil => cases hs
  | @cons p q ps qs h t ih =>
    obtain ⟨k, x⟩ := q
    obtain ⟨h1, a', h2, h3⟩ := h
    have h1 : p.1 = Sum.inl k := h1
    have nd : (k :: kyE qs).Nodup := nd
    obtain ⟨n1, n2⟩ := List.nodup_cons.mp nd
    rw [List.map_cons]
    unfold putE
    by_cases c : k = s
    · rw [if_pos c, if_pos (by rw [h1, c])]
      refine .cons ⟨h1, a, rfl, ha⟩ ?_
      have : (ps.map fun kv => if kv.1 = (Sum.inl s : Key) then (kv.1, V.ref a) else kv) = ps := by
        have key : ∀ {l : List (Key × V)} {m : EMap}, BestR K H l m → s ∉ kyE m → (l.map fun kv => if kv.1 = (Sum.inl s : Key) then (kv.1, V.ref a) else kv) = l := by
          intro l m r
          induction r with
          | nil => intro _; rfl
          | @cons p q ps qs hh tt ih2 =>
            intro hn
            have hn : s ∉ q.1 :: kyE qs := hn
            rw [List.map_cons, ih2 fun z => hn (List.mem_cons_of_mem _ z), if_neg]
            rw [hh.1]
            intro z
            exact hn (by rw [Sum.inl.inj z]; exact List.mem_cons_self)
        exact key t (by rw [← c]; exact n1)
      rw [this]
      exact t
    · rw [if_neg c, if_neg (fun z => c (Sum.inl.inj (h1.symm.trans z)))]
      have hs : s ∈ k :: kyE qs := hs
      exact .cons ⟨h1, a', h2, h3⟩ (ih n2 ((List.mem_cons.mp hs).resolve_left fun z => c z.symm))
theorem putE_new : ∀ {E : EMap} {s : Int} {e : Ent}, s ∉ kyE E → putE E s e = E ++ [(s, e)]
  | [], _, _, _ => rfl
  | (k, x) :: l, s, e, h => by
    have h : s ∉ k :: kyE l := h
    unfold putE
    rw [if_neg (fun z => h (by rw [z]; exact List.mem_cons_self)), putE_new fun z => h (List.mem_cons_of_mem _ z)]
    rfl
theorem BestR.put {K : PySem.W.Frag} {H : Hp} {kvs : List (Key × V)} {E : EMap} (h : BestR K H kvs E) (s : Int) {a : Addr} {e : Ent} (ha : EnAt K H a e) (nd : (kyE E).Nodup) : BestR K H (putK kvs (Sum.inl s : Key) (.ref a)) (putE E s e) := by
  by_cases c : s ∈ kyE E
  · obtain ⟨x, hx⟩ := lk_some.mp c
    obtain ⟨a', h1, _⟩ := (h.get s).2 x hx
    unfold putK
    rw [valV_any, h1, if_pos (show (some (V.ref a')).isSome = true from rfl)]
    exact h.repl s ha nd c
  · rw [putK_new _ ((h.get s).1 (lk_none c)), putE_new c]
    exact Paired.snoc h ⟨rfl, a, rfl, ha⟩
theorem sumI_sum (l : List Int) : l.sum = sumI l := by
  induction l with
  | nil => rfl
  | cons x l ih => rw [List.sum_cons, ih]; rfl
theorem sqt_delK {K : PySem.W.Frag} {H : Hp} {p a : Addr} {kvs : List (Key × V)} {xs : List V} (h : SqT K H a xs) (hp : H p = some (.dK kvs)) : SqT K (L2.del H p) a xs := by
  rcases h with (h | ⟨o, h⟩) | h
  · exact .inl (.inl (by rw [del_ne (fun z => by rw [z, hp] at h; cases h)]; exact h))
  · exact .inl (.inr ⟨o, by rw [del_ne (fun z => by rw [z, hp] at h; cases h)]; exact h⟩)
  · exact .inr h
theorem EnAt.delK {K : PySem.W.Frag} {H : Hp} {p q : Addr} {kvs : List (Key × V)} {e : Ent} (h : EnAt K H q e) (hp : H p = some (.dK kvs)) : EnAt K (L2.del H p) q e := by
  obtain ⟨c, h1, h2⟩ := h
  exact ⟨c, sqt_delK h1 hp, sqt_delK h2 hp⟩
theorem BestR.delK {K : PySem.W.Frag} {H : Hp} {p : Addr} {kvs : List (Key × V)} {E : EMap} (h : BestR K H kvs E) (hp : H p = some (.dK kvs)) : BestR K (L2.del H p) kvs E := Paired.mapP h fun _ _ ⟨z, a, z1, z2⟩ => ⟨z, a, z1, z2.delK hp⟩
theorem put_len {E : EMap} {s : Int} {e : Ent} : (putE E s e).length ≤ E.length + 1 := by
  have := congrArg List.length (ky_put (E := E) (s := s) (e := e))
  unfold kyE at this
  rw [List.length_map] at this
  rw [this]
  split
  · rw [List.length_map]; omega
  · rw [List.length_append, List.length_map]; exact Nat.le_refl _
theorem off_len {E : EMap} {s r : Int} {b : List Int} : (offE E s r b).length ≤ E.length + 1 := by
  unfold offE
  split
  · exact put_len
  · split
    · exact put_len
    · exact Nat.le_succ _
section
variable {P : Program} {w : World} {K : PySem.W.Frag} {mg : Str → Option Value} {base : Heap}
def spOff (K : PySem.W.Frag) : Sp := fun vs H Q _ => ∃ (D q : Addr) (s r : Int) (b : List Int) (kvs : List (Key × V)) (E : EMap), vs = [.ref D, .int s, .int r, .ref q] ∧ H D = some (.dK kvs) ∧ BestR K H kvs E ∧ (kyE E).Nodup ∧ E.length ≤ 2000 ∧ (∀ s e, lkE E s = some e → EOk e) ∧ SqT K H q (vI b) ∧ b.length ≤ 40 ∧ (∀ x ∈ b, x ∈ kyE E) ∧
  ∀ H' kvs', Chg D (.dK kvs') H H' → BestR K H' kvs' (offE E s r b) → Q .non H'
abbrev N_off : List Str := ["best", "state", "rank", "below", "one", "knots", "ranks"]
theorem sc_off : FnScope N_off ["best", "state", "rank", "below"] (defScope (top 29)) := ⟨rfl, rfl, rfl, by decide +kernel, rfl, by decide +kernel, by decide +kernel⟩
theorem ent_depth (e : Ent) : (EntD e).depth ≤ 40 := by
  have h : ∀ l : List Int, PyData.depthAll (l.map PyData.int) ≤ 1 := by
    intro l
    induction l with
    | nil => simp [PyData.depthAll]
    | cons x l ih => simp [PyData.depthAll, PyData.depth] at ih ⊢; omega
  have := h e.2
  unfold EntD
  simp [PyData.depth, PyData.depthAll]
  omega
theorem k_off (T : Txt K mg) (hsum : mg "sum" = none) (F : DF K mg "_offer" 29) : Cal P w K mg base 1 "_offer" ["best", "state", "rank", "below"] (spOff K) := by
  refine cal_of F.1 F.2 sc_off (fun _ _ _ _ _ _ us e => match us, e with | [_, _, _, _], _ => rfl) (fun vs H Q E s => by obtain ⟨_, _, _, _, _, _, _, rfl, _⟩ := s; rfl) ?_
  intro cdv A outer sh H vs Q E0 hr h
  obtain ⟨D, q, s, r, b, kvs, E, rfl, hD, hB, nd, hEl, ok, hqt, hbl, hbk, hq⟩ := h
  have hu := hu_of hr
  have hu4 := hu4_of hr
  have hun := hr.un
  have sc := sc_off
  have okb : ∀ x ∈ b, EOk (gE E x) := fun x hx => EOk.g ok (hbk x hx)
  refine ⟨_, (pss_cons (ps_set (i := 5) sc.nd rfl (Or.inl rfl) (pe_op op_add pe_int (pe_callB (cr_sum rfl) (by rfl) hsum (by decide +kernel) (pa_cons (pe_lc (own := [("one", 4)]) (g := gName 4) (te := tOp (rIxT K) (tDGet (tVar 0) (tVar 4)) (tC (.int 0))) rfl sc.nd (pi_tup (pv 3)) (blkOk_by (N := N_off) (sc := defScope (top 29)) (by decide +kernel)) (fun _ _ _ _ _ => (pg_name (i := 4) sc.nd rfl (Or.inl rfl))) (fun _ _ _ _ _ => pts_nil) (fun _ _ _ _ _ => (pe_ix ix_tup (pe_dget hu (pv 0) (pv 4) (fun _ _ => rfl)) pe_int (fun _ _ => rfl)))) pa_nil))))
      (pss_cons (ps_cut (ps_if (PW.pt (pw_and (pt_cmp (pc_din hu (pv 1) (pv 0))) (pw_and1 (pt_cmpR op_lt (pe_ix ix_tup (pe_dget hu (pv 0) (pv 1) (fun _ _ => rfl)) pe_int (fun _ _ => rfl)) (pv 5) (nomark _)))))
        (pss_one ps_retN)
        pss_nil))
      (pss_cons (ps_set (i := 6) sc.nd rfl (Or.inl rfl) (pe_tup pa_nil))
      (pss_cons (ps_cut (ps_if (pt_cmpR op_le (pv 5) (pe_gint rfl T.MOST_KNOTS) (nomark _))
        (pss_cons (ps_set (i := 6) sc.nd rfl (Or.inl rfl) (pe_tup (pa_cons (pv 2) pa_nil)))
        (pss_one (ps_for (passes_of rfl) rfl (pi_tup (pv 3)) (pg_name (i := 4) sc.nd rfl (Or.inl rfl))
          (pss_one (ps_set (i := 6) sc.nd rfl (Or.inl rfl) (pe_op op_catA (pv 6) (pe_ix ix_tup (pe_dget hu (pv 0) (pv 4) (fun _ _ => rfl)) pe_int (fun _ _ => rfl))))))))
        pss_nil))
      (pss_one (ps_if (PW.pt (pw_or (pt_cmp (pc_dnotin hu (pv 1) (pv 0))) (pw_or1 (pt_cmpR (op_ltD (by show (A.deeper _).units + 65 < cLine; omega)) (pe_tup (pa_cons (pv 5) (pa_cons (pv 6) pa_nil))) (pe_dget hu (pv 0) (pv 1) (fun _ _ => rfl)) (nomark _)))))
        (pss_one (ps_dput hu (pv 0) (pv 1) (pe_tup (pa_cons (pv 5) (pa_cons (pv 6) pa_nil))) rfl))
        pss_nil)))))), ?_⟩
  have getx : ∀ x ∈ b, ∃ a, valV kvs (Sum.inl x : Key) = some (.ref a) ∧ EnAt K H a (gE E x) := fun x hx => (hB.get x).2 _ (lk_gE (hbk x hx))
  refine ⟨_, rfl, q, rfl, ⟨_, hqt⟩, fun L hL => lc_filtT (K := K) (α := Int) (a := q) (xs := b) (f := V.int) (out := fun x => .int (gE E x).1) (keep := fun _ => true) (Hs.start H) hL hqt (by omega) (fun x hx H1 s1 R1 R2 y1 _ => ?_) fun H1 h1 => ?_⟩
  · simp only [tYes, if_true, wipe, List.map_cons, List.map_nil, List.set_cons_succ, List.set_cons_zero]
    obtain ⟨a, e1, c, e2, e3⟩ := getx x hx
    refine ⟨_, rfl, _, rfl, D, .ref a, rfl, ?_, a, _, 0, _, rfl, rfl, Same.sqt s1 e2, atI_nat (j := 0) rfl, y1 rfl⟩
    rw [← e1]
    exact DGet.k (k := Sum.inl x) (s1 _ _ hD)
  rw [List.filter_eq_self.mpr (fun _ _ => rfl)] at h1
  have h2 := (h1.drop).take hD
  have s1 := h1.sub
  have hL1 := h1.r0
  generalize hBd : L2.del H D = B0 at *
  have hB0 : BestR K B0 kvs E := by rw [← hBd]; exact hB.delK hD
  have hq0 : SqT K B0 q (vI b) := by rw [← hBd]; exact sqt_delK hqt hD
  have getx0 : ∀ x ∈ b, ∃ a, valV kvs (Sum.inl x : Key) = some (.ref a) ∧ EnAt K B0 a (gE E x) := fun x hx => (hB0.get x).2 _ (lk_gE (hbk x hx))
  refine ⟨L, b.map fun x => (gE E x).1, rfl, SqL.of (by rw [List.map_map]; exact hL1), _, _, rfl, rfl, ?_⟩
  rw [sumI_sum]
  simp only [List.set_cons_succ, List.set_cons_zero]
  have hget := hB0.get s
  have fin0 : Chg D (.dK kvs) H H1 := h2.isChg (by rw [hBd]; exact Same.refl _)
  have vok : EOk (val (gE E) r b) := val_ok okb
  obtain ⟨k, ek⟩ : ∃ k, k = 1 + sumI (b.map fun x => (gE E x).1) := ⟨_, rfl⟩
  rw [← ek]
  have ev1 : (val (gE E) r b).1 = k := ek.symm
  refine ⟨fun σ' H' => σ' = [some (.ref D), some (.int s), some (.int r), some (.ref q), none, some (.int k), none] ∧ H' = H1 ∧ ∀ e0, lkE E s = some e0 → k ≤ e0.1, ⟨_, rfl, _, rfl, D, _, rfl, DGet.k (k := Sum.inl s) h2.r0, ?_⟩, ?_⟩
  · cases el : lkE E s with
    | none =>
      rw [hget.1 el]
      refine ⟨_, rfl, iteF ⟨rfl, rfl, fun e0 z => ?_⟩⟩
      cases z
    | some e0 =>
      obtain ⟨a, e1, c, e2, e3⟩ := hget.2 e0 el
      rw [e1]
      refine ⟨_, rfl, ?_⟩
      refine ⟨_, rfl, _, rfl, D, .ref a, rfl, ?_, a, _, 0, _, rfl, rfl, Same.sqt h2.sub e2, atI_nat (j := 0) rfl, _, rfl, _, _, rfl, rfl, _, rfl, if_dec (fun c => ?_) (fun c => ?_)⟩
      · rw [← e1]
        exact DGet.k (k := Sum.inl s) h2.r0
      · refine hq H1 kvs fin0 ?_
        have : offE E s r b = E := by
          unfold offE
          rw [el]
          simp only
          rw [if_neg]
          rw [nLt_of (by rw [ev1]; exact c)]
          exact Bool.false_ne_true
        rw [this]
        exact hB.same s1
      · refine ⟨rfl, rfl, fun e0' z => ?_⟩
        cases z
        omega
  rintro σ' H' ⟨rfl, rfl, hle⟩
  refine ⟨by decide, fun T6 hT6 => ?_⟩
  have h3 := h2.tup (o := .tup []) hT6
  have s3 : Same B0 (upd B0 T6 (.tup [])) := up_same (h2.sub.free hT6)
  have t3 : SqT K (upd B0 T6 (.tup [])) T6 (vI []) := SqT.of upd_same
  generalize upd B0 T6 (.tup []) = B3 at *
  generalize upd H' T6 (.tup []) = H3 at *
  simp only [List.set_cons_succ, List.set_cons_zero]
  have hl2 : ∀ i, ((b.take i).flatMap fun x => (gE E x).2).length ≤ 80000 := fun i => by
    have h1 := flat_le (f := fun x => (gE E x).2) (c := 2000) (l := b.take i) fun x hx => by
      obtain ⟨o1, o2, o3⟩ := okb x (List.mem_of_mem_take hx)
      by_cases c : (gE E x).1 ≤ 2000
      · have := o2 c
        omega
      · rw [o3 (by omega)]; exact Nat.zero_le _
    rw [List.length_take] at h1
    omega
  refine ⟨fun σ' H' => ∃ (t4 : Option V) (B : Hp) (c : Addr), σ' = [some (.ref D), some (.int s), some (.int r), some (.ref q), t4, some (.int k), some (.ref c)] ∧ Same B3 B ∧ Hs B [(D, .dK kvs)] H' ∧ SqT K B c (vI (val (gE E) r b).2), ⟨_, rfl, _, _, rfl, rfl, _, rfl, if_dec (fun c => ?_) (fun c => ?_)⟩, ?_⟩
  · have evr : (val (gE E) r b).2 = r :: b.flatMap fun x => (gE E x).2 := by
      unfold val
      simp only
      rw [if_pos (by rw [← ek]; exact c)]
    refine ⟨_, rfl, (by show 1 ≤ sizeLine; decide), fun T7 hT7 => ?_⟩
    have h4 := h3.tup (o := .tup [.int r]) hT7
    have s4 : Same B3 (upd B3 T7 (.tup [.int r])) := up_same (h3.sub.free hT7)
    have t4 : SqT K (upd B3 T7 (.tup [.int r])) T7 (vI [r]) := SqT.of upd_same
    generalize upd B3 T7 (.tup [.int r]) = B4 at *
    generalize upd H3 T7 (.tup [.int r]) = H4 at *
    simp only [List.set_cons_succ, List.set_cons_zero]
    refine ⟨_, rfl, q, rfl, ⟨_, Same.sqt ((s3.trans s4).trans h4.sub) hq0⟩, for_tup (K := K) (a := q) (xs := vI b) (fun i σ H' => ∃ (t4 : Option V) (B : Hp) (c : Addr), σ = [some (.ref D), some (.int s), some (.int r), some (.ref q), t4, some (.int k), some (.ref c)] ∧ Same B4 B ∧ Hs B [(D, .dK kvs)] H' ∧ SqT K B c (vI (r :: (b.take i).flatMap fun x => (gE E x).2)))
      ⟨none, B4, T7, rfl, Same.refl _, h4, t4⟩ (fun _ _ _ _ ⟨_, _, _, _, sB, hh, _⟩ => Same.sqt ((s3.trans s4).trans (sB.trans hh.sub)) hq0) ?_ ?_⟩
    · rintro i v σ H5 hv ⟨t4, B, c, rfl, sB, hh, tc⟩
      obtain ⟨x, ex, rfl⟩ := map_at hv
      have hx := List.mem_of_getElem? ex
      obtain ⟨a, e1, cc, e2, e3⟩ := getx0 x hx
      obtain ⟨o1, o2, o3⟩ := okb x hx
      have hk2 : (gE E x).1 ≤ 2000 := by
        have := sumE_mem okb hx
        omega
      have hl := o2 hk2
      have sH := ((s3.trans s4).trans (sB.trans hh.sub))
      simp only [List.set_cons_succ, List.set_cons_zero]
      have hne : vI (gE E x).2 ≠ [] := fun z => by
        have := congrArg List.length z
        rw [vI, List.length_map, List.length_nil] at this
        omega
      refine ⟨_, rfl, _, rfl, _, rfl, D, .ref a, rfl, ?_, a, _, 1, _, rfl, rfl, Same.sqt sH e2, atI_nat (j := 1) rfl, c, cc, _, _, rfl, rfl, Same.sqt hh.sub tc, Same.sqt sH e3, ?_, fun z => ?_, fun _ z => absurd z hne, fun _ _ p hp => ?_⟩
      · rw [← e1]
        exact DGet.k (k := Sum.inl x) hh.r0
      · have := hl2 i
        simp only [vI, List.length_map, List.length_cons]
        rw [sizeLine_eq]
        omega
      · cases z
      · have h6 := hh.tup (o := .tup (vI (r :: (b.take i).flatMap fun x => (gE E x).2) ++ vI (gE E x).2)) hp
        refine ⟨_, _, p, rfl, sB.trans (up_same (hh.sub.free hp)), h6, ?_⟩
        have : (r :: (b.take (i + 1)).flatMap fun x => (gE E x).2) = (r :: (b.take i).flatMap fun x => (gE E x).2) ++ (gE E x).2 := by
          rw [List.take_succ, ex, List.flatMap_append]
          simp
        rw [this, show vI ((r :: (b.take i).flatMap fun x => (gE E x).2) ++ (gE E x).2) = vI (r :: (b.take i).flatMap fun x => (gE E x).2) ++ vI (gE E x).2 from List.map_append ..]
        exact SqT.of upd_same
    · rintro σ H5 ⟨t4, B, c, rfl, sB, hh, tc⟩
      rw [show (vI b).length = b.length from List.length_map .., List.take_length, ← evr] at tc
      exact ⟨_, B, c, rfl, s4.trans sB, hh, tc⟩
  · have evr : (val (gE E) r b).2 = [] := by
      unfold val
      simp only
      rw [if_neg (by rw [← ek]; exact c)]
    exact ⟨none, B3, T6, rfl, Same.refl _, h3, by rw [evr]; exact t3⟩
  rintro σ' H5 ⟨t4, B, c, rfl, sB, hh, tc⟩
  have s05 := s3.trans sB
  have kl : kvs.length ≤ 2000 := by rw [paired_len hB]; exact hEl
  have put : ∀ (T8 : Addr) (B8 H8 : Hp), Same B B8 → Hs B8 [(D, .dK kvs)] H8 → EnAt K B8 T8 (val (gE E) r b) → offE E s r b = putE E s (val (gE E) r b) → ∀ H9, H9 = upd H8 D (.dK (putK kvs (Sum.inl s) (.ref T8))) → Q .non H9 := by
    rintro T8 B8 H8 s8 h8 e8 eo H9 rfl
    have h9 := h8.w0 (o' := .dK (putK kvs (Sum.inl s) (.ref T8)))
    refine hq _ _ (h9.isChg (by rw [hBd]; exact s05.trans s8)) ?_
    rw [eo]
    exact (((hB0.same (s05.trans s8)).put s e8 nd)).same h9.sub
  have tup8 : ∀ T8, H5 T8 = none → Hs (upd B T8 (.tup [.int k, .ref c])) [(D, .dK kvs)] (upd H5 T8 (.tup [.int k, .ref c])) ∧ EnAt K (upd B T8 (.tup [.int k, .ref c])) T8 (val (gE E) r b) ∧ Same B (upd B T8 (.tup [.int k, .ref c])) := fun T8 hT8 => by
    have s8 : Same B (upd B T8 (.tup [.int k, .ref c])) := up_same (hh.sub.free hT8)
    exact ⟨hh.tup hT8, ⟨c, by rw [ev1]; exact SqT.of upd_same, Same.sqt s8 tc⟩, s8⟩
  refine ⟨_, rfl, _, rfl, D, _, rfl, DGet.k (k := Sum.inl s) hh.r0, ?_⟩
  cases el : lkE E s with
  | none =>
    rw [hget.1 el]
    refine ⟨_, rfl, iteT ⟨_, rfl, _, rfl, (by show 2 ≤ sizeLine; decide), fun T8 hT8 => ?_⟩⟩
    obtain ⟨h8, e8, s8⟩ := tup8 T8 hT8
    exact ⟨_, rfl, _, rfl, D, _, rfl, DPut.k (k := Sum.inl s) h8.r0 (by rw [sizeLine_eq]; omega), put T8 _ _ s8 h8 e8 (by unfold offE; rw [el]) _ rfl⟩
  | some e0 =>
    obtain ⟨a, e1, ea⟩ := hget.2 e0 el
    rw [e1]
    refine ⟨_, rfl, ⟨_, rfl, _, rfl, (by show 2 ≤ sizeLine; decide), fun T7 hT7 => ?_⟩⟩
    obtain ⟨h7, e7, s7⟩ := tup8 T7 hT7
    refine ⟨_, rfl, _, rfl, D, .ref a, rfl, ?_, EntD (val (gE E) r b), EntD e0, (e7.same h7.sub).im.dp, (ea.same ((s05.trans s7).trans h7.sub)).im.dp, alike_ent _ _, fun z => ?_, ent_depth _, _, rfl, ?_⟩
    · rw [← e1]
      exact DGet.k (k := Sum.inl s) h7.r0
    · cases z
    rw [eLt_data]
    cases cl : eLt (val (gE E) r b) e0 with
    | true =>
      refine iteT ⟨_, rfl, _, rfl, (by show 2 ≤ sizeLine; decide), fun T8 hT8 => ?_⟩
      have s8 : Same B (upd (upd B T7 (.tup [.int k, .ref c])) T8 (.tup [.int k, .ref c])) := s7.trans (up_same (h7.sub.free hT8))
      have h8 := h7.tup (o := .tup [.int k, .ref c]) hT8
      exact ⟨_, rfl, _, rfl, D, _, rfl, DPut.k (k := Sum.inl s) h8.r0 (by rw [sizeLine_eq]; omega), put T8 _ _ s8 h8 ⟨c, by rw [ev1]; exact SqT.of upd_same, Same.sqt s8 tc⟩ (by unfold offE; rw [el]; simp only; rw [if_pos cl]) _ rfl⟩
    | false =>
      refine iteF (hq _ kvs (h7.isChg (by rw [hBd]; exact s05.trans s7)) ?_)
      have : offE E s r b = E := by
        unfold offE
        rw [el]
        simp only
        rw [if_neg (by rw [cl]; exact Bool.false_ne_true)]
      rw [this]
      exact hB0.same ((s05.trans s7).trans h7.sub)
end
end Sy
/-! settled_plants: the def whose lambda is made; readings' parts -/
namespace Sy
open PySem PySem.Spec PyProof.Rows L2 LamX NdefX
/-- a module's def whose own code object is known -/
def FDc (K : PySem.W.Frag) (x : Str) (st : Stmt) (c : Addr) : Prop := ∃ fd, FunD K x x (defArgs st) (defBody st) (defScope st) [] [] (He.ga K x) fd ∧ fd.code = .ref c
theorem cal_ofC {P : Program} {w : World} {K : PySem.W.Frag} {mg : Str → Option Value} {base : Heap} {x : Str} {st : Stmt} {c : Addr} {N ps : List Str} {k : Nat} {sp : Sp} (F : FDc K x st c) (hm : mg x = some (.ref (He.ga K x))) (S : FnScope N ps (defScope st))
    (hb : ∀ (kV doc pm : Value) (an : Option Addr) (cdv ct : Value) (us : List Value), us.length = ps.length → bindArgs (PySem.W.fnOf x x (defArgs st) (defBody st) (defScope st) .none kV doc pm an cdv ct) ⟨us, []⟩ = pure (ps.zip us))
    (len : ∀ vs H Q E, sp vs H Q E → vs.length = ps.length)
    (body : ∀ (A : Around) (outer : List Env) (s : Shared) (H : Hp) (vs : List V) (Q : VK) (E : XK), Room k (A.deeper (envOfC x (defScope st) s.heap.objs.size (He.ga K x) (.ref c))) → sp vs H Q E →
      ∃ t, PSs (cxOf (L2.CX P w) P w K mg base N x (defScope st) (He.ga K x) (.ref c) A outer s H E) (defBody st) t ∧ t { nx := fun _ H' => Q .non H', rt := Q } (start N vs) H) : Cal P w K mg base (k + 1) x ps sp := by
  obtain ⟨fd, F, hc⟩ := F
  have B := F.bindsN hb
  have kp := F.kp
  obtain ⟨oc, od, dV, kV, doc, pm, an, cdv, ct, osl, rfl, lk, hcd, _, _⟩ := F.ex
  have hc : cdv = .ref c := hc
  subst hc
  exact ⟨⟨_, fn_of lk hcd S len fun A outer s H vs Q E hr hsp => body A outer s H vs Q E hr hsp, B⟩, hm, kp⟩
def lamSc : Scope := { kind := .function, names := [(Str.ofString "one", .local), (Str.ofString "best", .free)], isGenerator := false, isCoroutine := false, more := [] }
abbrev N_lam : List Str := ["one", "best"]
theorem sc_lam : NScope N_lam ["one"] ["best"] lamSc := nscope_by (by decide +kernel)
theorem lam_free : ∀ y ∈ lamSc.names, y.2 = .free → (defScope (top 30)).names.lookup y.1 = some .cell ∨ (defScope (top 30)).names.lookup y.1 = some .free := by decide +kernel
theorem lam_fr : ∀ y ∈ (["best"] : List Str), (y, NameKind.free) ∈ lamSc.names := by decide +kernel
/-- the table of the lambdas of it -/
abbrev lamQ : Str := "settled_plants.<locals>.<lambda>"
def Sz (rows : List Sy.Row) : List Nat := rows.map (·.2)
def St (rows : List Sy.Row) (d : RdrZ) (i : Nat) (b : List Int) : Int := stepZ d (rows.getD i ("", 0)).1 b
/-- a settled state: its number, its knots, its ranks -/
def S3At (K : PySem.W.Frag) (H : Hp) (q : Addr) (p : Int × Ent) : Prop := ∃ c, SqT K H q [.int p.1, .int p.2.1, .ref c] ∧ SqT K H c (vI p.2.2)
section
variable {P : Program} {w : World} {K : PySem.W.Frag} {mg : Str → Option Value} {base : Heap}
def spSet (P : Program) (w : World) (K : PySem.W.Frag) (tb : Addr) : Sp := fun vs H Q _ => ∃ (b t : Addr) (rows : List Sy.Row) (d : RdrZ) (m top : Nat) (B : Hp) (ps : Array Value), vs = [.ref b, .ref t] ∧ Hs B [(tb, .tbl ps)] H ∧ TbOk B ps lamQ ∧ BedAt K B b rows ∧ RowsOk rows ∧ TabAt P w K B t rows m d ∧
  1 ≤ m ∧ m ≤ 800 ∧ (∀ r ∈ rows, m ^ r.2 ≤ 2000) ∧ (∀ r ∈ rows, r.2 ≤ top) ∧ (∀ (x : Str) (l : List Int), isK rows x = true → l.length = ar rows x → (∀ n ∈ l, inS (m : Nat) n = true) → inS (m : Nat) (stepZ d x l) = true) ∧
  ∀ H' ps' D (qs : List Addr) (E : EMap) (S : List Int), H D = none → Chg tb (.tbl ps') H H' → TbOk H' ps' lamQ → H' D = some (.lst (qs.map V.ref)) → Paired (S3At K H') qs (S.map fun s => (s, gE E s)) → LInv (Sz rows) (St rows d) m top E S → (∀ s ∈ kyE E, s ∈ S) → Q (.ref D) H'
abbrev N_set : List Str := ["bed", "table", "settled", "kind", "waiting", "places", "below", "best", "state", "at"]
theorem sc_set : FnScope N_set ["bed", "table"] (defScope (top 30)) := ⟨rfl, rfl, rfl, by decide +kernel, rfl, by decide +kernel, by decide +kernel⟩
end
end Sy
/-! what settled_plants' walk needs: heaps with own dicts and tables, the least of a list, leaves, tuples with the newest state -/
namespace Sy
open PySem PySem.Spec PyProof.Rows L2 LamX NdefX
/-- own things that are no tuples -/
def NT (L : List (Addr × HO)) : Prop := ∀ q ∈ L, (∀ xs, q.2 ≠ .tup xs) ∧ ∀ o u, q.2 ≠ .frz o u
theorem NT.nil : NT [] := fun q h => nomatch h
theorem NT.lst {a : Addr} {xs : List V} {L : List (Addr × HO)} (h : NT L) : NT ((a, .lst xs) :: L) := fun q hq => by
  rcases List.mem_cons.mp hq with rfl | hq
  · exact ⟨fun xs z => (nomatch z), fun o u z => (nomatch z)⟩
  · exact h q hq
theorem NT.dK {a : Addr} {xs : List (Key × V)} {L : List (Addr × HO)} (h : NT L) : NT ((a, .dK xs) :: L) := fun q hq => by
  rcases List.mem_cons.mp hq with rfl | hq
  · exact ⟨fun xs z => (nomatch z), fun o u z => (nomatch z)⟩
  · exact h q hq
theorem NT.tbl {a : Addr} {xs : Array Value} {L : List (Addr × HO)} (h : NT L) : NT ((a, .tbl xs) :: L) := fun q hq => by
  rcases List.mem_cons.mp hq with rfl | hq
  · exact ⟨fun xs z => (nomatch z), fun o u z => (nomatch z)⟩
  · exact h q hq
theorem NT.sqt {K : PySem.W.Frag} {B H : Hp} {L : List (Addr × HO)} (n : NT L) (h : Hs B L H) {a : Addr} {xs : List V} (t : SqT K H a xs) : SqT K (cut L H) a xs := sqt_cut h.own n t
theorem NT.best {K : PySem.W.Frag} {B H : Hp} {L : List (Addr × HO)} (n : NT L) (h : Hs B L H) {kvs : List (Key × V)} {E : EMap} (t : BestR K H kvs E) : BestR K (cut L H) kvs E :=
  Paired.mapP t fun _ _ ⟨z, a, z1, c, z2, z3⟩ => ⟨z, a, z1, c, n.sqt h z2, n.sqt h z3⟩
/-- .. and no code objects -/
def NC (L : List (Addr × HO)) : Prop := ∀ q ∈ L, ∀ c x, q.2 ≠ CodeO c x
theorem NC.nil : NC [] := fun q h => nomatch h
theorem NC.lst {a : Addr} {xs : List V} {L : List (Addr × HO)} (h : NC L) : NC ((a, .lst xs) :: L) := fun q hq => by
  rcases List.mem_cons.mp hq with rfl | hq
  · intro c x z; unfold CodeO at z; cases z
  · exact h q hq
theorem NC.dK {a : Addr} {xs : List (Key × V)} {L : List (Addr × HO)} (h : NC L) : NC ((a, .dK xs) :: L) := fun q hq => by
  rcases List.mem_cons.mp hq with rfl | hq
  · intro c x z; unfold CodeO at z; cases z
  · exact h q hq
theorem NC.tbl {a : Addr} {xs : Array Value} {L : List (Addr × HO)} (h : NC L) : NC ((a, .tbl xs) :: L) := fun q hq => by
  rcases List.mem_cons.mp hq with rfl | hq
  · intro c x z; unfold CodeO at z; cases z
  · exact h q hq
theorem NC.tb {B H : Hp} {L : List (Addr × HO)} (n : NC L) (h : Hs B L H) {ps : Array Value} {q : Str} (t : TbOk H ps q) : TbOk (cut L H) ps q := ⟨t.1, fun pos cv hc => by
  obtain ⟨c, e1, e2⟩ := t.2 pos cv hc
  refine ⟨c, e1, ?_⟩
  rw [cut_at]
  · exact e2
  · intro hm
    obtain ⟨p, hp, z⟩ := List.mem_map.mp hm
    have := h.own p hp
    rw [z, e2] at this
    exact n p hp _ _ (Option.some.inj this).symm⟩
theorem NC.del {H : Hp} {p : Addr} {o : HO} {ps : Array Value} {q : Str} (t : TbOk H ps q) (hp : H p = some o) (n : ∀ c x, o ≠ CodeO c x) : TbOk (L2.del H p) ps q := ⟨t.1, fun pos cv hc => by
  obtain ⟨c, e1, e2⟩ := t.2 pos cv hc
  refine ⟨c, e1, ?_⟩
  rw [del_ne]
  · exact e2
  · intro z
    rw [z, hp] at e2
    exact n _ _ (Option.some.inj e2)⟩
/-- known things, when the heap has them and p is none of them -/
theorem same_delO {B H : Hp} {p : Addr} {o : HO} (h : Hs B [(p, o)] H) : Same B (L2.del H p) := fun b w e => by
  rw [del_ne]
  · exact h.sub b w e
  · intro z
    have := h.ap (p, o) List.mem_cons_self
    rw [z] at e
    rw [this] at e
    cases e
/-! the first of the least -/
theorem argBest_min (f : Nat → Ent) : ∀ k, PySem.argBest (fun i j => eLt (f i) (f j)) k ≤ k ∧ ∀ j, j ≤ k → eLt (f j) (f (PySem.argBest (fun i j => eLt (f i) (f j)) k)) = false
  | 0 => ⟨Nat.le_refl _, fun j hj => by
    have : j = 0 := by omega
    subst this
    exact nLt_self _⟩
  | k + 1 => by
    obtain ⟨h1, h2⟩ := argBest_min f k
    unfold PySem.argBest
    by_cases c : eLt (f (k + 1)) (f (PySem.argBest (fun i j => eLt (f i) (f j)) k)) = true
    · rw [if_pos c]
      refine ⟨Nat.le_refl _, fun j hj => ?_⟩
      by_cases e : j = k + 1
      · rw [e]; exact nLt_self _
      · exact nLt_trans (nLt_asym c) (h2 j (by omega))
    · rw [if_neg c]
      refine ⟨by omega, fun j hj => ?_⟩
      by_cases e : j = k + 1
      · rw [e]; simpa using c
      · exact h2 j (by omega)
/-! leaves -/
def lvI (rows : List Sy.Row) : List Nat := (List.range rows.length).filter fun i => decide ((rows.getD i ("", 0)).2 = 0)
theorem range_getD {α : Type} (d : α) (l : List α) : (List.range l.length).map (fun i => l.getD i d) = l := by
  apply List.ext_getElem?
  intro i
  rw [List.getElem?_map]
  by_cases h : i < l.length
  · rw [List.getElem?_range h, Option.map_some, List.getD_eq_getElem?_getD, List.getElem?_eq_getElem h]
    rfl
  · rw [List.getElem?_eq_none (by rw [List.length_range]; omega), List.getElem?_eq_none (by omega)]
    rfl
theorem leafs_lv (rows : List Sy.Row) : leafs rows = (lvI rows).map fun i => (rows.getD i ("", 0)).1 := by
  have h : rows.filter (fun r => decide (r.2 = 0)) = (lvI rows).map fun i => rows.getD i ("", 0) := by
    unfold lvI
    have e := List.filter_map (f := fun i => rows.getD i (("", 0) : Sy.Row)) (p := fun r : Sy.Row => decide (r.2 = 0)) (l := List.range rows.length)
    rw [range_getD] at e
    exact e
  unfold leafs
  rw [h, List.map_map]
  rfl
theorem getD_at {rows : List Sy.Row} {i : Nat} {r : Sy.Row} (h : rows[i]? = some r) : rows.getD i ("", 0) = r := by rw [List.getD_eq_getElem?_getD, h]; rfl
theorem lv_mem {rows : List Sy.Row} {i : Nat} : i ∈ lvI rows ↔ (Sz rows)[i]? = some 0 := by
  unfold lvI Sz
  rw [List.mem_filter, List.mem_range, List.getElem?_map, decide_eq_true_iff]
  constructor
  · rintro ⟨h1, h2⟩
    rw [List.getD_eq_getElem?_getD, List.getElem?_eq_getElem h1] at h2
    rw [List.getElem?_eq_getElem h1, Option.map_some]
    exact congrArg some h2
  · intro h
    cases e : rows[i]? with
    | none => rw [e] at h; cases h
    | some r =>
      rw [e] at h
      rw [getD_at e]
      exact ⟨(List.getElem?_eq_some_iff.mp e).1, Option.some.inj h⟩
theorem rk_at : ∀ {rows : List Sy.Row} {n i : Nat} {r : Sy.Row}, (rows.map (·.1)).Nodup → rows[i]? = some r → rk n rows r.1 = some (n + i)
  | [], _, _, _, _, h => by simp at h
  | q :: rows, n, 0, r, nd, h => by
    have : q = r := by simpa using h
    subst this
    show (if q.1 = q.1 then some n else _) = _
    rw [if_pos rfl]
    rfl
  | q :: rows, n, i + 1, r, nd, h => by
    obtain ⟨h1, h2⟩ := List.nodup_cons.mp (show (q.1 :: rows.map (·.1)).Nodup from nd)
    have h : rows[i]? = some r := by simpa using h
    show (if q.1 = r.1 then some n else rk (n + 1) rows r.1) = _
    rw [if_neg (fun z => h1 (by rw [z]; exact List.mem_map.mpr ⟨r, List.mem_of_getElem? h, rfl⟩)), rk_at h2 h]
    congr 1
    omega
theorem row_isK {rows : List Sy.Row} {i : Nat} {r : Sy.Row} (nd : (rows.map (·.1)).Nodup) (h : rows[i]? = some r) : isK rows r.1 = true ∧ ar rows r.1 = r.2 := by
  have : rows.lookup r.1 = some r.2 := by
    induction rows generalizing i with
    | nil => simp at h
    | cons q rows ih =>
      obtain ⟨h1, h2⟩ := List.nodup_cons.mp (show (q.1 :: rows.map (·.1)).Nodup from nd)
      rw [lookup_cons]
      cases i with
      | zero =>
        have : q = r := by simpa using h
        subst this
        rw [if_pos rfl]
      | succ i =>
        have h : rows[i]? = some r := by simpa using h
        rw [if_neg (fun z => h1 (by rw [z]; exact List.mem_map.mpr ⟨r, List.mem_of_getElem? h, rfl⟩)), ih h2 h]
  exact ⟨by unfold isK; rw [this]; rfl, by unfold ar; rw [this]; rfl⟩
/-! tuples with the newest state -/
theorem pick {S : List Int} {s : Int} (hn : s ∉ S) : ∀ {b : List Int}, (∀ x ∈ b, x ∈ S ++ [s]) → ∃ p : List Int, p.length = b.length ∧ (∀ x ∈ p, inS ((S.length + 1 : Nat) : Int) x = true) ∧ (s ∈ b → (S.length : Int) ∈ p) ∧ (p.map fun at_ => (S ++ [s]).getD at_.toNat 0) = b
  | [], _ => ⟨[], rfl, fun _ h => (nomatch h), fun h => (nomatch h), rfl⟩
  | x :: b, h => by
    obtain ⟨p, h1, h2, h3, h4⟩ := pick hn fun y hy => h y (List.mem_cons_of_mem _ hy)
    have hx := h x List.mem_cons_self
    obtain ⟨j, hj, ej, es⟩ : ∃ j : Nat, j < S.length + 1 ∧ (S ++ [s])[j]? = some x ∧ (x = s → j = S.length) := by
      by_cases c : x = s
      · exact ⟨S.length, by omega, by rw [List.getElem?_append_right (Nat.le_refl _), Nat.sub_self, c]; rfl, fun _ => rfl⟩
      · obtain ⟨j, ej⟩ := List.mem_iff_getElem?.mp hx
        refine ⟨j, ?_, ej, fun z => absurd z c⟩
        have := (List.getElem?_eq_some_iff.mp ej).1
        rw [List.length_append] at this
        exact this
    refine ⟨(j : Int) :: p, by rw [List.length_cons, List.length_cons, h1], fun y hy => ?_, fun hs => ?_, ?_⟩
    · rcases List.mem_cons.mp hy with rfl | hy
      · exact inS_iff.mpr ⟨by omega, by omega⟩
      · exact h2 y hy
    · rcases List.mem_cons.mp hs with hs | hs
      · rw [es hs.symm]; exact List.mem_cons_self
      · exact List.mem_cons_of_mem _ (h3 hs)
    · rw [List.map_cons, h4, List.getD_eq_getElem?_getD, Int.toNat_natCast, ej]
      rfl
def ofRw (rows : List Sy.Row) (S : List Int) (r : Str × List Int) : Nat × List Int := ((rk 0 rows r.1).getD 0, r.2.map fun at_ => S.getD at_.toNat 0)
theorem rw_mem {rows : List Sy.Row} {n : Nat} {r : Str × List Int} (h : r ∈ rwZ n rows) : ∃ (i : Nat) (q : Sy.Row), rows[i]? = some q ∧ r.1 = q.1 ∧ r.2 ∈ twZ n q.2 := by
  unfold rwZ at h
  obtain ⟨q, hq, hm⟩ := List.mem_flatMap.mp h
  obtain ⟨l, hl, rfl⟩ := List.mem_map.mp hm
  obtain ⟨i, ei⟩ := List.mem_iff_getElem?.mp hq
  exact ⟨i, q, ei, rfl, hl⟩
theorem getD_mem {S : List Int} {x : Int} {n : Nat} (h : inS (n : Nat) x = true) (hn : n ≤ S.length) : S.getD x.toNat 0 ∈ S ∧ atI (vI S) x = some (.int (S.getD x.toNat 0)) := by
  obtain ⟨h1, h2⟩ := inS_iff.mp h
  have hl : x.toNat < S.length := by omega
  have e : S[x.toNat]? = some (S.getD x.toNat 0) := by rw [List.getD_eq_getElem?_getD, List.getElem?_eq_getElem hl]; rfl
  refine ⟨List.mem_of_getElem? e, ?_⟩
  have := atI_nat (xs := vI S) (j := x.toNat) (v := .int (S.getD x.toNat 0)) (by rw [vI, List.getElem?_map, e]; rfl)
  rwa [show ((x.toNat : Nat) : Int) = x by omega] at this
/-- what is offered behind a step: all that stand on the settled states and on the newest -/
theorem rw_done {rows : List Sy.Row} (nd : (rows.map (·.1)).Nodup) {S : List Int} {s : Int} (hn : s ∉ S) :
    (∀ p ∈ (rwZ S.length rows).map (ofRw rows (S ++ [s])), ∃ n, (Sz rows)[p.1]? = some n ∧ p.2.length = n ∧ (∀ x ∈ p.2, x ∈ S ++ [s]) ∧ s ∈ p.2) ∧
    ∀ (i n : Nat) (b : List Int), (Sz rows)[i]? = some n → b.length = n → (∀ x ∈ b, x ∈ S ++ [s]) → s ∈ b → (i, b) ∈ (rwZ S.length rows).map (ofRw rows (S ++ [s])) := by
  constructor
  · intro p hp
    obtain ⟨r, hr, rfl⟩ := List.mem_map.mp hp
    obtain ⟨i, q, e, e1, h⟩ := rw_mem hr
    obtain ⟨t1, t2, t3⟩ := tw_mem.mp h
    have er : (rk 0 rows r.1).getD 0 = i := by rw [e1, rk_at nd e]; simp
    refine ⟨q.2, ?_, ?_, fun x hx => ?_, ?_⟩
    · show (Sz rows)[(rk 0 rows r.1).getD 0]? = _
      rw [er, Sz, List.getElem?_map, e]
      rfl
    · show (r.2.map _).length = _
      rw [List.length_map, t1]
    · obtain ⟨y, hy, rfl⟩ := List.mem_map.mp hx
      exact (getD_mem (t2 y hy) (by rw [List.length_append]; exact Nat.le_refl _)).1
    · refine List.mem_map.mpr ⟨_, t3, ?_⟩
      rw [Int.toNat_natCast, List.getD_eq_getElem?_getD, List.getElem?_append_right (Nat.le_refl _), Nat.sub_self]
      rfl
  · intro i n b hi hb hx hs
    obtain ⟨q, e, rfl⟩ : ∃ q, rows[i]? = some q ∧ q.2 = n := by
      unfold Sz at hi
      rw [List.getElem?_map] at hi
      cases e : rows[i]? with
      | none => rw [e] at hi; cases hi
      | some q => rw [e] at hi; exact ⟨q, rfl, Option.some.inj hi⟩
    obtain ⟨p, h1, h2, h3, h4⟩ := pick hn hx
    refine List.mem_map.mpr ⟨(q.1, p), ?_, ?_⟩
    · unfold rwZ
      exact List.mem_flatMap.mpr ⟨q, List.mem_of_getElem? e, List.mem_map.mpr ⟨p, tw_mem.mpr ⟨by rw [h1, hb], h2, h3 hs⟩, rfl⟩⟩
    · unfold ofRw
      rw [h4, rk_at nd e]
      simp
end Sy
namespace Sy
open PySem PySem.Spec PyProof.Rows L2 LamX NdefX
theorem argBest_congr {bt bt' : Nat → Nat → Bool} : ∀ {k : Nat}, (∀ i j, i ≤ k → j ≤ k → bt i j = bt' i j) → PySem.argBest bt k = PySem.argBest bt' k ∧ PySem.argBest bt k ≤ k
  | 0, _ => ⟨rfl, Nat.le_refl _⟩
  | k + 1, h => by
    obtain ⟨h1, h2⟩ := argBest_congr (bt := bt) (bt' := bt') (k := k) fun i j hi hj => h i j (by omega) (by omega)
    unfold PySem.argBest
    rw [← h1, h (k + 1) _ (Nat.le_refl _) (by omega)]
    refine ⟨rfl, ?_⟩
    split <;> omega
/-- the values that min's key gives -/
def wkV (kvs : List (Key × V)) (s : Int) : V := (valV kvs (Sum.inl s : Key)).getD .non
theorem dp_keys {K : PySem.W.Frag} {H : Hp} {kvs : List (Key × V)} {E : EMap} (h : BestR K H kvs E) : ∀ {W : List Int}, (∀ s ∈ W, s ∈ kyE E) → DpAll K H (W.map (wkV kvs)) (W.map fun s => EntD (gE E s))
  | [], _ => .nil
  | s :: W, hs => by
    obtain ⟨a, e1, e2⟩ := (h.get s).2 _ (lk_gE (hs s List.mem_cons_self))
    refine .cons ?_ (dp_keys h fun x hx => hs x (List.mem_cons_of_mem _ hx))
    unfold wkV
    rw [e1]
    exact e2.im.dp
theorem depth_all {ds : List PyData} (h : ∀ d ∈ ds, d.depth ≤ 40) : PyData.depthAll ds ≤ 40 := by
  induction ds with
  | nil => exact Nat.zero_le _
  | cons d ds ih =>
    have h1 := h d List.mem_cons_self
    have h2 := ih fun x hx => h x (List.mem_cons_of_mem _ hx)
    exact Nat.max_le.mpr ⟨h1, h2⟩
theorem alike_keys (g : Int → Ent) (W : List Int) : PySem.W.AlikeAll (W.map fun s => EntD (g s)) := by
  refine ⟨fun x hx y hy => ?_, fun x hx z => ?_⟩
  · obtain ⟨s, _, rfl⟩ := List.mem_map.mp hx
    obtain ⟨t, _, rfl⟩ := List.mem_map.mp hy
    exact alike_ent _ _
  · obtain ⟨s, _, rfl⟩ := List.mem_map.mp hx
    cases z
/-- the one that min gives -/
theorem min_pick {g : Int → Ent} {W : List Int} (hW : 0 < W.length) {x : V} (h : (vI W)[PySem.argBest (fun i j => PySem.W.dataLt ((W.map fun s => EntD (g s)).getD i .none) ((W.map fun s => EntD (g s)).getD j .none)) ((vI W).length - 1)]? = some x) :
    ∃ s ∈ W, x = .int s ∧ ∀ t ∈ W, eLt (g t) (g s) = false := by
  have hl : (vI W).length = W.length := List.length_map ..
  rw [hl] at h
  obtain ⟨e1, e2⟩ := argBest_congr (k := W.length - 1) (bt := fun i j => PySem.W.dataLt ((W.map fun s => EntD (g s)).getD i .none) ((W.map fun s => EntD (g s)).getD j .none)) (bt' := fun i j => eLt (g (W.getD i 0)) (g (W.getD j 0))) fun i j hi hj => by
    have h1 : ∀ i, i ≤ W.length - 1 → (W.map fun s => EntD (g s)).getD i .none = EntD (g (W.getD i 0)) := fun i hi => by
      rw [List.getD_eq_getElem?_getD, List.getElem?_map, List.getD_eq_getElem?_getD, List.getElem?_eq_getElem (show i < W.length by omega)]
      rfl
    show PySem.W.dataLt _ _ = _
    rw [h1 i hi, h1 j hj, eLt_data]
  obtain ⟨m1, m2⟩ := argBest_min (fun i => g (W.getD i 0)) (W.length - 1)
  rw [e1] at h
  generalize PySem.argBest (fun i j => eLt (g (W.getD i 0)) (g (W.getD j 0))) (W.length - 1) = k at *
  have hk : W[k]? = some (W.getD k 0) := by rw [List.getD_eq_getElem?_getD, List.getElem?_eq_getElem (show k < W.length by omega)]; rfl
  rw [vI, List.getElem?_map, hk] at h
  refine ⟨W.getD k 0, List.mem_of_getElem? hk, (Option.some.inj h).symm, fun t ht => ?_⟩
  obtain ⟨j, ej⟩ := List.mem_iff_getElem?.mp ht
  have hj := (List.getElem?_eq_some_iff.mp ej).1
  have := m2 j (by omega)
  rwa [show W.getD j 0 = t by rw [List.getD_eq_getElem?_getD, ej]; rfl] at this
theorem Hs.same_of_but {B H H' : Hp} {L : List (Addr × HO)} {p : Addr} {o : HO} (h : Hs B L H) (hp : (p, o) ∈ L) (b : But p H H') : Same B H' := fun a w e => b a w (fun z => by
  have := h.ap _ hp
  rw [z, this] at e
  cases e) (h.sub a w e)
end Sy
/-! settled_plants -/
namespace Sy
open PySem PySem.Spec PyProof.Rows L2 LamX NdefX
section
variable {P : Program} {w : World} {K : PySem.W.Frag} {mg : Str → Option Value} {base : Heap}
theorem k_set {c tb : Addr} (T : Txt K mg) (hmin : mg "min" = none) (TB : TabB base mg c tb) (F : FDc K "settled_plants" (top 30) c) (hmg : mg "settled_plants" = some (.ref (He.ga K "settled_plants")))
    (c_rows_with : Cal P w K mg base 3 "rows_with" ["bed", "newest"] (spRw K)) (c_offer : Cal P w K mg base 1 "_offer" ["best", "state", "rank", "below"] (spOff K)) (c_leaves : CalM P w K mg base 1 "leaves" ["self"] (spLeaves K)) (c_rank : CalM P w K mg base 1 "rank" ["self", "kind"] (spRank K)) :
    Cal P w K mg base 5 "settled_plants" ["bed", "table"] (spSet P w K tb) := by
  refine cal_ofC F hmg sc_set (fun _ _ _ _ _ _ us e => match us, e with | [_, _], _ => rfl) (fun vs H Q E s => by obtain ⟨_, _, _, _, _, _, _, _, rfl, _⟩ := s; rfl) ?_
  intro A outer sh H vs Q E0 hr h
  have sc := sc_set
  have hu := hu_of hr
  have hu4 := hu4_of hr
  obtain ⟨mR, fR, FR, BR⟩ := c_rank
  obtain ⟨mL, fL, FL, BL⟩ := c_leaves
  refine ⟨_, (pss_cons (ps_set (i := 7) sc.nd rfl (Or.inr rfl) pe_dnewK)
      (pss_cons (ps_set (i := 2) sc.nd rfl (Or.inr rfl) (pe_lst pa_nil))
      (pss_cons (ps_for (passes_of rfl) rfl (pi_tup (pe_meth0 (pv 0) T.bed.cl mL FL (hr.mono (by decide)) BL .nil (E := C8.E0) (fun pins σ H s e s' I h => passL pins σ H s e s' I h))) (pg_name (i := 3) sc.nd rfl (Or.inl rfl))
        (pss_one (ps_expr (pe_cal c_offer hr (pa_cons (pv 7) (pa_cons (pe_nget hu4 (pv 1) (pe_tup (pa_cons (pv 3) (pa_cons (pe_tup pa_nil) pa_nil))) (fun _ _ => rfl)) (pa_cons (pe_meth (pv 0) T.bed.cl mR FR (hr.mono (by decide)) BR .nil (E := C8.E0) (fun pins σ H s e s' I h => passL pins σ H s e s' I h) (pa_cons (pv 3) pa_nil)) (pa_cons (pe_tup pa_nil) pa_nil))))))))
      (pss_cons (ps_while (passes_of rfl) (pt_cmpR op_lt (pe_callB call_len_seq (by rfl) T.len (by decide +kernel) (pa_cons (pv 2) pa_nil)) (pe_callB call_lenD (by rfl) T.len (by decide +kernel) (pa_cons (pv 7) pa_nil)) (nomark _))
        (pss_cons (ps_lock (ps_setLc (i := 4) (own := [("state", 8)]) (g := gName 8) (tt := tTest (tOp (rIn K true) (tVar 8) (tVar 2))) (te := tVar 8) rfl sc.nd rfl rfl (sw_true rfl rfl rfl (by decide +kernel)) (pi_keys (pv 7)) (blkOk_by (N := N_set) (sc := defScope (top 30)) (by decide +kernel)) (fun _ _ _ _ _ => (pg_name (i := 8) sc.nd rfl (Or.inl rfl))) (fun _ _ _ _ _ => (pts_one (pt_cmpR op_notIn_seq (pv 8) (pv 2) rfl))) (fun _ _ _ _ _ => (pv 8))))
        (pss_cons (ps_expr (pe_bm PySem.F.plainAttrs_list PySem.F.slot_list_append PySem.F.type_list_append mt_append (pv 2) (pa_cons (pe_minLam (c := c) (P := tb) (k := 1) (N := N_lam) (fr := ["best"]) (js := [7]) (x := "one") (scope := lamSc) (tb := tDGet (tVar 1) (tVar 0)) (by rfl) hmin (pa_cons (pv 4) pa_nil) TB (by rfl) (by rfl) (hr.mono (by decide)) sc_lam (by exact lam_free) (by exact lam_fr) (by rfl) (by rfl) (fun _ _ _ _ _ _ => rfl) (fun A outer s H cl c f r => pe_dget (hu_of r) (pv 1) (pv 0) (fun _ _ => rfl))) pa_nil)))
        (pss_one (ps_for (passes_of rfl) rfl (pi_list (pe_cal c_rows_with hr (pa_cons (pv 0) (pa_cons (pe_op op_sub (pe_callB call_len_seq (by rfl) T.len (by decide +kernel) (pa_cons (pv 2) pa_nil)) pe_int) pa_nil)))) (pg_tup rfl (pgs_cons (pg_name (i := 3) sc.nd rfl (Or.inl rfl)) (pgs_cons (pg_name (i := 5) sc.nd rfl (Or.inl rfl)) pgs_nil)))
          (pss_cons (ps_set (i := 6) sc.nd rfl (Or.inl rfl) (pe_callTy call_tuple_of (by rfl) T.tuple (by decide +kernel) (pa_cons (pe_lc (own := [("at", 9)]) (g := gName 9) (te := tOp (rIxL K) (tVar 2) (tVar 9)) rfl sc.nd (pi_tup (pv 5)) (blkOk_by (N := N_set) (sc := defScope (top 30)) (by decide +kernel)) (fun _ _ _ _ _ => (pg_name (i := 9) sc.nd rfl (Or.inl rfl))) (fun _ _ _ _ _ => pts_nil) (fun _ _ _ _ _ => (pe_ix ix_list (pv 2) (pv 9) (fun _ _ => rfl)))) pa_nil)))
          (pss_one (ps_expr (pe_cal c_offer hr (pa_cons (pv 7) (pa_cons (pe_nget hu4 (pv 1) (pe_tup (pa_cons (pv 3) (pa_cons (pv 6) pa_nil))) (fun _ _ => rfl)) (pa_cons (pe_meth (pv 0) T.bed.cl mR FR (hr.mono (by decide)) BR .nil (E := C8.E0) (fun pins σ H s e s' I h => passL pins σ H s e s' I h) (pa_cons (pv 3) pa_nil)) (pa_cons (pv 6) pa_nil)))))))))))))
      (pss_one (ps_ret (pe_lc (own := [("state", 8)]) (g := gName 8) (te := tTup (tCons (tVar 8) (StX.tStar K (tDGet (tVar 7) (tVar 8)) tNil))) rfl sc.nd (pi_list (pv 2)) (blkOk_by (N := N_set) (sc := defScope (top 30)) (by decide +kernel)) (fun _ _ _ _ _ => (pg_name (i := 8) sc.nd rfl (Or.inl rfl))) (fun _ _ _ _ _ => pts_nil) (fun _ _ _ _ _ => (pe_tup (pa_cons (pv 8) (StX.pa_star (pe_dget hu (pv 7) (pv 8) (fun _ _ => rfl)) pa_nil))))))))))), ?_⟩
  obtain ⟨b, t, rows, d, m, top', B, ps, rfl, hs, htb, hb, ok, hT, hm1, hm, hpw, htop, hst, hq⟩ := h
  have hP := hs.r0
  have sB1 := same_delO hs
  have h0 := (Hs.start H).take hP
  obtain ⟨B1, eB1⟩ : ∃ B1, B1 = L2.del H tb := ⟨_, rfl⟩
  rw [← eB1] at h0 sB1
  replace htb := htb.same sB1
  replace hb := hb.mono (Stay.of sB1)
  replace hT := hT.same sB1
  clear hs
  have okd := ok.nd
  have htopS : ∀ n ∈ Sz rows, n ≤ top' := fun n hn => by
    obtain ⟨r, hr', rfl⟩ := List.mem_map.mp hn
    exact htop r hr'
  have stI : ∀ (i n : Nat) (bl : List Int), (Sz rows)[i]? = some n → bl.length = n → (∀ x ∈ bl, inS (m : Nat) x = true) → ∃ r, rows[i]? = some r ∧ rows.getD i ("", 0) = r ∧ r.2 = n ∧ 0 ≤ St rows d i bl ∧ St rows d i bl < (m : Nat) := fun i n bl hi hl hx => by
    unfold Sz at hi
    rw [List.getElem?_map] at hi
    cases e : rows[i]? with
    | none => rw [e] at hi; cases hi
    | some r =>
      rw [e] at hi
      have e2 : r.2 = n := Option.some.inj hi
      obtain ⟨k1, k2⟩ := row_isK okd e
      have := inS_iff.mp (hst r.1 bl k1 (by rw [hl, k2, e2]) hx)
      unfold St
      rw [getD_at e]
      exact ⟨r, rfl, rfl, e2, this⟩
  obtain ⟨dxb, dA, tR, tK, dR, pp, b1, _, _, _, _, _⟩ := id hb.ex
  refine fun bd hbd => ?_
  have h1 := h0.new (o := .dK []) hbd
  simp only [List.set_cons_succ, List.set_cons_zero]
  refine ⟨by decide, fun sd hsd => ?_⟩
  have h2 := (h1.new (o := .lst []) hsd).swap
  simp only [List.set_cons_succ, List.set_cons_zero]
  refine ⟨_, rfl, b, dxb, _, rfl, h2.sub _ _ b1, rfl, b, rows, rfl, hb.mono (Stay.of h2.sub), by have := ok.le; omega, fun H3 p s3 ht3 => ?_⟩
  obtain ⟨c1, h3⟩ := h2.after s3
  have nt0 : NT [(bd, HO.dK []), (sd, .lst []), (tb, .tbl ps)] := (NT.nil.tbl).lst.dK
  have ht3 := nt0.sqt h3 ht3
  obtain ⟨B3, eB3⟩ : ∃ B3, B3 = cut [(bd, HO.dK []), (sd, .lst []), (tb, .tbl ps)] H3 := ⟨_, rfl⟩
  rw [← eB3] at c1 h3 ht3
  replace htb := htb.same c1
  replace hb := hb.mono (Stay.of c1)
  replace hT := hT.same c1
  replace b1 := c1 _ _ b1
  obtain ⟨obT, kvT, hT1, hT2, hT3⟩ := id hT
  rw [leafs_lv, List.map_map] at ht3
  refine ⟨p, rfl, ⟨_, Same.sqt h3.sub ht3⟩, for_tup (K := K) (a := p) (xs := (lvI rows).map (V.str ∘ fun i => (rows.getD i ("", 0)).1)) (fun j σ H' => ∃ (t3 : Option V) (B : Hp) (kvs : List (Key × V)) (E : EMap), σ = [some (.ref b), some (.ref t), some (.ref sd), t3, none, none, none, some (.ref bd), none, none] ∧ Same B3 B ∧ Hs B [(bd, .dK kvs), (sd, .lst []), (tb, .tbl ps)] H' ∧ BestR K B kvs E ∧
      OInv (St rows d) m [] [] (((lvI rows).take j).map fun i => (i, [])) E)
    ⟨none, B3, [], [], rfl, Same.refl _, h3, .nil, OInv.start List.nodup_nil (fun _ h => (nomatch h)) (fun _ _ h => (nomatch h))⟩ (fun _ _ _ _ ⟨_, _, _, _, _, sB, hh, _⟩ => Same.sqt (sB.trans hh.sub) ht3) ?_ ?_⟩
  · rintro j v σ H4 hv ⟨t3, B, kvs, E, rfl, sB, hh, hB, O⟩
    obtain ⟨i, ei, rfl⟩ := map_at hv
    have sH := sB.trans hh.sub
    have hi0 := lv_mem.mp (List.mem_of_getElem? ei)
    obtain ⟨r, er, erd, er2, st1, st2⟩ := stI i 0 [] hi0 rfl (fun _ h => nomatch h)
    obtain ⟨k1, k2⟩ := row_isK okd er
    simp only [List.set_cons_succ, List.set_cons_zero]
    refine ⟨_, rfl, _, rfl, _, rfl, by decide, fun T5 hT5 => ⟨(by show 2 ≤ sizeLine; decide), fun T6 hT6 => ?_⟩⟩
    have e1 : (V.str ∘ fun i => (rows.getD i ("", 0)).1) i = .str r.1 := by show V.str (rows.getD i ("", 0)).1 = _; rw [erd]
    rw [e1] at *
    have h5a := hh.tup (o := .tup []) hT5
    have h5 := h5a.tup (o := .tup [.str r.1, .ref T5]) hT6
    have s5a : Same B (upd B T5 (.tup [])) := up_same (hh.sub.free hT5)
    have s5b : Same (upd B T5 (.tup [])) (upd (upd B T5 (.tup [])) T6 (.tup [.str r.1, .ref T5])) := up_same (h5a.sub.free hT6)
    have t5 : SqT K (upd (upd B T5 (.tup [])) T6 (.tup [.str r.1, .ref T5])) T5 (vI []) := Same.sqt s5b (SqT.of upd_same)
    have t6 : SqT K (upd (upd B T5 (.tup [])) T6 (.tup [.str r.1, .ref T5])) T6 [.str r.1, .ref T5] := SqT.of upd_same
    have sB5 := sB.trans (s5a.trans s5b)
    replace hB := hB.same (s5a.trans s5b)
    generalize upd (upd B T5 (.tup [])) T6 (.tup [.str r.1, .ref T5]) = B5 at *
    generalize upd (upd H4 T5 (.tup [])) T6 (.tup [.str r.1, .ref T5]) = H5 at *
    have sH5 := sB5.trans h5.sub
    refine ⟨t, T6, obT, kvT, zkey (r.1, []), .int (St rows d i []), rfl, rfl, sH5 _ _ hT1, hT2.mono (Stay.of sH5), NK.ofZ (Same.sqt h5.sub t6) (Same.sqt h5.sub t5), ?_, ?_⟩
    · rw [hT3 r.1 [] k1 (by rw [k2, er2]; rfl) (fun _ h => nomatch h)]
      unfold St
      rw [erd]
    refine ⟨_, rfl, b, dxb, _, rfl, sH5 _ _ b1, rfl, _, rfl, b, rows, r.1, i, rfl, hb.mono (Stay.of sH5), by rw [rk_at okd er, Nat.zero_add], by decide, fun T7 hT7 => ?_⟩
    have h6 := h5.tup (o := .tup []) hT7
    have s7 : Same B5 (upd B5 T7 (.tup [])) := up_same (h5.sub.free hT7)
    have t7 : SqT K (upd B5 T7 (.tup [])) T7 (vI []) := SqT.of upd_same
    replace hB := hB.same s7
    have sB7 := sB5.trans s7
    generalize upd B5 T7 (.tup []) = B7 at *
    generalize upd H5 T7 (.tup []) = H7 at *
    have hEl : E.length ≤ m := O.lenE
    refine ⟨bd, T7, St rows d i [], (i : Nat), [], kvs, E, rfl, h6.r0, hB.same h6.sub, O.nd, by omega, O.ok, Same.sqt h6.sub t7, Nat.zero_le _, (fun _ h => nomatch h), fun H8 kvs' chg hB' => ?_⟩
    obtain ⟨c8, h8⟩ := h6.chg chg
    have nt8 : NT [(bd, HO.dK kvs'), (sd, .lst []), (tb, .tbl ps)] := (NT.nil.tbl).lst.dK
    refine ⟨_, _, kvs', _, rfl, sB7.trans c8, h8, nt8.best h8 hB', ?_⟩
    rw [List.take_succ, ei, List.map_append]
    exact O.step (fun _ h => nomatch h) (fun _ h => nomatch h) ⟨st1, st2⟩ (fun h => nomatch h)
  rintro σ' H4 ⟨t3, B4, kvs0, E0', rfl, s4, h4, hB4, O4⟩
  rw [List.length_map, List.take_length] at O4
  have LI0 := OInv.leaves (top := top') O4 (fun q hq => by
    obtain ⟨i, hi, rfl⟩ := List.mem_map.mp hq
    exact ⟨lv_mem.mp hi, rfl⟩) (fun i hi => List.mem_map.mpr ⟨i, lv_mem.mpr hi, rfl⟩)
  replace htb := htb.same s4
  replace hb := hb.mono (Stay.of s4)
  replace hT := hT.same s4
  replace b1 := s4 _ _ b1
  replace hT1 := s4 _ _ hT1
  replace hT2 := hT2.mono (Stay.of s4)
  have c04 := c1.trans s4
  refine ⟨fun n σ H' => ∃ (t3 t4 t5 t6 : Option V) (B : Hp) (kvs : List (Key × V)) (E : EMap) (S : List Int) (ps' : Array Value), σ = [some (.ref b), some (.ref t), some (.ref sd), t3, t4, t5, t6, some (.ref bd), none, none] ∧ n = m - S.length ∧ Same B4 B ∧ Hs B [(bd, .dK kvs), (sd, .lst (vI S)), (tb, .tbl ps')] H' ∧
    TbOk B ps' lamQ ∧ BestR K B kvs E ∧ LInv (Sz rows) (St rows d) m top' E S, ⟨_, _, _, _, _, B4, kvs0, E0', [], ps, rfl, rfl, Same.refl _, h4, htb, hB4, LI0⟩, ?_⟩
  rintro _ σ H5 ⟨t3, t4, t5, t6, B, kvs, E, S, ps', rfl, rfl, sB, hh, tok, hB, LI⟩
  have hkl := paired_len hB
  refine ⟨_, rfl, sd, _, rfl, .inl (SqL.of hh.r1), _, rfl, bd, kvs, rfl, hh.r0, _, _, rfl, rfl, _, rfl, if_dec (fun c => ?_) (fun c => ?_)⟩
  · have hSl : S.length < E.length := by rw [← hkl]; rw [vI, List.length_map] at c; omega
    obtain ⟨s0, hs0, hs0n⟩ := LI.left hSl
    have hEm := LI.lenE
    refine ⟨fun σ' H' => ∃ (t3 t4 t5 t6 : Option V) (B : Hp) (kvs : List (Key × V)) (E : EMap) (S' : List Int) (ps' : Array Value), σ' = [some (.ref b), some (.ref t), some (.ref sd), t3, t4, t5, t6, some (.ref bd), none, none] ∧ S'.length = S.length + 1 ∧ Same B4 B ∧ Hs B [(bd, .dK kvs), (sd, .lst (vI S')), (tb, .tbl ps')] H' ∧
      TbOk B ps' lamQ ∧ BestR K B kvs E ∧ LInv (Sz rows) (St rows d) m top' E S', fun σ' H' => ?_, ?_⟩
    · rintro ⟨t3, t4, t5, t6, B, kvs, E, S', ps', rfl, hl, h1, h2, h3, h4, h5⟩
      exact ⟨m - S'.length, by omega, t3, t4, t5, t6, B, kvs, E, S', ps', rfl, rfl, h1, h2, h3, h4, h5⟩
    refine ⟨bd, .dK kvs, hh.r0, True.intro, fun od => ?_⟩
    have hF := hh.w0 (o' := .frz od (.dK kvs))
    refine ⟨_, rfl, bd, od, rfl, .inl ⟨kvs, hF.r0, fun D hD => lc_it walk_keys (fun i H' => Hs B [(D, .lst (vI ((kyE (E.take i)).filter fun s => decide (s ∉ S)))), (bd, .frz od (.dK kvs)), (sd, .lst (vI S)), (tb, .tbl ps')] H') (hF.new hD) (fun _ _ _ h => h.r1) ?_ ?_⟩⟩
    · rintro i x H6 _ hi h6 ⟨rfl, k, v, hk, rfl⟩
      obtain ⟨q, eq⟩ : ∃ q, E[i]? = some q := ⟨_, List.getElem?_eq_getElem (by omega)⟩
      obtain ⟨q', eq', z1, _⟩ := paired_at hB eq
      rw [hk] at eq'
      cases eq'
      have z1 : k = Sum.inl q.1 := z1
      subst z1
      have hfl : ((kyE (E.take i)).filter fun s => decide (s ∉ S)).length ≤ i := by
        have := List.length_filter_le (fun s => decide (s ∉ S)) (kyE (E.take i))
        rw [kyE, List.length_map, List.length_take] at this
        unfold kyE
        omega
      have etk : kyE (E.take (i + 1)) = kyE (E.take i) ++ [q.1] := by
        unfold kyE
        rw [List.take_succ, eq, List.map_append]
        rfl
      refine ⟨?_, ?_⟩
      · simp only [wipe, List.map_cons, List.map_nil, List.set_cons_succ, List.set_cons_zero]
      simp only [wipe, List.map_cons, List.map_nil, List.set_cons_succ, List.set_cons_zero]
      refine ⟨_, rfl, _, rfl, sd, vI S, rfl, .inl (SqL.of h6.r2), rfl, all_ints S, _, rfl, ?_⟩
      have ei : inV (kV (Sum.inl q.1)) (vI S) = decide (q.1 ∈ S) := inV_int q.1 S
      simp only [if_true]
      rw [ei]
      by_cases hm : q.1 ∈ S
      · rw [decide_eq_true hm]
        refine iteF ?_
        rw [etk, List.filter_append]
        have : [q.1].filter (fun s => decide (s ∉ S)) = [] := by simp [hm]
        rw [this, List.append_nil]
        exact h6
      · rw [decide_eq_false hm]
        refine iteT ⟨_, rfl, _, h6.r0, by rw [vI, List.length_map, sizeLine_eq]; omega, ?_⟩
        rw [etk, List.filter_append]
        have : [q.1].filter (fun s => decide (s ∉ S)) = [q.1] := by simp [hm]
        rw [this, vI, List.map_append]
        exact h6.w0
    · intro H6 h6
      rw [hkl, List.take_length] at h6
      obtain ⟨W, eW⟩ : ∃ W, W = (kyE E).filter fun s => decide (s ∉ S) := ⟨_, rfl⟩
      rw [← eW] at h6
      have hWm : ∀ s, s ∈ W ↔ s ∈ kyE E ∧ s ∉ S := fun s => by rw [eW, List.mem_filter, decide_eq_true_iff]
      have hWk : ∀ s ∈ W, s ∈ kyE E := fun s hs => ((hWm s).mp hs).1
      have hW0 : 0 < W.length := List.length_pos_of_mem ((hWm s0).mpr ⟨hs0, hs0n⟩)
      refine ⟨h6.r1, ?_⟩
      have h7 := h6.w1 (o' := .dK kvs)
      simp only [List.set_cons_succ, List.set_cons_zero]
      refine ⟨_, rfl, .inl ⟨rfl, _, SqL.of h7.r2⟩, _, rfl, ps', h7.r3, tok.same h7.sub, fun ps2 H8 chg tok2 => ?_⟩
      have h7p := h7.perm (L' := [(tb, .tbl ps'), (D, .lst (vI W)), (bd, .dK kvs), (sd, .lst (vI S))]) (by
        have := List.perm_append_comm (l₁ := [(D, HO.lst (vI W)), (bd, .dK kvs), (sd, .lst (vI S))]) (l₂ := [(tb, HO.tbl ps')])
        exact this)
      obtain ⟨c8, h8⟩ := h7p.chg chg
      have nc8 : NC [(tb, HO.tbl ps2), (D, .lst (vI W)), (bd, .dK kvs), (sd, .lst (vI S))] := ((NC.nil.lst).dK.lst).tbl
      replace tok2 := nc8.tb h8 tok2
      generalize cut [(tb, HO.tbl ps2), (D, .lst (vI W)), (bd, .dK kvs), (sd, .lst (vI S))] H8 = B8 at *
      have hB8 := hB.same c8
      have hDb : bd ≠ D := fun z => by
        have := h8.nd
        simp [z] at this
      refine ⟨D, vI W, W.map (wkV kvs), W.map fun s => EntD (gE E s), rfl, h8.r1, by rw [vI, List.length_map]; exact hW0, by rw [vI, List.length_map, List.length_map], dp_keys (hB8.same h8.sub) hWk, alike_keys _ _, depth_all fun x hx => by
        obtain ⟨s, _, rfl⟩ := List.mem_map.mp hx
        exact ent_depth _, fun H9 but => ⟨dp_keys (hB8.same (h8.same_of_but (o := .lst (vI W)) (by simp) but)) hWk, fun i x w hx hw => ?_⟩, fun x hx => ?_⟩
      · rw [vI, List.getElem?_map] at hx
        rw [List.getElem?_map] at hw
        cases es : W[i]? with
        | none => rw [es] at hx; cases hx
        | some s =>
          rw [es] at hx hw
          have hx : V.int s = x := Option.some.inj hx
          have hw : wkV kvs s = w := Option.some.inj hw
          subst hx hw
          obtain ⟨a, e1, _⟩ := (hB8.get s).2 _ (lk_gE (hWk s (List.mem_of_getElem? es)))
          refine ⟨_, rfl, _, rfl, bd, _, rfl, ?_, rfl, rfl⟩
          unfold wkV
          rw [e1]
          show DGet H9 bd (V.int s) (some (V.ref a))
          rw [← e1]
          exact DGet.k (k := Sum.inl s) (but _ _ hDb h8.r2)
      obtain ⟨s, hsW, rfl, hmin'⟩ := min_pick hW0 hx
      obtain ⟨hsE, hsS⟩ := (hWm s).mp hsW
      have hmin2 : ∀ t ∈ kyE E, t ∉ S → eLt (gE E t) (gE E s) = false := fun t h1 h2 => hmin' t ((hWm t).mpr ⟨h1, h2⟩)
      refine ⟨sd, vI S, .int s, rfl, rfl, h8.r3, by rw [vI, List.length_map, sizeLine_eq]; omega, ?_⟩
      have h9 := (h8.swap.drop.perm (L' := [(sd, .lst (vI S)), (bd, .dK kvs), (tb, .tbl ps2)]) (by
        exact (List.reverse_perm [(sd, HO.lst (vI S)), (bd, .dK kvs), (tb, .tbl ps2)]))).w0 (o' := .lst (vI S ++ [.int s]))
      have h9 := h9.swap
      rw [show vI S ++ [V.int s] = vI (S ++ [s]) by unfold vI; rw [List.map_append]; rfl] at h9 ⊢
      obtain ⟨H9, eH9⟩ : ∃ H9, H9 = upd H8 sd (.lst (vI (S ++ [s]))) := ⟨_, rfl⟩
      rw [← eH9] at h9 ⊢
      have sB8 := sB.trans c8
      have hSl2 : (S ++ [s]).length = S.length + 1 := by rw [List.length_append]; rfl
      refine ⟨_, rfl, _, rfl, sd, _, rfl, .inl (SqL.of h9.r1), _, _, rfl, rfl, b, S.length, rows, ?_, hb.mono (Stay.of (sB8.trans h9.sub)), ok, by omega, fun r hr' => Nat.le_trans (Nat.pow_le_pow_left (by omega) _) (hpw r hr'), fun H10 q10 qs10 hq10 s10 hL10 hP10 => ?_⟩
      · show [V.ref b, V.int ((vI (S ++ [s])).length - 1)] = _
        rw [show (vI (S ++ [s])).length = S.length + 1 by rw [vI, List.length_map, hSl2]]
        rw [show (((S.length + 1 : Nat) : Int) - 1) = (S.length : Nat) by omega]
      obtain ⟨c10, h10⟩ := h9.after s10
      have nt10 : NT [(bd, HO.dK kvs), (sd, .lst (vI (S ++ [s]))), (tb, .tbl ps2)] := (NT.nil.tbl).lst.dK
      have hL10' : cut [(bd, HO.dK kvs), (sd, .lst (vI (S ++ [s]))), (tb, .tbl ps2)] H10 q10 = some (.lst (qs10.map V.ref)) := by rw [cut_at (h9.out_new hq10)]; exact hL10
      have hP10' : Paired (KbAt K (cut [(bd, HO.dK kvs), (sd, .lst (vI (S ++ [s]))), (tb, .tbl ps2)] H10)) qs10 (rwZ S.length rows) := Paired.mapP hP10 fun _ _ ⟨c, u1, u2⟩ => ⟨c, nt10.sqt h10 u1, nt10.sqt h10 u2⟩
      generalize cut [(bd, HO.dK kvs), (sd, .lst (vI (S ++ [s]))), (tb, .tbl ps2)] H10 = B10 at *
      have hpl10 := paired_len hP10'
      have hB10 := hB8.same c10
      have sB10 := sB8.trans c10
      obtain ⟨rd1, rd2⟩ := rw_done okd hsS
      have kS : ∀ x ∈ S ++ [s], x ∈ kyE E := fun x hx => by
        rcases List.mem_append.mp hx with hx | hx
        · exact LI.sub x hx
        · rw [List.mem_singleton.mp hx]; exact hsE
      have le_s : ∀ x ∈ S ++ [s], (gE E x).1 ≤ (gE E s).1 := fun x hx => by
        rcases List.mem_append.mp hx with hx | hx
        · exact LI.M x hx s hsE hsS
        · rw [List.mem_singleton.mp hx]; exact Int.le_refl _
      refine ⟨q10, rfl, ⟨_, SqL.of (h10.sub _ _ hL10')⟩, for_list (K := K) (xs := qs10.map V.ref) (fun j σ H' => ∃ (t3 t5 t6 : Option V) (B' : Hp) (kvs' : List (Key × V)) (E' : EMap), σ = [some (.ref b), some (.ref t), some (.ref sd), t3, some (.ref D), t5, t6, some (.ref bd), none, none] ∧ Same B10 B' ∧ Hs B' [(bd, .dK kvs'), (sd, .lst (vI (S ++ [s]))), (tb, .tbl ps2)] H' ∧ BestR K B' kvs' E' ∧
          OInv (St rows d) m E (S ++ [s]) (((rwZ S.length rows).take j).map (ofRw rows (S ++ [s]))) E')
        ⟨t3, t5, t6, B10, kvs, E, rfl, Same.refl _, h10, hB10, OInv.start LI.nd LI.rng LI.ok⟩ (fun _ _ _ _ ⟨_, _, _, _, _, _, _, s3, h3, _⟩ => SqL.of (h3.sub _ _ (s3 _ _ hL10'))) ?_ ?_⟩
      · rintro j v σ H11 hv ⟨t3, t5, t6, B', kvs', E', rfl, sB', hh', hB', O⟩
        obtain ⟨y, ey, rfl⟩ := map_at hv
        have hj : j < (rwZ S.length rows).length := by rw [← hpl10]; exact (List.getElem?_eq_some_iff.mp ey).1
        obtain ⟨r, er⟩ : ∃ r, (rwZ S.length rows)[j]? = some r := ⟨_, List.getElem?_eq_getElem hj⟩
        obtain ⟨y', ey', cc, ty1, ty2⟩ := paired_at hP10' er
        rw [ey] at ey'
        cases ey'
        have hrm := List.mem_of_getElem? er
        obtain ⟨i, rr, eri, er1, htw⟩ := rw_mem hrm
        obtain ⟨w1, w2, w3⟩ := tw_mem.mp htw
        have hrk : rk 0 rows r.1 = some i := by rw [er1, rk_at okd eri, Nat.zero_add]
        have eof : ofRw rows (S ++ [s]) r = (i, r.2.map fun at_ => (S ++ [s]).getD at_.toNat 0) := by unfold ofRw; rw [hrk]; rfl
        obtain ⟨n', g1, g2, g3, g4⟩ := rd1 _ (List.mem_map.mpr ⟨r, hrm, rfl⟩)
        rw [eof] at g1 g2 g3 g4
        obtain ⟨bl, ebl⟩ : ∃ bl, bl = r.2.map fun at_ => (S ++ [s]).getD at_.toNat 0 := ⟨_, rfl⟩
        rw [← ebl] at g1 g2 g3 g4 eof
        simp only at g1 g2 g3 g4
        have hbm : ∀ x ∈ bl, inS (m : Nat) x = true := fun x hx => inS_iff.mpr (LI.rng x (kS x (g3 x hx)))
        obtain ⟨r', er', erd, er2, st1, st2⟩ := stI i n' bl g1 g2 hbm
        obtain rfl : r' = rr := by rw [eri] at er'; exact (Option.some.inj er').symm
        obtain ⟨k1, k2⟩ := row_isK okd eri
        have hn3 := ok.br r' (List.mem_of_getElem? eri)
        have sH := sB'.trans hh'.sub
        refine ⟨y, _, rfl, Same.sqt sH ty1, rfl, _, _, rfl, _, _, rfl, rfl, ?_⟩
        simp only [List.set_cons_succ, List.set_cons_zero]
        refine ⟨_, rfl, cc, rfl, ⟨_, Same.sqt sH ty2⟩, fun DL hDL => lc_filtT (K := K) (α := Int) (a := cc) (xs := r.2) (f := V.int) (out := fun at_ => .int ((S ++ [s]).getD at_.toNat 0)) (keep := fun _ => true) (Hs.start H11) hDL (Same.sqt sH ty2) (by omega) (fun x hx H12 s12 R1 R2 y1 _ => ?_) fun H12 h12 => ?_⟩
        · simp only [tYes, if_true, wipe, List.map_cons, List.map_nil, List.set_cons_succ, List.set_cons_zero]
          have hg := getD_mem (S := S ++ [s]) (w2 x hx) (by rw [hSl2]; exact Nat.le_refl _)
          exact ⟨_, rfl, _, rfl, sd, _, x, _, rfl, rfl, SqL.of (s12 _ _ hh'.r1), hg.2, y1 rfl⟩
        rw [List.filter_eq_self.mpr (fun _ _ => rfl)] at h12
        refine ⟨DL, _, rfl, .inl ⟨SqL.of h12.r0, fun T5 hT5 => ?_⟩⟩
        have s13 : Same H11 (upd H12 T5 (.tup (r.2.map fun at_ => V.int ((S ++ [s]).getD at_.toNat 0)))) := h12.sub.trans (up_same hT5)
        have t13 : SqT K (upd H12 T5 (.tup (r.2.map fun at_ => V.int ((S ++ [s]).getD at_.toNat 0)))) T5 (vI bl) := by
          rw [ebl, vI, List.map_map]
          exact SqT.of upd_same
        obtain ⟨c13, h13⟩ := hh'.after s13
        have nt13 : NT [(bd, HO.dK kvs'), (sd, .lst (vI (S ++ [s]))), (tb, .tbl ps2)] := (NT.nil.tbl).lst.dK
        replace t13 := nt13.sqt h13 t13
        generalize cut [(bd, HO.dK kvs'), (sd, .lst (vI (S ++ [s]))), (tb, .tbl ps2)] (upd H12 T5 (.tup (r.2.map fun at_ => V.int ((S ++ [s]).getD at_.toNat 0)))) = B13 at *
        generalize upd H12 T5 (.tup (r.2.map fun at_ => V.int ((S ++ [s]).getD at_.toNat 0))) = H13 at *
        simp only [List.set_cons_succ, List.set_cons_zero]
        refine ⟨_, rfl, _, rfl, _, rfl, _, rfl, (by show 2 ≤ sizeLine; decide), fun T6 hT6 => ?_⟩
        have h6 := h13.tup (o := .tup [.str r.1, .ref T5]) hT6
        have s6 : Same B13 (upd B13 T6 (.tup [.str r.1, .ref T5])) := up_same (h13.sub.free hT6)
        have t6' : SqT K (upd B13 T6 (.tup [.str r.1, .ref T5])) T6 [.str r.1, .ref T5] := SqT.of upd_same
        replace t13 := Same.sqt s6 t13
        replace hB' := hB'.same (c13.trans s6)
        have sB6 := (sB10.trans sB').trans (c13.trans s6)
        have sT6 := sB'.trans (c13.trans s6)
        generalize upd B13 T6 (.tup [.str r.1, .ref T5]) = B6 at *
        generalize upd H13 T6 (.tup [.str r.1, .ref T5]) = H6' at *
        have sH6 := sB6.trans h6.sub
        refine ⟨t, T6, obT, kvT, zkey (r.1, bl), .int (St rows d i bl), rfl, rfl, sH6 _ _ hT1, hT2.mono (Stay.of sH6), NK.ofZ (Same.sqt h6.sub t6') (Same.sqt h6.sub t13), ?_, ?_⟩
        · rw [er1, hT3 r'.1 bl k1 (by rw [k2, er2, g2]) hbm]
          unfold St
          rw [erd]
        have hEl : E'.length ≤ m := O.lenE
        have kE' : ∀ x ∈ S ++ [s], x ∈ kyE E' := fun x hx => lk_some.mpr ⟨_, (O.fix x hx).trans (lk_gE (kS x hx))⟩
        refine ⟨_, rfl, b, dxb, _, rfl, sH6 _ _ b1, rfl, _, rfl, b, rows, r.1, i, rfl, hb.mono (Stay.of sH6), hrk, _, rfl, ?_⟩
        refine ⟨bd, T5, St rows d i bl, (i : Nat), bl, kvs', E', rfl, h6.r0, hB'.same h6.sub, O.nd, by omega, O.ok, Same.sqt h6.sub t13, by omega, fun x hx => kE' x (g3 x hx), fun H14 kvs2 chg2 hB2 => ?_⟩
        obtain ⟨c14, h14⟩ := h6.chg chg2
        have nt14 : NT [(bd, HO.dK kvs2), (sd, .lst (vI (S ++ [s]))), (tb, .tbl ps2)] := (NT.nil.tbl).lst.dK
        refine ⟨_, _, _, _, kvs2, _, rfl, ?_, h14, nt14.best h14 hB2, ?_⟩
        · exact sT6.trans c14
        rw [List.take_succ, er, List.map_append]
        show OInv _ _ _ _ (_ ++ [ofRw rows (S ++ [s]) r]) _
        rw [eof]
        refine O.step kS g3 ⟨st1, st2⟩ fun hin => ?_
        have h1 := val_gt (g := gE E) (r := (i : Nat)) (b := bl) (fun x hx => EOk.g LI.ok (kS x (g3 x hx))) g4
        have h2 := le_s _ hin
        omega
      · rintro σ H11 ⟨t3, t5, t6, B', kvs', E', rfl, sB', hh', hB', O⟩
        rw [List.length_map, hpl10, List.take_length] at O
        exact ⟨_, _, _, _, B', kvs', E', S ++ [s], ps2, rfl, hSl2, sB10.trans sB', hh', tok2.same (c10.trans sB'), hB', LI.next htopS hsE hsS hmin2 O rd1 rd2⟩
  · have hall := LI.allS (by rw [vI, List.length_map, hkl] at c; omega)
    have sB0 := c04.trans sB
    refine ⟨_, rfl, sd, rfl, ⟨_, SqL.of hh.r1⟩, fun D hD => lc_it (walk_list (K := K) (a := sd) (xs := vI S)) (fun i H' => ∃ (B' : Hp) (qs : List Addr), Same B B' ∧ Hs B' [(D, .lst (qs.map V.ref)), (bd, .dK kvs), (sd, .lst (vI S)), (tb, .tbl ps')] H' ∧ Paired (S3At K B') qs ((S.take i).map fun s => (s, gE E s)))
      ⟨B, [], Same.refl _, hh.new hD, .nil⟩ (fun _ _ _ ⟨_, _, _, h, _⟩ => SqL.of h.r2) ?_ ?_⟩
    · rintro i x H6 _ hi ⟨B', qs, s6, h6, hP6⟩ ⟨rfl, hx⟩
      obtain ⟨s, es, rfl⟩ := map_at hx
      have hsS := List.mem_of_getElem? es
      have hB' := hB.same s6
      obtain ⟨a, e1, cc, e2, e3⟩ := (hB'.get s).2 _ (lk_gE (LI.sub s hsS))
      have hql := paired_len hP6
      rw [List.length_map, List.length_take] at hql
      have hSm := LI.lenE
      have hSE : S.length ≤ m := by
        have := nd_le LI.sn LI.sub
        rw [kyE, List.length_map] at this
        omega
      refine ⟨?_, ?_⟩
      · simp only [wipe, List.map_cons, List.map_nil, List.set_cons_succ, List.set_cons_zero]
      simp only [tYes, if_true, wipe, List.map_cons, List.map_nil, List.set_cons_succ, List.set_cons_zero]
      refine ⟨_, rfl, _, rfl, _, rfl, bd, .ref a, rfl, ?_, a, _, rfl, .inl (Same.sqt h6.sub e2), (by show 3 ≤ sizeLine; decide), fun T hT => ?_⟩
      · rw [← e1]
        exact DGet.k (k := Sum.inl s) h6.r1
      have h7 := h6.tup (o := .tup [.int s, .int (gE E s).1, .ref cc]) hT
      have s7 : Same B' (upd B' T (.tup [.int s, .int (gE E s).1, .ref cc])) := up_same (h6.sub.free hT)
      refine ⟨_, h7.r0, by rw [List.length_map, sizeLine_eq]; omega, _, qs ++ [T], s6.trans s7, by rw [List.map_append]; exact h7.w0, ?_⟩
      rw [List.take_succ, es, List.map_append]
      exact Paired.snoc (Paired.mapP hP6 fun _ _ ⟨c, u1, u2⟩ => ⟨c, Same.sqt s7 u1, Same.sqt s7 u2⟩) ⟨cc, SqT.of upd_same, Same.sqt s7 e3⟩
    · rintro H6 ⟨B', qs, s6, h6, hP6⟩
      rw [show (vI S).length = S.length from List.length_map .., List.take_length] at hP6
      have hD0 : H D = none := by
        cases eD : H D with
        | none => rfl
        | some o =>
          by_cases z : D = tb
          · rw [z, hh.r2] at hD
            cases hD
          · have : B1 D = some o := by rw [eB1, del_ne z]; exact eD
            have := hh.sub _ _ (sB0 _ _ this)
            rw [hD] at this
            cases this
      have h8 := (h6.perm (L' := [(tb, .tbl ps'), (D, .lst (qs.map V.ref)), (bd, .dK kvs), (sd, .lst (vI S))]) (by
        have := List.perm_append_comm (l₁ := [(D, HO.lst (qs.map V.ref)), (bd, .dK kvs), (sd, .lst (vI S))]) (l₂ := [(tb, HO.tbl ps')])
        exact this))
      refine hq H6 ps' D qs E S hD0 (h8.isChg (by rw [← eB1]; exact sB0.trans s6)) (tok.same (s6.trans h6.sub)) h6.r0 (Paired.mapP hP6 fun _ _ ⟨c, u1, u2⟩ => ⟨c, Same.sqt h6.sub u1, Same.sqt h6.sub u2⟩) LI hall
end
end Sy
/-! least plants: what the entries spell -/
namespace Sy
open PySem PySem.Spec PyProof.Rows L2
theorem LInv.ind {sz : List Nat} {st : Nat → List Int → Int} {m top : Nat} {E : EMap} {S : List Int} (I : LInv sz st m top E S) {Pr : Int → Ent → Prop}
    (h : ∀ (s : Int) (i n : Nat) (b : List Int), sz[i]? = some n → b.length = n → (∀ x ∈ b, x ∈ S ∧ x ∈ kyE E ∧ Pr x (gE E x)) → st i b = s → lkE E s = some (val (gE E) (i : Nat) b) → Pr s (val (gE E) (i : Nat) b)) : ∀ s e, lkE E s = some e → Pr s e := by
  have key : ∀ (n : Nat) (s : Int) (e : Ent), e.1.toNat ≤ n → lkE E s = some e → Pr s e := by
    intro n
    induction n with
    | zero =>
      intro s e hn he
      have := (I.ok s e he).1
      omega
    | succ n ih =>
      intro s e hn he
      obtain ⟨i, k, b, h1, h2, h3, h4, rfl⟩ := I.A s e he
      have hk : ∀ x ∈ b, x ∈ kyE E := fun x hx => I.sub x (h3 x hx)
      refine h s i k b h1 h2 (fun x hx => ⟨h3 x hx, hk x hx, ih x _ ?_ (lk_gE (hk x hx))⟩) h4 he
      have := val_gt (g := gE E) (r := (i : Nat)) (fun y hy => EOk.g I.ok (hk y hy)) hx
      have := (EOk.g I.ok (hk x hx)).1
      omega
  exact fun s e he => key _ s e (Nat.le_refl _) he
def spell (rows : List Sy.Row) (l : List Int) : List Str := l.map fun k => (rows.getD k.toNat ("", 0)).1
theorem spell_cons (rows : List Sy.Row) (k : Int) (l : List Int) : spell rows (k :: l) = (rows.getD k.toNat ("", 0)).1 :: spell rows l := rfl
theorem spell_flat (rows : List Sy.Row) (g : Int → List Int) : ∀ b : List Int, spell rows (b.flatMap g) = b.flatMap fun x => spell rows (g x)
  | [] => rfl
  | x :: b => by
    rw [List.flatMap_cons, List.flatMap_cons, ← spell_flat rows g b]
    exact List.map_append ..
theorem sz_row {rows : List Sy.Row} {i n : Nat} (h : (Sz rows)[i]? = some n) : ∃ r, rows[i]? = some r ∧ r.2 = n := by
  unfold Sz at h
  rw [List.getElem?_map] at h
  cases e : rows[i]? with
  | none => rw [e] at h; cases h
  | some r => rw [e] at h; exact ⟨r, rfl, Option.some.inj h⟩
section
variable {rows : List Sy.Row} {d : RdrZ} {m top : Nat} {E : EMap} {S : List Int}
theorem LInv.ranks (I : LInv (Sz rows) (St rows d) m top E S) : ∀ s e, lkE E s = some e → ∀ k ∈ e.2, 0 ≤ k ∧ k < (rows.length : Nat) := by
  refine I.ind fun s i n b h1 h2 h3 h4 h5 k hk => ?_
  obtain ⟨r, er, _⟩ := sz_row h1
  have hi := (List.getElem?_eq_some_iff.mp er).1
  unfold val at hk
  simp only at hk
  split at hk
  · rcases List.mem_cons.mp hk with rfl | hk
    · omega
    · obtain ⟨x, hx, hk⟩ := List.mem_flatMap.mp hk
      exact (h3 x hx).2.2 k hk
  · cases hk
/-- l is a plant of the state s -/
structure PlS (rows : List Sy.Row) (d : RdrZ) (s : Int) (l : List Str) : Prop where
  fo : Fo 1 (wt rows l)
  kn : ∀ x ∈ l, isK rows x = true
  st : ∀ R, stkF rows d (l ++ R) = s :: stkF rows d R
theorem pls_list {f : Int → List Str} : ∀ {b : List Int}, (∀ x ∈ b, PlS rows d x (f x)) → Fo b.length (wt rows (b.flatMap f)) ∧ (∀ x ∈ b.flatMap f, isK rows x = true) ∧ ∀ R, stkF rows d (b.flatMap f ++ R) = b ++ stkF rows d R
  | [], _ => ⟨trivial, fun _ h => (nomatch h), fun R => rfl⟩
  | x :: b, h => by
    obtain ⟨h1, h2, h3⟩ := pls_list fun y hy => h y (List.mem_cons_of_mem _ hy)
    have hx := h x List.mem_cons_self
    refine ⟨?_, fun y hy => ?_, fun R => ?_⟩
    · rw [List.flatMap_cons, show wt rows (f x ++ b.flatMap f) = wt rows (f x) ++ wt rows (b.flatMap f) from List.map_append .., List.length_cons, Nat.add_comm]
      exact hx.fo.app h1
    · rw [List.flatMap_cons] at hy
      rcases List.mem_append.mp hy with hy | hy
      · exact hx.kn y hy
      · exact h2 y hy
    · rw [List.flatMap_cons, List.append_assoc, hx.st, h3]
      rfl
theorem pls_node {i : Nat} {r : Sy.Row} {b : List Int} {f : Int → List Str} (nd : (rows.map (·.1)).Nodup) (e : rows[i]? = some r) (hl : b.length = r.2) (h : ∀ x ∈ b, PlS rows d x (f x)) : PlS rows d (St rows d i b) (r.1 :: b.flatMap f) := by
  obtain ⟨h1, h2, h3⟩ := pls_list h
  obtain ⟨k1, k2⟩ := row_isK nd e
  refine ⟨?_, fun y hy => ?_, fun R => ?_⟩
  · show Fo (0 + ar rows r.1) (wt rows (b.flatMap f))
    rw [Nat.zero_add, k2, ← hl]
    exact h1
  · rcases List.mem_cons.mp hy with rfl | hy
    · exact k1
    · exact h2 y hy
  · rw [List.cons_append, stkF, h3, k2, ← hl, List.take_append_of_le_length (Nat.le_refl _), List.take_length, List.drop_append_of_le_length (Nat.le_refl _), List.drop_length]
    unfold St
    rw [getD_at e]
    rfl
theorem val_knots {g : Int → Ent} {r : Int} {b : List Int} (h : ∀ x ∈ b, EOk (g x)) (hk : (val g r b).1 ≤ 2000) : (∀ x ∈ b, (g x).1 ≤ 2000) ∧ (val g r b).2 = r :: b.flatMap fun x => (g x).2 := by
  refine ⟨fun x hx => ?_, ?_⟩
  · have := val_gt (r := r) h hx
    omega
  · unfold val at hk ⊢
    simp only at hk ⊢
    rw [if_pos hk]
theorem LInv.plant (ok : RowsOk rows) (I : LInv (Sz rows) (St rows d) m top E S) : ∀ s e, lkE E s = some e → e.1 ≤ 2000 → PlS rows d s (spell rows e.2) := by
  refine I.ind fun s i n b h1 h2 h3 h4 h5 hk => ?_
  obtain ⟨r, er, e2⟩ := sz_row h1
  obtain ⟨k1, k2⟩ := val_knots (fun x hx => EOk.g I.ok (h3 x hx).2.1) hk
  rw [k2, spell_cons, spell_flat, Int.toNat_natCast, getD_at er, ← h4]
  exact pls_node ok.nd er (by rw [h2, e2]) fun x hx => (h3 x hx).2.2 (k1 x hx)
theorem sts_head {l : List Str} {s : Int} {r : List Int} (h : stkF rows d l = s :: r) : (stsF rows d l)[0]? = some s := by
  cases l with
  | nil => cases h
  | cons x l =>
    rw [stkF] at h
    rw [stsF]
    injection h with h1 _
    rw [h1]
    rfl
theorem LInv.pln (ok : RowsOk rows) (I : LInv (Sz rows) (St rows d) m top E S) {s : Int} {e : Ent} (h : lkE E s = some e) (hk : e.1 ≤ 2000) : Pln rows (spell rows e.2) ∧ (stsF rows d (spell rows e.2))[0]? = some s ∧ ((spell rows e.2).length : Int) = e.1 := by
  have p := I.plant ok s e h hk
  have hl : ((spell rows e.2).length : Int) = e.1 := by
    unfold spell
    rw [List.length_map]
    exact (I.ok s e h).2.1 hk
  have st := p.st []
  rw [List.append_nil] at st
  exact ⟨⟨p.fo, p.kn, by omega⟩, sts_head st, hl⟩
end
end Sy
/-! least_rows, least_plants -/
namespace Sy
open PySem PySem.Spec PyProof.Rows L2 LamX NdefX
/-- what is asked of a reader's steps -/
structure LpOk (rows : List Sy.Row) (d : RdrZ) (m top : Nat) : Prop where
  ok : RowsOk rows
  ed : d.many = (m : Nat)
  m1 : 1 ≤ m
  m2 : m ≤ 800
  pw : ∀ r ∈ rows, m ^ r.2 ≤ 2000
  tp : ∀ r ∈ rows, r.2 ≤ top
  st : ∀ (x : Str) (l : List Int), isK rows x = true → l.length = ar rows x → (∀ n ∈ l, inS (m : Nat) n = true) → inS (m : Nat) (stepZ d x l) = true
/-- the entries of the states, f telling those that are there -/
def LsR (K : PySem.W.Frag) (H : Hp) (m : Nat) (xs : List V) (f : Int → Option (List Str)) : Prop := xs.length = m ∧ ∀ i : Nat, i < m → (f (i : Nat) = none → xs[i]? = some .non) ∧ ∀ l, f (i : Nat) = some l → ∃ a, xs[i]? = some (.ref a) ∧ SqT K H a (l.map V.str)
theorem LsR.mono {K : PySem.W.Frag} {H H' : Hp} {m : Nat} {xs : List V} {f : Int → Option (List Str)} (h : LsR K H m xs f) (s : Stay H H') : LsR K H' m xs f := ⟨h.1, fun i hi => ⟨(h.2 i hi).1, fun l hl => let ⟨a, e, t⟩ := (h.2 i hi).2 l hl; ⟨a, e, s.sqt t⟩⟩⟩
theorem NT.ls {K : PySem.W.Frag} {B H : Hp} {L : List (Addr × HO)} (n : NT L) (h : Hs B L H) {m : Nat} {xs : List V} {f : Int → Option (List Str)} (t : LsR K H m xs f) : LsR K (cut L H) m xs f := ⟨t.1, fun i hi => ⟨(t.2 i hi).1, fun l hl => let ⟨a, e, u⟩ := (t.2 i hi).2 l hl; ⟨a, e, n.sqt h u⟩⟩⟩
theorem LsR.set {K : PySem.W.Frag} {H : Hp} {m : Nat} {xs : List V} {f : Int → Option (List Str)} (h : LsR K H m xs f) {s : Nat} (hs : s < m) {a : Addr} {l : List Str} (t : SqT K H a (l.map V.str)) : LsR K H m (xs.set s (.ref a)) fun i => if i = (s : Nat) then some l else f i := by
  refine ⟨by rw [List.length_set]; exact h.1, fun i hi => ?_⟩
  by_cases c : i = s
  · subst c
    simp only [if_true]
    refine ⟨fun z => (nomatch z), fun l' hl => ?_⟩
    have : l = l' := Option.some.inj hl
    subst this
    exact ⟨a, by rw [List.getElem?_set_self (by rw [h.1]; exact hi)], t⟩
  · have c2 : ¬ ((i : Nat) : Int) = (s : Nat) := fun z => c (by omega)
    simp only [if_neg c2]
    rw [List.getElem?_set_ne (fun z => c z.symm)]
    exact h.2 i hi
theorem LsR.congr {K : PySem.W.Frag} {H : Hp} {m : Nat} {xs : List V} {f g : Int → Option (List Str)} (h : LsR K H m xs f) (e : ∀ i : Nat, i < m → f (i : Nat) = g (i : Nat)) : LsR K H m xs g := ⟨h.1, fun i hi => by rw [← e i hi]; exact h.2 i hi⟩
/-- what least_plants tells -/
def fE (rows : List Sy.Row) (E : EMap) (s : Int) : Option (List Str) := (lkE E s).map fun e => spell rows e.2
def fS (rows : List Sy.Row) (E : EMap) (S : List Int) (s : Int) : Option (List Str) := if s ∈ S then some (spell rows (gE E s).2) else none
section
variable {P : Program} {w : World} {K : PySem.W.Frag} {mg : Str → Option Value} {base : Heap}
def spLr (P : Program) (w : World) (K : PySem.W.Frag) (tb : Addr) : Sp := fun vs H Q E0 => ∃ (b t : Addr) (rows : List Sy.Row) (d : RdrZ) (m top : Nat) (B : Hp) (ps : Array Value), vs = [.ref b, .int (m : Nat), .ref t] ∧ Hs B [(tb, .tbl ps)] H ∧ TbOk B ps lamQ ∧ BedAt K B b rows ∧ TabAt P w K B t rows m d ∧ LpOk rows d m top ∧
  (∀ H' ps' D (xs : List V) (E : EMap) (S : List Int), H D = none → Chg tb (.tbl ps') H H' → TbOk H' ps' lamQ → H' D = some (.lst xs) → LsR K H' m xs (fE rows E) → LInv (Sz rows) (St rows d) m top E S → (∀ s ∈ kyE E, s ∈ S) → (∀ s e, lkE E s = some e → e.1 ≤ 2000) → Q (.ref D) H') ∧
  ∀ H' ps' (E : EMap) (S : List Int), Chg tb (.tbl ps') H H' → TbOk H' ps' lamQ → LInv (Sz rows) (St rows d) m top E S → (∀ s ∈ kyE E, s ∈ S) → (∃ s e, lkE E s = some e ∧ 2000 < e.1) → RaE K (.many "knots" 2000) H' E0
abbrev N_lr : List Str := ["bed", "many", "table", "found", "state", "knots", "ranks"]
theorem sc_lr : FnScope N_lr ["bed", "many", "table"] (defScope (top 32)) := ⟨rfl, rfl, rfl, by decide +kernel, rfl, by decide +kernel, by decide +kernel⟩
theorem k_lr {tb : Addr} (T : Txt K mg) (F : DF K mg "least_rows" 32) (c_settled_plants : Cal P w K mg base 5 "settled_plants" ["bed", "table"] (spSet P w K tb)) (c_check_count : Cal P w K mg base 3 "check_count" ["number"] (spCount K)) (c_spelled : Cal P w K mg base 1 "_spelled" ["bed", "ranks"] (spSpl K)) :
    Cal P w K mg base 6 "least_rows" ["bed", "many", "table"] (spLr P w K tb) := by
  refine cal_of F.1 F.2 sc_lr (fun _ _ _ _ _ _ us e => match us, e with | [_, _, _], _ => rfl) (fun vs H Q E s => by obtain ⟨_, _, _, _, _, _, _, _, rfl, _⟩ := s; rfl) ?_
  intro cdv A outer sh H vs Q E0 hr h
  obtain ⟨b, t, rows, d, m, tp, B, ps, rfl, hs, htb, hb, hT, L, hq, hE⟩ := h
  have sc := sc_lr
  have m2 := L.m2
  refine ⟨_, (pss_cons (ps_set (i := 3) sc.nd rfl (Or.inl rfl) (pe_op op_rep (pe_lst (pa_cons pe_non pa_nil)) (pv 1)))
      (pss_cons (ps_for (passes_of rfl) rfl (pi_list (pe_cal c_settled_plants hr (pa_cons (pv 0) (pa_cons (pv 2) pa_nil)))) (pg_tup rfl (pgs_cons (pg_name (i := 4) sc.nd rfl (Or.inl rfl)) (pgs_cons (pg_name (i := 5) sc.nd rfl (Or.inl rfl)) (pgs_cons (pg_name (i := 6) sc.nd rfl (Or.inl rfl)) pgs_nil))))
        (pss_cons (ps_expr (pe_calX c_check_count hr (takes_of rfl rfl rfl rfl) (pa_cons (pv 5) pa_nil)))
        (pss_one (ps_asg (pe_cal c_spelled hr (pa_cons (pv 0) (pa_cons (pv 6) pa_nil))) (pg_sub (pv 3) (pv 4) set_list)))))
      (pss_one (ps_ret (pv 3))))), ?_⟩
  have hP := hs.r0
  have sB1 := same_delO hs
  have h0 := (Hs.start H).take hP
  obtain ⟨B1, eB1⟩ : ∃ B1, B1 = L2.del H tb := ⟨_, rfl⟩
  rw [← eB1] at h0 sB1
  replace htb := htb.same sB1
  replace hb := hb.mono (Stay.of sB1)
  replace hT := hT.same sB1
  clear hs
  refine ⟨(by show 1 ≤ sizeLine; decide), fun D0 hD0 => ⟨_, rfl, D0, (m : Nat), _, rfl, rfl, upd_same, by omega, by omega, by rw [Int.toNat_natCast]; show 1 * m ≤ sizeLine; rw [sizeLine_eq]; omega, fun fd hfd => ?_⟩⟩
  have h1 := h0.lay (o := .lst [.non]) hD0
  have h2 := h1.new (o := .lst (List.replicate ((m : Nat) : Int).toNat [V.non]).flatten) hfd
  rw [Int.toNat_natCast, List.flatten_replicate_singleton] at h2 ⊢
  generalize upd (upd H D0 (.lst [.non])) fd (.lst (List.replicate m V.non)) = H2 at *
  have hfd0 : H fd = none := by
    cases e : H fd with
    | none => rfl
    | some o => rw [up_same hD0 _ _ e] at hfd; cases hfd
  simp only [List.set_cons_succ, List.set_cons_zero]
  refine ⟨_, rfl, _, rfl, b, t, rows, d, m, tp, B1, ps, rfl, h2.drop, htb, hb, L.ok, hT, L.m1, L.m2, L.pw, L.tp, L.st, fun H3 ps' D qs E S hD chg tok hLD hPq LI hall => ?_⟩
  obtain ⟨c3, h3⟩ := h2.swap.chg chg
  have nt3 : NT [(tb, HO.tbl ps'), (fd, .lst (List.replicate m V.non))] := (NT.nil.lst).tbl
  have nc3 : NC [(tb, HO.tbl ps'), (fd, .lst (List.replicate m V.non))] := (NC.nil.lst).tbl
  have hLD' : cut [(tb, HO.tbl ps'), (fd, .lst (List.replicate m V.non))] H3 D = some (.lst (qs.map V.ref)) := by
    rw [cut_at (show D ∉ [(tb, HO.tbl ps'), (fd, HO.lst (List.replicate m V.non))].map (·.1) from h2.swap.out_new hD)]
    exact hLD
  have hPq' : Paired (S3At K (cut [(tb, HO.tbl ps'), (fd, .lst (List.replicate m V.non))] H3)) qs (S.map fun s => (s, gE E s)) := Paired.mapP hPq fun _ _ ⟨c, u1, u2⟩ => ⟨c, nt3.sqt h3 u1, nt3.sqt h3 u2⟩
  replace tok := nc3.tb h3 tok
  have h3 := h3.swap
  generalize cut [(tb, HO.tbl ps'), (fd, .lst (List.replicate m V.non))] H3 = B3 at *
  have hql := paired_len hPq'
  rw [List.length_map] at hql
  have fin : ∀ {B' H' : Hp} {xs : List V}, Same B3 B' → Hs B' [(fd, .lst xs), (tb, .tbl ps')] H' → Chg tb (.tbl ps') H H' := fun s' h' => h'.swap.isChg (by rw [← eB1]; exact c3.trans s')
  have lkS : ∀ s ∈ S, lkE E s = some (gE E s) := fun s hs => lk_gE (LI.sub s hs)
  have ranks := LI.ranks
  refine ⟨D, rfl, ⟨_, SqL.of (h3.sub _ _ hLD')⟩, for_list (K := K) (xs := qs.map V.ref) (fun j σ H' => ∃ (t4 t5 t6 : Option V) (B' : Hp) (xs : List V), σ = [some (.ref b), some (.int (m : Nat)), some (.ref t), some (.ref fd), t4, t5, t6] ∧ Same B3 B' ∧ Hs B' [(fd, .lst xs), (tb, .tbl ps')] H' ∧ LsR K B' m xs (fS rows E (S.take j)) ∧ ∀ s ∈ S.take j, (gE E s).1 ≤ 2000)
    ⟨none, none, none, B3, _, rfl, Same.refl _, h3, ⟨List.length_replicate .., fun i hi => ⟨fun _ => by rw [List.getElem?_replicate, if_pos hi], fun l hl => by cases hl⟩⟩, fun _ h => (nomatch h)⟩ (fun _ _ _ _ ⟨_, _, _, _, _, _, sB, hh, _⟩ => SqL.of (hh.sub _ _ (sB _ _ hLD'))) ?_ ?_⟩
  · rintro j v σ H4 hv ⟨t4, t5, t6, B', xs, rfl, sB', hh, hLs, hle⟩
    obtain ⟨y, ey, rfl⟩ := map_at hv
    have hj : j < S.length := by rw [← hql]; exact (List.getElem?_eq_some_iff.mp ey).1
    obtain ⟨s, es⟩ : ∃ s, S[j]? = some s := ⟨_, List.getElem?_eq_getElem hj⟩
    obtain ⟨y', ey', cc, ty1, ty2⟩ := paired_at hPq' (i := j) (y := (s, gE E s)) (by rw [List.getElem?_map, es]; rfl)
    rw [ey] at ey'
    cases ey'
    have hsS := List.mem_of_getElem? es
    have hlk := lkS s hsS
    obtain ⟨g1, g2⟩ := LI.rng s (LI.sub s hsS)
    have sH := sB'.trans hh.sub
    refine ⟨y, _, rfl, Same.sqt sH ty1, rfl, _, _, rfl, _, _, rfl, _, _, rfl, rfl, ?_⟩
    simp only [List.set_cons_succ, List.set_cons_zero]
    refine ⟨_, rfl, _, rfl, fun c => ?_, fun c => (hE H4 ps' E S (fin sB' hh) (tok.same sH) LI hall ⟨s, _, hlk, c⟩).ra im_tm⟩
    obtain ⟨o1, o2, o3⟩ := LI.ok s _ hlk
    have hrk := ranks s _ hlk
    have hrl := o2 c
    refine ⟨_, rfl, _, rfl, b, cc, rows, (gE E s).2.map Int.toNat, rfl, hb.mono (Stay.of (c3.trans sH)), ?_, by rw [List.length_map]; omega, fun k hk => ?_, fun H5 tq s5 ht5 => ?_⟩
    · have : ((gE E s).2.map Int.toNat).map (fun n : Nat => (n : Int)) = (gE E s).2 := by
        rw [List.map_map]
        conv => rhs; rw [← List.map_id (gE E s).2]
        refine List.map_congr_left fun k hk => ?_
        have := (hrk k hk).1
        show ((k.toNat : Nat) : Int) = k
        omega
      rw [this]
      exact Same.sqt sH ty2
    · obtain ⟨k', hk', rfl⟩ := List.mem_map.mp hk
      have := hrk k' hk'
      omega
    obtain ⟨c5, h5⟩ := hh.after s5
    have nt5 : NT [(fd, HO.lst xs), (tb, .tbl ps')] := (NT.nil.tbl).lst
    have ht5' := nt5.sqt h5 ht5
    replace ht5' : SqT K (cut [(fd, HO.lst xs), (tb, HO.tbl ps')] H5) tq ((spell rows (gE E s).2).map V.str) := by
      unfold spell
      rw [List.map_map]
      rw [List.map_map, List.map_map] at ht5'
      exact ht5'
    refine ⟨_, rfl, _, rfl, fd, xs, s, s.toNat, rfl, rfl, h5.r0, ?_, ?_⟩
    · have := ixN_nat (n := xs.length) (j := s.toNat) (by rw [hLs.1]; omega)
      rwa [show ((s.toNat : Nat) : Int) = s by omega] at this
    have h6 := h5.w0 (o' := .lst (xs.set s.toNat (.ref tq)))
    refine ⟨_, _, _, _, _, rfl, sB'.trans c5, h6, ?_, fun x hx => ?_⟩
    · refine ((hLs.mono (Stay.of c5)).set (s := s.toNat) (by omega) (l := spell rows (gE E s).2) ht5').congr fun i hi => ?_
      unfold fS
      by_cases c2 : ((i : Nat) : Int) = s
      · have c3 : ((i : Nat) : Int) = (s.toNat : Nat) := by omega
        rw [if_pos c3, if_pos (by rw [List.take_succ, es, c2]; simp), c2]
      · have c3 : ¬ ((i : Nat) : Int) = (s.toNat : Nat) := by omega
        rw [if_neg c3]
        have : ((i : Nat) : Int) ∈ S.take (j + 1) ↔ ((i : Nat) : Int) ∈ S.take j := by
          rw [List.take_succ, es]
          simp [c2]
        by_cases c4 : ((i : Nat) : Int) ∈ S.take j
        · rw [if_pos c4, if_pos (this.mpr c4)]
        · rw [if_neg c4, if_neg (fun z => c4 (this.mp z))]
    · rw [List.take_succ, es] at hx
      rcases List.mem_append.mp hx with hx | hx
      · exact hle x hx
      · have : x = s := by simpa using hx
        rw [this]; exact c
  · rintro σ H4 ⟨t4, t5, t6, B', xs, rfl, sB', hh, hLs, hle⟩
    rw [List.length_map, hql, List.take_length] at hLs hle
    refine ⟨_, rfl, hq H4 ps' fd xs E S hfd0 (fin sB' hh) (tok.same (sB'.trans hh.sub)) hh.r0 ((hLs.mono (Stay.of hh.sub)).congr fun i hi => ?_) LI hall fun s e he => ?_⟩
    · unfold fS fE
      by_cases c : ((i : Nat) : Int) ∈ S
      · rw [if_pos c, lkS _ c]; rfl
      · rw [if_neg c, lk_none (fun z => c (hall _ z))]; rfl
    · have hs := hall s (lk_some.mpr ⟨e, he⟩)
      have := hle s hs
      rwa [gE_of he] at this
/-! least_plants -/
def spLp (P : Program) (w : World) (K : PySem.W.Frag) (tb : Addr) : Sp := fun vs H Q E0 => ∃ (a b : Addr) (rows : List Sy.Row) (d : RdrZ) (m top : Nat) (B : Hp) (ps : Array Value), vs = [.ref a] ∧ Hs B [(tb, .tbl ps)] H ∧ TbOk B ps lamQ ∧ RdzAt P w K B a b rows d ∧ LpOk rows d m top ∧
  (∀ H' ps' q (xs : List V) (E : EMap) (S : List Int), Chg tb (.tbl ps') H H' → TbOk H' ps' lamQ → SqT K H' q xs → LsR K H' m xs (fE rows E) → LInv (Sz rows) (St rows d) m top E S → (∀ s ∈ kyE E, s ∈ S) → (∀ s e, lkE E s = some e → e.1 ≤ 2000) → Q (.ref q) H') ∧
  ∀ H' ps' (E : EMap) (S : List Int), Chg tb (.tbl ps') H H' → TbOk H' ps' lamQ → LInv (Sz rows) (St rows d) m top E S → (∀ s ∈ kyE E, s ∈ S) → (∃ s e, lkE E s = some e ∧ 2000 < e.1) → RaE K (.many "knots" 2000) H' E0
theorem Chg.of_same {p : Addr} {o : HO} {H H1 H2 H3 : Hp} (s : Same H H1) (c : Chg p o H1 H2) (s' : Same H2 H3) : Chg p o H H3 := ⟨s' _ _ c.1, fun a w n e => s' _ _ (c.2 a w n (s a w e))⟩
theorem TabAt.cutT {B H : Hp} {tb t : Addr} {ps : Array Value} {rows : List Sy.Row} {m : Nat} {d : RdrZ} (h : TabAt P w K H t rows m d) (hs : Hs B [(tb, .tbl ps)] H) : TabAt P w K (cut [(tb, .tbl ps)] H) t rows m d := by
  obtain ⟨ob, kvs, h1, h2, h3⟩ := h
  obtain ⟨xs, e1, e2, e3, e4⟩ := h2.ex
  have nt : NT [(tb, HO.tbl ps)] := NT.nil.tbl
  refine ⟨ob, kvs, ?_, ⟨xs, e1, e2, e3, Paired.mapP e4 fun _ _ ⟨z1, ⟨c, u1, u2⟩, z2⟩ => ⟨z1, ⟨c, nt.sqt hs u1, nt.sqt hs u2⟩, z2⟩⟩, h3⟩
  rw [cut_at]
  · exact h1
  · intro hm
    have : t = tb := by simpa using hm
    rw [this, hs.r0, e1] at h1
    cases h1
theorem sc_lp : FnScope ["reader"] ["reader"] (defScope (top 33)) := ⟨rfl, rfl, rfl, by decide +kernel, rfl, by decide +kernel, by decide +kernel⟩
theorem k_lp {tb : Addr} (T : Txt K mg) (TR : TxtR K mg) (F : DF K mg "least_plants" 33) (c_least_rows : Cal P w K mg base 6 "least_rows" ["bed", "many", "table"] (spLr P w K tb)) (c_full_table : Cal P w K mg base 4 "full_table" ["reader"] (spFt P w K)) :
    Cal P w K mg base 7 "least_plants" ["reader"] (spLp P w K tb) := by
  refine cal_of F.1 F.2 sc_lp (fun _ _ _ _ _ _ us e => match us, e with | [_], _ => rfl) (fun vs H Q E s => by obtain ⟨_, _, _, _, _, _, _, _, rfl, _⟩ := s; rfl) ?_
  intro cdv A outer sh H vs Q E0 hr h
  obtain ⟨a, b, rows, d, m, tp, B, ps, rfl, hs, htb, hR, L, hq, hE⟩ := h
  have m2 := L.m2
  obtain ⟨dx, tM, dE, ob, h1, h2, h3, h4, h5⟩ := hR.ex
  refine ⟨_, (pss_one (ps_ret (pe_callTy call_tuple_of (by rfl) T.tuple (by decide +kernel) (pa_cons (pe_calX c_least_rows hr (takes_of rfl rfl rfl rfl) (pa_cons (pe_fld (pv 0) rfl) (pa_cons (pe_fld (pv 0) rfl) (pa_cons (pe_cal c_full_table hr (pa_cons (pv 0) pa_nil)) pa_nil)))) pa_nil)))), ?_⟩
  refine ⟨_, rfl, a, _, dx, _, _, rfl, hs.sub _ _ h1, TR.cl, TR.nB, rfl, _, rfl, a, _, dx, _, _, rfl, hs.sub _ _ h1, TR.cl, TR.nS, rfl, _, rfl, a, b, rows, d, m, rfl, hR.mono (Stay.of hs.sub), L.ok, L.ed, L.m1, by omega, L.pw, fun H2 t s2 hT => ?_⟩
  have h2' := hs
  obtain ⟨c2, k2⟩ := hs.after s2
  refine ⟨b, t, rows, d, m, tp, _, ps, by rw [L.ed], k2, htb.same c2, h2.mono (Stay.of c2), hT.cutT k2, L, fun H3 ps' D xs E S hD chg tok hLD hLs LI hall hle => ?_, fun H3 ps' E S chg tok LI hall hx => hE H3 ps' E S (chg.of_same s2 (Same.refl _)) tok LI hall hx⟩
  refine ⟨D, _, rfl, .inl ⟨SqL.of hLD, fun q hq' => ?_⟩⟩
  have s3 := up_same (o := .tup xs) hq'
  exact hq _ ps' q xs E S (chg.of_same s2 s3) (tok.same s3) (SqT.of upd_same) (hLs.mono (Stay.of s3)) LI hall hle
end
end Sy
/-! t[::-1] of a tuple -/
namespace Sy
open PySem PySem.Spec PyProof.Rows L2
open HT in
theorem revAt {α : Type} (xs : Array α) : ∀ n : Nat, n ≤ xs.size → ((List.range n).map fun k => n - 1 - k).filterMap (xs[·]?) = (xs.toList.take n).reverse
  | 0, _ => by simp
  | n + 1, h => by
    have ih := revAt xs n (by omega)
    have e : (List.range (n + 1)).map (fun k => n + 1 - 1 - k) = n :: (List.range n).map (fun k => n - 1 - k) := by
      rw [List.range_succ_eq_map, List.map_cons, List.map_map]
      congr 1
      refine List.map_congr_left fun k hk => ?_
      have := List.mem_range.mp hk
      show n + 1 - 1 - (k + 1) = n - 1 - k
      omega
    have hx : xs[n]? = some (xs[n]'(by omega)) := Array.getElem?_eq_getElem (by omega)
    rw [e, List.filterMap_cons, hx]
    simp only
    rw [ih, List.take_succ, Array.getElem?_toList, hx, List.reverse_append]
    rfl
theorem revPick (xs : Array Value) : ((List.range xs.size).filterMap fun (k : Nat) => xs[(((xs.size : Nat) : Int) - 1 + (k : Int) * -1).toNat]?).toArray = xs.toList.reverse.toArray := by
  have e : (List.range xs.size).filterMap (fun (k : Nat) => xs[(((xs.size : Nat) : Int) - 1 + (k : Int) * -1).toNat]?) = ((List.range xs.size).map fun k => xs.size - 1 - k).filterMap (xs[·]?) := by
    have e1 : (List.range xs.size).map (fun k => xs.size - 1 - k) = (List.range xs.size).map fun (k : Nat) => (((xs.size : Nat) : Int) - 1 + (k : Int) * -1).toNat := List.map_congr_left fun k hk => by
      have := List.mem_range.mp hk
      omega
    rw [e1, List.filterMap_map]
    rfl
  rw [e, revAt xs xs.size (Nat.le_refl _), show xs.size = xs.toList.length by simp, List.take_length]
section
variable {prog : Program} {w : World} {A : Around} {E : XK} {s : Shared}
open HT
theorem sliceRev_ {sl : Addr} {vl vu vs : Value} {n : Nat} {Q : Int × Int × Nat → Shared → Prop} {E : Value → Shared → Prop} (hs : s.heap.IsSliceOf sl vl vu vs) (pl : IsPart vl none) (pu : IsPart vu none) (pk : IsPart vs (some (-1)))
    (h : Q (((n : Nat) : Int) - 1, -1, n) s) : wpAny (model prog w) A (Builtin.Slice.sliceApplied (.ref sl) (pure (n : Int))) Q E s := by
  obtain ⟨os, hos, hcs, hds⟩ := id hs
  unfold Builtin.Slice.sliceApplied Builtin.Slice.sliceFields
  refine wpAny_bind (wpAny_bind (wpAny_field hos hds (x := vl) rfl (wpAny_bind (wpAny_field hos hds (x := vu) rfl (wpAny_bind (wpAny_field hos hds (x := vs) rfl (wpAny_pure ?_)))))))
  refine wpAny_bind (slicePart_ pk ?_)
  show wpAny _ _ (if ((-1 : Int) == 0) = true then _ else _) _ _ s
  rw [if_neg (by decide)]
  refine wpAny_bind (slicePart_ pl (wpAny_bind (slicePart_ pu (wpAny_bind (wpAny_pure ?_)))))
  show wpAny _ _ (pure (((n : Nat) : Int) - 1, (-1 : Int), Builtin.Slice.slicePlaces (((n : Nat) : Int) - 1) (-1) (-1))) _ _ s
  have e : Builtin.Slice.slicePlaces (((n : Nat) : Int) - 1) (-1) (-1) = n := by
    unfold Builtin.Slice.slicePlaces
    rw [if_neg (by decide)]
    by_cases c : n = 0
    · subst c; rfl
    · rw [if_pos (by omega), show (-(-1) : Int) = 1 by decide, Int.ediv_one]
      omega
  rw [e]
  exact wpAny_pure h
theorem getItem_tuple_rev {t sl : Addr} {items : Array Value} {vl vu vs : Value} {Q : Value → Shared → Prop} {E : Value → Shared → Prop} (ht : IsTup s.heap t items) (hs : s.heap.IsSliceOf sl vl vu vs) (pl : IsPart vl none) (pu : IsPart vu none) (pk : IsPart vs (some (-1)))
    (h : Q (.ref s.heap.objs.size) { s with heap := s.heap.push { cls := .type "tuple", data := .seq items.toList.reverse.toArray } })
    (hsz : items.size ≤ sizeLine) : wpAny (model prog w) A (getItem (.ref t) (.ref sl)) Q E s := by
  have htake : sizeOk (.seq items.toList.reverse.toArray) := by
    show items.toList.reverse.toArray.size ≤ sizeLine
    rw [List.size_toArray, List.length_reverse, Array.length_toList]
    omega
  obtain ⟨os, hos, hcs, hds⟩ := id hs
  have hTs : s.TypeIs (.ref sl) "slice" := ⟨os, hos, hcs⟩
  unfold getItem
  try with_reducible refine wpAny_holding ?_
  first | refine wpAny_bind (wpAny_pure ?_) | skip
  refine wpAny_bind (wpAny_sequenceKey ht.typeIs (by decide) ?_)
  refine wpAny_bind (wpAny_callSpecial?_slot (name := Str.ofString "__getitem__") ht.typeIs PyProof.Rows.slot_tuple_getitem
    (wpAny_call_entry PyProof.Rows.slot_tuple_getitem ht.typeIs entry_tuple_getitem ?_ (args_tuple_getitem _ _)))
  show wpAny _ _ (Builtin.Tuple.tupleItemsOf (.ref t) >>= _) _ _ s
  refine wpAny_bind (tupleItemsOf_ ht ?_)
  refine wpAny_bind (wpAny_typeOf hTs ?_)
  rw [if_pos (by decide)]
  refine wpAny_bind (sliceRev_ hs pl pu pk ?_)
  have hno : ¬ (((((items.size : Nat) : Int) - 1) == 0 && (-1 : Int) == 1 && items.size == items.size) = true) := by
    rw [show ((-1 : Int) == 1) = false by decide, Bool.and_false, Bool.false_and]
    exact Bool.false_ne_true
  show wpAny _ _ (if (((((items.size : Nat) : Int) - 1) == 0 && (-1 : Int) == 1 && items.size == items.size) = true) then _ else _) _ _ s
  rw [if_neg hno, revPick]
  first
    | exact wpAny_bind (m := Builtin.Tuple.tupleExact _) (wpAny_newObj_type (wpAny_pure ⟨_, rfl, wpAny_pure h⟩) htake)
    | exact wpAny_bind (m := Builtin.Tuple.tupleExact _) (wpAny_newObj_type (wpAny_bind (wpAny_pure (wpAny_pure ⟨_, rfl, wpAny_pure h⟩))) htake)
    | exact wpAny_bind (wpAny_bind (m := Builtin.Tuple.tupleExact _) (wpAny_newObj_type (wpAny_pure (wpAny_pure ⟨_, rfl, wpAny_pure h⟩)) htake))
    | exact wpAny_bind (wpAny_bind (m := Builtin.Tuple.tupleExact _) (wpAny_newObj_type (wpAny_pure ⟨_, rfl, wpAny_pure h⟩) htake))
end
def tRevT (K : PySem.W.Frag) (te : TE) : TE := fun σ H Q => te σ H fun x H1 => ∃ a xs, x = .ref a ∧ SqT K H1 a xs ∧ ∀ p, H1 p = none → Q (.ref p) (upd H1 p (.tup xs.reverse))
theorem pe_revT {X : Cx} {e : Expr} {te : TE} {k : Nat} {p1 p2 p3 pos : Pos} (he : PE X e te) : PE X (.Subscript e (.Slice none none (some (.UnaryOp .USub (.Constant (.int 1) k p1) p2)) p3) pos) (tRevT X.K te) := by
  refine ⟨fun pins s σ H Q I h => ?_⟩
  refine Subscript_ (thn (he.run pins s σ H _ I h) fun v s1 ⟨x, H1, I1, r1, q1⟩ => ?_)
  obtain ⟨a, xs, ex, hx, q⟩ := q1
  subst ex
  cases r1
  have hst : PO X (some (.UnaryOp .USub (.Constant (.int 1) k p1) p2)) (tPart (tUn (rU fun i => .int (-i)) (tC (.int 1)))) := po_some (pe_un un_neg pe_int)
  refine wpAny_Slice (thn (po_none.run pins s1 σ H1 (fun o H2 => o = none ∧ H2 = H1) I1 ⟨rfl, rfl⟩) fun vl s2 ⟨l, H2, I2, pl, el, e2⟩ => ?_)
  subst el e2
  refine thn (po_none.run pins s2 σ H2 (fun o H3 => o = none ∧ H3 = H2) I2 ⟨rfl, rfl⟩) fun vu s3 ⟨u, H3, I3, pu, eu, e3⟩ => ?_
  subst eu e3
  refine thn (hst.run pins s3 σ H3 (fun o H4 => o = some (-1) ∧ H4 = H3) I3 ⟨1, rfl, -1, rfl, rfl, rfl⟩) fun vs s4 ⟨o, H4, I4, ps, eo, e4⟩ => ?_
  subst eo e4
  have I5 : Inv X pins σ H4 { s4 with heap := s4.heap.push { cls := .type "slice", data := .fields #[vl, vu, vs] } } := I4.kept (t' := s4.toks) fun b ob q => Heap.get?_push_of_some _ q
  obtain ⟨its, r, ht, hz⟩ := I5.tuple hx
  have hlen := r.length
  show wpAny (model X.prog X.w) X.A (subscriptTail e (.Slice none none (some (.UnaryOp .USub (.Constant (.int 1) k p1) p2)) p3) (.ref a) (.ref s4.heap.objs.size)) (EP X pins σ Q) X.xe { s4 with heap := s4.heap.push { cls := .type "slice", data := .fields #[vl, vu, vs] } }
  refine tail_any (ops := [.ref a, .ref s4.heap.objs.size]) ht.typeIs (PyProof.Rows.slot_tuple_getitem.lookup) ?_ (by with_unfolding_all rfl)
  refine getItem_tuple_rev ht (Heap.IsSliceOf.new _ vl vu vs) pl pu ps ?_ (by rw [List.size_toArray]; omega)
  refine ⟨.ref _, _, I5.laid (t' := s4.toks) (o := .tup xs.reverse) (fun b ob q => Heap.get?_push_of_some _ q) (Nat.le_refl _) ?_, rfl, q _ (I5.hok.fresh (Nat.le_refl _))⟩
  exact ⟨by rw [List.length_reverse]; exact hz, _, r.reverse, IsTup.new _ _⟩
end Sy
/-! _law_long -/
namespace Sy
open PySem PySem.Spec PyProof.Rows L2
theorem ints4 {m : Nat} (j : Nat) (h : j < 4) : ∃ n : Int, ([.int 1, .int 1, .int ((m : Nat) - 1 : Int), .int 2] : List V)[j]? = some (.int n) := by
  match j, h with
  | 0, _ => exact ⟨1, rfl⟩
  | 1, _ => exact ⟨1, rfl⟩
  | 2, _ => exact ⟨_, rfl⟩
  | 3, _ => exact ⟨2, rfl⟩
  | n + 4, h => omega
theorem mrkF_filt {m : Nat} (p : Nat → Bool) : ∀ n ≤ m, mrkF (m : Nat) (-1) (((List.range n).filter p).map fun k => ((k : Nat) : Int)) = true ∧ ∀ y ∈ ((List.range n).filter p).map (fun k => ((k : Nat) : Int)), y < (n : Int)
  | 0, _ => ⟨rfl, fun _ h => (nomatch h)⟩
  | n + 1, h => by
    obtain ⟨a, b⟩ := mrkF_filt (m := m) p n (by omega)
    have en : List.map (fun k => ((k : Nat) : Int)) [n] = [((n : Nat) : Int)] := rfl
    rw [List.range_succ, List.filter_append, List.map_append]
    by_cases c : p n = true
    · have : [n].filter p = [n] := by simp [c]
      rw [this, en]
      refine ⟨mrkF_snoc a (by omega) b (by omega), fun y hy => ?_⟩
      rcases List.mem_append.mp hy with hy | hy
      · have := b y hy
        omega
      · rw [List.mem_singleton.mp hy]
        omega
    · have : [n].filter p = [] := by simp [c]
      rw [this, List.map_nil, List.append_nil]
      exact ⟨a, fun y hy => by have := b y hy; omega⟩
theorem paired_rev {α β : Type} {R : α → β → Prop} {xs : List α} {ys : List β} (h : Paired R xs ys) : Paired R xs.reverse ys.reverse := by
  induction h with
  | nil => exact .nil
  | cons a b ih =>
    rw [List.reverse_cons, List.reverse_cons]
    exact Paired.snoc ih a
section
variable {P : Program} {w : World} {K : PySem.W.Frag} {mg : Str → Option Value} {base : Heap}
def spLong (P : Program) (w : World) (K : PySem.W.Frag) : Sp := fun vs H Q _ => ∃ (g q : Addr) (m : Nat) (rows : List Sy.Row), vs = [.ref g, .ref q, .int (m : Nat)] ∧ Bag g H ∧ KtAt K H q rows ∧ RowsL rows ∧ (∀ r ∈ rows, r.2 ≤ 1) ∧ 1 ≤ m ∧ m ≤ 40 ∧
  ∀ z d full m H', DrOk rows m d full → Dr g H H' → DrAt P w K H' z d full → H z = none → Q (.ref z) H'
abbrev N_long : List Str := ["_law_box_here", "_law_kinds", "_law_states", "_law_spare", "_law_rows", "_law_steps", "_law_name", "_law_size", "_law_slope", "_law_shift", "_law_odd", "_law_goal", "_law_below", "_law_state", "_law_period", "_law_rest", "_law_marks_here"]
theorem sc_long : FnScope N_long ["_law_box_here", "_law_kinds", "_law_states"] (defScope (top 48)) := ⟨rfl, rfl, rfl, by decide +kernel, rfl, by decide +kernel, by decide +kernel⟩
theorem k_long (T : Txt K mg) (F : DF K mg "_law_long" 48) (c_law_take : Cal P w K mg base 1 "_law_take" ["_law_box_here", "_law_many"] spDraw) (c_law_tuples : Cal P w K mg base 1 "_law_tuples" ["_law_many", "_law_length"] (spBel K)) :
    Cal P w K mg base 2 "_law_long" ["_law_box_here", "_law_kinds", "_law_states"] (spLong P w K) := by
  refine cal_of F.1 F.2 sc_long (fun _ _ _ _ _ _ us e => match us, e with | [_, _, _], _ => rfl) (fun vs H Q E s => by obtain ⟨_, _, _, _, rfl, _⟩ := s; rfl) ?_
  intro cdv A outer s H vs Q E hr h
  obtain ⟨g, q, m, rows, rfl, hg, hq0, rl, har1, hm1, hm2, hq⟩ := h
  have sc := sc_long
  have hu := hu4_of hr
  obtain ⟨pk, hL0, hP0⟩ := hq0.delB hg
  obtain ⟨l0, hl0, h0⟩ := hg.take
  generalize hB0 : L2.del H g = B0 at *
  have ok := rl.ok
  have hle := rl.le
  have hpl := paired_len hP0
  refine ⟨_, (pss_cons (ps_set (i := 3) sc.nd rfl (Or.inl rfl) (pe_cal c_law_take hr (pa_cons (pv 0) (pa_cons (pv 2) pa_nil))))
      (pss_cons (ps_set (i := 4) sc.nd rfl (Or.inl rfl) (pe_lst pa_nil))
      (pss_cons (ps_set (i := 5) sc.nd rfl (Or.inl rfl) pe_nnew)
      (pss_cons (ps_for (passes_of rfl) rfl (pi_tup (pv 1)) (pg_tup rfl (pgs_cons (pg_name (i := 6) sc.nd rfl (Or.inl rfl)) (pgs_cons (pg_name (i := 7) sc.nd rfl (Or.inl rfl)) pgs_nil)))
        (pss_cons (ps_set (i := 8) sc.nd rfl (Or.inl rfl) (pe_ix ix_list (pe_lst (pa_cons pe_int (pa_cons pe_int (pa_cons (pe_op op_sub (pv 2) pe_int) (pa_cons pe_int pa_nil))))) (pe_cal c_law_take hr (pa_cons (pv 0) (pa_cons pe_int pa_nil))) (fun _ _ => rfl)))
        (pss_cons (ps_set (i := 9) sc.nd rfl (Or.inl rfl) (pe_cal c_law_take hr (pa_cons (pv 0) (pa_cons (pv 2) pa_nil))))
        (pss_cons (ps_set (i := 10) sc.nd rfl (Or.inl rfl) (pe_cal c_law_take hr (pa_cons (pv 0) (pa_cons (pv 2) pa_nil))))
        (pss_cons (ps_set (i := 11) sc.nd rfl (Or.inl rfl) (pe_cal c_law_take hr (pa_cons (pv 0) (pa_cons (pv 2) pa_nil))))
        (pss_one (ps_for (passes_of rfl) rfl (pi_list (pe_cal c_law_tuples hr (pa_cons (pv 2) (pa_cons (pv 7) pa_nil)))) (pg_name (i := 12) sc.nd rfl (Or.inl rfl))
          (pss_cons (ps_set (i := 13) sc.nd rfl (Or.inl rfl) (pv 11))
          (pss_cons (ps_cut (ps_if (PW.pt (pw_and (pt_cmpR op_eq (pv 7) pe_int (nomark _)) (pw_and1 (pt_cmpR op_ne (pe_ix ix_tup (pv 12) pe_int (fun _ _ => rfl)) (pv 10) (nomark _)))))
            (pss_one (ps_set (i := 13) sc.nd rfl (Or.inl rfl) (pe_op op_mod (pe_callTy call_int1 (by rfl) T.int (by decide +kernel) (pa_cons (pe_op op_add (pe_op op_mul (pe_ix ix_tup (pv 12) pe_int (fun _ _ => rfl)) (pv 8)) (pv 9)) pa_nil)) (pv 2))))
            pss_nil))
          (pss_cons (ps_cut (ps_if (pt_cmpR op_ne (pv 13) (pv 3) (nomark _))
            (pss_one (ps_expr (pe_bm PySem.F.plainAttrs_list PySem.F.slot_list_append PySem.F.type_list_append mt_append (pv 4) (pa_cons (pe_tup (pa_cons (pv 6) (pa_cons (pv 12) (pa_cons (pv 13) pa_nil)))) pa_nil))))
            pss_nil))
          (pss_one (ps_nput hu (pv 5) (pe_tup (pa_cons (pv 6) (pa_cons (pv 12) pa_nil))) (pv 13) rfl))))))))))))
      (pss_cons (ps_cut (ps_if (pt_cmpR op_eq (pe_cal c_law_take hr (pa_cons (pv 0) (pa_cons pe_int pa_nil))) pe_int (nomark _))
        (pss_one (ps_set (i := 4) sc.nd rfl (Or.inl rfl) (pe_revL (pv 4))))
        pss_nil))
      (pss_cons (ps_set (i := 14) sc.nd rfl (Or.inr rfl) (pe_op op_add pe_int (pe_cal c_law_take hr (pa_cons (pv 0) (pa_cons pe_int pa_nil)))))
      (pss_cons (ps_set (i := 15) sc.nd rfl (Or.inr rfl) (pe_cal c_law_take hr (pa_cons (pv 0) (pa_cons (pe_op op_add (pv 14) pe_int) pa_nil))))
      (pss_cons (ps_set (i := 16) sc.nd rfl (Or.inl rfl) (pe_callTy call_tuple_of (by rfl) T.tuple (by decide +kernel) (pa_cons (pe_lc (own := [("_law_state", 13)]) (g := gName 13) rfl sc.nd (pi_range1 rfl T.range (pa_cons (pv 2) pa_nil)) (blkOk_by (N := N_long) (sc := defScope (top 48)) (by decide +kernel)) (fun _ _ _ _ _ => (pg_name (i := 13) sc.nd rfl (Or.inl rfl))) (fun _ _ _ _ _ => (pts_one (pt_cmpR op_eq (pe_op op_mod (pv 13) (pv 14)) (pv 15) (nomark _)))) (fun _ _ _ _ _ => (pv 13))) pa_nil)))
      (pss_one (ps_ret (pe_lst (pa_cons (pv 2) (pa_cons (pe_callTy call_tuple_of (by rfl) T.tuple (by decide +kernel) (pa_cons (pv 4) pa_nil)) (pa_cons (pv 3) (pa_cons (pv 16) (pa_cons (pv 5) pa_nil)))))))))))))))), ?_⟩
  refine ⟨_, rfl, _, rfl, g, m, rfl, h0.bag hl0, by omega, by omega, fun rest H2 hrest d2 => ?_⟩
  obtain ⟨l2, B2, hl2, s02, h2, _⟩ := h0.dr0 d2
  refine ⟨by decide, fun dR hdR => ?_⟩
  have h3 := (h2.new (o := .lst []) hdR).swap
  refine fun dT ob0 hdT hN0 => ?_
  have h4 := (h3.new (o := ob0) hdT).swap
  have hpw : ∀ r ∈ rows, m ^ r.2 ≤ 2000 := fun r hr' => Nat.le_trans (Nat.pow_le_pow_right hm1 (har1 r hr')) (by rw [Nat.pow_one]; omega)
  have hrI : inS (m : Nat) ((rest : Nat) : Int) = true := inS_iff.mpr ⟨by omega, by omega⟩
  simp only [List.set_cons_succ, List.set_cons_zero]
  refine ⟨_, rfl, q, rfl, ⟨_, Same.sqt (s02.trans h4.sub) hL0⟩, for_tup (K := K) (a := q) (xs := pk.map V.ref)
    (fun i σ H' => ∃ (t6 t7 t8 t9 t10 t11 t12 t13 : Option V) (B : Hp) (lb : List Int) (ob : HO) (full rws : List ZRow) (ps : List Addr), σ = [some (.ref g), some (.ref q), some (.int (m : Nat)), some (.int (rest : Nat)), some (.ref dR), some (.ref dT), t6, t7, t8, t9, t10, t11, t12, t13, none, none, none] ∧ BagOk lb ∧ Same B0 B ∧
      Hs B [(g, .lst (lb.map V.int)), (dT, ob), (dR, .lst (ps.map V.ref))] H' ∧ NOf P w K B dT ob (tabZ full) ∧ Paired (ZrAt K B) ps rws ∧ FulZ m (rest : Nat) (kysZ m (rows.take i)) full rws)
    ⟨none, none, none, none, none, none, none, none, B2, l2, ob0, [], [], [], rfl, hl2, s02, h4, hN0.nil, .nil, FulZ.nil⟩ (fun _ _ _ _ ⟨_, _, _, _, _, _, _, _, _, _, _, _, _, _, _, _, s, z, _⟩ => Same.sqt (s.trans z.sub) hL0) ?_ ?_⟩
  · rintro i v σ H4 hv ⟨t6, t7, t8, t9, t10, t11, t12, t13, B, lb, ob, full, rws, ps, rfl, hlb, sB, hh, hN, hR, hF⟩
    obtain ⟨p, ep, rfl⟩ := map_at hv
    have hi : i < rows.length := by rw [← hpl]; exact (List.getElem?_eq_some_iff.mp ep).1
    obtain ⟨r, er⟩ : ∃ r, rows[i]? = some r := ⟨_, List.getElem?_eq_getElem hi⟩
    obtain ⟨p', ep', tp⟩ := paired_at hP0 er
    rw [ep] at ep'
    cases ep'
    have rm := List.mem_of_getElem? er
    have hk3 := ok.br r rm
    refine ⟨p, _, rfl, Same.sqt (sB.trans hh.sub) tp, rfl, _, _, rfl, _, _, rfl, rfl, ?_⟩
    refine ⟨_, rfl, _, _, rfl, rfl, (by show 4 ≤ sizeLine; decide), fun D1 hD1 => ?_⟩
    have hA := hh.lay (o := .lst [.int 1, .int 1, .int ((m : Nat) - 1 : Int), .int 2]) hD1
    have hgD : g ≠ D1 := hh.ne_of_new hD1 (g, .lst (lb.map V.int)) (by simp)
    refine ⟨_, rfl, g, 4, rfl, hA.bag hlb, by decide, by decide, fun j1 H1 hj1 d1 => ?_⟩
    have hD1' : H1 D1 = some (.lst [.int 1, .int 1, .int ((m : Nat) - 1 : Int), .int 2]) := by
      obtain ⟨_, _, c⟩ := d1
      exact c.2 _ _ hgD.symm upd_same
    obtain ⟨l1, B1, hl1, s1, h1, e1⟩ := hA.dr0 d1
    obtain ⟨slope, en⟩ := ints4 (m := m) j1 hj1
    refine ⟨D1, _, _, _, rfl, rfl, SqL.of hD1', atI_nat en, ?_⟩
    refine ⟨_, rfl, _, rfl, g, m, rfl, h1.bag hl1, by omega, by omega, fun shift H2 hshift d2 => ?_⟩
    obtain ⟨l2, B2, hl2, s2, h2, e2⟩ := h1.dr0 d2
    refine ⟨_, rfl, _, rfl, g, m, rfl, h2.bag hl2, by omega, by omega, fun odd H3 hodd d3 => ?_⟩
    obtain ⟨l3, B3, hl3, s3, h3, e3⟩ := h2.dr0 d3
    refine ⟨_, rfl, _, rfl, g, m, rfl, h3.bag hl3, by omega, by omega, fun goal H4 hgoal d4 => ?_⟩
    obtain ⟨l4, B4, hl4, s4, h4, e4⟩ := h3.dr0 d4
    have s14 := ((s1.trans s2).trans s3).trans s4
    replace sB := sB.trans s14
    replace hN := hN.mono (Stay.of s14)
    replace hR : Paired (ZrAt K B4) ps rws := Paired.mapP hR fun _ _ y => y.mono (Stay.of s14)
    clear e4 e3 e2 e1 hA hh h1 h2 h3 d1 d2 d3 d4 hD1' hl1 hl2 hl3 hlb s1 s2 s3 s4 s14
    refine ⟨_, rfl, _, rfl, m, r.2, rfl, by omega, by omega, hpw r rm, fun H5 tq qs htq s5 hL5 hP5 => ?_⟩
    obtain ⟨c1, c2⟩ := h4.after s5
    have nt := nt3 (a := g) (b := dT) (c := dR) (xs := l4.map V.int) (ys := ps.map V.ref) hN.ext
    have hP5 : Paired (TpZ K (cut [(g, HO.lst (l4.map V.int)), (dT, ob), (dR, .lst (ps.map V.ref))] H5)) qs (tupZ m r.2) := Paired.mapP hP5 fun _ _ y => sqt_cut c2.own nt y
    have hL5' : cut [(g, HO.lst (l4.map V.int)), (dT, ob), (dR, .lst (ps.map V.ref))] H5 tq = some (.lst (qs.map V.ref)) := by rw [cut_at (h4.out_new htq)]; exact hL5
    generalize hB5 : cut [(g, HO.lst (l4.map V.int)), (dT, ob), (dR, .lst (ps.map V.ref))] H5 = B5 at *
    have hqs := paired_len hP5
    have s05 := sB.trans c1
    refine ⟨tq, rfl, ⟨_, SqL.of (c2.sub _ _ hL5')⟩, for_list (K := K) (xs := qs.map V.ref)
      (fun j σ H' => ∃ (t12 t13 : Option V) (B : Hp) (lb : List Int) (ob : HO) (full rws : List ZRow) (ps : List Addr), σ = [some (.ref g), some (.ref q), some (.int (m : Nat)), some (.int (rest : Nat)), some (.ref dR), some (.ref dT), some (.str r.1), some (.int (r.2 : Nat)), some (.int slope), some (.int (shift : Nat)), some (.int (odd : Nat)), some (.int (goal : Nat)), t12, t13, none, none, none] ∧ BagOk lb ∧ Same B5 B ∧
        Hs B [(g, .lst (lb.map V.int)), (dT, ob), (dR, .lst (ps.map V.ref))] H' ∧ NOf P w K B dT ob (tabZ full) ∧ Paired (ZrAt K B) ps rws ∧ FulZ m (rest : Nat) (kysZ m (rows.take i) ++ ((tupZ m r.2).take j).map fun l => (r.1, l)) full rws)
      ⟨t12, t13, B5, l4, ob, full, rws, ps, rfl, hl4, Same.refl _, c2, hN.mono (Stay.of c1), Paired.mapP hR fun _ _ y => y.mono (Stay.of c1), by show FulZ _ _ (_ ++ []) _ _; rw [List.append_nil]; exact hF⟩ (fun _ _ _ _ ⟨_, _, _, _, _, _, _, _, _, _, s, z, _⟩ => SqL.of (z.sub _ _ (s _ _ hL5'))) ?_ ?_⟩
    · clear h4 hN hR hF c2 nt hB5 hl4
      clear l4 ob full rws ps lb
      rintro j v σ H6 hv ⟨t12, t13, B, lb, ob, full, rws, ps, rfl, hlb, sB, hh, hN, hR, hF⟩
      obtain ⟨a, ea, rfl⟩ := map_at hv
      have hj : j < (tupZ m r.2).length := by rw [← hqs]; exact (List.getElem?_eq_some_iff.mp ea).1
      obtain ⟨l, el⟩ : ∃ l, (tupZ m r.2)[j]? = some l := ⟨_, List.getElem?_eq_getElem hj⟩
      obtain ⟨a', ea', ta0⟩ := paired_at hP5 el
      rw [ea] at ea'
      cases ea'
      have ta0 : SqT K B5 a (vI l) := ta0
      have hll := (tupZ_mem.mp (List.mem_of_getElem? el)).1
      have hnk := kysZ_next ok.nd er el
      have hfr : (r.1, l) ∉ full.map zky := by rw [hF.ke]; exact hnk
      have hfl : full.length ≤ 20000 := by
        have h1 := congrArg List.length hF.ke
        have h2 := kys_bd (i := i) (j := j) (x := r.1) ok hk3 hpw (hpw r rm)
        rw [List.length_map] at h1
        omega
      have hps : ps.length ≤ 20000 := by
        have h1 := paired_len hR
        have h2 := hF.sb.length_le
        omega
      have ta := Same.sqt (sB.trans hh.sub) ta0
      refine ⟨_, rfl, ?_⟩
      simp only [List.set_cons_succ, List.set_cons_zero]
      refine ⟨fun σ' H' => ∃ (st : Nat), st < m ∧ H' = H6 ∧ σ' = [some (.ref g), some (.ref q), some (.int (m : Nat)), some (.int (rest : Nat)), some (.ref dR), some (.ref dT), some (.str r.1), some (.int (r.2 : Nat)), some (.int slope), some (.int (shift : Nat)), some (.int (odd : Nat)), some (.int (goal : Nat)), some (.ref a), some (.int (st : Nat)), none, none, none], ⟨_, rfl, rfl, _, rfl, if_dec (fun c => ?_) (fun c => ⟨goal, hgoal, rfl, rfl⟩)⟩, ?_⟩
      · have c : r.2 = 1 := by have := V.int.inj c; omega
        rw [c] at hll
        obtain ⟨n, rfl⟩ : ∃ n, l = [n] := List.length_eq_one_iff.mp hll
        refine ⟨_, rfl, a, _, _, _, rfl, rfl, ta, atI_nat (j := 0) rfl, _, rfl, rfl, _, rfl, if_ndec (fun c2 => ?_) (fun c2 => ⟨goal, hgoal, rfl, rfl⟩)⟩
        have hn := inS_iff.mp ((tupZ_mem.mp (List.mem_of_getElem? el)).2 n (List.mem_singleton.mpr rfl))
        obtain ⟨st, est, hst⟩ := modr (n := m) (by omega) (n * slope + (shift : Nat))
        refine ⟨_, rfl, a, _, _, _, rfl, rfl, ta, atI_nat (j := 0) rfl, _, rfl, _, _, rfl, rfl, .inl ⟨by omega, by omega⟩, _, rfl, _, _, rfl, rfl, .inl ⟨_, rfl, _, rfl, _, _, rfl, rfl, by omega, ?_⟩⟩
        dsimp only
        rw [est]
        exact ⟨st, hst, rfl, rfl⟩
      rintro σ' _ ⟨st, hst, rfl, rfl⟩
      refine ⟨fun σ' H' => ∃ (B' : Hp) (rws' : List ZRow) (ps' : List Addr), σ' = [some (.ref g), some (.ref q), some (.int (m : Nat)), some (.int (rest : Nat)), some (.ref dR), some (.ref dT), some (.str r.1), some (.int (r.2 : Nat)), some (.int slope), some (.int (shift : Nat)), some (.int (odd : Nat)), some (.int (goal : Nat)), some (.ref a), some (.int (st : Nat)), none, none, none] ∧ Same B B' ∧
        Hs B' [(g, .lst (lb.map V.int)), (dT, ob), (dR, .lst (ps'.map V.ref))] H' ∧ Paired (ZrAt K B') ps' rws' ∧ FulZ m (rest : Nat) ((kysZ m (rows.take i) ++ ((tupZ m r.2).take j).map fun l => (r.1, l)) ++ [(r.1, l)]) (full ++ [(r.1, l, ((st : Nat) : Int))]) rws', ⟨_, rfl, _, rfl, rfl, _, rfl, if_ndec (fun c => ?_) (fun c => ?_)⟩, ?_⟩
      · refine ⟨_, rfl, .inl ⟨rfl, _, SqL.of hh.r2⟩, _, rfl, _, rfl, _, rfl, (by show 3 ≤ sizeLine; decide), fun T8 hT8 => ?_⟩
        have h10 := hh.tup (o := .tup [.str r.1, .ref a, .int (st : Nat)]) hT8
        have s10 : Same B (upd B T8 (.tup [.str r.1, .ref a, .int (st : Nat)])) := up_same (hh.sub.free hT8)
        refine ⟨dR, _, _, rfl, rfl, h10.r2, by rw [List.length_map, sizeLine_eq]; omega, _, rws ++ [(r.1, l, ((st : Nat) : Int))], ps ++ [T8], rfl, s10, ?_, ?_, hF.both (z := (r.1, l, ((st : Nat) : Int))) (inS_iff.mpr ⟨by show (0 : Int) ≤ (st : Nat); omega, by show ((st : Nat) : Int) < _; omega⟩)⟩
        · rw [List.map_append]; exact h10.w2
        · exact Paired.snoc (Paired.mapP hR fun _ _ y => y.mono (Stay.of s10)) ⟨a, SqT.of upd_same, Same.sqt (sB.trans s10) ta0⟩
      · have c : ((st : Nat) : Int) = (rest : Nat) := V.int.inj c
        exact ⟨B, rws, ps, rfl, Same.refl _, hh, hR, hF.one (z := (r.1, l, ((st : Nat) : Int))) (by rw [show ((r.1, l, ((st : Nat) : Int)) : ZRow).2.2 = ((rest : Nat) : Int) from c]; exact hrI) c⟩
      clear hps hR hF hh ta
      rintro σ' H8 ⟨B8, rws', ps', rfl, s8, h8, hR, hF⟩
      replace sB := sB.trans s8
      refine ⟨_, rfl, _, rfl, _, rfl, _, rfl, (by show 2 ≤ sizeLine; decide), fun T5 hT5 => ?_⟩
      have h9 := h8.tup (o := .tup [.str r.1, .ref a]) hT5
      have s9 : Same B8 (upd B8 T5 (.tup [.str r.1, .ref a])) := up_same (h8.sub.free hT5)
      have tT5 : SqT K (upd B8 T5 (.tup [.str r.1, .ref a])) T5 [.str r.1, .ref a] := SqT.of upd_same
      generalize upd B8 T5 (.tup [.str r.1, .ref a]) = B9 at *
      refine ⟨dT, T5, ob, _, zkey (r.1, l), B9, rfl, rfl, h9.r1, Stay.of h9.sub, hN.mono (Stay.of (s8.trans s9)), NK.ofZ tT5 (Same.sqt (sB.trans s9) ta0), by unfold tabZ; rw [List.length_map, sizeLine_eq]; omega, fun ob' hN' => ?_⟩
      have hN' : NOf P w K B9 dT ob' (putK (tabZ full) (zkey (zky (r.1, l, ((st : Nat) : Int)))) (V.int ((r.1, l, ((st : Nat) : Int)) : ZRow).2.2)) := hN'
      rw [putK_tabZ hfr] at hN'
      exact ⟨_, _, B9, lb, ob', _, rws', ps', rfl, hlb, sB.trans s9, h9.w1, hN', Paired.mapP hR fun _ _ y => y.mono (Stay.of s9), by rw [kysJ el]; exact hF⟩
    · clear h4 hN hR hF c2 nt hB5 hl4
      clear l4 ob full rws ps lb
      rintro σ H6 ⟨t12, t13, B, lb, ob, full, rws, ps, rfl, hlb, sB, hh, hN, hR, hF⟩
      rw [List.length_map, hqs, List.take_length, ← kysZ_take er] at hF
      exact ⟨_, _, _, _, _, _, _, _, B, lb, ob, full, rws, ps, rfl, hlb, s05.trans sB, hh, hN, hR, hF⟩
  · clear h4 h3 h2 hl2 hN0
    rintro σ H4 ⟨t6, t7, t8, t9, t10, t11, t12, t13, B, lb, ob, full, rws, ps, rfl, hlb, sB, hh, hN, hR, hF⟩
    rw [List.length_map, hpl, List.take_length] at hF
    obtain ⟨g1, h5⟩ := hh.rot.give
    obtain ⟨g2, h6⟩ := h5.give
    have eT : upd (upd B dT ob) dR (.lst (ps.map V.ref)) dT = some ob := g2 _ _ upd_same
    have eR : upd (upd B dT ob) dR (.lst (ps.map V.ref)) dR = some (.lst (ps.map V.ref)) := upd_same
    have s02 := (sB.trans g1).trans g2
    replace hN := hN.mono (Stay.of (g1.trans g2))
    replace hR : Paired (ZrAt K _) ps rws := Paired.mapP hR fun _ _ y => y.mono (Stay.of (g1.trans g2))
    generalize upd (upd B dT ob) dR (.lst (ps.map V.ref)) = B6 at *
    clear hh h5
    refine ⟨fun σ' H' => ∃ (B' : Hp) (tR : Addr) (lb : List Int) (rw2 : List ZRow) (ps2 : List Addr), σ' = [some (.ref g), some (.ref q), some (.int (m : Nat)), some (.int (rest : Nat)), some (.ref tR), some (.ref dT), t6, t7, t8, t9, t10, t11, t12, t13, none, none, none] ∧ BagOk lb ∧ Same B6 B' ∧ Hs B' [(g, .lst (lb.map V.int))] H' ∧
      B' tR = some (.lst (ps2.map V.ref)) ∧ Paired (ZrAt K B') ps2 rw2 ∧ rw2.Perm rws, ⟨_, rfl, g, 2, rfl, h6.bag hlb, by decide, by decide, fun b H7 hb d7 => ?_⟩, ?_⟩
    · obtain ⟨l7, B7, hl7, s7, h7, _⟩ := h6.dr0 d7
      have R7 : Paired (ZrAt K B7) ps rws := Paired.mapP hR fun _ _ y => y.mono (Stay.of s7)
      refine ⟨rfl, _, rfl, if_dec (fun c => ?_) (fun c => ⟨B7, dR, l7, rws, ps, rfl, hl7, s7, h7, s7 _ _ eR, R7, List.Perm.refl _⟩)⟩
      refine ⟨_, rfl, dR, _, rfl, SqL.of (h7.sub _ _ (s7 _ _ eR)), fun y hy => ?_⟩
      have h8 := h7.tup (o := .lst (ps.map V.ref).reverse) hy
      have s8 : Same B7 (upd B7 y (.lst (ps.map V.ref).reverse)) := up_same (h7.sub.free hy)
      exact ⟨_, y, l7, rws.reverse, ps.reverse, rfl, hl7, s7.trans s8, h8, by rw [upd_same, List.map_reverse], Paired.mapP (paired_rev R7) fun _ _ u => u.mono (Stay.of s8), List.reverse_perm _⟩
    rintro σ' H8 ⟨B8, tR, l8, rw2, ps2, rfl, hl8, s8, h8, eR8, hR8, pm⟩
    refine ⟨_, rfl, g, 9, rfl, h8.bag hl8, by decide, by decide, fun pp H9 hpp d9 => ⟨_, _, rfl, rfl, ?_⟩⟩
    dsimp only
    rw [show (1 : Int) + ((pp : Nat) : Int) = ((1 + pp : Nat) : Int) from by omega]
    obtain ⟨l9, B9, hl9, s9, h9, _⟩ := h8.dr0 d9
    refine ⟨_, rfl, _, rfl, _, _, rfl, rfl, g, 1 + pp + 1, rfl, h9.bag hl9, by omega, by omega, fun rs H10 hrs d10 => ?_⟩
    obtain ⟨l10, B10, hl10, s10, h10, _⟩ := h9.dr0 d10
    simp only [List.set_cons_succ, List.set_cons_zero]
    refine ⟨_, rfl, _, rfl, by omega, by omega, fun D hD => lc_filtR (n := m) (out := fun k => .int (k : Nat)) (keep := fun k => decide (((k : Nat) : Int) % ((1 + pp : Nat) : Int) = ((rs : Nat) : Int))) h10 hD (by omega) (fun k hk H' s' R1 R2 k1 k2 => ?_) (fun H11 h11 => ?_)⟩
    · refine ⟨_, rfl, _, rfl, _, _, rfl, rfl, by omega, _, rfl, rfl, _, rfl, if_dec (fun c => ?_) (fun c => ?_)⟩
      · exact ⟨_, rfl, k1 (decide_eq_true (V.int.inj c))⟩
      · exact k2 (decide_eq_false (fun z => c (by show V.int _ = _; rw [z])))
    obtain ⟨mks, emk⟩ : ∃ mks : List Int, mks = ((List.range m).filter fun k => decide (((k : Nat) : Int) % ((1 + pp : Nat) : Int) = ((rs : Nat) : Int))).map fun k => ((k : Nat) : Int) := ⟨_, rfl⟩
    have hmk : mrkF (m : Nat) (-1) mks = true := by rw [emk]; exact (mrkF_filt _ m (Nat.le_refl _)).1
    have evI : ((List.range m).filter fun k => decide (((k : Nat) : Int) % ((1 + pp : Nat) : Int) = ((rs : Nat) : Int))).map (fun k => V.int (k : Nat)) = vI mks := by
      rw [emk, vI, List.map_map]
      rfl
    rw [evI] at h11
    obtain ⟨g11, h12⟩ := h11.give
    have e11 : upd B10 D (.lst (vI mks)) D = some (.lst (vI mks)) := upd_same
    generalize upd B10 D (.lst (vI mks)) = B11 at *
    refine ⟨D, _, rfl, .inl ⟨SqL.of (h12.sub _ _ e11), fun tm htm => ?_⟩⟩
    have h13 := h12.tup (o := .tup (vI mks)) htm
    have s13 : Same B11 (upd B11 tm (.tup (vI mks))) := up_same (h12.sub.free htm)
    have e13 : SqT K (upd B11 tm (.tup (vI mks))) tm (vI mks) := SqT.of upd_same
    generalize upd B11 tm (.tup (vI mks)) = B13 at *
    have s813 := ((s9.trans s10).trans g11).trans s13
    simp only [List.set_cons_succ, List.set_cons_zero]
    refine ⟨_, rfl, _, rfl, tR, _, rfl, .inl ⟨SqL.of (h13.sub _ _ (s813 _ _ eR8)), fun tr htr => ?_⟩⟩
    have h14 := h13.tup (o := .tup (ps2.map V.ref)) htr
    have s14 : Same B13 (upd B13 tr (.tup (ps2.map V.ref))) := up_same (h13.sub.free htr)
    have e14 : SqT K (upd B13 tr (.tup (ps2.map V.ref))) tr (ps2.map V.ref) := SqT.of upd_same
    generalize upd B13 tr (.tup (ps2.map V.ref)) = B14 at *
    refine ⟨_, rfl, _, rfl, _, rfl, (by show 5 ≤ sizeLine; decide), fun z hz => ?_⟩
    have su := up_same (o := .lst [.int (m : Nat), .ref tr, .int (rest : Nat), .ref tm, .ref dT]) hz
    have sall := h14.sub.trans su
    have dr0 : Dr g H _ := h14.isDr hl10 List.mem_cons_self (by rw [hB0]; exact (((s02.trans s8).trans s813).trans s14))
    have s8z := (s813.trans s14).trans sall
    refine hq z ⟨(m : Nat), rw2, mks, (rest : Nat)⟩ full m _ (hF.drOk ok pm hm1 hm2 hpw hmk hrI) (Dr.same dr0 su) ?_ (dr0.free0 hz)
    exact ⟨tr, tm, dT, ob, ps2, [], upd_same, Same.sqt sall e14, Paired.mapP hR8 fun _ _ y => y.mono (Stay.of s8z), Same.sqt (s14.trans sall) e13, (s8.trans s8z) _ _ eT, hN.mono (Stay.of (s8.trans s8z))⟩
end
end Sy
/-! methods and classmethods that may raise, what is raised being wished for at the caller's slots -/
namespace Sy
open PySem PySem.Spec PyProof.Rows L2
section
variable {X : Cx} {CX : CXT} {k : Nat} {C p g f : Addr} {mc : Value} {fd : FuncData} {ps : List Str} {sp : Sp} {E : L2.St → XK} {o e : Expr} {es : List Expr} {m : Str} {pos apos : Pos} {ta : TE} {t : TA} {pl : Sem Bool}
def tCMethW (C : Addr) (sp : Sp) (E : L2.St → XK) (ta : TE) (t : TA) : TE := fun σ H Q => ta σ H fun x H1 => x = .ref C ∧ t σ H1 fun vs H2 => sp (.ref C :: vs) H2 Q (E σ)
theorem run_fnC {pins : List (Addr × Obj)} {σ : L2.St} {H : Hp} {s : Shared} {Q : VK} {us : List Value} {vs : List V} (F : FnOk X.prog X.w X.K X.mg X.base CX k f fd ps sp) (hr : Room k X.A) (hb : Binds X.K fd ps []) (hx : PassesAt CX X σ (E σ))
    (I : Inv X pins σ H s) (r : Vals vs us) (h : sp vs H Q (E σ)) : codeAny (model X.prog X.w) X.A (.call (.ref f) ⟨us, []⟩) (fun r s' => match r with | .ok (.ret v) => EP X pins σ Q v s' | .ok _ => False | .error e => X.xe e s') s := by
  have hl : us.length = ps.length := by rw [← r.length]; exact F.len _ _ _ _ h
  have b := hb s us I.kIn (by rw [List.append_nil]; exact hl)
  rw [List.append_nil] at b
  refine codeAny_mono (F.run X.A X.stack s H ⟨us, []⟩ us vs Q (E σ) hr I.env0 b r h) fun r s' hq => ?_
  cases r with
  | error e => exact hx pins H s e s' I hq
  | ok fl =>
    cases fl with
    | ret u => exact I.after hq
    | next => exact False.elim hq
    | brk => exact False.elim hq
    | cont => exact False.elim hq
theorem pe_cmethW (he : PE X o ta) (r : ClX.CRead X.K C mc) (c : ClX.CMet X.K C mc m p g) (F : FnOk X.prog X.w X.K X.mg X.base CX k g fd ps sp) (hb : Binds X.K fd ps []) (hr : Room k X.A) (hx : ∀ σ, PassesAt CX X σ (E σ)) (ha : PA X (e :: es) t)
    (hst : starEach (e :: es) X.env = (false, eval e X.env) :: starEach es X.env := by rfl) (hpl : (backTo pos (starEach es X.env)).any (·.1) = false := by rfl)
    (ht : eval (.Call (.Attribute o m apos) (e :: es) [] pos) X.env = (do
      let ov ← eval o X.env
      standAt apos.atName
      let (f, first) ← holding [ov] (getMethod ov m pl)
      callWith pos f first (backTo pos (starEach (e :: es) X.env)) (backToKw pos (keywordEach [] X.env))) := by rfl) :
    PE X (.Call (.Attribute o m apos) (e :: es) [] pos) (tCMethW C sp E ta t) := by
  refine ⟨fun pins s σ H Q I h => ?_⟩
  refine PySem.W.methodCall_KW (pl := pl) (thn (he.run pins s σ H _ I h) fun u s1 ⟨x, H1, I1, rx, ex, q⟩ => ?_) ht
  subst ex
  obtain rfl : u = Value.ref C := rx
  refine ClX.getmethcm_ok I1 r c fun s2 I2 => ?_
  refine ClX.callwith_cm I2 (ClX.base_none I1 (Nat.le_refl _)) c.fi (thn (ha.run pos _ s2 σ H1 _ I2 q) fun us s3 ⟨vs, H2, I3, rv, q2⟩ => ⟨⟨ClX.pin_at I3, I3.kIn⟩, ?_⟩) hst hpl
  have z : wpAny (model X.prog X.w) X.A (call (.ref s1.heap.objs.size) us) (EP X ((s1.heap.objs.size, PySem.W.methodObj (.ref g) (.ref C)) :: pins) σ Q) X.xe s3 :=
    wpAny_call (PySem.W.method_call (ClX.pin_at I3) (run_fnC (us := .ref C :: us) (vs := .ref C :: vs) F hr hb (hx σ) I3 (.cons rfl rv) q2))
  exact thn z fun _ _ y => ClX.unpinE y
def tMethW (C : Addr) (m : Str) (sp : Sp) (E : L2.St → XK) (ta : TE) (t : TA) : TE := fun σ H Q => ta σ H fun x H1 => ∃ a dx fs, x = .ref a ∧ H1 a = some (.ins C dx fs) ∧ fs.lookup m = none ∧ t σ H1 fun vs H2 => sp (.ref a :: vs) H2 Q (E σ)
theorem pe_methW (he : PE X o ta) (c : Cls X.K C) (hm : Meth X.K C m f) (F : FnOk X.prog X.w X.K X.mg X.base CX k f fd ps sp) (hr : Room k X.A) (hb : Binds X.K fd ps []) (hx : ∀ σ, PassesAt CX X σ (E σ)) (ha : PA X (e :: es) t)
    (hst : starEach (e :: es) X.env = (false, eval e X.env) :: starEach es X.env := by rfl) (hpl : (backTo pos (starEach es X.env)).any (·.1) = false := by rfl)
    (ht : eval (.Call (.Attribute o m apos) (e :: es) [] pos) X.env = (do
      let ov ← eval o X.env
      standAt apos.atName
      let (f, first) ← holding [ov] (getMethod ov m pl)
      callWith pos f first (backTo pos (starEach (e :: es) X.env)) (backToKw pos (keywordEach [] X.env))) := by rfl) :
    PE X (.Call (.Attribute o m apos) (e :: es) [] pos) (tMethW C m sp E ta t) := by
  refine ⟨fun pins s σ H Q I h => ?_⟩
  refine PySem.W.methodCall_KW (pl := pl) (thn (he.run pins s σ H _ I h) fun u s1 ⟨x, H1, I1, rx, a, dx, fs, ex, ea, l, q⟩ => ?_) ht
  subst ex
  obtain rfl : u = Value.ref a := rx
  refine getmeth_ok I1 ea c hm l ?_
  refine PySem.W.callWith_K (first := [.ref a]) (h₀ := X.base) I.ok.mod.kin hm.kp (thn (ha.run pos pins s1 σ H1 _ I1 q) fun us s2 ⟨vs, H2, I2, r, q2⟩ => ⟨I2.kIn, ?_⟩) hst hpl
  exact run_fnS (us := .ref a :: us) (vs := .ref a :: vs) F hr hb (hx σ) I2 (.cons rfl r) q2
end
theorem pe_fldK (K : PySem.W.Frag) {X : Cx} {e : Expr} {f : Str} {ta : TE} {pos : Pos} (hK : X.K = K) (he : PE X e ta) (hb : attributeBase e f X.env (eval e X.env) = eval e X.env) : PE X (.Attribute e f pos) (tFld K ta f) := by
  subst hK
  exact pe_fld he hb
/-- Bed.read, from outside -/
structure ReadM (P : Program) (w : World) (K : PySem.W.Frag) (mg : Str → Option Value) (base : Heap) : Prop where
  rd : ClX.CRead K (He.ga K "Bed") (.type "type")
  cm : ClX.CMet K (He.ga K "Bed") (.type "type") "read" (He.ma K (He.ga K "Bed") "read") (rdA K)
  at_ : mg "Bed" = some (.ref (He.ga K "Bed"))
  fn : ∃ fd, FnOk P w K mg base (L2.CX P w) 6 (rdA K) fd ["cls", "text"] (spRead K) ∧ Binds K fd ["cls", "text"] []
end Sy
/-! C(e, .., k = v), what is raised being wished for at the caller's slots; _law_made -/
namespace Sy
open PySem PySem.Spec PyProof.Rows L2
def tMakeKW (C : Addr) (n m : Nat) (sp : Sp) (gV : List V → List V → List V) (E : L2.St → XK) (t tk : TA) : TE := fun σ H Q => t σ H fun vs H1 => tk σ H1 fun zs H2 => vs.length = n ∧ zs.length = m ∧ ∀ x dx, H2 x = none → H2 dx = none → dx ≠ x →
  sp (gV (.ref x :: vs) zs) (upd (upd H2 dx (.own x)) x (.ins C dx [])) (fun v H3 => v = .non ∧ Q (.ref x) H3) (E σ)
section
variable {X : Cx} {CX : CXT} {k n : Nat} {f C : Addr} {fd : FuncData} {ps ks : List Str} {sp : Sp} {E : L2.St → XK} {x : Str} {p pos : Pos} {e : Expr} {es : List Expr} {kws : List Keyword} {t tk : TA} {g : List Value → List Value → List Value} {gV : List V → List V → List V}
theorem run_makeKW {pins : List (Addr × Obj)} {σ : L2.St} {H : Hp} {s : Shared} {Q : VK} {us ws : List Value} {vs zs : List V} (M : Mk X.K C f) (F : FnOk X.prog X.w X.K X.mg X.base CX k f fd ps sp) (hr : Room (k + 1) X.A) (hb : KBn X.K fd ps (n + 1) ks g gV) (hx : PassesAt CX X σ (E σ))
    (I : Inv X pins σ H s) (r : Vals vs us) (rz : Vals zs ws) (l1 : vs.length = n) (l2 : zs.length = ks.length)
    (h : ∀ x dx, H x = none → H dx = none → dx ≠ x → sp (gV (.ref x :: vs) zs) (upd (upd H dx (.own x)) x (.ins C dx [])) (fun v H2 => v = .non ∧ Q (.ref x) H2) (E σ)) :
    wpAny (model X.prog X.w) X.A (call (.ref C) us (ks.zip ws)) (EP X pins σ Q) X.xe s := by
  have hq := h (s.heap.objs.size + 1) s.heap.objs.size (I.hok.fresh (Nat.le_succ _)) (I.hok.fresh (Nat.le_refl _)) (Nat.ne_of_lt (Nat.lt_succ_self _))
  have I2 := Inv.made (C := C) I
  have r1 : Vals (V.ref (s.heap.objs.size + 1) :: vs) (Value.ref (s.heap.objs.size + 1) :: us) := .cons rfl r
  have r2 := hb.rel r1 rz
  have n1 : (Value.ref (s.heap.objs.size + 1) :: us).length = n + 1 := by
    rw [List.length_cons, ← r.length, l1]
  refine wpAny_call (make_map (f := f) I.kIn M.makes M.init (beq_iff_eq.mp M.fn) (codeAny_mono (F.run _ X.stack _ _ ⟨Value.ref (s.heap.objs.size + 1) :: us, ks.zip ws⟩ (g (Value.ref (s.heap.objs.size + 1) :: us) ws) _ _ (E σ) (hr.make C us (ks.zip ws))
    (I2.env0.make C us (ks.zip ws)) (hb.to _ (Value.ref (s.heap.objs.size + 1) :: us) ws I2.kIn n1 (rz.length.symm.trans l2)) r2 hq) fun r s' hq' => ?_))
  cases r with
  | error e => exact hx pins _ _ e s' I2 hq'
  | ok fl =>
    cases fl with
    | ret u =>
      obtain ⟨v, H', I3, rv, ev, q3⟩ := I2.after hq'
      subst ev
      exact ⟨rv, ⟨V.ref (s.heap.objs.size + 1), H', I3, rfl, q3⟩⟩
    | next => exact False.elim hq'
    | brk => exact False.elim hq'
    | cont => exact False.elim hq'
theorem pe_makeKW (M : Mk X.K C f) (F : FnOk X.prog X.w X.K X.mg X.base CX k f fd ps sp) (hr : Room (k + 1) X.A) (hg : Gl X x) (hm : X.mg x = some (.ref C)) (hb : KBn X.K fd ps (n + 1) ks g gV) (hx : ∀ σ, PassesAt CX X σ (E σ)) (ha : PA X (e :: es) t) (hkw : PK X kws tk)
    (hall : (backToKw pos (keywordEach kws X.env)).all (·.1.isSome) = true := by rfl) (hks : (backToKw pos (keywordEach kws X.env)).filterMap (·.1) = ks := by rfl) (hdb : (x == ("__debug__" : Str)) = false := by decide)
    (he : starEach (e :: es) X.env = (false, eval e X.env) :: starEach es X.env := by rfl) (hpl : ((backTo pos (starEach (e :: es) X.env)).any (·.1) || (backToKw pos (keywordEach kws X.env)).any (·.1.isNone)) = false := by rfl) :
    PE X (.Call (.Name x p) (e :: es) kws pos) (tMakeKW C n ks.length sp gV E t tk) := by
  refine ⟨fun pins s σ H Q I h => ?_⟩
  refine wpAny_Call_Name_kw (ld_glob I hg hm ?_ hdb)
  refine PySem.W.callWith_KW (h₀ := X.base) I.ok.mod.kin M.kp hall (thn (ha.run pos pins s σ H _ I h) fun us s1 ⟨vs, H1, I1, r, q⟩ => ?_) hpl he
  refine thn (hkw.run pos pins s1 σ H1 _ I1 q) fun ws s2 ⟨zs, H2, I2, rz, l1, l2, q2⟩ => ⟨I2.kIn, ?_⟩
  rw [hks]
  exact run_makeKW M F hr hb (hx σ) I2 r rz l1 l2 q2
end
abbrev rPs : List Str := ["self", "bed", "states", "rows", "marks", "otherwise"]
/-- Reader(b, n, rows, marks): otherwise lacks -/
theorem rd_binds0 {K : PySem.W.Frag} {f : Addr} {fd : FuncData} (F : FunD K "__init__" "Reader.__init__" (defArgs (clb 26 0)) (defBody (clb 26 0)) (defScope (clb 26 0)) [] [("otherwise", .int 0)] f fd) :
    ∃ mv : List Value, KBn K fd rPs 5 [] (fun us ws => us ++ (mv ++ ws)) (fun vs zs => vs ++ ([V.int 0] ++ zs)) := by
  refine F.kbinds0 5 [] [("otherwise", .int 0)] (fun us mv ws => us ++ (mv ++ ws)) (by simp) (fun q hq => hq) (fun a b c => a.append (b.append c)) ?_
  intro D doc pm an cdv ct us mv ws h1 h2 h3
  match us, h1, mv, h2, ws, h3 with
  | [a, b, c, d, e], _, [m], _, [], _ => exact ⟨_, _, _, _, _, _, rfl, rfl, rfl⟩
/-- Reader(b, n, rows, marks, otherwise=k) -/
theorem rd_binds1 {K : PySem.W.Frag} {f : Addr} {fd : FuncData} (F : FunD K "__init__" "Reader.__init__" (defArgs (clb 26 0)) (defBody (clb 26 0)) (defScope (clb 26 0)) [] [("otherwise", .int 0)] f fd) :
    ∃ mv : List Value, KBn K fd rPs 5 ["otherwise"] (fun us ws => us ++ (mv ++ ws)) (fun vs zs => vs ++ (([] : List V) ++ zs)) := by
  refine F.kbinds0 5 ["otherwise"] [] (fun us mv ws => us ++ (mv ++ ws)) (by simp) (fun q hq => nomatch hq) (fun a b c => a.append (b.append c)) ?_
  intro D doc pm an cdv ct us mv ws h1 h2 h3
  match us, h1, mv, h2, ws, h3 with
  | [a, b, c, d, e], _, [], _, [k], _ => exact rfl
section
variable {P : Program} {w : World} {K : PySem.W.Frag} {mg : Str → Option Value} {base : Heap}
/-- Reader, made from outside -/
structure MkR (P : Program) (w : World) (K : PySem.W.Frag) (mg : Str → Option Value) (base : Heap) : Prop where
  mkr : Mk K (He.ga K "Reader") (He.ma K (He.ga K "Reader") "__init__")
  at_ : mg "Reader" = some (.ref (He.ga K "Reader"))
  fn : ∃ fd, FunD K "__init__" "Reader.__init__" (defArgs (clb 26 0)) (defBody (clb 26 0)) (defScope (clb 26 0)) [] [("otherwise", .int 0)] (He.ma K (He.ga K "Reader") "__init__") fd ∧ FnOk P w K mg base (L2.CX P w) (4 + 1) (He.ma K (He.ga K "Reader") "__init__") fd rPs (spInitR P w K)
theorem toR_ofRs (rows : List Sy.Row) : (rows.map ofR).map toR = rows := by
  rw [List.map_map]
  conv => rhs; rw [← List.map_id rows]
  exact List.map_congr_left fun r _ => toR_ofR r
def spMade (P : Program) (w : World) (K : PySem.W.Frag) : Sp := fun vs H Q _ => ∃ (z : Addr) (rows : List Sy.Row) (d : RdrZ) (full : List ZRow) (m : Nat), vs = [.str (bedT rows), .ref z] ∧ RowsL rows ∧ DrOk rows m d full ∧ DrAt P w K H z d full ∧
  ∀ H' a b, Same H H' → RdzAt P w K H' a b rows d → Q (.ref a) H'
theorem sc_made : FnScope ["_law_text_here", "_law_drawn"] ["_law_text_here", "_law_drawn"] (defScope (top 50)) := ⟨rfl, rfl, rfl, by decide +kernel, rfl, by decide +kernel, by decide +kernel⟩
theorem k_made (T : Txt K mg) (RD : ReadM P w K mg base) (MR : MkR P w K mg base) (F : DF K mg "_law_made" 50) : Cal P w K mg base 7 "_law_made" ["_law_text_here", "_law_drawn"] (spMade P w K) := by
  refine cal_of F.1 F.2 sc_made (fun _ _ _ _ _ _ us e => match us, e with | [_, _], _ => rfl) (fun vs H Q E s => by obtain ⟨_, _, _, _, _, rfl, _⟩ := s; rfl) ?_
  intro cdv A outer s H vs Q E hr h
  obtain ⟨z, rows, d, full, m, rfl, rl, dok, ⟨tr, tm, dS, ob, ps, more, hz, htr, hps, hm, hdS, hN⟩, hq⟩ := h
  have sc := sc_made
  obtain ⟨rfd, FR, BR⟩ := RD.fn
  obtain ⟨fd, FD, FI⟩ := MR.fn
  obtain ⟨mv0, KB0⟩ := rd_binds0 FD
  obtain ⟨mv1, KB1⟩ := rd_binds1 FD
  refine ⟨_, (pss_cons (ps_cut (ps_if (PW.pt (pw_and (pt_cmpR op_eq (pe_ix ix_list (pv 1) pe_int (fun _ _ => rfl)) pe_int (nomark _)) (pw_and1 (pt_cmpR op_eq (pe_op op_mod (pe_callB call_len_seq (by rfl) T.len (by decide +kernel) (pa_cons (pe_ix ix_list (pv 1) pe_int (fun _ _ => rfl)) pa_nil)) pe_int) pe_int (nomark _)))))
        (pss_one (ps_ret (pe_makeK (E := E0) MR.mkr FI (hr.mono (by decide)) rfl MR.at_ KB0 (fun pins σ H s e s' I h => passL pins σ H s e s' I h) (pa_cons (pe_cmethW (E := fun _ => E0) (pe_glob (v := .ref (He.ga K "Bed")) (by rfl) RD.at_ (by rfl)) RD.rd RD.cm FR BR (hr.mono (by decide)) (fun σ pins H s e s' I h => passL pins σ H s e s' I h) (pa_cons (pv 0) pa_nil)) (pa_cons (pe_ix ix_list (pv 1) pe_int (fun _ _ => rfl)) (pa_cons (pe_ix ix_list (pv 1) pe_int (fun _ _ => rfl)) (pa_cons (pe_ix ix_list (pv 1) pe_int (fun _ _ => rfl)) pa_nil)))) pk_nil)))
        pss_nil))
      (pss_one (ps_ret (pe_makeK (E := E0) MR.mkr FI (hr.mono (by decide)) rfl MR.at_ KB1 (fun pins σ H s e s' I h => passL pins σ H s e s' I h) (pa_cons (pe_cmethW (E := fun _ => E0) (pe_glob (v := .ref (He.ga K "Bed")) (by rfl) RD.at_ (by rfl)) RD.rd RD.cm FR BR (hr.mono (by decide)) (fun σ pins H s e s' I h => passL pins σ H s e s' I h) (pa_cons (pv 0) pa_nil)) (pa_cons (pe_ix ix_list (pv 1) pe_int (fun _ _ => rfl)) (pa_cons (pe_ix ix_list (pv 1) pe_int (fun _ _ => rfl)) (pa_cons (pe_ix ix_list (pv 1) pe_int (fun _ _ => rfl)) pa_nil)))) (pk_cons (pe_ix ix_list (pv 1) pe_int (fun _ _ => rfl)) pk_nil))))), ?_⟩
  have hzz : ∀ {H' : Hp}, Same H H' → SqL K H' z (.int d.many :: .ref tr :: .int d.rest :: .ref tm :: .ref dS :: more) := fun s => SqL.of (s _ _ hz)
  have core : ∀ (v : V) (H1 : Hp) (b : Addr), v = .int d.rest → Same H H1 → BedAt K H1 b rows → ∀ x dx, H1 x = none → H1 dx = none → dx ≠ x →
      spInitR P w K [.ref x, .ref b, .int d.many, .ref tr, .ref tm, v] (upd (upd H1 dx (.own x)) x (.ins (He.ga K "Reader") dx [])) (fun v H2 => v = .non ∧ Q (.ref x) H2) E0 := by
    intro v H1 b ev s1 hb x dx hx hdx ne
    subst ev
    have s3 := up_same (o := .own x) hdx
    have hx3 : (upd H1 dx (.own x)) x = none := by rw [upd_ne ne.symm]; exact hx
    have s4 := up_same (o := .ins (He.ga K "Reader") dx []) hx3
    have s34 := s3.trans s4
    have s14 := s1.trans s34
    refine ⟨x, b, tr, tm, dx, rows, ps, d, rfl, upd_same, hb.mono (Stay.of s34), rl.ok, Same.sqt s14 htr, Paired.mapP hps fun _ _ y => y.mono (Stay.of s14), dok.le, fun r hr' => ?_, Same.sqt s14 hm, fun _ H' keep rd => ⟨rfl, hq H' x b (fun a o e => keep a o (fun y => ?_) (s14 _ _ e)) rd⟩, fun e he => ?_⟩
    · have := (dok.kd r hr').2.1
      have := rl.ok.ar_le r.1
      omega
    · have := s1 _ _ e
      rw [y, hx] at this
      cases this
    · rw [dok.due] at he
      cases he
  obtain ⟨e1, e2, e3⟩ := bedT_read rl
  have rd : ∀ {E' : XK} {Q' : VK}, (∀ H' a, Same H H' → BedAt K H' a rows → Q' (.ref a) H') → spRead K [.ref (He.ga K "Bed"), .str (bedT rows)] H Q' E' := fun {E' Q'} hq' => by
    refine ⟨bedT rows, rfl, by have := bedT_len rl; omega, bedT_sg rl, fun ps' hp hb hok eo H' a s hbed => ?_, fun e he => by rw [e3] at he; cases he⟩
    rw [e1] at hp
    cases hp
    rw [toR_ofRs] at hbed
    exact hq' H' a s hbed
  refine ⟨fun σ' H' => σ' = [some (.str (bedT rows)), some (.ref z)] ∧ H' = H, ⟨_, rfl, z, _, _, _, rfl, rfl, hzz (Same.refl H), atI_nat (j := 2) rfl, rfl, _, rfl, if_dec (fun c => ?_) (fun c => ⟨rfl, rfl⟩)⟩, ?_⟩
  · refine ⟨_, rfl, z, _, _, .ref tr, rfl, rfl, hzz (Same.refl H), atI_nat (j := 1) rfl, tr, _, rfl, .inr htr, _, _, rfl, rfl, (by show (0 : Int) < 2; decide), rfl, _, rfl, if_dec (fun c2 => ?_) (fun c2 => ⟨rfl, rfl⟩)⟩
    refine ⟨rfl, _, rfl, ?_⟩
    dsimp only [tNil]
    refine rd fun H1 b s1 hb => ?_
    exact ⟨_, rfl, z, _, _, _, rfl, rfl, hzz s1, atI_nat (j := 0) rfl, _, rfl, z, _, _, .ref tr, rfl, rfl, hzz s1, atI_nat (j := 1) rfl, _, rfl, z, _, _, .ref tm, rfl, rfl, hzz s1, atI_nat (j := 3) rfl, rfl, rfl, core _ H1 b c.symm s1 hb⟩
  · rintro σ' _ ⟨rfl, rfl⟩
    refine ⟨rfl, _, rfl, ?_⟩
    dsimp only [tNil]
    refine rd fun H1 b s1 hb => ?_
    exact ⟨_, rfl, z, _, _, _, rfl, rfl, hzz s1, atI_nat (j := 0) rfl, _, rfl, z, _, _, .ref tr, rfl, rfl, hzz s1, atI_nat (j := 1) rfl, _, rfl, z, _, _, .ref tm, rfl, rfl, hzz s1, atI_nat (j := 3) rfl, _, rfl, z, _, _, _, rfl, rfl, hzz s1, atI_nat (j := 2) rfl, rfl, rfl, core _ H1 b rfl s1 hb⟩
end
end Sy
/-! _law_bed -/
namespace Sy
open PySem PySem.Spec PyProof.Rows L2
theorem app_tl (x : Str) (c : Nat) : (x ++ (⟨#[c]⟩ : Str)).cps.toList = x.cps.toList ++ [c] := by
  show (x.cps ++ #[c]).toList = _
  simp
theorem vN_vI (l : List Nat) : vN l = vI (l.map fun n => ((n : Nat) : Int)) := by
  unfold vN vI
  rw [List.map_map]
  rfl
theorem vN_snoc (l : List Nat) (n : Nat) : vN l ++ [V.int (n : Nat)] = vN (l ++ [n]) := by
  unfold vN
  rw [List.map_append]
  rfl
theorem vN_len (l : List Nat) : (vN l).length = l.length := List.length_map ..
theorem kinds8 (j : Nat) (h : j < 8) : ∃ n : Nat, (vN [3, 2, 3, 4, 1, 2, 3, 4])[j]? = some (.int (n : Nat)) ∧ 1 ≤ n ∧ n ≤ 4 := by
  match j, h with
  | 0, _ => exact ⟨3, rfl, by decide, by decide⟩
  | 1, _ => exact ⟨2, rfl, by decide, by decide⟩
  | 2, _ => exact ⟨3, rfl, by decide, by decide⟩
  | 3, _ => exact ⟨4, rfl, by decide, by decide⟩
  | 4, _ => exact ⟨1, rfl, by decide, by decide⟩
  | 5, _ => exact ⟨2, rfl, by decide, by decide⟩
  | 6, _ => exact ⟨3, rfl, by decide, by decide⟩
  | 7, _ => exact ⟨4, rfl, by decide, by decide⟩
  | n + 8, h => omega
theorem sizes8 (j : Nat) (h : j < 8) : ∃ n : Nat, (vN [2, 1, 0, 2, 1, 3, 2, 0])[j]? = some (.int (n : Nat)) ∧ n ≤ 3 := by
  match j, h with
  | 0, _ => exact ⟨2, rfl, by decide⟩
  | 1, _ => exact ⟨1, rfl, by decide⟩
  | 2, _ => exact ⟨0, rfl, by decide⟩
  | 3, _ => exact ⟨2, rfl, by decide⟩
  | 4, _ => exact ⟨1, rfl, by decide⟩
  | 5, _ => exact ⟨3, rfl, by decide⟩
  | 6, _ => exact ⟨2, rfl, by decide⟩
  | 7, _ => exact ⟨0, rfl, by decide⟩
  | n + 8, h => omega
def odds : List Nat := [1, 3, 5, 7, 9, 11, 15, 17, 19, 21, 23, 25]
theorem odds12 (j : Nat) (h : j < 12) : ∃ n : Nat, (vN odds)[j]? = some (.int (n : Nat)) ∧ n ∈ odds ∧ n ≤ 25 := by
  obtain ⟨n, e⟩ : ∃ n, odds[j]? = some n := ⟨_, List.getElem?_eq_getElem h⟩
  have hm := List.mem_of_getElem? e
  refine ⟨n, vN_at e, hm, ?_⟩
  have : ∀ n ∈ odds, n ≤ 25 := by decide
  exact this n hm
theorem odd_apart {a b k k' : Nat} (hb : b ∈ odds) (h1 : k < 4) (h2 : k' < 4) (e : (a + k * b) % 26 = (a + k' * b) % 26) : k = k' := by
  simp only [odds, List.mem_cons, List.not_mem_nil, or_false] at hb
  rcases hb with rfl | rfl | rfl | rfl | rfl | rfl | rfl | rfl | rfl | rfl | rfl | rfl <;> omega
/-- a name, the sign at spot being given -/
def NmAt (spot c : Nat) (x : Str) : Prop := Wd x ∧ x.cps.toList[spot]? = some (97 + c % 26)
theorem names_nd {spot a b : Nat} {rows : List Sy.Row} (hb : b ∈ odds) (hl : rows.length ≤ 4) (h : ∀ (j : Nat) (r : Sy.Row), rows[j]? = some r → NmAt spot (a + j * b) r.1) : (rows.map (·.1)).Nodup := by
  unfold List.Nodup
  rw [List.pairwise_map, List.pairwise_iff_getElem]
  intro i j hi hj hij e
  have h1 := (h i _ (List.getElem?_eq_getElem hi)).2
  have h2 := (h j _ (List.getElem?_eq_getElem hj)).2
  rw [e, h2] at h1
  have h1 := Option.some.inj h1
  have := odd_apart (a := a) hb (by omega : j < 4) (by omega : i < 4) (by omega)
  omega
section
variable {P : Program} {w : World} {K : PySem.W.Frag} {mg : Str → Option Value} {base : Heap}
def spBedL (K : PySem.W.Frag) : Sp := fun vs H Q _ => ∃ (g : Addr) (mx : Nat), vs = [.ref g, .int (mx : Nat)] ∧ Bag g H ∧ mx ≤ 3 ∧ ∀ t rows H', RowsL rows → (∀ r ∈ rows, r.2 ≤ mx) → Dr g H H' → KtAt K H' t rows → Q (.ref t) H'
abbrev N_bedL : List Str := ["_law_box_here", "_law_top", "_law_letters", "_law_many", "_law_bound", "_law_sizes_here", "_law_k", "_law_size", "_law_spot", "_law_alike", "_law_starts", "_law_strides", "_law_stride", "_law_kinds", "_law_name", "_law_length", "_law_place"]
theorem sc_bedL : FnScope N_bedL ["_law_box_here", "_law_top"] (defScope (top 43)) := ⟨rfl, rfl, rfl, by decide +kernel, rfl, by decide +kernel, by decide +kernel⟩
theorem k_bedL (T : Txt K mg) (hmin : mg "min" = none) (F : DF K mg "_law_bed" 43) (c_law_take : Cal P w K mg base 1 "_law_take" ["_law_box_here", "_law_many"] spDraw) : Cal P w K mg base 2 "_law_bed" ["_law_box_here", "_law_top"] (spBedL K) := by
  refine cal_of F.1 F.2 sc_bedL (fun _ _ _ _ _ _ us e => match us, e with | [_, _], _ => rfl) (fun vs H Q E s => by obtain ⟨_, _, rfl, _⟩ := s; rfl) ?_
  intro cdv A outer s H vs Q E hr h
  obtain ⟨g, mx, rfl, hg, hmx, hq⟩ := h
  have sc := sc_bedL
  obtain ⟨l0, hl0, h0⟩ := hg.take
  generalize hB0 : L2.del H g = B0 at *
  refine ⟨_, (pss_cons (ps_set (i := 2) sc.nd rfl (Or.inl rfl) pe_str)
      (pss_cons (ps_set (i := 3) sc.nd rfl (Or.inl rfl) (pe_ix ix_list (pe_lst (pa_cons pe_int (pa_cons pe_int (pa_cons pe_int (pa_cons pe_int (pa_cons pe_int (pa_cons pe_int (pa_cons pe_int (pa_cons pe_int pa_nil))))))))) (pe_cal c_law_take hr (pa_cons (pv 0) (pa_cons pe_int pa_nil))) (fun _ _ => rfl)))
      (pss_cons (ps_set (i := 4) sc.nd rfl (Or.inl rfl) (pe_cal c_law_take hr (pa_cons (pv 0) (pa_cons (pv 3) pa_nil))))
      (pss_cons (ps_set (i := 5) sc.nd rfl (Or.inl rfl) (pe_lst pa_nil))
      (pss_cons (ps_for (passes_of rfl) rfl (pi_range1 rfl T.range (pa_cons (pv 3) pa_nil)) (pg_name (i := 6) sc.nd rfl (Or.inl rfl))
        (pss_cons (ps_set (i := 7) sc.nd rfl (Or.inl rfl) (pe_ix ix_list (pe_lst (pa_cons pe_int (pa_cons pe_int (pa_cons pe_int (pa_cons pe_int (pa_cons pe_int (pa_cons pe_int (pa_cons pe_int (pa_cons pe_int pa_nil))))))))) (pe_cal c_law_take hr (pa_cons (pv 0) (pa_cons pe_int pa_nil))) (fun _ _ => rfl)))
        (pss_cons (ps_cut (ps_if (pt_cmpR op_eq (pv 6) (pv 4) (nomark _))
          (pss_one (ps_set (i := 7) sc.nd rfl (Or.inl rfl) pe_int))
          pss_nil))
        (pss_cons (ps_cut (ps_if (PW.pt (pw_and (pt_cmpR op_eq (pv 7) pe_int (nomark _)) (pw_and1 (pt_cmpR op_in_seq pe_int (pv 5) rfl))))
          (pss_one (ps_set (i := 7) sc.nd rfl (Or.inl rfl) pe_int))
          pss_nil))
        (pss_one (ps_expr (pe_bm PySem.F.plainAttrs_list PySem.F.slot_list_append PySem.F.type_list_append mt_append (pv 5) (pa_cons (pe_callB (call_min2 rfl) (by rfl) hmin (by decide +kernel) (pa_cons (pv 7) (pa_cons (pv 1) pa_nil))) pa_nil))))))))
      (pss_cons (ps_set (i := 8) sc.nd rfl (Or.inl rfl) (pe_cal c_law_take hr (pa_cons (pv 0) (pa_cons pe_int pa_nil))))
      (pss_cons (ps_set (i := 9) sc.nd rfl (Or.inl rfl) (pe_cal c_law_take hr (pa_cons (pv 0) (pa_cons pe_int pa_nil))))
      (pss_cons (ps_set (i := 10) sc.nd rfl (Or.inl rfl) (pe_lst pa_nil))
      (pss_cons (ps_set (i := 11) sc.nd rfl (Or.inl rfl) (pe_lst pa_nil))
      (pss_cons (ps_for (passes_of rfl) rfl (pi_range1 rfl T.range (pa_cons pe_int pa_nil)) (pg_name (i := 6) sc.nd rfl (Or.inl rfl))
        (pss_cons (ps_expr (pe_bm PySem.F.plainAttrs_list PySem.F.slot_list_append PySem.F.type_list_append mt_append (pv 10) (pa_cons (pe_cal c_law_take hr (pa_cons (pv 0) (pa_cons pe_int pa_nil))) pa_nil)))
        (pss_cons (ps_set (i := 12) sc.nd rfl (Or.inl rfl) (pe_cal c_law_take hr (pa_cons (pv 0) (pa_cons pe_int pa_nil))))
        (pss_cons (ps_cut (ps_if (pt_cmpR op_eq (pv 6) (pv 8) (nomark _))
          (pss_one (ps_set (i := 12) sc.nd rfl (Or.inl rfl) (pe_ix ix_list (pe_lst (pa_cons pe_int (pa_cons pe_int (pa_cons pe_int (pa_cons pe_int (pa_cons pe_int (pa_cons pe_int (pa_cons pe_int (pa_cons pe_int (pa_cons pe_int (pa_cons pe_int (pa_cons pe_int (pa_cons pe_int pa_nil))))))))))))) (pv 12) (fun _ _ => rfl))))
          (pss_one (ps_if (pt_cmpR op_eq (pv 9) pe_int (nomark _))
            (pss_one (ps_set (i := 12) sc.nd rfl (Or.inl rfl) pe_int))
            pss_nil))))
        (pss_one (ps_expr (pe_bm PySem.F.plainAttrs_list PySem.F.slot_list_append PySem.F.type_list_append mt_append (pv 11) (pa_cons (pv 12) pa_nil))))))))
      (pss_cons (ps_set (i := 13) sc.nd rfl (Or.inl rfl) (pe_lst pa_nil))
      (pss_cons (ps_for (passes_of rfl) rfl (pi_range1 rfl T.range (pa_cons (pv 3) pa_nil)) (pg_name (i := 6) sc.nd rfl (Or.inl rfl))
        (pss_cons (ps_set (i := 14) sc.nd rfl (Or.inl rfl) pe_str)
        (pss_cons (ps_set (i := 15) sc.nd rfl (Or.inl rfl) (pe_op op_add (pe_op op_add (pv 8) pe_int) (pe_cal c_law_take hr (pa_cons (pv 0) (pa_cons (pe_op op_sub pe_int (pv 8)) pa_nil)))))
        (pss_cons (ps_for (passes_of rfl) rfl (pi_range1 rfl T.range (pa_cons (pv 15) pa_nil)) (pg_name (i := 16) sc.nd rfl (Or.inl rfl))
          (pss_one (ps_set (i := 14) sc.nd rfl (Or.inl rfl) (pe_op op_add_str (pv 14) (pe_ix ix_str (pv 2) (pe_op op_mod (pe_callTy call_int1 (by rfl) T.int (by decide +kernel) (pa_cons (pe_op op_add (pe_ix ix_list (pv 10) (pv 16) (fun _ _ => rfl)) (pe_op op_mul (pv 6) (pe_ix ix_list (pv 11) (pv 16) (fun _ _ => rfl)))) pa_nil)) pe_int) (fun _ _ => rfl))))))
        (pss_one (ps_expr (pe_bm PySem.F.plainAttrs_list PySem.F.slot_list_append PySem.F.type_list_append mt_append (pv 13) (pa_cons (pe_tup (pa_cons (pv 14) (pa_cons (pe_ix ix_list (pv 5) (pv 6) (fun _ _ => rfl)) pa_nil))) pa_nil))))))))
      (pss_one (ps_ret (pe_callTy call_tuple_of (by rfl) T.tuple (by decide +kernel) (pa_cons (pv 13) pa_nil)))))))))))))))), ?_⟩
  refine ⟨(by show 8 ≤ sizeLine; decide), fun D1 hD1 => ?_⟩
  have hA := h0.lay (o := .lst (vN [3, 2, 3, 4, 1, 2, 3, 4])) hD1
  have hgD : g ≠ D1 := h0.ne_of_new hD1 (g, .lst (l0.map V.int)) (by simp)
  refine ⟨_, rfl, g, 8, rfl, hA.bag hl0, by decide, by decide, fun j1 H1 hj1 d1 => ?_⟩
  have hD1' : H1 D1 = some (.lst (vN [3, 2, 3, 4, 1, 2, 3, 4])) := by
    obtain ⟨_, _, c⟩ := d1
    exact c.2 _ _ hgD.symm upd_same
  obtain ⟨l1, B1, hl1, s1, h1, _⟩ := hA.dr0 d1
  obtain ⟨many, en, hm1, hm4⟩ := kinds8 j1 hj1
  refine ⟨D1, _, _, _, rfl, rfl, SqL.of hD1', atI_nat en, ?_⟩
  refine ⟨_, rfl, _, rfl, g, many, rfl, h1.bag hl1, by omega, by omega, fun bound H2 hbound d2 => ?_⟩
  obtain ⟨l2, B2, hl2, s2, h2, _⟩ := h1.dr0 d2
  have s02 := s1.trans s2
  refine ⟨by decide, fun S hS => ?_⟩
  have h3 := (h2.new (o := .lst (vN [])) hS).swap
  simp only [List.set_cons_succ, List.set_cons_zero]
  refine ⟨_, rfl, _, rfl, by omega, by omega, for_rng (n := many) (fun i σ H' => ∃ (t6 t7 : Option V) (B : Hp) (lb : List Int) (sz : List Nat), σ = [some (.ref g), some (.int (mx : Nat)), some (.str abc), some (.int (many : Nat)), some (.int (bound : Nat)), some (.ref S), t6, t7, none, none, none, none, none, none, none, none, none] ∧ BagOk lb ∧ Same B0 B ∧ Hs B [(g, .lst (lb.map V.int)), (S, .lst (vN sz))] H' ∧
      sz.length = i ∧ (∀ n ∈ sz, n ≤ mx) ∧ (bound < i → sz[bound]? = some 0))
    ⟨none, none, B2, l2, [], rfl, hl2, s02, h3, rfl, fun _ z => (nomatch z), fun z => absurd z (Nat.not_lt_zero _)⟩ ?_ ?_⟩
  · clear h1 h2 h3 d1 d2 hl1 hl2 hA hD1'
    rintro i σ H3 hi ⟨t6, t7, B, lb, sz, rfl, hlb, sB, hh, hsz, hle, hbd⟩
    refine ⟨(by show 8 ≤ sizeLine; decide), fun D1 hD1 => ?_⟩
    have hA := hh.lay (o := .lst (vN [2, 1, 0, 2, 1, 3, 2, 0])) hD1
    have hgD : g ≠ D1 := hh.ne_of_new hD1 (g, .lst (lb.map V.int)) (by simp)
    refine ⟨_, rfl, g, 8, rfl, hA.bag hlb, by decide, by decide, fun j1 H1 hj1 d1 => ?_⟩
    have hD1' : H1 D1 = some (.lst (vN [2, 1, 0, 2, 1, 3, 2, 0])) := by
      obtain ⟨_, _, c⟩ := d1
      exact c.2 _ _ hgD.symm upd_same
    obtain ⟨l1, B1, hl1, s1, h1, _⟩ := hA.dr0 d1
    obtain ⟨n0, en, hn0⟩ := sizes8 j1 hj1
    refine ⟨D1, _, _, _, rfl, rfl, SqL.of hD1', atI_nat en, ?_⟩
    simp only [List.set_cons_succ, List.set_cons_zero]
    refine ⟨fun σ' H' => ∃ n : Nat, σ' = [some (.ref g), some (.int (mx : Nat)), some (.str abc), some (.int (many : Nat)), some (.int (bound : Nat)), some (.ref S), some (.int (i : Nat)), some (.int (n : Nat)), none, none, none, none, none, none, none, none, none] ∧ Hs B1 [(g, .lst (l1.map V.int)), (S, .lst (vN sz))] H' ∧ n ≤ 3 ∧ (bound = i → n = 0), ⟨_, rfl, _, rfl, rfl, _, rfl, if_dec (fun c => ?_) (fun c => ?_)⟩, ?_⟩
    · exact ⟨0, rfl, h1, by decide, fun _ => rfl⟩
    · exact ⟨n0, rfl, h1, hn0, fun z => absurd (by rw [z]) c⟩
    clear hn0 en n0 h1
    rintro σ' H1' ⟨n1, rfl, h1, hn1, hb1⟩
    refine ⟨fun σ' H' => ∃ n : Nat, σ' = [some (.ref g), some (.int (mx : Nat)), some (.str abc), some (.int (many : Nat)), some (.int (bound : Nat)), some (.ref S), some (.int (i : Nat)), some (.int (n : Nat)), none, none, none, none, none, none, none, none, none] ∧ Hs B1 [(g, .lst (l1.map V.int)), (S, .lst (vN sz))] H' ∧ n ≤ 3 ∧ (bound = i → n = 0), ⟨_, rfl, rfl, _, rfl, if_dec (fun c => ?_) (fun c => ⟨n1, rfl, h1, hn1, hb1⟩)⟩, ?_⟩
    · refine ⟨_, rfl, S, _, rfl, .inl (SqL.of h1.r1), rfl, (by rw [vN_vI]; exact all_ints _), _, rfl, if_bool (fun c2 => ?_) (fun c2 => ⟨n1, rfl, h1, hn1, hb1⟩)⟩
      exact ⟨2, rfl, h1, by decide, fun z => by have := hb1 z; have := V.int.inj c; omega⟩
    clear hn1 hb1 n1 h1
    rintro σ' H1'' ⟨n, rfl, h1, hn, hb⟩
    refine ⟨_, rfl, .inl ⟨rfl, _, SqL.of h1.r1⟩, _, rfl, _, rfl, _, _, rfl, ?_⟩
    dsimp only
    obtain ⟨v, ev, hv1, hv2⟩ : ∃ v : Nat, (if ((mx : Nat) : Int) < ((n : Nat) : Int) then ((mx : Nat) : Int) else ((n : Nat) : Int)) = ((v : Nat) : Int) ∧ v ≤ mx ∧ v ≤ n := by
      by_cases c : ((mx : Nat) : Int) < ((n : Nat) : Int)
      · exact ⟨mx, by rw [if_pos c], by omega, by omega⟩
      · exact ⟨n, by rw [if_neg c], by omega, by omega⟩
    rw [ev]
    refine ⟨S, _, _, rfl, rfl, h1.r1, by rw [vN_len, sizeLine_eq]; omega, _, _, B1, l1, sz ++ [v], rfl, hl1, sB.trans s1, by rw [vN_snoc]; exact h1.w1, by rw [List.length_append, hsz]; rfl, fun m hm => ?_, fun hb2 => ?_⟩
    · rcases List.mem_append.mp hm with hm | hm
      · exact hle m hm
      · rw [List.mem_singleton.mp hm]; exact hv1
    · by_cases e : bound = i
      · have := hb e
        rw [List.getElem?_append_right (by omega), hsz, e, Nat.sub_self, show v = 0 by omega]
        rfl
      · rw [List.getElem?_append_left (by omega)]
        exact hbd (by omega)
  · clear h1 h2 h3 d1 d2 hl1 hl2 hA hD1'
    rintro σ H3 ⟨t6, t7, B, lb, sz, rfl, hlb, sB, hh, hsz, hle, hbd⟩
    have hbd := hbd hbound
    obtain ⟨g1, h4⟩ := hh.swap.give
    have eS : upd B S (.lst (vN sz)) S = some (.lst (vN sz)) := upd_same
    generalize upd B S (.lst (vN sz)) = B4 at *
    replace sB := sB.trans g1
    clear hh g1
    refine ⟨_, rfl, g, 8, rfl, h4.bag hlb, by decide, by decide, fun spot H5 hspot d5 => ?_⟩
    obtain ⟨l5, B5, hl5, s5, h5, _⟩ := h4.dr0 d5
    refine ⟨_, rfl, g, 2, rfl, h5.bag hl5, by decide, by decide, fun alike H6 halike d6 => ?_⟩
    obtain ⟨l6, B6, hl6, s6, h6, _⟩ := h5.dr0 d6
    refine ⟨by decide, fun A1 hA1 => ?_⟩
    have h7 := (h6.new (o := .lst (vN [])) hA1).swap
    refine ⟨by decide, fun A2 hA2 => ?_⟩
    have h8 := (h7.new (o := .lst (vN [])) hA2).rot
    have sB6 := (sB.trans s5).trans s6
    have eS6 := s6 _ _ (s5 _ _ eS)
    simp only [List.set_cons_succ, List.set_cons_zero]
    refine ⟨8, rfl, by decide, by decide, for_rng (n := 8) (fun i σ H' => ∃ (t6 t12 : Option V) (B : Hp) (lb : List Int) (st sd : List Nat), σ = [some (.ref g), some (.int (mx : Nat)), some (.str abc), some (.int (many : Nat)), some (.int (bound : Nat)), some (.ref S), t6, t7, some (.int (spot : Nat)), some (.int (alike : Nat)), some (.ref A1), some (.ref A2), t12, none, none, none, none] ∧ BagOk lb ∧ Same B6 B ∧ Hs B [(g, .lst (lb.map V.int)), (A1, .lst (vN st)), (A2, .lst (vN sd))] H' ∧
        st.length = i ∧ sd.length = i ∧ (∀ n ∈ st, n < 26) ∧ (∀ n ∈ sd, n ≤ 25) ∧ (spot < i → ∃ b, sd[spot]? = some b ∧ b ∈ odds))
      ⟨_, none, B6, l6, [], [], rfl, hl6, Same.refl _, h8, rfl, rfl, fun _ z => (nomatch z), fun _ z => (nomatch z), fun z => absurd z (Nat.not_lt_zero _)⟩ ?_ ?_⟩
    · clear h4 h5 h6 h7 h8 d5 d6 hl5 hl6 hlb
      rintro i σ H3 hi ⟨t6, t12, B, lb, st, sd, rfl, hlb, sB, hh, hst, hsd, hst26, hsd25, hodd⟩
      refine ⟨_, rfl, .inl ⟨rfl, _, SqL.of hh.r1⟩, _, rfl, g, 26, rfl, hh.bag hlb, by decide, by decide, fun c H4 hc d4 => ?_⟩
      obtain ⟨l4, B4', hl4, s4, h4, _⟩ := hh.dr0 d4
      refine ⟨A1, _, _, rfl, rfl, h4.r1, by rw [vN_len, sizeLine_eq]; omega, ?_⟩
      rw [vN_snoc]
      have h5 := h4.w1 (o' := .lst (vN (st ++ [c])))
      refine ⟨_, rfl, g, 12, rfl, h5.bag hl4, by decide, by decide, fun j H6 hj d6 => ?_⟩
      obtain ⟨l6', B6', hl6, s6', h6, _⟩ := h5.dr0 d6
      obtain ⟨od, eod, hod, hod25⟩ := odds12 j hj
      simp only [List.set_cons_succ, List.set_cons_zero]
      refine ⟨fun σ' H' => ∃ n : Nat, σ' = [some (.ref g), some (.int (mx : Nat)), some (.str abc), some (.int (many : Nat)), some (.int (bound : Nat)), some (.ref S), some (.int (i : Nat)), t7, some (.int (spot : Nat)), some (.int (alike : Nat)), some (.ref A1), some (.ref A2), some (.int (n : Nat)), none, none, none, none] ∧ Hs B6' [(g, .lst (l6'.map V.int)), (A1, .lst (vN (st ++ [c]))), (A2, .lst (vN sd))] H' ∧ n ≤ 25 ∧ (spot = i → n ∈ odds), ⟨_, rfl, _, rfl, rfl, _, rfl, if_dec (fun c1 => ?_) (fun c1 => ?_)⟩, ?_⟩
      · refine ⟨(by show 12 ≤ sizeLine; decide), fun D hD => ⟨_, rfl, D, vN odds, _, _, rfl, rfl, SqL.of upd_same, atI_nat eod, od, rfl, h6.lay (o := .lst (vN odds)) hD, hod25, fun _ => hod⟩⟩
      · have ne : spot ≠ i := fun z => c1 (by rw [z])
        refine ⟨_, rfl, rfl, _, rfl, if_dec (fun c2 => ?_) (fun c2 => ?_)⟩
        · exact ⟨0, rfl, h6, by decide, fun z => absurd z ne⟩
        · exact ⟨j, rfl, h6, by omega, fun z => absurd z ne⟩
      clear h6
      rintro σ' H7 ⟨n, rfl, h7, hn, hno⟩
      refine ⟨_, rfl, .inl ⟨rfl, _, SqL.of h7.r2⟩, _, rfl, A2, _, _, rfl, rfl, h7.r2, by rw [vN_len, sizeLine_eq]; omega, _, _, B6', l6', st ++ [c], sd ++ [n], rfl, hl6, (sB.trans s4).trans s6', by rw [vN_snoc]; exact h7.w2, by rw [List.length_append, hst]; rfl, by rw [List.length_append, hsd]; rfl, fun m hm => ?_, fun m hm => ?_, fun hb2 => ?_⟩
      · rcases List.mem_append.mp hm with hm | hm
        · exact hst26 m hm
        · rw [List.mem_singleton.mp hm]; exact hc
      · rcases List.mem_append.mp hm with hm | hm
        · exact hsd25 m hm
        · rw [List.mem_singleton.mp hm]; exact hn
      · by_cases e : spot = i
        · refine ⟨n, ?_, hno e⟩
          rw [List.getElem?_append_right (by omega), hsd, e, Nat.sub_self]
          rfl
        · rw [List.getElem?_append_left (by omega)]
          exact hodd (by omega)
    · clear h4 h5 h6 h7 h8 d5 d6 hl5 hl6 hlb
      rintro σ H3 ⟨t6, t12, B, lb, st, sd, rfl, hlb, sB, hh, hst, hsd, hst26, hsd25, hodd⟩
      obtain ⟨b, eb, hbo⟩ := hodd hspot
      obtain ⟨a, ea⟩ : ∃ a, st[spot]? = some a := ⟨_, List.getElem?_eq_getElem (by omega)⟩
      obtain ⟨g1, h5⟩ := hh.rot.give
      obtain ⟨g2, h6⟩ := h5.give
      have e1 : upd (upd B A1 (.lst (vN st))) A2 (.lst (vN sd)) A1 = some (.lst (vN st)) := g2 _ _ upd_same
      have e2 : upd (upd B A1 (.lst (vN st))) A2 (.lst (vN sd)) A2 = some (.lst (vN sd)) := upd_same
      have sB7 := (sB6.trans sB).trans (g1.trans g2)
      have eS7 := (g1.trans g2) _ _ (sB _ _ eS6)
      generalize upd (upd B A1 (.lst (vN st))) A2 (.lst (vN sd)) = B7 at *
      clear hh h5 g1 g2 eS6
      refine ⟨by decide, fun R hR => ?_⟩
      have h7 := (h6.new (o := .lst (([] : List Addr).map V.ref)) hR).swap
      simp only [List.set_cons_succ, List.set_cons_zero]
      refine ⟨_, rfl, _, rfl, by omega, by omega, for_rng (n := many) (fun i σ H' => ∃ (t6 t14 t15 t16 : Option V) (B : Hp) (lb : List Int) (rows : List Sy.Row) (ps : List Addr), σ = [some (.ref g), some (.int (mx : Nat)), some (.str abc), some (.int (many : Nat)), some (.int (bound : Nat)), some (.ref S), t6, t7, some (.int (spot : Nat)), some (.int (alike : Nat)), some (.ref A1), some (.ref A2), t12, some (.ref R), t14, t15, t16] ∧ BagOk lb ∧ Same B7 B ∧ Hs B [(g, .lst (lb.map V.int)), (R, .lst (ps.map V.ref))] H' ∧
          rows.length = i ∧ rows.map (·.2) = sz.take i ∧ (∀ (j : Nat) (r : Sy.Row), rows[j]? = some r → NmAt spot (a + j * b) r.1) ∧ Paired (fun p (r : Sy.Row) => SqT K B p [.str r.1, .int (r.2 : Nat)]) ps rows)
        ⟨_, none, none, none, B7, lb, [], [], rfl, hlb, Same.refl _, h7, rfl, rfl, fun _ _ z => by simp at z, .nil⟩ ?_ ?_⟩
      · clear h6 h7 hlb
        rintro i σ H4 hi ⟨t6, t14, t15, t16, B, lb, rows, ps, rfl, hlb, sB, hh, hrl, hrs, hnm, hP⟩
        refine ⟨_, rfl, _, _, rfl, rfl, _, rfl, _, rfl, _, _, rfl, rfl, g, 8 - spot, ?_, hh.bag hlb, by omega, by omega, fun r H5 hr5 d5 => ⟨_, _, rfl, rfl, ?_⟩⟩
        · show [V.ref g, V.int (8 - ((spot : Nat) : Int))] = _
          rw [show (8 : Int) - ((spot : Nat) : Int) = ((8 - spot : Nat) : Int) from by omega]
        dsimp only
        rw [show ((spot : Nat) : Int) + 1 + ((r : Nat) : Int) = ((spot + 1 + r : Nat) : Int) from by omega]
        obtain ⟨l5, B5, hl5, s5, h5, _⟩ := hh.dr0 d5
        have sB5 := sB.trans s5
        have eA1 : SqL K H5 A1 (vN st) := SqL.of (h5.sub _ _ (sB5 _ _ e1))
        have eA2 : SqL K H5 A2 (vN sd) := SqL.of (h5.sub _ _ (sB5 _ _ e2))
        have eSz : SqL K H5 S (vN sz) := SqL.of (h5.sub _ _ (sB5 _ _ eS7))
        simp only [List.set_cons_succ, List.set_cons_zero]
        refine ⟨_, rfl, _, rfl, by omega, by omega, for_rng (n := spot + 1 + r) (fun t σ H' => ∃ (t16 : Option V) (x : Str), σ = [some (.ref g), some (.int (mx : Nat)), some (.str abc), some (.int (many : Nat)), some (.int (bound : Nat)), some (.ref S), some (.int (i : Nat)), t7, some (.int (spot : Nat)), some (.int (alike : Nat)), some (.ref A1), some (.ref A2), t12, some (.ref R), some (.str x), some (.int ((spot + 1 + r : Nat) : Int)), t16] ∧ H' = H5 ∧
            x.cps.toList.length = t ∧ (∀ c ∈ x.cps.toList, Lt c) ∧ (spot < t → x.cps.toList[spot]? = some (97 + (a + i * b) % 26))) ⟨_, Str.empty, rfl, rfl, rfl, fun _ z => (nomatch z), fun z => absurd z (Nat.not_lt_zero _)⟩ ?_ ?_⟩
        · rintro t σ _ ht ⟨t16, x, rfl, rfl, hx, hxl, hxs⟩
          obtain ⟨a', ea'⟩ : ∃ a', st[t]? = some a' := ⟨_, List.getElem?_eq_getElem (by omega)⟩
          obtain ⟨b', eb'⟩ : ∃ b', sd[t]? = some b' := ⟨_, List.getElem?_eq_getElem (by omega)⟩
          have ha' := hst26 a' (List.mem_of_getElem? ea')
          have hb' := hsd25 b' (List.mem_of_getElem? eb')
          obtain ⟨c, ec, hc⟩ : ∃ c : Nat, (((a' : Nat) : Int) + ((i : Nat) : Int) * ((b' : Nat) : Int)) % 26 = ((c : Nat) : Int) ∧ c = (a' + i * b') % 26 := ⟨(a' + i * b') % 26, by push_cast; rfl, rfl⟩
          have hc26 : c < 26 := by rw [hc]; exact Nat.mod_lt _ (by decide)
          have lx := len_tl x
          refine ⟨_, rfl, _, rfl, _, rfl, _, rfl, A1, _, _, _, rfl, rfl, eA1, atI_nat (vN_at ea'), _, rfl, _, rfl, _, rfl, A2, _, _, _, rfl, rfl, eA2, atI_nat (vN_at eb'), _, _, rfl, rfl, .inr ⟨by omega, by omega⟩, _, _, rfl, rfl, .inl ⟨_, rfl, _, _, rfl, rfl, (by show (0 : Int) < 26; decide), ?_⟩⟩
          dsimp only
          rw [ec]
          refine ⟨abc, _, 97 + c, rfl, rfl, by decide +kernel, atI_nat (abc_tl c hc26), x, _, rfl, rfl, ?_, _, _, rfl, rfl, ?_, fun d hd => ?_, fun hsp => ?_⟩
          · show x.length + 1 ≤ sizeLine
            rw [sizeLine_eq]
            omega
          · rw [app_tl, List.length_append, hx]
            rfl
          · rw [app_tl] at hd
            rcases List.mem_append.mp hd with hd | hd
            · exact hxl d hd
            · rw [List.mem_singleton.mp hd]
              exact ⟨by omega, by omega⟩
          · rw [app_tl]
            by_cases e : spot = t
            · rw [List.getElem?_append_right (by omega), hx, e, Nat.sub_self, hc]
              rw [e, ea'] at ea
              rw [e, eb'] at eb
              cases ea
              cases eb
              rfl
            · rw [List.getElem?_append_left (by omega)]
              exact hxs (by omega)
        · rintro σ _ ⟨t16, x, rfl, rfl, hx, hxl, hxs⟩
          obtain ⟨n, en⟩ : ∃ n, sz[i]? = some n := ⟨_, List.getElem?_eq_getElem (by omega)⟩
          refine ⟨_, rfl, .inl ⟨rfl, _, SqL.of h5.r1⟩, _, rfl, _, rfl, _, rfl, S, _, _, _, rfl, rfl, eSz, atI_nat (vN_at en), (by show 2 ≤ sizeLine; decide), fun T8 hT8 => ?_⟩
          have h10 := h5.tup (o := .tup [.str x, .int (n : Nat)]) hT8
          have s10 : Same B5 (upd B5 T8 (.tup [.str x, .int (n : Nat)])) := up_same (h5.sub.free hT8)
          have lps := paired_len hP
          refine ⟨R, _, _, rfl, rfl, h10.r1, by rw [List.length_map, sizeLine_eq]; omega, _, _, _, _, _, l5, rows ++ [(x, n)], ps ++ [T8], rfl, hl5, sB5.trans s10, ?_, by rw [List.length_append, hrl]; rfl, ?_, fun j r2 hr2 => ?_, ?_⟩
          · rw [List.map_append]; exact h10.w1
          · rw [List.map_append, hrs, List.take_succ, en]
            rfl
          · by_cases e : j < rows.length
            · rw [List.getElem?_append_left e] at hr2
              exact hnm j r2 hr2
            · rw [List.getElem?_append_right (by omega)] at hr2
              have hj : j - rows.length = 0 := by
                have := (List.getElem?_eq_some_iff.mp hr2).1
                have : j - rows.length < 1 := this
                omega
              rw [hj] at hr2
              cases hr2
              rw [show j = i by omega]
              exact ⟨⟨by show 1 ≤ x.cps.toList.length; omega, by show x.cps.toList.length ≤ 8; omega, hxl⟩, hxs (by omega)⟩
          · exact Paired.snoc (Paired.mapP hP fun _ _ y => Same.sqt (s5.trans s10) y) (SqT.of upd_same)
      · clear h6 h7 hlb
        rintro σ H4 ⟨t6, t14, t15, t16, B, lb, rows, ps, rfl, hlb, sB, hh, hrl, hrs, hnm, hP⟩
        rw [show many = sz.length from hsz.symm, List.take_length] at hrs
        refine ⟨_, rfl, R, _, rfl, .inl ⟨SqL.of hh.r1, fun tt htt => ?_⟩⟩
        have h9 := hh.lay (o := .tup (ps.map V.ref)) htt
        have s9 := up_same (o := .tup (ps.map V.ref)) htt
        have hmem : ∀ r ∈ rows, r.2 ∈ sz := fun r hr' => by rw [← hrs]; exact List.mem_map_of_mem hr'
        have hwd : ∀ r ∈ rows, Wd r.1 := fun r hr' => by
          obtain ⟨j, hj, e⟩ := List.getElem_of_mem hr'
          exact (hnm j r (by rw [List.getElem?_eq_getElem hj, e])).1
        refine hq tt rows _ ⟨⟨fun r hr' => (hwd r hr').ok, fun r hr' => Nat.le_trans (hle _ (hmem r hr')) hmx, names_nd hbo (by omega) hnm, ?_, by omega⟩, hwd, by omega, by omega⟩ (fun r hr' => hle _ (hmem r hr')) (h9.isDr hlb List.mem_cons_self (by rw [hB0]; exact sB7.trans sB)) ⟨ps, SqT.of upd_same, Paired.mapP hP fun _ _ y => Same.sqt (hh.sub.trans s9) y⟩
        have e0 : (rows.map (·.2))[bound]? = some 0 := by rw [hrs]; exact hbd
        rw [List.getElem?_map] at e0
        obtain ⟨r, er, e0⟩ := Option.map_eq_some_iff.mp e0
        exact ⟨r, List.mem_of_getElem? er, e0⟩
end
end Sy
/-! data compared -/
namespace Sy
open PySem PySem.Spec PyProof.Rows L2
def RowD (r : Sy.Row) : PyData := .tuple [.str r.1, .int (r.2 : Nat)]
def RowsD (rows : List Sy.Row) : PyData := .tuple (rows.map RowD)
theorem eqv_RowD (x y : Sy.Row) : PyData.eqv (RowD x) (RowD y) = decide (x = y) := by
  obtain ⟨a, n⟩ := x
  obtain ⟨b, m⟩ := y
  unfold RowD
  simp only [PyData.eqv, PyData.eqvAll, Bool.and_true]
  by_cases h : a = b
  · subst h
    by_cases g : n = m
    · subst g
      simp
    · have : ¬ ((n : Int) = (m : Int)) := by omega
      simp [g, this]
  · have : (a == b) = false := beq_eq_false_iff_ne.mpr h
    simp [h, this]
theorem eqv_rows : ∀ (x y : List Sy.Row), PyData.eqvAll (x.map RowD) (y.map RowD) = decide (x = y)
  | [], [] => rfl
  | [], y :: ys => by simp [PyData.eqvAll]
  | x :: xs, [] => by simp [PyData.eqvAll]
  | x :: xs, y :: ys => by
    rw [List.map_cons, List.map_cons, PyData.eqvAll, eqv_RowD, eqv_rows xs ys]
    by_cases h : x = y
    · subst h
      simp
    · simp [h]
theorem lay_rows {rows : List Sy.Row} (h : ∀ r ∈ rows, PyData.strOk r.1 = true) : PyData.canLayAll0 (rows.map RowD) = true ∧ PyData.depthAll (rows.map RowD) ≤ 3 := by
  induction rows with
  | nil => exact ⟨rfl, Nat.zero_le _⟩
  | cons x l ih =>
    have ih := ih fun y hy => h y (List.mem_cons_of_mem _ hy)
    have hx := h x List.mem_cons_self
    rw [List.map_cons]
    unfold RowD at ih ⊢
    simp only [PyData.canLayAll0, PyData.depthAll, PyData.canLay0, PyData.depth, hx, Bool.true_and]
    exact ⟨ih.1, by omega⟩
theorem lay_RowsD {rows : List Sy.Row} (h : ∀ r ∈ rows, PyData.strOk r.1 = true) : SeqAt.shaped (RowsD rows) = true := by
  have := lay_rows h
  unfold SeqAt.shaped RowsD
  simp only [PyData.canLay0, PyData.depth]
  rw [this.1, Bool.true_and]
  exact decide_eq_true (by omega)
theorem Im.rowsD {K : PySem.W.Frag} {H : Hp} : ∀ {ps : List Addr} {rows : List Sy.Row}, Paired (fun q (r : Sy.Row) => SqT K H q [.str r.1, .int (r.2 : Nat)]) ps rows → ImA K H (ps.map V.ref) (rows.map RowD)
  | _, _, .nil => .nil
  | _, _, .cons a b => .cons (.tup a (.cons (.str _) (.cons (.int _) .nil))) (Im.rowsD b)
theorem Wd.sok {x : Str} (h : Wd x) : PyData.strOk x = true := by
  unfold PyData.strOk
  rw [← Array.all_toList, List.all_eq_true]
  intro c hc
  have := (h.2.2 c hc).2
  exact decide_eq_true (by omega)

/-- pairs of names -/
theorem lay_RowsL {rows : List Sy.Row} (h : ∀ r ∈ rows, PyData.strOk r.1 = true) : SeqAt.shaped (.list (rows.map RowD)) = true := by
  have := lay_rows h
  unfold SeqAt.shaped
  simp only [PyData.canLay0, PyData.depth]
  rw [this.1, Bool.true_and]
  exact decide_eq_true (by omega)
end Sy
namespace Sy
open PySem PySem.Spec PyProof.Rows L2
/-- data of at most that depth -/
def Fit : Nat → PyData → Prop
  | _, .none => True
  | _, .bool _ => True
  | _, .int _ => True
  | _, .str _ => True
  | n + 1, .tuple ds => ds.length ≤ 1000000 ∧ ∀ d ∈ ds, Fit n d
  | _, _ => False
theorem tyx_tup {K : PySem.W.Frag} {H : Hp} {a : Addr} {xs : List V} (h : SqT K H a xs) : TyX K H (.ref a) (.type "tuple") := by
  rcases h with (h | ⟨o, h⟩) | ⟨o, its, n, hk, hc, _⟩
  · exact .base (.tup h)
  · exact .fTuple h
  · exact .kTuple hk hc
section
variable {P : Program} {w : World} {K : PySem.W.Frag} {mg : Str → Option Value} {base : Heap}
def spSame (K : PySem.W.Frag) (n : Nat) : Sp := fun vs H Q _ => ∃ (x y : V) (d d' : PyData), vs = [x, y] ∧ Im K H x d ∧ Im K H y d' ∧ Fit n d' ∧ ((d = d' ∧ Q (.bl true) H) ∨ ∃ ds es, d = .tuple ds ∧ d' = .tuple es ∧ ds.length ≠ es.length ∧ Q (.bl false) H)
abbrev N_same : List Str := ["_law_actual", "_law_due", "_law_k"]
theorem sc_same : FnScope N_same ["_law_actual", "_law_due"] (defScope (top 51)) := ⟨rfl, rfl, rfl, by decide +kernel, rfl, by decide +kernel, by decide +kernel⟩
/-- the names of the built-in classes that are asked for -/
structure TxtC (mg : Str → Option Value) : Prop where
  tuple : mg "tuple" = none
  bool : mg "bool" = none
  int : mg "int" = none
  str : mg "str" = none
  isinstance : mg "isinstance" = none
  len : mg "len" = none
  range : mg "range" = none
theorem k_same (T : TxtC mg) (F : DF K mg "_law_same" 51) : ∀ n : Nat, Cal P w K mg base (n + 1) "_law_same" ["_law_actual", "_law_due"] (spSame K n) := by
  -- what is no tuple
  have flat : ∀ (k : Nat) (cdv : Value) (A : Around) (outer : List Env) (s : Shared) (H : Hp) (E : XK), Room k (A.deeper (envOfC "_law_same" (defScope (top 51)) s.heap.objs.size (He.ga K "_law_same") cdv)) →
      ∃ t, PSs (cxOf (L2.CX P w) P w K mg base N_same "_law_same" (defScope (top 51)) (He.ga K "_law_same") cdv A outer s H E) ((defBody (top 51)).drop 2) t ∧ ∀ (D : Ends) (Q : VK) (x y : V) (d : PyData), Im K H x d → Im K H y d → D.rt = Q → (∀ ds, d ≠ .tuple ds) → d ≠ .none → Q (.bl true) H → t D [some x, some y, none] H := by
    intro k cdv A outer s H E hr
    refine ⟨_, (pss_cons (ps_if (pt_val (pe_callB call_isi (by rfl) T.isinstance (by decide +kernel) (pa_cons (pv 1) (pa_cons (pe_bltn (v := .ty "bool") (by rfl) T.bool (by decide +kernel) rfl) pa_nil))))
        (pss_one (ps_ret (pe_and (pe_callB call_isi (by rfl) T.isinstance (by decide +kernel) (pa_cons (pv 0) (pa_cons (pe_bltn (v := .ty "bool") (by rfl) T.bool (by decide +kernel) rfl) pa_nil))) (pe_one (pe_cmpR op_eq (pv 0) (pv 1) (nomark _))))))
        pss_nil)
      (pss_cons (ps_if (pt_val (pe_callB call_isi (by rfl) T.isinstance (by decide +kernel) (pa_cons (pv 1) (pa_cons (pe_bltn (v := .ty "int") (by rfl) T.int (by decide +kernel) rfl) pa_nil))))
        (pss_one (ps_ret (pe_and (pe_callB call_isi (by rfl) T.isinstance (by decide +kernel) (pa_cons (pv 0) (pa_cons (pe_bltn (v := .ty "int") (by rfl) T.int (by decide +kernel) rfl) pa_nil))) (pe_and (pe_not (pe_callB call_isi (by rfl) T.isinstance (by decide +kernel) (pa_cons (pv 0) (pa_cons (pe_bltn (v := .ty "bool") (by rfl) T.bool (by decide +kernel) rfl) pa_nil)))) (pe_one (pe_cmpR op_eq (pv 0) (pv 1) (nomark _)))))))
        pss_nil)
      (pss_one (ps_ret (pe_and (pe_callB call_isi (by rfl) T.isinstance (by decide +kernel) (pa_cons (pv 0) (pa_cons (pe_bltn (v := .ty "str") (by rfl) T.str (by decide +kernel) rfl) pa_nil))) (pe_one (pe_cmpR op_eq (pv 0) (pv 1) (nomark _)))))))), ?_⟩
    intro D Q x y d ix iy hD nt nn hq
    cases ix with
    | non => exact absurd rfl nn
    | tup _ _ => exact absurd rfl (nt _)
    | bl b =>
      cases iy
      refine ⟨_, rfl, _, _, _, _, true, rfl, .ty _, .base (.bl b), kit_ty (by decide +kernel), _, rfl, iteT ?_⟩
      refine ⟨_, rfl, _, _, _, _, true, rfl, .ty _, .base (.bl b), kit_ty (by decide +kernel), _, rfl, iteT ?_⟩
      refine ⟨_, rfl, _, rfl, rfl, ?_⟩
      rw [hD, decide_eq_true rfl]
      exact hq
    | int i =>
      cases iy
      refine ⟨_, rfl, _, _, _, _, false, rfl, .ty _, .base (.int i), kit_ty (by decide +kernel), _, rfl, iteF ?_⟩
      refine ⟨_, rfl, _, _, _, _, true, rfl, .ty _, .base (.int i), kit_ty (by decide +kernel), _, rfl, iteT ?_⟩
      refine ⟨_, rfl, _, _, _, _, true, rfl, .ty _, .base (.int i), kit_ty (by decide +kernel), _, rfl, iteT ?_⟩
      refine ⟨_, rfl, _, _, _, _, false, rfl, .ty _, .base (.int i), kit_ty (by decide +kernel), _, rfl, _, rfl, iteT ?_⟩
      refine ⟨_, rfl, _, rfl, rfl, ?_⟩
      rw [hD, decide_eq_true rfl]
      exact hq
    | str z =>
      cases iy
      refine ⟨_, rfl, _, _, _, _, false, rfl, .ty _, .base (.str z), kit_ty (by decide +kernel), _, rfl, iteF ?_⟩
      refine ⟨_, rfl, _, _, _, _, false, rfl, .ty _, .base (.str z), kit_ty (by decide +kernel), _, rfl, iteF ?_⟩
      refine ⟨_, rfl, _, _, _, _, true, rfl, .ty _, .base (.str z), kit_ty (by decide +kernel), _, rfl, iteT ?_⟩
      refine ⟨_, rfl, _, rfl, rfl, ?_⟩
      rw [hD, decide_eq_true rfl]
      exact hq
  have len : ∀ n vs H Q E, spSame K n vs H Q E → vs.length = (["_law_actual", "_law_due"] : List Str).length := fun n vs H Q E s => by obtain ⟨_, _, _, _, rfl, _⟩ := s; rfl
  -- what is asked of all but a tuple
  have notT : ∀ {H : Hp} {y : V} {d : PyData}, Im K H y d → (∀ ds, d ≠ .tuple ds) → ∃ t, TyX K H y t ∧ PySem.W.kitOne K t (.type "tuple") = some false := by
    intro H y d iy nt
    cases iy with
    | non => exact ⟨_, .base .non, kit_ty (by decide +kernel)⟩
    | bl b => exact ⟨_, .base (.bl b), kit_ty (by decide +kernel)⟩
    | int i => exact ⟨_, .base (.int i), kit_ty (by decide +kernel)⟩
    | str z => exact ⟨_, .base (.str z), kit_ty (by decide +kernel)⟩
    | tup _ _ => exact absurd rfl (nt _)
  intro n
  induction n with
  | zero =>
    refine cal_of F.1 F.2 sc_same (fun _ _ _ _ _ _ us e => match us, e with | [_, _], _ => rfl) (len 0) ?_
    intro cdv A outer s H vs Q E hr h
    obtain ⟨x, y, d, d', rfl, ix, iy, fit, hq⟩ := h
    have hq2 : d = d' ∧ Q (.bl true) H := hq.elim id fun ⟨_, es, _, e, _⟩ => by rw [e] at fit; exact fit.elim
    clear hq
    obtain ⟨rfl, hq⟩ := hq2
    obtain ⟨t, pt, ht⟩ := flat 0 cdv A outer s H E hr
    refine ⟨_, (pss_cons (ps_if (pt_cmpR op_isN (pv 1) pe_non (nomark _))
        (pss_one (ps_ret (pe_cmpR op_isN (pv 0) pe_non (nomark _))))
        pss_nil)
      (pss_cons (ps_if (pt_val (pe_callB call_isi (by rfl) T.isinstance (by decide +kernel) (pa_cons (pv 1) (pa_cons (pe_bltn (v := .ty "tuple") (by rfl) T.tuple (by decide +kernel) rfl) pa_nil))))
        (pss_cons ps_never (pss_cons ps_never (pss_one ps_never)))
        pss_nil)
      pt)), ?_⟩
    have nt : ∀ ds, d ≠ .tuple ds := fun ds z => by rw [z] at fit; exact fit
    refine ⟨_, rfl, rfl, _, rfl, if_dec (fun c => ?_) (fun c => ?_)⟩
    · subst c
      cases iy
      cases ix
      refine ⟨_, rfl, rfl, ?_⟩
      rw [decide_eq_true rfl]
      exact hq
    · obtain ⟨ty, h1, h2⟩ := notT iy nt
      exact ⟨_, rfl, _, _, _, _, false, rfl, .ty _, h1, h2, _, rfl, iteF (ht _ Q x y d ix iy rfl nt (fun z => by subst z; cases iy; exact c rfl) hq)⟩
  | succ n ih =>
    refine cal_of F.1 F.2 sc_same (fun _ _ _ _ _ _ us e => match us, e with | [_, _], _ => rfl) (len (n + 1)) ?_
    intro cdv A outer s H vs Q E hr h
    obtain ⟨x, y, d, d', rfl, ix, iy, fit, hq⟩ := h
    have sc := sc_same
    obtain ⟨t, pt, ht⟩ := flat (n + 1) cdv A outer s H E hr
    refine ⟨_, (pss_cons (ps_if (pt_cmpR op_isN (pv 1) pe_non (nomark _))
        (pss_one (ps_ret (pe_cmpR op_isN (pv 0) pe_non (nomark _))))
        pss_nil)
      (pss_cons (ps_if (pt_val (pe_callB call_isi (by rfl) T.isinstance (by decide +kernel) (pa_cons (pv 1) (pa_cons (pe_bltn (v := .ty "tuple") (by rfl) T.tuple (by decide +kernel) rfl) pa_nil))))
        (pss_cons (ps_if (PW.pt (pw_or (pt_not (pt_val (pe_callB call_isi (by rfl) T.isinstance (by decide +kernel) (pa_cons (pv 0) (pa_cons (pe_bltn (v := .ty "tuple") (by rfl) T.tuple (by decide +kernel) rfl) pa_nil))))) (pw_or1 (pt_cmpR op_ne (pe_callB call_len_seq (by rfl) T.len (by decide +kernel) (pa_cons (pv 0) pa_nil)) (pe_callB call_len_seq (by rfl) T.len (by decide +kernel) (pa_cons (pv 1) pa_nil)) (nomark _)))))
          (pss_one (ps_ret pe_bl))
          pss_nil)
        (pss_cons (ps_for (passes_of rfl) rfl (pi_range1 rfl T.range (pa_cons (pe_callB call_len_seq (by rfl) T.len (by decide +kernel) (pa_cons (pv 1) pa_nil)) pa_nil)) (pg_name (i := 2) sc.nd rfl (Or.inl rfl))
          (pss_one (ps_if (pt_not (pt_val (pe_cal ih hr (pa_cons (pe_ix ix_tup (pv 0) (pv 2) (fun _ _ => rfl)) (pa_cons (pe_ix ix_tup (pv 1) (pv 2) (fun _ _ => rfl)) pa_nil)) (Nat.le_refl _))))
            (pss_one (ps_ret pe_bl))
            pss_nil)))
        (pss_one (ps_ret pe_bl))))
        pss_nil)
      pt)), ?_⟩
    rcases hq with ⟨rfl, hq⟩ | ⟨ds, es, rfl, rfl, hne, hq⟩
    case inr =>
      obtain ⟨a, xs, rfl, ta, ia⟩ := ix.tupI
      obtain ⟨b, ys, rfl, tb, ib⟩ := iy.tupI
      have la := ia.len
      have lb := ib.len
      refine ⟨_, rfl, rfl, _, rfl, if_dec (fun c => by cases c) (fun c => ?_)⟩
      refine ⟨_, rfl, _, _, _, _, true, rfl, .ty _, tyx_tup tb, kit_ty (by decide +kernel), _, rfl, iteT ?_⟩
      refine ⟨_, rfl, _, _, _, _, true, rfl, .ty _, tyx_tup ta, kit_ty (by decide +kernel), _, rfl, iteF ?_⟩
      refine ⟨_, rfl, a, _, rfl, .inr ta, _, rfl, b, _, rfl, .inr tb, rfl, _, rfl, ?_⟩
      rw [la, lb, decide_eq_false (fun z => hne (by have := V.int.inj z; omega))]
      exact iteT hq
    refine ⟨_, rfl, rfl, _, rfl, if_dec (fun c => ?_) (fun c => ?_)⟩
    · subst c
      cases iy
      cases ix
      refine ⟨_, rfl, rfl, ?_⟩
      rw [decide_eq_true rfl]
      exact hq
    by_cases nt : ∀ ds, d ≠ .tuple ds
    · obtain ⟨ty, h1, h2⟩ := notT iy nt
      exact ⟨_, rfl, _, _, _, _, false, rfl, .ty _, h1, h2, _, rfl, iteF (ht _ Q x y d ix iy rfl nt (fun z => by subst z; cases iy; exact c rfl) hq)⟩
    · obtain ⟨ds, rfl⟩ : ∃ ds, d = .tuple ds := by
        cases d with
        | tuple ds => exact ⟨ds, rfl⟩
        | _ => exact absurd (fun _ z => by cases z) nt
      obtain ⟨a, xs, rfl, ta, ia⟩ := ix.tupI
      obtain ⟨b, ys, rfl, tb, ib⟩ := iy.tupI
      have la := ia.len
      have lb := ib.len
      have hz : ds.length ≤ 1000000 := fit.1
      refine ⟨_, rfl, _, _, _, _, true, rfl, .ty _, tyx_tup tb, kit_ty (by decide +kernel), _, rfl, iteT ?_⟩
      refine ⟨_, rfl, _, _, _, _, true, rfl, .ty _, tyx_tup ta, kit_ty (by decide +kernel), _, rfl, iteF ?_⟩
      refine ⟨_, rfl, a, _, rfl, .inr ta, _, rfl, b, _, rfl, .inr tb, rfl, _, rfl, ?_⟩
      rw [la, lb, decide_eq_true rfl]
      refine iteF ⟨_, rfl, b, _, rfl, .inr tb, _, rfl, by omega, by omega, for_rng (n := ys.length) (fun i σ H' => ∃ t2, σ = [some (.ref a), some (.ref b), t2] ∧ H' = H) ⟨_, rfl, rfl⟩ ?_ ?_⟩
      · rintro i σ H1 hi ⟨t2, rfl, rfl⟩
        obtain ⟨d, ed⟩ : ∃ d, ds[i]? = some d := ⟨_, List.getElem?_eq_getElem (by omega)⟩
        obtain ⟨u, eu, iu⟩ := ia.get ed
        obtain ⟨v, ev, iv⟩ := ib.get ed
        exact ⟨_, rfl, _, rfl, a, _, _, _, rfl, rfl, ta, atI_nat eu, _, rfl, _, rfl, b, _, _, _, rfl, rfl, tb, atI_nat ev, u, v, d, d, rfl, iu, iv, fit.2 d (List.mem_of_getElem? ed), .inl ⟨rfl, _, rfl, iteF ⟨_, rfl, rfl⟩⟩⟩
      · rintro σ H1 ⟨t2, rfl, rfl⟩
        exact hq
end
end Sy
/-! _law_told, _law_is_plant, _law_ranked -/
namespace Sy
open PySem PySem.Spec PyProof.Rows L2 LamX NdefX
theorem ErrB.nm {X : Cx} {x q : Str} {st : Stmt} {fs : List Str} (T : ErrB X.prog X.K X.mg x q st fs) (hg : Gl X x) (hd : (x == ("__debug__" : Str)) = false) : Names X x (.ref (He.ga X.K x)) := ⟨hg, hd, .inl T.at_⟩
section
variable {P : Program} {w : World} {K : PySem.W.Frag} {mg : Str → Option Value} {base : Heap}
def TooD : PyData := .tuple [.str "TooMany", .str "knots", .int 2000]
def spTold (P : Program) (w : World) (K : PySem.W.Frag) (tb : Addr) : Sp := fun vs H Q _ => ∃ (a b : Addr) (rows : List Sy.Row) (d : RdrZ) (m top : Nat) (B : Hp) (ps : Array Value), vs = [.ref a] ∧ Hs B [(tb, .tbl ps)] H ∧ TbOk B ps lamQ ∧ RdzAt P w K B a b rows d ∧ LpOk rows d m top ∧
  (∀ H' ps' q (xs : List V) (E : EMap) (S : List Int), Chg tb (.tbl ps') H H' → TbOk H' ps' lamQ → SqT K H' q xs → LsR K H' m xs (fE rows E) → LInv (Sz rows) (St rows d) m top E S → (∀ s ∈ kyE E, s ∈ S) → (∀ s e, lkE E s = some e → e.1 ≤ 2000) → Q (.ref q) H') ∧
  ∀ H' ps' (E : EMap) (S : List Int) (v : V), Chg tb (.tbl ps') H H' → TbOk H' ps' lamQ → LInv (Sz rows) (St rows d) m top E S → (∀ s ∈ kyE E, s ∈ S) → (∃ s e, lkE E s = some e ∧ 2000 < e.1) → Im K H' v TooD → Q v H'
theorem sc_told : FnScope ["_law_reader_here", "much"] ["_law_reader_here"] (defScope (top 56)) := ⟨rfl, rfl, rfl, by decide +kernel, rfl, by decide +kernel, by decide +kernel⟩
theorem k_told {tb : Addr} (R : Ers P K mg) (F : DF K mg "_law_told" 56) (c_least_plants : Cal P w K mg base 7 "least_plants" ["reader"] (spLp P w K tb)) : Cal P w K mg base 8 "_law_told" ["_law_reader_here"] (spTold P w K tb) := by
  refine cal_of F.1 F.2 sc_told (fun _ _ _ _ _ _ us e => match us, e with | [_], _ => rfl) (fun vs H Q E s => by obtain ⟨_, _, _, _, _, _, _, _, rfl, _⟩ := s; rfl) ?_
  intro cdv A outer sh H vs Q E0 hr h
  obtain ⟨a, b, rows, d, m, tp, B, ps, rfl, hs, htb, hR, L, hq, hE⟩ := h
  have sc := sc_told
  refine ⟨_, pss_one (ps_try_fst (i := 1) rfl rfl sc.nd rfl rfl (R.tm.nm rfl (by decide))
    (fun W pn xe tk _ => pss_one (ps_ret (pe_calX c_least_plants hr tk (pa_cons (pv 0) pa_nil))))
    (fun ea oe cls dd pn hz hf => pss_one (ps_ret (pe_tup (pa_cons pe_str (pa_cons (pe_xf R.tm.xf (R.tm.no _ (by decide)) hz hf (pv 1)) (pa_cons (pe_xf R.tm.xf (R.tm.no _ (by decide)) hz hf (pv 1)) pa_nil))))))), ?_⟩
  refine ⟨_, rfl, a, b, rows, d, m, tp, B, ps, rfl, hs, htb, hR, L, fun H' ps' q xs E S chg tok hx hLs LI hall hle => hq H' ps' q xs E S chg tok hx hLs LI hall hle, fun H1 ps' E S chg tok LI hall hx dd H2 fs s2 ed im => ?_⟩
  cases im with
  | cons i1 r1 =>
    cases i1
    cases r1 with
    | cons i2 r2 =>
      cases i2
      cases r2
      refine ⟨R.tm.ex, fun ea hea => ?_⟩
      refine ⟨_, rfl, rfl, rfl, dd, _, _, rfl, ed, rfl, _, rfl, rfl, rfl, dd, _, _, rfl, ed, rfl, (by show 3 ≤ sizeLine; decide), fun t ht => ?_⟩
      have s3 := s2.trans (up_same (o := .tup [.str "TooMany", .str "knots", .int 2000]) ht)
      exact hE _ ps' E S _ (chg.of_same (Same.refl _) s3) (tok.same s3) LI hall hx (.tup (SqT.of upd_same) (.cons (.str _) (.cons (.str _) (.cons (.int _) .nil))))
/-! _law_is_plant -/
def spIsp (K : PySem.W.Frag) : Sp := fun vs H Q _ => ∃ (s p : Addr) (rows : List Sy.Row) (l : List Str), vs = [.ref s, .ref p] ∧ H s = some (.dK (arKV rows)) ∧ SqT K H p (l.map V.str) ∧ Pln rows l ∧ Q (.bl true) H
abbrev N_isp : List Str := ["_law_sizes_here", "_law_row", "_law_name"]
theorem sc_isp : FnScope N_isp ["_law_sizes_here", "_law_row"] (defScope (top 57)) := ⟨rfl, rfl, rfl, by decide +kernel, rfl, by decide +kernel, by decide +kernel⟩
theorem k_isp (T : TxtC mg) (F : DF K mg "_law_is_plant" 57) (c_law_fault : Cal P w K mg base 1 "_law_fault" ["_law_sizes_here", "_law_row"] (spFaultL K)) : Cal P w K mg base 2 "_law_is_plant" ["_law_sizes_here", "_law_row"] (spIsp K) := by
  refine cal_of F.1 F.2 sc_isp (fun _ _ _ _ _ _ us e => match us, e with | [_, _], _ => rfl) (fun vs H Q E s => by obtain ⟨_, _, _, _, rfl, _⟩ := s; rfl) ?_
  intro cdv A outer sh H vs Q E0 hr h
  obtain ⟨s, p, rows, l, rfl, hs, hp, pl, hq⟩ := h
  have sc := sc_isp
  refine ⟨_, (pss_cons (ps_if (pt_not (pt_val (pe_callB call_isi (by rfl) T.isinstance (by decide +kernel) (pa_cons (pv 1) (pa_cons (pe_bltn (v := .ty "tuple") (by rfl) T.tuple (by decide +kernel) rfl) pa_nil)))))
        (pss_one (ps_ret pe_bl))
        pss_nil)
      (pss_cons (ps_for (passes_of rfl) rfl (pi_tup (pv 1)) (pg_name (i := 2) sc.nd rfl (Or.inl rfl))
        (pss_one (ps_if (pt_not (pt_val (pe_callB call_isi (by rfl) T.isinstance (by decide +kernel) (pa_cons (pv 2) (pa_cons (pe_bltn (v := .ty "str") (by rfl) T.str (by decide +kernel) rfl) pa_nil)))))
          (pss_one (ps_ret pe_bl))
          pss_nil)))
      (pss_one (ps_ret (pe_cmpR op_eq (pe_cal c_law_fault hr (pa_cons (pv 0) (pa_cons (pv 1) pa_nil))) (pe_un un_neg pe_int) (nomark _)))))), ?_⟩
  refine ⟨_, rfl, _, _, _, _, true, rfl, .ty _, tyx_tup hp, kit_ty (by decide +kernel), _, rfl, iteF ?_⟩
  refine ⟨_, rfl, p, rfl, ⟨_, hp⟩, for_tup (K := K) (a := p) (xs := l.map V.str) (fun i σ H' => ∃ t2 : Option V, σ = [some (.ref s), some (.ref p), t2] ∧ H' = H) ⟨none, rfl, rfl⟩ (fun _ _ _ _ ⟨_, _, e⟩ => by rw [e]; exact hp) ?_ ?_⟩
  · rintro i v σ _ hv ⟨t2, rfl, rfl⟩
    obtain ⟨z, ez, rfl⟩ := map_at hv
    exact ⟨_, rfl, _, _, _, _, true, rfl, .ty _, .base (.str z), kit_ty (by decide +kernel), _, rfl, iteF ⟨_, rfl, rfl⟩⟩
  · rintro σ _ ⟨t2, rfl, rfl⟩
    refine ⟨_, rfl, _, rfl, s, p, rows, l, rfl, hs, hp, by have := pl.le; omega, ?_⟩
    rw [fa_ok pl.fo pl.kn]
    refine ⟨_, rfl, rfl, ?_⟩
    exact hq
/-! _law_ranked -/
def spRkd (K : PySem.W.Frag) : Sp := fun vs H Q _ => ∃ (q p : Addr) (rows : List Sy.Row) (ks : List Int), vs = [.ref q, .ref p] ∧ KtAt K H q rows ∧ RowsL rows ∧ SqT K H p ((spell rows ks).map V.str) ∧ ks.length ≤ 2000 ∧ (∀ k ∈ ks, 0 ≤ k ∧ k < (rows.length : Nat)) ∧ ∀ H' t, Same H H' → EnAt K H' t ((ks.length : Nat), ks) → Q (.ref t) H'
abbrev N_rkd : List Str := ["_law_kinds", "_law_row", "_law_ordered", "_law_pair", "_law_name"]
theorem sc_rkd : FnScope N_rkd ["_law_kinds", "_law_row"] (defScope (top 58)) := ⟨rfl, rfl, rfl, by decide +kernel, rfl, by decide +kernel, by decide +kernel⟩
theorem k_rkd (T : Txt K mg) (F : DF K mg "_law_ranked" 58) : Cal P w K mg base 1 "_law_ranked" ["_law_kinds", "_law_row"] (spRkd K) := by
  refine cal_of F.1 F.2 sc_rkd (fun _ _ _ _ _ _ us e => match us, e with | [_, _], _ => rfl) (fun vs H Q E s => by obtain ⟨_, _, _, _, rfl, _⟩ := s; rfl) ?_
  intro cdv A outer sh H vs Q E0 hr h
  obtain ⟨q, p, rows, ks, rfl, hK, rl, hp, hkl, hk, hq⟩ := h
  have sc := sc_rkd
  have ok := rl.ok
  obtain ⟨ps, hq1, hq2⟩ := id hK
  have hpl := paired_len hq2
  have hle := ok.le
  refine ⟨_, (pss_cons (ps_set (i := 2) sc.nd rfl (Or.inr rfl) (pe_lc (own := [("_law_pair", 3)]) (g := gName 3) (te := tOp (rIxT K) (tVar 3) (tC (.int 0))) rfl sc.nd (pi_tup (pv 0)) (blkOk_by (N := N_rkd) (sc := defScope (top 58)) (by decide +kernel)) (fun _ _ _ _ _ => (pg_name (i := 3) sc.nd rfl (Or.inl rfl))) (fun _ _ _ _ _ => pts_nil) (fun _ _ _ _ _ => (pe_ix ix_tup (pv 3) pe_int (fun _ _ => rfl)))))
      (pss_one (ps_ret (pe_tup (pa_cons (pe_callB call_len_seq (by rfl) T.len (by decide +kernel) (pa_cons (pv 1) pa_nil)) (pa_cons (pe_callTy call_tuple_of (by rfl) T.tuple (by decide +kernel) (pa_cons (pe_lc (own := [("_law_name", 4)]) (g := gName 4) (te := tBM K "list" (rIndex K) (tVar 2) (tCons (tVar 4) tNil)) rfl sc.nd (pi_tup (pv 1)) (blkOk_by (N := N_rkd) (sc := defScope (top 58)) (by decide +kernel)) (fun _ _ _ _ _ => (pg_name (i := 4) sc.nd rfl (Or.inl rfl))) (fun _ _ _ _ _ => pts_nil) (fun _ _ _ _ _ => (pe_bm PySem.F.plainAttrs_list PySem.F.slot_list_index PySem.F.type_list_index mt_index (pv 2) (pa_cons (pv 4) pa_nil)))) pa_nil)) pa_nil)))))), ?_⟩
  refine ⟨_, rfl, q, rfl, ⟨_, hq1⟩, fun D hD => lc_it walk_tup (fun i H' => Hs H [(D, .lst ((rows.take i).map fun r => V.str r.1))] H') ((Hs.start H).new hD) (fun _ _ _ z => Same.sqt z.sub hq1) ?_ ?_⟩
  · rintro i x H' _ hi hh ⟨rfl, hx⟩
    rw [List.length_map, hpl] at hi
    obtain ⟨r, er⟩ : ∃ r, rows[i]? = some r := ⟨_, List.getElem?_eq_getElem hi⟩
    obtain ⟨y, e1, ty⟩ := paired_at hq2 er
    rw [List.getElem?_map, e1] at hx
    cases hx
    refine ⟨?_, ?_⟩
    · simp only [wipe, List.map_cons, List.map_nil, List.set_cons_succ, List.set_cons_zero]
      rw [List.set_set, List.set_set]
    simp only [tYes, if_true, wipe, List.map_cons, List.map_nil, List.set_cons_succ, List.set_cons_zero]
    refine ⟨_, rfl, y, _, 0, _, rfl, rfl, Same.sqt hh.sub ty, atI_nat (j := 0) rfl, _, hh.r0, by rw [List.length_map, List.length_take, sizeLine_eq]; omega, ?_⟩
    rw [List.take_succ, er, List.map_append]
    exact hh.w0
  intro H1 h1
  rw [List.length_map, hpl, List.take_length] at h1
  simp only [List.set_cons_succ, List.set_cons_zero]
  have hD1 := h1.r0
  have hp1 := Same.sqt h1.sub hp
  have hpk : SqT K H1 p (ks.map fun k => V.str (rows.getD k.toNat ("", 0)).1) := by
    unfold spell at hp1
    rw [List.map_map] at hp1
    exact hp1
  refine ⟨_, rfl, p, _, rfl, .inr hp1, _, rfl, p, rfl, ⟨_, hpk⟩, fun D2 hD2 => lc_filtT (K := K) (α := Int) (a := p) (xs := ks) (f := fun k => V.str (rows.getD k.toNat ("", 0)).1) (out := V.int) (keep := fun _ => true) (Hs.start H1) hD2 hpk (by omega) (fun k hk' H2 s2 R1 R2 y1 _ => ?_) fun H2 h2 => ?_⟩
  · simp only [tYes, if_true, wipe, List.map_cons, List.map_nil, List.set_cons_succ, List.set_cons_zero]
    obtain ⟨k0, k1⟩ := hk k hk'
    obtain ⟨r, er⟩ : ∃ r, rows[k.toNat]? = some r := ⟨_, List.getElem?_eq_getElem (by omega)⟩
    rw [getD_at er]
    refine ⟨_, rfl, .inl ⟨rfl, _, SqL.of (s2 _ _ hD1)⟩, _, rfl, D, _, _, k.toNat, .str r.1, rfl, rfl, SqL.of (s2 _ _ hD1), rfl, ?_, by rw [List.getElem?_map, er]; rfl, by show (r.1 == r.1) = true; simp, fun j z hj hz => ?_, ?_⟩
    · rw [List.all_map, List.all_eq_true]
      intro x _
      rfl
    · obtain ⟨r2, er2, rfl⟩ := map_at hz
      show (r2.1 == r.1) = false
      rw [beq_eq_false_iff_ne]
      have := nodup_take ok.nd er r2 (List.mem_of_getElem? (by rw [List.getElem?_take_of_lt hj]; exact er2))
      exact this
    · rw [show ((k.toNat : Nat) : Int) = k by omega]
      exact y1 rfl
  · rw [List.filter_eq_self.mpr (fun _ _ => rfl)] at h2
    refine ⟨D2, _, rfl, .inl ⟨SqL.of h2.r0, fun T5 hT5 => ⟨(by show 2 ≤ sizeLine; decide), fun T6 hT6 => ?_⟩⟩⟩
    have s5 := up_same (o := .tup (ks.map V.int)) hT5
    have s6 := up_same (o := .tup [.int ((((spell rows ks).map V.str).length : Nat) : Int), .ref T5]) hT6
    refine hq _ T6 ((h1.sub.trans h2.sub).trans (s5.trans s6)) ⟨T5, ?_, Same.sqt s6 (SqT.of upd_same)⟩
    have : ((spell rows ks).map V.str).length = ks.length := by rw [List.length_map]; unfold spell; rw [List.length_map]
    rw [this]
    exact SqT.of upd_same
end
end Sy
/-! _law_row_states -/
namespace Sy
open PySem PySem.Spec PyProof.Rows L2
section
variable {P : Program} {w : World} {K : PySem.W.Frag} {mg : Str → Option Value} {base : Heap}
def spRst (P : Program) (w : World) (K : PySem.W.Frag) : Sp := fun vs H Q _ => ∃ (s dS p : Addr) (rows : List Sy.Row) (m : Nat) (d : RdrZ) (full : List ZRow) (ob : HO) (l : List Str), vs = [.ref s, .ref dS, .ref p] ∧ RowsOk rows ∧ H s = some (.dK (arKV rows)) ∧ H dS = some ob ∧ NOf P w K H dS ob (tabZ full) ∧ FullZ rows m d full ∧ SqT K H p (l.map V.str) ∧ Pln rows l ∧
  ∀ H' t, Same H H' → SqT K H' t (vI (stsF rows d l)) → Q (.ref t) H'
abbrev N_rst : List Str := ["_law_sizes_here", "_law_steps", "_law_row", "_law_stack", "_law_found", "_law_name", "_law_below", "_law_spot", "_law_state"]
theorem sc_rst : FnScope N_rst ["_law_sizes_here", "_law_steps", "_law_row"] (defScope (top 54)) := ⟨rfl, rfl, rfl, by decide +kernel, rfl, by decide +kernel, by decide +kernel⟩
theorem k_rst (T : Txt K mg) (F : DF K mg "_law_row_states" 54) : Cal P w K mg base 1 "_law_row_states" ["_law_sizes_here", "_law_steps", "_law_row"] (spRst P w K) := by
  refine cal_of F.1 F.2 sc_rst (fun _ _ _ _ _ _ us e => match us, e with | [_, _, _], _ => rfl) (fun vs H Q E s => by obtain ⟨_, _, _, _, _, _, _, _, _, rfl, _⟩ := s; rfl) ?_
  intro cdv A outer s H vs Q E hr h
  obtain ⟨sA, dS, p, rows, m, d, full, ob, l, rfl, ok, hS, hDS, hN, hF, hp, pl, hq⟩ := h
  have hu := hu4_of hr
  have hu2 := hu_of hr
  have sc := sc_rst
  have ll := pl.le
  have hwl := wt_len rows l
  refine ⟨_, (pss_cons (ps_set (i := 3) sc.nd rfl (Or.inl rfl) (pe_lst pa_nil))
      (pss_cons (ps_set (i := 4) sc.nd rfl (Or.inl rfl) (pe_lst pa_nil))
      (pss_cons (ps_for (passes_of rfl) rfl (pi_tup (pe_revT (pv 2))) (pg_name (i := 5) sc.nd rfl (Or.inl rfl))
        (pss_cons (ps_set (i := 6) sc.nd rfl (Or.inl rfl) (pe_lst pa_nil))
        (pss_cons (ps_for (passes_of rfl) rfl (pi_range1 rfl T.range (pa_cons (pe_dget hu2 (pv 0) (pv 5) (fun _ _ => rfl)) pa_nil)) (pg_name (i := 7) sc.nd rfl (Or.inl rfl))
          (pss_one (ps_expr (pe_bm PySem.F.plainAttrs_list PySem.F.slot_list_append PySem.F.type_list_append mt_append (pv 6) (pa_cons (pe_bm0 PySem.F.plainAttrs_list PySem.F.slot_list_pop PySem.F.type_list_pop mt_pop (pv 3)) pa_nil)))))
        (pss_cons (ps_set (i := 8) sc.nd rfl (Or.inl rfl) (pe_nget hu (pv 1) (pe_tup (pa_cons (pv 5) (pa_cons (pe_callTy call_tuple_of (by rfl) T.tuple (by decide +kernel) (pa_cons (pv 6) pa_nil)) pa_nil))) (fun _ _ => rfl)))
        (pss_cons (ps_expr (pe_bm PySem.F.plainAttrs_list PySem.F.slot_list_append PySem.F.type_list_append mt_append (pv 3) (pa_cons (pv 8) pa_nil)))
        (pss_one (ps_expr (pe_bm PySem.F.plainAttrs_list PySem.F.slot_list_append PySem.F.type_list_append mt_append (pv 4) (pa_cons (pv 8) pa_nil)))))))))
      (pss_one (ps_ret (pe_callTy call_tuple_of (by rfl) T.tuple (by decide +kernel) (pa_cons (pe_revL (pv 4)) pa_nil))))))), ?_⟩
  refine ⟨by decide, fun W hW => ?_⟩
  have h1 := (Hs.start H).new (o := .lst (vI [])) hW
  refine ⟨by decide, fun F0 hF0 => ?_⟩
  have h2 := (h1.new (o := .lst (vI [])) hF0).swap
  refine ⟨_, rfl, p, _, rfl, Same.sqt h2.sub hp, fun T0 hT0 => ?_⟩
  have h3 := h2.tup (o := .tup (l.map V.str).reverse) hT0
  have s3 : Same H (upd H T0 (.tup (l.map V.str).reverse)) := up_same (h2.sub.free hT0)
  have tT0 : SqT K (upd H T0 (.tup (l.map V.str).reverse)) T0 (l.map V.str).reverse := SqT.of upd_same
  generalize upd H T0 (.tup (l.map V.str).reverse) = B0 at *
  refine ⟨T0, rfl, ⟨_, Same.sqt h3.sub tT0⟩, for_tup (K := K) (a := T0) (xs := (l.map V.str).reverse) (fun t σ H' => ∃ (t5 t6 t7 t8 : Option V) (B : Hp) (k : Nat), σ = [some (.ref sA), some (.ref dS), some (.ref p), some (.ref W), some (.ref F0), t5, t6, t7, t8] ∧ Same B0 B ∧
      Hs B [(W, .lst (vI (stkF rows d (l.drop (l.length - t))).reverse)), (F0, .lst (vI (stsF rows d (l.drop (l.length - t))).reverse))] H' ∧ Fo k ((wt rows l).drop (l.length - t)) ∧ ∀ n ∈ stkF rows d (l.drop (l.length - t)), inS (m : Nat) n = true)
    ⟨none, none, none, none, B0, 0, rfl, Same.refl _, by rw [Nat.sub_zero, List.drop_length]; exact h3, by rw [Nat.sub_zero, List.drop_of_length_le (by omega)]; trivial, fun n hn => by rw [Nat.sub_zero, List.drop_length] at hn; cases hn⟩ (fun _ _ _ _ ⟨_, _, _, _, _, _, _, sB, z, _⟩ => Same.sqt (sB.trans z.sub) tT0) ?_ ?_⟩
  · rintro t v σ H3 hv ⟨t5, t6, t7, t8, B, m0, rfl, sB, h7, hFo, hin⟩
    have ht : t < l.length := by
      have := (List.getElem?_eq_some_iff.mp hv).1
      rw [List.length_reverse, List.length_map] at this
      exact this
    rw [List.getElem?_reverse (by rw [List.length_map]; exact ht), List.length_map] at hv
    obtain ⟨x, ex, rfl⟩ := map_at hv
    obtain ⟨i, ei⟩ : ∃ i, i = l.length - 1 - t := ⟨_, rfl⟩
    rw [← ei] at ex
    have ei1 : l.length - t = i + 1 := by omega
    have ei2 : l.length - (t + 1) = i := by omega
    rw [ei1] at h7 hFo hin
    rw [ei2]
    have hi : i < l.length := by omega
    have hiw : i < (wt rows l).length := by omega
    have kx := pl.kn x (List.mem_of_getElem? ex)
    have eaw : aw (wt rows l) i = ar rows x := wt_at ex
    obtain ⟨k, hm⟩ := pl.fo.below hiw
    obtain rfl : m0 = aw (wt rows l) i + k := Fo.uniq hFo hm
    have hRl := stkF_len (d := d) (rows := rows) (l := l.drop (i + 1)) (m := aw (wt rows l) i + k) (by rw [show wt rows (l.drop (i + 1)) = (wt rows l).drop (i + 1) from List.map_drop ..]; exact hm)
    rw [eaw] at hRl
    have har := ok.ar_le x
    have hml := szN hm
    rw [List.length_drop] at hml
    have edr := drop_of ex
    have hfl := stsF_len rows d (l.drop (i + 1))
    rw [List.length_drop] at hfl
    have e1 : stkF rows d (l.drop i) = stepZ d x ((stkF rows d (l.drop (i + 1))).take (ar rows x)) :: (stkF rows d (l.drop (i + 1))).drop (ar rows x) := by rw [edr, stkF]
    have e2 : stsF rows d (l.drop i) = stepZ d x ((stkF rows d (l.drop (i + 1))).take (ar rows x)) :: stsF rows d (l.drop (i + 1)) := by rw [edr, stsF]
    rw [e1, e2]
    generalize stsF rows d (l.drop (i + 1)) = G at *
    generalize stkF rows d (l.drop (i + 1)) = R at *
    refine ⟨by decide, fun D hD => ?_⟩
    have h8 := h7.new (o := .lst []) hD
    have sH := (s3.trans sB).trans h8.sub
    simp only [List.set_cons_succ, List.set_cons_zero]
    refine ⟨_, rfl, _, rfl, sA, .int (ar rows x : Nat), rfl, ?_, _, rfl, by omega, by omega, for_rng (n := ar rows x) (fun t σ H' => ∃ t7, σ = [some (.ref sA), some (.ref dS), some (.ref p), some (.ref W), some (.ref F0), some (.str x), some (.ref D), t7, t8] ∧ Hs B [(D, .lst (vI (R.take t))), (W, .lst (vI (R.drop t).reverse)), (F0, .lst (vI G.reverse))] H') ⟨_, rfl, h8⟩ ?_ ?_⟩
    · have kx2 := kx
      unfold isK at kx2
      obtain ⟨n, en⟩ := Option.isSome_iff_exists.mp kx2
      have e3 : ar rows x = n := by unfold ar; rw [en]; rfl
      have g := DGet.k (k := (Sum.inr x : Key)) (sH _ _ hS)
      rw [valV_ar, en] at g
      rw [e3]
      exact g
    · rintro t σ H4 ht ⟨t7, rfl, h9⟩
      obtain ⟨u, eq⟩ : ∃ u, R[t]? = some u := ⟨_, List.getElem?_eq_getElem (by omega)⟩
      have eR : vI (R.drop t).reverse = vI (R.drop (t + 1)).reverse ++ [V.int u] := by unfold vI; rw [drop_of eq, List.reverse_cons, List.map_append]; rfl
      refine ⟨_, rfl, .inl ⟨rfl, _, SqL.of h9.r0⟩, _, rfl, .inl ⟨rfl, _, SqL.of h9.r1⟩, W, vI (R.drop t).reverse, .int u, rfl, rfl, h9.r1, ?_, ?_⟩
      · rw [eR, List.length_append, List.length_singleton, Nat.add_sub_cancel, List.getElem?_append_right (Nat.le_refl _), Nat.sub_self]
        rfl
      have edl : (vI (R.drop t).reverse).dropLast = vI (R.drop (t + 1)).reverse := by
        rw [eR]
        exact List.dropLast_concat
      rw [edl]
      have h10 := h9.w1 (o' := .lst (vI (R.drop (t + 1)).reverse))
      refine ⟨D, _, _, rfl, rfl, h10.r0, by unfold vI; rw [List.length_map, List.length_take, sizeLine_eq]; omega, _, rfl, ?_⟩
      have h11 := h10.w0 (o' := .lst (vI (R.take t) ++ [.int u]))
      rw [show vI (R.take t) ++ [V.int u] = vI (R.take (t + 1)) by unfold vI; rw [List.take_succ, eq, List.map_append]; rfl] at h11 ⊢
      exact h11
    · rintro σ H4 ⟨t7, rfl, h9⟩
      refine ⟨_, rfl, _, rfl, _, rfl, D, _, rfl, .inl ⟨SqL.of h9.r0, fun T5 hT5 => ⟨(by show 2 ≤ sizeLine; decide), fun T6 hT6 => ?_⟩⟩⟩
      have h10 := (h9.tup (o := .tup (vI (R.take (ar rows x)))) hT5).tup (o := .tup [.str x, .ref T5]) hT6
      have s5 : Same B (upd B T5 (.tup (vI (R.take (ar rows x))))) := up_same (h9.sub.free hT5)
      have s6 : Same (upd B T5 (.tup (vI (R.take (ar rows x))))) (upd (upd B T5 (.tup (vI (R.take (ar rows x))))) T6 (.tup [.str x, .ref T5])) := up_same ((h9.tup (o := .tup (vI (R.take (ar rows x)))) hT5).sub.free hT6)
      have t5 : SqT K (upd B T5 (.tup (vI (R.take (ar rows x))))) T5 (vI (R.take (ar rows x))) := SqT.of upd_same
      have t6 : SqT K (upd (upd B T5 (.tup (vI (R.take (ar rows x))))) T6 (.tup [.str x, .ref T5])) T6 [.str x, .ref T5] := SqT.of upd_same
      generalize upd (upd B T5 (.tup (vI (R.take (ar rows x))))) T6 (.tup [.str x, .ref T5]) = B6 at *
      generalize upd B T5 (.tup (vI (R.take (ar rows x)))) = B5 at *
      generalize upd (upd H4 T5 (.tup (vI (R.take (ar rows x))))) T6 (.tup [.str x, .ref T5]) = H6 at *
      have s06 := (((s3.trans sB).trans s5).trans s6).trans h10.sub
      obtain ⟨f1, f2⟩ := hF x (R.take (ar rows x)) kx (by rw [List.length_take]; omega) (fun n hn => hin n (List.mem_of_mem_take hn))
      refine ⟨dS, T6, ob, _, zkey (x, R.take (ar rows x)), .int (stepZ d x (R.take (ar rows x))), rfl, rfl, s06 _ _ hDS, hN.mono (Stay.of s06), NK.ofZ (Same.sqt h10.sub t6) (Same.sqt (s6.trans h10.sub) t5), by rw [valV_tabZ, f1]; rfl, ?_⟩
      generalize stepZ d x (R.take (ar rows x)) = v at *
      simp only [List.set_cons_succ, List.set_cons_zero]
      refine ⟨_, rfl, .inl ⟨rfl, _, SqL.of h10.r1⟩, _, rfl, W, _, _, rfl, rfl, h10.r1, by unfold vI; rw [List.length_map, List.length_reverse, List.length_drop, sizeLine_eq]; omega, ?_⟩
      have h12 := h10.w1 (o' := .lst (vI (R.drop (ar rows x)).reverse ++ [.int v]))
      rw [show vI (R.drop (ar rows x)).reverse ++ [V.int v] = vI (v :: R.drop (ar rows x)).reverse by unfold vI; rw [List.reverse_cons, List.map_append]; rfl] at h12 ⊢
      refine ⟨_, rfl, .inl ⟨rfl, _, SqL.of h12.r2⟩, _, rfl, F0, _, _, rfl, rfl, h12.r2, by unfold vI; rw [List.length_map, List.length_reverse, sizeLine_eq]; omega, ?_⟩
      have h13 := h12.w2 (o' := .lst (vI G.reverse ++ [.int v]))
      rw [show vI G.reverse ++ [V.int v] = vI (v :: G).reverse by unfold vI; rw [List.reverse_cons, List.map_append]; rfl] at h13 ⊢
      refine ⟨_, _, _, _, B6, k + 1, rfl, (sB.trans s5).trans s6, h13.drop, ?_, fun n hn => ?_⟩
      · rw [drop_at hiw]
        show Fo (k + aw (wt rows l) i) _
        rw [Nat.add_comm]
        exact hm
      · rcases List.mem_cons.mp hn with hn | hn
        · rw [hn]; exact f2
        · exact hin n (List.mem_of_mem_drop hn)
  · rintro σ H3 ⟨t5, t6, t7, t8, B, k, rfl, sB, h7, _⟩
    rw [List.length_reverse, List.length_map, Nat.sub_self, List.drop_zero] at h7
    refine ⟨_, rfl, F0, _, rfl, SqL.of h7.r1, fun y hy => ?_⟩
    rw [show (vI (stsF rows d l).reverse).reverse = vI (stsF rows d l) by unfold vI; rw [List.map_reverse, List.reverse_reverse]]
    have sy := up_same (o := .lst (vI (stsF rows d l))) hy
    exact ⟨y, _, rfl, .inl ⟨SqL.of upd_same, fun t ht => hq _ t (((s3.trans sB).trans h7.sub).trans (sy.trans (up_same ht))) (SqT.of upd_same)⟩⟩
end
end Sy
/-! _law_least_right -/
namespace Sy
open PySem PySem.Spec PyProof.Rows L2 LamX NdefX
/-- the ranked entries of the first i states -/
def RkR (K : PySem.W.Frag) (H : Hp) (i : Nat) (rs : List V) (E : EMap) : Prop := rs.length = i ∧ ∀ j : Nat, j < i → (lkE E (j : Nat) = none → rs[j]? = some .non) ∧ ∀ e, lkE E (j : Nat) = some e → ∃ a, rs[j]? = some (.ref a) ∧ EnAt K H a e
theorem RkR.mono {K : PySem.W.Frag} {H H' : Hp} {i : Nat} {rs : List V} {E : EMap} (h : RkR K H i rs E) (s : Stay H H') : RkR K H' i rs E := ⟨h.1, fun j hj => ⟨(h.2 j hj).1, fun e he => let ⟨a, e1, e2⟩ := (h.2 j hj).2 e he; ⟨a, e1, e2.mono s⟩⟩⟩
theorem RkR.snoc {K : PySem.W.Frag} {H : Hp} {i : Nat} {rs : List V} {E : EMap} (h : RkR K H i rs E) {v : V} (h1 : lkE E (i : Nat) = none → v = .non) (h2 : ∀ e, lkE E (i : Nat) = some e → ∃ a, v = .ref a ∧ EnAt K H a e) : RkR K H (i + 1) (rs ++ [v]) E := by
  refine ⟨by rw [List.length_append, h.1]; rfl, fun j hj => ?_⟩
  by_cases c : j < i
  · rw [List.getElem?_append_left (by rw [h.1]; exact c)]
    exact h.2 j c
  · have : j = i := by omega
    subst this
    rw [List.getElem?_append_right (by rw [h.1]; exact Nat.le_refl _), h.1, Nat.sub_self]
    refine ⟨fun z => by rw [h1 z]; rfl, fun e he => ?_⟩
    obtain ⟨a, e1, e2⟩ := h2 e he
    exact ⟨a, by rw [e1]; rfl, e2⟩
def rNotZ : R2 := fun x y H Q => y = .non ∧ Q (.bl (!decide (x = .non))) H
def gnF (E : EMap) (m : Nat) : List Int := ((List.range m).filter fun i : Nat => (lkE E (i : Nat)).isSome).map fun i : Nat => (i : Int)
theorem gn_mem {E : EMap} {m : Nat} {x : Int} (h : x ∈ gnF E m) : x ∈ kyE E ∧ 0 ≤ x ∧ x < (m : Nat) := by
  unfold gnF at h
  obtain ⟨i, hi, rfl⟩ := List.mem_map.mp h
  obtain ⟨h1, h2⟩ := List.mem_filter.mp hi
  have := List.mem_range.mp h1
  obtain ⟨e, he⟩ := Option.isSome_iff_exists.mp h2
  exact ⟨lk_some.mpr ⟨e, he⟩, by omega, by omega⟩
theorem gn_len (E : EMap) (m : Nat) : (gnF E m).length ≤ m := by
  unfold gnF
  rw [List.length_map]
  have := List.length_filter_le (fun i : Nat => (lkE E (i : Nat)).isSome) (List.range m)
  rw [List.length_range] at this
  exact this
section
variable {P : Program} {w : World} {K : PySem.W.Frag} {mg : Str → Option Value} {base : Heap}
def spLrt (P : Program) (w : World) (K : PySem.W.Frag) : Sp := fun vs H Q _ => ∃ (q z p : Addr) (rows : List Sy.Row) (m top : Nat) (d : RdrZ) (full : List ZRow) (xs : List V) (E : EMap) (S : List Int), vs = [.ref q, .ref z, .ref p] ∧ KtAt K H q rows ∧ RowsL rows ∧ DrOk rows m d full ∧ DrAt P w K H z d full ∧
  SqT K H p xs ∧ LsR K H m xs (fE rows E) ∧ LInv (Sz rows) (St rows d) m top E S ∧ (∀ s ∈ kyE E, s ∈ S) ∧ (∀ s e, lkE E s = some e → e.1 ≤ 2000) ∧ ∀ H', Same H H' → Q (.bl true) H'
abbrev N_lrt : List Str := ["_law_kinds", "_law_drawn", "_law_told_here", "_law_sizes_here", "_law_ranked_here", "_law_state", "_law_gained", "_law_which", "_law_spots", "_law_below", "_law_one", "_law_knots", "_law_row", "_law_spot"]
theorem sc_lrt : FnScope N_lrt ["_law_kinds", "_law_drawn", "_law_told_here"] (defScope (top 59)) := ⟨rfl, rfl, rfl, by decide +kernel, rfl, by decide +kernel, by decide +kernel⟩
theorem k_lrt (T : Txt K mg) (TC : TxtC mg) (hsum : mg "sum" = none) (F : DF K mg "_law_least_right" 59) (c_law_sizes : Cal P w K mg base 1 "_law_sizes" ["_law_kinds"] (spSz K)) (c_law_is_plant : Cal P w K mg base 2 "_law_is_plant" ["_law_sizes_here", "_law_row"] (spIsp K))
    (c_law_row_states : Cal P w K mg base 1 "_law_row_states" ["_law_sizes_here", "_law_steps", "_law_row"] (spRst P w K)) (c_law_ranked : Cal P w K mg base 1 "_law_ranked" ["_law_kinds", "_law_row"] (spRkd K)) (c_law_tuples : Cal P w K mg base 1 "_law_tuples" ["_law_many", "_law_length"] (spBel K)) :
    Cal P w K mg base 3 "_law_least_right" ["_law_kinds", "_law_drawn", "_law_told_here"] (spLrt P w K) := by
  refine cal_of F.1 F.2 sc_lrt (fun _ _ _ _ _ _ us e => match us, e with | [_, _, _], _ => rfl) (fun vs H Q E s => by obtain ⟨_, _, _, _, _, _, _, _, _, _, _, rfl, _⟩ := s; rfl) ?_
  intro cdv A outer sh H vs Q E0 hr h
  obtain ⟨q, z, p, rows, m, tp, d, full, xs, E, S, rfl, hK, rl, dok, hDr, hp, hLs, LI, hall, hle, hq⟩ := h
  have sc := sc_lrt
  have hu := hu_of hr
  have hu4 := hu4_of hr
  have hun := hr.un
  have ok := rl.ok
  have rle := ok.le
  have hm1 := dok.m1
  have hm2 := dok.m2
  obtain ⟨tr, tm, dS, ob, pz, more, hz, htr, hpz, htm, hdS, hN⟩ := id hDr
  rw [dok.ed] at hz
  obtain ⟨pk, hK1, hK2⟩ := id hK
  have hpk := paired_len hK2
  have rks := LI.ranks
  refine ⟨_, (pss_cons (ps_if (PW.pt (pw_or (pt_not (pt_val (pe_callB call_isi (by rfl) TC.isinstance (by decide +kernel) (pa_cons (pv 2) (pa_cons (pe_bltn (v := .ty "tuple") (by rfl) TC.tuple (by decide +kernel) rfl) pa_nil))))) (pw_or1 (pt_cmpR op_ne (pe_callB call_len_seq (by rfl) T.len (by decide +kernel) (pa_cons (pv 2) pa_nil)) (pe_ix ix_list (pv 1) pe_int (fun _ _ => rfl)) (nomark _)))))
        (pss_one (ps_ret pe_bl))
        pss_nil)
      (pss_cons (ps_set (i := 3) sc.nd rfl (Or.inl rfl) (pe_cal c_law_sizes hr (pa_cons (pv 0) pa_nil)))
      (pss_cons (ps_set (i := 4) sc.nd rfl (Or.inr rfl) (pe_lst pa_nil))
      (pss_cons (ps_for (passes_of rfl) rfl (pi_range1 rfl T.range (pa_cons (pe_ix ix_list (pv 1) pe_int (fun _ _ => rfl)) pa_nil)) (pg_name (i := 5) sc.nd rfl (Or.inl rfl))
        (pss_cons (ps_if (pt_cmpR op_isN (pe_ix ix_tup (pv 2) (pv 5) (fun _ _ => rfl)) pe_non (nomark _))
          (pss_cons (ps_expr (pe_bm PySem.F.plainAttrs_list PySem.F.slot_list_append PySem.F.type_list_append mt_append (pv 4) (pa_cons pe_non pa_nil)))
          (pss_one ps_continue))
          pss_nil)
        (pss_cons (ps_if (pt_not (pt_val (pe_cal c_law_is_plant hr (pa_cons (pv 3) (pa_cons (pe_ix ix_tup (pv 2) (pv 5) (fun _ _ => rfl)) pa_nil)))))
          (pss_one (ps_ret pe_bl))
          pss_nil)
        (pss_cons (ps_if (pt_cmpR op_ne (pe_ix ix_tup (pe_cal c_law_row_states hr (pa_cons (pv 3) (pa_cons (pe_ix ix_list (pv 1) pe_int (fun _ _ => rfl)) (pa_cons (pe_ix ix_tup (pv 2) (pv 5) (fun _ _ => rfl)) pa_nil)))) pe_int (fun _ _ => rfl)) (pv 5) (nomark _))
          (pss_one (ps_ret pe_bl))
          pss_nil)
        (pss_one (ps_expr (pe_bm PySem.F.plainAttrs_list PySem.F.slot_list_append PySem.F.type_list_append mt_append (pv 4) (pa_cons (pe_cal c_law_ranked hr (pa_cons (pv 0) (pa_cons (pe_ix ix_tup (pv 2) (pv 5) (fun _ _ => rfl)) pa_nil))) pa_nil))))))))
      (pss_cons (ps_set (i := 6) sc.nd rfl (Or.inr rfl) (pe_lc (own := [("_law_state", 5)]) (g := gName 5) (tt := tTest (tOp rNotZ (tOp (rIxT K) (tVar 2) (tVar 5)) (tC .non))) (te := tVar 5) rfl sc.nd (pi_range1 rfl T.range (pa_cons (pe_ix ix_list (pv 1) pe_int (fun _ _ => rfl)) pa_nil)) (blkOk_by (N := N_lrt) (sc := defScope (top 59)) (by decide +kernel)) (fun _ _ _ _ _ => (pg_name (i := 5) sc.nd rfl (Or.inl rfl))) (fun _ _ _ _ _ => (pts_one (pt_cmpR op_notN (pe_ix ix_tup (pv 2) (pv 5) (fun _ _ => rfl)) pe_non (nomark _)))) (fun _ _ _ _ _ => (pv 5))))
      (pss_cons (ps_for (passes_of rfl) rfl (pi_range1 rfl T.range (pa_cons (pe_callB call_len_seq (by rfl) T.len (by decide +kernel) (pa_cons (pv 0) pa_nil)) pa_nil)) (pg_name (i := 7) sc.nd rfl (Or.inl rfl))
        (pss_one (ps_for (passes_of rfl) rfl (pi_list (pe_cal c_law_tuples hr (pa_cons (pe_callB call_len_seq (by rfl) T.len (by decide +kernel) (pa_cons (pv 6) pa_nil)) (pa_cons (pe_ix ix_tup (pe_ix ix_tup (pv 0) (pv 7) (fun _ _ => rfl)) pe_int (fun _ _ => rfl)) pa_nil)))) (pg_name (i := 8) sc.nd rfl (Or.inl rfl))
          (pss_cons (ps_set (i := 9) sc.nd rfl (Or.inl rfl) (pe_callTy call_tuple_of (by rfl) T.tuple (by decide +kernel) (pa_cons (pe_lc (own := [("_law_spot", 13)]) (g := gName 13) (te := tOp (rIxL K) (tVar 6) (tVar 13)) rfl sc.nd (pi_tup (pv 8)) (blkOk_by (N := N_lrt) (sc := defScope (top 59)) (by decide +kernel)) (fun _ _ _ _ _ => (pg_name (i := 13) sc.nd rfl (Or.inl rfl))) (fun _ _ _ _ _ => pts_nil) (fun _ _ _ _ _ => (pe_ix ix_list (pv 6) (pv 13) (fun _ _ => rfl)))) pa_nil)))
          (pss_cons (ps_set (i := 11) sc.nd rfl (Or.inl rfl) (pe_op op_add pe_int (pe_callB (cr_sum rfl) (by rfl) hsum (by decide +kernel) (pa_cons (pe_lc (own := [("_law_one", 10)]) (g := gName 10) (te := tOp (rIxT K) (tOp (rIxL K) (tVar 4) (tVar 10)) (tC (.int 0))) rfl sc.nd (pi_tup (pv 9)) (blkOk_by (N := N_lrt) (sc := defScope (top 59)) (by decide +kernel)) (fun _ _ _ _ _ => (pg_name (i := 10) sc.nd rfl (Or.inl rfl))) (fun _ _ _ _ _ => pts_nil) (fun _ _ _ _ _ => (pe_ix ix_tup (pe_ix ix_list (pv 4) (pv 10) (fun _ _ => rfl)) pe_int (fun _ _ => rfl)))) pa_nil))))
          (pss_cons (ps_set (i := 12) sc.nd rfl (Or.inl rfl) (pe_tup (pa_cons (pv 7) pa_nil)))
          (pss_cons (ps_for (passes_of rfl) rfl (pi_tup (pv 9)) (pg_name (i := 10) sc.nd rfl (Or.inl rfl))
            (pss_one (ps_set (i := 12) sc.nd rfl (Or.inl rfl) (pe_op op_catA (pv 12) (pe_ix ix_tup (pe_ix ix_list (pv 4) (pv 10) (fun _ _ => rfl)) pe_int (fun _ _ => rfl))))))
          (pss_cons (ps_set (i := 5) sc.nd rfl (Or.inl rfl) (pe_nget hu4 (pe_ix ix_list (pv 1) pe_int (fun _ _ => rfl)) (pe_tup (pa_cons (pe_ix ix_tup (pe_ix ix_tup (pv 0) (pv 7) (fun _ _ => rfl)) pe_int (fun _ _ => rfl)) (pa_cons (pv 9) pa_nil))) (fun _ _ => rfl)))
          (pss_one (ps_if (PW.pt (pw_or (pt_cmpR op_isN (pe_ix ix_list (pv 4) (pv 5) (fun _ _ => rfl)) pe_non (nomark _)) (pw_or1 (pt_cmpR (op_ltD (by show (A.deeper _).units + 65 < cLine; omega)) (pe_tup (pa_cons (pv 11) (pa_cons (pv 12) pa_nil))) (pe_ix ix_list (pv 4) (pv 5) (fun _ _ => rfl)) (nomark _)))))
            (pss_one (ps_ret pe_bl))
            pss_nil))))))))))
      (pss_one (ps_ret pe_bl)))))))), ?_⟩
  have hzz : ∀ {H' : Hp}, Same H H' → SqL K H' z (.int (m : Nat) :: .ref tr :: .int d.rest :: .ref tm :: .ref dS :: more) := fun s => SqL.of (s _ _ hz)
  have evx : ∀ (i : Nat), i < m → (lkE E (i : Nat) = none → xs[i]? = some .non) ∧ ∀ e, lkE E (i : Nat) = some e → ∃ a, xs[i]? = some (.ref a) ∧ SqT K H a ((spell rows e.2).map V.str) := fun i hi => by
    refine ⟨fun z => (hLs.2 i hi).1 ?_, fun e he => (hLs.2 i hi).2 _ ?_⟩
    · unfold fE; rw [z]; rfl
    · unfold fE; rw [he]; rfl
  have enE : ∀ s e, lkE E s = some e → (((e.2.length : Nat) : Int), e.2) = e := fun s e he => by
    have := (LI.ok s e he).2.1 (hle s e he)
    obtain ⟨e1, e2⟩ := e
    show (((e2.length : Nat) : Int), e2) = (e1, e2)
    rw [show ((e2.length : Nat) : Int) = e1 from this]
  refine ⟨_, rfl, _, _, _, _, true, rfl, .ty _, tyx_tup hp, kit_ty (by decide +kernel), _, rfl, ?_⟩
  refine ⟨_, rfl, p, _, rfl, .inr hp, _, rfl, z, _, _, _, rfl, rfl, hzz (Same.refl H), atI_nat (j := 0) rfl, rfl, _, rfl, ?_⟩
  rw [hLs.1, decide_eq_true rfl]
  refine iteF ?_
  refine ⟨_, rfl, q, rows, rfl, hK, ok.nd, ok.le, fun sz H1 s1 hsz => ?_⟩
  simp only [List.set_cons_succ, List.set_cons_zero]
  refine ⟨by decide, fun rk hrk => ?_⟩
  have h1 := (Hs.start H1).new (o := .lst []) hrk
  simp only [List.set_cons_succ, List.set_cons_zero]
  refine ⟨_, rfl, z, _, _, _, rfl, rfl, hzz (s1.trans h1.sub), atI_nat (j := 0) rfl, _, rfl, by omega, by omega, for_rng (n := m) (fun i σ H' => ∃ (t5 : Option V) (B : Hp) (rs : List V), σ = [some (.ref q), some (.ref z), some (.ref p), some (.ref sz), some (.ref rk), t5, none, none, none, none, none, none, none, none] ∧ Same H1 B ∧ Hs B [(rk, .lst rs)] H' ∧ RkR K B i rs E)
    ⟨none, H1, [], rfl, Same.refl _, h1, rfl, fun j hj => absurd hj (Nat.not_lt_zero _)⟩ ?_ ?_⟩
  · rintro i σ H2 hi ⟨t5, B, rs, rfl, sB, hh, hR⟩
    have sH := s1.trans (sB.trans hh.sub)
    obtain ⟨ev0, ev1⟩ := evx i hi
    have hrl := hR.1
    simp only [List.set_cons_succ, List.set_cons_zero]
    cases el : lkE E (i : Nat) with
    | none =>
      refine ⟨_, rfl, _, rfl, p, _, _, _, rfl, rfl, Same.sqt sH hp, atI_nat (ev0 el), rfl, _, rfl, if_dec (fun _ => ?_) (fun c => absurd rfl c)⟩
      refine ⟨_, rfl, .inl ⟨rfl, _, SqL.of hh.r0⟩, rk, _, _, rfl, rfl, hh.r0, by rw [sizeLine_eq]; omega, ?_⟩
      exact ⟨_, B, rs ++ [.non], rfl, sB, hh.w0, hR.snoc (fun _ => rfl) (fun e he => by rw [el] at he; cases he)⟩
    | some e =>
      obtain ⟨a, ev, ta⟩ := ev1 e el
      obtain ⟨pl, hd, hl⟩ := LI.pln ok el (hle _ _ el)
      refine ⟨_, rfl, _, rfl, p, _, _, _, rfl, rfl, Same.sqt sH hp, atI_nat ev, rfl, _, rfl, if_dec (fun c => (nomatch c)) (fun c => ?_)⟩
      refine ⟨_, rfl, _, rfl, _, rfl, p, _, _, _, rfl, rfl, Same.sqt sH hp, atI_nat ev, sz, a, rows, spell rows e.2, rfl, (sB.trans hh.sub) _ _ hsz, Same.sqt sH ta, pl, _, rfl, iteF ?_⟩
      refine ⟨_, rfl, _, rfl, z, _, _, .ref dS, rfl, rfl, hzz sH, atI_nat (j := 4) rfl, _, rfl, _, rfl, p, _, _, _, rfl, rfl, Same.sqt sH hp, atI_nat ev, sz, dS, a, rows, m, d, full, ob, spell rows e.2, rfl, ok, (sB.trans hh.sub) _ _ hsz, sH _ _ hdS, hN.mono (Stay.of sH), dok.full, Same.sqt sH ta, pl, fun H3 t3 s3 ht3 => ?_⟩
      refine ⟨t3, _, 0, _, rfl, rfl, ht3, atI_nat (j := 0) (by rw [vI, List.getElem?_map, hd]; rfl), _, rfl, rfl, _, rfl, ?_⟩
      rw [decide_eq_true rfl]
      refine iteF ?_
      have s23 := sH.trans s3
      refine ⟨_, rfl, .inl ⟨rfl, _, SqL.of (s3 _ _ hh.r0)⟩, _, rfl, _, rfl, _, rfl, p, _, _, _, rfl, rfl, Same.sqt s23 hp, atI_nat ev, q, a, rows, e.2, rfl, hK.mono (Stay.of s23), rl, Same.sqt s23 ta, ?_, rks _ e el, fun H4 t4 s4 he4 => ?_⟩
      · have := hle _ _ el
        have := (LI.ok _ e el).2.1 this
        omega
      rw [enE _ e el] at he4
      obtain ⟨c4, h4⟩ := hh.after (s3.trans s4)
      have st4 := stay_cut hh allL1 (s3.trans s4)
      refine ⟨rk, _, _, rfl, rfl, h4.r0, by rw [sizeLine_eq]; omega, ?_⟩
      exact ⟨_, _, rs ++ [.ref t4], rfl, sB.trans c4, h4.w0, (hR.mono (Stay.of c4)).snoc (fun z => by rw [el] at z; cases z) (fun e' he' => by rw [el] at he'; cases he'; exact ⟨t4, rfl, he4.mono st4⟩)⟩
  rintro σ H2 ⟨t5, B, rs, rfl, sB, hh, hR⟩
  obtain ⟨g1, g2⟩ := hh.give
  have hrsB : (upd B rk (.lst rs)) rk = some (.lst rs) := upd_same
  generalize upd B rk (.lst rs) = B2 at *
  have sB2 := s1.trans (sB.trans g1)
  have hR2 := hR.mono (Stay.of (g1.trans g2.sub))
  have hrs2 := g2.sub _ _ hrsB
  have s2 := sB2.trans g2.sub
  have hsz2 := (sB.trans (g1.trans g2.sub)) _ _ hsz
  clear hR g1 hrsB hh
  simp only [List.set_cons_succ, List.set_cons_zero]
  refine ⟨_, rfl, z, _, _, _, rfl, rfl, hzz s2, atI_nat (j := 0) rfl, _, rfl, by omega, by omega, fun gd hgd => lc_filtR (n := m) (out := fun i => .int (i : Nat)) (keep := fun i => (lkE E (i : Nat)).isSome) (Hs.start H2) hgd (by omega) (fun i hi H3 s3 R1 R2 y1 y2 => ?_) fun H3 h3 => ?_⟩
  · simp only [wipe, List.map_cons, List.map_nil, List.set_cons_succ, List.set_cons_zero]
    obtain ⟨ev0, ev1⟩ := evx i hi
    cases el : lkE E (i : Nat) with
    | none =>
      refine ⟨_, rfl, _, rfl, p, _, _, _, rfl, rfl, Same.sqt (s2.trans s3) hp, atI_nat (ev0 el), rfl, _, rfl, ?_⟩
      rw [decide_eq_true rfl]
      exact iteF (y2 (by rw [el]; rfl))
    | some e =>
      obtain ⟨a, ev, ta⟩ := ev1 e el
      refine ⟨_, rfl, _, rfl, p, _, _, _, rfl, rfl, Same.sqt (s2.trans s3) hp, atI_nat ev, rfl, _, rfl, ?_⟩
      rw [decide_eq_false (fun z => nomatch z)]
      exact iteT ⟨_, rfl, y1 (by rw [el]; rfl)⟩
  have hgL : H3 gd = some (.lst (vI (gnF E m))) := by
    have := h3.r0
    unfold gnF vI
    rw [List.map_map]
    exact this
  have s3 := s2.trans h3.sub
  have hR3 := hR2.mono (Stay.of h3.sub)
  have hrs3 := h3.sub _ _ hrs2
  have hgl := gn_len E m
  clear hR2 hrs2 h3
  simp only [List.set_cons_succ, List.set_cons_zero]
  refine ⟨_, rfl, q, _, rfl, .inr (Same.sqt s3 hK1), _, rfl, by omega, by rw [List.length_map]; omega, for_rng (n := (pk.map V.ref).length) (fun i σ H' => ∃ t5 t7 t8 t9 t10 t11 t12 : Option V, σ = [some (.ref q), some (.ref z), some (.ref p), some (.ref sz), some (.ref rk), t5, some (.ref gd), t7, t8, t9, t10, t11, t12, none] ∧ Same H3 H')
    ⟨_, _, _, _, _, _, _, rfl, Same.refl _⟩ ?_ ?_⟩
  · rintro i σ H4 hi ⟨t5, t7, t8, t9, t10, t11, t12, rfl, s4⟩
    rw [List.length_map, hpk] at hi
    obtain ⟨r, er⟩ : ∃ r, rows[i]? = some r := ⟨_, List.getElem?_eq_getElem hi⟩
    obtain ⟨yk, eyk, tyk⟩ := paired_at hK2 er
    have hrm := List.mem_of_getElem? er
    have hbr := ok.br r hrm
    obtain ⟨k1, k2⟩ := row_isK ok.nd er
    have kq : ∀ {H' : Hp}, Same H3 H' → SqT K H' q (pk.map V.ref) ∧ SqT K H' yk [.str r.1, .int (r.2 : Nat)] := fun s => ⟨Same.sqt (s3.trans s) hK1, Same.sqt (s3.trans s) tyk⟩
    have eyk' : (pk.map V.ref)[i]? = some (.ref yk) := by rw [List.getElem?_map, eyk]; rfl
    simp only [List.set_cons_succ, List.set_cons_zero]
    refine ⟨_, rfl, gd, _, rfl, .inl (SqL.of (s4 _ _ hgL)), _, rfl, _, rfl, q, _, _, _, rfl, rfl, (kq s4).1, atI_nat eyk', yk, _, 1, _, rfl, rfl, (kq s4).2, atI_nat (j := 1) rfl, (gnF E m).length, r.2, by rw [vI, List.length_map], by omega, by omega, Nat.le_trans (Nat.pow_le_pow_left hgl _) (dok.pw r hrm), fun H5 tq qs htq s5 hL5 hP5 => ?_⟩
    have hql := paired_len hP5
    have s35 := s4.trans s5
    refine ⟨tq, rfl, ⟨_, SqL.of hL5⟩, for_list (K := K) (xs := qs.map V.ref) (fun j σ H' => ∃ t5 t8 t9 t10 t11 t12 : Option V, σ = [some (.ref q), some (.ref z), some (.ref p), some (.ref sz), some (.ref rk), t5, some (.ref gd), some (.int (i : Nat)), t8, t9, t10, t11, t12, none] ∧ Same H5 H')
      ⟨_, _, _, _, _, _, rfl, Same.refl _⟩ (fun _ _ _ _ ⟨_, _, _, _, _, _, _, s⟩ => SqL.of (s _ _ hL5)) ?_ ?_⟩
    · rintro j v σ H6 hv ⟨t5, t8, t9, t10, t11, t12, rfl, s6⟩
      obtain ⟨yl, eyl, rfl⟩ := map_at hv
      have hj : j < (tupZ (gnF E m).length r.2).length := by rw [← hql]; exact (List.getElem?_eq_some_iff.mp eyl).1
      obtain ⟨sp', esp⟩ : ∃ l, (tupZ (gnF E m).length r.2)[j]? = some l := ⟨_, List.getElem?_eq_getElem hj⟩
      obtain ⟨yl', eyl', tyl⟩ := paired_at hP5 esp
      rw [eyl] at eyl'
      cases eyl'
      obtain ⟨sl1, sl2⟩ := tupZ_mem.mp (List.mem_of_getElem? esp)
      have tyl : SqT K H5 yl (vI sp') := tyl
      have s36 := s35.trans s6
      obtain ⟨bl, ebl⟩ : ∃ bl, bl = sp'.map fun x => (gnF E m).getD x.toNat 0 := ⟨_, rfl⟩
      have hbl : bl.length = r.2 := by rw [ebl, List.length_map, sl1]
      have hbm : ∀ x ∈ bl, x ∈ kyE E ∧ 0 ≤ x ∧ x < (m : Nat) := fun x hx => by
        rw [ebl] at hx
        obtain ⟨y, hy, rfl⟩ := List.mem_map.mp hx
        exact gn_mem (getD_mem (sl2 y hy) (Nat.le_refl _)).1
      have hbI : ∀ x ∈ bl, inS (m : Nat) x = true := fun x hx => inS_iff.mpr (hbm x hx).2
      simp only [List.set_cons_succ, List.set_cons_zero]
      refine ⟨_, rfl, yl, rfl, ⟨_, Same.sqt s6 tyl⟩, fun DL hDL => lc_filtT (K := K) (α := Int) (a := yl) (xs := sp') (f := V.int) (out := fun x => .int ((gnF E m).getD x.toNat 0)) (keep := fun _ => true) (Hs.start H6) hDL (Same.sqt s6 tyl) (by omega) (fun x hx H7 s7 R1 R2 y1 _ => ?_) fun H7 h7 => ?_⟩
      · simp only [tYes, if_true, wipe, List.map_cons, List.map_nil, List.set_cons_succ, List.set_cons_zero]
        exact ⟨_, rfl, _, rfl, gd, _, x, _, rfl, rfl, SqL.of ((s36.trans s7) _ _ hgL), (getD_mem (sl2 x hx) (Nat.le_refl _)).2, y1 rfl⟩
      rw [List.filter_eq_self.mpr (fun _ _ => rfl)] at h7
      refine ⟨DL, _, rfl, .inl ⟨SqL.of h7.r0, fun T8 hT8 => ?_⟩⟩
      have s8 : Same H3 (upd H7 T8 (.tup (sp'.map fun x => V.int ((gnF E m).getD x.toNat 0)))) := s36.trans (h7.sub.trans (up_same hT8))
      have s68 : Same H6 (upd H7 T8 (.tup (sp'.map fun x => V.int ((gnF E m).getD x.toNat 0)))) := h7.sub.trans (up_same hT8)
      have s58 : Same H5 (upd H7 T8 (.tup (sp'.map fun x => V.int ((gnF E m).getD x.toNat 0)))) := s6.trans (h7.sub.trans (up_same hT8))
      have t8' : SqT K (upd H7 T8 (.tup (sp'.map fun x => V.int ((gnF E m).getD x.toNat 0)))) T8 (vI bl) := by
        rw [ebl, vI, List.map_map]
        exact SqT.of upd_same
      generalize upd H7 T8 (.tup (sp'.map fun x => V.int ((gnF E m).getD x.toNat 0))) = H8 at *
      simp only [List.set_cons_succ, List.set_cons_zero]
      have getR : ∀ {H' : Hp}, Same H3 H' → ∀ x ∈ kyE E, ∃ a, atI rs x = some (.ref a) ∧ EnAt K H' a (gE E x) := fun s x hx => by
        obtain ⟨x0, x1⟩ := LI.rng x hx
        have ex : ((x.toNat : Nat) : Int) = x := by omega
        obtain ⟨a, e1, e2⟩ := (hR3.2 x.toNat (by omega)).2 (gE E x) (by rw [ex]; exact lk_gE hx)
        refine ⟨a, ?_, e2.same s⟩
        have := atI_nat e1
        rwa [ex] at this
      have okb : ∀ x ∈ bl, EOk (gE E x) := fun x hx => EOk.g LI.ok (hbm x hx).1
      have t8I : ∀ {H' : Hp}, Same H8 H' → SqT K H' T8 (bl.map V.int) := fun s => Same.sqt s t8'
      refine ⟨_, rfl, T8, rfl, ⟨_, t8I (Same.refl _)⟩, fun D9 hD9 => lc_filtT (K := K) (α := Int) (a := T8) (xs := bl) (f := V.int) (out := fun x => .int (gE E x).1) (keep := fun _ => true) (Hs.start H8) hD9 (t8I (Same.refl _)) (by omega) (fun x hx H9 s9 R1 R2 y1 _ => ?_) fun H9 h9 => ?_⟩
      · simp only [tYes, if_true, wipe, List.map_cons, List.map_nil, List.set_cons_succ, List.set_cons_zero]
        obtain ⟨a, e1, c, e2, e3⟩ := getR (s8.trans s9) x (hbm x hx).1
        exact ⟨_, rfl, _, rfl, rk, rs, x, _, rfl, rfl, SqL.of ((s8.trans s9) _ _ hrs3), e1, a, _, 0, _, rfl, rfl, e2, atI_nat (j := 0) rfl, y1 rfl⟩
      rw [List.filter_eq_self.mpr (fun _ _ => rfl)] at h9
      have s39 := s8.trans h9.sub
      refine ⟨D9, bl.map fun x => (gE E x).1, rfl, SqL.of (by rw [List.map_map]; exact h9.r0), _, _, rfl, rfl, ?_⟩
      rw [sumI_sum]
      simp only [List.set_cons_succ, List.set_cons_zero]
      obtain ⟨kn, ekn⟩ : ∃ kn, kn = 1 + sumI (bl.map fun x => (gE E x).1) := ⟨_, rfl⟩
      rw [← ekn]
      have t9 := t8I h9.sub
      have s89 := h9.sub
      clear h9
      refine ⟨_, rfl, (by show 1 ≤ sizeLine; decide), fun T10 hT10 => ?_⟩
      have s10 : Same H9 (upd H9 T10 (.tup [.int (i : Nat)])) := up_same hT10
      have t10' : SqT K (upd H9 T10 (.tup [.int (i : Nat)])) T10 (vI [((i : Nat) : Int)]) := SqT.of upd_same
      generalize upd H9 T10 (.tup [.int (i : Nat)]) = H10 at *
      have s310 := s39.trans s10
      have hl2 : ∀ t, ((bl.take t).flatMap fun x => (gE E x).2).length ≤ 80000 := fun t => by
        have h1 := flat_le (f := fun x => (gE E x).2) (c := 2000) (l := bl.take t) fun x hx => by
          have hx' := List.mem_of_mem_take hx
          have h2 := hle x _ (lk_gE (hbm x hx').1)
          have := (okb x hx').2.1 h2
          omega
        rw [List.length_take] at h1
        omega
      simp only [List.set_cons_succ, List.set_cons_zero]
      refine ⟨_, rfl, T8, rfl, ⟨_, Same.sqt s10 t9⟩, for_tup (K := K) (a := T8) (xs := bl.map V.int) (fun t σ H' => ∃ (t10 : Option V) (c : Addr), σ = [some (.ref q), some (.ref z), some (.ref p), some (.ref sz), some (.ref rk), t5, some (.ref gd), some (.int (i : Nat)), some (.ref yl), some (.ref T8), t10, some (.int kn), some (.ref c), none] ∧ Same H10 H' ∧ SqT K H' c (vI (((i : Nat) : Int) :: (bl.take t).flatMap fun x => (gE E x).2)))
        ⟨_, T10, rfl, Same.refl _, t10'⟩ (fun _ _ _ _ ⟨_, _, _, s, _⟩ => Same.sqt (s10.trans s) t9) ?_ ?_⟩
      · rintro t v σ H11 hv ⟨u10, c, rfl, s11, tc⟩
        obtain ⟨x, ex, rfl⟩ := map_at hv
        have hx := List.mem_of_getElem? ex
        obtain ⟨a, e1, cc, e2, e3⟩ := getR (s310.trans s11) x (hbm x hx).1
        have hkx := hle x _ (lk_gE (hbm x hx).1)
        have hlx := (okb x hx).2.1 hkx
        have h1x := (okb x hx).1
        have hne : vI (gE E x).2 ≠ [] := fun z => by
          have := congrArg List.length z
          rw [vI, List.length_map, List.length_nil] at this
          omega
        simp only [List.set_cons_succ, List.set_cons_zero]
        refine ⟨_, rfl, _, rfl, _, rfl, rk, rs, x, _, rfl, rfl, SqL.of ((s310.trans s11) _ _ hrs3), e1, a, _, 1, _, rfl, rfl, e2, atI_nat (j := 1) rfl, c, cc, _, _, rfl, rfl, tc, e3, ?_, fun z => (by cases z), fun _ z => absurd z hne, fun _ _ pp hpp => ?_⟩
        · have := hl2 t
          simp only [vI, List.length_map, List.length_cons]
          rw [sizeLine_eq]
          omega
        · refine ⟨_, pp, rfl, s11.trans (up_same hpp), ?_⟩
          have : (((i : Nat) : Int) :: (bl.take (t + 1)).flatMap fun x => (gE E x).2) = (((i : Nat) : Int) :: (bl.take t).flatMap fun x => (gE E x).2) ++ (gE E x).2 := by
            rw [List.take_succ, ex, List.flatMap_append]
            simp
          rw [this, show vI ((((i : Nat) : Int) :: (bl.take t).flatMap fun x => (gE E x).2) ++ (gE E x).2) = vI (((i : Nat) : Int) :: (bl.take t).flatMap fun x => (gE E x).2) ++ vI (gE E x).2 from List.map_append ..]
          exact SqT.of upd_same
      rintro σ H11 ⟨u10, c, rfl, s11, tc⟩
      rw [List.length_map, List.take_length] at tc
      have s311 := s310.trans s11
      have sA := s3.trans s311
      obtain ⟨f1, f2⟩ := dok.full r.1 bl k1 (by rw [hbl, k2]) hbI
      obtain ⟨e, he1, he2⟩ := LI.B i r.2 bl (by rw [Sz, List.getElem?_map, er]; rfl) hbl (fun x hx => hall x (hbm x hx).1)
      have est : St rows d i bl = stepZ d r.1 bl := by unfold St; rw [getD_at er]
      rw [est] at he1
      simp only [List.set_cons_succ, List.set_cons_zero]
      refine ⟨_, rfl, z, _, _, .ref dS, rfl, rfl, hzz sA, atI_nat (j := 4) rfl, _, rfl, _, rfl, q, _, _, _, rfl, rfl, (kq s311).1, atI_nat eyk', yk, _, 0, _, rfl, rfl, (kq s311).2, atI_nat (j := 0) rfl, _, rfl, (by show 2 ≤ sizeLine; decide), fun T6 hT6 => ?_⟩
      have s12 : Same H11 (upd H11 T6 (.tup [.str r.1, .ref T8])) := up_same hT6
      refine ⟨dS, T6, ob, _, zkey (r.1, bl), .int (stepZ d r.1 bl), rfl, rfl, (sA.trans s12) _ _ hdS, hN.mono (Stay.of (sA.trans s12)), NK.ofZ (SqT.of upd_same) (Same.sqt (s10.trans (s11.trans s12)) t9), by rw [valV_tabZ, f1]; rfl, ?_⟩
      have s312 := s311.trans s12
      have tc := Same.sqt s12 tc
      generalize upd H11 T6 (.tup [.str r.1, .ref T8]) = H12 at *
      have hkE := lk_some.mpr ⟨e, he1⟩
      obtain ⟨a, ea1, ea2⟩ := getR s312 _ hkE
      rw [gE_of he1] at ea2
      simp only [List.set_cons_succ, List.set_cons_zero]
      refine ⟨_, rfl, _, rfl, rk, rs, _, _, rfl, rfl, SqL.of (s312 _ _ hrs3), ea1, rfl, _, rfl, ?_⟩
      rw [decide_eq_false (fun z => nomatch z)]
      refine ⟨_, rfl, _, rfl, (by show 2 ≤ sizeLine; decide), fun T13 hT13 => ?_⟩
      have s13 : Same H12 (upd H12 T13 (.tup [.int kn, .ref c])) := up_same hT13
      have e13 : EnAt K (upd H12 T13 (.tup [.int kn, .ref c])) T13 (kn, ((i : Nat) : Int) :: bl.flatMap fun x => (gE E x).2) := ⟨c, SqT.of upd_same, Same.sqt s13 tc⟩
      have lt : eLt (kn, ((i : Nat) : Int) :: bl.flatMap fun x => (gE E x).2) e = false := by
        by_cases ck : kn ≤ 2000
        · have : val (gE E) (i : Nat) bl = (kn, ((i : Nat) : Int) :: bl.flatMap fun x => (gE E x).2) := by
            unfold val
            rw [← ekn, if_pos ck]
          rw [← this]
          exact he2
        · refine nLt_of ?_
          have := hle _ _ he1
          show e.1 < kn
          omega
      refine ⟨_, rfl, _, rfl, rk, rs, _, _, rfl, rfl, SqL.of ((s312.trans s13) _ _ hrs3), ea1, EntD (kn, ((i : Nat) : Int) :: bl.flatMap fun x => (gE E x).2), EntD e, e13.im.dp, (ea2.same s13).im.dp, alike_ent _ _, (fun z => by cases z), ent_depth _, _, rfl, ?_⟩
      rw [eLt_data, lt]
      refine iteF ?_
      exact ⟨_, _, _, _, _, _, rfl, (s6.trans (s68.trans ((s89.trans s10).trans s11))).trans (s12.trans s13)⟩
    · rintro σ H6 ⟨t5, t8, t9, t10, t11, t12, rfl, s6⟩
      exact ⟨_, _, _, _, _, _, _, rfl, s35.trans s6⟩
  · rintro σ H4 ⟨t5, t7, t8, t9, t10, t11, t12, rfl, s4⟩
    exact hq H4 (s3.trans s4)
end
end Sy
/-! the doubler: plain mathematics -/
namespace Sy
open PySem PySem.Spec PyProof.Rows L2
def sdF (m t dep : Nat) : Int := ((dep + t) % m : Nat)
theorem sd_rng {m t dep : Nat} (h : 0 < m) : 0 ≤ sdF m t dep ∧ sdF m t dep < (m : Nat) := by
  have := Nat.mod_lt (dep + t) h
  unfold sdF
  omega
theorem mod_two {m a : Nat} (h : a < m + m) : a % m = if a < m then a else a - m := by
  by_cases c : a < m
  · rw [if_pos c, Nat.mod_eq_of_lt c]
  · rw [if_neg c, Nat.mod_eq_sub_mod (by omega), Nat.mod_eq_of_lt (by omega)]
theorem sd_inj {m t a b : Nat} (ht : t < m) (ha : a < m) (hb : b < m) (e : sdF m t a = sdF m t b) : a = b := by
  unfold sdF at e
  have e : (a + t) % m = (b + t) % m := by omega
  rw [mod_two (by omega), mod_two (by omega)] at e
  split at e <;> split at e <;> omega
theorem sd_onto {m t : Nat} (ht : t < m) {s : Int} (h0 : 0 ≤ s) (h1 : s < (m : Nat)) : ∃ a, a < m ∧ sdF m t a = s := by
  by_cases c : t ≤ s.toNat
  · refine ⟨s.toNat - t, by omega, ?_⟩
    unfold sdF
    rw [show s.toNat - t + t = s.toNat by omega, Nat.mod_eq_of_lt (by omega)]
    omega
  · refine ⟨s.toNat + m - t, by omega, ?_⟩
    unfold sdF
    rw [show s.toNat + m - t + t = s.toNat + m by omega, Nat.add_mod_right, Nat.mod_eq_of_lt (by omega)]
    omega
theorem sd_zero {m t : Nat} (ht : t < m) : sdF m t 0 = (t : Nat) := by
  unfold sdF
  rw [Nat.zero_add, Nat.mod_eq_of_lt ht]
/-- the row that leads on from the depth dep -/
def dbRow (x : Str) (c m t dep : Nat) : ZRow := (x, List.replicate c (sdF m t dep), sdF m t (dep + 1))
def dbRs (x : Str) (c m t n : Nat) : List ZRow := (List.range n).map (dbRow x c m t)
theorem dbRs_succ (x : Str) (c m t n : Nat) : dbRs x c m t (n + 1) = dbRs x c m t n ++ [dbRow x c m t n] := by
  unfold dbRs
  rw [List.range_succ, List.map_append]
  rfl
theorem rep_inj {c : Nat} {a b : Int} (hc : 0 < c) (h : List.replicate c a = List.replicate c b) : a = b := by
  cases c with
  | zero => omega
  | succ c =>
    rw [List.replicate_succ, List.replicate_succ] at h
    injection h
theorem lkZ_app (a b : List ZRow) (k : ZKey) : lkZ (a ++ b) k = (lkZ a k).or (lkZ b k) := by
  unfold lkZ
  rw [List.find?_append]
  cases h : a.find? fun r => decide (zky r = k) <;> rfl
theorem lkZ_one (r : ZRow) (k : ZKey) : lkZ [r] k = if zky r = k then some r.2.2 else none := by
  unfold lkZ
  by_cases h : zky r = k
  · rw [if_pos h, List.find?_cons, decide_eq_true h]; rfl
  · rw [if_neg h, List.find?_cons, decide_eq_false h]; rfl
theorem lkZ_none' {l : List ZRow} {k : ZKey} (h : ∀ r ∈ l, zky r ≠ k) : lkZ l k = none := by
  unfold lkZ
  rw [List.find?_eq_none.mpr fun r hr e => h r hr (of_decide_eq_true e)]
  rfl
theorem dbRs_none {x : Str} {c m t n : Nat} {k : ZKey} (h : ∀ dep, dep < n → (x, List.replicate c (sdF m t dep)) ≠ k) : lkZ (dbRs x c m t n) k = none := by
  refine lkZ_none' fun r hr e => ?_
  obtain ⟨dep, hd, rfl⟩ := List.mem_map.mp hr
  exact h dep (List.mem_range.mp hd) e
theorem dbRs_at {x : Str} {c m t n dep : Nat} (hc : 0 < c) (ht : t < m) (hn : n ≤ m) (hd : dep < n) : lkZ (dbRs x c m t n) (x, List.replicate c (sdF m t dep)) = some (sdF m t (dep + 1)) := by
  induction n with
  | zero => omega
  | succ n ih =>
    rw [dbRs_succ, lkZ_app, lkZ_one]
    by_cases e : dep = n
    · subst e
      rw [dbRs_none fun k hk e => ?_, if_pos (show zky (dbRow x c m t dep) = (x, List.replicate c (sdF m t dep)) from rfl)]
      · rfl
      · have := rep_inj hc (Prod.mk.inj e).2
        have := sd_inj ht (by omega) (by omega) this
        omega
    · rw [ih (by omega) (by omega)]
      rfl
/-- a dict's put -/
def putZ (full : List ZRow) (r : ZRow) : List ZRow := if (full.any fun q => decide (zky q = zky r)) = true then full.map (fun q => if zky q = zky r then (q.1, q.2.1, r.2.2) else q) else full ++ [r]
theorem tab_put (full : List ZRow) (r : ZRow) : putK (tabZ full) (zkey (zky r)) (.int r.2.2) = tabZ (putZ full r) := by
  have e1 : ((tabZ full).any fun kv => decide (kv.1 = zkey (zky r))) = full.any fun q => decide (zky q = zky r) := by
    unfold tabZ
    rw [List.any_map]
    congr 1
    funext q
    show decide (zkey (zky q) = zkey (zky r)) = _
    by_cases h : zky q = zky r
    · rw [decide_eq_true h, decide_eq_true (zkey_iff.mpr h)]
    · rw [decide_eq_false h, decide_eq_false fun z => h (zkey_iff.mp z)]
  unfold putK putZ
  rw [e1]
  by_cases c : (full.any fun q => decide (zky q = zky r)) = true
  · rw [if_pos c, if_pos c]
    unfold tabZ
    rw [List.map_map, List.map_map]
    refine List.map_congr_left fun q _ => ?_
    show (if zkey (zky q) = zkey (zky r) then (zkey (zky q), V.int r.2.2) else (zkey (zky q), V.int q.2.2)) = (fun q : ZRow => (zkey (zky q), V.int q.2.2)) (if zky q = zky r then (q.1, q.2.1, r.2.2) else q)
    by_cases h : zky q = zky r
    · rw [if_pos h, if_pos (zkey_iff.mpr h)]
      rfl
    · rw [if_neg h, if_neg fun z => h (zkey_iff.mp z)]
  · rw [if_neg c, if_neg c]
    unfold tabZ
    rw [List.map_append]
    rfl
theorem lk_putZ (full : List ZRow) (r : ZRow) (k : ZKey) : lkZ (putZ full r) k = if k = zky r then some r.2.2 else lkZ full k := by
  have h := valV_put (tabZ full) (zkey (zky r)) (zkey k) (.int r.2.2)
  rw [tab_put, valV_tabZ, valV_tabZ] at h
  by_cases c : k = zky r
  · rw [if_pos c]
    rw [if_pos (by rw [c])] at h
    cases e : lkZ (putZ full r) k with
    | none => rw [e] at h; cases h
    | some v =>
      rw [e] at h
      injection h with h
      injection h with h
      rw [h]
  · rw [if_neg c]
    rw [if_neg fun z => c (zkey_iff.mp z)] at h
    cases e : lkZ (putZ full r) k with
    | none =>
      rw [e] at h
      cases e2 : lkZ full k with
      | none => rfl
      | some v => rw [e2] at h; cases h
    | some v =>
      rw [e] at h
      cases e2 : lkZ full k with
      | none => rw [e2] at h; cases h
      | some v2 =>
        rw [e2] at h
        injection h with h
        injection h with h
        rw [h]
theorem putZ_len (full : List ZRow) (r : ZRow) : (putZ full r).length ≤ full.length + 1 := by
  unfold putZ
  split
  · rw [List.length_map]; omega
  · rw [List.length_append]; exact Nat.le_refl _
theorem mrk_range (m : Nat) : ∀ k, k ≤ m → mrkF (m : Nat) (-1) ((List.range k).map fun i : Nat => (i : Int)) = true
  | 0, _ => rfl
  | k + 1, h => by
    rw [List.range_succ, List.map_append]
    refine mrkF_snoc (mrk_range m k (by omega)) (by show (-1 : Int) < (k : Nat); omega) (fun y hy => ?_) (by show ((k : Nat) : Int) < (m : Nat); omega)
    obtain ⟨i, hi, rfl⟩ := List.mem_map.mp hy
    have := List.mem_range.mp hi
    show ((i : Nat) : Int) < (k : Nat)
    omega
theorem mrk_one {m : Nat} {x : Int} (h0 : 0 ≤ x) (h1 : x < (m : Nat)) : mrkF (m : Nat) (-1) [x] = true := by
  rw [mrkF, if_pos ⟨by omega, h1⟩]
  rfl
theorem drOk_of {m : Nat} {rest : Int} {rows : List Sy.Row} {full rws : List ZRow} {marks : List Int} (kd : ∀ r ∈ rws, isK rows r.1 = true ∧ r.2.1.length = ar rows r.1 ∧ (∀ n ∈ r.2.1, inS (m : Nat) n = true) ∧ inS (m : Nat) r.2.2 = true) (ndr : (rws.map zky).Nodup)
    (hF : FullZ rows m ⟨(m : Nat), rws, marks, rest⟩ full) (hm1 : 1 ≤ m) (hm2 : m ≤ 40) (hpw : ∀ r ∈ rows, m ^ r.2 ≤ 2000) (hmk : mrkF (m : Nat) (-1) marks = true) (hr : inS (m : Nat) rest = true) (hl : rws.length ≤ 20000) : DrOk rows m ⟨(m : Nat), rws, marks, rest⟩ full := by
  refine ⟨rfl, hm1, hm2, ?_, hF, hpw, hl, kd⟩
  unfold rdDue
  rw [if_neg (by show ¬ (40 : Int) < (m : Nat); omega), if_neg (by show ¬ ((m : Nat) : Int) < 1; omega)]
  have e : entF rows (m : Nat) [] 0 rws = none := entF_ok (fun r hr => by
    obtain ⟨a, b, c, e⟩ := kd r hr
    unfold zOk
    rw [a, decide_eq_true b, List.all_eq_true.mpr fun n hn => (List.mem_append.mp hn).elim (c n) fun q => by rw [List.mem_singleton.mp q]; exact e]
    rfl) ndr
  show (match entF rows (m : Nat) [] 0 rws with
    | some i => some (Er.reader (i : Nat))
    | none => if mrkF (m : Nat) (-1) marks = true then (if inS (m : Nat) rest = true then none else some (.reader (-3))) else some (.reader (-2))) = none
  rw [e]
  show (if mrkF (m : Nat) (-1) marks = true then (if inS (m : Nat) rest = true then none else some (Er.reader (-3))) else some (.reader (-2))) = none
  rw [if_pos hmk, if_pos hr]
/-- what is known of a drawn doubler -/
structure Dbl (rows : List Sy.Row) (m : Nat) (d : RdrZ) (ip t : Nat) (r : Sy.Row) : Prop where
  at_ : rows[ip]? = some r
  big : 2 ≤ r.2
  tl : t < m
  rest : d.rest = (t : Nat)
  rws : d.rws = dbRs r.1 r.2 m t (m - 1)
theorem dbRs_nd {x : Str} {c m t : Nat} (hc : 0 < c) (ht : t < m) : ∀ n, n ≤ m → ((dbRs x c m t n).map zky).Nodup
  | 0, _ => List.nodup_nil
  | n + 1, h => by
    rw [dbRs_succ, List.map_append]
    refine List.nodup_append.mpr ⟨dbRs_nd hc ht n (by omega), by simp, fun a ha b hb e => ?_⟩
    obtain ⟨r, hr, rfl⟩ := List.mem_map.mp ha
    obtain ⟨dep, hd, rfl⟩ := List.mem_map.mp hr
    have hd := List.mem_range.mp hd
    have hb : b = zky (dbRow x c m t n) := by simpa using hb
    rw [hb] at e
    have := rep_inj hc (Prod.mk.inj e).2
    have := sd_inj ht (by omega) (by omega) this
    omega
/-! the doubler's entries -/
def kn (c : Nat) : Nat → Int
  | 0 => 1
  | n + 1 => 1 + c * kn c n
def rkL (i0 ip c : Nat) : Nat → List Int
  | 0 => [((i0 : Nat) : Int)]
  | n + 1 => ((ip : Nat) : Int) :: (List.replicate c (rkL i0 ip c n)).flatten
def plL (y x : Str) (c : Nat) : Nat → List Str
  | 0 => [y]
  | n + 1 => x :: (List.replicate c (plL y x c n)).flatten
theorem plL_len (y x : Str) (c : Nat) : ∀ n, ((plL y x c n).length : Int) = kn c n
  | 0 => rfl
  | n + 1 => by
    have h : ((List.replicate c (plL y x c n)).flatten).length = c * (plL y x c n).length := by
      rw [List.length_flatten, List.map_replicate, List.sum_replicate_nat]
    show (((x :: (List.replicate c (plL y x c n)).flatten).length : Nat) : Int) = 1 + c * kn c n
    rw [List.length_cons, h, ← plL_len y x c n]
    push_cast
    omega
theorem sum_rep (c : Nat) (x : Int) : sumI (List.replicate c x) = c * x := by
  induction c with
  | zero => simp [sumI]
  | succ c ih =>
    rw [List.replicate_succ]
    show x + sumI (List.replicate c x) = _
    rw [ih]
    push_cast
    rw [Int.add_mul]
    omega
theorem flat_rep (c : Nat) (s : Int) (g : Int → List Int) : (List.replicate c s).flatMap g = (List.replicate c (g s)).flatten := by
  induction c with
  | zero => rfl
  | succ c ih => rw [List.replicate_succ, List.replicate_succ, List.flatMap_cons, List.flatten_cons, ih]
theorem spell_app (rows : List Sy.Row) (a b : List Int) : spell rows (a ++ b) = spell rows a ++ spell rows b := List.map_append ..
theorem spell_rk {rows : List Sy.Row} {i0 ip c : Nat} {r0 r : Sy.Row} (e0 : rows[i0]? = some r0) (e1 : rows[ip]? = some r) : ∀ n, spell rows (rkL i0 ip c n) = plL r0.1 r.1 c n
  | 0 => by
    show [(rows.getD ((i0 : Nat) : Int).toNat ("", 0)).1] = [r0.1]
    rw [Int.toNat_natCast, getD_at e0]
  | n + 1 => by
    have h : ∀ k, spell rows (List.replicate k (rkL i0 ip c n)).flatten = (List.replicate k (plL r0.1 r.1 c n)).flatten := by
      intro k
      induction k with
      | zero => rfl
      | succ k ih => rw [List.replicate_succ, List.replicate_succ, List.flatten_cons, List.flatten_cons, spell_app, ih, spell_rk e0 e1 n]
    show spell rows (((ip : Nat) : Int) :: _) = _
    rw [spell_cons, Int.toNat_natCast, getD_at e1, h]
    rfl
theorem kn_pos (c : Nat) : ∀ n, 1 ≤ kn c n
  | 0 => Int.le_refl _
  | n + 1 => by
    have h := kn_pos c n
    have : 0 ≤ (c : Int) * kn c n := Int.mul_nonneg (by omega) (by omega)
    show 1 ≤ 1 + (c : Int) * kn c n
    omega
section
variable {rows : List Sy.Row} {m top : Nat} {d : RdrZ} {ip t : Nat} {r : Sy.Row} {E : EMap} {S : List Int}
theorem Dbl.step (D : Dbl rows m d ip t r) {dep : Nat} (h : dep + 1 < m) : St rows d ip (List.replicate r.2 (sdF m t dep)) = sdF m t (dep + 1) := by
  unfold St stepZ
  rw [getD_at D.at_, D.rws, dbRs_at (by have := D.big; omega) D.tl (by omega) (by omega)]
  rfl
theorem Dbl.other (D : Dbl rows m d ip t r) (nd : (rows.map (·.1)).Nodup) {i : Nat} {b : List Int} (hi : i < rows.length) (h : St rows d i b ≠ (t : Nat)) : ∃ dep, dep + 1 < m ∧ i = ip ∧ b = List.replicate r.2 (sdF m t dep) ∧ St rows d i b = sdF m t (dep + 1) := by
  have hb := D.big
  obtain ⟨q, eq⟩ : ∃ q, rows[i]? = some q := ⟨_, List.getElem?_eq_getElem hi⟩
  by_cases c : ∃ dep, dep + 1 < m ∧ q.1 = r.1 ∧ b = List.replicate r.2 (sdF m t dep)
  · obtain ⟨dep, h1, h2, h3⟩ := c
    have : i = ip := by
      have z1 := rk_at (n := 0) nd eq
      have z2 := rk_at (n := 0) nd D.at_
      rw [h2, z2] at z1
      have := Option.some.inj z1
      omega
    subst this
    exact ⟨dep, h1, rfl, h3, by rw [h3]; exact D.step h1⟩
  · refine absurd ?_ h
    unfold St stepZ
    rw [getD_at eq, D.rws, dbRs_none fun dep hd e => c ⟨dep, by omega, (Prod.mk.inj e).1.symm, (Prod.mk.inj e).2.symm⟩, D.rest]
    rfl
/-- the entry of each depth -/
theorem Dbl.entry (D : Dbl rows m d ip t r) (nd : (rows.map (·.1)).Nodup) {i0 : Nat} (h0 : (Sz rows)[i0]? = some 0) (hmin : ∀ i, (Sz rows)[i]? = some 0 → i0 ≤ i) (I : LInv (Sz rows) (St rows d) m top E S) (hall : ∀ s ∈ kyE E, s ∈ S) :
    ∀ dep, dep < m → lkE E (sdF m t dep) = some (kn r.2 dep, if kn r.2 dep ≤ 2000 then rkL i0 ip r.2 dep else [])
  | 0, hm => by
    have st0 : ∀ i b, St rows d i b ≠ (t : Nat) → b ≠ [] := fun i b h e => by
      subst e
      by_cases hi : i < rows.length
      · obtain ⟨dep, _, _, e, _⟩ := D.other nd hi h
        have h1 := congrArg List.length e
        rw [List.length_replicate] at h1
        have h2 := D.big
        have h1 : 0 = r.2 := h1
        omega
      · refine h ?_
        unfold St stepZ
        rw [D.rws, dbRs_none fun dep hd e => ?_, D.rest]
        · rfl
        · have h1 := congrArg List.length (Prod.mk.inj e).2
          rw [List.length_replicate] at h1
          have h2 := D.big
          have h1 : r.2 = 0 := h1
          omega
    have hs : St rows d i0 [] = (t : Nat) := Classical.byContradiction fun z => st0 _ _ z rfl
    obtain ⟨e, he1, he2⟩ := I.B i0 0 [] h0 rfl (fun _ h => nomatch h)
    rw [hs] at he1
    have ev : val (gE E) (i0 : Nat) [] = (1, [((i0 : Nat) : Int)]) := rfl
    rw [ev] at he2
    obtain ⟨i, n, b, h1, h2, h3, h4, h5⟩ := I.A _ e he1
    have okb : ∀ x ∈ b, EOk (gE E x) := fun x hx => EOk.g I.ok (I.sub x (h3 x hx))
    have hb : b = [] := List.eq_nil_iff_forall_not_mem.mpr fun x hx => by
      have z1 := val_gt (g := gE E) (r := (i : Nat)) okb hx
      have z2 := (okb x hx).1
      have z3 := nLt_fst he2
      rw [← h5] at z1
      have z3 : e.1 ≤ 1 := z3
      omega
    subst hb
    have hn : n = 0 := h2.symm
    subst hn
    have ev2 : val (gE E) (i : Nat) [] = (1, [((i : Nat) : Int)]) := rfl
    rw [ev2] at h5
    subst h5
    have hle := hmin i h1
    have hii : i = i0 := by
      rcases nLt_iff.mp he2 with z | ⟨_, z⟩
      · exact absurd z (by show ¬ (1 : Int) < 1; omega)
      · refine Classical.byContradiction fun ne => z ?_
        show [((i0 : Nat) : Int)] < [((i : Nat) : Int)]
        rw [List.cons_lt_cons_iff]
        exact .inl (by omega)
    subst hii
    rw [sd_zero D.tl, he1]
    rfl
  | dep + 1, hm => by
    have ih := Dbl.entry D nd h0 hmin I hall dep (by omega)
    have hb := D.big
    have ks := lk_some.mpr ⟨_, ih⟩
    have hmem : ∀ x ∈ List.replicate r.2 (sdF m t dep), x ∈ S := fun x hx => by
      rw [List.eq_of_mem_replicate hx]
      exact hall _ ks
    have hsz : (Sz rows)[ip]? = some r.2 := by rw [Sz, List.getElem?_map, D.at_]; rfl
    obtain ⟨e, he1, _⟩ := I.B ip r.2 (List.replicate r.2 (sdF m t dep)) hsz (List.length_replicate ..) hmem
    rw [D.step hm] at he1
    obtain ⟨i, n, b, h1, h2, h3, h4, h5⟩ := I.A _ e he1
    have hi : i < rows.length := by
      unfold Sz at h1
      have := (List.getElem?_eq_some_iff.mp h1).1
      rw [List.length_map] at this
      exact this
    have hne : St rows d i b ≠ (t : Nat) := fun z => by
      rw [h4, ← sd_zero D.tl] at z
      have := sd_inj D.tl hm (by omega) z
      omega
    obtain ⟨dep2, g1, rfl, rfl, g4⟩ := D.other nd hi hne
    rw [h4] at g4
    have := sd_inj D.tl hm g1 g4
    have hdd : dep2 = dep := by omega
    subst hdd
    rw [he1, h5]
    have hg := gE_of ih
    have e1 : 1 + sumI ((List.replicate r.2 (sdF m t dep2)).map fun x => (gE E x).1) = kn r.2 (dep2 + 1) := by
      rw [List.map_replicate, sum_rep, hg]
      rfl
    unfold val
    rw [e1]
    by_cases c : kn r.2 (dep2 + 1) ≤ 2000
    · rw [if_pos c, if_pos c, flat_rep, hg]
      have hk : kn r.2 dep2 ≤ 2000 := by
        have hp := kn_pos r.2 dep2
        have hmul : kn r.2 dep2 * 1 ≤ kn r.2 dep2 * (r.2 : Int) := Int.mul_le_mul_of_nonneg_left (by omega) (by omega)
        have c : 1 + (r.2 : Int) * kn r.2 dep2 ≤ 2000 := c
        rw [Int.mul_comm] at c
        omega
      simp only
      rw [if_pos hk]
      rfl
    · rw [if_neg c, if_neg c]
end
end Sy
/-! _law_doubler -/
namespace Sy
open PySem PySem.Spec PyProof.Rows L2
theorem paired_zip {α β : Type} {R : α → β → Prop} : ∀ {xs : List α} {ys : List β}, Paired R xs ys → ∀ x ∈ xs.zip ys, R x.1 x.2
  | _, _, .nil, x, h => nomatch h
  | _, _, .cons a b, x, h => by
    rw [List.zip_cons_cons] at h
    rcases List.mem_cons.mp h with rfl | h
    · exact a
    · exact paired_zip b x h
theorem zip_fst {α β : Type} : ∀ {xs : List α} {ys : List β}, xs.length = ys.length → (xs.zip ys).map (·.1) = xs
  | [], _, _ => by simp
  | x :: xs, [], h => by simp at h
  | x :: xs, y :: ys, h => by
    rw [List.zip_cons_cons, List.map_cons, zip_fst (by simpa using h)]
theorem zip_snd {α β : Type} : ∀ {xs : List α} {ys : List β}, xs.length = ys.length → (xs.zip ys).map (·.2) = ys
  | [], [], _ => rfl
  | [], y :: ys, h => by simp at h
  | x :: xs, [], h => by simp at h
  | x :: xs, y :: ys, h => by
    rw [List.zip_cons_cons, List.map_cons, zip_snd (by simpa using h)]
theorem pow_db {m k : Nat} (hm : m ≤ 12) (hk : k ≤ 3) : m ^ k ≤ 2000 :=
  Nat.le_trans (Nat.pow_le_pow_left hm k) (Nat.le_trans (Nat.pow_le_pow_right (n := 12) (by decide) hk) (by decide))
theorem sd_int (m t dep : Nat) : (((dep : Nat) : Int) + (t : Nat)) % ((m : Nat) : Int) = sdF m t dep := by
  unfold sdF
  rw [← Int.natCast_add, ← Int.natCast_emod]
theorem sd_int1 (m t dep : Nat) : (((dep : Nat) : Int) + (t : Nat) + 1) % ((m : Nat) : Int) = sdF m t (dep + 1) := by
  rw [← sd_int]
  congr 1
  omega
theorem sd_last (m t : Nat) (hm : 1 ≤ m) : (((t : Nat) : Int) + (m : Nat) - 1) % ((m : Nat) : Int) = sdF m t (m - 1) := by
  rw [← sd_int]
  congr 1
  omega
theorem lkZ_mem {l : List ZRow} {k : ZKey} {v : Int} (h : lkZ l k = some v) : ∃ r ∈ l, r.2.2 = v := by
  unfold lkZ at h
  cases e : l.find? fun r => decide (zky r = k) with
  | none => rw [e] at h; cases h
  | some r =>
    rw [e] at h
    exact ⟨r, List.mem_of_find?_eq_some e, Option.some.inj h⟩
theorem rep_flat (c : Nat) (x : Int) : (List.replicate c [V.int x]).flatten = vI (List.replicate c x) := by
  rw [List.flatten_replicate_singleton, vI, List.map_replicate]
section
variable {P : Program} {w : World} {K : PySem.W.Frag} {mg : Str → Option Value} {base : Heap}
/-- the drawn list of a doubler, its pair at yp -/
def DbAt (K : PySem.W.Frag) (H : Hp) (z : Addr) (m t : Nat) (r : Sy.Row) : Prop := ∃ (tr tm dS yp : Addr), H z = some (.lst [.int (m : Nat), .ref tr, .int (t : Nat), .ref tm, .ref dS, .ref yp]) ∧ SqT K H yp [.str r.1, .int (r.2 : Nat)]
def spDb (P : Program) (w : World) (K : PySem.W.Frag) : Sp := fun vs H Q _ => ∃ (g q : Addr) (rows : List Sy.Row), vs = [.ref g, .ref q] ∧ Bag g H ∧ KtAt K H q rows ∧ RowsL rows ∧ (∃ r ∈ rows, 1 < r.2) ∧
  ∀ z d full m ip t r H', DrOk rows m d full → Dr g H H' → DrAt P w K H' z d full → DbAt K H' z m t r → Dbl rows m d ip t r → m ≤ 12 → H z = none → Q (.ref z) H'
abbrev N_db : List Str := ["_law_box_here", "_law_kinds", "_law_pair", "_law_wide", "_law_many", "_law_turn", "_law_rows", "_law_steps", "_law_name", "_law_size", "_law_below", "_law_depth", "_law_state", "_law_after", "_law_last", "_law_marks_here"]
theorem sc_db : FnScope N_db ["_law_box_here", "_law_kinds"] (defScope (top 49)) := ⟨rfl, rfl, rfl, by decide +kernel, rfl, by decide +kernel, by decide +kernel⟩
theorem k_db (T : Txt K mg) (F : DF K mg "_law_doubler" 49) (c_law_take : Cal P w K mg base 1 "_law_take" ["_law_box_here", "_law_many"] spDraw) (c_law_tuples : Cal P w K mg base 1 "_law_tuples" ["_law_many", "_law_length"] (spBel K)) (c_law_marks : Cal P w K mg base 2 "_law_marks" ["_law_box_here", "_law_states"] (spMk K)) :
    Cal P w K mg base 3 "_law_doubler" ["_law_box_here", "_law_kinds"] (spDb P w K) := by
  refine cal_of F.1 F.2 sc_db (fun _ _ _ _ _ _ us e => match us, e with | [_, _], _ => rfl) (fun vs H Q E s => by obtain ⟨_, _, _, rfl, _⟩ := s; rfl) ?_
  intro cdv A outer sh H vs Q E hr h
  obtain ⟨g, q, rows, rfl, hg, hq0, rl, ⟨rw0, hrw0, hrw1⟩, hq⟩ := h
  have sc := sc_db
  have hu := hu4_of hr
  obtain ⟨pk, hL0, hP0⟩ := hq0.delB hg
  obtain ⟨l0, hl0, h0⟩ := hg.take
  generalize hB0 : L2.del H g = B0 at *
  have ok := rl.ok
  have hle := rl.le
  have hpl := paired_len hP0
  refine ⟨_, (pss_cons (ps_setLc (i := 3) (own := [("_law_pair", 2)]) (g := gName 2) (tt := tTest (tOp (rI0 fun i j => .bl (decide (j < i))) (tOp (rIxT K) (tVar 2) (tC (.int 1))) (tC (.int 1)))) (te := tVar 2) rfl sc.nd rfl rfl (sw_true rfl rfl rfl (by decide +kernel)) (pi_tup (pv 1)) (blkOk_by (N := N_db) (sc := defScope (top 49)) (by decide +kernel)) (fun _ _ _ _ _ => (pg_name (i := 2) sc.nd rfl (Or.inl rfl))) (fun _ _ _ _ _ => (pts_one (pt_cmpR op_gt (pe_ix ix_tup (pv 2) pe_int (fun _ _ => rfl)) pe_int (nomark _)))) (fun _ _ _ _ _ => (pv 2)))
      (pss_cons (ps_set (i := 2) sc.nd rfl (Or.inl rfl) (pe_ix ix_list (pv 3) (pe_cal c_law_take hr (pa_cons (pv 0) (pa_cons (pe_callB call_len_seq (by rfl) T.len (by decide +kernel) (pa_cons (pv 3) pa_nil)) pa_nil))) (fun _ _ => rfl)))
      (pss_cons (ps_set (i := 4) sc.nd rfl (Or.inl rfl) (pe_op op_add (pe_ix ix_list (pe_lst (pa_cons pe_int (pa_cons pe_int (pa_cons pe_int (pa_cons pe_int pa_nil))))) (pe_ix ix_tup (pv 2) pe_int (fun _ _ => rfl)) (fun _ _ => rfl)) (pe_cal c_law_take hr (pa_cons (pv 0) (pa_cons pe_int pa_nil)))))
      (pss_cons (ps_set (i := 5) sc.nd rfl (Or.inl rfl) (pe_cal c_law_take hr (pa_cons (pv 0) (pa_cons (pv 4) pa_nil))))
      (pss_cons (ps_set (i := 6) sc.nd rfl (Or.inl rfl) (pe_lst pa_nil))
      (pss_cons (ps_set (i := 7) sc.nd rfl (Or.inl rfl) pe_nnew)
      (pss_cons (ps_for (passes_of rfl) rfl (pi_tup (pv 1)) (pg_tup rfl (pgs_cons (pg_name (i := 8) sc.nd rfl (Or.inl rfl)) (pgs_cons (pg_name (i := 9) sc.nd rfl (Or.inl rfl)) pgs_nil)))
        (pss_one (ps_for (passes_of rfl) rfl (pi_list (pe_cal c_law_tuples hr (pa_cons (pv 4) (pa_cons (pv 9) pa_nil)))) (pg_name (i := 10) sc.nd rfl (Or.inl rfl))
          (pss_one (ps_nput hu (pv 7) (pe_tup (pa_cons (pv 8) (pa_cons (pv 10) pa_nil))) (pv 5) rfl)))))
      (pss_cons (ps_for (passes_of rfl) rfl (pi_range1 rfl T.range (pa_cons (pe_op op_sub (pv 4) pe_int) pa_nil)) (pg_name (i := 11) sc.nd rfl (Or.inl rfl))
        (pss_cons (ps_set (i := 12) sc.nd rfl (Or.inl rfl) (pe_op op_mod (pe_callTy call_int1 (by rfl) T.int (by decide +kernel) (pa_cons (pe_op op_add (pv 11) (pv 5)) pa_nil)) (pv 4)))
        (pss_cons (ps_set (i := 13) sc.nd rfl (Or.inl rfl) (pe_op op_mod (pe_callTy call_int1 (by rfl) T.int (by decide +kernel) (pa_cons (pe_op op_add (pe_op op_add (pv 11) (pv 5)) pe_int) pa_nil)) (pv 4)))
        (pss_cons (ps_expr (pe_bm PySem.F.plainAttrs_list PySem.F.slot_list_append PySem.F.type_list_append mt_append (pv 6) (pa_cons (pe_tup (pa_cons (pe_ix ix_tup (pv 2) pe_int (fun _ _ => rfl)) (pa_cons (pe_op op_repG (pe_tup (pa_cons (pv 12) pa_nil)) (pe_ix ix_tup (pv 2) pe_int (fun _ _ => rfl))) (pa_cons (pv 13) pa_nil)))) pa_nil)))
        (pss_one (ps_nput hu (pv 7) (pe_tup (pa_cons (pe_ix ix_tup (pv 2) pe_int (fun _ _ => rfl)) (pa_cons (pe_op op_repG (pe_tup (pa_cons (pv 12) pa_nil)) (pe_ix ix_tup (pv 2) pe_int (fun _ _ => rfl))) pa_nil))) (pv 13) rfl))))))
      (pss_cons (ps_set (i := 14) sc.nd rfl (Or.inl rfl) (pe_op op_mod (pe_callTy call_int1 (by rfl) T.int (by decide +kernel) (pa_cons (pe_op op_sub (pe_op op_add (pv 5) (pv 4)) pe_int) pa_nil)) (pv 4)))
      (pss_cons (ps_set (i := 15) sc.nd rfl (Or.inl rfl) (pe_ix ix_list (pe_lst (pa_cons (pe_tup (pa_cons (pv 14) pa_nil)) (pa_cons (pe_tup pa_nil) (pa_cons (pe_tupRg rfl (by rfl) T.tuple (prg_1 (by rfl) T.range (pv 4))) (pa_cons (pe_tup (pa_cons (pv 5) pa_nil)) (pa_cons (pe_tup (pa_cons (pv 14) pa_nil)) (pa_cons (pe_cal c_law_marks hr (pa_cons (pv 0) (pa_cons (pv 4) pa_nil))) pa_nil))))))) (pe_cal c_law_take hr (pa_cons (pv 0) (pa_cons pe_int pa_nil))) (fun _ _ => rfl)))
      (pss_one (ps_ret (pe_lst (pa_cons (pv 4) (pa_cons (pe_callTy call_tuple_of (by rfl) T.tuple (by decide +kernel) (pa_cons (pv 6) pa_nil)) (pa_cons (pv 5) (pa_cons (pv 15) (pa_cons (pv 7) (pa_cons (pv 2) pa_nil))))))))))))))))))), ?_⟩
  -- the wide kinds
  have hzf : (pk.zip rows).map (fun p => V.ref p.1) = pk.map V.ref := by
    conv => rhs; rw [← zip_fst hpl]
    rw [List.map_map]
    rfl
  have hLz : SqT K B0 q ((pk.zip rows).map fun p => V.ref p.1) := by rw [hzf]; exact hL0
  have hzp := paired_zip hP0
  have hzl : (pk.zip rows).length ≤ 4 := by rw [List.length_zip]; omega
  refine ⟨_, rfl, q, rfl, ⟨_, Same.sqt h0.sub hLz⟩, fun D0 hD0 => lc_filtT (K := K) (α := Addr × Sy.Row) (a := q) (xs := pk.zip rows) (f := fun p => V.ref p.1) (out := fun p => V.ref p.1) (keep := fun p => decide (1 < p.2.2)) h0 hD0 hLz (by omega) (fun x hx H1 s1 R1 R2 y1 y2 => ?_) fun H1 h1 => ?_⟩
  · simp only [wipe, List.map_cons, List.map_nil, List.set_cons_succ, List.set_cons_zero]
    refine ⟨_, rfl, x.1, _, 1, _, rfl, rfl, Same.sqt s1 (hzp x hx), atI_nat (j := 1) rfl, _, _, rfl, rfl, _, rfl, if_dec (fun c => ⟨_, rfl, y1 (decide_eq_true (by omega))⟩) (fun c => y2 (decide_eq_false (by omega)))⟩
  obtain ⟨g1, h1⟩ := h1.give
  have eD0 : upd B0 D0 (.lst (((pk.zip rows).filter fun p => decide (1 < p.2.2)).map fun p => V.ref p.1)) D0 = some (.lst (((pk.zip rows).filter fun p => decide (1 < p.2.2)).map fun p => V.ref p.1)) := upd_same
  generalize upd B0 D0 (.lst (((pk.zip rows).filter fun p => decide (1 < p.2.2)).map fun p => V.ref p.1)) = B1 at *
  obtain ⟨W, eW⟩ : ∃ W, W = (pk.zip rows).filter fun p => decide (1 < p.2.2) := ⟨_, rfl⟩
  rw [← eW] at eD0
  have hWl : W.length ≤ 4 := by
    rw [eW]
    have := List.length_filter_le (fun p : Addr × Sy.Row => decide (1 < p.2.2)) (pk.zip rows)
    omega
  have hW1 : 1 ≤ W.length := by
    have : rw0 ∈ (pk.zip rows).map (·.2) := by rw [zip_snd hpl]; exact hrw0
    obtain ⟨x, hx, ex⟩ := List.mem_map.mp this
    refine List.length_pos_of_mem (a := x) ?_
    rw [eW, List.mem_filter, ex]
    exact ⟨hx, decide_eq_true hrw1⟩
  simp only [List.set_cons_succ, List.set_cons_zero]
  refine ⟨_, rfl, _, rfl, _, rfl, D0, _, rfl, .inl (SqL.of (h1.sub _ _ eD0)), g, W.length, by rw [List.length_map], h1.bag hl0, hW1, by omega, fun jw H2 hjw d2 => ?_⟩
  obtain ⟨l2, B2, hl2, s2, h2, _⟩ := h1.dr0 d2
  obtain ⟨yr, eyr⟩ : ∃ yr, W[jw]? = some yr := ⟨_, List.getElem?_eq_getElem hjw⟩
  have hyr := List.mem_of_getElem? eyr
  rw [eW, List.mem_filter] at hyr
  obtain ⟨yp, r⟩ := yr
  have hbig : 2 ≤ r.2 := of_decide_eq_true hyr.2
  have hyp0 := hzp _ hyr.1
  have hrm : r ∈ rows := by
    have : r ∈ (pk.zip rows).map (·.2) := List.mem_map.mpr ⟨(yp, r), hyr.1, rfl⟩
    rw [zip_snd hpl] at this
    exact this
  obtain ⟨ip, eip⟩ := List.mem_iff_getElem?.mp hrm
  have hr3 := ok.br r hrm
  obtain ⟨kr1, kr2⟩ := row_isK ok.nd eip
  have s02 := g1.trans s2
  refine ⟨D0, _, _, _, rfl, rfl, SqL.of ((s2.trans h2.sub) _ _ eD0), atI_nat (by rw [List.getElem?_map, eyr]; rfl), ?_⟩
  have hyp : ∀ {H' : Hp}, Same B0 H' → SqT K H' yp [.str r.1, .int (r.2 : Nat)] := fun s => Same.sqt s hyp0
  simp only [List.set_cons_succ, List.set_cons_zero]
  obtain ⟨nb, enb, hnb⟩ : ∃ nb : Nat, ([.int 0, .int 0, .int 9, .int 6] : List V)[r.2]? = some (.int (nb : Nat)) ∧ 6 ≤ nb ∧ nb ≤ 9 := by
    rcases (show r.2 = 2 ∨ r.2 = 3 by omega) with z | z
    · rw [z]; exact ⟨9, rfl, by decide, by decide⟩
    · rw [z]; exact ⟨6, rfl, by decide, by decide⟩
  refine ⟨(by show 4 ≤ sizeLine; decide), fun D3 hD3 => ?_⟩
  have h3 := h2.lay (o := .lst [.int 0, .int 0, .int 9, .int 6]) hD3
  refine ⟨_, rfl, yp, _, 1, _, rfl, rfl, hyp (s02.trans h3.sub), atI_nat (j := 1) rfl, D3, _, _, _, rfl, rfl, SqL.of upd_same, atI_nat enb, _, rfl, g, 4, rfl, h3.bag hl2, by decide, by decide, fun j4 H4 hj4 d4 => ?_⟩
  obtain ⟨l4, B4, hl4, s4, h4, _⟩ := h3.dr0 d4
  have s04 := s02.trans s4
  obtain ⟨m, em⟩ : ∃ m, m = nb + j4 := ⟨_, rfl⟩
  have hm12 : m ≤ 12 := by omega
  have hm1 : 1 ≤ m := by omega
  refine ⟨_, _, rfl, rfl, ?_⟩
  simp only [List.set_cons_succ, List.set_cons_zero]
  rw [show ((nb : Nat) : Int) + ((j4 : Nat) : Int) = ((m : Nat) : Int) by omega]
  refine ⟨_, rfl, _, rfl, g, m, rfl, h4.bag hl4, hm1, by omega, fun t H5 ht d5 => ?_⟩
  obtain ⟨l5, B5, hl5, s5, h5, _⟩ := h4.dr0 d5
  have s05 := s04.trans s5
  simp only [List.set_cons_succ, List.set_cons_zero]
  refine ⟨by decide, fun dR hdR => ?_⟩
  have h6 := (h5.new (o := .lst []) hdR).swap
  refine fun dT ob0 hdT hN0 => ?_
  have h7 := (h6.new (o := ob0) hdT).swap
  have hpw : ∀ r ∈ rows, m ^ r.2 ≤ 2000 := fun r hr' => pow_db hm12 (ok.br r hr')
  simp only [List.set_cons_succ, List.set_cons_zero]
  refine ⟨_, rfl, q, rfl, ⟨_, Same.sqt (s05.trans h7.sub) hL0⟩, for_tup (K := K) (a := q) (xs := pk.map V.ref)
    (fun i σ H' => ∃ (t8 t9 t10 : Option V) (B : Hp) (ob : HO) (full : List ZRow), σ = [some (.ref g), some (.ref q), some (.ref yp), some (.ref D0), some (.int (m : Nat)), some (.int (t : Nat)), some (.ref dR), some (.ref dT), t8, t9, t10, none, none, none, none, none] ∧ Same B5 B ∧
      Hs B [(g, .lst (l5.map V.int)), (dT, ob), (dR, .lst [])] H' ∧ NOf P w K B dT ob (tabZ full) ∧ full.length ≤ 2000 * i ∧ ∀ k ∈ kysZ m (rows.take i), lkZ full k = some ((t : Nat) : Int))
    ⟨none, none, none, B5, ob0, [], rfl, Same.refl _, h7, hN0.nil, Nat.le_refl _, fun _ h => nomatch h⟩ (fun _ _ _ _ ⟨_, _, _, _, _, _, _, s, z, _⟩ => Same.sqt (s05.trans (s.trans z.sub)) hL0) ?_ ?_⟩
  · rintro i v σ H8 hv ⟨t8, t9, t10, B, ob, full, rfl, sB, hh, hN, hfl, hfk⟩
    obtain ⟨p, ep, rfl⟩ := map_at hv
    have hi : i < rows.length := by rw [← hpl]; exact (List.getElem?_eq_some_iff.mp ep).1
    obtain ⟨r2, er⟩ : ∃ r, rows[i]? = some r := ⟨_, List.getElem?_eq_getElem hi⟩
    obtain ⟨p', ep', tp⟩ := paired_at hP0 er
    rw [ep] at ep'
    cases ep'
    have rm := List.mem_of_getElem? er
    have hk3 := ok.br r2 rm
    refine ⟨p, _, rfl, Same.sqt (s05.trans (sB.trans hh.sub)) tp, rfl, _, _, rfl, _, _, rfl, rfl, ?_⟩
    refine ⟨_, rfl, _, rfl, m, r2.2, rfl, by omega, by omega, hpw r2 rm, fun H9 tq qs htq s9 hL9 hP9 => ?_⟩
    obtain ⟨c1, c2⟩ := hh.after s9
    obtain ⟨φ, eφ⟩ := hN.ext
    have nt : ∀ q ∈ [(g, HO.lst (l5.map V.int)), (dT, ob), (dR, .lst [])], (∀ xs, q.2 ≠ .tup xs) ∧ ∀ o u, q.2 ≠ .frz o u := by
      have := nt3 (a := g) (b := dT) (c := dR) (xs := l5.map V.int) (ys := []) hN.ext
      exact this
    have hP9 : Paired (TpZ K (cut [(g, HO.lst (l5.map V.int)), (dT, ob), (dR, .lst [])] H9)) qs (tupZ m r2.2) := Paired.mapP hP9 fun _ _ y => sqt_cut c2.own nt y
    have hL9' : cut [(g, HO.lst (l5.map V.int)), (dT, ob), (dR, .lst [])] H9 tq = some (.lst (qs.map V.ref)) := by rw [cut_at (hh.out_new htq)]; exact hL9
    generalize cut [(g, HO.lst (l5.map V.int)), (dT, ob), (dR, .lst [])] H9 = B9 at *
    have hqs := paired_len hP9
    have s59 := sB.trans c1
    have hcard : (tupZ m r2.2).length ≤ 2000 := by rw [tupZ_len]; exact hpw r2 rm
    refine ⟨tq, rfl, ⟨_, SqL.of (c2.sub _ _ hL9')⟩, for_list (K := K) (xs := qs.map V.ref)
      (fun j σ H' => ∃ (t10 : Option V) (B : Hp) (ob : HO) (full : List ZRow), σ = [some (.ref g), some (.ref q), some (.ref yp), some (.ref D0), some (.int (m : Nat)), some (.int (t : Nat)), some (.ref dR), some (.ref dT), some (.str r2.1), some (.int (r2.2 : Nat)), t10, none, none, none, none, none] ∧ Same B9 B ∧
        Hs B [(g, .lst (l5.map V.int)), (dT, ob), (dR, .lst [])] H' ∧ NOf P w K B dT ob (tabZ full) ∧ full.length ≤ 2000 * i + j ∧ ∀ k ∈ kysZ m (rows.take i) ++ ((tupZ m r2.2).take j).map (fun l => (r2.1, l)), lkZ full k = some ((t : Nat) : Int))
      ⟨t10, B9, ob, full, rfl, Same.refl _, c2, hN.mono (Stay.of c1), by omega, fun k hk => hfk k (by simpa using hk)⟩ (fun _ _ _ _ ⟨_, _, _, _, _, s, z, _⟩ => SqL.of (z.sub _ _ (s _ _ hL9'))) ?_ ?_⟩
    · clear hh hN hfl hfk c2 nt eφ
      clear ob full φ
      rintro j v σ H10 hv ⟨t10, B, ob, full, rfl, sB', hh, hN, hfl, hfk⟩
      obtain ⟨a, ea, rfl⟩ := map_at hv
      have hj : j < (tupZ m r2.2).length := by rw [← hqs]; exact (List.getElem?_eq_some_iff.mp ea).1
      obtain ⟨l, el⟩ : ∃ l, (tupZ m r2.2)[j]? = some l := ⟨_, List.getElem?_eq_getElem hj⟩
      obtain ⟨a', ea', ta0⟩ := paired_at hP9 el
      rw [ea] at ea'
      cases ea'
      have ta0 : SqT K B9 a (vI l) := ta0
      simp only [List.set_cons_succ, List.set_cons_zero]
      refine ⟨_, rfl, _, rfl, _, rfl, _, rfl, (by show 2 ≤ sizeLine; decide), fun T5 hT5 => ?_⟩
      have h9 := hh.tup (o := .tup [.str r2.1, .ref a]) hT5
      have s9 : Same B (upd B T5 (.tup [.str r2.1, .ref a])) := up_same (hh.sub.free hT5)
      have tT5 : SqT K (upd B T5 (.tup [.str r2.1, .ref a])) T5 [.str r2.1, .ref a] := SqT.of upd_same
      generalize upd B T5 (.tup [.str r2.1, .ref a]) = B10 at *
      refine ⟨dT, T5, ob, _, zkey (r2.1, l), B10, rfl, rfl, h9.r1, Stay.of h9.sub, hN.mono (Stay.of s9), NK.ofZ tT5 (Same.sqt (sB'.trans s9) ta0), by unfold tabZ; rw [List.length_map, sizeLine_eq]; omega, fun ob' hN' => ?_⟩
      have hN' : NOf P w K B10 dT ob' (putK (tabZ full) (zkey (zky (r2.1, l, ((t : Nat) : Int)))) (V.int ((r2.1, l, ((t : Nat) : Int)) : ZRow).2.2)) := hN'
      rw [tab_put] at hN'
      refine ⟨_, B10, ob', _, rfl, sB'.trans s9, h9.w1, hN', by have := putZ_len full (r2.1, l, ((t : Nat) : Int)); omega, fun k hk => ?_⟩
      rw [lk_putZ]
      by_cases c : k = zky (r2.1, l, ((t : Nat) : Int))
      · rw [if_pos c]
      · rw [if_neg c]
        refine hfk k ?_
        rw [kysJ el] at hk
        exact (List.mem_append.mp hk).resolve_right fun z => c (List.mem_singleton.mp z)
    · clear hh hN hfl hfk c2 nt eφ
      clear ob full φ
      rintro σ H10 ⟨t10, B, ob, full, rfl, sB', hh, hN, hfl, hfk⟩
      rw [List.length_map, hqs, List.take_length, ← kysZ_take er] at hfk
      rw [List.length_map, hqs] at hfl
      exact ⟨_, _, _, B, ob, full, rfl, s59.trans sB', hh, hN, by omega, hfk⟩
  rintro σ H8 ⟨t8, t9, t10, B8, ob, full, rfl, sB8, h8, hN8, hfl8, hfk8⟩
  rw [List.length_map, hpl] at hfl8
  rw [List.length_map, hpl, List.take_length] at hfk8
  have s08 := s05.trans sB8
  have hc0 : 0 < r.2 := by omega
  refine ⟨_, rfl, _, _, rfl, rfl, ((m - 1 : Nat) : Int), ?_, by omega, by omega, for_rng (n := m - 1) (fun dep σ H' => ∃ (t8 t9 t10 t11 t12 t13 : Option V) (B : Hp) (ob : HO) (full : List ZRow) (ps : List Addr), σ = [some (.ref g), some (.ref q), some (.ref yp), some (.ref D0), some (.int (m : Nat)), some (.int (t : Nat)), some (.ref dR), some (.ref dT), t8, t9, t10, t11, t12, t13, none, none] ∧ Same B8 B ∧
      Hs B [(g, .lst (l5.map V.int)), (dT, ob), (dR, .lst (ps.map V.ref))] H' ∧ NOf P w K B dT ob (tabZ full) ∧ full.length ≤ 8000 + dep ∧ Paired (ZrAt K B) ps (dbRs r.1 r.2 m t dep) ∧ ∀ k ∈ kysZ m rows, lkZ full k = some ((lkZ (dbRs r.1 r.2 m t dep) k).getD ((t : Nat) : Int)))
    ⟨_, _, _, _, _, _, B8, ob, full, [], rfl, Same.refl _, h8, hN8, by omega, .nil, hfk8⟩ ?_ ?_⟩
  · show [V.int (((m : Nat) : Int) - 1)] = [V.int ((m - 1 : Nat) : Int)]
    rw [show ((m : Nat) : Int) - 1 = ((m - 1 : Nat) : Int) by omega]
  · clear h8 hN8 hfl8 hfk8
    clear ob full
    rintro dep σ H9 hdep ⟨t8, t9, t10, t11, t12, t13, B, ob, full, ps, rfl, sB, hh, hN, hfl, hPs, hfk⟩
    have hpsl := paired_len hPs
    have hdl : (dbRs r.1 r.2 m t dep).length = dep := by unfold dbRs; rw [List.length_map, List.length_range]
    have sH := s08.trans (sB.trans hh.sub)
    simp only [List.set_cons_succ, List.set_cons_zero]
    refine ⟨_, rfl, _, rfl, _, _, rfl, rfl, .inl ⟨_, rfl, _, rfl, _, _, rfl, rfl, (by show (0 : Int) < (m : Nat); omega), ?_⟩⟩
    simp only [List.set_cons_succ, List.set_cons_zero]
    rw [sd_int]
    refine ⟨_, rfl, _, rfl, _, _, rfl, rfl, _, _, rfl, rfl, .inl ⟨_, rfl, _, rfl, _, _, rfl, rfl, (by show (0 : Int) < (m : Nat); omega), ?_⟩⟩
    simp only [List.set_cons_succ, List.set_cons_zero]
    rw [sd_int1]
    refine ⟨_, rfl, .inl ⟨rfl, _, SqL.of hh.r2⟩, _, rfl, yp, _, 0, _, rfl, rfl, hyp sH, atI_nat (j := 0) rfl, _, rfl, (by show 1 ≤ sizeLine; decide), fun T1 hT1 => ?_⟩
    have h10 := hh.tup (o := .tup [.int (sdF m t dep)]) hT1
    have s10 : Same B (upd B T1 (.tup [.int (sdF m t dep)])) := up_same (hh.sub.free hT1)
    have e10 : SqT K (upd H9 T1 (.tup [.int (sdF m t dep)])) T1 [.int (sdF m t dep)] := SqT.of upd_same
    generalize upd B T1 (.tup [.int (sdF m t dep)]) = B10 at *
    generalize upd H9 T1 (.tup [.int (sdF m t dep)]) = H10 at *
    have sH10 := s08.trans ((sB.trans s10).trans h10.sub)
    refine ⟨_, rfl, yp, _, 1, _, rfl, rfl, hyp sH10, atI_nat (j := 1) rfl, T1, _, _, rfl, rfl, e10, by omega, by omega, by rw [Int.toNat_natCast]; show 1 * r.2 ≤ 1000000; omega, by show 1 ≤ 1000000; decide, fun z => ?_, fun _ T2 hT2 => ?_⟩
    · rcases z with z | z
      · cases z
      · omega
    rw [Int.toNat_natCast, rep_flat]
    have h11 := h10.tup (o := .tup (vI (List.replicate r.2 (sdF m t dep)))) hT2
    have s11 : Same B10 (upd B10 T2 (.tup (vI (List.replicate r.2 (sdF m t dep))))) := up_same (h10.sub.free hT2)
    have t2' : SqT K (upd B10 T2 (.tup (vI (List.replicate r.2 (sdF m t dep))))) T2 (vI (List.replicate r.2 (sdF m t dep))) := SqT.of upd_same
    generalize upd B10 T2 (.tup (vI (List.replicate r.2 (sdF m t dep)))) = B11 at *
    generalize upd H10 T2 (.tup (vI (List.replicate r.2 (sdF m t dep)))) = H11 at *
    refine ⟨_, rfl, (by show 3 ≤ sizeLine; decide), fun T3 hT3 => ?_⟩
    have h12 := h11.tup (o := .tup [.str r.1, .ref T2, .int (sdF m t (dep + 1))]) hT3
    have s12 : Same B11 (upd B11 T3 (.tup [.str r.1, .ref T2, .int (sdF m t (dep + 1))])) := up_same (h11.sub.free hT3)
    have t3' : SqT K (upd B11 T3 (.tup [.str r.1, .ref T2, .int (sdF m t (dep + 1))])) T3 [.str r.1, .ref T2, .int (sdF m t (dep + 1))] := SqT.of upd_same
    generalize upd B11 T3 (.tup [.str r.1, .ref T2, .int (sdF m t (dep + 1))]) = B12 at *
    generalize upd H11 T3 (.tup [.str r.1, .ref T2, .int (sdF m t (dep + 1))]) = H12 at *
    refine ⟨dR, _, _, rfl, rfl, h12.r2, by rw [List.length_map, sizeLine_eq]; omega, ?_⟩
    have h13 := h12.w2 (o' := .lst (ps.map V.ref ++ [.ref T3]))
    have s013 := (s10.trans s11).trans s12
    generalize upd H12 dR (.lst (ps.map V.ref ++ [.ref T3])) = H13 at *
    have sH13 := s08.trans ((sB.trans s013).trans h13.sub)
    refine ⟨_, rfl, _, rfl, _, rfl, yp, _, 0, _, rfl, rfl, hyp sH13, atI_nat (j := 0) rfl, _, rfl, (by show 1 ≤ sizeLine; decide), fun T4 hT4 => ?_⟩
    have h14 := h13.tup (o := .tup [.int (sdF m t dep)]) hT4
    have s14 : Same B12 (upd B12 T4 (.tup [.int (sdF m t dep)])) := up_same (h13.sub.free hT4)
    have e14 : SqT K (upd H13 T4 (.tup [.int (sdF m t dep)])) T4 [.int (sdF m t dep)] := SqT.of upd_same
    generalize upd B12 T4 (.tup [.int (sdF m t dep)]) = B14 at *
    generalize upd H13 T4 (.tup [.int (sdF m t dep)]) = H14 at *
    have sH14 := s08.trans ((sB.trans (s013.trans s14)).trans h14.sub)
    refine ⟨_, rfl, yp, _, 1, _, rfl, rfl, hyp sH14, atI_nat (j := 1) rfl, T4, _, _, rfl, rfl, e14, by omega, by omega, by rw [Int.toNat_natCast]; show 1 * r.2 ≤ 1000000; omega, by show 1 ≤ 1000000; decide, fun z => ?_, fun _ T5 hT5 => ?_⟩
    · rcases z with z | z
      · cases z
      · omega
    rw [Int.toNat_natCast, rep_flat]
    have h15 := h14.tup (o := .tup (vI (List.replicate r.2 (sdF m t dep)))) hT5
    have s15 : Same B14 (upd B14 T5 (.tup (vI (List.replicate r.2 (sdF m t dep))))) := up_same (h14.sub.free hT5)
    have t5' : SqT K (upd B14 T5 (.tup (vI (List.replicate r.2 (sdF m t dep))))) T5 (vI (List.replicate r.2 (sdF m t dep))) := SqT.of upd_same
    generalize upd B14 T5 (.tup (vI (List.replicate r.2 (sdF m t dep)))) = B15 at *
    generalize upd H14 T5 (.tup (vI (List.replicate r.2 (sdF m t dep)))) = H15 at *
    refine ⟨(by show 2 ≤ sizeLine; decide), fun T6 hT6 => ?_⟩
    have h16 := h15.tup (o := .tup [.str r.1, .ref T5]) hT6
    have s16 : Same B15 (upd B15 T6 (.tup [.str r.1, .ref T5])) := up_same (h15.sub.free hT6)
    have t6' : SqT K (upd B15 T6 (.tup [.str r.1, .ref T5])) T6 [.str r.1, .ref T5] := SqT.of upd_same
    generalize upd B15 T6 (.tup [.str r.1, .ref T5]) = B16 at *
    generalize upd H15 T6 (.tup [.str r.1, .ref T5]) = H16 at *
    have s1216 := (s14.trans s15).trans s16
    refine ⟨dT, T6, ob, _, zkey (r.1, List.replicate r.2 (sdF m t dep)), B16, rfl, rfl, h16.r1, Stay.of h16.sub, hN.mono (Stay.of (s013.trans s1216)), NK.ofZ t6' (Same.sqt s16 t5'), by unfold tabZ; rw [List.length_map, sizeLine_eq]; omega, fun ob' hN' => ?_⟩
    have hN' : NOf P w K B16 dT ob' (putK (tabZ full) (zkey (zky (dbRow r.1 r.2 m t dep))) (V.int (dbRow r.1 r.2 m t dep).2.2)) := hN'
    rw [tab_put] at hN'
    have h17 := h16.w1 (o' := ob')
    refine ⟨_, _, _, _, _, _, B16, ob', _, ps ++ [T3], rfl, sB.trans (s013.trans s1216), by rw [List.map_append]; exact h17, hN', by have := putZ_len full (dbRow r.1 r.2 m t dep); omega, ?_, fun k hk => ?_⟩
    · rw [dbRs_succ]
      exact Paired.snoc (Paired.mapP hPs fun _ _ u => u.mono (Stay.of (s013.trans s1216))) ⟨T2, Same.sqt s1216 t3', Same.sqt (s12.trans s1216) t2'⟩
    · rw [lk_putZ, dbRs_succ, lkZ_app, lkZ_one]
      by_cases ck : k = zky (dbRow r.1 r.2 m t dep)
      · rw [if_pos ck, if_pos ck.symm, dbRs_none fun dep2 hd2 e => ?_]
        · rfl
        · rw [ck] at e
          have := rep_inj hc0 (Prod.mk.inj e).2
          have := sd_inj ht (by omega) (by omega) this
          omega
      · rw [if_neg ck, if_neg (fun z => ck z.symm), Option.or_none]
        exact hfk k hk
  clear h8 hN8 hfl8 hfk8
  clear ob full
  rintro σ H9 ⟨t8, t9, t10, t11, t12, t13, B9, ob, full, ps, rfl, sB9, h9, hN9, hfl9, hPs9, hfk9⟩
  obtain ⟨gg1, h10⟩ := h9.rot.give
  obtain ⟨gg2, h11⟩ := h10.give
  have eT : upd (upd B9 dT ob) dR (.lst (ps.map V.ref)) dT = some ob := gg2 _ _ upd_same
  have eR : upd (upd B9 dT ob) dR (.lst (ps.map V.ref)) dR = some (.lst (ps.map V.ref)) := upd_same
  have s011 := (s08.trans sB9).trans (gg1.trans gg2)
  replace hN9 := hN9.mono (Stay.of (gg1.trans gg2))
  replace hPs9 : Paired (ZrAt K _) ps _ := Paired.mapP hPs9 fun _ _ y => y.mono (Stay.of (gg1.trans gg2))
  generalize upd (upd B9 dT ob) dR (.lst (ps.map V.ref)) = B11 at *
  have hpsl := paired_len hPs9
  have hdl : (dbRs r.1 r.2 m t (m - 1)).length = m - 1 := by unfold dbRs; rw [List.length_map, List.length_range]
  have sdl := sd_rng (m := m) (t := t) (dep := m - 1) (by omega)
  clear h9 h10
  refine ⟨_, rfl, _, rfl, _, _, rfl, rfl, _, _, rfl, rfl, .inl ⟨_, rfl, _, rfl, _, _, rfl, rfl, (by show (0 : Int) < (m : Nat); omega), ?_⟩⟩
  simp only [List.set_cons_succ, List.set_cons_zero]
  rw [sd_last m t hm1]
  refine ⟨_, rfl, (by show 1 ≤ sizeLine; decide), fun T1 hT1 => ?_⟩
  have k1 := h11.tup (o := .tup [.int (sdF m t (m - 1))]) hT1
  have u1 : Same B11 (upd B11 T1 (.tup [.int (sdF m t (m - 1))])) := up_same (h11.sub.free hT1)
  have q1 : SqT K (upd B11 T1 (.tup [.int (sdF m t (m - 1))])) T1 (vI [sdF m t (m - 1)]) := SqT.of upd_same
  generalize upd B11 T1 (.tup [.int (sdF m t (m - 1))]) = C1 at *
  refine ⟨by decide, fun T2 hT2 => ?_⟩
  have k2 := k1.tup (o := .tup []) hT2
  have u2 : Same C1 (upd C1 T2 (.tup [])) := up_same (k1.sub.free hT2)
  have q2 : SqT K (upd C1 T2 (.tup [])) T2 (vI []) := SqT.of upd_same
  generalize upd C1 T2 (.tup []) = C2 at *
  refine ⟨_, rfl, _, rfl, RgOk.of_le (by decide) (by omega) (by decide) (by omega), fun T3 hT3 => ?_⟩
  have erg : rgV 0 ((m : Nat) : Int) = vI ((List.range m).map fun i : Nat => (i : Int)) := by
    unfold rgV vI
    rw [show (((m : Nat) : Int) - 0).toNat = m by omega, List.map_map]
    exact List.map_congr_left fun i _ => by show V.int (0 + (i : Int)) = V.int (i : Int); rw [Int.zero_add]
  have k3 := k2.tup (o := .tup (rgV 0 ((m : Nat) : Int))) hT3
  have u3 : Same C2 (upd C2 T3 (.tup (rgV 0 ((m : Nat) : Int)))) := up_same (k2.sub.free hT3)
  have q3 : SqT K (upd C2 T3 (.tup (rgV 0 ((m : Nat) : Int)))) T3 (vI ((List.range m).map fun i : Nat => (i : Int))) := by rw [← erg]; exact SqT.of upd_same
  generalize upd C2 T3 (.tup (rgV 0 ((m : Nat) : Int))) = C3 at *
  refine ⟨_, rfl, (by show 1 ≤ sizeLine; decide), fun T4 hT4 => ?_⟩
  have k4 := k3.tup (o := .tup [.int (t : Nat)]) hT4
  have u4 : Same C3 (upd C3 T4 (.tup [.int (t : Nat)])) := up_same (k3.sub.free hT4)
  have q4 : SqT K (upd C3 T4 (.tup [.int (t : Nat)])) T4 (vI [((t : Nat) : Int)]) := SqT.of upd_same
  generalize upd C3 T4 (.tup [.int (t : Nat)]) = C4 at *
  refine ⟨_, rfl, (by show 1 ≤ sizeLine; decide), fun T5 hT5 => ?_⟩
  have k5 := k4.tup (o := .tup [.int (sdF m t (m - 1))]) hT5
  have u5 : Same C4 (upd C4 T5 (.tup [.int (sdF m t (m - 1))])) := up_same (k4.sub.free hT5)
  have q5 : SqT K (upd C4 T5 (.tup [.int (sdF m t (m - 1))])) T5 (vI [sdF m t (m - 1)]) := SqT.of upd_same
  generalize upd C4 T5 (.tup [.int (sdF m t (m - 1))]) = C5 at *
  refine ⟨_, rfl, _, rfl, g, m, rfl, k5.bag hl5, by omega, fun T6 mks H12 hmk d12 hT6 => ?_⟩
  obtain ⟨l12, C6, hl12, u6, k6, eC6⟩ := k5.dr0 d12
  have q6 : SqT K C6 T6 (vI mks) := by rw [eC6]; exact sqt_cutL k6 allL1 (Same.refl _) hT6
  refine ⟨(by show 6 ≤ sizeLine; decide), fun D6 hD6 => ?_⟩
  have k7 := k6.tup (o := .lst [.ref T1, .ref T2, .ref T3, .ref T4, .ref T5, .ref T6]) hD6
  have u7 : Same C6 (upd C6 D6 (.lst [.ref T1, .ref T2, .ref T3, .ref T4, .ref T5, .ref T6])) := up_same (k6.sub.free hD6)
  have q7 : (upd C6 D6 (.lst [.ref T1, .ref T2, .ref T3, .ref T4, .ref T5, .ref T6])) D6 = some (.lst [.ref T1, .ref T2, .ref T3, .ref T4, .ref T5, .ref T6]) := upd_same
  generalize upd C6 D6 (.lst [.ref T1, .ref T2, .ref T3, .ref T4, .ref T5, .ref T6]) = C7 at *
  refine ⟨_, rfl, g, 6, rfl, k7.bag hl12, by decide, by decide, fun jm H13 hjm d13 => ?_⟩
  obtain ⟨l13, C8, hl13, u8, k8, _⟩ := k7.dr0 d13
  have hmr := mrk_range m m (Nat.le_refl _)
  have hml := mrk_one sdl.1 sdl.2
  have hmt : mrkF (m : Nat) (-1) [((t : Nat) : Int)] = true := mrk_one (by omega) (by omega)
  obtain ⟨tm, mks2, e1, e2, e3⟩ : ∃ tm mks2, ([.ref T1, .ref T2, .ref T3, .ref T4, .ref T5, .ref T6] : List V)[jm]? = some (.ref tm) ∧ SqT K C8 tm (vI mks2) ∧ mrkF (m : Nat) (-1) mks2 = true := by
    match jm, hjm with
    | 0, _ => exact ⟨T1, _, rfl, Same.sqt (((((((u2.trans u3).trans u4).trans u5).trans u6).trans u7).trans u8)) q1, hml⟩
    | 1, _ => exact ⟨T2, _, rfl, Same.sqt ((((((u3.trans u4).trans u5).trans u6).trans u7).trans u8)) q2, rfl⟩
    | 2, _ => exact ⟨T3, _, rfl, Same.sqt (((((u4.trans u5).trans u6).trans u7).trans u8)) q3, hmr⟩
    | 3, _ => exact ⟨T4, _, rfl, Same.sqt ((((u5.trans u6).trans u7).trans u8)) q4, hmt⟩
    | 4, _ => exact ⟨T5, _, rfl, Same.sqt (((u6.trans u7).trans u8)) q5, hml⟩
    | 5, _ => exact ⟨T6, _, rfl, Same.sqt ((u7.trans u8)) q6, hmk⟩
    | n + 6, h => omega
  have uu := ((((((u1.trans u2).trans u3).trans u4).trans u5).trans u6).trans u7).trans u8
  refine ⟨D6, _, _, _, rfl, rfl, SqL.of ((u8.trans k8.sub) _ _ q7), atI_nat e1, ?_⟩
  simp only [List.set_cons_succ, List.set_cons_zero]
  refine ⟨_, rfl, _, rfl, dR, _, rfl, .inl ⟨SqL.of ((uu.trans k8.sub) _ _ eR), fun tr htr => ?_⟩⟩
  have k9 := k8.tup (o := .tup (ps.map V.ref)) htr
  have u9 : Same C8 (upd C8 tr (.tup (ps.map V.ref))) := up_same (k8.sub.free htr)
  have q9 : SqT K (upd C8 tr (.tup (ps.map V.ref))) tr (ps.map V.ref) := SqT.of upd_same
  generalize upd C8 tr (.tup (ps.map V.ref)) = C9 at *
  generalize upd H13 tr (.tup (ps.map V.ref)) = H14 at *
  refine ⟨_, rfl, _, rfl, _, rfl, _, rfl, (by show 6 ≤ sizeLine; decide), fun z hz => ?_⟩
  have su := up_same (o := .lst [.int (m : Nat), .ref tr, .int (t : Nat), .ref tm, .ref dT, .ref yp]) hz
  have sall := k9.sub.trans su
  have dr0 : Dr g H H14 := k9.isDr hl13 List.mem_cons_self (by rw [hB0]; exact s011.trans (uu.trans u9))
  have hrI : inS (m : Nat) ((t : Nat) : Int) = true := inS_iff.mpr ⟨by omega, by omega⟩
  have kd : ∀ x ∈ dbRs r.1 r.2 m t (m - 1), isK rows x.1 = true ∧ x.2.1.length = ar rows x.1 ∧ (∀ n ∈ x.2.1, inS (m : Nat) n = true) ∧ inS (m : Nat) x.2.2 = true := fun x hx => by
    obtain ⟨dep, _, rfl⟩ := List.mem_map.mp hx
    refine ⟨kr1, by show (List.replicate r.2 (sdF m t dep)).length = ar rows r.1; rw [kr2]; exact List.length_replicate .., fun n hn => ?_, inS_iff.mpr (sd_rng (by omega))⟩
    rw [List.eq_of_mem_replicate hn]
    exact inS_iff.mpr (sd_rng (by omega))
  have hFu : FullZ rows m ⟨(m : Nat), dbRs r.1 r.2 m t (m - 1), mks2, (t : Nat)⟩ full := fun x l v1 v2 v3 => by
    refine ⟨hfk9 _ ((kysZ_mem ok).mpr ⟨v1, v2, v3⟩), ?_⟩
    show inS (m : Nat) ((lkZ (dbRs r.1 r.2 m t (m - 1)) (x, l)).getD ((t : Nat) : Int)) = true
    cases e : lkZ (dbRs r.1 r.2 m t (m - 1)) (x, l) with
    | none => exact hrI
    | some v =>
      obtain ⟨y, hy, rfl⟩ := lkZ_mem e
      exact (kd y hy).2.2.2
  refine hq z ⟨(m : Nat), dbRs r.1 r.2 m t (m - 1), mks2, (t : Nat)⟩ full m ip t r _ (drOk_of kd (dbRs_nd hc0 ht _ (by omega)) hFu hm1 (by omega) hpw e3 hrI (by omega)) (Dr.same dr0 su) ?_ ?_ ⟨eip, hbig, ht, rfl, rfl⟩ hm12 (dr0.free0 hz)
  · exact ⟨tr, tm, dT, ob, ps, [.ref yp], upd_same, Same.sqt sall q9, Paired.mapP hPs9 fun _ _ y => y.mono (Stay.of ((uu.trans u9).trans sall)), Same.sqt (u9.trans sall) e2, ((uu.trans u9).trans sall) _ _ eT, hN9.mono (Stay.of ((uu.trans u9).trans sall))⟩
  · exact ⟨tr, tm, dT, yp, upd_same, hyp ((s011.trans (uu.trans u9)).trans sall)⟩
end
end Sy
/-! _law_kept, _law_steps_right -/
namespace Sy
open PySem PySem.Spec PyProof.Rows L2
def IsD (l : List Int) : PyData := .tuple (l.map PyData.int)
def ZrD (r : ZRow) : PyData := .tuple [.str r.1, IsD r.2.1, .int r.2.2]
theorem imA_ints {K : PySem.W.Frag} {H : Hp} : ∀ l : List Int, ImA K H (vI l) (l.map PyData.int)
  | [] => .nil
  | n :: l => .cons (.int n) (imA_ints l)
theorem im_ints {K : PySem.W.Frag} {H : Hp} {t : Addr} {l : List Int} (h : SqT K H t (vI l)) : Im K H (.ref t) (IsD l) := .tup h (imA_ints l)
theorem ZrAt.im {K : PySem.W.Frag} {H : Hp} {q : Addr} {r : ZRow} (h : ZrAt K H q r) : Im K H (.ref q) (ZrD r) := by
  obtain ⟨c, h1, h2⟩ := h
  exact .tup h1 (.cons (.str _) (.cons (im_ints h2) (.cons (.int _) .nil)))
theorem imA_zrs {K : PySem.W.Frag} {H : Hp} : ∀ {ps : List Addr} {l : List ZRow}, Paired (ZrAt K H) ps l → ImA K H (ps.map V.ref) (l.map ZrD)
  | _, _, .nil => .nil
  | _, _, .cons a b => .cons a.im (imA_zrs b)
theorem fit_ints {n : Nat} {l : List Int} (h : l.length ≤ 1000000) : Fit (n + 1) (IsD l) := by
  refine ⟨by rw [List.length_map]; exact h, fun d hd => ?_⟩
  obtain ⟨m, _, rfl⟩ := List.mem_map.mp hd
  cases n <;> trivial
theorem fit_str {n : Nat} {x : Str} : Fit n (.str x) := by cases n <;> trivial
theorem fit_int {n : Nat} {x : Int} : Fit n (.int x) := by cases n <;> trivial
theorem fit_bool {n : Nat} {x : Bool} : Fit n (.bool x) := by cases n <;> trivial
theorem fit_zrs {l : List ZRow} (h : l.length ≤ 1000000) (h2 : ∀ r ∈ l, r.2.1.length ≤ 1000) : Fit 3 (.tuple (l.map ZrD)) := by
  refine ⟨by rw [List.length_map]; exact h, fun d hd => ?_⟩
  obtain ⟨r, hr, rfl⟩ := List.mem_map.mp hd
  refine ⟨by show 3 ≤ 1000000; decide, fun e he => ?_⟩
  rcases List.mem_cons.mp he with rfl | he
  · exact fit_str
  rcases List.mem_cons.mp he with rfl | he
  · exact fit_ints (by have := h2 r hr; omega)
  rw [List.mem_singleton.mp he]
  exact fit_int
theorem fit_rows {n : Nat} {rows : List Sy.Row} (h : rows.length ≤ 1000000) : Fit (n + 2) (RowsD rows) := by
  refine ⟨by rw [List.length_map]; exact h, fun d hd => ?_⟩
  obtain ⟨r, hr, rfl⟩ := List.mem_map.mp hd
  refine ⟨by show 2 ≤ 1000000; decide, fun e he => ?_⟩
  rcases List.mem_cons.mp he with rfl | he
  · exact fit_str
  rw [List.mem_singleton.mp he]
  exact fit_int
theorem KtAt.im {K : PySem.W.Frag} {H : Hp} {q : Addr} {rows : List Sy.Row} (h : KtAt K H q rows) : Im K H (.ref q) (RowsD rows) := by
  obtain ⟨ps, h1, h2⟩ := h
  exact .tup h1 (Im.rowsD h2)
theorem tabF_len {rows : List Sy.Row} {m : Nat} {d : RdrZ} : (tabF rows m d).length = (kysZ m rows).length := by
  unfold tabF kysZ
  rw [List.length_flatMap, List.length_flatMap]
  congr 1
  exact List.map_congr_left fun r _ => by rw [List.length_map, List.length_map]
theorem mrkF_len {m : Nat} : ∀ {l : List Int} {last : Int}, -1 ≤ last → mrkF (m : Nat) last l = true → (l.length : Int) ≤ (m : Nat) - 1 - last ∨ l = []
  | [], _, _, _ => .inr rfl
  | x :: l, last, h1, h => by
    rw [mrkF] at h
    by_cases c : last < x ∧ x < (m : Nat)
    · rw [if_pos c] at h
      rcases mrkF_len (l := l) (last := x) (by omega) h with h2 | h2
      · exact .inl (by rw [List.length_cons]; omega)
      · rw [h2]; exact .inl (by show (1 : Int) ≤ _; omega)
    · rw [if_neg c] at h
      cases h
theorem DrOk.marks {rows : List Sy.Row} {m : Nat} {d : RdrZ} {full : List ZRow} (h : DrOk rows m d full) : mrkF (m : Nat) (-1) d.marks = true ∧ inS (m : Nat) d.rest = true := by
  have e := h.due
  unfold rdDue at e
  have h1 := h.ed
  have h2 := h.m1
  have h3 := h.m2
  rw [if_neg (by omega), if_neg (by omega)] at e
  rw [h1] at e
  cases c : entF rows (m : Nat) [] 0 d.rws with
  | some i => rw [c] at e; cases e
  | none =>
    rw [c] at e
    simp only at e
    by_cases c1 : mrkF (m : Nat) (-1) d.marks = true
    · rw [if_pos c1] at e
      by_cases c2 : inS (m : Nat) d.rest = true
      · exact ⟨c1, c2⟩
      · rw [if_neg c2] at e; cases e
    · rw [if_neg c1] at e; cases e
theorem DrOk.mlen {rows : List Sy.Row} {m : Nat} {d : RdrZ} {full : List ZRow} (h : DrOk rows m d full) : d.marks.length ≤ 40 := by
  have h2 := h.m2
  rcases mrkF_len (by decide) h.marks.1 with e | e
  · omega
  · rw [e]; exact Nat.zero_le _
section
variable {P : Program} {w : World} {K : PySem.W.Frag} {mg : Str → Option Value} {base : Heap}
/-- what is asked of a reader -/
structure Rq (P : Program) (w : World) (K : PySem.W.Frag) (H : Hp) (q z a b : Addr) (rows : List Sy.Row) (m : Nat) (d : RdrZ) (full : List ZRow) : Prop where
  kt : KtAt K H q rows
  rl : RowsL rows
  dok : DrOk rows m d full
  dr : DrAt P w K H z d full
  rd : RdzAt P w K H a b rows d
theorem Rq.mono {H H' : Hp} {q z a b : Addr} {rows : List Sy.Row} {m : Nat} {d : RdrZ} {full : List ZRow} (h : Rq P w K H q z a b rows m d full) (s : Same H H') : Rq P w K H' q z a b rows m d full := ⟨h.kt.mono (Stay.of s), h.rl, h.dok, h.dr.mono s, h.rd.mono (Stay.of s)⟩
def spKept (P : Program) (w : World) (K : PySem.W.Frag) : Sp := fun vs H Q _ => ∃ (q z a b : Addr) (rows : List Sy.Row) (m : Nat) (d : RdrZ) (full : List ZRow), vs = [.ref q, .ref z, .ref a] ∧ Rq P w K H q z a b rows m d full ∧ ∀ H', Same H H' → Q (.bl true) H'
abbrev N_kept : List Str := ["_law_kinds", "_law_drawn", "_law_reader_here", "_law_due", "_law_name", "_law_size", "_law_below"]
theorem sc_kept : FnScope N_kept ["_law_kinds", "_law_drawn", "_law_reader_here"] (defScope (top 55)) := ⟨rfl, rfl, rfl, by decide +kernel, rfl, by decide +kernel, by decide +kernel⟩
theorem k_kept (T : Txt K mg) (TR : TxtR K mg) (F : DF K mg "_law_kept" 55) (c_law_tuples : Cal P w K mg base 1 "_law_tuples" ["_law_many", "_law_length"] (spBel K)) (c_law_same : ∀ n : Nat, Cal P w K mg base (n + 1) "_law_same" ["_law_actual", "_law_due"] (spSame K n)) (cc_table : CalC P w K mg base 2 "Reader" "table" ["self"] (spTab P w K)) :
    Cal P w K mg base 5 "_law_kept" ["_law_kinds", "_law_drawn", "_law_reader_here"] (spKept P w K) := by
  refine cal_of F.1 F.2 sc_kept (fun _ _ _ _ _ _ us e => match us, e with | [_, _, _], _ => rfl) (fun vs H Q E s => by obtain ⟨_, _, _, _, _, _, _, _, rfl, _⟩ := s; rfl) ?_
  intro cdv A outer s H vs Q E hr h
  obtain ⟨q, z, a, b, rows, m, d, full, rfl, rq, hq⟩ := h
  have hu := hu4_of hr
  have sc := sc_kept
  obtain ⟨mT, fdT, FT, BT⟩ := cc_table
  have c3 := c_law_same 3
  have ok := rq.rl.ok
  have hle := rq.rl.le
  have hm1 := rq.dok.m1
  have hm2 := rq.dok.m2
  have hpw := rq.dok.pw
  obtain ⟨pk, hL0, hP0⟩ := id rq.kt
  have hpl := paired_len hP0
  obtain ⟨tr, tm, dS, ob, ps, more, hz, htr, hps, hm, hdS, hN⟩ := id rq.dr
  rw [rq.dok.ed] at hz
  obtain ⟨dx, tM, dE, obE, h1, h2, h3, h4, h5⟩ := id rq.rd.ex
  obtain ⟨dx', dA, tR, tK, dR, pp, b1, b2, b3, b4, b5, b6⟩ := id h2.ex
  refine ⟨_, (pss_cons (ps_set (i := 3) sc.nd rfl (Or.inl rfl) (pe_lst pa_nil))
      (pss_cons (ps_for (passes_of rfl) rfl (pi_tup (pv 0)) (pg_tup rfl (pgs_cons (pg_name (i := 4) sc.nd rfl (Or.inr rfl)) (pgs_cons (pg_name (i := 5) sc.nd rfl (Or.inl rfl)) pgs_nil)))
        (pss_one (ps_expr (pe_bm PySem.F.plainAttrs_list PySem.F.slot_list_extend PySem.F.type_list_extend mt_extend (pv 3) (pa_cons (pe_lc (own := [("_law_below", 6)]) (g := gName 6) (te := tTup (tCons (tVar 4) (tCons (tVar 6) (tCons (tNGet P w K (tOp (rIxL K) (tVar 1) (tC (.int 4))) (tTup (tCons (tVar 4) (tCons (tVar 6) tNil)))) tNil)))) rfl sc.nd (pi_list (pe_cal c_law_tuples hr (pa_cons (pe_ix ix_list (pv 1) pe_int (fun _ _ => rfl)) (pa_cons (pv 5) pa_nil)))) (blkOk_by (N := N_kept) (sc := defScope (top 55)) (by decide +kernel)) (fun _ _ _ _ _ => (pg_name (i := 6) sc.nd rfl (Or.inl rfl))) (fun _ _ _ _ _ => pts_nil) (fun _ _ _ _ _ => (pe_tup (pa_cons (pv 4) (pa_cons (pv 6) (pa_cons (pe_nget hu (pe_ixK K rfl (pv 1) pe_int (fun _ _ => rfl)) (pe_tup (pa_cons (pv 4) (pa_cons (pv 6) pa_nil))) (fun _ _ => rfl)) pa_nil)))))) pa_nil)))))
      (pss_cons (ps_if (PW.pt (pw_or (pt_not (pt_val (pe_cal c3 hr (pa_cons (pe_fld (pe_fld (pv 2) rfl) rfl) (pa_cons (pv 0) pa_nil))))) (pw_or1 (pt_not (pt_val (pe_cal c3 hr (pa_cons (pe_fld (pv 2) rfl) (pa_cons (pe_ix ix_list (pv 1) pe_int (fun _ _ => rfl)) pa_nil))))))))
        (pss_one (ps_ret pe_bl))
        pss_nil)
      (pss_one (ps_ret (pe_and (pe_cal c3 hr (pa_cons (pe_fld (pv 2) rfl) (pa_cons (pe_ix ix_list (pv 1) pe_int (fun _ _ => rfl)) pa_nil))) (pe_one (pe_cal c3 hr (pa_cons (pe_meth0 (pv 2) TR.cl mT FT (hr.mono (by decide)) BT .nil (E := E0) (fun pins σ H s e s' I h => passL pins σ H s e s' I h)) (pa_cons (pe_callTy call_tuple_of (by rfl) T.tuple (by decide +kernel) (pa_cons (pv 3) pa_nil)) pa_nil)))))))))), ?_⟩
  refine ⟨by decide, fun D hD => ?_⟩
  have k1 := (Hs.start H).new (o := .lst []) hD
  have hzz : ∀ {H' : Hp}, Same H H' → SqL K H' z (.int (m : Nat) :: .ref tr :: .int d.rest :: .ref tm :: .ref dS :: more) := fun s => SqL.of (s _ _ hz)
  refine ⟨_, rfl, q, rfl, ⟨_, Same.sqt k1.sub hL0⟩, for_tup (K := K) (a := q) (xs := pk.map V.ref) (fun i σ H' => ∃ (t4 t5 : Option V) (B : Hp) (qs : List Addr), σ = [some (.ref q), some (.ref z), some (.ref a), some (.ref D), t4, t5, none] ∧ Same H B ∧ Hs B [(D, .lst (qs.map V.ref))] H' ∧ Paired (ZrAt K B) qs (tabF (rows.take i) m d) ∧ qs.length ≤ 2000 * i)
    ⟨none, none, H, [], rfl, Same.refl _, k1, .nil, Nat.le_refl _⟩ (fun _ _ _ _ ⟨_, _, _, _, _, sB, hh, _⟩ => Same.sqt (sB.trans hh.sub) hL0) ?_ ?_⟩
  · rintro i v σ H1 hv ⟨t4, t5, B, qs, rfl, sB, hh, hP, hql⟩
    obtain ⟨y, ey, rfl⟩ := map_at hv
    have hi : i < rows.length := by rw [← hpl]; exact (List.getElem?_eq_some_iff.mp ey).1
    obtain ⟨r, er⟩ : ∃ r, rows[i]? = some r := ⟨_, List.getElem?_eq_getElem hi⟩
    obtain ⟨y', ey', ty⟩ := paired_at hP0 er
    rw [ey] at ey'
    cases ey'
    have hrm := List.mem_of_getElem? er
    have hbr := ok.br r hrm
    have hpr := hpw r hrm
    obtain ⟨arr, ikr⟩ := ar_memZ ok.nd hrm
    have sH := sB.trans hh.sub
    refine ⟨y, _, rfl, Same.sqt sH ty, rfl, _, _, rfl, _, _, rfl, rfl, ?_⟩
    simp only [List.set_cons_succ, List.set_cons_zero]
    refine ⟨_, rfl, .inl ⟨rfl, _, SqL.of hh.r0⟩, _, rfl, z, _, _, _, rfl, rfl, hzz sH, atI_nat (j := 0) rfl, _, rfl, m, r.2, rfl, by omega, by omega, hpr, fun H2 zq zs hzq s2 hL2 hP2 => ?_⟩
    have eL := (hh.out_new hzq)
    obtain ⟨c1, c2⟩ := hh.after s2
    have st2 := stay_cut hh allL1 s2
    have hL2' : cut [(D, HO.lst (qs.map V.ref))] H2 zq = some (.lst (zs.map V.ref)) := by rw [cut_at eL]; exact hL2
    have hP2 : Paired (TpZ K (cut [(D, HO.lst (qs.map V.ref))] H2)) zs (tupZ m r.2) := Paired.mapP hP2 fun _ _ u => st2.sqt u
    generalize cut [(D, HO.lst (qs.map V.ref))] H2 = B2 at *
    have hzl := paired_len hP2
    have s02 := sB.trans c1
    have hcard : (tupZ m r.2).length ≤ 2000 := by rw [tupZ_len]; exact hpr
    refine ⟨zq, rfl, ⟨_, SqL.of (c2.sub _ _ hL2')⟩, fun D3 hD3 => lc_list (K := K) (a := zq) (xs := zs.map V.ref) (fun j H' => ∃ (B3 : Hp) (qs3 : List Addr), Same B2 B3 ∧ Hs B3 [(D3, .lst (qs3.map V.ref)), (D, .lst (qs.map V.ref))] H' ∧ Paired (ZrAt K B3) qs3 (((tupZ m r.2).take j).map fun l => (r.1, l, stepZ d r.1 l)) ∧ qs3.length = j)
      ⟨B2, [], Same.refl _, c2.new hD3, .nil, rfl⟩ (fun _ _ _ ⟨_, _, s3, h3, _⟩ => SqL.of (h3.sub _ _ (s3 _ _ hL2'))) ?_ ?_⟩
    · rintro j v H3 hv ⟨B3, qs3, s3, h3', hP3, hl3⟩
      obtain ⟨c, ec, rfl⟩ := map_at hv
      have hj : j < (tupZ m r.2).length := by rw [← hzl]; exact (List.getElem?_eq_some_iff.mp ec).1
      obtain ⟨l, el⟩ : ∃ l, (tupZ m r.2)[j]? = some l := ⟨_, List.getElem?_eq_getElem hj⟩
      obtain ⟨c', ec', tc⟩ := paired_at hP2 el
      rw [ec] at ec'
      cases ec'
      have tc : SqT K B2 c (vI l) := tc
      have sH3 := (s02.trans s3).trans h3'.sub
      obtain ⟨hl1, hl2⟩ := tupZ_mem.mp (List.mem_of_getElem? el)
      obtain ⟨f1, f2⟩ := rq.dok.full r.1 l ikr (by rw [hl1, arr]) hl2
      refine ⟨rfl, ?_⟩
      simp only [tYes, if_true, wipe, List.map_cons, List.map_nil, List.set_cons_succ, List.set_cons_zero]
      refine ⟨_, rfl, _, rfl, _, rfl, z, _, _, .ref dS, rfl, rfl, hzz sH3, atI_nat (j := 4) rfl, _, rfl, _, rfl, (by show 2 ≤ sizeLine; decide), fun T5 hT5 => ?_⟩
      have h6 := h3'.tup (o := .tup [.str r.1, .ref c]) hT5
      have s6 : Same B3 (upd B3 T5 (.tup [.str r.1, .ref c])) := up_same (h3'.sub.free hT5)
      have s06 := ((s02.trans s3).trans s6).trans h6.sub
      refine ⟨dS, T5, ob, _, zkey (r.1, l), .int (stepZ d r.1 l), rfl, rfl, s06 _ _ hdS, hN.mono (Stay.of s06), NK.ofZ (Same.sqt h6.sub (SqT.of upd_same)) (Same.sqt ((s3.trans s6).trans h6.sub) tc), by rw [valV_tabZ, f1]; rfl, (by show 3 ≤ sizeLine; decide), fun T7 hT7 => ?_⟩
      have h7 := h6.tup (o := .tup [.str r.1, .ref c, .int (stepZ d r.1 l)]) hT7
      have s7 : Same (upd B3 T5 (.tup [.str r.1, .ref c])) (upd (upd B3 T5 (.tup [.str r.1, .ref c])) T7 (.tup [.str r.1, .ref c, .int (stepZ d r.1 l)])) := up_same (h6.sub.free hT7)
      refine ⟨_, h7.r0, by rw [List.length_map, hl3, sizeLine_eq]; omega, _, qs3 ++ [T7], (s3.trans s6).trans s7, by rw [List.map_append]; exact h7.w0, ?_, by rw [List.length_append, hl3]; rfl⟩
      rw [List.take_succ, el, List.map_append]
      exact Paired.snoc (Paired.mapP hP3 fun _ _ u => u.mono (Stay.of (s6.trans s7))) ⟨c, SqT.of upd_same, Same.sqt ((s3.trans s6).trans s7) tc⟩
    · rintro H3 ⟨B3, qs3, s3, h3', hP3, hl3⟩
      rw [List.length_map, hzl, List.take_length] at hP3
      rw [List.length_map, hzl] at hl3
      refine ⟨D, D3, _, _, rfl, rfl, h3'.r1, h3'.r0, by rw [List.length_map, List.length_map, hl3, sizeLine_eq]; omega, ?_⟩
      rw [← List.map_append]
      refine ⟨_, _, B3, qs ++ qs3, rfl, s02.trans s3, h3'.drop.w0, ?_, by rw [List.length_append]; omega⟩
      rw [List.take_succ, er]
      unfold tabF
      rw [List.flatMap_append]
      show Paired _ _ (_ ++ [r].flatMap _)
      rw [List.flatMap_cons, List.flatMap_nil, List.append_nil]
      exact paired_app (Paired.mapP hP fun _ _ u => u.mono (Stay.of (c1.trans s3))) hP3
  · rintro σ H1 ⟨t4, t5, B, qs, rfl, sB, hh, hP, hql⟩
    rw [List.length_map, hpl, List.take_length] at hP
    have sH := sB.trans hh.sub
    have hql2 : (tabF rows m d).length ≤ 8000 := by
      rw [tabF_len]
      have := kysZ_len hpw
      omega
    refine ⟨_, rfl, a, _, dx, _, _, rfl, sH _ _ h1, TR.cl, TR.nB, rfl, b, _, dx', _, _, rfl, sH _ _ b1, T.bed.cl, T.bed.nR, rfl, _, rfl, _, _, RowsD rows, RowsD rows, rfl, .tup (Same.sqt sH b4) (Im.rowsD (Paired.mapP b6 fun _ _ u => Same.sqt sH u)), (rq.kt.mono (Stay.of sH)).im, fit_rows (by omega), .inl ⟨rfl, ?_⟩⟩
    refine ⟨_, rfl, iteF ?_⟩
    refine ⟨_, rfl, a, _, dx, _, _, rfl, sH _ _ h1, TR.cl, TR.nS, rfl, _, rfl, z, _, _, _, rfl, rfl, hzz sH, atI_nat (j := 0) rfl, _, _, .int (m : Nat), .int (m : Nat), rfl, by rw [rq.dok.ed]; exact .int _, .int _, fit_int, .inl ⟨rfl, ?_⟩⟩
    refine ⟨_, rfl, iteF ?_⟩
    have hml := rq.dok.mlen
    refine ⟨_, rfl, a, _, dx, _, _, rfl, sH _ _ h1, TR.cl, TR.nM, rfl, _, rfl, z, _, _, .ref tm, rfl, rfl, hzz sH, atI_nat (j := 3) rfl, _, _, IsD d.marks, IsD d.marks, rfl, im_ints (Same.sqt sH h3), im_ints (Same.sqt sH hm), fit_ints (by omega), .inl ⟨rfl, ?_⟩⟩
    refine ⟨_, rfl, iteT ?_⟩
    refine ⟨_, rfl, a, dx, _, rfl, sH _ _ h1, rfl, a, b, rows, d, m, rfl, rq.rd.mono (Stay.of sH), ok, rq.dok.ed, hm1, by omega, hpw, fun H4 t4 ps4 s4 ht4 hP4 => ?_⟩
    refine ⟨_, rfl, D, _, rfl, .inl ⟨SqL.of (s4 _ _ hh.r0), fun t5 ht5 => ?_⟩⟩
    have s5 := up_same (o := .tup (qs.map V.ref)) ht5
    refine ⟨_, _, .tuple ((tabF rows m d).map ZrD), .tuple ((tabF rows m d).map ZrD), rfl, .tup (Same.sqt s5 ht4) (imA_zrs (Paired.mapP hP4 fun _ _ u => u.mono (Stay.of s5))), .tup (SqT.of upd_same) (imA_zrs (Paired.mapP hP fun _ _ u => u.mono (Stay.of ((hh.sub.trans s4).trans s5)))), fit_zrs (by omega) (fun r hr' => ?_), .inl ⟨rfl, hq _ ((sH.trans s4).trans s5)⟩⟩
    unfold tabF at hr'
    obtain ⟨r0, hr0, hr'⟩ := List.mem_flatMap.mp hr'
    obtain ⟨l, hl, rfl⟩ := List.mem_map.mp hr'
    have := (tupZ_mem.mp hl).1
    have := ok.br r0 hr0
    show l.length ≤ 1000
    omega
end
end Sy
/-! _law_doubled_right -/
namespace Sy
open PySem PySem.Spec PyProof.Rows L2 LamX NdefX
theorem LsR.im {K : PySem.W.Frag} {H : Hp} {m : Nat} {xs : List V} {f : Int → Option (List Str)} {g : Nat → List Str} (h : LsR K H m xs f) (e : ∀ i : Nat, i < m → f (i : Nat) = some (g i)) : ImA K H xs ((List.range m).map fun i => PyData.tuple ((g i).map PyData.str)) := by
  have key : ∀ (k : Nat) (ys : List V), ys.length = k → (∀ i, i < k → ∃ a, ys[i]? = some (.ref a) ∧ SqT K H a ((g (m - k + i)).map V.str)) → k ≤ m → ImA K H ys ((List.range k).map fun i => PyData.tuple ((g (m - k + i)).map PyData.str)) := by
    intro k
    induction k with
    | zero =>
      intro ys hl _ _
      rw [List.length_eq_zero_iff.mp hl]
      exact .nil
    | succ k ih =>
      intro ys hl ha hk
      cases ys with
      | nil => cases hl
      | cons y ys =>
        obtain ⟨a, e1, t1⟩ := ha 0 (by omega)
        have e1 : y = .ref a := by simpa using e1
        subst e1
        rw [List.range_succ_eq_map, List.map_cons, List.map_map]
        refine .cons (.tup t1 (ImA.strs _)) ?_
        have := ih ys (by simpa using hl) (fun i hi => by
          obtain ⟨b, e2, t2⟩ := ha (i + 1) (by omega)
          refine ⟨b, by simpa using e2, ?_⟩
          rw [show m - k + i = m - (k + 1) + (i + 1) by omega]
          exact t2) (by omega)
        have e3 : ((fun i => PyData.tuple ((g (m - (k + 1) + i)).map PyData.str)) ∘ Nat.succ) = fun i => PyData.tuple ((g (m - k + i)).map PyData.str) := by
          funext i
          show PyData.tuple ((g (m - (k + 1) + (i + 1))).map PyData.str) = _
          rw [show m - (k + 1) + (i + 1) = m - k + i by omega]
        rw [e3]
        exact this
  have := key m xs h.1 (fun i hi => by
    obtain ⟨a, e1, t1⟩ := (h.2 i hi).2 _ (e i hi)
    exact ⟨a, e1, by rw [Nat.sub_self, Nat.zero_add]; exact t1⟩) (Nat.le_refl _)
  simpa [Nat.sub_self] using this
theorem fit_plants {m : Nat} {g : Nat → List Str} (hm : m ≤ 1000000) (h : ∀ i, i < m → (g i).length ≤ 1000000) : Fit 3 (.tuple ((List.range m).map fun i => PyData.tuple ((g i).map PyData.str))) := by
  refine ⟨by rw [List.length_map, List.length_range]; exact hm, fun d hd => ?_⟩
  obtain ⟨i, hi, rfl⟩ := List.mem_map.mp hd
  have hi := List.mem_range.mp hi
  refine ⟨by rw [List.length_map]; exact h i hi, fun e he => ?_⟩
  obtain ⟨x, _, rfl⟩ := List.mem_map.mp he
  trivial
/-- the first leaf -/
theorem first_leaf {rows : List Sy.Row} (ok : RowsOk rows) : ∃ (i0 : Nat) (r0 : Sy.Row) (rest : List Str), rows[i0]? = some r0 ∧ (Sz rows)[i0]? = some 0 ∧ (∀ i, (Sz rows)[i]? = some 0 → i0 ≤ i) ∧ leafs rows = r0.1 :: rest := by
  obtain ⟨r, hr, hr0⟩ := ok.lf
  obtain ⟨i, ei⟩ := List.mem_iff_getElem?.mp hr
  have him : i ∈ lvI rows := lv_mem.mpr (by rw [Sz, List.getElem?_map, ei]; exact congrArg some hr0)
  have hsrt : (lvI rows).Pairwise (· < ·) := List.Pairwise.filter _ List.pairwise_lt_range
  have e := leafs_lv rows
  cases c : lvI rows with
  | nil => rw [c] at him; cases him
  | cons i0 l =>
    rw [c] at e hsrt
    have h0 : i0 ∈ lvI rows := by rw [c]; exact List.mem_cons_self
    have hs0 := lv_mem.mp h0
    obtain ⟨r0, er0, _⟩ := sz_row hs0
    refine ⟨i0, r0, l.map fun i => (rows.getD i ("", 0)).1, er0, hs0, fun j hj => ?_, ?_⟩
    · have := lv_mem.mpr hj
      rw [c] at this
      rcases List.mem_cons.mp this with z | z
      · omega
      · have := (List.pairwise_cons.mp hsrt).1 j z
        omega
    · rw [e, List.map_cons, getD_at er0]
theorem zip_leafs {pk : List Addr} {rows : List Sy.Row} (h : pk.length = rows.length) : ((pk.zip rows).filter fun p => decide (p.2.2 = 0)).map (fun p => V.str p.2.1) = (leafs rows).map V.str := by
  unfold leafs
  conv => rhs; rw [← zip_snd h]
  rw [List.filter_map, List.map_map, List.map_map]
  rfl
/-- the due entries behind n depths -/
def fD (m t : Nat) (pl : Nat → List Str) (n : Nat) (s : Int) : Option (List Str) := ((List.range n).find? fun k => decide (sdF m t k = s)).map pl
theorem fD_at {m t : Nat} {pl : Nat → List Str} (ht : t < m) : ∀ {n k : Nat}, n ≤ m → k < n → fD m t pl n (sdF m t k) = some (pl k)
  | 0, k, _, h => by omega
  | n + 1, k, hn, hk => by
    unfold fD
    rw [List.range_succ, List.find?_append]
    by_cases c : k < n
    · have ih := fD_at (pl := pl) ht (n := n) (k := k) (by omega) c
      unfold fD at ih
      cases e : (List.range n).find? fun j => decide (sdF m t j = sdF m t k) with
      | none => rw [e] at ih; cases ih
      | some j => rw [e] at ih; exact ih
    · have : k = n := by omega
      subst this
      have e : ((List.range k).find? fun j => decide (sdF m t j = sdF m t k)) = none := List.find?_eq_none.mpr fun j hj z => by
        have := sd_inj ht (by have := List.mem_range.mp hj; omega) (by omega) (of_decide_eq_true z)
        have := List.mem_range.mp hj
        omega
      rw [e, List.find?_cons, decide_eq_true rfl]
      rfl
theorem fD_succ {m t : Nat} {pl : Nat → List Str} (ht : t < m) {n : Nat} (hn : n < m) (s : Int) : fD m t pl (n + 1) s = if s = sdF m t n then some (pl n) else fD m t pl n s := by
  by_cases c : s = sdF m t n
  · rw [if_pos c, c]
    exact fD_at ht hn (Nat.lt_succ_self n)
  · rw [if_neg c]
    unfold fD
    rw [List.range_succ, List.find?_append, List.find?_cons, decide_eq_false (fun z => c z.symm)]
    cases (List.range n).find? fun k => decide (sdF m t k = s) <;> rfl
theorem same_undel {H B Hc : Hp} {L : List (Addr × HO)} {p : Addr} {o : HO} (s : Same (L2.del H p) B) (h : Hs B L Hc) (e : H p = some o) (e2 : Hc p = some o) : Same H Hc := fun a w ea => by
  by_cases c : a = p
  · rw [c] at ea ⊢
    rw [e] at ea
    cases ea
    exact e2
  · exact h.sub _ _ (s _ _ (by rw [del_ne c]; exact ea))
section
variable {P : Program} {w : World} {K : PySem.W.Frag} {mg : Str → Option Value} {base : Heap}
def spDr (P : Program) (w : World) (K : PySem.W.Frag) (tb : Addr) : Sp := fun vs H Q _ => ∃ (q z a b : Addr) (rows : List Sy.Row) (m ip t top : Nat) (d : RdrZ) (r : Sy.Row) (B : Hp) (ps : Array Value), vs = [.ref q, .ref z, .ref a] ∧ Hs B [(tb, .tbl ps)] H ∧ TbOk B ps lamQ ∧ KtAt K B q rows ∧ RowsL rows ∧ DbAt K B z m t r ∧ Dbl rows m d ip t r ∧ RdzAt P w K B a b rows d ∧ LpOk rows d m top ∧ m ≤ 12 ∧
  ∀ H' ps', Chg tb (.tbl ps') H H' → TbOk H' ps' lamQ → Q (.bl true) H'
abbrev N_dr : List Str := ["_law_kinds", "_law_drawn", "_law_reader_here", "_law_plant", "_law_due", "_law_depth", "_law_pair"]
theorem sc_dr : FnScope N_dr ["_law_kinds", "_law_drawn", "_law_reader_here"] (defScope (top 60)) := ⟨rfl, rfl, rfl, by decide +kernel, rfl, by decide +kernel, by decide +kernel⟩
theorem k_dr {tb : Addr} (T : Txt K mg) (F : DF K mg "_law_doubled_right" 60) (c_law_told : Cal P w K mg base 8 "_law_told" ["_law_reader_here"] (spTold P w K tb)) (c_law_same : ∀ n : Nat, Cal P w K mg base (n + 1) "_law_same" ["_law_actual", "_law_due"] (spSame K n)) :
    Cal P w K mg base 9 "_law_doubled_right" ["_law_kinds", "_law_drawn", "_law_reader_here"] (spDr P w K tb) := by
  refine cal_of F.1 F.2 sc_dr (fun _ _ _ _ _ _ us e => match us, e with | [_, _, _], _ => rfl) (fun vs H Q E s => by obtain ⟨_, _, _, _, _, _, _, _, _, _, _, _, _, rfl, _⟩ := s; rfl) ?_
  intro cdv A outer sh H vs Q E0 hr h
  obtain ⟨q, z, a, b, rows, m, ip, t, tp, d, r, B0, pst, rfl, hs, htb, hK, rl, hDb, D, hR, L, hm12, hq⟩ := h
  have sc := sc_dr
  have c3 := c_law_same 3
  have ok := rl.ok
  have rle := rl.le
  have hm1 := L.m1
  have ht := D.tl
  have hbig := D.big
  have hr3 := ok.br r (List.mem_of_getElem? D.at_)
  refine ⟨_, (pss_cons (ps_set (i := 3) sc.nd rfl (Or.inl rfl) (pe_tup (pa_cons (pe_ix ix_list (pe_lc (own := [("_law_pair", 6)]) (g := gName 6) (tt := tTest (tOp rEq (tOp (rIxT K) (tVar 6) (tC (.int 1))) (tC (.int 0)))) (te := tOp (rIxT K) (tVar 6) (tC (.int 0))) rfl sc.nd (pi_tup (pv 0)) (blkOk_by (N := N_dr) (sc := defScope (top 60)) (by decide +kernel)) (fun _ _ _ _ _ => (pg_name (i := 6) sc.nd rfl (Or.inl rfl))) (fun _ _ _ _ _ => (pts_one (pt_cmpR op_eq (pe_ix ix_tup (pv 6) pe_int (fun _ _ => rfl)) pe_int (nomark _)))) (fun _ _ _ _ _ => (pe_ix ix_tup (pv 6) pe_int (fun _ _ => rfl)))) pe_int (fun _ _ => rfl)) pa_nil)))
      (pss_cons (ps_set (i := 4) sc.nd rfl (Or.inl rfl) (pe_op op_rep (pe_lst (pa_cons pe_non pa_nil)) (pe_ix ix_list (pv 1) pe_int (fun _ _ => rfl))))
      (pss_cons (ps_for (passes_of rfl) rfl (pi_range1 rfl T.range (pa_cons (pe_ix ix_list (pv 1) pe_int (fun _ _ => rfl)) pa_nil)) (pg_name (i := 5) sc.nd rfl (Or.inl rfl))
        (pss_cons (ps_if (pt_cmpR op_gt (pe_callB call_len_seq (by rfl) T.len (by decide +kernel) (pa_cons (pv 3) pa_nil)) pe_int (nomark _))
          (pss_one (ps_ret (pe_cal c3 hr (pa_cons (pe_cal c_law_told hr (pa_cons (pv 2) pa_nil)) (pa_cons (pe_tup (pa_cons pe_str (pa_cons pe_str (pa_cons pe_int pa_nil)))) pa_nil)))))
          pss_nil)
        (pss_cons (ps_asg (pv 3) (pg_sub (pv 4) (pe_op op_mod (pe_callTy call_int1 (by rfl) T.int (by decide +kernel) (pa_cons (pe_op op_add (pv 5) (pe_ix ix_list (pv 1) pe_int (fun _ _ => rfl))) pa_nil)) (pe_ix ix_list (pv 1) pe_int (fun _ _ => rfl))) set_list))
        (pss_one (ps_set (i := 3) sc.nd rfl (Or.inl rfl) (pe_op op_catA (pe_tup (pa_cons (pe_ix ix_tup (pe_ix ix_list (pv 1) pe_int (fun _ _ => rfl)) pe_int (fun _ _ => rfl)) pa_nil)) (pe_op op_repG (pv 3) (pe_ix ix_tup (pe_ix ix_list (pv 1) pe_int (fun _ _ => rfl)) pe_int (fun _ _ => rfl)))))))))
      (pss_one (ps_ret (pe_cal c3 hr (pa_cons (pe_cal c_law_told hr (pa_cons (pv 2) pa_nil)) (pa_cons (pe_callTy call_tuple_of (by rfl) T.tuple (by decide +kernel) (pa_cons (pv 4) pa_nil)) pa_nil)))))))), ?_⟩
  have hP := hs.r0
  have sB1 := same_delO hs
  have h0 := (Hs.start H).take hP
  obtain ⟨B1, eB1⟩ : ∃ B1, B1 = L2.del H tb := ⟨_, rfl⟩
  rw [← eB1] at h0 sB1
  replace htb := htb.same sB1
  replace hK := hK.mono (Stay.of sB1)
  replace hR := hR.mono (Stay.of sB1)
  obtain ⟨tr, tm, dS, yp, hz0, hyp0⟩ := hDb
  replace hz0 := sB1 _ _ hz0
  replace hyp0 := Same.sqt sB1 hyp0
  clear hs
  obtain ⟨pk, hK1, hK2⟩ := id hK
  have hpl := paired_len hK2
  obtain ⟨i0, r0, lrest, er0, hsz0, hmin0, hlf⟩ := first_leaf ok
  have hzz : ∀ {H' : Hp}, Same B1 H' → SqL K H' z [.int (m : Nat), .ref tr, .int (t : Nat), .ref tm, .ref dS, .ref yp] := fun s => SqL.of (s _ _ hz0)
  have hyp : ∀ {H' : Hp}, Same B1 H' → SqT K H' yp [.str r.1, .int (r.2 : Nat)] := fun s => Same.sqt s hyp0
  have hzf : (pk.zip rows).map (fun p => V.ref p.1) = pk.map V.ref := by
    conv => rhs; rw [← zip_fst hpl]
    rw [List.map_map]
    rfl
  have hLz : SqT K B1 q ((pk.zip rows).map fun p => V.ref p.1) := by rw [hzf]; exact hK1
  have hzp := paired_zip hK2
  have hzl : (pk.zip rows).length ≤ 4 := by rw [List.length_zip]; omega
  obtain ⟨pl, epl⟩ : ∃ pl, pl = plL r0.1 r.1 r.2 := ⟨_, rfl⟩
  have hkn : ∀ n, ((pl n).length : Int) = kn r.2 n := fun n => by rw [epl]; exact plL_len _ _ _ n
  have hplS : ∀ n, (pl (n + 1)).map V.str = [V.str r.1] ++ (List.replicate r.2 ((pl n).map V.str)).flatten := fun n => by
    rw [epl]
    show ((r.1 :: (List.replicate r.2 (plL r0.1 r.1 r.2 n)).flatten).map V.str) = _
    rw [List.map_cons, List.map_flatten, List.map_replicate]
    rfl
  refine ⟨_, rfl, q, rfl, ⟨_, Same.sqt h0.sub hLz⟩, fun D0 hD0 => lc_filtT (K := K) (α := Addr × Sy.Row) (a := q) (xs := pk.zip rows) (f := fun p => V.ref p.1) (out := fun p => V.str p.2.1) (keep := fun p => decide (p.2.2 = 0)) h0 hD0 hLz (by omega) (fun x hx H1 s1 R1 R2 y1 y2 => ?_) fun H1 h1 => ?_⟩
  · simp only [wipe, List.map_cons, List.map_nil, List.set_cons_succ, List.set_cons_zero]
    refine ⟨_, rfl, x.1, _, 1, _, rfl, rfl, Same.sqt s1 (hzp x hx), atI_nat (j := 1) rfl, rfl, _, rfl, if_dec (fun c => ?_) (fun c => y2 (decide_eq_false fun z => c (by rw [z]; rfl)))⟩
    have c2 : x.2.2 = 0 := by
      have := V.int.inj c
      omega
    exact ⟨_, rfl, x.1, _, 0, _, rfl, rfl, Same.sqt s1 (hzp x hx), atI_nat (j := 0) rfl, y1 (decide_eq_true c2)⟩
  rw [zip_leafs hpl, hlf] at h1
  refine ⟨D0, _, 0, .str r0.1, rfl, rfl, SqL.of h1.r0, atI_nat (j := 0) rfl, (by show 1 ≤ sizeLine; decide), fun T1 hT1 => ?_⟩
  have h2 := h1.drop.tup (o := .tup [.str r0.1]) hT1
  have s2 : Same B1 (upd B1 T1 (.tup [.str r0.1])) := up_same (h1.sub.free hT1)
  have t2 : SqT K (upd B1 T1 (.tup [.str r0.1])) T1 ((pl 0).map V.str) := by rw [epl]; exact SqT.of upd_same
  clear h1
  generalize upd B1 T1 (.tup [.str r0.1]) = B2 at *
  generalize upd H1 T1 (.tup [.str r0.1]) = H2 at *
  simp only [List.set_cons_succ, List.set_cons_zero]
  refine ⟨(by show 1 ≤ sizeLine; decide), fun D2 hD2 => ?_⟩
  have h3 := h2.lay (o := .lst [.non]) hD2
  refine ⟨_, rfl, z, _, _, _, rfl, rfl, hzz (s2.trans h3.sub), atI_nat (j := 0) rfl, D2, (m : Nat), _, rfl, rfl, upd_same, by omega, by omega, by rw [Int.toNat_natCast]; show 1 * m ≤ sizeLine; rw [sizeLine_eq]; omega, fun dd hdd => ?_⟩
  have h4 := h3.new (o := .lst (List.replicate ((m : Nat) : Int).toNat [V.non]).flatten) hdd
  rw [Int.toNat_natCast, List.flatten_replicate_singleton] at h4 ⊢
  generalize upd (upd H2 D2 (.lst [.non])) dd (.lst (List.replicate m V.non)) = H4 at *
  simp only [List.set_cons_succ, List.set_cons_zero]
  have sameC : ∀ {B' H' : Hp} {xs : List V}, Same B2 B' → Hs B' [(dd, .lst xs), (tb, .tbl pst)] H' → Same H H' := fun s' h' => same_undel (by rw [← eB1]; exact s2.trans s') h' hP h'.r1
  have entry := fun {top : Nat} {E : EMap} {S : List Int} (LI : LInv (Sz rows) (St rows d) m top E S) (hall : ∀ s ∈ kyE E, s ∈ S) => D.entry ok.nd hsz0 hmin0 LI hall
  refine ⟨_, rfl, z, _, _, _, rfl, rfl, hzz (s2.trans h4.sub), atI_nat (j := 0) rfl, _, rfl, by omega, by omega, for_rng (n := m) (fun dep σ H' => ∃ (t5 : Option V) (B : Hp) (pA : Addr) (xs : List V), σ = [some (.ref q), some (.ref z), some (.ref a), some (.ref pA), some (.ref dd), t5, none] ∧ Same B2 B ∧ Hs B [(dd, .lst xs), (tb, .tbl pst)] H' ∧
      SqT K B pA ((pl dep).map V.str) ∧ LsR K B m xs (fD m t pl dep) ∧ ∀ k, k < dep → kn r.2 k ≤ 2000)
    ⟨none, B2, T1, _, rfl, Same.refl _, h4, t2, ⟨List.length_replicate .., fun i hi => ⟨fun _ => by rw [List.getElem?_replicate, if_pos hi], fun l hl => by cases hl⟩⟩, fun k hk => absurd hk (Nat.not_lt_zero _)⟩ ?_ ?_⟩
  · rintro dep σ H5 hdep ⟨t5, B, pA, xs, rfl, sB, hh, tp', hLs, hkl⟩
    have sH := s2.trans (sB.trans hh.sub)
    have hpn := hkn dep
    simp only [List.set_cons_succ, List.set_cons_zero]
    refine ⟨_, rfl, pA, _, rfl, .inr (Same.sqt hh.sub tp'), _, _, rfl, rfl, _, rfl, if_dec (fun c => ?_) (fun c => ?_)⟩
    · rw [List.length_map, hpn] at c
      refine ⟨_, rfl, a, b, rows, d, m, tp, B, pst, rfl, hh.drop, htb.same (s2.trans sB), hR.mono (Stay.of (s2.trans sB)), L, fun H6 ps6 q6 xs6 E S chg tok hx hLs6 LI hall hle => ?_, fun H6 ps6 E S v chg tok LI hall hx im => ?_⟩
      · have := entry LI hall dep hdep
        have h1 := hle _ _ this
        have h1 : kn r.2 dep ≤ 2000 := h1
        omega
      · refine ⟨(by show 3 ≤ sizeLine; decide), fun T7 hT7 => ?_⟩
        have s7 := up_same (o := .tup [.str "TooMany", .str "knots", .int 2000]) hT7
        refine ⟨_, _, TooD, TooD, rfl, im.mono (Stay.of s7), .tup (SqT.of upd_same) (.cons (.str _) (.cons (.str _) (.cons (.int _) .nil))), ⟨by show 3 ≤ 1000000; decide, fun e he => ?_⟩, .inl ⟨rfl, hq _ ps6 (chg.of_same (sameC sB hh) s7) (tok.same s7)⟩⟩
        rcases List.mem_cons.mp he with rfl | he
        · exact fit_str
        rcases List.mem_cons.mp he with rfl | he
        · exact fit_str
        rw [List.mem_singleton.mp he]
        exact fit_int
    · rw [List.length_map, hpn] at c
      have hk2 : kn r.2 dep ≤ 2000 := by omega
      have hpl2 : (pl dep).length ≤ 2000 := by omega
      have hp1 : 1 ≤ (pl dep).length := by have := kn_pos r.2 dep; omega
      refine ⟨_, rfl, _, rfl, _, rfl, _, rfl, z, _, _, _, rfl, rfl, hzz sH, atI_nat (j := 2) rfl, _, _, rfl, rfl, .inl ⟨_, rfl, _, rfl, z, _, _, _, rfl, rfl, hzz sH, atI_nat (j := 0) rfl, _, _, rfl, rfl, (by show (0 : Int) < (m : Nat); omega), dd, xs, _, (dep + t) % m, rfl, rfl, hh.r0, ?_, ?_⟩⟩
      · rw [sd_int, hLs.1]
        exact ixN_nat (Nat.mod_lt _ (by omega))
      have h6 := hh.w0 (o' := .lst (xs.set ((dep + t) % m) (.ref pA)))
      have hLs6 : LsR K B m (xs.set ((dep + t) % m) (.ref pA)) (fD m t pl (dep + 1)) := (hLs.set (s := (dep + t) % m) (Nat.mod_lt _ (by omega)) tp').congr fun i _ => (fD_succ ht hdep _).symm
      generalize upd H5 dd (.lst (xs.set ((dep + t) % m) (.ref pA))) = H6 at *
      have sH6 := s2.trans (sB.trans h6.sub)
      refine ⟨_, rfl, z, _, _, .ref yp, rfl, rfl, hzz sH6, atI_nat (j := 5) rfl, yp, _, 0, _, rfl, rfl, hyp sH6, atI_nat (j := 0) rfl, (by show 1 ≤ sizeLine; decide), fun T7 hT7 => ?_⟩
      have h7 := h6.tup (o := .tup [.str r.1]) hT7
      have s7 : Same B (upd B T7 (.tup [.str r.1])) := up_same (h6.sub.free hT7)
      have t7 : SqT K (upd B T7 (.tup [.str r.1])) T7 [.str r.1] := SqT.of upd_same
      generalize upd B T7 (.tup [.str r.1]) = B7 at *
      generalize upd H6 T7 (.tup [.str r.1]) = H7 at *
      have sH7 := s2.trans ((sB.trans s7).trans h7.sub)
      refine ⟨_, rfl, _, rfl, z, _, _, .ref yp, rfl, rfl, hzz sH7, atI_nat (j := 5) rfl, yp, _, 1, _, rfl, rfl, hyp sH7, atI_nat (j := 1) rfl, pA, _, _, rfl, rfl, Same.sqt (s7.trans h7.sub) tp', by omega, by omega, ?_, by rw [List.length_map]; omega, fun z => ?_, fun _ T8 hT8 => ?_⟩
      · rw [List.length_map, Int.toNat_natCast]
        have := Nat.mul_le_mul hpl2 hr3
        omega
      · rcases z with z | z
        · have := congrArg List.length z
          rw [List.length_map, List.length_nil] at this
          omega
        · omega
      rw [Int.toNat_natCast]
      have h8 := h7.tup (o := .tup (List.replicate r.2 ((pl dep).map V.str)).flatten) hT8
      have s8 : Same B7 (upd B7 T8 (.tup (List.replicate r.2 ((pl dep).map V.str)).flatten)) := up_same (h7.sub.free hT8)
      have t8 : SqT K (upd B7 T8 (.tup (List.replicate r.2 ((pl dep).map V.str)).flatten)) T8 (List.replicate r.2 ((pl dep).map V.str)).flatten := SqT.of upd_same
      have hfl : ((List.replicate r.2 ((pl dep).map V.str)).flatten).length = r.2 * (pl dep).length := by rw [List.length_flatten, List.map_replicate, List.sum_replicate_nat, List.length_map]
      have hfl2 : r.2 * (pl dep).length ≤ 6000 := by
        have := Nat.mul_le_mul hr3 hpl2
        omega
      have hfl3 : 1 ≤ r.2 * (pl dep).length := Nat.mul_pos (by omega) (by omega)
      generalize upd B7 T8 (.tup (List.replicate r.2 ((pl dep).map V.str)).flatten) = B8 at *
      generalize upd H7 T8 (.tup (List.replicate r.2 ((pl dep).map V.str)).flatten) = H8 at *
      refine ⟨T7, T8, _, _, rfl, rfl, Same.sqt (s8.trans h8.sub) t7, Same.sqt h8.sub t8, by rw [hfl, sizeLine_eq]; show 1 + _ ≤ _; omega, (fun z => by cases z), fun _ z => ?_, fun _ _ T9 hT9 => ?_⟩
      · have := congrArg List.length z
        rw [hfl, List.length_nil] at this
        omega
      rw [← hplS]
      have h9 := h8.tup (o := .tup ((pl (dep + 1)).map V.str)) hT9
      have s9 : Same B8 (upd B8 T9 (.tup ((pl (dep + 1)).map V.str))) := up_same (h8.sub.free hT9)
      refine ⟨_, _, T9, _, rfl, ((sB.trans s7).trans s8).trans s9, h9, SqT.of upd_same, hLs6.mono (Stay.of ((s7.trans s8).trans s9)), fun k hk => ?_⟩
      by_cases e : k = dep
      · rw [e]; exact hk2
      · exact hkl k (by omega)
  · rintro σ H5 ⟨t5, B, pA, xs, rfl, sB, hh, tp', hLs, hkl⟩
    refine ⟨_, rfl, a, b, rows, d, m, tp, B, pst, rfl, hh.drop, htb.same (s2.trans sB), hR.mono (Stay.of (s2.trans sB)), L, fun H6 ps6 q6 xs6 E S chg tok hx hLs6 LI hall hle => ?_, fun H6 ps6 E S v chg tok LI hall hx im => ?_⟩
    · have ent : ∀ k, k < m → fE rows E (sdF m t k) = some (pl k) := fun k hk => by
        unfold fE
        rw [entry LI hall k hk, Option.map_some, if_pos (hkl k hk), spell_rk er0 D.at_, epl]
      have hdt : dd ≠ tb := fun z => by
        have := hh.nd
        simp [z] at this
      obtain ⟨gI, egI⟩ : ∃ gI : Nat → List Str, gI = fun i : Nat => (fD m t pl m (i : Nat)).getD [] := ⟨_, rfl⟩
      have g1 : ∀ i : Nat, i < m → fD m t pl m (i : Nat) = some (gI i) ∧ fE rows E (i : Nat) = some (gI i) ∧ (gI i).length ≤ 1000000 := fun i hi => by
        obtain ⟨k, hk, ek⟩ := sd_onto ht (s := ((i : Nat) : Int)) (by omega) (by omega)
        have e1 := fD_at (pl := pl) ht (Nat.le_refl m) hk
        rw [ek] at e1
        have e2 : gI i = pl k := by rw [egI]; show (fD m t pl m (i : Nat)).getD [] = _; rw [e1]; rfl
        rw [e2]
        refine ⟨e1, by rw [← ek]; exact ent k hk, ?_⟩
        have h1 := hkl k hk
        have h2 := hkn k
        omega
      refine ⟨_, rfl, dd, _, rfl, .inl ⟨SqL.of (chg.2 _ _ hdt hh.r0), fun T7 hT7 => ?_⟩⟩
      have s7 := up_same (o := .tup xs) hT7
      have hLs7 : LsR K (upd H6 T7 (.tup xs)) m xs (fD m t pl m) := by
        have sB6 : Same B H6 := fun x o e => chg.2 _ _ (fun z => by
          have := hh.ap (tb, .tbl pst) (by simp)
          rw [z] at e
          rw [this] at e
          cases e) (hh.sub _ _ e)
        exact hLs.mono (Stay.of (sB6.trans s7))
      refine ⟨_, _, .tuple ((List.range m).map fun i => PyData.tuple ((gI i).map PyData.str)), .tuple ((List.range m).map fun i => PyData.tuple ((gI i).map PyData.str)), rfl, .tup (Same.sqt s7 hx) ((hLs6.mono (Stay.of s7)).im fun i hi => (g1 i hi).2.1), .tup (SqT.of upd_same) (hLs7.im fun i hi => (g1 i hi).1), fit_plants (by omega) (fun i hi => (g1 i hi).2.2), .inl ⟨rfl, hq _ ps6 (chg.of_same (sameC sB hh) s7) (tok.same s7)⟩⟩
    · obtain ⟨s, e, he, hgt⟩ := hx
      obtain ⟨s0, s1⟩ := LI.rng s (lk_some.mpr ⟨e, he⟩)
      obtain ⟨k, hk, ek⟩ := sd_onto ht s0 s1
      have := entry LI hall k hk
      rw [ek, he] at this
      have := Option.some.inj this
      rw [this] at hgt
      have h1 := hkl k hk
      have hgt : 2000 < kn r.2 k := hgt
      omega
end
end Sy
/-! the law -/
namespace Sy
open PySem PySem.Spec PyProof.Rows L2 LamX NdefX
theorem len2 {α : Type} : ∀ {l : List α}, l.length = 2 → ∃ a b, l = [a, b]
  | [a, b], _ => ⟨a, b, rfl⟩
section
variable {P : Program} {w : World} {K : PySem.W.Frag} {mg : Str → Option Value} {base : Heap}
theorem DrAt.cutL {B H' : Hp} {L : List (Addr × HO)} {z : Addr} {r : RdrZ} {f : List ZRow} (h : Hs B L H') (al : AllL L) (d : DrAt P w K H' z r f) (hz : z ∉ L.map (·.1)) : DrAt P w K (cut L H') z r f := by
  have st := stay_cut h al (Same.refl _)
  obtain ⟨tr, tm, dS, ob, ps, more, h1, h2, h3, h4, h5, h6⟩ := d
  refine ⟨tr, tm, dS, ob, ps, more, by rw [cut_at hz]; exact h1, st.sqt h2, Paired.mapP h3 fun _ _ y => y.mono st, st.sqt h4, st _ _ h5 (fun xs e => ?_), h6.mono st⟩
  obtain ⟨φ, e2⟩ := h6.ext
  rw [e2] at e
  cases e
/-- a new bag beside what is held -/
theorem Hs.box {B H H' : Hp} {L : List (Addr × HO)} {g : Addr} (h : Hs B L H) (al : AllL L) (hg : H g = none) (s : Same H H') (b : Bag g H') : ∃ l B', BagOk l ∧ Same B B' ∧ Hs B' ((g, .lst (l.map V.int)) :: L) H' := by
  obtain ⟨l, hl, e⟩ := b
  obtain ⟨c1, c2⟩ := h.after s
  have eg : cut L H' g = some (.lst (l.map V.int)) := by rw [cut_at (h.out_new hg)]; exact e
  exact ⟨l, _, hl, same_del (h.sub.free hg) c1, c2.take eg⟩
/-! but for tables, all stays -/
def StayT (H H' : Hp) : Prop := ∀ a o, H a = some o → (∀ qs, o ≠ .tbl qs) → H' a = some o
theorem stayT_del {H : Hp} {p : Addr} {ps : Array Value} (h : H p = some (.tbl ps)) : StayT H (L2.del H p) := fun a o e n => by
  rw [del_ne]
  · exact e
  · intro z
    rw [z, h] at e
    exact n _ (Option.some.inj e).symm
theorem StayT.sqt {H H' : Hp} {a : Addr} {xs : List V} (s : StayT H H') (h : SqT K H a xs) : SqT K H' a xs := by
  rcases h with (h | ⟨o, h⟩) | h
  · exact .inl (.inl (s _ _ h fun _ z => by cases z))
  · exact .inl (.inr ⟨o, s _ _ h fun _ z => by cases z⟩)
  · exact .inr h
theorem StayT.kt {H H' : Hp} {q : Addr} {rows : List Sy.Row} (s : StayT H H') (h : KtAt K H q rows) : KtAt K H' q rows := by
  obtain ⟨ps, h1, h2⟩ := h
  exact ⟨ps, s.sqt h1, Paired.mapP h2 fun _ _ z => s.sqt z⟩
theorem StayT.nof {H H' : Hp} {a : Addr} {ob : HO} {kvs : List (NKey × V)} (s : StayT H H') (h : NOf P w K H a ob kvs) : NOf P w K H' a ob kvs := by
  obtain ⟨xs, h1, h2, h3, h4⟩ := h.ex
  exact ⟨xs, h1, h2, h3, Paired.mapP h4 fun _ _ ⟨z1, ⟨c, u1, u2⟩, z2⟩ => ⟨z1, ⟨c, s.sqt u1, s.sqt u2⟩, z2⟩⟩
theorem StayT.dr {H H' : Hp} {z : Addr} {r : RdrZ} {f : List ZRow} (s : StayT H H') (d : DrAt P w K H z r f) : DrAt P w K H' z r f := by
  obtain ⟨tr, tm, dS, ob, ps, more, h1, h2, h3, h4, h5, h6⟩ := d
  refine ⟨tr, tm, dS, ob, ps, more, s _ _ h1 (fun _ z => by cases z), s.sqt h2, Paired.mapP h3 fun _ _ ⟨c, u1, u2⟩ => ⟨c, s.sqt u1, s.sqt u2⟩, s.sqt h4, s _ _ h5 (fun qs e => ?_), s.nof h6⟩
  obtain ⟨φ, e2⟩ := h6.ext
  rw [e2] at e
  cases e
theorem StayT.bed {H H' : Hp} {b : Addr} {rows : List Sy.Row} (s : StayT H H') (h : BedAt K H b rows) : BedAt K H' b rows := by
  obtain ⟨dx, dA, tR, tK, dR, ps, h1, h2, h3, h4, h5, h6⟩ := h.ex
  exact ⟨dx, dA, tR, tK, dR, ps, s _ _ h1 (fun _ z => by cases z), s _ _ h2 (fun _ z => by cases z), s _ _ h3 (fun _ z => by cases z), s.sqt h4, s.sqt h5, Paired.mapP h6 fun _ _ z => s.sqt z⟩
theorem StayT.rd {H H' : Hp} {a b : Addr} {rows : List Sy.Row} {d : RdrZ} (s : StayT H H') (h : RdzAt P w K H a b rows d) : RdzAt P w K H' a b rows d := by
  obtain ⟨dx, tM, dE, ob, h1, h2, h3, h4, h5⟩ := h.ex
  refine ⟨dx, tM, dE, ob, s _ _ h1 (fun _ z => by cases z), s.bed h2, s.sqt h3, s _ _ h4 (fun qs e => ?_), s.nof h5⟩
  obtain ⟨φ, e2⟩ := h5.ext
  rw [e2] at e
  cases e
theorem StayT.db {H H' : Hp} {z : Addr} {m t : Nat} {r : Sy.Row} (s : StayT H H') (h : DbAt K H z m t r) : DbAt K H' z m t r := by
  obtain ⟨tr, tm, dS, yp, h1, h2⟩ := h
  exact ⟨tr, tm, dS, yp, s _ _ h1 (fun _ z => by cases z), s.sqt h2⟩
theorem gr_le {top n k : Nat} (h : n ≤ k) : gr top n ≤ gr top k := by
  induction k with
  | zero => rw [show n = 0 by omega]; exact Nat.le_refl _
  | succ k ih =>
    by_cases c : n = k + 1
    · rw [c]; exact Nat.le_refl _
    · exact Nat.le_trans (ih (by omega)) (gr_mono k)
theorem gr_long {top m : Nat} (ht : top ≤ 1) (hm : m ≤ 40) : gr top m ≤ 2000 := by
  refine Nat.le_trans (gr_le hm) ?_
  rcases (show top = 0 ∨ top = 1 by omega) with rfl | rfl <;> decide
theorem gr_few {top m most : Nat} (h : (top ≤ 2 ∧ most = 4) ∨ (top = 3 ∧ most = 3)) (hm : m ≤ most) : gr top m ≤ 2000 := by
  refine Nat.le_trans (gr_le hm) ?_
  rcases h with ⟨h, rfl⟩ | ⟨rfl, rfl⟩
  · rcases (show top = 0 ∨ top = 1 ∨ top = 2 by omega) with rfl | rfl | rfl <;> decide
  · decide
theorem DrOk.lp {rows : List Sy.Row} {m top : Nat} {d : RdrZ} {full : List ZRow} (h : DrOk rows m d full) (ok : RowsOk rows) (ht : ∀ r ∈ rows, r.2 ≤ top) : LpOk rows d m top :=
  ⟨ok, h.ed, h.m1, by have := h.m2; omega, h.pw, ht, fun x l a b c => (h.full x l a b c).2⟩
/-- no least plant is too big -/
theorem LInv.small {rows : List Sy.Row} {d : RdrZ} {m top : Nat} {E : EMap} {S : List Int} (I : LInv (Sz rows) (St rows d) m top E S) (hall : ∀ s ∈ kyE E, s ∈ S) (hg : gr top m ≤ 2000) {s : Int} {e : Ent} (h : lkE E s = some e) : e.1 ≤ 2000 := by
  have hk := lk_some.mpr ⟨e, h⟩
  have h1 := I.K s (hall s hk)
  rw [gE_of h] at h1
  have h2 := nd_le I.sn I.sub
  rw [kyE, List.length_map] at h2
  have h3 := I.lenE
  have h4 := gr_le (top := top) (show S.length ≤ m by omega)
  omega
abbrev DrX (P : Program) (w : World) (K : PySem.W.Frag) (rows : List Sy.Row) (top : Nat) (B : Hp) (z : Addr) (x : Nat × RdrZ × List ZRow) : Prop := DrOk rows x.1 x.2.1 x.2.2 ∧ DrAt P w K B z x.2.1 x.2.2 ∧ gr top x.1 ≤ 2000
abbrev RdX (P : Program) (w : World) (K : PySem.W.Frag) (rows : List Sy.Row) (B : Hp) (a : Addr) (x : Nat × RdrZ × List ZRow) : Prop := ∃ b, RdzAt P w K B a b rows x.2.1
def spLaw (K : PySem.W.Frag) (tb : Addr) : Sp := fun vs H Q _ => ∃ (s : Addr) (zs : List Int), vs = [.ref s] ∧ SqL K H s (zs.map V.int) ∧ zs.length ≤ 100000 ∧ H tb = some (.tbl #[]) ∧ ∀ H', Q (.bl true) H'
abbrev N_law : List Str := ["_law_script", "_law_box_here", "_law_mode", "_law_kinds", "_law_top", "_law_drawn", "_law_k", "_law_own", "_law_readers", "_law_one", "_law_pair"]
theorem sc_law : FnScope N_law ["_law_script"] (defScope (top 61)) := ⟨rfl, rfl, rfl, by decide +kernel, rfl, by decide +kernel, by decide +kernel⟩
theorem k_law {tb : Addr} (T : Txt K mg) {fd : FuncData} (F : FunD K "law" "law" (defArgs (top 61)) (defBody (top 61)) (defScope (top 61)) [] [] (He.ga K "law") fd)
    (c_law_box : Cal P w K mg base 1 "_law_box" ["_law_script", "_law_k"] (spBox K)) (c_law_take : Cal P w K mg base 1 "_law_take" ["_law_box_here", "_law_many"] spDraw) (c_law_bed : Cal P w K mg base 2 "_law_bed" ["_law_box_here", "_law_top"] (spBedL K))
    (c_law_long : Cal P w K mg base 2 "_law_long" ["_law_box_here", "_law_kinds", "_law_states"] (spLong P w K)) (c_law_reader : Cal P w K mg base 3 "_law_reader" ["_law_box_here", "_law_kinds", "_law_most"] (spRdr P w K)) (c_law_made : Cal P w K mg base 7 "_law_made" ["_law_text_here", "_law_drawn"] (spMade P w K)) (c_law_text : Cal P w K mg base 1 "_law_text" ["_law_kinds"] (spText K))
    (c_law_kept : Cal P w K mg base 5 "_law_kept" ["_law_kinds", "_law_drawn", "_law_reader_here"] (spKept P w K)) (c_law_doubler : Cal P w K mg base 3 "_law_doubler" ["_law_box_here", "_law_kinds"] (spDb P w K)) (c_law_doubled_right : Cal P w K mg base 9 "_law_doubled_right" ["_law_kinds", "_law_drawn", "_law_reader_here"] (spDr P w K tb))
    (c_law_told : Cal P w K mg base 8 "_law_told" ["_law_reader_here"] (spTold P w K tb)) (c_law_least_right : Cal P w K mg base 3 "_law_least_right" ["_law_kinds", "_law_drawn", "_law_told_here"] (spLrt P w K)) :
    FnOk P w K mg base (L2.CX P w) (9 + 1) (He.ga K "law") fd ["_law_script"] (spLaw K tb) := by
  refine F.ok sc_law (fun vs H Q E s => by obtain ⟨_, _, rfl, _⟩ := s; rfl) ?_
  intro cdv A outer s H vs Q E hr h
  obtain ⟨sa, zs, rfl, hs, hl, htb, hq⟩ := h
  have sc := sc_law
  suffices main : ∃ t, PSs (cxOf (L2.CX P w) P w K mg base N_law "law" (defScope (top 61)) (He.ga K "law") cdv A outer s H E) ((defBody (top 61)).drop 5) t ∧ ∀ (D : Ends) (H0 : Hp) (g1 q : Addr) (tp mode : Nat) (rows : List Sy.Row), D.rt = Q → Same H H0 → KtAt K H0 q rows → RowsL rows → (mode = 2 → ∀ r ∈ rows, r.2 ≤ 1) → (∀ r ∈ rows, r.2 ≤ tp) → tp ≤ 3 → (tp = 0 ∨ ∃ r ∈ rows, r.2 = tp) →
      t D [some (.ref sa), some (.ref g1), some (.int (mode : Nat)), some (.ref q), some (.int (tp : Nat)), none, none, none, none, none, none] H0 by
    obtain ⟨t, pt, ht⟩ := main
    refine ⟨_, (pss_cons (ps_set (i := 1) sc.nd rfl (Or.inl rfl) (pe_cal c_law_box hr (pa_cons (pv 0) (pa_cons pe_int pa_nil))))
      (pss_cons (ps_set (i := 2) sc.nd rfl (Or.inl rfl) (pe_cal c_law_take hr (pa_cons (pv 1) (pa_cons pe_int pa_nil))))
      (pss_cons (ps_set (i := 3) sc.nd rfl (Or.inr rfl) (pe_cal c_law_bed hr (pa_cons (pe_cal c_law_box hr (pa_cons (pv 0) (pa_cons pe_int pa_nil))) (pa_cons (pe_ix ix_list (pe_lst (pa_cons pe_int (pa_cons pe_int pa_nil))) (pe_callTy call_int1 (by rfl) T.int (by decide +kernel) (pa_cons (pe_cmpR op_eq (pv 2) pe_int (nomark _)) pa_nil)) (fun _ _ => rfl)) pa_nil))))
      (pss_cons (ps_set (i := 4) sc.nd rfl (Or.inl rfl) (pe_callB (cr_max rfl) (by rfl) T.max (by decide +kernel) (pa_cons (pe_lc (own := [("_law_pair", 10)]) (g := gName 10) (te := tOp (rIxT K) (tVar 10) (tC (.int 1))) rfl sc.nd (pi_tup (pv 3)) (blkOk_by (N := N_law) (sc := defScope (top 61)) (by decide +kernel)) (fun _ _ _ _ _ => (pg_name (i := 10) sc.nd rfl (Or.inl rfl))) (fun _ _ _ _ _ => pts_nil) (fun _ _ _ _ _ => (pe_ix ix_tup (pv 10) pe_int (fun _ _ => rfl)))) pa_nil)))
      (pss_cons (ps_if (PW.pt (pw_and (pt_cmpR op_eq (pv 2) pe_int (nomark _)) (pw_and1 (pt_cmpR op_gt (pv 4) pe_int (nomark _)))))
        (pss_cons (ps_set (i := 5) sc.nd rfl (Or.inl rfl) (pe_cal c_law_doubler hr (pa_cons (pe_cal c_law_box hr (pa_cons (pv 0) (pa_cons pe_int pa_nil))) (pa_cons (pv 3) pa_nil))))
        (pss_one (ps_ret (pe_cal c_law_doubled_right hr (pa_cons (pv 3) (pa_cons (pv 5) (pa_cons (pe_cal c_law_made hr (pa_cons (pe_cal c_law_text hr (pa_cons (pv 3) pa_nil)) (pa_cons (pv 5) pa_nil))) pa_nil)))))))
        pss_nil)
      pt))))), ?_⟩
    refine ⟨_, rfl, sa, zs, 0, rfl, hs, hl, by decide, fun g1 H1 hg1 s1 bag1 => ?_⟩
    obtain ⟨l1, hl1, h1⟩ := bag1.take
    have sB1 : Same H (L2.del H1 g1) := same_del hg1 s1
    generalize L2.del H1 g1 = B1 at *
    refine ⟨_, rfl, g1, 8, rfl, h1.bag hl1, by decide, by decide, fun md H2 hmd d2 => ?_⟩
    obtain ⟨l2, B2, hl2, s2, h2, _⟩ := h1.dr0 d2
    have sH2 : Same H H2 := (sB1.trans s2).trans h2.sub
    clear h1 h2 d2 hl1 hl2 sB1 s1 s2
    refine ⟨_, rfl, sa, zs, 1, rfl, Same.sql sH2 hs, hl, by decide, fun g4 H4 hg4 s4 bag4 => ?_⟩
    obtain ⟨l4, hl4, h4⟩ := bag4.take
    have sB4 : Same H (L2.del H4 g4) := sH2.trans (same_del hg4 s4)
    generalize L2.del H4 g4 = B4 at *
    refine ⟨(by show 2 ≤ sizeLine; decide), fun D0 hD0 => ?_⟩
    have h4' := h4.lay (o := .lst [.int 3, .int 1]) hD0
    obtain ⟨lg, elg⟩ : ∃ lg, lg = decide (V.int ((md : Nat) : Int) = V.int 2) := ⟨_, rfl⟩
    obtain ⟨mx, emx, hmx, hmx1⟩ : ∃ mx : Nat, atI ([.int 3, .int 1] : List V) (if lg = true then 1 else 0) = some (.int (mx : Nat)) ∧ mx ≤ 3 ∧ (lg = true → mx ≤ 1) := by
      clear elg
      cases lg
      · exact ⟨3, rfl, by decide, fun z => (nomatch z)⟩
      · exact ⟨1, rfl, by decide, fun _ => by decide⟩
    refine ⟨_, rfl, rfl, .inr ⟨lg, by rw [elg], D0, _, _, _, rfl, rfl, SqL.of upd_same, emx, g4, mx, rfl, h4'.bag hl4, hmx, fun q rows H5 rl har d5 kt => ?_⟩⟩
    obtain ⟨l5, B5, hl5, s5, h5, _⟩ := h4'.dr0 d5
    have sH5 : Same H H5 := (sB4.trans s5).trans h5.sub
    clear h4 h4' h5 d5 hl4 hl5 s5 sB4 sH2
    have rle := rl.le
    have rpos := rl.pos
    obtain ⟨pk, hK1, hK2⟩ := id kt
    have hpl := paired_len hK2
    have hzf : (pk.zip rows).map (fun p => V.ref p.1) = pk.map V.ref := by
      conv => rhs; rw [← zip_fst hpl]
      rw [List.map_map]
      rfl
    have hLz : SqT K H5 q ((pk.zip rows).map fun p => V.ref p.1) := by rw [hzf]; exact hK1
    have hzp := paired_zip hK2
    have hzl : (pk.zip rows).length ≤ 4 := by rw [List.length_zip]; omega
    simp only [List.set_cons_succ, List.set_cons_zero]
    refine ⟨_, rfl, q, rfl, ⟨_, hLz⟩, fun D hD => lc_filtT (K := K) (α := Addr × Sy.Row) (a := q) (xs := pk.zip rows) (f := fun p => V.ref p.1) (out := fun p => V.int (p.2.2 : Nat)) (keep := fun _ => true) (Hs.start H5) hD hLz (by omega) (fun x hx H6 s6 R1 R2 y1 _ => ?_) fun H6 h6 => ?_⟩
    · simp only [tYes, if_true, wipe, List.map_cons, List.map_nil, List.set_cons_succ, List.set_cons_zero]
      exact ⟨_, rfl, x.1, _, 1, _, rfl, rfl, Same.sqt s6 (hzp x hx), atI_nat (j := 1) rfl, y1 rfl⟩
    rw [List.filter_eq_self.mpr (fun _ _ => rfl)] at h6
    have emap : (pk.zip rows).map (fun p => V.int (p.2.2 : Nat)) = (rows.map fun r : Sy.Row => ((r.2 : Nat) : Int)).map V.int := by
      rw [List.map_map]
      conv => rhs; rw [← zip_snd hpl]
      rw [List.map_map]
      rfl
    rw [emap] at h6
    have s56 := h6.sub
    refine ⟨D, rows.map fun r : Sy.Row => ((r.2 : Nat) : Int), rfl, SqL.of h6.r0, by rw [List.length_map]; exact rpos, fun mm hmm hall => ?_⟩
    obtain ⟨rm, hrm, rfl⟩ := List.mem_map.mp hmm
    have htp : ∀ r ∈ rows, r.2 ≤ rm.2 := fun r hr' => by
      have := hall _ (List.mem_map.mpr ⟨r, hr', rfl⟩)
      have this : ((r.2 : Nat) : Int) ≤ ((rm.2 : Nat) : Int) := this
      omega
    have htp3 := rl.ok.br rm hrm
    have sH6 := sH5.trans s56
    replace kt := kt.mono (Stay.of s56)
    have go := fun (Dn : Ends) (hrt : Dn.rt = Q) => ht Dn H6 g1 q rm.2 md rows hrt sH6 kt rl (fun z r hr' => Nat.le_trans (har r hr') (hmx1 (by rw [elg, z]; rfl))) htp htp3 (.inr ⟨rm, hrm, rfl⟩)
    refine ⟨_, rfl, rfl, _, rfl, if_dec (fun c => ⟨_, rfl, _, _, rfl, rfl, _, rfl, if_dec (fun c2 => ?_) (fun c2 => go _ rfl)⟩) (fun c => go _ rfl)⟩
    refine ⟨_, rfl, sa, zs, 2, rfl, Same.sql sH6 hs, hl, by decide, fun g7 H7 hg7 s7 bag7 => ?_⟩
    obtain ⟨l7, B7, hl7, sB7, h7⟩ := (Hs.start H6).box AllL.nil hg7 s7 bag7
    refine ⟨_, rfl, g7, q, rows, rfl, h7.bag hl7, kt.mono (Stay.of (sB7.trans h7.sub)), rl, ⟨rm, hrm, by omega⟩, fun z d full m ip tt rr H8 dok d8 da db Dd hm12 hz => ?_⟩
    obtain ⟨l8, B8, hl8, s8, h8, _⟩ := h7.dr0 d8
    have s68 : Same H6 H8 := (sB7.trans s8).trans h8.sub
    clear h7 h8 d8 hl7 hl8 bag7
    refine ⟨_, rfl, _, rfl, _, rfl, q, rows, rfl, kt.mono (Stay.of s68), rl, fun H9 s9 => ⟨_, rfl, z, rows, d, full, m, rfl, rl, dok, da.mono s9, fun H10 a b s10 rd => ?_⟩⟩
    have s810 := s9.trans s10
    have htb10 := ((sH6.trans s68).trans s810) _ _ htb
    have st := stayT_del htb10
    have db10 : DbAt K H10 z m tt rr := by
      obtain ⟨tr, tm, dS, yp, e1, e2⟩ := db
      exact ⟨tr, tm, dS, yp, s810 _ _ e1, Same.sqt s810 e2⟩
    exact ⟨q, z, a, b, rows, m, ip, tt, 3, d, rr, L2.del H10 tb, #[], rfl, (Hs.start H10).take htb10, TbOk.nil _ _, st.kt (kt.mono (Stay.of (s68.trans s810))), rl, st.db db10, Dd, st.rd rd, dok.lp rl.ok rl.ok.br, hm12, fun H' _ _ _ => hq H'⟩
  refine ⟨_, (pss_cons (ps_set (i := 5) sc.nd rfl (Or.inl rfl) (pe_lst pa_nil))
      (pss_cons (ps_for (passes_of rfl) rfl (pi_list (pe_lst (pa_cons pe_int (pa_cons pe_int pa_nil)))) (pg_name (i := 6) sc.nd rfl (Or.inl rfl))
        (pss_cons (ps_set (i := 7) sc.nd rfl (Or.inl rfl) (pe_cal c_law_box hr (pa_cons (pv 0) (pa_cons (pv 6) pa_nil))))
        (pss_one (ps_if (pt_cmpR op_eq (pv 2) pe_int (nomark _))
          (pss_one (ps_expr (pe_bm PySem.F.plainAttrs_list PySem.F.slot_list_append PySem.F.type_list_append mt_append (pv 5) (pa_cons (pe_cal c_law_long hr (pa_cons (pv 7) (pa_cons (pv 3) (pa_cons (pe_op op_add pe_int (pe_cal c_law_take hr (pa_cons (pv 7) (pa_cons pe_int pa_nil)))) pa_nil)))) pa_nil))))
          (pss_one (ps_expr (pe_bm PySem.F.plainAttrs_list PySem.F.slot_list_append PySem.F.type_list_append mt_append (pv 5) (pa_cons (pe_cal c_law_reader hr (pa_cons (pv 7) (pa_cons (pv 3) (pa_cons (pe_ix ix_list (pe_lst (pa_cons pe_int (pa_cons pe_int (pa_cons pe_int (pa_cons pe_int pa_nil))))) (pv 4) (fun _ _ => rfl)) pa_nil)))) pa_nil))))))))
      (pss_cons (ps_setLc (i := 8) (own := [("_law_one", 9)]) (g := gName 9) rfl sc.nd rfl rfl (sw_true rfl rfl rfl (by decide +kernel)) (pi_list (pv 5)) (blkOk_by (N := N_law) (sc := defScope (top 61)) (by decide +kernel)) (fun _ _ _ _ _ => (pg_name (i := 9) sc.nd rfl (Or.inl rfl))) (fun _ _ _ _ _ => pts_nil) (fun _ _ _ _ _ => (pe_cal c_law_made hr (pa_cons (pe_cal c_law_text hr (pa_cons (pv 3) pa_nil)) (pa_cons (pv 9) pa_nil)))))
      (pss_cons (ps_for (passes_of rfl) rfl (pi_list (pe_lst (pa_cons pe_int (pa_cons pe_int (pa_cons pe_int pa_nil))))) (pg_name (i := 6) sc.nd rfl (Or.inl rfl))
        (pss_one (ps_if (pt_not (pt_val (pe_cal c_law_least_right hr (pa_cons (pv 3) (pa_cons (pe_ix ix_list (pv 5) (pv 6) (fun _ _ => rfl)) (pa_cons (pe_cal c_law_told hr (pa_cons (pe_ix ix_list (pv 8) (pv 6) (fun _ _ => rfl)) pa_nil)) pa_nil))))))
          (pss_one (ps_ret pe_bl))
          pss_nil)))
      (pss_one (ps_ret (pe_and (pe_cal c_law_kept hr (pa_cons (pv 3) (pa_cons (pe_ix ix_list (pv 5) pe_int (fun _ _ => rfl)) (pa_cons (pe_ix ix_list (pv 8) pe_int (fun _ _ => rfl)) pa_nil)))) (pe_one (pe_cal c_law_kept hr (pa_cons (pv 3) (pa_cons (pe_ix ix_list (pv 5) pe_int (fun _ _ => rfl)) (pa_cons (pe_ix ix_list (pv 8) pe_int (fun _ _ => rfl)) pa_nil)))))))))))), ?_⟩
  intro Dn H6 g1 q tp mode rows hrt sH6 kt rl hmode htp htp3 htpe
  refine ⟨by decide, fun D hD => ?_⟩
  have h7 := (Hs.start H6).new (o := .lst (([] : List Addr).map V.ref)) hD
  refine ⟨(by show 2 ≤ sizeLine; decide), fun L hL => ?_⟩
  have h8 := h7.tup (o := .lst [.int 2, .int 3]) hL
  have s8 : Same H6 (upd H6 L (.lst [.int 2, .int 3])) := up_same (h7.sub.free hL)
  have eL : upd H6 L (.lst [.int 2, .int 3]) L = some (.lst [.int 2, .int 3]) := upd_same
  generalize upd H6 L (.lst [.int 2, .int 3]) = B8 at *
  refine ⟨L, rfl, ⟨_, SqL.of (h8.sub _ _ eL)⟩, for_list (K := K) (xs := [.int 2, .int 3]) (fun i σ H' => ∃ (t6 t7 : Option V) (B : Hp) (zz : List Addr) (xx : List (Nat × RdrZ × List ZRow)), σ = [some (.ref sa), some (.ref g1), some (.int (mode : Nat)), some (.ref q), some (.int (tp : Nat)), some (.ref D), t6, t7, none, none, none] ∧ Same B8 B ∧ Hs B [(D, .lst (zz.map V.ref))] H' ∧ zz.length = i ∧ Paired (DrX P w K rows tp B) zz xx)
    ⟨none, none, B8, [], [], rfl, Same.refl _, h8, rfl, .nil⟩ (fun _ _ _ _ ⟨_, _, _, _, _, _, sB, z, _⟩ => SqL.of (z.sub _ _ (sB _ _ eL))) ?_ ?_⟩
  · rintro i v σ H9 hv ⟨t6, t7, B, zz, xx, rfl, sB, hh, hzz, hP⟩
    obtain ⟨k, rfl, hk⟩ : ∃ k : Nat, v = .int (k : Nat) ∧ k < 100 := by
      match i, hv with
      | 0, hv => cases hv; exact ⟨2, rfl, by decide⟩
      | 1, hv => cases hv; exact ⟨3, rfl, by decide⟩
    have hi : i < 2 := (List.getElem?_eq_some_iff.mp hv).1
    have sH9 := ((sH6.trans s8).trans sB).trans hh.sub
    simp only [List.set_cons_succ, List.set_cons_zero]
    refine ⟨_, rfl, _, rfl, sa, zs, k, rfl, Same.sql sH9 hs, hl, hk, fun g H10 hg s10 bag => ?_⟩
    obtain ⟨l10, B10, hl10, sB10, h10⟩ := hh.box allL1 hg s10 bag
    have kt10 := kt.mono (Stay.of (((s8.trans sB).trans sB10).trans h10.sub))
    -- what is drawn goes to the list
    have put : ∀ {B1 H1 H2 : Hp} {lb : List Int} {z : Addr} {m : Nat} {d : RdrZ} {full : List ZRow}, Same B10 B1 → Hs B1 [(g, .lst (lb.map V.int)), (D, .lst (zz.map V.ref))] H1 → DrOk rows m d full → Dr g H1 H2 → DrAt P w K H2 z d full → H1 z = none → gr tp m ≤ 2000 →
        ∃ B', Same B B' ∧ Hs B' [(D, .lst (zz.map V.ref))] H2 ∧ DrX P w K rows tp B' z (m, d, full) := fun {B1 H1 H2 lb z m d full} sb h1 dok dr da hz hgr => by
      obtain ⟨l', B', hl', s', h', e'⟩ := h1.dr0 dr
      refine ⟨B', (sB10.trans sb).trans s', h'.drop, dok, ?_, hgr⟩
      rw [e']
      exact da.cutL h' allL2 (h1.out_new hz)
    refine ⟨_, rfl, rfl, _, rfl, if_dec (fun c => ?_) (fun c => ?_)⟩
    · have hm2 : mode = 2 := by have := V.int.inj c; omega
      refine ⟨_, rfl, .inl ⟨rfl, _, SqL.of h10.r1⟩, _, rfl, _, rfl, _, rfl, g, 21, rfl, h10.bag hl10, by decide, by decide, fun r H11 hr11 d11 => ⟨_, _, rfl, rfl, ?_⟩⟩
      obtain ⟨l11, B11, hl11, s11, h11, _⟩ := h10.dr0 d11
      refine ⟨g, q, 20 + r, rows, rfl, h11.bag hl11, kt.mono (Stay.of ((((s8.trans sB).trans sB10).trans s11).trans h11.sub)), rl, hmode hm2, by omega, by omega, fun z d full m H12 dok d12 da hz => ?_⟩
      have htp1 : tp ≤ 1 := by
        rcases htpe with z | ⟨r', hr', er'⟩
        · omega
        · have := hmode hm2 r' hr'
          omega
      obtain ⟨B12, sB12, h12, dx⟩ := put s11 h11 dok d12 da hz (gr_long htp1 dok.m2)
      refine ⟨D, _, _, rfl, rfl, h12.r0, by rw [List.length_map, sizeLine_eq]; omega, _, _, B12, zz ++ [z], xx ++ [(m, d, full)], rfl, sB.trans sB12, by rw [List.map_append]; exact h12.w0, by rw [List.length_append, hzz]; rfl, Paired.snoc (Paired.mapP hP fun _ _ y => ⟨y.1, y.2.1.mono sB12, y.2.2⟩) dx⟩
    · obtain ⟨most, emost, hmf⟩ : ∃ most : Nat, ([.int 4, .int 4, .int 4, .int 3] : List V)[tp]? = some (.int (most : Nat)) ∧ ((tp ≤ 2 ∧ most = 4) ∨ (tp = 3 ∧ most = 3)) := by
        rcases (show tp = 0 ∨ tp = 1 ∨ tp = 2 ∨ tp = 3 by omega) with z | z | z | z
        · rw [z]; exact ⟨4, rfl, .inl ⟨by decide, rfl⟩⟩
        · rw [z]; exact ⟨4, rfl, .inl ⟨by decide, rfl⟩⟩
        · rw [z]; exact ⟨4, rfl, .inl ⟨by decide, rfl⟩⟩
        · rw [z]; exact ⟨3, rfl, .inr ⟨rfl, rfl⟩⟩
      have hpm : ∀ r ∈ rows, most ^ r.2 ≤ 2000 := fun r hr' => Nat.le_trans (Nat.pow_le_pow_left (show most ≤ 4 by omega) _) (Nat.le_trans (Nat.pow_le_pow_right (n := 4) (by decide) (show r.2 ≤ 3 by have := htp r hr'; omega)) (by decide))
      refine ⟨_, rfl, .inl ⟨rfl, _, SqL.of h10.r1⟩, _, rfl, _, rfl, (by show 4 ≤ sizeLine; decide), fun D4 hD4 => ?_⟩
      have h10' := h10.lay (o := .lst [.int 4, .int 4, .int 4, .int 3]) hD4
      refine ⟨_, rfl, D4, _, _, _, rfl, rfl, SqL.of upd_same, atI_nat emost, g, q, most, rows, rfl, by omega, by omega, hpm, h10'.bag hl10, kt.mono (Stay.of (((s8.trans sB).trans sB10).trans h10'.sub)), rl, fun z d full m H12 dok d12 da hz hmm => ?_⟩
      obtain ⟨B12, sB12, h12, dx⟩ := put (Same.refl _) h10' dok d12 da hz (gr_few hmf hmm)
      refine ⟨D, _, _, rfl, rfl, h12.r0, by rw [List.length_map, sizeLine_eq]; omega, _, _, B12, zz ++ [z], xx ++ [(m, d, full)], rfl, sB.trans sB12, by rw [List.map_append]; exact h12.w0, by rw [List.length_append, hzz]; rfl, Paired.snoc (Paired.mapP hP fun _ _ y => ⟨y.1, y.2.1.mono sB12, y.2.2⟩) dx⟩
  · rintro σ H9 ⟨t6, t7, B, zz, xx, rfl, sB, hh, hzz, hP⟩
    have ez : ∃ z0 z1 x0 x1, zz = [z0, z1] ∧ xx = [x0, x1] := by
      have hx := paired_len hP
      rw [hzz] at hx
      obtain ⟨z0, z1, rfl⟩ := len2 hzz
      obtain ⟨x0, x1, rfl⟩ := len2 hx.symm
      exact ⟨z0, z1, x0, x1, rfl, rfl⟩
    obtain ⟨z0, z1, x0, x1, rfl, rfl⟩ := ez
    have sH9 := ((sH6.trans s8).trans sB).trans hh.sub
    have s69 := (s8.trans sB).trans hh.sub
    replace kt := kt.mono (Stay.of s69)
    have hDw : H9 D = some (.lst [.ref z0, .ref z1]) := hh.r0
    obtain ⟨dx0, dx1⟩ : DrX P w K rows tp H9 z0 x0 ∧ DrX P w K rows tp H9 z1 x1 := by
      cases hP with
      | cons a b =>
        cases b with
        | cons b c => exact ⟨⟨a.1, a.2.1.mono hh.sub, a.2.2⟩, ⟨b.1, b.2.1.mono hh.sub, b.2.2⟩⟩
    clear hh hP sB s69 s8 h8 h7 eL sH6 hD hL hzz
    -- the readers
    refine ⟨_, rfl, D, rfl, ⟨_, SqL.of hDw⟩, fun R hR => lc_list (K := K) (a := D) (xs := [.ref z0, .ref z1]) (fun i H' => ∃ (B : Hp) (as : List Addr), Same H9 B ∧ Hs B [(R, .lst (as.map V.ref))] H' ∧ Paired (RdX P w K rows B) as ([x0, x1].take i) ∧ as.length = i)
      ⟨H9, [], Same.refl _, (Hs.start H9).new hR, .nil, rfl⟩ (fun _ _ _ ⟨_, _, s', z, _⟩ => SqL.of (z.sub _ _ (s' _ _ hDw))) ?_ ?_⟩
    · rintro i v H10 hv ⟨B, as, sB, hh, hP, hal⟩
      obtain ⟨z, x, rfl, ex, dz⟩ : ∃ z x, v = .ref z ∧ [x0, x1][i]? = some x ∧ DrX P w K rows tp H9 z x := by
        match i, hv with
        | 0, hv => cases hv; exact ⟨z0, x0, rfl, rfl, dx0⟩
        | 1, hv => cases hv; exact ⟨z1, x1, rfl, rfl, dx1⟩
      have hi : i < 2 := (List.getElem?_eq_some_iff.mp hv).1
      have s10 := sB.trans hh.sub
      refine ⟨rfl, ?_⟩
      simp only [tYes, if_true, wipe, List.map_cons, List.map_nil, List.set_cons_succ, List.set_cons_zero]
      refine ⟨_, rfl, q, rows, rfl, kt.mono (Stay.of s10), rl, fun H11 s11 => ?_⟩
      refine ⟨_, rfl, z, rows, x.2.1, x.2.2, x.1, rfl, rl, dz.1, dz.2.1.mono (s10.trans s11), fun H12 a b s12 rd => ?_⟩
      obtain ⟨B12, sB12, h12, st12⟩ := hh.go allL1 (s11.trans s12)
      refine ⟨_, h12.r0, by rw [List.length_map, sizeLine_eq]; omega, B12, as ++ [a], sB.trans sB12, by rw [List.map_append]; exact h12.w0, ?_, by rw [List.length_append, hal]; rfl⟩
      rw [List.take_succ, ex]
      exact Paired.snoc (Paired.mapP hP fun _ _ ⟨b, y⟩ => ⟨b, y.mono (Stay.of sB12)⟩) ⟨b, rd.mono st12⟩
    rintro H10 ⟨B, as, sB, hh, hP, hal⟩
    obtain ⟨a0, a1, rfl⟩ := len2 hal
    have s10 := sB.trans hh.sub
    have hRw : H10 R = some (.lst [.ref a0, .ref a1]) := hh.r0
    obtain ⟨⟨b0, rd0⟩, ⟨b1, rd1⟩⟩ : RdX P w K rows H10 a0 x0 ∧ RdX P w K rows H10 a1 x1 := by
      cases hP with
      | cons a b =>
        cases b with
        | cons b c =>
          obtain ⟨u, y⟩ := a
          obtain ⟨u', y'⟩ := b
          exact ⟨⟨u, y.mono (Stay.of hh.sub)⟩, ⟨u', y'.mono (Stay.of hh.sub)⟩⟩
    have htb10 := (sH9.trans s10) _ _ htb
    have st := stayT_del htb10
    have h0 := (Hs.start H10).take htb10
    replace kt := st.kt (kt.mono (Stay.of s10))
    replace hDw := st _ _ (s10 _ _ hDw) (fun _ z => by cases z)
    replace hRw := st _ _ hRw (fun _ z => by cases z)
    replace rd0 := st.rd rd0
    replace rd1 := st.rd rd1
    have da0 := st.dr (dx0.2.1.mono s10)
    have da1 := st.dr (dx1.2.1.mono s10)
    have tok0 : TbOk (L2.del H10 tb) #[] lamQ := TbOk.nil _ _
    generalize L2.del H10 tb = B0 at *
    clear hh hP sB s10 sH9 hal hs hR htb htb10 st
    have both : ∀ k, k < 2 → ∃ (z a b : Addr) (x : Nat × RdrZ × List ZRow), ([.ref z0, .ref z1] : List V)[k]? = some (.ref z) ∧ ([.ref a0, .ref a1] : List V)[k]? = some (.ref a) ∧ DrOk rows x.1 x.2.1 x.2.2 ∧ DrAt P w K B0 z x.2.1 x.2.2 ∧ gr tp x.1 ≤ 2000 ∧ RdzAt P w K B0 a b rows x.2.1 := fun k hk => by
      match k, hk with
      | 0, _ => exact ⟨z0, a0, b0, x0, rfl, rfl, dx0.1, da0, dx0.2.2, rd0⟩
      | 1, _ => exact ⟨z1, a1, b1, x1, rfl, rfl, dx1.1, da1, dx1.2.2, rd1⟩
    simp only [List.set_cons_succ, List.set_cons_zero]
    refine ⟨(by show 3 ≤ sizeLine; decide), fun L2 hL2 => ?_⟩
    have h1 := h0.tup (o := .lst [.int 0, .int 1, .int 0]) hL2
    have s1 : Same B0 (upd B0 L2 (.lst [.int 0, .int 1, .int 0])) := up_same (h0.sub.free hL2)
    have eL2 : upd B0 L2 (.lst [.int 0, .int 1, .int 0]) L2 = some (.lst [.int 0, .int 1, .int 0]) := upd_same
    generalize upd B0 L2 (.lst [.int 0, .int 1, .int 0]) = B1 at *
    refine ⟨L2, rfl, ⟨_, SqL.of (h1.sub _ _ eL2)⟩, for_list (K := K) (xs := [.int 0, .int 1, .int 0]) (fun i σ H' => ∃ (t6 : Option V) (B : Hp) (ps : Array Value), σ = [some (.ref sa), some (.ref g1), some (.int (mode : Nat)), some (.ref q), some (.int (tp : Nat)), some (.ref D), t6, t7, some (.ref R), none, none] ∧ Same B1 B ∧ Hs B [(tb, .tbl ps)] H' ∧ TbOk B ps lamQ)
      ⟨_, B1, #[], rfl, Same.refl _, h1, tok0.same s1⟩ (fun _ _ _ _ ⟨_, _, _, _, sB, z, _⟩ => SqL.of (z.sub _ _ (sB _ _ eL2))) ?_ ?_⟩
    · rintro i v σ H11 hv ⟨t6, B, ps, rfl, sB, hh, tok⟩
      obtain ⟨k, rfl, hk⟩ : ∃ k : Nat, v = .int (k : Nat) ∧ k < 2 := by
        match i, hv with
        | 0, hv => cases hv; exact ⟨0, rfl, by decide⟩
        | 1, hv => cases hv; exact ⟨1, rfl, by decide⟩
        | 2, hv => cases hv; exact ⟨0, rfl, by decide⟩
      obtain ⟨z, a, b, x, ez, ea, dok, da, hgr, rd⟩ := both k hk
      have s0 := s1.trans sB
      have sH := s0.trans hh.sub
      simp only [List.set_cons_succ, List.set_cons_zero]
      refine ⟨_, rfl, _, rfl, _, rfl, D, _, _, _, rfl, rfl, SqL.of (sH _ _ hDw), atI_nat ez, _, rfl, _, rfl, R, _, _, _, rfl, rfl, SqL.of (sH _ _ hRw), atI_nat ea, a, b, rows, x.2.1, x.1, tp, B, ps, rfl, hh, tok, rd.mono (Stay.of s0), dok.lp rl.ok htp, fun H12 ps2 q2 xs E S chg tok2 hx hLs LI hall hle => ?_, fun H12 ps2 E S v chg tok2 LI hall hx im => ?_⟩
      · obtain ⟨c12, h12⟩ := hh.chg chg
        have nc : NC [(tb, HO.tbl ps2)] := NC.nil.tbl
        have tok3 := nc.tb h12 tok2
        have s12 := s0.trans (c12.trans h12.sub)
        refine ⟨q, z, q2, rows, x.1, tp, x.2.1, x.2.2, xs, E, S, rfl, kt.mono (Stay.of s12), rl, dok, da.mono s12, hx, hLs, LI, hall, hle, fun H13 s13 => ⟨_, rfl, iteF ?_⟩⟩
        obtain ⟨c13, h13⟩ := h12.after s13
        exact ⟨_, _, ps2, rfl, (sB.trans c12).trans c13, h13, tok3.same c13⟩
      · obtain ⟨s, e, he, hgt⟩ := hx
        have := LI.small hall hgr he
        omega
    · rintro σ H11 ⟨t6, B, ps, rfl, sB, hh, tok⟩
      have sH := (s1.trans sB).trans hh.sub
      have rq0 : Rq P w K H11 q z0 a0 b0 rows x0.1 x0.2.1 x0.2.2 := ⟨kt.mono (Stay.of sH), rl, dx0.1, da0.mono sH, rd0.mono (Stay.of sH)⟩
      have rq1 : Rq P w K H11 q z1 a1 b1 rows x1.1 x1.2.1 x1.2.2 := ⟨kt.mono (Stay.of sH), rl, dx1.1, da1.mono sH, rd1.mono (Stay.of sH)⟩
      refine ⟨_, rfl, _, rfl, D, _, 0, _, rfl, rfl, SqL.of (sH _ _ hDw), atI_nat (j := 0) rfl, _, rfl, R, _, 0, _, rfl, rfl, SqL.of (sH _ _ hRw), atI_nat (j := 0) rfl, q, z0, a0, b0, rows, x0.1, x0.2.1, x0.2.2, rfl, rq0, fun H12 s12 => ?_⟩
      refine ⟨_, rfl, iteT ?_⟩
      refine ⟨_, rfl, _, rfl, D, _, 1, _, rfl, rfl, SqL.of ((sH.trans s12) _ _ hDw), atI_nat (j := 1) rfl, _, rfl, R, _, 1, _, rfl, rfl, SqL.of ((sH.trans s12) _ _ hRw), atI_nat (j := 1) rfl, q, z1, a1, b1, rows, x1.1, x1.2.1, x1.2.2, rfl, rq1.mono s12, fun H13 s13 => ?_⟩
      rw [hrt]
      exact hq H13
end
end Sy
/-! the head's facts, own errors with an __init__ among them -/
namespace Sy
open PySem PySem.Spec PyProof.Rows L2
theorem oexB_ok {K : PySem.W.Frag} {C : Addr} (h : oexB K C = true) : ∃ nm q N bs bm sn sub ab col dd k0 k1 k2 k3 k5, K.lookup C = some (excClassObj nm q C N bs bm true sn sub ab col dd k0 k1 k2 k3 k5 "ValueError.__new__") ∧ HandSPX.refsVE bm = true := by
  unfold oexB at h
  split at h
  · rename_i t dd cd sl ho
    split at h
    · rename_i C' bm k0 k1 k2 k3 n k5 hm hs
      simp only [Bool.and_eq_true, decide_eq_true_eq, Bool.not_eq_true'] at h
      obtain ⟨h1, h2, h3, h4, h5, h6⟩ := h
      obtain ⟨nm, bs, mro, ns, qn, hd, sn, sub, ab, col, del⟩ := cd
      dsimp only at hm h4 h5
      subst hm h4 h5 h1 h2 h3
      have hsl : sl = #[k0, k1, k2, k3, some (.builtin "ValueError.__new__"), k5] := by
        obtain ⟨z⟩ := sl
        simp only at hs
        rw [hs]
      subst hsl
      exact ⟨nm, qn, ns, bs, bm, sn, sub, ab, col, dd, k0, k1, k2, k3, k5, ho, h6⟩
    · cases h
  · cases h
theorem initB_ok {K : PySem.W.Frag} {file : Str} {d : ErD} (e : erW K d.x = d.val) (h : initB K file d.x d.q = true) : ∃ (cc cd : Addr) (oc : Value) (od : Option Addr) (kV doc pm : Value) (an : Option Addr) (ct : Value) (osl : Array (Option Value)),
    K.lookup (iniA K d.x) = some ⟨oc, od, .func (PySem.W.fnX "__init__" d.q (defArgs d.st) (defBody d.st) (defScope d.st) [("__class__", cc)] .none kV doc pm an (.ref cd) ct), osl⟩ ∧ PySem.W.codeIn K (.ref cd) d.q = true ∧
    (∃ (cl : Value) (dd : Option Addr) (vs : Array Value) (sl : Array (Option Value)) (fi : Str) (tf : Tok), K.lookup cd = some ⟨cl, dd, .fields vs, sl⟩ ∧ vs[2]? = some (.str fi tf) ∧ (file == fi) = true) ∧ ∃ (cl : Value) (dd : Option Addr) (sl : Array (Option Value)), K.lookup cc = some ⟨cl, dd, .cell (some (.ref (He.ga K d.x))), sl⟩ := by
  unfold initB at h
  unfold erW at e
  split at h
  · rename_i oc od fd osl ho
    rw [ho] at e
    obtain ⟨n1, n2, n3, n4, n5, n6, n7, n8, n9, n10, n11, n12, n13, n14, n15⟩ := fd
    have e2 : (some (n1, n2, n3, n4, n5, n6, n7.map (·.1), n15) : FnE) = d.val := e
    unfold ErD.val at e2
    simp only [Option.some.injEq, Prod.mk.injEq] at e2
    obtain ⟨e1, e2, e3, e4, e5, e6, e7, e8⟩ := e2
    simp only [Bool.and_eq_true] at h
    obtain ⟨h1, h2, h3, h4⟩ := h
    have hd : n8 = .none := by
      split at h4
      · first | rfl | assumption
      · cases h4
    unfold fileB at h2
    split at h2
    · rename_i cd
      unfold cellB at h3
      split at h3
      · rename_i y cc
        have hy : y = "__class__" := by simpa using e7
        subst hy
        split at h3
        · rename_i cl2 dd2 D sl2 hc
          have hD := of_decide_eq_true h3
          subst hD
          split at h2
          · rename_i cl dd vs sl hv
            split at h2
            · rename_i fi tf hf
              subst e1 e2 e3 e4 e5 e6 e8 hd
              exact ⟨cc, cd, oc, od, n9, n10, n11, n12, n14, osl, ho, h1, ⟨cl, dd, vs, sl, fi, tf, hv, hf, h2⟩, ⟨cl2, dd2, sl2, hc⟩⟩
            · cases h2
          · cases h2
        · cases h3
      · cases h3
    · cases h2
  · cases h
theorem ErD.errB {P : Program} {K : PySem.W.Frag} {h : Heap} {mg : Str → Option Value} {d : ErD} (X : K.In h) (G : h.Ns mainGlobals mg) (e : erW K d.x = d.val) (c : d.ok P.main.file K = true) (mS : mg "super" = none) (top : (P.main.scope.names.lookup ("super" : Str)).isSome = false) : ErrB P K mg d.x d.q d.st d.fs := by
  obtain ⟨c1, c⟩ := Bool.and_eq_true_iff.mp c
  obtain ⟨c2, c⟩ := Bool.and_eq_true_iff.mp c
  obtain ⟨c3, c⟩ := Bool.and_eq_true_iff.mp c
  obtain ⟨c4, c⟩ := Bool.and_eq_true_iff.mp c
  obtain ⟨c5, c⟩ := Bool.and_eq_true_iff.mp c
  obtain ⟨c6, c⟩ := Bool.and_eq_true_iff.mp c
  obtain ⟨c7, c⟩ := Bool.and_eq_true_iff.mp c
  obtain ⟨c8, c⟩ := Bool.and_eq_true_iff.mp c
  obtain ⟨c9, c⟩ := Bool.and_eq_true_iff.mp c
  obtain ⟨c10, c⟩ := Bool.and_eq_true_iff.mp c
  obtain ⟨c11, c⟩ := Bool.and_eq_true_iff.mp c
  obtain ⟨c12, c⟩ := Bool.and_eq_true_iff.mp c
  obtain ⟨c13, c⟩ := Bool.and_eq_true_iff.mp c
  obtain ⟨c14, c⟩ := Bool.and_eq_true_iff.mp c
  obtain ⟨c15, c⟩ := Bool.and_eq_true_iff.mp c
  obtain ⟨c16, c17⟩ := Bool.and_eq_true_iff.mp c
  obtain ⟨cc, cd, oc, od, kV, doc, pm, an, ct, osl, l1, l2, l3, l4⟩ := initB_ok e c12
  refine ⟨⟨cc, cd, kV, doc, pm, an, ct, ⟨⟨oc, od, .none, kV, doc, pm, an, ct, osl, rfl, l1⟩, l2, l3, l4, ?_, of_decide_eq_true c14, He.eqO_ok c15, of_decide_eq_true c16, He.eqO_ok c17, ⟨oexB_ok c7, He.eqO_ok c8, of_decide_eq_true c9, of_decide_eq_true c10, c11⟩⟩⟩, He.eqO_ok c2, of_decide_eq_true c3, PySem.W.mg_of X G (He.eqO_ok c1), of_decide_eq_true c4, xfB_ok c5, fun f hf => He.eqO_ok (List.all_eq_true.mp c6 f hf), mS, top⟩
  unfold PySem.W.isClsIn at c13
  exact Option.isSome_iff_exists.mp c13
/-! the code object of settled_plants, its table -/
/-- the def x stands at a, its code object's table is empty -/
def HasTab (mg : Str → Option Value) (x : Str) (h : Heap) : Prop := ∃ a o fd c P, mg x = some (.ref a) ∧ h.get? a = some o ∧ o.data = .func fd ∧ fd.code = .ref c ∧ h.IsCode c P #[] ∧ h.TableAt c P #[]
theorem tab_facts {K : PySem.W.Frag} {h : Heap} {mg : Str → Option Value} (X : K.In h) (m : metB K = true) (F : DF K mg "settled_plants" 30) (T : HasTab mg "settled_plants" h) :
    ∃ c P : Addr, FDc K "settled_plants" (top 30) c ∧ h.get? P = some { cls := .none, data := .fields #[] } ∧ K.lookup P = none ∧ PySem.W.CodeHd h c P := by
  obtain ⟨⟨fd, F⟩, g⟩ := F
  obtain ⟨a, o, fd', c, P, e1, e2, e3, e4, hc, ht⟩ := T
  rw [g] at e1
  cases e1
  have F0 := F
  obtain ⟨oc, od, dV, kV, doc, pm, an, cdv, ct, osl, rfl, lk, hcd, _, _⟩ := F.ex
  have k1 := X _ _ lk
  rw [k1] at e2
  cases e2
  cases e3
  have e4 : cdv = .ref c := e4
  refine ⟨c, P, ⟨_, F0, e4⟩, ht.2, ?_, .of hc ht⟩
  unfold metB at m
  rw [lk] at m
  have m : tabFree K cdv = true := m
  rw [e4] at m
  unfold tabFree at m
  simp only at m
  split at m
  · rename_i vs _ hk
    split at m
    · rename_i P' hv
      obtain ⟨⟨o2, vs2, f1, _, f3, f4⟩, _⟩ := ht
      have k2 := X _ _ hk
      rw [k2] at f1
      cases f1
      cases f3
      rw [hv] at f4
      cases f4
      exact Option.isNone_iff_eq_none.mp m
    · cases m
  · cases m
open LamX in
/-- a law's walk with the table of the def x2 -/
theorem walk_ofT2 {l : PySem.W.OpenLaw} {n k : Nat} {q : Program} {loose : List Str} {XP : (Str → Option Value) → Heap → Prop} {YP : World → Heap → Prop} {d : DefRec} {CX : CXT} {x x2 : Str}
    (hn : l.most = some n) (hn2 : n ≤ sizeLine) (hdf : d.params.defaults = []) (hr : Room k callerA) (hrec : ((recsOf q).any fun e => e.name == x2) = true)
    (F : ∀ (w : World) (mg : Str → Option Value) (fa : Addr) (h : Heap), YP w h → h.Ns mainGlobals mg → mg d.name = some (.ref fa) → HasTab mg x2 h → ∃ K : PySem.W.Frag, K.In h ∧ LamX.LawAtS l w K CX k n x mg fa h)
    (hCX : ∀ (H : Hp) (s : Shared) (e : Value) (s' : Shared), CX [] H s (fun _ _ _ => False) e s' → False) :
    PySem.W.WalkO q loose XP YP l.row.toRowW d [] (fun f vs => PySem.call f vs) := by
  refine Att.attach_callB hn hdf fun w s₀ s₁ mg mb fa o pm cd doc a vs ns G Y ho hd hcd hmg hobj hints hlen hbits hg => ?_
  obtain ⟨dL, hm, hn1⟩ := List.any_eq_true.mp hrec
  have hn3 : dL.name = x2 := beq_iff_eq.mp hn1
  have tab := G.T.tab dL hm
  rw [hn3] at tab
  obtain ⟨K, KX, fd, cs, sp, hT, nT, C, hb, hsp, hF⟩ := F w mg fa _ Y G.T.g hmg tab
  exact LamX.law_callTs KX G.T.g G.T.b G.T.builtins G.T.nolimit hg hT nT C G.T.bmain hobj hints (Nat.le_trans hlen hn2) hr hF hb (fun H hH hS => hsp H a ns hlen hbits hH hS) fun H e s' => hCX H s₁ e s'
/-! Bed's classmethod and property -/
theorem cread_ok {K : PySem.W.Frag} {C : Addr} (h : PySem.W.readsIn K C (.type "type") = true) : ClX.CRead K C (.type "type") := by
  refine ⟨h, ?_⟩
  unfold PySem.W.readsIn at h
  obtain ⟨h, _⟩ := Bool.and_eq_true_iff.mp h
  obtain ⟨h, _⟩ := Bool.and_eq_true_iff.mp h
  obtain ⟨h, h3⟩ := Bool.and_eq_true_iff.mp h
  obtain ⟨_, h2⟩ := Bool.and_eq_true_iff.mp h
  unfold PySem.W.specialIn
  rw [beq_iff_eq.mp h2, Option.bind_some]
  exact beq_iff_eq.mp h3
theorem bedB_ok {K : PySem.W.Frag} (c : bedB K = true) : ClX.CRead K (He.ga K "Bed") (.type "type") ∧ ClX.CMet K (He.ga K "Bed") (.type "type") "read" (He.ma K (He.ga K "Bed") "read") (rdA K) := by
  obtain ⟨c1, c⟩ := Bool.and_eq_true_iff.mp c
  obtain ⟨c2, c3⟩ := Bool.and_eq_true_iff.mp c
  exact ⟨cread_ok c1, He5.cmet_of c2 c3⟩
section
variable {file : Str} {fa : List He.Fa} {fn : List He.DefD} {er : List ErD} {fw : List He5.DefA} {K : PySem.W.Frag}
theorem SaysX.d (c : SaysX file fa fn er fw K) : He.SaysD fa fn K := congrArg (fun z : AlX => z.1) c
theorem SaysX.met (c : SaysX file fa fn er fw K) : metB K = true := (Bool.and_eq_true_iff.mp (show ((er.all fun d => d.ok file K) && metB K) = true from congrArg (fun z : AlX => z.2.1) c)).2
theorem SaysX.bed (c : SaysX file fa fn er fw K) : bedB K = true := (Bool.and_eq_true_iff.mp (show (bedB K && fw.all fun d => d.ok K) = true from congrArg (fun z : AlX => z.2.2.2.1) c)).1
theorem SaysX.fw_ (c : SaysX file fa fn er fw K) (i : Nat) {d : He5.DefA} (h : fw[i]? = some d := by rfl) : ∃ fd, L2.FunD K d.name d.qual d.params d.body d.scope (d.dvs K) (d.kws K) (d.at_ K) fd := by
  have c2 := (Bool.and_eq_true_iff.mp (show (bedB K && fw.all fun d => d.ok K) = true from congrArg (fun z : AlX => z.2.2.2.1) c)).2
  have e : fw.map (fun d => He5.fnA K (d.at_ K)) = fw.map He5.DefA.val := congrArg (fun z : AlX => z.2.2.2.2) c
  have e2 : (fw.map fun d => He5.fnA K (d.at_ K))[i]? = (fw.map He5.DefA.val)[i]? := by rw [e]
  rw [List.getElem?_map, List.getElem?_map, h] at e2
  exact He5.DefA.funD (Option.some.inj e2) (List.all_eq_true.mp c2 d (List.mem_of_getElem? h))
theorem SaysX.err_ (c : SaysX file fa fn er fw K) (i : Nat) {d : ErD} (h : er[i]? = some d := by rfl) : erW K d.x = d.val ∧ d.ok file K = true := by
  have c0 : ((er.all fun d => d.ok file K) && metB K) = true := congrArg (fun z : AlX => z.2.1) c
  have c1 := (Bool.and_eq_true_iff.mp c0).1
  have c2 : (er.map fun d => erW K d.x) = er.map ErD.val := congrArg (fun z : AlX => z.2.2.1) c
  refine ⟨?_, List.all_eq_true.mp c1 d (List.mem_of_getElem? h)⟩
  have e2 : (er.map fun d => erW K d.x)[i]? = (er.map ErD.val)[i]? := by rw [c2]
  rw [List.getElem?_map, List.getElem?_map, h] at e2
  exact Option.some.inj e2
end
/-- a def that lets nothing out -/
theorem fn_calm {P : Program} {w : World} {K : PySem.W.Frag} {mg : Str → Option Value} {base : Heap} {k : Nat} {f : Addr} {fd : FuncData} {ps : List Str} {sp : Sp} (F : FnOk P w K mg base (L2.CX P w) k f fd ps sp) (h : ∀ vs H Q E, sp vs H Q E → sp vs H Q E0) : FnOk P w K mg base CX0 k f fd ps sp := by
  obtain ⟨len, run⟩ := F
  refine ⟨len, fun A outer s H args us vs Q E hr e0 hb r hsp => codeAny_mono (run A outer s H args us vs Q E0 hr e0 hb r (h _ _ _ _ hsp)) fun x s' z => ?_⟩
  cases x with
  | ok fl => cases fl <;> exact z
  | error e =>
    obtain ⟨_, _, _, _, _, _, _, _, _, _, _, _, q⟩ := z
    exact q.elim
end Sy
set_option maxHeartbeats 0
namespace Sy.En
open Sy PySem PySem.Spec PyProof.Rows L2
theorem facts {P : Program} {w : World} {K : PySem.W.Frag} {h : Heap} {mg : Str → Option Value} {f : Addr} (hfile : P.main.file = R.prog.main.file) (top_ : (P.main.scope.names.lookup ("super" : Str)).isSome = false) (X : K.In h) (G : h.Ns mainGlobals mg) (hfa : mg ("law" : Str) = some (.ref f)) (c : SaysX R.prog.main.file fa fn ers fw K) (htab : HasTab mg "settled_plants" h) :
    ∃ (fd : FuncData) (cc tb : Addr), h.get? tb = some { cls := .none, data := .fields #[] } ∧ K.lookup tb = none ∧ PySem.W.CodeHd h cc tb ∧ (∀ (s : Shared) (v : Value), BindsTo s fd ⟨[v], []⟩ [("_law_script", v)]) ∧
      ∀ base : Heap, K.In base → base.Ns mainGlobals mg → LamX.TabB base mg cc tb → FnOk P w K mg base CX0 10 f fd ["_law_script"] (spLaw K tb) := by
  have D := c.d
  have e := hfa.symm.trans (He.glo_ok X G (D.fact 37 (f := .glo "law") rfl))
  cases e
  have f_check_count : DF K mg "check_count" 14 := ⟨D.def_ 0 (d := dOf "check_count" 14) rfl, He.glo_ok X G (D.fact 0 (f := .glo "check_count") rfl)⟩
  have f_arity : DF K mg "arity" 15 := ⟨D.def_ 1 (d := dOf "arity" 15) rfl, He.glo_ok X G (D.fact 1 (f := .glo "arity") rfl)⟩
  have f_fault_among : DF K mg "fault_among" 16 := ⟨D.def_ 2 (d := dOf "fault_among" 16) rfl, He.glo_ok X G (D.fact 2 (f := .glo "fault_among") rfl)⟩
  have f_check_plant : DF K mg "check_plant" 18 := ⟨D.def_ 3 (d := dOf "check_plant" 18) rfl, He.glo_ok X G (D.fact 3 (f := .glo "check_plant") rfl)⟩
  have f_below_tuples : DF K mg "below_tuples" 20 := ⟨D.def_ 4 (d := dOf "below_tuples" 20) rfl, He.glo_ok X G (D.fact 4 (f := .glo "below_tuples") rfl)⟩
  have f_tuples_with : DF K mg "tuples_with" 21 := ⟨D.def_ 5 (d := dOf "tuples_with" 21) rfl, He.glo_ok X G (D.fact 5 (f := .glo "tuples_with") rfl)⟩
  have f_rows_with : DF K mg "rows_with" 22 := ⟨D.def_ 6 (d := dOf "rows_with" 22) rfl, He.glo_ok X G (D.fact 6 (f := .glo "rows_with") rfl)⟩
  have f_entered : DF K mg "_entered" 24 := ⟨D.def_ 7 (d := dOf "_entered" 24) rfl, He.glo_ok X G (D.fact 7 (f := .glo "_entered") rfl)⟩
  have f_check_marks : DF K mg "_check_marks" 25 := ⟨D.def_ 8 (d := dOf "_check_marks" 25) rfl, He.glo_ok X G (D.fact 8 (f := .glo "_check_marks") rfl)⟩
  have f_full_table : DF K mg "full_table" 28 := ⟨D.def_ 9 (d := dOf "full_table" 28) rfl, He.glo_ok X G (D.fact 9 (f := .glo "full_table") rfl)⟩
  have f_offer : DF K mg "_offer" 29 := ⟨D.def_ 10 (d := dOf "_offer" 29) rfl, He.glo_ok X G (D.fact 10 (f := .glo "_offer") rfl)⟩
  have f_settled_plants : DF K mg "settled_plants" 30 := ⟨D.def_ 11 (d := dOf "settled_plants" 30) rfl, He.glo_ok X G (D.fact 11 (f := .glo "settled_plants") rfl)⟩
  have f_spelled : DF K mg "_spelled" 31 := ⟨D.def_ 12 (d := dOf "_spelled" 31) rfl, He.glo_ok X G (D.fact 12 (f := .glo "_spelled") rfl)⟩
  have f_least_rows : DF K mg "least_rows" 32 := ⟨D.def_ 13 (d := dOf "least_rows" 32) rfl, He.glo_ok X G (D.fact 13 (f := .glo "least_rows") rfl)⟩
  have f_least_plants : DF K mg "least_plants" 33 := ⟨D.def_ 14 (d := dOf "least_plants" 33) rfl, He.glo_ok X G (D.fact 14 (f := .glo "least_plants") rfl)⟩
  have f_only_letters : DF K mg "only_letters" 37 := ⟨D.def_ 15 (d := dOf "only_letters" 37) rfl, He.glo_ok X G (D.fact 15 (f := .glo "only_letters") rfl)⟩
  have f_is_name : DF K mg "is_name" 38 := ⟨D.def_ 16 (d := dOf "is_name" 38) rfl, He.glo_ok X G (D.fact 16 (f := .glo "is_name") rfl)⟩
  have f_law_box : DF K mg "_law_box" 41 := ⟨D.def_ 17 (d := dOf "_law_box" 41) rfl, He.glo_ok X G (D.fact 17 (f := .glo "_law_box") rfl)⟩
  have f_law_take : DF K mg "_law_take" 42 := ⟨D.def_ 18 (d := dOf "_law_take" 42) rfl, He.glo_ok X G (D.fact 18 (f := .glo "_law_take") rfl)⟩
  have f_law_bed : DF K mg "_law_bed" 43 := ⟨D.def_ 19 (d := dOf "_law_bed" 43) rfl, He.glo_ok X G (D.fact 19 (f := .glo "_law_bed") rfl)⟩
  have f_law_text : DF K mg "_law_text" 44 := ⟨D.def_ 20 (d := dOf "_law_text" 44) rfl, He.glo_ok X G (D.fact 20 (f := .glo "_law_text") rfl)⟩
  have f_law_tuples : DF K mg "_law_tuples" 45 := ⟨D.def_ 21 (d := dOf "_law_tuples" 45) rfl, He.glo_ok X G (D.fact 21 (f := .glo "_law_tuples") rfl)⟩
  have f_law_marks : DF K mg "_law_marks" 46 := ⟨D.def_ 22 (d := dOf "_law_marks" 46) rfl, He.glo_ok X G (D.fact 22 (f := .glo "_law_marks") rfl)⟩
  have f_law_reader : DF K mg "_law_reader" 47 := ⟨D.def_ 23 (d := dOf "_law_reader" 47) rfl, He.glo_ok X G (D.fact 23 (f := .glo "_law_reader") rfl)⟩
  have f_law_long : DF K mg "_law_long" 48 := ⟨D.def_ 24 (d := dOf "_law_long" 48) rfl, He.glo_ok X G (D.fact 24 (f := .glo "_law_long") rfl)⟩
  have f_law_doubler : DF K mg "_law_doubler" 49 := ⟨D.def_ 25 (d := dOf "_law_doubler" 49) rfl, He.glo_ok X G (D.fact 25 (f := .glo "_law_doubler") rfl)⟩
  have f_law_made : DF K mg "_law_made" 50 := ⟨D.def_ 26 (d := dOf "_law_made" 50) rfl, He.glo_ok X G (D.fact 26 (f := .glo "_law_made") rfl)⟩
  have f_law_same : DF K mg "_law_same" 51 := ⟨D.def_ 27 (d := dOf "_law_same" 51) rfl, He.glo_ok X G (D.fact 27 (f := .glo "_law_same") rfl)⟩
  have f_law_sizes : DF K mg "_law_sizes" 52 := ⟨D.def_ 28 (d := dOf "_law_sizes" 52) rfl, He.glo_ok X G (D.fact 28 (f := .glo "_law_sizes") rfl)⟩
  have f_law_fault : DF K mg "_law_fault" 53 := ⟨D.def_ 29 (d := dOf "_law_fault" 53) rfl, He.glo_ok X G (D.fact 29 (f := .glo "_law_fault") rfl)⟩
  have f_law_row_states : DF K mg "_law_row_states" 54 := ⟨D.def_ 30 (d := dOf "_law_row_states" 54) rfl, He.glo_ok X G (D.fact 30 (f := .glo "_law_row_states") rfl)⟩
  have f_law_kept : DF K mg "_law_kept" 55 := ⟨D.def_ 31 (d := dOf "_law_kept" 55) rfl, He.glo_ok X G (D.fact 31 (f := .glo "_law_kept") rfl)⟩
  have f_law_told : DF K mg "_law_told" 56 := ⟨D.def_ 32 (d := dOf "_law_told" 56) rfl, He.glo_ok X G (D.fact 32 (f := .glo "_law_told") rfl)⟩
  have f_law_is_plant : DF K mg "_law_is_plant" 57 := ⟨D.def_ 33 (d := dOf "_law_is_plant" 57) rfl, He.glo_ok X G (D.fact 33 (f := .glo "_law_is_plant") rfl)⟩
  have f_law_ranked : DF K mg "_law_ranked" 58 := ⟨D.def_ 34 (d := dOf "_law_ranked" 58) rfl, He.glo_ok X G (D.fact 34 (f := .glo "_law_ranked") rfl)⟩
  have f_law_least_right : DF K mg "_law_least_right" 59 := ⟨D.def_ 35 (d := dOf "_law_least_right" 59) rfl, He.glo_ok X G (D.fact 35 (f := .glo "_law_least_right") rfl)⟩
  have f_law_doubled_right : DF K mg "_law_doubled_right" 60 := ⟨D.def_ 36 (d := dOf "_law_doubled_right" 60) rfl, He.glo_ok X G (D.fact 36 (f := .glo "_law_doubled_right") rfl)⟩
  have f_law : DF K mg "law" 61 := ⟨D.def_ 37 (d := dOf "law" 61) rfl, He.glo_ok X G (D.fact 37 (f := .glo "law") rfl)⟩
  have m_init : MB K "__init__" "Bed.__init__" (clb 39 0) := ⟨He.meth_ok (D.fact 67 (f := .meth "Bed" "__init__") rfl), D.def_ 38 (d := dMe "__init__" "Bed.__init__" 0) rfl⟩
  have m_leaves : MB K "leaves" "Bed.leaves" (clb 39 3) := ⟨He.meth_ok (D.fact 68 (f := .meth "Bed" "leaves") rfl), D.def_ 39 (d := dMe "leaves" "Bed.leaves" 3) rfl⟩
  have m_branches : MB K "branches" "Bed.branches" (clb 39 4) := ⟨He.meth_ok (D.fact 69 (f := .meth "Bed" "branches") rfl), D.def_ 40 (d := dMe "branches" "Bed.branches" 4) rfl⟩
  have m_rank : MB K "rank" "Bed.rank" (clb 39 5) := ⟨He.meth_ok (D.fact 70 (f := .meth "Bed" "rank") rfl), D.def_ 41 (d := dMe "rank" "Bed.rank" 5) rfl⟩
  have n_len : mg "len" = none := He.free_ok X G (D.fact 38 (f := .free "len") rfl)
  have n_range : mg "range" = none := He.free_ok X G (D.fact 39 (f := .free "range") rfl)
  have n_reversed : mg "reversed" = none := He.free_ok X G (D.fact 40 (f := .free "reversed") rfl)
  have n_enumerate : mg "enumerate" = none := He.free_ok X G (D.fact 41 (f := .free "enumerate") rfl)
  have n_tuple : mg "tuple" = none := He.free_ok X G (D.fact 42 (f := .free "tuple") rfl)
  have n_list : mg "list" = none := He.free_ok X G (D.fact 43 (f := .free "list") rfl)
  have n_int : mg "int" = none := He.free_ok X G (D.fact 44 (f := .free "int") rfl)
  have n_abs : mg "abs" = none := He.free_ok X G (D.fact 45 (f := .free "abs") rfl)
  have n_max : mg "max" = none := He.free_ok X G (D.fact 46 (f := .free "max") rfl)
  have n_isinstance : mg "isinstance" = none := He.free_ok X G (D.fact 47 (f := .free "isinstance") rfl)
  have n_bool : mg "bool" = none := He.free_ok X G (D.fact 48 (f := .free "bool") rfl)
  have n_str : mg "str" = none := He.free_ok X G (D.fact 49 (f := .free "str") rfl)
  have n_super : mg "super" = none := He.free_ok X G (D.fact 50 (f := .free "super") rfl)
  have n_ValueError : mg "ValueError" = none := He.free_ok X G (D.fact 51 (f := .free "ValueError") rfl)
  have n_min : mg "min" = none := He.free_ok X G (D.fact 52 (f := .free "min") rfl)
  have n_sum : mg "sum" = none := He.free_ok X G (D.fact 53 (f := .free "sum") rfl)
  have T : Txt K mg := ⟨⟨He.cls_ok (D.fact 61 (f := .cls "Bed") rfl), He.noat_ok (D.fact 63 (f := .noat "Bed" "arities") rfl), He.noat_ok (D.fact 64 (f := .noat "Bed" "rows") rfl), He.noat_ok (D.fact 65 (f := .noat "Bed" "kinds") rfl), He.noat_ok (D.fact 66 (f := .noat "Bed" "ranks") rfl)⟩, n_len, n_range, n_reversed, n_enumerate, n_tuple, n_list, n_int, n_abs, n_max, n_isinstance, He.int_ok X G (D.fact 54 (f := .int "MOST_KNOTS" 2000) rfl), He.int_ok X G (D.fact 55 (f := .int "MOST_KINDS" 8) rfl), He.int_ok X G (D.fact 56 (f := .int "MOST_BRANCHES" 3) rfl), He.int_ok X G (D.fact 57 (f := .int "LONGEST_NAME" 8) rfl)⟩
  have TC : TxtC mg := ⟨n_tuple, n_bool, n_int, n_str, n_isinstance, n_len, n_range⟩
  have bb := bedB_ok c.bed
  have TW : TxtW mg := ⟨He.str_ok X G (D.fact 59 (f := .str "DIGITS" "0123456789") rfl), n_str⟩
  have e_TooMany : ErrB P K mg "TooMany" "TooMany.__init__" (clb 12 0) ["what", "limit"] := ErD.errB (d := ⟨"TooMany", "TooMany.__init__", clb 12 0, ["what", "limit"]⟩) X G (c.err_ 0 rfl).1 (by rw [hfile]; exact (c.err_ 0 rfl).2) n_super top_
  have e_InvalidBed : ErrB P K mg "InvalidBed" "InvalidBed.__init__" (clb 7 0) ["place"] := ErD.errB (d := ⟨"InvalidBed", "InvalidBed.__init__", clb 7 0, ["place"]⟩) X G (c.err_ 1 rfl).1 (by rw [hfile]; exact (c.err_ 1 rfl).2) n_super top_
  have e_InvalidPlant : ErrB P K mg "InvalidPlant" "InvalidPlant.__init__" (clb 8 0) ["place"] := ErD.errB (d := ⟨"InvalidPlant", "InvalidPlant.__init__", clb 8 0, ["place"]⟩) X G (c.err_ 2 rfl).1 (by rw [hfile]; exact (c.err_ 2 rfl).2) n_super top_
  have e_InvalidReader : ErrB P K mg "InvalidReader" "InvalidReader.__init__" (clb 9 0) ["place"] := ErD.errB (d := ⟨"InvalidReader", "InvalidReader.__init__", clb 9 0, ["place"]⟩) X G (c.err_ 3 rfl).1 (by rw [hfile]; exact (c.err_ 3 rfl).2) n_super top_
  have e_InvalidText : ErrB P K mg "InvalidText" "InvalidText.__init__" (clb 10 0) ["text"] := ErD.errB (d := ⟨"InvalidText", "InvalidText.__init__", clb 10 0, ["text"]⟩) X G (c.err_ 4 rfl).1 (by rw [hfile]; exact (c.err_ 4 rfl).2) n_super top_
  have e_UnknownKind : ErrB P K mg "UnknownKind" "UnknownKind.__init__" (clb 11 0) ["kind"] := ErD.errB (d := ⟨"UnknownKind", "UnknownKind.__init__", clb 11 0, ["kind"]⟩) X G (c.err_ 5 rfl).1 (by rw [hfile]; exact (c.err_ 5 rfl).2) n_super top_
  have R : Ers P K mg := ⟨e_TooMany, e_InvalidBed, e_InvalidPlant, e_InvalidReader, e_InvalidText, e_UnknownKind⟩
  obtain ⟨fdR, FDR⟩ := D.def_ 42 (d := dMeR "__init__" "Reader.__init__" 0 [("otherwise", .int 0)]) rfl
  have mR_table : MC K "Reader" "table" "Reader.table" (clb 26 6) := ⟨He.meth_ok (D.fact 79 (f := .meth "Reader" "table") rfl), D.def_ 43 (d := dMeR "table" "Reader.table" 6 []) rfl⟩
  have TR : TxtR K mg := ⟨He.cls_ok (D.fact 72 (f := .cls "Reader") rfl), He.noat_ok (D.fact 74 (f := .noat "Reader" "bed") rfl), He.noat_ok (D.fact 75 (f := .noat "Reader" "states") rfl), He.noat_ok (D.fact 76 (f := .noat "Reader" "marks") rfl), He.noat_ok (D.fact 77 (f := .noat "Reader" "_otherwise") rfl), He.noat_ok (D.fact 78 (f := .noat "Reader" "_entered") rfl), He.int_ok X G (D.fact 58 (f := .int "MOST_STATES" 40) rfl)⟩
  have MkRd := He.mkr_ok (D.fact 73 (f := .mkr "Reader") rfl)
  have gReader := He.glo_ok X G (D.fact 71 (f := .glo "Reader") rfl)
  have M := He.mkr_ok (D.fact 62 (f := .mkr "Bed") rfl)
  have gBed := He.glo_ok X G (D.fact 60 (f := .glo "Bed") rfl)
  obtain ⟨fd, FD1⟩ := f_law.1
  have b := FunD.bindsA (ps := ["_law_script"]) FD1 fun _ _ _ _ _ _ us hl => match us, hl with | [_], _ => rfl
  obtain ⟨cc, tb, FS, hT, hN, hC⟩ := tab_facts X c.met f_settled_plants htab
  refine ⟨fd, cc, tb, hT, hN, hC, fun s v => b s [v] rfl, fun base _ _ TB => ?_⟩
  have c_arity := k_arity (P := P) (w := w) (base := base) T f_arity 
  have c_fault_among := k_fault (P := P) (w := w) (base := base) T f_fault_among c_arity 
  have c_check_count := k_count (P := P) (w := w) (base := base) T e_TooMany f_check_count 
  have c_check_plant := k_check (P := P) (w := w) (base := base) T R f_check_plant c_check_count c_fault_among 
  have c_only_letters := k_letters (P := P) (w := w) (base := base) f_only_letters 
  have c_is_name := k_name (P := P) (w := w) (base := base) T f_is_name c_only_letters 
  have cm_branches := k_branches (P := P) (w := w) (base := base) T R m_branches 
  have cm_leaves := k_leaves (P := P) (w := w) (base := base) T m_leaves 
  have c_init := r_init (P := P) (w := w) (base := base) T R m_init c_is_name cm_leaves 
  have BM : BedM P w K mg base := ⟨M, gBed, c_init⟩
  have f_Read := f_read (P := P) (w := w) (base := base) T TW R BM (c.fw_ 0 (d := dW0) rfl) c_only_letters 
  have RD : ReadM P w K mg base := ⟨bb.1, bb.2, gBed, f_Read⟩
  have c_entered := k_ent (P := P) (w := w) (base := base) T R f_entered cm_branches 
  have c_check_marks := k_marks (P := P) (w := w) (base := base) R f_check_marks 
  have c_initR := f_initR (P := P) (w := w) (base := base) T TR R FDR c_entered c_check_marks 
  have MR : MkR P w K mg base := ⟨MkRd, gReader, ⟨fdR, FDR, c_initR⟩⟩
  have c_below_tuples := k_bel (P := P) (w := w) (base := base) T f_below_tuples 
  have cc_table := k_tab (P := P) (w := w) (base := base) T TR mR_table c_below_tuples 
  have c_tuples_with := k_tw (P := P) (w := w) (base := base) T f_tuples_with c_below_tuples 
  have c_law_box := k_box (P := P) (w := w) (base := base) T n_sum f_law_box 
  have c_law_take := k_draw (P := P) (w := w) (base := base) T f_law_take 
  have c_law_text := k_text (P := P) (w := w) (base := base) T n_str f_law_text 
  have c_law_fault := k_faultL (P := P) (w := w) (base := base) T f_law_fault 
  have c_law_sizes := k_sz (P := P) (w := w) (base := base) f_law_sizes 
  have c_law_tuples := k_tup (P := P) (w := w) (base := base) T f_law_tuples 
  have c_law_marks := k_mk (P := P) (w := w) (base := base) T f_law_marks c_law_take 
  have c_law_reader := k_rdr (P := P) (w := w) (base := base) T n_min f_law_reader c_law_take c_law_tuples c_law_marks 
  have c_rows_with := k_rw (P := P) (w := w) (base := base) T f_rows_with c_tuples_with 
  have cm_rank := k_rank (P := P) (w := w) (base := base) T m_rank 
  have c_full_table := k_ft (P := P) (w := w) (base := base) T TR f_full_table cc_table 
  have c_spelled := k_spl (P := P) (w := w) (base := base) T f_spelled 
  have c_offer := k_off (P := P) (w := w) (base := base) T n_sum f_offer 
  have c_settled_plants := k_set (P := P) (w := w) (base := base) T n_min TB FS f_settled_plants.2 c_rows_with c_offer cm_leaves cm_rank 
  have c_least_rows := k_lr (P := P) (w := w) (base := base) T f_least_rows c_settled_plants c_check_count c_spelled 
  have c_least_plants := k_lp (P := P) (w := w) (base := base) T TR f_least_plants c_least_rows c_full_table 
  have c_law_long := k_long (P := P) (w := w) (base := base) T f_law_long c_law_take c_law_tuples 
  have c_law_made := k_made (P := P) (w := w) (base := base) T RD MR f_law_made 
  have c_law_bed := k_bedL (P := P) (w := w) (base := base) T n_min f_law_bed c_law_take 
  have c_law_same := k_same (P := P) (w := w) (base := base) TC f_law_same 
  have c_law_told := k_told (P := P) (w := w) (base := base) R f_law_told c_least_plants 
  have c_law_is_plant := k_isp (P := P) (w := w) (base := base) TC f_law_is_plant c_law_fault 
  have c_law_ranked := k_rkd (P := P) (w := w) (base := base) T f_law_ranked 
  have c_law_row_states := k_rst (P := P) (w := w) (base := base) T f_law_row_states 
  have c_law_least_right := k_lrt (P := P) (w := w) (base := base) T TC n_sum f_law_least_right c_law_sizes c_law_is_plant c_law_row_states c_law_ranked c_law_tuples 
  have c_law_doubler := k_db (P := P) (w := w) (base := base) T f_law_doubler c_law_take c_law_tuples c_law_marks 
  have c_law_kept := k_kept (P := P) (w := w) (base := base) T TR f_law_kept c_law_tuples c_law_same cc_table 
  have c_law_doubled_right := k_dr (P := P) (w := w) (base := base) T f_law_doubled_right c_law_told c_law_same 
  have c_law := k_law (P := P) (w := w) (base := base) T FD1 c_law_box c_law_take c_law_bed c_law_long c_law_reader c_law_made c_law_text c_law_kept c_law_doubler c_law_doubled_right c_law_told c_law_least_right 
  exact fn_calm c_law fun vs H Q E q => q
end Sy.En
open PySem PySem.W PySem.Calls PyProof.Rows
theorem PySem.Challenge.cw_shearyard_k06_whole_least_plants_holds : PySem.Challenge.rw_shearyard_k06_whole_least_plants.Holds := by
  w_on; o_law
  refine HandSHeadRun.head_any (r := OpenLaw.row PySem.Challenge.rw_shearyard_k06_whole_least_plants) (q := view (OpenLaw.row PySem.Challenge.rw_shearyard_k06_whole_least_plants).prog [30, 61]) (H := Sy.En.hk) (ob := Sy.En.ob) (M := 30000) (loose := Sy.En.loose1 ++ Sy.En.loose2) (d := HandSHeadRun.topDef (OpenLaw.row PySem.Challenge.rw_shearyard_k06_whole_least_plants).prog 61) (kwd := []) Sy.En.ob_eq
    (by kernel_rfl) (fun s => by kernel_rfl) Sy.En.run (by kernel_rfl) (by kernel_rfl) (by kernel_rfl) (by rfl) (by first | assumption | decide +kernel) (by decide +kernel) ⟨rfl, rfl, rfl, rfl, rfl, by decide +kernel⟩ ?hw ?hc
  case hw => w_witness2
  case hc =>
    refine Sy.walk_ofT2 (l := PySem.Challenge.rw_shearyard_k06_whole_least_plants) (n := 63) (k := 10) (x := "_law_script") (x2 := "settled_plants") (CX := L2.CX0) rfl (by decide) (by kernel_rfl) ⟨rfl, by decide, by decide⟩ (by kernel_rfl) ?F (fun _ _ _ _ z => z)
    intro w mg fa h Y G hmg0 htab
    obtain ⟨K, KX, c⟩ := Y
    have hmg : mg ("law" : PySem.Str) = some (.ref fa) := by
      have e : (HandSHeadRun.topDef (OpenLaw.row PySem.Challenge.rw_shearyard_k06_whole_least_plants).prog 61).name = ("law" : PySem.Str) := by kernel_rfl
      rw [← e]
      exact hmg0
    obtain ⟨fd, cc, tb, hT, hN, hC, hb, hF⟩ := Sy.En.facts (P := (PySem.Challenge.rw_shearyard_k06_whole_least_plants).prog) (w := w) rfl (by kernel_rfl) KX G hmg c htab
    have one : ∀ {Q : Addr × Addr → Prop}, Q (cc, tb) → ∀ p ∈ [(cc, tb)], Q p := fun hQ p hp => by rw [List.mem_singleton.mp hp]; exact hQ
    exact ⟨K, KX, fd, [(cc, tb)], Sy.spLaw K tb, one hT, one hN, one hC, hb, fun H a ns hl _ hH hS => ⟨a, ns, rfl, hS, Nat.le_trans hl (by decide), hH _ (List.mem_singleton.mpr rfl), fun _ => rfl⟩, fun base a1 a2 a3 => hF base a1 a2 (a3 _ (List.mem_singleton.mpr rfl))⟩
