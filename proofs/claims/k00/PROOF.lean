import PyProof.Rows.All
import Wide.All
import OpenK.AllK
import Wide.FinOn
import KE.KStateDown
import HandS.ForMost
import HandS.ForExc
import HandS.Walk
import HandS.StrMore
import HandS.Star
import KE.GoesEnum
import HandS.ExcInit
import HandS.Nested
import KE.KExcSuper
import HandS.TupMul
import HandS.TupAny
import HandS.FStrTup
import HandS.FStr
import HandS.Deep
import HandS.IsInst
import HandS.RevRange
import HandS.DictComp
import HandS.Defaults
import HandS.Flow
import HandS.HeadHook1
import HandS.HeadHook2
import HandS.Ends
import HandS.Words
import HandS.WordsExc
import HandS.Head0
import HandS.Head1
import HandS.Head2
import HandS.HeadEnd
import HandS.ExcField
import HandS.Zip
import KE.GoesZip
import KE.GoesMore
import HandS.ExcIs
import HandS.Text
import HandS.SetFor
import PySem.Challenge.RW_shearyard_k00_rows_that_are_no_plants
set_option Elab.async false
set_option linter.all false
set_option maxRecDepth 100000
set_option maxHeartbeats 4000000
/-! enumerate over a tuple (own rule) -/
namespace Sy
open PySem PySem.Spec PyProof.Rows L2
open AutoSeq1 (wpAny_loadPart')
theorem enumNew {v : Value} {o : Obj} {Hh : Heap → Prop} (B : Begins v o Hh) : Meets (Builtin.«enumerate.__new__» ⟨[.type "enumerate", v], []⟩) (fun _ R s => Hh s.heap ∧
    R (.ok (.ret (.ref (s.heap.push o).objs.size))) { s with heap := (s.heap.push o).push { cls := .type "enumerate", data := .fields #[.none, .bool false, .ref s.heap.objs.size, rawInt 0, .none, .none] } }) :=
  .of_wp fun prog w A R s hs => by
    obtain ⟨hp, g, d, tk, os⟩ := s
    obtain ⟨h1, hR⟩ := hs
    have hsub := sub_enumerate
    have it1 : ∀ {A' : Around} {E : Value → Shared → Prop} {Q : Value → Shared → Prop}, Q (.ref hp.objs.size) ⟨hp.push o, g, d, tk, os⟩ → wpAny (model prog w) A' (pyIter v) Q E ⟨hp, g, d, tk, os⟩ := fun q => B.iter prog w _ _ ⟨hp, g, d, tk, os⟩ _ h1 q
    wp_walk using it1
    refine wpAny_stack_any fun st => wpAny_pure ?_
    split
    · rename_i c _ _ _ _ _
      cases (c == Value.type "enumerate") <;> (wp_walk using it1; exact ⟨_, rfl, hR⟩)
    · (wp_walk using it1; exact ⟨_, rfl, hR⟩)
theorem enumCall {prog : Program} {w : World} {A : Around} {E : Value → Shared → Prop} {s : Shared} {v : Value} {o : Obj} {Hh : Heap → Prop} {Q : Value → Shared → Prop} (B : Begins v o Hh) (h1 : Hh s.heap)
    (h : ∀ h', IsEnum h' (s.heap.objs.size + 1) s.heap.objs.size 0 .none → h'.get? s.heap.objs.size = some o → (∀ b ob, s.heap.get? b = some ob → h'.get? b = some ob) → Q (.ref (s.heap.objs.size + 1)) { s with heap := h' }) :
    wpAny (model prog w) A (call (.type "enumerate") [v]) Q E s := by
  refine callType_new F.called_enumerate (by decide) (F.typeCall_enumerate_1 _) (F.newCall_enumerate_1 _) (fun obj => F.args_object_init_2 obj _) F.entry_enumerate_new (enumNew B) ⟨h1, ?_⟩
  have hz : (s.heap.push o).objs.size = s.heap.objs.size + 1 := Heap.size_push ..
  show _ ∧ _
  rw [hz]
  have he : IsEnum ((s.heap.push o).push { cls := .type "enumerate", data := .fields #[.none, .bool false, .ref s.heap.objs.size, rawInt 0, .none, .none] }) (s.heap.objs.size + 1) s.heap.objs.size 0 .none := by
    have q := Heap.get?_push_size (s.heap.push o) (o := { cls := .type "enumerate", data := .fields #[.none, .bool false, .ref s.heap.objs.size, rawInt 0, .none, .none] }) rfl
    rw [hz] at q
    exact q
  exact ⟨⟨_, he, rfl⟩, h _ he (Heap.get?_push_of_some _ (Heap.get?_push_size _ B.free)) fun b ob x => Heap.get?_push_of_some _ (Heap.get?_push_of_some _ x)⟩
/-- the tuple at a, each item in a new pair -/
def ItE (K : PySem.W.Frag) (a : Addr) : It :=
  ⟨fun i H => ∃ (xs : List V) (x : V), SqT K H a xs ∧ xs[i]? = some x,
   fun i H v H' => ∃ T x, v = .ref T ∧ H T = none ∧ H' = upd H T (.tup [.int (i : Nat), x]) ∧ ∀ xs, SqT K H a xs → xs[i]? = some x,
   fun i H => ∃ xs : List V, SqT K H a xs ∧ xs.length ≤ i⟩
theorem turnE {P : Program} {w : World} {K : PySem.W.Frag} {elts : List Expr} {kk : Nat} {tpos : Pos} (a e it : Addr) :
    Turn P w K (.Tuple elts kk tpos) (ItE K a) [e, it] e (fun i h => (∃ old, IsEnum h e it ((i : Nat) : Int) old) ∧ h.IsTupleIter it a i ∧ e ≠ it ∧ a ≠ it ∧ a ≠ e) where
  mem := by simp
  obj := fun i h st b hb => by
    obtain ⟨⟨old, he⟩, ⟨o, ho, hc, hd⟩, _⟩ := st
    rcases (show b = e ∨ b = it by simpa using hb) with z | z
    · subst z; exact ⟨_, he, fun v q => nomatch q⟩
    · subst z; exact ⟨o, ho, fun v q => by rw [hd] at q; cases q⟩
  keep := fun i h h' st k => by
    obtain ⟨⟨old, he⟩, hi, n1⟩ := st
    exact ⟨⟨old, k e (by simp) _ he⟩, hi.at fun o q => k it (by simp) o q, n1⟩
  item := by
    intro X hP hw hK hc i pins s σ H E I hf st hg
    subst hP hw hK
    obtain ⟨⟨old, he⟩, hit, hne, ha1, ha2⟩ := st
    obtain ⟨xs, x, hq, hx⟩ := hg
    obtain ⟨its, rv, p, hz⟩ := I.tuple hq
    obtain ⟨u, hu, ru⟩ := rv.get hx
    have hlen : i < its.toArray.size := by
      rw [List.size_toArray]
      exact (List.getElem?_eq_some_iff.mp hu).1
    have D := Draws.tuple (prog := X.prog) (w := X.w) (A := X.A.in1) (by have q := I.ok.hd hc; exact q) it a ha1 its.toArray
    have hel : e < s.heap.objs.size := Heap.lt_size he
    have hil : it < s.heap.objs.size := by obtain ⟨_, q, _⟩ := hit; exact Heap.lt_size q
    refine wpAny_pyNext_enum_itemC D he ⟨hit, p⟩ hlen hne (by simp [hne, Ne.symm ha2]) fun y h' tk hP ho st' hT hsz hk => ?_
    have ey : y = u := by
      have z : its.toArray[i]? = some u := by simpa using hu
      exact Option.some.inj (hP.symm.trans z)
    subst ey
    refine ⟨_, rfl, wpAny_letOwnedTupleGo_enum (s := { s with heap := h', toks := tk + 1 }) ho fun h'' he' sb => ?_⟩
    have hT2 : h''.get? s.heap.objs.size = some { cls := .type "tuple", data := .seq #[.int i tk, y] } := (sb.2 _ (Nat.ne_of_gt hel)).trans hT
    have new : ObjOk X.prog X.w (upd H s.heap.objs.size (.tup [.int (i : Nat), x])) h'' s.heap.objs.size (.tup [.int (i : Nat), x]) :=
      ⟨by show 2 ≤ sizeLine; decide, [.int i tk, y], .cons ⟨_, rfl⟩ (.cons ru .nil), ⟨_, hT2, rfl, _, rfl⟩⟩
    have I1 : Inv X pins σ (upd H s.heap.objs.size (.tup [.int (i : Nat), x])) { s with heap := h'', toks := tk + 1 } :=
      I.turnedNew (ch := [e, it]) (fun b ob hb q => by
        have hb' : b ≠ e ∧ b ≠ it := by simpa using hb
        exact (sb.2 b hb'.1).trans (hk b ob hb'.1 hb'.2 q)) hf (Nat.le_refl _) new
    refine ⟨.ref s.heap.objs.size, _, I1, rfl, ⟨_, x, rfl, I.hok.fresh (Nat.le_refl _), rfl, fun ys hy => by rw [I.tuple_inj hy hq]; exact hx⟩, ⟨⟨y, ?_⟩, st'.1.at fun o q => (sb.2 it (Ne.symm hne)).trans q, hne, ha1, ha2⟩, fun b hb => ?_⟩
    · have e1 : ((i + 1 : Nat) : Int) = (i : Int) + 1 := by omega
      rw [e1]
      exact he'
    · have hb' : b < s.heap.objs.size := by
        rcases (show b = e ∨ b = it by simpa using hb) with z | z <;> (rw [z]; assumption)
      rw [upd_ne (Nat.ne_of_lt hb')]
      exact (hf b hb).1
  done := by
    intro X hP hw hK hc i pins s σ H E I hf st hg
    subst hP hw hK
    obtain ⟨⟨old, he⟩, hit, hne, ha1, ha2⟩ := st
    obtain ⟨xs, hq, hx⟩ := hg
    obtain ⟨its, rv, p, hz⟩ := I.tuple hq
    obtain ⟨f0, f1, f2, f3, f4, f5⟩ := hf it (by simp)
    have hl := rv.length
    have hT : s.TypeIs (.ref e) "enumerate" := ⟨_, he, rfl⟩
    unfold pyNext
    refine wpAny_bind (wpAny_attempt (wpAny_callSpecial?_slot (name := Str.ofString "__next__") hT F.slot_enumerate_next (wpAny_call_entry F.slot_enumerate_next hT F.entry_enumerate_next ?_ (F.args_enumerate_next_1 _))))
    show wpAny _ _ (field (.ref e) 2 >>= _) _ _ _
    refine wpAny_bind (wpAny_field he rfl (x := .ref it) rfl ?_)
    refine wpAny_bind (wpAny_nextOf_tuple_end (I.ok.hd hc) hit p (by simp; omega) fun h' x he' hx' => ?_)
    obtain ⟨o, ho, hcl⟩ := hx'
    refine wpAny_bind (wpAny_isInstance (T := "StopIteration") (b := true) ⟨o, ho, hcl⟩ isSubtype_stop ?_)
    exact wpAny_pure ⟨rfl, I.turned (t' := s.toks) (fun b ob hb q => he' b ob hb q) f0 f1 f3 f4 f5⟩
  self := fun A i s Q E st h => by
    obtain ⟨⟨_, he⟩, _⟩ := st
    exact wpAny_pyIter_enum he h
/-- for i, x in enumerate(t), t a tuple -/
def iEnumT (K : PySem.W.Frag) (ta : TA) : TI := fun σ H R => ta σ H fun vs H1 => ∃ a xs, vs = [.ref a] ∧ SqT K H1 a xs ∧ R (ItE K a) H1
theorem pi_enumT {X : Cx} {e : Expr} {ta : TA} {p pos tpos : Pos} {elts : List Expr} {kk : Nat} (hg : Gl X "enumerate") (hm : X.mg "enumerate" = none) (ha : PA X [e] ta) (hs : starEach [e] X.env = [(false, eval e X.env)] := by rfl) :
    PI X (.Tuple elts kk tpos) (.Call (.Name "enumerate" p) [e] [] pos) (iEnumT X.K ta) := by
  refine ⟨fun pins s σ H R I h => ?_⟩
  refine Call_ (ld_blt I hg hm boot_enumerate (PyProof.Rows.callWith_type1 (thn (ha.run pos pins s σ H _ I h) fun us s1 ⟨vs, H1, I1, r1, a, xs, ex, hq, q⟩ => ?_) hs rfl))
  subst ex
  cases r1 with
  | cons r rr =>
    cases rr
    cases r
    obtain ⟨its, rv, p', hz⟩ := I1.tuple hq
    have hal : a < s1.heap.objs.size := by obtain ⟨_, z, _⟩ := p'; exact Heap.lt_size z
    refine enumCall (begins_tuple a its.toArray) p' fun h' he hit hk => wpAny_pyIter_enum he ?_
    have I2 : Inv X pins σ H1 { s1 with heap := h' } := I1.kept (t' := s1.toks) hk
    refine ⟨s1.heap.objs.size + 1, [s1.heap.objs.size + 1, s1.heap.objs.size], _, _, H1, rfl, I2, turnE a (s1.heap.objs.size + 1) s1.heap.objs.size, ⟨⟨.none, he⟩, ⟨_, hit, rfl, rfl⟩, Nat.succ_ne_self _, Nat.ne_of_lt hal, Nat.ne_of_lt (Nat.lt_succ_of_lt hal)⟩, fun b hb => ?_, q⟩
    have hle : s1.heap.objs.size ≤ b := by
      rcases (show b = s1.heap.objs.size + 1 ∨ b = s1.heap.objs.size by simpa using hb) with z | z <;> (rw [z]; first | exact Nat.le_refl _ | exact Nat.le_add_right _ _)
    exact I1.fpOk hle (I1.hok.fresh hle)
theorem walkE {K : PySem.W.Frag} {a : Addr} {xs : List V} : Walk (ItE K a) xs.length (fun H => SqT K H a xs) (YPair (fun i => some (.int (i : Nat))) (fun i => xs[i]?)) :=
  ⟨fun i H hi h => ⟨xs, xs[i], h, by simp [hi]⟩, fun H h => ⟨xs, h, Nat.le_refl _⟩, fun i H x H' hi h y => by
    obtain ⟨T, z, e1, e2, e3, e4⟩ := y
    exact ⟨T, _, z, e1, e2, e3, rfl, e4 xs h⟩⟩
end Sy
/-! super().__init__(..) as the first row of an own error's __init__ (own rule) -/
namespace Sy
open PySem PySem.Spec PyProof.Rows L2 NdefX
/-- what the written part says of the error's class at D and its __init__ at f (its cell at cc, its code at cd) -/
structure SupF (P : Program) (K : PySem.W.Frag) (D f cc cd : Addr) (qual : Str) (pa : Arguments) (bo : List Stmt) (sc : Scope) (fd : FuncData) : Prop where
  ex : ∃ (oc : Value) (od : Option Addr) (dV kV doc pm : Value) (an : Option Addr) (ct : Value) (osl : Array (Option Value)),
    fd = PySem.W.fnX "__init__" qual pa bo sc [("__class__", cc)] dV kV doc pm an (.ref cd) ct ∧ K.lookup f = some ⟨oc, od, .func fd, osl⟩
  co : PySem.W.codeIn K (.ref cd) qual = true
  file : ∃ (cl : Value) (dd : Option Addr) (vs : Array Value) (sl : Array (Option Value)) (fi : Str) (tf : Tok), K.lookup cd = some ⟨cl, dd, .fields vs, sl⟩ ∧ vs[2]? = some (.str fi tf) ∧ ((P.main.file : Str) == fi) = true
  cell : ∃ (cl : Value) (dd : Option Addr) (sl : Array (Option Value)), K.lookup cc = some ⟨cl, dd, .cell (some (.ref D)), sl⟩
  isc : ∃ c, PySem.W.clsIn K D = some c
  sub : PySem.W.mroIn K D (.ref D) = some true
  sup : PySem.W.ks_superIn K D D "__init__" = some (some (.builtin "ValueError.__init__"))
  ve : PySem.W.subIn K (.ref D) (.type "ValueError") = some true
  opq : PySem.W.nsIn K cStatics "thirdparty.any" = some none
  oex : OexC K D
section
variable {P : Program} {w : World} {K : PySem.W.Frag} {mg : Str → Option Value} {base : Heap} {CX : CXT} {k : Nat} {D f cc cd : Addr} {qual : Str} {pa : Arguments} {bo rest : List Stmt} {sc : Scope} {fd : FuncData} {N ps : List Str} {sp : Sp} {e : Expr} {es : List Expr} {q0 q1 q2 q3 q4 : Pos} {p0 : Arg}
theorem fn_sup (T : SupF P K D f cc cd qual pa bo sc fd) (S : NScope N ps ["__class__"] sc) (hbo : bo = .Expr (.Call (.Attribute (.Call (.Name "super" q0) [] [] q1) "__init__" q2) (e :: es) [] q3) q4 :: rest)
    (hp : (pa.posonlyargs ++ pa.args).head? = some p0) (hps : N[0]? = some p0.arg) (hp1 : sc.names.lookup p0.arg = some .local) (hks : sc.names.lookup ("super" : Str) = some .globalImplicit) (mS : mg "super" = none) (top : (P.main.scope.names.lookup ("super" : Str)).isSome = false)
    (len : ∀ vs H Q E, sp vs H Q E → vs.length = ps.length)
    {pl : Sem Bool} (hev : ∀ env : Env, eval (.Call (.Attribute (.Call (.Name "super" q0) [] [] q1) "__init__" q2) (e :: es) [] q3) env = (do
      let ov ← attributeBase (.Call (.Name "super" q0) [] [] q1) "__init__" env (eval (.Call (.Name "super" q0) [] [] q1) env)
      standAt q2.atName
      let (f, first) ← holding [ov] (getMethod ov "__init__" pl)
      callWith q3 f first (backTo q3 (starEach (e :: es) env)) []))
    (he : ∀ env : Env, starEach (e :: es) env = (false, eval e env) :: starEach es env) (hpl : ∀ (env : Env) (pos : Pos), (backTo pos (starEach es env)).any (·.1) = false)
    (hbody : ∀ (A : Around) (outer : List Env) (s : Shared) (H : Hp) (vs : List V) (Q : VK) (E : XK), Room k (A.deeper (envF ⟨"__init__", qual, pa, bo, sc, [("__class__", cc)], cd⟩ f s.heap.objs.size)) → sp vs H Q E →
      ∃ ta t, PA (ncx CX P w K mg base N ⟨"__init__", qual, pa, bo, sc, [("__class__", cc)], cd⟩ f A outer s H E) (e :: es) ta ∧ PSs (ncx CX P w K mg base N ⟨"__init__", qual, pa, bo, sc, [("__class__", cc)], cd⟩ f A outer s H E) rest t ∧
        ∃ a vr, vs = .ref a :: vr ∧ H a = some (exo a D none) ∧ ta (startF N vs [some (.ref D)]) H fun ws H1 => ws.length ≤ 1000 ∧ H1 a = some (exo a D none) ∧ t { nx := fun _ H' => Q .non H', rt := Q } (startF N vs [some (.ref D)]) H1) :
    FnOk P w K mg base CX (k + 1) f fd ps sp := by
  obtain ⟨oc, od, dV, kV, doc, pm, an, ct, osl, rfl, lk⟩ := T.ex
  refine ⟨len, fun A outer s H args us vs Q E hr e0 hb r hsp => ?_⟩
  have hl := len _ _ _ _ hsp
  have KX : K.In s.heap := e0.mod.kin.keeps fun b o e => (e0.bs b o e).1
  have lim : s.heap.NoLimit := e0.mod.nolimit.keeps fun b o e => (e0.bs b o e).1
  obtain ⟨cl1, dd1, sl1, hcell⟩ := T.cell
  have hcn : H cc = none := (e0.bs _ _ (e0.mod.kin _ _ hcell)).2
  have CA : CellsAt [("__class__", cc)] ["__class__"] [some (.ref D)] s.heap H := by
    refine ⟨rfl, fun y c e => ?_, fun x y c e1 e2 => ?_, fun i y hi => ?_⟩
    · simp only [List.lookup] at e
      split at e
      · cases e; exact ⟨hcn, _, _, KX _ _ hcell, rfl⟩
      · cases e
    · simp only [List.lookup] at e1 e2
      split at e1
      · split at e2
        · rename_i z1 _ z2
          exact (beq_iff_eq.mp z1).trans (beq_iff_eq.mp z2).symm
        · cases e2
      · cases e1
    · cases i with
      | zero =>
        cases hi
        refine ⟨cc, rfl, fun v ev => ?_⟩
        cases ev
        exact ⟨.ref D, rfl, _, KX _ _ hcell, rfl⟩
      | succ n => simp at hi
  obtain ⟨ta, t, hA, hS, a, vr, rfl, hea, hq⟩ := hbody A outer s H _ Q E (hr.deeper _) hsp
  refine ks_codeAny_call_defAt hr.depth (KX _ _ lk) rfl lim (PySem.W.codeRec_of KX T.co) rfl hb S.nocell (fun ⟨n, _⟩ hy => S.par n (List.of_mem_zip hy).1) (fun h0 hns hk => ?_) S.co S.gen S.kind
  have I : Inv (ncx CX P w K mg base N ⟨"__init__", qual, pa, bo, sc, [("__class__", cc)], cd⟩ f A outer s H E) [] (startF N (.ref a :: vr) [some (.ref D)]) H { s with heap := h0, toks := s.toks + (ps.zip us).length } := inv_startN S hr.hd e0 hl r CA hns hk
  show _root_.PySem.wpAt _ (A.deeper (envF ⟨"__init__", qual, pa, bo, sc, [("__class__", cc)], cd⟩ f s.heap.objs.size)) (.func bo (envF ⟨"__init__", qual, pa, bo, sc, [("__class__", cc)], cd⟩ f s.heap.objs.size)) (execs bo (envF ⟨"__init__", qual, pa, bo, sc, [("__class__", cc)], cd⟩ f s.heap.objs.size)) _ _ _
  generalize hX : ncx CX P w K mg base N ⟨"__init__", qual, pa, bo, sc, [("__class__", cc)], cd⟩ f A outer s H E = X at *
  have hXe : X.env = envF ⟨"__init__", qual, pa, bo, sc, [("__class__", cc)], cd⟩ f s.heap.objs.size := by rw [← hX] <;> rfl
  have hXA : X.A = A.deeper (envF ⟨"__init__", qual, pa, bo, sc, [("__class__", cc)], cd⟩ f s.heap.objs.size) := by rw [← hX] <;> rfl
  have hK : X.K = K := by rw [← hX] <;> rfl
  have hP : X.prog = P := by rw [← hX] <;> rfl
  have hW : X.w = w := by rw [← hX] <;> rfl
  have hmg : X.mg = mg := by rw [← hX] <;> rfl
  have hN : X.N = N := by rw [← hX] <;> rfl
  have hxe : X.xe = fun e s' => wpAny (model P w) (A.deeper (envF ⟨"__init__", qual, pa, bo, sc, [("__class__", cc)], cd⟩ f s.heap.objs.size)) (leaving (envF ⟨"__init__", qual, pa, bo, sc, [("__class__", cc)], cd⟩ f s.heap.objs.size) e) (fun _ s'' => CX outer H s E e s'') (fun e' s'' => CX outer H s E e' s'') s' := by rw [← hX] <;> rfl
  have hs0 : X.s_0 = s := by rw [← hX] <;> rfl
  have hH0 : X.H_0 = H := by rw [← hX] <;> rfl
  have hstk : X.stack = envF ⟨"__init__", qual, pa, bo, sc, [("__class__", cc)], cd⟩ f s.heap.objs.size :: outer := by rw [← hX] <;> rfl
  have hfs : X.fs = frs outer := by rw [← hX] <;> rfl
  have hex : X.ex = [] := by rw [← hX] <;> rfl
  obtain ⟨cl2, dd2, vs2, sl2, fi, tf, hcode, hvs, hfi⟩ := T.file
  obtain ⟨cdD, hcd⟩ := T.isc
  obtain ⟨m, hm, hlook⟩ := I.loc
  obtain ⟨u0, ru0, hu0⟩ := hlook 0 p0.arg (.ref a) (by rw [hN]; exact hps) rfl (by rw [hXe]; exact .inl hp1)
  obtain rfl : u0 = Value.ref a := ru0
  have hself : m p0.arg = some (.ref a) := by
    rcases hu0 with ⟨_, z⟩ | ⟨z, _⟩
    · exact z
    · rw [hXe] at z
      have z1 : sc.names.lookup p0.arg = some .cell ∨ sc.names.lookup p0.arg = some .free := z
      rw [hp1] at z1
      rcases z1 with z1 | z1 <;> cases z1
  have kin : K.In h0 := by have q := I.kIn; rw [hK] at q; exact q
  rw [hXe] at hm
  subst hbo
  refine ks_wpAt_execs_cons (ks_wpAt_Expr_any (ks_wpAt_MethodCall ?_ (hev _)) (hi := by simp [interactive, S.kind]))
  obtain ⟨oD, hD1, hD2⟩ : ∃ oD, h0.get? D = some oD ∧ oD.data = .cls cdD := by
    unfold PySem.W.clsIn at hcd
    split at hcd
    · rename_i c d cd' sl ho
      cases hcd
      exact ⟨_, kin _ _ ho, rfl⟩
    · cases hcd
  obtain ⟨t1, hoe⟩ := exo_at I.hok hea
  have IA : PySem.W.InstAt h0 a ({ cls := .ref D, dict := none, data := .fields #[.ref t1, .none, .none, .none, .bool false, .none] } : Obj) D none := ⟨hoe, rfl, rfl, trivial⟩
  refine ks_wpAt_super_base hks (S.frk _ List.mem_cons_self) (by decide) rfl (hk _ _ (KX _ _ lk)) rfl hp rfl (hk _ _ (KX _ _ hcode)) rfl hvs hfi top ?_
  obtain ⟨mb, hb1, hb2⟩ := I.mod.blt
  have hbs : mb "super" = some (.type "super") := (hb2 ("super" : Str) (by decide)).trans (by first | boot_by_name | rfl | decide +kernel)
  refine PySem.W.ks_loadName_global S.kind hks (PySem.Calls.loadGlobal_builtin (mg := mg) (by have q := I.mod.glob.keeps I.bk; rw [hmg] at q; exact q) mS (hb1.keeps I.bk) hbs ⟨rfl, ?_⟩)
  refine wpAny_loadName_free S.kind (S.frk _ List.mem_cons_self) rfl ⟨_, kin _ _ hcell, rfl⟩ ?_
  refine wpAny_loadName_local S.kind hp1 hm hself ?_
  refine ks_wpAny_isType_cls hD1 hD2 ⟨rfl, ?_⟩
  refine ks_wpAny_call_super hD1 hD2 hoe rfl (fun c z => by cases z) (PySem.W.looks_mroIn kin T.sub) (fun h1 hso kp1 => ?_)
  have I1 := I.kept (h' := h1) (t' := s.toks + (ps.zip us).length) kp1
  have kin1 : K.In h1 := by have q := I1.kIn; rw [hK] at q; exact q
  have hoe1 := kp1 _ _ hoe
  have hsup := T.sup
  unfold PySem.W.ks_superIn at hsup
  rw [hcd] at hsup
  have IA1 : PySem.W.InstAt h1 a ({ cls := .ref D, dict := none, data := .fields #[.ref t1, .none, .none, .none, .bool false, .none] } : Obj) D none := ⟨hoe1, rfl, rfl, trivial⟩
  refine PySem.W.kxs_getMethod PySem.W.kxs_ValueError hso (PySem.W.looks_opaque kin1 T.opq) (l₀ := cdD.mro) (fun A Q E s k q => wpAny_bind ((PySem.W.looks_clsIn kin1 hcd) A _ E s k (wpAny_pure q))) rfl kin1 hsup (IA1.type.andThen (PySem.W.looks_subIn kin1 T.ve)) (PySem.W.ks_ne kin1 IA1 hcd) (by decide) ?_
  have kp2 : ∀ b o, h1.get? b = some o → (h1.push (PySem.W.kxs_mw "ValueError.__init__" a)).get? b = some o := fun b o z => Heap.get?_push_of_some _ z
  have hu : (h1.push (PySem.W.kxs_mw "ValueError.__init__" a)).get? h1.objs.size = some (PySem.W.kxs_mw "ValueError.__init__" a) := Heap.get?_push_at rfl rfl
  have I2 := I1.kept (h' := h1.push (PySem.W.kxs_mw "ValueError.__init__" a)) (t' := s.toks + (ps.zip us).length + 1) kp2
  have hfresh : H h1.objs.size = none := I1.hok.fresh (Nat.le_refl _)
  have hsz : h1.objs.size ≠ X.env.locals := Nat.ne_of_gt I1.lt
  have I3 : Inv X [(h1.objs.size, PySem.W.kxs_mw "ValueError.__init__" a)] (startF N (.ref a :: vr) [some (.ref D)]) H ⟨h1.push (PySem.W.kxs_mw "ValueError.__init__" a), s.gens, s.drawn, s.toks + (ps.zip us).length + 1, s.os⟩ := I2.pins_of fun p hp => by
    have hp' : p = (h1.objs.size, PySem.W.kxs_mw "ValueError.__init__" a) := by simpa using hp
    subst hp'
    exact ⟨hu, hfresh, hsz, I1.nofs (Nat.le_refl _), fun v z => by cases z⟩
  rw [← hP, ← hW]
  rw [he]
  refine PySem.W.kxs_callWith (i := "ValueError.__init__") (x := a) (by show (false || (backTo q3 (starEach es _)).any (·.1)) = false; rw [hpl]; rfl) ?_
  have hA2 := hA.run q3 _ _ _ _ (fun ws H1 => ws.length ≤ 1000 ∧ H1 a = some (exo a D none) ∧ t { nx := fun _ H' => Q .non H', rt := Q } (startF N (.ref a :: vr) [some (.ref D)]) H1) I3 hq
  rw [hXe, he, hXA, hxe] at hA2
  refine PySem.Calls.evalArgs_plain (wpAny_mono hA2 (fun us3 s3 h3 => ?_) (fun _ _ z => by rw [hP, hW]; exact z))
  obtain ⟨ws, H3, J, rv, hlen, hea3, hq3⟩ := h3
  have hu3 : s3.heap.get? h1.objs.size = some (PySem.W.kxs_mw "ValueError.__init__" a) := (J.pin _ (List.mem_append_right _ (List.mem_singleton.mpr rfl))).1
  refine ⟨hu3, ?_⟩
  have J0 : Inv X [] (startF N (.ref a :: vr) [some (.ref D)]) H3 s3 := J.pins_of fun p hp => by simp at hp
  have hus : us3.length ≤ sizeLine := by
    rw [← rv.length, sizeLine_eq]
    omega
  show wpAny _ _ (call (.ref h1.objs.size) us3) _ _ s3
  obtain ⟨nm, q, Nn, bs, bm, sn, sub, ab, col, dd, k0, k1, k2, k3, k5, hC, hbm⟩ := T.oex.cls
  have kin3 : K.In s3.heap := by have q := J0.kIn; rw [hK] at q; exact q
  obtain ⟨t3, ho3⟩ := exo_at J0.hok hea3
  obtain ⟨hp3, g3, d3, tk3, os3⟩ := s3
  refine wpAny_call (codeAny_of_tree ?_)
  show wpAny _ _ (callAny (.ref h1.objs.size) ⟨us3, []⟩) _ _ _
  simp only [callAny]
  refine wpAny_bind (wpAny_load hu3 ?_)
  simp only [PySem.W.kxs_mw, show (Value.type "method-wrapper" == Value.type "method" || Value.type "method-wrapper" == Value.type "builtin_function_or_method" || Value.type "method-wrapper" == Value.type "method-wrapper") = true by decide, if_true]
  refine PySem.W.KFB.if_so (by decide) ?_
  refine wpAny_bind (PySem.W.check_bound_init F.excBase_ValueError.toExcCallFacts (kin3 _ _ hC) ho3 rfl ?_)
  refine wpAny_bind (wpAny_pure (wpAny_pure ?_))
  refine ⟨plainId_quiet F.excBase_ValueError.init.plain _, codeAny_builtin F.excBase_ValueError.initEntry ?_⟩
  refine PySem.W.exc_init_tree (cls := .ref D) (t0 := t3) (dv := none) (c2 := .none) (c3 := .none) (b4 := .bool false) ho3 hus fun h4 kp4 hx4 _ => ?_
  have J4 := J0.write (t' := tk3) (x := a) (e := a) (o := exo a D none) (by rw [hea3]; exact True.intro) (.inl rfl) kp4 ⟨_, hx4⟩ (exo_ok hx4)
  have eu : upd H3 a (exo a D none) = H3 := by
    funext b
    by_cases hb : b = a
    · rw [hb, upd_same, hea3]
    · rw [upd_ne hb]
  rw [eu] at J4
  have hS4 := hS.run _ _ _ _ { nx := fun _ H' => Q .non H', rt := Q } J4 hq3
  rw [hXe, hXA, hxe, hP, hW] at hS4
  show _root_.PySem.wpAt _ _ _ _ _ _ _
  rw [hP, hW]
  refine wpAt_of_wpAny (wpAny_mono hS4 (fun fl s' hs => ?_) fun _ _ z => z)
  have fin : ∀ {σ' : L2.St} {H' : Hp} {v : V} {u : Value}, Inv X [] σ' H' s' → RelV v u → Q v H' → CE outer P w H s Q u s' := fun {σ' H' v u} J rv q => by
    have b1 := J.base
    have o1 := J.os
    have k1 := J.hok
    rw [hfs, hex, hH0, hs0] at b1
    rw [hs0] at o1
    rw [hP, hW] at k1
    exact ⟨v, H', o1, J.bare, b1, k1, rv, q⟩
  cases fl with
  | ret u =>
    obtain ⟨v, σ', H', J, rv, q⟩ := hs
    exact fin J rv q
  | next =>
    obtain ⟨σ', H', J, q⟩ := hs
    exact fin (v := V.non) (u := Value.none) J rfl q
  | brk =>
    obtain ⟨_, _, _, q⟩ := hs
    exact False.elim q
  | cont =>
    obtain ⟨_, _, _, q⟩ := hs
    exact False.elim q
end
end Sy
/-! tuple.count, tuple * int of any size, a tuple of ints in an f-string (own rules) -/
namespace Sy
open PySem PySem.Spec PyProof.Rows L2
open AutoSeq1 (wpAny_loadPart')
section
variable {X : Cx}
/-- t.count(y), all flat -/
def rTCnt (K : PySem.W.Frag) : V → List V → Hp → VK → Prop := fun x xs H Q => ∃ (a : Addr) (ys : List V) (y : V), x = V.ref a ∧ xs = [y] ∧ SqT K H a ys ∧ flatV y = true ∧ ys.all flatV = true ∧ Q (.int (ys.countP fun z => eqV z y : Nat)) H
theorem countU {y : V} : ∀ {ys : List V} {its : List Value}, Vals ys its → ys.all flatV = true → its.countP (eqU y) = ys.countP fun z => eqV z y
  | [], _, r, _ => by cases r; rfl
  | z :: ys, _, r, f => by
    cases r with
    | cons r1 r2 =>
      have f' := Bool.and_eq_true_iff.mp (show (flatV z && ys.all flatV) = true from f)
      rw [List.countP_cons, List.countP_cons, countU r2 f'.2, eqU_of r1 f'.1]
theorem mt_tcount : MtR X "tuple.count" (rTCnt X.K) := by
  intro pins s σ H x xs v us Q I rx rxs h
  obtain ⟨a, ys, y, rfl, rfl, hs, fy, fys, q⟩ := h
  cases rx
  cases rxs with
  | cons ry rt =>
    rename_i uy ut
    cases rt
    obtain ⟨its, rv, ⟨⟨cls, dd, data, sl⟩, ho, hc, n, hd⟩, hlen⟩ := I.tuple hs
    simp only at hc hd
    subst hc hd
    refine call_meets PySem.F.slot_tuple_count ⟨_, ho, rfl⟩ PySem.F.entry_tuple_count (PySem.F.args_tuple_count_2 _ _) (SeqAt.tuple_countAt a its.toArray n dd sl uy (eqU y)) ⟨ho, fun u' hu' => mem_eqAt ry fy rv fys u' (by simpa using hu'), ?_⟩
    have e1 : its.toArray.toList.countP (eqU y) = ys.countP fun z => eqV z y := by
      rw [← countU rv fys]
    rw [e1]
    exact ⟨.int (ys.countP fun z => eqV z y : Nat), H, I.tok _, ⟨_, rfl⟩, q⟩
/-! tuple * int -/
theorem tupMul1 (l : Addr) (items : Array Value) (n : Nat) (dd : Option Addr) (sl : Array (Option Value)) (x : Int) (u : Tok) (c0 : (decide (x < -(2 ^ 63)) || decide (x ≥ 2 ^ 63)) = false) (c1 : (items.isEmpty || x == 1) = true) :
    Meets (Builtin.«tuple.__mul__» ⟨[.ref l, .int x u], []⟩) (fun _ R s => s.heap.get? l = some { cls := .type "tuple", dict := dd, data := .seq items n, slots := sl } ∧ R (.ok (.ret (Value.ref l))) s) :=
  .of_wp fun prog w A R s h => by
    obtain ⟨hp, g, d, tk, os⟩ := s
    obtain ⟨hl, h⟩ := h
    have f1 := AutoSeq1.idx_int
    wp_walk using wpAny_loadPart' hl
    repeat (first
      | (refine wpAny_ite_false (decide_eq_false (by rw [c0]; exact Bool.false_ne_true)) ?_; wp_walk using wpAny_loadPart' hl)
      | (refine wpAny_ite_true (decide_eq_true c1) ?_; wp_walk using wpAny_loadPart' hl))
    all_goals exact ⟨_, rfl, h⟩
theorem tupMul0 (l : Addr) (items : Array Value) (n : Nat) (dd : Option Addr) (sl : Array (Option Value)) (x : Int) (u : Tok) (c0 : (decide (x < -(2 ^ 63)) || decide (x ≥ 2 ^ 63)) = false) (c1 : (items.isEmpty || x == 1) = false) (c2 : (decide (x ≤ 0) || items.isEmpty) = true) :
    Meets (Builtin.«tuple.__mul__» ⟨[.ref l, .int x u], []⟩) (fun _ R s => s.heap.get? l = some { cls := .type "tuple", dict := dd, data := .seq items n, slots := sl } ∧
      R (.ok (.ret (Value.ref s.heap.objs.size))) { s with heap := s.heap.push { cls := Value.type "tuple", data := Data.seq #[] } }) :=
  .of_wp fun prog w A R s h => by
    obtain ⟨hp, g, d, tk, os⟩ := s
    obtain ⟨hl, h⟩ := h
    have f1 := AutoSeq1.idx_int
    wp_walk using wpAny_loadPart' hl
    repeat (first
      | (refine wpAny_ite_false (decide_eq_false (by rw [c0]; exact Bool.false_ne_true)) ?_; wp_walk using wpAny_loadPart' hl)
      | (refine wpAny_ite_false (decide_eq_false (by rw [c1]; exact Bool.false_ne_true)) ?_; wp_walk using wpAny_loadPart' hl)
      | (refine wpAny_ite_true (decide_eq_true c2) ?_; wp_walk using wpAny_loadPart' hl))
    all_goals exact ⟨_, rfl, h⟩
/-- t * k: t itself where k is 1 or t is empty -/
def rRepG (K : PySem.W.Frag) : R2 := fun x y H Q => ∃ l k xs, x = .ref l ∧ y = .int k ∧ SqT K H l xs ∧ -(2 ^ 63) ≤ k ∧ k < 2 ^ 63 ∧ xs.length * k.toNat ≤ 1000000 ∧ xs.length ≤ 1000000 ∧
  ((xs = [] ∨ k = 1) → Q (.ref l) H) ∧ (¬(xs = [] ∨ k = 1) → ∀ p, H p = none → Q (.ref p) (upd H p (.tup (List.replicate k.toNat xs).flatten)))
theorem op_repG : OpR X (binaryOp .Mult) (rRepG X.K) := by
  intro pins s σ H x y v u Q I rx ry h
  obtain ⟨l, k, xs, rfl, rfl, hT, h1, h2, hz, hzl, qa, qb⟩ := h
  cases rx
  obtain ⟨t, rfl⟩ := ry
  obtain ⟨its, r, ⟨⟨cls, dd, data, sl⟩, ho, hc, n, hd⟩, hs⟩ := I.tuple hT
  simp only at hc hd
  subst hc hd
  have hle : its.length = xs.length := r.length.symm
  have c0 : (decide (k < -(2 ^ 63)) || decide (k ≥ 2 ^ 63)) = false := by
    rw [decide_eq_false (by omega), decide_eq_false (by omega)] <;> rfl
  have run : ∀ {Bb : Builtin} {R : Value → Shared → Prop}, Builtin.«tuple.__mul__» = Bb → wpAny (model X.prog X.w) X.A (call (.builtin "tuple.__mul__") [.ref l, .int k t]) R X.xe s → wpAny (model X.prog X.w) X.A (binaryOp .Mult (.ref l) (.int k t)) R X.xe s := fun _ hw =>
    wpAny_binaryOp_repeat_ref (T := "tuple") (U := "int") (by decide) ⟨_, ho, rfl⟩ (fun s' => typeIs_int s' k t) noFill_tuple_mul F.fills_int_mul F.slot_int_rmul repeat_tuple F.slot_int_index.lookup
      (call_meets F.slot_int_rmul (typeIs_int s k t) F.entry_int_rmul (F.args_int_rmul_2 _ _) (int_rmul_tuple k t l its.toArray n dd sl) ⟨ho, rfl, ⟨_, ho, rfl⟩, hw⟩)
  have eE : its.toArray.isEmpty = decide (xs = []) := by
    cases xs with
    | nil => cases r; rfl
    | cons a b => cases r; rfl
  by_cases hc : xs = [] ∨ k = 1
  · refine run rfl (call_meets F.slot_tuple_mul ⟨_, ho, rfl⟩ F.entry_tuple_mul (F.args_tuple_mul_2 _ _) (tupMul1 l its.toArray n dd sl k t c0 ?_) ⟨ho, ?_⟩)
    · rw [eE]
      rcases hc with hc | hc
      · rw [decide_eq_true hc, Bool.true_or]
      · rw [hc]
        exact Bool.or_true _
    · exact ⟨.ref l, H, I, rfl, qa hc⟩
  · have c1 : (its.toArray.isEmpty || k == 1) = false := by
      rw [eE, decide_eq_false (fun z => hc (.inl z)), Bool.false_or]
      exact beq_eq_false_iff_ne.mpr fun z => hc (.inr z)
    by_cases hk : k ≤ 0
    · refine run rfl (call_meets F.slot_tuple_mul ⟨_, ho, rfl⟩ F.entry_tuple_mul (F.args_tuple_mul_2 _ _) (tupMul0 l its.toArray n dd sl k t c0 c1 (by rw [decide_eq_true hk, Bool.true_or])) ⟨ho, ?_⟩)
      have e0 : k.toNat = 0 := by omega
      have q := qb hc _ (I.hok.fresh (Nat.le_refl _))
      rw [e0] at q
      refine ⟨.ref s.heap.objs.size, _, I.laid (t' := s.toks) (o := .tup (List.replicate 0 xs).flatten) (fun b ob q => Heap.get?_push_of_some _ q) (Nat.le_refl _) ?_, rfl, q⟩
      exact ⟨Nat.zero_le _, [], .nil, IsTup.new _ _⟩
    · have h3 : ((its.toArray.size : Nat) : Int) * k ≤ 1000000 := by
        rw [List.size_toArray, hle]
        have e1 : ((xs.length : Nat) : Int) * k = ((xs.length * k.toNat : Nat) : Int) := by
          rw [Int.natCast_mul, Int.toNat_of_nonneg (by omega)]
        rw [e1]
        generalize xs.length * k.toNat = m at hz ⊢
        omega
      have flen : (List.replicate k.toNat its).flatten.length ≤ 1000000 := by
        rw [PyProof.Rows.lm_len_rep_flat, hle, Nat.mul_comm]
        exact hz
      have sl24 := sizeLine_eq
      refine run rfl (call_meets F.slot_tuple_mul ⟨_, ho, rfl⟩ F.entry_tuple_mul (F.args_tuple_mul_2 _ _) (tuple_mulW l its.toArray n dd sl k t c0 c1 (by rw [decide_eq_false hk, Bool.false_or, eE]; exact decide_eq_false fun z => hc (.inl z)) (by omega) (by unfold Builtin.Tuple.tupleTooMany; exact decide_eq_false (by omega)) (by rw [size_rep, List.size_toArray]; omega)) ⟨ho, ?_⟩)
      rw [size_rep]
      refine ⟨.ref s.heap.objs.size, _, I.laid (t' := s.toks) (o := .tup (List.replicate k.toNat xs).flatten) (fun b ob q => Heap.get?_push_of_some _ q) (Nat.le_refl _) ?_, rfl, qb hc _ (I.hok.fresh (Nat.le_refl _))⟩
      exact ⟨by rw [PyProof.Rows.lm_len_rep_flat, Nat.mul_comm]; omega, _, r.rep k.toNat, IsTup.new _ _⟩
/-! a tuple of ints in an f-string -/
theorem reprInts {prog : Program} {w : World} : ∀ {l : List Int} {its : List Value}, Vals (l.map V.int) its → (∀ y ∈ l, y.natAbs.log2 < 1920) → ReprAll prog w its (l.map fun y => (toString y : Str))
  | [], _, r, _ => by
    cases r
    exact .nil
  | y :: l, _, r, h => by
    cases r with
    | cons r1 r2 =>
      obtain ⟨t, rfl⟩ := r1
      exact .cons (ReprIs.int t (h y List.mem_cons_self)) (reprInts r2 fun z hz => h z (List.mem_cons_of_mem _ hz))
theorem piledInts : ∀ l : List Int, (∀ y ∈ l, y.natAbs.log2 < 1920) → piled (l.map fun y => (toString y : Str)) ≤ 1923 * l.length
  | [], _ => Nat.zero_le _
  | y :: l, h => by
    have h1 := int_text_len_1921 (h y List.mem_cons_self)
    have h2 := piledInts l fun z hz => h z (List.mem_cons_of_mem _ hz)
    rw [List.map_cons, piled_cons, List.length_cons]
    omega
def tFmtI (K : PySem.W.Frag) (te : TE) : TE := fun σ H Q => te σ H fun x H1 => ∃ (a : Addr) (l : List Int), x = .ref a ∧ SqT K H1 a (l.map V.int) ∧ (∀ y ∈ l, y.natAbs.log2 < 1920) ∧ l.length ≤ 5000 ∧ ∀ m : Str, m.length ≤ 9700000 → Q (.str m) H1
theorem pe_fmtI {e : Expr} {te : TE} {pos : Pos} {k : Nat} (hr : Room k X.A) (he : PE X e te) : PE X (.FormattedValue e (-1) none pos) (tFmtI X.K te) := by
  refine ⟨fun pins s σ H Q I h => ?_⟩
  refine wpAny_FormattedValue_plain (thn (he.run pins s σ H _ I h) fun v s1 hv => ?_)
  obtain ⟨x, H1, I1, r1, a, l, rfl, ht, hc, hz, q⟩ := hv
  cases r1
  obtain ⟨its, rv, ⟨o, ho, hcl, n, hd⟩, _⟩ := I1.tuple ht
  have hp := piledInts l hc
  have htx := fmt_text (l.map fun y => (toString y : Str))
  have hu := hr.units
  have hsl := sizeLine_eq
  refine fmt_tuple (ts := l.map fun y => (toString y : Str)) (by omega) ho hcl hd (reprInts rv hc) (by omega) fun m u tk hm => ⟨.str m, H1, I1.tok _, ⟨u, rfl⟩, q m (by omega)⟩
end
end Sy
/-! own core: heaps, data that never changes, callables, forms of loops -/
namespace Sy
open PySem PySem.Spec PyProof.Rows L2
/-! ### heaps -/
theorem up_same {H : Hp} {p : Addr} {o : HO} (h : H p = none) : Same H (upd H p o) := fun b x e => by
  rw [upd_ne (ne_of_none e h)]
  exact e
theorem Same.sqt {K : PySem.W.Frag} {H H' : Hp} {a : Addr} {xs : List V} (e : Same H H') (h : SqT K H a xs) : SqT K H' a xs := by
  rcases h with (h | ⟨o, h⟩) | h
  · exact .inl (.inl (e _ _ h))
  · exact .inl (.inr ⟨o, e _ _ h⟩)
  · exact .inr h
/-- what is no list of one's own stays -/
def Stay (H H' : Hp) : Prop := ∀ a o, H a = some o → (∀ xs, o ≠ .lst xs) → H' a = some o
theorem Stay.of {H H' : Hp} (s : Same H H') : Stay H H' := fun a o h _ => s a o h
theorem Stay.refl (H : Hp) : Stay H H := fun _ _ h _ => h
theorem Stay.trans {H H1 H2 : Hp} (a : Stay H H1) (b : Stay H1 H2) : Stay H H2 := fun c o h n => b c o (a c o h n) n
theorem Stay.lst {H : Hp} {p : Addr} {xs : List V} {o : HO} (h : H p = some (.lst xs)) : Stay H (upd H p o) := fun a x e n => by
  rw [upd_ne]
  · exact e
  · intro z
    rw [z, h] at e
    exact n _ (Option.some.inj e).symm
theorem Stay.new {H : Hp} {p : Addr} {o : HO} (h : H p = none) : Stay H (upd H p o) := Stay.of (up_same h)
theorem Stay.sqt {K : PySem.W.Frag} {H H' : Hp} {a : Addr} {xs : List V} (e : Stay H H') (h : SqT K H a xs) : SqT K H' a xs := by
  rcases h with (h | ⟨o, h⟩) | h
  · exact .inl (.inl (e _ _ h fun _ z => by cases z))
  · exact .inl (.inr ⟨o, e _ _ h fun _ z => by cases z⟩)
  · exact .inr h
/-! ### data that never changes -/
mutual
inductive Im (K : PySem.W.Frag) (H : Hp) : V → PyData → Prop
  | non : Im K H .non .none
  | bl (b : Bool) : Im K H (.bl b) (.bool b)
  | int (i : Int) : Im K H (.int i) (.int i)
  | str (x : Str) : Im K H (.str x) (.str x)
  | tup {a : Addr} {xs : List V} {ds : List PyData} : SqT K H a xs → ImA K H xs ds → Im K H (.ref a) (.tuple ds)
inductive ImA (K : PySem.W.Frag) (H : Hp) : List V → List PyData → Prop
  | nil : ImA K H [] []
  | cons {v : V} {vs : List V} {d : PyData} {ds : List PyData} : Im K H v d → ImA K H vs ds → ImA K H (v :: vs) (d :: ds)
end
mutual
theorem Im.mono {K : PySem.W.Frag} {H H' : Hp} (s : Stay H H') : ∀ {v : V} {d : PyData}, Im K H v d → Im K H' v d
  | _, _, .non => .non
  | _, _, .bl b => .bl b
  | _, _, .int i => .int i
  | _, _, .str x => .str x
  | _, _, .tup h a => .tup (s.sqt h) (ImA.mono s a)
theorem ImA.mono {K : PySem.W.Frag} {H H' : Hp} (s : Stay H H') : ∀ {vs : List V} {ds : List PyData}, ImA K H vs ds → ImA K H' vs ds
  | _, _, .nil => .nil
  | _, _, .cons a b => .cons (Im.mono s a) (ImA.mono s b)
end
mutual
theorem Im.dp {K : PySem.W.Frag} {H : Hp} : ∀ {v : V} {d : PyData}, Im K H v d → Dp K H v d
  | _, _, .non => .non
  | _, _, .bl b => .bl b
  | _, _, .int i => .int i
  | _, _, .str x => .str x
  | _, _, .tup h a => .tup h (ImA.dp a)
theorem ImA.dp {K : PySem.W.Frag} {H : Hp} : ∀ {vs : List V} {ds : List PyData}, ImA K H vs ds → DpAll K H vs ds
  | _, _, .nil => .nil
  | _, _, .cons a b => .cons (Im.dp a) (ImA.dp b)
end
theorem ImA.len {K : PySem.W.Frag} {H : Hp} : ∀ {vs : List V} {ds : List PyData}, ImA K H vs ds → vs.length = ds.length
  | _, _, .nil => rfl
  | _, _, .cons _ b => by rw [List.length_cons, List.length_cons, ImA.len b]
theorem ImA.get {K : PySem.W.Frag} {H : Hp} : ∀ {vs : List V} {ds : List PyData} {i : Nat} {d : PyData}, ImA K H vs ds → ds[i]? = some d → ∃ v, vs[i]? = some v ∧ Im K H v d
  | _, _, _, _, .nil, e => by simp at e
  | _, _, 0, _, .cons a _, e => by simp at e; subst e; exact ⟨_, rfl, a⟩
  | _, _, i + 1, d, .cons _ b, e => by
    obtain ⟨v, h1, h2⟩ := ImA.get (i := i) (d := d) b (by simpa using e)
    exact ⟨v, by simpa using h1, h2⟩
theorem ImA.app {K : PySem.W.Frag} {H : Hp} : ∀ {vs ws : List V} {ds es : List PyData}, ImA K H vs ds → ImA K H ws es → ImA K H (vs ++ ws) (ds ++ es)
  | _, _, _, _, .nil, b => b
  | _, _, _, _, .cons a r, b => .cons a (ImA.app r b)
theorem ImA.strs {K : PySem.W.Frag} {H : Hp} : ∀ l : List Str, ImA K H (l.map V.str) (l.map PyData.str)
  | [] => .nil
  | x :: l => .cons (.str x) (ImA.strs l)
theorem ImA.ints {K : PySem.W.Frag} {H : Hp} : ∀ l : List Int, ImA K H (l.map V.int) (l.map PyData.int)
  | [] => .nil
  | x :: l => .cons (.int x) (ImA.ints l)
theorem Im.strs {K : PySem.W.Frag} {H : Hp} {a : Addr} {l : List Str} (h : SqT K H a (l.map V.str)) : Im K H (.ref a) (.tuple (l.map PyData.str)) := .tup h (ImA.strs l)
theorem Im.ints {K : PySem.W.Frag} {H : Hp} {a : Addr} {l : List Int} (h : SqT K H a (l.map V.int)) : Im K H (.ref a) (.tuple (l.map PyData.int)) := .tup h (ImA.ints l)
/-! ### known for good, and own -/
structure Hs (B : Hp) (L : List (Addr × HO)) (H : Hp) : Prop where
  sub : Same B H
  own : ∀ q ∈ L, H q.1 = some q.2
  nd : (L.map (·.1)).Nodup
  ap : ∀ q ∈ L, B q.1 = none
section
variable {B B' H H' : Hp} {L : List (Addr × HO)} {p : Addr} {o o' : HO} {x y z u : Addr × HO}
theorem Hs.start (H : Hp) : Hs H [] H := ⟨Same.refl H, fun _ h => (nomatch h), List.nodup_nil, fun _ h => (nomatch h)⟩
theorem Hs.ne_of_new (h : Hs B L H) (hp : H p = none) : ∀ q ∈ L, q.1 ≠ p := fun q hq z => by
  have e := h.own q hq
  rw [z, hp] at e
  cases e
theorem Hs.new (h : Hs B L H) (hp : H p = none) : Hs B ((p, o) :: L) (upd H p o) where
  sub := h.sub.trans (up_same hp)
  own := fun q hq => by
    rcases List.mem_cons.mp hq with rfl | hq
    · exact upd_same
    · rw [upd_ne (h.ne_of_new hp q hq)]
      exact h.own q hq
  nd := List.nodup_cons.mpr ⟨fun hm => by
    obtain ⟨q, hq, e⟩ := List.mem_map.mp hm
    exact h.ne_of_new hp q hq e, h.nd⟩
  ap := fun q hq => by
    rcases List.mem_cons.mp hq with rfl | hq
    · exact h.sub.free hp
    · exact h.ap q hq
theorem Hs.tup (h : Hs B L H) (hp : H p = none) : Hs (upd B p o) L (upd H p o) where
  sub := fun b w e => by
    by_cases hb : b = p
    · subst hb
      rw [upd_same] at e ⊢
      exact e
    · rw [upd_ne hb] at e ⊢
      exact h.sub b w e
  own := fun q hq => by
    rw [upd_ne (h.ne_of_new hp q hq)]
    exact h.own q hq
  nd := h.nd
  ap := fun q hq => by
    rw [upd_ne (h.ne_of_new hp q hq)]
    exact h.ap q hq
/-- what is laid and never told of again -/
theorem Hs.lay (h : Hs B L H) (hp : H p = none) : Hs B L (upd H p o) where
  sub := h.sub.trans (up_same hp)
  own := fun q hq => by
    rw [upd_ne (h.ne_of_new hp q hq)]
    exact h.own q hq
  nd := h.nd
  ap := h.ap
theorem Hs.swap (h : Hs B (x :: y :: L) H) : Hs B (y :: x :: L) H :=
  ⟨h.sub, fun q hq => h.own q (by simp only [List.mem_cons] at hq ⊢; rcases hq with a | a | a <;> simp [a]),
   (List.Perm.swap _ _ _).nodup_iff.mp (by simpa using h.nd), fun q hq => h.ap q (by simp only [List.mem_cons] at hq ⊢; rcases hq with a | a | a <;> simp [a])⟩
theorem Hs.perm {L' : List (Addr × HO)} (h : Hs B L H) (pm : L.Perm L') : Hs B L' H :=
  ⟨h.sub, fun q hq => h.own q (pm.mem_iff.mpr hq), (pm.map _).nodup_iff.mp h.nd, fun q hq => h.ap q (pm.mem_iff.mpr hq)⟩
theorem Hs.r0 (h : Hs B ((p, o) :: L) H) : H p = some o := h.own (p, o) List.mem_cons_self
theorem Hs.r1 (h : Hs B (x :: (p, o) :: L) H) : H p = some o := h.own (p, o) (by simp)
theorem Hs.r2 (h : Hs B (x :: y :: (p, o) :: L) H) : H p = some o := h.own (p, o) (by simp)
theorem Hs.r3 (h : Hs B (x :: y :: z :: (p, o) :: L) H) : H p = some o := h.own (p, o) (by simp)
theorem Hs.r4 (h : Hs B (x :: y :: z :: u :: (p, o) :: L) H) : H p = some o := h.own (p, o) (by simp)
theorem Hs.w0 (h : Hs B ((p, o) :: L) H) : Hs B ((p, o') :: L) (upd H p o') where
  sub := fun b w e => by
    rw [upd_ne]
    · exact h.sub b w e
    · intro q
      have := h.ap (p, o) List.mem_cons_self
      rw [q, this] at e
      cases e
  own := fun q hq => by
    rcases List.mem_cons.mp hq with rfl | hq
    · exact upd_same
    · have nd := List.nodup_cons.mp h.nd
      rw [upd_ne]
      · exact h.own q (List.mem_cons_of_mem _ hq)
      · intro e
        exact nd.1 (List.mem_map.mpr ⟨q, hq, e⟩)
  nd := h.nd
  ap := fun q hq => by
    rcases List.mem_cons.mp hq with rfl | hq
    · exact h.ap (p, o) List.mem_cons_self
    · exact h.ap q (List.mem_cons_of_mem _ hq)
theorem Hs.w1 (h : Hs B (x :: (p, o) :: L) H) : Hs B (x :: (p, o') :: L) (upd H p o') := h.swap.w0.swap
theorem Hs.w2 (h : Hs B (x :: y :: (p, o) :: L) H) : Hs B (x :: y :: (p, o') :: L) (upd H p o') :=
  (h.perm (L' := (p, o) :: x :: y :: L) ((List.Perm.cons _ (List.Perm.swap _ _ _)).trans (List.Perm.swap _ _ _))).w0.perm ((List.Perm.swap _ _ _).trans (List.Perm.cons _ (List.Perm.swap _ _ _)))
theorem Hs.drop (h : Hs B (x :: L) H) : Hs B L H := ⟨h.sub, fun q hq => h.own q (List.mem_cons_of_mem _ hq), (List.nodup_cons.mp h.nd).2, fun q hq => h.ap q (List.mem_cons_of_mem _ hq)⟩
/-- own no more: known for good -/
theorem Hs.give (h : Hs B ((p, o) :: L) H) : Same B (upd B p o) ∧ Hs (upd B p o) L H := by
  have hp : B p = none := h.ap (p, o) List.mem_cons_self
  refine ⟨up_same hp, fun b w e => ?_, fun q hq => h.own q (List.mem_cons_of_mem _ hq), (List.nodup_cons.mp h.nd).2, fun q hq => ?_⟩
  · by_cases hb : b = p
    · subst hb
      rw [upd_same] at e
      rw [h.r0]
      exact e
    · rw [upd_ne hb] at e
      exact h.sub b w e
  · rw [upd_ne]
    · exact h.ap q (List.mem_cons_of_mem _ hq)
    · intro e
      exact (List.nodup_cons.mp h.nd).1 (List.mem_map.mpr ⟨q, hq, e⟩)
/-- a known list (an argument that the def changes) becomes own -/
theorem Hs.take (h : Hs B L H) (hb : B p = some o) : Hs (L2.del B p) ((p, o) :: L) H where
  sub := fun b w e => by
    unfold L2.del at e
    split at e
    · cases e
    · exact h.sub b w e
  own := fun q hq => by
    rcases List.mem_cons.mp hq with rfl | hq
    · exact h.sub _ _ hb
    · exact h.own q hq
  nd := by
    refine List.nodup_cons.mpr ⟨fun hm => ?_, h.nd⟩
    obtain ⟨q, hq, e⟩ := List.mem_map.mp hm
    have e2 := h.ap q hq
    rw [e, hb] at e2
    cases e2
  ap := fun q hq => by
    rcases List.mem_cons.mp hq with rfl | hq
    · exact del_same
    · unfold L2.del
      split
      · rfl
      · exact h.ap q hq
theorem stay_del {xs : List V} (hb : B p = some (.lst xs)) : Stay B (L2.del B p) := fun a w e n => by
  rw [del_ne]
  · exact e
  · intro z
    rw [z, hb] at e
    exact n _ (Option.some.inj e).symm
/-! behind a call -/
def cut (L : List (Addr × HO)) (H : Hp) : Hp := fun a => if a ∈ L.map (·.1) then none else H a
theorem cut_at {a : Addr} (h : a ∉ L.map (·.1)) : cut L H a = H a := if_neg h
theorem cut_in {a : Addr} (h : a ∈ L.map (·.1)) : cut L H a = none := if_pos h
theorem Hs.out (h : Hs B L H) {a : Addr} {w : HO} (e : B a = some w) : a ∉ L.map (·.1) := fun hm => by
  obtain ⟨q, hq, z⟩ := List.mem_map.mp hm
  have := h.ap q hq
  rw [z, e] at this
  cases this
theorem Hs.out_new (h : Hs B L H) {a : Addr} (e : H a = none) : a ∉ L.map (·.1) := fun hm => by
  obtain ⟨q, hq, z⟩ := List.mem_map.mp hm
  have := h.own q hq
  rw [z, e] at this
  cases this
/-- a call that changes nothing tracked -/
theorem Hs.after (h : Hs B L H) (s : Same H H') : Same B (cut L H') ∧ Hs (cut L H') L H' :=
  ⟨fun a w e => by rw [cut_at (h.out e)]; exact s a w (h.sub a w e), fun a w e => by
    unfold cut at e
    split at e
    · cases e
    · exact e, fun q hq => s _ _ (h.own q hq), h.nd, fun q hq => cut_in (List.mem_map_of_mem hq)⟩
/-- .. that changes the one at p -/
def Chg (p : Addr) (o' : HO) (H H' : Hp) : Prop := H' p = some o' ∧ ∀ a w, a ≠ p → H a = some w → H' a = some w
theorem Hs.chg (h : Hs B ((p, o) :: L) H) (s : Chg p o' H H') : Same B (cut ((p, o') :: L) H') ∧ Hs (cut ((p, o') :: L) H') ((p, o') :: L) H' := by
  have kk : ((p, o') :: L).map (·.1) = ((p, o) :: L).map (·.1) := rfl
  refine ⟨fun a w e => ?_, fun a w e => ?_, fun q hq => ?_, by rw [kk]; exact h.nd, fun q hq => cut_in (List.mem_map_of_mem hq)⟩
  · have ho := h.out e
    rw [cut_at (by rw [kk]; exact ho)]
    exact s.2 a w (fun z => ho (by rw [z]; simp)) (h.sub a w e)
  · unfold cut at e
    split at e
    · cases e
    · exact e
  · rcases List.mem_cons.mp hq with rfl | hq
    · exact s.1
    · refine s.2 _ _ (fun z => (List.nodup_cons.mp h.nd).1 (List.mem_map.mpr ⟨q, hq, z⟩)) (h.own q (List.mem_cons_of_mem _ hq))
theorem Chg.stay {xs : List V} (c : Chg p o' H H') (hb : H p = some (.lst xs)) : Stay H H' := fun a w e n => c.2 a w (fun z => by
  rw [z, hb] at e
  exact n _ (Option.some.inj e).symm) e
/-- at a def's end -/
theorem Hs.same (h : Hs B L H') (s : Same H B) : Same H H' := s.trans h.sub
theorem Hs.isChg {B0 : Hp} (h : Hs B ((p, o') :: L) H') (s : Same (L2.del B0 p) B) : Chg p o' B0 H' :=
  ⟨h.r0, fun a w hne e => h.sub a w (s a w (by rw [del_ne hne]; exact e))⟩
theorem Chg.trans {o1 o2 : HO} {H1 H2 : Hp} (a : Chg p o1 H H1) (b : Chg p o2 H1 H2) : Chg p o2 H H2 := ⟨b.1, fun c w n e => b.2 c w n (a.2 c w n e)⟩
end
/-- lists of one's own are lists -/
def AllL (L : List (Addr × HO)) : Prop := ∀ q ∈ L, ∃ xs, q.2 = .lst xs
theorem stay_cut {L : List (Addr × HO)} {B H H' : Hp} (h : Hs B L H) (al : AllL L) (s : Same H H') : Stay H' (cut L H') := fun a w e n => by
  rw [cut_at]
  · exact e
  · intro hm
    obtain ⟨q, hq, z⟩ := List.mem_map.mp hm
    obtain ⟨xs, hx⟩ := al q hq
    have := s _ _ (h.own q hq)
    rw [z, e, hx] at this
    exact n _ (Option.some.inj this)
theorem stay_cutC {L : List (Addr × HO)} {p : Addr} {o o' : HO} {B H H' : Hp} (h : Hs B ((p, o) :: L) H) (al : AllL ((p, o') :: L)) (s : Chg p o' H H') : Stay H' (cut ((p, o') :: L) H') := fun a w e n => by
  rw [cut_at]
  · exact e
  · intro hm
    obtain ⟨q, hq, z⟩ := List.mem_map.mp hm
    obtain ⟨xs, hx⟩ := al q hq
    have := (h.chg s).2.own q hq
    rw [z, e, hx] at this
    exact n _ (Option.some.inj this)
theorem AllL.nil : AllL [] := fun _ h => (nomatch h)
theorem AllL.cons {p : Addr} {xs : List V} {L : List (Addr × HO)} (h : AllL L) : AllL ((p, .lst xs) :: L) := fun q hq => by
  rcases List.mem_cons.mp hq with rfl | hq
  · exact ⟨xs, rfl⟩
  · exact h q hq
/-! ### callables: a module's def -/
structure Cal (P : Program) (w : World) (K : PySem.W.Frag) (mg : Str → Option Value) (base : Heap) (k : Nat) (x : Str) (ps : List Str) (sp : Sp) : Prop where
  fn : ∃ fd, FnOk P w K mg base (L2.CX P w) k (He.ga K x) fd ps sp ∧ Binds K fd ps []
  at_ : mg x = some (.ref (He.ga K x))
  kp : PySem.W.keepIn K (.ref (He.ga K x)) = true
theorem Cal.mono {P : Program} {w : World} {K : PySem.W.Frag} {mg : Str → Option Value} {base : Heap} {j k : Nat} {x : Str} {ps : List Str} {sp : Sp} (c : Cal P w K mg base j x ps sp) (h : j ≤ k) : Cal P w K mg base k x ps sp :=
  ⟨let ⟨fd, a, b⟩ := c.fn; ⟨fd, a.mono h, b⟩, c.at_, c.kp⟩
section
variable {X : Cx} {k j : Nat} {x : Str} {ps : List Str} {sp : Sp} {p pos : Pos} {e : Expr} {es : List Expr} {t : TA} {W : WX}
/-- f(..) that raises nothing -/
theorem pe_cal (c : Cal X.prog X.w X.K X.mg X.base j x ps sp) (hr : Room k X.A) (ha : PA X (e :: es) t) (hk : j ≤ k := by decide) (hg : Gl X x := by rfl) (hdb : (x == ("__debug__" : Str)) = false := by decide)
    (he : starEach (e :: es) X.env = (false, eval e X.env) :: starEach es X.env := by rfl) (hpl : (backTo pos (starEach es X.env)).any (·.1) = false := by rfl) : PE X (.Call (.Name x p) (e :: es) [] pos) (tCallS sp (fun _ => E0) t) := by
  obtain ⟨fd, F, b⟩ := c.fn
  exact pe_callS F (hr.mono hk) hg c.at_ c.kp b (fun σ => fun pins H s e s' I h => passL pins σ H s e s' I h) ha hdb he hpl
/-- f(..) that may raise -/
theorem pe_calX (c : Cal X.prog X.w X.K X.mg X.base j x ps sp) (hr : Room k X.A) (tk : Takes X W) (ha : PA X (e :: es) t) (hk : j ≤ k := by decide) (hg : Gl X x := by rfl) (hdb : (x == ("__debug__" : Str)) = false := by decide)
    (he : starEach (e :: es) X.env = (false, eval e X.env) :: starEach es X.env := by rfl) (hpl : (backTo pos (starEach es X.env)).any (·.1) = false := by rfl) : PE X (.Call (.Name x p) (e :: es) [] pos) (tCallS sp (WE W) t) := by
  obtain ⟨fd, F, b⟩ := c.fn
  exact pe_callS F (hr.mono hk) hg c.at_ c.kp b (fun σ => passAt tk σ) ha hdb he hpl
end
/-! ### steps of a reading -/
section
variable {σ : L2.St} {H : Hp} {D : Ends} {Q : VK} {K : PySem.W.Frag}
theorem if_dec {p : Prop} [Decidable p] {A B : Prop} (a : p → A) (b : ¬p → B) : if decide p = true then A else B := by
  by_cases h : p
  · rw [decide_eq_true h]
    exact iteT (a h)
  · rw [decide_eq_false h]
    exact iteF (b h)
theorem if_ndec {p : Prop} [Decidable p] {A B : Prop} (a : ¬p → A) (b : p → B) : if (!decide p) = true then A else B := by
  by_cases h : p
  · rw [decide_eq_true h]
    exact iteF (b h)
  · rw [decide_eq_false h]
    exact iteT (a h)
theorem if_bool {c : Bool} {A B : Prop} (a : c = true → A) (b : c = false → B) : if c = true then A else B := by
  cases c with
  | true => exact iteT (a rfl)
  | false => exact iteF (b rfl)
end
end Sy
/-! defs of the top; a bed as an object -/
namespace Sy
open PySem PySem.Spec PyProof.Rows L2
/-- the def x of the top, by its row st -/
def FD (K : PySem.W.Frag) (x : Str) (st : Stmt) : Prop := ∃ fd, FunD K x x (defArgs st) (defBody st) (defScope st) [] [] (He.ga K x) fd
theorem cal_of {P : Program} {w : World} {K : PySem.W.Frag} {mg : Str → Option Value} {base : Heap} {x : Str} {st : Stmt} {N ps : List Str} {k : Nat} {sp : Sp} (F : FD K x st) (hm : mg x = some (.ref (He.ga K x))) (S : FnScope N ps (defScope st))
    (hb : ∀ (kV doc pm : Value) (an : Option Addr) (cdv ct : Value) (us : List Value), us.length = ps.length → bindArgs (PySem.W.fnOf x x (defArgs st) (defBody st) (defScope st) .none kV doc pm an cdv ct) ⟨us, []⟩ = pure (ps.zip us))
    (len : ∀ vs H Q E, sp vs H Q E → vs.length = ps.length)
    (body : ∀ (cdv : Value) (A : Around) (outer : List Env) (s : Shared) (H : Hp) (vs : List V) (Q : VK) (E : XK), Room k (A.deeper (envOfC x (defScope st) s.heap.objs.size (He.ga K x) cdv)) → sp vs H Q E →
      ∃ t, PSs (cxOf (L2.CX P w) P w K mg base N x (defScope st) (He.ga K x) cdv A outer s H E) (defBody st) t ∧ t { nx := fun _ H' => Q .non H', rt := Q } (start N vs) H) : Cal P w K mg base (k + 1) x ps sp := by
  obtain ⟨fd, F⟩ := F
  exact ⟨⟨fd, F.ok S len body, F.bindsN hb⟩, hm, F.kp⟩
/-! ### a bed -/
abbrev Row := Str × Nat
/-- the number of branches, 0 if it is no kind -/
def ar (rows : List Sy.Row) (x : Str) : Nat := (rows.lookup x).getD 0
def isK (rows : List Sy.Row) (x : Str) : Bool := (rows.lookup x).isSome
def arKV (rows : List Sy.Row) : List (Key × V) := rows.map fun r => (Sum.inr r.1, V.int (r.2 : Nat))
def rkKV : Nat → List Sy.Row → List (Key × V)
  | _, [] => []
  | n, r :: rs => (Sum.inr r.1, V.int (n : Nat)) :: rkKV (n + 1) rs
/-- the place of a kind -/
def rk : Nat → List Sy.Row → Str → Option Nat
  | _, [], _ => none
  | n, r :: rs, x => if r.1 = x then some n else rk (n + 1) rs x
theorem lookup_cons (r : Sy.Row) (rs : List Sy.Row) (x : Str) : (r :: rs).lookup x = if r.1 = x then some r.2 else rs.lookup x := by
  obtain ⟨a, b⟩ := r
  by_cases h : a = x
  · subst h
    simp [List.lookup]
  · rw [if_neg h]
    have h2 : (x == a) = false := beq_eq_false_iff_ne.mpr fun z => h z.symm
    simp [List.lookup, h2]
theorem valV_cons {κ : Type} [DecidableEq κ] (k : κ) (v : V) (l : List (κ × V)) (x : κ) : valV ((k, v) :: l) x = if k = x then some v else valV l x := by
  unfold valV
  rw [List.find?_cons]
  by_cases h : k = x
  · subst h
    simp
  · simp [h]
theorem valV_ar (x : Str) : ∀ rows : List Sy.Row, valV (arKV rows) (Sum.inr x : Key) = (rows.lookup x).map fun n => V.int (n : Nat)
  | [] => rfl
  | r :: rs => by
    show valV ((Sum.inr r.1, V.int (r.2 : Nat)) :: arKV rs) (Sum.inr x : Key) = _
    rw [valV_cons, lookup_cons, valV_ar x rs]
    by_cases h : r.1 = x
    · subst h
      simp
    · rw [if_neg h, if_neg]
      exact fun z => h (Sum.inr.inj z)
theorem valV_rk (x : Str) : ∀ (n : Nat) (rows : List Sy.Row), valV (rkKV n rows) (Sum.inr x : Key) = (rk n rows x).map fun n => V.int (n : Nat)
  | _, [] => rfl
  | n, r :: rs => by
    show valV ((Sum.inr r.1, V.int (n : Nat)) :: rkKV (n + 1) rs) (Sum.inr x : Key) = _
    rw [valV_cons, valV_rk x (n + 1) rs]
    show _ = (if r.1 = x then some n else rk (n + 1) rs x).map _
    by_cases h : r.1 = x
    · subst h
      simp
    · rw [if_neg h, if_neg]
      exact fun z => h (Sum.inr.inj z)
/-- the fields, in the order in which __init__ stores them -/
def bedF (dA tR tK dR : Addr) : List (Str × V) := [("arities", .ref dA), ("rows", .ref tR), ("kinds", .ref tK), ("ranks", .ref dR)]
/-- a bed stands at a -/
structure BedAt (K : PySem.W.Frag) (H : Hp) (a : Addr) (rows : List Sy.Row) : Prop where
  ex : ∃ (dx dA tR tK dR : Addr) (ps : List Addr), H a = some (.ins (He.ga K "Bed") dx (bedF dA tR tK dR)) ∧ H dA = some (.dK (arKV rows)) ∧ H dR = some (.dK (rkKV 0 rows)) ∧ SqT K H tR (ps.map V.ref) ∧ SqT K H tK (rows.map fun r => V.str r.1) ∧
    Paired (fun p (r : Sy.Row) => SqT K H p [.str r.1, .int (r.2 : Nat)]) ps rows
theorem BedAt.mono {K : PySem.W.Frag} {H H' : Hp} {a : Addr} {rows : List Sy.Row} (s : Stay H H') (b : BedAt K H a rows) : BedAt K H' a rows := by
  obtain ⟨dx, dA, tR, tK, dR, ps, h1, h2, h3, h4, h5, h6⟩ := b.ex
  exact ⟨dx, dA, tR, tK, dR, ps, s _ _ h1 (fun _ z => nomatch z), s _ _ h2 (fun _ z => nomatch z), s _ _ h3 (fun _ z => nomatch z), s.sqt h4, s.sqt h5, Paired.mapP h6 fun _ _ z => s.sqt z⟩
/-- what the walk asks of the top: the class Bed -/
structure BedT (K : PySem.W.Frag) : Prop where
  cl : Cls K (He.ga K "Bed")
  nA : NoAttr K (He.ga K "Bed") "arities"
  nR : NoAttr K (He.ga K "Bed") "rows"
  nK : NoAttr K (He.ga K "Bed") "kinds"
  nRk : NoAttr K (He.ga K "Bed") "ranks"
section
variable {K : PySem.W.Frag} {σ : L2.St} {H : Hp} {Q : VK} {i : Nat} {a : Addr} {rows : List Sy.Row}
/-- bed.arities, the bed in slot i -/
theorem bed_ar (T : BedT K) (b : BedAt K H a rows) (hi : σ[i]? = some (some (.ref a))) (h : ∀ dA, H dA = some (.dK (arKV rows)) → Q (.ref dA) H) : tFld K (tVar i) "arities" σ H Q := by
  obtain ⟨dx, dA, tR, tK, dR, ps, h1, h2, h3, h4, h5, h6⟩ := b.ex
  exact ⟨_, hi, a, _, dx, _, _, rfl, h1, T.cl, T.nA, rfl, h dA h2⟩
theorem bed_rk (T : BedT K) (b : BedAt K H a rows) (hi : σ[i]? = some (some (.ref a))) (h : ∀ dR, H dR = some (.dK (rkKV 0 rows)) → Q (.ref dR) H) : tFld K (tVar i) "ranks" σ H Q := by
  obtain ⟨dx, dA, tR, tK, dR, ps, h1, h2, h3, h4, h5, h6⟩ := b.ex
  exact ⟨_, hi, a, _, dx, _, _, rfl, h1, T.cl, T.nRk, rfl, h dR h3⟩
theorem bed_kd (T : BedT K) (b : BedAt K H a rows) (hi : σ[i]? = some (some (.ref a))) (h : ∀ tK, SqT K H tK (rows.map fun r => V.str r.1) → Q (.ref tK) H) : tFld K (tVar i) "kinds" σ H Q := by
  obtain ⟨dx, dA, tR, tK, dR, ps, h1, h2, h3, h4, h5, h6⟩ := b.ex
  exact ⟨_, hi, a, _, dx, _, _, rfl, h1, T.cl, T.nK, rfl, h tK h5⟩
end
end Sy
namespace Sy
open PySem PySem.Spec PyProof.Rows L2
theorem pe_gint {X : Cx} {x : Str} {i : Int} {pos : Pos} (hg : Gl X x) (hm : ∃ t, X.mg x = some (.int i t)) (hd : (x == ("__debug__" : Str)) = false := by decide) : PE X (.Name x pos) (tC (.int i)) := by
  obtain ⟨t, hm⟩ := hm
  exact pe_glob hg hm ⟨_, rfl⟩ hd
theorem pe_gstr {X : Cx} {x z : Str} {pos : Pos} (hg : Gl X x) (hm : ∃ t, X.mg x = some (.str z t)) (hd : (x == ("__debug__" : Str)) = false := by decide) : PE X (.Name x pos) (tC (.str z)) := by
  obtain ⟨t, hm⟩ := hm
  exact pe_glob hg hm ⟨_, rfl⟩ hd
/-- built-in names and constants that the module leaves alone -/
structure Txt (K : PySem.W.Frag) (mg : Str → Option Value) : Prop where
  bed : BedT K
  len : mg "len" = none
  range : mg "range" = none
  reversed : mg "reversed" = none
  enumerate : mg "enumerate" = none
  tuple : mg "tuple" = none
  list : mg "list" = none
  int : mg "int" = none
  abs : mg "abs" = none
  max : mg "max" = none
  isinstance : mg "isinstance" = none
  MOST_KNOTS : ∃ t, mg "MOST_KNOTS" = some (.int 2000 t)
  MOST_KINDS : ∃ t, mg "MOST_KINDS" = some (.int 8 t)
  MOST_BRANCHES : ∃ t, mg "MOST_BRANCHES" = some (.int 3 t)
  LONGEST_NAME : ∃ t, mg "LONGEST_NAME" = some (.int 8 t)
/-! loops, in the form that a reading asks for -/
abbrev Loop (J : It) (g : TG) (tb : TS) (D : Ends) (σ : L2.St) (H : Hp) : Prop := ∃ W : Nat → Nat → L2.St → Hp → Prop, (∃ m, W 0 m σ H) ∧ ∀ i m σ H, W i m σ H → (J.stop i H ∧ D.nx σ H) ∨
  (J.go i H ∧ ∃ N : L2.St → Hp → Prop, (∀ σ' H', N σ' H' → ∃ m', m' < m ∧ W (i + 1) m' σ' H') ∧ ∀ x H', J.yld i H x H' → g x σ H' fun σ2 H2 => tb { D with nx := N, ct := N, bk := D.nx } σ2 H2)
/-- for i, x in enumerate(t) -/
theorem for_enumT {K : PySem.W.Frag} {si sj : Nat} {tb : TS} {D : Ends} {σ : L2.St} {H : Hp} {a : Addr} {xs : List V} (Pv : Nat → L2.St → Hp → Prop)
    (h0 : Pv 0 σ H) (hG : ∀ i σ H, i ≤ xs.length → Pv i σ H → SqT K H a xs)
    (hs : ∀ i x σ H T, xs[i]? = some x → Pv i σ H → H T = none → tb { D with nx := Pv (i + 1), ct := Pv (i + 1), bk := D.nx } ((σ.set si (some (.int (i : Nat)))).set sj (some x)) (upd H T (.tup [.int (i : Nat), x])))
    (hd : ∀ σ H, Pv xs.length σ H → D.nx σ H) : Loop (ItE K a) (gTup K 2 (gCons (gName si) (gCons (gName sj) gNil))) tb D σ H := by
  refine for_it walkE Pv h0 hG (fun i v σ H H' hi hp y => ?_) hd
  obtain ⟨T, x, z, rfl, hT, rfl, e1, e2⟩ := y
  cases e1
  exact ⟨T, _, rfl, SqT.of upd_same, rfl, _, _, rfl, _, _, rfl, rfl, hs i z σ H T e2 hp hT⟩
/-- .. over a list that the body leaves alone -/
theorem for_enumL {K : PySem.W.Frag} {si sj : Nat} {tb : TS} {D : Ends} {σ : L2.St} {H : Hp} {a : Addr} {xs : List V} (Pv : Nat → L2.St → Hp → Prop)
    (h0 : Pv 0 σ H) (hG : ∀ i σ H, i ≤ xs.length → Pv i σ H → SqL K H a xs)
    (hs : ∀ i x σ H T, xs[i]? = some x → Pv i σ H → H T = none → tb { D with nx := Pv (i + 1), ct := Pv (i + 1), bk := D.nx } ((σ.set si (some (.int (i : Nat)))).set sj (some x)) (upd H T (.tup [.int (i : Nat), x])))
    (hd : ∀ σ H, Pv xs.length σ H → D.nx σ H) : Loop (Ite K a) (gTup K 2 (gCons (gName si) (gCons (gName sj) gNil))) tb D σ H := by
  refine for_it walk_enum Pv h0 hG (fun i v σ H H' hi hp y => ?_) hd
  obtain ⟨T, x, z, rfl, hT, rfl, e1, e2⟩ := y
  cases e1
  exact ⟨T, _, rfl, SqT.of upd_same, rfl, _, _, rfl, _, _, rfl, rfl, hs i z σ H T e2 hp hT⟩
/-- for k in range(n) -/
theorem for_rng {si : Nat} {tb : TS} {D : Ends} {σ : L2.St} {H : Hp} {n : Nat} (Pv : Nat → L2.St → Hp → Prop) (h0 : Pv 0 σ H)
    (hs : ∀ (i : Nat) σ H, i < n → Pv i σ H → tb { D with nx := Pv (i + 1), ct := Pv (i + 1), bk := D.nx } (σ.set si (some (.int (i : Nat)))) H)
    (hd : ∀ σ H, Pv n σ H → D.nx σ H) : Loop (Itr 0 n) (gName si) tb D σ H := by
  refine for_range Pv h0 (fun i σ H hi hp => ?_) hd
  have e : (0 : Int) + (i : Nat) = (i : Nat) := by omega
  have q := hs i σ _ hi hp
  rw [← e] at q
  exact q
/-- for k in reversed(range(n)) -/
theorem for_rrng {si : Nat} {tb : TS} {D : Ends} {σ : L2.St} {H : Hp} {n : Nat} (Pv : Nat → L2.St → Hp → Prop) (h0 : Pv n σ H)
    (hs : ∀ (i : Nat) σ H, i < n → Pv (i + 1) σ H → tb { D with nx := Pv i, ct := Pv i, bk := D.nx } (σ.set si (some (.int (i : Nat)))) H)
    (hd : ∀ σ H, Pv 0 σ H → D.nx σ H) : Loop (Itc (0 + (((n : Int) - 0).toNat : Int) - 1) (-1) (((n : Int) - 0).toNat)) (gName si) tb D σ H := by
  have e0 : (((n : Nat) : Int) - 0).toNat = n := by omega
  rw [e0]
  refine for_it walk_rangeC (fun j σ H => Pv (n - j) σ H) h0 (fun _ _ _ _ _ => trivial) (fun j v σ H H' hj hp y => ?_) (fun σ H q => ?_)
  · obtain ⟨rfl, rfl⟩ := y
    have e : (0 : Int) + (n : Nat) - 1 + (j : Nat) * -1 = ((n - 1 - j : Nat) : Int) := by omega
    have e1 : n - j = (n - 1 - j) + 1 := by omega
    rw [e1] at hp
    have q := hs (n - 1 - j) σ _ (by omega) hp
    rw [← e] at q
    have e2 : n - (j + 1) = n - 1 - j := by omega
    show tb { D with nx := fun σ H => Pv (n - (j + 1)) σ H, ct := fun σ H => Pv (n - (j + 1)) σ H, bk := D.nx } _ _
    rw [e2]
    exact q
  · rw [Nat.sub_self] at q
    exact hd σ H q
end Sy
/-! plants as rows of numbers of branches: plain mathematics -/
namespace Sy
/-- how many entries n plants take that stand one behind the other -/
def sp : Nat → List Nat → Nat
  | 0, _ => 0
  | _ + 1, [] => 0
  | n + 1, a :: w => 1 + sp (n + a) w
/-- w is n plants, one behind the other -/
def Fo : Nat → List Nat → Prop
  | 0, [] => True
  | 0, _ :: _ => False
  | _ + 1, [] => False
  | n + 1, a :: w => Fo (n + a) w
theorem sp_zero (w : List Nat) : sp 0 w = 0 := by cases w <;> rfl
theorem sp_nil (n : Nat) : sp n [] = 0 := by cases n <;> rfl
theorem sp_cons (n a : Nat) (w : List Nat) : sp (n + 1) (a :: w) = 1 + sp (n + a) w := rfl
theorem sp_add : ∀ (w : List Nat) (n m : Nat), sp (n + m) w = sp n w + sp m (w.drop (sp n w))
  | w, 0, m => by rw [sp_zero, Nat.zero_add, Nat.zero_add, List.drop_zero]
  | [], n + 1, m => by simp [sp_nil]
  | a :: w, n + 1, m => by
    have e : n + 1 + m = (n + m) + 1 := by omega
    rw [e, sp_cons, sp_cons, show n + m + a = (n + a) + m by omega, sp_add w (n + a) m, Nat.add_assoc, show 1 + sp (n + a) w = sp (n + a) w + 1 by omega, List.drop_succ_cons]
theorem Fo.zero {w : List Nat} (h : Fo 0 w) : w = [] := by
  cases w with
  | nil => rfl
  | cons a w => exact h.elim
theorem Fo.le : ∀ {w : List Nat} {k m : Nat}, Fo (k + m) w → sp k w ≤ w.length ∧ Fo m (w.drop (sp k w)) ∧ Fo k (w.take (sp k w))
  | w, 0, m, h => by
    rw [Nat.zero_add] at h
    rw [sp_zero]
    exact ⟨Nat.zero_le _, h, trivial⟩
  | [], k + 1, m, h => by
    rw [show k + 1 + m = (k + m) + 1 by omega] at h
    exact h.elim
  | a :: w, k + 1, m, h => by
    rw [show k + 1 + m = (k + m) + 1 by omega] at h
    have h : Fo (k + m + a) w := h
    rw [show k + m + a = (k + a) + m by omega] at h
    have q := Fo.le h
    rw [sp_cons, show 1 + sp (k + a) w = sp (k + a) w + 1 by omega, List.drop_succ_cons, List.take_succ_cons]
    exact ⟨by rw [List.length_cons]; omega, q.2.1, q.2.2⟩
theorem Fo.sp : ∀ {w : List Nat} {m : Nat}, Fo m w → sp m w = w.length
  | [], m, _ => sp_nil m
  | a :: w, 0, h => h.elim
  | a :: w, m + 1, h => by
    rw [sp_cons, Fo.sp (w := w) (m := m + a) h, List.length_cons]
    omega
theorem Fo.app : ∀ {u v : List Nat} {n m : Nat}, Fo n u → Fo m v → Fo (n + m) (u ++ v)
  | [], v, 0, m, _, h => by rw [Nat.zero_add]; exact h
  | a :: u, v, n + 1, m, g, h => by
    have q : Fo (n + a + m) (u ++ v) := Fo.app (u := u) (n := n + a) g h
    rw [show n + 1 + m = (n + m) + 1 by omega]
    show Fo (n + m + a) (u ++ v)
    rw [show n + m + a = n + a + m by omega]
    exact q
theorem Fo.sp_app : ∀ {u : List Nat} {n : Nat} (v : List Nat), Fo n u → Sy.sp n (u ++ v) = u.length
  | [], 0, v, _ => sp_zero _
  | [], n + 1, v, h => h.elim
  | a :: u, 0, v, h => h.elim
  | a :: u, n + 1, v, h => by
    rw [List.cons_append, sp_cons, Fo.sp_app (u := u) (n := n + a) v h, List.length_cons]
    omega
theorem Fo.cut : ∀ {u v : List Nat} {n k : Nat}, Fo k u → Fo n (u ++ v) → k ≤ n ∧ Fo (n - k) v
  | [], v, n, 0, _, h => ⟨Nat.zero_le _, by simpa using h⟩
  | a :: u, v, 0, k, _, h => h.elim
  | a :: u, v, n + 1, k + 1, g, h => by
    have q := Fo.cut (u := u) (v := v) (n := n + a) (k := k + a) g h
    refine ⟨by omega, ?_⟩
    have := q.2
    rw [show n + a - (k + a) = n + 1 - (k + 1) by omega] at this
    exact this
/-- one plant of a row is put in another's place -/
theorem Fo.put : ∀ {u x y v : List Nat} {n : Nat}, Fo 1 x → Fo 1 y → Fo n (u ++ (x ++ v)) → Fo n (u ++ (y ++ v))
  | [], x, y, v, n, hx, hy, h => by
    have q := Fo.cut hx h
    have := hy.app q.2
    rw [show 1 + (n - 1) = n by omega] at this
    exact this
  | a :: u, x, y, v, 0, hx, hy, h => h.elim
  | a :: u, x, y, v, n + 1, hx, hy, h => Fo.put (u := u) (n := n + a) hx hy h
theorem Fo.pos {w : List Nat} {n : Nat} (h : Fo (n + 1) w) : 0 < w.length := by
  cases w with
  | nil => exact h.elim
  | cons a w => rw [List.length_cons]; omega
theorem Fo.at_ : ∀ {w : List Nat} {n : Nat} {i : Nat}, Fo n w → i < w.length → ∃ m, Fo (m + 1) (w.drop i)
  | a :: w, 0, _, h, _ => h.elim
  | a :: w, n + 1, 0, h, _ => ⟨n, h⟩
  | a :: w, n + 1, i + 1, h, hi => by
    rw [List.drop_succ_cons]
    exact Fo.at_ (w := w) (n := n + a) h (by rw [List.length_cons] at hi; omega)
/-- what begins within n plants ends within them -/
theorem sp_within : ∀ {w : List Nat} {n i : Nat}, i < sp n w → ∃ m, sp n w = i + sp (m + 1) (w.drop i)
  | w, 0, i, h => by rw [sp_zero] at h; omega
  | w, n + 1, 0, h => ⟨n, by simp⟩
  | [], n + 1, i + 1, h => by rw [sp_nil] at h; omega
  | a :: w, n + 1, i + 1, h => by
    rw [sp_cons] at h ⊢
    obtain ⟨m, e⟩ := sp_within (w := w) (n := n + a) (i := i) (by omega)
    exact ⟨m, by rw [List.drop_succ_cons, e]; omega⟩
/-- the number of branches at i -/
def aw (w : List Nat) (i : Nat) : Nat := w[i]?.getD 0
/-- behind the plant that begins at i -/
def en (w : List Nat) (i : Nat) : Nat := i + sp 1 (w.drop i)
/-- where the branch k of i begins -/
def kd (w : List Nat) (i k : Nat) : Nat := i + 1 + sp k (w.drop (i + 1))
theorem aw_of {w : List Nat} {i a : Nat} (h : w[i]? = some a) : aw w i = a := by rw [aw, h]; rfl
theorem drop_at {w : List Nat} {i : Nat} (h : i < w.length) : w.drop i = aw w i :: w.drop (i + 1) := by
  rw [List.drop_eq_getElem_cons h, aw, List.getElem?_eq_getElem h]
  rfl
theorem kd_zero (w : List Nat) (i : Nat) : kd w i 0 = i + 1 := by rw [kd, sp_zero]
section
variable {w : List Nat} {i j k : Nat}
theorem kd_succ : kd w i (k + 1) = en w (kd w i k) := by
  unfold kd en
  rw [sp_add, List.drop_drop]
  omega
theorem en_kd (hi : i < w.length) : kd w i (aw w i) = en w i := by
  unfold kd en
  rw [drop_at hi, sp_cons, Nat.zero_add]
  omega
theorem en_gt (hi : i < w.length) : i < en w i := by
  unfold en
  rw [drop_at hi, sp_cons]
  omega
theorem Fo.below (h : Fo 1 w) (hi : i < w.length) : ∃ m, Fo (aw w i + m) (w.drop (i + 1)) := by
  obtain ⟨m, q⟩ := h.at_ hi
  rw [drop_at hi] at q
  exact ⟨m, by rw [Nat.add_comm]; exact q⟩
theorem Fo.kd_lt (h : Fo 1 w) (hi : i < w.length) (hk : k < aw w i) : kd w i k < w.length := by
  obtain ⟨m, q⟩ := h.below hi
  rw [show aw w i + m = k + (aw w i + m - k - 1 + 1) by omega] at q
  have q := Fo.le q
  have := q.2.1.pos
  rw [List.length_drop, List.length_drop] at this
  unfold kd
  omega
theorem Fo.en_le (h : Fo 1 w) (hi : i < w.length) : en w i ≤ w.length := by
  obtain ⟨m, q⟩ := h.at_ hi
  rw [Nat.add_comm] at q
  have q := q.le
  have := q.1
  rw [List.length_drop] at this
  unfold en
  omega
theorem Fo.en0 (h : Fo 1 w) : en w 0 = w.length := by
  unfold en
  rw [List.drop_zero, h.sp]
  omega
/-- the branch that begins at i is a plant -/
theorem Fo.branch (h : Fo 1 w) (hi : i < w.length) : Fo 1 ((w.drop i).take (en w i - i)) := by
  obtain ⟨m, q⟩ := h.at_ hi
  rw [Nat.add_comm] at q
  have q := q.le.2.2
  unfold en
  rw [show i + Sy.sp 1 (w.drop i) - i = Sy.sp 1 (w.drop i) by omega]
  exact q
theorem kd_gt : i < kd w i k := by unfold kd; omega
theorem kd_lt_succ (h : Fo 1 w) (hi : i < w.length) (hk : k < aw w i) : kd w i k < kd w i (k + 1) := by
  rw [kd_succ]
  exact en_gt (h.kd_lt hi hk)
theorem kd_mono (h : Fo 1 w) (hi : i < w.length) : ∀ (d : Nat), k + d ≤ aw w i → kd w i k + d ≤ kd w i (k + d)
  | 0, _ => Nat.le_refl _
  | d + 1, hd => by
    have a := kd_mono h hi d (by omega)
    have b := kd_lt_succ h hi (k := k + d) (by omega)
    rw [show k + (d + 1) = k + d + 1 by omega]
    omega
/-- nested -/
theorem en_nest (a : i ≤ j) (b : j < en w i) : en w j ≤ en w i := by
  unfold en at b ⊢
  obtain ⟨m, e⟩ := sp_within (w := w.drop i) (n := 1) (i := j - i) (by omega)
  rw [List.drop_drop, show i + (j - i) = j by omega, Nat.add_comm m 1, sp_add] at e
  omega
theorem kd_le_en (h : Fo 1 w) (hi : i < w.length) (hk : k ≤ aw w i) : kd w i k ≤ en w i := by
  have := kd_mono h hi (k := k) (aw w i - k) (by omega)
  rw [show k + (aw w i - k) = aw w i by omega, en_kd hi] at this
  omega
/-- a place behind i and within its plant stands in one of its branches -/
theorem in_branch (hi : i < w.length) (a : i < j) : ∀ (n : Nat), j < kd w i n → ∃ k, k < n ∧ kd w i k ≤ j ∧ j < kd w i (k + 1)
  | 0, b => by rw [kd_zero] at b; omega
  | n + 1, b => by
    by_cases c : j < kd w i n
    · obtain ⟨k, h1, h2, h3⟩ := in_branch hi a n c
      exact ⟨k, by omega, h2, h3⟩
    · exact ⟨n, by omega, by omega, b⟩
/-- a knot has one place above it .. -/
theorem kd_lt_of {i2 k2 : Nat} (h : Fo 1 w) (hi : i < w.length) (hi2 : i2 < w.length) (hk : k < aw w i) (hk2 : k2 < aw w i2) (lt : i < i2) : kd w i k ≠ kd w i2 k2 := by
  intro e
  have e1 : kd w i k < en w i := by
    have := kd_le_en h hi (k := k + 1) (by omega)
    have := kd_lt_succ h hi hk
    omega
  have g2 : i2 < kd w i2 k2 := kd_gt
  have hin : i2 < kd w i (aw w i) := by rw [en_kd hi]; omega
  obtain ⟨t, h1, h2, h3⟩ := in_branch hi lt _ hin
  have n1 : en w i2 ≤ en w (kd w i t) := en_nest h2 (by rw [← kd_succ]; exact h3)
  rw [← kd_succ] at n1
  have n2 : kd w i2 k2 < en w i2 := by
    have := kd_le_en h hi2 (k := k2 + 1) (by omega)
    have := kd_lt_succ h hi2 hk2
    omega
  by_cases c : k ≤ t
  · have := kd_mono h hi (k := k) (t - k) (by omega)
    rw [show k + (t - k) = t by omega] at this
    omega
  · have := kd_mono h hi (k := t + 1) (k - (t + 1)) (by omega)
    rw [show t + 1 + (k - (t + 1)) = k by omega] at this
    omega
theorem kd_inj {i2 k2 : Nat} (h : Fo 1 w) (hi : i < w.length) (hi2 : i2 < w.length) (hk : k < aw w i) (hk2 : k2 < aw w i2) (e : kd w i k = kd w i2 k2) : i = i2 ∧ k = k2 := by
  rcases Nat.lt_trichotomy i i2 with c | c | c
  · exact absurd e (kd_lt_of h hi hi2 hk hk2 c)
  · subst c
    refine ⟨rfl, ?_⟩
    rcases Nat.lt_trichotomy k k2 with d | d | d
    · have := kd_mono h hi (k := k) (k2 - k) (by omega)
      rw [show k + (k2 - k) = k2 by omega] at this
      omega
    · exact d
    · have := kd_mono h hi (k := k2) (k - k2) (by omega)
      rw [show k2 + (k - k2) = k by omega] at this
      omega
  · exact absurd e.symm (kd_lt_of h hi2 hi hk2 hk c)
/-- .. and every knot but the root has one -/
theorem has_above (h : Fo 1 w) : ∀ (j : Nat), 0 < j → j < w.length → ∃ i k, i < j ∧ k < aw w i ∧ kd w i k = j := by
  intro j
  induction j using Nat.strongRecOn with
  | _ j ih =>
    intro h0 hj
    -- from a place i < j whose plant ends at j
    have climb : ∀ i, i < j → en w i = j → ∃ i k, i < j ∧ k < aw w i ∧ kd w i k = j := by
      intro i
      induction i using Nat.strongRecOn with
      | _ i ih2 =>
        intro hi e
        by_cases z : i = 0
        · subst z
          rw [h.en0] at e
          omega
        · obtain ⟨p, k, hp, hk, ek⟩ := ih i hi (by omega) (by omega)
          have es : kd w p (k + 1) = j := by rw [kd_succ, ek]; exact e
          by_cases c : k + 1 < aw w p
          · exact ⟨p, k + 1, by omega, c, es⟩
          · have : k + 1 = aw w p := by omega
            rw [this, en_kd (by omega)] at es
            exact ih2 p hp (by omega) es
    by_cases c : 0 < aw w (j - 1)
    · exact ⟨j - 1, 0, by omega, c, by rw [kd_zero]; omega⟩
    · refine climb (j - 1) (by omega) ?_
      rw [← en_kd (by omega), show aw w (j - 1) = 0 by omega, kd_zero]
      omega
end
/-! ### the paths -/
/-- one knot's branches get their paths -/
def stp (w : List Nat) (i : Nat) (fd : List (List Nat)) (n : Nat) : List (List Nat) := (List.range n).foldl (fun fd k => fd.set (kd w i k) (fd.getD i [] ++ [k])) fd
/-- the paths after the first n knots -/
def pth (w : List Nat) (n : Nat) : List (List Nat) := (List.range n).foldl (fun fd i => stp w i fd (aw w i)) (List.replicate w.length [])
def pths (w : List Nat) : List (List Nat) := pth w w.length
theorem stp_succ (w : List Nat) (i n : Nat) (fd : List (List Nat)) : stp w i fd (n + 1) = (stp w i fd n).set (kd w i n) ((stp w i fd n).getD i [] ++ [n]) := by
  unfold stp
  rw [List.range_succ, List.foldl_append]
  rfl
theorem pth_succ (w : List Nat) (n : Nat) : pth w (n + 1) = stp w n (pth w n) (aw w n) := by
  unfold pth
  rw [List.range_succ, List.foldl_append]
  rfl
theorem stp_zero (w : List Nat) (i : Nat) (fd : List (List Nat)) : stp w i fd 0 = fd := rfl
theorem stp_len (w : List Nat) (i : Nat) (fd : List (List Nat)) : ∀ n, (stp w i fd n).length = fd.length
  | 0 => rfl
  | n + 1 => by rw [stp_succ, List.length_set, stp_len w i fd n]
theorem pth_len (w : List Nat) : ∀ n, (pth w n).length = w.length
  | 0 => by show (List.replicate w.length []).length = _; rw [List.length_replicate]
  | n + 1 => by rw [pth_succ, stp_len, pth_len w n]
theorem getD_set_ne {α : Type} (l : List α) {i j : Nat} (v d : α) (h : i ≠ j) : (l.set i v).getD j d = l.getD j d := by
  rw [List.getD_eq_getElem?_getD, List.getElem?_set_ne h, ← List.getD_eq_getElem?_getD]
theorem getD_set_eq {α : Type} (l : List α) {i : Nat} (v d : α) (h : i < l.length) : (l.set i v).getD i d = v := by
  rw [List.getD_eq_getElem?_getD, List.getElem?_set_self h]
  rfl
/-- places up to i stay; other places stay; a branch's place -/
theorem stp_ne (w : List Nat) (i j : Nat) (fd : List (List Nat)) : ∀ n, (∀ k, k < n → kd w i k ≠ j) → (stp w i fd n).getD j [] = fd.getD j []
  | 0, _ => rfl
  | n + 1, h => by
    rw [stp_succ, getD_set_ne _ _ _ (h n (by omega))]
    exact stp_ne w i j fd n fun k hk => h k (by omega)
theorem stp_at {w : List Nat} {i k : Nat} {fd : List (List Nat)} (h : Fo 1 w) (hi : i < w.length) (hl : fd.length = w.length) (hk : k < aw w i) : ∀ n, k < n → n ≤ aw w i → (stp w i fd n).getD (kd w i k) [] = fd.getD i [] ++ [k]
  | n + 1, a, b => by
    have hs : (stp w i fd n).getD i [] = fd.getD i [] := stp_ne w i i fd n fun k _ => by have := kd_gt (w := w) (i := i) (k := k); omega
    rw [stp_succ, hs]
    by_cases c : k = n
    · subst c
      rw [getD_set_eq]
      rw [stp_len, hl]
      exact h.kd_lt hi hk
    · rw [getD_set_ne]
      · exact stp_at h hi hl hk n (by omega) (by omega)
      · intro e
        have := (kd_inj h hi hi (by omega) hk e).2
        omega
theorem pth_at {w : List Nat} {i k : Nat} (h : Fo 1 w) (hi : i < w.length) (hk : k < aw w i) : ∀ n, i < n → n ≤ w.length → (pth w n).getD (kd w i k) [] = (pth w n).getD i [] ++ [k]
  | n + 1, a, b => by
    have si : (pth w (n + 1)).getD i [] = (pth w n).getD i [] := by
      rw [pth_succ]
      exact stp_ne w n i _ _ fun t _ e => by have := kd_gt (w := w) (i := n) (k := t); omega
    rw [si]
    by_cases c : i = n
    · subst c
      rw [pth_succ]
      exact stp_at h hi (pth_len w _) hk _ hk (Nat.le_refl _)
    · rw [pth_succ, stp_ne]
      · exact pth_at h hi hk n (by omega) (by omega)
      · intro t ht e
        have := (kd_inj h (by omega) hi ht hk e).1
        omega
theorem pths_at {w : List Nat} {i k : Nat} (h : Fo 1 w) (hi : i < w.length) (hk : k < aw w i) : (pths w).getD (kd w i k) [] = (pths w).getD i [] ++ [k] := pth_at h hi hk _ hi (Nat.le_refl _)
theorem pth_root (w : List Nat) : ∀ n, (pth w n).getD 0 [] = []
  | 0 => by
    show (List.replicate w.length []).getD 0 [] = []
    cases w <;> rfl
  | n + 1 => by
    rw [pth_succ, stp_ne]
    · exact pth_root w n
    · intro k _ e
      have := kd_gt (w := w) (i := n) (k := k)
      omega
/-- where a path leads -/
def pl (w : List Nat) : Nat → List Nat → Option Nat
  | i, [] => some i
  | i, k :: p => if k < aw w i then pl w (kd w i k) p else none
theorem pl_snoc (w : List Nat) (k : Nat) : ∀ (p : List Nat) (i : Nat), pl w i (p ++ [k]) = (pl w i p).bind fun j => if k < aw w j then some (kd w j k) else none
  | [], i => rfl
  | t :: p, i => by
    show (if t < aw w i then pl w (kd w i t) (p ++ [k]) else none) = (if t < aw w i then pl w (kd w i t) p else none).bind _
    by_cases c : t < aw w i
    · rw [if_pos c, if_pos c, pl_snoc w k p]
    · rw [if_neg c, if_neg c]
      rfl
theorem pl_pths {w : List Nat} (h : Fo 1 w) : ∀ j, j < w.length → pl w 0 ((pths w).getD j []) = some j := by
  intro j
  induction j using Nat.strongRecOn with
  | _ j ih =>
    intro hj
    by_cases z : j = 0
    · subst z
      rw [show pths w = pth w w.length from rfl, pth_root]
      rfl
    · obtain ⟨i, k, hi, hk, e⟩ := has_above h j (by omega) hj
      rw [← e, pths_at h (by omega) hk, pl_snoc, ih i hi (by omega)]
      show (if k < aw w i then some (kd w i k) else none) = _
      rw [if_pos hk]
/-- a path of a plant leads to the same place in each plant that is alike up to that place -/
theorem pl_local {w w' : List Nat} (h : Fo 1 w) (h' : Fo 1 w') : ∀ (p : List Nat) (i : Nat), pl w 0 p = some i → i < w'.length → w'.take i = w.take i → pl w' 0 p = some i := by
  intro p
  induction hn : p.length generalizing p with
  | zero =>
    have : p = [] := List.length_eq_zero_iff.mp hn
    subst this
    exact fun i e _ _ => e
  | succ n ih =>
    intro i e hi a
    obtain ⟨q, k, rfl⟩ : ∃ q k, p = q ++ [k] := ⟨p.dropLast, p.getLast (by intro z; rw [z] at hn; cases hn), (List.dropLast_concat_getLast _).symm⟩
    rw [pl_snoc] at e ⊢
    cases c : pl w 0 q with
    | none => rw [c] at e; cases e
    | some j =>
      rw [c] at e
      have e : (if k < aw w j then some (kd w j k) else none) = some i := e
      by_cases hk : k < aw w j
      · rw [if_pos hk] at e
        have e := Option.some.inj e
        have hj : j < i := by rw [← e]; exact kd_gt
        have hjw : j < w.length := by
          by_cases z : j < w.length
          · exact z
          · rw [aw, List.getElem?_eq_none (by omega)] at hk
            exact absurd hk (Nat.not_lt_zero _)
        have tk : w'.take j = w.take j := by
          have := congrArg (List.take j) a
          rwa [List.take_take, List.take_take, Nat.min_eq_left (by omega)] at this
        rw [ih q (by simpa using hn) j c (by omega) tk]
        have ea : aw w' j = aw w j := by
          have := congrArg (fun l => l[j]?) a
          simp only [List.getElem?_take, hj, if_true] at this
          rw [aw, aw, this]
        have ek : kd w' j k = kd w j k := by
          obtain ⟨m, f⟩ := h.below hjw
          rw [show aw w j + m = k + (aw w j + m - k) by omega] at f
          have f := f.le.2.2
          have el : i - (j + 1) = sp k (w.drop (j + 1)) := by rw [← e, kd]; omega
          have hw : w'.drop (j + 1) = (w.drop (j + 1)).take (sp k (w.drop (j + 1))) ++ w'.drop i := by
            rw [← el, List.take_drop, show j + 1 + (i - (j + 1)) = i by omega, ← a, ← List.take_append_drop i w', List.drop_append, List.take_append_drop]
            have : (w'.take i).length = i := by rw [List.length_take]; omega
            rw [this, show j + 1 - i = 0 by omega, List.drop_zero]
          unfold kd
          rw [hw, f.sp_app, List.length_take, Nat.min_eq_left]
          rw [← el, List.length_drop]
          have := h.kd_lt hjw hk
          omega
        show (if k < aw w' j then some (kd w' j k) else none) = _
        rw [ea, if_pos hk, ek, e]
      · rw [if_neg hk] at e
        cases e
end Sy
/-! heights, plain -/
namespace Sy
/-- hs is right at j, so far as the first t branches go -/
def HtAt (w hs : List Nat) (j t : Nat) : Prop := (∀ k, k < t → hs.getD (kd w j k) 0 + 1 ≤ hs.getD j 0) ∧ 1 ≤ hs.getD j 0 ∧ (hs.getD j 0 = 1 ∨ ∃ k, k < t ∧ hs.getD j 0 = hs.getD (kd w j k) 0 + 1)
structure HtI (w hs : List Nat) (i t : Nat) : Prop where
  len : hs.length = w.length
  up : ∀ j, i < j → j < w.length → HtAt w hs j (aw w j)
  low : ∀ j, j < i → hs.getD j 0 = 1
  at_ : HtAt w hs i t
structure HtO (w hs : List Nat) (i : Nat) : Prop where
  len : hs.length = w.length
  up : ∀ j, i ≤ j → j < w.length → HtAt w hs j (aw w j)
  low : ∀ j, j < i → hs.getD j 0 = 1
section
variable {w hs : List Nat} {i t : Nat}
theorem HtO.start (w : List Nat) : HtO w (List.replicate w.length 1) w.length :=
  ⟨by simp, fun j a b => by omega, fun j h => by rw [List.getD_eq_getElem?_getD, List.getElem?_replicate, if_pos h]; rfl⟩
theorem HtO.open_ (h : HtO w hs (i + 1)) : HtI w hs i 0 :=
  ⟨h.len, fun j a b => h.up j a b, fun j a => h.low j (by omega), fun k z => by omega, by rw [h.low i (by omega)]; exact Nat.le_refl _, .inl (h.low i (by omega))⟩
theorem HtI.close (h : HtI w hs i (aw w i)) : HtO w hs i :=
  ⟨h.len, fun j a b => by
    rcases Nat.eq_or_lt_of_le a with e | e
    · subst e
      exact h.at_
    · exact h.up j e b, h.low⟩
theorem HtI.step (h : HtI w hs i t) (hi : i < w.length) : HtI w (hs.set i (max (hs.getD i 0) (hs.getD (kd w i t) 0 + 1))) i (t + 1) := by
  have o : ∀ (v j : Nat), i < j → (hs.set i v).getD j 0 = hs.getD j 0 := fun v j hj => getD_set_ne _ _ _ (by omega)
  have e : ∀ v, (hs.set i v).getD i 0 = v := fun v => getD_set_eq _ _ _ (by rw [h.len]; exact hi)
  have g : ∀ k, i < kd w i k := fun k => kd_gt
  refine ⟨by rw [List.length_set]; exact h.len, fun j a b => ?_, fun j a => by rw [getD_set_ne _ _ _ (by omega)]; exact h.low j a, ?_⟩
  · have q := h.up j a b
    unfold HtAt at q ⊢
    rw [o _ j a]
    refine ⟨fun k hk => ?_, q.2.1, ?_⟩
    · rw [o _ _ (Nat.lt_trans a kd_gt)]
      exact q.1 k hk
    · rcases q.2.2 with r | ⟨k, hk, r⟩
      · exact .inl r
      · exact .inr ⟨k, hk, by rw [o _ _ (Nat.lt_trans a kd_gt)]; exact r⟩
  · have q := h.at_
    unfold HtAt at q ⊢
    rw [e]
    refine ⟨fun k hk => ?_, by omega, ?_⟩
    · rw [o _ _ (g k)]
      by_cases c : k = t
      · subst c
        omega
      · have := q.1 k (by omega)
        omega
    · rcases Nat.le_total (hs.getD i 0) (hs.getD (kd w i t) 0 + 1) with c | c
      · exact .inr ⟨t, by omega, by rw [o _ _ (g t)]; omega⟩
      · rcases q.2.2 with r | ⟨k, hk, r⟩
        · exact .inl (by omega)
        · exact .inr ⟨k, by omega, by rw [o _ _ (g k)]; omega⟩
theorem HtO.above (h : HtO w hs 0) (f : Fo 1 w) : ∀ j, j < w.length → ((pths w).getD j []).length + hs.getD j 0 ≤ hs.getD 0 0 := by
  intro j
  induction j using Nat.strongRecOn with
  | _ j ih =>
    intro hj
    by_cases z : j = 0
    · subst z
      rw [show pths w = pth w w.length from rfl, pth_root]
      exact Nat.le_of_eq (Nat.zero_add _)
    · obtain ⟨i, k, hi, hk, e⟩ := has_above f j (by omega) hj
      have := ih i hi (by omega)
      have q := (h.up i (Nat.zero_le _) (by omega)).1 k hk
      rw [← e, pths_at f (by omega) hk, List.length_append]
      show _ + 1 + _ ≤ _
      omega
theorem HtO.below (h : HtO w hs 0) (f : Fo 1 w) : ∀ (d i : Nat), w.length - i ≤ d → i < w.length → ∃ j, j < w.length ∧ ((pths w).getD j []).length + 1 = ((pths w).getD i []).length + hs.getD i 0
  | 0, i, a, hi => by omega
  | d + 1, i, a, hi => by
    rcases (h.up i (Nat.zero_le _) hi).2.2 with r | ⟨k, hk, r⟩
    · exact ⟨i, hi, by rw [r]⟩
    · have g : i < kd w i k := kd_gt
      have l := f.kd_lt hi hk
      obtain ⟨j, hj, e⟩ := HtO.below h f d (kd w i k) (by omega) l
      refine ⟨j, hj, ?_⟩
      rw [e, pths_at f hi hk, List.length_append, r]
      show _ + 1 + _ = _
      omega
/-- as the law counts it -/
def tall (l : List (List Nat)) : Nat := l.foldl (fun t p => if t ≤ p.length then p.length + 1 else t) 0
theorem tall_snoc (l : List (List Nat)) (p : List Nat) : tall (l ++ [p]) = if tall l ≤ p.length then p.length + 1 else tall l := by
  unfold tall
  rw [List.foldl_append]
  rfl
theorem tall_ge (l : List (List Nat)) : (∀ p ∈ l, p.length + 1 ≤ tall l) ∧ (tall l = 0 ∨ ∃ p ∈ l, p.length + 1 = tall l) := by
  suffices h : ∀ (l : List (List Nat)) (n : Nat), (n ≤ l.foldl (fun t p => if t ≤ p.length then p.length + 1 else t) n) ∧ (∀ p ∈ l, p.length + 1 ≤ l.foldl (fun t p => if t ≤ p.length then p.length + 1 else t) n) ∧
      (l.foldl (fun t p => if t ≤ p.length then p.length + 1 else t) n = n ∨ ∃ p ∈ l, p.length + 1 = l.foldl (fun t p => if t ≤ p.length then p.length + 1 else t) n) from ⟨(h l 0).2.1, (h l 0).2.2⟩
  intro l
  induction l with
  | nil => exact fun n => ⟨Nat.le_refl _, fun _ h => (nomatch h), .inl rfl⟩
  | cons x l ih =>
    intro n
    rw [List.foldl_cons]
    have q := ih (if n ≤ x.length then x.length + 1 else n)
    by_cases c : n ≤ x.length
    · rw [if_pos c] at q ⊢
      refine ⟨by omega, fun p hp => ?_, ?_⟩
      · rcases List.mem_cons.mp hp with rfl | hp
        · exact q.1
        · exact q.2.1 p hp
      · rcases q.2.2 with e | ⟨p, hp, e⟩
        · exact .inr ⟨x, List.mem_cons_self, e.symm⟩
        · exact .inr ⟨p, List.mem_cons_of_mem _ hp, e⟩
    · rw [if_neg c] at q ⊢
      refine ⟨q.1, fun p hp => ?_, ?_⟩
      · rcases List.mem_cons.mp hp with rfl | hp
        · have := q.1; omega
        · exact q.2.1 p hp
      · rcases q.2.2 with e | ⟨p, hp, e⟩
        · exact .inl e
        · exact .inr ⟨p, List.mem_cons_of_mem _ hp, e⟩
theorem HtO.tall (h : HtO w hs 0) (f : Fo 1 w) : hs.getD 0 0 = Sy.tall (pths w) := by
  have hn := f.pos
  have q := tall_ge (pths w)
  have pl : (pths w).length = w.length := pth_len w _
  have ge : ∀ j, j < w.length → ((pths w).getD j []) ∈ pths w := fun j hj => by
    rw [List.getD_eq_getElem?_getD, List.getElem?_eq_getElem (by omega)]
    exact List.getElem_mem _
  apply Nat.le_antisymm
  · obtain ⟨j, hj, e⟩ := h.below f w.length 0 (by omega) hn
    have e0 : (pths w).getD 0 [] = [] := pth_root w _
    rw [e0] at e
    have := q.1 _ (ge j hj)
    simp only [List.length_nil] at e
    omega
  · rcases q.2 with e | ⟨p, hp, e⟩
    · omega
    · obtain ⟨j, hj, ej⟩ := List.mem_iff_getElem.mp hp
      have a := h.above f j (by omega)
      have b := (h.up j (Nat.zero_le _) (by omega)).2.1
      rw [List.getD_eq_getElem?_getD (l := pths w), List.getElem?_eq_getElem hj, ej] at a
      have a : p.length + hs.getD j 0 ≤ hs.getD 0 0 := a
      omega
end
end Sy
namespace Sy
open PySem PySem.Spec PyProof.Rows L2
def top (i : Nat) : Stmt := PySem.Challenge.pw_shearyard_k00_rows_that_are_no_plants.main.body.getD i (.Pass ⟨0, 0, 0, 0⟩)
end Sy
/-! what the head's run looks at (the run is proved early: it wants much memory) -/
namespace Sy
open PySem PySem.Spec PyProof.Rows L2
def clb (i j : Nat) : Stmt := match top i with
  | .ClassDef _ _ _ b _ _ _ _ _ _ _ => b.getD j (.Pass ⟨0, 0, 0, 0⟩)
  | s => s
abbrev iniA (K : PySem.W.Frag) (x : Str) : Addr := He.ma K (He.ga K x) "__init__"
/-- the errors by number -/
def six : Nat → Str
  | 0 => "TooMany"
  | 1 => "InvalidPlant"
  | 2 => "InvalidStump"
  | 3 => "NoPath"
  | 4 => "UnknownKind"
  | _ => "WrongBranches"
structure ErD where
  x : Str
  q : Str
  st : Stmt
  fs : List Str
abbrev FnE : Type := Option (Str × Str × Arguments × FuncBody × Scope × Addr × List Str × Addr)
def ErD.val (d : ErD) : FnE := some ("__init__", d.q, defArgs d.st, .stmts (defBody d.st), defScope d.st, mainGlobals, ["__class__"], builtinsNs)
def erW (K : PySem.W.Frag) (x : Str) : FnE := match K.lookup (iniA K x) with
  | some ⟨_, _, .func fd, _⟩ => some (fd.name, fd.qualname, fd.params, fd.body, fd.scope, fd.globals, fd.closure.map (·.1), fd.builtins)
  | _ => none
/-- the class object -/
def oexB (K : PySem.W.Frag) (C : Addr) : Bool := match K.lookup C with
  | some ⟨.type t, _, .cls cd, sl⟩ => (match cd.mro, sl.toList with
    | .ref C' :: bm, [_, _, _, _, some (.builtin n), _] => decide (t = "type") && (decide (C' = C) && (decide (n = "ValueError.__new__") && (!cd.hasDel && (cd.hasDict && HandSPX.refsVE bm))))
    | _, _ => false)
  | _ => false
/-- what stands in the code object, in the cell -/
def fileB (K : PySem.W.Frag) (file : Str) (cd : Value) : Bool := match cd with
  | .ref c => (match K.lookup c with
    | some ⟨_, _, .fields vs, _⟩ => (match (vs[2]? : Option Value) with
      | some (.str fi _) => (file == fi)
      | _ => false)
    | _ => false)
  | _ => false
def cellB (K : PySem.W.Frag) (C : Addr) (cl : List (Str × Addr)) : Bool := match cl with
  | [(_, cc)] => (match K.lookup cc with
    | some ⟨_, _, .cell (some (.ref D)), _⟩ => decide (D = C)
    | _ => false)
  | _ => false
def initB (K : PySem.W.Frag) (file x q : Str) : Bool := match K.lookup (iniA K x) with
  | some ⟨_, _, .func fd, _⟩ => PySem.W.codeIn K fd.code q && (fileB K file fd.code && (cellB K (He.ga K x) fd.closure && (match fd.defaults with
    | .none => true
    | _ => false)))
  | _ => false
def ErD.ok (file : Str) (K : PySem.W.Frag) (d : ErD) : Bool :=
  He.eqO (PySem.W.nsIn K mainGlobals d.x) (some (some (.ref (He.ga K d.x)))) && (He.eqO (PySem.W.findIn K (.ref (He.ga K d.x)) "__init__") (some (some (.ref (iniA K d.x)))) && (decide (PySem.W.typeIn K (.ref (iniA K d.x)) = some (.type "function")) &&
  (decide (PySem.W.exmOne K (.ref (He.ga K d.x)) (.ref (He.ga K d.x)) = some true) && (xfB K (He.ga K d.x) && ((d.fs.all fun f => He.eqO (PySem.W.findIn K (.ref (He.ga K d.x)) f) (some none)) && (oexB K (He.ga K d.x) &&
  (He.eqO (PySem.W.findIn K (.ref (He.ga K d.x)) "__setattr__") (some (some (.builtin "object.__setattr__"))) && (decide (PySem.W.subIn K (.ref (He.ga K d.x)) (.type "BaseException") = some true) && (decide (PySem.W.typeIn K (.ref (He.ga K d.x)) = some (.type "type")) && (PySem.W.keepIn K (.ref (He.ga K d.x)) &&
  (initB K file d.x d.q && (PySem.W.isClsIn K (He.ga K d.x) && (decide (PySem.W.mroIn K (He.ga K d.x) (.ref (He.ga K d.x)) = some true) && (He.eqO (PySem.W.ks_superIn K (He.ga K d.x) (He.ga K d.x) "__init__") (some (some (.builtin "ValueError.__init__"))) &&
  (decide (PySem.W.subIn K (.ref (He.ga K d.x)) (.type "ValueError") = some true) && He.eqO (PySem.W.nsIn K cStatics "thirdparty.any") (some none))))))))))))))))
def excB (K : PySem.W.Frag) (D : Addr) : Bool :=
  He.eqO (PySem.W.findIn K (.ref D) "__getattribute__") (some (some (.builtin "BaseException.__getattribute__"))) && (He.eqO (PySem.W.findIn K (.ref D) "__getattr__") (some none) && (decide (PySem.W.subIn K (.ref D) (.type "BaseException") = some true) && (PySem.W.hasDictIn K D &&
  (He.eqO (PySem.W.findIn K (.ref D) "__class__") (some (some (.builtin "object.__class__"))) && (He.eqO (PySem.W.specialIn K (.builtin "object.__class__") "__get__") (some (some (.builtin "getset_descriptor.__get__"))) && (decide (PySem.W.takesIn K (.builtin "object.__class__") = some true) && decide (PySem.W.mroIn K D (.type "object") = some true)))))))
def metB (K : PySem.W.Frag) : Bool := (List.range 6).all fun k => excB K (He.ga K (six k)) && (decide (PySem.W.kitOne K (.ref (He.ga K (six k))) (.type "ValueError") = some true) && (decide (PySem.W.exmOne K (.ref (He.ga K (six k))) (.ref (He.ga K "YardError")) = some true) &&
  ((List.range 6).all fun j => decide (PySem.W.kitOne K (.ref (He.ga K (six k))) (.ref (He.ga K (six j))) = some (decide (k = j))))))
/-! the Hook -/
abbrev AlX : Type := He.AlD × (Bool × List FnE)
def obsX (file : Str) (fa : List He.Fa) (fn : List He.DefD) (er : List ErD) (K : PySem.W.Frag) : AlX := (He.obsD fa fn K, ((er.all fun d => d.ok file K) && metB K, er.map fun d => erW K d.x))
def valX (fn : List He.DefD) (er : List ErD) : AlX := (He.valD fn, (true, er.map ErD.val))
def SaysX (file : Str) (fa : List He.Fa) (fn : List He.DefD) (er : List ErD) (K : PySem.W.Frag) : Prop := obsX file fa fn er K = valX fn er
def obsXG (file : Str) (as : List Addr) (fa : List He.Fa) (fn : List He.DefD) (er : List ErD) (g : Addr → Option Obj) : AlX := obsX file fa fn er (He.frG g as)
def hookX (file : Str) (as : List Addr) (fa : List He.Fa) (fn : List He.DefD) (er : List ErD) : PySem.W.Hook where
  α := AlX
  obs := fun s => obsXG file as fa fn er s.heap.get?
  val := fun _ => valX fn er
  says := fun _ h => ∃ K : PySem.W.Frag, K.In h ∧ SaysX file fa fn er K
  of := fun _ _ e => ⟨_, He.frG_in, e⟩
  keeps := fun _ _ _ ⟨K, hK, c⟩ k => ⟨K, PySem.W.Frag.In.keeps hK k, c⟩
theorem obsXG_eq {file : Str} {as : List Addr} {fa : List He.Fa} {fn : List He.DefD} {er : List ErD} {g : Addr → Option Obj} {s : Shared} (h : ∀ a, g a = s.heap.get? a) : obsXG file as fa fn er g = (hookX file as fa fn er).obs s := by
  have e : g = s.heap.get? := funext h
  rw [e]
  rfl
end Sy
set_option maxHeartbeats 0
namespace Sy.En
open Sy PySem PySem.Spec PyProof.Rows L2
abbrev dOf (x : Str) (i : Nat) : He.DefD := ⟨(x, none), x, x, defArgs (top i), defBody (top i), defScope (top i), [], []⟩
abbrev dMe (m q : Str) (j : Nat) : He.DefD := ⟨("Bed", some m), m, q, defArgs (clb 43 j), defBody (clb 43 j), defScope (clb 43 j), [], []⟩
def fn : List He.DefD := [dOf "check_count" 14, dOf "arity" 15, dOf "fault_among" 16, dOf "spans" 17, dOf "span_stop" 18, dOf "kids" 19, dOf "row_paths" 20, dOf "place_of" 21, dOf "substituted" 22, dOf "swapped" 23, dOf "side_by_side" 24, dOf "common_row" 25, dOf "entry_rank" 26, dOf "row_key" 27, dOf "check_plant" 29, dOf "plant_key" 30, dOf "height" 31, dOf "counted" 32, dOf "branches_of" 33, dOf "planted" 34, dOf "paths" 35, dOf "branch_at" 36, dOf "replaced" 37, dOf "only_letters" 41, dOf "is_name" 42, dOf "check_stump" 46, dOf "stump_key" 47, dOf "holes" 48, dOf "filled" 49, dOf "begins" 50, dOf "parts" 51, dOf "common" 52, dOf "united" 53, dOf "written" 55, dOf "joined_text" 56, dOf "_law_bag" 58, dOf "_law_draw" 59, dOf "_law_word" 60, dOf "_law_name" 61, dOf "_law_rows" 62, dOf "_law_bed" 63, dOf "_law_number" 64, dOf "_law_plant" 65, dOf "_law_entry" 66, dOf "_law_long" 67, dOf "_law_bent" 68, dOf "_law_ends" 69, dOf "_law_fault" 70, dOf "_law_due" 71, dOf "_law_path" 72, dOf "_law_place" 73, dOf "_law_same" 74, dOf "_law_plant_door" 75, dOf "_law_stump_door" 76, dOf "_law_planted" 77, dOf "_law_filled" 78, dOf "_law_called" 79, dOf "_law_met" 80, dOf "_law_plant_due" 81, dOf "_law_plant_answer" 82, dOf "_law_plants_right" 83, dOf "_law_stump_answer" 84, dOf "_law_stumps_right" 85, dOf "_law_pieces_due" 86, dOf "_law_planted_right" 87, dOf "_law_filled_right" 88, dOf "law" 89, dMe "__init__" "Bed.__init__" 0, dMe "leaves" "Bed.leaves" 3, dMe "branches" "Bed.branches" 4]
def fa : List He.Fa := [.glo "check_count", .glo "arity", .glo "fault_among", .glo "spans", .glo "span_stop", .glo "kids", .glo "row_paths", .glo "place_of", .glo "substituted", .glo "swapped", .glo "side_by_side", .glo "common_row", .glo "entry_rank", .glo "row_key", .glo "check_plant", .glo "plant_key", .glo "height", .glo "counted", .glo "branches_of", .glo "planted", .glo "paths", .glo "branch_at", .glo "replaced", .glo "only_letters", .glo "is_name", .glo "check_stump", .glo "stump_key", .glo "holes", .glo "filled", .glo "begins", .glo "parts", .glo "common", .glo "united", .glo "written", .glo "joined_text", .glo "_law_bag", .glo "_law_draw", .glo "_law_word", .glo "_law_name", .glo "_law_rows", .glo "_law_bed", .glo "_law_number", .glo "_law_plant", .glo "_law_entry", .glo "_law_long", .glo "_law_bent", .glo "_law_ends", .glo "_law_fault", .glo "_law_due", .glo "_law_path", .glo "_law_place", .glo "_law_same", .glo "_law_plant_door", .glo "_law_stump_door", .glo "_law_planted", .glo "_law_filled", .glo "_law_called", .glo "_law_met", .glo "_law_plant_due", .glo "_law_plant_answer", .glo "_law_plants_right", .glo "_law_stump_answer", .glo "_law_stumps_right", .glo "_law_pieces_due", .glo "_law_planted_right", .glo "_law_filled_right", .glo "law", .free "len", .free "range", .free "reversed", .free "enumerate", .free "tuple", .free "list", .free "int", .free "abs", .free "max", .free "isinstance", .free "bool", .free "str", .free "super", .free "zip", .free "sum", .free "ValueError", .int "MOST_KNOTS" 2000, .int "MOST_KINDS" 8, .int "MOST_BRANCHES" 3, .int "LONGEST_NAME" 8, .str "HOLE" "*", .glo "YardError", .glo "Bed", .cls "Bed", .mkr "Bed", .noat "Bed" "arities", .noat "Bed" "rows", .noat "Bed" "kinds", .noat "Bed" "ranks", .meth "Bed" "__init__", .meth "Bed" "leaves", .meth "Bed" "branches"]
def ers : List ErD := [⟨"TooMany", "TooMany.__init__", clb 7 0, ["what", "limit"]⟩, ⟨"NoPath", "NoPath.__init__", clb 9 0, ["path"]⟩, ⟨"InvalidPlant", "InvalidPlant.__init__", clb 3 0, ["place"]⟩, ⟨"InvalidStump", "InvalidStump.__init__", clb 4 0, ["place"]⟩, ⟨"UnknownKind", "UnknownKind.__init__", clb 6 0, ["kind"]⟩, ⟨"WrongBranches", "WrongBranches.__init__", clb 8 0, ["wanted", "given"]⟩]
abbrev R : PySem.W.OpenRow := PySem.W.OpenLaw.row PySem.Challenge.rw_shearyard_k00_rows_that_are_no_plants
/-- the addresses that the facts look at -/
def lit0 : List Addr := [3, 6, 4, 24, 46, 67, 88, 109, 130, 151, 172, 193, 202, 209, 216, 221, 228, 235, 240, 247, 254, 261, 268, 275, 282, 287, 294, 301, 306, 311, 316, 323, 330, 337, 344, 351, 358, 422, 433, 440, 445, 450, 457, 462, 469, 476, 483, 490, 495, 502, 507, 512, 517, 524, 531, 536, 543, 548, 553, 560, 567, 574, 581, 588, 595, 602, 609, 616, 623, 630, 637, 644, 651, 658, 665, 672, 679, 686, 693, 698, 0, 23, 45, 66, 87, 108, 129, 150, 171, 192, 201, 208, 215, 220, 227, 234, 239, 246, 253, 260, 267, 274, 281, 286, 293, 300, 305, 310, 315, 322, 329, 336, 343, 350, 357, 421, 432, 439, 444, 449, 456, 461, 468, 475, 482, 489, 494, 501, 506, 511, 516, 523, 530, 535, 542, 547, 552, 559, 566, 573, 580, 587, 594, 601, 608, 615, 622, 629, 636, 643, 650, 657, 664, 671, 678, 685, 692, 697, 22, 25, 43, 44, 64, 65, 85, 86, 106, 107, 127, 128, 148, 149, 169, 170, 190, 191, 196, 197, 198, 199, 200, 203, 204, 205, 206, 207, 210, 211, 212, 213, 214, 217, 218, 219, 222, 223, 224, 225, 226, 229]
def lit1 : List Addr := [230, 231, 232, 233, 236, 237, 238, 241, 242, 243, 244, 245, 248, 249, 250, 251, 252, 255, 256, 257, 258, 259, 262, 263, 264, 265, 266, 269, 270, 271, 272, 273, 276, 277, 278, 279, 280, 283, 284, 285, 288, 289, 290, 291, 292, 295, 296, 297, 298, 299, 302, 303, 304, 307, 308, 309, 312, 313, 314, 317, 318, 319, 320, 321, 324, 325, 326, 327, 328, 331, 332, 333, 334, 335, 338, 339, 340, 341, 342, 345, 346, 347, 348, 349, 352, 353, 354, 355, 356, 370, 379, 388, 393, 400, 407, 414, 419, 420, 423, 424, 427, 428, 429, 430, 431, 434, 435, 436, 437, 438, 441, 442, 443, 446, 447, 448, 451, 452, 453, 454, 455, 458, 459, 460, 463, 464, 465, 466, 467, 470, 471, 472, 473, 474, 477, 478, 479, 480, 481, 484, 485, 486, 487, 488, 491, 492, 493, 496, 497, 498, 499, 500, 503, 504, 505, 508, 509, 510, 513, 514, 515, 518, 519, 520, 521, 522, 525, 526, 527, 528, 529, 532, 533, 534, 537, 538, 539, 540, 541, 544, 545, 546, 549, 550, 551, 554, 555, 556, 557, 558, 561, 562, 563, 564, 565, 568, 569, 570, 571, 572]
def lit2 : List Addr := [575, 576, 577, 578, 579, 582, 583, 584, 585, 586, 589, 590, 591, 592, 593, 596, 597, 598, 599, 600, 603, 604, 605, 606, 607, 610, 611, 612, 613, 614, 617, 618, 619, 620, 621, 624, 625, 626, 627, 628, 631, 632, 633, 634, 635, 638, 639, 640, 641, 642, 645, 646, 647, 648, 649, 652, 653, 654, 655, 656, 659, 660, 661, 662, 663, 666, 667, 668, 669, 670, 673, 674, 675, 676, 677, 680, 681, 682, 683, 684, 687, 688, 689, 690, 691, 694, 695, 696, 42, 31, 63, 52, 84, 73, 105, 94, 126, 115, 147, 136, 168, 157, 189, 178, 369, 377, 378, 387, 392, 399, 406, 413, 418, 37, 38, 39, 40, 41, 58, 59, 60, 61, 62, 79, 80, 81, 82, 83, 100, 101, 102, 103, 104, 121, 122, 123, 124, 125, 142, 143, 144, 145, 146, 163, 164, 165, 166, 167, 184, 185, 186, 187, 188, 366, 367, 368, 376, 380, 386, 389, 390, 391, 394, 395, 396, 397, 398, 401, 402, 403, 404, 405, 408, 409, 410, 411, 412, 415, 416, 417, 2]
def lit : List Addr := lit0 ++ lit1 ++ lit2
abbrev hk : PySem.W.Hook := hookX R.prog.main.file lit fa fn ers
def ob (s : PySem.W.SharedT) : AlX := obsXG R.prog.main.file lit fa fn ers (HandSHeadRun.getT s)
theorem ob_eq (s : PySem.W.SharedT) : ob s = hk.obs s.abs := obsXG_eq (HandSHeadRun.getT_eq s)
def loose1 : List Str := ["YardError", "InvalidBed", "InvalidPlant", "InvalidStump", "InvalidText", "UnknownKind", "TooMany", "WrongBranches", "NoPath", "MOST_KINDS", "MOST_BRANCHES", "MOST_KNOTS", "check_count", "arity", "fault_among", "spans", "span_stop", "kids", "row_paths", "place_of", "substituted", "swapped", "side_by_side", "common_row", "entry_rank", "row_key", "check_plant", "plant_key", "height", "counted"]
def loose2 : List Str := ["branches_of", "planted", "paths", "branch_at", "replaced", "LONGEST_NAME", "DIGITS", "only_letters", "is_name", "Bed", "HOLE", "check_stump", "stump_key", "holes", "filled", "begins", "parts", "common", "united", "written", "joined_text", "_law_bag", "_law_draw", "_law_word", "_law_name", "_law_rows", "_law_bed", "_law_number", "_law_plant", "_law_entry"]
def loose3 : List Str := ["_law_long", "_law_bent", "_law_ends", "_law_fault", "_law_due", "_law_path", "_law_place", "_law_same", "_law_plant_door", "_law_stump_door", "_law_planted", "_law_filled", "_law_called", "_law_met", "_law_plant_due", "_law_plant_answer", "_law_plants_right", "_law_stump_answer", "_law_stumps_right", "_law_pieces_due", "_law_planted_right", "_law_filled_right"]
theorem run (w : World) : HandSHeadRun.RunEq R (PySem.W.view R.prog [89]) hk ob 30000 (loose1 ++ loose2 ++ loose3) w := by
  intro os
  kernel_rfl
end Sy.En
namespace Sy
open PySem PySem.Spec PyProof.Rows L2
/-- a def of the top, by its place -/
abbrev DF (K : PySem.W.Frag) (mg : Str → Option Value) (x : Str) (i : Nat) : Prop := FD K x (top i) ∧ mg x = some (.ref (He.ga K x))
section
variable {P : Program} {w : World} {K : PySem.W.Frag} {mg : Str → Option Value} {base : Heap}
def spArity (K : PySem.W.Frag) : Sp := fun vs H Q _ => ∃ a rows x, vs = [.ref a, .str x] ∧ BedAt K H a rows ∧ Q (.int (ar rows x : Nat)) H
theorem sc_arity : FnScope ["bed", "entry"] ["bed", "entry"] (defScope (top 15)) := ⟨rfl, rfl, rfl, by decide +kernel, rfl, by decide +kernel, by decide +kernel⟩
theorem k_arity (T : Txt K mg) (F : DF K mg "arity" 15) : Cal P w K mg base 1 "arity" ["bed", "entry"] (spArity K) := by
  refine cal_of F.1 F.2 sc_arity (fun _ _ _ _ _ _ us e => match us, e with | [_, _], _ => rfl) (fun vs H Q E s => by obtain ⟨a, rows, x, rfl, _⟩ := s; rfl) ?_
  intro cdv A outer s H vs Q E hr h
  obtain ⟨a, rows, x, rfl, hb, hq⟩ := h
  have hu := hu_of hr
  refine ⟨_, pss_one (ps_ret (pe_dget2 hu (pe_fld (pv 0) rfl) (pv 1) pe_int ⟨rfl, rfl, rfl, rfl⟩)), ?_⟩
  obtain ⟨dx, dA, tR, tK, dR, ps, h1, hd, h3, h4, h5, h6⟩ := hb.ex
  refine ⟨_, rfl, a, _, dx, _, _, rfl, h1, T.bed.cl, T.bed.nA, rfl, dA, rfl, .inl ⟨_, .inl hd⟩, _, rfl, _, DGet.k (k := Sum.inr x) hd, ?_⟩
  rw [valV_ar]
  unfold ar at hq
  cases e : rows.lookup x with
  | none => rw [e] at hq; exact hq
  | some n => rw [e] at hq; exact hq
end
end Sy
namespace Sy
open PySem PySem.Spec PyProof.Rows L2
section
variable {P : Program} {w : World} {K : PySem.W.Frag} {mg : Str → Option Value} {base : Heap}
/-! fault_among -/
def fa (rows : List Sy.Row) (lv : List Str) : Nat → Nat → List Str → Int
  | m, i, [] => if 0 < m then (i : Nat) else -1
  | m, i, x :: l => if m = 0 then (i : Nat) else if isK rows x = false ∧ x ∉ lv then (i : Nat) else fa rows lv (m - 1 + ar rows x) (i + 1) l
def spFault (K : PySem.W.Frag) : Sp := fun vs H Q _ => ∃ a r v rows l lv, vs = [.ref a, .ref r, .ref v] ∧ BedAt K H a rows ∧ SqT K H r (l.map V.str) ∧ SqT K H v (lv.map V.str) ∧ ∀ H', Same H H' → Q (.int (fa rows lv 1 0 l)) H'
abbrev N_fault : List Str := ["bed", "row", "leaves", "missing", "index", "entry"]
theorem sc_fault : FnScope N_fault ["bed", "row", "leaves"] (defScope (top 16)) := ⟨rfl, rfl, rfl, by decide +kernel, rfl, by decide +kernel, by decide +kernel⟩
theorem map_at {α β : Type} {f : α → β} {l : List α} {i : Nat} {y : β} (h : (l.map f)[i]? = some y) : ∃ x, l[i]? = some x ∧ y = f x := by
  rw [List.getElem?_map] at h
  cases e : l[i]? with
  | none => rw [e] at h; cases h
  | some x => rw [e] at h; exact ⟨x, rfl, (Option.some.inj h).symm⟩
theorem inV_strs (y : Str) (lv : List Str) : inV (.str y) (lv.map V.str) = decide (y ∈ lv) := by
  unfold inV
  induction lv with
  | nil => rfl
  | cons x l ih =>
    rw [List.map_cons, List.any_cons, ih]
    have : eqV (V.str x) (V.str y) = decide (x = y) := by
      by_cases h : x = y
      · subst h
        simp [eqV]
      · simp [eqV, h]
    rw [this]
    simp [List.mem_cons, eq_comm]
theorem drop_of {α : Type} {l : List α} {i : Nat} {x : α} (h : l[i]? = some x) : l.drop i = x :: l.drop (i + 1) := by
  obtain ⟨hi, e⟩ := List.getElem?_eq_some_iff.mp h
  rw [List.drop_eq_getElem_cons hi, e]
theorem k_fault (T : Txt K mg) (F : DF K mg "fault_among" 16) (c_arity : Cal P w K mg base 1 "arity" ["bed", "entry"] (spArity K)) : Cal P w K mg base 2 "fault_among" ["bed", "row", "leaves"] (spFault K) := by
  refine cal_of F.1 F.2 sc_fault (fun _ _ _ _ _ _ us e => match us, e with | [_, _, _], _ => rfl) (fun vs H Q E s => by obtain ⟨_, _, _, _, _, _, rfl, _⟩ := s; rfl) ?_
  intro cdv A outer s H vs Q E hr h
  obtain ⟨a, r, v, rows, l, lv, rfl, hb, hR, hL, hq⟩ := h
  have hu := hu_of hr
  have sc := sc_fault
  refine ⟨_, (pss_cons (ps_set (i := 3) sc.nd rfl (Or.inl rfl) pe_int)
      (pss_cons (ps_for (passes_of rfl) rfl (pi_enumT (by rfl) T.enumerate (pa_cons (pv 1) pa_nil)) (pg_tup rfl (pgs_cons (pg_name (i := 4) sc.nd rfl (Or.inl rfl)) (pgs_cons (pg_name (i := 5) sc.nd rfl (Or.inl rfl)) pgs_nil)))
        (pss_cons (ps_if (pt_cmpR op_eq (pv 3) pe_int (nomark _))
          (pss_one (ps_ret (pv 4)))
          pss_nil)
        (pss_cons (ps_if (PW.pt (pw_and (pt_cmp (pc_dnotin hu (pv 5) (pe_fld (pv 0) rfl))) (pw_and1 (pt_cmpR op_notIn_seq (pv 5) (pv 2) rfl))))
          (pss_one (ps_ret (pv 4)))
          pss_nil)
        (pss_one (ps_set (i := 3) sc.nd rfl (Or.inl rfl) (pe_op op_add (pe_op op_sub (pv 3) pe_int) (pe_cal c_arity hr (pa_cons (pv 0) (pa_cons (pv 5) pa_nil)))))))))
      (pss_cons (ps_if (pt_cmpR op_gt (pv 3) pe_int (nomark _))
        (pss_one (ps_ret (pe_callB call_len_seq (by rfl) T.len (by decide +kernel) (pa_cons (pv 1) pa_nil))))
        pss_nil)
      (pss_one (ps_ret (pe_un un_neg pe_int)))))), ?_⟩
  refine ⟨_, rfl, r, _, rfl, hR, for_enumT (K := K) (fun i σ H' => ∃ (m : Nat) (z : Int) (s4 s5 : Option V), σ = [some (.ref a), some (.ref r), some (.ref v), some (.int z), s4, s5] ∧ z = (m : Nat) ∧ Same H H' ∧ fa rows lv m i (l.drop i) = fa rows lv 1 0 l) ⟨1, 1, none, none, rfl, rfl, Same.refl H, by rw [List.drop_zero]⟩ (fun i σ H' _ ⟨_, _, _, _, _, _, s, _⟩ => Same.sqt s hR) ?_ ?_⟩
  · intro i x σ H' Tt hx ⟨m, _, s4, s5, hσ, rfl, sm, e⟩ hT
    obtain ⟨y, hy, rfl⟩ := map_at hx
    subst hσ
    rw [drop_of hy] at e
    refine ⟨_, rfl, rfl, _, rfl, if_dec (fun c => ?_) (fun c => ?_)⟩
    · rw [fa, if_pos (by have := V.int.inj c; omega)] at e
      refine ⟨_, rfl, ?_⟩
      rw [e]
      exact hq _ (sm.trans (up_same hT))
    · have c : m ≠ 0 := fun z => c (by rw [z]; rfl)
      rw [fa, if_neg c] at e
      have sm2 : Same H (upd H' Tt (.tup [.int (i : Nat), .str y])) := sm.trans (up_same hT)
      have hb2 := hb.mono (Stay.of sm2)
      obtain ⟨dx, dA, tR, tK, dR, ps, h1, hd, h3, h4, h5, h6⟩ := hb2.ex
      refine ⟨_, rfl, _, rfl, a, _, dx, _, _, rfl, h1, T.bed.cl, T.bed.nA, rfl, dA, _, rfl, DGet.k (k := Sum.inr y) hd, _, rfl, ?_⟩
      have stop : isK rows y = false → y ∉ lv → Q (.int (i : Nat)) (upd H' Tt (.tup [.int (i : Nat), .str y])) := fun z1 z2 => by
        rw [if_pos ⟨z1, z2⟩] at e
        have q := hq _ sm2
        rw [← e] at q
        exact q
      have em : ((m : Int) - 1 + (ar rows y : Nat)) = ((m - 1 + ar rows y : Nat) : Int) := by omega
      have go : ¬ (isK rows y = false ∧ y ∉ lv) → fa rows lv (m - 1 + ar rows y) (i + 1) (l.drop (i + 1)) = fa rows lv 1 0 l := fun z => by
        rw [if_neg z] at e
        exact e
      refine if_bool (fun c2 => ?_) (fun c2 => ?_)
      · have c2 : isK rows y = false := by simpa [valV_ar, isK] using c2
        refine ⟨_, rfl, _, rfl, v, _, rfl, .inr (Same.sqt sm2 hL), rfl, by simp [flatV], _, rfl, ?_⟩
        refine if_bool (fun c3 => ?_) (fun c3 => ?_)
        · exact ⟨_, rfl, stop c2 (by simpa [inV_strs] using c3)⟩
        · exact ⟨_, rfl, _, _, rfl, rfl, _, rfl, _, rfl, a, rows, y, rfl, hb2, _, _, rfl, rfl, _, _, _, _, rfl, em, sm2, go fun z => z.2 (by simpa [inV_strs] using c3)⟩
      · have c2 : isK rows y = true := by simpa [valV_ar, isK] using c2
        exact ⟨_, rfl, _, _, rfl, rfl, _, rfl, _, rfl, a, rows, y, rfl, hb2, _, _, rfl, rfl, _, _, _, _, rfl, em, sm2, go fun z => by rw [c2] at z; cases z.1⟩
  · intro σ H' ⟨m, _, s4, s5, hσ, rfl, sm, e⟩
    subst hσ
    rw [List.drop_of_length_le (by simp), fa] at e
    refine ⟨_, rfl, _, _, rfl, rfl, _, rfl, if_dec (fun c => ?_) (fun c => ?_)⟩
    · rw [if_pos (by omega)] at e
      refine ⟨_, rfl, r, _, rfl, .inr (Same.sqt sm hR), ?_⟩
      have q := hq _ sm
      rw [← e] at q
      exact q
    · rw [if_neg (by omega)] at e
      refine ⟨_, rfl, ?_⟩
      have q := hq _ sm
      rw [← e] at q
      exact q
end
end Sy
namespace Sy
open PySem PySem.Spec PyProof.Rows L2
/-! more words -/
theorem ixN_nat {n j : Nat} (h : j < n) : ixN n (j : Int) = some j := by
  unfold ixN
  rw [if_pos (by omega), if_pos (by omega)]
  rfl
/-- a row of places -/
abbrev vN (l : List Nat) : List V := l.map fun n : Nat => V.int (n : Int)
def DN (l : List Nat) : PyData := .tuple (l.map fun n : Nat => PyData.int (n : Int))
def DS (l : List Str) : PyData := .tuple (l.map PyData.str)
section
variable {K : PySem.W.Frag} {H B B' : Hp} {v : V} {vs : List V} {ds : List PyData}
theorem ImA.nats : ∀ l : List Nat, ImA K H (vN l) (l.map fun n : Nat => PyData.int (n : Int))
  | [] => .nil
  | x :: l => .cons (.int _) (ImA.nats l)
theorem Im.nats {a : Addr} {l : List Nat} (h : SqT K H a (vN l)) : Im K H (.ref a) (DN l) := .tup h (ImA.nats l)
theorem Im.tupI (h : Im K H v (.tuple ds)) : ∃ a xs, v = .ref a ∧ SqT K H a xs ∧ ImA K H xs ds := by
  cases h with
  | tup h1 h2 => exact ⟨_, _, rfl, h1, h2⟩
theorem Im.intI {i : Int} (h : Im K H v (.int i)) : v = .int i := by cases h; rfl
theorem Im.strI {x : Str} (h : Im K H v (.str x)) : v = .str x := by cases h; rfl
theorem ImA.natsI : ∀ {l : List Nat} {vs : List V}, ImA K H vs (l.map fun n : Nat => PyData.int (n : Int)) → vs = vN l
  | [], _, .nil => rfl
  | _ :: _, _, .cons a b => by rw [a.intI, ImA.natsI b]; rfl
theorem ImA.strsI : ∀ {l : List Str} {vs : List V}, ImA K H vs (l.map PyData.str) → vs = l.map V.str
  | [], _, .nil => rfl
  | _ :: _, _, .cons a b => by rw [a.strI, ImA.strsI b]; rfl
theorem Im.natsI {l : List Nat} (h : Im K H v (DN l)) : ∃ a, v = .ref a ∧ SqT K H a (vN l) := by
  obtain ⟨a, xs, rfl, h1, h2⟩ := h.tupI
  rw [h2.natsI] at h1
  exact ⟨a, rfl, h1⟩
theorem Im.strsI {l : List Str} (h : Im K H v (DS l)) : ∃ a, v = .ref a ∧ SqT K H a (l.map V.str) := by
  obtain ⟨a, xs, rfl, h1, h2⟩ := h.tupI
  rw [h2.strsI] at h1
  exact ⟨a, rfl, h1⟩
theorem ImA.set : ∀ {vs : List V} {ds : List PyData} {i : Nat} {d : PyData}, ImA K H vs ds → Im K H v d → ImA K H (vs.set i v) (ds.set i d)
  | _, _, _, _, .nil, _ => .nil
  | _, _, 0, _, .cons _ b, h => .cons h b
  | _, _, i + 1, _, .cons a b, h => .cons a (ImA.set b h)
theorem ImA.snoc {d : PyData} (h : ImA K H vs ds) (g : Im K H v d) : ImA K H (vs ++ [v]) (ds ++ [d]) := h.app (.cons g .nil)
end
/-! comprehensions over a tuple -/
abbrev LcW (J : It) (g : TG) (tt : TT) (te : TE) (vs : List Nat) (σ : L2.St) (H1 : Hp) (D : Addr) (Qd : Hp → Prop) : Prop := ∃ W : Nat → Nat → Hp → Prop, (∃ m, W 0 m (upd H1 D (.lst []))) ∧ ∀ i m H, W i m H → (J.stop i H ∧ Qd H) ∨
  (J.go i H ∧ ∃ Nx : Hp → Prop, (∀ H', Nx H' → ∃ m', m' < m ∧ W (i + 1) m' H') ∧ ∀ x H', J.yld i H x H' → g x (wipe σ vs) H' fun σ2 H2 => wipe σ2 vs = wipe σ vs ∧ tt σ2 H2 fun b H3 => if b = true then te σ2 H3 fun y H4 => ∃ acc, H4 D = some (.lst acc) ∧ acc.length < sizeLine ∧ Nx (upd H4 D (.lst (acc ++ [y]))) else Nx H3)
/-- [e for x in t] -/
theorem wipe_one (σ : L2.St) (i : Nat) (v : Option V) : wipe (σ.set i v) [i] = wipe σ [i] := by
  show (σ.set i v).set i none = σ.set i none
  rw [List.set_set]
theorem lc_map {K : PySem.W.Frag} {a : Addr} {xs : List V} {si : Nat} {te : TE} {σ : L2.St} {H B : Hp} {L : List (Addr × HO)} {D : Addr} {Qd : Hp → Prop} (h : Hs B L H) (hD : H D = none) (hx : SqT K B a xs) (hsz : xs.length ≤ 1000000)
    (Pv : Nat → Hp → List V → Prop) (h0 : Pv 0 B [])
    (hs : ∀ i x B' acc H', xs[i]? = some x → Same B B' → Pv i B' acc → Hs B' ((D, .lst acc) :: L) H' →
      ∀ R : VK, (∀ y H4 B4, Same B' B4 → Hs B4 ((D, .lst acc) :: L) H4 → Pv (i + 1) B4 (acc ++ [y]) → R y H4) → te ((wipe σ [si]).set si (some x)) H' R)
    (hd : ∀ B' acc H', Same B B' → Pv xs.length B' acc → Hs B' ((D, .lst acc) :: L) H' → Qd H') : LcW (Itt K a) (gName si) tYes te [si] σ H D Qd := by
  refine lc_tup (K := K) (a := a) (xs := xs) (fun i H' => i ≤ xs.length ∧ ∃ B' acc, acc.length = i ∧ Same B B' ∧ Pv i B' acc ∧ Hs B' ((D, .lst acc) :: L) H') ⟨Nat.zero_le _, B, [], rfl, Same.refl B, h0, h.new hD⟩ ?_ ?_ ?_
  · rintro i H' _ ⟨_, B', acc, _, s, _, hh⟩
    exact Same.sqt (s.trans hh.sub) hx
  · rintro i x H' hxi ⟨hi, B', acc, ha, s, p, hh⟩
    have lt : i < xs.length := (List.getElem?_eq_some_iff.mp hxi).1
    refine ⟨wipe_one _ _ _ |>.trans (by show (σ.set si none).set si none = σ.set si none; rw [List.set_set]), ?_⟩
    simp only [tYes, if_true]
    refine hs i x B' acc H' hxi s p hh _ (fun y H4 B4 s4 h4 p4 => ?_)
    exact ⟨acc, h4.r0, by rw [sizeLine_eq]; omega, by omega, B4, acc ++ [y], by rw [List.length_append, ha]; rfl, s.trans s4, p4, h4.w0⟩
  · rintro H' ⟨_, B', acc, _, s, p, hh⟩
    exact hd B' acc H' s p hh
end Sy
namespace Sy
open PySem PySem.Spec PyProof.Rows L2
/-- the numbers of branches of a row's entries -/
def wt (rows : List Sy.Row) (l : List Str) : List Nat := l.map (ar rows)
def ens (w : List Nat) : List Nat := (List.range w.length).map (en w)
def kidsN (w : List Nat) (i : Nat) : List Nat := (List.range (aw w i)).map (kd w i)
def dKids (w : List Nat) : PyData := .tuple ((List.range w.length).map fun i => DN (kidsN w i))
section
variable {rows : List Sy.Row} {l : List Str} {i : Nat} {y : Str} {w : List Nat}
theorem wt_len (rows : List Sy.Row) (l : List Str) : (wt rows l).length = l.length := List.length_map ..
theorem wt_at (h : l[i]? = some y) : aw (wt rows l) i = ar rows y := aw_of (by rw [wt, List.getElem?_map, h]; rfl)
theorem ens_of {ss : List Nat} (hl : ss.length = w.length) (h : ∀ j, j < w.length → ss[j]? = some (en w j)) : ss = ens w := by
  apply List.ext_getElem?
  intro j
  by_cases hj : j < w.length
  · rw [h j hj, ens, List.getElem?_map, List.getElem?_range hj]
    rfl
  · rw [List.getElem?_eq_none (by omega), List.getElem?_eq_none (by rw [ens, List.length_map, List.length_range]; omega)]
theorem ens_at (h : i < w.length) : (ens w)[i]? = some (en w i) := by rw [ens, List.getElem?_map, List.getElem?_range h]; rfl
theorem ens_len (w : List Nat) : (ens w).length = w.length := by rw [ens, List.length_map, List.length_range]
theorem vN_at {ns : List Nat} {n : Nat} (h : ns[i]? = some n) : (vN ns)[i]? = some (.int (n : Int)) := by rw [vN, List.getElem?_map, h]; rfl
theorem vN_set (ns : List Nat) (i n : Nat) : (vN ns).set i (.int (n : Int)) = vN (ns.set i n) := by rw [vN, vN, List.map_set]
theorem aw_le (h : Fo 1 w) (hi : i < w.length) : aw w i ≤ w.length := by
  have a := kd_mono h hi (k := 0) (aw w i) (by omega)
  have b := h.en_le hi
  rw [Nat.zero_add, en_kd hi] at a
  omega
end
section
variable {P : Program} {w : World} {K : PySem.W.Frag} {mg : Str → Option Value} {base : Heap}
/-! spans -/
def spSpans (K : PySem.W.Frag) : Sp := fun vs H Q _ => ∃ a r rows l, vs = [.ref a, .ref r] ∧ BedAt K H a rows ∧ SqT K H r (l.map V.str) ∧ Fo 1 (wt rows l) ∧ l.length ≤ 2000 ∧ ∀ H' p, Same H H' → SqT K H' p (vN (ens (wt rows l))) → Q (.ref p) H'
abbrev N_spans : List Str := ["bed", "row", "_", "stops", "index", "stop"]
theorem sc_spans : FnScope N_spans ["bed", "row"] (defScope (top 17)) := ⟨rfl, rfl, rfl, by decide +kernel, rfl, by decide +kernel, by decide +kernel⟩
theorem k_spans (T : Txt K mg) (F : DF K mg "spans" 17) (c_arity : Cal P w K mg base 1 "arity" ["bed", "entry"] (spArity K)) : Cal P w K mg base 2 "spans" ["bed", "row"] (spSpans K) := by
  refine cal_of F.1 F.2 sc_spans (fun _ _ _ _ _ _ us e => match us, e with | [_, _], _ => rfl) (fun vs H Q E s => by obtain ⟨_, _, _, _, rfl, _⟩ := s; rfl) ?_
  intro cdv A outer s H vs Q E hr h
  obtain ⟨a, r, rows, l, rfl, hb, hR, hF, hsz, hq⟩ := h
  have hu := hu_of hr
  have sc := sc_spans
  refine ⟨_, (pss_cons (ps_setLc (i := 3) (own := [("_", 2)]) (g := gName 2) rfl sc.nd rfl rfl (sw_true rfl rfl rfl (by decide +kernel)) (pi_tup (pv 1)) (blkOk_by (N := N_spans) (sc := defScope (top 17)) (by decide +kernel)) (fun _ _ _ _ _ => (pg_name (i := 2) sc.nd rfl (Or.inl rfl))) (fun _ _ _ _ _ => pts_nil) (fun _ _ _ _ _ => pe_int))
      (pss_cons (ps_for (passes_of rfl) rfl (pi_revR rfl T.reversed (prg_1 rfl T.range (pe_callB call_len_seq (by rfl) T.len (by decide +kernel) (pa_cons (pv 1) pa_nil)))) (pg_name (i := 4) sc.nd rfl (Or.inl rfl))
        (pss_cons (ps_set (i := 5) sc.nd rfl (Or.inl rfl) (pe_op op_add (pv 4) pe_int))
        (pss_cons (ps_for (passes_of rfl) rfl (pi_range1 rfl T.range (pa_cons (pe_cal c_arity hr (pa_cons (pv 0) (pa_cons (pe_ix ix_tup (pv 1) (pv 4) (fun _ _ => rfl)) pa_nil))) pa_nil)) (pg_name (i := 2) sc.nd rfl (Or.inl rfl))
          (pss_one (ps_set (i := 5) sc.nd rfl (Or.inl rfl) (pe_ix ix_list (pv 3) (pv 5) (fun _ _ => rfl)))))
        (pss_one (ps_asg (pv 5) (pg_sub (pv 3) (pv 4) set_list))))))
      (pss_one (ps_ret (pe_callTy call_tuple_of (by rfl) T.tuple (by decide +kernel) (pa_cons (pv 3) pa_nil)))))), ?_⟩
  have hwl := wt_len rows l
  refine ⟨_, rfl, r, rfl, ⟨_, hR⟩, fun D hD => lc_map (si := 2) (Hs.start H) hD hR (by rw [List.length_map]; omega) (fun i _ acc => acc = vN (List.replicate i 0)) rfl ?_ ?_⟩
  · rintro i x B' acc H' hx s rfl hh R hR
    exact hR _ _ B' (Same.refl _) hh (by rw [vN, vN, List.replicate_succ', List.map_append]; rfl)
  rintro B' acc H' s2 rfl hh
  refine ⟨_, rfl, r, _, rfl, .inr (Same.sqt (s2.trans hh.sub) hR), _, rfl, by decide, by decide, by rw [List.length_map]; omega, by rw [List.length_map]; omega, for_rrng (n := (l.map V.str).length)
    (fun i σ H' => ∃ t2 t4 t5 B ss, σ = [some (.ref a), some (.ref r), t2, some (.ref D), t4, t5] ∧ Same H B ∧ Hs B [(D, .lst (vN ss))] H' ∧ ss.length = l.length ∧ ∀ j, i ≤ j → j < l.length → ss[j]? = some (en (wt rows l) j))
    ⟨none, none, none, B', List.replicate l.length 0, rfl, s2, by rw [List.length_map] at hh; exact hh, by rw [List.length_replicate], fun j a b => by rw [List.length_map] at a; omega⟩ ?_ ?_⟩
  · rintro i σ H1 hi ⟨t2, t4, t5, B, ss, rfl, sB, hh, hl, hv⟩
    rw [List.length_map] at hi
    have hiw : i < (wt rows l).length := by omega
    obtain ⟨y, hy⟩ : ∃ y, l[i]? = some y := ⟨_, List.getElem?_eq_getElem hi⟩
    have sH := sB.trans hh.sub
    have eaw : aw (wt rows l) i = ar rows y := wt_at hy
    have hal := aw_le hF hiw
    refine ⟨_, rfl, _, _, rfl, rfl, _, rfl, _, rfl, _, rfl, r, _, _, _, rfl, rfl, Same.sqt sH hR, atI_nat (by rw [List.getElem?_map, hy]; rfl), a, rows, y, rfl, hb.mono (Stay.of sH), _, rfl, by omega, by omega, for_rng (n := ar rows y)
      (fun t σ H2 => ∃ u2 z, σ = [some (.ref a), some (.ref r), u2, some (.ref D), some (.int (i : Nat)), some (.int z)] ∧ z = (kd (wt rows l) i t : Nat) ∧ H2 = H1)
      ⟨_, _, rfl, by rw [kd_zero]; rfl, rfl⟩ ?_ ?_⟩
    · rintro t σ H2 ht ⟨u2, _, rfl, rfl, rfl⟩
      have hk := hF.kd_lt hiw (k := t) (by omega)
      refine ⟨_, rfl, _, rfl, D, _, _, _, rfl, rfl, SqL.of hh.r0, atI_nat (vN_at (hv _ (kd_gt) (by omega))), _, _, rfl, by rw [kd_succ], rfl⟩
    · rintro σ H2 ⟨u2, _, rfl, rfl, rfl⟩
      refine ⟨_, rfl, _, rfl, _, rfl, D, _, _, i, rfl, rfl, hh.r0, ixN_nat (by rw [List.length_map]; omega), _, _, _, B, _, rfl, sB, by rw [vN_set]; exact hh.w0, by rw [List.length_set]; exact hl, fun j a b => ?_⟩
      rw [← eaw, en_kd hiw]
      by_cases c : i = j
      · subst c
        rw [List.getElem?_set_self (by omega)]
      · rw [List.getElem?_set_ne c]
        exact hv j (by omega) b
  · rintro σ H1 ⟨t2, t4, t5, B, ss, rfl, sB, hh, hl, hv⟩
    refine ⟨_, rfl, D, _, rfl, .inl ⟨SqL.of hh.r0, fun p hp => ?_⟩⟩
    rw [ens_of (by omega) (fun j hj => hv j (Nat.zero_le _) (by omega))]
    exact hq _ _ ((sB.trans hh.sub).trans (up_same hp)) (SqT.of upd_same)
/-! span_stop -/
def spStop (K : PySem.W.Frag) : Sp := fun vs H Q _ => ∃ a r i rows l, vs = [.ref a, .ref r, .int (i : Nat)] ∧ BedAt K H a rows ∧ SqT K H r (l.map V.str) ∧ Fo 1 (wt rows l) ∧ i < l.length ∧ Q (.int (en (wt rows l) i : Nat)) H
abbrev N_stop : List Str := ["bed", "row", "place", "stop", "missing"]
theorem sc_stop : FnScope N_stop ["bed", "row", "place"] (defScope (top 18)) := ⟨rfl, rfl, rfl, by decide +kernel, rfl, by decide +kernel, by decide +kernel⟩
def muStop (n : Nat) : L2.St → Nat
  | [_, _, _, some (.int s), _] => n - s.toNat
  | _ => 0
theorem k_stop (T : Txt K mg) (F : DF K mg "span_stop" 18) (c_arity : Cal P w K mg base 1 "arity" ["bed", "entry"] (spArity K)) : Cal P w K mg base 2 "span_stop" ["bed", "row", "place"] (spStop K) := by
  refine cal_of F.1 F.2 sc_stop (fun _ _ _ _ _ _ us e => match us, e with | [_, _, _], _ => rfl) (fun vs H Q E s => by obtain ⟨_, _, _, _, _, rfl, _⟩ := s; rfl) ?_
  intro cdv A outer s H vs Q E hr h
  obtain ⟨a, r, i, rows, l, rfl, hb, hR, hF, hi, hq⟩ := h
  have hu := hu_of hr
  have sc := sc_stop
  have hwl := wt_len rows l
  refine ⟨_, (pss_cons (ps_set (i := 3) sc.nd rfl (Or.inl rfl) (pv 2))
      (pss_cons (ps_set (i := 4) sc.nd rfl (Or.inl rfl) pe_int)
      (pss_cons (ps_while (passes_of rfl) (pt_cmpR op_gt (pv 4) pe_int (nomark _))
        (pss_cons (ps_set (i := 4) sc.nd rfl (Or.inl rfl) (pe_op op_add (pe_op op_sub (pv 4) pe_int) (pe_cal c_arity hr (pa_cons (pv 0) (pa_cons (pe_ix ix_tup (pv 1) (pv 3) (fun _ _ => rfl)) pa_nil)))))
        (pss_one (ps_set (i := 3) sc.nd rfl (Or.inl rfl) (pe_op op_add (pv 3) pe_int)))))
      (pss_one (ps_ret (pv 3)))))), ?_⟩
  refine ⟨_, rfl, while_by (fun σ H' => ∃ (st m : Nat) (z1 z2 : Int), σ = [some (.ref a), some (.ref r), some (.int (i : Nat)), some (.int z1), some (.int z2)] ∧ z1 = (st : Nat) ∧ z2 = (m : Nat) ∧ H' = H ∧ st + sp m ((wt rows l).drop st) = en (wt rows l) i ∧ ∃ k, Fo (m + k) ((wt rows l).drop st)) (fun σ _ => muStop l.length σ) ⟨i, 1, _, _, rfl, rfl, rfl, rfl, rfl, by
      obtain ⟨m, q⟩ := hF.at_ (i := i) (by omega)
      exact ⟨m, by rw [Nat.add_comm]; exact q⟩⟩ ?_ (fun _ _ _ _ m ⟨v, h1, i, j, h2, h3, k, h4, q⟩ => ⟨v, h1, i, j, h2, h3, k, h4, m _ _ q⟩)⟩
  rintro σ H' ⟨st, m, _, _, rfl, rfl, rfl, rfl, e, k, f⟩
  refine ⟨_, rfl, _, _, rfl, rfl, _, rfl, if_dec (fun c => ?_) (fun c => ?_)⟩
  · obtain ⟨n, rfl⟩ : ∃ n, m = n + 1 := ⟨m - 1, by omega⟩
    rw [show n + 1 + k = (n + k) + 1 by omega] at f
    have hl := f.pos
    rw [List.length_drop] at hl
    have hs : st < l.length := by omega
    obtain ⟨y, hy⟩ : ∃ y, l[st]? = some y := ⟨_, List.getElem?_eq_getElem hs⟩
    have ey := wt_at (rows := rows) hy
    rw [drop_at (by omega)] at e f
    rw [sp_cons, ey] at e
    have f : Fo (n + k + aw (wt rows l) st) ((wt rows l).drop (st + 1)) := f
    rw [ey] at f
    refine ⟨_, rfl, _, _, rfl, rfl, _, rfl, _, rfl, _, rfl, r, _, _, _, rfl, rfl, hR, atI_nat (by rw [List.getElem?_map, hy]; rfl), a, rows, y, rfl, hb, _, _, rfl, rfl, _, rfl, _, _, rfl, rfl, ⟨st + 1, n + ar rows y, _, _, rfl, rfl, by omega, rfl, by omega, k, by rw [show n + ar rows y + k = n + k + ar rows y by omega]; exact f⟩, ?_⟩
    show l.length - ((st : Int) + 1).toNat < l.length - ((st : Int)).toNat
    omega
  · obtain rfl : m = 0 := by omega
    rw [sp_zero] at e
    refine ⟨_, rfl, ?_⟩
    rw [← e] at hq
    exact hq
/-! kids -/
def spKids (K : PySem.W.Frag) : Sp := fun vs H Q _ => ∃ a r rows l, vs = [.ref a, .ref r] ∧ BedAt K H a rows ∧ SqT K H r (l.map V.str) ∧ Fo 1 (wt rows l) ∧ l.length ≤ 2000 ∧ ∀ H' v, Same H H' → Im K H' v (dKids (wt rows l)) → Q v H'
abbrev N_kids : List Str := ["bed", "row", "stops", "found", "index", "entry", "starts", "start", "_"]
theorem sc_kids : FnScope N_kids ["bed", "row"] (defScope (top 19)) := ⟨rfl, rfl, rfl, by decide +kernel, rfl, by decide +kernel, by decide +kernel⟩
theorem k_kids (T : Txt K mg) (F : DF K mg "kids" 19) (c_arity : Cal P w K mg base 1 "arity" ["bed", "entry"] (spArity K)) (c_spans : Cal P w K mg base 2 "spans" ["bed", "row"] (spSpans K)) : Cal P w K mg base 3 "kids" ["bed", "row"] (spKids K) := by
  refine cal_of F.1 F.2 sc_kids (fun _ _ _ _ _ _ us e => match us, e with | [_, _], _ => rfl) (fun vs H Q E s => by obtain ⟨_, _, _, _, rfl, _⟩ := s; rfl) ?_
  intro cdv A outer s H vs Q E hr h
  obtain ⟨a, r, rows, l, rfl, hb, hR, hF, hsz, hq⟩ := h
  have hu := hu_of hr
  have sc := sc_kids
  have hwl := wt_len rows l
  refine ⟨_, (pss_cons (ps_set (i := 2) sc.nd rfl (Or.inl rfl) (pe_cal c_spans hr (pa_cons (pv 0) (pa_cons (pv 1) pa_nil))))
      (pss_cons (ps_set (i := 3) sc.nd rfl (Or.inl rfl) (pe_lst pa_nil))
      (pss_cons (ps_for (passes_of rfl) rfl (pi_enumT (by rfl) T.enumerate (pa_cons (pv 1) pa_nil)) (pg_tup rfl (pgs_cons (pg_name (i := 4) sc.nd rfl (Or.inl rfl)) (pgs_cons (pg_name (i := 5) sc.nd rfl (Or.inl rfl)) pgs_nil)))
        (pss_cons (ps_set (i := 6) sc.nd rfl (Or.inl rfl) (pe_lst pa_nil))
        (pss_cons (ps_set (i := 7) sc.nd rfl (Or.inl rfl) (pe_op op_add (pv 4) pe_int))
        (pss_cons (ps_for (passes_of rfl) rfl (pi_range1 rfl T.range (pa_cons (pe_cal c_arity hr (pa_cons (pv 0) (pa_cons (pv 5) pa_nil))) pa_nil)) (pg_name (i := 8) sc.nd rfl (Or.inl rfl))
          (pss_cons (ps_expr (pe_bm PySem.F.plainAttrs_list PySem.F.slot_list_append PySem.F.type_list_append mt_append (pv 6) (pa_cons (pv 7) pa_nil)))
          (pss_one (ps_set (i := 7) sc.nd rfl (Or.inl rfl) (pe_ix ix_tup (pv 2) (pv 7) (fun _ _ => rfl))))))
        (pss_one (ps_expr (pe_bm PySem.F.plainAttrs_list PySem.F.slot_list_append PySem.F.type_list_append mt_append (pv 3) (pa_cons (pe_callTy call_tuple_of (by rfl) T.tuple (by decide +kernel) (pa_cons (pv 6) pa_nil)) pa_nil))))))))
      (pss_one (ps_ret (pe_callTy call_tuple_of (by rfl) T.tuple (by decide +kernel) (pa_cons (pv 3) pa_nil))))))), ?_⟩
  refine ⟨_, rfl, _, rfl, a, r, rows, l, rfl, hb, hR, hF, hsz, fun H1 p s1 hp => ?_⟩
  refine ⟨by decide, fun D hD => ?_⟩
  refine ⟨_, rfl, r, _, rfl, Same.sqt (s1.trans (up_same hD)) hR, for_enumT (K := K)
    (fun i σ H' => ∃ t4 t5 t6 t7 t8 B vs, σ = [some (.ref a), some (.ref r), some (.ref p), some (.ref D), t4, t5, t6, t7, t8] ∧ Same H1 B ∧ Hs B [(D, .lst vs)] H' ∧ ImA K B vs ((List.range i).map fun i => DN (kidsN (wt rows l) i)))
    ⟨none, none, none, none, none, H1, [], rfl, Same.refl _, (Hs.start H1).new hD, .nil⟩ (fun i σ H' _ ⟨_, _, _, _, _, B, _, _, s, h, _⟩ => Same.sqt ((s1.trans s).trans h.sub) hR) ?_ ?_⟩
  · rintro i x σ H' Tt hx ⟨t4, t5, t6, t7, t8, B, vs, rfl, sB, hh, im⟩ hT
    obtain ⟨y, hy, rfl⟩ := map_at hx
    have hi : i < l.length := (List.getElem?_eq_some_iff.mp hy).1
    have hiw : i < (wt rows l).length := by omega
    have ey := wt_at (rows := rows) hy
    have hal := aw_le hF hiw
    have hh := hh.lay (o := .tup [.int (i : Nat), .str y]) hT
    refine ⟨by decide, fun E hE => ?_⟩
    have hh := hh.new (o := .lst []) hE
    have sH := (s1.trans sB).trans hh.sub
    refine ⟨_, rfl, _, _, rfl, rfl, _, rfl, _, rfl, a, rows, y, rfl, hb.mono (Stay.of sH), _, rfl, by omega, by omega, for_rng (n := ar rows y)
      (fun t σ H2 => ∃ u8 z, σ = [some (.ref a), some (.ref r), some (.ref p), some (.ref D), some (.int (i : Nat)), some (.str y), some (.ref E), some (.int z), u8] ∧ z = (kd (wt rows l) i t : Nat) ∧ Hs B [(E, .lst (vN ((List.range t).map (kd (wt rows l) i)))), (D, .lst vs)] H2)
      ⟨_, _, rfl, by rw [kd_zero]; rfl, hh⟩ ?_ ?_⟩
    · rintro t σ H2 ht ⟨u8, _, rfl, rfl, h2⟩
      have hk := hF.kd_lt hiw (k := t) (by omega)
      have s3 : Same H1 (upd H2 E (.lst (vN ((List.range t).map (kd (wt rows l) i)) ++ [.int (kd (wt rows l) i t : Nat)]))) := sB.trans (h2.w0).sub
      refine ⟨_, rfl, .inl ⟨rfl, _, SqL.of h2.r0⟩, _, rfl, E, _, _, rfl, rfl, h2.r0, by rw [sizeLine_eq, List.length_map, List.length_map, List.length_range]; omega, _, rfl, _, rfl, p, _, _, _, rfl, rfl, Same.sqt s3 hp, atI_nat (vN_at (ens_at hk)), _, _, rfl, by rw [kd_succ], ?_⟩
      rw [List.range_succ, List.map_append, vN, List.map_append]
      exact h2.w0
    · rintro σ H2 ⟨u8, _, rfl, rfl, h2⟩
      refine ⟨_, rfl, .inl ⟨rfl, _, SqL.of h2.r1⟩, _, rfl, E, _, rfl, .inl ⟨SqL.of h2.r0, fun q hq => ?_⟩⟩
      have hn := h2.tup (o := .tup (vN ((List.range (ar rows y)).map (kd (wt rows l) i)))) hq
      have sB2 : Same B (upd B q (.tup (vN ((List.range (ar rows y)).map (kd (wt rows l) i))))) := up_same (h2.sub.free hq)
      have iq : Im K (upd B q (.tup (vN ((List.range (ar rows y)).map (kd (wt rows l) i))))) (.ref q) (DN (kidsN (wt rows l) i)) := by
        rw [kidsN, ey]
        exact Im.nats (SqT.of upd_same)
      refine ⟨D, _, _, rfl, rfl, hn.r1, by rw [im.len, List.length_map, List.length_range, sizeLine_eq]; omega, _, _, _, _, _, _, _, rfl, sB.trans sB2, (hn.w1).drop, ?_⟩
      rw [List.range_succ, List.map_append]
      exact (im.mono (Stay.of sB2)).snoc iq
  · rintro σ H' ⟨t4, t5, t6, t7, t8, B, vs, rfl, sB, hh, im⟩
    refine ⟨_, rfl, D, _, rfl, .inl ⟨SqL.of hh.r0, fun q hn => ?_⟩⟩
    rw [List.length_map] at im
    have sq := hh.sub.trans (up_same (o := .tup vs) hn)
    refine hq _ _ ((s1.trans sB).trans sq) (.tup (SqT.of upd_same) ?_)
    rw [hwl]
    exact im.mono (Stay.of sq)
end
end Sy
namespace Sy
open PySem PySem.Spec PyProof.Rows L2
theorem stp_le {w : List Nat} {i : Nat} {fd : List (List Nat)} (h : ∀ j, (fd.getD j []).length ≤ j) : ∀ n j, ((stp w i fd n).getD j []).length ≤ j
  | 0, j => h j
  | n + 1, j => by
    have q := stp_le (w := w) (i := i) h n
    rw [stp_succ]
    by_cases c : kd w i n = j
    · rw [c]
      by_cases d : j < (stp w i fd n).length
      · rw [getD_set_eq _ _ _ d, List.length_append]
        have := q i
        have := kd_gt (w := w) (i := i) (k := n)
        show _ + 1 ≤ _
        omega
      · rw [List.getD_eq_getElem?_getD, List.getElem?_eq_none (by rw [List.length_set]; omega)]
        exact Nat.zero_le _
    · rw [getD_set_ne _ _ _ c]
      exact q j
theorem pth_le (w : List Nat) : ∀ n j, ((pth w n).getD j []).length ≤ j
  | 0, j => by
    show ((List.replicate w.length []).getD j []).length ≤ j
    rw [List.getD_eq_getElem?_getD, List.getElem?_replicate]
    split <;> exact Nat.zero_le _
  | n + 1, j => by
    rw [pth_succ]
    exact stp_le (pth_le w n) _ j
def dPaths (w : List Nat) : PyData := .tuple ((pths w).map DN)
section
variable {K : PySem.W.Frag} {H : Hp} {a b : Addr} {xs ys : List V} {Q : VK}
/-- a tuple's slice, whether it is the whole or not -/
theorem sl_any {lo hi : Option Int} {zs : List V} (hz : cutV xs lo hi = zs) (h : SqT K H a xs) (q : ∀ p H', Same H H' → SqT K H' p zs → Q (.ref p) H') : rSlA K (.ref a) lo hi H Q := by
  subst hz
  refine ⟨a, xs, rfl, h, fun c => q _ _ (Same.refl H) ?_, fun _ p hp => q _ _ (up_same hp) (SqT.of upd_same)⟩
  unfold cutV
  rw [c.1, c.2, List.drop_zero, Nat.sub_zero, List.take_length]
  exact h
theorem cat_any (h : SqT K H a xs) (g : SqT K H b ys) (hs : xs.length + ys.length ≤ 1000000) (q : ∀ p H', Same H H' → SqT K H' p (xs ++ ys) → Q (.ref p) H') : rCatA K (.ref a) (.ref b) H Q := by
  refine ⟨a, b, xs, ys, rfl, rfl, h, g, by rw [sizeLine_eq]; omega, fun c => q _ _ (Same.refl H) (by rw [c]; exact g), fun _ c => q _ _ (Same.refl H) (by rw [c, List.append_nil]; exact h), fun _ _ p hp => q _ _ (up_same hp) (SqT.of upd_same)⟩
theorem cut_take {i : Nat} (h : i ≤ xs.length) : cutV xs none (some (i : Int)) = xs.take i := by
  unfold cutV HT.sIx
  simp only [List.drop_zero, Nat.sub_zero]
  rw [if_neg (by omega), show min (i : Int).toNat xs.length = i by omega]
theorem cut_drop {i : Nat} (h : i ≤ xs.length) : cutV xs (some (i : Int)) none = xs.drop i := by
  unfold cutV HT.sIx
  simp only []
  rw [if_neg (by omega), show min (i : Int).toNat xs.length = i by omega, List.take_of_length_le]
  rw [List.length_drop]
  exact Nat.le_refl _
theorem cut_mid {i j : Nat} (h : i ≤ j) (g : j ≤ xs.length) : cutV xs (some (i : Int)) (some (j : Int)) = (xs.drop i).take (j - i) := by
  unfold cutV HT.sIx
  simp only []
  rw [if_neg (by omega), if_neg (by omega), show min (i : Int).toNat xs.length = i by omega, show min (j : Int).toNat xs.length = j by omega]
end
theorem rk_isK (x : Str) : ∀ (n : Nat) (rows : List Sy.Row), isK rows x = true → ∃ m, rk n rows x = some m
  | n, [], h => by simp [isK] at h
  | n, r :: rs, h => by
    rw [isK, lookup_cons] at h
    rw [rk]
    by_cases c : r.1 = x
    · exact ⟨n, by rw [if_pos c]⟩
    · rw [if_neg c] at h ⊢
      exact rk_isK x (n + 1) rs h
def rkD (rows : List Sy.Row) (x : Str) : Nat := (rk 0 rows x).getD rows.length
section
variable {P : Program} {w : World} {K : PySem.W.Frag} {mg : Str → Option Value} {base : Heap}
/-! row_paths -/
def spPathsR (K : PySem.W.Frag) : Sp := fun vs H Q _ => ∃ a r rows l, vs = [.ref a, .ref r] ∧ BedAt K H a rows ∧ SqT K H r (l.map V.str) ∧ Fo 1 (wt rows l) ∧ l.length ≤ 2000 ∧ ∀ H' v, Same H H' → Im K H' v (dPaths (wt rows l)) → Q v H'
abbrev N_pathsR : List Str := ["bed", "row", "found", "index", "starts", "branch", "start", "_"]
theorem sc_pathsR : FnScope N_pathsR ["bed", "row"] (defScope (top 20)) := ⟨rfl, rfl, rfl, by decide +kernel, rfl, by decide +kernel, by decide +kernel⟩
theorem k_pathsR (T : Txt K mg) (F : DF K mg "row_paths" 20) (c_kids : Cal P w K mg base 3 "kids" ["bed", "row"] (spKids K)) : Cal P w K mg base 4 "row_paths" ["bed", "row"] (spPathsR K) := by
  refine cal_of F.1 F.2 sc_pathsR (fun _ _ _ _ _ _ us e => match us, e with | [_, _], _ => rfl) (fun vs H Q E s => by obtain ⟨_, _, _, _, rfl, _⟩ := s; rfl) ?_
  intro cdv A outer s H vs Q E hr h
  obtain ⟨a, r, rows, l, rfl, hb, hR, hF, hsz, hq⟩ := h
  have hu := hu_of hr
  have sc := sc_pathsR
  have hwl := wt_len rows l
  refine ⟨_, (pss_cons (ps_setLc (i := 2) (own := [("_", 7)]) (g := gName 7) rfl sc.nd rfl rfl (sw_true rfl rfl rfl (by decide +kernel)) (pi_tup (pv 1)) (blkOk_by (N := N_pathsR) (sc := defScope (top 20)) (by decide +kernel)) (fun _ _ _ _ _ => (pg_name (i := 7) sc.nd rfl (Or.inl rfl))) (fun _ _ _ _ _ => pts_nil) (fun _ _ _ _ _ => (pe_tup pa_nil)))
      (pss_cons (ps_for (passes_of rfl) rfl (pi_enumT (by rfl) T.enumerate (pa_cons (pe_cal c_kids hr (pa_cons (pv 0) (pa_cons (pv 1) pa_nil))) pa_nil)) (pg_tup rfl (pgs_cons (pg_name (i := 3) sc.nd rfl (Or.inl rfl)) (pgs_cons (pg_name (i := 4) sc.nd rfl (Or.inl rfl)) pgs_nil)))
        (pss_one (ps_for (passes_of rfl) rfl (pi_enumT (by rfl) T.enumerate (pa_cons (pv 4) pa_nil)) (pg_tup rfl (pgs_cons (pg_name (i := 5) sc.nd rfl (Or.inl rfl)) (pgs_cons (pg_name (i := 6) sc.nd rfl (Or.inl rfl)) pgs_nil)))
          (pss_one (ps_asg (pe_tup (StX.pa_star (pe_ix ix_list (pv 2) (pv 3) (fun _ _ => rfl)) (pa_cons (pv 5) pa_nil))) (pg_sub (pv 2) (pv 6) set_list))))))
      (pss_one (ps_ret (pe_callTy call_tuple_of (by rfl) T.tuple (by decide +kernel) (pa_cons (pv 2) pa_nil)))))), ?_⟩
  refine ⟨_, rfl, r, rfl, ⟨_, hR⟩, fun D hD => lc_map (si := 7) (Hs.start H) hD hR (by rw [List.length_map]; omega) (fun i B acc => ImA K B acc (List.replicate i (DN []))) .nil ?_ ?_⟩
  · intro i x B' acc H' hx s im hh R hR
    refine ⟨by decide, fun p hp => ?_⟩
    refine hR _ _ (upd B' p (.tup [])) (up_same (hh.sub.free hp)) (hh.tup hp) ?_
    rw [List.replicate_succ']
    exact (im.mono (Stay.of (up_same (hh.sub.free hp)))).snoc (Im.nats (l := []) (SqT.of upd_same))
  intro B0 acc H0 s0 im0 h0
  rw [List.length_map] at im0
  refine ⟨_, rfl, _, rfl, a, r, rows, l, rfl, hb.mono (Stay.of (s0.trans h0.sub)), Same.sqt (s0.trans h0.sub) hR, hF, hsz, fun H1 v s1 hv => ?_⟩
  obtain ⟨h1, k1⟩ : Same B0 (cut [(D, .lst acc)] H1) ∧ Hs (cut [(D, .lst acc)] H1) [(D, .lst acc)] H1 := h0.after s1
  obtain ⟨ka, ks, rfl, kt, ki⟩ := hv.tupI
  have kin := stay_cut h0 (AllL.cons AllL.nil) s1
  have kt := kin.sqt kt
  have ki := ki.mono kin
  have kl : ks.length = l.length := by rw [ki.len, List.length_map, List.length_range, hwl]
  generalize hB1 : cut [(D, .lst acc)] H1 = B1 at *
  have im1 := im0.mono (Stay.of h1)
  refine ⟨ka, ks, rfl, Same.sqt k1.sub kt, for_enumT (K := K)
    (fun i σ H' => ∃ t3 t4 t5 t6 t7 B vs, σ = [some (.ref a), some (.ref r), some (.ref D), t3, t4, t5, t6, t7] ∧ Same B1 B ∧ Hs B [(D, .lst vs)] H' ∧ ImA K B vs ((pth (wt rows l) i).map DN))
    ⟨none, none, none, none, none, B1, acc, rfl, Same.refl _, k1, by
      show ImA K B1 acc ((List.replicate (wt rows l).length []).map DN)
      rw [List.map_replicate, hwl]
      exact im1⟩ (fun i σ H' _ ⟨_, _, _, _, _, B, _, _, s, h, _⟩ => Same.sqt (s.trans h.sub) kt) ?_ ?_⟩
  · rintro i x σ H' Tt hx ⟨t3, t4, t5, t6, t7, B, vs, rfl, sB, hh, im⟩ hT
    have hi : i < l.length := by rw [← kl]; exact (List.getElem?_eq_some_iff.mp hx).1
    have hiw : i < (wt rows l).length := by omega
    obtain ⟨z, e1, iz⟩ := ki.get (i := i) (d := DN (kidsN (wt rows l) i)) (by rw [List.getElem?_map, List.getElem?_range hiw]; rfl)
    rw [hx] at e1
    cases e1
    obtain ⟨sa, rfl, st⟩ := iz.natsI
    have hh := hh.lay (o := .tup [.int (i : Nat), .ref sa]) hT
    refine ⟨_, rfl, sa, _, rfl, Same.sqt (sB.trans hh.sub) st, for_enumT (K := K)
      (fun t σ H' => ∃ t5 t6 t7 B vs, σ = [some (.ref a), some (.ref r), some (.ref D), some (.int (i : Nat)), some (.ref sa), t5, t6, t7] ∧ Same B1 B ∧ Hs B [(D, .lst vs)] H' ∧ ImA K B vs ((stp (wt rows l) i (pth (wt rows l) i) t).map DN))
      ⟨_, _, _, B, vs, rfl, sB, hh, im⟩ (fun i σ H' _ ⟨_, _, _, B, _, _, s, h, _⟩ => Same.sqt (s.trans h.sub) st) ?_ ?_⟩
    · rintro t y σ H2 T2 hy ⟨u5, u6, u7, B2, ws, rfl, sB2, h2, i2⟩ hT2
      obtain ⟨n, hn, rfl⟩ := map_at hy
      obtain ⟨t', ht', rfl⟩ := map_at hn
      have ht : t < aw (wt rows l) i := by
        have := (List.getElem?_eq_some_iff.mp ht').1
        rwa [List.length_range] at this
      rw [List.getElem?_range ht] at ht'
      obtain rfl := Option.some.inj ht'
      have hk := hF.kd_lt hiw ht
      have h2 := h2.lay (o := .tup [.int (t : Nat), .int (kd (wt rows l) i t : Nat)]) hT2
      have wl : ws.length = l.length := by rw [i2.len, List.length_map, stp_len, pth_len, hwl]
      have fd : (stp (wt rows l) i (pth (wt rows l) i) t)[i]? = some ((stp (wt rows l) i (pth (wt rows l) i) t).getD i []) := by
        have : i < (stp (wt rows l) i (pth (wt rows l) i) t).length := by rw [stp_len, pth_len]; exact hiw
        rw [List.getD_eq_getElem?_getD, List.getElem?_eq_getElem this]
        rfl
      obtain ⟨v, ev, iv⟩ := i2.get (i := i) (d := DN ((stp (wt rows l) i (pth (wt rows l) i) t).getD i [])) (by rw [List.getElem?_map, fd]; rfl)
      obtain ⟨pa, rfl, pt⟩ := iv.natsI
      refine ⟨_, rfl, _, rfl, D, _, _, _, rfl, rfl, SqL.of h2.r0, atI_nat ev, pa, _, rfl, .inl (Same.sqt h2.sub pt), _, rfl, ?_, fun p hp => ?_⟩
      · have := stp_le (w := wt rows l) (i := i) (pth_le (wt rows l) i) t i
        rw [List.length_append, vN, List.length_map, sizeLine_eq]
        show _ + 1 ≤ _
        omega
      · have h3 := h2.tup (o := .tup (vN ((stp (wt rows l) i (pth (wt rows l) i) t).getD i []) ++ [.int (t : Nat)])) hp
        have s3 : Same B2 (upd B2 p (.tup (vN ((stp (wt rows l) i (pth (wt rows l) i) t).getD i []) ++ [.int (t : Nat)]))) := up_same (h2.sub.free hp)
        refine ⟨_, rfl, _, rfl, D, _, _, kd (wt rows l) i t, rfl, rfl, h3.r0, ixN_nat (by omega), _, _, _, _, _, rfl, sB2.trans s3, h3.w0, ?_⟩
        rw [stp_succ, List.map_set]
        refine (i2.mono (Stay.of s3)).set (Im.nats (SqT.of ?_))
        rw [upd_same, vN, vN, List.map_append]
        rfl
    · rintro σ H2 ⟨u5, u6, u7, B2, ws, rfl, sB2, h2, i2⟩
      rw [vN, List.length_map, kidsN, List.length_map, List.length_range, ← pth_succ] at i2
      exact ⟨_, _, _, _, _, B2, ws, rfl, sB2, h2, i2⟩
  · rintro σ H' ⟨t3, t4, t5, t6, t7, B, vs, rfl, sB, hh, im⟩
    refine ⟨_, rfl, D, _, rfl, .inl ⟨SqL.of hh.r0, fun q hn => ?_⟩⟩
    rw [kl, ← hwl] at im
    have sq := hh.sub.trans (up_same (o := .tup vs) hn)
    exact hq _ _ (((s0.trans h1).trans sB).trans sq) (.tup (SqT.of upd_same) (im.mono (Stay.of sq)))
/-! swapped -/
def spSwap (K : PySem.W.Frag) : Sp := fun vs H Q _ => ∃ (a r : Addr) (i : Nat) (o : Addr) (rows : List Sy.Row) (l m : List Str), vs = [.ref a, .ref r, .int (i : Nat), .ref o] ∧ BedAt K H a rows ∧ SqT K H r (l.map V.str) ∧ SqT K H o (m.map V.str) ∧ Fo 1 (wt rows l) ∧ i < l.length ∧ l.length ≤ 2000 ∧ m.length ≤ 2000 ∧
  ∀ H' p, Same H H' → SqT K H' p ((l.take i ++ m ++ l.drop (en (wt rows l) i)).map V.str) → Q (.ref p) H'
abbrev N_swap : List Str := ["bed", "row", "place", "other"]
theorem sc_swap : FnScope N_swap N_swap (defScope (top 23)) := ⟨rfl, rfl, rfl, by decide +kernel, rfl, by decide +kernel, by decide +kernel⟩
theorem k_swap (T : Txt K mg) (F : DF K mg "swapped" 23) (c_stop : Cal P w K mg base 2 "span_stop" ["bed", "row", "place"] (spStop K)) : Cal P w K mg base 3 "swapped" N_swap (spSwap K) := by
  refine cal_of F.1 F.2 sc_swap (fun _ _ _ _ _ _ us e => match us, e with | [_, _, _, _], _ => rfl) (fun vs H Q E s => by obtain ⟨_, _, _, _, _, _, _, rfl, _⟩ := s; rfl) ?_
  intro cdv A outer s H vs Q E hr h
  obtain ⟨a, r, i, o, rows, l, m, rfl, hb, hR, hO, hF, hi, hl, hm, hq⟩ := h
  have hu := hu_of hr
  have sc := sc_swap
  have hwl := wt_len rows l
  have he := hF.en_le (i := i) (by omega)
  refine ⟨_, (pss_one (ps_ret (pe_op op_catA (pe_op op_catA (pe_slice sl_tupA (pv 1) po_none (po_some (pv 2))) (pv 3)) (pe_slice sl_tupA (pv 1) (po_some (pe_cal c_stop hr (pa_cons (pv 0) (pa_cons (pv 1) (pa_cons (pv 2) pa_nil))))) po_none)))), ?_⟩
  refine ⟨_, rfl, _, rfl, _, rfl, sl_any (cut_take (by rw [List.length_map]; omega)) hR fun p1 H1 s1 t1 => ?_⟩
  refine ⟨_, rfl, cat_any t1 (Same.sqt s1 hO) (by rw [List.length_take, List.length_map, List.length_map]; omega) fun p2 H2 s2 t2 => ?_⟩
  have s12 := s1.trans s2
  refine ⟨_, rfl, _, rfl, _, rfl, _, rfl, a, r, i, rows, l, rfl, hb.mono (Stay.of s12), Same.sqt s12 hR, hF, hi, _, rfl, ?_⟩
  dsimp only [tNoPart]
  refine sl_any (cut_drop (by rw [List.length_map]; omega)) (Same.sqt s12 hR) fun p3 H3 s3 t3 => ?_
  refine cat_any (Same.sqt s3 t2) t3 (by rw [List.length_append, List.length_take, List.length_map, List.length_map, List.length_drop, List.length_map]; omega) fun p4 H4 s4 t4 => hq _ _ ((s12.trans s3).trans s4) ?_
  rw [List.map_append, List.map_append, List.map_take, List.map_drop]
  exact t4
/-! entry_rank, row_key -/
def spRank (K : PySem.W.Frag) : Sp := fun vs H Q _ => ∃ a x rows, vs = [.ref a, .str x] ∧ BedAt K H a rows ∧ Q (.int (rkD rows x : Nat)) H
theorem sc_rank : FnScope ["bed", "entry"] ["bed", "entry"] (defScope (top 26)) := ⟨rfl, rfl, rfl, by decide +kernel, rfl, by decide +kernel, by decide +kernel⟩
theorem k_rank (T : Txt K mg) (F : DF K mg "entry_rank" 26) : Cal P w K mg base 1 "entry_rank" ["bed", "entry"] (spRank K) := by
  refine cal_of F.1 F.2 sc_rank (fun _ _ _ _ _ _ us e => match us, e with | [_, _], _ => rfl) (fun vs H Q E s => by obtain ⟨_, _, _, rfl, _⟩ := s; rfl) ?_
  intro cdv A outer s H vs Q E hr h
  obtain ⟨a, x, rows, rfl, hb, hq⟩ := h
  have hu := hu_of hr
  obtain ⟨dx, dA, tR, tK, dR, ps, h1, hd, h3, h4, h5, h6⟩ := hb.ex
  refine ⟨_, (pss_cons (ps_if (pt_cmp (pc_din hu (pv 1) (pe_fld (pv 0) rfl)))
        (pss_one (ps_ret (pe_dget hu (pe_fld (pv 0) rfl) (pv 1) (fun _ _ => rfl))))
        pss_nil)
      (pss_cons (ps_if (pt_val (pe_callB call_isi (by rfl) T.isinstance (by decide +kernel) (pa_cons (pv 1) (pa_cons (pe_bltn (v := .ty "int") (by rfl) T.int (by decide +kernel) rfl) pa_nil))))
        (pss_one ps_never)
        pss_nil)
      (pss_one (ps_ret (pe_callB call_len_seq (by rfl) T.len (by decide +kernel) (pa_cons (pe_fld (pv 0) rfl) pa_nil)))))), ?_⟩
  refine ⟨_, rfl, _, rfl, a, _, dx, _, _, rfl, h1, T.bed.cl, T.bed.nRk, rfl, dR, _, rfl, DGet.k (k := Sum.inr x) h3, _, rfl, ?_⟩
  cases hn : rk 0 rows x with
  | some n =>
    have hv : valV (rkKV 0 rows) (Sum.inr x : Key) = some (.int (n : Nat)) := by rw [valV_rk, hn]; rfl
    rw [hv]
    refine iteT ⟨_, rfl, a, _, dx, _, _, rfl, h1, T.bed.cl, T.bed.nRk, rfl, _, rfl, dR, .int (n : Nat), rfl, ?_, ?_⟩
    · rw [← hv]
      exact DGet.k (k := Sum.inr x) h3
    · rw [rkD, hn] at hq
      exact hq
  | none =>
    have hv : valV (rkKV 0 rows) (Sum.inr x : Key) = none := by rw [valV_rk, hn]; rfl
    rw [hv]
    refine iteF ⟨_, rfl, _, _, _, _, false, rfl, .ty _, .base (.str x), kit_ty (by decide +kernel), _, rfl, iteF ?_⟩
    refine ⟨_, rfl, a, _, dx, _, _, rfl, h1, T.bed.cl, T.bed.nK, rfl, tK, _, rfl, .inr h5, ?_⟩
    rw [rkD, hn] at hq
    rw [List.length_map]
    exact hq
def spKey (K : PySem.W.Frag) : Sp := fun vs H Q _ => ∃ (a r : Addr) (rows : List Sy.Row) (l : List Str), vs = [.ref a, .ref r] ∧ BedAt K H a rows ∧ SqT K H r (l.map V.str) ∧ l.length ≤ 2000 ∧ ∀ H' v, Same H H' → Im K H' v (.tuple [.int (l.length : Nat), DN (l.map (rkD rows))]) → Q v H'
abbrev N_key : List Str := ["bed", "row", "entry"]
theorem sc_key : FnScope N_key ["bed", "row"] (defScope (top 27)) := ⟨rfl, rfl, rfl, by decide +kernel, rfl, by decide +kernel, by decide +kernel⟩
theorem k_key (T : Txt K mg) (F : DF K mg "row_key" 27) (c_entry_rank : Cal P w K mg base 1 "entry_rank" ["bed", "entry"] (spRank K)) : Cal P w K mg base 2 "row_key" ["bed", "row"] (spKey K) := by
  refine cal_of F.1 F.2 sc_key (fun _ _ _ _ _ _ us e => match us, e with | [_, _], _ => rfl) (fun vs H Q E s => by obtain ⟨_, _, _, _, rfl, _⟩ := s; rfl) ?_
  intro cdv A outer s H vs Q E hr h
  obtain ⟨a, r, rows, l, rfl, hb, hR, hl, hq⟩ := h
  have hu := hu_of hr
  have sc := sc_key
  refine ⟨_, (pss_one (ps_ret (pe_tup (pa_cons (pe_callB call_len_seq (by rfl) T.len (by decide +kernel) (pa_cons (pv 1) pa_nil)) (pa_cons (pe_callTy call_tuple_of (by rfl) T.tuple (by decide +kernel) (pa_cons (pe_lc (own := [("entry", 2)]) (g := gName 2) rfl sc.nd (pi_tup (pv 1)) (blkOk_by (N := N_key) (sc := defScope (top 27)) (by decide +kernel)) (fun _ _ _ _ _ => (pg_name (i := 2) sc.nd rfl (Or.inl rfl))) (fun _ _ _ _ _ => pts_nil) (fun _ _ _ _ _ => (pe_cal c_entry_rank hr (pa_cons (pv 0) (pa_cons (pv 2) pa_nil))))) pa_nil)) pa_nil))))), ?_⟩
  refine ⟨_, rfl, r, _, rfl, .inr hR, _, rfl, r, rfl, ⟨_, hR⟩, fun D hD => lc_map (si := 2) (Hs.start H) hD hR (by rw [List.length_map]; omega) (fun i B acc => acc = vN ((l.take i).map (rkD rows))) rfl ?_ ?_⟩
  · rintro i x B' acc H' hx s rfl hh R hR
    obtain ⟨y, hy, rfl⟩ := map_at hx
    have hi : i < l.length := (List.getElem?_eq_some_iff.mp hy).1
    refine ⟨_, rfl, _, rfl, a, y, rows, rfl, hb.mono (Stay.of (s.trans hh.sub)), ?_⟩
    refine hR _ _ B' (Same.refl _) hh ?_
    rw [List.take_succ, hy, List.map_append, vN, vN, List.map_append]
    rfl
  · rintro B' acc H1 s1 rfl hh
    rw [List.length_map, List.take_length] at hh
    refine ⟨D, _, rfl, .inl ⟨SqL.of hh.r0, fun p hp => ⟨(by show 2 ≤ sizeLine; decide), fun q hn => ?_⟩⟩⟩
    have sA := (s1.trans hh.sub).trans (up_same (o := .tup (vN (l.map (rkD rows)))) hp)
    refine hq _ _ (sA.trans (up_same hn)) (.tup (SqT.of upd_same) (.cons ?_ (.cons (Im.nats (Same.sqt (up_same hn) (SqT.of upd_same))) .nil)))
    rw [List.length_map]
    exact .int _
end
end Sy
/-! try: .. except X as e: suite, further clauses behind it that are not reached -/
namespace Sy
open PySem PySem.Spec PyProof.Rows L2
/-- what the body may raise: what the first clause catches -/
def wFst (K : PySem.W.Frag) (c : Value) (i : Nat) (ts : Addr → Value → Option Addr → TS) (D : Ends) : WX := fun cls d σ H => PySem.W.exmOne K cls c = some true ∧ ∀ a, H a = none →
  ts a cls d { nx := fun σ' H' => D.nx (σ'.set i none) H', rt := D.rt, bk := fun σ' H' => D.bk (σ'.set i none) H', ct := fun σ' H' => D.ct (σ'.set i none) H' } (σ.set i (some (.ref a))) H
theorem ps_try_fst {X : Cx} {x n : Str} {c : Value} {i : Nat} {body suite : List Stmt} {b₀ : Stmt} {np pos pos' : Pos} {hds : List ExceptHandler} {tb : WX → TS} {ts : Addr → Value → Option Addr → TS}
    (hs : X.stack = X.env :: X.outer) (hf : X.env.frame = some X.env.locals) (hN : X.N.Nodup) (hi : X.N[i]? = some n) (hln : X.env.kindOf n = some .local) (hc : Names X x c)
    (hb : ∀ (W : WX) (pn : List (Addr × Obj)) (xe : Value → Shared → Prop), Takes (X.tr pn xe) W → PassesOwn (model X.prog X.w) X.A X.env xe → PSs (X.tr pn xe) body (tb W))
    (hsu : ∀ (a : Addr) (oe : Obj) (cls : Value) (d : Option Addr) (pn : List (Addr × Obj)), Zc cls d oe → (∃ vs, oe.data = .fields vs) → PSs (X.suite a ((a, oe) :: pn)) (b₀ :: suite) (ts a cls d)) :
    PS X (.Try body (.ExceptHandler (some (.Name x np)) (some n) (b₀ :: suite) pos' :: hds) [] [] pos) (fun D σ H => tb (wFst X.K c i ts D) D σ H) := by
  constructor
  intro pins s σ H D I h
  have ok := I.ok
  have fr0 : X.A.frames = some (X.env :: X.outer) := by rw [ok.frames, hs]
  apply wpAny_Try_except
  refine wpAny_mono ((hb (wFst X.K c i ts D) (X.pn ++ pins) (fun e s₁ => wpAny (model X.prog X.w) X.A (noteFrame e X.env) (fun _ s₂ => wpAny (model X.prog X.w) X.A (setFlight e none) (fun _ s₃ =>
    wpAny (model X.prog X.w) X.A (handleBy e X.env (.ExceptHandler (some (.Name x np)) (some n) (b₀ :: suite) pos' :: hds)) (SP X pins D) X.xe s₃) X.xe s₂) X.xe s₁) (fun u s' q => ?cat) PassesOwn.looking).run [] s σ H D (I.toTry _) h) (fun f s1 q => ?fin) (fun _ _ q => q)
  case fin =>
    cases f
    case next =>
      obtain ⟨_, _, J, z⟩ := q
      exact wpAny_execs_nil ⟨_, _, J.ofTry ok, z⟩
    case brk =>
      obtain ⟨_, _, J, z⟩ := q
      exact ⟨_, _, J.ofTry ok, z⟩
    case cont =>
      obtain ⟨_, _, J, z⟩ := q
      exact ⟨_, _, J.ofTry ok, z⟩
    case ret =>
      obtain ⟨_, _, _, J, rv, z⟩ := q
      exact ⟨_, _, _, J.ofTry ok, rv, z⟩
  case cat =>
    obtain ⟨a, B, sI, pins', σ1, H1, cls, d, rfl, J', nb, up, sky, na, os, ag, hcat, hgo⟩ := q
    have J : Inv X pins σ1 H1 sI := J'.ofTry ok
    rw [hs] at sky
    show wpAny (model X.prog X.w) X.A (noteFrame (.ref a) X.env) _ _ _
    refine Sky.land Zc.steady fr0 hf sky fun h3 fl up3 => ?_
    have J3 : Inv X pins σ1 H1 { s' with heap := h3 } := J.landed nb fl.1 (up.trans up3) os ag
    obtain ⟨o3, v3, g3, z3, d3⟩ := fl.there
    have off : a ∉ frs (X.env :: X.outer) := fun hm => by
      obtain ⟨_, _, e', no⟩ := fl.2.2.1.mem hm
      rw [g3] at e'
      cases e'
      exact no _ d3
    have nL : a ≠ X.env.locals := fun z => off (List.mem_filterMap.mpr ⟨X.env, List.mem_cons_self, by rw [hf, z]⟩)
    have nF : a ∉ X.fs := fun hm => by
      obtain ⟨e, he, z⟩ := List.mem_filterMap.mp hm
      exact off (List.mem_filterMap.mpr ⟨e, List.mem_cons_of_mem _ he, z⟩)
    have S3 := J3.suite g3 d3 na nL nF
    refine wpAny_handleBy_cons (codeAny_handlers_test ?_) (by intro z; cases z)
    have LT : PySem.W.Looks (model X.prog X.w) h3 (typeOf (.ref a)) cls := fun _ _ _ _ k z => wpAny_typeOf_ref (k _ _ g3) (by rw [z3.1]; exact z)
    have LM := PySem.W.exm_one (M := model X.prog X.w) J3.kIn LT hcat
    have go2 : ∀ {Q E : Value → Shared → Prop}, Q c { s' with heap := h3 } → wpAny (model X.prog X.w) (X.A.mark (some (.ref a))) (eval (.Name x np) X.env) Q E { s' with heap := h3 } := fun {Q E} z => by
      rcases hc with ⟨g, dbg, m | ⟨m, v, nn⟩⟩
      · exact ld_glob (X := X.suite a ((a, o3) :: (X.pn ++ pins))) S3 g m z dbg
      · exact ld_blt (X := X.suite a ((a, o3) :: (X.pn ++ pins))) S3 g m v z nn dbg
    refine go2 (LM.here ?_)
    refine codeAny_handlers_suite_as ?_
    refine HandSPX.lands_againZ fl fun h4 fl4 up4 => ?_
    have J4 : Inv X pins σ1 H1 { s' with heap := h4 } := J.landed nb fl4.1 ((up.trans up3).trans up4) os ag
    obtain ⟨o4, v4, g4, z4, d4⟩ := fl4.there
    refine store_ok (X := X.suite a ((a, o4) :: (X.pn ++ pins))) (v := .ref a) (J4.suite g4 d4 na nL nF) hN hi (.inl hln) rfl (fun s5 S5 => ?_) (.inr hln)
    refine wpAny_mono ((hsu a o4 cls d (X.pn ++ pins) z4 ⟨_, d4⟩).run [] s5 _ H1 _ S5 (hgo a na)) (fun f s6 q => ?_) (fun _ _ z => z.elim)
    have shut : ∀ {σ6 : L2.St} {H6 : Hp} {R : Shared → Prop}, Inv (X.suite a ((a, o4) :: (X.pn ++ pins))) [] σ6 H6 s6 → (∀ s7, Inv X pins (σ6.set i none) H6 s7 → R s7) →
        wpAny (model X.prog X.w) X.A (do bindName X.env n .none; unbindBehindTheSuite X.env n pos') (fun _ s7 => R s7) X.xe s6 := fun S6 k => gone_ok (S6.unsuite ok) hN hi hln k
    cases f
    case next =>
      obtain ⟨_, _, S6, z⟩ := q
      exact shut S6 fun _ J7 => ⟨_, _, J7, z⟩
    case brk =>
      obtain ⟨_, _, S6, z⟩ := q
      exact shut S6 fun _ J7 => ⟨_, _, J7, z⟩
    case cont =>
      obtain ⟨_, _, S6, z⟩ := q
      exact shut S6 fun _ J7 => ⟨_, _, J7, z⟩
    case ret =>
      obtain ⟨_, _, _, S6, rv, z⟩ := q
      exact shut S6 fun _ J7 => ⟨_, _, _, J7, rv, z⟩
end Sy
/-! own errors: their __init__, raising them -/
namespace Sy
open PySem PySem.Spec PyProof.Rows L2
/-- the class x, its __init__ by its row, its fields -/
structure ErrB (P : Program) (K : PySem.W.Frag) (mg : Str → Option Value) (x q : Str) (st : Stmt) (fs : List Str) : Prop where
  sup : ∃ (cc cd : Addr) (kV doc pm : Value) (an : Option Addr) (ct : Value), SupF P K (He.ga K x) (iniA K x) cc cd q (defArgs st) (defBody st) (defScope st) (PySem.W.fnX "__init__" q (defArgs st) (defBody st) (defScope st) [("__class__", cc)] .none kV doc pm an (.ref cd) ct)
  iC : PySem.W.findIn K (.ref (He.ga K x)) "__init__" = some (some (.ref (iniA K x)))
  tI : PySem.W.typeIn K (.ref (iniA K x)) = some (.type "function")
  at_ : mg x = some (.ref (He.ga K x))
  ex : PySem.W.exmOne K (.ref (He.ga K x)) (.ref (He.ga K x)) = some true
  xf : XfC K (He.ga K x)
  no : ∀ f ∈ fs, PySem.W.findIn K (.ref (He.ga K x)) f = some none
  mS : mg "super" = none
  top : (P.main.scope.names.lookup ("super" : Str)).isSome = false
/-- raised: a new dict with these fields, beside what stood -/
def Ra (K : PySem.W.Frag) (x : Str) (fs : List (Str × V)) (H : Hp) (E : XK) : Prop := ∀ d H', Same H H' → H' d = some (.xd fs) → E (.ref (He.ga K x)) (some d) H'
def spInit (C : Addr) (ok : List V → Hp → List (Str × V) → Prop) : Sp := fun vs H Q _ => ∃ a us fs, vs = .ref a :: us ∧ ok us H fs ∧ H a = some (exo a C none) ∧
  ∀ dx H', H dx = none → dx ≠ a → H' a = some (exo a C (some dx)) → H' dx = some (exd dx fs) → (∀ b, b ≠ a → b ≠ dx → H' b = H b) → Q .non H'
theorem mk_ra {K : PySem.W.Frag} {x : Str} {ok : List V → Hp → List (Str × V) → Prop} {us : List V} {H : Hp} {fs : List (Str × V)} {E : XK} (hok : ∀ H', Same H H' → ok us H' fs) (hl : us.length ≤ 1000) (h : Ra K x fs H E) :
    us.length ≤ 1000 ∧ ∀ a, H a = none → spInit (He.ga K x) ok (.ref a :: (us ++ [])) (upd H a (exo a (He.ga K x) none)) (fun v H2 => v = .non ∧ ∃ (d : Addr) (fs : List (Str × V)), H2 a = some (exo a (He.ga K x) (some d)) ∧ H2 d = some (exd d fs) ∧ H d = none ∧ E (.ref (He.ga K x)) (some d) (upd (L2.del H2 a) d (.xd fs))) (fun _ _ _ => False) := by
  refine ⟨hl, fun a ha => ⟨a, us, fs, by rw [List.append_nil], hok _ (up_same ha), upd_same, fun dx H' h1 h2 h3 h4 h5 => ⟨rfl, dx, fs, h3, h4, by rw [upd_ne h2] at h1; exact h1, h dx _ (fun b o e => ?_) upd_same⟩⟩⟩
  have hb : b ≠ a := fun z => by rw [z, ha] at e; cases e
  have hd : H dx = none := by rw [upd_ne h2] at h1; exact h1
  have hb2 : b ≠ dx := fun z => by rw [z, hd] at e; cases e
  rw [upd_ne hb2, del_ne hb, h5 b hb hb2, upd_ne hb]
  exact e
section
variable {P : Program} {w : World} {K : PySem.W.Frag} {mg : Str → Option Value} {base : Heap}
/-! TooMany(what, limit) -/
def okTM : List V → Hp → List (Str × V) → Prop := fun us _ fs => ∃ (x : Str) (n : Int), us = [.str x, .int n] ∧ x.length ≤ 100 ∧ n.natAbs.log2 < 1920 ∧ (toString n : Str).length ≤ 1000 ∧ fs = ([("limit", V.int n), ("what", V.str x)] : List (Str × V))
abbrev N_tm : List Str := ["self", "what", "limit", "__class__"]
theorem sc_tm : NdefX.NScope N_tm ["self", "what", "limit"] ["__class__"] (defScope (clb 7 0)) := ⟨rfl, rfl, rfl, by decide +kernel, rfl, by decide +kernel, by decide +kernel, by decide +kernel, by decide +kernel⟩
theorem i_tm (T : ErrB P K mg "TooMany" "TooMany.__init__" (clb 7 0) ["what", "limit"]) : ∃ fd, FnOk P w K mg base CX0 1 (iniA K "TooMany") fd ["self", "what", "limit"] (spInit (He.ga K "TooMany") okTM) ∧ L2.Binds K fd ["self", "what", "limit"] [] := by
  obtain ⟨cc, cd, kV, doc, pm, an, ct, S⟩ := T.sup
  refine ⟨_, fn_sup (k := 0) S sc_tm rfl rfl rfl rfl rfl T.mS T.top (fun vs H Q E s => by obtain ⟨_, _, _, rfl, ⟨_, _, rfl, _⟩, _⟩ := s; rfl) (fun _ => rfl) (fun _ => rfl) (fun _ _ => rfl) ?_, .all fun us e => match us, e with | [_, _, _], _ => rfl⟩
  intro A outer s H vs Q E hr h
  obtain ⟨a, us, fs, rfl, ⟨x, n, rfl, hx, hn, hn2, rfl⟩, ha, hq⟩ := h
  refine ⟨_, _, pa_cons (pe_joined (.cons pe_str (.cons (pe_fmt (pv 1)) (.cons pe_str (.cons (pe_fmt (pv 2)) .nil))))) pa_nil, pss_cons (ps_ost (pv 0) (pv 1)) (pss_one (ps_ost (pv 0) (pv 2))), a, _, rfl, ha, ?_⟩
  have L1 : ((Str.empty : Str) ++ ("too many " : Str)).length = 9 := by decide +kernel
  have L2' : (": the limit is " : Str).length = 15 := by decide +kernel
  refine ⟨_, rfl, by rw [L1]; decide, _, rfl, .inl ⟨x, rfl, by rw [sizeLine_eq]; omega, _, rfl, ?_, _, rfl, ?_, _, rfl, .inr ⟨n, rfl, hn, _, rfl, ?_, (by show 1 ≤ 1000; decide), ha, _, rfl, _, rfl, a, _, rfl, S.oex, T.no _ (by decide), .inl ⟨ha, fun dx h1 h2 => ⟨_, rfl, _, rfl, a, _, rfl, S.oex, T.no _ (by decide), .inr ⟨dx, _, upd_same, by rw [upd_ne h2]; exact upd_same, (by show 1 ≤ 900; decide), hq dx _ h1 h2 ?_ upd_same ?_⟩⟩⟩⟩⟩⟩
  · rw [PySem.Str.length_append, L1, sizeLine_eq]
    omega
  · rw [PySem.Str.length_append, PySem.Str.length_append, L1, L2', sizeLine_eq]
    omega
  · rw [PySem.Str.length_append, PySem.Str.length_append, PySem.Str.length_append, L1, L2', sizeLine_eq]
    omega
  · rw [upd_ne h2.symm]
    exact upd_same
  · intro b hb hb2
    rw [upd_ne hb2, upd_ne hb, upd_ne hb2]
/-- raise TooMany(.., ..) -/
theorem mk_tm {X : Cx} {k : Nat} {p pos : Pos} {e1 e2 : Expr} {ta : TA} (T : ErrB X.prog X.K X.mg "TooMany" "TooMany.__init__" (clb 7 0) ["what", "limit"]) (hr : Room k X.A) (hg : Gl X "TooMany") (ha : PA X [e1, e2] ta)
    (hx : Passes CX0 X (fun _ _ _ => False)) (hk : 2 ≤ k := by decide) (he : starEach [e1, e2] X.env = (false, eval e1 X.env) :: starEach [e2] X.env := by rfl) (hpl : (backTo pos (starEach [e2] X.env)).any (·.1) = false := by rfl) :
    PMk X (.Call (.Name "TooMany" p) [e1, e2] [] pos) (tMkO (He.ga X.K "TooMany") (spInit (He.ga X.K "TooMany") okTM) [] ta) := by
  obtain ⟨fd, F, B⟩ := i_tm (w := X.w) (base := X.base) T
  obtain ⟨cc, cd, kV, doc, pm, an, ct, S⟩ := T.sup
  exact pmk_oex S.oex T.iC T.tI F (hr.mono hk) B .nil hx hg T.at_ ha rfl he hpl
/-! NoPath(path) -/
def okNP (K : PySem.W.Frag) : List V → Hp → List (Str × V) → Prop := fun us H fs => ∃ (p : Addr) (l : List Int), us = [.ref p] ∧ SqT K H p (l.map V.int) ∧ (∀ y ∈ l, y.natAbs.log2 < 1920) ∧ l.length ≤ 5000 ∧ fs = ([("path", V.ref p)] : List (Str × V))
abbrev N_np : List Str := ["self", "path", "__class__"]
theorem sc_np : NdefX.NScope N_np ["self", "path"] ["__class__"] (defScope (clb 9 0)) := ⟨rfl, rfl, rfl, by decide +kernel, rfl, by decide +kernel, by decide +kernel, by decide +kernel, by decide +kernel⟩
theorem i_np (T : ErrB P K mg "NoPath" "NoPath.__init__" (clb 9 0) ["path"]) : ∃ fd, FnOk P w K mg base CX0 1 (iniA K "NoPath") fd ["self", "path"] (spInit (He.ga K "NoPath") (okNP K)) ∧ L2.Binds K fd ["self", "path"] [] := by
  obtain ⟨cc, cd, kV, doc, pm, an, ct, S⟩ := T.sup
  refine ⟨_, fn_sup (k := 0) S sc_np rfl rfl rfl rfl rfl T.mS T.top (fun vs H Q E s => by obtain ⟨_, _, _, rfl, ⟨_, _, rfl, _⟩, _⟩ := s; rfl) (fun _ => rfl) (fun _ => rfl) (fun _ _ => rfl) ?_, .all fun us e => match us, e with | [_, _], _ => rfl⟩
  intro A outer s H vs Q E hr h
  obtain ⟨a, us, fs, rfl, ⟨p, l, rfl, hp, hl, hz, rfl⟩, ha, hq⟩ := h
  refine ⟨_, _, pa_cons (pe_joined (.cons pe_str (.cons (pe_fmtI hr (pv 1)) .nil))) pa_nil, pss_one (ps_ost (pv 0) (pv 1)), a, _, rfl, ha, ?_⟩
  have L1 : ((Str.empty : Str) ++ ("no knot at the path " : Str)).length = 20 := by decide +kernel
  refine ⟨_, rfl, by rw [L1]; decide, _, rfl, p, l, rfl, hp, hl, hz, fun m hm => ⟨_, rfl, ?_, (by show 1 ≤ 1000; decide), ha, _, rfl, _, rfl, a, _, rfl, S.oex, T.no _ (by decide), .inl ⟨ha, fun dx h1 h2 => hq dx _ h1 h2 upd_same ?_ ?_⟩⟩⟩
  · rw [PySem.Str.length_append, L1, sizeLine_eq]
    omega
  · rw [upd_ne h2]
    exact upd_same
  · intro b hb hb2
    rw [upd_ne hb, upd_ne hb2]
theorem mk_np {X : Cx} {k : Nat} {p pos : Pos} {e1 : Expr} {ta : TA} (T : ErrB X.prog X.K X.mg "NoPath" "NoPath.__init__" (clb 9 0) ["path"]) (hr : Room k X.A) (hg : Gl X "NoPath") (ha : PA X [e1] ta)
    (hx : Passes CX0 X (fun _ _ _ => False)) (hk : 2 ≤ k := by decide) (he : starEach [e1] X.env = (false, eval e1 X.env) :: starEach [] X.env := by rfl) (hpl : (backTo pos (starEach [] X.env)).any (·.1) = false := by rfl) :
    PMk X (.Call (.Name "NoPath" p) [e1] [] pos) (tMkO (He.ga X.K "NoPath") (spInit (He.ga X.K "NoPath") (okNP X.K)) [] ta) := by
  obtain ⟨fd, F, B⟩ := i_np (w := X.w) (base := X.base) T
  obtain ⟨cc, cd, kV, doc, pm, an, ct, S⟩ := T.sup
  exact pmk_oex S.oex T.iC T.tI F (hr.mono hk) B .nil hx hg T.at_ ha rfl he hpl
/-! check_count -/
def spCount (K : PySem.W.Frag) : Sp := fun vs H Q E => ∃ n : Int, vs = [.int n] ∧ (n ≤ 2000 → Q .non H) ∧ (2000 < n → Ra K "TooMany" [("limit", .int 2000), ("what", .str "knots")] H E)
theorem sc_count : FnScope ["number"] ["number"] (defScope (top 14)) := ⟨rfl, rfl, rfl, by decide +kernel, rfl, by decide +kernel, by decide +kernel⟩
theorem k_count (T : Txt K mg) (TM : ErrB P K mg "TooMany" "TooMany.__init__" (clb 7 0) ["what", "limit"]) (F : DF K mg "check_count" 14) : Cal P w K mg base 3 "check_count" ["number"] (spCount K) := by
  refine cal_of F.1 F.2 sc_count (fun _ _ _ _ _ _ us e => match us, e with | [_], _ => rfl) (fun vs H Q E s => by obtain ⟨_, rfl, _⟩ := s; rfl) ?_
  intro cdv A outer s H vs Q E hr h
  obtain ⟨n, rfl, h1, h2⟩ := h
  have sc := sc_count
  refine ⟨_, (pss_one (ps_if (pt_cmpR op_gt (pv 0) (pe_gint rfl T.MOST_KNOTS) (nomark _))
        (pss_one (ps_raise rfl (takes_of rfl rfl rfl rfl) (mk_tm TM hr rfl (pa_cons pe_str (pa_cons (pe_gint rfl T.MOST_KNOTS) pa_nil)) pass0)))
        pss_nil)), ?_⟩
  refine ⟨_, rfl, _, _, rfl, rfl, _, rfl, if_dec (fun c => ?_) (fun c => ?_)⟩
  · exact mk_ra (fun _ _ => ⟨_, _, rfl, by decide +kernel, by decide +kernel, by decide +kernel, rfl⟩) (by show 2 ≤ 1000; decide) (h2 c)
  · exact h1 (by omega)
end
end Sy
/-! outcomes that are errors -/
namespace Sy
open PySem PySem.Spec PyProof.Rows L2
/-- an error that is due -/
inductive Er
  | many
  | plant (i : Nat)
  | stump (i : Nat)
  | path (zs : List Int)
  | kind (x : Str)
  | wrong (a b : Nat)
def Er.cls : Er → Str
  | .many => "TooMany"
  | .plant _ => "InvalidPlant"
  | .stump _ => "InvalidStump"
  | .path _ => "NoPath"
  | .kind _ => "UnknownKind"
  | .wrong _ _ => "WrongBranches"
/-- its fields, the newest first -/
def Er.fds : Er → List (Str × PyData)
  | .many => [("limit", .int 2000), ("what", .str "knots")]
  | .plant i => [("place", .int (i : Nat))]
  | .stump i => [("place", .int (i : Nat))]
  | .path zs => [("path", .tuple (zs.map PyData.int))]
  | .kind x => [("kind", .str x)]
  | .wrong a b => [("given", .int (b : Nat)), ("wanted", .int (a : Nat))]
/-- what the law calls it -/
def Er.dat : Er → PyData
  | .many => .tuple [.str "many", .str "knots", .int 2000]
  | .plant i => .tuple [.str "plant", .int (i : Nat)]
  | .stump i => .tuple [.str "stump", .int (i : Nat)]
  | .path zs => .tuple [.str "path", .tuple (zs.map PyData.int)]
  | .kind x => .tuple [.str "kind", .str x]
  | .wrong a b => .tuple [.str "wrong", .int (a : Nat), .int (b : Nat)]
inductive ImF (K : PySem.W.Frag) (H : Hp) : List (Str × V) → List (Str × PyData) → Prop
  | nil : ImF K H [] []
  | cons {f : Str} {v : V} {d : PyData} {fs : List (Str × V)} {ds : List (Str × PyData)} : Im K H v d → ImF K H fs ds → ImF K H ((f, v) :: fs) ((f, d) :: ds)
def RaE (K : PySem.W.Frag) (e : Er) (H : Hp) (E : XK) : Prop := ∀ d H' fs, Same H H' → H' d = some (.xd fs) → ImF K H' fs e.fds → E (.ref (He.ga K e.cls)) (some d) H'
theorem RaE.mono {K : PySem.W.Frag} {e : Er} {H H1 : Hp} {E : XK} (h : RaE K e H E) (s : Same H H1) : RaE K e H1 E := fun d H' fs s' e1 i => h d H' fs (s.trans s') e1 i
theorem ImF.mono {K : PySem.W.Frag} {H H' : Hp} (s : Same H H') : ∀ {fs : List (Str × V)} {ds : List (Str × PyData)}, ImF K H fs ds → ImF K H' fs ds
  | _, _, .nil => .nil
  | _, _, .cons a b => .cons (a.mono (Stay.of s)) (ImF.mono s b)
theorem RaE.ra {K : PySem.W.Frag} {e : Er} {H : Hp} {E : XK} {fs : List (Str × V)} (h : RaE K e H E) (i : ImF K H fs e.fds) : Ra K e.cls fs H E := fun d H' s e1 => h d H' fs s e1 (i.mono s)
section
variable {P : Program} {w : World} {K : PySem.W.Frag} {mg : Str → Option Value} {base : Heap}
theorem L0 (x : Str) : ((Str.empty : Str) ++ x).length = x.length := by rw [PySem.Str.length_append]; exact Nat.zero_add _
/-! InvalidPlant(place) -/
def okIP : List V → Hp → List (Str × V) → Prop := fun us _ fs => ∃ i : Nat, us = [.int (i : Nat)] ∧ i ≤ 1000000 ∧ fs = ([("place", V.int (i : Nat))] : List (Str × V))
set_option exponentiation.threshold 3000 in
theorem nat_log {i : Nat} (h : i ≤ 1000000) : ((i : Int).natAbs).log2 < 1920 := by
  have e : (i : Int).natAbs = i := Int.natAbs_natCast i
  rw [e]
  by_cases c : i = 0
  · rw [c]; decide
  · exact (Nat.log2_lt c).mpr (Nat.lt_of_le_of_lt h (by decide))
theorem nat_txt {i : Nat} (h : i ≤ 1000000) : (toString (i : Int) : Str).length ≤ 1921 := int_text_len_1921 (nat_log h)

theorem sc_ip : NdefX.NScope ["self", "place", "__class__"] ["self", "place"] ["__class__"] (defScope (clb 3 0)) := ⟨rfl, rfl, rfl, by decide +kernel, rfl, by decide +kernel, by decide +kernel, by decide +kernel, by decide +kernel⟩
theorem i_ip (T : ErrB P K mg "InvalidPlant" "InvalidPlant.__init__" (clb 3 0) ["place"]) : ∃ fd, FnOk P w K mg base CX0 1 (iniA K "InvalidPlant") fd ["self", "place"] (spInit (He.ga K "InvalidPlant") okIP) ∧ L2.Binds K fd ["self", "place"] [] := by
  obtain ⟨cc, cd, kV, doc, pm, an, ct, S⟩ := T.sup
  refine ⟨_, fn_sup (k := 0) S sc_ip rfl rfl rfl rfl rfl T.mS T.top (fun vs H Q E s => by obtain ⟨_, _, _, rfl, ⟨_, rfl, _⟩, _⟩ := s; rfl) (fun _ => rfl) (fun _ => rfl) (fun _ _ => rfl) ?_, .all fun us e => match us, e with | [_, _], _ => rfl⟩
  intro A outer s H vs Q E hr h
  obtain ⟨a, us, fs, rfl, ⟨x, rfl, hx, rfl⟩, ha, hq⟩ := h
  refine ⟨_, _, pa_cons (pe_joined (.cons pe_str (.cons (pe_fmt (pv 1)) (.cons pe_str .nil)))) pa_nil, pss_one (ps_ost (pv 0) (pv 1)), a, _, rfl, ha, ?_⟩
  have L1 : ((Str.empty : Str) ++ ("not a plant from index " : Str)).length = 23 := by decide +kernel
  have L2' : (" on" : Str).length = 3 := by decide +kernel
  have htx := nat_txt hx
  refine ⟨_, rfl, by rw [L1]; decide, _, rfl, .inr ⟨(x : Int), rfl, nat_log hx, _, rfl, ?_, _, rfl, ?_, (by show 1 ≤ 1000; decide), ha, _, rfl, _, rfl, a, _, rfl, S.oex, T.no _ (by decide), .inl ⟨ha, fun dx h1 h2 => hq dx _ h1 h2 upd_same ?_ ?_⟩⟩⟩
  · rw [PySem.Str.length_append, L1, sizeLine_eq]
    omega
  · rw [PySem.Str.length_append, PySem.Str.length_append, L1, L2', sizeLine_eq]
    omega
  · rw [upd_ne h2]
    exact upd_same
  · intro b hb hb2
    rw [upd_ne hb, upd_ne hb2]
theorem mk_ip {X : Cx} {k : Nat} {p pos : Pos} {e1 : Expr} {ta : TA} (T : ErrB X.prog X.K X.mg "InvalidPlant" "InvalidPlant.__init__" (clb 3 0) ["place"]) (hr : Room k X.A) (hg : Gl X "InvalidPlant") (ha : PA X [e1] ta)
    (hx : Passes CX0 X (fun _ _ _ => False)) (hk : 2 ≤ k := by decide) (he : starEach [e1] X.env = (false, eval e1 X.env) :: starEach [] X.env := by rfl) (hpl : (backTo pos (starEach [] X.env)).any (·.1) = false := by rfl) :
    PMk X (.Call (.Name "InvalidPlant" p) [e1] [] pos) (tMkO (He.ga X.K "InvalidPlant") (spInit (He.ga X.K "InvalidPlant") okIP) [] ta) := by
  obtain ⟨fd, F, B⟩ := i_ip (w := X.w) (base := X.base) T
  obtain ⟨cc, cd, kV, doc, pm, an, ct, S⟩ := T.sup
  exact pmk_oex S.oex T.iC T.tI F (hr.mono hk) B .nil hx hg T.at_ ha rfl he hpl

theorem sc_is : NdefX.NScope ["self", "place", "__class__"] ["self", "place"] ["__class__"] (defScope (clb 4 0)) := ⟨rfl, rfl, rfl, by decide +kernel, rfl, by decide +kernel, by decide +kernel, by decide +kernel, by decide +kernel⟩
theorem i_is (T : ErrB P K mg "InvalidStump" "InvalidStump.__init__" (clb 4 0) ["place"]) : ∃ fd, FnOk P w K mg base CX0 1 (iniA K "InvalidStump") fd ["self", "place"] (spInit (He.ga K "InvalidStump") okIP) ∧ L2.Binds K fd ["self", "place"] [] := by
  obtain ⟨cc, cd, kV, doc, pm, an, ct, S⟩ := T.sup
  refine ⟨_, fn_sup (k := 0) S sc_is rfl rfl rfl rfl rfl T.mS T.top (fun vs H Q E s => by obtain ⟨_, _, _, rfl, ⟨_, rfl, _⟩, _⟩ := s; rfl) (fun _ => rfl) (fun _ => rfl) (fun _ _ => rfl) ?_, .all fun us e => match us, e with | [_, _], _ => rfl⟩
  intro A outer s H vs Q E hr h
  obtain ⟨a, us, fs, rfl, ⟨x, rfl, hx, rfl⟩, ha, hq⟩ := h
  refine ⟨_, _, pa_cons (pe_joined (.cons pe_str (.cons (pe_fmt (pv 1)) (.cons pe_str .nil)))) pa_nil, pss_one (ps_ost (pv 0) (pv 1)), a, _, rfl, ha, ?_⟩
  have L1 : ((Str.empty : Str) ++ ("not a stump from index " : Str)).length = 23 := by decide +kernel
  have L2' : (" on" : Str).length = 3 := by decide +kernel
  have htx := nat_txt hx
  refine ⟨_, rfl, by rw [L1]; decide, _, rfl, .inr ⟨(x : Int), rfl, nat_log hx, _, rfl, ?_, _, rfl, ?_, (by show 1 ≤ 1000; decide), ha, _, rfl, _, rfl, a, _, rfl, S.oex, T.no _ (by decide), .inl ⟨ha, fun dx h1 h2 => hq dx _ h1 h2 upd_same ?_ ?_⟩⟩⟩
  · rw [PySem.Str.length_append, L1, sizeLine_eq]
    omega
  · rw [PySem.Str.length_append, PySem.Str.length_append, L1, L2', sizeLine_eq]
    omega
  · rw [upd_ne h2]
    exact upd_same
  · intro b hb hb2
    rw [upd_ne hb, upd_ne hb2]
theorem mk_is {X : Cx} {k : Nat} {p pos : Pos} {e1 : Expr} {ta : TA} (T : ErrB X.prog X.K X.mg "InvalidStump" "InvalidStump.__init__" (clb 4 0) ["place"]) (hr : Room k X.A) (hg : Gl X "InvalidStump") (ha : PA X [e1] ta)
    (hx : Passes CX0 X (fun _ _ _ => False)) (hk : 2 ≤ k := by decide) (he : starEach [e1] X.env = (false, eval e1 X.env) :: starEach [] X.env := by rfl) (hpl : (backTo pos (starEach [] X.env)).any (·.1) = false := by rfl) :
    PMk X (.Call (.Name "InvalidStump" p) [e1] [] pos) (tMkO (He.ga X.K "InvalidStump") (spInit (He.ga X.K "InvalidStump") okIP) [] ta) := by
  obtain ⟨fd, F, B⟩ := i_is (w := X.w) (base := X.base) T
  obtain ⟨cc, cd, kV, doc, pm, an, ct, S⟩ := T.sup
  exact pmk_oex S.oex T.iC T.tI F (hr.mono hk) B .nil hx hg T.at_ ha rfl he hpl

/-! UnknownKind(kind) -/
def okUK : List V → Hp → List (Str × V) → Prop := fun us _ fs => ∃ x : Str, us = [.str x] ∧ (x.length ≤ 100 ∧ ∀ c ∈ x.cps.toList, c < 16 ^ 8) ∧ fs = ([("kind", V.str x)] : List (Str × V))

theorem sc_uk : NdefX.NScope ["self", "kind", "__class__"] ["self", "kind"] ["__class__"] (defScope (clb 6 0)) := ⟨rfl, rfl, rfl, by decide +kernel, rfl, by decide +kernel, by decide +kernel, by decide +kernel, by decide +kernel⟩
theorem i_uk (T : ErrB P K mg "UnknownKind" "UnknownKind.__init__" (clb 6 0) ["kind"]) : ∃ fd, FnOk P w K mg base CX0 1 (iniA K "UnknownKind") fd ["self", "kind"] (spInit (He.ga K "UnknownKind") okUK) ∧ L2.Binds K fd ["self", "kind"] [] := by
  obtain ⟨cc, cd, kV, doc, pm, an, ct, S⟩ := T.sup
  refine ⟨_, fn_sup (k := 0) S sc_uk rfl rfl rfl rfl rfl T.mS T.top (fun vs H Q E s => by obtain ⟨_, _, _, rfl, ⟨_, rfl, _⟩, _⟩ := s; rfl) (fun _ => rfl) (fun _ => rfl) (fun _ _ => rfl) ?_, .all fun us e => match us, e with | [_, _], _ => rfl⟩
  intro A outer s H vs Q E hr h
  obtain ⟨a, us, fs, rfl, ⟨x, rfl, hx, rfl⟩, ha, hq⟩ := h
  refine ⟨_, _, pa_cons (pe_joined (.cons pe_str (.cons (pe_fmtR (pv 1)) .nil))) pa_nil, pss_one (ps_ost (pv 0) (pv 1)), a, _, rfl, ha, ?_⟩
  have L1 : ((Str.empty : Str) ++ ("unknown kind: " : Str)).length = 14 := by decide +kernel
  have htx := StrLaws.reprText_len x hx.2
  have hxl := hx.1
  refine ⟨_, rfl, by rw [L1]; decide, _, rfl, .inl ⟨x, rfl, by rw [sizeLine_eq]; omega, _, rfl, ?_, (by show 1 ≤ 1000; decide), ha, _, rfl, _, rfl, a, _, rfl, S.oex, T.no _ (by decide), .inl ⟨ha, fun dx h1 h2 => hq dx _ h1 h2 upd_same ?_ ?_⟩⟩⟩
  · rw [PySem.Str.length_append, L1, sizeLine_eq]
    omega
  · rw [upd_ne h2]
    exact upd_same
  · intro b hb hb2
    rw [upd_ne hb, upd_ne hb2]
theorem mk_uk {X : Cx} {k : Nat} {p pos : Pos} {e1 : Expr} {ta : TA} (T : ErrB X.prog X.K X.mg "UnknownKind" "UnknownKind.__init__" (clb 6 0) ["kind"]) (hr : Room k X.A) (hg : Gl X "UnknownKind") (ha : PA X [e1] ta)
    (hx : Passes CX0 X (fun _ _ _ => False)) (hk : 2 ≤ k := by decide) (he : starEach [e1] X.env = (false, eval e1 X.env) :: starEach [] X.env := by rfl) (hpl : (backTo pos (starEach [] X.env)).any (·.1) = false := by rfl) :
    PMk X (.Call (.Name "UnknownKind" p) [e1] [] pos) (tMkO (He.ga X.K "UnknownKind") (spInit (He.ga X.K "UnknownKind") okUK) [] ta) := by
  obtain ⟨fd, F, B⟩ := i_uk (w := X.w) (base := X.base) T
  obtain ⟨cc, cd, kV, doc, pm, an, ct, S⟩ := T.sup
  exact pmk_oex S.oex T.iC T.tI F (hr.mono hk) B .nil hx hg T.at_ ha rfl he hpl

/-! WrongBranches(wanted, given) -/
def okWB : List V → Hp → List (Str × V) → Prop := fun us _ fs => ∃ a b : Nat, us = [.int (a : Nat), .int (b : Nat)] ∧ a ≤ 1000000 ∧ b ≤ 1000000 ∧ fs = ([("given", V.int (b : Nat)), ("wanted", V.int (a : Nat))] : List (Str × V))
abbrev N_wb : List Str := ["self", "wanted", "given", "__class__"]
theorem sc_wb : NdefX.NScope N_wb ["self", "wanted", "given"] ["__class__"] (defScope (clb 8 0)) := ⟨rfl, rfl, rfl, by decide +kernel, rfl, by decide +kernel, by decide +kernel, by decide +kernel, by decide +kernel⟩
theorem i_wb (T : ErrB P K mg "WrongBranches" "WrongBranches.__init__" (clb 8 0) ["wanted", "given"]) : ∃ fd, FnOk P w K mg base CX0 1 (iniA K "WrongBranches") fd ["self", "wanted", "given"] (spInit (He.ga K "WrongBranches") okWB) ∧ L2.Binds K fd ["self", "wanted", "given"] [] := by
  obtain ⟨cc, cd, kV, doc, pm, an, ct, S⟩ := T.sup
  refine ⟨_, fn_sup (k := 0) S sc_wb rfl rfl rfl rfl rfl T.mS T.top (fun vs H Q E s => by obtain ⟨_, _, _, rfl, ⟨_, _, rfl, _⟩, _⟩ := s; rfl) (fun _ => rfl) (fun _ => rfl) (fun _ _ => rfl) ?_, .all fun us e => match us, e with | [_, _, _], _ => rfl⟩
  intro A outer s H vs Q E hr h
  obtain ⟨a, us, fs, rfl, ⟨x, n, rfl, hx, hn, rfl⟩, ha, hq⟩ := h
  refine ⟨_, _, pa_cons (pe_joined (.cons (pe_fmt (pv 1)) (.cons pe_str (.cons (pe_fmt (pv 2)) (.cons pe_str .nil))))) pa_nil, pss_cons (ps_ost (pv 0) (pv 1)) (pss_one (ps_ost (pv 0) (pv 2))), a, _, rfl, ha, ?_⟩
  have L1 : (" branches expected, " : Str).length = 20 := by decide +kernel
  have L2' : (" given" : Str).length = 6 := by decide +kernel
  have e0 : (Str.empty : Str).length = 0 := rfl
  have tx := nat_txt hx
  have tn := nat_txt hn
  refine ⟨_, rfl, .inr ⟨(x : Int), rfl, nat_log hx, _, rfl, ?_, _, rfl, ?_, _, rfl, .inr ⟨(n : Int), rfl, nat_log hn, _, rfl, ?_, _, rfl, ?_, (by show 1 ≤ 1000; decide), ha, _, rfl, _, rfl, a, _, rfl, S.oex, T.no _ (by decide), .inl ⟨ha, fun dx h1 h2 => ⟨_, rfl, _, rfl, a, _, rfl, S.oex, T.no _ (by decide), .inr ⟨dx, _, upd_same, by rw [upd_ne h2]; exact upd_same, (by show 1 ≤ 900; decide), hq dx _ h1 h2 ?_ upd_same ?_⟩⟩⟩⟩⟩⟩
  · rw [PySem.Str.length_append, e0, sizeLine_eq]
    omega
  · rw [PySem.Str.length_append, PySem.Str.length_append, e0, L1, sizeLine_eq]
    omega
  · rw [PySem.Str.length_append, PySem.Str.length_append, PySem.Str.length_append, e0, L1, sizeLine_eq]
    omega
  · rw [PySem.Str.length_append, PySem.Str.length_append, PySem.Str.length_append, PySem.Str.length_append, e0, L1, L2', sizeLine_eq]
    omega
  · rw [upd_ne h2.symm]
    exact upd_same
  · intro b hb hb2
    rw [upd_ne hb2, upd_ne hb, upd_ne hb2]
theorem mk_wb {X : Cx} {k : Nat} {p pos : Pos} {e1 e2 : Expr} {ta : TA} (T : ErrB X.prog X.K X.mg "WrongBranches" "WrongBranches.__init__" (clb 8 0) ["wanted", "given"]) (hr : Room k X.A) (hg : Gl X "WrongBranches") (ha : PA X [e1, e2] ta)
    (hx : Passes CX0 X (fun _ _ _ => False)) (hk : 2 ≤ k := by decide) (he : starEach [e1, e2] X.env = (false, eval e1 X.env) :: starEach [e2] X.env := by rfl) (hpl : (backTo pos (starEach [e2] X.env)).any (·.1) = false := by rfl) :
    PMk X (.Call (.Name "WrongBranches" p) [e1, e2] [] pos) (tMkO (He.ga X.K "WrongBranches") (spInit (He.ga X.K "WrongBranches") okWB) [] ta) := by
  obtain ⟨fd, F, B⟩ := i_wb (w := X.w) (base := X.base) T
  obtain ⟨cc, cd, kV, doc, pm, an, ct, S⟩ := T.sup
  exact pmk_oex S.oex T.iC T.tI F (hr.mono hk) B .nil hx hg T.at_ ha rfl he hpl
/-! the errors of the top -/
structure Ers (P : Program) (K : PySem.W.Frag) (mg : Str → Option Value) : Prop where
  tm : ErrB P K mg "TooMany" "TooMany.__init__" (clb 7 0) ["what", "limit"]
  np : ErrB P K mg "NoPath" "NoPath.__init__" (clb 9 0) ["path"]
  ip : ErrB P K mg "InvalidPlant" "InvalidPlant.__init__" (clb 3 0) ["place"]
  is : ErrB P K mg "InvalidStump" "InvalidStump.__init__" (clb 4 0) ["place"]
  uk : ErrB P K mg "UnknownKind" "UnknownKind.__init__" (clb 6 0) ["kind"]
  wb : ErrB P K mg "WrongBranches" "WrongBranches.__init__" (clb 8 0) ["wanted", "given"]
end
end Sy
namespace Sy
open PySem PySem.Spec PyProof.Rows L2
/-- where a path of any numbers leads -/
def pz (w : List Nat) : Nat → List Int → Option Nat
  | i, [] => some i
  | i, z :: zs => if 0 ≤ z ∧ z < (aw w i : Nat) then pz w (kd w i z.toNat) zs else none
/-- a plant of the bed -/
structure Pln (rows : List Sy.Row) (l : List Str) : Prop where
  fo : Fo 1 (wt rows l)
  kn : ∀ x ∈ l, isK rows x = true
  le : l.length ≤ 2000
theorem fa_ok {rows : List Sy.Row} {lv : List Str} : ∀ {l : List Str} {m i : Nat}, Fo m (wt rows l) → (∀ x ∈ l, isK rows x = true) → fa rows lv m i l = -1
  | [], 0, i, _, _ => rfl
  | x :: l, m + 1, i, h, k => by
    have h : Fo (m + ar rows x) (wt rows l) := h
    rw [fa, if_neg (by omega), if_neg (fun z => by rw [k x List.mem_cons_self] at z; cases z.1)]
    exact fa_ok (m := m + 1 - 1 + ar rows x) h fun y hy => k y (List.mem_cons_of_mem _ hy)
theorem kidsN_len (w : List Nat) (i : Nat) : (kidsN w i).length = aw w i := by rw [kidsN, List.length_map, List.length_range]
theorem kidsN_at {w : List Nat} {i k : Nat} (h : k < aw w i) : (kidsN w i)[k]? = some (kd w i k) := by rw [kidsN, List.getElem?_map, List.getElem?_range h]; rfl
theorem Ra.mono {K : PySem.W.Frag} {x : Str} {fs : List (Str × V)} {H H1 : Hp} {E : XK} (h : Ra K x fs H E) (s : Same H H1) : Ra K x fs H1 E := fun d H' s' e => h d H' (s.trans s') e
section
variable {K : PySem.W.Frag} {H : Hp} {v : V} {w : List Nat} {i : Nat}
/-- kids' answer, by its places -/
theorem kids_get (h : Im K H v (dKids w)) : ∃ a ks, v = .ref a ∧ SqT K H a ks ∧ ks.length = w.length ∧ ∀ i, i < w.length → ∃ b, ks[i]? = some (.ref b) ∧ SqT K H b (vN (kidsN w i)) := by
  obtain ⟨a, ks, rfl, h1, h2⟩ := h.tupI
  refine ⟨a, ks, rfl, h1, by rw [h2.len, List.length_map, List.length_range], fun i hi => ?_⟩
  obtain ⟨z, e, iz⟩ := h2.get (i := i) (d := DN (kidsN w i)) (by rw [List.getElem?_map, List.getElem?_range hi]; rfl)
  obtain ⟨b, rfl, t⟩ := iz.natsI
  exact ⟨b, e, t⟩
end
section
variable {P : Program} {w : World} {K : PySem.W.Frag} {mg : Str → Option Value} {base : Heap}
/-! place_of -/
def spPlace (K : PySem.W.Frag) : Sp := fun vs H Q E => ∃ a r p rows l zs, vs = [.ref a, .ref r, .ref p] ∧ BedAt K H a rows ∧ SqT K H r (l.map V.str) ∧ SqT K H p (zs.map V.int) ∧ Fo 1 (wt rows l) ∧ l.length ≤ 2000 ∧ zs.length ≤ 5000 ∧ (∀ y ∈ zs, y.natAbs.log2 < 1920) ∧
  (∀ i, pz (wt rows l) 0 zs = some i → ∀ H', Same H H' → Q (.int (i : Nat)) H') ∧ (pz (wt rows l) 0 zs = none → Ra K "NoPath" [("path", .ref p)] H E)
abbrev N_place : List Str := ["bed", "row", "path", "starts", "place", "branch"]
theorem sc_place : FnScope N_place ["bed", "row", "path"] (defScope (top 21)) := ⟨rfl, rfl, rfl, by decide +kernel, rfl, by decide +kernel, by decide +kernel⟩
theorem k_place (T : Txt K mg) (NP : ErrB P K mg "NoPath" "NoPath.__init__" (clb 9 0) ["path"]) (F : DF K mg "place_of" 21) (c_kids : Cal P w K mg base 3 "kids" ["bed", "row"] (spKids K)) : Cal P w K mg base 4 "place_of" ["bed", "row", "path"] (spPlace K) := by
  refine cal_of F.1 F.2 sc_place (fun _ _ _ _ _ _ us e => match us, e with | [_, _, _], _ => rfl) (fun vs H Q E s => by obtain ⟨_, _, _, _, _, _, rfl, _⟩ := s; rfl) ?_
  intro cdv A outer s H vs Q E hr h
  obtain ⟨a, r, p, rows, l, zs, rfl, hb, hR, hP, hF, hl, hz, hlg, hq, hE⟩ := h
  have hu := hu_of hr
  have sc := sc_place
  have hwl := wt_len rows l
  refine ⟨_, (pss_cons (ps_set (i := 3) sc.nd rfl (Or.inl rfl) (pe_cal c_kids hr (pa_cons (pv 0) (pa_cons (pv 1) pa_nil))))
      (pss_cons (ps_set (i := 4) sc.nd rfl (Or.inl rfl) pe_int)
      (pss_cons (ps_for (passes_of rfl) rfl (pi_tup (pv 2)) (pg_name (i := 5) sc.nd rfl (Or.inl rfl))
        (pss_cons (ps_if (PW.pt (pw_or (pt_cmpR op_lt (pv 5) pe_int (nomark _)) (pw_or1 (pt_cmpR op_ge (pv 5) (pe_callB call_len_seq (by rfl) T.len (by decide +kernel) (pa_cons (pe_ix ix_tup (pv 3) (pv 4) (fun _ _ => rfl)) pa_nil)) (nomark _)))))
          (pss_one (ps_raise rfl (takes_of rfl rfl rfl rfl) (mk_np NP hr rfl (pa_cons (pv 2) pa_nil) pass0)))
          pss_nil)
        (pss_one (ps_set (i := 4) sc.nd rfl (Or.inl rfl) (pe_ix ix_tup (pe_ix ix_tup (pv 3) (pv 4) (fun _ _ => rfl)) (pv 5) (fun _ _ => rfl))))))
      (pss_one (ps_ret (pv 4)))))), ?_⟩
  refine ⟨_, rfl, _, rfl, a, r, rows, l, rfl, hb, hR, hF, hl, fun H1 v s1 hv => ?_⟩
  obtain ⟨ka, ks, rfl, kt, kl, kg⟩ := kids_get hv
  have hP1 := Same.sqt s1 hP
  refine ⟨_, rfl, p, rfl, ⟨_, hP1⟩, for_tup (K := K) (a := p) (xs := zs.map V.int) (fun t σ H' => ∃ (i : Nat) (z : Int) (s5 : Option V), σ = [some (.ref a), some (.ref r), some (.ref p), some (.ref ka), some (.int z), s5] ∧ z = (i : Nat) ∧ H' = H1 ∧ i < (wt rows l).length ∧ pz (wt rows l) i (zs.drop t) = pz (wt rows l) 0 zs)
    ⟨0, 0, none, rfl, rfl, rfl, hF.pos, by rw [List.drop_zero]⟩ (fun _ _ _ _ ⟨_, _, _, _, _, e, _⟩ => e ▸ hP1) ?_ ?_⟩
  · rintro t x σ H' hx ⟨i, _, s5, rfl, rfl, rfl, hi, e⟩
    obtain ⟨z, hz', rfl⟩ := map_at hx
    rw [drop_of hz', pz] at e
    obtain ⟨b, e1, tb⟩ := kg i hi
    have stop : ¬ (0 ≤ z ∧ z < (aw (wt rows l) i : Nat)) → Ra K "NoPath" [("path", .ref p)] H' E := fun c => by
      rw [if_neg c] at e
      exact (hE e.symm).mono s1
    refine ⟨_, rfl, _, _, rfl, rfl, _, rfl, if_dec (fun c => ?_) (fun c => ?_)⟩
    · refine iteT ⟨_, rfl, mk_ra (fun H2 s2 => ⟨p, zs, rfl, Same.sqt s2 hP1, hlg, hz, rfl⟩) (by show 1 ≤ 1000; decide) (stop fun q => by omega)⟩
    · refine ⟨_, rfl, _, rfl, _, rfl, ka, _, _, _, rfl, rfl, kt, atI_nat e1, b, _, rfl, .inr tb, _, _, rfl, rfl, _, rfl, if_dec (fun c2 => ?_) (fun c2 => ?_)⟩
      · rw [vN, List.length_map, kidsN_len] at c2
        refine ⟨_, rfl, mk_ra (fun H2 s2 => ⟨p, zs, rfl, Same.sqt s2 hP1, hlg, hz, rfl⟩) (by show 1 ≤ 1000; decide) (stop fun q => by omega)⟩
      · rw [vN, List.length_map, kidsN_len] at c2
        have hk : z.toNat < aw (wt rows l) i := by omega
        rw [if_pos ⟨by omega, by omega⟩] at e
        have ez : ((z.toNat : Nat) : Int) = z := by omega
        refine ⟨_, rfl, _, rfl, ka, _, _, _, rfl, rfl, kt, atI_nat e1, _, rfl, b, _, _, _, rfl, rfl, tb, by rw [← ez]; exact atI_nat (vN_at (kidsN_at hk)), kd (wt rows l) i z.toNat, _, _, rfl, rfl, rfl, hF.kd_lt hi hk, e⟩
  · rintro σ H' ⟨i, _, s5, rfl, rfl, rfl, hi, e⟩
    rw [List.length_map, List.drop_length, pz] at e
    exact ⟨_, rfl, hq i e.symm _ s1⟩
/-! check_plant, check_stump -/
def ckr (tag : Nat → Er) (rows : List Sy.Row) (lv l : List Str) : Option Er := if 2000 < l.length then some .many else if 0 ≤ fa rows lv 1 0 l then some (tag (fa rows lv 1 0 l).toNat) else none
abbrev ckP (rows : List Sy.Row) (l : List Str) : Option Er := ckr .plant rows [] l
abbrev ckS (rows : List Sy.Row) (l : List Str) : Option Er := ckr .stump rows ["*"] l
theorem fa_neg {rows : List Sy.Row} {lv : List Str} : ∀ {l : List Str} {m i : Nat}, fa rows lv m i l < 0 → Fo m (wt rows l) ∧ ∀ x ∈ l, isK rows x = true ∨ x ∈ lv
  | [], m, i, h => by
    rw [fa] at h
    by_cases c : 0 < m
    · rw [if_pos c] at h; omega
    · have : m = 0 := by omega
      subst this
      exact ⟨trivial, fun _ z => (nomatch z)⟩
  | x :: l, m, i, h => by
    rw [fa] at h
    by_cases c : m = 0
    · rw [if_pos c] at h; omega
    · rw [if_neg c] at h
      by_cases d : isK rows x = false ∧ x ∉ lv
      · rw [if_pos d] at h; omega
      · rw [if_neg d] at h
        obtain ⟨h1, h2⟩ := fa_neg h
        obtain ⟨n, rfl⟩ : ∃ n, m = n + 1 := ⟨m - 1, by omega⟩
        refine ⟨h1, fun y hy => ?_⟩
        rcases List.mem_cons.mp hy with rfl | hy
        · by_cases e : isK rows y = true
          · exact .inl e
          · refine .inr (Decidable.byContradiction fun z => d ⟨by simpa using e, z⟩)
        · exact h2 y hy
theorem fa_le {rows : List Sy.Row} {lv : List Str} : ∀ {l : List Str} {m i : Nat}, fa rows lv m i l ≤ ((i + l.length : Nat) : Int)
  | [], m, i => by rw [fa]; split <;> simp <;> omega
  | x :: l, m, i => by
    rw [fa]
    split
    · simp only [List.length_cons]; omega
    · split
      · simp only [List.length_cons]; omega
      · have := fa_le (rows := rows) (lv := lv) (l := l) (m := m - 1 + ar rows x) (i := i + 1)
        simp only [List.length_cons]
        omega
theorem pln_of {rows : List Sy.Row} {l : List Str} (h : ckP rows l = none) : Pln rows l := by
  unfold ckP ckr at h
  split at h
  · cases h
  · split at h
    · cases h
    · obtain ⟨h1, h2⟩ := fa_neg (rows := rows) (lv := []) (l := l) (m := 1) (i := 0) (by omega)
      exact ⟨h1, fun x hx => (h2 x hx).elim id fun z => (nomatch z), by omega⟩
/-- a stump of the bed -/
structure Stm (rows : List Sy.Row) (l : List Str) : Prop where
  fo : Fo 1 (wt rows l)
  kn : ∀ x ∈ l, isK rows x = true ∨ x = "*"
  le : l.length ≤ 2000
theorem stm_of {rows : List Sy.Row} {l : List Str} (h : ckS rows l = none) : Stm rows l := by
  unfold ckS ckr at h
  split at h
  · cases h
  · split at h
    · cases h
    · obtain ⟨h1, h2⟩ := fa_neg (rows := rows) (lv := ["*"]) (l := l) (m := 1) (i := 0) (by omega)
      exact ⟨h1, fun x hx => (h2 x hx).imp id fun z => List.mem_singleton.mp z, by omega⟩
def spCheckE (K : PySem.W.Frag) (ck : List Sy.Row → List Str → Option Er) : Sp := fun vs H Q E => ∃ a r rows l, vs = [.ref a, .ref r] ∧ BedAt K H a rows ∧ SqT K H r (l.map V.str) ∧ (ck rows l = none → ∀ H', Same H H' → Q .non H') ∧ (∀ e, ck rows l = some e → RaE K e H E)
abbrev N_check : List Str := ["bed", "plant", "place"]
theorem sc_check : FnScope N_check ["bed", "plant"] (defScope (top 29)) := ⟨rfl, rfl, rfl, by decide +kernel, rfl, by decide +kernel, by decide +kernel⟩
theorem im_int {H : Hp} (i : Nat) : ImF K H [("place", V.int (i : Nat))] [("place", .int (i : Nat))] := .cons (.int _) .nil
theorem im_tm {H : Hp} : ImF K H [("limit", .int 2000), ("what", .str "knots")] Er.many.fds := .cons (.int _) (.cons (.str _) .nil)
theorem k_check (T : Txt K mg) (R : Ers P K mg) (F : DF K mg "check_plant" 29) (c_check_count : Cal P w K mg base 3 "check_count" ["number"] (spCount K)) (c_fault_among : Cal P w K mg base 2 "fault_among" ["bed", "row", "leaves"] (spFault K)) : Cal P w K mg base 4 "check_plant" ["bed", "plant"] (spCheckE K ckP) := by
  refine cal_of F.1 F.2 sc_check (fun _ _ _ _ _ _ us e => match us, e with | [_, _], _ => rfl) (fun vs H Q E s => by obtain ⟨_, _, _, _, rfl, _⟩ := s; rfl) ?_
  intro cdv A outer s H vs Q E hr h
  obtain ⟨a, r, rows, l, rfl, hb, hR, hq, hE⟩ := h
  have sc := sc_check
  refine ⟨_, (pss_cons (ps_expr (pe_calX c_check_count hr (takes_of rfl rfl rfl rfl) (pa_cons (pe_callB call_len_seq (by rfl) T.len (by decide +kernel) (pa_cons (pv 1) pa_nil)) pa_nil)))
      (pss_cons (ps_set (i := 2) sc.nd rfl (Or.inl rfl) (pe_cal c_fault_among hr (pa_cons (pv 0) (pa_cons (pv 1) (pa_cons (pe_tup pa_nil) pa_nil)))))
      (pss_one (ps_if (pt_cmpR op_ge (pv 2) pe_int (nomark _))
        (pss_one (ps_raise rfl (takes_of rfl rfl rfl rfl) (mk_ip R.ip hr rfl (pa_cons (pv 2) pa_nil) pass0)))
        pss_nil)))), ?_⟩
  refine ⟨_, rfl, r, _, rfl, .inr hR, _, rfl, fun c => ?_, fun c => (hE .many ?_).ra im_tm⟩
  · rw [List.length_map] at c
    refine ⟨_, rfl, _, rfl, by decide, fun t ht => ?_⟩
    have s1 := up_same (o := .tup []) ht
    refine ⟨a, r, t, rows, l, [], rfl, hb.mono (Stay.of s1), Same.sqt s1 hR, SqT.of upd_same, fun H' s2 => ?_⟩
    refine ⟨_, rfl, _, _, rfl, rfl, _, rfl, if_dec (fun c2 => ?_) (fun c2 => ?_)⟩
    · have c2 : 0 ≤ fa rows [] 1 0 l := c2
      have hle := fa_le (rows := rows) (lv := []) (l := l) (m := 1) (i := 0)
      obtain ⟨n, en⟩ : ∃ n : Nat, fa rows [] 1 0 l = (n : Nat) := ⟨(fa rows [] 1 0 l).toNat, by omega⟩
      rw [en] at hle ⊢
      refine ⟨_, rfl, mk_ra (fun _ _ => ⟨n, rfl, by omega, rfl⟩) (by show 1 ≤ 1000; decide) (((hE (.plant n) ?_).ra (im_int n)).mono (s1.trans s2))⟩
      unfold ckP ckr
      rw [if_neg (by omega), en, if_pos (by omega)]
      rfl
    · have c2 : ¬ 0 ≤ fa rows [] 1 0 l := c2
      refine hq ?_ _ (s1.trans s2)
      unfold ckP ckr
      rw [if_neg (by omega), if_neg c2]
  · rw [List.length_map] at c
    unfold ckP ckr
    rw [if_pos (by omega)]
abbrev N_checkS : List Str := ["bed", "stump", "place"]
theorem sc_checkS : FnScope N_checkS ["bed", "stump"] (defScope (top 46)) := ⟨rfl, rfl, rfl, by decide +kernel, rfl, by decide +kernel, by decide +kernel⟩
theorem k_checkS (T : Txt K mg) (hole : ∃ t, mg "HOLE" = some (.str "*" t)) (R : Ers P K mg) (F : DF K mg "check_stump" 46) (c_check_count : Cal P w K mg base 3 "check_count" ["number"] (spCount K)) (c_fault_among : Cal P w K mg base 2 "fault_among" ["bed", "row", "leaves"] (spFault K)) : Cal P w K mg base 4 "check_stump" ["bed", "stump"] (spCheckE K ckS) := by
  refine cal_of F.1 F.2 sc_checkS (fun _ _ _ _ _ _ us e => match us, e with | [_, _], _ => rfl) (fun vs H Q E s => by obtain ⟨_, _, _, _, rfl, _⟩ := s; rfl) ?_
  intro cdv A outer s H vs Q E hr h
  obtain ⟨a, r, rows, l, rfl, hb, hR, hq, hE⟩ := h
  have sc := sc_checkS
  refine ⟨_, (pss_cons (ps_expr (pe_calX c_check_count hr (takes_of rfl rfl rfl rfl) (pa_cons (pe_callB call_len_seq (by rfl) T.len (by decide +kernel) (pa_cons (pv 1) pa_nil)) pa_nil)))
      (pss_cons (ps_set (i := 2) sc.nd rfl (Or.inl rfl) (pe_cal c_fault_among hr (pa_cons (pv 0) (pa_cons (pv 1) (pa_cons (pe_tup (pa_cons (pe_gstr rfl hole) pa_nil)) pa_nil)))))
      (pss_one (ps_if (pt_cmpR op_ge (pv 2) pe_int (nomark _))
        (pss_one (ps_raise rfl (takes_of rfl rfl rfl rfl) (mk_is R.is hr rfl (pa_cons (pv 2) pa_nil) pass0)))
        pss_nil)))), ?_⟩
  refine ⟨_, rfl, r, _, rfl, .inr hR, _, rfl, fun c => ?_, fun c => (hE .many ?_).ra im_tm⟩
  · rw [List.length_map] at c
    refine ⟨_, rfl, _, rfl, by decide, fun t ht => ?_⟩
    have s1 := up_same (o := .tup [.str "*"]) ht
    refine ⟨a, r, t, rows, l, ["*"], rfl, hb.mono (Stay.of s1), Same.sqt s1 hR, SqT.of upd_same, fun H' s2 => ?_⟩
    refine ⟨_, rfl, _, _, rfl, rfl, _, rfl, if_dec (fun c2 => ?_) (fun c2 => ?_)⟩
    · have c2 : 0 ≤ fa rows ["*"] 1 0 l := c2
      have hle := fa_le (rows := rows) (lv := ["*"]) (l := l) (m := 1) (i := 0)
      obtain ⟨n, en⟩ : ∃ n : Nat, fa rows ["*"] 1 0 l = (n : Nat) := ⟨(fa rows ["*"] 1 0 l).toNat, by omega⟩
      rw [en] at hle ⊢
      refine ⟨_, rfl, mk_ra (fun _ _ => ⟨n, rfl, by omega, rfl⟩) (by show 1 ≤ 1000; decide) (((hE (.stump n) ?_).ra (im_int n)).mono (s1.trans s2))⟩
      unfold ckS ckr
      rw [if_neg (by omega), en, if_pos (by omega)]
      rfl
    · have c2 : ¬ 0 ≤ fa rows ["*"] 1 0 l := c2
      refine hq ?_ _ (s1.trans s2)
      unfold ckS ckr
      rw [if_neg (by omega), if_neg c2]
  · rw [List.length_map] at c
    unfold ckS ckr
    rw [if_pos (by omega)]
/-! plant_key, paths -/
def spKeyP (K : PySem.W.Frag) : Sp := fun vs H Q E => ∃ (a r : Addr) (rows : List Sy.Row) (l : List Str), vs = [.ref a, .ref r] ∧ BedAt K H a rows ∧ SqT K H r (l.map V.str) ∧ (ckP rows l = none → ∀ H' v, Same H H' → Im K H' v (.tuple [.int (l.length : Nat), DN (l.map (rkD rows))]) → Q v H') ∧ (∀ e, ckP rows l = some e → RaE K e H E)
theorem sc_keyP : FnScope ["bed", "plant"] ["bed", "plant"] (defScope (top 30)) := ⟨rfl, rfl, rfl, by decide +kernel, rfl, by decide +kernel, by decide +kernel⟩
theorem k_keyP (T : Txt K mg) (F : DF K mg "plant_key" 30) (c_check_plant : Cal P w K mg base 4 "check_plant" ["bed", "plant"] (spCheckE K ckP)) (c_row_key : Cal P w K mg base 2 "row_key" ["bed", "row"] (spKey K)) : Cal P w K mg base 5 "plant_key" ["bed", "plant"] (spKeyP K) := by
  refine cal_of F.1 F.2 sc_keyP (fun _ _ _ _ _ _ us e => match us, e with | [_, _], _ => rfl) (fun vs H Q E s => by obtain ⟨_, _, _, _, rfl, _⟩ := s; rfl) ?_
  intro cdv A outer s H vs Q E hr h
  obtain ⟨a, r, rows, l, rfl, hb, hR, hq, hE⟩ := h
  refine ⟨_, (pss_cons (ps_expr (pe_calX c_check_plant hr (takes_of rfl rfl rfl rfl) (pa_cons (pv 0) (pa_cons (pv 1) pa_nil))))
      (pss_one (ps_ret (pe_cal c_row_key hr (pa_cons (pv 0) (pa_cons (pv 1) pa_nil)))))), ?_⟩
  exact ⟨_, rfl, _, rfl, a, r, rows, l, rfl, hb, hR, fun ck H1 s1 => ⟨_, rfl, _, rfl, a, r, rows, l, rfl, hb.mono (Stay.of s1), Same.sqt s1 hR, (pln_of ck).le, fun H2 v s2 hv => hq ck _ v (s1.trans s2) hv⟩, hE⟩
def spPathsP (K : PySem.W.Frag) : Sp := fun vs H Q E => ∃ (a r : Addr) (rows : List Sy.Row) (l : List Str), vs = [.ref a, .ref r] ∧ BedAt K H a rows ∧ SqT K H r (l.map V.str) ∧ (ckP rows l = none → ∀ H' v, Same H H' → Im K H' v (dPaths (wt rows l)) → Q v H') ∧ (∀ e, ckP rows l = some e → RaE K e H E)
theorem sc_pathsP : FnScope ["bed", "plant"] ["bed", "plant"] (defScope (top 35)) := ⟨rfl, rfl, rfl, by decide +kernel, rfl, by decide +kernel, by decide +kernel⟩
theorem k_pathsP (T : Txt K mg) (F : DF K mg "paths" 35) (c_check_plant : Cal P w K mg base 4 "check_plant" ["bed", "plant"] (spCheckE K ckP)) (c_row_paths : Cal P w K mg base 4 "row_paths" ["bed", "row"] (spPathsR K)) : Cal P w K mg base 5 "paths" ["bed", "plant"] (spPathsP K) := by
  refine cal_of F.1 F.2 sc_pathsP (fun _ _ _ _ _ _ us e => match us, e with | [_, _], _ => rfl) (fun vs H Q E s => by obtain ⟨_, _, _, _, rfl, _⟩ := s; rfl) ?_
  intro cdv A outer s H vs Q E hr h
  obtain ⟨a, r, rows, l, rfl, hb, hR, hq, hE⟩ := h
  refine ⟨_, (pss_cons (ps_expr (pe_calX c_check_plant hr (takes_of rfl rfl rfl rfl) (pa_cons (pv 0) (pa_cons (pv 1) pa_nil))))
      (pss_one (ps_ret (pe_cal c_row_paths hr (pa_cons (pv 0) (pa_cons (pv 1) pa_nil)))))), ?_⟩
  exact ⟨_, rfl, _, rfl, a, r, rows, l, rfl, hb, hR, fun ck H1 s1 => ⟨_, rfl, _, rfl, a, r, rows, l, rfl, hb.mono (Stay.of s1), Same.sqt s1 hR, (pln_of ck).fo, (pln_of ck).le, fun H2 v s2 hv => hq ck _ v (s1.trans s2) hv⟩, hE⟩
end
end Sy
/-! tuples of which it is known that they have no dict: methods of a tuple -/
namespace Sy
open PySem PySem.Spec PyProof.Rows L2
def NoD (H : Hp) (a : Addr) : Prop := ∃ (o : Obj) (u : HO), H a = some (.frz o u) ∧ o.dict = none
/-- a new tuple at p -/
def NewT (H : Hp) (p : Addr) (xs : List V) (H' : Hp) : Prop := H p = none ∧ ∃ o : Obj, o.dict = none ∧ H' = upd H p (.frz o (.tup xs))
theorem NewT.same {H H' : Hp} {p : Addr} {xs : List V} (h : NewT H p xs H') : Same H H' := by
  obtain ⟨h1, o, _, rfl⟩ := h
  exact up_same h1
theorem NewT.sqt {K : PySem.W.Frag} {H H' : Hp} {p : Addr} {xs : List V} (h : NewT H p xs H') : SqT K H' p xs := by
  obtain ⟨h1, o, _, rfl⟩ := h
  exact .inl (.inr ⟨o, upd_same⟩)
theorem NewT.nod {H H' : Hp} {p : Addr} {xs : List V} (h : NewT H p xs H') : NoD H' p := by
  obtain ⟨h1, o, h2, rfl⟩ := h
  exact ⟨o, _, upd_same, h2⟩
theorem NoD.mono {H H' : Hp} {a : Addr} (h : NoD H a) (s : Stay H H') : NoD H' a := by
  obtain ⟨o, u, h1, h2⟩ := h
  exact ⟨o, u, s _ _ h1 (fun _ z => by cases z), h2⟩
section
variable {X : Cx} {es : List Expr} {t : TA} {pos : Pos}
def tTupZ (t : TA) : TE := fun σ H Q => t σ H fun xs H1 => xs.length ≤ sizeLine ∧ ∀ p H', NewT H1 p xs H' → Q (.ref p) H'
theorem pe_tupZ {x1} (h : PA X es t) : PE X (.Tuple es x1 pos) (tTupZ t) := by
  constructor
  intro pins s σ H Q I hq
  refine wpAny_Tuple_spliced (thn (h.run pos pins s σ H _ I hq) fun us s1 ⟨xs, H1, I1, r, z, q⟩ => ⟨by rw [← r.length]; exact z, ?_⟩)
  have hf : H1 s1.heap.objs.size = none := I1.hok.fresh (Nat.le_refl _)
  have hg : (s1.heap.push ({ cls := .type "tuple", data := .seq us.toArray } : Obj)).get? s1.heap.objs.size = some ({ cls := .type "tuple", data := .seq us.toArray } : Obj) := Heap.get?_push_size _ rfl
  refine ⟨.ref s1.heap.objs.size, _, I1.laid (t' := s1.toks) (o := .frz ({ cls := .type "tuple", data := .seq us.toArray } : Obj) (.tup xs)) (fun b u e => Heap.get?_push_of_some _ e) (Nat.le_refl _) ?_, rfl, q _ _ ⟨hf, _, rfl, rfl⟩⟩
  exact ⟨hg, z, us, r, ⟨_, hg, rfl, _, rfl⟩⟩
def rCatZ (K : PySem.W.Frag) : R2 := fun x y H Q => ∃ a b xs ys, x = .ref a ∧ y = .ref b ∧ SqT K H a xs ∧ SqT K H b ys ∧ xs.length + ys.length ≤ sizeLine ∧
  (xs = [] → Q (.ref b) H) ∧ (xs ≠ [] → ys = [] → Q (.ref a) H) ∧ (xs ≠ [] → ys ≠ [] → ∀ p H', NewT H p (xs ++ ys) H' → Q (.ref p) H')
theorem op_catZ : OpR X (binaryOp .Add) (rCatZ X.K) := by
  intro pins s σ H x y v u Q I rx ry h
  obtain ⟨a, b, xs, ys, rfl, rfl, ha, hb, hz, q0, q1, q2⟩ := h
  by_cases hx : xs = []
  · exact op_catA pins s σ H _ _ v u Q I rx ry ⟨a, b, xs, ys, rfl, rfl, ha, hb, hz, q0, q1, fun z => absurd hx z⟩
  cases rx
  cases ry
  obtain ⟨its, r1, p1, _⟩ := I.tuple ha
  obtain ⟨its2, r2, p2, _⟩ := I.tuple hb
  refine HT.cat_tup p1 p2 (fun z => hx (r1.nil_iff.mp z)) (fun z => ⟨.ref a, H, I, rfl, q1 hx (r2.nil_iff.mp z)⟩) (fun z => ?_) (by rw [← r1.length, ← r2.length]; exact hz)
  have hg : (s.heap.push ({ cls := .type "tuple", data := .seq (its ++ its2).toArray } : Obj)).get? s.heap.objs.size = some ({ cls := .type "tuple", data := .seq (its ++ its2).toArray } : Obj) := Heap.get?_push_size _ rfl
  refine ⟨.ref s.heap.objs.size, _, I.laid (t' := s.toks) (o := .frz ({ cls := .type "tuple", data := .seq (its ++ its2).toArray } : Obj) (.tup (xs ++ ys))) (fun b ob q => Heap.get?_push_of_some _ q) (Nat.le_refl _) ?_, rfl,
    q2 hx (fun w => z (r2.nil_iff.mpr w)) _ _ ⟨I.hok.fresh (Nat.le_refl _), _, rfl, rfl⟩⟩
  exact ⟨hg, by rw [List.length_append]; exact hz, _, r1.append r2, ⟨_, hg, rfl, _, rfl⟩⟩
def rTupZ (K : PySem.W.Frag) : List V → Hp → VK → Prop := fun xs H Q => ∃ p ys, xs = [.ref p] ∧ SqL K H p ys ∧ ∀ l H', NewT H l ys H' → Q (.ref l) H'
theorem call_tupZ : CallR X (.type "tuple") (rTupZ X.K) := by
  intro pins s σ H xs us Q I r h
  obtain ⟨p, ys, rfl, hq, q⟩ := h
  obtain ⟨u, rfl, rx⟩ := vals1 r
  cases rx
  obtain ⟨its, r', pl, hz⟩ := I.list hq
  have hlen := r'.length
  refine call_tuple_list pl.isList (fun h' kp => ?_) (by simp only [List.size_toArray]; omega)
  have I1 : Inv X pins σ H { s with heap := h' } := I.kept (t' := s.toks) kp
  have hg : (h'.push ({ cls := .type "tuple", data := .seq its.toArray } : Obj)).get? h'.objs.size = some ({ cls := .type "tuple", data := .seq its.toArray } : Obj) := Heap.get?_push_size _ rfl
  have I2 : Inv X pins σ (upd H h'.objs.size (.frz ({ cls := .type "tuple", data := .seq its.toArray } : Obj) (.tup ys))) { s with heap := h'.push { cls := .type "tuple", data := .seq its.toArray } } :=
    I1.laid (t' := s.toks) (fun b o e => Heap.get?_push_of_some _ e) (Nat.le_refl _) (show ObjOk X.prog X.w _ _ _ (.frz _ (.tup ys)) from ⟨hg, hz, its, r', ⟨_, hg, rfl, _, rfl⟩⟩)
  exact ⟨.ref h'.objs.size, _, I2, rfl, q _ _ ⟨I1.hok.fresh (Nat.le_refl _), _, rfl, rfl⟩⟩
/-! t.m(..) -/
def tBMT (K : PySem.W.Frag) (r : V → List V → Hp → VK → Prop) (to : TE) (t : TA) : TE := fun σ H Q => to σ H fun x H1 => (∃ a xs, x = .ref a ∧ SqT K H1 a xs ∧ NoD H1 a) ∧ t σ H1 fun xs H2 => r x xs H2 Q
variable {o e : Expr} {to : TE} {name : Str} {apos cpos : Pos} {id : String} {r : V → List V → Hp → VK → Prop}
theorem pe_bmT (slot : Slot "tuple" name id) (hty : typeOf (.builtin id) = pure (.type "method_descriptor")) (hm : MtR X id r) (ho : PE X o to) (ha : PA X (e :: es) t)
    (hbase : attributeBase o name X.env (eval o X.env) = eval o X.env := by rfl)
    (hfew : ((backTo cpos (starEach (e :: es) X.env)).all (fun x => !x.1) && (backToKw cpos (keywordEach [] X.env)).all (fun x => x.1.isSome)
      && decide ((e :: es).length + ([] : List Keyword).length + (if ([] : List Keyword).isEmpty then 0 else 1) < 30)) = true := by rfl)
    (hline : (apos.endLine == cpos.line) = true := by rfl) (hs : starEach (e :: es) X.env = (false, eval e X.env) :: starEach es X.env := by rfl) (hplain : (backTo cpos (starEach es X.env)).any (·.1) = false := by rfl) :
    PE X (.Call (.Attribute o name apos) (e :: es) [] cpos) (tBMT X.K r to t) := by
  constructor
  intro pins s σ H Q I h
  refine wpAny_Call_method_late hbase hfew hline rfl (thn (ho.run pins s σ H _ I h) fun v s1 ⟨x, H1, I1, r1, ⟨a, xs, ex, st, ob, u, hf, hd⟩, q1⟩ => ?_)
  subst ex
  cases r1
  obtain ⟨its, _, pt, _⟩ := I1.tuple st
  refine ⟨"tuple", id, PySem.F.plainAttrs_tuple, slot, hty, pt.typeIs, fun b e => ?_, ?_⟩
  · cases e
    exact ⟨ob, (I1.hok _ _ hf).1, hd⟩
  · have hA := ha.run cpos pins s1 σ H1 _ I1 q1
    rw [hs] at hA ⊢
    refine Calls.callWith_builtin (by show (false || (backTo cpos (starEach es X.env)).any (·.1)) = false; rw [hplain]; rfl) (Calls.evalArgs_plain ?_)
    exact thn hA fun us s2 ⟨vs, H2, I2, r2, q2⟩ => hm pins s2 σ H2 (.ref a) vs _ us Q I2 rfl r2 q2
end
end Sy
namespace Sy
open PySem PySem.Spec PyProof.Rows L2
def brn (w : List Nat) (l : List Str) (i : Nat) : List Str := (l.drop i).take (en w i - i)
def rep (w : List Nat) (l m : List Str) (i : Nat) : List Str := l.take i ++ m ++ l.drop (en w i)
theorem pz_lt {w : List Nat} (h : Fo 1 w) : ∀ (zs : List Int) (i j : Nat), i < w.length → pz w i zs = some j → j < w.length
  | [], i, j, hi, e => by rw [pz] at e; cases e; exact hi
  | z :: zs, i, j, hi, e => by
    rw [pz] at e
    by_cases c : 0 ≤ z ∧ z < (aw w i : Nat)
    · rw [if_pos c] at e
      exact pz_lt h zs _ j (h.kd_lt hi (by omega)) e
    · rw [if_neg c] at e
      cases e
theorem max_int (a b : Nat) : (if ((b : Int) + 1) > (a : Int) then ((b : Int) + 1) else (a : Int)) = ((max a (b + 1) : Nat) : Int) := by
  split <;> omega
theorem im_np {K : PySem.W.Frag} {H : Hp} {p : Addr} {zs : List Int} (h : SqT K H p (zs.map V.int)) : ImF K H [("path", .ref p)] (Er.path zs).fds := .cons (Im.ints h) .nil
theorem getD_at {l : List Nat} {i : Nat} (h : i < l.length) : l[i]? = some (l.getD i 0) := by
  rw [List.getD_eq_getElem?_getD, List.getElem?_eq_getElem h]
  rfl
section
variable {P : Program} {w : World} {K : PySem.W.Frag} {mg : Str → Option Value} {base : Heap}
/-! height -/
def spHeight (K : PySem.W.Frag) : Sp := fun vs H Q E => ∃ (a r : Addr) (rows : List Sy.Row) (l : List Str), vs = [.ref a, .ref r] ∧ BedAt K H a rows ∧ SqT K H r (l.map V.str) ∧ (ckP rows l = none → ∀ H', Same H H' → Q (.int (tall (pths (wt rows l)) : Nat)) H') ∧ (∀ e, ckP rows l = some e → RaE K e H E)
abbrev N_height : List Str := ["bed", "plant", "starts", "heights", "index", "start", "_"]
theorem sc_height : FnScope N_height ["bed", "plant"] (defScope (top 31)) := ⟨rfl, rfl, rfl, by decide +kernel, rfl, by decide +kernel, by decide +kernel⟩
theorem k_height (T : Txt K mg) (F : DF K mg "height" 31) (c_check_plant : Cal P w K mg base 4 "check_plant" ["bed", "plant"] (spCheckE K ckP)) (c_kids : Cal P w K mg base 3 "kids" ["bed", "row"] (spKids K)) : Cal P w K mg base 5 "height" ["bed", "plant"] (spHeight K) := by
  refine cal_of F.1 F.2 sc_height (fun _ _ _ _ _ _ us e => match us, e with | [_, _], _ => rfl) (fun vs H Q E s => by obtain ⟨_, _, _, _, rfl, _⟩ := s; rfl) ?_
  intro cdv A outer s H vs Q E hr h
  obtain ⟨a, r, rows, l, rfl, hb, hR, hq, hE⟩ := h
  have sc := sc_height
  refine ⟨_, (pss_cons (ps_expr (pe_calX c_check_plant hr (takes_of rfl rfl rfl rfl) (pa_cons (pv 0) (pa_cons (pv 1) pa_nil))))
      (pss_cons (ps_set (i := 2) sc.nd rfl (Or.inl rfl) (pe_cal c_kids hr (pa_cons (pv 0) (pa_cons (pv 1) pa_nil))))
      (pss_cons (ps_setLc (i := 3) (own := [("_", 6)]) (g := gName 6) rfl sc.nd rfl rfl (sw_true rfl rfl rfl (by decide +kernel)) (pi_tup (pv 1)) (blkOk_by (N := N_height) (sc := defScope (top 31)) (by decide +kernel)) (fun _ _ _ _ _ => (pg_name (i := 6) sc.nd rfl (Or.inl rfl))) (fun _ _ _ _ _ => pts_nil) (fun _ _ _ _ _ => pe_int))
      (pss_cons (ps_for (passes_of rfl) rfl (pi_revR rfl T.reversed (prg_1 rfl T.range (pe_callB call_len_seq (by rfl) T.len (by decide +kernel) (pa_cons (pv 1) pa_nil)))) (pg_name (i := 4) sc.nd rfl (Or.inl rfl))
        (pss_one (ps_for (passes_of rfl) rfl (pi_tup (pe_ix ix_tup (pv 2) (pv 4) (fun _ _ => rfl))) (pg_name (i := 5) sc.nd rfl (Or.inl rfl))
          (pss_one (ps_asg (pe_callB (call_max2 rfl) (by rfl) T.max (by decide +kernel) (pa_cons (pe_ix ix_list (pv 3) (pv 4) (fun _ _ => rfl)) (pa_cons (pe_op op_add (pe_ix ix_list (pv 3) (pv 5) (fun _ _ => rfl)) pe_int) pa_nil))) (pg_sub (pv 3) (pv 4) set_list))))))
      (pss_one (ps_ret (pe_ix ix_list (pv 3) pe_int (fun _ _ => rfl)))))))), ?_⟩
  have hwl := wt_len rows l
  refine ⟨_, rfl, _, rfl, a, r, rows, l, rfl, hb, hR, fun ck H1 s1 => ?_, hE⟩
  have hp := pln_of ck
  have hq := hq ck
  have hF := hp.fo
  have hl := hp.le
  refine ⟨_, rfl, _, rfl, a, r, rows, l, rfl, hb.mono (Stay.of s1), Same.sqt s1 hR, hF, hl, fun H2 v s2 hv => ?_⟩
  have s12 := s1.trans s2
  obtain ⟨ka, ks, rfl, kt, kl, kg⟩ := kids_get hv
  have hR2 := Same.sqt s12 hR
  refine ⟨_, rfl, r, rfl, ⟨_, hR2⟩, fun D hD => lc_map (si := 6) (Hs.start H2) hD hR2 (by rw [List.length_map]; omega) (fun i B acc => B = H2 ∧ acc = vN (List.replicate i 1)) ⟨rfl, rfl⟩ ?_ ?_⟩
  · rintro i x B' acc H' hx s ⟨rfl, rfl⟩ hh R hR
    exact hR _ _ B' (Same.refl _) hh ⟨rfl, by rw [vN, vN, List.replicate_succ', List.map_append]; rfl⟩
  rintro B acc H3 s3 ⟨rfl, rfl⟩ hh
  rw [List.length_map] at hh
  refine ⟨_, rfl, r, _, rfl, .inr (Same.sqt hh.sub hR2), _, rfl, by decide, by decide, by rw [List.length_map]; omega, by rw [List.length_map]; omega, for_rrng (n := (l.map V.str).length)
    (fun i σ H' => ∃ t4 t5 t6 hs, σ = [some (.ref a), some (.ref r), some (.ref ka), some (.ref D), t4, t5, t6] ∧ Hs B [(D, .lst (vN hs))] H' ∧ HtO (wt rows l) hs i)
    ⟨_, _, _, List.replicate l.length 1, rfl, hh, by rw [List.length_map, ← hwl]; exact HtO.start _⟩ ?_ ?_⟩
  · rintro i σ H4 hi ⟨t4, t5, t6, hs, rfl, h4, ho⟩
    rw [List.length_map] at hi
    have hiw : i < (wt rows l).length := by omega
    obtain ⟨b, e1, tb⟩ := kg i hiw
    have tb4 := Same.sqt h4.sub tb
    refine ⟨_, rfl, _, rfl, ka, _, _, _, rfl, rfl, Same.sqt h4.sub kt, atI_nat e1, b, rfl, ⟨_, tb4⟩, for_tup (K := K) (a := b) (xs := vN (kidsN (wt rows l) i))
      (fun t σ H' => ∃ t5 t6 hs, σ = [some (.ref a), some (.ref r), some (.ref ka), some (.ref D), some (.int (i : Nat)), t5, t6] ∧ Hs B [(D, .lst (vN hs))] H' ∧ HtI (wt rows l) hs i t)
      ⟨_, _, hs, rfl, h4, ho.open_⟩ (fun _ _ _ _ ⟨_, _, _, _, h, _⟩ => Same.sqt h.sub tb) ?_ ?_⟩
    · rintro t x σ H5 hx ⟨t5, t6, hs, rfl, h5, hi5⟩
      obtain ⟨n, hn, rfl⟩ := map_at hx
      have ht : t < aw (wt rows l) i := by
        have := (List.getElem?_eq_some_iff.mp hn).1
        rwa [kidsN_len] at this
      rw [kidsN_at ht] at hn
      obtain rfl := Option.some.inj hn
      have hk := hF.kd_lt hiw ht
      have hsl := hi5.len
      refine ⟨_, rfl, _, rfl, D, _, _, _, rfl, rfl, SqL.of h5.r0, atI_nat (vN_at (getD_at (by omega))), _, rfl, _, rfl, D, _, _, _, rfl, rfl, SqL.of h5.r0, atI_nat (vN_at (getD_at (by omega))), _, _, rfl, rfl, _, _, rfl, _, rfl, _, rfl, D, _, _, i, rfl, rfl, h5.r0, ixN_nat (by rw [List.length_map]; omega), _, _, _, rfl, ?_, hi5.step hiw⟩
      rw [max_int, vN_set]
      exact h5.w0
    · rintro σ H5 ⟨t5, t6, hs, rfl, h5, hi5⟩
      rw [vN, List.length_map, kidsN_len] at hi5
      exact ⟨_, _, _, hs, rfl, h5, hi5.close⟩
  · rintro σ H4 ⟨t4, t5, t6, hs, rfl, h4, ho⟩
    have hsl := ho.len
    have := hF.pos
    refine ⟨_, rfl, D, _, _, _, rfl, rfl, SqL.of h4.r0, atI_nat (j := 0) (vN_at (getD_at (by omega))), ?_⟩
    rw [ho.tall hF]
    exact hq _ (s12.trans h4.sub)
/-! counted -/
def spCounted (K : PySem.W.Frag) : Sp := fun vs H Q E => ∃ (a r : Addr) (rows : List Sy.Row) (l : List Str), vs = [.ref a, .ref r] ∧ BedAt K H a rows ∧ SqT K H r (l.map V.str) ∧ NoD H r ∧ rows.length ≤ 1000 ∧ (ckP rows l = none → ∀ H' v, Same H H' → Im K H' v (DN (rows.map fun r => l.count r.1)) → Q v H') ∧ (∀ e, ckP rows l = some e → RaE K e H E)
abbrev N_counted : List Str := ["bed", "plant", "kind"]
theorem sc_counted : FnScope N_counted ["bed", "plant"] (defScope (top 32)) := ⟨rfl, rfl, rfl, by decide +kernel, rfl, by decide +kernel, by decide +kernel⟩
theorem eqV_strs (x y : Str) : eqV (V.str x) (V.str y) = (x == y) := by
  show (x == y) = _
  rfl
theorem countP_strs (y : Str) (l : List Str) : (l.map V.str).countP (fun z => eqV z (V.str y)) = l.count y := by
  rw [List.countP_map, List.count]
  congr 1
theorem all_strs (l : List Str) : (l.map V.str).all flatV = true := by
  rw [List.all_map, List.all_eq_true]
  intro x _
  rfl
theorem k_counted (T : Txt K mg) (F : DF K mg "counted" 32) (c_check_plant : Cal P w K mg base 4 "check_plant" ["bed", "plant"] (spCheckE K ckP)) : Cal P w K mg base 5 "counted" ["bed", "plant"] (spCounted K) := by
  refine cal_of F.1 F.2 sc_counted (fun _ _ _ _ _ _ us e => match us, e with | [_, _], _ => rfl) (fun vs H Q E s => by obtain ⟨_, _, _, _, rfl, _⟩ := s; rfl) ?_
  intro cdv A outer s H vs Q E hr h
  obtain ⟨a, r, rows, l, rfl, hb, hR, hnd, hl, hq, hE⟩ := h
  have sc := sc_counted
  refine ⟨_, (pss_cons (ps_expr (pe_calX c_check_plant hr (takes_of rfl rfl rfl rfl) (pa_cons (pv 0) (pa_cons (pv 1) pa_nil))))
      (pss_one (ps_ret (pe_callTy call_tuple_of (by rfl) T.tuple (by decide +kernel) (pa_cons (pe_lc (own := [("kind", 2)]) (g := gName 2) (te := tBMT K (rTCnt K) (tVar 1) (tCons (tVar 2) tNil)) rfl sc.nd (pi_tup (pe_fld (pv 0) rfl)) (blkOk_by (N := N_counted) (sc := defScope (top 32)) (by decide +kernel)) (fun _ _ _ _ _ => (pg_name (i := 2) sc.nd rfl (Or.inl rfl))) (fun _ _ _ _ _ => pts_nil) (fun _ _ _ _ _ => (pe_bmT PySem.F.slot_tuple_count PySem.F.type_tuple_count mt_tcount (pv 1) (pa_cons (pv 2) pa_nil)))) pa_nil))))), ?_⟩
  refine ⟨_, rfl, _, rfl, a, r, rows, l, rfl, hb, hR, fun ck H1 s1 => ?_, hE⟩
  have hq := hq ck
  have hR1 := Same.sqt s1 hR
  obtain ⟨dx, dA, tR, tK, dR, ps, h1, hd, h3, h4, h5, h6⟩ := (hb.mono (Stay.of s1)).ex
  refine ⟨_, rfl, a, _, dx, _, _, rfl, h1, T.bed.cl, T.bed.nK, rfl, tK, rfl, ⟨_, h5⟩, fun D hD => lc_map (si := 2) (Hs.start H1) hD h5 (by rw [List.length_map]; omega) (fun i B acc => acc = vN ((rows.take i).map fun r => l.count r.1)) rfl ?_ ?_⟩
  · rintro i x B' acc H' hx s rfl hh R hR
    obtain ⟨y, hy, rfl⟩ := map_at hx
    have st := Same.sqt (s.trans hh.sub) hR1
    refine ⟨_, rfl, ⟨r, _, rfl, st, (hnd.mono (Stay.of s1)).mono (Stay.of (s.trans hh.sub))⟩, _, rfl, r, _, _, rfl, rfl, st, rfl, all_strs l, hR _ _ B' (Same.refl _) hh ?_⟩
    rw [List.take_succ, hy, List.map_append, vN, vN, List.map_append, countP_strs]
    rfl
  · rintro B' acc H2 s2 rfl hh
    rw [List.length_map, List.take_length] at hh
    refine ⟨D, _, rfl, .inl ⟨SqL.of hh.r0, fun p hp => hq _ _ ((s1.trans (s2.trans hh.sub)).trans (up_same hp)) (Im.nats (SqT.of upd_same))⟩⟩
/-! branches_of -/
def dBr (w : List Nat) (l : List Str) : PyData := .tuple ((List.range (aw w 0)).map fun k => DS (brn w l (kd w 0 k)))
def spBrs (K : PySem.W.Frag) : Sp := fun vs H Q E => ∃ (a r : Addr) (rows : List Sy.Row) (l : List Str), vs = [.ref a, .ref r] ∧ BedAt K H a rows ∧ SqT K H r (l.map V.str) ∧ (ckP rows l = none → ∀ H' v, Same H H' → Im K H' v (dBr (wt rows l) l) → Q v H') ∧ (∀ e, ckP rows l = some e → RaE K e H E)
abbrev N_brs : List Str := ["bed", "plant", "starts", "start"]
theorem sc_brs : FnScope N_brs ["bed", "plant"] (defScope (top 33)) := ⟨rfl, rfl, rfl, by decide +kernel, rfl, by decide +kernel, by decide +kernel⟩
theorem k_brs (T : Txt K mg) (F : DF K mg "branches_of" 33) (c_check_plant : Cal P w K mg base 4 "check_plant" ["bed", "plant"] (spCheckE K ckP)) (c_kids : Cal P w K mg base 3 "kids" ["bed", "row"] (spKids K)) (c_stop : Cal P w K mg base 2 "span_stop" ["bed", "row", "place"] (spStop K)) : Cal P w K mg base 5 "branches_of" ["bed", "plant"] (spBrs K) := by
  refine cal_of F.1 F.2 sc_brs (fun _ _ _ _ _ _ us e => match us, e with | [_, _], _ => rfl) (fun vs H Q E s => by obtain ⟨_, _, _, _, rfl, _⟩ := s; rfl) ?_
  intro cdv A outer s H vs Q E hr h
  obtain ⟨a, r, rows, l, rfl, hb, hR, hq, hE⟩ := h
  have sc := sc_brs
  refine ⟨_, (pss_cons (ps_expr (pe_calX c_check_plant hr (takes_of rfl rfl rfl rfl) (pa_cons (pv 0) (pa_cons (pv 1) pa_nil))))
      (pss_cons (ps_set (i := 2) sc.nd rfl (Or.inl rfl) (pe_ix ix_tup (pe_cal c_kids hr (pa_cons (pv 0) (pa_cons (pv 1) pa_nil))) pe_int (fun _ _ => rfl)))
      (pss_one (ps_ret (pe_callTy call_tuple_of (by rfl) T.tuple (by decide +kernel) (pa_cons (pe_lc (own := [("start", 3)]) (g := gName 3) (te := tSl (rSlA K) (tVar 1) (tPart (tVar 3)) (tPart (tCallS (spStop K) (fun _ => E0) (tCons (tVar 0) (tCons (tVar 1) (tCons (tVar 3) tNil)))))) rfl sc.nd (pi_tup (pv 2)) (blkOk_by (N := N_brs) (sc := defScope (top 33)) (by decide +kernel)) (fun _ _ _ _ _ => (pg_name (i := 3) sc.nd rfl (Or.inl rfl))) (fun _ _ _ _ _ => pts_nil) (fun _ _ _ _ _ => (pe_slice sl_tupA (pv 1) (po_some (pv 3)) (po_some (pe_cal c_stop hr (pa_cons (pv 0) (pa_cons (pv 1) (pa_cons (pv 3) pa_nil)))))))) pa_nil)))))), ?_⟩
  have hwl := wt_len rows l
  refine ⟨_, rfl, _, rfl, a, r, rows, l, rfl, hb, hR, fun ck H1 s1 => ?_, hE⟩
  have hp := pln_of ck
  have hq := hq ck
  have hF := hp.fo
  have hl := hp.le
  have h0 := hF.pos
  refine ⟨_, rfl, _, rfl, a, r, rows, l, rfl, hb.mono (Stay.of s1), Same.sqt s1 hR, hF, hl, fun H2 v s2 hv => ?_⟩
  have s12 := s1.trans s2
  obtain ⟨ka, ks, rfl, kt, kl, kg⟩ := kids_get hv
  obtain ⟨b, e1, tb⟩ := kg 0 h0
  have hal := aw_le hF h0
  refine ⟨ka, _, _, _, rfl, rfl, kt, atI_nat (j := 0) e1, _, rfl, b, rfl, ⟨_, tb⟩, fun D hD => lc_map (si := 3) (Hs.start H2) hD tb (by rw [vN, List.length_map, kidsN_len]; omega) (fun i B acc => ImA K B acc ((List.range i).map fun k => DS (brn (wt rows l) l (kd (wt rows l) 0 k)))) .nil ?_ ?_⟩
  · rintro t x B' acc H' hx s im hh R hR'
    obtain ⟨n, hn, rfl⟩ := map_at hx
    have ht : t < aw (wt rows l) 0 := by
      have := (List.getElem?_eq_some_iff.mp hn).1
      rwa [kidsN_len] at this
    rw [kidsN_at ht] at hn
    obtain rfl := Option.some.inj hn
    have hk := hF.kd_lt h0 ht
    have sH := s12.trans (s.trans hh.sub)
    have he := hF.en_le hk
    have hg := en_gt hk
    refine ⟨_, rfl, _, rfl, _, rfl, _, rfl, _, rfl, _, rfl, a, r, _, rows, l, rfl, hb.mono (Stay.of sH), Same.sqt sH hR, hF, by omega, _, rfl, sl_any (cut_mid (by omega) (by rw [List.length_map]; omega)) (Same.sqt sH hR) fun p H'' s'' tp => ?_⟩
    obtain ⟨g1, g2⟩ := hh.after s''
    have st := stay_cut hh (AllL.cons AllL.nil) s''
    refine hR' _ _ _ g1 g2 ?_
    rw [List.range_succ, List.map_append]
    refine (im.mono (Stay.of g1)).snoc (Im.strs (st.sqt ?_))
    rw [brn, List.map_take, List.map_drop]
    exact tp
  · rintro B' acc H3 s3 im hh
    rw [vN, List.length_map, kidsN_len] at im
    have sB := s3.trans hh.sub
    refine ⟨D, _, rfl, .inl ⟨SqL.of hh.r0, fun p hp => ?_⟩⟩
    have sp := hh.sub.trans (up_same (o := .tup acc) hp)
    exact hq _ _ ((s12.trans s3).trans sp) (.tup (SqT.of upd_same) (im.mono (Stay.of sp)))
/-! branch_at, replaced -/
def spBrAt (K : PySem.W.Frag) : Sp := fun vs H Q E => ∃ (a r p : Addr) (rows : List Sy.Row) (l : List Str) (zs : List Int), vs = [.ref a, .ref r, .ref p] ∧ BedAt K H a rows ∧ SqT K H r (l.map V.str) ∧ SqT K H p (zs.map V.int) ∧ zs.length ≤ 5000 ∧ (∀ y ∈ zs, y.natAbs.log2 < 1920) ∧
  (ckP rows l = none → (∀ i, pz (wt rows l) 0 zs = some i → ∀ H' v, Same H H' → Im K H' v (DS (brn (wt rows l) l i)) → Q v H') ∧ (pz (wt rows l) 0 zs = none → RaE K (.path zs) H E)) ∧ (∀ e, ckP rows l = some e → RaE K e H E)
abbrev N_brAt : List Str := ["bed", "plant", "path", "place"]
theorem sc_brAt : FnScope N_brAt ["bed", "plant", "path"] (defScope (top 36)) := ⟨rfl, rfl, rfl, by decide +kernel, rfl, by decide +kernel, by decide +kernel⟩
theorem k_brAt (T : Txt K mg) (F : DF K mg "branch_at" 36) (c_check_plant : Cal P w K mg base 4 "check_plant" ["bed", "plant"] (spCheckE K ckP)) (c_place_of : Cal P w K mg base 4 "place_of" ["bed", "row", "path"] (spPlace K)) (c_stop : Cal P w K mg base 2 "span_stop" ["bed", "row", "place"] (spStop K)) : Cal P w K mg base 5 "branch_at" ["bed", "plant", "path"] (spBrAt K) := by
  refine cal_of F.1 F.2 sc_brAt (fun _ _ _ _ _ _ us e => match us, e with | [_, _, _], _ => rfl) (fun vs H Q E s => by obtain ⟨_, _, _, _, _, _, rfl, _⟩ := s; rfl) ?_
  intro cdv A outer s H vs Q E hr h
  obtain ⟨a, r, p, rows, l, zs, rfl, hb, hR, hP, hz, hlg, hq, hE⟩ := h
  have sc := sc_brAt
  refine ⟨_, (pss_cons (ps_expr (pe_calX c_check_plant hr (takes_of rfl rfl rfl rfl) (pa_cons (pv 0) (pa_cons (pv 1) pa_nil))))
      (pss_cons (ps_set (i := 3) sc.nd rfl (Or.inl rfl) (pe_calX c_place_of hr (takes_of rfl rfl rfl rfl) (pa_cons (pv 0) (pa_cons (pv 1) (pa_cons (pv 2) pa_nil)))))
      (pss_one (ps_ret (pe_slice sl_tupA (pv 1) (po_some (pv 3)) (po_some (pe_cal c_stop hr (pa_cons (pv 0) (pa_cons (pv 1) (pa_cons (pv 3) pa_nil)))))))))), ?_⟩
  have hwl := wt_len rows l
  refine ⟨_, rfl, _, rfl, a, r, rows, l, rfl, hb, hR, fun ck H1 s1 => ?_, hE⟩
  have hp := pln_of ck
  obtain ⟨hq, hE2⟩ := hq ck
  have hF := hp.fo
  have hl := hp.le
  refine ⟨_, rfl, _, rfl, _, rfl, a, r, p, rows, l, zs, rfl, hb.mono (Stay.of s1), Same.sqt s1 hR, Same.sqt s1 hP, hF, hl, hz, hlg, fun i hi H2 s2 => ?_, fun c => ((hE2 c).ra (im_np hP)).mono s1⟩
  have hiw := pz_lt hF zs 0 i hF.pos hi
  have s12 := s1.trans s2
  have he := hF.en_le hiw
  have hg := en_gt hiw
  refine ⟨_, rfl, _, rfl, _, rfl, _, rfl, _, rfl, _, rfl, a, r, i, rows, l, rfl, hb.mono (Stay.of s12), Same.sqt s12 hR, hF, by omega, _, rfl, sl_any (cut_mid (by omega) (by rw [List.length_map]; omega)) (Same.sqt s12 hR) fun p H3 s3 tp => hq i hi _ _ (s12.trans s3) (Im.strs ?_)⟩
  rw [brn, List.map_take, List.map_drop]
  exact tp
def spRep (K : PySem.W.Frag) : Sp := fun vs H Q E => ∃ (a r p o : Addr) (rows : List Sy.Row) (l m : List Str) (zs : List Int), vs = [.ref a, .ref r, .ref p, .ref o] ∧ BedAt K H a rows ∧ SqT K H r (l.map V.str) ∧ SqT K H p (zs.map V.int) ∧ SqT K H o (m.map V.str) ∧ zs.length ≤ 5000 ∧ (∀ y ∈ zs, y.natAbs.log2 < 1920) ∧
  (ckP rows l = none → (∀ i, pz (wt rows l) 0 zs = some i → (ckP rows m = none → ((rep (wt rows l) l m i).length ≤ 2000 → ∀ H' p', Same H H' → SqT K H' p' ((rep (wt rows l) l m i).map V.str) → Q (.ref p') H') ∧ (2000 < (rep (wt rows l) l m i).length → RaE K .many H E)) ∧ (∀ e, ckP rows m = some e → RaE K e H E)) ∧ (pz (wt rows l) 0 zs = none → RaE K (.path zs) H E)) ∧ (∀ e, ckP rows l = some e → RaE K e H E)
abbrev N_rep : List Str := ["bed", "plant", "path", "other", "place", "result"]
theorem sc_rep : FnScope N_rep ["bed", "plant", "path", "other"] (defScope (top 37)) := ⟨rfl, rfl, rfl, by decide +kernel, rfl, by decide +kernel, by decide +kernel⟩
theorem k_rep (T : Txt K mg) (F : DF K mg "replaced" 37) (c_check_plant : Cal P w K mg base 4 "check_plant" ["bed", "plant"] (spCheckE K ckP)) (c_check_count : Cal P w K mg base 3 "check_count" ["number"] (spCount K)) (c_place_of : Cal P w K mg base 4 "place_of" ["bed", "row", "path"] (spPlace K)) (c_swapped : Cal P w K mg base 3 "swapped" N_swap (spSwap K)) :
    Cal P w K mg base 5 "replaced" ["bed", "plant", "path", "other"] (spRep K) := by
  refine cal_of F.1 F.2 sc_rep (fun _ _ _ _ _ _ us e => match us, e with | [_, _, _, _], _ => rfl) (fun vs H Q E s => by obtain ⟨_, _, _, _, _, _, _, _, rfl, _⟩ := s; rfl) ?_
  intro cdv A outer s H vs Q E hr h
  obtain ⟨a, r, p, o, rows, l, m, zs, rfl, hb, hR, hP, hO, hz, hlg, hq, hE⟩ := h
  have sc := sc_rep
  refine ⟨_, (pss_cons (ps_expr (pe_calX c_check_plant hr (takes_of rfl rfl rfl rfl) (pa_cons (pv 0) (pa_cons (pv 1) pa_nil))))
      (pss_cons (ps_set (i := 4) sc.nd rfl (Or.inl rfl) (pe_calX c_place_of hr (takes_of rfl rfl rfl rfl) (pa_cons (pv 0) (pa_cons (pv 1) (pa_cons (pv 2) pa_nil)))))
      (pss_cons (ps_expr (pe_calX c_check_plant hr (takes_of rfl rfl rfl rfl) (pa_cons (pv 0) (pa_cons (pv 3) pa_nil))))
      (pss_cons (ps_set (i := 5) sc.nd rfl (Or.inl rfl) (pe_cal c_swapped hr (pa_cons (pv 0) (pa_cons (pv 1) (pa_cons (pv 4) (pa_cons (pv 3) pa_nil))))))
      (pss_cons (ps_expr (pe_calX c_check_count hr (takes_of rfl rfl rfl rfl) (pa_cons (pe_callB call_len_seq (by rfl) T.len (by decide +kernel) (pa_cons (pv 5) pa_nil)) pa_nil)))
      (pss_one (ps_ret (pv 5)))))))), ?_⟩
  have hwl := wt_len rows l
  refine ⟨_, rfl, _, rfl, a, r, rows, l, rfl, hb, hR, fun ck H1 s1 => ?_, hE⟩
  have hp := pln_of ck
  obtain ⟨hq, hE2⟩ := hq ck
  have hF := hp.fo
  have hl := hp.le
  refine ⟨_, rfl, _, rfl, _, rfl, a, r, p, rows, l, zs, rfl, hb.mono (Stay.of s1), Same.sqt s1 hR, Same.sqt s1 hP, hF, hl, hz, hlg, fun i hi H2 s2 => ?_, fun c => ((hE2 c).ra (im_np hP)).mono s1⟩
  have hiw := pz_lt hF zs 0 i hF.pos hi
  have s12 := s1.trans s2
  refine ⟨_, rfl, _, rfl, a, o, rows, m, rfl, hb.mono (Stay.of s12), Same.sqt s12 hO, fun ck2 H3 s3 => ?_, fun e c => ((hq i hi).2 e c).mono s12⟩
  have hpo := pln_of ck2
  have hq := (hq i hi).1 ck2
  have s13 := s12.trans s3
  refine ⟨_, rfl, _, rfl, _, rfl, _, rfl, a, r, i, o, rows, l, m, rfl, hb.mono (Stay.of s13), Same.sqt s13 hR, Same.sqt s13 hO, hF, by omega, hl, hpo.le, fun H4 q s4 tq => ?_⟩
  have s14 := s13.trans s4
  refine ⟨_, rfl, q, _, rfl, .inr tq, _, rfl, fun c => ⟨_, rfl, hq.1 ?_ _ _ s14 tq⟩, fun c => ((hq.2 ?_).mono s14).ra im_tm⟩
  · rw [List.length_map] at c
    show (l.take i ++ m ++ l.drop (en (wt rows l) i)).length ≤ 2000
    omega
  · rw [List.length_map] at c
    show 2000 < (l.take i ++ m ++ l.drop (en (wt rows l) i)).length
    omega
end
end Sy
namespace Sy
open PySem PySem.Spec PyProof.Rows L2
/-- a dict comprehension over any walk -/
theorem dc_it {J : It} {n : Nat} {G : Hp → Prop} {Y : Nat → Hp → V → Hp → Prop} (w : Walk J n G Y) {g : TG} {tt : TT} {tk tv : TE} {vs : List Nat} {σ : L2.St} {H1 : Hp} {D : Addr} {Qd : Hp → Prop} (Pv : Nat → Hp → Prop) (h0 : Pv 0 (upd H1 D (.dK []))) (hG : ∀ i H, i ≤ n → Pv i H → G H)
    (hs : ∀ i x H H', i < n → Pv i H → Y i H x H' → g x (wipe σ vs) H' fun σ2 H2 => wipe σ2 vs = wipe σ vs ∧ tt σ2 H2 fun b H3 =>
      if b = true then tk σ2 H3 fun y H4 => tv σ2 H4 fun z H5 => ∃ kvs k, y = kV k ∧ H5 D = some (.dK kvs) ∧ kvs.length < sizeLine ∧ Pv (i + 1) (upd H5 D (.dK (putK kvs k z))) else Pv (i + 1) H3) (hd : ∀ H, Pv n H → Qd H) :
    ∃ W : Nat → Nat → Hp → Prop, (∃ m, W 0 m (upd H1 D (.dK []))) ∧ ∀ i m H, W i m H →
      (J.stop i H ∧ Qd H) ∨ (J.go i H ∧ ∃ Nx : Hp → Prop, (∀ H', Nx H' → ∃ m', m' < m ∧ W (i + 1) m' H') ∧ ∀ x H', J.yld i H x H' → g x (wipe σ vs) H' fun σ2 H2 => wipe σ2 vs = wipe σ vs ∧ tt σ2 H2 fun b H3 =>
        if b = true then tk σ2 H3 fun y H4 => tv σ2 H4 fun z H5 => ∃ kvs k, y = kV k ∧ H5 D = some (.dK kvs) ∧ kvs.length < sizeLine ∧ Nx (upd H5 D (.dK (putK kvs k z))) else Nx H3) := by
  refine ⟨fun i m H => i + m = n ∧ Pv i H, ⟨n, Nat.zero_add n, h0⟩, fun i m H ⟨e, p⟩ => ?_⟩
  have q := hG i H (by omega) p
  cases m with
  | zero =>
    obtain rfl : i = n := by omega
    exact .inl ⟨w.stops H q, hd H p⟩
  | succ m =>
    exact .inr ⟨w.goes i H (by omega) q, Pv (i + 1), fun H' p' => ⟨m, Nat.lt_succ_self m, by omega, p'⟩, fun x H' y => hs i x H H' (by omega) p (w.yields i H x H' (by omega) q y)⟩
theorem paired_at {α β : Type} {R : α → β → Prop} : ∀ {xs : List α} {ys : List β} {i : Nat} {y : β}, Paired R xs ys → ys[i]? = some y → ∃ x, xs[i]? = some x ∧ R x y
  | _, _, i, y, .nil, h => by simp at h
  | _, _, 0, y, .cons a _, h => by
    simp at h
    subst h
    exact ⟨_, rfl, a⟩
  | _, _, i + 1, y, .cons _ b, h => by
    obtain ⟨x, h1, h2⟩ := paired_at (i := i) b (by simpa using h)
    exact ⟨x, by simpa using h1, h2⟩
theorem paired_len {α β : Type} {R : α → β → Prop} : ∀ {xs : List α} {ys : List β}, Paired R xs ys → xs.length = ys.length
  | _, _, .nil => rfl
  | _, _, .cons _ b => by rw [List.length_cons, List.length_cons, paired_len b]
def nameOk (x : Str) : Bool := decide (x.length ≤ 8) && (Txt.isascii x && (Txt.isalpha x && Txt.islower x))
def leafs (rows : List Sy.Row) : List Str := (rows.filter fun r => decide (r.2 = 0)).map (·.1)
/-- rows of which a bed is made -/
structure RowsOk (rows : List Sy.Row) : Prop where
  nm : ∀ r ∈ rows, nameOk r.1 = true
  br : ∀ r ∈ rows, r.2 ≤ 3
  nd : (rows.map (·.1)).Nodup
  lf : ∃ r ∈ rows, r.2 = 0
  le : rows.length ≤ 8
theorem lookup_none {rows : List Sy.Row} {x : Str} (h : ∀ r ∈ rows, r.1 ≠ x) : rows.lookup x = none := by
  induction rows with
  | nil => rfl
  | cons r rs ih =>
    rw [lookup_cons, if_neg (h r List.mem_cons_self)]
    exact ih fun q hq => h q (List.mem_cons_of_mem _ hq)
theorem nodup_take {rows : List Sy.Row} (nd : (rows.map (·.1)).Nodup) {i : Nat} {r : Sy.Row} (h : rows[i]? = some r) : ∀ q ∈ rows.take i, q.1 ≠ r.1 := by
  intro q hq e
  obtain ⟨j, hj, ej⟩ := List.mem_iff_getElem.mp hq
  rw [List.length_take] at hj
  rw [List.getElem_take] at ej
  obtain ⟨hi, er⟩ := List.getElem?_eq_some_iff.mp h
  have hlt : j < rows.length := by omega
  have := List.pairwise_iff_getElem.mp nd j i (by rw [List.length_map]; omega) (by rw [List.length_map]; omega) (by omega)
  rw [List.getElem_map, List.getElem_map, ej, er] at this
  exact this e
section
variable {P : Program} {w : World} {K : PySem.W.Frag} {mg : Str → Option Value} {base : Heap}
/-! only_letters, is_name -/
def spLetters : Sp := fun vs H Q _ => ∃ x : Str, vs = [.str x] ∧ Q (.bl (Txt.isascii x && (Txt.isalpha x && Txt.islower x))) H
theorem sc_letters : FnScope ["text"] ["text"] (defScope (top 41)) := ⟨rfl, rfl, rfl, by decide +kernel, rfl, by decide +kernel, by decide +kernel⟩
theorem k_letters (F : DF K mg "only_letters" 41) : Cal P w K mg base 1 "only_letters" ["text"] spLetters := by
  refine cal_of F.1 F.2 sc_letters (fun _ _ _ _ _ _ us e => match us, e with | [_], _ => rfl) (fun vs H Q E s => by obtain ⟨_, rfl, _⟩ := s; rfl) ?_
  intro cdv A outer s H vs Q E hr h
  obtain ⟨x, rfl, hq⟩ := h
  refine ⟨_, (pss_one (ps_ret (pe_and (pe_bm0 PySem.F.plainAttrs_str PySem.F.slot_str_isascii PySem.F.type_str_isascii mt_isascii (pv 0)) (pe_and (pe_bm0 PySem.F.plainAttrs_str PySem.F.slot_str_isalpha PySem.F.type_str_isalpha mt_isalpha (pv 0)) (pe_one (pe_bm0 PySem.F.plainAttrs_str PySem.F.slot_str_islower PySem.F.type_str_islower mt_islower (pv 0))))))), ?_⟩
  refine ⟨_, rfl, rfl, x, rfl, rfl, trivial, _, rfl, if_bool (fun c1 => ?_) (fun c1 => ?_)⟩
  · rw [c1] at hq
    refine ⟨_, rfl, rfl, x, rfl, rfl, trivial, _, rfl, if_bool (fun c2 => ?_) (fun c2 => ?_)⟩
    · rw [c2] at hq
      exact ⟨_, rfl, rfl, x, rfl, rfl, trivial, hq⟩
    · rw [c2] at hq
      exact hq
  · rw [c1] at hq
    exact hq
def spName : Sp := fun vs H Q _ => ∃ x : Str, vs = [.str x] ∧ x.length ≤ 1000000 ∧ Q (.bl (nameOk x)) H
theorem sc_name : FnScope ["text"] ["text"] (defScope (top 42)) := ⟨rfl, rfl, rfl, by decide +kernel, rfl, by decide +kernel, by decide +kernel⟩
theorem k_name (T : Txt K mg) (F : DF K mg "is_name" 42) (c_only_letters : Cal P w K mg base 1 "only_letters" ["text"] spLetters) : Cal P w K mg base 2 "is_name" ["text"] spName := by
  refine cal_of F.1 F.2 sc_name (fun _ _ _ _ _ _ us e => match us, e with | [_], _ => rfl) (fun vs H Q E s => by obtain ⟨_, rfl, _⟩ := s; rfl) ?_
  intro cdv A outer s H vs Q E hr h
  obtain ⟨x, rfl, hx, hq⟩ := h
  refine ⟨_, (pss_one (ps_ret (pe_and (pe_cmpR op_le (pe_callB call_len_str (by rfl) T.len (by decide +kernel) (pa_cons (pv 0) pa_nil)) (pe_gint rfl T.LONGEST_NAME) (nomark _)) (pe_one (pe_cal c_only_letters hr (pa_cons (pv 0) pa_nil)))))), ?_⟩
  have e8 : decide ((x.length : Int) ≤ 8) = decide (x.length ≤ 8) := by
    by_cases h : x.length ≤ 8
    · rw [decide_eq_true h, decide_eq_true (by omega)]
    · rw [decide_eq_false h, decide_eq_false (by omega)]
  unfold nameOk at hq
  rw [← e8] at hq
  refine ⟨_, rfl, x, rfl, by rw [sizeLine_eq]; omega, _, _, rfl, rfl, _, rfl, if_bool (fun c1 => ?_) (fun c1 => ?_)⟩
  · rw [c1] at hq
    exact ⟨_, rfl, x, rfl, hq⟩
  · rw [c1] at hq
    exact hq
/-! methods of Bed -/
structure MB (K : PySem.W.Frag) (m q : Str) (st : Stmt) : Prop where
  me : Meth K (He.ga K "Bed") m (He.ma K (He.ga K "Bed") m)
  fn : ∃ fd, FunD K m q (defArgs st) (defBody st) (defScope st) [] [] (He.ma K (He.ga K "Bed") m) fd
structure CalM (P : Program) (w : World) (K : PySem.W.Frag) (mg : Str → Option Value) (base : Heap) (k : Nat) (m : Str) (ps : List Str) (sp : Sp) : Prop where
  me : Meth K (He.ga K "Bed") m (He.ma K (He.ga K "Bed") m)
  fn : ∃ fd, FnOk P w K mg base (L2.CX P w) k (He.ma K (He.ga K "Bed") m) fd ps sp ∧ Binds K fd ps []
theorem calM_of {m q : Str} {st : Stmt} {N ps : List Str} {k : Nat} {sp : Sp} (F : MB K m q st) (S : FnScope N ps (defScope st))
    (hb : ∀ (kV doc pm : Value) (an : Option Addr) (cdv ct : Value) (us : List Value), us.length = ps.length → bindArgs (PySem.W.fnOf m q (defArgs st) (defBody st) (defScope st) .none kV doc pm an cdv ct) ⟨us, []⟩ = pure (ps.zip us))
    (len : ∀ vs H Q E, sp vs H Q E → vs.length = ps.length)
    (body : ∀ (cdv : Value) (A : Around) (outer : List Env) (s : Shared) (H : Hp) (vs : List V) (Q : VK) (E : XK), Room k (A.deeper (envOfC q (defScope st) s.heap.objs.size (He.ma K (He.ga K "Bed") m) cdv)) → sp vs H Q E →
      ∃ t, PSs (cxOf (L2.CX P w) P w K mg base N q (defScope st) (He.ma K (He.ga K "Bed") m) cdv A outer s H E) (defBody st) t ∧ t { nx := fun _ H' => Q .non H', rt := Q } (start N vs) H) : CalM P w K mg base (k + 1) m ps sp := by
  obtain ⟨me, fd, F⟩ := F
  exact ⟨me, fd, F.ok S len body, F.bindsN hb⟩
abbrev WdB (x : Str) : Prop := x.length ≤ 100 ∧ ∀ c ∈ x.cps.toList, c < 16 ^ 8
def spBranches (K : PySem.W.Frag) : Sp := fun vs H Q E => ∃ (a : Addr) (rows : List Sy.Row) (x : Str), vs = [.ref a, .str x] ∧ BedAt K H a rows ∧ WdB x ∧ (isK rows x = true → Q (.int (ar rows x : Nat)) H) ∧ (isK rows x = false → RaE K (.kind x) H E)
theorem sc_branches : FnScope ["self", "kind"] ["self", "kind"] (defScope (clb 43 4)) := ⟨rfl, rfl, rfl, by decide +kernel, rfl, by decide +kernel, by decide +kernel⟩
theorem k_branches (T : Txt K mg) (R : Ers P K mg) (F : MB K "branches" "Bed.branches" (clb 43 4)) : CalM P w K mg base 3 "branches" ["self", "kind"] (spBranches K) := by
  refine calM_of F sc_branches (fun _ _ _ _ _ _ us e => match us, e with | [_, _], _ => rfl) (fun vs H Q E s => by obtain ⟨_, _, _, rfl, _⟩ := s; rfl) ?_
  intro cdv A outer s H vs Q E hr h
  obtain ⟨a, rows, x, rfl, hb, hx, hq, hE⟩ := h
  have hu := hu_of hr
  obtain ⟨dx, dA, tR, tK, dR, ps, h1, hd, h3, h4, h5, h6⟩ := hb.ex
  refine ⟨_, (pss_cons (ps_if (pt_cmp (pc_dnotin hu (pv 1) (pe_fld (pv 0) rfl)))
        (pss_one (ps_raise rfl (takes_of rfl rfl rfl rfl) (mk_uk R.uk hr rfl (pa_cons (pv 1) pa_nil) pass0)))
        pss_nil)
      (pss_one (ps_ret (pe_dget hu (pe_fld (pv 0) rfl) (pv 1) (fun _ _ => rfl))))), ?_⟩
  refine ⟨_, rfl, _, rfl, a, _, dx, _, _, rfl, h1, T.bed.cl, T.bed.nA, rfl, dA, _, rfl, DGet.k (k := Sum.inr x) hd, _, rfl, ?_⟩
  cases e : rows.lookup x with
  | none =>
    have hv : valV (arKV rows) (Sum.inr x : Key) = none := by rw [valV_ar, e]; rfl
    rw [hv]
    refine iteT ⟨_, rfl, mk_ra (fun _ _ => ⟨x, rfl, hx, rfl⟩) (by show 1 ≤ 1000; decide) ((hE (by unfold isK; rw [e]; rfl)).ra (.cons (.str _) .nil))⟩
  | some n =>
    have hv : valV (arKV rows) (Sum.inr x : Key) = some (.int (n : Nat)) := by rw [valV_ar, e]; rfl
    rw [hv]
    refine iteF ⟨_, rfl, a, _, dx, _, _, rfl, h1, T.bed.cl, T.bed.nA, rfl, _, rfl, dA, .int (n : Nat), rfl, ?_, ?_⟩
    · rw [← hv]
      exact DGet.k (k := Sum.inr x) hd
    · have q := hq (by unfold isK; rw [e]; rfl)
      have : ar rows x = n := by unfold ar; rw [e]; rfl
      rw [this] at q
      exact q
def spLeaves (K : PySem.W.Frag) : Sp := fun vs H Q _ => ∃ (a : Addr) (rows : List Sy.Row), vs = [.ref a] ∧ BedAt K H a rows ∧ rows.length ≤ 1000 ∧ ∀ H' p, Same H H' → SqT K H' p ((leafs rows).map V.str) → Q (.ref p) H'
abbrev N_leaves : List Str := ["self", "name", "branches"]
theorem sc_leaves : FnScope N_leaves ["self"] (defScope (clb 43 3)) := ⟨rfl, rfl, rfl, by decide +kernel, rfl, by decide +kernel, by decide +kernel⟩
theorem k_leaves (T : Txt K mg) (F : MB K "leaves" "Bed.leaves" (clb 43 3)) : CalM P w K mg base 1 "leaves" ["self"] (spLeaves K) := by
  refine calM_of F sc_leaves (fun _ _ _ _ _ _ us e => match us, e with | [_], _ => rfl) (fun vs H Q E s => by obtain ⟨_, _, rfl, _⟩ := s; rfl) ?_
  intro cdv A outer s H vs Q E hr h
  obtain ⟨a, rows, rfl, hb, hl, hq⟩ := h
  have sc := sc_leaves
  obtain ⟨dx, dA, tR, tK, dR, ps, h1, hd, h3, h4, h5, h6⟩ := hb.ex
  have hpl := paired_len h6
  refine ⟨_, (pss_one (ps_ret (pe_callTy call_tuple_of (by rfl) T.tuple (by decide +kernel) (pa_cons (pe_lc (own := [("name", 1), ("branches", 2)]) (g := gTup K 2 (gCons (gName 1) (gCons (gName 2) (gNil)))) rfl sc.nd (pi_tup (pe_fld (pv 0) rfl)) (blkOk_by (N := N_leaves) (sc := defScope (clb 43 3)) (by decide +kernel)) (fun _ _ _ _ _ => (pg_tup rfl (pgs_cons (pg_name (i := 1) sc.nd rfl (Or.inl rfl)) (pgs_cons (pg_name (i := 2) sc.nd rfl (Or.inl rfl)) pgs_nil)))) (fun _ _ _ _ _ => (pts_one (pt_cmpR op_eq (pv 2) pe_int (nomark _)))) (fun _ _ _ _ _ => (pv 1))) pa_nil)))), ?_⟩
  refine ⟨_, rfl, a, _, dx, _, _, rfl, h1, T.bed.cl, T.bed.nR, rfl, tR, rfl, ⟨_, h4⟩, fun D hD => lc_it walk_tup (fun i H' => Hs H [(D, .lst ((leafs (rows.take i)).map V.str))] H') ((Hs.start H).new hD) (fun _ _ _ p => Same.sqt p.sub h4) ?_ ?_⟩
  · rintro i x H' _ hi hh ⟨rfl, hx⟩
    rw [List.length_map, hpl] at hi
    obtain ⟨r, hr'⟩ : ∃ r, rows[i]? = some r := ⟨_, List.getElem?_eq_getElem hi⟩
    obtain ⟨q, e1, tq⟩ := paired_at h6 hr'
    rw [List.getElem?_map, e1] at hx
    cases hx
    have etk : rows.take (i + 1) = rows.take i ++ [r] := by rw [List.take_succ, hr']; rfl
    have ll : (leafs (rows.take i)).length ≤ 1000 := by
      unfold leafs
      rw [List.length_map]
      have := List.length_filter_le (fun r : Sy.Row => decide (r.2 = 0)) (rows.take i)
      rw [List.length_take] at this
      omega
    refine ⟨q, _, rfl, Same.sqt hh.sub tq, rfl, _, _, rfl, _, _, rfl, rfl, rfl, _, rfl, rfl, _, rfl, if_dec (fun c => ?_) (fun c => ?_)⟩
    · refine ⟨_, rfl, _, hh.r0, by rw [List.length_map, sizeLine_eq]; omega, ?_⟩
      have c2 : r.2 = 0 := by
        have := V.int.inj c
        omega
      have : leafs (rows.take (i + 1)) = leafs (rows.take i) ++ [r.1] := by
        unfold leafs
        rw [etk, List.filter_append, List.map_append]
        simp [c2]
      rw [this, List.map_append]
      exact hh.w0
    · have c2 : ¬ r.2 = 0 := fun z => c (by rw [z]; rfl)
      have : leafs (rows.take (i + 1)) = leafs (rows.take i) := by
        unfold leafs
        rw [etk, List.filter_append, List.map_append]
        simp [c2]
      rw [this]
      exact hh
  · intro H' hh
    rw [List.length_map, hpl, List.take_length] at hh
    exact ⟨D, _, rfl, .inl ⟨SqL.of hh.r0, fun l hl => hq _ _ (hh.sub.trans (up_same hl)) (SqT.of upd_same)⟩⟩
end
end Sy
namespace Sy
open PySem PySem.Spec PyProof.Rows L2
section
variable {P : Program} {w : World} {K : PySem.W.Frag} {mg : Str → Option Value} {base : Heap}
/-- what a def with a star asks, by what its body asks -/
def spStar (n : Nat) (sp : Sp) : Sp := fun vs H Q E => ∃ ws rest, vs = ws ++ rest ∧ ws.length = n ∧ rest.length ≤ sizeLine ∧ ∀ p, H p = Option.none → sp (ws ++ [V.ref p]) (upd H p (.tup rest)) Q E
theorem fnR_of {x q pv : Str} {st : Stmt} {f : Addr} {fd : FuncData} {N ps : List Str} {k : Nat} {sp : Sp} (F : FunD K x q (defArgs st) (defBody st) (defScope st) [] [] f fd) (S : FnScope N (ps ++ [pv]) (defScope st))
    (hb : ∀ (kV doc pm : Value) (an : Option Addr) (cdv ct : Value) (us rest : List Value), us.length = ps.length → bindArgs (PySem.W.fnOf x q (defArgs st) (defBody st) (defScope st) .none kV doc pm an cdv ct) ⟨us ++ rest, []⟩ = (newTuple rest >>= fun t => pure (ps.zip us ++ [(pv, t)])))
    (body : ∀ (cdv : Value) (A : Around) (outer : List Env) (s : Shared) (H : Hp) (vs : List V) (Q : VK) (E : XK), Room k (A.deeper (envOfC q (defScope st) s.heap.objs.size f cdv)) → sp vs H Q E →
      ∃ t, PSs (cxOf (L2.CX P w) P w K mg base N q (defScope st) f cdv A outer s H E) (defBody st) t ∧ t { nx := fun _ H' => Q .non H', rt := Q } (start N vs) H) : FnR P w K mg base (L2.CX P w) (k + 1) f (spStar ps.length sp) := by
  obtain ⟨oc, od, dV, kV, doc, pm, an, cdv, ct, osl, rfl, lk, hcd, hD, hK⟩ := F.ex
  rcases hD with ⟨_, rfl⟩ | ⟨e, _⟩
  · exact StX.fn_star lk hcd S StX.cxUp (hb kV doc pm an cdv ct) fun A outer s H vs Q E hr h => body cdv A outer s H vs Q E hr h
  · exact absurd rfl e
/-! Bed.__init__ -/
def spInitB (K : PySem.W.Frag) : Sp := fun vs H Q _ => ∃ (x p dx : Addr) (ps : List Addr) (rows : List Sy.Row), vs = [.ref x, .ref p] ∧ H x = some (.ins (He.ga K "Bed") dx []) ∧ SqT K H p (ps.map V.ref) ∧ Paired (fun q (r : Sy.Row) => SqT K H q [.str r.1, .int (r.2 : Nat)]) ps rows ∧ RowsOk rows ∧
  ∀ H', (∀ a o, a ≠ x → H a = some o → H' a = some o) → BedAt K H' x rows → Q .non H'
abbrev N_init : List Str := ["self", "kinds", "place", "name", "branches", "rank"]
theorem sc_init : FnScope N_init ((["self"] : List Str) ++ (["kinds"] : List Str)) (defScope (clb 43 0)) := ⟨rfl, rfl, rfl, by decide +kernel, rfl, by decide +kernel, by decide +kernel⟩
theorem sqt_del {H : Hp} {x p C dx : Addr} {fs : List (Str × V)} {xs : List V} (h : SqT K H p xs) (hx : H x = some (.ins C dx fs)) : SqT K (L2.del H x) p xs := by
  have ne : ∀ o, H p = some o → (∀ C dx fs, o ≠ .ins C dx fs) → p ≠ x := fun o e n z => by
    rw [z, hx] at e
    exact n _ _ _ (Option.some.inj e).symm
  rcases h with (h | ⟨o, h⟩) | h
  · exact .inl (.inl (by rw [del_ne (ne _ h fun _ _ _ z => by cases z)]; exact h))
  · exact .inl (.inr ⟨o, by rw [del_ne (ne _ h fun _ _ _ z => by cases z)]; exact h⟩)
  · exact .inr h
theorem nx_le (x : Str) (h : nameOk x = true) : x.length ≤ 8 := by
  unfold nameOk at h
  exact of_decide_eq_true (Bool.and_eq_true_iff.mp h).1
theorem rkKV_snoc : ∀ (l : List Sy.Row) (n : Nat) (r : Sy.Row), rkKV n (l ++ [r]) = rkKV n l ++ [(Sum.inr r.1, V.int ((n + l.length : Nat) : Int))]
  | [], n, r => rfl
  | q :: l, n, r => by
    show (Sum.inr q.1, V.int (n : Nat)) :: rkKV (n + 1) (l ++ [r]) = _
    rw [rkKV_snoc l (n + 1) r, show n + 1 + l.length = n + (q :: l).length by rw [List.length_cons]; omega]
    rfl
theorem rkKV_len : ∀ (l : List Sy.Row) (n : Nat), (rkKV n l).length = l.length
  | [], _ => rfl
  | q :: l, n => by
    show (rkKV (n + 1) l).length + 1 = _
    rw [rkKV_len l (n + 1)]
    rfl
theorem rk_none : ∀ {l : List Sy.Row} {n : Nat} {x : Str}, (∀ q ∈ l, q.1 ≠ x) → rk n l x = none
  | [], _, _, _ => rfl
  | q :: l, n, x, h => by
    rw [rk, if_neg (h q List.mem_cons_self)]
    exact rk_none fun z hz => h z (List.mem_cons_of_mem _ hz)
theorem leafs_pos {rows : List Sy.Row} (h : ∃ r ∈ rows, r.2 = 0) : 0 < (leafs rows).length := by
  obtain ⟨r, hr, e⟩ := h
  unfold leafs
  rw [List.length_map]
  exact List.length_pos_of_mem (List.mem_filter.mpr ⟨hr, decide_eq_true e⟩)
theorem r_init (T : Txt K mg) (F : MB K "__init__" "Bed.__init__" (clb 43 0)) (c_is_name : Cal P w K mg base 2 "is_name" ["text"] spName) (c_leaves : CalM P w K mg base 1 "leaves" ["self"] (spLeaves K)) :
    FnR P w K mg base (L2.CX P w) 3 (He.ma K (He.ga K "Bed") "__init__") (spStar 1 (spInitB K)) := by
  obtain ⟨me, fd, F⟩ := F
  obtain ⟨mL, fL, FL, BL⟩ := c_leaves
  refine fnR_of (ps := ["self"]) F sc_init (fun kV doc pm an cdv ct => StX.bind_star1 (B := fun l => bindArgs (PySem.W.fnOf "__init__" "Bed.__init__" (defArgs (clb 43 0)) (defBody (clb 43 0)) (defScope (clb 43 0)) .none kV doc pm an cdv ct) ⟨l, []⟩) (fun _ => rfl) (fun _ _ _ => rfl)) ?_
  intro cdv A outer s H vs Q E hr h
  obtain ⟨x, p, dx, ps, rows, rfl, hx, hp, hpr, ok, hq⟩ := h
  have hu := hu_of hr
  have sc := sc_init
  refine ⟨_, (pss_cons (ps_if (pt_cmpR op_gt (pe_callB call_len_seq (by rfl) T.len (by decide +kernel) (pa_cons (pv 1) pa_nil)) (pe_gint rfl T.MOST_KINDS) (nomark _))
        (pss_one ps_never)
        pss_nil)
      (pss_cons (ps_fld (pv 0) pe_dnewK rfl)
      (pss_cons (ps_for (passes_of rfl) rfl (pi_enumT (by rfl) T.enumerate (pa_cons (pv 1) pa_nil)) (pg_tup rfl (pgs_cons (pg_name (i := 2) sc.nd rfl (Or.inl rfl)) (pgs_cons (pg_tup rfl (pgs_cons (pg_name (i := 3) sc.nd rfl (Or.inl rfl)) (pgs_cons (pg_name (i := 4) sc.nd rfl (Or.inl rfl)) pgs_nil))) pgs_nil)))
        (pss_cons (ps_if (pt_not (pt_val (pe_cal c_is_name hr (pa_cons (pv 3) pa_nil))))
          (pss_one ps_never)
          pss_nil)
        (pss_cons (ps_if (PW.pt (pw_or (pt_cmpR op_lt (pv 4) pe_int (nomark _)) (pw_or1 (pt_cmpR op_gt (pv 4) (pe_gint rfl T.MOST_BRANCHES) (nomark _)))))
          (pss_one ps_never)
          pss_nil)
        (pss_cons (ps_if (pt_cmp (pc_din hu (pv 3) (pe_fld (pv 0) rfl)))
          (pss_one ps_never)
          pss_nil)
        (pss_one (ps_dput hu (pe_fld (pv 0) rfl) (pv 3) (pv 4) rfl))))))
      (pss_cons (ps_fld (pv 0) (pe_callTy call_tuple_of (by rfl) T.tuple (by decide +kernel) (pa_cons (pv 1) pa_nil)) rfl)
      (pss_cons (ps_fld (pv 0) (pe_callTy call_tuple_of (by rfl) T.tuple (by decide +kernel) (pa_cons (pe_lc (own := [("name", 3), ("branches", 4)]) (g := gTup K 2 (gCons (gName 3) (gCons (gName 4) (gNil)))) rfl sc.nd (pi_tup (pv 1)) (blkOk_by (N := N_init) (sc := defScope (clb 43 0)) (by decide +kernel)) (fun _ _ _ _ _ => (pg_tup rfl (pgs_cons (pg_name (i := 3) sc.nd rfl (Or.inl rfl)) (pgs_cons (pg_name (i := 4) sc.nd rfl (Or.inl rfl)) pgs_nil)))) (fun _ _ _ _ _ => pts_nil) (fun _ _ _ _ _ => (pv 3))) pa_nil)) rfl)
      (pss_cons (ps_fld (pv 0) (pe_dc (own := [("rank", 5), ("name", 3)]) (g := gTup K 2 (gCons (gName 5) (gCons (gName 3) (gNil)))) rfl sc.nd (pi_enumT (by rfl) T.enumerate (pa_cons (pe_fld (pv 0) rfl) pa_nil)) (blkOk_by (N := N_init) (sc := defScope (clb 43 0)) (by decide +kernel)) (fun _ _ _ _ _ => (pg_tup rfl (pgs_cons (pg_name (i := 5) sc.nd rfl (Or.inl rfl)) (pgs_cons (pg_name (i := 3) sc.nd rfl (Or.inl rfl)) pgs_nil)))) (fun _ _ _ _ _ => pts_nil) (fun _ _ _ _ _ => (pv 3)) (fun _ _ _ _ _ => (pv 5))) rfl)
      (pss_one (ps_if (pt_cmpR op_eq (pe_callB call_len_seq (by rfl) T.len (by decide +kernel) (pa_cons (pe_meth0 (pv 0) T.bed.cl mL FL (hr.mono (by decide)) BL .nil (E := E0) (fun pins σ H s e s' I h => passL pins σ H s e s' I h)) pa_nil)) pe_int (nomark _))
        (pss_one ps_never)
        pss_nil)))))))), ?_⟩
  have hpl := paired_len hpr
  have hle := ok.le
  -- known for good: all but the new object
  have k0 : Hs (L2.del H x) [(x, .ins (He.ga K "Bed") dx [])] H := (Hs.start H).take hx
  have hp0 := sqt_del hp hx
  have hpr0 : Paired (fun q (r : Sy.Row) => SqT K (L2.del H x) q [.str r.1, .int (r.2 : Nat)]) ps rows := Paired.mapP hpr fun _ _ z => sqt_del z hx
  generalize hB : L2.del H x = B at *
  refine ⟨_, rfl, p, _, rfl, .inr hp, _, _, rfl, rfl, _, rfl, ?_⟩
  rw [List.length_map, hpl, decide_eq_false (by omega)]
  refine iteF fun d hd => ?_
  have k1 := k0.new (o := .dK []) hd
  refine ⟨_, rfl, x, _, dx, _, rfl, k1.r1, T.bed.cl, T.bed.nA, by decide, ?_⟩
  have k2 := k1.w1 (o' := .ins (He.ga K "Bed") dx (putF "arities" (.ref d) []))
  refine ⟨_, rfl, p, _, rfl, Same.sqt k2.sub hp0, for_it walkE (fun i σ H' => ∃ t2 t3 t4, σ = [some (.ref x), some (.ref p), t2, t3, t4, none] ∧ Hs B [(d, .dK (arKV (rows.take i))), (x, .ins (He.ga K "Bed") dx [("arities", .ref d)])] H') ⟨none, none, none, rfl, k2⟩ (fun _ _ _ _ ⟨_, _, _, _, z⟩ => Same.sqt z.sub hp0) ?_ ?_⟩
  · rintro i v σ H1 H2 hi ⟨t2, t3, t4, rfl, hh⟩ ⟨T1, u1, u2, rfl, hT, rfl, e1, e2⟩
    cases e1
    rw [List.length_map, hpl] at hi
    obtain ⟨r, hr'⟩ : ∃ r, rows[i]? = some r := ⟨_, List.getElem?_eq_getElem hi⟩
    obtain ⟨q, eq, tq⟩ := paired_at hpr0 hr'
    have e2 : (ps.map V.ref)[i]? = some u2 := e2
    rw [List.getElem?_map, eq] at e2
    cases e2
    have hm := List.mem_of_getElem? hr'
    have hh := hh.lay (o := .tup [.int (i : Nat), .ref q]) hT
    have hnone : ∀ z ∈ rows.take i, z.1 ≠ r.1 := nodup_take ok.nd hr'
    have vn : valV (arKV (rows.take i)) (Sum.inr r.1 : Key) = none := by rw [valV_ar, lookup_none hnone]; rfl
    have hbr := ok.br r hm
    have hnm := ok.nm r hm
    have etk : rows.take (i + 1) = rows.take i ++ [r] := by rw [List.take_succ, hr']; rfl
    refine ⟨T1, _, rfl, SqT.of upd_same, rfl, _, _, rfl, _, _, rfl, q, _, rfl, Same.sqt hh.sub tq, rfl, _, _, rfl, _, _, rfl, rfl, rfl, ?_⟩
    refine ⟨_, rfl, r.1, rfl, Nat.le_trans (nx_le _ hnm) (by decide), _, rfl, ?_⟩
    rw [hnm]
    refine iteF ⟨_, rfl, _, _, rfl, rfl, _, rfl, ?_⟩
    rw [decide_eq_false (by omega)]
    refine iteF ⟨_, rfl, _, _, rfl, rfl, _, rfl, ?_⟩
    rw [decide_eq_false (by omega)]
    refine iteF ⟨_, rfl, _, rfl, x, _, dx, _, _, rfl, hh.r1, T.bed.cl, T.bed.nA, rfl, d, _, rfl, DGet.k (k := Sum.inr r.1) hh.r0, _, rfl, ?_⟩
    rw [vn]
    refine iteF ⟨_, rfl, _, rfl, x, _, dx, _, _, rfl, hh.r1, T.bed.cl, T.bed.nA, rfl, _, rfl, d, _, rfl, DPut.k (k := Sum.inr r.1) hh.r0 (by unfold arKV; rw [List.length_map, List.length_take, sizeLine_eq]; omega), ?_⟩
    refine ⟨_, _, _, rfl, ?_⟩
    rw [putK_new _ vn, etk]
    unfold arKV
    rw [List.map_append]
    exact hh.w0
  · rintro σ H1 ⟨t2, t3, t4, rfl, hh⟩
    rw [List.length_map, hpl, List.take_length] at hh
    -- rows
    refine ⟨_, rfl, p, _, rfl, .inr ⟨Same.sqt hh.sub hp0, ?_⟩⟩
    refine ⟨_, rfl, x, _, dx, _, rfl, hh.r1, T.bed.cl, T.bed.nR, (by show 1 < 1000; decide), ?_⟩
    have k3 := hh.w1 (o' := .ins (He.ga K "Bed") dx [("arities", .ref d), ("rows", .ref p)])
    -- kinds
    refine ⟨_, rfl, p, rfl, ⟨_, Same.sqt k3.sub hp0⟩, fun D hD => lc_it walk_tup (fun i H' => Hs B [(D, .lst ((rows.take i).map fun r => V.str r.1)), (d, .dK (arKV rows)), (x, .ins (He.ga K "Bed") dx [("arities", .ref d), ("rows", .ref p)])] H') (k3.new hD) (fun _ _ _ z => Same.sqt z.sub hp0) ?_ ?_⟩
    · rintro i v H1 _ hi hh ⟨rfl, hv⟩
      rw [List.length_map, hpl] at hi
      obtain ⟨r, hr'⟩ : ∃ r, rows[i]? = some r := ⟨_, List.getElem?_eq_getElem hi⟩
      obtain ⟨q, eq, tq⟩ := paired_at hpr0 hr'
      rw [List.getElem?_map, eq] at hv
      cases hv
      refine ⟨q, _, rfl, Same.sqt hh.sub tq, rfl, _, _, rfl, _, _, rfl, rfl, rfl, ?_⟩
      simp only [tYes, if_true]
      refine ⟨_, rfl, _, hh.r0, by rw [List.length_map, List.length_take, sizeLine_eq]; omega, ?_⟩
      rw [List.take_succ, hr', List.map_append]
      exact hh.w0
    intro H2 hh
    rw [List.length_map, hpl, List.take_length] at hh
    refine ⟨D, _, rfl, .inl ⟨SqL.of hh.r0, fun tK hK => ?_⟩⟩
    have k4 := (hh.drop).new (o := .tup (rows.map fun r => V.str r.1)) hK
    refine ⟨_, rfl, x, _, dx, _, rfl, k4.r2, T.bed.cl, T.bed.nK, (by show 2 < 1000; decide), ?_⟩
    have k5 := k4.w2 (o' := .ins (He.ga K "Bed") dx [("arities", .ref d), ("rows", .ref p), ("kinds", .ref tK)])
    -- ranks
    refine ⟨_, rfl, x, _, dx, _, _, rfl, k5.r2, T.bed.cl, T.bed.nK, rfl, tK, _, rfl, SqT.of k5.r0, fun R hR => dc_it walkE (fun i H' => Hs B [(R, .dK (rkKV 0 (rows.take i))), (tK, .tup (rows.map fun r => V.str r.1)), (d, .dK (arKV rows)), (x, .ins (He.ga K "Bed") dx [("arities", .ref d), ("rows", .ref p), ("kinds", .ref tK)])] H') (k5.new hR) (fun _ _ _ z => SqT.of z.r1) ?_ ?_⟩
    · rintro i v H1 H2 hi hh ⟨T1, u1, u2, rfl, hT, rfl, e1, e2⟩
      cases e1
      rw [List.length_map] at hi
      obtain ⟨r, hr'⟩ : ∃ r, rows[i]? = some r := ⟨_, List.getElem?_eq_getElem hi⟩
      have e2 : (rows.map fun r => V.str r.1)[i]? = some u2 := e2
      rw [List.getElem?_map, hr'] at e2
      cases e2
      have hh := hh.lay (o := .tup [.int (i : Nat), .str r.1]) hT
      have vn : valV (rkKV 0 (rows.take i)) (Sum.inr r.1 : Key) = none := by rw [valV_rk, rk_none (nodup_take ok.nd hr')]; rfl
      refine ⟨T1, _, rfl, SqT.of upd_same, rfl, _, _, rfl, _, _, rfl, rfl, rfl, ?_⟩
      simp only [tYes, if_true]
      refine ⟨_, rfl, _, rfl, _, Sum.inr r.1, rfl, hh.r0, by rw [rkKV_len, List.length_take, sizeLine_eq]; omega, ?_⟩
      rw [putK_new _ vn, List.take_succ, hr']
      show Hs B [(R, .dK (rkKV 0 (rows.take i ++ [r]))), _, _, _] _
      rw [rkKV_snoc, List.length_take, show 0 + min i rows.length = i by omega]
      exact hh.w0
    intro H3 hh
    rw [List.length_map, List.take_length] at hh
    refine ⟨_, rfl, x, _, dx, _, rfl, hh.r3, T.bed.cl, T.bed.nRk, (by show 3 < 1000; decide), ?_⟩
    generalize hH4 : upd H3 x (.ins (He.ga K "Bed") dx (putF "ranks" (.ref R) [("arities", .ref d), ("rows", .ref p), ("kinds", .ref tK)])) = H4
    have hx4 : H4 x = some (.ins (He.ga K "Bed") dx (bedF d p tK R)) := by rw [← hH4]; exact upd_same
    have nx : ∀ a o, a ≠ x → H3 a = some o → H4 a = some o := fun a o n e => by rw [← hH4, upd_ne n]; exact e
    have sB : Same B H4 := fun a o e => nx a o (fun z => by rw [z, ← hB, del_same] at e; cases e) (hh.sub a o e)
    have nK : tK ≠ x := ne_of hh.r1 hh.r3 (by intro z; cases z)
    have nd : d ≠ x := ne_of hh.r2 hh.r3 (by intro z; cases z)
    have nR : R ≠ x := ne_of hh.r0 hh.r3 (by intro z; cases z)
    have bed : BedAt K H4 x rows := ⟨dx, d, p, tK, R, ps, hx4, nx _ _ nd hh.r2, nx _ _ nR hh.r0, Same.sqt sB hp0, SqT.of (nx _ _ nK hh.r1), Paired.mapP hpr0 fun _ _ z => Same.sqt sB z⟩
    refine ⟨_, rfl, x, dx, _, rfl, hx4, rfl, x, rows, rfl, bed, by omega, fun H5 t s5 ht => ?_⟩
    refine ⟨t, _, rfl, .inr ht, rfl, _, rfl, ?_⟩
    have := leafs_pos ok.lf
    rw [List.length_map, decide_eq_false (fun z => by have := V.int.inj z; omega)]
    refine iteF (hq _ (fun a o n e => ?_) (bed.mono (Stay.of s5)))
    refine s5 _ _ (sB _ _ ?_)
    rw [← hB, del_ne n]
    exact e
end
end Sy
namespace Sy
open PySem PySem.Spec PyProof.Rows L2
section
variable {P : Program} {w : World} {K : PySem.W.Frag} {mg : Str → Option Value} {base : Heap}
structure CalR (P : Program) (w : World) (K : PySem.W.Frag) (mg : Str → Option Value) (base : Heap) (k : Nat) (x : Str) (sp : Sp) : Prop where
  fn : FnR P w K mg base (L2.CX P w) k (He.ga K x) sp
  at_ : mg x = some (.ref (He.ga K x))
  kp : PySem.W.keepIn K (.ref (He.ga K x)) = true
/-- f(..), f with a star -/
theorem pe_calR {X : Cx} {k j : Nat} {x : Str} {sp : Sp} {p pos : Pos} {e : Expr} {es : List Expr} {t : TA} {E : XK} (c : CalR X.prog X.w X.K X.mg X.base j x sp) (hr : Room k X.A) (tk : Takes X (fun cls d _ H => E cls d H)) (ha : PA X (e :: es) t) (hk : j ≤ k := by decide) (hg : Gl X x := by rfl) (hdb : (x == ("__debug__" : Str)) = false := by decide)
    (he : starEach (e :: es) X.env = (false, eval e X.env) :: starEach es X.env := by rfl) (hpl : (backTo pos (starEach es X.env)).any (·.1) = false := by rfl) : PE X (.Call (.Name x p) (e :: es) [] pos) (fun σ H Q => t σ H fun vs H1 => sp vs H1 Q E) := by
  constructor
  intro pins s σ H Q I h
  refine wpAny_Call_Name_kw (ld_glob I hg c.at_ ?_ hdb)
  refine PySem.W.callWith_K (h₀ := X.base) I.ok.mod.kin c.kp (thn (ha.run pos pins s σ H _ I h) fun us s1 ⟨vs, H1, I1, r, q⟩ => ⟨I1.kIn, ?_⟩) he hpl
  exact wpAny_call (run_fnR c.fn (hr.mono hk) (fun pins σ H s e s' I h => passAt tk σ pins H s e s' I h) I1 r q)
/-- a bed is made -/
theorem pe_bed {X : Cx} {k : Nat} {p pos : Pos} {e : Expr} {es : List Expr} {t : TA} (M : Mk X.K (He.ga X.K "Bed") (He.ma X.K (He.ga X.K "Bed") "__init__")) (at_ : X.mg "Bed" = some (.ref (He.ga X.K "Bed")))
    (F : FnR X.prog X.w X.K X.mg X.base (L2.CX X.prog X.w) 3 (He.ma X.K (He.ga X.K "Bed") "__init__") (spStar 1 (spInitB X.K))) (hr : Room k X.A) (ha : PA X (e :: es) t) (hk : 4 ≤ k := by decide) (hg : Gl X "Bed" := by rfl)
    (he : starEach (e :: es) X.env = (false, eval e X.env) :: starEach es X.env := by rfl) (hpl : (backTo pos (starEach es X.env)).any (·.1) = false := by rfl) : PE X (.Call (.Name "Bed" p) (e :: es) [] pos) (StX.tMakeR (He.ga X.K "Bed") (spStar 1 (spInitB X.K)) E0 t) :=
  StX.pe_makeR M F (hr.mono hk) hg at_ (fun pins σ H s e s' I h => passL pins σ H s e s' I h) ha (by decide) he hpl
/-- what making it asks -/
theorem bed_of {vs : List V} {H : Hp} {Q : VK} {ps : List Addr} {rows : List Sy.Row} (ev : vs = ps.map V.ref) (hp : Paired (fun q (r : Sy.Row) => SqT K H q [.str r.1, .int (r.2 : Nat)]) ps rows) (ok : RowsOk rows) (h : ∀ H' a, Same H H' → BedAt K H' a rows → Q (.ref a) H') :
    ∀ x dx, H x = Option.none → H dx = Option.none → dx ≠ x → spStar 1 (spInitB K) (V.ref x :: vs) (upd (upd H dx (.own x)) x (.ins (He.ga K "Bed") dx [])) (fun v H2 => v = .non ∧ Q (.ref x) H2) E0 := by
  intro x dx hx hdx ne
  subst ev
  have hpl := paired_len hp
  have hle := ok.le
  have s1 : Same H (upd H dx (.own x)) := up_same hdx
  have hx1 : (upd H dx (.own x)) x = none := by rw [upd_ne ne.symm]; exact hx
  have s2 : Same H (upd (upd H dx (.own x)) x (.ins (He.ga K "Bed") dx [])) := s1.trans (up_same hx1)
  refine ⟨[.ref x], ps.map V.ref, rfl, rfl, by rw [List.length_map, sizeLine_eq]; omega, fun p hp' => ?_⟩
  have s3 := s2.trans (up_same (o := .tup (ps.map V.ref)) hp')
  have nx : x ≠ p := fun z => by rw [← z, upd_same] at hp'; cases hp'
  refine ⟨x, p, dx, ps, rows, rfl, by rw [upd_ne nx]; exact upd_same, SqT.of upd_same, Paired.mapP hp fun _ _ z => Same.sqt s3 z, ok, fun H' keep bed => ⟨rfl, h H' x (fun b o e => keep b o (fun z => ?_) (s3 _ _ e)) bed⟩⟩
  rw [z, hx] at e
  cases e
/-! planted -/
/-- first invalid piece -/
def fstE (ck : List Str → Option Er) : List (List Str) → Option Er
  | [] => none
  | l :: ls => match ck l with
    | some e => some e
    | none => fstE ck ls
theorem fstE_at {ck : List Str → Option Er} {e : Er} {l : List Str} : ∀ {ls : List (List Str)} {i : Nat}, (∀ z ∈ ls.take i, ck z = none) → ls[i]? = some l → ck l = some e → fstE ck ls = some e
  | [], _, _, h, _ => by simp at h
  | z :: zs, 0, _, h, c => by
    simp at h
    subst h
    rw [fstE, c]
  | z :: zs, i + 1, a, h, c => by
    rw [fstE, a z (by simp)]
    exact fstE_at (i := i) (fun y hy => a y (by simp [hy])) (by simpa using h) c
theorem fstE_none {ck : List Str → Option Er} : ∀ {ls : List (List Str)}, (∀ z ∈ ls, ck z = none) → fstE ck ls = none
  | [], _ => rfl
  | z :: zs, h => by
    rw [fstE, h z List.mem_cons_self]
    exact fstE_none fun y hy => h y (List.mem_cons_of_mem _ hy)
def plDue (rows : List Sy.Row) (x : Str) (ls : List (List Str)) : Option Er := if isK rows x = false then some (.kind x) else if ls.length ≠ ar rows x then some (.wrong (ar rows x) ls.length) else match fstE (ckP rows) ls with
  | some e => some e
  | none => if 2000 < (x :: ls.flatten).length then some .many else none
theorem flat_le {m : Nat} : ∀ {ls : List (List Str)}, (∀ l ∈ ls, l.length ≤ m) → ls.flatten.length ≤ m * ls.length
  | [], _ => Nat.zero_le _
  | l :: ls, h => by
    have a := h l List.mem_cons_self
    have b := flat_le fun z hz => h z (List.mem_cons_of_mem l hz)
    rw [List.flatten_cons, List.length_append, List.length_cons, Nat.mul_succ]
    omega
def spPlanted (K : PySem.W.Frag) : Sp := fun vs H Q E => ∃ (a b : Addr) (x : Str) (rows : List Sy.Row) (bs : List Addr) (ls : List (List Str)), vs = [.ref a, .str x, .ref b] ∧ BedAt K H a rows ∧ WdB x ∧ SqT K H b (bs.map V.ref) ∧ Paired (fun q (l : List Str) => SqT K H q (l.map V.str)) bs ls ∧ ls.length ≤ 100 ∧ (∀ r ∈ rows, r.2 ≤ 100) ∧
  (plDue rows x ls = none → ∀ H' p, Same H H' → SqT K H' p ((x :: ls.flatten).map V.str) → Q (.ref p) H') ∧ (∀ e, plDue rows x ls = some e → RaE K e H E)
abbrev N_planted : List Str := ["bed", "kind", "below", "wanted", "result", "plant"]
theorem sc_planted : FnScope N_planted ((["bed", "kind"] : List Str) ++ (["below"] : List Str)) (defScope (top 34)) := ⟨rfl, rfl, rfl, by decide +kernel, rfl, by decide +kernel, by decide +kernel⟩
theorem ar_le {rows : List Sy.Row} {m : Nat} (h : ∀ r ∈ rows, r.2 ≤ m) (x : Str) : ar rows x ≤ m := by
  unfold ar
  induction rows with
  | nil => exact Nat.zero_le _
  | cons r rs ih =>
    rw [lookup_cons]
    split
    · exact h r List.mem_cons_self
    · exact ih fun z hz => h z (List.mem_cons_of_mem _ hz)
theorem r_planted (T : Txt K mg) (R : Ers P K mg) (F : DF K mg "planted" 34) (c_branches : CalM P w K mg base 3 "branches" ["self", "kind"] (spBranches K)) (c_check_plant : Cal P w K mg base 4 "check_plant" ["bed", "plant"] (spCheckE K ckP)) (c_check_count : Cal P w K mg base 3 "check_count" ["number"] (spCount K)) :
    CalR P w K mg base 5 "planted" (spStar 2 (spPlanted K)) := by
  obtain ⟨⟨fd, F⟩, at_⟩ := F
  obtain ⟨mB, fB, FB, BB⟩ := c_branches
  refine ⟨fnR_of (ps := ["bed", "kind"]) F sc_planted (fun kV doc pm an cdv ct => StX.bind_star2 (B := fun l => bindArgs (PySem.W.fnOf "planted" "planted" (defArgs (top 34)) (defBody (top 34)) (defScope (top 34)) .none kV doc pm an cdv ct) ⟨l, []⟩) (fun _ _ => rfl) (fun _ _ _ _ => rfl)) ?_, at_, F.kp⟩
  intro cdv A outer s H vs Q E hr h
  obtain ⟨a, b, x, rows, bs, ls, rfl, hb, hx, hB, hP, hl2, har, hq, hE⟩ := h
  have hu := hu_of hr
  have sc := sc_planted
  refine ⟨_, (pss_cons (ps_set (i := 3) sc.nd rfl (Or.inl rfl) (pe_meth (pv 0) T.bed.cl mB FB (hr.mono (by decide)) BB .nil (E := E) (fun pins σ H s e s' I h => passAt (takes_of rfl rfl rfl rfl) σ pins H s e s' I h) (pa_cons (pv 1) pa_nil)))
      (pss_cons (ps_if (pt_cmpR op_ne (pe_callB call_len_seq (by rfl) T.len (by decide +kernel) (pa_cons (pv 2) pa_nil)) (pv 3) (nomark _))
        (pss_one (ps_raise rfl (takes_of rfl rfl rfl rfl) (mk_wb R.wb hr rfl (pa_cons (pv 3) (pa_cons (pe_callB call_len_seq (by rfl) T.len (by decide +kernel) (pa_cons (pv 2) pa_nil)) pa_nil)) pass0)))
        pss_nil)
      (pss_cons (ps_set (i := 4) sc.nd rfl (Or.inl rfl) (pe_lst (pa_cons (pv 1) pa_nil)))
      (pss_cons (ps_for (passes_of rfl) rfl (pi_tup (pv 2)) (pg_name (i := 5) sc.nd rfl (Or.inl rfl))
        (pss_cons (ps_expr (pe_calX c_check_plant hr (takes_of rfl rfl rfl rfl) (pa_cons (pv 0) (pa_cons (pv 5) pa_nil))))
        (pss_one (ps_expr (pe_bm PySem.F.plainAttrs_list PySem.F.slot_list_extend PySem.F.type_list_extend mt_extend (pv 4) (pa_cons (pe_callTy call_list_of (by rfl) T.list (by decide +kernel) (pa_cons (pv 5) pa_nil)) pa_nil))))))
      (pss_cons (ps_expr (pe_calX c_check_count hr (takes_of rfl rfl rfl rfl) (pa_cons (pe_callB call_len_seq (by rfl) T.len (by decide +kernel) (pa_cons (pv 4) pa_nil)) pa_nil)))
      (pss_one (ps_ret (pe_callTy call_tuple_of (by rfl) T.tuple (by decide +kernel) (pa_cons (pv 4) pa_nil))))))))), ?_⟩
  have hbl := paired_len hP
  obtain ⟨dx, dA, tR, tK, dR, pp, h1, hd, h3, h4, h5, h6⟩ := id hb.ex
  refine ⟨_, rfl, a, dx, _, rfl, h1, rfl, _, rfl, a, rows, x, rfl, hb, hx, fun hk => ?_, fun hk => hE _ (by unfold plDue; rw [if_pos hk])⟩
  have hk2 : ¬ isK rows x = false := by rw [hk]; decide
  have hal := ar_le har x
  refine ⟨_, rfl, b, _, rfl, .inr hB, _, rfl, rfl, _, rfl, ?_⟩
  rw [List.length_map, hbl]
  refine if_ndec (fun c => ?_) (fun c => ?_)
  · have c : ls.length ≠ ar rows x := fun z => c (by rw [z])
    refine ⟨_, rfl, _, rfl, b, _, rfl, .inr hB, mk_ra (fun _ _ => ⟨ar rows x, ls.length, by rw [List.length_map, hbl], by omega, by omega, rfl⟩) (by show 2 ≤ 1000; decide) ((hE (.wrong (ar rows x) ls.length) (by unfold plDue; rw [if_neg hk2, if_pos c])).ra (.cons (.int _) (.cons (.int _) .nil)))⟩
  have hl : ls.length = ar rows x := by have := V.int.inj c; omega
  have due : plDue rows x ls = match fstE (ckP rows) ls with
      | some e => some e
      | none => if 2000 < (x :: ls.flatten).length then some .many else none := by
    unfold plDue
    rw [if_neg hk2, if_neg (fun z => z hl)]
  refine ⟨_, rfl, (by show 1 ≤ sizeLine; decide), fun D hD => ?_⟩
  have k1 := (Hs.start H).new (o := .lst [.str x]) hD
  refine ⟨_, rfl, b, rfl, ⟨_, Same.sqt k1.sub hB⟩, for_tup (K := K) (a := b) (xs := bs.map V.ref) (fun i σ H' => ∃ t5 B, σ = [some (.ref a), some (.str x), some (.ref b), some (.int (ar rows x : Nat)), some (.ref D), t5] ∧ Same H B ∧ Hs B [(D, .lst ((x :: (ls.take i).flatten).map V.str))] H' ∧ ∀ z ∈ ls.take i, ckP rows z = none) ⟨none, H, rfl, Same.refl H, k1, fun _ z => (nomatch z)⟩ (fun _ _ _ _ ⟨_, _, _, s, z, _⟩ => Same.sqt (s.trans z.sub) hB) ?_ ?_⟩
  · rintro i v σ H1 hv ⟨t5, B, rfl, sB, hh, hpl⟩
    obtain ⟨q, eq, rfl⟩ := map_at hv
    have hi : i < ls.length := by rw [← hbl]; exact (List.getElem?_eq_some_iff.mp eq).1
    obtain ⟨l, el⟩ : ∃ l, ls[i]? = some l := ⟨_, List.getElem?_eq_getElem hi⟩
    obtain ⟨q2, eq2, tq⟩ := paired_at hP el
    rw [eq] at eq2
    cases eq2
    have hm := List.mem_of_getElem? el
    have sH := sB.trans hh.sub
    refine ⟨_, rfl, _, rfl, a, q, rows, l, rfl, hb.mono (Stay.of sH), Same.sqt sH tq, fun ck H2 s2 => ?_, fun e c => (hE e (by rw [due, fstE_at hpl el c])).mono sH⟩
    obtain ⟨g1, g2⟩ := hh.after s2
    have htl := flat_le (m := 2000) (ls := ls.take i) fun z hz => (pln_of (hpl z hz)).le
    have htl2 := (pln_of ck).le
    have hti : (ls.take i).length ≤ 100 := by rw [List.length_take]; omega
    refine ⟨_, rfl, .inl ⟨rfl, _, SqL.of g2.r0⟩, _, rfl, q, _, rfl, .inr (Same.sqt (sH.trans s2) tq), fun m hm2 => ?_⟩
    have g3 := g2.lay (o := .lst (l.map V.str)) hm2
    refine ⟨D, m, _, _, rfl, rfl, g3.r0, upd_same, ?_, ?_⟩
    · rw [List.length_map, List.length_map, List.length_cons, sizeLine_eq]
      omega
    · refine ⟨_, _, rfl, sB.trans g1, ?_, fun z hz => ?_⟩
      · rw [List.take_succ, el]
        show Hs _ [(D, .lst ((x :: (ls.take i ++ [l]).flatten).map V.str))] _
        rw [List.flatten_append, ← List.cons_append, List.map_append]
        have : ([l] : List (List Str)).flatten = l := by simp
        rw [this]
        exact g3.w0
      · rw [List.take_succ, el] at hz
        rcases List.mem_append.mp hz with hz | hz
        · exact hpl z hz
        · rw [show z = l by simpa using hz]
          exact ck
  · rintro σ H1 ⟨t5, B, rfl, sB, hh, hpl⟩
    rw [List.length_map, hbl, List.take_length] at hh hpl
    rw [fstE_none hpl] at due
    have due : plDue rows x ls = if 2000 < (x :: ls.flatten).length then some .many else none := due
    have sH := sB.trans hh.sub
    refine ⟨_, rfl, D, _, rfl, .inl (SqL.of hh.r0), _, rfl, fun c => ⟨_, rfl, D, _, rfl, .inl ⟨SqL.of hh.r0, fun p hp => ?_⟩⟩, fun c => ((hE .many ?_).mono sH).ra im_tm⟩
    · rw [List.length_map] at c
      exact hq (by rw [due, if_neg (by omega)]) _ _ (sH.trans (up_same hp)) (SqT.of upd_same)
    · rw [List.length_map] at c
      rw [due, if_pos (by omega)]
end
end Sy
namespace Sy
open PySem PySem.Spec PyProof.Rows L2
structure TxtS (mg : Str → Option Value) : Prop where
  hole : ∃ t, mg "HOLE" = some (.str "*" t)
  zip : mg "zip" = none
  sum : mg "sum" = none
  str : mg "str" = none
theorem ixN_last (n : Nat) : ixN (n + 1) (-1) = some n := by
  unfold ixN
  rw [if_neg (by omega), if_pos (by omega)]
  congr 1
  omega
theorem atI_last {α : Type} (xs : List α) (y : α) : atI (xs ++ [y]) (-1) = some y := by
  unfold atI
  rw [List.length_append]
  show ((ixN (xs.length + 1) (-1)).bind _) = _
  rw [ixN_last]
  simp
section
variable {P : Program} {w : World} {K : PySem.W.Frag} {mg : Str → Option Value} {base : Heap}
/-! stump_key -/
def spKeyS (K : PySem.W.Frag) : Sp := fun vs H Q E => ∃ (a r : Addr) (rows : List Sy.Row) (l : List Str), vs = [.ref a, .ref r] ∧ BedAt K H a rows ∧ SqT K H r (l.map V.str) ∧ (ckS rows l = none → ∀ H' v, Same H H' → Im K H' v (.tuple [.int (l.length : Nat), DN (l.map (rkD rows))]) → Q v H') ∧ (∀ e, ckS rows l = some e → RaE K e H E)
theorem sc_keyS : FnScope ["bed", "stump"] ["bed", "stump"] (defScope (top 47)) := ⟨rfl, rfl, rfl, by decide +kernel, rfl, by decide +kernel, by decide +kernel⟩
theorem k_keyS (T : Txt K mg) (F : DF K mg "stump_key" 47) (c_check_stump : Cal P w K mg base 4 "check_stump" ["bed", "stump"] (spCheckE K ckS)) (c_row_key : Cal P w K mg base 2 "row_key" ["bed", "row"] (spKey K)) : Cal P w K mg base 5 "stump_key" ["bed", "stump"] (spKeyS K) := by
  refine cal_of F.1 F.2 sc_keyS (fun _ _ _ _ _ _ us e => match us, e with | [_, _], _ => rfl) (fun vs H Q E s => by obtain ⟨_, _, _, _, rfl, _⟩ := s; rfl) ?_
  intro cdv A outer s H vs Q E hr h
  obtain ⟨a, r, rows, l, rfl, hb, hR, hq, hE⟩ := h
  refine ⟨_, (pss_cons (ps_expr (pe_calX c_check_stump hr (takes_of rfl rfl rfl rfl) (pa_cons (pv 0) (pa_cons (pv 1) pa_nil))))
      (pss_one (ps_ret (pe_cal c_row_key hr (pa_cons (pv 0) (pa_cons (pv 1) pa_nil)))))), ?_⟩
  exact ⟨_, rfl, _, rfl, a, r, rows, l, rfl, hb, hR, fun ck H1 s1 => ⟨_, rfl, _, rfl, a, r, rows, l, rfl, hb.mono (Stay.of s1), Same.sqt s1 hR, (stm_of ck).le, fun H2 v s2 hv => hq ck _ v (s1.trans s2) hv⟩, hE⟩
/-! joined_text -/
def spJoin (K : PySem.W.Frag) : Sp := fun vs H Q E => ∃ (a r : Addr) (rows : List Sy.Row) (l : List Str), vs = [.ref a, .ref r] ∧ BedAt K H a rows ∧ SqT K H r (l.map V.str) ∧ l.length ≤ 2000 ∧ (∀ x ∈ l, x.length ≤ 100) ∧ ∀ H' x, Same H H' → Q (.str x) H'
abbrev N_join : List Str := ["bed", "row", "pieces", "missing", "entry", "below"]
theorem sc_join : FnScope N_join ["bed", "row"] (defScope (top 56)) := ⟨rfl, rfl, rfl, by decide +kernel, rfl, by decide +kernel, by decide +kernel⟩
theorem sum_le {m : Nat} : ∀ {ws : List Str}, (∀ x ∈ ws, x.length ≤ m) → (ws.map (·.length)).sum ≤ m * ws.length
  | [], _ => Nat.zero_le _
  | x :: ws, h => by
    have a := h x List.mem_cons_self
    have b := sum_le fun z hz => h z (List.mem_cons_of_mem x hz)
    rw [List.map_cons, List.sum_cons, List.length_cons, Nat.mul_succ]
    omega
theorem vN_snoc (ms : List Nat) (m : Nat) : vN (ms ++ [m]) = vN ms ++ [.int (m : Nat)] := by rw [vN, vN, List.map_append]; rfl
theorem k_join (T : Txt K mg) (F : DF K mg "joined_text" 56) (c_arity : Cal P w K mg base 1 "arity" ["bed", "entry"] (spArity K)) : Cal P w K mg base 2 "joined_text" ["bed", "row"] (spJoin K) := by
  refine cal_of F.1 F.2 sc_join (fun _ _ _ _ _ _ us e => match us, e with | [_, _], _ => rfl) (fun vs H Q E s => by obtain ⟨_, _, _, _, rfl, _⟩ := s; rfl) ?_
  intro cdv A outer s H vs Q E hr h
  obtain ⟨a, r, rows, l, rfl, hb, hR, hl, hx, hq⟩ := h
  have sc := sc_join
  refine ⟨_, (pss_cons (ps_set (i := 2) sc.nd rfl (Or.inl rfl) (pe_lst pa_nil))
      (pss_cons (ps_set (i := 3) sc.nd rfl (Or.inl rfl) (pe_lst pa_nil))
      (pss_cons (ps_for (passes_of rfl) rfl (pi_tup (pv 1)) (pg_name (i := 4) sc.nd rfl (Or.inl rfl))
        (pss_cons (ps_expr (pe_bm PySem.F.plainAttrs_list PySem.F.slot_list_append PySem.F.type_list_append mt_append (pv 2) (pa_cons (pv 4) pa_nil)))
        (pss_cons (ps_set (i := 5) sc.nd rfl (Or.inl rfl) (pe_cal c_arity hr (pa_cons (pv 0) (pa_cons (pv 4) pa_nil))))
        (pss_cons (ps_if (pt_cmpR op_gt (pv 5) pe_int (nomark _))
          (pss_cons (ps_expr (pe_bm PySem.F.plainAttrs_list PySem.F.slot_list_append PySem.F.type_list_append mt_append (pv 2) (pa_cons pe_str pa_nil)))
          (pss_cons (ps_expr (pe_bm PySem.F.plainAttrs_list PySem.F.slot_list_append PySem.F.type_list_append mt_append (pv 3) (pa_cons (pv 5) pa_nil)))
          (pss_one ps_continue)))
          pss_nil)
        (pss_cons (ps_while (passes_of rfl) (PW.pt (pw_and (pt_truth (pv 3) (by intro _; rfl)) (pw_and1 (pt_cmpR op_eq (pe_ix ix_list (pv 3) (pe_un un_neg pe_int) (fun _ _ => rfl)) pe_int (nomark _)))))
          (pss_cons (ps_expr (pe_bm PySem.F.plainAttrs_list PySem.F.slot_list_append PySem.F.type_list_append mt_append (pv 2) (pa_cons pe_str pa_nil)))
          (pss_one (ps_expr (pe_bm0 PySem.F.plainAttrs_list PySem.F.slot_list_pop PySem.F.type_list_pop mt_pop (pv 3))))))
        (pss_one (ps_if (pt_truth (pv 3) (by intro _; rfl))
          (pss_cons (ps_expr (pe_bm PySem.F.plainAttrs_list PySem.F.slot_list_append PySem.F.type_list_append mt_append (pv 2) (pa_cons pe_str pa_nil)))
          (pss_one (ps_asg (pe_op op_sub (pe_ix ix_list (pv 3) (pe_un un_neg pe_int) (fun _ _ => rfl)) pe_int) (pg_sub (pv 3) (pe_un un_neg pe_int) set_list))))
          pss_nil)))))))
      (pss_one (ps_ret (pe_join pe_str (pv 2))))))), ?_⟩
  refine ⟨by decide, fun PD hPD => ?_⟩
  have h1 := (Hs.start H).new (o := .lst []) hPD
  refine ⟨by decide, fun MD hMD => ?_⟩
  have h2 := (h1.new (o := .lst []) hMD).swap
  refine ⟨_, rfl, r, rfl, ⟨_, Same.sqt h2.sub hR⟩, for_tup (K := K) (a := r) (xs := l.map V.str) (fun i σ H' => ∃ (t4 t5 : Option V) (B : Hp) (ws : List Str) (ms : List Int), σ = [some (.ref a), some (.ref r), some (.ref PD), some (.ref MD), t4, t5] ∧ Same H B ∧ Hs B [(PD, .lst (ws.map V.str)), (MD, .lst (ms.map V.int))] H' ∧ (∀ x ∈ ws, x.length ≤ 100) ∧ ws.length + ms.length ≤ 3 * i)
    ⟨none, none, H, [], [], rfl, Same.refl H, h2, fun _ z => (nomatch z), Nat.le_refl _⟩ (fun _ _ _ _ ⟨_, _, _, _, _, _, s, h, _⟩ => Same.sqt (s.trans h.sub) hR) ?_ ?_⟩
  · rintro i v σ H1 hv ⟨t4, t5, B, ws, ms, rfl, sB, hh, hw, hlen⟩
    obtain ⟨y, hy, rfl⟩ := map_at hv
    have hi : i < l.length := (List.getElem?_eq_some_iff.mp hy).1
    have ym := List.mem_of_getElem? hy
    have big : ∀ n : Nat, n ≤ 3 * i + 3 → n + 1 ≤ sizeLine := fun n hn => by rw [sizeLine_eq]; omega
    refine ⟨_, rfl, .inl ⟨rfl, _, SqL.of hh.r0⟩, _, rfl, PD, _, _, rfl, rfl, hh.r0, by rw [List.length_map]; exact big _ (by omega), ?_⟩
    have g1 := hh.w0 (o' := .lst (ws.map V.str ++ [.str y]))
    have e1 : ws.map V.str ++ [.str y] = (ws ++ [y]).map V.str := by rw [List.map_append]; rfl
    rw [e1] at g1 ⊢
    have hw1 : ∀ x ∈ ws ++ [y], x.length ≤ 100 := fun x hm => by
      rcases List.mem_append.mp hm with hm | hm
      · exact hw x hm
      · rw [List.mem_singleton.mp hm]; exact hx y ym
    have hlen1 : (ws ++ [y]).length = ws.length + 1 := by simp
    generalize ws ++ [y] = ws1 at *
    refine ⟨_, rfl, _, rfl, a, rows, y, rfl, hb.mono (Stay.of (sB.trans g1.sub)), ?_⟩
    refine ⟨_, rfl, _, _, rfl, rfl, _, rfl, if_dec (fun c => ?_) (fun c => ?_)⟩
    · refine ⟨_, rfl, .inl ⟨rfl, _, SqL.of g1.r0⟩, PD, _, _, rfl, rfl, g1.r0, by rw [List.length_map]; exact big _ (by omega), ?_⟩
      have g2 := g1.w0 (o' := .lst (ws1.map V.str ++ [.str "("]))
      have e2 : ws1.map V.str ++ [.str "("] = (ws1 ++ [("(" : Str)]).map V.str := by rw [List.map_append]; rfl
      rw [e2] at g2 ⊢
      refine ⟨_, rfl, .inl ⟨rfl, _, SqL.of g2.r1⟩, _, rfl, MD, _, _, rfl, rfl, g2.r1, by rw [List.length_map]; exact big _ (by omega), ?_⟩
      refine ⟨_, _, B, ws1 ++ [("(" : Str)], ms ++ [((ar rows y : Nat) : Int)], rfl, sB, ?_, fun x hm => ?_, ?_⟩
      · rw [List.map_append (f := V.int)]
        exact g2.w1
      · rcases List.mem_append.mp hm with hm | hm
        · exact hw1 x hm
        · rw [List.mem_singleton.mp hm]; decide
      · rw [List.length_append, List.length_append]
        show ws1.length + 1 + (ms.length + 1) ≤ _
        omega
    · refine ⟨fun m σ H' => ∃ (ws : List Str) (ms : List Int), m = ms.length ∧ σ = [some (.ref a), some (.ref r), some (.ref PD), some (.ref MD), some (.str y), some (.int (ar rows y : Nat))] ∧ Hs B [(PD, .lst (ws.map V.str)), (MD, .lst (ms.map V.int))] H' ∧ (∀ x ∈ ws, x.length ≤ 100) ∧ ws.length + ms.length ≤ 3 * i + 1, ⟨_, ws1, ms, rfl, rfl, g1, hw1, by omega⟩, ?_⟩
      rintro m σ H2 ⟨ws, ms, rfl, rfl, g, hw, hlen⟩
      rcases List.eq_nil_or_concat ms with rfl | ⟨ini, z, rfl⟩
      · refine ⟨_, rfl, _, .inl ⟨_, SqL.of g.r1, rfl⟩, iteF ?_⟩
        refine ⟨_, rfl, _, .inl ⟨_, SqL.of g.r1, rfl⟩, iteF ?_⟩
        exact ⟨_, _, B, ws, [], rfl, sB, g, hw, by omega⟩
      · rw [List.concat_eq_append] at g hlen
        rw [List.concat_eq_append]
        have em : (ini ++ [z]).map V.int = ini.map V.int ++ [.int z] := by rw [List.map_append]; rfl
        have tr : ((ini ++ [z]).map V.int).isEmpty = false := by rw [em]; simp
        have la : atI ((ini ++ [z]).map V.int) (-1) = some (.int z) := by rw [em]; exact atI_last _ _
        have hlm : (ini ++ [z]).length = ini.length + 1 := by simp
        have tt : (!((ini ++ [z]).map V.int).isEmpty) = true := by rw [tr]; rfl
        refine ⟨_, rfl, _, .inl ⟨_, SqL.of g.r1, rfl⟩, ?_⟩
        rw [tt]
        refine iteT ⟨_, rfl, _, rfl, MD, _, _, _, rfl, rfl, SqL.of g.r1, la, rfl, _, rfl, if_dec (fun c2 => ?_) (fun c2 => ?_)⟩
        · refine ⟨fun σ' H' => ∃ m', m' < (ini ++ [z]).length ∧ ∃ (ws : List Str) (ms : List Int), m' = ms.length ∧ σ' = [some (.ref a), some (.ref r), some (.ref PD), some (.ref MD), some (.str y), some (.int (ar rows y : Nat))] ∧ Hs B [(PD, .lst (ws.map V.str)), (MD, .lst (ms.map V.int))] H' ∧ (∀ x ∈ ws, x.length ≤ 100) ∧ ws.length + ms.length ≤ 3 * i + 1, fun _ _ z => z, ?_⟩
          refine ⟨_, rfl, .inl ⟨rfl, _, SqL.of g.r0⟩, PD, _, _, rfl, rfl, g.r0, by rw [List.length_map]; exact big _ (by omega), ?_⟩
          have g2 := g.w0 (o' := .lst (ws.map V.str ++ [.str ")"]))
          have e2 : ws.map V.str ++ [.str ")"] = (ws ++ [(")" : Str)]).map V.str := by rw [List.map_append]; rfl
          rw [e2] at g2 ⊢
          refine ⟨_, rfl, .inl ⟨rfl, _, SqL.of g2.r1⟩, MD, _, .int z, rfl, rfl, g2.r1, by rw [em]; simp, ?_⟩
          refine ⟨ini.length, by omega, ws ++ [(")" : Str)], ini, rfl, rfl, ?_, fun x hm => ?_, ?_⟩
          · rw [em, List.dropLast_concat]
            rw [em] at g2
            exact g2.w1
          · rcases List.mem_append.mp hm with hm | hm
            · exact hw x hm
            · rw [List.mem_singleton.mp hm]; decide
          · rw [List.length_append]
            show ws.length + 1 + ini.length ≤ _
            omega
        · refine ⟨_, rfl, _, .inl ⟨_, SqL.of g.r1, rfl⟩, ?_⟩
          rw [tt]
          refine iteT ⟨_, rfl, .inl ⟨rfl, _, SqL.of g.r0⟩, PD, _, _, rfl, rfl, g.r0, by rw [List.length_map]; exact big _ (by omega), ?_⟩
          have g2 := g.w0 (o' := .lst (ws.map V.str ++ [.str ","]))
          have e2 : ws.map V.str ++ [.str ","] = (ws ++ [("," : Str)]).map V.str := by rw [List.map_append]; rfl
          rw [e2] at g2 ⊢
          refine ⟨_, rfl, _, rfl, MD, _, _, _, rfl, rfl, SqL.of g2.r1, la, _, _, rfl, rfl, _, rfl, _, rfl, MD, _, _, ini.length, rfl, rfl, g2.r1, by rw [em, List.length_append, List.length_map]; exact ixN_last _, ?_⟩
          refine ⟨_, _, B, ws ++ [("," : Str)], ini ++ [z - 1], rfl, sB, ?_, fun x hm => ?_, ?_⟩
          · have : ((ini ++ [z]).map V.int).set ini.length (.int (z - 1)) = (ini ++ [z - 1]).map V.int := by
              rw [em, List.map_append, List.set_append]
              simp
            rw [this]
            exact g2.w1
          · rcases List.mem_append.mp hm with hm | hm
            · exact hw x hm
            · rw [List.mem_singleton.mp hm]; decide
          · rw [List.length_append, List.length_append]
            show ws.length + 1 + (ini.length + 1) ≤ _
            omega
  · rintro σ H1 ⟨t4, t5, B, ws, ms, rfl, sB, hh, hw, hlen⟩
    rw [List.length_map] at hlen
    have hsum := sum_le hw
    refine ⟨⟨_, rfl⟩, _, rfl, _, PD, ws, rfl, rfl, .inl (SqL.of hh.r0), ?_, hq _ _ (sB.trans hh.sub)⟩
    have : (Str.empty : Str).length = 0 := rfl
    show _ + ws.length * (Str.empty : Str).length ≤ _
    rw [this]
    omega
end
end Sy
namespace Sy
open PySem PySem.Spec PyProof.Rows L2 RZ
theorem walk_zipT {K : PySem.W.Frag} {a b : Addr} {xs ys : List V} {n : Nat} (h1 : n = xs.length) (h2 : n = ys.length) : Walk (ItzT K a b) n (fun H => SqT K H a xs ∧ SqT K H b ys) (YPair (fun i => xs[i]?) (fun i => ys[i]?)) := by
  refine ⟨fun i _ hi q => ?_, fun _ q => ⟨xs, ys, q.1, q.2, by omega⟩, fun i H v H' _ q y => ?_⟩
  · have h1 : i < xs.length := by omega
    have h2 : i < ys.length := by omega
    exact ⟨xs, ys, xs[i], ys[i], q.1, q.2, by simp [h1], by simp [h2]⟩
  · obtain ⟨T, x, z, h1, h2, h3, h4, h5⟩ := y
    exact ⟨T, x, z, h1, h2, h3, h4 xs q.1, h5 ys q.2⟩
theorem take_at {α : Type} {l : List α} {i : Nat} {x : α} (h : l[i]? = some x) : l.take (i + 1) = l.take i ++ [x] := by rw [List.take_succ, h]; rfl
section
variable {P : Program} {w : World} {K : PySem.W.Frag} {mg : Str → Option Value} {base : Heap}
/-! written -/
def spWritten (K : PySem.W.Frag) : Sp := fun vs H Q E => ∃ (a r : Addr) (rows : List Sy.Row) (l : List Str), vs = [.ref a, .ref r] ∧ BedAt K H a rows ∧ SqT K H r (l.map V.str) ∧ (∀ x ∈ l, x.length ≤ 100) ∧ (ckS rows l = none → ∀ H' x, Same H H' → Q (.str x) H') ∧ (∀ e, ckS rows l = some e → RaE K e H E)
theorem sc_written : FnScope ["bed", "stump"] ["bed", "stump"] (defScope (top 55)) := ⟨rfl, rfl, rfl, by decide +kernel, rfl, by decide +kernel, by decide +kernel⟩
theorem k_written (T : Txt K mg) (F : DF K mg "written" 55) (c_check_stump : Cal P w K mg base 4 "check_stump" ["bed", "stump"] (spCheckE K ckS)) (c_joined_text : Cal P w K mg base 2 "joined_text" ["bed", "row"] (spJoin K)) : Cal P w K mg base 5 "written" ["bed", "stump"] (spWritten K) := by
  refine cal_of F.1 F.2 sc_written (fun _ _ _ _ _ _ us e => match us, e with | [_, _], _ => rfl) (fun vs H Q E s => by obtain ⟨_, _, _, _, rfl, _⟩ := s; rfl) ?_
  intro cdv A outer s H vs Q E hr h
  obtain ⟨a, r, rows, l, rfl, hb, hR, hx, hq, hE⟩ := h
  refine ⟨_, (pss_cons (ps_expr (pe_calX c_check_stump hr (takes_of rfl rfl rfl rfl) (pa_cons (pv 0) (pa_cons (pv 1) pa_nil))))
      (pss_one (ps_ret (pe_cal c_joined_text hr (pa_cons (pv 0) (pa_cons (pv 1) pa_nil)))))), ?_⟩
  exact ⟨_, rfl, _, rfl, a, r, rows, l, rfl, hb, hR, fun ck H1 s1 => ⟨_, rfl, _, rfl, a, r, rows, l, rfl, hb.mono (Stay.of s1), Same.sqt s1 hR, (stm_of ck).le, hx, fun H2 v s2 => hq ck _ v (s1.trans s2)⟩, hE⟩
/-! holes -/
def spHoles (K : PySem.W.Frag) : Sp := fun vs H Q E => ∃ (a r : Addr) (rows : List Sy.Row) (l : List Str), vs = [.ref a, .ref r] ∧ BedAt K H a rows ∧ SqT K H r (l.map V.str) ∧ (ckS rows l = none → ∀ H' v ds, Same H H' → ds.length = l.count ("*" : Str) → Im K H' v (.tuple ds) → Q v H') ∧ (∀ e, ckS rows l = some e → RaE K e H E)
abbrev N_holes : List Str := ["bed", "stump", "path", "entry"]
theorem sc_holes : FnScope N_holes ["bed", "stump"] (defScope (top 48)) := ⟨rfl, rfl, rfl, by decide +kernel, rfl, by decide +kernel, by decide +kernel⟩
theorem k_holes (T : Txt K mg) (S : TxtS mg) (F : DF K mg "holes" 48) (c_check_stump : Cal P w K mg base 4 "check_stump" ["bed", "stump"] (spCheckE K ckS)) (c_row_paths : Cal P w K mg base 4 "row_paths" ["bed", "row"] (spPathsR K)) : Cal P w K mg base 5 "holes" ["bed", "stump"] (spHoles K) := by
  refine cal_of F.1 F.2 sc_holes (fun _ _ _ _ _ _ us e => match us, e with | [_, _], _ => rfl) (fun vs H Q E s => by obtain ⟨_, _, _, _, rfl, _⟩ := s; rfl) ?_
  intro cdv A outer s H vs Q E hr h
  obtain ⟨a, r, rows, l, rfl, hb, hR, hq, hE⟩ := h
  have sc := sc_holes
  refine ⟨_, (pss_cons (ps_expr (pe_calX c_check_stump hr (takes_of rfl rfl rfl rfl) (pa_cons (pv 0) (pa_cons (pv 1) pa_nil))))
      (pss_one (ps_ret (pe_callTy call_tuple_of (by rfl) T.tuple (by decide +kernel) (pa_cons (pe_lc (own := [("path", 2), ("entry", 3)]) (g := gTup K 2 (gCons (gName 2) (gCons (gName 3) (gNil)))) rfl sc.nd (pi_zipA (by rfl) S.zip (pa_cons (pe_cal c_row_paths hr (pa_cons (pv 0) (pa_cons (pv 1) pa_nil))) (pa_cons (pv 1) pa_nil))) (blkOk_by (N := N_holes) (sc := defScope (top 48)) (by decide +kernel)) (fun _ _ _ _ _ => (pg_tup rfl (pgs_cons (pg_name (i := 2) sc.nd rfl (Or.inl rfl)) (pgs_cons (pg_name (i := 3) sc.nd rfl (Or.inl rfl)) pgs_nil)))) (fun _ _ _ _ _ => (pts_one (pt_cmpR op_eq (pv 3) (pe_gstr rfl S.hole) (nomark _)))) (fun _ _ _ _ _ => (pv 2))) pa_nil))))), ?_⟩
  refine ⟨_, rfl, _, rfl, a, r, rows, l, rfl, hb, hR, fun ck H1 s1 => ?_, hE⟩
  have hst := stm_of ck
  have hl := hst.le
  have hwl := wt_len rows l
  refine ⟨_, rfl, _, rfl, a, r, rows, l, rfl, hb.mono (Stay.of s1), Same.sqt s1 hR, hst.fo, hl, fun H2 v s2 hv => ?_⟩
  have s12 := s1.trans s2
  obtain ⟨pa, ks, rfl, kt, ki⟩ := hv.tupI
  have kl : ks.length = l.length := by rw [ki.len, List.length_map, pths, pth_len, hwl]
  have hR2 := Same.sqt s12 hR
  refine ⟨_, rfl, pa, r, _, _, rfl, .inr ⟨kt, hR2, fun D hD => ?_⟩⟩
  refine lc_it (walk_zipT (K := K) (n := l.length) kl.symm (List.length_map _).symm) (fun i H' => ∃ B acc ds, Same H2 B ∧ Hs B [(D, .lst acc)] H' ∧ ImA K B acc ds ∧ ds.length = (l.take i).count ("*" : Str) ∧ acc.length ≤ i) ⟨H2, [], [], Same.refl _, (Hs.start H2).new hD, .nil, rfl, Nat.le_refl _⟩ (fun _ _ _ ⟨B, _, _, s, h, _⟩ => ⟨Same.sqt (s.trans h.sub) kt, Same.sqt (s.trans h.sub) hR2⟩) ?_ ?_
  · rintro i x H3 H4 hi ⟨B, acc, ds, sB, hh, im, hc, hal⟩ ⟨Tt, x1, y1, rfl, hT, rfl, e1, e2⟩
    obtain ⟨y, hy, rfl⟩ := map_at e2
    obtain ⟨d, ed⟩ : ∃ d, ((pths (wt rows l)).map DN)[i]? = some d := by
      have : i < ((pths (wt rows l)).map DN).length := by rw [← ki.len, kl]; exact hi
      exact ⟨_, List.getElem?_eq_getElem this⟩
    obtain ⟨x2, ex2, ix⟩ := ki.get ed
    have e1 : ks[i]? = some x1 := e1
    rw [e1] at ex2
    cases ex2
    have hh := hh.lay (o := .tup [x1, .str y]) hT
    refine ⟨Tt, _, rfl, SqT.of upd_same, rfl, _, _, rfl, _, _, rfl, rfl, rfl, ?_⟩
    refine ⟨_, rfl, rfl, _, rfl, if_dec (fun c => ?_) (fun c => ?_)⟩
    · have c : y = "*" := V.str.inj c
      refine ⟨_, rfl, acc, hh.r0, by rw [sizeLine_eq]; omega, B, acc ++ [x1], ds ++ [d], sB, hh.w0, im.snoc (ix.mono (Stay.of sB)), ?_, ?_⟩
      · rw [take_at hy, List.count_append, List.length_append, hc, c]
        rfl
      · rw [List.length_append]; exact Nat.succ_le_succ hal
    · refine ⟨B, acc, ds, sB, hh, im, ?_, by omega⟩
      rw [take_at hy, List.count_append, hc]
      have : ¬ y = "*" := fun z => c (by rw [z])
      simp [this]
  · rintro H3 ⟨B, acc, ds, sB, hh, im, hc, hal⟩
    rw [List.take_length] at hc
    refine ⟨D, _, rfl, .inl ⟨SqL.of hh.r0, fun p hp => ?_⟩⟩
    have sp := hh.sub.trans (up_same (o := .tup acc) hp)
    exact hq ck _ _ ds ((s12.trans sB).trans sp) hc (.tup (SqT.of upd_same) (im.mono (Stay.of sp)))
end
end Sy
/-! zip of a list and a tuple of one length (own rule) -/
namespace Sy
open PySem PySem.Spec PyProof.Rows L2
def ItM (K : PySem.W.Frag) (a b : Addr) : It :=
  ⟨fun i H => ∃ (xs ys : List V) (x y : V), SqL K H a xs ∧ SqT K H b ys ∧ xs[i]? = some x ∧ ys[i]? = some y,
   fun i H v H' => ∃ T x y, v = .ref T ∧ H T = none ∧ H' = upd H T (.tup [x, y]) ∧ (∀ xs, SqL K H a xs → xs[i]? = some x) ∧ ∀ ys, SqT K H b ys → ys[i]? = some y,
   fun i H => ∃ xs ys : List V, SqL K H a xs ∧ SqT K H b ys ∧ xs.length = i ∧ ys.length = i⟩
theorem turnM {P : Program} {w : World} {K : PySem.W.Frag} {elts : List Expr} {kk : Nat} {tpos : Pos} {a b z TI TO i1 i2 : Addr} (D : ZipSep2 z TI TO i1 i2 [i1, a] [i2, b]) :
    Turn P w K (.Tuple elts kk tpos) (ItM K a b) [z, TI, TO, i1, i2] z (fun i h => IsZip h z TI TO .none ∧ IsTupOf2 h TI (.ref i1) (.ref i2) ∧ (∃ x y, IsTupOf2 h TO x y) ∧ h.IsListIter i1 a i ∧ h.IsTupleIter i2 b i ∧ a ≠ i1 ∧ b ≠ i2) where
  mem := by simp
  obj := fun i h st c hc => by
    obtain ⟨hz, hTI, ⟨x, y, hTO⟩, ⟨o1, e1, _, d1⟩, ⟨o2, e2, _, d2⟩, _⟩ := st
    rcases (show c = z ∨ c = TI ∨ c = TO ∨ c = i1 ∨ c = i2 by simpa using hc) with q | q | q | q | q <;> subst q
    · exact ⟨_, hz, fun v q => nomatch q⟩
    · exact ⟨_, hTI, fun v q => nomatch q⟩
    · exact ⟨_, hTO, fun v q => nomatch q⟩
    · exact ⟨o1, e1, fun v q => by rw [d1] at q; cases q⟩
    · exact ⟨o2, e2, fun v q => by rw [d2] at q; cases q⟩
  keep := fun i h h' st k => by
    obtain ⟨hz, hTI, ⟨x, y, hTO⟩, h1, h2, n⟩ := st
    exact ⟨k z (by simp) _ hz, k TI (by simp) _ hTI, ⟨x, y, k TO (by simp) _ hTO⟩, h1.at fun o q => k i1 (by simp) o q, h2.at fun o q => k i2 (by simp) o q, n⟩
  item := by
    intro X hP hw hK hc i pins s σ H E I hf st hg
    subst hP hw hK
    obtain ⟨hz, hTI, ⟨x0, y0, hTO⟩, h1, h2, na, nb⟩ := st
    obtain ⟨xs, ys, x, y, hqx, hqy, hx, hy⟩ := hg
    obtain ⟨its, rv, p, _⟩ := I.list hqx
    obtain ⟨its2, rv2, p2, _⟩ := I.tuple hqy
    obtain ⟨u, hu, ru⟩ := rv.get hx
    obtain ⟨u2, hu2, ru2⟩ := rv2.get hy
    have D1 := Draws.list (prog := X.prog) (w := X.w) (A := X.A.in1) (by have q := I.ok.hd hc; exact q) i1 a na its.toArray
    have D2 := Draws.tuple (prog := X.prog) (w := X.w) (A := X.A.in1) (by have q := I.ok.hd hc; exact q) i2 b nb its2.toArray
    have l1 : i < its.toArray.size := by rw [List.size_toArray]; exact (List.getElem?_eq_some_iff.mp hu).1
    have l2 : i < its2.toArray.size := by rw [List.size_toArray]; exact (List.getElem?_eq_some_iff.mp hu2).1
    have hzl : z < s.heap.objs.size := Heap.lt_size hz
    have hTIl : TI < s.heap.objs.size := Heap.lt_size hTI
    have hTOl : TO < s.heap.objs.size := Heap.lt_size hTO
    have h1l : i1 < s.heap.objs.size := by obtain ⟨_, q, _⟩ := h1; exact Heap.lt_size q
    have h2l : i2 < s.heap.objs.size := by obtain ⟨_, q, _⟩ := h2; exact Heap.lt_size q
    refine wpAny_pyNext_zipD2_item D D1 D2 hz hTI hTO ⟨h1, p.isList⟩ ⟨h2, p2⟩ l1 l2 fun v1 v2 h' tk e1 e2 hz' hTO' st1 st2 hT hsz hk => ?_
    have ev1 : v1 = u := by
      have q : its.toArray[i]? = some u := by simpa using hu
      exact Option.some.inj (e1.symm.trans q)
    have ev2 : v2 = u2 := by
      have q : its2.toArray[i]? = some u2 := by simpa using hu2
      exact Option.some.inj (e2.symm.trans q)
    subst ev1 ev2
    refine ⟨_, rfl, wpAny_letOwnedTupleGo_zip (s := { s with heap := h', toks := tk }) hz' fun h'' z'' sb => ?_⟩
    have hT2 : h''.get? s.heap.objs.size = some { cls := .type "tuple", data := .seq #[v1, v2] } := (sb.2 _ (Nat.ne_of_gt hzl)).trans hT
    have new : ObjOk X.prog X.w (upd H s.heap.objs.size (.tup [x, y])) h'' s.heap.objs.size (.tup [x, y]) :=
      ⟨by show 2 ≤ sizeLine; decide, [v1, v2], .cons ru (.cons ru2 .nil), ⟨_, hT2, rfl, _, rfl⟩⟩
    have I1 : Inv X pins σ (upd H s.heap.objs.size (.tup [x, y])) { s with heap := h'', toks := tk } :=
      I.turnedNew (ch := [z, TI, TO, i1, i2]) (fun c o hb q => by
        have hb' : c ≠ z ∧ c ≠ TI ∧ c ≠ TO ∧ c ≠ i1 ∧ c ≠ i2 := by simpa using hb
        exact (sb.2 c hb'.1).trans (hk c o hb'.1 hb'.2.2.1 hb'.2.2.2.1 hb'.2.2.2.2 q)) hf (Nat.le_refl _) new
    have n1z : i1 ≠ z := fun e => D.zf1 (by rw [e]; simp)
    have n2z : i2 ≠ z := fun e => D.zf2 (by rw [e]; simp)
    refine ⟨.ref s.heap.objs.size, _, I1, rfl, ⟨_, x, y, rfl, I.hok.fresh (Nat.le_refl _), rfl, fun l hl => by rw [I.list_inj hl hqx]; exact hx, fun l hl => by rw [I.tuple_inj hl hqy]; exact hy⟩, ⟨z'', ?_, ⟨v1, v2, ?_⟩, ?_, ?_, na, nb⟩, fun c hcm => ?_⟩
    · exact (sb.2 _ D.TIz).trans (hk _ _ D.TIz D.TITO D.TIi1 D.TIi2 hTI)
    · exact (sb.2 _ D.TOz).trans hTO'
    · exact st1.1.at fun o q => (sb.2 _ n1z).trans q
    · exact st2.1.at fun o q => (sb.2 _ n2z).trans q
    · have hlt : c < s.heap.objs.size := by
        rcases (show c = z ∨ c = TI ∨ c = TO ∨ c = i1 ∨ c = i2 by simpa using hcm) with q | q | q | q | q <;> (rw [q]; assumption)
      rw [upd_ne (Nat.ne_of_lt hlt)]
      exact (hf c hcm).1
  done := by
    intro X hP hw hK hc i pins s σ H E I hf st hg
    subst hP hw hK
    obtain ⟨hz, hTI, ⟨x0, y0, hTO⟩, h1, h2, na, nb⟩ := st
    obtain ⟨xs, ys, hqx, hqy, e1, e2⟩ := hg
    obtain ⟨its, rv, p, _⟩ := I.list hqx
    obtain ⟨its2, rv2, p2, _⟩ := I.tuple hqy
    have l1 := rv.length
    have l2 := rv2.length
    have D1 := Draws.list (prog := X.prog) (w := X.w) (A := X.A.in1) (by have q := I.ok.hd hc; exact q) i1 a na its.toArray
    have D2 := Draws.tuple (prog := X.prog) (w := X.w) (A := X.A.in1) (by have q := I.ok.hd hc; exact q) i2 b nb its2.toArray
    exact wpAny_pyNext_zipD2_end D D1 D2 hz hTI hTO ⟨h1, p.isList⟩ ⟨h2, p2⟩ (by simp; omega) (by simp; omega) (.inl (by simp; omega)) fun h' tk hk => ⟨rfl, I.turnedL (ch := [z, TI, TO, i1, i2]) (fun c o hb q => by
      have hb' : c ≠ z ∧ c ≠ TI ∧ c ≠ TO ∧ c ≠ i1 ∧ c ≠ i2 := by simpa using hb
      exact hk c o hb'.1 hb'.2.2.1 hb'.2.2.2.1 hb'.2.2.2.2 q) hf⟩
  self := fun A i s Q E st h => wpAny_pyIter_zip st.1 h
def iZipM (K : PySem.W.Frag) (ta : TA) : TI := fun σ H R => ta σ H fun vs H1 => ∃ a b xs ys, vs = [.ref a, .ref b] ∧ SqL K H1 a xs ∧ SqT K H1 b ys ∧ R (ItM K a b) H1
theorem pi_zipM {X : Cx} {e e2 : Expr} {ta : TA} {p pos tpos : Pos} {elts : List Expr} {kk : Nat} (hg : Gl X "zip") (hm : X.mg "zip" = none) (ha : PA X [e, e2] ta)
    (hs : starEach [e, e2] X.env = (false, eval e X.env) :: starEach [e2] X.env := by rfl) (hpl : (backTo pos (starEach [e2] X.env)).any (·.1) = false := by rfl) :
    PI X (.Tuple elts kk tpos) (.Call (.Name "zip" p) [e, e2] [] pos) (iZipM X.K ta) := by
  refine ⟨fun pins s σ H R I h => ?_⟩
  refine Call_ (ld_blt I hg hm PyProof.Rows.boot_zip (PyProof.Rows.callWith_type1 (thn (ha.run pos pins s σ H _ I h) fun us s1 ⟨vs, H1, I1, r1, q1⟩ => ?_) hs hpl))
  obtain ⟨a, b, xs, ys, rfl, hqx, hqy, q⟩ := q1
  obtain ⟨u, u2, rfl, r, r'⟩ : ∃ u u2, us = [u, u2] ∧ RelV (.ref a) u ∧ RelV (.ref b) u2 := by
    cases r1 with
    | cons r rr => cases rr with
      | cons r' rr => cases rr; exact ⟨_, _, rfl, r, r'⟩
  cases r
  cases r'
  obtain ⟨its, rv, p1, _⟩ := I1.list hqx
  obtain ⟨its2, rv2, p2, _⟩ := I1.tuple hqy
  have hal : a < s1.heap.objs.size := p1.lt
  have hbl : b < s1.heap.objs.size := by obtain ⟨_, q, _⟩ := id p2; exact Heap.lt_size q
  refine zip_begins2 (begins_list a its.toArray) (begins_tuple b its2.toArray) p1.isList p2 fun h' hz hTI hTO h1 h2 hsz hk => wpAny_pyIter_zip hz ?_
  have I2 : Inv X pins σ H1 { s1 with heap := h' } := I1.kept (t' := s1.toks) hk
  have fresh : ∀ c, c ∈ [s1.heap.objs.size + 4, s1.heap.objs.size + 2, s1.heap.objs.size + 3, s1.heap.objs.size, s1.heap.objs.size + 1] → FpOk X pins H1 c := fun c hcm => by
    have hle : s1.heap.objs.size ≤ c := by
      rcases (show c = s1.heap.objs.size + 4 ∨ c = s1.heap.objs.size + 2 ∨ c = s1.heap.objs.size + 3 ∨ c = s1.heap.objs.size ∨ c = s1.heap.objs.size + 1 by simpa using hcm) with z | z | z | z | z <;> (rw [z]; first | exact Nat.le_refl _ | exact Nat.le_add_right _ _)
    exact I1.fpOk hle (I1.hok.fresh hle)
  have sep := zip_sep2 (N := s1.heap.objs.size) (fp1 := [a]) (fp2 := [b]) (fun c hc => by rw [List.mem_singleton.mp hc]; exact hal) (fun c hc => by rw [List.mem_singleton.mp hc]; exact hbl)
  have na : a ≠ s1.heap.objs.size := Nat.ne_of_lt hal
  have nb : b ≠ s1.heap.objs.size + 1 := Nat.ne_of_lt (Nat.lt_succ_of_lt hbl)
  exact ⟨s1.heap.objs.size + 4, _, _, _, H1, rfl, I2, turnM sep, ⟨hz, hTI, ⟨_, _, hTO⟩, ⟨_, h1, rfl, rfl⟩, ⟨_, h2, rfl, rfl⟩, na, nb⟩, fresh, q⟩
theorem walk_zipM {K : PySem.W.Frag} {a b : Addr} {xs ys : List V} {n : Nat} (h1 : n = xs.length) (h2 : n = ys.length) : Walk (ItM K a b) n (fun H => SqL K H a xs ∧ SqT K H b ys) (YPair (fun i => xs[i]?) (fun i => ys[i]?)) := by
  refine ⟨fun i _ hi q => ?_, fun _ q => ⟨xs, ys, q.1, q.2, h1.symm, h2.symm⟩, fun i H v H' _ q y => ?_⟩
  · have h1 : i < xs.length := by omega
    have h2 : i < ys.length := by omega
    exact ⟨xs, ys, xs[i], ys[i], q.1, q.2, by simp [h1], by simp [h2]⟩
  · obtain ⟨T, x, z, h1, h2, h3, h4, h5⟩ := y
    exact ⟨T, x, z, h1, h2, h3, h4 xs q.1, h5 ys q.2⟩
end Sy
/-! filling holes, plain -/
namespace Sy
open PySem PySem.Spec PyProof.Rows L2
def plc : Nat → List Str → List Nat
  | _, [] => []
  | n, x :: l => if x = "*" then n :: plc (n + 1) l else plc (n + 1) l
def fillW : List Str → List (List Str) → List Str
  | [], _ => []
  | x :: l, ls => if x = "*" then ls.headD [] ++ fillW l ls.tail else x :: fillW l ls
def orOne (o : Option (List Str)) (x : Str) : List Str := match o with
  | some p => p
  | none => [x]
def subL (f : Nat → Option (List Str)) : Nat → List Str → List Str
  | _, [] => []
  | n, x :: l => orOne (f n) x ++ subL f (n + 1) l
def lkN : List (Nat × List Str) → Nat → Option (List Str)
  | [], _ => none
  | z :: r, n => if z.1 = n then some z.2 else lkN r n
theorem plc_app : ∀ (a b : List Str) (n : Nat), plc n (a ++ b) = plc n a ++ plc (n + a.length) b
  | [], b, n => rfl
  | x :: a, b, n => by
    rw [List.cons_append, plc, plc, plc_app a b (n + 1), List.length_cons, show n + 1 + a.length = n + (a.length + 1) by omega]
    split <;> rfl
theorem plc_len : ∀ (l : List Str) (n : Nat), (plc n l).length = l.count ("*" : Str)
  | [], n => rfl
  | x :: l, n => by
    rw [plc, List.count_cons]
    by_cases c : x = "*"
    · rw [if_pos c, List.length_cons, plc_len l (n + 1), c]
      simp
    · rw [if_neg c, plc_len l (n + 1)]
      simp [c]
theorem plc_ge : ∀ {l : List Str} {n m : Nat}, m ∈ plc n l → n ≤ m ∧ m < n + l.length
  | [], n, m, h => by cases h
  | x :: l, n, m, h => by
    rw [plc] at h
    rw [List.length_cons]
    by_cases c : x = "*"
    · rw [if_pos c] at h
      rcases List.mem_cons.mp h with rfl | h
      · omega
      · have := plc_ge h; omega
    · rw [if_neg c] at h
      have := plc_ge h; omega
theorem plc_nd : ∀ (l : List Str) (n : Nat), (plc n l).Nodup
  | [], n => List.nodup_nil
  | x :: l, n => by
    rw [plc]
    split
    · refine List.nodup_cons.mpr ⟨fun h => ?_, plc_nd l (n + 1)⟩
      have := plc_ge h
      omega
    · exact plc_nd l (n + 1)
theorem subL_app (f : Nat → Option (List Str)) : ∀ (a b : List Str) (n : Nat), subL f n (a ++ b) = subL f n a ++ subL f (n + a.length) b
  | [], b, n => rfl
  | x :: a, b, n => by
    rw [List.cons_append, subL, subL, subL_app f a b (n + 1), List.length_cons, show n + 1 + a.length = n + (a.length + 1) by omega, List.append_assoc]
theorem subL_congr {f g : Nat → Option (List Str)} : ∀ {l : List Str} {n : Nat}, (∀ i, n ≤ i → f i = g i) → subL f n l = subL g n l
  | [], _, _ => rfl
  | x :: l, n, h => by rw [subL, subL, h n (Nat.le_refl _), subL_congr fun i hi => h i (by omega)]
theorem subL_take {f : Nat → Option (List Str)} {l : List Str} {i : Nat} {x : Str} (h : l[i]? = some x) : subL f 0 (l.take (i + 1)) = subL f 0 (l.take i) ++ orOne (f i) x := by
  have hi : i < l.length := (List.getElem?_eq_some_iff.mp h).1
  rw [take_at h, subL_app, List.length_take, show 0 + min i l.length = i by omega, subL, subL, List.append_nil]
theorem subL_le {f : Nat → Option (List Str)} {l : List Str} {i : Nat} : (subL f 0 (l.take i)).length ≤ (subL f 0 l).length := by
  have : subL f 0 l = subL f 0 (l.take i) ++ subL f (0 + (l.take i).length) (l.drop i) := by rw [← subL_app, List.take_append_drop]
  rw [this, List.length_append]
  omega
theorem lkN_none : ∀ {r : List (Nat × List Str)} {n : Nat}, (∀ z ∈ r, z.1 ≠ n) → lkN r n = none
  | [], _, _ => rfl
  | z :: r, n, h => by rw [lkN, if_neg (h z List.mem_cons_self), lkN_none fun y hy => h y (List.mem_cons_of_mem _ hy)]
theorem sub_fill : ∀ (l : List Str) (n : Nat) (ls : List (List Str)), (plc n l).length = ls.length → subL (lkN ((plc n l).zip ls)) n l = fillW l ls
  | [], n, ls, h => rfl
  | x :: l, n, ls, h => by
    rw [plc] at h ⊢
    rw [subL, fillW]
    by_cases c : x = "*"
    · rw [if_pos c] at h
      rw [if_pos c, if_pos c]
      match ls, h with
      | p :: ps, h =>
        rw [List.zip_cons_cons, lkN, if_pos rfl]
        show p ++ _ = p ++ fillW l ps
        rw [← sub_fill l (n + 1) ps (by simpa using h)]
        rw [subL_congr fun i hi => ?_]
        rw [lkN, if_neg (by show n ≠ i; omega)]
    · rw [if_neg c] at h
      rw [if_neg c, if_neg c, lkN_none fun z hz => ?_, sub_fill l (n + 1) ls h]
      · rfl
      · have := plc_ge (List.of_mem_zip (a := z.1) (b := z.2) hz).1
        omega
theorem fillW_len : ∀ (l : List Str) (ls : List (List Str)), (fillW l ls).length ≤ l.length + ls.flatten.length
  | [], ls => Nat.zero_le _
  | x :: l, ls => by
    rw [fillW]
    by_cases c : x = "*"
    · rw [if_pos c]
      match ls with
      | [] =>
        have := fillW_len l []
        show (fillW l []).length ≤ _
        simp only [List.length_cons]
        omega
      | p :: ps =>
        have := fillW_len l ps
        show (p ++ fillW l ps).length ≤ _
        rw [List.length_append, List.flatten_cons, List.length_append, List.length_cons]
        omega
    · rw [if_neg c, List.length_cons, List.length_cons]
      have := fillW_len l ls
      omega
def iKV (cs : List (Nat × Addr)) : List (Key × V) := cs.map fun c => (Sum.inl (c.1 : Int), V.ref c.2)
def lkA : List (Nat × Addr) → Nat → Option Addr
  | [], _ => none
  | z :: r, n => if z.1 = n then some z.2 else lkA r n
theorem valV_iKV (n : Nat) : ∀ cs : List (Nat × Addr), valV (iKV cs) (Sum.inl (n : Int) : Key) = (lkA cs n).map V.ref
  | [] => rfl
  | c :: cs => by
    show valV ((Sum.inl (c.1 : Int), V.ref c.2) :: iKV cs) (Sum.inl (n : Int) : Key) = _
    rw [valV_cons, lkA, valV_iKV n cs]
    by_cases h : c.1 = n
    · rw [if_pos h, if_pos (by rw [h])]
      rfl
    · rw [if_neg h, if_neg (fun z => h (by have := Sum.inl.inj z; omega))]
theorem lkA_none : ∀ {r : List (Nat × Addr)} {n : Nat}, (∀ z ∈ r, z.1 ≠ n) → lkA r n = none
  | [], _, _ => rfl
  | z :: r, n, h => by rw [lkA, if_neg (h z List.mem_cons_self), lkA_none fun y hy => h y (List.mem_cons_of_mem _ hy)]
theorem lk_paired {R : Addr → List Str → Prop} : ∀ {ps : List Nat} {bs : List Addr} {ls : List (List Str)} {n : Nat}, Paired R bs ls → (lkA (ps.zip bs) n = none ∧ lkN (ps.zip ls) n = none) ∨ ∃ b p, lkA (ps.zip bs) n = some b ∧ lkN (ps.zip ls) n = some p ∧ R b p
  | [], _, _, _, _ => .inl ⟨by simp [lkA], by simp [lkN]⟩
  | m :: ps, _, _, n, .nil => .inl ⟨by simp [lkA], by simp [lkN]⟩
  | m :: ps, b :: bs, l :: ls, n, .cons h t => by
    rw [List.zip_cons_cons, List.zip_cons_cons, lkA, lkN]
    by_cases c : m = n
    · exact .inr ⟨b, l, if_pos c, if_pos c, h⟩
    · rw [if_neg c, if_neg c]
      exact lk_paired t
end Sy
namespace Sy
open PySem PySem.Spec PyProof.Rows L2 RZ
section
variable {P : Program} {w : World} {K : PySem.W.Frag} {mg : Str → Option Value} {base : Heap}
/-! substituted -/
def spSub (K : PySem.W.Frag) : Sp := fun vs H Q _ => ∃ (r d : Addr) (l : List Str) (cs : List (Nat × Addr)) (f : Nat → Option (List Str)), vs = [.ref r, .ref d] ∧ SqT K H r (l.map V.str) ∧ H d = some (.dK (iKV cs)) ∧ (∀ i, (lkA cs i = none ∧ f i = none) ∨ ∃ b p, lkA cs i = some b ∧ f i = some p ∧ SqT K H b (p.map V.str)) ∧ (subL f 0 l).length ≤ 1000000 ∧
  ∀ H' p, Same H H' → SqT K H' p ((subL f 0 l).map V.str) → Q (.ref p) H'
abbrev N_sub : List Str := ["row", "changes", "result", "index", "entry"]
theorem sc_sub : FnScope N_sub ["row", "changes"] (defScope (top 22)) := ⟨rfl, rfl, rfl, by decide +kernel, rfl, by decide +kernel, by decide +kernel⟩
theorem k_sub (T : Txt K mg) (F : DF K mg "substituted" 22) : Cal P w K mg base 1 "substituted" ["row", "changes"] (spSub K) := by
  refine cal_of F.1 F.2 sc_sub (fun _ _ _ _ _ _ us e => match us, e with | [_, _], _ => rfl) (fun vs H Q E s => by obtain ⟨_, _, _, _, _, rfl, _⟩ := s; rfl) ?_
  intro cdv A outer s H vs Q E hr h
  obtain ⟨r, d, l, cs, f, rfl, hR, hd, hf, hlen, hq⟩ := h
  have hu := hu_of hr
  have sc := sc_sub
  refine ⟨_, (pss_cons (ps_set (i := 2) sc.nd rfl (Or.inl rfl) (pe_lst pa_nil))
      (pss_cons (ps_for (passes_of rfl) rfl (pi_enumT (by rfl) T.enumerate (pa_cons (pv 0) pa_nil)) (pg_tup rfl (pgs_cons (pg_name (i := 3) sc.nd rfl (Or.inl rfl)) (pgs_cons (pg_name (i := 4) sc.nd rfl (Or.inl rfl)) pgs_nil)))
        (pss_one (ps_if (pt_cmp (pc_din hu (pv 3) (pv 1)))
          (pss_one (ps_expr (pe_bm PySem.F.plainAttrs_list PySem.F.slot_list_extend PySem.F.type_list_extend mt_extend (pv 2) (pa_cons (pe_callTy call_list_of (by rfl) T.list (by decide +kernel) (pa_cons (pe_dget hu (pv 1) (pv 3) (fun _ _ => rfl)) pa_nil)) pa_nil))))
          (pss_one (ps_expr (pe_bm PySem.F.plainAttrs_list PySem.F.slot_list_append PySem.F.type_list_append mt_append (pv 2) (pa_cons (pv 4) pa_nil)))))))
      (pss_one (ps_ret (pe_callTy call_tuple_of (by rfl) T.tuple (by decide +kernel) (pa_cons (pv 2) pa_nil)))))), ?_⟩
  refine ⟨by decide, fun D hD => ?_⟩
  have h1 := (Hs.start H).new (o := .lst []) hD
  refine ⟨_, rfl, r, _, rfl, Same.sqt h1.sub hR, for_enumT (K := K) (xs := l.map V.str) (fun i σ H' => ∃ t3 t4, σ = [some (.ref r), some (.ref d), some (.ref D), t3, t4] ∧ Hs H [(D, .lst ((subL f 0 (l.take i)).map V.str))] H') ⟨none, none, rfl, h1⟩ (fun _ _ _ _ ⟨_, _, _, h⟩ => Same.sqt h.sub hR) ?_ ?_⟩
  · rintro i x σ H1 Tt hx ⟨t3, t4, rfl, hh⟩ hT
    obtain ⟨y, hy, rfl⟩ := map_at hx
    have hh := hh.lay (o := .tup [.int (i : Nat), .str y]) hT
    have hd1 := hh.sub _ _ hd
    have le1 := subL_le (f := f) (l := l) (i := i + 1)
    have tk := subL_take (f := f) hy
    have tl : (subL f 0 (l.take i)).length + (orOne (f i) y).length ≤ 1000000 := by
      rw [tk, List.length_append] at le1
      omega
    have vi := valV_iKV i cs
    refine ⟨_, rfl, _, rfl, d, _, rfl, DGet.k (k := Sum.inl (i : Int)) hd1, _, rfl, ?_⟩
    rcases hf i with ⟨e1, e2⟩ | ⟨b, p, e1, e2, tp⟩
    · rw [vi, e1]
      refine iteF ⟨_, rfl, .inl ⟨rfl, _, SqL.of hh.r0⟩, _, rfl, D, _, _, rfl, rfl, hh.r0, ?_, _, _, rfl, ?_⟩
      · rw [List.length_map, sizeLine_eq]
        omega
      · rw [tk, e2, List.map_append]
        exact hh.w0
    · have vs : valV (iKV cs) (Sum.inl (i : Int) : Key) = some (.ref b) := by rw [vi, e1]; rfl
      rw [vs]
      refine iteT ⟨_, rfl, .inl ⟨rfl, _, SqL.of hh.r0⟩, _, rfl, _, rfl, d, .ref b, rfl, ?_, b, _, rfl, .inr (Same.sqt hh.sub tp), fun m hm2 => ?_⟩
      · rw [← vs]
        exact DGet.k (k := Sum.inl (i : Int)) hd1
      · have g3 := hh.lay (o := .lst (p.map V.str)) hm2
        rw [e2] at tl tk
        have tl : (subL f 0 (l.take i)).length + p.length ≤ 1000000 := tl
        refine ⟨D, m, _, _, rfl, rfl, g3.r0, upd_same, ?_, _, _, rfl, ?_⟩
        · rw [List.length_map, List.length_map, sizeLine_eq]
          omega
        · rw [tk, List.map_append]
          exact g3.w0
  · rintro σ H1 ⟨t3, t4, rfl, hh⟩
    rw [List.length_map, List.take_length] at hh
    exact ⟨_, rfl, D, _, rfl, .inl ⟨SqL.of hh.r0, fun p hp => hq _ _ (hh.sub.trans (up_same hp)) (SqT.of upd_same)⟩⟩
/-! filled -/
def fillDue (rows : List Sy.Row) (l : List Str) (ls : List (List Str)) : Option Er := match ckS rows l with
  | some e => some e
  | none => if ls.length ≠ l.count ("*" : Str) then some (.wrong (l.count ("*" : Str)) ls.length) else match fstE (ckS rows) ls with
    | some e => some e
    | none => if 2000 < l.length - ls.length + ls.flatten.length then some .many else none
def spFilled (K : PySem.W.Frag) : Sp := fun vs H Q E => ∃ (a r b : Addr) (rows : List Sy.Row) (l : List Str) (bs : List Addr) (ls : List (List Str)), vs = [.ref a, .ref r, .ref b] ∧ BedAt K H a rows ∧ SqT K H r (l.map V.str) ∧ SqT K H b (bs.map V.ref) ∧ Paired (fun q (l : List Str) => SqT K H q (l.map V.str)) bs ls ∧ ls.length ≤ 100 ∧
  (fillDue rows l ls = none → ∀ H' p, Same H H' → SqT K H' p ((fillW l ls).map V.str) → Q (.ref p) H') ∧ (∀ e, fillDue rows l ls = some e → RaE K e H E)
abbrev N_filled : List Str := ["bed", "stump", "pieces", "places", "piece", "changes", "place", "index", "entry"]
theorem sc_filled : FnScope N_filled ((["bed", "stump"] : List Str) ++ (["pieces"] : List Str)) (defScope (top 49)) := ⟨rfl, rfl, rfl, by decide +kernel, rfl, by decide +kernel, by decide +kernel⟩
theorem flat_len (ls : List (List Str)) : ls.flatten.length = (ls.map (·.length)).sum := List.length_flatten
theorem sum_int (ns : List Nat) : (ns.map fun n : Nat => (n : Int)).sum = ((ns.sum : Nat) : Int) := by
  induction ns with
  | nil => rfl
  | cons n ns ih => rw [List.map_cons, List.sum_cons, List.sum_cons, ih]; omega
theorem r_filled (T : Txt K mg) (S : TxtS mg) (R : Ers P K mg) (F : DF K mg "filled" 49) (c_check_stump : Cal P w K mg base 4 "check_stump" ["bed", "stump"] (spCheckE K ckS)) (c_check_count : Cal P w K mg base 3 "check_count" ["number"] (spCount K)) (c_substituted : Cal P w K mg base 1 "substituted" ["row", "changes"] (spSub K)) :
    CalR P w K mg base 5 "filled" (spStar 2 (spFilled K)) := by
  obtain ⟨⟨fd, F⟩, at_⟩ := F
  refine ⟨fnR_of (ps := ["bed", "stump"]) F sc_filled (fun kV doc pm an cdv ct => StX.bind_star2 (B := fun l => bindArgs (PySem.W.fnOf "filled" "filled" (defArgs (top 49)) (defBody (top 49)) (defScope (top 49)) .none kV doc pm an cdv ct) ⟨l, []⟩) (fun _ _ => rfl) (fun _ _ _ _ => rfl)) ?_, at_, F.kp⟩
  intro cdv A outer s H vs Q E hr h
  obtain ⟨a, r, b, rows, l, bs, ls, rfl, hb, hR, hB, hP, hl2, hq, hE⟩ := h
  have hu := hu_of hr
  have sc := sc_filled
  refine ⟨_, (pss_cons (ps_expr (pe_calX c_check_stump hr (takes_of rfl rfl rfl rfl) (pa_cons (pv 0) (pa_cons (pv 1) pa_nil))))
      (pss_cons (ps_setLc (i := 3) (own := [("index", 7), ("entry", 8)]) (g := gTup K 2 (gCons (gName 7) (gCons (gName 8) (gNil)))) rfl sc.nd rfl rfl (sw_true rfl rfl rfl (by decide +kernel)) (pi_enumT (by rfl) T.enumerate (pa_cons (pv 1) pa_nil)) (blkOk_by (N := N_filled) (sc := defScope (top 49)) (by decide +kernel)) (fun _ _ _ _ _ => (pg_tup rfl (pgs_cons (pg_name (i := 7) sc.nd rfl (Or.inl rfl)) (pgs_cons (pg_name (i := 8) sc.nd rfl (Or.inl rfl)) pgs_nil)))) (fun _ _ _ _ _ => (pts_one (pt_cmpR op_eq (pv 8) (pe_gstr rfl S.hole) (nomark _)))) (fun _ _ _ _ _ => (pv 7)))
      (pss_cons (ps_if (pt_cmpR op_ne (pe_callB call_len_seq (by rfl) T.len (by decide +kernel) (pa_cons (pv 2) pa_nil)) (pe_callB call_len_seq (by rfl) T.len (by decide +kernel) (pa_cons (pv 3) pa_nil)) (nomark _))
        (pss_one (ps_raise rfl (takes_of rfl rfl rfl rfl) (mk_wb R.wb hr rfl (pa_cons (pe_callB call_len_seq (by rfl) T.len (by decide +kernel) (pa_cons (pv 3) pa_nil)) (pa_cons (pe_callB call_len_seq (by rfl) T.len (by decide +kernel) (pa_cons (pv 2) pa_nil)) pa_nil)) pass0)))
        pss_nil)
      (pss_cons (ps_for (passes_of rfl) rfl (pi_tup (pv 2)) (pg_name (i := 4) sc.nd rfl (Or.inl rfl))
        (pss_one (ps_expr (pe_calX c_check_stump hr (takes_of rfl rfl rfl rfl) (pa_cons (pv 0) (pa_cons (pv 4) pa_nil))))))
      (pss_cons (ps_expr (pe_calX c_check_count hr (takes_of rfl rfl rfl rfl) (pa_cons (pe_op op_add (pe_op op_sub (pe_callB call_len_seq (by rfl) T.len (by decide +kernel) (pa_cons (pv 1) pa_nil)) (pe_callB call_len_seq (by rfl) T.len (by decide +kernel) (pa_cons (pv 2) pa_nil))) (pe_callB (cr_sum rfl) (by rfl) S.sum (by decide +kernel) (pa_cons (pe_lc (own := [("piece", 4)]) (g := gName 4) (te := tCB (fun xs H Q => ∃ p ys, xs = [V.ref p] ∧ (SqL K H p ys ∨ SqT K H p ys) ∧ Q (V.int (ys.length : Nat)) H) (tCons (tVar 4) tNil)) rfl sc.nd (pi_tup (pv 2)) (blkOk_by (N := N_filled) (sc := defScope (top 49)) (by decide +kernel)) (fun _ _ _ _ _ => (pg_name (i := 4) sc.nd rfl (Or.inl rfl))) (fun _ _ _ _ _ => pts_nil) (fun _ _ _ _ _ => (pe_callB call_len_seq (by rfl) T.len (by decide +kernel) (pa_cons (pv 4) pa_nil)))) pa_nil))) pa_nil)))
      (pss_cons (ps_set (i := 5) sc.nd rfl (Or.inl rfl) pe_dnewK)
      (pss_cons (ps_for (passes_of rfl) rfl (pi_zipM (by rfl) S.zip (pa_cons (pv 3) (pa_cons (pv 2) pa_nil))) (pg_tup rfl (pgs_cons (pg_name (i := 6) sc.nd rfl (Or.inl rfl)) (pgs_cons (pg_name (i := 4) sc.nd rfl (Or.inl rfl)) pgs_nil)))
        (pss_one (ps_dput hu (pv 5) (pv 6) (pv 4) rfl)))
      (pss_one (ps_ret (pe_cal c_substituted hr (pa_cons (pv 1) (pa_cons (pv 5) pa_nil)))))))))))), ?_⟩
  have hbl := paired_len hP
  refine ⟨_, rfl, _, rfl, a, r, rows, l, rfl, hb, hR, fun ck H1 s1 => ?_, fun e c => hE e (by unfold fillDue; rw [c])⟩
  have hst := stm_of ck
  have hll := hst.le
  have hR1 := Same.sqt s1 hR
  refine ⟨_, rfl, r, _, rfl, hR1, fun D hD => lc_it walkE (fun i H' => Hs H1 [(D, .lst (vN (plc 0 (l.take i))))] H') ((Hs.start H1).new hD) (fun _ _ _ h => Same.sqt h.sub hR1) ?_ ?_⟩
  · rintro i x H2 H3 hi hh ⟨Tt, u1, u2, rfl, hT, rfl, e1, e2⟩
    cases e1
    have e2 : (l.map V.str)[i]? = some u2 := e2
    obtain ⟨y, hy, rfl⟩ := map_at e2
    rw [List.length_map] at hi
    have hh := hh.lay (o := .tup [.int (i : Nat), .str y]) hT
    have pa : plc 0 (l.take (i + 1)) = plc 0 (l.take i) ++ plc i [y] := by
      rw [take_at hy, plc_app, List.length_take, show 0 + min i l.length = i by omega]
    have pl := plc_len (l.take i) 0
    have pc := List.count_le_length (a := ("*" : Str)) (l := l.take i)
    rw [List.length_take] at pc
    refine ⟨Tt, _, rfl, SqT.of upd_same, rfl, _, _, rfl, _, _, rfl, rfl, rfl, ?_⟩
    refine ⟨_, rfl, rfl, _, rfl, if_dec (fun c => ?_) (fun c => ?_)⟩
    · have c : y = "*" := V.str.inj c
      refine ⟨_, rfl, _, hh.r0, by rw [List.length_map, sizeLine_eq]; omega, ?_⟩
      rw [pa, plc, if_pos c, plc, vN_snoc]
      exact hh.w0
    · have c : ¬ y = "*" := fun z => c (by rw [z])
      rw [pa, plc, if_neg c, plc, List.append_nil]
      exact hh
  intro H2 h2
  rw [List.length_map, List.take_length] at h2
  have plen := plc_len l 0
  have hcl := List.count_le_length (a := ("*" : Str)) (l := l)
  generalize hps : plc 0 l = ps at *
  have s2 := s1.trans h2.sub
  have hB2 := Same.sqt s2 hB
  refine ⟨_, rfl, b, _, rfl, .inr hB2, _, rfl, D, _, rfl, .inl (SqL.of h2.r0), rfl, _, rfl, ?_⟩
  rw [List.length_map, List.length_map, hbl, plen]
  refine if_ndec (fun c => ?_) (fun c => ?_)
  · have c : ls.length ≠ l.count ("*" : Str) := fun z => c (by rw [z])
    refine ⟨_, rfl, D, _, rfl, .inl (SqL.of h2.r0), _, rfl, b, _, rfl, .inr hB2, mk_ra (fun _ _ => ⟨l.count ("*" : Str), ls.length, by rw [List.length_map, List.length_map, hbl, plen], by omega, by omega, rfl⟩) (by show 2 ≤ 1000; decide) (((hE (.wrong (l.count ("*" : Str)) ls.length) (by unfold fillDue; rw [ck]; exact if_pos c)).mono s2).ra (.cons (.int _) (.cons (.int _) .nil)))⟩
  have hn : ls.length = l.count ("*" : Str) := by have := V.int.inj c; omega
  have due : fillDue rows l ls = match fstE (ckS rows) ls with
      | some e => some e
      | none => if 2000 < l.length - ls.length + ls.flatten.length then some .many else none := by
    unfold fillDue
    rw [ck]
    exact if_neg (fun z => z hn)
  -- each piece is looked at
  refine ⟨_, rfl, b, rfl, ⟨_, hB2⟩, for_tup (K := K) (a := b) (xs := bs.map V.ref) (fun i σ H' => ∃ t4 B, σ = [some (.ref a), some (.ref r), some (.ref b), some (.ref D), t4, none, none, none, none] ∧ Same H1 B ∧ Hs B [(D, .lst (vN ps))] H' ∧ ∀ z ∈ ls.take i, ckS rows z = none) ⟨none, H1, rfl, Same.refl H1, h2, fun _ z => (nomatch z)⟩ (fun _ _ _ _ ⟨_, _, _, s, z, _⟩ => Same.sqt ((s1.trans s).trans z.sub) hB) ?_ ?_⟩
  · rintro i v σ H3 hv ⟨t4, B, rfl, sB, hh, hpl⟩
    obtain ⟨q, eq, rfl⟩ := map_at hv
    have hi : i < ls.length := by rw [← hbl]; exact (List.getElem?_eq_some_iff.mp eq).1
    obtain ⟨z, el⟩ : ∃ z, ls[i]? = some z := ⟨_, List.getElem?_eq_getElem hi⟩
    obtain ⟨q2, eq2, tq⟩ := paired_at hP el
    rw [eq] at eq2
    cases eq2
    have sH := (s1.trans sB).trans hh.sub
    refine ⟨_, rfl, _, rfl, a, q, rows, z, rfl, hb.mono (Stay.of sH), Same.sqt sH tq, fun ck2 H4 s4 => ?_, fun e c => (hE e (by rw [due, fstE_at hpl el c])).mono sH⟩
    obtain ⟨g1, g2⟩ := hh.after s4
    refine ⟨_, _, rfl, sB.trans g1, g2, fun y hy => ?_⟩
    rw [take_at el] at hy
    rcases List.mem_append.mp hy with hy | hy
    · exact hpl y hy
    · rw [show y = z by simpa using hy]
      exact ck2
  rintro σ H3 ⟨t4, B, rfl, sB, hh, hpl⟩
  rw [List.length_map, hbl, List.take_length] at hpl
  rw [fstE_none hpl] at due
  have due : fillDue rows l ls = if 2000 < l.length - ls.length + ls.flatten.length then some .many else none := due
  have sH := (s1.trans sB).trans hh.sub
  have hfl := flat_le (m := 2000) (ls := ls) fun z hz => (stm_of (hpl z hz)).le
  have hB3 := Same.sqt (s1.trans sB) hB
  -- how many they are together
  refine ⟨_, rfl, r, _, rfl, .inr (Same.sqt sH hR), _, rfl, b, _, rfl, .inr (Same.sqt sH hB), _, _, rfl, rfl, ?_⟩
  refine ⟨_, rfl, b, rfl, ⟨_, Same.sqt sH hB⟩, fun D2 hD2 => lc_map (si := 4) hh hD2 hB3 (by rw [List.length_map]; omega) (fun i B' acc => acc = vN ((ls.take i).map (·.length))) rfl ?_ ?_⟩
  · rintro i x B' acc H4 hx s4 rfl h4 R hR4
    obtain ⟨q, eq, rfl⟩ := map_at hx
    have hi : i < ls.length := by rw [← hbl]; exact (List.getElem?_eq_some_iff.mp eq).1
    obtain ⟨z, el⟩ : ∃ z, ls[i]? = some z := ⟨_, List.getElem?_eq_getElem hi⟩
    obtain ⟨q2, eq2, tq⟩ := paired_at hP el
    rw [eq] at eq2
    cases eq2
    refine ⟨_, rfl, q, _, rfl, .inr (Same.sqt (((s1.trans sB).trans s4).trans h4.sub) tq), hR4 _ _ B' (Same.refl _) h4 ?_⟩
    rw [take_at el, List.map_append, vN, vN, List.map_append, List.length_map]
    rfl
  rintro B' acc H4 s4 rfl h4
  rw [List.length_map, hbl, List.take_length] at h4
  have s04 := ((s1.trans sB).trans s4).trans h4.sub
  refine ⟨D2, (ls.map (·.length)).map fun n : Nat => (n : Int), rfl, SqL.of (by rw [h4.r0, vN, List.map_map, List.map_map, List.map_map]; rfl), _, _, rfl, rfl, _, rfl, fun c => ?_, fun c => ((hE .many ?_).mono s04).ra im_tm⟩
  · rw [sum_int, List.length_map, List.length_map, hbl, ← flat_len] at c
    have dn : fillDue rows l ls = none := by rw [due, if_neg (by omega)]
    have hq := hq dn
    have h5 := h4.drop
    intro d hd
    have h6 := h5.new (o := .dK []) hd
    have hP1 : Paired (fun q (l : List Str) => SqT K H1 q (l.map V.str)) bs ls := Paired.mapP hP fun _ _ z => Same.sqt s1 z
    have sB4 := sB.trans s4
    have pbl : ps.length = (bs.map V.ref).length := by rw [List.length_map, hbl, hn, plen]
    have nd : ps.Nodup := by rw [← hps]; exact plc_nd l 0
    refine ⟨_, rfl, _, rfl, D, b, _, _, rfl, SqL.of h6.r1, Same.sqt ((s1.trans sB4).trans h6.sub) hB, for_it (walk_zipM (K := K) (n := (vN ps).length) rfl (by rw [List.length_map]; exact pbl)) (fun i σ H' => ∃ t4 t6, σ = [some (.ref a), some (.ref r), some (.ref b), some (.ref D), t4, some (.ref d), t6, none, none] ∧ Hs B' [(d, .dK (iKV ((ps.zip bs).take i))), (D, .lst (vN ps))] H') ⟨_, _, rfl, h6⟩ (fun _ _ _ _ ⟨_, _, _, z⟩ => ⟨SqL.of z.r1, Same.sqt ((s1.trans sB4).trans z.sub) hB⟩) ?_ ?_⟩
    · rintro i v σ H5 H6 hi ⟨t4, t6, rfl, hh⟩ ⟨T1, u1, u2, rfl, hT, rfl, e1, e2⟩
      have e1 : (vN ps)[i]? = some u1 := e1
      have e2 : (bs.map V.ref)[i]? = some u2 := e2
      obtain ⟨m, em, rfl⟩ := map_at e1
      obtain ⟨q, eq, rfl⟩ := map_at e2
      have hh := hh.lay (o := .tup [.int (m : Nat), .ref q]) hT
      have ez : (ps.zip bs)[i]? = some (m, q) := by rw [List.getElem?_zip_eq_some]; exact ⟨em, eq⟩
      have vn : valV (iKV ((ps.zip bs).take i)) (Sum.inl (m : Int) : Key) = none := by
        rw [valV_iKV, lkA_none fun z hz => ?_]
        · rfl
        · obtain ⟨j, hj, e⟩ := List.mem_iff_getElem.mp hz
          rw [List.getElem_take] at e
          rw [List.length_take] at hj
          intro e3
          have ej : (ps.zip bs)[j]? = some z := by rw [← e]; exact List.getElem?_eq_getElem (by omega)
          obtain ⟨ej1, _⟩ := List.getElem?_zip_eq_some.mp ej
          rw [e3] at ej1
          have hjp : j < ps.length := (List.getElem?_eq_some_iff.mp ej1).1
          have hip : i < ps.length := (List.getElem?_eq_some_iff.mp em).1
          have := (List.getElem?_inj hjp nd).mp (ej1.trans em.symm)
          omega
      have zsz : (iKV ((ps.zip bs).take i)).length < sizeLine := by
        rw [iKV, List.length_map, List.length_take, List.length_zip, sizeLine_eq]
        omega
      refine ⟨T1, _, rfl, SqT.of upd_same, rfl, _, _, rfl, _, _, rfl, rfl, ?_⟩
      refine ⟨_, rfl, _, rfl, _, rfl, d, _, rfl, DPut.k (k := Sum.inl (m : Int)) hh.r0 zsz, _, _, rfl, ?_⟩
      rw [putK_new _ vn]
      have := hh.w0 (o' := .dK (iKV ((ps.zip bs).take (i + 1))))
      rw [take_at ez, iKV, List.map_append] at this
      rw [take_at ez]
      rw [iKV, List.map_append]
      exact this
    · rintro σ H5 ⟨t4, t6, rfl, hh⟩
      have sH5 := (s1.trans sB4).trans hh.sub
      have ef : (ps.zip bs).take (vN ps).length = ps.zip bs := List.take_of_length_le (by rw [List.length_zip, List.length_map]; omega)
      rw [ef] at hh
      have sub := sub_fill l 0 ls (by rw [hps, plen, hn])
      rw [hps] at sub
      have fl := fillW_len l ls
      refine ⟨_, rfl, _, rfl, r, d, l, ps.zip bs, lkN (ps.zip ls), rfl, Same.sqt sH5 hR, hh.r0, fun i => ?_, by rw [sub]; omega, fun H7 p s7 tp => hq _ _ (sH5.trans s7) (by rw [sub] at tp; exact tp)⟩
      exact lk_paired (Paired.mapP hP fun _ _ z => Same.sqt sH5 z)
  · rw [sum_int, List.length_map, List.length_map, hbl, ← flat_len] at c
    rw [due, if_pos (by omega)]
end
end Sy
namespace Sy
open PySem PySem.Spec PyProof.Rows L2 RZ
/-! two plants walked side by side -/
def Wk (u v : List Nat) (i j : Nat) : Prop := ∃ m, Fo m (u.drop i) ∧ Fo m (v.drop j)
section
variable {u v : List Nat} {i j : Nat}
theorem Wk.start (h : Fo 1 u) (g : Fo 1 v) : Wk u v 0 0 := ⟨1, h, g⟩
theorem Wk.has (h : Wk u v i j) (hi : i < u.length) : ∃ m, Fo (m + 1) (u.drop i) ∧ Fo (m + 1) (v.drop j) ∧ j < v.length := by
  obtain ⟨m, a, b⟩ := h
  cases m with
  | zero =>
    have := congrArg List.length a.zero
    rw [List.length_drop] at this
    simp at this
    omega
  | succ m =>
    refine ⟨m, a, b, ?_⟩
    have := b.pos
    rw [List.length_drop] at this
    omega
theorem Fo.go {m : Nat} (h : Fo (m + 1) (u.drop i)) (hi : i < u.length) : Fo (m + aw u i) (u.drop (i + 1)) := by
  rw [drop_at hi] at h
  exact h
theorem Fo.skip {m : Nat} (h : Fo (m + 1) (u.drop i)) : Fo m (u.drop (en u i)) ∧ en u i ≤ u.length := by
  rw [Nat.add_comm] at h
  obtain ⟨h1, h2, _⟩ := Fo.le h
  rw [List.drop_drop] at h2
  rw [List.length_drop] at h1
  refine ⟨h2, ?_⟩
  unfold en
  by_cases c : i ≤ u.length
  · omega
  · have : u.drop i = [] := List.drop_eq_nil_of_le (by omega)
    rw [this] at h
    exact absurd h (by rw [Nat.add_comm]; exact fun z => z)
theorem Wk.go (h : Wk u v i j) (hi : i < u.length) (e : aw u i = aw v j) : Wk u v (i + 1) (j + 1) := by
  obtain ⟨m, a, b, hj⟩ := h.has hi
  refine ⟨m + aw u i, a.go hi, ?_⟩
  rw [e]
  exact b.go hj
theorem Wk.skip (h : Wk u v i j) (hi : i < u.length) : Wk u v (en u i) (en v j) ∧ en u i ≤ u.length ∧ en v j ≤ v.length := by
  obtain ⟨m, a, b, hj⟩ := h.has hi
  exact ⟨⟨m, a.skip.1, b.skip.1⟩, a.skip.2, b.skip.2⟩
theorem Wk.leap (h : Wk u v i j) (hi : i < u.length) (e : aw u i = 0) : Wk u v (i + 1) (en v j) := by
  obtain ⟨m, a, b, hj⟩ := h.has hi
  have q := a.go hi
  rw [e] at q
  exact ⟨m, q, b.skip.1⟩
theorem Wk.leap2 (h : Wk u v i j) (hi : i < u.length) (e : aw v j = 0) : Wk u v (en u i) (j + 1) := by
  obtain ⟨m, a, b, hj⟩ := h.has hi
  have q := b.go hj
  rw [e] at q
  exact ⟨m, a.skip.1, q⟩
end
theorem en_leaf {u : List Nat} {i : Nat} (hi : i < u.length) (h : aw u i = 0) : en u i = i + 1 := by
  rw [← en_kd hi, h, kd_zero]
/-! comparing rows of words -/
theorem lay_strs {l : List Str} (h : ∀ x ∈ l, PyData.strOk x = true) : PyData.canLayAll0 (l.map PyData.str) = true ∧ PyData.depthAll (l.map PyData.str) ≤ 1 := by
  induction l with
  | nil => exact ⟨rfl, Nat.zero_le _⟩
  | cons x l ih =>
    have ih := ih fun y hy => h y (List.mem_cons_of_mem _ hy)
    simp only [List.map_cons, PyData.canLayAll0, PyData.depthAll, PyData.canLay0, PyData.depth, h x List.mem_cons_self, Bool.true_and]
    exact ⟨ih.1, by omega⟩
theorem lay_DS {l : List Str} (h : ∀ x ∈ l, PyData.strOk x = true) : SeqAt.shaped (DS l) = true := by
  have := lay_strs h
  unfold SeqAt.shaped DS
  simp only [PyData.canLay0, PyData.depth]
  rw [this.1, Bool.true_and]
  exact decide_eq_true (by omega)
theorem eqv_strs : ∀ (x y : List Str), PyData.eqvAll (x.map PyData.str) (y.map PyData.str) = decide (x = y)
  | [], [] => rfl
  | [], y :: ys => by simp [PyData.eqvAll]
  | x :: xs, [] => by simp [PyData.eqvAll]
  | x :: xs, y :: ys => by
    rw [List.map_cons, List.map_cons, PyData.eqvAll, PyData.eqv, eqv_strs xs ys]
    by_cases h : x = y
    · subst h
      simp
    · simp [h]
theorem eqv_DS (x y : List Str) : PyData.eqv (DS x) (DS y) = decide (x = y) := by
  unfold DS
  rw [PyData.eqv, eqv_strs]
def dPr (z : List Str × List Str) : PyData := .tuple [DS z.1, DS z.2]
section
variable {P : Program} {w : World} {K : PySem.W.Frag} {mg : Str → Option Value} {base : Heap}
/-! side_by_side -/
def PrOk (l : List Str) (n : Nat) (ds : List (List Str × List Str)) : Prop := ((∃ z ∈ ds, z.1 ≠ [("*" : Str)]) ∨ ds.length = (l.take n).count ("*" : Str)) ∧ ∀ z ∈ ds, ∀ x ∈ z.1, x ∈ l
def spSide (K : PySem.W.Frag) : Sp := fun vs H Q _ => ∃ (a r o : Addr) (rows : List Sy.Row) (l m : List Str), vs = [.ref a, .ref r, .ref o] ∧ BedAt K H a rows ∧ SqT K H r (l.map V.str) ∧ SqT K H o (m.map V.str) ∧ Fo 1 (wt rows l) ∧ Fo 1 (wt rows m) ∧ l.length ≤ 2000 ∧ m.length ≤ 2000 ∧ isK rows "*" = false ∧
  (∀ H', Same H H' → Q .non H') ∧ (∀ H' v ds, Same H H' → Im K H' v (.tuple (ds.map dPr)) → ds.length ≤ l.length → PrOk l l.length ds → Q v H')
abbrev N_side : List Str := ["bed", "one", "two", "pairs", "here", "there", "one_stop", "two_stop"]
theorem sc_side : FnScope N_side ["bed", "one", "two"] (defScope (top 24)) := ⟨rfl, rfl, rfl, by decide +kernel, rfl, by decide +kernel, by decide +kernel⟩
theorem k_side (T : Txt K mg) (F : DF K mg "side_by_side" 24) (c_span_stop : Cal P w K mg base 2 "span_stop" ["bed", "row", "place"] (spStop K)) : Cal P w K mg base 3 "side_by_side" ["bed", "one", "two"] (spSide K) := by
  refine cal_of F.1 F.2 sc_side (fun _ _ _ _ _ _ us e => match us, e with | [_, _, _], _ => rfl) (fun vs H Q E s => by obtain ⟨_, _, _, _, _, _, rfl, _⟩ := s; rfl) ?_
  intro cdv A outer s H vs Q E hr h
  obtain ⟨a, r, o, rows, l, m, rfl, hb, hR, hO, hF, hG, hl, hm, hst, hq0, hq⟩ := h
  have hu := hu_of hr
  have sc := sc_side
  have hwl := wt_len rows l
  have hwm := wt_len rows m
  refine ⟨_, (pss_cons (ps_set (i := 3) sc.nd rfl (Or.inl rfl) (pe_lst pa_nil))
      (pss_cons (ps_asg2 pe_int (pg_name (i := 4) sc.nd rfl (Or.inl rfl)) (pg_name (i := 5) sc.nd rfl (Or.inl rfl)))
      (pss_cons (ps_while (passes_of rfl) (pt_cmpR op_lt (pv 4) (pe_callB call_len_seq (by rfl) T.len (by decide +kernel) (pa_cons (pv 1) pa_nil)) (nomark _))
        (pss_one (ps_if (PW.pt (pw_and (pt_cmp (pc_din hu (pe_ix ix_tup (pv 1) (pv 4) (fun _ _ => rfl)) (pe_fld (pv 0) rfl))) (pw_and1 (pt_cmp (pc_din hu (pe_ix ix_tup (pv 2) (pv 5) (fun _ _ => rfl)) (pe_fld (pv 0) rfl))))))
          (pss_cons (ps_if (pt_cmpR op_ne (pe_ix ix_tup (pv 1) (pv 4) (fun _ _ => rfl)) (pe_ix ix_tup (pv 2) (pv 5) (fun _ _ => rfl)) (nomark _))
            (pss_one (ps_ret pe_non))
            pss_nil)
          (pss_cons (ps_set (i := 4) sc.nd rfl (Or.inl rfl) (pe_op op_add (pv 4) pe_int))
          (pss_one (ps_set (i := 5) sc.nd rfl (Or.inl rfl) (pe_op op_add (pv 5) pe_int)))))
          (pss_cons (ps_set (i := 6) sc.nd rfl (Or.inl rfl) (pe_cal c_span_stop hr (pa_cons (pv 0) (pa_cons (pv 1) (pa_cons (pv 4) pa_nil)))))
          (pss_cons (ps_set (i := 7) sc.nd rfl (Or.inl rfl) (pe_cal c_span_stop hr (pa_cons (pv 0) (pa_cons (pv 2) (pa_cons (pv 5) pa_nil)))))
          (pss_cons (ps_expr (pe_bm PySem.F.plainAttrs_list PySem.F.slot_list_append PySem.F.type_list_append mt_append (pv 3) (pa_cons (pe_tup (pa_cons (pe_slice sl_tupA (pv 1) (po_some (pv 4)) (po_some (pv 6))) (pa_cons (pe_slice sl_tupA (pv 2) (po_some (pv 5)) (po_some (pv 7))) pa_nil))) pa_nil)))
          (pss_cons (ps_set (i := 4) sc.nd rfl (Or.inl rfl) (pv 6))
          (pss_one (ps_set (i := 5) sc.nd rfl (Or.inl rfl) (pv 7))))))))))
      (pss_one (ps_ret (pe_callTy call_tuple_of (by rfl) T.tuple (by decide +kernel) (pa_cons (pv 3) pa_nil))))))), ?_⟩
  refine ⟨by decide, fun D hD => ?_⟩
  have h1 := (Hs.start H).new (o := .lst []) hD
  refine ⟨fun n σ H' => ∃ (i j : Nat) (z1 z2 : Int) (t6 t7 : Option V) (B : Hp) (acc : List V) (ds : List (List Str × List Str)), n = l.length - i ∧ σ = [some (.ref a), some (.ref r), some (.ref o), some (.ref D), some (.int z1), some (.int z2), t6, t7] ∧ z1 = (i : Nat) ∧ z2 = (j : Nat) ∧ Same H B ∧ Hs B [(D, .lst acc)] H' ∧ ImA K B acc (ds.map dPr) ∧ ds.length ≤ i ∧ i ≤ l.length ∧ PrOk l i ds ∧ Wk (wt rows l) (wt rows m) i j,
    ⟨_, 0, 0, 0, 0, none, none, H, [], [], rfl, rfl, rfl, rfl, Same.refl H, h1, .nil, Nat.le_refl _, Nat.zero_le _, ⟨.inr rfl, fun _ z => (nomatch z)⟩, Wk.start hF hG⟩, ?_⟩
  rintro n σ H1 ⟨i, j, _, _, t6, t7, B, acc, ds, rfl, rfl, rfl, rfl, sB, hh, im, hdl, hil, hpr, hw⟩
  have sH := sB.trans hh.sub
  have hR1 := Same.sqt sH hR
  have hO1 := Same.sqt sH hO
  have hb1 := hb.mono (Stay.of sH)
  refine ⟨_, rfl, _, rfl, r, _, rfl, .inr hR1, _, _, rfl, rfl, _, rfl, if_dec (fun c => ?_) (fun c => ?_)⟩
  · rw [List.length_map] at c
    have hi : i < l.length := by omega
    have hiw : i < (wt rows l).length := by omega
    obtain ⟨_, _, _, hjw⟩ := hw.has hiw
    have hj : j < m.length := by omega
    obtain ⟨y, hy⟩ : ∃ y, l[i]? = some y := ⟨_, List.getElem?_eq_getElem hi⟩
    obtain ⟨x, hx⟩ : ∃ x, m[j]? = some x := ⟨_, List.getElem?_eq_getElem hj⟩
    have ey := wt_at (rows := rows) hy
    have ex := wt_at (rows := rows) hx
    have ay : atI (l.map V.str) ((i : Nat) : Int) = some (.str y) := atI_nat (by rw [List.getElem?_map, hy]; rfl)
    have ax : atI (m.map V.str) ((j : Nat) : Int) = some (.str x) := atI_nat (by rw [List.getElem?_map, hx]; rfl)
    obtain ⟨dx, dA, tR, tK, dR, pp, g1, hd, g3, g4, g5, g6⟩ := id hb1.ex
    refine ⟨fun σ' H' => ∃ m', m' < l.length - i ∧ ∃ (i j : Nat) (z1 z2 : Int) (t6 t7 : Option V) (B : Hp) (acc : List V) (ds : List (List Str × List Str)), m' = l.length - i ∧ σ' = [some (.ref a), some (.ref r), some (.ref o), some (.ref D), some (.int z1), some (.int z2), t6, t7] ∧ z1 = (i : Nat) ∧ z2 = (j : Nat) ∧ Same H B ∧ Hs B [(D, .lst acc)] H' ∧ ImA K B acc (ds.map dPr) ∧ ds.length ≤ i ∧ i ≤ l.length ∧ PrOk l i ds ∧ Wk (wt rows l) (wt rows m) i j, fun _ _ z => z, ?_⟩
    refine ⟨_, rfl, _, rfl, r, _, _, _, rfl, rfl, hR1, ay, _, rfl, a, _, dx, _, _, rfl, g1, T.bed.cl, T.bed.nA, rfl, dA, _, rfl, DGet.k (k := Sum.inr y) hd, _, rfl, if_bool (fun c1 => ⟨_, rfl, _, rfl, o, _, _, _, rfl, rfl, hO1, ax, _, rfl, a, _, dx, _, _, rfl, g1, T.bed.cl, T.bed.nA, rfl, dA, _, rfl, DGet.k (k := Sum.inr x) hd, _, rfl, if_bool (fun c2 => ?A) (fun c2 => ?B)⟩) (fun c1 => ?C)⟩
    case A =>
      have c1 : isK rows y = true := by simpa [valV_ar, isK] using c1
      have yn : y ≠ "*" := fun z => by rw [z, hst] at c1; cases c1
      refine ⟨_, rfl, _, rfl, r, _, _, _, rfl, rfl, hR1, ay, _, rfl, _, rfl, o, _, _, _, rfl, rfl, hO1, ax, rfl, _, rfl, if_ndec (fun c3 => hq0 _ sH) (fun c3 => ?_)⟩
      have exy : y = x := V.str.inj c3
      refine ⟨_, rfl, _, _, rfl, rfl, _, rfl, _, _, rfl, rfl, _, (by show l.length - (i + 1) < l.length - i; omega), i + 1, j + 1, _, _, _, _, B, acc, ds, rfl, rfl, rfl, rfl, sB, hh, im, by omega, hi, ?_, hw.go hiw (by rw [ey, ex, exy])⟩
      refine ⟨?_, hpr.2⟩
      rcases hpr.1 with z | z
      · exact .inl z
      · refine .inr ?_
        rw [take_at hy, List.count_append, z]
        simp [yn]
    all_goals
      obtain ⟨wsk, e1, e2⟩ := hw.skip hiw
      have gl := en_gt hiw
      have gm := en_gt hjw
      refine ⟨_, rfl, _, rfl, _, rfl, a, r, i, rows, l, rfl, hb1, hR1, hF, hi, ?_⟩
      refine ⟨_, rfl, _, rfl, _, rfl, a, o, j, rows, m, rfl, hb1, hO1, hG, hj, ?_⟩
      refine ⟨_, rfl, .inl ⟨rfl, _, SqL.of hh.r0⟩, _, rfl, _, rfl, _, rfl, _, rfl, _, rfl, sl_any (cut_mid (by omega) (by rw [List.length_map]; omega)) hR1 fun p1 H2 s2 t1 => ?_⟩
      refine ⟨_, rfl, _, rfl, _, rfl, _, rfl, _, rfl, sl_any (cut_mid (by omega) (by rw [List.length_map]; omega)) (Same.sqt s2 hO1) fun p2 H3 s3 t2 => ⟨(by show 2 ≤ sizeLine; decide), fun p hp => ?_⟩⟩
      obtain ⟨k1, k2⟩ := hh.after (s2.trans s3)
      have st := stay_cut hh (AllL.cons AllL.nil) (s2.trans s3)
      generalize cut [(D, HO.lst acc)] H3 = B3 at *
      have k3 := k2.tup (o := .tup [.ref p1, .ref p2]) hp
      have s4 : Same B3 (upd B3 p (.tup [.ref p1, .ref p2])) := up_same (k2.sub.free hp)
      have t1 := Same.sqt s4 (st.sqt (Same.sqt s3 t1))
      have t2 := Same.sqt s4 (st.sqt t2)
      have hal : acc.length = ds.length := by rw [im.len, List.length_map]
      have tl : SqT K (upd B3 p (.tup [.ref p1, .ref p2])) p1 ((brn (wt rows l) l i).map V.str) := by
        rw [brn, List.map_take, List.map_drop]
        exact t1
      have tm : SqT K (upd B3 p (.tup [.ref p1, .ref p2])) p2 ((brn (wt rows m) m j).map V.str) := by
        rw [brn, List.map_take, List.map_drop]
        exact t2
      refine ⟨D, _, _, rfl, rfl, k3.r0, by rw [sizeLine_eq]; omega, _, rfl, _, rfl, _, (by show l.length - en (wt rows l) i < l.length - i; omega), en (wt rows l) i, en (wt rows m) j, _, _, _, _, _, _, ds ++ [(brn (wt rows l) l i, brn (wt rows m) m j)], rfl, rfl, rfl, rfl, (sB.trans k1).trans s4, k3.w0, ?_, ?_, by omega, ?_, wsk⟩
      · rw [List.map_append]
        exact (im.mono (Stay.of (k1.trans s4))).snoc (.tup (SqT.of upd_same) (.cons (Im.strs tl) (.cons (Im.strs tm) .nil)))
      · rw [List.length_append]
        show ds.length + 1 ≤ _
        omega
      · refine ⟨?_, fun z hz x hx => ?_⟩
        rotate_left
        · rcases List.mem_append.mp hz with hz | hz
          · exact hpr.2 z hz x hx
          · rw [List.mem_singleton.mp hz] at hx
            exact List.mem_of_mem_drop (List.mem_of_mem_take hx)
        by_cases cy : y = "*"
        · have e0 : aw (wt rows l) i = 0 := by
            rw [ey, cy]
            unfold ar
            unfold isK at hst
            cases e : rows.lookup ("*" : Str) with
            | none => rfl
            | some n => rw [e] at hst; cases hst
          have en1 := en_leaf hiw e0
          rcases hpr.1 with ⟨z, hz, zn⟩ | z
          · exact .inl ⟨z, List.mem_append_left _ hz, zn⟩
          · refine .inr ?_
            rw [en1, take_at hy, List.count_append, List.length_append, z, cy]
            rfl
        · refine .inl ⟨_, List.mem_append_right _ (List.mem_singleton.mpr rfl), fun z => cy ?_⟩
          have z : (l.drop i).take (en (wt rows l) i - i) = [("*" : Str)] := z
          rw [drop_of hy, show en (wt rows l) i - i = (en (wt rows l) i - i - 1) + 1 by omega, List.take_succ_cons] at z
          exact (List.cons.inj z).1
  · rw [List.length_map] at c
    have : i = l.length := by omega
    subst this
    refine ⟨_, rfl, D, _, rfl, .inl ⟨SqL.of hh.r0, fun p hp => ?_⟩⟩
    have sp := hh.sub.trans (up_same (o := .tup acc) hp)
    exact hq _ _ ds (sB.trans sp) (.tup (SqT.of upd_same) (im.mono (Stay.of sp))) hdl hpr
end
end Sy
namespace Sy
open PySem PySem.Spec PyProof.Rows L2 RZ
section
variable {P : Program} {w : World} {K : PySem.W.Frag} {mg : Str → Option Value} {base : Heap}
/-- what two stumps ask: the first invalid one counts -/
def twoE (ck : List Str → Option Er) (l m : List Str) : Option Er := match ck l with
  | some e => some e
  | none => ck m
theorem twoE_1 {ck : List Str → Option Er} {l m : List Str} {e : Er} (h : ck l = some e) : twoE ck l m = some e := by unfold twoE; rw [h]
theorem twoE_2 {ck : List Str → Option Er} {l m : List Str} (h : ck l = none) : twoE ck l m = ck m := by unfold twoE; rw [h]
/-! parts -/
def spParts (K : PySem.W.Frag) : Sp := fun vs H Q E => ∃ (a r o : Addr) (rows : List Sy.Row) (l m : List Str), vs = [.ref a, .ref r, .ref o] ∧ BedAt K H a rows ∧ SqT K H r (l.map V.str) ∧ SqT K H o (m.map V.str) ∧ (∀ x ∈ l, PyData.strOk x = true) ∧ isK rows "*" = false ∧
  (twoE (ckS rows) l m = none → (∀ H', Same H H' → Q .non H') ∧ (∀ H' v ds, Same H H' → Im K H' v (.tuple ds) → ds.length = l.count ("*" : Str) → Q v H')) ∧ (∀ e, twoE (ckS rows) l m = some e → RaE K e H E)
abbrev N_parts : List Str := ["bed", "stump", "other", "pairs", "piece", "_", "part"]
theorem sc_parts : FnScope N_parts ["bed", "stump", "other"] (defScope (top 51)) := ⟨rfl, rfl, rfl, by decide +kernel, rfl, by decide +kernel, by decide +kernel⟩
theorem k_parts (T : Txt K mg) (S : TxtS mg) (F : DF K mg "parts" 51) (c_check_stump : Cal P w K mg base 4 "check_stump" ["bed", "stump"] (spCheckE K ckS)) (c_side_by_side : Cal P w K mg base 3 "side_by_side" ["bed", "one", "two"] (spSide K)) : Cal P w K mg base 5 "parts" ["bed", "stump", "other"] (spParts K) := by
  refine cal_of F.1 F.2 sc_parts (fun _ _ _ _ _ _ us e => match us, e with | [_, _, _], _ => rfl) (fun vs H Q E s => by obtain ⟨_, _, _, _, _, _, rfl, _⟩ := s; rfl) ?_
  intro cdv A outer s H vs Q E hr h
  obtain ⟨a, r, o, rows, l, m, rfl, hb, hR, hO, hx, hst, hq, hE⟩ := h
  have sc := sc_parts
  refine ⟨_, (pss_cons (ps_expr (pe_calX c_check_stump hr (takes_of rfl rfl rfl rfl) (pa_cons (pv 0) (pa_cons (pv 1) pa_nil))))
      (pss_cons (ps_expr (pe_calX c_check_stump hr (takes_of rfl rfl rfl rfl) (pa_cons (pv 0) (pa_cons (pv 2) pa_nil))))
      (pss_cons (ps_set (i := 3) sc.nd rfl (Or.inl rfl) (pe_cal c_side_by_side hr (pa_cons (pv 0) (pa_cons (pv 1) (pa_cons (pv 2) pa_nil)))))
      (pss_cons (ps_if (pt_cmpR op_isN (pv 3) pe_non (nomark _))
        (pss_one (ps_ret pe_non))
        pss_nil)
      (pss_cons (ps_for (passes_of rfl) rfl (pi_tup (pv 3)) (pg_tup rfl (pgs_cons (pg_name (i := 4) sc.nd rfl (Or.inl rfl)) (pgs_cons (pg_name (i := 5) sc.nd rfl (Or.inl rfl)) pgs_nil)))
        (pss_one (ps_if (pt_cmpR (op_neD hr.units) (pv 4) (pe_tup (pa_cons (pe_gstr rfl S.hole) pa_nil)) (nomark _))
          (pss_one (ps_ret pe_non))
          pss_nil)))
      (pss_one (ps_ret (pe_callTy call_tuple_of (by rfl) T.tuple (by decide +kernel) (pa_cons (pe_lc (own := [("_", 5), ("part", 6)]) (g := gTup K 2 (gCons (gName 5) (gCons (gName 6) (gNil)))) rfl sc.nd (pi_tup (pv 3)) (blkOk_by (N := N_parts) (sc := defScope (top 51)) (by decide +kernel)) (fun _ _ _ _ _ => (pg_tup rfl (pgs_cons (pg_name (i := 5) sc.nd rfl (Or.inl rfl)) (pgs_cons (pg_name (i := 6) sc.nd rfl (Or.inl rfl)) pgs_nil)))) (fun _ _ _ _ _ => pts_nil) (fun _ _ _ _ _ => (pv 6))) pa_nil))))))))), ?_⟩
  refine ⟨_, rfl, _, rfl, a, r, rows, l, rfl, hb, hR, fun ck1 H1 s1 => ?_, fun e c => hE e (twoE_1 c)⟩
  rw [twoE_2 ck1] at hq
  have hE : ∀ e, ckS rows m = some e → RaE K e H E := fun e c => hE e (by rw [twoE_2 ck1]; exact c)
  refine ⟨_, rfl, _, rfl, a, o, rows, m, rfl, hb.mono (Stay.of s1), Same.sqt s1 hO, fun ck2 H2 s2 => ?_, fun e c => (hE e c).mono s1⟩
  obtain ⟨hq0, hq1⟩ := hq ck2
  have h1 := stm_of ck1
  have h2 := stm_of ck2
  have s12 := s1.trans s2
  refine ⟨_, rfl, _, rfl, _, rfl, a, r, o, rows, l, m, rfl, hb.mono (Stay.of s12), Same.sqt s12 hR, Same.sqt s12 hO, h1.fo, h2.fo, h1.le, h2.le, hst, fun H3 s3 => ?_, fun H3 v ds s3 iv hdl hpr => ?_⟩
  · refine ⟨_, rfl, rfl, _, rfl, ?_⟩
    rw [decide_eq_true rfl]
    exact iteT (hq0 _ (s12.trans s3))
  have s13 := s12.trans s3
  have hll := h1.le
  obtain ⟨p, vs, rfl, tp, ip⟩ := iv.tupI
  have vl : vs.length = ds.length := by rw [ip.len, List.length_map]
  obtain ⟨hpr, hin⟩ := hpr
  rw [List.take_length] at hpr
  refine ⟨_, rfl, rfl, _, rfl, if_dec (fun c => by cases c) (fun _ => ?_)⟩
  refine ⟨_, rfl, p, rfl, ⟨_, tp⟩, for_tup (K := K) (a := p) (xs := vs) (fun i σ H' => ∃ t4 t5, σ = [some (.ref a), some (.ref r), some (.ref o), some (.ref p), t4, t5, none] ∧ Same H3 H' ∧ ∀ z ∈ ds.take i, z.1 = [("*" : Str)]) ⟨none, none, rfl, Same.refl _, fun _ z => (nomatch z)⟩ (fun _ _ _ _ ⟨_, _, _, s, _⟩ => Same.sqt s tp) ?_ ?_⟩
  · rintro i v σ H4 hv ⟨t4, t5, rfl, s4, hall⟩
    have hi : i < ds.length := by rw [← vl]; exact (List.getElem?_eq_some_iff.mp hv).1
    obtain ⟨z, ez⟩ : ∃ z, ds[i]? = some z := ⟨_, List.getElem?_eq_getElem hi⟩
    obtain ⟨v2, ev, iz⟩ := ip.get (i := i) (d := dPr z) (by rw [List.getElem?_map, ez]; rfl)
    rw [hv] at ev
    cases ev
    obtain ⟨q, ws, rfl, tq, iq⟩ := iz.tupI
    obtain ⟨w1, w2, rfl, i1, i2⟩ : ∃ w1 w2, ws = [w1, w2] ∧ Im K H3 w1 (DS z.1) ∧ Im K H3 w2 (DS z.2) := by
      cases iq with
      | cons a b => cases b with
        | cons b c => cases c; exact ⟨_, _, rfl, a, b⟩
    have s14 := s13.trans s4
    refine ⟨q, _, rfl, Same.sqt s4 tq, rfl, _, _, rfl, _, _, rfl, rfl, ?_⟩
    refine ⟨_, rfl, (by show 1 ≤ sizeLine; decide), fun t ht => ?_⟩
    have s5 := s4.trans (up_same (o := .tup [.str "*"]) ht)
    have dh : Im K (upd H4 t (.tup [.str "*"])) (.ref t) (DS [("*" : Str)]) := Im.strs (l := [("*" : Str)]) (SqT.of upd_same)
    have shp : SeqAt.shaped (DS z.1) = true := lay_DS fun x hx2 => hx x (hin z (List.mem_of_getElem? ez) x hx2)
    refine ⟨DS z.1, DS [("*" : Str)], (i1.mono (Stay.of s5)).dp, dh.dp, shp, lay_DS (fun x hx2 => by rw [List.mem_singleton.mp hx2]; decide +kernel), _, rfl, ?_⟩
    rw [eqv_DS]
    refine if_ndec (fun c => hq0 _ (s13.trans s5)) (fun c => ⟨_, _, rfl, s5, fun y hy => ?_⟩)
    rw [take_at ez] at hy
    rcases List.mem_append.mp hy with hy | hy
    · exact hall y hy
    · rw [List.mem_singleton.mp hy]
      exact c
  · rintro σ H4 ⟨t4, t5, rfl, s4, hall⟩
    rw [vl, List.take_length] at hall
    have hn : ds.length = l.count ("*" : Str) := by
      rcases hpr with ⟨z, hz, zn⟩ | z
      · exact absurd (hall z hz) zn
      · exact z
    have tp4 := Same.sqt s4 tp
    have ip4 := ip.mono (Stay.of s4)
    refine ⟨_, rfl, p, rfl, ⟨_, tp4⟩, fun D hD => lc_it (walk_tup (K := K) (a := p) (xs := vs)) (fun i H' => ∃ B acc, Same H4 B ∧ Hs B [(D, .lst acc)] H' ∧ ImA K B acc ((ds.take i).map fun z => DS z.2)) ⟨H4, [], Same.refl _, (Hs.start H4).new hD, .nil⟩ (fun _ _ _ ⟨B, _, s, h, _⟩ => Same.sqt (s.trans h.sub) tp4) ?_ ?_⟩
    · rintro i v H5 H6 hi ⟨B, acc, sB, hh, im⟩ ⟨rfl, hv⟩
      rw [vl] at hi
      obtain ⟨z, ez⟩ : ∃ z, ds[i]? = some z := ⟨_, List.getElem?_eq_getElem hi⟩
      obtain ⟨v2, ev, iz⟩ := ip4.get (i := i) (d := dPr z) (by rw [List.getElem?_map, ez]; rfl)
      rw [hv] at ev
      cases ev
      obtain ⟨q, ws, rfl, tq, iq⟩ := iz.tupI
      obtain ⟨w1, w2, rfl, i1, i2⟩ : ∃ w1 w2, ws = [w1, w2] ∧ Im K H4 w1 (DS z.1) ∧ Im K H4 w2 (DS z.2) := by
        cases iq with
        | cons a b => cases b with
          | cons b c => cases c; exact ⟨_, _, rfl, a, b⟩
      have hal : acc.length ≤ i := by rw [im.len, List.length_map, List.length_take]; omega
      refine ⟨q, _, rfl, Same.sqt (sB.trans hh.sub) tq, rfl, _, _, rfl, _, _, rfl, rfl, rfl, ?_⟩
      simp only [tYes, if_true]
      refine ⟨_, rfl, acc, hh.r0, by rw [sizeLine_eq]; omega, B, acc ++ [w2], sB, hh.w0, ?_⟩
      rw [take_at ez, List.map_append]
      exact im.snoc (i2.mono (Stay.of sB))
    · rintro H5 ⟨B, acc, sB, hh, im⟩
      rw [vl, List.take_length] at im
      refine ⟨D, _, rfl, .inl ⟨SqL.of hh.r0, fun u hu => ?_⟩⟩
      have sp := hh.sub.trans (up_same (o := .tup acc) hu)
      exact hq1 _ _ _ (((s13.trans s4).trans sB).trans sp) (.tup (SqT.of upd_same) (im.mono (Stay.of sp))) (by rw [List.length_map]; exact hn)
def spBegins (K : PySem.W.Frag) : Sp := fun vs H Q E => ∃ (a r o : Addr) (rows : List Sy.Row) (l m : List Str), vs = [.ref a, .ref r, .ref o] ∧ BedAt K H a rows ∧ SqT K H r (l.map V.str) ∧ SqT K H o (m.map V.str) ∧ (∀ x ∈ l, PyData.strOk x = true) ∧ isK rows "*" = false ∧
  (twoE (ckS rows) l m = none → ∀ H' b, Same H H' → Q (.bl b) H') ∧ (∀ e, twoE (ckS rows) l m = some e → RaE K e H E)
theorem sc_begins : FnScope ["bed", "stump", "other"] ["bed", "stump", "other"] (defScope (top 50)) := ⟨rfl, rfl, rfl, by decide +kernel, rfl, by decide +kernel, by decide +kernel⟩
theorem k_begins (F : DF K mg "begins" 50) (c_parts : Cal P w K mg base 5 "parts" ["bed", "stump", "other"] (spParts K)) : Cal P w K mg base 6 "begins" ["bed", "stump", "other"] (spBegins K) := by
  refine cal_of F.1 F.2 sc_begins (fun _ _ _ _ _ _ us e => match us, e with | [_, _, _], _ => rfl) (fun vs H Q E s => by obtain ⟨_, _, _, _, _, _, rfl, _⟩ := s; rfl) ?_
  intro cdv A outer s H vs Q E hr h
  obtain ⟨a, r, o, rows, l, m, rfl, hb, hR, hO, hx, hst, hq, hE⟩ := h
  refine ⟨_, (pss_one (ps_ret (pe_cmpR op_notN (pe_calX c_parts hr (takes_of rfl rfl rfl rfl) (pa_cons (pv 0) (pa_cons (pv 1) (pa_cons (pv 2) pa_nil)))) pe_non (nomark _)))), ?_⟩
  exact ⟨_, rfl, _, rfl, _, rfl, a, r, o, rows, l, m, rfl, hb, hR, hO, hx, hst, fun c => ⟨fun H' s1 => ⟨rfl, hq c _ _ s1⟩, fun H' v ds s1 _ _ => ⟨rfl, hq c _ _ s1⟩⟩, hE⟩
end
end Sy
namespace Sy
open PySem PySem.Spec PyProof.Rows L2 RZ
section
variable {P : Program} {w : World} {K : PySem.W.Frag} {mg : Str → Option Value} {base : Heap}
/-! common_row -/
def spComRow (K : PySem.W.Frag) : Sp := fun vs H Q _ => ∃ (a r o : Addr) (x : Str) (rows : List Sy.Row) (l m : List Str), vs = [.ref a, .ref r, .ref o, .str x] ∧ BedAt K H a rows ∧ SqT K H r (l.map V.str) ∧ SqT K H o (m.map V.str) ∧ Fo 1 (wt rows l) ∧ Fo 1 (wt rows m) ∧ l.length ≤ 2000 ∧ m.length ≤ 2000 ∧
  (∀ H' p (c : List Str), Same H H' → SqT K H' p (c.map V.str) → Q (.ref p) H')
abbrev N_comRow : List Str := ["bed", "one", "two", "hole", "result", "here", "there"]
theorem sc_comRow : FnScope N_comRow ["bed", "one", "two", "hole"] (defScope (top 25)) := ⟨rfl, rfl, rfl, by decide +kernel, rfl, by decide +kernel, by decide +kernel⟩
theorem k_comRow (T : Txt K mg) (F : DF K mg "common_row" 25) (c_span_stop : Cal P w K mg base 2 "span_stop" ["bed", "row", "place"] (spStop K)) : Cal P w K mg base 3 "common_row" ["bed", "one", "two", "hole"] (spComRow K) := by
  refine cal_of F.1 F.2 sc_comRow (fun _ _ _ _ _ _ us e => match us, e with | [_, _, _, _], _ => rfl) (fun vs H Q E s => by obtain ⟨_, _, _, _, _, _, _, rfl, _⟩ := s; rfl) ?_
  intro cdv A outer s H vs Q E hr h
  obtain ⟨a, r, o, hole, rows, l, m, rfl, hb, hR, hO, hF, hG, hl, hm, hq⟩ := h
  have hu := hu_of hr
  have sc := sc_comRow
  have hwl := wt_len rows l
  have hwm := wt_len rows m
  refine ⟨_, (pss_cons (ps_set (i := 4) sc.nd rfl (Or.inl rfl) (pe_lst pa_nil))
      (pss_cons (ps_asg2 pe_int (pg_name (i := 5) sc.nd rfl (Or.inl rfl)) (pg_name (i := 6) sc.nd rfl (Or.inl rfl)))
      (pss_cons (ps_while (passes_of rfl) (pt_cmpR op_lt (pv 5) (pe_callB call_len_seq (by rfl) T.len (by decide +kernel) (pa_cons (pv 1) pa_nil)) (nomark _))
        (pss_one (ps_if (PW.pt (pw_and (pt_cmp (pc_din hu (pe_ix ix_tup (pv 1) (pv 5) (fun _ _ => rfl)) (pe_fld (pv 0) rfl))) (pw_and1 (pt_cmpR op_eq (pe_ix ix_tup (pv 1) (pv 5) (fun _ _ => rfl)) (pe_ix ix_tup (pv 2) (pv 6) (fun _ _ => rfl)) (nomark _)))))
          (pss_cons (ps_expr (pe_bm PySem.F.plainAttrs_list PySem.F.slot_list_append PySem.F.type_list_append mt_append (pv 4) (pa_cons (pe_ix ix_tup (pv 1) (pv 5) (fun _ _ => rfl)) pa_nil)))
          (pss_cons (ps_set (i := 5) sc.nd rfl (Or.inl rfl) (pe_op op_add (pv 5) pe_int))
          (pss_one (ps_set (i := 6) sc.nd rfl (Or.inl rfl) (pe_op op_add (pv 6) pe_int)))))
          (pss_cons (ps_expr (pe_bm PySem.F.plainAttrs_list PySem.F.slot_list_append PySem.F.type_list_append mt_append (pv 4) (pa_cons (pv 3) pa_nil)))
          (pss_cons (ps_set (i := 5) sc.nd rfl (Or.inl rfl) (pe_cal c_span_stop hr (pa_cons (pv 0) (pa_cons (pv 1) (pa_cons (pv 5) pa_nil)))))
          (pss_one (ps_set (i := 6) sc.nd rfl (Or.inl rfl) (pe_cal c_span_stop hr (pa_cons (pv 0) (pa_cons (pv 2) (pa_cons (pv 6) pa_nil)))))))))))
      (pss_one (ps_ret (pe_callTy call_tuple_of (by rfl) T.tuple (by decide +kernel) (pa_cons (pv 4) pa_nil))))))), ?_⟩
  refine ⟨by decide, fun D hD => ?_⟩
  have h1 := (Hs.start H).new (o := .lst []) hD
  refine ⟨fun n σ H' => ∃ (i j : Nat) (z1 z2 : Int) (acc : List Str), n = l.length - i ∧ σ = [some (.ref a), some (.ref r), some (.ref o), some (.str hole), some (.ref D), some (.int z1), some (.int z2)] ∧ z1 = (i : Nat) ∧ z2 = (j : Nat) ∧ Hs H [(D, .lst (acc.map V.str))] H' ∧ acc.length ≤ i ∧ i ≤ l.length ∧ Wk (wt rows l) (wt rows m) i j,
    ⟨_, 0, 0, 0, 0, [], rfl, rfl, rfl, rfl, h1, Nat.le_refl _, Nat.zero_le _, Wk.start hF hG⟩, ?_⟩
  rintro n σ H1 ⟨i, j, _, _, acc, rfl, rfl, rfl, rfl, hh, hal, hil, hw⟩
  have sH := hh.sub
  have hR1 := Same.sqt sH hR
  have hO1 := Same.sqt sH hO
  have hb1 := hb.mono (Stay.of sH)
  refine ⟨_, rfl, _, rfl, r, _, rfl, .inr hR1, _, _, rfl, rfl, _, rfl, if_dec (fun c => ?_) (fun c => ?_)⟩
  · rw [List.length_map] at c
    have hi : i < l.length := by omega
    have hiw : i < (wt rows l).length := by omega
    obtain ⟨_, _, _, hjw⟩ := hw.has hiw
    have hj : j < m.length := by omega
    obtain ⟨y, hy⟩ : ∃ y, l[i]? = some y := ⟨_, List.getElem?_eq_getElem hi⟩
    obtain ⟨x, hx⟩ : ∃ x, m[j]? = some x := ⟨_, List.getElem?_eq_getElem hj⟩
    have ey := wt_at (rows := rows) hy
    have ex := wt_at (rows := rows) hx
    have ay : atI (l.map V.str) ((i : Nat) : Int) = some (.str y) := atI_nat (by rw [List.getElem?_map, hy]; rfl)
    have ax : atI (m.map V.str) ((j : Nat) : Int) = some (.str x) := atI_nat (by rw [List.getElem?_map, hx]; rfl)
    obtain ⟨dx, dA, tR, tK, dR, pp, g1, hd, g3, g4, g5, g6⟩ := id hb1.ex
    have app : ∀ z : Str, acc.map V.str ++ [.str z] = (acc ++ [z]).map V.str := fun z => by rw [List.map_append]; rfl
    have apl : ∀ z : Str, (acc ++ [z]).length = acc.length + 1 := fun z => by simp
    refine ⟨fun σ' H' => ∃ m', m' < l.length - i ∧ ∃ (i j : Nat) (z1 z2 : Int) (acc : List Str), m' = l.length - i ∧ σ' = [some (.ref a), some (.ref r), some (.ref o), some (.str hole), some (.ref D), some (.int z1), some (.int z2)] ∧ z1 = (i : Nat) ∧ z2 = (j : Nat) ∧ Hs H [(D, .lst (acc.map V.str))] H' ∧ acc.length ≤ i ∧ i ≤ l.length ∧ Wk (wt rows l) (wt rows m) i j, fun _ _ z => z, ?_⟩
    refine ⟨_, rfl, _, rfl, r, _, _, _, rfl, rfl, hR1, ay, _, rfl, a, _, dx, _, _, rfl, g1, T.bed.cl, T.bed.nA, rfl, dA, _, rfl, DGet.k (k := Sum.inr y) hd, _, rfl, if_bool (fun c1 => ⟨_, rfl, _, rfl, r, _, _, _, rfl, rfl, hR1, ay, _, rfl, _, rfl, o, _, _, _, rfl, rfl, hO1, ax, rfl, _, rfl, if_dec (fun c2 => ?A) (fun c2 => ?B)⟩) (fun c1 => ?C)⟩
    case A =>
      have exy : y = x := V.str.inj c2
      have k1 := hh.w0 (o' := .lst (acc.map V.str ++ [.str y]))
      rw [app] at k1
      refine ⟨_, rfl, .inl ⟨rfl, _, SqL.of hh.r0⟩, _, rfl, _, rfl, r, _, _, _, rfl, rfl, hR1, ay, D, _, _, rfl, rfl, hh.r0, by rw [List.length_map, sizeLine_eq]; omega, ?_⟩
      rw [app]
      refine ⟨_, rfl, _, _, rfl, rfl, _, rfl, _, _, rfl, rfl, _, (by show l.length - (i + 1) < l.length - i; omega), i + 1, j + 1, _, _, _, rfl, rfl, rfl, rfl, k1, by rw [apl]; omega, hi, hw.go hiw (by rw [ey, ex, exy])⟩
    all_goals
      obtain ⟨wsk, e1, e2⟩ := hw.skip hiw
      have gl := en_gt hiw
      have k1 := hh.w0 (o' := .lst (acc.map V.str ++ [.str hole]))
      rw [app] at k1
      refine ⟨_, rfl, .inl ⟨rfl, _, SqL.of hh.r0⟩, _, rfl, D, _, _, rfl, rfl, hh.r0, by rw [List.length_map, sizeLine_eq]; omega, ?_⟩
      rw [app]
      have hR2 := Same.sqt k1.sub hR
      have hO2 := Same.sqt k1.sub hO
      have hb2 := hb.mono (Stay.of k1.sub)
      exact ⟨_, rfl, _, rfl, _, rfl, a, r, i, rows, l, rfl, hb2, hR2, hF, hi, _, rfl, _, rfl, _, rfl, a, o, j, rows, m, rfl, hb2, hO2, hG, hj, _, (by show l.length - en (wt rows l) i < l.length - i; omega), en (wt rows l) i, en (wt rows m) j, _, _, _, rfl, rfl, rfl, rfl, k1, by rw [apl]; omega, by omega, wsk⟩
  · exact ⟨_, rfl, D, _, rfl, .inl ⟨SqL.of hh.r0, fun p hp => hq _ _ acc (hh.sub.trans (up_same hp)) (SqT.of upd_same)⟩⟩
end
end Sy
namespace Sy
open PySem PySem.Spec PyProof.Rows L2 RZ
section
variable {P : Program} {w : World} {K : PySem.W.Frag} {mg : Str → Option Value} {base : Heap}
/-! common, of one or two -/
def comDue (rows : List Sy.Row) (l : List Str) (ls : List (List Str)) : Option Er := match ckS rows l with
  | some e => some e
  | none => fstE (ckS rows) ls
def spCommon (K : PySem.W.Frag) : Sp := fun vs H Q E => ∃ (a r b : Addr) (rows : List Sy.Row) (l : List Str) (bs : List Addr) (ls : List (List Str)), vs = [.ref a, .ref r, .ref b] ∧ BedAt K H a rows ∧ SqT K H r (l.map V.str) ∧ SqT K H b (bs.map V.ref) ∧ Paired (fun q (l : List Str) => SqT K H q (l.map V.str)) bs ls ∧ ls.length ≤ 1 ∧
  (comDue rows l ls = none → ∀ H' p (c : List Str), Same H H' → SqT K H' p (c.map V.str) → (ls = [] → c = l) → Q (.ref p) H') ∧ (∀ e, comDue rows l ls = some e → RaE K e H E)
abbrev N_common : List Str := ["bed", "first", "others", "other", "result"]
theorem sc_common : FnScope N_common ((["bed", "first"] : List Str) ++ (["others"] : List Str)) (defScope (top 52)) := ⟨rfl, rfl, rfl, by decide +kernel, rfl, by decide +kernel, by decide +kernel⟩
theorem r_common (T : Txt K mg) (S : TxtS mg) (F : DF K mg "common" 52) (c_check_stump : Cal P w K mg base 4 "check_stump" ["bed", "stump"] (spCheckE K ckS)) (c_common_row : Cal P w K mg base 3 "common_row" ["bed", "one", "two", "hole"] (spComRow K)) :
    CalR P w K mg base 5 "common" (spStar 2 (spCommon K)) := by
  obtain ⟨⟨fd, F⟩, at_⟩ := F
  refine ⟨fnR_of (ps := ["bed", "first"]) F sc_common (fun kV doc pm an cdv ct => StX.bind_star2 (B := fun l => bindArgs (PySem.W.fnOf "common" "common" (defArgs (top 52)) (defBody (top 52)) (defScope (top 52)) .none kV doc pm an cdv ct) ⟨l, []⟩) (fun _ _ => rfl) (fun _ _ _ _ => rfl)) ?_, at_, F.kp⟩
  intro cdv A outer s H vs Q E hr h
  obtain ⟨a, r, b, rows, l, bs, ls, rfl, hb, hR, hB, hP, hl2, hq, hE⟩ := h
  have sc := sc_common
  refine ⟨_, (pss_cons (ps_expr (pe_calX c_check_stump hr (takes_of rfl rfl rfl rfl) (pa_cons (pv 0) (pa_cons (pv 1) pa_nil))))
      (pss_cons (ps_for (passes_of rfl) rfl (pi_tup (pv 2)) (pg_name (i := 3) sc.nd rfl (Or.inl rfl))
        (pss_one (ps_expr (pe_calX c_check_stump hr (takes_of rfl rfl rfl rfl) (pa_cons (pv 0) (pa_cons (pv 3) pa_nil))))))
      (pss_cons (ps_set (i := 4) sc.nd rfl (Or.inl rfl) (pv 1))
      (pss_cons (ps_for (passes_of rfl) rfl (pi_tup (pv 2)) (pg_name (i := 3) sc.nd rfl (Or.inl rfl))
        (pss_one (ps_set (i := 4) sc.nd rfl (Or.inl rfl) (pe_cal c_common_row hr (pa_cons (pv 0) (pa_cons (pv 4) (pa_cons (pv 3) (pa_cons (pe_gstr rfl S.hole) pa_nil))))))))
      (pss_one (ps_ret (pv 4))))))), ?_⟩
  have hbl := paired_len hP
  refine ⟨_, rfl, _, rfl, a, r, rows, l, rfl, hb, hR, fun ck H1 s1 => ?_, fun e c => hE e (by unfold comDue; rw [c])⟩
  have hst := stm_of ck
  have due : comDue rows l ls = fstE (ckS rows) ls := by unfold comDue; rw [ck]
  have hB1 := Same.sqt s1 hB
  refine ⟨_, rfl, b, rfl, ⟨_, hB1⟩, for_tup (K := K) (a := b) (xs := bs.map V.ref) (fun i σ H' => ∃ t3, σ = [some (.ref a), some (.ref r), some (.ref b), t3, none] ∧ Same H1 H' ∧ ∀ z ∈ ls.take i, ckS rows z = none) ⟨none, rfl, Same.refl H1, fun _ z => (nomatch z)⟩ (fun _ _ _ _ ⟨_, _, s, _⟩ => Same.sqt s hB1) ?_ ?_⟩
  · rintro i v σ H2 hv ⟨t3, rfl, s2, hpl⟩
    obtain ⟨q, eq, rfl⟩ := map_at hv
    have hi : i < ls.length := by rw [← hbl]; exact (List.getElem?_eq_some_iff.mp eq).1
    obtain ⟨z, el⟩ : ∃ z, ls[i]? = some z := ⟨_, List.getElem?_eq_getElem hi⟩
    obtain ⟨q2, eq2, tq⟩ := paired_at hP el
    rw [eq] at eq2
    cases eq2
    have sH := s1.trans s2
    refine ⟨_, rfl, _, rfl, a, q, rows, z, rfl, hb.mono (Stay.of sH), Same.sqt sH tq, fun ck2 H3 s3 => ⟨_, rfl, s2.trans s3, fun y hy => ?_⟩, fun e c => (hE e (by rw [due, fstE_at hpl el c])).mono sH⟩
    rw [take_at el] at hy
    rcases List.mem_append.mp hy with hy | hy
    · exact hpl y hy
    · rw [show y = z by simpa using hy]
      exact ck2
  rintro σ H2 ⟨t3, rfl, s2, hpl⟩
  rw [List.length_map, hbl, List.take_length] at hpl
  have hq := hq (by rw [due, fstE_none hpl])
  have sH := s1.trans s2
  have hB2 := Same.sqt sH hB
  refine ⟨_, rfl, _, rfl, b, rfl, ⟨_, hB2⟩, for_tup (K := K) (a := b) (xs := bs.map V.ref) (fun i σ H' => ∃ (t3 : Option V) (p : Addr) (c : List Str), σ = [some (.ref a), some (.ref r), some (.ref b), t3, some (.ref p)] ∧ Same H2 H' ∧ SqT K H' p (c.map V.str) ∧ (i = 0 → p = r ∧ c = l)) ⟨_, r, l, rfl, Same.refl H2, Same.sqt sH hR, fun _ => ⟨rfl, rfl⟩⟩ (fun _ _ _ _ ⟨_, _, _, _, s, _⟩ => Same.sqt s hB2) ?_ ?_⟩
  · rintro i v σ H3 hv ⟨t3, p, c, rfl, s3, tc, h0⟩
    obtain ⟨q, eq, rfl⟩ := map_at hv
    have hi : i < ls.length := by rw [← hbl]; exact (List.getElem?_eq_some_iff.mp eq).1
    obtain rfl : i = 0 := by omega
    obtain ⟨rfl, rfl⟩ := h0 rfl
    obtain ⟨z, el⟩ : ∃ z, ls[0]? = some z := ⟨_, List.getElem?_eq_getElem hi⟩
    obtain ⟨q2, eq2, tq⟩ := paired_at hP el
    rw [eq] at eq2
    cases eq2
    have hz := stm_of (hpl z (List.mem_of_getElem? el))
    have sH3 := sH.trans s3
    exact ⟨_, rfl, _, rfl, _, rfl, a, p, q, "*", rows, c, z, rfl, hb.mono (Stay.of sH3), tc, Same.sqt sH3 tq, hst.fo, hz.fo, hst.le, hz.le, fun H4 p4 c4 s4 t4 => ⟨_, p4, c4, rfl, s3.trans s4, t4, fun e => by cases e⟩⟩
  · rintro σ H3 ⟨t3, p, c, rfl, s3, tc, h0⟩
    refine ⟨_, rfl, hq _ p c (sH.trans s3) tc fun e => (h0 ?_).2⟩
    rw [List.length_map, hbl, e]
    rfl
end
end Sy
namespace Sy
open PySem PySem.Spec PyProof.Rows L2 RZ
theorem ar_no {rows : List Sy.Row} {x : Str} (h : isK rows x = false) : ar rows x = 0 := by
  unfold ar
  unfold isK at h
  cases e : rows.lookup x with
  | none => rfl
  | some n => rw [e] at h; cases h
theorem Hs.low {B B' H : Hp} {L : List (Addr × HO)} (h : Hs B' L H) (s : Same B B') : Hs B L H := ⟨s.trans h.sub, h.own, h.nd, fun q hq => s.free (h.ap q hq)⟩
section
variable {P : Program} {w : World} {K : PySem.W.Frag} {mg : Str → Option Value} {base : Heap}
/-! united -/
def spUnited (K : PySem.W.Frag) : Sp := fun vs H Q E => ∃ (a r o : Addr) (rows : List Sy.Row) (l m : List Str), vs = [.ref a, .ref r, .ref o] ∧ BedAt K H a rows ∧ SqT K H r (l.map V.str) ∧ SqT K H o (m.map V.str) ∧ isK rows "*" = false ∧
  (twoE (ckS rows) l m = none → (∀ H', Same H H' → Q .non H') ∧ (∀ H' p (c : List Str), Same H H' → SqT K H' p (c.map V.str) → Q (.ref p) H') ∧ (2000 < l.length + m.length → RaE K .many H E)) ∧ (∀ e, twoE (ckS rows) l m = some e → RaE K e H E)
abbrev N_united : List Str := ["bed", "first", "second", "result", "here", "there", "here_stop", "there_stop"]
theorem sc_united : FnScope N_united ["bed", "first", "second"] (defScope (top 53)) := ⟨rfl, rfl, rfl, by decide +kernel, rfl, by decide +kernel, by decide +kernel⟩
theorem k_united (T : Txt K mg) (S : TxtS mg) (F : DF K mg "united" 53) (c_check_stump : Cal P w K mg base 4 "check_stump" ["bed", "stump"] (spCheckE K ckS)) (c_check_count : Cal P w K mg base 3 "check_count" ["number"] (spCount K)) (c_span_stop : Cal P w K mg base 2 "span_stop" ["bed", "row", "place"] (spStop K)) : Cal P w K mg base 5 "united" ["bed", "first", "second"] (spUnited K) := by
  refine cal_of F.1 F.2 sc_united (fun _ _ _ _ _ _ us e => match us, e with | [_, _, _], _ => rfl) (fun vs H Q E s => by obtain ⟨_, _, _, _, _, _, rfl, _⟩ := s; rfl) ?_
  intro cdv A outer s H vs Q E hr h
  obtain ⟨a, r, o, rows, l, m, rfl, hb, hR, hO, hst, hq, hE⟩ := h
  have hu := hu_of hr
  have sc := sc_united
  have hwl := wt_len rows l
  have hwm := wt_len rows m
  refine ⟨_, (pss_cons (ps_expr (pe_calX c_check_stump hr (takes_of rfl rfl rfl rfl) (pa_cons (pv 0) (pa_cons (pv 1) pa_nil))))
      (pss_cons (ps_expr (pe_calX c_check_stump hr (takes_of rfl rfl rfl rfl) (pa_cons (pv 0) (pa_cons (pv 2) pa_nil))))
      (pss_cons (ps_set (i := 3) sc.nd rfl (Or.inl rfl) (pe_lst pa_nil))
      (pss_cons (ps_asg2 pe_int (pg_name (i := 4) sc.nd rfl (Or.inl rfl)) (pg_name (i := 5) sc.nd rfl (Or.inl rfl)))
      (pss_cons (ps_while (passes_of rfl) (pt_cmpR op_lt (pv 4) (pe_callB call_len_seq (by rfl) T.len (by decide +kernel) (pa_cons (pv 1) pa_nil)) (nomark _))
        (pss_cons (ps_set (i := 6) sc.nd rfl (Or.inl rfl) (pe_op op_add (pv 4) pe_int))
        (pss_cons (ps_set (i := 7) sc.nd rfl (Or.inl rfl) (pe_op op_add (pv 5) pe_int))
        (pss_cons (ps_if (pt_cmpR op_eq (pe_ix ix_tup (pv 1) (pv 4) (fun _ _ => rfl)) (pe_gstr rfl S.hole) (nomark _))
          (pss_cons (ps_set (i := 7) sc.nd rfl (Or.inl rfl) (pe_cal c_span_stop hr (pa_cons (pv 0) (pa_cons (pv 2) (pa_cons (pv 5) pa_nil)))))
          (pss_one (ps_expr (pe_bm PySem.F.plainAttrs_list PySem.F.slot_list_extend PySem.F.type_list_extend mt_extend (pv 3) (pa_cons (pe_callTy call_list_of (by rfl) T.list (by decide +kernel) (pa_cons (pe_slice sl_tupA (pv 2) (po_some (pv 5)) (po_some (pv 7))) pa_nil)) pa_nil)))))
          (pss_one (ps_if (pt_cmpR op_eq (pe_ix ix_tup (pv 2) (pv 5) (fun _ _ => rfl)) (pe_gstr rfl S.hole) (nomark _))
            (pss_cons (ps_set (i := 6) sc.nd rfl (Or.inl rfl) (pe_cal c_span_stop hr (pa_cons (pv 0) (pa_cons (pv 1) (pa_cons (pv 4) pa_nil)))))
            (pss_one (ps_expr (pe_bm PySem.F.plainAttrs_list PySem.F.slot_list_extend PySem.F.type_list_extend mt_extend (pv 3) (pa_cons (pe_callTy call_list_of (by rfl) T.list (by decide +kernel) (pa_cons (pe_slice sl_tupA (pv 1) (po_some (pv 4)) (po_some (pv 6))) pa_nil)) pa_nil)))))
            (pss_one (ps_if (pt_cmpR op_eq (pe_ix ix_tup (pv 1) (pv 4) (fun _ _ => rfl)) (pe_ix ix_tup (pv 2) (pv 5) (fun _ _ => rfl)) (nomark _))
              (pss_one (ps_expr (pe_bm PySem.F.plainAttrs_list PySem.F.slot_list_append PySem.F.type_list_append mt_append (pv 3) (pa_cons (pe_ix ix_tup (pv 1) (pv 4) (fun _ _ => rfl)) pa_nil))))
              (pss_one (ps_ret pe_non)))))))
        (pss_cons (ps_set (i := 4) sc.nd rfl (Or.inl rfl) (pv 6))
        (pss_one (ps_set (i := 5) sc.nd rfl (Or.inl rfl) (pv 7))))))))
      (pss_cons (ps_expr (pe_calX c_check_count hr (takes_of rfl rfl rfl rfl) (pa_cons (pe_callB call_len_seq (by rfl) T.len (by decide +kernel) (pa_cons (pv 3) pa_nil)) pa_nil)))
      (pss_one (ps_ret (pe_callTy call_tuple_of (by rfl) T.tuple (by decide +kernel) (pa_cons (pv 3) pa_nil)))))))))), ?_⟩
  refine ⟨_, rfl, _, rfl, a, r, rows, l, rfl, hb, hR, fun ck1 H1 s1 => ?_, fun e c => hE e (twoE_1 c)⟩
  rw [twoE_2 ck1] at hq
  have hE : ∀ e, ckS rows m = some e → RaE K e H E := fun e c => hE e (by rw [twoE_2 ck1]; exact c)
  refine ⟨_, rfl, _, rfl, a, o, rows, m, rfl, hb.mono (Stay.of s1), Same.sqt s1 hO, fun ck2 H2 s2 => ?_, fun e c => (hE e c).mono s1⟩
  obtain ⟨hq0, hq1, hq2⟩ := hq ck2
  have h1 := stm_of ck1
  have h2 := stm_of ck2
  have s12 := s1.trans s2
  have hl := h1.le
  have hm := h2.le
  refine ⟨by decide, fun D hD => ?_⟩
  have k0 := (Hs.start H2).new (o := .lst []) hD
  refine ⟨fun n σ H' => ∃ (i j : Nat) (z1 z2 : Int) (t6 t7 : Option V) (acc : List Str), n = l.length - i ∧ σ = [some (.ref a), some (.ref r), some (.ref o), some (.ref D), some (.int z1), some (.int z2), t6, t7] ∧ z1 = (i : Nat) ∧ z2 = (j : Nat) ∧ Hs H2 [(D, .lst (acc.map V.str))] H' ∧ acc.length ≤ i + j ∧ i ≤ l.length ∧ j ≤ m.length ∧ Wk (wt rows l) (wt rows m) i j,
    ⟨_, 0, 0, 0, 0, none, none, [], rfl, rfl, rfl, rfl, k0, Nat.le_refl _, Nat.zero_le _, Nat.zero_le _, Wk.start h1.fo h2.fo⟩, ?_⟩
  rintro n σ H3 ⟨i, j, _, _, t6, t7, acc, rfl, rfl, rfl, rfl, hh, hal, hil, hjl, hw⟩
  have sH := s12.trans hh.sub
  have hR1 := Same.sqt sH hR
  have hO1 := Same.sqt sH hO
  have hb1 := hb.mono (Stay.of sH)
  refine ⟨_, rfl, _, rfl, r, _, rfl, .inr hR1, _, _, rfl, rfl, _, rfl, if_dec (fun c => ?_) (fun c => ?_)⟩
  · rw [List.length_map] at c
    have hi : i < l.length := by omega
    have hiw : i < (wt rows l).length := by omega
    obtain ⟨_, _, _, hjw⟩ := hw.has hiw
    have hj : j < m.length := by omega
    obtain ⟨y, hy⟩ : ∃ y, l[i]? = some y := ⟨_, List.getElem?_eq_getElem hi⟩
    obtain ⟨x, hx⟩ : ∃ x, m[j]? = some x := ⟨_, List.getElem?_eq_getElem hj⟩
    have ey := wt_at (rows := rows) hy
    have ex := wt_at (rows := rows) hx
    have ay : atI (l.map V.str) ((i : Nat) : Int) = some (.str y) := atI_nat (by rw [List.getElem?_map, hy]; rfl)
    have ax : atI (m.map V.str) ((j : Nat) : Int) = some (.str x) := atI_nat (by rw [List.getElem?_map, hx]; rfl)
    obtain ⟨wsk, e1, e2⟩ := hw.skip hiw
    have gl := en_gt hiw
    have gm := en_gt hjw
    refine ⟨fun σ' H' => ∃ m', m' < l.length - i ∧ ∃ (i j : Nat) (z1 z2 : Int) (t6 t7 : Option V) (acc : List Str), m' = l.length - i ∧ σ' = [some (.ref a), some (.ref r), some (.ref o), some (.ref D), some (.int z1), some (.int z2), t6, t7] ∧ z1 = (i : Nat) ∧ z2 = (j : Nat) ∧ Hs H2 [(D, .lst (acc.map V.str))] H' ∧ acc.length ≤ i + j ∧ i ≤ l.length ∧ j ≤ m.length ∧ Wk (wt rows l) (wt rows m) i j, fun _ _ z => z, ?_⟩
    refine ⟨_, rfl, _, _, rfl, rfl, _, rfl, _, _, rfl, rfl, ?_⟩
    refine ⟨_, rfl, _, rfl, r, _, _, _, rfl, rfl, hR1, ay, rfl, _, rfl, if_dec (fun c1 => ?_) (fun c1 => ?_)⟩
    · have c1 : y = "*" := V.str.inj c1
      have e0 : aw (wt rows l) i = 0 := by rw [ey, c1]; exact ar_no hst
      refine ⟨_, rfl, _, rfl, _, rfl, a, o, j, rows, m, rfl, hb1, hO1, h2.fo, hj, ?_⟩
      refine ⟨_, rfl, .inl ⟨rfl, _, SqL.of hh.r0⟩, _, rfl, _, rfl, _, rfl, _, rfl, _, rfl, sl_any (cut_mid (by omega) (by rw [List.length_map]; omega)) hO1 fun p1 H4 s4 t1 => ?_⟩
      obtain ⟨g1, g2⟩ := hh.after s4
      have g3 := g2.low g1
      refine ⟨p1, _, rfl, .inr t1, fun q hq5 => ?_⟩
      have g4 := g3.lay (o := .lst (((m.map V.str).drop j).take (en (wt rows m) j - j))) hq5
      have el : (((m.map V.str).drop j).take (en (wt rows m) j - j)).length = en (wt rows m) j - j := by
        rw [List.length_take, List.length_drop, List.length_map]
        omega
      refine ⟨D, q, _, _, rfl, rfl, g4.r0, upd_same, by rw [el, List.length_map, sizeLine_eq]; omega, _, rfl, _, rfl, _, (by show l.length - (i + 1) < l.length - i; omega), i + 1, en (wt rows m) j, _, _, _, _, acc ++ (m.drop j).take (en (wt rows m) j - j), rfl, rfl, rfl, rfl, ?_, ?_, hi, by omega, hw.leap hiw e0⟩
      · have g5 := g4.w0 (o' := .lst (acc.map V.str ++ ((m.map V.str).drop j).take (en (wt rows m) j - j)))
        rw [List.map_append, List.map_take, List.map_drop]
        exact g5
      · rw [List.length_append, List.length_take, List.length_drop]
        omega
    · refine ⟨_, rfl, _, rfl, o, _, _, _, rfl, rfl, hO1, ax, rfl, _, rfl, if_dec (fun c2 => ?_) (fun c2 => ?_)⟩
      · have c2 : x = "*" := V.str.inj c2
        have e0 : aw (wt rows m) j = 0 := by rw [ex, c2]; exact ar_no hst
        refine ⟨_, rfl, _, rfl, _, rfl, a, r, i, rows, l, rfl, hb1, hR1, h1.fo, hi, ?_⟩
        refine ⟨_, rfl, .inl ⟨rfl, _, SqL.of hh.r0⟩, _, rfl, _, rfl, _, rfl, _, rfl, _, rfl, sl_any (cut_mid (by omega) (by rw [List.length_map]; omega)) hR1 fun p1 H4 s4 t1 => ?_⟩
        obtain ⟨g1, g2⟩ := hh.after s4
        have g3 := g2.low g1
        refine ⟨p1, _, rfl, .inr t1, fun q hq5 => ?_⟩
        have g4 := g3.lay (o := .lst (((l.map V.str).drop i).take (en (wt rows l) i - i))) hq5
        have el : (((l.map V.str).drop i).take (en (wt rows l) i - i)).length = en (wt rows l) i - i := by
          rw [List.length_take, List.length_drop, List.length_map]
          omega
        refine ⟨D, q, _, _, rfl, rfl, g4.r0, upd_same, by rw [el, List.length_map, sizeLine_eq]; omega, _, rfl, _, rfl, _, (by show l.length - en (wt rows l) i < l.length - i; omega), en (wt rows l) i, j + 1, _, _, _, _, acc ++ (l.drop i).take (en (wt rows l) i - i), rfl, rfl, rfl, rfl, ?_, ?_, by omega, hj, hw.leap2 hiw e0⟩
        · have g5 := g4.w0 (o' := .lst (acc.map V.str ++ ((l.map V.str).drop i).take (en (wt rows l) i - i)))
          rw [List.map_append, List.map_take, List.map_drop]
          exact g5
        · rw [List.length_append, List.length_take, List.length_drop]
          omega
      · refine ⟨_, rfl, _, rfl, r, _, _, _, rfl, rfl, hR1, ay, _, rfl, _, rfl, o, _, _, _, rfl, rfl, hO1, ax, rfl, _, rfl, if_dec (fun c3 => ?_) (fun c3 => hq0 _ sH)⟩
        have exy : y = x := V.str.inj c3
        have k1 := hh.w0 (o' := .lst ((acc ++ [y]).map V.str))
        refine ⟨_, rfl, .inl ⟨rfl, _, SqL.of hh.r0⟩, _, rfl, _, rfl, r, _, _, _, rfl, rfl, hR1, ay, D, _, _, rfl, rfl, hh.r0, by rw [List.length_map, sizeLine_eq]; omega, ?_⟩
        refine ⟨_, rfl, _, rfl, _, (by show l.length - (i + 1) < l.length - i; omega), i + 1, j + 1, _, _, _, _, acc ++ [y], rfl, rfl, rfl, rfl, ?_, by simp; omega, hi, hj, hw.go hiw (by rw [ey, ex, exy])⟩
        rw [List.map_append] at k1 ⊢
        exact k1
  · obtain rfl : i = l.length := by rw [List.length_map] at c; omega
    refine ⟨_, rfl, D, _, rfl, .inl (SqL.of hh.r0), _, rfl, fun c2 => ?_, fun c2 => ((hq2 ?_).mono sH).ra im_tm⟩
    · exact ⟨_, rfl, D, _, rfl, .inl ⟨SqL.of hh.r0, fun p hp => hq1 _ _ acc (sH.trans (up_same hp)) (SqT.of upd_same)⟩⟩
    · rw [List.length_map] at c2
      omega
end
end Sy
/-! isinstance of a caught own error that has fields (own rule) -/
namespace Sy
open PySem PySem.Spec PySem.Calls PySem.W PyProof.Rows L2
section
variable {prog : Program} {w : World} {A : Around} {E : Value → Shared → Prop} {s : Shared} {K : PySem.W.Frag} {x D : Addr} {ox od : Obj}
theorem findX {C : Addr} {name : Str} {a g : Value} (hc : (clsIn K C).isSome = true) (ha : findIn K (.ref C) name = some (some a)) (hg : specialIn K a "__get__" = some (some g)) (ht : takesIn K a = some true) : findObj K C (some od) name = some (.bind g a) := by
  obtain ⟨cd, hc⟩ := Option.isSome_iff_exists.mp hc
  unfold findObj
  rw [hc, Option.bind_some, ha, Option.bind_some]
  simp [hg, ht]
theorem classX {Q : Option Value → Shared → Prop} (C : ExcC K D) (X : K.In s.heap) (I : PySem.W.InstAt s.heap x ox D (some od)) (h : Q (some (.ref D)) { s with toks := s.toks + 1 }) : wpAny (model prog w) A (getAttr? (.ref x) "__class__") Q E s := by
  have hf : findObj K D (some od) "__class__" = some (.bind (.builtin "getset_descriptor.__get__") (.builtin "object.__class__")) := findX (by obtain ⟨cd, hc, _⟩ := any_some C.hd; rw [hc]; rfl) C.ha C.hn C.ht
  obtain ⟨hp, g, d, t, os⟩ := s
  have L0 := I.type (M := model prog w)
  have L1 := looks_findIn (M := model prog w) X C.hg
  have L2 := looks_findIn (M := model prog w) X C.hk
  have L3 := looks_find (M := model prog w) X I hf
  have sub : Looks (model prog w) hp (isInstance (.ref x) (.type "BaseException")) true := L0.andThen (looks_subIn X C.hs)
  have n1 : (false && onTheHeap (Value.builtin "BaseException.__getattribute__")) = false := rfl
  have n2 : (onTheHeap (Value.ref D) && Value.builtin "BaseException.__getattribute__" == Value.builtin "object.__getattribute__") = false := by
    rw [show (Value.builtin "BaseException.__getattribute__" == Value.builtin "object.__getattribute__") = false by decide +kernel]; rfl
  unfold getAttr? getAttrBy? getAttrBy
  refine wpAny_bind (wpAny_mkText (wpAny_bind (wpAny_attempt (wpAny_holding (wpAny_bind (L0.at (wpAny_bind (L1.at ?_))))))))
  show wpAny _ _ (if (onTheHeap (Value.ref D) && Value.builtin "BaseException.__getattribute__" == Value.builtin "object.__getattribute__") = true then _ else _) _ _ _
  rw [n2, if_neg Bool.false_ne_true]
  unfold getAttrByItsOwn hookBefore
  refine wpAny_bind ?_
  rw [if_pos (show onTheHeap (Value.ref D) = true from rfl)]
  refine L2.at ?_
  refine wpAny_bind (wpAny_attempt (wpAny_holding ?_))
  unfold callGetattribute
  rw [n1, if_neg Bool.false_ne_true]
  unfold boundAndCalled
  rw [PySem.F.excAttr_ValueError.ga.bind (.ref x)]
  refine wpAny_bind (wpAny_pure ?_)
  show wpAny _ _ (call (.builtin "BaseException.__getattribute__") [.ref x, .str "__class__" t]) _ _ _
  refine wpAny_call (codeAny_call_builtin PySem.F.excAttr_ValueError.ga.plain PySem.F.entry_bexc_ga ?_)
  refine @check_slot (model prog w) _ _ ⟨hp, g, d, t + 1, os⟩ "BaseException.__getattribute__" "BaseException" "__getattribute__" (.ref x) [.str "__class__" t] [] _ (by decide +kernel) (by decide +kernel) sub (PySem.F.args_bexc_ga (.ref x) (.str "__class__" t)) ?_
  unfold Builtin.«object.__getattribute__»
  refine wpAny_bind (wpAny_of_eq (a := ((Value.ref x : Value), [Value.str "__class__" t])) (by first | rfl | (simp only [slotArgs]; rfl)) ?_)
  refine wpAny_bind (wpAny_pure (wpAny_bind (L0.at (wpAny_bind (L3.at ?_)))))
  show wpAny _ _ (holding [Value.builtin "object.__class__"] (call (.builtin "getset_descriptor.__get__") [.builtin "object.__class__", .ref x, .ref D]) >>= ret) _ _ _
  refine wpAny_bind (wpAny_holding (wpAny_call (class_get (s := ⟨hp, g, d, t + 1, os⟩) (ox := ox) (od := some od) X I C.hm ?_)))
  refine wpAny_pure ?_
  show wpAny _ _ (handedOut (.ref D)) _ _ _
  rw [handedOut_of (v := .ref D) rfl]
  first
    | exact wpAny_pure (wpAny_pure h)
    | exact wpAny_pure h
    | exact wpAny_pure (wpAny_bind (wpAny_pure (wpAny_pure h)))
theorem kitX (C : ExcC K D) : KitX K (.ref x) (.ref D) (fun h => PySem.W.InstAt h x ox D (some od)) where
  ty := fun _ _ _ I => I.type
  it := fun _ _ X _ => by
    obtain ⟨cdD, hcD, _⟩ := any_some C.hd
    unfold clsIn at hcD
    split at hcD
    · rename_i c' d' cd' sl' ho
      intro A' Q' E' s' k q
      unfold isType loadHead
      exact wpAny_bind (wpAny_loadPart (k _ _ (X _ _ ho)) (wpAny_pure q))
    · cases hcD
  ne := fun h tp dd its n sl X htp => by
    obtain ⟨cdD, hcD, _⟩ := any_some C.hd
    refine Bool.eq_false_iff.mpr fun q => ?_
    have e : D = tp := Value.ref.inj (beq_iff_eq.mp q)
    subst e
    unfold clsIn at hcD
    split at hcD
    · rename_i c' d' cd' sl' ho
      have z := (X _ _ ho).symm.trans htp
      cases z
    · cases hcD
  ca := fun X I k => classX C X I k
end
/-- isinstance(e, c): which class e has is told by the reading -/
def rIsX (K : PySem.W.Frag) (a : Addr) (cls : Value) (d : Option Addr) : List V → Hp → VK → Prop := fun xs H Q => ∃ (D dd : Addr) (fs : List (Str × V)) (c : V) (cv : Value) (b : Bool), cls = .ref D ∧ d = some dd ∧ H dd = some (.xd fs) ∧ ExcC K D ∧ xs = [.ref a, c] ∧ (∀ u, RelV c u → u = cv) ∧ PySem.W.kitOne K (.ref D) cv = some b ∧ Q (.bl b) H
theorem call_isX {X : Cx} {a : Addr} {cls : Value} {d : Option Addr} {oe : Obj} {pn : List (Addr × Obj)} (hz : Zc cls d oe) (hf : ∃ vs, oe.data = .fields vs) : CallR (X.suite a ((a, oe) :: pn)) (.builtin "isinstance") (rIsX X.K a cls d) := by
  intro pins s σ H xs us Q I r h
  obtain ⟨D, dd, fs, c, cv, b, rfl, rfl, ea, C, rfl, hcv, e, q⟩ := h
  obtain ⟨u, u2, rfl, rx, rt⟩ : ∃ u u2, us = [u, u2] ∧ RelV (.ref a) u ∧ RelV c u2 := by
    cases r with
    | cons r rr => cases rr with
      | cons r' rr => cases rr; exact ⟨_, _, rfl, r, r'⟩
  cases rx
  have ec := hcv _ rt
  subst ec
  obtain ⟨hget, _⟩ := I.pin (a, oe) (List.mem_append.mpr (.inl List.mem_cons_self))
  obtain ⟨vs, hv⟩ := hf
  have hx : ObjOk X.prog X.w H s.heap dd (.xd fs) := I.hok dd _ ea
  obtain ⟨mA, hns, hr⟩ := hx
  obtain ⟨od, ho, hl⟩ := lookIn_ns hns
  have J : PySem.W.InstAt s.heap a oe D (some od) := ⟨hget, hz.1, by unfold PySem.W.notCls; rw [hv] <;> rfl, by rw [hz.2]; exact ho⟩
  exact PySem.W.kia_one (kitX C) I.kIn J e (fun z => nomatch z) fun tk => ⟨.bl b, H, I.kept (t' := tk) fun _ _ z => z, rfl, q⟩
end Sy
namespace Sy
open PySem PySem.Spec PyProof.Rows L2
/-- the law's bag of draws -/
def BagOk (l : List Int) : Prop := ∃ a b c d r, l = a :: b :: c :: d :: r ∧ 0 ≤ a ∧ 4 ≤ d ∧ ∀ x ∈ r, 0 ≤ x
/-- a bag stands at g -/
def Bag (g : Addr) (H : Hp) : Prop := ∃ l : List Int, BagOk l ∧ H g = some (.lst (l.map V.int))
/-- the bag at g is another one, nothing else has changed -/
def Dr (g : Addr) (H H' : Hp) : Prop := ∃ l : List Int, BagOk l ∧ Chg g (.lst (l.map V.int)) H H'
theorem Chg.upd {g : Addr} {o o' : HO} {H H1 : Hp} (c : Chg g o H H1) : Chg g o' H (L2.upd H1 g o') := ⟨upd_same, fun a w n e => by rw [upd_ne n]; exact c.2 a w n e⟩
theorem Chg.refl {g : Addr} {o : HO} {H : Hp} (h : H g = some o) : Chg g o H H := ⟨h, fun _ _ _ e => e⟩
section
variable {P : Program} {w : World} {K : PySem.W.Frag} {mg : Str → Option Value} {base : Heap}
def spDraw : Sp := fun vs H Q _ => ∃ (g : Addr) (n : Nat), vs = [.ref g, .int (n : Nat)] ∧ Bag g H ∧ 1 ≤ n ∧ n < 1000000000 ∧ ∀ (r : Nat) H', r < n → Dr g H H' → Q (.int (r : Nat)) H'
abbrev N_draw : List Str := ["_law_bag_here", "_law_size", "_law_cell", "_law_digit", "_law_mixed"]
theorem sc_draw : FnScope N_draw ["_law_bag_here", "_law_size"] (defScope (top 59)) := ⟨rfl, rfl, rfl, by decide +kernel, rfl, by decide +kernel, by decide +kernel⟩
theorem at0 {a b c d : Int} {r : List Int} : atI ((a :: b :: c :: d :: r).map V.int) (0 : Int) = some (.int a) := atI_nat (j := 0) rfl
theorem at1 {a b c d : Int} {r : List Int} : atI ((a :: b :: c :: d :: r).map V.int) (1 : Int) = some (.int b) := atI_nat (j := 1) rfl
theorem at2 {a b c d : Int} {r : List Int} : atI ((a :: b :: c :: d :: r).map V.int) (2 : Int) = some (.int c) := atI_nat (j := 2) rfl
theorem at3 {a b c d : Int} {r : List Int} : atI ((a :: b :: c :: d :: r).map V.int) (3 : Int) = some (.int d) := atI_nat (j := 3) rfl
theorem ix4 {a b c d : Int} {r : List Int} (j : Nat) (h : j < 4) : ixN ((a :: b :: c :: d :: r).map V.int).length (j : Int) = some j := ixN_nat (by rw [List.length_map]; simp only [List.length_cons]; omega)
theorem k_draw (T : Txt K mg) (F : DF K mg "_law_draw" 59) : Cal P w K mg base 1 "_law_draw" ["_law_bag_here", "_law_size"] spDraw := by
  refine cal_of F.1 F.2 sc_draw (fun _ _ _ _ _ _ us e => match us, e with | [_, _], _ => rfl) (fun vs H Q E s => by obtain ⟨_, _, rfl, _⟩ := s; rfl) ?_
  intro cdv A outer s H vs Q E hr h
  obtain ⟨g, n, rfl, ⟨l0, ⟨a, b, c, d, r, rfl, ha, hd, hrs⟩, hg⟩, hn, hn2, hq⟩ := h
  have sc := sc_draw
  -- what follows the first if
  have tail : ∃ t, PSs (cxOf (L2.CX P w) P w K mg base N_draw "_law_draw" (defScope (top 59)) (He.ga K "_law_draw") cdv A outer s H E) ((defBody (top 59)).drop 2) t ∧
      ∀ (t2 : Option V) (H1 : Hp) (a b c d : Int), 0 ≤ a → 4 ≤ d → Chg g (.lst ((a :: b :: c :: d :: r).map V.int)) H H1 → t { nx := fun _ H' => Q .non H', rt := Q } [some (.ref g), some (.int (n : Nat)), t2, none, none] H1 := by
    refine ⟨_, (pss_cons (ps_if (pt_cmpR op_gt (pe_ix ix_list (pv 0) pe_int (fun _ _ => rfl)) pe_int (nomark _))
        (pss_cons (ps_set (i := 3) sc.nd rfl (Or.inl rfl) (pe_op op_mod (pe_callTy call_int1 (by rfl) T.int (by decide +kernel) (pa_cons (pe_ix ix_list (pv 0) pe_int (fun _ _ => rfl)) pa_nil)) (pv 1)))
        (pss_cons (ps_asg (pe_op op_fdiv (pe_ix ix_list (pv 0) pe_int (fun _ _ => rfl)) (pv 1)) (pg_sub (pv 0) pe_int set_list))
        (pss_one (ps_ret (pv 3)))))
        pss_nil)
      (pss_cons (ps_set (i := 4) sc.nd rfl (Or.inl rfl) (pe_op op_mod (pe_callTy call_int1 (by rfl) T.int (by decide +kernel) (pa_cons (pe_op op_add (pe_op op_add (pe_op op_mul (pe_ix ix_list (pv 0) pe_int (fun _ _ => rfl)) pe_int) (pe_op op_mul (pe_ix ix_list (pv 0) pe_int (fun _ _ => rfl)) pe_int)) pe_int) pa_nil)) pe_int))
      (pss_cons (ps_set (i := 4) sc.nd rfl (Or.inl rfl) (pe_op op_mod (pe_callTy call_int1 (by rfl) T.int (by decide +kernel) (pa_cons (pe_op op_add (pe_op op_mul (pv 4) (pe_op op_add (pe_op op_fdiv (pv 4) pe_int) pe_int)) (pe_ix ix_list (pv 0) pe_int (fun _ _ => rfl))) pa_nil)) pe_int))
      (pss_one (ps_ret (pe_op op_mod (pe_callTy call_int1 (by rfl) T.int (by decide +kernel) (pa_cons (pe_op op_fdiv (pv 4) pe_int) pa_nil)) (pv 1))))))), ?_⟩
    intro t2 H1 a b c d ha hd cg
    have dr : Dr g H H1 := ⟨_, ⟨a, b, c, d, r, rfl, ha, hd, hrs⟩, cg⟩
    have S := SqL.of (K := K) cg.1
    have modr : ∀ x : Int, ∃ k : Nat, x % (n : Int) = (k : Int) ∧ k < n := fun x => by
      have h1 := Int.emod_nonneg x (show (n : Int) ≠ 0 by omega)
      have h2 := Int.emod_lt_of_pos x (show (0 : Int) < n by omega)
      exact ⟨(x % (n : Int)).toNat, by omega, by omega⟩
    refine ⟨_, rfl, g, _, _, _, rfl, rfl, S, at0, _, _, rfl, rfl, _, rfl, if_dec (fun c1 => ?_) (fun c1 => ?_)⟩
    · obtain ⟨k, ek, hk⟩ := modr a
      refine ⟨_, rfl, g, _, _, _, rfl, rfl, S, at0, .inl ⟨a, rfl, _, rfl, _, _, rfl, rfl, (by omega), ?_⟩⟩
      refine ⟨_, rfl, g, _, _, _, rfl, rfl, S, at0, _, rfl, _, _, rfl, rfl, ⟨by omega, by omega⟩, _, rfl, g, _, _, 0, rfl, rfl, cg.1, ix4 0 (by decide), _, rfl, ?_⟩
      have q := hq k (L2.upd H1 g (.lst ((a / (n : Int) :: b :: c :: d :: r).map V.int))) hk ⟨_, ⟨_, b, c, d, r, rfl, Int.ediv_nonneg ha (by omega), hd, hrs⟩, cg.upd⟩
      rw [← ek] at q
      exact q
    · refine ⟨_, rfl, g, _, _, _, rfl, rfl, S, at1, _, _, rfl, rfl, .inr (by decide), _, rfl, g, _, _, _, rfl, rfl, S, at2, _, _, rfl, rfl, .inr (by decide), _, _, rfl, rfl, _, _, rfl, rfl, .inl ⟨_, rfl, _, _, rfl, rfl, (by show (0 : Int) < 2147483647; decide), ?_⟩⟩
      refine ⟨_, rfl, _, rfl, _, _, rfl, rfl, ⟨by decide, by decide⟩, _, _, rfl, rfl, _, _, rfl, rfl, .inl ⟨by omega, by omega⟩, _, rfl, g, _, _, _, rfl, rfl, S, at2, _, _, rfl, rfl, .inl ⟨_, rfl, _, _, rfl, rfl, (by show (0 : Int) < 2147483399; decide), ?_⟩⟩
      refine ⟨_, rfl, _, _, rfl, rfl, ⟨by decide, by decide⟩, .inl ⟨_, rfl, _, rfl, _, _, rfl, rfl, (by omega), ?_⟩⟩
      generalize ((b * 1103515245 + c * 1640531527 + 12345) % 2147483647 * ((b * 1103515245 + c * 1640531527 + 12345) % 2147483647 / 65536 + 3) + c) % 2147483399 / 64 = m
      obtain ⟨k, ek, hk⟩ := modr m
      have q := hq k H1 hk dr
      rw [← ek] at q
      exact q
  obtain ⟨t, pt, ht⟩ := tail
  refine ⟨_, (pss_cons (ps_asg (pe_op op_add (pe_ix ix_list (pv 0) pe_int (fun _ _ => rfl)) pe_int) (pg_sub (pv 0) pe_int set_list))
      (pss_cons (ps_if (PW.pt (pw_and (pt_cmpR op_eq (pe_ix ix_list (pv 0) pe_int (fun _ _ => rfl)) pe_int (nomark _)) (pw_and1 (pt_cmpR op_lt (pe_ix ix_list (pv 0) pe_int (fun _ _ => rfl)) (pe_callB call_len_seq (by rfl) T.len (by decide +kernel) (pa_cons (pv 0) pa_nil)) (nomark _)))))
        (pss_cons (ps_set (i := 2) sc.nd rfl (Or.inl rfl) (pe_ix ix_list (pv 0) (pe_ix ix_list (pv 0) pe_int (fun _ _ => rfl)) (fun _ _ => rfl)))
        (pss_cons (ps_asg (pe_op op_add (pe_ix ix_list (pv 0) pe_int (fun _ _ => rfl)) pe_int) (pg_sub (pv 0) pe_int set_list))
        (pss_one (ps_if (pt_cmpR op_lt (pv 2) (pe_op op_pow pe_int pe_int) (nomark _))
          (pss_one (ps_asg (pe_op op_mod (pe_callTy call_int1 (by rfl) T.int (by decide +kernel) (pa_cons (pe_op op_add (pe_op op_add (pe_op op_mul (pe_ix ix_list (pv 0) pe_int (fun _ _ => rfl)) pe_int) (pv 2)) pe_int) pa_nil)) pe_int) (pg_sub (pv 0) pe_int set_list)))
          (pss_one (ps_asg (pv 2) (pg_sub (pv 0) pe_int set_list)))))))
        pss_nil)
      pt)), ?_⟩
  have S := SqL.of (K := K) hg
  refine ⟨_, rfl, g, _, _, _, rfl, rfl, S, at2, _, _, rfl, rfl, _, rfl, g, _, _, 2, rfl, rfl, hg, ix4 2 (by decide), ?_⟩
  have c1 : Chg g (.lst ((a :: b :: (c + 1) :: d :: r).map V.int)) H (L2.upd H g (.lst ((a :: b :: (c + 1) :: d :: r).map V.int))) := (Chg.refl hg).upd
  have S1 := SqL.of (K := K) c1.1
  refine ⟨_, rfl, g, _, _, _, rfl, rfl, S1, at0, rfl, _, rfl, if_dec (fun q1 => ?_) (fun q1 => ?_)⟩
  · refine ⟨_, rfl, g, _, _, _, rfl, rfl, S1, at3, _, rfl, g, _, rfl, .inl S1, _, _, rfl, rfl, _, rfl, if_dec (fun q2 => ?_) (fun q2 => ?_)⟩
    · rw [List.length_map] at q2
      simp only [List.length_cons] at q2
      obtain ⟨j, hj⟩ : ∃ j : Nat, d = ((j + 4 : Nat) : Int) := ⟨(d - 4).toNat, by omega⟩
      obtain ⟨x, ex⟩ : ∃ x, r[j]? = some x := ⟨_, List.getElem?_eq_getElem (by omega)⟩
      have hx := hrs x (List.mem_of_getElem? ex)
      have ad : atI ((a :: b :: (c + 1) :: d :: r).map V.int) d = some (.int x) := by
        rw [hj]
        exact atI_nat (by rw [List.getElem?_map]; show (r[j]?).map V.int = _; rw [ex]; rfl)
      refine ⟨_, rfl, _, rfl, g, _, _, _, rfl, rfl, S1, at3, g, _, _, _, rfl, rfl, S1, ad, ?_⟩
      refine ⟨_, rfl, g, _, _, _, rfl, rfl, S1, at3, _, _, rfl, rfl, _, rfl, g, _, _, 3, rfl, rfl, c1.1, ix4 3 (by decide), ?_⟩
      have c2 : Chg g (.lst ((a :: b :: (c + 1) :: (d + 1) :: r).map V.int)) H (L2.upd (L2.upd H g (.lst ((a :: b :: (c + 1) :: d :: r).map V.int))) g (.lst ((a :: b :: (c + 1) :: (d + 1) :: r).map V.int))) := c1.upd
      have S2 := SqL.of (K := K) c2.1
      refine ⟨_, rfl, _, _, rfl, rfl, ⟨by decide, by decide, by decide⟩, _, _, rfl, rfl, _, rfl, if_dec (fun q3 => ?_) (fun q3 => ?_)⟩
      · refine ⟨_, rfl, g, _, _, _, rfl, rfl, S2, at1, _, _, rfl, rfl, .inr (by decide), _, rfl, _, _, rfl, rfl, _, _, rfl, rfl, .inl ⟨_, rfl, _, _, rfl, rfl, (by show (0 : Int) < 1000000007; decide), _, rfl, g, _, _, 1, rfl, rfl, c2.1, ix4 1 (by decide), ht _ _ _ _ _ _ ha (by omega) c2.upd⟩⟩
      · exact ⟨_, rfl, _, rfl, g, _, _, 0, rfl, rfl, c2.1, ix4 0 (by decide), ht _ _ _ _ _ _ hx (by omega) c2.upd⟩
    · exact ht _ _ _ _ _ _ ha hd c1
  · exact ht _ _ _ _ _ _ ha hd c1
end
end Sy
namespace Sy
open PySem PySem.Spec PyProof.Rows L2
/-- small letters -/
def Lt (c : Nat) : Prop := 97 ≤ c ∧ c ≤ 122
def Wd (x : Str) : Prop := 1 ≤ x.cps.toList.length ∧ x.cps.toList.length ≤ 8 ∧ ∀ c ∈ x.cps.toList, Lt c
theorem lt_uni (c : Nat) (h : Lt c) : Unicode.isAlpha c = true ∧ Unicode.isLower c = true ∧ Unicode.isUpper c = false ∧ Unicode.isTitle c = false := by
  have q : ∀ i : Fin 26, Unicode.isAlpha (97 + i.val) = true ∧ Unicode.isLower (97 + i.val) = true ∧ Unicode.isUpper (97 + i.val) = false ∧ Unicode.isTitle (97 + i.val) = false := by decide +kernel
  obtain ⟨h1, h2⟩ := h
  have := q ⟨c - 97, by omega⟩
  rw [show 97 + (c - 97) = c by omega] at this
  exact this
theorem len_tl (x : Str) : x.length = x.cps.toList.length := by
  show x.cps.size = _
  simp
theorem Wd.ok {x : Str} (h : Wd x) : nameOk x = true := by
  obtain ⟨h1, h2, h3⟩ := h
  have hl := len_tl x
  have a1 : Txt.isascii x = true := by
    unfold Txt.isascii
    rw [← Array.all_toList, List.all_eq_true]
    intro c hc
    have := (h3 c hc).2
    exact decide_eq_true (by omega)
  have a2 : Txt.isalpha x = true := by
    unfold Txt.isalpha
    rw [decide_eq_true (by omega), Bool.true_and, ← Array.all_toList, List.all_eq_true]
    exact fun c hc => (lt_uni c (h3 c hc)).1
  have a3 : Txt.islower x = true := by
    unfold Txt.islower
    rw [Bool.and_eq_true]
    constructor
    · rw [← Array.any_toList, List.any_eq_true]
      obtain ⟨c, hc⟩ : ∃ c, c ∈ x.cps.toList := List.exists_mem_of_length_pos (by omega)
      exact ⟨c, hc, (lt_uni c (h3 c hc)).2.1⟩
    · rw [← Array.any_toList, Bool.not_eq_true', List.any_eq_false]
      intro c hc
      rw [(lt_uni c (h3 c hc)).2.2.1, (lt_uni c (h3 c hc)).2.2.2]
      decide
  unfold nameOk
  rw [a1, a2, a3, decide_eq_true (by omega)]
  rfl
theorem join_one (cs : List Nat) : (Txt.join (Str.empty) (cs.map fun c => (⟨#[c]⟩ : Str))).cps.toList = cs := by
  rw [TL.join_eq]
  have h := TL.tl_join Str.empty (cs.map fun c => (⟨#[c]⟩ : Str))
  show TL.tl _ = cs
  rw [h]
  have : ∀ cs : List Nat, TL.joinL (TL.tl Str.empty) ((cs.map fun c => (⟨#[c]⟩ : Str)).map TL.tl) = cs := by
    intro cs
    induction cs with
    | nil => rfl
    | cons c cs ih =>
      cases cs with
      | nil => rfl
      | cons d ds =>
        show [c] ++ ([] ++ TL.joinL _ _) = _
        rw [List.nil_append]
        exact congrArg (fun l => [c] ++ l) ih
  exact this cs
/-- fewer than 26 words leave a letter -/
theorem nodup_le {α : Type} [DecidableEq α] : ∀ {l m : List α}, l.Nodup → (∀ x ∈ l, x ∈ m) → l.length ≤ m.length
  | [], _, _, _ => Nat.zero_le _
  | x :: l, m, h, s => by
    have hx := s x List.mem_cons_self
    have h2 := List.nodup_cons.mp h
    have := nodup_le (l := l) (m := m.erase x) h2.2 fun y hy => by
      rw [List.mem_erase_of_ne (fun z => h2.1 (by rw [← z]; exact hy))]
      exact s y (List.mem_cons_of_mem _ hy)
    rw [List.length_erase_of_mem hx] at this
    have := List.length_pos_of_mem hx
    rw [List.length_cons]
    omega
def abc : Str := "abcdefghijklmnopqrstuvwxyz"
theorem abc_at : ∀ i : Nat, i < 26 → abc.cps[i]? = some (97 + i) := by
  have q : ∀ i : Fin 26, abc.cps[i.val]? = some (97 + i.val) := by decide +kernel
  exact fun i h => q ⟨i, h⟩
theorem abc_len : abc.length = 26 := by decide +kernel
theorem abc_tl (i : Nat) (h : i < 26) : abc.cps.toList[i]? = some (97 + i) := by rw [Array.getElem?_toList]; exact abc_at i h
/-- the letters that are not taken -/
def freeL (tk : List Str) (n : Nat) : List Str := ((List.range n).map fun i => (⟨#[97 + i]⟩ : Str)).filter fun x => decide (x ∉ tk)
theorem freeL_pos (tk : List Str) (h : tk.length < 26) : ∃ x r, freeL tk 26 = x :: r ∧ x ∉ tk ∧ Wd x := by
  cases e : freeL tk 26 with
  | nil =>
    exfalso
    have all : ∀ x ∈ ((List.range 26).map fun i => (⟨#[97 + i]⟩ : Str)), x ∈ tk := fun x hx => by
      have := List.filter_eq_nil_iff.mp e x hx
      simpa using this
    have nd : ((List.range 26).map fun i => (⟨#[97 + i]⟩ : Str)).Nodup := by decide +kernel
    have := nodup_le nd all
    simp at this
    omega
  | cons x r =>
    have hm : x ∈ freeL tk 26 := by rw [e]; exact List.mem_cons_self
    unfold freeL at hm
    obtain ⟨h1, h2⟩ := List.mem_filter.mp hm
    obtain ⟨i, hi, rfl⟩ := List.mem_map.mp h1
    rw [List.mem_range] at hi
    refine ⟨_, r, rfl, of_decide_eq_true h2, ?_⟩
    refine ⟨Nat.le_refl _, by show 1 ≤ 8; decide, fun c hc => ?_⟩
    have : c = 97 + i := by simpa using hc
    subst this
    exact ⟨by omega, by omega⟩
theorem Wd.first {x y : Str} {c : Nat} (hx : Wd x) (hy : Wd y) (h8 : x.length < 8) (hc : y.cps.toList[0]? = some c) : Wd (x ++ ⟨#[c]⟩) := by
  obtain ⟨h1, h2, h3⟩ := hx
  have hl := len_tl x
  have e : (x ++ ⟨#[c]⟩ : Str).cps.toList = x.cps.toList ++ [c] := by
    show (x.cps ++ #[c]).toList = _
    simp
  have hcm := hy.2.2 c (List.mem_of_getElem? hc)
  refine ⟨?_, ?_, fun d hd => ?_⟩
  · rw [e, List.length_append]
    show 1 ≤ _ + 1
    omega
  · rw [e, List.length_append]
    show _ + 1 ≤ 8
    omega
  · rw [e] at hd
    rcases List.mem_append.mp hd with hd | hd
    · exact h3 d hd
    · rw [List.mem_singleton.mp hd]
      exact hcm
theorem Wd.cut {x : Str} (hx : Wd x) (h1 : 1 < x.length) : Wd (cutS x none (some (-1))) := by
  obtain ⟨h1', h2, h3⟩ := hx
  have hl := len_tl x
  have e : (cutS x none (some (-1))).cps.toList = x.cps.toList.take (x.length - 1) := by
    unfold cutS HT.sIx
    simp only [List.drop_zero, Nat.sub_zero]
    rw [if_pos (by decide), show ((-1 : Int) + (x.length : Int)).toNat = x.length - 1 by omega]
  refine ⟨?_, ?_, fun d hd => ?_⟩
  · rw [e, List.length_take]
    omega
  · rw [e, List.length_take]
    omega
  · rw [e] at hd
    exact h3 d (List.mem_of_mem_take hd)
end Sy
namespace Sy
open PySem PySem.Spec PyProof.Rows L2
section
variable {B H H' : Hp} {L : List (Addr × HO)} {g : Addr} {o : HO} {x : Addr × HO}
theorem Hs.dr0 (h : Hs B ((g, o) :: L) H) (d : Dr g H H') : ∃ l B', BagOk l ∧ Same B B' ∧ Hs B' ((g, .lst (l.map V.int)) :: L) H' ∧ B' = cut ((g, .lst (l.map V.int)) :: L) H' := by
  obtain ⟨l, hl, c⟩ := d
  have := h.chg c
  exact ⟨l, _, hl, this.1, this.2, rfl⟩
theorem Hs.dr1 (h : Hs B (x :: (g, o) :: L) H) (d : Dr g H H') : ∃ l B', BagOk l ∧ Same B B' ∧ Hs B' (x :: (g, .lst (l.map V.int)) :: L) H' := by
  obtain ⟨l, B', hl, s, h', _⟩ := h.swap.dr0 d
  exact ⟨l, B', hl, s, h'.swap⟩
theorem Hs.bag (h : Hs B ((g, .lst ((l : List Int).map V.int)) :: L) H) (hl : BagOk l) : Bag g H := ⟨l, hl, h.r0⟩
theorem Bag.take (h : Bag g H) : ∃ l, BagOk l ∧ Hs (L2.del H g) [(g, .lst (l.map V.int))] H := by
  obtain ⟨l, hl, e⟩ := h
  exact ⟨l, hl, (Hs.start H).take e⟩
end
section
variable {P : Program} {w : World} {K : PySem.W.Frag} {mg : Str → Option Value} {base : Heap}
def spWord : Sp := fun vs H Q _ => ∃ g : Addr, vs = [.ref g] ∧ Bag g H ∧ ∀ x H', Wd x → Dr g H H' → Q (.str x) H'
abbrev N_word : List Str := ["_law_bag_here", "_law_letters", "_law_k"]
theorem sc_word : FnScope N_word ["_law_bag_here"] (defScope (top 60)) := ⟨rfl, rfl, rfl, by decide +kernel, rfl, by decide +kernel, by decide +kernel⟩
theorem k_word (T : Txt K mg) (F : DF K mg "_law_word" 60) (c_law_draw : Cal P w K mg base 1 "_law_draw" ["_law_bag_here", "_law_size"] spDraw) : Cal P w K mg base 2 "_law_word" ["_law_bag_here"] spWord := by
  refine cal_of F.1 F.2 sc_word (fun _ _ _ _ _ _ us e => match us, e with | [_], _ => rfl) (fun vs H Q E s => by obtain ⟨_, rfl, _⟩ := s; rfl) ?_
  intro cdv A outer s H vs Q E hr h
  obtain ⟨g, rfl, hg, hq⟩ := h
  have sc := sc_word
  refine ⟨_, (pss_cons (ps_set (i := 1) sc.nd rfl (Or.inr rfl) pe_str)
      (pss_one (ps_ret (pe_join pe_str (pe_lc (own := [("_law_k", 2)]) (g := gName 2) rfl sc.nd (pi_range1 rfl T.range (pa_cons (pe_op op_add pe_int (pe_cal c_law_draw hr (pa_cons (pv 0) (pa_cons pe_int pa_nil)))) pa_nil)) (blkOk_by (N := N_word) (sc := defScope (top 60)) (by decide +kernel)) (fun _ _ _ _ _ => (pg_name (i := 2) sc.nd rfl (Or.inl rfl))) (fun _ _ _ _ _ => pts_nil) (fun _ _ _ _ _ => (pe_ix ix_str (pv 1) (pe_cal c_law_draw hr (pa_cons (pv 0) (pa_cons pe_int pa_nil))) (fun _ _ => rfl)))))))), ?_⟩
  obtain ⟨l0, hl0, h0⟩ := hg.take
  refine ⟨⟨_, rfl⟩, _, rfl, g, 8, rfl, hg, by decide, by decide, fun r H1 hr1 d1 => ?_⟩
  obtain ⟨l1, B1, hl1, s1, h1, _⟩ := h0.dr0 d1
  refine ⟨_, _, rfl, rfl, _, rfl, by omega, by omega, fun D hD => lc_it (n := (1 + (r : Int)).toNat) walk_range (fun i H' => ∃ (cs : List Nat) (B : Hp) (l : List Int), BagOk l ∧ cs.length = i ∧ (∀ c ∈ cs, Lt c) ∧ Same B1 B ∧ Hs B [(D, .lst ((cs.map fun c => (⟨#[c]⟩ : Str)).map V.str)), (g, .lst (l.map V.int))] H')
    ⟨[], B1, l1, hl1, rfl, fun _ z => (nomatch z), Same.refl _, h1.new hD⟩ (fun _ _ _ _ => trivial) ?_ ?_⟩
  · rintro i v H2 _ hi ⟨cs, B, l, hl, hcs, hlt, sB, hh⟩ ⟨rfl, rfl⟩
    refine ⟨rfl, ?_⟩
    simp only [tYes, if_true]
    refine ⟨_, rfl, _, rfl, g, 26, rfl, hh.swap.bag hl, by decide, by decide, fun c H3 hc d3 => ?_⟩
    obtain ⟨l3, B3, hl3, s3, h3⟩ := hh.dr1 d3
    refine ⟨abc, _, 97 + c, rfl, rfl, by decide +kernel, atI_nat (abc_tl c hc), _, h3.r0, by rw [List.length_map, List.length_map, sizeLine_eq]; omega, cs ++ [97 + c], B3, l3, hl3, by rw [List.length_append, hcs]; rfl, fun d hd => ?_, sB.trans s3, ?_⟩
    · rcases List.mem_append.mp hd with hd | hd
      · exact hlt d hd
      · rw [List.mem_singleton.mp hd]
        exact ⟨by omega, by omega⟩
    · rw [List.map_append, List.map_append]
      exact h3.w0
  · rintro H2 ⟨cs, B, l, hl, hcs, hlt, sB, hh⟩
    have hj := join_one cs
    have hsum : ((cs.map fun c => (⟨#[c]⟩ : Str)).map (·.length)).sum = cs.length := by
      clear hj hcs hlt hh
      induction cs with
      | nil => rfl
      | cons c cs ih =>
        rw [List.map_cons, List.map_cons, List.sum_cons, ih, List.length_cons]
        show 1 + _ = _
        omega
    refine ⟨Str.empty, D, (cs.map fun c => (⟨#[c]⟩ : Str)), rfl, rfl, .inl (SqL.of hh.r0), ?_, hq _ _ ⟨?_, ?_, ?_⟩ ⟨l, hl, (hh.drop).isChg (s1.trans sB)⟩⟩
    · rw [hsum]
      show _ + _ * 0 ≤ _
      omega
    · rw [hj]; omega
    · rw [hj]; omega
    · rw [hj]; exact hlt
def spNameL (K : PySem.W.Frag) : Sp := fun vs H Q _ => ∃ (g t : Addr) (tk : List Str), vs = [.ref g, .ref t] ∧ Bag g H ∧ g ≠ t ∧ H t = some (.lst (tk.map V.str)) ∧ (∀ x ∈ tk, Wd x) ∧ tk.length ≤ 20 ∧ ∀ x H', Wd x → x ∉ tk → Dr g H H' → Q (.str x) H'
abbrev N_nameL : List Str := ["_law_bag_here", "_law_taken", "_law_word_here", "_law_near", "_law_elder", "_law_one"]
theorem sc_nameL : FnScope N_nameL ["_law_bag_here", "_law_taken"] (defScope (top 61)) := ⟨rfl, rfl, rfl, by decide +kernel, rfl, by decide +kernel, by decide +kernel⟩
theorem freeL_succ (tk : List Str) (n : Nat) : freeL tk (n + 1) = if (⟨#[97 + n]⟩ : Str) ∈ tk then freeL tk n else freeL tk n ++ [(⟨#[97 + n]⟩ : Str)] := by
  unfold freeL
  rw [List.range_succ, List.map_append, List.filter_append]
  by_cases h : (⟨#[97 + n]⟩ : Str) ∈ tk
  · rw [if_pos h]
    simp [h]
  · rw [if_neg h]
    simp [h]
theorem freeL_le (tk : List Str) (n : Nat) : (freeL tk n).length ≤ n := by
  unfold freeL
  have := List.length_filter_le (fun x : Str => decide (x ∉ tk)) ((List.range n).map fun i => (⟨#[97 + i]⟩ : Str))
  rw [List.length_map, List.length_range] at this
  exact this
theorem k_nameL (T : Txt K mg) (F : DF K mg "_law_name" 61) (c_law_draw : Cal P w K mg base 1 "_law_draw" ["_law_bag_here", "_law_size"] spDraw) (c_law_word : Cal P w K mg base 2 "_law_word" ["_law_bag_here"] spWord) : Cal P w K mg base 3 "_law_name" ["_law_bag_here", "_law_taken"] (spNameL K) := by
  refine cal_of F.1 F.2 sc_nameL (fun _ _ _ _ _ _ us e => match us, e with | [_, _], _ => rfl) (fun vs H Q E s => by obtain ⟨_, _, _, rfl, _⟩ := s; rfl) ?_
  intro cdv A outer s H vs Q E hr h
  obtain ⟨g, tA, tk, rfl, hg, hne, hT, hW, hlen, hq⟩ := h
  have sc := sc_nameL
  obtain ⟨l0, hl0, h0⟩ := hg.take
  have hT0 : (L2.del H g) tA = some (.lst (tk.map V.str)) := by rw [del_ne hne.symm]; exact hT
  -- what follows the first if
  have tail : ∃ t, PSs (cxOf (L2.CX P w) P w K mg base N_nameL "_law_name" (defScope (top 61)) (He.ga K "_law_name") cdv A outer s H E) ((defBody (top 61)).drop 3) t ∧
      ∀ (t3 t4 : Option V) (H1 B : Hp) (l : List Int) (x : Str), Wd x → BagOk l → Same (L2.del H g) B → Hs B [(g, .lst (l.map V.int))] H1 → t { nx := fun _ H' => Q .non H', rt := Q } [some (.ref g), some (.ref tA), some (.str x), t3, t4, none] H1 := by
    refine ⟨_, (pss_cons (ps_if (pt_cmpR op_in_seq (pv 2) (pv 1) rfl)
        (pss_one (ps_set (i := 2) sc.nd rfl (Or.inl rfl) (pe_ix ix_list (pe_lc (own := [("_law_one", 5)]) (g := gName 5) (tt := tTest (tOp (rIn K true) (tVar 5) (tVar 1))) rfl sc.nd (pi_str pe_str) (blkOk_by (N := N_nameL) (sc := defScope (top 61)) (by decide +kernel)) (fun _ _ _ _ _ => (pg_name (i := 5) sc.nd rfl (Or.inl rfl))) (fun _ _ _ _ _ => (pts_one (pt_cmpR op_notIn_seq (pv 5) (pv 1) rfl))) (fun _ _ _ _ _ => (pv 5))) pe_int (fun _ _ => rfl))))
        pss_nil)
      (pss_one (ps_ret (pv 2)))), ?_⟩
    intro t3 t4 H1 B l x hx hl sB hh
    have hT1 : H1 tA = some (.lst (tk.map V.str)) := hh.sub _ _ (sB _ _ hT0)
    refine ⟨_, rfl, _, rfl, tA, _, rfl, .inl (SqL.of hT1), rfl, all_strs tk, _, rfl, ?_⟩
    show if inV (V.str x) (tk.map V.str) = true then _ else _
    rw [inV_strs]
    refine if_dec (fun c => ?_) (fun c => ?_)
    · refine ⟨_, rfl, fun D hD => lc_it walk_str (fun i H' => Hs B [(D, .lst ((freeL tk i).map V.str)), (g, .lst (l.map V.int))] H') (hh.new hD) (fun _ _ _ _ => trivial) ?_ ?_⟩
      · rintro i v _ H2 hi h2 ⟨rfl, c, hc, rfl⟩
        have hi26 : i < 26 := by
          have := abc_len
          exact hi
        rw [show ("abcdefghijklmnopqrstuvwxyz" : Str).cps[i]? = some (97 + i) from abc_at i hi26] at hc
        cases hc
        have hT2 : H2 tA = some (.lst (tk.map V.str)) := h2.sub _ _ (sB _ _ hT0)
        refine ⟨rfl, _, rfl, _, rfl, tA, _, rfl, .inl (SqL.of hT2), rfl, all_strs tk, _, rfl, ?_⟩
        show if (!inV (V.str ⟨#[97 + i]⟩) (tk.map V.str)) = true then _ else _
        rw [inV_strs]
        refine if_ndec (fun c => ?_) (fun c => ?_)
        · refine ⟨_, rfl, _, h2.r0, ?_, ?_⟩
          · have := freeL_le tk i
            rw [List.length_map, sizeLine_eq]
            omega
          · rw [freeL_succ, if_neg c, List.map_append]
            exact h2.w0
        · show Hs _ _ _
          rw [freeL_succ, if_pos c]
          exact h2
      · intro H2 h2
        rw [show ("abcdefghijklmnopqrstuvwxyz" : Str).cps.size = 26 from abc_len] at h2
        obtain ⟨y, r, e, hy, hyw⟩ := freeL_pos tk (by omega)
        rw [e] at h2
        refine ⟨D, _, _, _, rfl, rfl, SqL.of h2.r0, atI_nat (j := 0) rfl, _, rfl, hq y _ hyw hy ⟨l, hl, (h2.drop).isChg sB⟩⟩
    · exact ⟨_, rfl, hq x _ hx c ⟨l, hl, hh.isChg sB⟩⟩
  obtain ⟨t, pt, ht⟩ := tail
  refine ⟨_, (pss_cons (ps_set (i := 2) sc.nd rfl (Or.inl rfl) (pe_cal c_law_word hr (pa_cons (pv 0) pa_nil)))
      (pss_cons (ps_set (i := 3) sc.nd rfl (Or.inl rfl) (pe_cal c_law_draw hr (pa_cons (pv 0) (pa_cons pe_int pa_nil))))
      (pss_cons (ps_if (PW.pt (pw_and (pt_truth (pv 1) (by intro _; rfl)) (pw_and1 (pt_cmpR op_lt (pv 3) pe_int (nomark _)))))
        (pss_cons (ps_set (i := 4) sc.nd rfl (Or.inl rfl) (pe_ix ix_list (pv 1) (pe_cal c_law_draw hr (pa_cons (pv 0) (pa_cons (pe_callB call_len_seq (by rfl) T.len (by decide +kernel) (pa_cons (pv 1) pa_nil)) pa_nil))) (fun _ _ => rfl)))
        (pss_one (ps_if (PW.pt (pw_and (pt_cmpR op_eq (pv 3) pe_int (nomark _)) (pw_and1 (pt_cmpR op_lt (pe_callB call_len_str (by rfl) T.len (by decide +kernel) (pa_cons (pv 4) pa_nil)) pe_int (nomark _)))))
          (pss_one (ps_set (i := 2) sc.nd rfl (Or.inl rfl) (pe_op op_add_str (pv 4) (pe_ix ix_str (pv 2) pe_int (fun _ _ => rfl)))))
          (pss_one (ps_if (pt_cmpR op_gt (pe_callB call_len_str (by rfl) T.len (by decide +kernel) (pa_cons (pv 4) pa_nil)) pe_int (nomark _))
            (pss_one (ps_set (i := 2) sc.nd rfl (Or.inl rfl) (pe_slice sl_str (pv 4) po_none (po_some (pe_un un_neg pe_int)))))
            pss_nil)))))
        pss_nil)
      pt))), ?_⟩
  refine ⟨_, rfl, g, rfl, hg, fun x H1 hx d1 => ?_⟩
  obtain ⟨l1, B1, hl1, s1, h1, _⟩ := h0.dr0 d1
  refine ⟨_, rfl, g, 4, rfl, h1.bag hl1, by decide, by decide, fun n H2 hn d2 => ?_⟩
  obtain ⟨l2, B2, hl2, s2, h2, _⟩ := h1.dr0 d2
  have sB2 := s1.trans s2
  have hT2 : H2 tA = some (.lst (tk.map V.str)) := h2.sub _ _ (sB2 _ _ hT0)
  refine ⟨_, rfl, _, .inl ⟨_, SqL.of hT2, rfl⟩, if_bool (fun c1 => ?_) (fun c1 => ?_)⟩
  · refine ⟨_, rfl, _, _, rfl, rfl, _, rfl, if_dec (fun c2 => ?_) (fun c2 => ?_)⟩
    · have hpos : 0 < tk.length := by
        cases tk with
        | nil => simp at c1
        | cons a b => simp
      refine ⟨_, rfl, _, rfl, _, rfl, tA, _, rfl, .inl (SqL.of hT2), g, tk.length, by rw [List.length_map], h2.bag hl2, hpos, by omega, fun j H3 hj d3 => ?_⟩
      obtain ⟨l3, B3, hl3, s3, h3, _⟩ := h2.dr0 d3
      have sB3 := sB2.trans s3
      have hT3 : H3 tA = some (.lst (tk.map V.str)) := h3.sub _ _ (sB3 _ _ hT0)
      obtain ⟨el, hel⟩ : ∃ y, tk[j]? = some y := ⟨_, List.getElem?_eq_getElem hj⟩
      have wel := hW el (List.mem_of_getElem? hel)
      have lel := len_tl el
      have hsz : el.length ≤ sizeLine := by rw [sizeLine_eq, lel]; have := wel.2.1; omega
      refine ⟨tA, _, _, _, rfl, rfl, SqL.of hT3, atI_nat (by rw [List.getElem?_map, hel]; rfl), ?_⟩
      have more : ∀ H4, H4 = H3 → True := fun _ _ => trivial
      have two : ∀ D : Prop, D → D := fun _ h => h
      refine ⟨_, rfl, rfl, _, rfl, if_dec (fun c3 => ?_) (fun c3 => ?_)⟩
      · refine ⟨_, rfl, el, rfl, hsz, _, _, rfl, rfl, _, rfl, if_dec (fun c4 => ?_) (fun c4 => ?_)⟩
        · have hx0 : 0 < x.cps.toList.length := hx.1
          obtain ⟨c, hc⟩ : ∃ c, x.cps.toList[0]? = some c := ⟨_, List.getElem?_eq_getElem hx0⟩
          have lx := len_tl x
          refine ⟨_, rfl, _, rfl, x, _, c, rfl, rfl, by rw [sizeLine_eq, lx]; have := hx.2.1; omega, atI_nat (j := 0) hc, el, _, rfl, rfl, ?_, ht _ _ _ B3 l3 _ (wel.first hx (by omega) hc) hl3 sB3 h3⟩
          show el.length + 1 ≤ sizeLine
          rw [sizeLine_eq, lel]
          have := wel.2.1
          omega
        · refine ⟨_, rfl, el, rfl, hsz, _, _, rfl, rfl, _, rfl, if_dec (fun c5 => ?_) (fun c5 => ?_)⟩
          · exact ⟨_, rfl, _, rfl, _, rfl, el, rfl, hsz, ht _ _ _ B3 l3 _ (wel.cut (by omega)) hl3 sB3 h3⟩
          · exact ht _ _ _ B3 l3 _ hx hl3 sB3 h3
      · refine ⟨_, rfl, el, rfl, hsz, _, _, rfl, rfl, _, rfl, if_dec (fun c5 => ?_) (fun c5 => ?_)⟩
        · exact ⟨_, rfl, _, rfl, _, rfl, el, rfl, hsz, ht _ _ _ B3 l3 _ (wel.cut (by omega)) hl3 sB3 h3⟩
        · exact ht _ _ _ B3 l3 _ hx hl3 sB3 h3
    · exact ht _ _ _ B2 l2 _ hx hl2 sB2 h2
  · exact ht _ _ _ B2 l2 _ hx hl2 sB2 h2
end
end Sy
namespace Sy
open PySem PySem.Spec PyProof.Rows L2
section
variable {B H H' : Hp} {L : List (Addr × HO)} {g : Addr} {o : HO} {x y z : Addr × HO}
theorem Hs.rot (h : Hs B (x :: y :: z :: L) H) : Hs B (y :: z :: x :: L) H := h.perm ((List.Perm.swap _ _ _).trans (List.Perm.cons _ (List.Perm.swap _ _ _)))
theorem Hs.isDr (h : Hs B L H') {l : List Int} (hl : BagOk l) (m : (g, HO.lst (l.map V.int)) ∈ L) (s : Same (L2.del H g) B) : Dr g H H' := ⟨l, hl, h.own _ m, fun a w n e => h.sub _ _ (s _ _ (by rw [del_ne n]; exact e))⟩
end
theorem inV_nat (n : Nat) (ns : List Nat) : inV (.int (n : Int)) (vN ns) = decide (n ∈ ns) := by
  unfold inV vN
  induction ns with
  | nil => rfl
  | cons x l ih =>
    rw [List.map_cons, List.any_cons, ih]
    have : eqV (V.int (x : Int)) (V.int (n : Int)) = decide (x = n) := by
      show ((x : Int) == (n : Int)) = _
      by_cases h : x = n
      · subst h
        simp
      · rw [decide_eq_false h, beq_eq_false_iff_ne]
        omega
    rw [this]
    by_cases h : x = n
    · subst h
      simp
    · have h2 : n ≠ x := fun z => h z.symm
      simp [h, h2]
theorem all_nats (l : List Nat) : (vN l).all flatV = true := by
  rw [vN, List.all_map, List.all_eq_true]
  intro x _
  rfl
/-- rows as the law draws them -/
structure RowsL (rows : List Sy.Row) (most : Nat) : Prop where
  ok : RowsOk rows
  wd : ∀ r ∈ rows, Wd r.1
  le : rows.length ≤ most
  pos : 0 < rows.length
section
variable {P : Program} {w : World} {K : PySem.W.Frag} {mg : Str → Option Value} {base : Heap}
def spRows (K : PySem.W.Frag) : Sp := fun vs H Q _ => ∃ (g : Addr) (most : Nat), vs = [.ref g, .int (most : Nat)] ∧ Bag g H ∧ 1 ≤ most ∧ most ≤ 8 ∧ ∀ (q : Addr) (ps : List Addr) (rows : List Sy.Row) H', RowsL rows most → Dr g H H' → q ≠ g → H' q = some (.lst (ps.map V.ref)) →
  Paired (fun p (r : Sy.Row) => SqT K H' p [.str r.1, .int (r.2 : Nat)]) ps rows → Q (.ref q) H'
abbrev N_rows : List Str := ["_law_bag_here", "_law_most", "_law_names", "_law_numbers", "_law_k", "_law_place_here"]
theorem sc_rows : FnScope N_rows ["_law_bag_here", "_law_most"] (defScope (top 62)) := ⟨rfl, rfl, rfl, by decide +kernel, rfl, by decide +kernel, by decide +kernel⟩
theorem seven (j : Nat) (h : j < 7) : ∃ n : Nat, ([.int 0, .int 1, .int 2, .int 0, .int 2, .int 1, .int 3] : List V)[j]? = some (.int (n : Int)) ∧ n ≤ 3 := by
  match j, h with
  | 0, _ => exact ⟨0, rfl, by decide⟩
  | 1, _ => exact ⟨1, rfl, by decide⟩
  | 2, _ => exact ⟨2, rfl, by decide⟩
  | 3, _ => exact ⟨0, rfl, by decide⟩
  | 4, _ => exact ⟨2, rfl, by decide⟩
  | 5, _ => exact ⟨1, rfl, by decide⟩
  | 6, _ => exact ⟨3, rfl, by decide⟩
theorem k_rows (T : Txt K mg) (F : DF K mg "_law_rows" 62) (c_law_draw : Cal P w K mg base 1 "_law_draw" ["_law_bag_here", "_law_size"] spDraw) (c_law_name : Cal P w K mg base 3 "_law_name" ["_law_bag_here", "_law_taken"] (spNameL K)) : Cal P w K mg base 4 "_law_rows" ["_law_bag_here", "_law_most"] (spRows K) := by
  refine cal_of F.1 F.2 sc_rows (fun _ _ _ _ _ _ us e => match us, e with | [_, _], _ => rfl) (fun vs H Q E s => by obtain ⟨_, _, rfl, _⟩ := s; rfl) ?_
  intro cdv A outer s H vs Q E hr h
  obtain ⟨g, most, rfl, hg, hm1, hm8, hq⟩ := h
  have sc := sc_rows
  obtain ⟨l0, hl0, h0⟩ := hg.take
  generalize hB0 : L2.del H g = B0 at *
  -- the last row
  have fin : ∃ t, PSs (cxOf (L2.CX P w) P w K mg base N_rows "_law_rows" (defScope (top 62)) (He.ga K "_law_rows") cdv A outer s H E) ((defBody (top 62)).drop 4) t ∧
      ∀ (D1 D2 : Addr) (t4 t5 : Option V) (H1 B : Hp) (l : List Int) (nm : List Str) (ns : List Nat), BagOk l → nm.length = ns.length → 0 < nm.length → nm.length ≤ most → nm.Nodup → (∀ x ∈ nm, Wd x) → (∀ n ∈ ns, n ≤ 3) → 0 ∈ ns → Same B0 B →
        Hs B [(g, .lst (l.map V.int)), (D1, .lst (nm.map V.str)), (D2, .lst (vN ns))] H1 → t { nx := fun _ H' => Q .non H', rt := Q } [some (.ref g), some (.int (most : Nat)), some (.ref D1), some (.ref D2), t4, t5] H1 := by
    refine ⟨_, (pss_one (ps_ret (pe_lc (own := [("_law_k", 4)]) (g := gName 4) (te := tTup (tCons (tOp (rIxL K) (tVar 2) (tVar 4)) (tCons (tOp (rIxL K) (tVar 3) (tVar 4)) tNil))) rfl sc.nd (pi_range1 rfl T.range (pa_cons (pe_callB call_len_seq (by rfl) T.len (by decide +kernel) (pa_cons (pv 2) pa_nil)) pa_nil)) (blkOk_by (N := N_rows) (sc := defScope (top 62)) (by decide +kernel)) (fun _ _ _ _ _ => (pg_name (i := 4) sc.nd rfl (Or.inl rfl))) (fun _ _ _ _ _ => pts_nil) (fun _ _ _ _ _ => (pe_tup (pa_cons (pe_ix ix_list (pv 2) (pv 4) (fun _ _ => rfl)) (pa_cons (pe_ix ix_list (pv 3) (pv 4) (fun _ _ => rfl)) pa_nil))))))), ?_⟩
    intro D1 D2 t4 t5 H1 B l nm ns hl hnn hpos hmost hnd hwd h3 hzero sB hh
    refine ⟨_, rfl, D1, _, rfl, .inl (SqL.of hh.r1), _, rfl, by omega, by rw [List.length_map]; omega, fun q hq1 => lc_it (n := ((nm.map V.str).length : Int).toNat) walk_range (fun i H' => ∃ (B2 : Hp) (ps : List Addr), Same B B2 ∧ Hs B2 [(q, .lst (ps.map V.ref)), (g, .lst (l.map V.int)), (D1, .lst (nm.map V.str)), (D2, .lst (vN ns))] H' ∧ Paired (fun p (r : Sy.Row) => SqT K B2 p [.str r.1, .int (r.2 : Nat)]) ps ((nm.zip ns).take i))
      ⟨B, [], Same.refl _, hh.new hq1, .nil⟩ (fun _ _ _ _ => trivial) ?_ ?_⟩
    · rintro i v _ H2 hi ⟨B2, ps, s2, h2, pp⟩ ⟨rfl, rfl⟩
      have hi : i < nm.length := by
        rw [List.length_map] at hi
        omega
      obtain ⟨x, hx⟩ : ∃ x, nm[i]? = some x := ⟨_, List.getElem?_eq_getElem hi⟩
      obtain ⟨n, hn⟩ : ∃ n, ns[i]? = some n := ⟨_, List.getElem?_eq_getElem (by omega)⟩
      have hz : (nm.zip ns)[i]? = some (x, n) := by rw [List.getElem?_zip_eq_some]; exact ⟨hx, hn⟩
      have e0 : (0 : Int) + (i : Nat) = (i : Nat) := by omega
      have ppl := paired_len pp
      rw [List.length_take, List.length_zip] at ppl
      refine ⟨rfl, ?_⟩
      simp only [tYes, if_true]
      refine ⟨_, rfl, _, rfl, D1, _, _, _, rfl, rfl, SqL.of h2.r2, by rw [e0]; exact atI_nat (by rw [List.getElem?_map, hx]; rfl), _, rfl, _, rfl, D2, _, _, _, rfl, rfl, SqL.of h2.r3, by rw [e0]; exact atI_nat (vN_at hn), (by show 2 ≤ sizeLine; decide), fun p hp => ?_⟩
      have h3' := h2.tup (o := .tup [.str x, .int (n : Nat)]) hp
      have s3 : Same B2 (upd B2 p (.tup [.str x, .int (n : Nat)])) := up_same (h2.sub.free hp)
      refine ⟨_, h3'.r0, by rw [List.length_map, sizeLine_eq]; omega, _, ps ++ [p], s2.trans s3, by rw [List.map_append]; exact h3'.w0, ?_⟩
      rw [List.take_succ, hz]
      exact Paired.snoc (Paired.mapP pp fun _ _ z => Same.sqt s3 z) (SqT.of upd_same)
    · rintro H2 ⟨B2, ps, s2, h2, pp⟩
      rw [List.length_map, show ((nm.length : Int)).toNat = nm.length by omega, List.take_of_length_le (by rw [List.length_zip]; omega)] at pp
      have zf : (nm.zip ns).map (·.1) = nm := List.map_fst_zip (by omega)
      have zl : (nm.zip ns).length = nm.length := by rw [List.length_zip]; omega
      have mem1 : ∀ r ∈ nm.zip ns, r.1 ∈ nm := fun r hr => (List.of_mem_zip (a := r.1) (b := r.2) hr).1
      have mem2 : ∀ r ∈ nm.zip ns, r.2 ∈ ns := fun r hr => (List.of_mem_zip (a := r.1) (b := r.2) hr).2
      refine hq q ps (nm.zip ns) H2 ⟨⟨fun r hr => (hwd _ (mem1 r hr)).ok, fun r hr => h3 _ (mem2 r hr), by rw [zf]; exact hnd, ?_, by omega⟩, fun r hr => hwd _ (mem1 r hr), by omega, by omega⟩ (h2.isDr hl (by simp) (by rw [hB0]; exact sB.trans s2)) ?_ h2.r0 (Paired.mapP pp fun _ _ z => Same.sqt h2.sub z)
      · obtain ⟨j, hj, ej⟩ := List.mem_iff_getElem.mp hzero
        have hj2 : j < nm.length := by omega
        refine ⟨(nm[j], ns[j]), List.mem_iff_getElem.mpr ⟨j, by rw [List.length_zip]; omega, List.getElem_zip⟩, ej⟩
      · have := (List.nodup_cons.mp h2.nd).1
        exact fun z => this (by rw [z]; simp)
  obtain ⟨tf, pf, hf⟩ := fin
  refine ⟨_, (pss_cons (ps_set (i := 2) sc.nd rfl (Or.inr rfl) (pe_lst pa_nil))
      (pss_cons (ps_set (i := 3) sc.nd rfl (Or.inr rfl) (pe_lst pa_nil))
      (pss_cons (ps_for (passes_of rfl) rfl (pi_range1 rfl T.range (pa_cons (pe_op op_add pe_int (pe_cal c_law_draw hr (pa_cons (pv 0) (pa_cons (pv 1) pa_nil)))) pa_nil)) (pg_name (i := 4) sc.nd rfl (Or.inl rfl))
        (pss_cons (ps_expr (pe_bm PySem.F.plainAttrs_list PySem.F.slot_list_append PySem.F.type_list_append mt_append (pv 2) (pa_cons (pe_cal c_law_name hr (pa_cons (pv 0) (pa_cons (pv 2) pa_nil))) pa_nil)))
        (pss_one (ps_expr (pe_bm PySem.F.plainAttrs_list PySem.F.slot_list_append PySem.F.type_list_append mt_append (pv 3) (pa_cons (pe_ix ix_list (pe_lst (pa_cons pe_int (pa_cons pe_int (pa_cons pe_int (pa_cons pe_int (pa_cons pe_int (pa_cons pe_int (pa_cons pe_int pa_nil)))))))) (pe_cal c_law_draw hr (pa_cons (pv 0) (pa_cons pe_int pa_nil))) (fun _ _ => rfl)) pa_nil))))))
      (pss_cons (ps_if (pt_cmpR op_notIn_seq pe_int (pv 3) rfl)
        (pss_cons (ps_set (i := 5) sc.nd rfl (Or.inl rfl) (pe_cal c_law_draw hr (pa_cons (pv 0) (pa_cons (pe_callB call_len_seq (by rfl) T.len (by decide +kernel) (pa_cons (pv 3) pa_nil)) pa_nil))))
        (pss_one (ps_asg pe_int (pg_sub (pv 3) (pv 5) set_list))))
        pss_nil)
      pf)))), ?_⟩
  refine ⟨by decide, fun D1 hD1 => ⟨by decide, fun D2 hD2 => ?_⟩⟩
  have h1 := ((h0.new (o := .lst []) hD1).swap.new (o := .lst []) hD2).rot
  refine ⟨_, rfl, _, rfl, g, most, rfl, h1.bag hl0, hm1, by omega, fun r H1 hr1 d1 => ?_⟩
  obtain ⟨l1, B1, hl1, s1, h1, _⟩ := h1.dr0 d1
  refine ⟨_, _, rfl, rfl, _, rfl, by omega, by omega, for_rng (n := (1 + (r : Int)).toNat)
    (fun i σ H' => ∃ t4 B l nm ns, σ = [some (.ref g), some (.int (most : Nat)), some (.ref D1), some (.ref D2), t4, none] ∧ BagOk l ∧ nm.length = i ∧ ns.length = i ∧ nm.Nodup ∧ (∀ x ∈ nm, Wd x) ∧ (∀ n ∈ ns, n ≤ 3) ∧ Same B0 B ∧ Hs B [(g, .lst (l.map V.int)), (D1, .lst (nm.map V.str)), (D2, .lst (vN ns))] H')
    ⟨none, B1, l1, [], [], rfl, hl1, rfl, rfl, List.nodup_nil, fun _ z => (nomatch z), fun _ z => (nomatch z), s1, h1⟩ ?_ ?_⟩
  · rintro i σ H2 hi ⟨t4, B, l, nm, ns, rfl, hl, en, es, nd, wd, n3, sB, hh⟩
    have hne : g ≠ D1 := by
      have := (List.nodup_cons.mp hh.nd).1
      exact fun z => this (by rw [z]; simp)
    refine ⟨_, rfl, .inl ⟨rfl, _, SqL.of hh.r1⟩, _, rfl, _, rfl, g, D1, nm, rfl, hh.bag hl, hne, hh.r1, wd, by omega, fun x H3 hx hxn d3 => ?_⟩
    obtain ⟨l3, B3, hl3, s3, h3, _⟩ := hh.dr0 d3
    refine ⟨D1, _, _, rfl, rfl, h3.r1, by rw [List.length_map, sizeLine_eq]; omega, ?_⟩
    have h4 := h3.w1 (o' := .lst (nm.map V.str ++ [.str x]))
    refine ⟨_, rfl, .inl ⟨rfl, _, SqL.of h4.r2⟩, by decide, fun p hp => ?_⟩
    have h5 := h4.lay (o := .lst [.int 0, .int 1, .int 2, .int 0, .int 2, .int 1, .int 3]) hp
    refine ⟨_, rfl, g, 7, rfl, h5.bag hl3, by decide, by decide, fun j H6 hj d6 => ?_⟩
    have hp6 : H6 p = some (.lst [.int 0, .int 1, .int 2, .int 0, .int 2, .int 1, .int 3]) := by
      obtain ⟨_, _, c⟩ := d6
      exact c.2 _ _ (h4.ne_of_new hp (g, .lst (l3.map V.int)) (by simp)).symm upd_same
    obtain ⟨l6, B6, hl6, s6, h6, _⟩ := h5.dr0 d6
    obtain ⟨n, hn, hn3⟩ := seven j hj
    refine ⟨p, _, _, _, rfl, rfl, SqL.of hp6, atI_nat hn, D2, _, _, rfl, rfl, h6.r2, by rw [List.length_map, sizeLine_eq]; omega, _, _, _, nm ++ [x], ns ++ [n], rfl, hl6, by rw [List.length_append, en]; rfl, by rw [List.length_append, es]; rfl, ?_, fun y hy => ?_, fun y hy => ?_, (sB.trans s3).trans s6, ?_⟩
    · exact List.nodup_append.mpr ⟨nd, by simp, fun a ha b hb => by rw [List.mem_singleton.mp hb]; exact fun z => hxn (z ▸ ha)⟩
    · rcases List.mem_append.mp hy with hy | hy
      · exact wd y hy
      · rw [List.mem_singleton.mp hy]; exact hx
    · rcases List.mem_append.mp hy with hy | hy
      · exact n3 y hy
      · rw [List.mem_singleton.mp hy]; exact hn3
    · rw [List.map_append, vN, List.map_append]
      exact h6.w2
  · rintro σ H2 ⟨t4, B, l, nm, ns, rfl, hl, en, es, nd, wd, n3, sB, hh⟩
    refine ⟨_, rfl, D2, _, rfl, .inl (SqL.of hh.r2), rfl, all_nats ns, _, rfl, ?_⟩
    show if (!inV (V.int ((0 : Nat) : Int)) (vN ns)) = true then _ else _
    rw [inV_nat]
    refine if_ndec (fun c => ?_) (fun c => ?_)
    · refine ⟨_, rfl, _, rfl, D2, _, rfl, .inl (SqL.of hh.r2), g, ns.length, by rw [vN, List.length_map], hh.bag hl, by omega, by omega, fun j H3 hj d3 => ?_⟩
      obtain ⟨l3, B3, hl3, s3, h3, _⟩ := hh.dr0 d3
      refine ⟨_, rfl, _, rfl, D2, _, _, j, rfl, rfl, h3.r2, ixN_nat (by rw [List.length_map]; exact hj), ?_⟩
      refine hf D1 D2 _ _ _ B3 l3 nm (ns.set j 0) hl3 (by rw [List.length_set]; omega) (by omega) (by omega) nd wd (fun y hy => ?_) ?_ (sB.trans s3) ?_
      · rcases List.mem_or_eq_of_mem_set hy with hy | hy
        · exact n3 y hy
        · omega
      · exact List.mem_iff_getElem.mpr ⟨j, by rw [List.length_set]; exact hj, List.getElem_set_self ..⟩
      · rw [← vN_set]
        exact h3.w2
    · exact hf D1 D2 _ _ _ B l nm ns hl (by omega) (by omega) (by omega) nd wd n3 c sB hh
end
end Sy
namespace Sy
open PySem PySem.Spec PyProof.Rows L2
/-- the law's rows as a list at q -/
def RL (K : PySem.W.Frag) (H : Hp) (q : Addr) (rows : List Sy.Row) : Prop := ∃ ps : List Addr, H q = some (.lst (ps.map V.ref)) ∧ Paired (fun p (r : Sy.Row) => SqT K H p [.str r.1, .int (r.2 : Nat)]) ps rows
theorem RL.mono {K : PySem.W.Frag} {H H' : Hp} {q : Addr} {rows : List Sy.Row} (h : RL K H q rows) (s : Same H H') : RL K H' q rows := by
  obtain ⟨ps, h1, h2⟩ := h
  exact ⟨ps, s _ _ h1, Paired.mapP h2 fun _ _ z => Same.sqt s z⟩
theorem sqt_delL {K : PySem.W.Frag} {H : Hp} {g p : Addr} {xs ys : List V} (h : SqT K H p xs) (hg : H g = some (.lst ys)) : SqT K (L2.del H g) p xs := (stay_del hg).sqt h
theorem RL.del {K : PySem.W.Frag} {H : Hp} {q g : Addr} {rows : List Sy.Row} {ys : List V} (h : RL K H q rows) (ne : q ≠ g) (hg : H g = some (.lst ys)) : RL K (L2.del H g) q rows := by
  obtain ⟨ps, h1, h2⟩ := h
  exact ⟨ps, by rw [del_ne ne]; exact h1, Paired.mapP h2 fun _ _ z => sqt_delL z hg⟩
/-- the number of branches, -1 if it is no kind -/
def numb (rows : List Sy.Row) (x : Str) : Int := match rows.lookup x with
  | some n => (n : Int)
  | none => -1
theorem numb_ar {rows : List Sy.Row} {x : Str} (h : isK rows x = true) : numb rows x = (ar rows x : Nat) := by
  unfold numb ar
  unfold isK at h
  cases e : rows.lookup x with
  | none => rw [e] at h; cases h
  | some n => rfl
section
variable {P : Program} {w : World} {K : PySem.W.Frag} {mg : Str → Option Value} {base : Heap}
/-! _law_bag -/
def spBag (K : PySem.W.Frag) : Sp := fun vs H Q _ => ∃ (s : Addr) (zs : List Int), vs = [.ref s] ∧ SqL K H s (zs.map V.int) ∧ zs.length ≤ 100000 ∧ ∀ g H', H g = none → Same H H' → Bag g H' → Q (.ref g) H'
abbrev N_bag : List Str := ["_law_script", "_law_cell"]
theorem sc_bag : FnScope N_bag ["_law_script"] (defScope (top 58)) := ⟨rfl, rfl, rfl, by decide +kernel, rfl, by decide +kernel, by decide +kernel⟩
theorem k_bag (T : Txt K mg) (F : DF K mg "_law_bag" 58) : Cal P w K mg base 1 "_law_bag" ["_law_script"] (spBag K) := by
  refine cal_of F.1 F.2 sc_bag (fun _ _ _ _ _ _ us e => match us, e with | [_], _ => rfl) (fun vs H Q E s => by obtain ⟨_, _, rfl, _⟩ := s; rfl) ?_
  intro cdv A outer s H vs Q E hr h
  obtain ⟨sa, zs, rfl, hs, hl, hq⟩ := h
  have sc := sc_bag
  refine ⟨_, (pss_one (ps_ret (pe_op op_cat (pe_lst (pa_cons pe_int (pa_cons pe_int (pa_cons pe_int (pa_cons pe_int pa_nil))))) (pe_lc (own := [("_law_cell", 1)]) (g := gName 1) rfl sc.nd (pi_list (pv 0)) (blkOk_by (N := N_bag) (sc := defScope (top 58)) (by decide +kernel)) (fun _ _ _ _ _ => (pg_name (i := 1) sc.nd rfl (Or.inl rfl))) (fun _ _ _ _ _ => pts_nil) (fun _ _ _ _ _ => (pe_callB call_abs (by rfl) T.abs (by decide +kernel) (pa_cons (pe_callTy call_int1 (by rfl) T.int (by decide +kernel) (pa_cons (pv 1) pa_nil)) pa_nil))))))), ?_⟩
  refine ⟨(by show 4 ≤ sizeLine; decide), fun p hp => ?_⟩
  have h1 := (Hs.start H).new (o := .lst [.int 0, .int 0, .int 0, .int 4]) hp
  refine ⟨_, rfl, sa, rfl, ⟨_, Same.seq h1.sub hs⟩, fun D hD => lc_it walk_list (fun i H' => ∃ ys : List Int, ys.length = i ∧ (∀ y ∈ ys, 0 ≤ y) ∧ Hs H [(D, .lst (ys.map V.int)), (p, .lst [.int 0, .int 0, .int 0, .int 4])] H') ⟨[], rfl, fun _ z => (nomatch z), h1.new hD⟩ (fun _ _ _ ⟨_, _, _, z⟩ => Same.seq z.sub hs) ?_ ?_⟩
  · rintro i v H2 _ hi ⟨ys, hy, hp0, hh⟩ ⟨rfl, hv⟩
    obtain ⟨z, _, rfl⟩ := map_at hv
    rw [List.length_map] at hi
    refine ⟨rfl, ?_⟩
    simp only [tYes, if_true]
    refine ⟨_, rfl, .inl ⟨z, rfl, z, rfl, _, hh.r0, by rw [List.length_map, sizeLine_eq]; omega, ys ++ [if z < 0 then -z else z], by rw [List.length_append, hy]; rfl, fun y hy => ?_, ?_⟩⟩
    · rcases List.mem_append.mp hy with hy | hy
      · exact hp0 y hy
      · rw [List.mem_singleton.mp hy]
        split <;> omega
    · rw [List.map_append]
      exact hh.w0
  · rintro H2 ⟨ys, hy, hp0, hh⟩
    rw [List.length_map] at hy
    refine ⟨p, D, _, _, rfl, rfl, hh.r1, hh.r0, by rw [List.length_map, sizeLine_eq]; show 4 + _ ≤ _; omega, fun g hg => hq g _ (hh.sub.free hg) (hh.sub.trans (up_same hg)) ⟨0 :: 0 :: 0 :: 4 :: ys, ⟨0, 0, 0, 4, ys, rfl, by decide, by decide, hp0⟩, upd_same⟩⟩
/-! _law_bed -/
def spBed (K : PySem.W.Frag) : Sp := fun vs H Q _ => ∃ (q : Addr) (rows : List Sy.Row), vs = [.ref q] ∧ RL K H q rows ∧ RowsOk rows ∧ 0 < rows.length ∧ ∀ H' a, Same H H' → BedAt K H' a rows → Q (.ref a) H'
theorem sc_bed : FnScope ["_law_rows_here"] ["_law_rows_here"] (defScope (top 63)) := ⟨rfl, rfl, rfl, by decide +kernel, rfl, by decide +kernel, by decide +kernel⟩
theorem k_bed (T : Txt K mg) (M : Mk K (He.ga K "Bed") (He.ma K (He.ga K "Bed") "__init__")) (at_ : mg "Bed" = some (.ref (He.ga K "Bed"))) (FI : FnR P w K mg base (L2.CX P w) 3 (He.ma K (He.ga K "Bed") "__init__") (spStar 1 (spInitB K))) (F : DF K mg "_law_bed" 63) :
    Cal P w K mg base 5 "_law_bed" ["_law_rows_here"] (spBed K) := by
  refine cal_of F.1 F.2 sc_bed (fun _ _ _ _ _ _ us e => match us, e with | [_], _ => rfl) (fun vs H Q E s => by obtain ⟨_, _, rfl, _⟩ := s; rfl) ?_
  intro cdv A outer s H vs Q E hr h
  obtain ⟨q, rows, rfl, ⟨ps, hL, hp⟩, ok, hpos, hq⟩ := h
  have hpl := paired_len hp
  have hle := ok.le
  refine ⟨_, (pss_cons (ps_if (pt_cmpR op_eq (pe_callB call_len_seq (by rfl) T.len (by decide +kernel) (pa_cons (pv 0) pa_nil)) pe_int (nomark _))
        (pss_one (ps_ret (pe_bed M at_ FI hr (pa_cons (pe_ix ix_list (pv 0) pe_int (fun _ _ => rfl)) pa_nil))))
        pss_nil)
      (pss_cons (ps_if (pt_cmpR op_eq (pe_callB call_len_seq (by rfl) T.len (by decide +kernel) (pa_cons (pv 0) pa_nil)) pe_int (nomark _))
        (pss_one (ps_ret (pe_bed M at_ FI hr (pa_cons (pe_ix ix_list (pv 0) pe_int (fun _ _ => rfl)) (pa_cons (pe_ix ix_list (pv 0) pe_int (fun _ _ => rfl)) pa_nil)))))
        pss_nil)
      (pss_cons (ps_if (pt_cmpR op_eq (pe_callB call_len_seq (by rfl) T.len (by decide +kernel) (pa_cons (pv 0) pa_nil)) pe_int (nomark _))
        (pss_one (ps_ret (pe_bed M at_ FI hr (pa_cons (pe_ix ix_list (pv 0) pe_int (fun _ _ => rfl)) (pa_cons (pe_ix ix_list (pv 0) pe_int (fun _ _ => rfl)) (pa_cons (pe_ix ix_list (pv 0) pe_int (fun _ _ => rfl)) pa_nil))))))
        pss_nil)
      (pss_cons (ps_if (pt_cmpR op_eq (pe_callB call_len_seq (by rfl) T.len (by decide +kernel) (pa_cons (pv 0) pa_nil)) pe_int (nomark _))
        (pss_one (ps_ret (pe_bed M at_ FI hr (pa_cons (pe_ix ix_list (pv 0) pe_int (fun _ _ => rfl)) (pa_cons (pe_ix ix_list (pv 0) pe_int (fun _ _ => rfl)) (pa_cons (pe_ix ix_list (pv 0) pe_int (fun _ _ => rfl)) (pa_cons (pe_ix ix_list (pv 0) pe_int (fun _ _ => rfl)) pa_nil)))))))
        pss_nil)
      (pss_cons (ps_if (pt_cmpR op_eq (pe_callB call_len_seq (by rfl) T.len (by decide +kernel) (pa_cons (pv 0) pa_nil)) pe_int (nomark _))
        (pss_one (ps_ret (pe_bed M at_ FI hr (pa_cons (pe_ix ix_list (pv 0) pe_int (fun _ _ => rfl)) (pa_cons (pe_ix ix_list (pv 0) pe_int (fun _ _ => rfl)) (pa_cons (pe_ix ix_list (pv 0) pe_int (fun _ _ => rfl)) (pa_cons (pe_ix ix_list (pv 0) pe_int (fun _ _ => rfl)) (pa_cons (pe_ix ix_list (pv 0) pe_int (fun _ _ => rfl)) pa_nil))))))))
        pss_nil)
      (pss_cons (ps_if (pt_cmpR op_eq (pe_callB call_len_seq (by rfl) T.len (by decide +kernel) (pa_cons (pv 0) pa_nil)) pe_int (nomark _))
        (pss_one (ps_ret (pe_bed M at_ FI hr (pa_cons (pe_ix ix_list (pv 0) pe_int (fun _ _ => rfl)) (pa_cons (pe_ix ix_list (pv 0) pe_int (fun _ _ => rfl)) (pa_cons (pe_ix ix_list (pv 0) pe_int (fun _ _ => rfl)) (pa_cons (pe_ix ix_list (pv 0) pe_int (fun _ _ => rfl)) (pa_cons (pe_ix ix_list (pv 0) pe_int (fun _ _ => rfl)) (pa_cons (pe_ix ix_list (pv 0) pe_int (fun _ _ => rfl)) pa_nil)))))))))
        pss_nil)
      (pss_cons (ps_if (pt_cmpR op_eq (pe_callB call_len_seq (by rfl) T.len (by decide +kernel) (pa_cons (pv 0) pa_nil)) pe_int (nomark _))
        (pss_one (ps_ret (pe_bed M at_ FI hr (pa_cons (pe_ix ix_list (pv 0) pe_int (fun _ _ => rfl)) (pa_cons (pe_ix ix_list (pv 0) pe_int (fun _ _ => rfl)) (pa_cons (pe_ix ix_list (pv 0) pe_int (fun _ _ => rfl)) (pa_cons (pe_ix ix_list (pv 0) pe_int (fun _ _ => rfl)) (pa_cons (pe_ix ix_list (pv 0) pe_int (fun _ _ => rfl)) (pa_cons (pe_ix ix_list (pv 0) pe_int (fun _ _ => rfl)) (pa_cons (pe_ix ix_list (pv 0) pe_int (fun _ _ => rfl)) pa_nil))))))))))
        pss_nil)
      (pss_one (ps_ret (pe_bed M at_ FI hr (pa_cons (pe_ix ix_list (pv 0) pe_int (fun _ _ => rfl)) (pa_cons (pe_ix ix_list (pv 0) pe_int (fun _ _ => rfl)) (pa_cons (pe_ix ix_list (pv 0) pe_int (fun _ _ => rfl)) (pa_cons (pe_ix ix_list (pv 0) pe_int (fun _ _ => rfl)) (pa_cons (pe_ix ix_list (pv 0) pe_int (fun _ _ => rfl)) (pa_cons (pe_ix ix_list (pv 0) pe_int (fun _ _ => rfl)) (pa_cons (pe_ix ix_list (pv 0) pe_int (fun _ _ => rfl)) (pa_cons (pe_ix ix_list (pv 0) pe_int (fun _ _ => rfl)) pa_nil)))))))))))))))))), ?_⟩
  refine ⟨_, rfl, q, _, rfl, .inl (SqL.of hL), rfl, _, rfl, if_dec (fun c => ?_) (fun c1 => ?_)⟩
  · have en : ps.length = 1 := by
      have := V.int.inj c
      rw [List.length_map] at this
      omega
    obtain ⟨p0, rfl⟩ : ∃ p0, ps = [p0] := by
      match ps, en with
      | [p0], _ => exact ⟨_, rfl⟩
    exact ⟨_, rfl, q, _, _, _, rfl, rfl, SqL.of hL, atI_nat (j := 0) rfl, bed_of (ps := [p0]) rfl hp ok hq⟩
  refine ⟨_, rfl, q, _, rfl, .inl (SqL.of hL), rfl, _, rfl, if_dec (fun c => ?_) (fun c2 => ?_)⟩
  · have en : ps.length = 2 := by
      have := V.int.inj c
      rw [List.length_map] at this
      omega
    obtain ⟨p0, p1, rfl⟩ : ∃ p0 p1, ps = [p0, p1] := by
      match ps, en with
      | [p0, p1], _ => exact ⟨_, _, rfl⟩
    exact ⟨_, rfl, q, _, _, _, rfl, rfl, SqL.of hL, atI_nat (j := 0) rfl, _, rfl, q, _, _, _, rfl, rfl, SqL.of hL, atI_nat (j := 1) rfl, bed_of (ps := [p0, p1]) rfl hp ok hq⟩
  refine ⟨_, rfl, q, _, rfl, .inl (SqL.of hL), rfl, _, rfl, if_dec (fun c => ?_) (fun c3 => ?_)⟩
  · have en : ps.length = 3 := by
      have := V.int.inj c
      rw [List.length_map] at this
      omega
    obtain ⟨p0, p1, p2, rfl⟩ : ∃ p0 p1 p2, ps = [p0, p1, p2] := by
      match ps, en with
      | [p0, p1, p2], _ => exact ⟨_, _, _, rfl⟩
    exact ⟨_, rfl, q, _, _, _, rfl, rfl, SqL.of hL, atI_nat (j := 0) rfl, _, rfl, q, _, _, _, rfl, rfl, SqL.of hL, atI_nat (j := 1) rfl, _, rfl, q, _, _, _, rfl, rfl, SqL.of hL, atI_nat (j := 2) rfl, bed_of (ps := [p0, p1, p2]) rfl hp ok hq⟩
  refine ⟨_, rfl, q, _, rfl, .inl (SqL.of hL), rfl, _, rfl, if_dec (fun c => ?_) (fun c4 => ?_)⟩
  · have en : ps.length = 4 := by
      have := V.int.inj c
      rw [List.length_map] at this
      omega
    obtain ⟨p0, p1, p2, p3, rfl⟩ : ∃ p0 p1 p2 p3, ps = [p0, p1, p2, p3] := by
      match ps, en with
      | [p0, p1, p2, p3], _ => exact ⟨_, _, _, _, rfl⟩
    exact ⟨_, rfl, q, _, _, _, rfl, rfl, SqL.of hL, atI_nat (j := 0) rfl, _, rfl, q, _, _, _, rfl, rfl, SqL.of hL, atI_nat (j := 1) rfl, _, rfl, q, _, _, _, rfl, rfl, SqL.of hL, atI_nat (j := 2) rfl, _, rfl, q, _, _, _, rfl, rfl, SqL.of hL, atI_nat (j := 3) rfl, bed_of (ps := [p0, p1, p2, p3]) rfl hp ok hq⟩
  refine ⟨_, rfl, q, _, rfl, .inl (SqL.of hL), rfl, _, rfl, if_dec (fun c => ?_) (fun c5 => ?_)⟩
  · have en : ps.length = 5 := by
      have := V.int.inj c
      rw [List.length_map] at this
      omega
    obtain ⟨p0, p1, p2, p3, p4, rfl⟩ : ∃ p0 p1 p2 p3 p4, ps = [p0, p1, p2, p3, p4] := by
      match ps, en with
      | [p0, p1, p2, p3, p4], _ => exact ⟨_, _, _, _, _, rfl⟩
    exact ⟨_, rfl, q, _, _, _, rfl, rfl, SqL.of hL, atI_nat (j := 0) rfl, _, rfl, q, _, _, _, rfl, rfl, SqL.of hL, atI_nat (j := 1) rfl, _, rfl, q, _, _, _, rfl, rfl, SqL.of hL, atI_nat (j := 2) rfl, _, rfl, q, _, _, _, rfl, rfl, SqL.of hL, atI_nat (j := 3) rfl, _, rfl, q, _, _, _, rfl, rfl, SqL.of hL, atI_nat (j := 4) rfl, bed_of (ps := [p0, p1, p2, p3, p4]) rfl hp ok hq⟩
  refine ⟨_, rfl, q, _, rfl, .inl (SqL.of hL), rfl, _, rfl, if_dec (fun c => ?_) (fun c6 => ?_)⟩
  · have en : ps.length = 6 := by
      have := V.int.inj c
      rw [List.length_map] at this
      omega
    obtain ⟨p0, p1, p2, p3, p4, p5, rfl⟩ : ∃ p0 p1 p2 p3 p4 p5, ps = [p0, p1, p2, p3, p4, p5] := by
      match ps, en with
      | [p0, p1, p2, p3, p4, p5], _ => exact ⟨_, _, _, _, _, _, rfl⟩
    exact ⟨_, rfl, q, _, _, _, rfl, rfl, SqL.of hL, atI_nat (j := 0) rfl, _, rfl, q, _, _, _, rfl, rfl, SqL.of hL, atI_nat (j := 1) rfl, _, rfl, q, _, _, _, rfl, rfl, SqL.of hL, atI_nat (j := 2) rfl, _, rfl, q, _, _, _, rfl, rfl, SqL.of hL, atI_nat (j := 3) rfl, _, rfl, q, _, _, _, rfl, rfl, SqL.of hL, atI_nat (j := 4) rfl, _, rfl, q, _, _, _, rfl, rfl, SqL.of hL, atI_nat (j := 5) rfl, bed_of (ps := [p0, p1, p2, p3, p4, p5]) rfl hp ok hq⟩
  refine ⟨_, rfl, q, _, rfl, .inl (SqL.of hL), rfl, _, rfl, if_dec (fun c => ?_) (fun c7 => ?_)⟩
  · have en : ps.length = 7 := by
      have := V.int.inj c
      rw [List.length_map] at this
      omega
    obtain ⟨p0, p1, p2, p3, p4, p5, p6, rfl⟩ : ∃ p0 p1 p2 p3 p4 p5 p6, ps = [p0, p1, p2, p3, p4, p5, p6] := by
      match ps, en with
      | [p0, p1, p2, p3, p4, p5, p6], _ => exact ⟨_, _, _, _, _, _, _, rfl⟩
    exact ⟨_, rfl, q, _, _, _, rfl, rfl, SqL.of hL, atI_nat (j := 0) rfl, _, rfl, q, _, _, _, rfl, rfl, SqL.of hL, atI_nat (j := 1) rfl, _, rfl, q, _, _, _, rfl, rfl, SqL.of hL, atI_nat (j := 2) rfl, _, rfl, q, _, _, _, rfl, rfl, SqL.of hL, atI_nat (j := 3) rfl, _, rfl, q, _, _, _, rfl, rfl, SqL.of hL, atI_nat (j := 4) rfl, _, rfl, q, _, _, _, rfl, rfl, SqL.of hL, atI_nat (j := 5) rfl, _, rfl, q, _, _, _, rfl, rfl, SqL.of hL, atI_nat (j := 6) rfl, bed_of (ps := [p0, p1, p2, p3, p4, p5, p6]) rfl hp ok hq⟩
  have en : ps.length = 8 := by
    have d1 : ps.length ≠ 1 := fun z => c1 (by rw [List.length_map, z]; rfl)
    have d2 : ps.length ≠ 2 := fun z => c2 (by rw [List.length_map, z]; rfl)
    have d3 : ps.length ≠ 3 := fun z => c3 (by rw [List.length_map, z]; rfl)
    have d4 : ps.length ≠ 4 := fun z => c4 (by rw [List.length_map, z]; rfl)
    have d5 : ps.length ≠ 5 := fun z => c5 (by rw [List.length_map, z]; rfl)
    have d6 : ps.length ≠ 6 := fun z => c6 (by rw [List.length_map, z]; rfl)
    have d7 : ps.length ≠ 7 := fun z => c7 (by rw [List.length_map, z]; rfl)
    omega
  obtain ⟨p0, p1, p2, p3, p4, p5, p6, p7, rfl⟩ : ∃ p0 p1 p2 p3 p4 p5 p6 p7, ps = [p0, p1, p2, p3, p4, p5, p6, p7] := by
    match ps, en with
    | [p0, p1, p2, p3, p4, p5, p6, p7], _ => exact ⟨_, _, _, _, _, _, _, _, rfl⟩
  exact ⟨_, rfl, q, _, _, _, rfl, rfl, SqL.of hL, atI_nat (j := 0) rfl, _, rfl, q, _, _, _, rfl, rfl, SqL.of hL, atI_nat (j := 1) rfl, _, rfl, q, _, _, _, rfl, rfl, SqL.of hL, atI_nat (j := 2) rfl, _, rfl, q, _, _, _, rfl, rfl, SqL.of hL, atI_nat (j := 3) rfl, _, rfl, q, _, _, _, rfl, rfl, SqL.of hL, atI_nat (j := 4) rfl, _, rfl, q, _, _, _, rfl, rfl, SqL.of hL, atI_nat (j := 5) rfl, _, rfl, q, _, _, _, rfl, rfl, SqL.of hL, atI_nat (j := 6) rfl, _, rfl, q, _, _, _, rfl, rfl, SqL.of hL, atI_nat (j := 7) rfl, bed_of (ps := [p0, p1, p2, p3, p4, p5, p6, p7]) rfl hp ok hq⟩
/-! _law_number -/
def spNum (K : PySem.W.Frag) : Sp := fun vs H Q _ => ∃ (q : Addr) (rows : List Sy.Row) (x : Str), vs = [.ref q, .str x] ∧ RL K H q rows ∧ Q (.int (numb rows x)) H
abbrev N_num : List Str := ["_law_rows_here", "_law_word_here", "_law_row"]
theorem sc_num : FnScope N_num ["_law_rows_here", "_law_word_here"] (defScope (top 64)) := ⟨rfl, rfl, rfl, by decide +kernel, rfl, by decide +kernel, by decide +kernel⟩
theorem numb_cons (r : Sy.Row) (l : List Sy.Row) (x : Str) : numb (r :: l) x = if r.1 = x then (r.2 : Int) else numb l x := by
  unfold numb
  rw [lookup_cons]
  by_cases h : r.1 = x
  · rw [if_pos h, if_pos h]
  · rw [if_neg h, if_neg h]
theorem k_num (T : Txt K mg) (F : DF K mg "_law_number" 64) : Cal P w K mg base 1 "_law_number" ["_law_rows_here", "_law_word_here"] (spNum K) := by
  refine cal_of F.1 F.2 sc_num (fun _ _ _ _ _ _ us e => match us, e with | [_, _], _ => rfl) (fun vs H Q E s => by obtain ⟨_, _, _, rfl, _⟩ := s; rfl) ?_
  intro cdv A outer s H vs Q E hr h
  obtain ⟨q, rows, x, rfl, ⟨ps, hL, hp⟩, hq⟩ := h
  have sc := sc_num
  have hpl := paired_len hp
  refine ⟨_, (pss_cons (ps_for (passes_of rfl) rfl (pi_list (pv 0)) (pg_name (i := 2) sc.nd rfl (Or.inl rfl))
        (pss_one (ps_if (pt_cmpR op_eq (pe_ix ix_tup (pv 2) pe_int (fun _ _ => rfl)) (pv 1) (nomark _))
          (pss_one (ps_ret (pe_ix ix_tup (pv 2) pe_int (fun _ _ => rfl))))
          pss_nil)))
      (pss_one (ps_ret (pe_un un_neg pe_int)))), ?_⟩
  refine ⟨_, rfl, q, rfl, ⟨_, SqL.of hL⟩, for_list (K := K) (xs := ps.map V.ref) (fun i σ H' => ∃ t2, σ = [some (.ref q), some (.str x), t2] ∧ H' = H ∧ numb (rows.drop i) x = numb rows x) ⟨none, rfl, rfl, by rw [List.drop_zero]⟩ (fun _ _ _ _ ⟨_, _, e, _⟩ => e ▸ SqL.of hL) ?_ ?_⟩
  · rintro i v σ _ hv ⟨t2, rfl, rfl, e⟩
    obtain ⟨p, ep, rfl⟩ := map_at hv
    have hi : i < rows.length := by rw [← hpl]; exact (List.getElem?_eq_some_iff.mp ep).1
    obtain ⟨r, er⟩ : ∃ r, rows[i]? = some r := ⟨_, List.getElem?_eq_getElem hi⟩
    obtain ⟨p2, ep2, tp⟩ := paired_at hp er
    rw [ep] at ep2
    cases ep2
    rw [drop_of er, numb_cons] at e
    refine ⟨_, rfl, p, _, _, _, rfl, rfl, tp, atI_nat (j := 0) rfl, _, rfl, rfl, _, rfl, if_dec (fun c => ?_) (fun c => ?_)⟩
    · rw [if_pos (V.str.inj c)] at e
      rw [← e] at hq
      exact ⟨_, rfl, p, _, _, _, rfl, rfl, tp, atI_nat (j := 1) rfl, hq⟩
    · rw [if_neg (fun z => c (by rw [z]))] at e
      exact ⟨_, rfl, rfl, e⟩
  · rintro σ _ ⟨t2, rfl, rfl, e⟩
    rw [List.length_map, hpl, List.drop_length] at e
    have e : (-1 : Int) = numb rows x := e
    rw [← e] at hq
    exact ⟨_, rfl, hq⟩
end
end Sy
namespace Sy
open PySem PySem.Spec PyProof.Rows L2
theorem Dr.same {g : Addr} {H H1 H2 : Hp} (d : Dr g H H1) (s : Same H1 H2) : Dr g H H2 := by
  obtain ⟨l, hl, c⟩ := d
  exact ⟨l, hl, s _ _ c.1, fun a w n e => s _ _ (c.2 a w n e)⟩
theorem Dr.trans {g : Addr} {H H1 H2 : Hp} (a : Dr g H H1) (b : Dr g H1 H2) : Dr g H H2 := by
  obtain ⟨l, _, c⟩ := a
  obtain ⟨m, hm, d⟩ := b
  exact ⟨m, hm, Chg.trans c d⟩
theorem Dr.bag {g : Addr} {H H1 : Hp} (d : Dr g H H1) : Bag g H1 := by
  obtain ⟨l, hl, c⟩ := d
  exact ⟨l, hl, c.1⟩
/-- a comprehension over a list, with a test; nothing else is made -/
theorem lc_filt {K : PySem.W.Frag} {α : Type} {a : Addr} {xs : List α} {f out : α → V} {keep : α → Bool} {si : Nat} {tt : TT} {te : TE} {σ : L2.St} {H B : Hp} {L : List (Addr × HO)} {D : Addr} {Qd : Hp → Prop} (h : Hs B L H) (hD : H D = none) (ha : B a = some (.lst (xs.map f))) (hsz : xs.length ≤ 100000)
    (hs : ∀ x ∈ xs, ∀ H', Same B H' → ∀ (R1 : VK) (R2 : Hp → Prop), (keep x = true → R1 (out x) H') → (keep x = false → R2 H') → tt ((wipe σ [si]).set si (some (f x))) H' fun b H3 => if b = true then te ((wipe σ [si]).set si (some (f x))) H3 R1 else R2 H3)
    (hd : ∀ H', Hs B ((D, .lst ((xs.filter keep).map out)) :: L) H' → Qd H') : LcW (Itl K a) (gName si) tt te [si] σ H D Qd := by
  refine lc_it (walk_list (K := K) (a := a) (xs := xs.map f)) (fun i H' => Hs B ((D, .lst (((xs.take i).filter keep).map out)) :: L) H') (h.new hD) (fun _ _ _ z => SqL.of (z.sub _ _ ha)) ?_ ?_
  · rintro i v _ H2 hi hh ⟨rfl, hv⟩
    obtain ⟨x, hx, rfl⟩ := map_at hv
    rw [List.length_map] at hi
    have et : xs.take (i + 1) = xs.take i ++ [x] := by rw [List.take_succ, hx]; rfl
    have hl : ((xs.take i).filter keep).length ≤ i := by
      have := List.length_filter_le keep (xs.take i)
      rw [List.length_take] at this
      omega
    refine ⟨(by show (σ.set si none |>.set si _).set si none = σ.set si none; rw [List.set_set, List.set_set]), ?_⟩
    refine hs x (List.mem_of_getElem? hx) H2 hh.sub _ _ (fun c => ?_) (fun c => ?_)
    · refine ⟨_, hh.r0, by rw [List.length_map, sizeLine_eq]; omega, ?_⟩
      rw [et, List.filter_append, List.map_append]
      have : [x].filter keep = [x] := by simp [c]
      rw [this]
      exact hh.w0
    · rw [et, List.filter_append]
      have : [x].filter keep = [] := by simp [c]
      rw [this, List.append_nil]
      exact hh
  · intro H' hh
    rw [List.length_map, List.take_length] at hh
    exact hd H' hh
theorem lookup_mem {rows : List Sy.Row} (nd : (rows.map (·.1)).Nodup) {r : Sy.Row} (hr : r ∈ rows) : rows.lookup r.1 = some r.2 := by
  induction rows with
  | nil => cases hr
  | cons q rs ih =>
    rw [List.map_cons, List.nodup_cons] at nd
    rw [lookup_cons]
    rcases List.mem_cons.mp hr with rfl | hr
    · rw [if_pos rfl]
    · rw [if_neg, ih nd.2 hr]
      exact fun z => nd.1 (by rw [z]; exact List.mem_map_of_mem hr)
/-- words as the law makes them -/
def Wx (x : Str) : Prop := x.cps.toList.length ≤ 10 ∧ ∀ c ∈ x.cps.toList, c < 1000
theorem Wd.wx {x : Str} (h : Wd x) : Wx x := ⟨by have := h.2.1; omega, fun c hc => by have := (h.2.2 c hc).2; omega⟩
theorem Wx.hole : Wx "*" := ⟨by decide +kernel, by decide +kernel⟩
/-- a row of words at p -/
structure Rw (K : PySem.W.Frag) (H : Hp) (p : Addr) (l : List Str) : Prop where
  sq : SqT K H p (l.map V.str)
  nd : NoD H p
  wx : ∀ x ∈ l, Wx x
section
variable {P : Program} {w : World} {K : PySem.W.Frag} {mg : Str → Option Value} {base : Heap}
/-! _law_plant -/
def spPlantL (K : PySem.W.Frag) : Sp := fun vs H Q _ => ∃ (g q : Addr) (most : Nat) (wh : Bool) (rows : List Sy.Row), vs = [.ref g, .ref q, .int (most : Nat), .bl wh] ∧ Bag g H ∧ q ≠ g ∧ RL K H q rows ∧ RowsOk rows ∧ (∀ r ∈ rows, Wx r.1) ∧ 1 ≤ most ∧ most ≤ 2000 ∧
  ∀ l p H', 1 ≤ l.length → l.length ≤ most → Dr g H H' → Rw K H' p l → Q (.ref p) H'
abbrev N_plantL : List Str := ["_law_bag_here", "_law_rows_here", "_law_most", "_law_with_holes", "_law_menu", "_law_least", "_law_plant_here", "_law_need", "_law_k", "_law_room", "_law_let", "_law_wide", "_law_chosen", "_law_row"]
theorem sc_plantL : FnScope N_plantL ["_law_bag_here", "_law_rows_here", "_law_most", "_law_with_holes"] (defScope (top 65)) := ⟨rfl, rfl, rfl, by decide +kernel, rfl, by decide +kernel, by decide +kernel⟩
def sBody : Stmt → List Stmt
  | .For _ _ b _ _ => b
  | .If _ b _ _ => b
  | .While _ b _ _ => b
  | _ => []
theorem k_plantL (T : Txt K mg) (F : DF K mg "_law_plant" 65) (c_law_draw : Cal P w K mg base 1 "_law_draw" ["_law_bag_here", "_law_size"] spDraw) : Cal P w K mg base 2 "_law_plant" ["_law_bag_here", "_law_rows_here", "_law_most", "_law_with_holes"] (spPlantL K) := by
  refine cal_of F.1 F.2 sc_plantL (fun _ _ _ _ _ _ us e => match us, e with | [_, _, _, _], _ => rfl) (fun vs H Q E s => by obtain ⟨_, _, _, _, _, rfl, _⟩ := s; rfl) ?_
  intro cdv A outer s H vs Q E hr h
  obtain ⟨g, q, most, wh, rows, rfl, hg, hqg, hRL, ok, hwx, hm1, hm2, hq⟩ := h
  have sc := sc_plantL
  -- a knot is drawn out of the list in slot 10
  have last : ∃ t, PSs (cxOf (L2.CX P w) P w K mg base N_plantL "_law_plant" (defScope (top 65)) (He.ga K "_law_plant") cdv A outer s H E) ((sBody ((sBody ((defBody (top 65)).getD 5 (.Pass ⟨0, 0, 0, 0⟩))).getD 0 (.Pass ⟨0, 0, 0, 0⟩))).drop 4) t ∧
      ∀ (D : Ends) (PL E : Addr) (cs : List (Addr × Sy.Row)) (B H1 : Hp) (lb : List Int) (pl : List Str) (need : Int) (t4 t5 t8 t9 t11 t12 : Option V), BagOk lb → 0 < cs.length → cs.length ≤ 9 → B E = some (.lst (cs.map fun z => V.ref z.1)) → (∀ z ∈ cs, SqT K B z.1 [.str z.2.1, .int (z.2.2 : Nat)]) →
        Hs B [(g, .lst (lb.map V.int)), (PL, .lst (pl.map V.str))] H1 → pl.length ≤ 2000 →
        (∀ z ∈ cs, ∀ (B' H' : Hp) (lb' : List Int), BagOk lb' → Same B B' → Hs B' [(g, .lst (lb'.map V.int)), (PL, .lst ((pl ++ [z.2.1]).map V.str))] H' →
          D.nx [some (.ref g), some (.ref q), some (.int (most : Nat)), some (.bl wh), t4, t5, some (.ref PL), some (.int (need + (z.2.2 : Nat) - 1)), t8, t9, some (.ref E), t11, some (.ref z.1), none] H') →
        t D [some (.ref g), some (.ref q), some (.int (most : Nat)), some (.bl wh), t4, t5, some (.ref PL), some (.int need), t8, t9, some (.ref E), t11, t12, none] H1 := by
    refine ⟨_, (pss_cons (ps_set (i := 12) sc.nd rfl (Or.inl rfl) (pe_ix ix_list (pv 10) (pe_cal c_law_draw hr (pa_cons (pv 0) (pa_cons (pe_callB call_len_seq (by rfl) T.len (by decide +kernel) (pa_cons (pv 10) pa_nil)) pa_nil))) (fun _ _ => rfl)))
          (pss_cons (ps_expr (pe_bm PySem.F.plainAttrs_list PySem.F.slot_list_append PySem.F.type_list_append mt_append (pv 6) (pa_cons (pe_ix ix_tup (pv 12) pe_int (fun _ _ => rfl)) pa_nil)))
          (pss_one (ps_set (i := 7) sc.nd rfl (Or.inl rfl) (pe_op op_sub (pe_op op_add (pv 7) (pe_ix ix_tup (pv 12) pe_int (fun _ _ => rfl))) pe_int))))), ?_⟩
    intro D PL E cs B H1 lb pl need t4 t5 t8 t9 t11 t12 hlb hc0 hc8 hE hz hh hpl hnx
    refine ⟨_, rfl, _, rfl, _, rfl, E, _, rfl, .inl (SqL.of (hh.sub _ _ hE)), g, cs.length, by rw [List.length_map], hh.bag hlb, hc0, by omega, fun j H2 hj d2 => ?_⟩
    obtain ⟨l2, B2, hl2, s2, h2, _⟩ := hh.dr0 d2
    obtain ⟨z, ez⟩ : ∃ z, cs[j]? = some z := ⟨_, List.getElem?_eq_getElem hj⟩
    have hm := List.mem_of_getElem? ez
    have tz := Same.sqt (s2.trans h2.sub) (hz z hm)
    refine ⟨E, _, _, _, rfl, rfl, SqL.of (h2.sub _ _ (s2 _ _ hE)), atI_nat (by rw [List.getElem?_map, ez]; rfl), ?_⟩
    refine ⟨_, rfl, .inl ⟨rfl, _, SqL.of h2.r1⟩, _, rfl, z.1, _, _, _, rfl, rfl, tz, atI_nat (j := 0) rfl, PL, _, _, rfl, rfl, h2.r1, by rw [List.length_map, sizeLine_eq]; omega, ?_⟩
    have h3 := h2.w1 (o' := .lst (pl.map V.str ++ [.str z.2.1]))
    have tz3 := Same.sqt (s2.trans h3.sub) (hz z hm)
    refine ⟨_, rfl, _, rfl, z.1, _, _, _, rfl, rfl, tz3, atI_nat (j := 1) rfl, _, _, rfl, rfl, _, _, rfl, rfl, hnx z hm B2 _ l2 hl2 s2 ?_⟩
    rw [List.map_append]
    exact h3
  obtain ⟨tL, pL, hLast⟩ := last
  have rest : ∃ t, PSs (cxOf (L2.CX P w) P w K mg base N_plantL "_law_plant" (defScope (top 65)) (He.ga K "_law_plant") cdv A outer s H E) ((defBody (top 65)).drop 2) t ∧
      ∀ (M : Addr) (pr : List (Addr × Sy.Row)) (B1 H1 : Hp) (l0 : List Int), BagOk l0 → Same (L2.del H g) B1 → Hs B1 [(g, .lst (l0.map V.int))] H1 → B1 M = some (.lst (pr.map fun z => V.ref z.1)) → (∀ z ∈ pr, SqT K B1 z.1 [.str z.2.1, .int (z.2.2 : Nat)]) → (∀ z ∈ pr, Wx z.2.1) → (∃ z ∈ pr, z.2.2 = 0) → pr.length ≤ 9 →
        t { nx := fun _ H' => Q .non H', rt := Q } [some (.ref g), some (.ref q), some (.int (most : Nat)), some (.bl wh), some (.ref M), none, none, none, none, none, none, none, none, none] H1 := by
    refine ⟨_, (pss_cons (ps_set (i := 5) sc.nd rfl (Or.inl rfl) (pe_cal c_law_draw hr (pa_cons (pv 0) (pa_cons (pe_op op_add (pv 2) pe_int) pa_nil))))
      (pss_cons (ps_set (i := 6) sc.nd rfl (Or.inl rfl) (pe_lst pa_nil))
      (pss_cons (ps_set (i := 7) sc.nd rfl (Or.inl rfl) pe_int)
      (pss_cons (ps_for (passes_of rfl) rfl (pi_range1 rfl T.range (pa_cons (pv 2) pa_nil)) (pg_name (i := 8) sc.nd rfl (Or.inl rfl))
        (pss_one (ps_if (pt_cmpR op_gt (pv 7) pe_int (nomark _))
          (pss_cons (ps_set (i := 9) sc.nd rfl (Or.inr rfl) (pe_op op_sub (pe_op op_sub (pv 2) (pe_callB call_len_seq (by rfl) T.len (by decide +kernel) (pa_cons (pv 6) pa_nil))) (pv 7)))
          (pss_cons (ps_setLc (i := 10) (own := [("_law_row", 13)]) (g := gName 13) (tt := tTest (tOp (rI0 fun i j => V.bl (decide (i ≤ j))) (tOp (rIxT K) (tVar 13) (tC (.int 1))) (tVar 9))) rfl sc.nd rfl rfl (sw_true rfl rfl rfl (by decide +kernel)) (pi_list (pv 4)) (blkOk_by (N := N_plantL) (sc := defScope (top 65)) (by decide +kernel)) (fun _ _ _ _ _ => (pg_name (i := 13) sc.nd rfl (Or.inl rfl))) (fun _ _ _ _ _ => (pts_one (pt_cmpR op_le (pe_ix ix_tup (pv 13) pe_int (fun _ _ => rfl)) (pv 9) (nomark _)))) (fun _ _ _ _ _ => (pv 13)))
          (pss_cons (ps_setLc (i := 11) (own := [("_law_row", 13)]) (g := gName 13) (tt := tTest (tOp (rI0 fun i j => V.bl (decide (j < i))) (tOp (rIxT K) (tVar 13) (tC (.int 1))) (tC (.int 0)))) rfl sc.nd rfl rfl (sw_true rfl rfl rfl (by decide +kernel)) (pi_list (pv 10)) (blkOk_by (N := N_plantL) (sc := defScope (top 65)) (by decide +kernel)) (fun _ _ _ _ _ => (pg_name (i := 13) sc.nd rfl (Or.inl rfl))) (fun _ _ _ _ _ => (pts_one (pt_cmpR op_gt (pe_ix ix_tup (pv 13) pe_int (fun _ _ => rfl)) pe_int (nomark _)))) (fun _ _ _ _ _ => (pv 13)))
          (pss_cons (ps_if (PW.pt (pw_and (pt_truth (pv 11) (by intro _; rfl)) (pw_and (pt_cmpR op_eq (pv 7) pe_int (nomark _)) (pw_and1 (pt_cmpR op_lt (pe_op op_add (pe_callB call_len_seq (by rfl) T.len (by decide +kernel) (pa_cons (pv 6) pa_nil)) pe_int) (pv 5) (nomark _))))))
            (pss_one (ps_set (i := 10) sc.nd rfl (Or.inl rfl) (pv 11)))
            pss_nil)
          pL))))
          pss_nil)))
      (pss_one (ps_ret (pe_callTy call_tupZ (by rfl) T.tuple (by decide +kernel) (pa_cons (pv 6) pa_nil)))))))), ?_⟩
    intro M pr B1 H1 l0 hl0 sB1 hB1 hMB zs zw zleaf zlen
    refine ⟨_, rfl, _, rfl, _, _, rfl, rfl, g, most + 1, rfl, hB1.bag hl0, by omega, by omega, fun least H2 hle d2 => ?_⟩
    obtain ⟨l2, B2, hl2, s2, h2, _⟩ := hB1.dr0 d2
    refine ⟨by decide, fun PL hPL => ?_⟩
    have h3 := (h2.new (o := .lst []) hPL).swap
    have sB2 := sB1.trans s2
    refine ⟨_, rfl, _, rfl, by omega, by omega, for_rng (n := most)
      (fun i σ H' => ∃ (need : Nat) (z7 : Int) (t8 t9 t10 t11 t12 : Option V) (B : Hp) (lb : List Int) (pl : List Str), σ = [some (.ref g), some (.ref q), some (.int (most : Nat)), some (.bl wh), some (.ref M), some (.int (least : Nat)), some (.ref PL), some (.int z7), t8, t9, t10, t11, t12, none] ∧ z7 = (need : Nat) ∧ BagOk lb ∧ Same B2 B ∧ Hs B [(g, .lst (lb.map V.int)), (PL, .lst (pl.map V.str))] H' ∧
        pl.length + need ≤ most ∧ (need = 0 ∨ pl.length = i) ∧ 0 < pl.length + need ∧ (∀ x ∈ pl, Wx x))
      ⟨1, 1, none, none, none, none, none, B2, l2, [], rfl, rfl, hl2, Same.refl _, h3, by show 0 + 1 ≤ most; omega, .inr rfl, by show 0 < 0 + 1; decide, fun _ z => (nomatch z)⟩ ?_ ?_⟩
    · rintro i σ H3 hi ⟨need, _, t8, t9, t10, t11, t12, B, lb, pl, rfl, rfl, hlb, sB, hh, hroom, hdone, hps0, hkn⟩
      refine ⟨_, rfl, _, _, rfl, rfl, _, rfl, if_dec (fun c => ?_) (fun c => ?_)⟩
      · obtain ⟨n, rfl⟩ : ∃ n, need = n + 1 := ⟨need - 1, by omega⟩
        have hpi : pl.length = i := by omega
        obtain ⟨room, hroomE⟩ : ∃ room : Int, room = (most : Int) - ((pl.map V.str).length : Nat) - ((n + 1 : Nat) : Int) := ⟨_, rfl⟩
        have hroom2 : (pl.length : Int) + (n + 1) + room = most := by
          rw [List.length_map] at hroomE
          omega
        have sB3 := s2.trans sB
        have tz : ∀ z ∈ pr, ∀ H', Same B H' → SqT K H' z.1 [.str z.2.1, .int (z.2.2 : Nat)] := fun z hz H' s' => Same.sqt (sB3.trans s') (zs z hz)
        refine ⟨_, rfl, _, rfl, PL, _, rfl, .inl (SqL.of hh.r1), _, _, rfl, rfl, _, rfl, _, _, rfl, rfl, ?_⟩
        refine ⟨_, rfl, M, rfl, ⟨_, SqL.of (hh.sub _ _ (sB _ _ (s2 _ _ hMB)))⟩, fun D1 hD1 => lc_filt (si := 13) (f := fun z : Addr × Sy.Row => V.ref z.1) (out := fun z => V.ref z.1) (keep := fun z => decide ((z.2.2 : Int) ≤ room)) hh hD1 (sB _ _ (s2 _ _ hMB)) (by omega) ?_ ?_⟩
        · intro z hz H' s' R1 R2 k1 k2
          refine ⟨_, rfl, z.1, _, _, _, rfl, rfl, tz z hz H' s', atI_nat (j := 1) rfl, _, rfl, _, _, rfl, rfl, _, rfl, if_dec (fun c => ?_) (fun c => ?_)⟩
          · exact ⟨_, rfl, k1 (decide_eq_true (by omega))⟩
          · exact k2 (decide_eq_false (by omega))
        intro H4 h4
        obtain ⟨s5, h5⟩ := h4.give
        have e5 : (upd B D1 (.lst ((pr.filter fun z => decide ((z.2.2 : Int) ≤ room)).map fun z => V.ref z.1))) D1 = some (.lst ((pr.filter fun z => decide ((z.2.2 : Int) ≤ room)).map fun z => V.ref z.1)) := upd_same
        generalize upd B D1 (.lst ((pr.filter fun z => decide ((z.2.2 : Int) ≤ room)).map fun z => V.ref z.1)) = B5 at *
        generalize hlet : (pr.filter fun z => decide ((z.2.2 : Int) ≤ room)) = lt at *
        have ltm : ∀ z ∈ lt, z ∈ pr ∧ (z.2.2 : Int) ≤ room := fun z hz => by
          rw [← hlet] at hz
          have := List.mem_filter.mp hz
          exact ⟨this.1, of_decide_eq_true this.2⟩
        have ltpos : 0 < lt.length := by
          obtain ⟨z, hz, e⟩ := zleaf
          rw [← hlet]
          exact List.length_pos_of_mem (List.mem_filter.mpr ⟨hz, decide_eq_true (by omega)⟩)
        have ltlen : lt.length ≤ 9 := by
          rw [← hlet]
          have := List.length_filter_le (fun z : Addr × Sy.Row => decide ((z.2.2 : Int) ≤ room)) pr
          omega
        have sB5 := sB3.trans s5
        have tz5 : ∀ z ∈ pr, ∀ H', Same B5 H' → SqT K H' z.1 [.str z.2.1, .int (z.2.2 : Nat)] := fun z hz H' s' => Same.sqt (sB5.trans s') (zs z hz)
        refine ⟨_, rfl, D1, rfl, ⟨_, SqL.of (h5.sub _ _ e5)⟩, fun D2 hD2 => lc_filt (si := 13) (f := fun z : Addr × Sy.Row => V.ref z.1) (out := fun z => V.ref z.1) (keep := fun z => decide (0 < z.2.2)) h5 hD2 e5 (by omega) ?_ ?_⟩
        · intro z hz H' s' R1 R2 k1 k2
          refine ⟨_, rfl, z.1, _, _, _, rfl, rfl, tz5 z (ltm z hz).1 H' s', atI_nat (j := 1) rfl, _, _, rfl, rfl, _, rfl, if_dec (fun c => ?_) (fun c => ?_)⟩
          · exact ⟨_, rfl, k1 (decide_eq_true (by omega))⟩
          · exact k2 (decide_eq_false (by omega))
        intro H6 h6
        obtain ⟨s7, h7⟩ := h6.give
        have e7 : (upd B5 D2 (.lst ((lt.filter fun z => decide (0 < z.2.2)).map fun z => V.ref z.1))) D2 = some (.lst ((lt.filter fun z => decide (0 < z.2.2)).map fun z => V.ref z.1)) := upd_same
        generalize upd B5 D2 (.lst ((lt.filter fun z => decide (0 < z.2.2)).map fun z => V.ref z.1)) = B7 at *
        generalize hwide : (lt.filter fun z => decide (0 < z.2.2)) = wd at *
        have wdm : ∀ z ∈ wd, z ∈ lt := fun z hz => by
          rw [← hwide] at hz
          exact (List.mem_filter.mp hz).1
        have wdlen : wd.length ≤ 9 := by
          rw [← hwide]
          have := List.length_filter_le (fun z : Addr × Sy.Row => decide (0 < z.2.2)) lt
          omega
        have wz : ∀ z ∈ wd, SqT K B7 z.1 [.str z.2.1, .int (z.2.2 : Nat)] := fun z hz => Same.sqt (sB5.trans s7) (zs z (ltm z (wdm z hz)).1)
        have lz : ∀ z ∈ lt, SqT K B7 z.1 [.str z.2.1, .int (z.2.2 : Nat)] := fun z hz => Same.sqt (sB5.trans s7) (zs z (ltm z hz).1)
        have sB7 : Same B2 B7 := (sB.trans s5).trans s7
        have go : ∀ z ∈ lt, ∀ (B' H' : Hp) (lb' : List Int) (x8 x9 x10 x11 x12 : Option V), BagOk lb' → Same B7 B' → Hs B' [(g, .lst (lb'.map V.int)), (PL, .lst ((pl ++ [z.2.1]).map V.str))] H' →
            ∃ (need : Nat) (z7 : Int) (t8 t9 t10 t11 t12 : Option V) (B : Hp) (lb : List Int) (pl' : List Str), [some (.ref g), some (.ref q), some (.int (most : Nat)), some (.bl wh), some (.ref M), some (.int (least : Nat)), some (.ref PL), some (.int (((n + 1 : Nat) : Int) + (z.2.2 : Nat) - 1)), x8, x9, x10, x11, x12, none] = [some (.ref g), some (.ref q), some (.int (most : Nat)), some (.bl wh), some (.ref M), some (.int (least : Nat)), some (.ref PL), some (.int z7), t8, t9, t10, t11, t12, none] ∧ z7 = (need : Nat) ∧ BagOk lb ∧ Same B2 B ∧ Hs B [(g, .lst (lb.map V.int)), (PL, .lst (pl'.map V.str))] H' ∧
              pl'.length + need ≤ most ∧ (need = 0 ∨ pl'.length = i + 1) ∧ 0 < pl'.length + need ∧ (∀ x ∈ pl', Wx x) := by
          intro z hz B' H' lb' x8 x9 x10 x11 x12 hlb' s' h'
          have hm := ltm z hz
          have hr2 := hm.2
          refine ⟨n + z.2.2, _, _, _, _, _, _, B', lb', pl ++ [z.2.1], rfl, by omega, hlb', sB7.trans s', h', ?_, .inr ?_, ?_, fun x hx => ?_⟩
          · rw [List.length_append]
            show pl.length + 1 + _ ≤ _
            omega
          · rw [List.length_append, hpi]
            rfl
          · rw [List.length_append]
            show 0 < pl.length + 1 + _
            omega
          · rcases List.mem_append.mp hx with hx | hx
            · exact hkn x hx
            · rw [List.mem_singleton.mp hx]
              exact zw z hm.1
        have byLet : ∀ D : Ends, (∀ z ∈ lt, ∀ (B' H' : Hp) (lb' : List Int), BagOk lb' → Same B7 B' → Hs B' [(g, .lst (lb'.map V.int)), (PL, .lst ((pl ++ [z.2.1]).map V.str))] H' → ∀ x10 x12, D.nx [some (.ref g), some (.ref q), some (.int (most : Nat)), some (.bl wh), some (.ref M), some (.int (least : Nat)), some (.ref PL), some (.int (((n + 1 : Nat) : Int) + (z.2.2 : Nat) - 1)), some (.int (i : Nat)), some (.int ((most : Int) - ((pl.map V.str).length : Nat) - ((n + 1 : Nat) : Int))), x10, some (.ref D2), x12, none] H') →
            tL D [some (.ref g), some (.ref q), some (.int (most : Nat)), some (.bl wh), some (.ref M), some (.int (least : Nat)), some (.ref PL), some (.int ((n + 1 : Nat) : Int)), some (.int (i : Nat)), some (.int ((most : Int) - ((pl.map V.str).length : Nat) - ((n + 1 : Nat) : Int))), some (.ref D1), some (.ref D2), t12, none] H6 := fun D k =>
          hLast D PL D1 lt B7 H6 lb pl _ _ _ _ _ _ _ hlb ltpos ltlen (s7 _ _ e5) lz h7 (by omega) fun z hz B' H' lb' a b c => k z hz B' H' lb' a b c _ _
        refine ⟨_, rfl, _, .inl ⟨_, SqL.of (h7.sub _ _ e7), rfl⟩, if_bool (fun c1 => ?_) (fun c1 => ?_)⟩
        · have wpos : 0 < wd.length := by
            cases wd with
            | nil => simp at c1
            | cons a b => simp
          refine ⟨_, rfl, rfl, _, rfl, if_dec (fun c2 => ?_) (fun c2 => ?_)⟩
          · refine ⟨_, rfl, PL, _, rfl, .inl (SqL.of h7.r1), _, _, rfl, rfl, _, rfl, _, _, rfl, rfl, _, rfl, if_dec (fun c3 => ?_) (fun c3 => ?_)⟩
            · refine ⟨_, rfl, hLast _ PL D2 wd B7 H6 lb pl _ _ _ _ _ _ _ hlb wpos wdlen e7 wz h7 (by omega) fun z hz B' H' lb' a b c => go z (wdm z hz) B' H' lb' _ _ _ _ _ a b c⟩
            · exact byLet _ fun z hz B' H' lb' a b c _ _ => go z hz B' H' lb' _ _ _ _ _ a b c
          · exact byLet _ fun z hz B' H' lb' a b c _ _ => go z hz B' H' lb' _ _ _ _ _ a b c
        · exact byLet _ fun z hz B' H' lb' a b c _ _ => go z hz B' H' lb' _ _ _ _ _ a b c
      · have : need = 0 := by omega
        exact ⟨need, _, _, _, _, _, _, B, lb, pl, rfl, rfl, hlb, sB, hh, hroom, .inl this, hps0, hkn⟩
    · rintro σ H3 ⟨need, _, t8, t9, t10, t11, t12, B, lb, pl, rfl, rfl, hlb, sB, hh, hroom, hdone, hps0, hkn⟩
      refine ⟨_, rfl, PL, _, rfl, SqL.of hh.r1, fun p H4 hn => hq pl p H4 (by omega) (by omega) ?_ ⟨hn.sqt, hn.nod, hkn⟩⟩
      exact (hh.isDr hlb (by simp) (sB2.trans sB)).same hn.same
  obtain ⟨tR, pR, hR⟩ := rest
  refine ⟨_, (pss_cons (ps_set (i := 4) sc.nd rfl (Or.inl rfl) (pe_callTy call_list_of (by rfl) T.list (by decide +kernel) (pa_cons (pv 1) pa_nil)))
      (pss_cons (ps_if (pt_val (pv 3))
        (pss_one (ps_expr (pe_bm PySem.F.plainAttrs_list PySem.F.slot_list_append PySem.F.type_list_append mt_append (pv 4) (pa_cons (pe_tup (pa_cons pe_str (pa_cons pe_int pa_nil))) pa_nil))))
        pss_nil)
      pR)), ?_⟩
  obtain ⟨ps, hL, hP⟩ := id hRL
  have hpl := paired_len hP
  obtain ⟨l0, hl0, h0⟩ := hg.take
  have hB0 := hRL.del hqg h0.r0
  generalize hB : L2.del H g = B0 at hB0 h0
  have sd0 : Same (L2.del H g) B0 := by rw [hB]; exact Same.refl _
  obtain ⟨ps0, hL0, hP0⟩ := hB0
  have hps : ps0 = ps := by
    have e1 := h0.sub _ _ hL0
    rw [hL] at e1
    have e2 := HO.lst.inj (Option.some.inj e1)
    exact ((List.map_inj_right (fun a b z => V.ref.inj z)).mp e2).symm
  subst hps
  -- pairs of address and row
  generalize hpr : ps0.zip rows = pr at *
  have zf : pr.map (fun z => V.ref z.1) = ps0.map V.ref := by
    have : pr.map (·.1) = ps0 := by rw [← hpr]; exact List.map_fst_zip (by omega)
    rw [← this, List.map_map]
    rfl
  have zr : ∀ z ∈ pr, z.2 ∈ rows := fun z hz => by
    rw [← hpr] at hz
    exact (List.of_mem_zip (a := z.1) (b := z.2) hz).2
  have zs : ∀ z ∈ pr, SqT K B0 z.1 [.str z.2.1, .int (z.2.2 : Nat)] := fun z hz => by
    rw [← hpr] at hz
    obtain ⟨i, hi, e⟩ := List.mem_iff_getElem.mp hz
    rw [List.getElem_zip] at e
    rw [List.length_zip] at hi
    obtain ⟨p2, e2, t⟩ := paired_at hP0 (i := i) (y := rows[i]) (List.getElem?_eq_getElem (by omega))
    rw [List.getElem?_eq_getElem (by omega)] at e2
    have : z.1 = p2 := by rw [← e]; exact Option.some.inj e2
    have e3 : z.2 = rows[i] := by rw [← e]
    rw [this, e3]
    exact t
  have zleaf : ∃ z ∈ pr, z.2.2 = 0 := by
    obtain ⟨r, hr', e⟩ := ok.lf
    obtain ⟨i, hi, ei⟩ := List.mem_iff_getElem.mp hr'
    refine ⟨(ps0[i]'(by omega), rows[i]), ?_, by rw [ei]; exact e⟩
    rw [← hpr]
    exact List.mem_iff_getElem.mpr ⟨i, by rw [List.length_zip]; omega, List.getElem_zip⟩
  have zlen : pr.length ≤ 8 := by rw [← hpr, List.length_zip]; have := ok.le; omega
  have zw : ∀ z ∈ pr, Wx z.2.1 := fun z hz => hwx _ (zr z hz)
  refine ⟨_, rfl, q, _, rfl, .inl (SqL.of hL), fun M hM => ?_⟩
  rw [← zf]
  have h1 := h0.new (o := .lst (pr.map fun z => V.ref z.1)) hM
  refine ⟨_, rfl, _, rfl, if_bool (fun c => ?_) (fun c => ?_)⟩
  · refine ⟨_, rfl, .inl ⟨rfl, _, SqL.of h1.r0⟩, (by show 2 ≤ sizeLine; decide), fun p hp => ?_⟩
    have s2 : Same B0 (upd B0 p (.tup [.str "*", .int 0])) := up_same (h1.sub.free hp)
    have h2 := h1.tup (o := .tup [.str "*", .int 0]) hp
    refine ⟨M, _, _, rfl, rfl, h2.r0, by rw [List.length_map, sizeLine_eq]; omega, ?_⟩
    have em : (pr ++ [(p, (("*" : Str), 0))]).map (fun z : Addr × Sy.Row => V.ref z.1) = pr.map (fun z : Addr × Sy.Row => V.ref z.1) ++ [V.ref p] := List.map_append
    have h3 := (h2.w0 (o' := .lst (pr.map (fun z : Addr × Sy.Row => V.ref z.1) ++ [V.ref p]))).give
    have h4 := h3.2
    refine hR M (pr ++ [(p, (("*" : Str), 0))]) _ _ l0 hl0 (sd0.trans (s2.trans h3.1)) h4 (by rw [em]; exact upd_same) (fun z hz => ?_) (fun z hz => ?_) ?_ ?_
    · have h5 := h3.1
      rcases List.mem_append.mp hz with hz | hz
      · exact Same.sqt (s2.trans h5) (zs z hz)
      · rw [List.mem_singleton.mp hz]
        exact Same.sqt h5 (SqT.of upd_same)
    · rcases List.mem_append.mp hz with hz | hz
      · exact zw z hz
      · rw [List.mem_singleton.mp hz]
        exact Wx.hole
    · exact ⟨(p, (("*" : Str), 0)), by simp, rfl⟩
    · rw [List.length_append]
      show pr.length + 1 ≤ 9
      omega
  · have h2 := h1.give
    exact hR M pr _ _ l0 hl0 (sd0.trans h2.1) h2.2 upd_same (fun z hz => Same.sqt h2.1 (zs z hz)) zw zleaf (by omega)
end
end Sy
/-! slices and repeats of tuples whose dict is known; rows of words -/
namespace Sy
open PySem PySem.Spec PyProof.Rows L2
section
variable {X : Cx}
/-- t[lo:hi]: the whole of it is t itself -/
def rSlZ (K : PySem.W.Frag) : V → Option Int → Option Int → Hp → VK → Prop := fun x lo hi H Q => ∃ a xs, x = .ref a ∧ SqT K H a xs ∧
  (HT.sIx xs.length 0 lo = 0 ∧ HT.sIx xs.length xs.length hi = xs.length → Q (.ref a) H) ∧ (¬ (HT.sIx xs.length 0 lo = 0 ∧ HT.sIx xs.length xs.length hi = xs.length) → ∀ p H', NewT H p (cutV xs lo hi) H' → Q (.ref p) H')
theorem sl_tupZ : SlR X (rSlZ X.K) := by
  intro pins s σ H x v vl vu lo hi sl Q I rx hs pl pu h
  obtain ⟨a, xs, rfl, hx, q1, q2⟩ := h
  by_cases hw : HT.sIx xs.length 0 lo = 0 ∧ HT.sIx xs.length xs.length hi = xs.length
  · exact sl_tupA pins s σ H _ v vl vu lo hi sl Q I rx hs pl pu ⟨a, xs, rfl, hx, q1, fun z => absurd hw z⟩
  cases rx
  obtain ⟨its, r, ht, hz⟩ := I.tuple hx
  have hlen : its.toArray.size = xs.length := by rw [List.size_toArray]; exact r.length.symm
  refine ⟨"tuple", _, PyProof.Rows.slot_tuple_getitem.lookup, ht.typeIs, ?_⟩
  refine HT.getItem_tuple_cut ht hs pl pu (by rw [hlen]; exact hw) ?_ (by rw [hlen]; exact hz)
  rw [hlen]
  have hg : (s.heap.push ({ cls := .type "tuple", data := .seq ((its.toArray.toList.drop (HT.sIx xs.length 0 lo)).take (HT.sIx xs.length xs.length hi - HT.sIx xs.length 0 lo)).toArray } : Obj)).get? s.heap.objs.size = some ({ cls := .type "tuple", data := .seq ((its.toArray.toList.drop (HT.sIx xs.length 0 lo)).take (HT.sIx xs.length xs.length hi - HT.sIx xs.length 0 lo)).toArray } : Obj) := Heap.get?_push_size _ rfl
  refine ⟨.ref s.heap.objs.size, _, I.laid (t' := s.toks) (o := .frz ({ cls := .type "tuple", data := .seq ((its.toArray.toList.drop (HT.sIx xs.length 0 lo)).take (HT.sIx xs.length xs.length hi - HT.sIx xs.length 0 lo)).toArray } : Obj) (.tup (cutV xs lo hi))) (fun b ob q => Heap.get?_push_of_some _ q) (Nat.le_refl _) ?_, rfl, q2 hw _ _ ⟨I.hok.fresh (Nat.le_refl _), _, rfl, rfl⟩⟩
  exact ⟨hg, Nat.le_trans (cutV_length xs lo hi) hz, _, (r.drop (HT.sIx xs.length 0 lo)).take (HT.sIx xs.length xs.length hi - HT.sIx xs.length 0 lo), ⟨_, hg, rfl, _, rfl⟩⟩
/-- t * k, k from 1 -/
def rRepZ (K : PySem.W.Frag) : R2 := fun x y H Q => ∃ (l : Addr) (k : Nat) (xs : List V), x = .ref l ∧ y = .int (k : Nat) ∧ SqT K H l xs ∧ 1 ≤ k ∧ k ≤ 1000000 ∧ xs.length * k ≤ 1000000 ∧ xs ≠ [] ∧ xs.length ≤ 1000000 ∧
  (k = 1 → Q (.ref l) H) ∧ (k ≠ 1 → ∀ p H', NewT H p (List.replicate k xs).flatten H' → Q (.ref p) H')
theorem op_repZ : OpR X (binaryOp .Mult) (rRepZ X.K) := by
  intro pins s σ H x y v u Q I rx ry h
  obtain ⟨l, k, xs, rfl, rfl, hT, h1, h2, hz, hne, hzl, qa, qb⟩ := h
  by_cases hk : k = 1
  · exact op_repG pins s σ H _ _ v u Q I rx ry ⟨l, _, xs, rfl, rfl, hT, by omega, by omega, by rw [show ((k : Nat) : Int).toNat = k by omega]; exact hz, hzl, fun _ => qa hk, fun z => absurd (.inr (by omega)) z⟩
  cases rx
  obtain ⟨t, rfl⟩ := ry
  obtain ⟨its, r, ⟨⟨cls, dd, data, sl⟩, ho, hc, n, hd⟩, hs⟩ := I.tuple hT
  simp only at hc hd
  subst hc hd
  have hle : its.length = xs.length := r.length.symm
  have c0 : (decide ((k : Int) < -(2 ^ 63)) || decide ((k : Int) ≥ 2 ^ 63)) = false := by
    rw [decide_eq_false (by omega), decide_eq_false (by omega)] <;> rfl
  have run : ∀ {Bb : Builtin} {R : Value → Shared → Prop}, Builtin.«tuple.__mul__» = Bb → wpAny (model X.prog X.w) X.A (call (.builtin "tuple.__mul__") [.ref l, .int k t]) R X.xe s → wpAny (model X.prog X.w) X.A (binaryOp .Mult (.ref l) (.int k t)) R X.xe s := fun _ hw =>
    wpAny_binaryOp_repeat_ref (T := "tuple") (U := "int") (by decide) ⟨_, ho, rfl⟩ (fun s' => typeIs_int s' k t) noFill_tuple_mul F.fills_int_mul F.slot_int_rmul repeat_tuple F.slot_int_index.lookup
      (call_meets F.slot_int_rmul (typeIs_int s k t) F.entry_int_rmul (F.args_int_rmul_2 _ _) (int_rmul_tuple k t l its.toArray n dd sl) ⟨ho, rfl, ⟨_, ho, rfl⟩, hw⟩)
  have eE : its.toArray.isEmpty = decide (xs = []) := by
    cases xs with
    | nil => cases r; rfl
    | cons a b => cases r; rfl
  have c1 : (its.toArray.isEmpty || (k : Int) == 1) = false := by
    rw [eE, decide_eq_false hne, Bool.false_or]
    exact beq_eq_false_iff_ne.mpr fun z => hk (by omega)
  have ek : ((k : Int)).toNat = k := by omega
  have h3 : ((its.toArray.size : Nat) : Int) * (k : Int) ≤ 1000000 := by
    rw [List.size_toArray, hle, ← Int.natCast_mul]
    generalize xs.length * k = m at hz ⊢
    omega
  have flen : (List.replicate k its).flatten.length ≤ 1000000 := by
    rw [PyProof.Rows.lm_len_rep_flat, hle, Nat.mul_comm]
    exact hz
  have sl24 := sizeLine_eq
  refine run rfl (call_meets F.slot_tuple_mul ⟨_, ho, rfl⟩ F.entry_tuple_mul (F.args_tuple_mul_2 _ _) (tuple_mulW l its.toArray n dd sl k t c0 c1 (by rw [decide_eq_false (by omega), Bool.false_or, eE]; exact decide_eq_false hne) (by omega) (by unfold Builtin.Tuple.tupleTooMany; exact decide_eq_false (by omega)) (by rw [size_rep, List.size_toArray, ek]; omega)) ⟨ho, ?_⟩)
  rw [size_rep, ek]
  have hg : (s.heap.push ({ cls := .type "tuple", data := .seq (List.replicate k its).flatten.toArray } : Obj)).get? s.heap.objs.size = some ({ cls := .type "tuple", data := .seq (List.replicate k its).flatten.toArray } : Obj) := Heap.get?_push_size _ rfl
  refine ⟨.ref s.heap.objs.size, _, I.laid (t' := s.toks) (o := .frz ({ cls := .type "tuple", data := .seq (List.replicate k its).flatten.toArray } : Obj) (.tup (List.replicate k xs).flatten)) (fun b ob q => Heap.get?_push_of_some _ q) (Nat.le_refl _) ?_, rfl, qb hk _ _ ⟨I.hok.fresh (Nat.le_refl _), _, rfl, rfl⟩⟩
  exact ⟨hg, by rw [PyProof.Rows.lm_len_rep_flat, Nat.mul_comm]; omega, _, r.rep k, ⟨_, hg, rfl, _, rfl⟩⟩
end
/-! rows of words -/
section
variable {K : PySem.W.Frag} {H H' : Hp} {a b p : Addr} {l m : List Str} {Q : VK} {lo hi : Option Int}
theorem Rw.mono (h : Rw K H p l) (s : Same H H') : Rw K H' p l := ⟨Same.sqt s h.sq, h.nd.mono (Stay.of s), h.wx⟩
theorem NewT.rw (h : NewT H p (l.map V.str) H') (w : ∀ x ∈ l, Wx x) : Rw K H' p l := ⟨h.sqt, h.nod, w⟩
theorem cut_strs (l : List Str) (lo hi : Option Int) : cutV (l.map V.str) lo hi = ((l.drop (HT.sIx l.length 0 lo)).take (HT.sIx l.length l.length hi - HT.sIx l.length 0 lo)).map V.str := by
  unfold cutV
  rw [List.length_map, List.map_take, List.map_drop]
/-- a slice of a row: again a row, no longer than it -/
theorem slZ_rw (h : Rw K H a l) (q : ∀ p H' m, Same H H' → Rw K H' p m → m.length ≤ l.length → Q (.ref p) H') : rSlZ K (.ref a) lo hi H Q := by
  refine ⟨a, _, rfl, h.sq, fun _ => q a H l (Same.refl H) h (Nat.le_refl _), fun _ p H' n => ?_⟩
  rw [cut_strs] at n
  refine q p H' _ n.same (n.rw fun x hx => h.wx x (List.mem_of_mem_drop (List.mem_of_mem_take hx))) ?_
  rw [List.length_take, List.length_drop]
  omega
theorem catZ_rw (h : Rw K H a l) (g : Rw K H b m) (hs : l.length + m.length ≤ 1000000) (q : ∀ p H', Same H H' → Rw K H' p (l ++ m) → Q (.ref p) H') : rCatZ K (.ref a) (.ref b) H Q := by
  refine ⟨a, b, _, _, rfl, rfl, h.sq, g.sq, by rw [List.length_map, List.length_map, sizeLine_eq]; omega, fun c => ?_, fun _ c => ?_, fun _ _ p H' n => ?_⟩
  · rw [List.map_eq_nil_iff] at c
    subst c
    exact q b H (Same.refl H) g
  · rw [List.map_eq_nil_iff] at c
    subst c
    refine q a H (Same.refl H) ?_
    rw [List.append_nil]
    exact h
  · rw [← List.map_append] at n
    exact q p H' n.same (n.rw fun x hx => (List.mem_append.mp hx).elim (h.wx x) (g.wx x))
theorem repZ_rw {k : Nat} (h : Rw K H a l) (hk : 1 ≤ k) (hk2 : k ≤ 3000) (hl : l ≠ []) (hl2 : l.length ≤ 100) (q : ∀ p H' m, Same H H' → Rw K H' p m → m.length = k * l.length → Q (.ref p) H') : rRepZ K (.ref a) (.int (k : Nat)) H Q := by
  have hm := Nat.mul_le_mul hl2 hk2
  refine ⟨a, k, _, rfl, rfl, h.sq, hk, by omega, by rw [List.length_map]; omega, fun z => hl (List.map_eq_nil_iff.mp z), by rw [List.length_map]; omega, fun c => ?_, fun _ p H' n => ?_⟩
  · subst c
    exact q a H l (Same.refl H) h (by omega)
  · rw [show (List.replicate k (l.map V.str)).flatten = ((List.replicate k l).flatten).map V.str by rw [List.map_flatten, List.map_replicate]] at n
    refine q p H' _ n.same (n.rw fun x hx => ?_) ?_
    · obtain ⟨z, hz, hx⟩ := List.mem_flatten.mp hx
      rw [(List.mem_replicate.mp hz).2] at hx
      exact h.wx x hx
    · rw [List.length_flatten, List.map_replicate, List.sum_replicate_nat]
end
end Sy
namespace Sy
open PySem PySem.Spec PyProof.Rows L2
theorem tlA (x y : Str) : (x ++ y).cps.toList = x.cps.toList ++ y.cps.toList := by
  show (x.cps ++ y.cps).toList = _
  simp
theorem Wx.app {x y : Str} (hx : Wd x) (h : y.cps.toList.length ≤ 2) (hc : ∀ c ∈ y.cps.toList, c < 1000) : Wx (x ++ y) := by
  have w := hx.wx
  refine ⟨?_, fun c hm => ?_⟩
  · have := hx.2.1
    rw [tlA, List.length_append]
    omega
  · rw [tlA] at hm
    exact (List.mem_append.mp hm).elim (w.2 c) (hc c)
theorem Wx.pre {x y : Str} (hx : Wd x) (h : y.cps.toList.length ≤ 2) (hc : ∀ c ∈ y.cps.toList, c < 1000) : Wx (y ++ x) := by
  have w := hx.wx
  refine ⟨?_, fun c hm => ?_⟩
  · have := hx.2.1
    rw [tlA, List.length_append]
    omega
  · rw [tlA] at hm
    exact (List.mem_append.mp hm).elim (hc c) (w.2 c)
theorem Wx.cut {x : Str} (hx : Wd x) (lo hi : Option Int) : Wx (cutS x lo hi) := by
  have w := hx.wx
  have e : (cutS x lo hi).cps.toList = (x.cps.toList.drop (HT.sIx x.length 0 lo)).take (HT.sIx x.length x.length hi - HT.sIx x.length 0 lo) := rfl
  refine ⟨?_, fun c hm => ?_⟩
  · rw [e, List.length_take, List.length_drop]
    have := w.1
    omega
  · rw [e] at hm
    exact w.2 c (List.mem_of_mem_drop (List.mem_of_mem_take hm))
theorem Wx.up {x : Str} (hx : Wd x) : Wx (Txt.upper x) := by
  have w := hx.wx
  rw [upper_ascii (x := x) fun c hc => by have := (hx.2.2 c hc).2; omega]
  refine ⟨?_, fun c hm => ?_⟩
  · show (x.cps.map up1).toList.length ≤ 10
    rw [Array.toList_map, List.length_map]
    exact w.1
  · have hm : c ∈ (x.cps.map up1).toList := hm
    rw [Array.toList_map] at hm
    obtain ⟨d, hd, rfl⟩ := List.mem_map.mp hm
    have := w.2 d hd
    unfold up1
    split <;> omega
section
variable {P : Program} {w : World} {K : PySem.W.Frag} {mg : Str → Option Value} {base : Heap}
/-- what the law's parts share: the bag, the rows -/
structure Lw (K : PySem.W.Frag) (H : Hp) (g q : Addr) (rows : List Sy.Row) : Prop where
  bag : Bag g H
  ne : q ≠ g
  rl : RL K H q rows
  ok : RowsOk rows
  wd : ∀ r ∈ rows, Wd r.1
  pos : 0 < rows.length
theorem RL.dr {H H' : Hp} {g q : Addr} {rows : List Sy.Row} (h : RL K H q rows) (ne : q ≠ g) (hg : Bag g H) (d : Dr g H H') : RL K H' q rows := by
  obtain ⟨l, _, c⟩ := d
  obtain ⟨l0, _, hg⟩ := hg
  obtain ⟨ps, h1, h2⟩ := h
  have s : Stay H H' := c.stay hg
  exact ⟨ps, c.2 _ _ ne h1, Paired.mapP h2 fun _ _ z => s.sqt z⟩
theorem Lw.dr {H H' : Hp} {g q : Addr} {rows : List Sy.Row} (h : Lw K H g q rows) (d : Dr g H H') : Lw K H' g q rows := ⟨d.bag, h.ne, h.rl.dr h.ne h.bag d, h.ok, h.wd, h.pos⟩
theorem Lw.same {H H' : Hp} {g q : Addr} {rows : List Sy.Row} (h : Lw K H g q rows) (s : Same H H') : Lw K H' g q rows := by
  obtain ⟨⟨l, hl, hg⟩, b, c, d, e, f⟩ := h
  exact ⟨⟨l, hl, s _ _ hg⟩, b, c.mono s, d, e, f⟩
theorem Dr.stay {g : Addr} {H H' : Hp} (d : Dr g H H') (hg : Bag g H) : Stay H H' := by
  obtain ⟨l, _, c⟩ := d
  obtain ⟨l0, _, hg⟩ := hg
  exact c.stay hg
theorem Rw.dr {p : Addr} {H H' : Hp} {l : List Str} (h : Rw K H p l) (s : Stay H H') : Rw K H' p l := ⟨s.sqt h.sq, h.nd.mono s, h.wx⟩
theorem Same.dr {g : Addr} {H H1 H2 : Hp} (s : Same H H1) (d : Dr g H1 H2) : Dr g H H2 := by
  obtain ⟨l, hl, c⟩ := d
  exact ⟨l, hl, c.1, fun a w n e => c.2 a w n (s _ _ e)⟩
/-! _law_entry -/
def spEntry (K : PySem.W.Frag) : Sp := fun vs H Q _ => ∃ (g q : Addr) (rows : List Sy.Row), vs = [.ref g, .ref q] ∧ Lw K H g q rows ∧ ∀ x H', Wx x → Dr g H H' → Q (.str x) H'
abbrev N_entry : List Str := ["_law_bag_here", "_law_rows_here", "_law_word_here", "_law_odd"]
theorem sc_entry : FnScope N_entry ["_law_bag_here", "_law_rows_here"] (defScope (top 66)) := ⟨rfl, rfl, rfl, by decide +kernel, rfl, by decide +kernel, by decide +kernel⟩
theorem seven7 {a0 a1 a2 a3 a4 a5 a6 : Str} (R : Str → Prop) (h0 : R a0) (h1 : R a1) (h2 : R a2) (h3 : R a3) (h4 : R a4) (h5 : R a5) (h6 : R a6) (j : Nat) (h : j < 7) : ∃ x, ([.str a0, .str a1, .str a2, .str a3, .str a4, .str a5, .str a6] : List V)[j]? = some (.str x) ∧ R x := by
  match j, h with
  | 0, _ => exact ⟨_, rfl, h0⟩
  | 1, _ => exact ⟨_, rfl, h1⟩
  | 2, _ => exact ⟨_, rfl, h2⟩
  | 3, _ => exact ⟨_, rfl, h3⟩
  | 4, _ => exact ⟨_, rfl, h4⟩
  | 5, _ => exact ⟨_, rfl, h5⟩
  | 6, _ => exact ⟨_, rfl, h6⟩
theorem k_entry (T : Txt K mg) (F : DF K mg "_law_entry" 66) (c_law_draw : Cal P w K mg base 1 "_law_draw" ["_law_bag_here", "_law_size"] spDraw) : Cal P w K mg base 2 "_law_entry" ["_law_bag_here", "_law_rows_here"] (spEntry K) := by
  refine cal_of F.1 F.2 sc_entry (fun _ _ _ _ _ _ us e => match us, e with | [_, _], _ => rfl) (fun vs H Q E s => by obtain ⟨_, _, _, rfl, _⟩ := s; rfl) ?_
  intro cdv A outer s H vs Q E hr h
  obtain ⟨g, q, rows, rfl, hl, hq⟩ := h
  have sc := sc_entry
  refine ⟨_, (pss_cons (ps_set (i := 2) sc.nd rfl (Or.inl rfl) (pe_ix ix_tup (pe_ix ix_list (pv 1) (pe_cal c_law_draw hr (pa_cons (pv 0) (pa_cons (pe_callB call_len_seq (by rfl) T.len (by decide +kernel) (pa_cons (pv 1) pa_nil)) pa_nil))) (fun _ _ => rfl)) pe_int (fun _ _ => rfl)))
      (pss_cons (ps_set (i := 3) sc.nd rfl (Or.inl rfl) (pe_cal c_law_draw hr (pa_cons (pv 0) (pa_cons pe_int pa_nil))))
      (pss_cons (ps_if (pt_cmpR op_lt (pv 3) pe_int (nomark _))
        (pss_one (ps_ret pe_str))
        pss_nil)
      (pss_cons (ps_if (pt_cmpR op_lt (pv 3) pe_int (nomark _))
        (pss_one (ps_ret (pe_ix ix_list (pe_lst (pa_cons pe_str (pa_cons (pe_op op_add_str (pv 2) pe_str) (pa_cons (pe_slice sl_str (pv 2) (po_some pe_int) po_none) (pa_cons (pe_upper (pv 2)) (pa_cons (pe_op op_add_str pe_str (pv 2)) (pa_cons (pe_op op_add_str (pv 2) pe_str) (pa_cons pe_str pa_nil)))))))) (pe_op op_sub (pv 3) pe_int) (fun _ _ => rfl))))
        pss_nil)
      (pss_one (ps_ret (pv 2))))))), ?_⟩
  obtain ⟨ps, hL, hP⟩ := id hl.rl
  have hpl := paired_len hP
  have hle := hl.ok.le
  have hpos := hl.pos
  refine ⟨_, rfl, _, rfl, _, rfl, q, _, rfl, .inl (SqL.of hL), g, rows.length, by rw [List.length_map, hpl], hl.bag, hpos, by omega, fun j H1 hj d1 => ?_⟩
  have hl1 := hl.dr d1
  have st1 := d1.stay hl.bag
  obtain ⟨r, er⟩ : ∃ r, rows[j]? = some r := ⟨_, List.getElem?_eq_getElem hj⟩
  obtain ⟨p, ep, tp⟩ := paired_at hP er
  have hL1 : H1 q = some (.lst (ps.map V.ref)) := by
    obtain ⟨_, _, c⟩ := d1
    exact c.2 _ _ hl.ne hL
  have hwd := hl.wd r (List.mem_of_getElem? er)
  refine ⟨q, _, _, _, rfl, rfl, SqL.of hL1, atI_nat (by rw [List.getElem?_map, ep]; rfl), p, _, _, _, rfl, rfl, st1.sqt tp, atI_nat (j := 0) rfl, ?_⟩
  refine ⟨_, rfl, g, 16, rfl, hl1.bag, by decide, by decide, fun odd H2 ho d2 => ?_⟩
  have d12 := d1.trans d2
  have hlen : r.1.length ≤ 8 := by rw [len_tl]; exact hwd.2.1
  refine ⟨_, rfl, _, _, rfl, rfl, _, rfl, if_dec (fun c => ?_) (fun c => ?_)⟩
  · exact hq _ _ Wx.hole d12
  refine ⟨_, rfl, _, _, rfl, rfl, _, rfl, if_dec (fun c2 => ?_) (fun c2 => ?_)⟩
  · have e1 : ("s" : Str).length = 1 := by decide +kernel
    have e2 : ("/0" : Str).length = 2 := by decide +kernel
    have e3 : (" " : Str).length = 1 := by decide +kernel
    refine ⟨_, rfl, _, _, rfl, rfl, by rw [e1, sizeLine_eq]; omega, _, rfl, _, rfl, ?_⟩
    dsimp only [tNoPart]
    refine ⟨_, rfl, by rw [sizeLine_eq]; omega, _, rfl, ⟨_, rfl⟩, _, rfl, rfl, by omega, _, rfl, _, _, rfl, rfl, by rw [e3, sizeLine_eq]; omega, _, rfl, _, _, rfl, rfl, by rw [e2, sizeLine_eq]; omega, (by show 7 ≤ sizeLine; decide), fun D hD => ?_⟩
    obtain ⟨k, hk, hk7⟩ : ∃ k : Nat, (odd : Int) - 3 = (k : Nat) ∧ k < 7 := ⟨odd - 3, by omega, by omega⟩
    obtain ⟨x, ex, hx⟩ := seven7 (a0 := Str.empty) (a1 := r.1 ++ "s") (a2 := cutS r.1 (some 1) none) (a3 := Txt.upper r.1) (a4 := " " ++ r.1) (a5 := r.1 ++ "/0") (a6 := "**") Wx
      ⟨by decide, fun c h => (nomatch h)⟩ (Wx.app hwd (by decide +kernel) (by decide +kernel)) (Wx.cut hwd _ _) (Wx.up hwd) (Wx.pre hwd (by decide +kernel) (by decide +kernel)) (Wx.app hwd (by decide +kernel) (by decide +kernel)) ⟨by decide +kernel, by decide +kernel⟩ k hk7
    refine ⟨_, rfl, _, _, rfl, rfl, D, _, _, _, rfl, rfl, SqL.of upd_same, by rw [hk]; exact atI_nat ex, hq x _ hx (d12.same (up_same hD))⟩
  · exact ⟨_, rfl, hq _ _ hwd.wx d12⟩
end
end Sy
namespace Sy
open PySem PySem.Spec PyProof.Rows L2
/-- the kinds with n branches -/
def kindsN (rows : List Sy.Row) (n : Nat) : List Str := (rows.filter fun r => decide (r.2 = n)).map (·.1)
theorem kindsN_mem {rows : List Sy.Row} {n : Nat} {x : Str} (h : x ∈ kindsN rows n) : ∃ r ∈ rows, r.1 = x := by
  obtain ⟨r, hr, rfl⟩ := List.mem_map.mp h
  exact ⟨r, (List.mem_filter.mp hr).1, rfl⟩
theorem kindsN_le (rows : List Sy.Row) (n : Nat) : (kindsN rows n).length ≤ rows.length := by
  unfold kindsN
  rw [List.length_map]
  exact List.length_filter_le _ _
def sElse : Stmt → List Stmt
  | .If _ _ b _ => b
  | _ => []
/-- a list of words at D -/
structure LS (H : Hp) (g D : Addr) (ws : List Str) : Prop where
  ne : D ≠ g
  at_ : H D = some (.lst (ws.map V.str))
theorem LS.dr {H H' : Hp} {g D : Addr} {ws : List Str} (h : LS H g D ws) (d : Dr g H H') : LS H' g D ws := by
  obtain ⟨_, _, c⟩ := d
  exact ⟨h.ne, c.2 _ _ h.ne h.at_⟩
theorem LS.same {H H' : Hp} {g D : Addr} {ws : List Str} (h : LS H g D ws) (s : Same H H') : LS H' g D ws := ⟨h.ne, s _ _ h.at_⟩
section
variable {P : Program} {w : World} {K : PySem.W.Frag} {mg : Str → Option Value} {base : Heap}
def spLong (K : PySem.W.Frag) : Sp := fun vs H Q _ => ∃ (g q : Addr) (rows : List Sy.Row), vs = [.ref g, .ref q] ∧ Lw K H g q rows ∧ ∀ l p H', l.length ≤ 10000 → Dr g H H' → Rw K H' p l → Q (.ref p) H'
abbrev N_long : List Str := ["_law_bag_here", "_law_rows_here", "_law_row", "_law_ones", "_law_twos", "_law_leaves", "_law_leaf", "_law_many", "_law_shape", "_law_place_here", "_law_word_here"]
theorem sc_long : FnScope N_long ["_law_bag_here", "_law_rows_here"] (defScope (top 67)) := ⟨rfl, rfl, rfl, by decide +kernel, rfl, by decide +kernel, by decide +kernel⟩
theorem five5 (a : Int) (m : Nat) (h : m < 2000) (ha : a = ((m : Nat) : Int)) (j : Nat) (hj : j < 5) : ∃ many : Nat, ([.int 1999, .int 2000, .int 2001, .int 2600, .int (2 + a)] : List V)[j]? = some (.int (many : Nat)) ∧ 2 ≤ many ∧ many ≤ 2600 := by
  subst ha
  match j, hj with
  | 0, _ => exact ⟨1999, rfl, by decide, by decide⟩
  | 1, _ => exact ⟨2000, rfl, by decide, by decide⟩
  | 2, _ => exact ⟨2001, rfl, by decide, by decide⟩
  | 3, _ => exact ⟨2600, rfl, by decide, by decide⟩
  | 4, _ => exact ⟨2 + m, rfl, by omega, by omega⟩
theorem k_long (T : Txt K mg) (F : DF K mg "_law_long" 67) (c_law_draw : Cal P w K mg base 1 "_law_draw" ["_law_bag_here", "_law_size"] spDraw) (c_law_entry : Cal P w K mg base 2 "_law_entry" ["_law_bag_here", "_law_rows_here"] (spEntry K)) : Cal P w K mg base 3 "_law_long" ["_law_bag_here", "_law_rows_here"] (spLong K) := by
  refine cal_of F.1 F.2 sc_long (fun _ _ _ _ _ _ us e => match us, e with | [_, _], _ => rfl) (fun vs H Q E s => by obtain ⟨_, _, _, rfl, _⟩ := s; rfl) ?_
  intro cdv A outer s H vs Q E hr h
  obtain ⟨g, q, rows, rfl, hlw, hq⟩ := h
  have sc := sc_long
  -- with the row in slot 2
  have tail : ∃ t, PSs (cxOf (L2.CX P w) P w K mg base N_long "_law_long" (defScope (top 67)) (He.ga K "_law_long") cdv A outer s H E) ((defBody (top 67)).drop 8) t ∧
      ∀ (l : List Str) (p : Addr) (H1 : Hp) (t3 t4 t5 t6 t8 : Option V) (many : Nat), 2 ≤ many → many ≤ 2600 → l.length ≤ 2601 → Dr g H H1 → Rw K H1 p l →
        t { nx := fun _ H' => Q .non H', rt := Q } [some (.ref g), some (.ref q), some (.ref p), t3, t4, t5, t6, some (.int (many : Nat)), t8, none, none] H1 := by
    refine ⟨_, (pss_cons (ps_set (i := 9) sc.nd rfl (Or.inl rfl) (pe_cal c_law_draw hr (pa_cons (pv 0) (pa_cons (pv 7) pa_nil))))
      (pss_cons (ps_set (i := 10) sc.nd rfl (Or.inl rfl) (pe_cal c_law_entry hr (pa_cons (pv 0) (pa_cons (pv 1) pa_nil))))
      (pss_cons (ps_if (pt_cmpR op_eq (pe_cal c_law_draw hr (pa_cons (pv 0) (pa_cons pe_int pa_nil))) pe_int (nomark _))
        (pss_one (ps_set (i := 2) sc.nd rfl (Or.inl rfl) (pe_op op_catZ (pe_op op_catZ (pe_slice sl_tupZ (pv 2) po_none (po_some (pv 9))) (pe_tupZ (pa_cons (pv 10) pa_nil))) (pe_slice sl_tupZ (pv 2) (po_some (pe_op op_add (pv 9) pe_int)) po_none))))
        pss_nil)
      (pss_one (ps_ret (pv 2)))))), ?_⟩
    intro l p H1 t3 t4 t5 t6 t8 many hm1 hm2 hll d1 hrow
    have lw1 := hlw.dr d1
    refine ⟨_, rfl, _, rfl, g, many, rfl, lw1.bag, by omega, by omega, fun pl H2 hpl d2 => ?_⟩
    have lw2 := lw1.dr d2
    have row2 := hrow.dr (d2.stay lw1.bag)
    refine ⟨_, rfl, _, rfl, g, q, rows, rfl, lw2, fun x H3 hx d3 => ?_⟩
    have lw3 := lw2.dr d3
    have row3 := row2.dr (d3.stay lw2.bag)
    refine ⟨_, rfl, g, 2, rfl, lw3.bag, by decide, by decide, fun r H4 hr4 d4 => ?_⟩
    have row4 := row3.dr (d4.stay lw3.bag)
    have d14 := ((d1.trans d2).trans d3).trans d4
    refine ⟨rfl, _, rfl, if_dec (fun c => ?_) (fun c => ?_)⟩
    · refine ⟨_, rfl, _, rfl, _, rfl, slZ_rw row4 fun p1 H5 m1 s5 r1 hm1' => ?_⟩
      refine ⟨_, rfl, (by show 1 ≤ sizeLine; decide), fun p2 H6 n6 => ?_⟩
      have w6 : Rw K H6 p2 [x] := NewT.rw (l := [x]) n6 fun y hy => by rw [List.mem_singleton.mp hy]; exact hx
      refine catZ_rw (r1.mono n6.same) w6 (by show m1.length + 1 ≤ _; omega) fun p3 H7 s7 r3 => ?_
      refine ⟨_, rfl, _, rfl, _, _, rfl, rfl, _, rfl, ?_⟩
      dsimp only [tNoPart]
      refine slZ_rw (row4.mono ((s5.trans n6.same).trans s7)) fun p4 H8 m4 s8 r4 hm4 => ?_
      refine catZ_rw (r3.mono s8) r4 (by rw [List.length_append]; show m1.length + 1 + _ ≤ _; omega) fun p5 H9 s9 r5 => ?_
      refine ⟨_, rfl, hq _ p5 H9 ?_ (d14.same ((((s5.trans n6.same).trans s7).trans s8).trans s9)) r5⟩
      rw [List.length_append, List.length_append]
      show m1.length + 1 + _ ≤ _
      omega
    · exact ⟨_, rfl, hq l p H4 (by omega) d14 row4⟩
  have tA : ∃ t, PSs (cxOf (L2.CX P w) P w K mg base N_long "_law_long" (defScope (top 67)) (He.ga K "_law_long") cdv A outer s H E) (sBody ((defBody (top 67)).getD 7 (.Pass ⟨0, 0, 0, 0⟩))) t ∧
      ∀ (D : Ends) (ws : List Str) (D1 : Addr) (leaf : Str) (many : Nat) (t2 t4 t5 t8 : Option V) (HA : Hp), Bag g HA → LS HA g D1 ws → 0 < ws.length → ws.length ≤ 8 → (∀ x ∈ ws, Wx x) → Wx leaf → 2 ≤ many → many ≤ 2600 →
        (∀ p l H', Dr g HA H' → Rw K H' p l → l.length ≤ 2601 → D.nx [some (.ref g), some (.ref q), some (.ref p), some (.ref D1), t4, t5, some (.str leaf), some (.int (many : Nat)), t8, none, none] H') →
        t D [some (.ref g), some (.ref q), t2, some (.ref D1), t4, t5, some (.str leaf), some (.int (many : Nat)), t8, none, none] HA := by
    refine ⟨_, (pss_one (ps_set (i := 2) sc.nd rfl (Or.inl rfl) (pe_op op_catZ (pe_op op_repZ (pe_tupZ (pa_cons (pe_ix ix_list (pv 3) (pe_cal c_law_draw hr (pa_cons (pv 0) (pa_cons (pe_callB call_len_seq (by rfl) T.len (by decide +kernel) (pa_cons (pv 3) pa_nil)) pa_nil))) (fun _ _ => rfl)) pa_nil)) (pe_op op_sub (pv 7) pe_int)) (pe_tupZ (pa_cons (pv 6) pa_nil))))), ?_⟩
    intro D ws D1 leaf many t2 t4 t5 t8 HA bg hL hpos h8 hws hleaf hm1 hm2 hk
    refine ⟨_, rfl, _, rfl, _, rfl, D1, _, rfl, .inl (SqL.of hL.at_), g, ws.length, by rw [List.length_map], bg, hpos, by omega, fun j H9 hj d9 => ?_⟩
    obtain ⟨x, ex⟩ : ∃ x, ws[j]? = some x := ⟨_, List.getElem?_eq_getElem hj⟩
    refine ⟨D1, _, _, _, rfl, rfl, SqL.of (hL.dr d9).at_, atI_nat (by rw [List.getElem?_map, ex]; rfl), by show 1 ≤ sizeLine; decide, fun p1 Hb n1 => ?_⟩
    have w1 : Rw K Hb p1 [x] := NewT.rw (l := [x]) n1 fun y hy => by rw [List.mem_singleton.mp hy]; exact hws _ (List.mem_of_getElem? ex)
    refine ⟨_, rfl, _, _, rfl, rfl, ?_⟩
    show rRepZ K (.ref p1) (.int ((many : Int) - 1)) _ _
    rw [show (many : Int) - 1 = ((many - 1 : Nat) : Int) by omega]
    refine repZ_rw w1 (by omega) (by omega) (by simp) (by show 1 ≤ 100; decide) fun p2 Hc m2 s2 r2 hm2' => ?_
    have hm2' : m2.length = (many - 1) * 1 := hm2'
    refine ⟨_, rfl, by show 1 ≤ sizeLine; decide, fun p3 Hd n3 => ?_⟩
    have w3 : Rw K Hd p3 [leaf] := NewT.rw (l := [leaf]) n3 fun y hy => by rw [List.mem_singleton.mp hy]; exact hleaf
    refine catZ_rw (r2.mono n3.same) w3 (by show m2.length + 1 ≤ _; omega) fun p4 He s4 r4 => hk p4 _ He (d9.same (((n1.same.trans s2).trans n3.same).trans s4)) r4 ?_
    rw [List.length_append]
    show m2.length + 1 ≤ _
    omega
  have tE : ∃ t, PSs (cxOf (L2.CX P w) P w K mg base N_long "_law_long" (defScope (top 67)) (He.ga K "_law_long") cdv A outer s H E) (sElse ((defBody (top 67)).getD 7 (.Pass ⟨0, 0, 0, 0⟩))) t ∧
      ∀ (D : Ends) (ws : List Str) (D2 : Addr) (leaf : Str) (many shape : Nat) (t2 t3 t5 : Option V) (HA : Hp), Bag g HA → LS HA g D2 ws → ws.length ≤ 8 → (∀ x ∈ ws, Wx x) → Wx leaf → 2 ≤ many → many ≤ 2600 →
        (∀ p l H', Dr g HA H' → Rw K H' p l → l.length ≤ 2601 → D.nx [some (.ref g), some (.ref q), some (.ref p), t3, some (.ref D2), t5, some (.str leaf), some (.int (many : Nat)), some (.int (shape : Nat)), none, none] H') →
        D.nx [some (.ref g), some (.ref q), t2, t3, some (.ref D2), t5, some (.str leaf), some (.int (many : Nat)), some (.int (shape : Nat)), none, none] HA →
        t D [some (.ref g), some (.ref q), t2, t3, some (.ref D2), t5, some (.str leaf), some (.int (many : Nat)), some (.int (shape : Nat)), none, none] HA := by
    refine ⟨_, (pss_one (ps_if (PW.pt (pw_and (pt_truth (pv 4) (by intro _; rfl)) (pw_and1 (pt_cmpR op_eq (pv 8) pe_int (nomark _)))))
          (pss_one (ps_set (i := 2) sc.nd rfl (Or.inl rfl) (pe_op op_catZ (pe_op op_repZ (pe_tupZ (pa_cons (pe_ix ix_list (pv 4) (pe_cal c_law_draw hr (pa_cons (pv 0) (pa_cons (pe_callB call_len_seq (by rfl) T.len (by decide +kernel) (pa_cons (pv 4) pa_nil)) pa_nil))) (fun _ _ => rfl)) (pa_cons (pv 6) pa_nil))) (pe_op op_fdiv (pv 7) pe_int)) (pe_tupZ (pa_cons (pv 6) pa_nil)))))
          (pss_one (ps_if (pt_truth (pv 4) (by intro _; rfl))
            (pss_one (ps_set (i := 2) sc.nd rfl (Or.inl rfl) (pe_op op_catZ (pe_op op_repZ (pe_tupZ (pa_cons (pe_ix ix_list (pv 4) (pe_cal c_law_draw hr (pa_cons (pv 0) (pa_cons (pe_callB call_len_seq (by rfl) T.len (by decide +kernel) (pa_cons (pv 4) pa_nil)) pa_nil))) (fun _ _ => rfl)) pa_nil)) (pe_op op_fdiv (pv 7) pe_int)) (pe_op op_repZ (pe_tupZ (pa_cons (pv 6) pa_nil)) (pe_op op_add (pe_op op_fdiv (pv 7) pe_int) pe_int)))))
            pss_nil)))), ?_⟩
    intro D ws D2 leaf many shape t2 t3 t5 HA bg hL h8 hws hleaf hm1 hm2 hk hk0
    obtain ⟨k, hkk⟩ : ∃ k : Nat, k = many / 2 := ⟨_, rfl⟩
    have ek : (many : Int) / 2 = (k : Int) := by omega
    refine ⟨_, rfl, _, .inl ⟨_, SqL.of hL.at_, rfl⟩, if_bool (fun c1 => ?_) (fun c1 => ?_)⟩
    · have hpos : 0 < ws.length := by
        cases e : ws with
        | nil => rw [e] at c1; simp at c1
        | cons a b => simp
      refine ⟨_, rfl, rfl, _, rfl, if_dec (fun c2 => ?_) (fun c2 => ?_)⟩
      · refine ⟨_, rfl, _, rfl, _, rfl, D2, _, rfl, .inl (SqL.of hL.at_), g, ws.length, by rw [List.length_map], bg, hpos, by omega, fun j H9 hj d9 => ?_⟩
        obtain ⟨x, ex⟩ : ∃ x, ws[j]? = some x := ⟨_, List.getElem?_eq_getElem hj⟩
        have hx := hws _ (List.mem_of_getElem? ex)
        refine ⟨D2, _, _, _, rfl, rfl, SqL.of (hL.dr d9).at_, atI_nat (by rw [List.getElem?_map, ex]; rfl), _, rfl, by show 2 ≤ sizeLine; decide, fun p1 Hb n1 => ?_⟩
        have w1 : Rw K Hb p1 [x, leaf] := NewT.rw (l := [x, leaf]) n1 fun y hy => by
          rcases List.mem_cons.mp hy with rfl | hy
          · exact hx
          · rw [List.mem_singleton.mp hy]; exact hleaf
        refine ⟨_, rfl, _, _, rfl, rfl, ⟨by decide, by decide⟩, ?_⟩
        show rRepZ K (.ref p1) (.int ((many : Int) / 2)) _ _
        rw [ek]
        refine repZ_rw w1 (by omega) (by omega) (by simp) (by show 2 ≤ 100; decide) fun p2 Hc m2 s2 r2 hm2' => ?_
        have hm2' : m2.length = k * 2 := hm2'
        refine ⟨_, rfl, by show 1 ≤ sizeLine; decide, fun p3 Hd n3 => ?_⟩
        have w3 : Rw K Hd p3 [leaf] := NewT.rw (l := [leaf]) n3 fun y hy => by rw [List.mem_singleton.mp hy]; exact hleaf
        refine catZ_rw (r2.mono n3.same) w3 (by show m2.length + 1 ≤ _; omega) fun p4 He s4 r4 => hk p4 _ He (d9.same (((n1.same.trans s2).trans n3.same).trans s4)) r4 ?_
        rw [List.length_append]
        show m2.length + 1 ≤ _
        omega
      · refine ⟨_, rfl, _, .inl ⟨_, SqL.of hL.at_, rfl⟩, ?_⟩
        rw [c1]
        refine iteT ?_
        refine ⟨_, rfl, _, rfl, _, rfl, D2, _, rfl, .inl (SqL.of hL.at_), g, ws.length, by rw [List.length_map], bg, hpos, by omega, fun j H9 hj d9 => ?_⟩
        obtain ⟨x, ex⟩ : ∃ x, ws[j]? = some x := ⟨_, List.getElem?_eq_getElem hj⟩
        have hx := hws _ (List.mem_of_getElem? ex)
        refine ⟨D2, _, _, _, rfl, rfl, SqL.of (hL.dr d9).at_, atI_nat (by rw [List.getElem?_map, ex]; rfl), by show 1 ≤ sizeLine; decide, fun p1 Hb n1 => ?_⟩
        have w1 : Rw K Hb p1 [x] := NewT.rw (l := [x]) n1 fun y hy => by rw [List.mem_singleton.mp hy]; exact hx
        refine ⟨_, rfl, _, _, rfl, rfl, ⟨by decide, by decide⟩, ?_⟩
        show rRepZ K (.ref p1) (.int ((many : Int) / 2)) _ _
        rw [ek]
        refine repZ_rw w1 (by omega) (by omega) (by simp) (by show 1 ≤ 100; decide) fun p2 Hc m2 s2 r2 hm2' => ?_
        have hm2' : m2.length = k * 1 := hm2'
        refine ⟨_, rfl, by show 1 ≤ sizeLine; decide, fun p3 Hd n3 => ?_⟩
        have w3 : Rw K Hd p3 [leaf] := NewT.rw (l := [leaf]) n3 fun y hy => by rw [List.mem_singleton.mp hy]; exact hleaf
        refine ⟨_, rfl, _, _, rfl, rfl, ⟨by decide, by decide⟩, _, _, rfl, rfl, ?_⟩
        show rRepZ K (.ref p3) (.int ((many : Int) / 2 + 1)) _ _
        rw [ek, show (k : Int) + 1 = ((k + 1 : Nat) : Int) by omega]
        refine repZ_rw w3 (by omega) (by omega) (by simp) (by show 1 ≤ 100; decide) fun p5 Hf m5 s5 r5 hm5 => ?_
        have hm5 : m5.length = (k + 1) * 1 := hm5
        refine catZ_rw (r2.mono (n3.same.trans s5)) r5 (by omega) fun p4 He s4 r4 => hk p4 _ He (d9.same ((((n1.same.trans s2).trans n3.same).trans s5).trans s4)) r4 ?_
        rw [List.length_append]
        omega
    · refine ⟨_, rfl, _, .inl ⟨_, SqL.of hL.at_, rfl⟩, ?_⟩
      rw [c1]
      exact iteF hk0
  obtain ⟨tT, pT, hT⟩ := tail
  obtain ⟨tA, pA, hA⟩ := tA
  obtain ⟨tE, pE, hE⟩ := tE
  obtain ⟨l0, hl0, h0⟩ := hlw.bag.take
  have hB0 := hlw.rl.del hlw.ne h0.r0
  have hwd := hlw.wd
  have ok := hlw.ok
  have hqg := hlw.ne
  generalize hB : L2.del H g = B0 at *
  obtain ⟨ps, hL, hP⟩ := hB0
  have hpl := paired_len hP
  generalize hpr : ps.zip rows = pr at *
  have zf : pr.map (fun z => V.ref z.1) = ps.map V.ref := by
    have : pr.map (·.1) = ps := by rw [← hpr]; exact List.map_fst_zip (by omega)
    rw [← this, List.map_map]
    rfl
  have zr2 : pr.map (·.2) = rows := by rw [← hpr]; exact List.map_snd_zip (by omega)
  have zs : ∀ z ∈ pr, SqT K B0 z.1 [.str z.2.1, .int (z.2.2 : Nat)] := fun z hz => by
    rw [← hpr] at hz
    obtain ⟨i, hi, e⟩ := List.mem_iff_getElem.mp hz
    rw [List.getElem_zip] at e
    rw [List.length_zip] at hi
    obtain ⟨p2, e2, t⟩ := paired_at hP (i := i) (y := rows[i]) (List.getElem?_eq_getElem (by omega))
    rw [List.getElem?_eq_getElem (by omega)] at e2
    have : z.1 = p2 := by rw [← e]; exact Option.some.inj e2
    have e3 : z.2 = rows[i] := by rw [← e]
    rw [this, e3]
    exact t
  have zlen : pr.length ≤ 8 := by rw [← hpr, List.length_zip]; have := ok.le; omega
  rw [← zf] at hL
  have kn : ∀ n : Nat, (pr.filter fun z => decide (z.2.2 = n)).map (fun z => V.str z.2.1) = (kindsN rows n).map V.str := fun n => by
    rw [kindsN, ← zr2, List.filter_map, List.map_map, List.map_map]
    rfl
  have kw : ∀ n x, x ∈ kindsN rows n → Wx x := fun n x hx => by
    obtain ⟨r, hr', rfl⟩ := kindsN_mem hx
    exact (hwd r hr').wx
  refine ⟨_, (pss_cons (ps_setLc (i := 3) (own := [("_law_row", 2)]) (g := gName 2) (tt := tTest (tOp rEq (tOp (rIxT K) (tVar 2) (tC (.int 1))) (tC (.int 1)))) (te := tOp (rIxT K) (tVar 2) (tC (.int 0))) rfl sc.nd rfl rfl (sw_true rfl rfl rfl (by decide +kernel)) (pi_list (pv 1)) (blkOk_by (N := N_long) (sc := defScope (top 67)) (by decide +kernel)) (fun _ _ _ _ _ => (pg_name (i := 2) sc.nd rfl (Or.inl rfl))) (fun _ _ _ _ _ => (pts_one (pt_cmpR op_eq (pe_ix ix_tup (pv 2) pe_int (fun _ _ => rfl)) pe_int (nomark _)))) (fun _ _ _ _ _ => (pe_ix ix_tup (pv 2) pe_int (fun _ _ => rfl))))
      (pss_cons (ps_setLc (i := 4) (own := [("_law_row", 2)]) (g := gName 2) (tt := tTest (tOp rEq (tOp (rIxT K) (tVar 2) (tC (.int 1))) (tC (.int 2)))) (te := tOp (rIxT K) (tVar 2) (tC (.int 0))) rfl sc.nd rfl rfl (sw_true rfl rfl rfl (by decide +kernel)) (pi_list (pv 1)) (blkOk_by (N := N_long) (sc := defScope (top 67)) (by decide +kernel)) (fun _ _ _ _ _ => (pg_name (i := 2) sc.nd rfl (Or.inl rfl))) (fun _ _ _ _ _ => (pts_one (pt_cmpR op_eq (pe_ix ix_tup (pv 2) pe_int (fun _ _ => rfl)) pe_int (nomark _)))) (fun _ _ _ _ _ => (pe_ix ix_tup (pv 2) pe_int (fun _ _ => rfl))))
      (pss_cons (ps_setLc (i := 5) (own := [("_law_row", 2)]) (g := gName 2) (tt := tTest (tOp rEq (tOp (rIxT K) (tVar 2) (tC (.int 1))) (tC (.int 0)))) (te := tOp (rIxT K) (tVar 2) (tC (.int 0))) rfl sc.nd rfl rfl (sw_true rfl rfl rfl (by decide +kernel)) (pi_list (pv 1)) (blkOk_by (N := N_long) (sc := defScope (top 67)) (by decide +kernel)) (fun _ _ _ _ _ => (pg_name (i := 2) sc.nd rfl (Or.inl rfl))) (fun _ _ _ _ _ => (pts_one (pt_cmpR op_eq (pe_ix ix_tup (pv 2) pe_int (fun _ _ => rfl)) pe_int (nomark _)))) (fun _ _ _ _ _ => (pe_ix ix_tup (pv 2) pe_int (fun _ _ => rfl))))
      (pss_cons (ps_set (i := 6) sc.nd rfl (Or.inl rfl) (pe_ix ix_list (pv 5) (pe_cal c_law_draw hr (pa_cons (pv 0) (pa_cons (pe_callB call_len_seq (by rfl) T.len (by decide +kernel) (pa_cons (pv 5) pa_nil)) pa_nil))) (fun _ _ => rfl)))
      (pss_cons (ps_set (i := 7) sc.nd rfl (Or.inl rfl) (pe_ix ix_list (pe_lst (pa_cons pe_int (pa_cons pe_int (pa_cons pe_int (pa_cons pe_int (pa_cons (pe_op op_add pe_int (pe_cal c_law_draw hr (pa_cons (pv 0) (pa_cons pe_int pa_nil)))) pa_nil)))))) (pe_cal c_law_draw hr (pa_cons (pv 0) (pa_cons pe_int pa_nil))) (fun _ _ => rfl)))
      (pss_cons (ps_set (i := 8) sc.nd rfl (Or.inl rfl) (pe_cal c_law_draw hr (pa_cons (pv 0) (pa_cons pe_int pa_nil))))
      (pss_cons (ps_set (i := 2) sc.nd rfl (Or.inl rfl) (pe_op op_repZ (pe_tupZ (pa_cons (pv 6) pa_nil)) (pv 7)))
      (pss_cons (ps_if (PW.pt (pw_and (pt_truth (pv 3) (by intro _; rfl)) (pw_and1 (PW.pt (pw_or (pt_cmpR op_eq (pv 8) pe_int (nomark _)) (pw_or1 (pt_not (pt_truth (pv 4) (by intro _; rfl)))))))))
        pA
        pE)
      pT)))))))), ?_⟩
  -- the three lists
  have step : ∀ (n : Nat) (σ : L2.St) (H' : Hp), Same B0 H' → ∀ z ∈ pr, ∀ (R1 : VK) (R2 : Hp → Prop), (decide (z.2.2 = n) = true → R1 (.str z.2.1) H') → (decide (z.2.2 = n) = false → R2 H') → σ[2]? = some (some (.ref z.1)) →
      (tTest (tOp rEq (tOp (rIxT K) (tVar 2) (tC (.int 1))) (tC (.int (n : Nat))))) σ H' fun b H3 => if b = true then (tOp (rIxT K) (tVar 2) (tC (.int 0))) σ H3 R1 else R2 H3 := by
    intro n σ H' s' z hz R1 R2 k1 k2 e8
    have tz := Same.sqt s' (zs z hz)
    refine ⟨_, e8, z.1, _, _, _, rfl, rfl, tz, atI_nat (j := 1) rfl, rfl, _, rfl, if_dec (fun c => ?_) (fun c => ?_)⟩
    · exact ⟨_, e8, z.1, _, _, _, rfl, rfl, tz, atI_nat (j := 0) rfl, k1 (decide_eq_true (by have := V.int.inj c; omega))⟩
    · exact k2 (decide_eq_false (fun z => c (by rw [z])))
  refine ⟨_, rfl, q, rfl, ⟨_, SqL.of (h0.sub _ _ hL)⟩, fun D1 hD1 => lc_filt (si := 2) (f := fun z : Addr × Sy.Row => V.ref z.1) (out := fun z => V.str z.2.1) (keep := fun z => decide (z.2.2 = 1)) h0 hD1 hL (by omega) (fun z hz H' s' R1 R2 k1 k2 => step 1 _ H' s' z hz R1 R2 k1 k2 rfl) ?_⟩
  intro H1 h1
  rw [kn 1] at h1
  obtain ⟨s1, h1⟩ := h1.give
  have e1 : (upd B0 D1 (.lst ((kindsN rows 1).map V.str))) D1 = some (.lst ((kindsN rows 1).map V.str)) := upd_same
  generalize upd B0 D1 (.lst ((kindsN rows 1).map V.str)) = B1 at *
  refine ⟨_, rfl, q, rfl, ⟨_, SqL.of (h1.sub _ _ (s1 _ _ hL))⟩, fun D2 hD2 => lc_filt (si := 2) (f := fun z : Addr × Sy.Row => V.ref z.1) (out := fun z => V.str z.2.1) (keep := fun z => decide (z.2.2 = 2)) h1 hD2 (s1 _ _ hL) (by omega) (fun z hz H' s' R1 R2 k1 k2 => step 2 _ H' (s1.trans s') z hz R1 R2 k1 k2 rfl) ?_⟩
  intro H2 h2
  rw [kn 2] at h2
  obtain ⟨s2, h2⟩ := h2.give
  have e2 : (upd B1 D2 (.lst ((kindsN rows 2).map V.str))) D2 = some (.lst ((kindsN rows 2).map V.str)) := upd_same
  generalize upd B1 D2 (.lst ((kindsN rows 2).map V.str)) = B2 at *
  have s02 := s1.trans s2
  refine ⟨_, rfl, q, rfl, ⟨_, SqL.of (h2.sub _ _ (s02 _ _ hL))⟩, fun D3 hD3 => lc_filt (si := 2) (f := fun z : Addr × Sy.Row => V.ref z.1) (out := fun z => V.str z.2.1) (keep := fun z => decide (z.2.2 = 0)) h2 hD3 (s02 _ _ hL) (by omega) (fun z hz H' s' R1 R2 k1 k2 => step 0 _ H' (s02.trans s') z hz R1 R2 k1 k2 rfl) ?_⟩
  intro H3 h3
  rw [kn 0] at h3
  obtain ⟨s3, h3⟩ := h3.give
  have e3 : (upd B2 D3 (.lst ((kindsN rows 0).map V.str))) D3 = some (.lst ((kindsN rows 0).map V.str)) := upd_same
  generalize upd B2 D3 (.lst ((kindsN rows 0).map V.str)) = B3 at *
  have s03 := s02.trans s3
  have hle := ok.le
  have lp : 0 < (kindsN rows 0).length := by
    obtain ⟨r, hr', e⟩ := ok.lf
    unfold kindsN
    rw [List.length_map]
    exact List.length_pos_of_mem (List.mem_filter.mpr ⟨hr', decide_eq_true e⟩)
  have l1 := kindsN_le rows 1
  have l2 := kindsN_le rows 2
  have l3 := kindsN_le rows 0
  have nb : ∀ {D : Addr} {o : HO}, B3 D = some o → D ≠ g := fun {D o} e z => by
    have := h3.ap (g, HO.lst (l0.map V.int)) (by simp)
    rw [z, this] at e
    cases e
  have L1 : LS H3 g D1 (kindsN rows 1) := ⟨nb (s3 _ _ (s2 _ _ e1)), h3.sub _ _ (s3 _ _ (s2 _ _ e1))⟩
  have L2' : LS H3 g D2 (kindsN rows 2) := ⟨nb (s3 _ _ e2), h3.sub _ _ (s3 _ _ e2)⟩
  have L3 : LS H3 g D3 (kindsN rows 0) := ⟨nb e3, h3.sub _ _ e3⟩
  have bg3 : Bag g H3 := h3.bag hl0
  have d03 : Dr g H H3 := h3.isDr hl0 (by simp) (by rw [hB]; exact s03)
  clear h3 h2 h1 h0 step zs
  -- leaf, many, shape
  refine ⟨_, rfl, _, rfl, _, rfl, D3, _, rfl, .inl (SqL.of L3.at_), g, (kindsN rows 0).length, by rw [List.length_map], bg3, lp, by omega, fun j H4 hj d4 => ?_⟩
  obtain ⟨leaf, eleaf⟩ : ∃ x, (kindsN rows 0)[j]? = some x := ⟨_, List.getElem?_eq_getElem hj⟩
  have wleaf := kw 0 leaf (List.mem_of_getElem? eleaf)
  refine ⟨D3, _, _, _, rfl, rfl, SqL.of (L3.dr d4).at_, atI_nat (by rw [List.getElem?_map, eleaf]; rfl), ?_⟩
  have d04 := d03.trans d4
  refine ⟨_, rfl, g, 2000, rfl, d04.bag, by decide, by decide, fun m1 H5 hm1 d5 => ?_⟩
  refine ⟨_, _, rfl, rfl, by show 5 ≤ sizeLine; decide, fun Dm hDm => ?_⟩
  have s6 : Same H5 (upd H5 Dm (.lst [.int 1999, .int 2000, .int 2001, .int 2600, .int (2 + (m1 : Nat))])) := up_same hDm
  have d05 := d04.trans d5
  have d06 := d05.same s6
  have hDg : Dm ≠ g := fun z => by
    obtain ⟨_, _, e⟩ := d05.bag
    rw [← z, hDm] at e
    cases e
  refine ⟨_, rfl, g, 5, rfl, d06.bag, by decide, by decide, fun m2 H7 hm2 d7 => ?_⟩
  have eDm : H7 Dm = some (.lst [.int 1999, .int 2000, .int 2001, .int 2600, .int (2 + (m1 : Nat))]) := by
    obtain ⟨_, _, c⟩ := d7
    exact c.2 _ _ hDg upd_same
  obtain ⟨many, emany, hmany1, hmany2⟩ := five5 _ m1 hm1 rfl m2 hm2
  refine ⟨Dm, _, _, _, rfl, rfl, SqL.of eDm, atI_nat emany, ?_⟩
  have d07 := d06.trans d7
  refine ⟨_, rfl, g, 3, rfl, d07.bag, by decide, by decide, fun shape H8 hsh d8 => ?_⟩
  have d08 := d07.trans d8
  have d38 : Dr g H3 H8 := ((((d4.trans d5).same s6).trans d7).trans d8)
  -- the first row
  refine ⟨_, rfl, (by show 1 ≤ sizeLine; decide), fun p9 H9 n9 => ⟨_, rfl, ?_⟩⟩
  have w9 : Rw K H9 p9 [leaf] := NewT.rw (l := [leaf]) n9 fun y hy => by rw [List.mem_singleton.mp hy]; exact wleaf
  refine repZ_rw w9 (by omega) (by omega) (by simp) (by show 1 ≤ 100; decide) fun p HA m sA rA hmA => ?_
  have d0A : Dr g H HA := d08.same (n9.same.trans sA)
  have d3A : Dr g H3 HA := d38.same (n9.same.trans sA)
  have q1 := (L1.dr d3A).at_
  have q2 := (L2'.dr d3A).at_
  have B1' := L1.dr d3A
  have B2' := L2'.dr d3A
  have go : ∀ (t2 t3 t4 t5 t6 t8 : Option V), ∀ p l H', Dr g HA H' → Rw K H' p l → l.length ≤ 2601 → tT { nx := fun _ H' => Q .non H', rt := Q } [some (.ref g), some (.ref q), some (.ref p), t3, t4, t5, t6, some (.int (many : Nat)), t8, none, none] H' := fun t2 t3 t4 t5 t6 t8 p l H' d' r' hl' => hT l p H' t3 t4 t5 t6 t8 many hmany1 hmany2 hl' (d0A.trans d') r'
  have go0 : ∀ (t3 t4 t5 t6 t8 : Option V), tT { nx := fun _ H' => Q .non H', rt := Q } [some (.ref g), some (.ref q), some (.ref p), t3, t4, t5, t6, some (.int (many : Nat)), t8, none, none] HA := fun t3 t4 t5 t6 t8 => hT m p HA t3 t4 t5 t6 t8 many hmany1 hmany2 (by rw [hmA]; show many * 1 ≤ _; omega) d0A rA
  have goE : ∀ D : Ends, D.nx = tT { nx := fun _ H' => Q .non H', rt := Q } → tE D [some (.ref g), some (.ref q), some (.ref p), some (.ref D1), some (.ref D2), some (.ref D3), some (.str leaf), some (.int (many : Nat)), some (.int (shape : Nat)), none, none] HA := fun D eD => by
    refine hE D (kindsN rows 2) D2 leaf many shape _ _ _ HA d0A.bag B2' (by omega) (kw 2) wleaf hmany1 hmany2 ?_ ?_
    · intro p' l' H' d' r' hl'
      rw [eD]
      exact go none _ _ _ _ _ p' l' H' d' r' hl'
    · rw [eD]
      exact go0 _ _ _ _ _
  have goA : ∀ D : Ends, D.nx = tT { nx := fun _ H' => Q .non H', rt := Q } → 0 < (kindsN rows 1).length → tA D [some (.ref g), some (.ref q), some (.ref p), some (.ref D1), some (.ref D2), some (.ref D3), some (.str leaf), some (.int (many : Nat)), some (.int (shape : Nat)), none, none] HA := fun D eD hp => by
    refine hA D (kindsN rows 1) D1 leaf many _ _ _ _ HA d0A.bag B1' hp (by omega) (kw 1) wleaf hmany1 hmany2 ?_
    intro p' l' H' d' r' hl'
    rw [eD]
    exact go none _ _ _ _ _ p' l' H' d' r' hl'
  refine ⟨_, rfl, _, .inl ⟨_, SqL.of q1, rfl⟩, if_bool (fun c1 => ?_) (fun c1 => ?_)⟩
  · have hpos : 0 < (kindsN rows 1).length := by
      cases e : kindsN rows 1 with
      | nil => rw [e] at c1; simp at c1
      | cons a b => simp
    refine ⟨_, rfl, rfl, _, rfl, if_dec (fun c2 => ?_) (fun c2 => ?_)⟩
    · exact iteT (goA _ rfl hpos)
    · refine ⟨_, rfl, _, .inl ⟨_, SqL.of q2, rfl⟩, if_bool (fun c3 => ?_) (fun c3 => ?_)⟩
      · exact goA _ rfl hpos
      · exact goE _ rfl
  · exact goE _ rfl
end
end Sy
namespace Sy
open PySem PySem.Spec PyProof.Rows L2
theorem Bag.neq {g D : Addr} {H : Hp} (b : Bag g H) (hD : H D = none) : D ≠ g := fun z => by
  obtain ⟨_, _, e⟩ := b
  rw [← z, hD] at e
  cases e
theorem Dr.updf {g D : Addr} {H H' : Hp} {o : HO} (d : Dr g H H') (hD : H D = none) (ne : D ≠ g) : Dr g H (upd H' D o) := by
  obtain ⟨l, hl, c⟩ := d
  refine ⟨l, hl, by rw [upd_ne ne.symm]; exact c.1, fun a w n e => ?_⟩
  rw [upd_ne (ne_of_none e hD)]
  exact c.2 a w n e
theorem Dr.refl {g : Addr} {H : Hp} (b : Bag g H) : Dr g H H := by
  obtain ⟨l, hl, e⟩ := b
  exact ⟨l, hl, e, fun _ _ _ e => e⟩
section
variable {P : Program} {w : World} {K : PySem.W.Frag} {mg : Str → Option Value} {base : Heap}
abbrev N_bent : List Str := ["_law_bag_here", "_law_rows_here", "_law_way", "_law_row", "_law_place_here", "_law_word_here", "_law_k"]
theorem sc_bent : FnScope N_bent ["_law_bag_here", "_law_rows_here"] (defScope (top 68)) := ⟨rfl, rfl, rfl, by decide +kernel, rfl, by decide +kernel, by decide +kernel⟩
theorem k_bent (T : Txt K mg) (F : DF K mg "_law_bent" 68) (c_law_draw : Cal P w K mg base 1 "_law_draw" ["_law_bag_here", "_law_size"] spDraw) (c_law_entry : Cal P w K mg base 2 "_law_entry" ["_law_bag_here", "_law_rows_here"] (spEntry K)) (c_law_long : Cal P w K mg base 3 "_law_long" ["_law_bag_here", "_law_rows_here"] (spLong K))
    (c_law_plant : Cal P w K mg base 2 "_law_plant" ["_law_bag_here", "_law_rows_here", "_law_most", "_law_with_holes"] (spPlantL K)) : Cal P w K mg base 4 "_law_bent" ["_law_bag_here", "_law_rows_here"] (spLong K) := by
  refine cal_of F.1 F.2 sc_bent (fun _ _ _ _ _ _ us e => match us, e with | [_, _], _ => rfl) (fun vs H Q E s => by obtain ⟨_, _, _, rfl, _⟩ := s; rfl) ?_
  intro cdv A outer s H vs Q E hr h
  obtain ⟨g, q, rows, rfl, hlw, hq⟩ := h
  have sc := sc_bent
  refine ⟨_, (pss_cons (ps_set (i := 2) sc.nd rfl (Or.inl rfl) (pe_cal c_law_draw hr (pa_cons (pv 0) (pa_cons pe_int pa_nil))))
      (pss_cons (ps_if (pt_cmpR op_eq (pv 2) pe_int (nomark _))
        (pss_one (ps_ret (pe_cal c_law_long hr (pa_cons (pv 0) (pa_cons (pv 1) pa_nil)))))
        pss_nil)
      (pss_cons (ps_if (pt_cmpR op_eq (pv 2) pe_int (nomark _))
        (pss_one (ps_ret (pe_callTy call_tupZ (by rfl) T.tuple (by decide +kernel) (pa_cons (pe_lc (own := [("_law_k", 6)]) (g := gName 6) rfl sc.nd (pi_range1 rfl T.range (pa_cons (pe_cal c_law_draw hr (pa_cons (pv 0) (pa_cons pe_int pa_nil))) pa_nil)) (blkOk_by (N := N_bent) (sc := defScope (top 68)) (by decide +kernel)) (fun _ _ _ _ _ => (pg_name (i := 6) sc.nd rfl (Or.inl rfl))) (fun _ _ _ _ _ => pts_nil) (fun _ _ _ _ _ => (pe_cal c_law_entry hr (pa_cons (pv 0) (pa_cons (pv 1) pa_nil))))) pa_nil))))
        pss_nil)
      (pss_cons (ps_set (i := 3) sc.nd rfl (Or.inl rfl) (pe_cal c_law_plant hr (pa_cons (pv 0) (pa_cons (pv 1) (pa_cons (pe_op op_add pe_int (pe_cal c_law_draw hr (pa_cons (pv 0) (pa_cons pe_int pa_nil)))) (pa_cons (pe_cmpR op_eq (pe_op op_mod (pe_callTy call_int1 (by rfl) T.int (by decide +kernel) (pa_cons (pv 2) pa_nil)) pe_int) pe_int (nomark _)) pa_nil))))))
      (pss_cons (ps_set (i := 4) sc.nd rfl (Or.inl rfl) (pe_cal c_law_draw hr (pa_cons (pv 0) (pa_cons (pe_callB call_len_seq (by rfl) T.len (by decide +kernel) (pa_cons (pv 3) pa_nil)) pa_nil))))
      (pss_cons (ps_set (i := 5) sc.nd rfl (Or.inl rfl) (pe_cal c_law_entry hr (pa_cons (pv 0) (pa_cons (pv 1) pa_nil))))
      (pss_cons (ps_if (pt_cmpR op_lt (pv 2) pe_int (nomark _))
        (pss_one (ps_ret (pe_op op_catZ (pe_op op_catZ (pe_slice sl_tupZ (pv 3) po_none (po_some (pv 4))) (pe_tupZ (pa_cons (pv 5) pa_nil))) (pe_slice sl_tupZ (pv 3) (po_some (pe_op op_add (pv 4) pe_int)) po_none))))
        pss_nil)
      (pss_cons (ps_if (pt_cmpR op_eq (pv 2) pe_int (nomark _))
        (pss_one (ps_ret (pe_op op_catZ (pe_op op_catZ (pe_slice sl_tupZ (pv 3) po_none (po_some (pv 4))) (pe_tupZ (pa_cons (pv 5) pa_nil))) (pe_slice sl_tupZ (pv 3) (po_some (pv 4)) po_none))))
        pss_nil)
      (pss_cons (ps_if (pt_cmpR op_eq (pv 2) pe_int (nomark _))
        (pss_one (ps_ret (pe_op op_catZ (pe_slice sl_tupZ (pv 3) po_none (po_some (pv 4))) (pe_slice sl_tupZ (pv 3) (po_some (pe_op op_add (pv 4) pe_int)) po_none))))
        pss_nil)
      (pss_cons (ps_if (pt_cmpR op_eq (pv 2) pe_int (nomark _))
        (pss_one (ps_ret (pe_slice sl_tupZ (pv 3) po_none (po_some (pv 4)))))
        pss_nil)
      (pss_cons (ps_if (pt_cmpR op_eq (pv 2) pe_int (nomark _))
        (pss_one (ps_ret (pe_op op_catZ (pv 3) (pe_cal c_law_plant hr (pa_cons (pv 0) (pa_cons (pv 1) (pa_cons (pe_op op_add pe_int (pe_cal c_law_draw hr (pa_cons (pv 0) (pa_cons pe_int pa_nil)))) (pa_cons pe_bl pa_nil))))))))
        pss_nil)
      (pss_one (ps_ret (pv 3)))))))))))))), ?_⟩
  refine ⟨_, rfl, g, 10, rfl, hlw.bag, by decide, by decide, fun way H1 hway d1 => ?_⟩
  have lw1 := hlw.dr d1
  refine ⟨_, rfl, rfl, _, rfl, if_dec (fun c => ?_) (fun c => ?_)⟩
  · exact ⟨_, rfl, _, rfl, g, q, rows, rfl, lw1, fun l p H' hl d r => hq l p H' hl (d1.trans d) r⟩
  refine ⟨_, rfl, rfl, _, rfl, if_dec (fun c => ?_) (fun c => ?_)⟩
  · refine ⟨_, rfl, g, 7, rfl, lw1.bag, by decide, by decide, fun n H2 hn d2 => ?_⟩
    have lw2 := lw1.dr d2
    refine ⟨_, rfl, by omega, by omega, fun D hD => lc_it (n := ((n : Nat) : Int).toNat) walk_range (fun i H' => ∃ ys : List Str, ys.length = i ∧ (∀ y ∈ ys, Wx y) ∧ Dr g H2 H' ∧ LS H' g D ys) ⟨[], rfl, fun _ z => (nomatch z), (Dr.refl lw2.bag).updf hD (lw2.bag.neq hD), lw2.bag.neq hD, upd_same⟩ (fun _ _ _ _ => trivial) ?_ ?_⟩
    · rintro i v H3 _ hi ⟨ys, hy, hw, d3, L⟩ ⟨rfl, rfl⟩
      refine ⟨rfl, ?_⟩
      simp only [tYes, if_true]
      refine ⟨_, rfl, _, rfl, g, q, rows, rfl, lw2.dr d3, fun x H4 hx d4 => ?_⟩
      have L4 := L.dr d4
      refine ⟨_, L4.at_, by rw [List.length_map, sizeLine_eq]; omega, ys ++ [x], by rw [List.length_append, hy]; rfl, fun y hm => ?_, (d3.trans d4).updf hD L4.ne, L4.ne, ?_⟩
      · rcases List.mem_append.mp hm with hm | hm
        · exact hw y hm
        · rw [List.mem_singleton.mp hm]; exact hx
      · rw [List.map_append]
        exact upd_same
    · rintro H3 ⟨ys, hy, hw, d3, L⟩
      refine ⟨D, _, rfl, SqL.of L.at_, fun p H4 n4 => ?_⟩
      exact hq ys p H4 (by omega) (((d1.trans d2).trans d3).same n4.same) (n4.rw hw)
  -- a plant
  refine ⟨_, rfl, _, rfl, _, rfl, g, 10, rfl, lw1.bag, by decide, by decide, fun m H2 hm d2 => ?_⟩
  have lw2 := lw1.dr d2
  refine ⟨_, _, rfl, rfl, _, rfl, .inl ⟨_, rfl, _, _, rfl, rfl, (by show (0 : Int) < 2; decide), rfl, g, q, 1 + m, _, rows, rfl, lw2.bag, lw2.ne, lw2.rl, lw2.ok, fun r hr' => (lw2.wd r hr').wx, by omega, by omega, fun l p H3 hl1 hl2 d3 r3 => ?_⟩⟩
  have lw3 := lw2.dr d3
  refine ⟨_, rfl, _, rfl, p, _, rfl, .inr r3.sq, g, l.length, by rw [List.length_map], lw3.bag, by omega, by omega, fun pl H4 hpl d4 => ?_⟩
  have lw4 := lw3.dr d4
  have r4 := r3.dr (d4.stay lw3.bag)
  refine ⟨_, rfl, _, rfl, g, q, rows, rfl, lw4, fun x H5 hx d5 => ?_⟩
  have lw5 := lw4.dr d5
  have r5 := r4.dr (d5.stay lw4.bag)
  have d15 := (((d1.trans d2).trans d3).trans d4).trans d5
  have fin : ∀ m p' H', Same H5 H' → Rw K H' p' m → m.length ≤ 100 → Q (.ref p') H' := fun m p' H' s' r' hl' => hq m p' H' (by omega) (d15.same s') r'
  refine ⟨_, rfl, _, _, rfl, rfl, _, rfl, if_dec (fun c => ?_) (fun c => ?_)⟩
  · refine ⟨_, rfl, _, rfl, _, rfl, slZ_rw r5 fun p1 H6 m1 s6 r6 hm1 => ?_⟩
    refine ⟨_, rfl, (by show 1 ≤ sizeLine; decide), fun p2 H7 n7 => ?_⟩
    have w7 : Rw K H7 p2 [x] := NewT.rw (l := [x]) n7 fun y hy => by rw [List.mem_singleton.mp hy]; exact hx
    refine catZ_rw (r6.mono n7.same) w7 (by show m1.length + 1 ≤ _; omega) fun p3 H8 s8 r8 => ?_
    refine ⟨_, rfl, _, rfl, _, _, rfl, rfl, _, rfl, ?_⟩
    dsimp only [tNoPart]
    refine slZ_rw (r5.mono ((s6.trans n7.same).trans s8)) fun p4 H9 m4 s9 r9 hm4 => ?_
    refine catZ_rw (r8.mono s9) r9 (by rw [List.length_append]; show m1.length + 1 + _ ≤ _; omega) fun p5 Ha sa ra => fin _ p5 Ha ((((s6.trans n7.same).trans s8).trans s9).trans sa) ra ?_
    rw [List.length_append, List.length_append]
    show m1.length + 1 + _ ≤ _
    omega
  refine ⟨_, rfl, rfl, _, rfl, if_dec (fun c => ?_) (fun c => ?_)⟩
  · refine ⟨_, rfl, _, rfl, _, rfl, slZ_rw r5 fun p1 H6 m1 s6 r6 hm1 => ?_⟩
    refine ⟨_, rfl, (by show 1 ≤ sizeLine; decide), fun p2 H7 n7 => ?_⟩
    have w7 : Rw K H7 p2 [x] := NewT.rw (l := [x]) n7 fun y hy => by rw [List.mem_singleton.mp hy]; exact hx
    refine catZ_rw (r6.mono n7.same) w7 (by show m1.length + 1 ≤ _; omega) fun p3 H8 s8 r8 => ?_
    refine ⟨_, rfl, _, rfl, _, rfl, ?_⟩
    dsimp only [tNoPart]
    refine slZ_rw (r5.mono ((s6.trans n7.same).trans s8)) fun p4 H9 m4 s9 r9 hm4 => ?_
    refine catZ_rw (r8.mono s9) r9 (by rw [List.length_append]; show m1.length + 1 + _ ≤ _; omega) fun p5 Ha sa ra => fin _ p5 Ha ((((s6.trans n7.same).trans s8).trans s9).trans sa) ra ?_
    rw [List.length_append, List.length_append]
    show m1.length + 1 + _ ≤ _
    omega
  refine ⟨_, rfl, rfl, _, rfl, if_dec (fun c => ?_) (fun c => ?_)⟩
  · refine ⟨_, rfl, _, rfl, _, rfl, slZ_rw r5 fun p1 H6 m1 s6 r6 hm1 => ?_⟩
    refine ⟨_, rfl, _, rfl, _, _, rfl, rfl, _, rfl, ?_⟩
    dsimp only [tNoPart]
    refine slZ_rw (r5.mono s6) fun p4 H9 m4 s9 r9 hm4 => ?_
    refine catZ_rw (r6.mono s9) r9 (by omega) fun p5 Ha sa ra => fin _ p5 Ha ((s6.trans s9).trans sa) ra ?_
    rw [List.length_append]
    omega
  refine ⟨_, rfl, rfl, _, rfl, if_dec (fun c => ?_) (fun c => ?_)⟩
  · exact ⟨_, rfl, _, rfl, _, rfl, slZ_rw r5 fun p1 H6 m1 s6 r6 hm1 => fin _ p1 H6 s6 r6 (by omega)⟩
  refine ⟨_, rfl, rfl, _, rfl, if_dec (fun c => ?_) (fun c => ?_)⟩
  · refine ⟨_, rfl, _, rfl, _, rfl, _, rfl, g, 3, rfl, lw5.bag, by decide, by decide, fun m2 H6 hm2 d6 => ?_⟩
    have lw6 := lw5.dr d6
    have r6 := r5.dr (d6.stay lw5.bag)
    refine ⟨_, _, rfl, rfl, g, q, 1 + m2, false, rows, rfl, lw6.bag, lw6.ne, lw6.rl, lw6.ok, fun r hr' => (lw6.wd r hr').wx, by omega, by omega, fun l7 p7 H7 hl7 hl7' d7 r7 => ?_⟩
    refine catZ_rw (r6.dr (d7.stay lw6.bag)) r7 (by omega) fun p8 H8 s8 r8 => hq _ p8 H8 ?_ (((d15.trans d6).trans d7).same s8) r8
    rw [List.length_append]
    omega
  · exact ⟨_, rfl, fin l p H5 (Same.refl _) r5 (by omega)⟩
end
end Sy
namespace Sy
open PySem PySem.Spec PyProof.Rows L2
/-- the leaves beside the kinds -/
def lvs (wh : Bool) : List Str := if wh = true then ["*"] else []
/-- the number of branches of a word, holes allowed or not -/
def numW (rows : List Sy.Row) (wh : Bool) (x : Str) : Int := if wh = true ∧ x = "*" then 0 else numb rows x
theorem isK_false {rows : List Sy.Row} {x : Str} (h : isK rows x = false) : rows.lookup x = none := by
  unfold isK at h
  cases e : rows.lookup x with
  | none => rfl
  | some n => rw [e] at h; cases h
theorem numb_no {rows : List Sy.Row} {x : Str} (h : isK rows x = false) : numb rows x = -1 ∧ ar rows x = 0 := by
  have := isK_false h
  unfold numb ar
  rw [this]
  exact ⟨rfl, rfl⟩
theorem numW_neg {rows : List Sy.Row} {wh : Bool} {x : Str} (hs : isK rows "*" = false) : (numW rows wh x < 0 ↔ (isK rows x = false ∧ x ∉ lvs wh)) ∧ (0 ≤ numW rows wh x → numW rows wh x = (ar rows x : Nat)) := by
  unfold numW
  by_cases h : wh = true ∧ x = "*"
  · rw [if_pos h]
    obtain ⟨rfl, rfl⟩ := h
    refine ⟨⟨fun z => by omega, fun z => absurd (show ("*" : Str) ∈ lvs true by simp [lvs]) z.2⟩, fun _ => ?_⟩
    rw [(numb_no hs).2]
    rfl
  · rw [if_neg h]
    have hn : x ∉ lvs wh := by
      unfold lvs
      split
      · rename_i c
        simp only [List.mem_singleton]
        exact fun z => h ⟨c, z⟩
      · exact fun z => nomatch z
    cases e : isK rows x with
    | true =>
      rw [numb_ar e]
      exact ⟨⟨fun z => by omega, fun z => by cases z.1⟩, fun _ => rfl⟩
    | false =>
      rw [(numb_no e).1]
      exact ⟨⟨fun _ => ⟨rfl, hn⟩, fun _ => by omega⟩, fun z => by omega⟩
section
variable {P : Program} {w : World} {K : PySem.W.Frag} {mg : Str → Option Value} {base : Heap}
def spFaultL (K : PySem.W.Frag) : Sp := fun vs H Q _ => ∃ (q r : Addr) (wh : Bool) (rows : List Sy.Row) (l : List Str), vs = [.ref q, .ref r, .bl wh] ∧ RL K H q rows ∧ SqT K H r (l.map V.str) ∧ isK rows "*" = false ∧ l.length ≤ 100000 ∧ Q (.int (fa rows (lvs wh) 1 0 l)) H
abbrev N_faultL : List Str := ["_law_rows_here", "_law_plant_here", "_law_with_holes", "_law_need", "_law_place_here", "_law_many"]
theorem sc_faultL : FnScope N_faultL ["_law_rows_here", "_law_plant_here", "_law_with_holes"] (defScope (top 70)) := ⟨rfl, rfl, rfl, by decide +kernel, rfl, by decide +kernel, by decide +kernel⟩
theorem k_faultL (T : Txt K mg) (F : DF K mg "_law_fault" 70) (c_law_number : Cal P w K mg base 1 "_law_number" ["_law_rows_here", "_law_word_here"] (spNum K)) : Cal P w K mg base 2 "_law_fault" ["_law_rows_here", "_law_plant_here", "_law_with_holes"] (spFaultL K) := by
  refine cal_of F.1 F.2 sc_faultL (fun _ _ _ _ _ _ us e => match us, e with | [_, _, _], _ => rfl) (fun vs H Q E s => by obtain ⟨_, _, _, _, _, rfl, _⟩ := s; rfl) ?_
  intro cdv A outer s H vs Q E hr h
  obtain ⟨q, r, wh, rows, l, rfl, hRL, hR, hs, hlen, hq⟩ := h
  have sc := sc_faultL
  have rest : ∃ t, PSs (cxOf (L2.CX P w) P w K mg base N_faultL "_law_fault" (defScope (top 70)) (He.ga K "_law_fault") cdv A outer s H E) ((sBody ((defBody (top 70)).getD 1 (.Pass ⟨0, 0, 0, 0⟩))).drop 2) t ∧
      ∀ (D : Ends) (i need : Nat) (x : Str) (z : Int), z = numW rows wh x → (need = 0 ∨ numW rows wh x < 0 → D.rt (.int (i : Nat)) H) → (0 < need → 0 ≤ numW rows wh x → D.nx [some (.ref q), some (.ref r), some (.bl wh), some (.int ((need - 1 + ar rows x : Nat) : Int)), some (.int (i : Nat)), some (.int z)] H) →
        t D [some (.ref q), some (.ref r), some (.bl wh), some (.int (need : Nat)), some (.int (i : Nat)), some (.int z)] H := by
    refine ⟨_, (pss_cons (ps_if (PW.pt (pw_or (pt_cmpR op_eq (pv 3) pe_int (nomark _)) (pw_or1 (pt_cmpR op_lt (pv 5) pe_int (nomark _)))))
          (pss_one (ps_ret (pv 4)))
          pss_nil)
        (pss_one (ps_set (i := 3) sc.nd rfl (Or.inl rfl) (pe_op op_sub (pe_op op_add (pv 3) (pv 5)) pe_int)))), ?_⟩
    intro D i need x z hz h1 h2
    have hw := (numW_neg (rows := rows) (wh := wh) (x := x) hs).2
    refine ⟨_, rfl, rfl, _, rfl, if_dec (fun c => ?_) (fun c => ?_)⟩
    · have : need = 0 := by have := V.int.inj c; omega
      exact ⟨_, rfl, h1 (.inl this)⟩
    · have hn : need ≠ 0 := fun e => c (by rw [e]; rfl)
      refine ⟨_, rfl, _, _, rfl, rfl, _, rfl, if_dec (fun c => ?_) (fun c => ?_)⟩
      · exact ⟨_, rfl, h1 (.inr (by omega))⟩
      · have h0 : 0 ≤ numW rows wh x := by omega
        have e := hw h0
        refine ⟨_, rfl, _, rfl, _, _, rfl, rfl, _, _, rfl, rfl, ?_⟩
        have q := h2 (by omega) h0
        rw [show ((need - 1 + ar rows x : Nat) : Int) = (need : Int) + z - 1 by omega] at q
        exact q
  obtain ⟨tR, pR, hRest⟩ := rest
  refine ⟨_, (pss_cons (ps_set (i := 3) sc.nd rfl (Or.inl rfl) pe_int)
      (pss_cons (ps_for (passes_of rfl) rfl (pi_range1 rfl T.range (pa_cons (pe_callB call_len_seq (by rfl) T.len (by decide +kernel) (pa_cons (pv 1) pa_nil)) pa_nil)) (pg_name (i := 4) sc.nd rfl (Or.inl rfl))
        (pss_cons (ps_set (i := 5) sc.nd rfl (Or.inl rfl) (pe_cal c_law_number hr (pa_cons (pv 0) (pa_cons (pe_ix ix_tup (pv 1) (pv 4) (fun _ _ => rfl)) pa_nil))))
        (pss_cons (ps_if (PW.pt (pw_and (pt_val (pv 2)) (pw_and1 (pt_cmpR op_eq (pe_ix ix_tup (pv 1) (pv 4) (fun _ _ => rfl)) pe_str (nomark _)))))
          (pss_one (ps_set (i := 5) sc.nd rfl (Or.inl rfl) pe_int))
          pss_nil)
        pR)))
      (pss_cons (ps_if (pt_cmpR op_gt (pv 3) pe_int (nomark _))
        (pss_one (ps_ret (pe_callB call_len_seq (by rfl) T.len (by decide +kernel) (pa_cons (pv 1) pa_nil))))
        pss_nil)
      (pss_one (ps_ret (pe_un un_neg pe_int)))))), ?_⟩
  refine ⟨_, rfl, r, _, rfl, .inr hR, _, rfl, by omega, by rw [List.length_map]; omega, for_rng (n := (l.map V.str).length)
    (fun i σ H' => ∃ (need : Nat) (t4 t5 : Option V), σ = [some (.ref q), some (.ref r), some (.bl wh), some (.int (need : Nat)), t4, t5] ∧ H' = H ∧ fa rows (lvs wh) need i (l.drop i) = fa rows (lvs wh) 1 0 l)
    ⟨1, none, none, rfl, rfl, by rw [List.drop_zero]⟩ ?_ ?_⟩
  · rintro i σ H2 hi ⟨need, t4, t5, rfl, rfl, e⟩
    rw [List.length_map] at hi
    obtain ⟨x, ex⟩ : ∃ x, l[i]? = some x := ⟨_, List.getElem?_eq_getElem hi⟩
    rw [drop_of ex, fa] at e
    have ea : atI (l.map V.str) (i : Nat) = some (.str x) := atI_nat (by rw [List.getElem?_map, ex]; rfl)
    have hw := (numW_neg (rows := rows) (wh := wh) (x := x) hs)
    have goal : ∀ (D : Ends), D.rt = Q → (∀ (need : Nat) (t4 t5 : Option V), fa rows (lvs wh) need (i + 1) (l.drop (i + 1)) = fa rows (lvs wh) 1 0 l → D.nx [some (.ref q), some (.ref r), some (.bl wh), some (.int (need : Nat)), t4, t5] H2) →
        ∀ z, z = numW rows wh x → tR D [some (.ref q), some (.ref r), some (.bl wh), some (.int (need : Nat)), some (.int (i : Nat)), some (.int z)] H2 := by
      intro D hD hn z hz
      refine hRest D i need x z hz (fun c => ?_) (fun c1 c2 => hn _ _ _ ?_)
      · rw [hD]
        by_cases c0 : need = 0
        · rw [if_pos c0] at e
          rw [← e] at hq
          exact hq
        · rw [if_neg c0, if_pos (hw.1.mp (c.resolve_left c0))] at e
          rw [← e] at hq
          exact hq
      · rw [if_neg (by omega), if_neg (fun y => by have := hw.1.mpr y; omega)] at e
        exact e
    refine ⟨_, rfl, _, rfl, _, rfl, r, _, _, _, rfl, rfl, hR, ea, q, rows, x, rfl, hRL, ?_⟩
    refine ⟨_, rfl, wh, rfl, if_bool (fun c1 => ?_) (fun c1 => ?_)⟩
    · refine ⟨_, rfl, _, rfl, r, _, _, _, rfl, rfl, hR, ea, rfl, _, rfl, if_dec (fun c2 => ?_) (fun c2 => ?_)⟩
      · refine goal _ ?_ ?_ 0 ?_
        · rfl
        · exact fun need t4 t5 e' => ⟨need, t4, t5, rfl, rfl, e'⟩
        · unfold numW
          rw [if_pos ⟨c1, V.str.inj c2⟩]
      · refine goal _ ?_ ?_ _ ?_
        · rfl
        · exact fun need t4 t5 e' => ⟨need, t4, t5, rfl, rfl, e'⟩
        · unfold numW
          rw [if_neg fun y => c2 (by rw [y.2])]
    · refine goal _ ?_ ?_ _ ?_
      · rfl
      · exact fun need t4 t5 e' => ⟨need, t4, t5, rfl, rfl, e'⟩
      · unfold numW
        rw [if_neg fun y => by rw [c1] at y; cases y.1]
  · rintro σ _ ⟨need, t4, t5, rfl, rfl, e⟩
    rw [List.length_map, List.drop_length, fa] at e
    refine ⟨_, rfl, _, _, rfl, rfl, _, rfl, if_dec (fun c => ?_) (fun c => ?_)⟩
    · rw [if_pos (by omega)] at e
      rw [← e] at hq
      exact ⟨_, rfl, r, _, rfl, .inr hR, by rw [List.length_map]; exact hq⟩
    · rw [if_neg (by omega)] at e
      rw [← e] at hq
      exact ⟨_, rfl, hq⟩
end
end Sy
namespace Sy
open PySem PySem.Spec PyProof.Rows L2
/-- data of at most that depth -/
def Fit : Nat → PyData → Prop
  | _, .none => True
  | _, .bool _ => True
  | _, .int _ => True
  | _, .str _ => True
  | n + 1, .tuple ds => ds.length ≤ 1000000 ∧ ∀ d ∈ ds, Fit n d
  | _, _ => False
theorem tyx_tup {K : PySem.W.Frag} {H : Hp} {a : Addr} {xs : List V} (h : SqT K H a xs) : TyX K H (.ref a) (.type "tuple") := by
  rcases h with (h | ⟨o, h⟩) | ⟨o, its, n, hk, hc, _⟩
  · exact .base (.tup h)
  · exact .fTuple h
  · exact .kTuple hk hc
section
variable {P : Program} {w : World} {K : PySem.W.Frag} {mg : Str → Option Value} {base : Heap}
def spSame (K : PySem.W.Frag) (n : Nat) : Sp := fun vs H Q _ => ∃ (x y : V) (d d' : PyData), vs = [x, y] ∧ Im K H x d ∧ Im K H y d' ∧ Fit n d' ∧ ((d = d' ∧ Q (.bl true) H) ∨ ∃ ds es, d = .tuple ds ∧ d' = .tuple es ∧ ds.length ≠ es.length ∧ Q (.bl false) H)
abbrev N_same : List Str := ["_law_told", "_law_due_here", "_law_k"]
theorem sc_same : FnScope N_same ["_law_told", "_law_due_here"] (defScope (top 74)) := ⟨rfl, rfl, rfl, by decide +kernel, rfl, by decide +kernel, by decide +kernel⟩
/-- the names of the built-in classes that are asked for -/
structure TxtC (mg : Str → Option Value) : Prop where
  tuple : mg "tuple" = none
  bool : mg "bool" = none
  int : mg "int" = none
  str : mg "str" = none
  isinstance : mg "isinstance" = none
  len : mg "len" = none
  range : mg "range" = none
theorem k_same (T : TxtC mg) (F : DF K mg "_law_same" 74) : ∀ n : Nat, Cal P w K mg base (n + 1) "_law_same" ["_law_told", "_law_due_here"] (spSame K n) := by
  -- what is no tuple
  have flat : ∀ (k : Nat) (cdv : Value) (A : Around) (outer : List Env) (s : Shared) (H : Hp) (E : XK), Room k (A.deeper (envOfC "_law_same" (defScope (top 74)) s.heap.objs.size (He.ga K "_law_same") cdv)) →
      ∃ t, PSs (cxOf (L2.CX P w) P w K mg base N_same "_law_same" (defScope (top 74)) (He.ga K "_law_same") cdv A outer s H E) ((defBody (top 74)).drop 2) t ∧ ∀ (D : Ends) (Q : VK) (x y : V) (d : PyData), Im K H x d → Im K H y d → D.rt = Q → (∀ ds, d ≠ .tuple ds) → d ≠ .none → Q (.bl true) H → t D [some x, some y, none] H := by
    intro k cdv A outer s H E hr
    refine ⟨_, (pss_cons (ps_if (pt_val (pe_callB call_isi (by rfl) T.isinstance (by decide +kernel) (pa_cons (pv 1) (pa_cons (pe_bltn (v := .ty "bool") (by rfl) T.bool (by decide +kernel) rfl) pa_nil))))
        (pss_one (ps_ret (pe_and (pe_callB call_isi (by rfl) T.isinstance (by decide +kernel) (pa_cons (pv 0) (pa_cons (pe_bltn (v := .ty "bool") (by rfl) T.bool (by decide +kernel) rfl) pa_nil))) (pe_one (pe_cmpR op_eq (pv 0) (pv 1) (nomark _))))))
        pss_nil)
      (pss_cons (ps_if (pt_val (pe_callB call_isi (by rfl) T.isinstance (by decide +kernel) (pa_cons (pv 1) (pa_cons (pe_bltn (v := .ty "int") (by rfl) T.int (by decide +kernel) rfl) pa_nil))))
        (pss_one (ps_ret (pe_and (pe_callB call_isi (by rfl) T.isinstance (by decide +kernel) (pa_cons (pv 0) (pa_cons (pe_bltn (v := .ty "int") (by rfl) T.int (by decide +kernel) rfl) pa_nil))) (pe_and (pe_not (pe_callB call_isi (by rfl) T.isinstance (by decide +kernel) (pa_cons (pv 0) (pa_cons (pe_bltn (v := .ty "bool") (by rfl) T.bool (by decide +kernel) rfl) pa_nil)))) (pe_one (pe_cmpR op_eq (pv 0) (pv 1) (nomark _)))))))
        pss_nil)
      (pss_one (ps_ret (pe_and (pe_callB call_isi (by rfl) T.isinstance (by decide +kernel) (pa_cons (pv 0) (pa_cons (pe_bltn (v := .ty "str") (by rfl) T.str (by decide +kernel) rfl) pa_nil))) (pe_one (pe_cmpR op_eq (pv 0) (pv 1) (nomark _)))))))), ?_⟩
    intro D Q x y d ix iy hD nt nn hq
    cases ix with
    | non => exact absurd rfl nn
    | tup _ _ => exact absurd rfl (nt _)
    | bl b =>
      cases iy
      refine ⟨_, rfl, _, _, _, _, true, rfl, .ty _, .base (.bl b), kit_ty (by decide +kernel), _, rfl, iteT ?_⟩
      refine ⟨_, rfl, _, _, _, _, true, rfl, .ty _, .base (.bl b), kit_ty (by decide +kernel), _, rfl, iteT ?_⟩
      refine ⟨_, rfl, _, rfl, rfl, ?_⟩
      rw [hD, decide_eq_true rfl]
      exact hq
    | int i =>
      cases iy
      refine ⟨_, rfl, _, _, _, _, false, rfl, .ty _, .base (.int i), kit_ty (by decide +kernel), _, rfl, iteF ?_⟩
      refine ⟨_, rfl, _, _, _, _, true, rfl, .ty _, .base (.int i), kit_ty (by decide +kernel), _, rfl, iteT ?_⟩
      refine ⟨_, rfl, _, _, _, _, true, rfl, .ty _, .base (.int i), kit_ty (by decide +kernel), _, rfl, iteT ?_⟩
      refine ⟨_, rfl, _, _, _, _, false, rfl, .ty _, .base (.int i), kit_ty (by decide +kernel), _, rfl, _, rfl, iteT ?_⟩
      refine ⟨_, rfl, _, rfl, rfl, ?_⟩
      rw [hD, decide_eq_true rfl]
      exact hq
    | str z =>
      cases iy
      refine ⟨_, rfl, _, _, _, _, false, rfl, .ty _, .base (.str z), kit_ty (by decide +kernel), _, rfl, iteF ?_⟩
      refine ⟨_, rfl, _, _, _, _, false, rfl, .ty _, .base (.str z), kit_ty (by decide +kernel), _, rfl, iteF ?_⟩
      refine ⟨_, rfl, _, _, _, _, true, rfl, .ty _, .base (.str z), kit_ty (by decide +kernel), _, rfl, iteT ?_⟩
      refine ⟨_, rfl, _, rfl, rfl, ?_⟩
      rw [hD, decide_eq_true rfl]
      exact hq
  have len : ∀ n vs H Q E, spSame K n vs H Q E → vs.length = (["_law_told", "_law_due_here"] : List Str).length := fun n vs H Q E s => by obtain ⟨_, _, _, _, rfl, _⟩ := s; rfl
  -- what is asked of all but a tuple
  have notT : ∀ {H : Hp} {y : V} {d : PyData}, Im K H y d → (∀ ds, d ≠ .tuple ds) → ∃ t, TyX K H y t ∧ PySem.W.kitOne K t (.type "tuple") = some false := by
    intro H y d iy nt
    cases iy with
    | non => exact ⟨_, .base .non, kit_ty (by decide +kernel)⟩
    | bl b => exact ⟨_, .base (.bl b), kit_ty (by decide +kernel)⟩
    | int i => exact ⟨_, .base (.int i), kit_ty (by decide +kernel)⟩
    | str z => exact ⟨_, .base (.str z), kit_ty (by decide +kernel)⟩
    | tup _ _ => exact absurd rfl (nt _)
  intro n
  induction n with
  | zero =>
    refine cal_of F.1 F.2 sc_same (fun _ _ _ _ _ _ us e => match us, e with | [_, _], _ => rfl) (len 0) ?_
    intro cdv A outer s H vs Q E hr h
    obtain ⟨x, y, d, d', rfl, ix, iy, fit, hq⟩ := h
    have hq2 : d = d' ∧ Q (.bl true) H := hq.elim id fun ⟨_, es, _, e, _⟩ => by rw [e] at fit; exact fit.elim
    clear hq
    obtain ⟨rfl, hq⟩ := hq2
    obtain ⟨t, pt, ht⟩ := flat 0 cdv A outer s H E hr
    refine ⟨_, (pss_cons (ps_if (pt_cmpR op_isN (pv 1) pe_non (nomark _))
        (pss_one (ps_ret (pe_cmpR op_isN (pv 0) pe_non (nomark _))))
        pss_nil)
      (pss_cons (ps_if (pt_val (pe_callB call_isi (by rfl) T.isinstance (by decide +kernel) (pa_cons (pv 1) (pa_cons (pe_bltn (v := .ty "tuple") (by rfl) T.tuple (by decide +kernel) rfl) pa_nil))))
        (pss_cons ps_never (pss_cons ps_never (pss_one ps_never)))
        pss_nil)
      pt)), ?_⟩
    have nt : ∀ ds, d ≠ .tuple ds := fun ds z => by rw [z] at fit; exact fit
    refine ⟨_, rfl, rfl, _, rfl, if_dec (fun c => ?_) (fun c => ?_)⟩
    · subst c
      cases iy
      cases ix
      refine ⟨_, rfl, rfl, ?_⟩
      rw [decide_eq_true rfl]
      exact hq
    · obtain ⟨ty, h1, h2⟩ := notT iy nt
      exact ⟨_, rfl, _, _, _, _, false, rfl, .ty _, h1, h2, _, rfl, iteF (ht _ Q x y d ix iy rfl nt (fun z => by subst z; cases iy; exact c rfl) hq)⟩
  | succ n ih =>
    refine cal_of F.1 F.2 sc_same (fun _ _ _ _ _ _ us e => match us, e with | [_, _], _ => rfl) (len (n + 1)) ?_
    intro cdv A outer s H vs Q E hr h
    obtain ⟨x, y, d, d', rfl, ix, iy, fit, hq⟩ := h
    have sc := sc_same
    obtain ⟨t, pt, ht⟩ := flat (n + 1) cdv A outer s H E hr
    refine ⟨_, (pss_cons (ps_if (pt_cmpR op_isN (pv 1) pe_non (nomark _))
        (pss_one (ps_ret (pe_cmpR op_isN (pv 0) pe_non (nomark _))))
        pss_nil)
      (pss_cons (ps_if (pt_val (pe_callB call_isi (by rfl) T.isinstance (by decide +kernel) (pa_cons (pv 1) (pa_cons (pe_bltn (v := .ty "tuple") (by rfl) T.tuple (by decide +kernel) rfl) pa_nil))))
        (pss_cons (ps_if (PW.pt (pw_or (pt_not (pt_val (pe_callB call_isi (by rfl) T.isinstance (by decide +kernel) (pa_cons (pv 0) (pa_cons (pe_bltn (v := .ty "tuple") (by rfl) T.tuple (by decide +kernel) rfl) pa_nil))))) (pw_or1 (pt_cmpR op_ne (pe_callB call_len_seq (by rfl) T.len (by decide +kernel) (pa_cons (pv 0) pa_nil)) (pe_callB call_len_seq (by rfl) T.len (by decide +kernel) (pa_cons (pv 1) pa_nil)) (nomark _)))))
          (pss_one (ps_ret pe_bl))
          pss_nil)
        (pss_cons (ps_for (passes_of rfl) rfl (pi_range1 rfl T.range (pa_cons (pe_callB call_len_seq (by rfl) T.len (by decide +kernel) (pa_cons (pv 1) pa_nil)) pa_nil)) (pg_name (i := 2) sc.nd rfl (Or.inl rfl))
          (pss_one (ps_if (pt_not (pt_val (pe_cal ih hr (pa_cons (pe_ix ix_tup (pv 0) (pv 2) (fun _ _ => rfl)) (pa_cons (pe_ix ix_tup (pv 1) (pv 2) (fun _ _ => rfl)) pa_nil)) (Nat.le_refl _))))
            (pss_one (ps_ret pe_bl))
            pss_nil)))
        (pss_one (ps_ret pe_bl))))
        pss_nil)
      pt)), ?_⟩
    rcases hq with ⟨rfl, hq⟩ | ⟨ds, es, rfl, rfl, hne, hq⟩
    case inr =>
      obtain ⟨a, xs, rfl, ta, ia⟩ := ix.tupI
      obtain ⟨b, ys, rfl, tb, ib⟩ := iy.tupI
      have la := ia.len
      have lb := ib.len
      refine ⟨_, rfl, rfl, _, rfl, if_dec (fun c => by cases c) (fun c => ?_)⟩
      refine ⟨_, rfl, _, _, _, _, true, rfl, .ty _, tyx_tup tb, kit_ty (by decide +kernel), _, rfl, iteT ?_⟩
      refine ⟨_, rfl, _, _, _, _, true, rfl, .ty _, tyx_tup ta, kit_ty (by decide +kernel), _, rfl, iteF ?_⟩
      refine ⟨_, rfl, a, _, rfl, .inr ta, _, rfl, b, _, rfl, .inr tb, rfl, _, rfl, ?_⟩
      rw [la, lb, decide_eq_false (fun z => hne (by have := V.int.inj z; omega))]
      exact iteT hq
    refine ⟨_, rfl, rfl, _, rfl, if_dec (fun c => ?_) (fun c => ?_)⟩
    · subst c
      cases iy
      cases ix
      refine ⟨_, rfl, rfl, ?_⟩
      rw [decide_eq_true rfl]
      exact hq
    by_cases nt : ∀ ds, d ≠ .tuple ds
    · obtain ⟨ty, h1, h2⟩ := notT iy nt
      exact ⟨_, rfl, _, _, _, _, false, rfl, .ty _, h1, h2, _, rfl, iteF (ht _ Q x y d ix iy rfl nt (fun z => by subst z; cases iy; exact c rfl) hq)⟩
    · obtain ⟨ds, rfl⟩ : ∃ ds, d = .tuple ds := by
        cases d with
        | tuple ds => exact ⟨ds, rfl⟩
        | _ => exact absurd (fun _ z => by cases z) nt
      obtain ⟨a, xs, rfl, ta, ia⟩ := ix.tupI
      obtain ⟨b, ys, rfl, tb, ib⟩ := iy.tupI
      have la := ia.len
      have lb := ib.len
      have hz : ds.length ≤ 1000000 := fit.1
      refine ⟨_, rfl, _, _, _, _, true, rfl, .ty _, tyx_tup tb, kit_ty (by decide +kernel), _, rfl, iteT ?_⟩
      refine ⟨_, rfl, _, _, _, _, true, rfl, .ty _, tyx_tup ta, kit_ty (by decide +kernel), _, rfl, iteF ?_⟩
      refine ⟨_, rfl, a, _, rfl, .inr ta, _, rfl, b, _, rfl, .inr tb, rfl, _, rfl, ?_⟩
      rw [la, lb, decide_eq_true rfl]
      refine iteF ⟨_, rfl, b, _, rfl, .inr tb, _, rfl, by omega, by omega, for_rng (n := ys.length) (fun i σ H' => ∃ t2, σ = [some (.ref a), some (.ref b), t2] ∧ H' = H) ⟨_, rfl, rfl⟩ ?_ ?_⟩
      · rintro i σ H1 hi ⟨t2, rfl, rfl⟩
        obtain ⟨d, ed⟩ : ∃ d, ds[i]? = some d := ⟨_, List.getElem?_eq_getElem (by omega)⟩
        obtain ⟨u, eu, iu⟩ := ia.get ed
        obtain ⟨v, ev, iv⟩ := ib.get ed
        exact ⟨_, rfl, _, rfl, a, _, _, _, rfl, rfl, ta, atI_nat eu, _, rfl, _, rfl, b, _, _, _, rfl, rfl, tb, atI_nat ev, u, v, d, d, rfl, iu, iv, fit.2 d (List.mem_of_getElem? ed), .inl ⟨rfl, _, rfl, iteF ⟨_, rfl, rfl⟩⟩⟩
      · rintro σ H1 ⟨t2, rfl, rfl⟩
        exact hq
end
end Sy
namespace Sy
open PySem PySem.Spec PyProof.Rows L2
theorem flat_one {α : Type} (n : Nat) (x : α) : (List.replicate n [x]).flatten = List.replicate n x := by
  induction n with
  | zero => rfl
  | succ n ih => rw [List.replicate_succ, List.flatten_cons, ih]; rfl
/-- what the law says of a row -/
def dD : Option Er → PyData
  | none => .none
  | some e => e.dat
def ckW (rows : List Sy.Row) (wh : Bool) (l : List Str) : Option Er := ckr (if wh = true then Er.stump else Er.plant) rows (lvs wh) l
theorem ckW_t (rows : List Sy.Row) (l : List Str) : ckW rows true l = ckS rows l := rfl
theorem ckW_f (rows : List Sy.Row) (l : List Str) : ckW rows false l = ckP rows l := rfl
theorem Er.dat_tup : ∀ e : Er, ∃ ds, e.dat = .tuple ds
  | .many => ⟨_, rfl⟩
  | .plant _ => ⟨_, rfl⟩
  | .stump _ => ⟨_, rfl⟩
  | .path _ => ⟨_, rfl⟩
  | .kind _ => ⟨_, rfl⟩
  | .wrong _ _ => ⟨_, rfl⟩
section
variable {P : Program} {w : World} {K : PySem.W.Frag} {mg : Str → Option Value} {base : Heap}
theorem im_none {H : Hp} {v : V} (h : Im K H v (dD none)) : v = .non := by
  cases h
  rfl
theorem im_some {H : Hp} {v : V} {e : Er} (h : Im K H v (dD (some e))) : ∃ a, v = .ref a := by
  obtain ⟨ds, e2⟩ := e.dat_tup
  have h : Im K H v e.dat := h
  rw [e2] at h
  cases h
  exact ⟨_, rfl⟩
/-! _law_due -/
def spDueL (K : PySem.W.Frag) : Sp := fun vs H Q _ => ∃ (q r : Addr) (wh : Bool) (rows : List Sy.Row) (l : List Str), vs = [.ref q, .ref r, .bl wh] ∧ RL K H q rows ∧ SqT K H r (l.map V.str) ∧ isK rows "*" = false ∧ l.length ≤ 100000 ∧ ∀ H' v, Same H H' → Im K H' v (dD (ckW rows wh l)) → Q v H'
abbrev N_dueL : List Str := ["_law_rows_here", "_law_row", "_law_with_holes", "_law_place_here"]
theorem sc_dueL : FnScope N_dueL ["_law_rows_here", "_law_row", "_law_with_holes"] (defScope (top 71)) := ⟨rfl, rfl, rfl, by decide +kernel, rfl, by decide +kernel, by decide +kernel⟩
theorem k_dueL (T : Txt K mg) (F : DF K mg "_law_due" 71) (c_law_fault : Cal P w K mg base 2 "_law_fault" ["_law_rows_here", "_law_plant_here", "_law_with_holes"] (spFaultL K)) : Cal P w K mg base 3 "_law_due" ["_law_rows_here", "_law_row", "_law_with_holes"] (spDueL K) := by
  refine cal_of F.1 F.2 sc_dueL (fun _ _ _ _ _ _ us e => match us, e with | [_, _, _], _ => rfl) (fun vs H Q E s => by obtain ⟨_, _, _, _, _, rfl, _⟩ := s; rfl) ?_
  intro cdv A outer s H vs Q E hr h
  obtain ⟨q, r, wh, rows, l, rfl, hRL, hR, hs, hlen, hq⟩ := h
  have sc := sc_dueL
  refine ⟨_, (pss_cons (ps_if (pt_cmpR op_gt (pe_callB call_len_seq (by rfl) T.len (by decide +kernel) (pa_cons (pv 1) pa_nil)) pe_int (nomark _))
        (pss_one (ps_ret (pe_tup (pa_cons pe_str (pa_cons pe_str (pa_cons pe_int pa_nil))))))
        pss_nil)
      (pss_cons (ps_set (i := 3) sc.nd rfl (Or.inl rfl) (pe_cal c_law_fault hr (pa_cons (pv 0) (pa_cons (pv 1) (pa_cons (pv 2) pa_nil)))))
      (pss_cons (ps_if (pt_cmpR op_lt (pv 3) pe_int (nomark _))
        (pss_one (ps_ret pe_non))
        pss_nil)
      (pss_cons (ps_if (pt_val (pv 2))
        (pss_one (ps_ret (pe_tup (pa_cons pe_str (pa_cons (pv 3) pa_nil)))))
        pss_nil)
      (pss_one (ps_ret (pe_tup (pa_cons pe_str (pa_cons (pv 3) pa_nil))))))))), ?_⟩
  unfold ckW ckr at hq
  refine ⟨_, rfl, r, _, rfl, .inr hR, _, _, rfl, rfl, _, rfl, if_dec (fun c => ?_) (fun c => ?_)⟩
  · rw [List.length_map] at c
    rw [if_pos (by omega)] at hq
    exact ⟨by show 3 ≤ sizeLine; decide, fun p hp => hq _ _ (up_same hp) (.tup (SqT.of upd_same) (.cons (.str _) (.cons (.str _) (.cons (.int _) .nil))))⟩
  rw [List.length_map] at c
  rw [if_neg (by omega)] at hq
  refine ⟨_, rfl, _, rfl, _, rfl, q, r, wh, rows, l, rfl, hRL, hR, hs, hlen, ?_⟩
  generalize fa rows (lvs wh) 1 0 l = f at hq
  refine ⟨_, rfl, _, _, rfl, rfl, _, rfl, if_dec (fun c2 => ?_) (fun c2 => ?_)⟩
  · rw [if_neg (by omega)] at hq
    exact hq H _ (Same.refl H) .non
  rw [if_pos (by omega)] at hq
  obtain ⟨n, rfl⟩ : ∃ n : Nat, f = (n : Int) := ⟨f.toNat, by omega⟩
  rw [show ((n : Int)).toNat = n by omega] at hq
  refine ⟨_, rfl, wh, rfl, if_bool (fun c3 => ?_) (fun c3 => ?_)⟩
  · rw [if_pos c3] at hq
    exact ⟨_, rfl, by show 2 ≤ sizeLine; decide, fun p hp => hq _ _ (up_same hp) (.tup (SqT.of upd_same) (.cons (.str _) (.cons (.int _) .nil)))⟩
  · rw [if_neg (by rw [c3]; exact Bool.false_ne_true)] at hq
    exact ⟨_, rfl, by show 2 ≤ sizeLine; decide, fun p hp => hq _ _ (up_same hp) (.tup (SqT.of upd_same) (.cons (.str _) (.cons (.int _) .nil)))⟩
/-! _law_ends -/
def spEnds (K : PySem.W.Frag) : Sp := fun vs H Q _ => ∃ (q r : Addr) (rows : List Sy.Row) (l : List Str), vs = [.ref q, .ref r] ∧ RL K H q rows ∧ SqT K H r (l.map V.str) ∧ Pln rows l ∧ ∀ H' p, H p = none → Same H H' → H' p = some (.lst (vN (ens (wt rows l)))) → Q (.ref p) H'
abbrev N_ends : List Str := ["_law_rows_here", "_law_plant_here", "_law_ends_here", "_law_k", "_law_place_here", "_law_behind", "_law_turn"]
theorem sc_ends : FnScope N_ends ["_law_rows_here", "_law_plant_here"] (defScope (top 69)) := ⟨rfl, rfl, rfl, by decide +kernel, rfl, by decide +kernel, by decide +kernel⟩
theorem k_ends (T : Txt K mg) (F : DF K mg "_law_ends" 69) (c_law_number : Cal P w K mg base 1 "_law_number" ["_law_rows_here", "_law_word_here"] (spNum K)) : Cal P w K mg base 2 "_law_ends" ["_law_rows_here", "_law_plant_here"] (spEnds K) := by
  refine cal_of F.1 F.2 sc_ends (fun _ _ _ _ _ _ us e => match us, e with | [_, _], _ => rfl) (fun vs H Q E s => by obtain ⟨_, _, _, _, rfl, _⟩ := s; rfl) ?_
  intro cdv A outer s H vs Q E hr h
  obtain ⟨q, r, rows, l, rfl, hRL, hR, hp, hq⟩ := h
  have sc := sc_ends
  refine ⟨_, (pss_cons (ps_set (i := 2) sc.nd rfl (Or.inl rfl) (pe_op op_rep (pe_lst (pa_cons pe_int pa_nil)) (pe_callB call_len_seq (by rfl) T.len (by decide +kernel) (pa_cons (pv 1) pa_nil))))
      (pss_cons (ps_for (passes_of rfl) rfl (pi_range1 rfl T.range (pa_cons (pe_callB call_len_seq (by rfl) T.len (by decide +kernel) (pa_cons (pv 1) pa_nil)) pa_nil)) (pg_name (i := 3) sc.nd rfl (Or.inl rfl))
        (pss_cons (ps_set (i := 4) sc.nd rfl (Or.inl rfl) (pe_op op_sub (pe_op op_sub (pe_callB call_len_seq (by rfl) T.len (by decide +kernel) (pa_cons (pv 1) pa_nil)) pe_int) (pv 3)))
        (pss_cons (ps_set (i := 5) sc.nd rfl (Or.inl rfl) (pe_op op_add (pv 4) pe_int))
        (pss_cons (ps_for (passes_of rfl) rfl (pi_range1 rfl T.range (pa_cons (pe_cal c_law_number hr (pa_cons (pv 0) (pa_cons (pe_ix ix_tup (pv 1) (pv 4) (fun _ _ => rfl)) pa_nil))) pa_nil)) (pg_name (i := 6) sc.nd rfl (Or.inl rfl))
          (pss_one (ps_set (i := 5) sc.nd rfl (Or.inl rfl) (pe_ix ix_list (pv 2) (pv 5) (fun _ _ => rfl)))))
        (pss_one (ps_asg (pv 5) (pg_sub (pv 2) (pv 4) set_list)))))))
      (pss_one (ps_ret (pv 2))))), ?_⟩
  have hF := hp.fo
  have hsz := hp.le
  have hwl := wt_len rows l
  refine ⟨by decide, fun p0 hp0 => ?_⟩
  have h0 := (Hs.start H).lay (o := .lst [.int 0]) hp0
  refine ⟨_, rfl, r, _, rfl, .inr (Same.sqt h0.sub hR), p0, _, _, rfl, rfl, upd_same, by omega, by rw [List.length_map]; omega, by show 1 * _ ≤ _; rw [List.length_map, sizeLine_eq]; omega, fun D hD => ?_⟩
  rw [flat_one, List.length_map, show ((l.length : Int)).toNat = l.length by omega]
  have h1 := h0.new (o := .lst (List.replicate l.length (V.int 0))) hD
  have e1 : List.replicate l.length (V.int 0) = vN (List.replicate l.length 0) := by rw [vN, List.map_replicate]; rfl
  rw [e1] at h1 ⊢
  have hDn : H D = none := by
    have := hD
    by_cases z : D = p0
    · rw [z]; exact hp0
    · rw [upd_ne z] at this
      exact this
  refine ⟨_, rfl, r, _, rfl, .inr (Same.sqt h1.sub hR), _, rfl, by omega, by rw [List.length_map]; omega, for_rng (n := (l.map V.str).length)
    (fun i σ H' => ∃ t3 t4 t5 t6 ss, σ = [some (.ref q), some (.ref r), some (.ref D), t3, t4, t5, t6] ∧ Hs H [(D, .lst (vN ss))] H' ∧ ss.length = l.length ∧ ∀ j, l.length - i ≤ j → j < l.length → ss[j]? = some (en (wt rows l) j))
    ⟨none, none, none, none, List.replicate l.length 0, rfl, h1, by rw [List.length_replicate], fun j a b => by omega⟩ ?_ ?_⟩
  · rintro k σ H1 hk ⟨t3, t4, t5, t6, ss, rfl, hh, hl, hv⟩
    rw [List.length_map] at hk
    obtain ⟨i, hi⟩ : ∃ i : Nat, i = l.length - 1 - k := ⟨_, rfl⟩
    have hil : i < l.length := by omega
    have hiw : i < (wt rows l).length := by omega
    obtain ⟨y, hy⟩ : ∃ y, l[i]? = some y := ⟨_, List.getElem?_eq_getElem hil⟩
    have eaw : aw (wt rows l) i = ar rows y := wt_at hy
    have hal := aw_le hF hiw
    have hnum : numb rows y = (ar rows y : Nat) := numb_ar (hp.kn y (List.mem_of_getElem? hy))
    refine ⟨_, rfl, r, _, rfl, .inr (Same.sqt hh.sub hR), _, _, rfl, rfl, _, rfl, _, _, rfl, rfl, ?_⟩
    have epl : ((l.map V.str).length : Int) - 1 - (k : Nat) = (i : Int) := by rw [List.length_map]; omega
    refine ⟨_, rfl, _, _, rfl, rfl, ?_⟩
    refine ⟨_, rfl, _, rfl, _, rfl, r, _, _, _, rfl, rfl, Same.sqt hh.sub hR, by
      show atI _ (((l.map V.str).length : Int) - 1 - (k : Nat)) = _
      rw [epl]
      exact atI_nat (by rw [List.getElem?_map, hy]; rfl), q, rows, y, rfl, hRL.mono hh.sub, _, rfl, by omega, by omega, for_rng (n := (numb rows y).toNat)
      (fun t σ H2 => ∃ u6 z, σ = [some (.ref q), some (.ref r), some (.ref D), some (.int (k : Nat)), some (.int (i : Nat)), some (.int z), u6] ∧ z = (kd (wt rows l) i t : Nat) ∧ H2 = H1)
      ⟨_, ((l.map V.str).length : Int) - 1 - (k : Nat) + 1, by rw [← epl]; rfl, by rw [kd_zero]; omega, rfl⟩ ?_ ?_⟩
    · rintro t σ H2 ht ⟨u6, _, rfl, rfl, rfl⟩
      rw [hnum] at ht
      have hk2 := hF.kd_lt hiw (k := t) (by omega)
      have hk3 := kd_gt (w := wt rows l) (i := i) (k := t)
      exact ⟨_, rfl, _, rfl, D, _, _, _, rfl, rfl, SqL.of hh.r0, atI_nat (vN_at (hv _ (by omega) (by omega))), _, _, rfl, by rw [kd_succ], rfl⟩
    · rintro σ H2 ⟨u6, _, rfl, rfl, rfl⟩
      refine ⟨_, rfl, _, rfl, _, rfl, D, _, _, i, rfl, rfl, hh.r0, ixN_nat (by rw [List.length_map]; omega), _, _, _, _, _, rfl, by rw [vN_set]; exact hh.w0, by rw [List.length_set]; exact hl, fun j a b => ?_⟩
      rw [hnum, show ((ar rows y : Nat) : Int).toNat = ar rows y by omega, ← eaw, en_kd hiw]
      by_cases c : i = j
      · subst c
        rw [List.getElem?_set_self (by omega)]
      · rw [List.getElem?_set_ne c]
        exact hv j (by omega) b
  · rintro σ H1 ⟨t3, t4, t5, t6, ss, rfl, hh, hl, hv⟩
    have es : ss = ens (wt rows l) := ens_of (by omega) (fun j hj => hv j (by rw [List.length_map]; omega) (by omega))
    rw [es] at hh
    exact ⟨_, rfl, hq _ _ hDn hh.sub hh.r0⟩
end
end Sy
namespace Sy
open PySem PySem.Spec PyProof.Rows L2
/-- where a path leads, -1 for nowhere -/
def pzI (w : List Nat) (zs : List Int) : Int := match pz w 0 zs with
  | some i => (i : Int)
  | none => -1
theorem pln_ck {rows : List Sy.Row} {l : List Str} (h : Pln rows l) : ckP rows l = none := by
  unfold ckP ckr
  rw [if_neg (by have := h.le; omega), fa_ok h.fo h.kn, if_neg (by omega)]
theorem ck_le {rows : List Sy.Row} {wh : Bool} {l : List Str} (h : ckW rows wh l = none) : l.length ≤ 2000 := by
  unfold ckW ckr at h
  split at h
  · cases h
  · omega
section
variable {P : Program} {w : World} {K : PySem.W.Frag} {mg : Str → Option Value} {base : Heap}
/-- a list of numbers at e -/
theorem atN {H : Hp} {e : Addr} {ns : List Nat} {j n : Nat} (h : ns[j]? = some n) : atI (vN ns) (j : Nat) = some (.int (n : Nat)) := atI_nat (vN_at h)
theorem ens_get {w : List Nat} {j : Nat} (h : j < w.length) : (ens w)[j]? = some (en w j) := by
  rw [ens, List.getElem?_map, List.getElem?_range h]
  rfl
/-! _law_place -/
def spPlaceL (K : PySem.W.Frag) : Sp := fun vs H Q _ => ∃ (q r p : Addr) (rows : List Sy.Row) (l : List Str) (zs : List Int), vs = [.ref q, .ref r, .ref p] ∧ RL K H q rows ∧ SqT K H r (l.map V.str) ∧ Pln rows l ∧ SqT K H p (zs.map V.int) ∧ zs.length ≤ 5000 ∧ ∀ H', Same H H' → Q (.int (pzI (wt rows l) zs)) H'
abbrev N_placeL : List Str := ["_law_rows_here", "_law_row", "_law_path_here", "_law_ends_here", "_law_at", "_law_step", "_law_turn"]
theorem sc_placeL : FnScope N_placeL ["_law_rows_here", "_law_row", "_law_path_here"] (defScope (top 73)) := ⟨rfl, rfl, rfl, by decide +kernel, rfl, by decide +kernel, by decide +kernel⟩
theorem k_placeL (T : Txt K mg) (F : DF K mg "_law_place" 73) (c_law_number : Cal P w K mg base 1 "_law_number" ["_law_rows_here", "_law_word_here"] (spNum K)) (c_law_ends : Cal P w K mg base 2 "_law_ends" ["_law_rows_here", "_law_plant_here"] (spEnds K)) : Cal P w K mg base 3 "_law_place" ["_law_rows_here", "_law_row", "_law_path_here"] (spPlaceL K) := by
  refine cal_of F.1 F.2 sc_placeL (fun _ _ _ _ _ _ us e => match us, e with | [_, _, _], _ => rfl) (fun vs H Q E s => by obtain ⟨_, _, _, _, _, _, rfl, _⟩ := s; rfl) ?_
  intro cdv A outer s H vs Q E hr h
  obtain ⟨q, r, p, rows, l, zs, rfl, hRL, hR, hp, hP, hz, hq⟩ := h
  have sc := sc_placeL
  refine ⟨_, (pss_cons (ps_set (i := 3) sc.nd rfl (Or.inl rfl) (pe_cal c_law_ends hr (pa_cons (pv 0) (pa_cons (pv 1) pa_nil))))
      (pss_cons (ps_set (i := 4) sc.nd rfl (Or.inl rfl) pe_int)
      (pss_cons (ps_for (passes_of rfl) rfl (pi_tup (pv 2)) (pg_name (i := 5) sc.nd rfl (Or.inl rfl))
        (pss_cons (ps_if (PW.pt (pw_or (pt_cmpR op_lt (pv 5) pe_int (nomark _)) (pw_or1 (pt_cmpR op_ge (pv 5) (pe_cal c_law_number hr (pa_cons (pv 0) (pa_cons (pe_ix ix_tup (pv 1) (pv 4) (fun _ _ => rfl)) pa_nil))) (nomark _)))))
          (pss_one (ps_ret (pe_un un_neg pe_int)))
          pss_nil)
        (pss_cons (ps_set (i := 4) sc.nd rfl (Or.inl rfl) (pe_op op_add (pv 4) pe_int))
        (pss_one (ps_for (passes_of rfl) rfl (pi_range1 rfl T.range (pa_cons (pv 5) pa_nil)) (pg_name (i := 6) sc.nd rfl (Or.inl rfl))
          (pss_one (ps_set (i := 4) sc.nd rfl (Or.inl rfl) (pe_ix ix_list (pv 3) (pv 4) (fun _ _ => rfl)))))))))
      (pss_one (ps_ret (pv 4)))))), ?_⟩
  have hF := hp.fo
  have hwl := wt_len rows l
  have hle := hp.le
  refine ⟨_, rfl, _, rfl, q, r, rows, l, rfl, hRL, hR, hp, fun H1 e hen s1 he => ?_⟩
  have hR1 := Same.sqt s1 hR
  have hP1 := Same.sqt s1 hP
  have hRL1 := hRL.mono s1
  refine ⟨_, rfl, p, rfl, ⟨_, hP1⟩, for_tup (K := K) (a := p) (xs := zs.map V.int) (fun t σ H' => ∃ (i : Nat) (z : Int) (s5 s6 : Option V), σ = [some (.ref q), some (.ref r), some (.ref p), some (.ref e), some (.int z), s5, s6] ∧ z = (i : Nat) ∧ H' = H1 ∧ i < (wt rows l).length ∧ pz (wt rows l) i (zs.drop t) = pz (wt rows l) 0 zs)
    ⟨0, 0, none, none, rfl, rfl, rfl, hF.pos, by rw [List.drop_zero]⟩ (fun _ _ _ _ ⟨_, _, _, _, _, _, e, _⟩ => e ▸ hP1) ?_ ?_⟩
  · rintro t x σ H' hx ⟨i, _, s5, s6, rfl, rfl, rfl, hi, eq⟩
    obtain ⟨z, hz', rfl⟩ := map_at hx
    rw [drop_of hz', pz] at eq
    obtain ⟨y, hy⟩ : ∃ y, l[i]? = some y := ⟨_, List.getElem?_eq_getElem (by omega)⟩
    have eaw : aw (wt rows l) i = ar rows y := wt_at hy
    have hnum : numb rows y = (ar rows y : Nat) := numb_ar (hp.kn y (List.mem_of_getElem? hy))
    have no : ¬ (0 ≤ z ∧ z < (aw (wt rows l) i : Nat)) → Q (.int (-1)) H' := fun c => by
      rw [if_neg c] at eq
      have := hq H' s1
      unfold pzI at this
      rw [← eq] at this
      exact this
    refine ⟨_, rfl, _, _, rfl, rfl, _, rfl, if_dec (fun c => ?_) (fun c => ?_)⟩
    · exact iteT ⟨_, rfl, no fun q => by omega⟩
    · refine ⟨_, rfl, _, rfl, _, rfl, _, rfl, r, _, _, _, rfl, rfl, hR1, atI_nat (by rw [List.getElem?_map, hy]; rfl), q, rows, y, rfl, hRL1, _, _, rfl, rfl, _, rfl, if_dec (fun c2 => ?_) (fun c2 => ?_)⟩
      · exact ⟨_, rfl, no fun q => by omega⟩
      · have hin : 0 ≤ z ∧ z < (aw (wt rows l) i : Nat) := by omega
        rw [if_pos hin] at eq
        have hal := aw_le hF hi
        refine ⟨_, rfl, _, _, rfl, rfl, _, rfl, _, rfl, by omega, by omega, for_rng (n := z.toNat) (fun t2 σ H2 => ∃ (u6 : Option V) (zz : Int), σ = [some (.ref q), some (.ref r), some (.ref p), some (.ref e), some (.int zz), some (.int z), u6] ∧ zz = (kd (wt rows l) i t2 : Nat) ∧ H2 = H')
          ⟨_, _, rfl, by rw [kd_zero]; rfl, rfl⟩ ?_ ?_⟩
        · rintro t2 σ H2 ht ⟨u6, _, rfl, rfl, rfl⟩
          have hk2 := hF.kd_lt hi (k := t2) (by omega)
          exact ⟨_, rfl, _, rfl, e, _, _, _, rfl, rfl, SqL.of he, atI_nat (vN_at (ens_get hk2)), _, _, rfl, by rw [kd_succ], rfl⟩
        · rintro σ H2 ⟨u6, _, rfl, rfl, rfl⟩
          exact ⟨kd (wt rows l) i z.toNat, _, _, _, rfl, rfl, rfl, hF.kd_lt hi (by omega), eq⟩
  · rintro σ H' ⟨i, _, s5, s6, rfl, rfl, rfl, hi, eq⟩
    rw [List.length_map, List.drop_length] at eq
    have eq : some i = pz (wt rows l) 0 zs := eq
    have := hq H' s1
    unfold pzI at this
    rw [← eq] at this
    exact ⟨_, rfl, this⟩
/-! _law_path -/
def spPathL (K : PySem.W.Frag) : Sp := fun vs H Q _ => ∃ (g q r : Addr) (rows : List Sy.Row) (l : List Str), vs = [.ref g, .ref q, .ref r] ∧ Lw K H g q rows ∧ isK rows "*" = false ∧ Rw K H r l ∧ l.length ≤ 100000 ∧ ∀ (p : Addr) (H' : Hp) (zs : List Int), Dr g H H' → SqT K H' p (zs.map V.int) → zs.length ≤ 8 → (∀ z ∈ zs, -1 ≤ z ∧ z ≤ 5) → Q (.ref p) H'
abbrev N_pathL : List Str := ["_law_bag_here", "_law_rows_here", "_law_row", "_law_path_here", "_law_ends_here", "_law_at", "_law_k", "_law_many", "_law_step", "_law_turn", "_law_bend"]
theorem sc_pathL : FnScope N_pathL ["_law_bag_here", "_law_rows_here", "_law_row"] (defScope (top 72)) := ⟨rfl, rfl, rfl, by decide +kernel, rfl, by decide +kernel, by decide +kernel⟩
theorem SqT.dr {H H' : Hp} {g a : Addr} {xs : List V} (h : SqT K H a xs) (b : Bag g H) (d : Dr g H H') : SqT K H' a xs := (d.stay b).sqt h
theorem k_pathL (T : Txt K mg) (F : DF K mg "_law_path" 72) (c_law_draw : Cal P w K mg base 1 "_law_draw" ["_law_bag_here", "_law_size"] spDraw) (c_law_number : Cal P w K mg base 1 "_law_number" ["_law_rows_here", "_law_word_here"] (spNum K)) (c_law_due : Cal P w K mg base 3 "_law_due" ["_law_rows_here", "_law_row", "_law_with_holes"] (spDueL K)) (c_law_ends : Cal P w K mg base 2 "_law_ends" ["_law_rows_here", "_law_plant_here"] (spEnds K)) :
    Cal P w K mg base 4 "_law_path" ["_law_bag_here", "_law_rows_here", "_law_row"] (spPathL K) := by
  refine cal_of F.1 F.2 sc_pathL (fun _ _ _ _ _ _ us e => match us, e with | [_, _, _], _ => rfl) (fun vs H Q E s => by obtain ⟨_, _, _, _, _, rfl, _⟩ := s; rfl) ?_
  intro cdv A outer s H vs Q E hr h
  obtain ⟨g, q, r, rows, l, rfl, hlw, hs, hrw, hlen, hq⟩ := h
  have sc := sc_pathL
  have rest : ∃ t, PSs (cxOf (L2.CX P w) P w K mg base N_pathL "_law_path" (defScope (top 72)) (He.ga K "_law_path") cdv A outer s H E) ((defBody (top 72)).drop 2) t ∧
      ∀ (p : Addr) (zs : List Int) (H1 : Hp) (t4 t5 t6 t7 t8 t9 : Option V), Dr g H H1 → SqT K H1 p (zs.map V.int) → zs.length ≤ 7 → (∀ z ∈ zs, -1 ≤ z ∧ z ≤ 5) →
        t { nx := fun _ H' => Q .non H', rt := Q } [some (.ref g), some (.ref q), some (.ref r), some (.ref p), t4, t5, t6, t7, t8, t9, none] H1 := by
    refine ⟨_, (pss_cons (ps_set (i := 10) sc.nd rfl (Or.inl rfl) (pe_cal c_law_draw hr (pa_cons (pv 0) (pa_cons pe_int pa_nil))))
      (pss_cons (ps_if (pt_cmpR op_eq (pv 10) pe_int (nomark _))
        (pss_one (ps_ret (pe_op op_catA (pv 3) (pe_tup (pa_cons (pe_op op_sub pe_int pe_int) pa_nil)))))
        pss_nil)
      (pss_cons (ps_if (pt_cmpR op_eq (pv 10) pe_int (nomark _))
        (pss_one (ps_ret (pe_op op_catA (pv 3) (pe_tup (pa_cons (pe_cal c_law_draw hr (pa_cons (pv 0) (pa_cons pe_int pa_nil))) pa_nil)))))
        pss_nil)
      (pss_one (ps_ret (pv 3)))))), ?_⟩
    intro p zs H1 t4 t5 t6 t7 t8 t9 d1 hp hz hb
    refine ⟨_, rfl, g, 6, rfl, d1.bag, by decide, by decide, fun bend H2 hbend d2 => ?_⟩
    have hp2 := SqT.dr hp d1.bag d2
    have d12 := d1.trans d2
    have snoc : ∀ (z : Int), -1 ≤ z ∧ z ≤ 5 → ∀ y ∈ zs ++ [z], -1 ≤ y ∧ y ≤ 5 := fun z hz y hy => by
      rcases List.mem_append.mp hy with hy | hy
      · exact hb y hy
      · rw [List.mem_singleton.mp hy]; exact hz
    refine ⟨_, rfl, rfl, _, rfl, if_dec (fun c => ?_) (fun c => ?_)⟩
    · refine ⟨_, rfl, _, _, rfl, rfl, by show 1 ≤ sizeLine; decide, fun p2 hp2' => ?_⟩
      have s3 : Same H2 (upd H2 p2 (.tup [.int (0 - 1)])) := up_same hp2'
      refine cat_any (Same.sqt s3 hp2) (SqT.of upd_same) (by rw [List.length_map]; show _ + 1 ≤ _; omega) fun p3 H3 s4 t3 => hq p3 H3 (zs ++ [-1]) ((d12.same s3).same s4) ?_ (by rw [List.length_append]; show _ + 1 ≤ _; omega) (snoc _ (by omega))
      rw [List.map_append]
      exact t3
    refine ⟨_, rfl, rfl, _, rfl, if_dec (fun c => ?_) (fun c => ?_)⟩
    · refine ⟨_, rfl, _, rfl, g, 4, rfl, d12.bag, by decide, by decide, fun x H3 hx d3 => ?_⟩
      refine ⟨by show 1 ≤ sizeLine; decide, fun p2 hp2' => ?_⟩
      have s3 : Same H3 (upd H3 p2 (.tup [.int (x : Nat)])) := up_same hp2'
      have hp3 := SqT.dr hp2 d12.bag d3
      refine cat_any (Same.sqt s3 hp3) (SqT.of upd_same) (by rw [List.length_map]; show _ + 1 ≤ _; omega) fun p3 H4 s4 t3 => hq p3 H4 (zs ++ [(x : Int)]) (((d12.trans d3).same s3).same s4) ?_ (by rw [List.length_append]; show _ + 1 ≤ _; omega) (snoc _ (by omega))
      rw [List.map_append]
      exact t3
    · exact ⟨_, rfl, hq p H2 zs d12 hp2 (by omega) hb⟩
  obtain ⟨tR, pR, hRest⟩ := rest
  refine ⟨_, (pss_cons (ps_set (i := 3) sc.nd rfl (Or.inl rfl) (pe_tup pa_nil))
      (pss_cons (ps_if (pt_cmpR op_isN (pe_cal c_law_due hr (pa_cons (pv 1) (pa_cons (pv 2) (pa_cons pe_bl pa_nil)))) pe_non (nomark _))
        (pss_cons (ps_set (i := 4) sc.nd rfl (Or.inl rfl) (pe_cal c_law_ends hr (pa_cons (pv 1) (pa_cons (pv 2) pa_nil))))
        (pss_cons (ps_set (i := 5) sc.nd rfl (Or.inl rfl) pe_int)
        (pss_one (ps_for (passes_of rfl) rfl (pi_range1 rfl T.range (pa_cons (pe_cal c_law_draw hr (pa_cons (pv 0) (pa_cons pe_int pa_nil))) pa_nil)) (pg_name (i := 6) sc.nd rfl (Or.inl rfl))
          (pss_cons (ps_set (i := 7) sc.nd rfl (Or.inl rfl) (pe_cal c_law_number hr (pa_cons (pv 1) (pa_cons (pe_ix ix_tup (pv 2) (pv 5) (fun _ _ => rfl)) pa_nil))))
          (pss_one (ps_if (pt_cmpR op_gt (pv 7) pe_int (nomark _))
            (pss_cons (ps_set (i := 8) sc.nd rfl (Or.inl rfl) (pe_cal c_law_draw hr (pa_cons (pv 0) (pa_cons (pv 7) pa_nil))))
            (pss_cons (ps_set (i := 3) sc.nd rfl (Or.inl rfl) (pe_op op_catA (pv 3) (pe_tup (pa_cons (pv 8) pa_nil))))
            (pss_cons (ps_set (i := 5) sc.nd rfl (Or.inl rfl) (pe_op op_add (pv 5) pe_int))
            (pss_one (ps_for (passes_of rfl) rfl (pi_range1 rfl T.range (pa_cons (pv 8) pa_nil)) (pg_name (i := 9) sc.nd rfl (Or.inl rfl))
              (pss_one (ps_set (i := 5) sc.nd rfl (Or.inl rfl) (pe_ix ix_list (pv 4) (pv 5) (fun _ _ => rfl)))))))))
            pss_nil)))))))
        pss_nil)
      pR)), ?_⟩
  refine ⟨by decide, fun p0 hp0 => ?_⟩
  have s0 : Same H (upd H p0 (.tup [])) := up_same hp0
  have lw0 := hlw.same s0
  have rw0 := hrw.mono s0
  have d0 : Dr g H (upd H p0 (.tup [])) := (Dr.refl hlw.bag).same s0
  have tp0 : SqT K (upd H p0 (.tup [])) p0 (([] : List Int).map V.int) := SqT.of upd_same
  generalize upd H p0 (.tup []) = H0 at *
  refine ⟨_, rfl, _, rfl, q, r, false, rows, l, rfl, lw0.rl, rw0.sq, hs, hlen, fun H1 v s1 iv => ⟨rfl, _, rfl, if_dec (fun c => ?_) (fun c => ?_)⟩⟩
  · have hck : ckP rows l = none := by
      rw [← ckW_f]
      cases e : ckW rows false l with
      | none => rfl
      | some e2 =>
        rw [e] at iv
        obtain ⟨a, ha⟩ := im_some iv
        rw [ha] at c
        cases c
    have hp := pln_of hck
    have hF := hp.fo
    have hwl := wt_len rows l
    have lw1 := lw0.same s1
    have rw1 := rw0.mono s1
    refine ⟨_, rfl, _, rfl, q, r, rows, l, rfl, lw1.rl, rw1.sq, hp, fun H2 e hen s2 he => ?_⟩
    have lw2 := lw1.same s2
    have heg : e ≠ g := lw1.bag.neq hen
    refine ⟨_, rfl, g, 7, rfl, lw2.bag, by decide, by decide, fun n H3 hn d3 => ?_⟩
    have lw3 := lw2.dr d3
    have he3 : H3 e = some (.lst (vN (ens (wt rows l)))) := by
      obtain ⟨_, _, c⟩ := d3
      exact c.2 _ _ heg he
    have d03 : Dr g H H3 := ((d0.same s1).same s2).trans d3
    have tp3 := SqT.dr (Same.sqt (s1.trans s2) tp0) lw2.bag d3
    have r3 := (rw1.mono s2).dr (d3.stay lw2.bag)
    refine ⟨_, rfl, by omega, by omega, for_rng (n := ((n : Nat) : Int).toNat) (fun i σ H' => ∃ (p : Addr) (zs : List Int) (a : Nat) (za : Int) (t6 t7 t8 t9 : Option V), σ = [some (.ref g), some (.ref q), some (.ref r), some (.ref p), some (.ref e), some (.int za), t6, t7, t8, t9, none] ∧ za = (a : Nat) ∧ a < (wt rows l).length ∧ Dr g H3 H' ∧ SqT K H' p (zs.map V.int) ∧ zs.length ≤ i ∧ ∀ z ∈ zs, -1 ≤ z ∧ z ≤ 5)
      ⟨p0, [], 0, 0, _, _, _, _, rfl, rfl, hF.pos, Dr.refl lw3.bag, tp3, Nat.le_refl _, fun _ z => (nomatch z)⟩ ?_ ?_⟩
    · rintro i σ H4 hi ⟨p, zs, a, _, t6, t7, t8, t9, rfl, rfl, ha, d4, tp, hzl, hzb⟩
      have lw4 := lw3.dr d4
      have r4 := r3.dr (d4.stay lw3.bag)
      obtain ⟨y, hy⟩ : ∃ y, l[a]? = some y := ⟨_, List.getElem?_eq_getElem (by omega)⟩
      have eaw : aw (wt rows l) a = ar rows y := wt_at hy
      have hnum : numb rows y = (ar rows y : Nat) := numb_ar (hp.kn y (List.mem_of_getElem? hy))
      have h3 : ar rows y ≤ 3 := ar_le hlw.ok.br y
      refine ⟨_, rfl, _, rfl, _, rfl, r, _, _, _, rfl, rfl, r4.sq, atI_nat (by rw [List.getElem?_map, hy]; rfl), q, rows, y, rfl, lw4.rl, ?_⟩
      rw [hnum]
      refine ⟨_, rfl, _, _, rfl, rfl, _, rfl, if_dec (fun c2 => ?_) (fun c2 => ?_)⟩
      · refine ⟨_, rfl, _, rfl, g, ar rows y, rfl, lw4.bag, by omega, by omega, fun x H5 hx d5 => ?_⟩
        refine ⟨_, rfl, _, rfl, by show 1 ≤ sizeLine; decide, fun p2 hp2 => ?_⟩
        have s6 : Same H5 (upd H5 p2 (.tup [.int (x : Nat)])) := up_same hp2
        refine cat_any (Same.sqt s6 (SqT.dr tp lw4.bag d5)) (SqT.of upd_same) (by rw [List.length_map]; show _ + 1 ≤ _; omega) fun p3 H7 s7 tp7 => ?_
        have d47 : Dr g H3 H7 := ((d4.trans d5).same s6).same s7
        have he7 : H7 e = some (.lst (vN (ens (wt rows l)))) := by
          obtain ⟨_, _, c⟩ := d47
          exact c.2 _ _ heg he3
        refine ⟨_, rfl, _, _, rfl, rfl, _, rfl, _, rfl, by omega, by omega, for_rng (n := ((x : Nat) : Int).toNat) (fun t2 σ H' => ∃ (u9 : Option V) (zz : Int), σ = [some (.ref g), some (.ref q), some (.ref r), some (.ref p3), some (.ref e), some (.int zz), some (.int (i : Nat)), some (.int (ar rows y : Nat)), some (.int (x : Nat)), u9, none] ∧ zz = (kd (wt rows l) a t2 : Nat) ∧ H' = H7)
          ⟨_, _, rfl, by rw [kd_zero]; rfl, rfl⟩ ?_ ?_⟩
        · rintro t2 σ H8 ht ⟨u9, _, rfl, rfl, rfl⟩
          have hk2 := hF.kd_lt ha (k := t2) (by omega)
          exact ⟨_, rfl, _, rfl, e, _, _, _, rfl, rfl, SqL.of he7, atI_nat (vN_at (ens_get hk2)), _, _, rfl, by rw [kd_succ], rfl⟩
        · rintro σ H8 ⟨u9, _, rfl, rfl, rfl⟩
          refine ⟨p3, zs ++ [(x : Int)], kd (wt rows l) a x, _, _, _, _, _, rfl, rfl, hF.kd_lt ha (by omega), d47, by rw [List.map_append]; exact tp7, by rw [List.length_append]; show _ + 1 ≤ _; omega, fun z hz => ?_⟩
          rcases List.mem_append.mp hz with hz | hz
          · exact hzb z hz
          · rw [List.mem_singleton.mp hz]; omega
      · exact ⟨p, zs, a, _, _, _, _, _, rfl, rfl, ha, d4, tp, by omega, hzb⟩
    · rintro σ H4 ⟨p, zs, a, _, t6, t7, t8, t9, rfl, rfl, ha, d4, tp, hzl, hzb⟩
      exact hRest p zs H4 _ _ _ _ _ _ (d03.trans d4) tp (by omega) hzb
  · exact hRest p0 [] H1 _ _ _ _ _ _ (d0.same s1) (Same.sqt s1 tp0) (by decide) (fun _ z => (nomatch z))
end
end Sy
namespace Sy
open PySem PySem.Spec PyProof.Rows L2
/-- how a call ends: nothing is due, a good value (or, if lg, TooMany); else what is due -/
def Out (K : PySem.W.Frag) (due : Option Er) (ok : PyData → Prop) (lg : Prop) (H : Hp) (Q : VK) (E : XK) : Prop :=
  (due = none → (∀ H' v d, Same H H' → Im K H' v d → ok d → Q v H') ∧ (lg → RaE K .many H E)) ∧ ∀ e, due = some e → RaE K e H E
/-- what doors of plants owe -/
def pDue (rows : List Sy.Row) (door : Nat) (l m : List Str) (zs : List Int) : Option Er := match ckP rows l with
  | some e => some e
  | none => if door < 6 then none else match pz (wt rows l) 0 zs with
    | none => some (.path zs)
    | some i => if door = 6 then none else match ckP rows m with
      | some e => some e
      | none => if 2000 < (rep (wt rows l) l m i).length then some .many else none
def pOk (rows : List Sy.Row) (door : Nat) (l m : List Str) (zs : List Int) (d : PyData) : Prop := match door with
  | 0 => d = .none
  | 1 => ∃ a b, d = .tuple [a, b]
  | 2 => ∃ n : Int, d = .int n
  | 3 => ∃ ds, d = .tuple ds ∧ ds.length = rows.length
  | 4 => ∃ ds, d = .tuple ds ∧ ds.length = aw (wt rows l) 0
  | 5 => ∃ ds, d = .tuple ds ∧ ds.length = l.length
  | 6 => ∃ i, pz (wt rows l) 0 zs = some i ∧ d = DS (brn (wt rows l) l i)
  | _ => ∃ i, pz (wt rows l) 0 zs = some i ∧ d = DS (rep (wt rows l) l m i)
def sDue (rows : List Sy.Row) (door : Nat) (l m : List Str) : Option Er := if door ≤ 4 then ckS rows l else twoE (ckS rows) l m
def sOk (door : Nat) (l : List Str) (d : PyData) : Prop := match door with
  | 0 => d = .none
  | 1 => ∃ a b, d = .tuple [a, b]
  | 2 => ∃ ds, d = .tuple ds ∧ ds.length = l.count ("*" : Str)
  | 3 => ∃ x, d = .str x
  | 4 => d = DS l
  | 5 => ∃ b, d = .bool b
  | 6 => d = .none ∨ ∃ ds, d = .tuple ds ∧ ds.length = l.count ("*" : Str)
  | 7 => ∃ ds, d = .tuple ds
  | _ => d = .none ∨ ∃ ds, d = .tuple ds
theorem small_log {z : Int} (h : z.natAbs ≤ 5) : z.natAbs.log2 < 1920 := by
  have := Nat.log2_le_self z.natAbs
  omega
theorem Wx.wdb {x : Str} (h : Wx x) : WdB x := ⟨by rw [len_tl]; have := h.1; omega, fun c hc => by have := h.2 c hc; omega⟩
theorem Wx.str {x : Str} (h : Wx x) : PyData.strOk x = true := by
  unfold PyData.strOk
  rw [← Array.all_toList, List.all_eq_true]
  exact fun c hc => decide_eq_true (by have := h.2 c hc; omega)
theorem Wx.len {x : Str} (h : Wx x) : x.length ≤ 100 := h.wdb.1
theorem paths_len {rows : List Sy.Row} {l : List Str} : (pths (wt rows l)).length = l.length := by
  unfold pths
  rw [pth_len, wt_len]
section
variable {P : Program} {w : World} {K : PySem.W.Frag} {mg : Str → Option Value} {base : Heap}
theorem Out.ra {due : Option Er} {ok : PyData → Prop} {lg : Prop} {H : Hp} {Q : VK} {E : XK} {e : Er} (h : Out K due ok lg H Q E) (hd : due = some e) : RaE K e H E := h.2 e hd
theorem Out.ok {due : Option Er} {ok : PyData → Prop} {lg : Prop} {H : Hp} {Q : VK} {E : XK} (h : Out K due ok lg H Q E) (hd : due = none) : ∀ H' v d, Same H H' → Im K H' v d → ok d → Q v H' := (h.1 hd).1
theorem Out.mono {due : Option Er} {ok : PyData → Prop} {lg : Prop} {H H1 : Hp} {Q : VK} {E : XK} (h : Out K due ok lg H Q E) (s : Same H H1) : Out K due ok lg H1 Q E :=
  ⟨fun e => ⟨fun H' v d s' i o => (h.1 e).1 H' v d (s.trans s') i o, fun z => ((h.1 e).2 z).mono s⟩, fun e he => (h.2 e he).mono s⟩
def spPDoor (K : PySem.W.Frag) : Sp := fun vs H Q E => ∃ (a r o p : Addr) (door : Nat) (rows : List Sy.Row) (l m : List Str) (zs : List Int), vs = [.ref a, .int (door : Nat), .ref r, .ref o, .ref p] ∧ BedAt K H a rows ∧ rows.length ≤ 8 ∧ Rw K H r l ∧ Rw K H o m ∧ SqT K H p (zs.map V.int) ∧ zs.length ≤ 5000 ∧ (∀ z ∈ zs, z.natAbs ≤ 5) ∧ door ≤ 7 ∧
  Out K (pDue rows door l m zs) (pOk rows door l m zs) False H Q E
abbrev N_pDoor : List Str := ["_law_bed_here", "_law_door", "_law_first", "_law_second", "_law_path_here"]
theorem sc_pDoor : FnScope N_pDoor ["_law_bed_here", "_law_door", "_law_first", "_law_second", "_law_path_here"] (defScope (top 75)) := ⟨rfl, rfl, rfl, by decide +kernel, rfl, by decide +kernel, by decide +kernel⟩
theorem k_pDoor (F : DF K mg "_law_plant_door" 75) (c_check_plant : Cal P w K mg base 4 "check_plant" ["bed", "plant"] (spCheckE K ckP)) (c_plant_key : Cal P w K mg base 5 "plant_key" ["bed", "plant"] (spKeyP K)) (c_height : Cal P w K mg base 5 "height" ["bed", "plant"] (spHeight K)) (c_counted : Cal P w K mg base 5 "counted" ["bed", "plant"] (spCounted K))
    (c_branches_of : Cal P w K mg base 5 "branches_of" ["bed", "plant"] (spBrs K)) (c_paths : Cal P w K mg base 5 "paths" ["bed", "plant"] (spPathsP K)) (c_branch_at : Cal P w K mg base 5 "branch_at" ["bed", "plant", "path"] (spBrAt K)) (c_replaced : Cal P w K mg base 5 "replaced" ["bed", "plant", "path", "other"] (spRep K)) :
    Cal P w K mg base 6 "_law_plant_door" ["_law_bed_here", "_law_door", "_law_first", "_law_second", "_law_path_here"] (spPDoor K) := by
  refine cal_of F.1 F.2 sc_pDoor (fun _ _ _ _ _ _ us e => match us, e with | [_, _, _, _, _], _ => rfl) (fun vs H Q E s => by obtain ⟨_, _, _, _, _, _, _, _, _, rfl, _⟩ := s; rfl) ?_
  intro cdv A outer s H vs Q E hr h
  obtain ⟨a, r, o, p, door, rows, l, m, zs, rfl, hb, hrl, hR, hO, hP, hz, hzb, hd7, ho⟩ := h
  refine ⟨_, (pss_cons (ps_if (pt_cmpR op_eq (pv 1) pe_int (nomark _))
        (pss_one (ps_ret (pe_calX c_check_plant hr (takes_of rfl rfl rfl rfl) (pa_cons (pv 0) (pa_cons (pv 2) pa_nil)))))
        pss_nil)
      (pss_cons (ps_if (pt_cmpR op_eq (pv 1) pe_int (nomark _))
        (pss_one (ps_ret (pe_calX c_plant_key hr (takes_of rfl rfl rfl rfl) (pa_cons (pv 0) (pa_cons (pv 2) pa_nil)))))
        pss_nil)
      (pss_cons (ps_if (pt_cmpR op_eq (pv 1) pe_int (nomark _))
        (pss_one (ps_ret (pe_calX c_height hr (takes_of rfl rfl rfl rfl) (pa_cons (pv 0) (pa_cons (pv 2) pa_nil)))))
        pss_nil)
      (pss_cons (ps_if (pt_cmpR op_eq (pv 1) pe_int (nomark _))
        (pss_one (ps_ret (pe_calX c_counted hr (takes_of rfl rfl rfl rfl) (pa_cons (pv 0) (pa_cons (pv 2) pa_nil)))))
        pss_nil)
      (pss_cons (ps_if (pt_cmpR op_eq (pv 1) pe_int (nomark _))
        (pss_one (ps_ret (pe_calX c_branches_of hr (takes_of rfl rfl rfl rfl) (pa_cons (pv 0) (pa_cons (pv 2) pa_nil)))))
        pss_nil)
      (pss_cons (ps_if (pt_cmpR op_eq (pv 1) pe_int (nomark _))
        (pss_one (ps_ret (pe_calX c_paths hr (takes_of rfl rfl rfl rfl) (pa_cons (pv 0) (pa_cons (pv 2) pa_nil)))))
        pss_nil)
      (pss_cons (ps_if (pt_cmpR op_eq (pv 1) pe_int (nomark _))
        (pss_one (ps_ret (pe_calX c_branch_at hr (takes_of rfl rfl rfl rfl) (pa_cons (pv 0) (pa_cons (pv 2) (pa_cons (pv 4) pa_nil))))))
        pss_nil)
      (pss_one (ps_ret (pe_calX c_replaced hr (takes_of rfl rfl rfl rfl) (pa_cons (pv 0) (pa_cons (pv 2) (pa_cons (pv 4) (pa_cons (pv 3) pa_nil)))))))))))))), ?_⟩
  have hlog : ∀ y ∈ zs, y.natAbs.log2 < 1920 := fun y hy => small_log (hzb y hy)
  have eB : ∀ e, ckP rows l = some e → RaE K e H E := fun e he => ho.ra (by unfold pDue; rw [he])
  have e5 : door < 6 → ckP rows l = none → pDue rows door l m zs = none := fun h e => by unfold pDue; rw [e]; exact if_pos h
  have cc : ∀ {k : Nat}, V.int (door : Nat) = V.int ((k : Nat) : Int) → door = k := fun z => by have := V.int.inj z; omega
  refine ⟨_, rfl, rfl, _, rfl, if_dec (fun c => ?_) (fun c0 => ?_)⟩
  · obtain rfl := cc (k := 0) c
    exact ⟨_, rfl, _, rfl, a, r, rows, l, rfl, hb, hR.sq, fun e H' s => ho.ok (e5 (by decide) e) H' .non _ s .non rfl, eB⟩
  refine ⟨_, rfl, rfl, _, rfl, if_dec (fun c => ?_) (fun c1 => ?_)⟩
  · obtain rfl := cc (k := 1) c
    exact ⟨_, rfl, _, rfl, a, r, rows, l, rfl, hb, hR.sq, fun e H' v s i => ho.ok (e5 (by decide) e) H' v _ s i ⟨_, _, rfl⟩, eB⟩
  refine ⟨_, rfl, rfl, _, rfl, if_dec (fun c => ?_) (fun c2 => ?_)⟩
  · obtain rfl := cc (k := 2) c
    exact ⟨_, rfl, _, rfl, a, r, rows, l, rfl, hb, hR.sq, fun e H' s => ho.ok (e5 (by decide) e) H' _ _ s (.int _) ⟨_, rfl⟩, eB⟩
  refine ⟨_, rfl, rfl, _, rfl, if_dec (fun c => ?_) (fun c3 => ?_)⟩
  · obtain rfl := cc (k := 3) c
    exact ⟨_, rfl, _, rfl, a, r, rows, l, rfl, hb, hR.sq, hR.nd, by omega, fun e H' v s i => ho.ok (e5 (by decide) e) H' v _ s i ⟨_, rfl, by rw [List.length_map, List.length_map]⟩, eB⟩
  refine ⟨_, rfl, rfl, _, rfl, if_dec (fun c => ?_) (fun c4 => ?_)⟩
  · obtain rfl := cc (k := 4) c
    exact ⟨_, rfl, _, rfl, a, r, rows, l, rfl, hb, hR.sq, fun e H' v s i => ho.ok (e5 (by decide) e) H' v _ s i ⟨_, rfl, by rw [List.length_map, List.length_range]⟩, eB⟩
  refine ⟨_, rfl, rfl, _, rfl, if_dec (fun c => ?_) (fun c5 => ?_)⟩
  · obtain rfl := cc (k := 5) c
    exact ⟨_, rfl, _, rfl, a, r, rows, l, rfl, hb, hR.sq, fun e H' v s i => ho.ok (e5 (by decide) e) H' v _ s i ⟨_, rfl, by rw [List.length_map, paths_len]⟩, eB⟩
  have hpath : 6 ≤ door → ckP rows l = none → pz (wt rows l) 0 zs = none → RaE K (.path zs) H E := fun h e z => ho.ra (by unfold pDue; rw [e, z]; exact if_neg (by omega))
  refine ⟨_, rfl, rfl, _, rfl, if_dec (fun c => ?_) (fun c6 => ?_)⟩
  · obtain rfl := cc (k := 6) c
    refine ⟨_, rfl, _, rfl, _, rfl, a, r, p, rows, l, zs, rfl, hb, hR.sq, hP, hz, hlog, fun e => ⟨fun i hi H' v s im => ho.ok ?_ H' v _ s im ⟨i, hi, rfl⟩, hpath (Nat.le_refl _) e⟩, eB⟩
    unfold pDue
    rw [e, hi]
    rfl
  · have hd : door = 7 := by
      have d0 : door ≠ 0 := fun z => c0 (by rw [z]; rfl)
      have d1 : door ≠ 1 := fun z => c1 (by rw [z]; rfl)
      have d2 : door ≠ 2 := fun z => c2 (by rw [z]; rfl)
      have d3 : door ≠ 3 := fun z => c3 (by rw [z]; rfl)
      have d4 : door ≠ 4 := fun z => c4 (by rw [z]; rfl)
      have d5 : door ≠ 5 := fun z => c5 (by rw [z]; rfl)
      have d6 : door ≠ 6 := fun z => c6 (by rw [z]; rfl)
      omega
    subst hd
    refine ⟨_, rfl, _, rfl, _, rfl, _, rfl, a, r, p, o, rows, l, m, zs, rfl, hb, hR.sq, hP, hO.sq, hz, hlog, fun e => ⟨fun i hi => ⟨fun em => ⟨fun hle H' p' s t => ho.ok ?_ H' _ _ s (Im.strs t) ⟨i, hi, rfl⟩, fun hgt => ho.ra ?_⟩, fun e2 he2 => ho.ra ?_⟩, hpath (by decide) e⟩, eB⟩
    · unfold pDue
      rw [e, hi, em]
      show (if 2000 < (rep (wt rows l) l m i).length then some Er.many else none) = none
      exact if_neg (by omega)
    · unfold pDue
      rw [e, hi, em]
      show (if 2000 < (rep (wt rows l) l m i).length then some Er.many else none) = some Er.many
      exact if_pos hgt
    · unfold pDue
      rw [e, hi, he2]
      rfl
def spSDoor (K : PySem.W.Frag) : Sp := fun vs H Q E => ∃ (a r o : Addr) (door : Nat) (rows : List Sy.Row) (l m : List Str), vs = [.ref a, .int (door : Nat), .ref r, .ref o] ∧ BedAt K H a rows ∧ isK rows "*" = false ∧ Rw K H r l ∧ Rw K H o m ∧ door ≤ 8 ∧
  Out K (sDue rows door l m) (sOk door l) (door = 8 ∧ 2000 < l.length + m.length) H Q E
abbrev N_sDoor : List Str := ["_law_bed_here", "_law_door", "_law_first", "_law_second"]
theorem sc_sDoor : FnScope N_sDoor ["_law_bed_here", "_law_door", "_law_first", "_law_second"] (defScope (top 76)) := ⟨rfl, rfl, rfl, by decide +kernel, rfl, by decide +kernel, by decide +kernel⟩
theorem com_nil (rows : List Sy.Row) (l : List Str) : comDue rows l [] = ckS rows l := by
  unfold comDue
  cases ckS rows l <;> rfl
theorem com_one (rows : List Sy.Row) (l m : List Str) : comDue rows l [m] = twoE (ckS rows) l m := by
  unfold comDue twoE
  cases ckS rows l with
  | some e => rfl
  | none =>
    show fstE (ckS rows) [m] = _
    unfold fstE
    cases ckS rows m <;> rfl
theorem k_sDoor (F : DF K mg "_law_stump_door" 76) (c_check_stump : Cal P w K mg base 4 "check_stump" ["bed", "stump"] (spCheckE K ckS)) (c_stump_key : Cal P w K mg base 5 "stump_key" ["bed", "stump"] (spKeyS K)) (c_holes : Cal P w K mg base 5 "holes" ["bed", "stump"] (spHoles K)) (c_written : Cal P w K mg base 5 "written" ["bed", "stump"] (spWritten K))
    (c_common : CalR P w K mg base 5 "common" (spStar 2 (spCommon K))) (c_begins : Cal P w K mg base 6 "begins" ["bed", "stump", "other"] (spBegins K)) (c_parts : Cal P w K mg base 5 "parts" ["bed", "stump", "other"] (spParts K)) (c_united : Cal P w K mg base 5 "united" ["bed", "first", "second"] (spUnited K)) :
    Cal P w K mg base 7 "_law_stump_door" ["_law_bed_here", "_law_door", "_law_first", "_law_second"] (spSDoor K) := by
  refine cal_of F.1 F.2 sc_sDoor (fun _ _ _ _ _ _ us e => match us, e with | [_, _, _, _], _ => rfl) (fun vs H Q E s => by obtain ⟨_, _, _, _, _, _, _, rfl, _⟩ := s; rfl) ?_
  intro cdv A outer s H vs Q E hr h
  obtain ⟨a, r, o, door, rows, l, m, rfl, hb, hs, hR, hO, hd8, ho⟩ := h
  refine ⟨_, (pss_cons (ps_if (pt_cmpR op_eq (pv 1) pe_int (nomark _))
        (pss_one (ps_ret (pe_calX c_check_stump hr (takes_of rfl rfl rfl rfl) (pa_cons (pv 0) (pa_cons (pv 2) pa_nil)))))
        pss_nil)
      (pss_cons (ps_if (pt_cmpR op_eq (pv 1) pe_int (nomark _))
        (pss_one (ps_ret (pe_calX c_stump_key hr (takes_of rfl rfl rfl rfl) (pa_cons (pv 0) (pa_cons (pv 2) pa_nil)))))
        pss_nil)
      (pss_cons (ps_if (pt_cmpR op_eq (pv 1) pe_int (nomark _))
        (pss_one (ps_ret (pe_calX c_holes hr (takes_of rfl rfl rfl rfl) (pa_cons (pv 0) (pa_cons (pv 2) pa_nil)))))
        pss_nil)
      (pss_cons (ps_if (pt_cmpR op_eq (pv 1) pe_int (nomark _))
        (pss_one (ps_ret (pe_calX c_written hr (takes_of rfl rfl rfl rfl) (pa_cons (pv 0) (pa_cons (pv 2) pa_nil)))))
        pss_nil)
      (pss_cons (ps_if (pt_cmpR op_eq (pv 1) pe_int (nomark _))
        (pss_one (ps_ret (pe_calR c_common hr (takes_of rfl rfl rfl rfl) (pa_cons (pv 0) (pa_cons (pv 2) pa_nil)))))
        pss_nil)
      (pss_cons (ps_if (pt_cmpR op_eq (pv 1) pe_int (nomark _))
        (pss_one (ps_ret (pe_calX c_begins hr (takes_of rfl rfl rfl rfl) (pa_cons (pv 0) (pa_cons (pv 2) (pa_cons (pv 3) pa_nil))))))
        pss_nil)
      (pss_cons (ps_if (pt_cmpR op_eq (pv 1) pe_int (nomark _))
        (pss_one (ps_ret (pe_calX c_parts hr (takes_of rfl rfl rfl rfl) (pa_cons (pv 0) (pa_cons (pv 2) (pa_cons (pv 3) pa_nil))))))
        pss_nil)
      (pss_cons (ps_if (pt_cmpR op_eq (pv 1) pe_int (nomark _))
        (pss_one (ps_ret (pe_calR c_common hr (takes_of rfl rfl rfl rfl) (pa_cons (pv 0) (pa_cons (pv 2) (pa_cons (pv 3) pa_nil))))))
        pss_nil)
      (pss_one (ps_ret (pe_calX c_united hr (takes_of rfl rfl rfl rfl) (pa_cons (pv 0) (pa_cons (pv 2) (pa_cons (pv 3) pa_nil)))))))))))))), ?_⟩
  have eB : ∀ e, ckS rows l = some e → RaE K e H E := fun e he => ho.ra (by
    unfold sDue
    split
    · exact he
    · exact twoE_1 he)
  have e4 : door ≤ 4 → ckS rows l = none → sDue rows door l m = none := fun h e => by unfold sDue; rw [if_pos h]; exact e
  have e8 : 4 < door → sDue rows door l m = twoE (ckS rows) l m := fun h => by unfold sDue; rw [if_neg (by omega)]
  have cc : ∀ {k : Nat}, V.int (door : Nat) = V.int ((k : Nat) : Int) → door = k := fun z => by have := V.int.inj z; omega
  refine ⟨_, rfl, rfl, _, rfl, if_dec (fun c => ?_) (fun c0 => ?_)⟩
  · obtain rfl := cc (k := 0) c
    exact ⟨_, rfl, _, rfl, a, r, rows, l, rfl, hb, hR.sq, fun e H' s => ho.ok (e4 (by decide) e) H' .non _ s .non rfl, eB⟩
  refine ⟨_, rfl, rfl, _, rfl, if_dec (fun c => ?_) (fun c1 => ?_)⟩
  · obtain rfl := cc (k := 1) c
    exact ⟨_, rfl, _, rfl, a, r, rows, l, rfl, hb, hR.sq, fun e H' v s i => ho.ok (e4 (by decide) e) H' v _ s i ⟨_, _, rfl⟩, eB⟩
  refine ⟨_, rfl, rfl, _, rfl, if_dec (fun c => ?_) (fun c2 => ?_)⟩
  · obtain rfl := cc (k := 2) c
    exact ⟨_, rfl, _, rfl, a, r, rows, l, rfl, hb, hR.sq, fun e H' v ds s hl i => ho.ok (e4 (by decide) e) H' v _ s i ⟨_, rfl, hl⟩, eB⟩
  refine ⟨_, rfl, rfl, _, rfl, if_dec (fun c => ?_) (fun c3 => ?_)⟩
  · obtain rfl := cc (k := 3) c
    exact ⟨_, rfl, _, rfl, a, r, rows, l, rfl, hb, hR.sq, fun x hx => (hR.wx x hx).len, fun e H' x s => ho.ok (e4 (by decide) e) H' _ _ s (.str x) ⟨_, rfl⟩, eB⟩
  refine ⟨_, rfl, rfl, _, rfl, if_dec (fun c => ?_) (fun c4 => ?_)⟩
  · obtain rfl := cc (k := 4) c
    refine ⟨_, rfl, _, rfl, [.ref a, .ref r], [], rfl, rfl, by decide, fun p hp => ?_⟩
    have s1 := up_same (o := .tup ([] : List V)) hp
    refine ⟨a, r, p, rows, l, [], [], rfl, hb.mono (Stay.of s1), Same.sqt s1 hR.sq, SqT.of upd_same, .nil, by decide, fun e H' p' c s t hc => ?_, fun e he => ?_⟩
    · rw [com_nil] at e
      rw [hc rfl] at t
      exact ho.ok (e4 (by decide) e) H' _ _ (s1.trans s) (Im.strs t) rfl
    · rw [com_nil] at he
      exact (eB e he).mono s1
  refine ⟨_, rfl, rfl, _, rfl, if_dec (fun c => ?_) (fun c5 => ?_)⟩
  · obtain rfl := cc (k := 5) c
    exact ⟨_, rfl, _, rfl, _, rfl, a, r, o, rows, l, m, rfl, hb, hR.sq, hO.sq, fun x hx => (hR.wx x hx).str, hs, fun e H' b s => ho.ok e H' _ _ s (.bl b) ⟨_, rfl⟩, fun e he => ho.ra he⟩
  refine ⟨_, rfl, rfl, _, rfl, if_dec (fun c => ?_) (fun c6 => ?_)⟩
  · obtain rfl := cc (k := 6) c
    exact ⟨_, rfl, _, rfl, _, rfl, a, r, o, rows, l, m, rfl, hb, hR.sq, hO.sq, fun x hx => (hR.wx x hx).str, hs, fun e => ⟨fun H' s => ho.ok e H' _ _ s .non (.inl rfl), fun H' v ds s i hl => ho.ok e H' v _ s i (.inr ⟨_, rfl, hl⟩)⟩, fun e he => ho.ra he⟩
  refine ⟨_, rfl, rfl, _, rfl, if_dec (fun c => ?_) (fun c7 => ?_)⟩
  · obtain rfl := cc (k := 7) c
    refine ⟨_, rfl, _, rfl, _, rfl, [.ref a, .ref r], [.ref o], rfl, rfl, (by show 1 ≤ sizeLine; decide), fun p hp => ?_⟩
    have s1 := up_same (o := .tup ([V.ref o] : List V)) hp
    refine ⟨a, r, p, rows, l, [o], [m], rfl, hb.mono (Stay.of s1), Same.sqt s1 hR.sq, SqT.of upd_same, .cons (Same.sqt s1 hO.sq) .nil, by show 1 ≤ 1; decide, fun e H' p' c s t hc => ?_, fun e he => ?_⟩
    · rw [com_one] at e
      exact ho.ok e H' _ _ (s1.trans s) (Im.strs t) ⟨_, rfl⟩
    · rw [com_one] at he
      exact (ho.ra he).mono s1
  · have hd : door = 8 := by
      have d0 : door ≠ 0 := fun z => c0 (by rw [z]; rfl)
      have d1 : door ≠ 1 := fun z => c1 (by rw [z]; rfl)
      have d2 : door ≠ 2 := fun z => c2 (by rw [z]; rfl)
      have d3 : door ≠ 3 := fun z => c3 (by rw [z]; rfl)
      have d4 : door ≠ 4 := fun z => c4 (by rw [z]; rfl)
      have d5 : door ≠ 5 := fun z => c5 (by rw [z]; rfl)
      have d6 : door ≠ 6 := fun z => c6 (by rw [z]; rfl)
      have d7 : door ≠ 7 := fun z => c7 (by rw [z]; rfl)
      omega
    subst hd
    exact ⟨_, rfl, _, rfl, _, rfl, a, r, o, rows, l, m, rfl, hb, hR.sq, hO.sq, hs, fun e => ⟨fun H' s => ho.ok e H' _ _ s .non (.inl rfl), fun H' p c s t => ho.ok e H' _ _ s (Im.strs t) (.inr ⟨_, rfl⟩), fun h => (ho.1 e).2 ⟨rfl, h⟩⟩, fun e he => ho.ra he⟩
end
end Sy
namespace Sy
open PySem PySem.Spec PyProof.Rows L2
section
variable {P : Program} {w : World} {K : PySem.W.Frag} {mg : Str → Option Value} {base : Heap}
/-- what planted asks of its arguments as they are given -/
theorem planted_of {a : Addr} {x : Str} {rows : List Sy.Row} {bs : List Addr} {ls : List (List Str)} {H : Hp} {Q : VK} {E : XK} (hb : BedAt K H a rows) (hx : Wx x) (hp : Paired (fun q (l : List Str) => Rw K H q l) bs ls) (hl : ls.length ≤ 4) (h3 : ∀ r ∈ rows, r.2 ≤ 3)
    (ho : Out K (plDue rows x ls) (fun d => d = DS (x :: ls.flatten)) False H Q E) : spStar 2 (spPlanted K) (V.ref a :: V.str x :: bs.map V.ref) H Q E := by
  have hbl := paired_len hp
  refine ⟨[.ref a, .str x], bs.map V.ref, rfl, rfl, by rw [List.length_map, sizeLine_eq]; omega, fun p hp' => ?_⟩
  have s1 := up_same (o := .tup (bs.map V.ref)) hp'
  exact ⟨a, p, x, rows, bs, ls, rfl, hb.mono (Stay.of s1), hx.wdb, SqT.of upd_same, Paired.mapP hp fun _ _ z => Same.sqt s1 z.sq, by omega, fun r hr => by have := h3 r hr; omega, fun c H' q s t => ho.ok c H' _ _ (s1.trans s) (Im.strs t) rfl, fun e he => (ho.ra he).mono s1⟩
theorem filled_of {a r : Addr} {rows : List Sy.Row} {l : List Str} {bs : List Addr} {ls : List (List Str)} {H : Hp} {Q : VK} {E : XK} (hb : BedAt K H a rows) (hR : Rw K H r l) (hp : Paired (fun q (l : List Str) => Rw K H q l) bs ls) (hl : ls.length ≤ 4)
    (ho : Out K (fillDue rows l ls) (fun d => d = DS (fillW l ls)) False H Q E) : spStar 2 (spFilled K) (V.ref a :: V.ref r :: bs.map V.ref) H Q E := by
  have hbl := paired_len hp
  refine ⟨[.ref a, .ref r], bs.map V.ref, rfl, rfl, by rw [List.length_map, sizeLine_eq]; omega, fun p hp' => ?_⟩
  have s1 := up_same (o := .tup (bs.map V.ref)) hp'
  exact ⟨a, r, p, rows, l, bs, ls, rfl, hb.mono (Stay.of s1), Same.sqt s1 hR.sq, SqT.of upd_same, Paired.mapP hp fun _ _ z => Same.sqt s1 z.sq, by omega, fun c H' q s t => ho.ok c H' _ _ (s1.trans s) (Im.strs t) rfl, fun e he => (ho.ra he).mono s1⟩
def spPlL (K : PySem.W.Frag) : Sp := fun vs H Q E => ∃ (a b : Addr) (x : Str) (rows : List Sy.Row) (bs : List Addr) (ls : List (List Str)), vs = [.ref a, .str x, .ref b] ∧ BedAt K H a rows ∧ Wx x ∧ H b = some (.lst (bs.map V.ref)) ∧ Paired (fun q (l : List Str) => Rw K H q l) bs ls ∧ ls.length ≤ 4 ∧ (∀ r ∈ rows, r.2 ≤ 3) ∧
  Out K (plDue rows x ls) (fun d => d = DS (x :: ls.flatten)) False H Q E
theorem sc_plL : FnScope ["_law_bed_here", "_law_word_here", "_law_pieces"] ["_law_bed_here", "_law_word_here", "_law_pieces"] (defScope (top 77)) := ⟨rfl, rfl, rfl, by decide +kernel, rfl, by decide +kernel, by decide +kernel⟩
theorem k_plL (T : Txt K mg) (F : DF K mg "_law_planted" 77) (c_planted : CalR P w K mg base 5 "planted" (spStar 2 (spPlanted K))) : Cal P w K mg base 6 "_law_planted" ["_law_bed_here", "_law_word_here", "_law_pieces"] (spPlL K) := by
  refine cal_of F.1 F.2 sc_plL (fun _ _ _ _ _ _ us e => match us, e with | [_, _, _], _ => rfl) (fun vs H Q E s => by obtain ⟨_, _, _, _, _, _, rfl, _⟩ := s; rfl) ?_
  intro cdv A outer s H vs Q E hr h
  obtain ⟨a, b, x, rows, bs, ls, rfl, hb, hx, hL, hp, hl, h3, ho⟩ := h
  have hbl := paired_len hp
  refine ⟨_, (pss_cons (ps_if (pt_cmpR op_eq (pe_callB call_len_seq (by rfl) T.len (by decide +kernel) (pa_cons (pv 2) pa_nil)) pe_int (nomark _))
        (pss_one (ps_ret (pe_calR c_planted hr (takes_of rfl rfl rfl rfl) (pa_cons (pv 0) (pa_cons (pv 1) pa_nil)))))
        pss_nil)
      (pss_cons (ps_if (pt_cmpR op_eq (pe_callB call_len_seq (by rfl) T.len (by decide +kernel) (pa_cons (pv 2) pa_nil)) pe_int (nomark _))
        (pss_one (ps_ret (pe_calR c_planted hr (takes_of rfl rfl rfl rfl) (pa_cons (pv 0) (pa_cons (pv 1) (pa_cons (pe_ix ix_list (pv 2) pe_int (fun _ _ => rfl)) pa_nil))))))
        pss_nil)
      (pss_cons (ps_if (pt_cmpR op_eq (pe_callB call_len_seq (by rfl) T.len (by decide +kernel) (pa_cons (pv 2) pa_nil)) pe_int (nomark _))
        (pss_one (ps_ret (pe_calR c_planted hr (takes_of rfl rfl rfl rfl) (pa_cons (pv 0) (pa_cons (pv 1) (pa_cons (pe_ix ix_list (pv 2) pe_int (fun _ _ => rfl)) (pa_cons (pe_ix ix_list (pv 2) pe_int (fun _ _ => rfl)) pa_nil)))))))
        pss_nil)
      (pss_cons (ps_if (pt_cmpR op_eq (pe_callB call_len_seq (by rfl) T.len (by decide +kernel) (pa_cons (pv 2) pa_nil)) pe_int (nomark _))
        (pss_one (ps_ret (pe_calR c_planted hr (takes_of rfl rfl rfl rfl) (pa_cons (pv 0) (pa_cons (pv 1) (pa_cons (pe_ix ix_list (pv 2) pe_int (fun _ _ => rfl)) (pa_cons (pe_ix ix_list (pv 2) pe_int (fun _ _ => rfl)) (pa_cons (pe_ix ix_list (pv 2) pe_int (fun _ _ => rfl)) pa_nil))))))))
        pss_nil)
      (pss_one (ps_ret (pe_calR c_planted hr (takes_of rfl rfl rfl rfl) (pa_cons (pv 0) (pa_cons (pv 1) (pa_cons (pe_ix ix_list (pv 2) pe_int (fun _ _ => rfl)) (pa_cons (pe_ix ix_list (pv 2) pe_int (fun _ _ => rfl)) (pa_cons (pe_ix ix_list (pv 2) pe_int (fun _ _ => rfl)) (pa_cons (pe_ix ix_list (pv 2) pe_int (fun _ _ => rfl)) pa_nil))))))))))))), ?_⟩
  refine ⟨_, rfl, b, _, rfl, .inl (SqL.of hL), rfl, _, rfl, if_dec (fun c => ?_) (fun c0 => ?_)⟩
  · have en : bs.length = 0 := by
      have := V.int.inj c
      rw [List.length_map] at this
      omega
    obtain rfl : bs = [] := by
      match bs, en with
      | [], _ => exact rfl
    exact ⟨_, rfl, _, rfl, planted_of hb hx hp hl h3 ho⟩
  refine ⟨_, rfl, b, _, rfl, .inl (SqL.of hL), rfl, _, rfl, if_dec (fun c => ?_) (fun c1 => ?_)⟩
  · have en : bs.length = 1 := by
      have := V.int.inj c
      rw [List.length_map] at this
      omega
    obtain ⟨p0, rfl⟩ : ∃ p0, bs = [p0] := by
      match bs, en with
      | [p0], _ => exact ⟨_, rfl⟩
    exact ⟨_, rfl, _, rfl, _, rfl, b, _, _, _, rfl, rfl, SqL.of hL, atI_nat (j := 0) rfl, planted_of hb hx hp hl h3 ho⟩
  refine ⟨_, rfl, b, _, rfl, .inl (SqL.of hL), rfl, _, rfl, if_dec (fun c => ?_) (fun c2 => ?_)⟩
  · have en : bs.length = 2 := by
      have := V.int.inj c
      rw [List.length_map] at this
      omega
    obtain ⟨p0, p1, rfl⟩ : ∃ p0 p1, bs = [p0, p1] := by
      match bs, en with
      | [p0, p1], _ => exact ⟨_, _, rfl⟩
    exact ⟨_, rfl, _, rfl, _, rfl, b, _, _, _, rfl, rfl, SqL.of hL, atI_nat (j := 0) rfl, _, rfl, b, _, _, _, rfl, rfl, SqL.of hL, atI_nat (j := 1) rfl, planted_of hb hx hp hl h3 ho⟩
  refine ⟨_, rfl, b, _, rfl, .inl (SqL.of hL), rfl, _, rfl, if_dec (fun c => ?_) (fun c3 => ?_)⟩
  · have en : bs.length = 3 := by
      have := V.int.inj c
      rw [List.length_map] at this
      omega
    obtain ⟨p0, p1, p2, rfl⟩ : ∃ p0 p1 p2, bs = [p0, p1, p2] := by
      match bs, en with
      | [p0, p1, p2], _ => exact ⟨_, _, _, rfl⟩
    exact ⟨_, rfl, _, rfl, _, rfl, b, _, _, _, rfl, rfl, SqL.of hL, atI_nat (j := 0) rfl, _, rfl, b, _, _, _, rfl, rfl, SqL.of hL, atI_nat (j := 1) rfl, _, rfl, b, _, _, _, rfl, rfl, SqL.of hL, atI_nat (j := 2) rfl, planted_of hb hx hp hl h3 ho⟩
  have en : bs.length = 4 := by
    have d0 : bs.length ≠ 0 := fun z => c0 (by rw [List.length_map, z]; rfl)
    have d1 : bs.length ≠ 1 := fun z => c1 (by rw [List.length_map, z]; rfl)
    have d2 : bs.length ≠ 2 := fun z => c2 (by rw [List.length_map, z]; rfl)
    have d3 : bs.length ≠ 3 := fun z => c3 (by rw [List.length_map, z]; rfl)
    omega
  obtain ⟨p0, p1, p2, p3, rfl⟩ : ∃ p0 p1 p2 p3, bs = [p0, p1, p2, p3] := by
    match bs, en with
    | [p0, p1, p2, p3], _ => exact ⟨_, _, _, _, rfl⟩
  exact ⟨_, rfl, _, rfl, _, rfl, b, _, _, _, rfl, rfl, SqL.of hL, atI_nat (j := 0) rfl, _, rfl, b, _, _, _, rfl, rfl, SqL.of hL, atI_nat (j := 1) rfl, _, rfl, b, _, _, _, rfl, rfl, SqL.of hL, atI_nat (j := 2) rfl, _, rfl, b, _, _, _, rfl, rfl, SqL.of hL, atI_nat (j := 3) rfl, planted_of hb hx hp hl h3 ho⟩
def spFlL (K : PySem.W.Frag) : Sp := fun vs H Q E => ∃ (a r b : Addr) (rows : List Sy.Row) (l : List Str) (bs : List Addr) (ls : List (List Str)), vs = [.ref a, .ref r, .ref b] ∧ BedAt K H a rows ∧ Rw K H r l ∧ H b = some (.lst (bs.map V.ref)) ∧ Paired (fun q (l : List Str) => Rw K H q l) bs ls ∧ ls.length ≤ 4 ∧
  Out K (fillDue rows l ls) (fun d => d = DS (fillW l ls)) False H Q E
theorem sc_flL : FnScope ["_law_bed_here", "_law_first", "_law_pieces"] ["_law_bed_here", "_law_first", "_law_pieces"] (defScope (top 78)) := ⟨rfl, rfl, rfl, by decide +kernel, rfl, by decide +kernel, by decide +kernel⟩
theorem k_flL (T : Txt K mg) (F : DF K mg "_law_filled" 78) (c_filled : CalR P w K mg base 5 "filled" (spStar 2 (spFilled K))) : Cal P w K mg base 6 "_law_filled" ["_law_bed_here", "_law_first", "_law_pieces"] (spFlL K) := by
  refine cal_of F.1 F.2 sc_flL (fun _ _ _ _ _ _ us e => match us, e with | [_, _, _], _ => rfl) (fun vs H Q E s => by obtain ⟨_, _, _, _, _, _, _, rfl, _⟩ := s; rfl) ?_
  intro cdv A outer s H vs Q E hr h
  obtain ⟨a, r, b, rows, l, bs, ls, rfl, hb, hR, hL, hp, hl, ho⟩ := h
  have hbl := paired_len hp
  refine ⟨_, (pss_cons (ps_if (pt_cmpR op_eq (pe_callB call_len_seq (by rfl) T.len (by decide +kernel) (pa_cons (pv 2) pa_nil)) pe_int (nomark _))
        (pss_one (ps_ret (pe_calR c_filled hr (takes_of rfl rfl rfl rfl) (pa_cons (pv 0) (pa_cons (pv 1) pa_nil)))))
        pss_nil)
      (pss_cons (ps_if (pt_cmpR op_eq (pe_callB call_len_seq (by rfl) T.len (by decide +kernel) (pa_cons (pv 2) pa_nil)) pe_int (nomark _))
        (pss_one (ps_ret (pe_calR c_filled hr (takes_of rfl rfl rfl rfl) (pa_cons (pv 0) (pa_cons (pv 1) (pa_cons (pe_ix ix_list (pv 2) pe_int (fun _ _ => rfl)) pa_nil))))))
        pss_nil)
      (pss_cons (ps_if (pt_cmpR op_eq (pe_callB call_len_seq (by rfl) T.len (by decide +kernel) (pa_cons (pv 2) pa_nil)) pe_int (nomark _))
        (pss_one (ps_ret (pe_calR c_filled hr (takes_of rfl rfl rfl rfl) (pa_cons (pv 0) (pa_cons (pv 1) (pa_cons (pe_ix ix_list (pv 2) pe_int (fun _ _ => rfl)) (pa_cons (pe_ix ix_list (pv 2) pe_int (fun _ _ => rfl)) pa_nil)))))))
        pss_nil)
      (pss_cons (ps_if (pt_cmpR op_eq (pe_callB call_len_seq (by rfl) T.len (by decide +kernel) (pa_cons (pv 2) pa_nil)) pe_int (nomark _))
        (pss_one (ps_ret (pe_calR c_filled hr (takes_of rfl rfl rfl rfl) (pa_cons (pv 0) (pa_cons (pv 1) (pa_cons (pe_ix ix_list (pv 2) pe_int (fun _ _ => rfl)) (pa_cons (pe_ix ix_list (pv 2) pe_int (fun _ _ => rfl)) (pa_cons (pe_ix ix_list (pv 2) pe_int (fun _ _ => rfl)) pa_nil))))))))
        pss_nil)
      (pss_one (ps_ret (pe_calR c_filled hr (takes_of rfl rfl rfl rfl) (pa_cons (pv 0) (pa_cons (pv 1) (pa_cons (pe_ix ix_list (pv 2) pe_int (fun _ _ => rfl)) (pa_cons (pe_ix ix_list (pv 2) pe_int (fun _ _ => rfl)) (pa_cons (pe_ix ix_list (pv 2) pe_int (fun _ _ => rfl)) (pa_cons (pe_ix ix_list (pv 2) pe_int (fun _ _ => rfl)) pa_nil))))))))))))), ?_⟩
  refine ⟨_, rfl, b, _, rfl, .inl (SqL.of hL), rfl, _, rfl, if_dec (fun c => ?_) (fun c0 => ?_)⟩
  · have en : bs.length = 0 := by
      have := V.int.inj c
      rw [List.length_map] at this
      omega
    obtain rfl : bs = [] := by
      match bs, en with
      | [], _ => exact rfl
    exact ⟨_, rfl, _, rfl, filled_of hb hR hp hl ho⟩
  refine ⟨_, rfl, b, _, rfl, .inl (SqL.of hL), rfl, _, rfl, if_dec (fun c => ?_) (fun c1 => ?_)⟩
  · have en : bs.length = 1 := by
      have := V.int.inj c
      rw [List.length_map] at this
      omega
    obtain ⟨p0, rfl⟩ : ∃ p0, bs = [p0] := by
      match bs, en with
      | [p0], _ => exact ⟨_, rfl⟩
    exact ⟨_, rfl, _, rfl, _, rfl, b, _, _, _, rfl, rfl, SqL.of hL, atI_nat (j := 0) rfl, filled_of hb hR hp hl ho⟩
  refine ⟨_, rfl, b, _, rfl, .inl (SqL.of hL), rfl, _, rfl, if_dec (fun c => ?_) (fun c2 => ?_)⟩
  · have en : bs.length = 2 := by
      have := V.int.inj c
      rw [List.length_map] at this
      omega
    obtain ⟨p0, p1, rfl⟩ : ∃ p0 p1, bs = [p0, p1] := by
      match bs, en with
      | [p0, p1], _ => exact ⟨_, _, rfl⟩
    exact ⟨_, rfl, _, rfl, _, rfl, b, _, _, _, rfl, rfl, SqL.of hL, atI_nat (j := 0) rfl, _, rfl, b, _, _, _, rfl, rfl, SqL.of hL, atI_nat (j := 1) rfl, filled_of hb hR hp hl ho⟩
  refine ⟨_, rfl, b, _, rfl, .inl (SqL.of hL), rfl, _, rfl, if_dec (fun c => ?_) (fun c3 => ?_)⟩
  · have en : bs.length = 3 := by
      have := V.int.inj c
      rw [List.length_map] at this
      omega
    obtain ⟨p0, p1, p2, rfl⟩ : ∃ p0 p1 p2, bs = [p0, p1, p2] := by
      match bs, en with
      | [p0, p1, p2], _ => exact ⟨_, _, _, rfl⟩
    exact ⟨_, rfl, _, rfl, _, rfl, b, _, _, _, rfl, rfl, SqL.of hL, atI_nat (j := 0) rfl, _, rfl, b, _, _, _, rfl, rfl, SqL.of hL, atI_nat (j := 1) rfl, _, rfl, b, _, _, _, rfl, rfl, SqL.of hL, atI_nat (j := 2) rfl, filled_of hb hR hp hl ho⟩
  have en : bs.length = 4 := by
    have d0 : bs.length ≠ 0 := fun z => c0 (by rw [List.length_map, z]; rfl)
    have d1 : bs.length ≠ 1 := fun z => c1 (by rw [List.length_map, z]; rfl)
    have d2 : bs.length ≠ 2 := fun z => c2 (by rw [List.length_map, z]; rfl)
    have d3 : bs.length ≠ 3 := fun z => c3 (by rw [List.length_map, z]; rfl)
    omega
  obtain ⟨p0, p1, p2, p3, rfl⟩ : ∃ p0 p1 p2 p3, bs = [p0, p1, p2, p3] := by
    match bs, en with
    | [p0, p1, p2, p3], _ => exact ⟨_, _, _, _, rfl⟩
  exact ⟨_, rfl, _, rfl, _, rfl, b, _, _, _, rfl, rfl, SqL.of hL, atI_nat (j := 0) rfl, _, rfl, b, _, _, _, rfl, rfl, SqL.of hL, atI_nat (j := 1) rfl, _, rfl, b, _, _, _, rfl, rfl, SqL.of hL, atI_nat (j := 2) rfl, _, rfl, b, _, _, _, rfl, rfl, SqL.of hL, atI_nat (j := 3) rfl, filled_of hb hR hp hl ho⟩
/-! _law_called -/
/-- what is asked: which function, of what; what is due, what is a good answer, whether TooMany may come -/
inductive Ask (K : PySem.W.Frag) (H : Hp) (rows : List Sy.Row) : Nat → Nat → V → V → V → V → Option Er → (PyData → Prop) → Prop → Prop
  | plant {door : Nat} {r o p : Addr} {v : V} {l m : List Str} {zs : List Int} : Rw K H r l → Rw K H o m → SqT K H p (zs.map V.int) → zs.length ≤ 5000 → (∀ z ∈ zs, z.natAbs ≤ 5) → door ≤ 7 → Ask K H rows 0 door (.ref r) (.ref o) (.ref p) v (pDue rows door l m zs) (pOk rows door l m zs) False
  | stump {door : Nat} {r o : Addr} {v v' : V} {l m : List Str} : Rw K H r l → Rw K H o m → door ≤ 8 → Ask K H rows 1 door (.ref r) (.ref o) v v' (sDue rows door l m) (sOk door l) (door = 8 ∧ 2000 < l.length + m.length)
  | planted {door : Nat} {b : Addr} {x : Str} {v v' : V} {bs : List Addr} {ls : List (List Str)} : Wx x → H b = some (.lst (bs.map V.ref)) → Paired (fun q (l : List Str) => Rw K H q l) bs ls → ls.length ≤ 4 → Ask K H rows 2 door (.str x) v v' (.ref b) (plDue rows x ls) (fun d => d = DS (x :: ls.flatten)) False
  | filled {door : Nat} {r b : Addr} {v v' : V} {l : List Str} {bs : List Addr} {ls : List (List Str)} : Rw K H r l → H b = some (.lst (bs.map V.ref)) → Paired (fun q (l : List Str) => Rw K H q l) bs ls → ls.length ≤ 4 → Ask K H rows 3 door (.ref r) v v' (.ref b) (fillDue rows l ls) (fun d => d = DS (fillW l ls)) False
/-- the bed of the law -/
structure Gd (K : PySem.W.Frag) (H : Hp) (a : Addr) (rows : List Sy.Row) : Prop where
  bed : BedAt K H a rows
  hole : isK rows "*" = false
  le : rows.length ≤ 8
  br : ∀ r ∈ rows, r.2 ≤ 3
def spCalled (K : PySem.W.Frag) : Sp := fun vs H Q E => ∃ (a : Addr) (fam door : Nat) (v1 v2 v3 v4 : V) (rows : List Sy.Row) (due : Option Er) (ok : PyData → Prop) (lg : Prop), vs = [.ref a, .int (fam : Nat), .int (door : Nat), v1, v2, v3, v4] ∧ Gd K H a rows ∧ Ask K H rows fam door v1 v2 v3 v4 due ok lg ∧ Out K due ok lg H Q E
abbrev N_called : List Str := ["_law_bed_here", "_law_family", "_law_door", "_law_first", "_law_second", "_law_path_here", "_law_pieces"]
theorem sc_called : FnScope N_called ["_law_bed_here", "_law_family", "_law_door", "_law_first", "_law_second", "_law_path_here", "_law_pieces"] (defScope (top 79)) := ⟨rfl, rfl, rfl, by decide +kernel, rfl, by decide +kernel, by decide +kernel⟩
theorem k_called (F : DF K mg "_law_called" 79) (c_law_plant_door : Cal P w K mg base 6 "_law_plant_door" ["_law_bed_here", "_law_door", "_law_first", "_law_second", "_law_path_here"] (spPDoor K)) (c_law_stump_door : Cal P w K mg base 7 "_law_stump_door" ["_law_bed_here", "_law_door", "_law_first", "_law_second"] (spSDoor K))
    (c_law_planted : Cal P w K mg base 6 "_law_planted" ["_law_bed_here", "_law_word_here", "_law_pieces"] (spPlL K)) (c_law_filled : Cal P w K mg base 6 "_law_filled" ["_law_bed_here", "_law_first", "_law_pieces"] (spFlL K)) :
    Cal P w K mg base 8 "_law_called" ["_law_bed_here", "_law_family", "_law_door", "_law_first", "_law_second", "_law_path_here", "_law_pieces"] (spCalled K) := by
  refine cal_of F.1 F.2 sc_called (fun _ _ _ _ _ _ us e => match us, e with | [_, _, _, _, _, _, _], _ => rfl) (fun vs H Q E s => by obtain ⟨_, _, _, _, _, _, _, _, _, _, _, rfl, _⟩ := s; rfl) ?_
  intro cdv A outer s H vs Q E hr h
  obtain ⟨a, fam, door, v1, v2, v3, v4, rows, due, ok, lg, rfl, hg, ha, ho⟩ := h
  refine ⟨_, (pss_cons (ps_if (pt_cmpR op_eq (pv 1) pe_int (nomark _))
        (pss_one (ps_ret (pe_calX c_law_plant_door hr (takes_of rfl rfl rfl rfl) (pa_cons (pv 0) (pa_cons (pv 2) (pa_cons (pv 3) (pa_cons (pv 4) (pa_cons (pv 5) pa_nil))))))))
        pss_nil)
      (pss_cons (ps_if (pt_cmpR op_eq (pv 1) pe_int (nomark _))
        (pss_one (ps_ret (pe_calX c_law_stump_door hr (takes_of rfl rfl rfl rfl) (pa_cons (pv 0) (pa_cons (pv 2) (pa_cons (pv 3) (pa_cons (pv 4) pa_nil)))))))
        pss_nil)
      (pss_cons (ps_if (pt_cmpR op_eq (pv 1) pe_int (nomark _))
        (pss_one (ps_ret (pe_calX c_law_planted hr (takes_of rfl rfl rfl rfl) (pa_cons (pv 0) (pa_cons (pv 3) (pa_cons (pv 6) pa_nil))))))
        pss_nil)
      (pss_one (ps_ret (pe_calX c_law_filled hr (takes_of rfl rfl rfl rfl) (pa_cons (pv 0) (pa_cons (pv 3) (pa_cons (pv 6) pa_nil))))))))), ?_⟩
  have no : ∀ {i j : Nat}, i ≠ j → ¬ (V.int (i : Nat) = V.int ((j : Nat) : Int)) := fun h z => h (by have := V.int.inj z; omega)
  cases ha with
  | plant hR hO hP hz hzb hd =>
    refine ⟨_, rfl, rfl, _, rfl, if_dec (fun c => ?_) (fun c => absurd rfl c)⟩
    exact ⟨_, rfl, _, rfl, _, rfl, _, rfl, _, rfl, a, _, _, _, door, rows, _, _, _, rfl, hg.bed, hg.le, hR, hO, hP, hz, hzb, hd, ho⟩
  | stump hR hO hd =>
    refine ⟨_, rfl, rfl, _, rfl, if_dec (fun c => absurd c (no (i := 1) (j := 0) (by decide))) (fun _ => ?_)⟩
    refine ⟨_, rfl, rfl, _, rfl, if_dec (fun c => ?_) (fun c => absurd rfl c)⟩
    exact ⟨_, rfl, _, rfl, _, rfl, _, rfl, a, _, _, door, rows, _, _, rfl, hg.bed, hg.hole, hR, hO, hd, ho⟩
  | planted hx hL hp hl =>
    refine ⟨_, rfl, rfl, _, rfl, if_dec (fun c => absurd c (no (i := 2) (j := 0) (by decide))) (fun _ => ?_)⟩
    refine ⟨_, rfl, rfl, _, rfl, if_dec (fun c => absurd c (no (i := 2) (j := 1) (by decide))) (fun _ => ?_)⟩
    refine ⟨_, rfl, rfl, _, rfl, if_dec (fun c => ?_) (fun c => absurd rfl c)⟩
    exact ⟨_, rfl, _, rfl, _, rfl, a, _, _, rows, _, _, rfl, hg.bed, hx, hL, hp, hl, hg.br, ho⟩
  | filled hR hL hp hl =>
    refine ⟨_, rfl, rfl, _, rfl, if_dec (fun c => absurd c (no (i := 3) (j := 0) (by decide))) (fun _ => ?_)⟩
    refine ⟨_, rfl, rfl, _, rfl, if_dec (fun c => absurd c (no (i := 3) (j := 1) (by decide))) (fun _ => ?_)⟩
    refine ⟨_, rfl, rfl, _, rfl, if_dec (fun c => absurd c (no (i := 3) (j := 2) (by decide))) (fun _ => ?_)⟩
    exact ⟨_, rfl, _, rfl, _, rfl, a, _, _, rows, _, _, _, rfl, hg.bed, hR, hL, hp, hl, ho⟩
end
end Sy
namespace Sy
open PySem PySem.Spec PyProof.Rows L2
section
variable {X : Cx}
/-- l.count(y), all flat -/
def rLCnt (K : PySem.W.Frag) : V → List V → Hp → VK → Prop := fun x xs H Q => ∃ (a : Addr) (ys : List V) (y : V), x = V.ref a ∧ xs = [y] ∧ SqL K H a ys ∧ flatV y = true ∧ ys.all flatV = true ∧ Q (.int (ys.countP fun z => eqV z y : Nat)) H
theorem mt_lcountV : MtR X "list.count" (rLCnt X.K) := by
  intro pins s σ H x xs v us Q I rx rxs h
  obtain ⟨a, ys, y, rfl, rfl, hs, fy, fys, q⟩ := h
  cases rx
  cases rxs with
  | cons ry rt =>
    rename_i uy ut
    cases rt
    obtain ⟨its, rv, ⟨⟨cls, dd, data, sl⟩, n, ho, hc, hdn, hd⟩, hlen⟩ := I.list hs
    simp only at hc hd
    subst hc hd
    refine call_meets PySem.F.slot_list_count ⟨_, ho, rfl⟩ PySem.F.entry_list_count (PySem.F.args_list_count_2 _ _) (SeqAt.list_countAt a its.toArray n dd sl uy (eqU y)) ⟨ho, fun u' hu' => mem_eqAt ry fy rv fys u' (by simpa using hu'), ?_⟩
    have e1 : its.toArray.toList.countP (eqU y) = ys.countP fun z => eqV z y := by
      rw [← countU rv fys]
    rw [e1]
    exact ⟨.int (ys.countP fun z => eqV z y : Nat), H, I.tok _, ⟨_, rfl⟩, q⟩
/-! rules that name the heap's frame themselves -/
theorem pe_ixK (K : PySem.W.Frag) {a b : Expr} {ta tb : TE} {pos : Pos} (hK : X.K = K) (ha : PE X a ta) (hb : PE X b tb) (hs : PlainIx b) : PE X (.Subscript a b pos) (tOp (rIxL K) ta tb) := by
  subst hK
  exact pe_ix ix_list ha hb hs
theorem pe_cntK (K : PySem.W.Frag) {o e : Expr} {to : TE} {t : TA} {apos cpos : Pos} (hK : X.K = K) (ho : PE X o to) (ha : PA X [e] t)
    (hbase : attributeBase o "count" X.env (eval o X.env) = eval o X.env := by rfl)
    (hfew : ((backTo cpos (starEach [e] X.env)).all (fun x => !x.1) && (backToKw cpos (keywordEach [] X.env)).all (fun x => x.1.isSome)
      && decide ([e].length + ([] : List Keyword).length + (if ([] : List Keyword).isEmpty then 0 else 1) < 30)) = true := by rfl)
    (hline : (apos.endLine == cpos.line) = true := by rfl) (hs : starEach [e] X.env = (false, eval e X.env) :: starEach [] X.env := by rfl) (hplain : (backTo cpos (starEach [] X.env)).any (·.1) = false := by rfl) :
    PE X (.Call (.Attribute o "count" apos) [e] [] cpos) (tBM K "list" (rLCnt K) to t) := by
  subst hK
  exact pe_bm PySem.F.plainAttrs_list PySem.F.slot_list_count PySem.F.type_list_count mt_lcountV ho ha hbase hfew hline hs hplain
theorem call_isXK (K : PySem.W.Frag) {a : Addr} {cls : Value} {d : Option Addr} {oe : Obj} {pn : List (Addr × Obj)} (hK : X.K = K) (hz : Zc cls d oe) (hf : ∃ vs, oe.data = .fields vs) : CallR (X.suite a ((a, oe) :: pn)) (.builtin "isinstance") (rIsX K a cls d) := by
  subst hK
  exact call_isX hz hf
end
def Er.idx : Er → Nat
  | .many => 0
  | .plant _ => 1
  | .stump _ => 2
  | .path _ => 3
  | .kind _ => 4
  | .wrong _ _ => 5
theorem Er.six : ∀ e : Er, e.cls = Sy.six e.idx
  | .many => rfl
  | .plant _ => rfl
  | .stump _ => rfl
  | .path _ => rfl
  | .kind _ => rfl
  | .wrong _ _ => rfl
theorem Er.lt6 : ∀ e : Er, e.idx < 6
  | .many => by decide
  | .plant _ => by show 1 < 6; decide
  | .stump _ => by show 2 < 6; decide
  | .path _ => by show 3 < 6; decide
  | .kind _ => by show 4 < 6; decide
  | .wrong _ _ => by show 5 < 6; decide
/-- what is asked of the classes of the errors -/
structure MetT (K : PySem.W.Frag) (mg : Str → Option Value) : Prop where
  exc : ∀ k, k < 6 → ExcC K (He.ga K (six k))
  kit : ∀ k j, k < 6 → j < 6 → PySem.W.kitOne K (.ref (He.ga K (six k))) (.ref (He.ga K (six j))) = some (decide (k = j))
  val : ∀ k, k < 6 → PySem.W.kitOne K (.ref (He.ga K (six k))) (.type "ValueError") = some true
  exm : ∀ k, k < 6 → PySem.W.exmOne K (.ref (He.ga K (six k))) (.ref (He.ga K "YardError")) = some true
  yard : mg "YardError" = some (.ref (He.ga K "YardError"))
  ve : mg "ValueError" = none
def dTold (d : PyData) : PyData := .tuple [.str "told", d]
/-- how a call ends, as data -/
def OutM (K : PySem.W.Frag) (due : Option Er) (ok : PyData → Prop) (lg : Prop) (H : Hp) (Q : VK) : Prop :=
  (due = none → (∀ H' v d, Same H H' → Im K H' v (dTold d) → ok d → Q v H') ∧ (lg → ∀ H' v, Same H H' → Im K H' v Er.many.dat → Q v H')) ∧ ∀ e, due = some e → ∀ H' v, Same H H' → Im K H' v e.dat → Q v H'
theorem cnt6 (k : Nat) (h : k < 6) : ([V.bl (decide (k = 0)), .bl (decide (k = 1)), .bl (decide (k = 2)), .bl (decide (k = 3)), .bl (decide (k = 4)), .bl (decide (k = 5))] : List V).countP (fun z => eqV z (.bl true)) = 1 := by
  match k, h with
  | 0, _ => rfl
  | 1, _ => rfl
  | 2, _ => rfl
  | 3, _ => rfl
  | 4, _ => rfl
  | 5, _ => rfl
section
variable {P : Program} {w : World} {K : PySem.W.Frag} {mg : Str → Option Value} {base : Heap}
def spMet (K : PySem.W.Frag) : Sp := fun vs H Q _ => ∃ (a : Addr) (fam door : Nat) (v1 v2 v3 v4 : V) (rows : List Sy.Row) (due : Option Er) (ok : PyData → Prop) (lg : Prop), vs = [.ref a, .int (fam : Nat), .int (door : Nat), v1, v2, v3, v4] ∧ Gd K H a rows ∧ Ask K H rows fam door v1 v2 v3 v4 due ok lg ∧ OutM K due ok lg H Q
abbrev N_met : List Str := ["_law_bed_here", "_law_family", "_law_door", "_law_first", "_law_second", "_law_path_here", "_law_pieces", "e", "_law_alone"]
theorem sc_met : FnScope N_met ["_law_bed_here", "_law_family", "_law_door", "_law_first", "_law_second", "_law_path_here", "_law_pieces"] (defScope (top 80)) := ⟨rfl, rfl, rfl, by decide +kernel, rfl, by decide +kernel, by decide +kernel⟩
theorem k_met (T : TxtC mg) (R : Ers P K mg) (M : MetT K mg) (F : DF K mg "_law_met" 80) (c_law_called : Cal P w K mg base 8 "_law_called" ["_law_bed_here", "_law_family", "_law_door", "_law_first", "_law_second", "_law_path_here", "_law_pieces"] (spCalled K)) :
    Cal P w K mg base 9 "_law_met" ["_law_bed_here", "_law_family", "_law_door", "_law_first", "_law_second", "_law_path_here", "_law_pieces"] (spMet K) := by
  refine cal_of F.1 F.2 sc_met (fun _ _ _ _ _ _ us e => match us, e with | [_, _, _, _, _, _, _], _ => rfl) (fun vs H Q E s => by obtain ⟨_, _, _, _, _, _, _, _, _, _, _, rfl, _⟩ := s; rfl) ?_
  intro cdv A outer s H vs Q E hr h
  obtain ⟨a, fam, door, v1, v2, v3, v4, rows, due, ok, lg, rfl, hg, ha, ho⟩ := h
  have sc := sc_met
  refine ⟨_, pss_one (ps_try_fst (i := 7) rfl rfl sc.nd rfl rfl ⟨rfl, by decide, .inl M.yard⟩
    (fun W pn xe tk _ => pss_one (ps_ret (pe_tup (pa_cons pe_str (pa_cons (pe_calX c_law_called hr tk (pa_cons (pv 0) (pa_cons (pv 1) (pa_cons (pv 2) (pa_cons (pv 3) (pa_cons (pv 4) (pa_cons (pv 5) (pa_cons (pv 6) pa_nil)))))))) pa_nil)))))
    (fun ea oe cls d pn hz hf => pss_cons (ps_set (i := 8) sc.nd rfl (Or.inl rfl) (pe_lst (pa_cons (pe_callB (call_isXK K rfl hz hf) (by rfl) T.isinstance (by decide +kernel) (pa_cons (pv 7) (pa_cons (pe_glob (v := .ref (He.ga K "TooMany")) rfl R.tm.at_ rfl) pa_nil)))
          (pa_cons (pe_callB (call_isXK K rfl hz hf) (by rfl) T.isinstance (by decide +kernel) (pa_cons (pv 7) (pa_cons (pe_glob (v := .ref (He.ga K "InvalidPlant")) rfl R.ip.at_ rfl) pa_nil)))
          (pa_cons (pe_callB (call_isXK K rfl hz hf) (by rfl) T.isinstance (by decide +kernel) (pa_cons (pv 7) (pa_cons (pe_glob (v := .ref (He.ga K "InvalidStump")) rfl R.is.at_ rfl) pa_nil))) pa_nil)))))
      (pss_cons (ps_set (i := 8) sc.nd rfl (Or.inl rfl) (pe_op op_cat (pv 8) (pe_lst (pa_cons (pe_callB (call_isXK K rfl hz hf) (by rfl) T.isinstance (by decide +kernel) (pa_cons (pv 7) (pa_cons (pe_glob (v := .ref (He.ga K "NoPath")) rfl R.np.at_ rfl) pa_nil)))
          (pa_cons (pe_callB (call_isXK K rfl hz hf) (by rfl) T.isinstance (by decide +kernel) (pa_cons (pv 7) (pa_cons (pe_glob (v := .ref (He.ga K "UnknownKind")) rfl R.uk.at_ rfl) pa_nil)))
          (pa_cons (pe_callB (call_isXK K rfl hz hf) (by rfl) T.isinstance (by decide +kernel) (pa_cons (pv 7) (pa_cons (pe_glob (v := .ref (He.ga K "WrongBranches")) rfl R.wb.at_ rfl) pa_nil))) pa_nil))))))
      (pss_cons (ps_if (PW.pt (pw_or (pt_not (pt_val (pe_callB (call_isXK K rfl hz hf) (by rfl) T.isinstance (by decide +kernel) (pa_cons (pv 7) (pa_cons (pe_bltn (v := .ty "ValueError") (by rfl) M.ve (by decide +kernel) rfl) pa_nil)))))
            (pw_or1 (pt_cmpR op_ne (pe_cntK K rfl (pv 8) (pa_cons pe_bl pa_nil)) pe_int (nomark _)))))
          (pss_one ps_never)
          pss_nil)
      (pss_cons (ps_if (pt_val (pe_ixK K rfl (pv 8) pe_int (fun _ _ => rfl)))
          (pss_one (ps_ret (pe_tup (pa_cons pe_str (pa_cons (pe_xf R.tm.xf (R.tm.no _ (by decide)) hz hf (pv 7)) (pa_cons (pe_xf R.tm.xf (R.tm.no _ (by decide)) hz hf (pv 7)) pa_nil))))))
          pss_nil)
      (pss_cons (ps_if (pt_val (pe_ixK K rfl (pv 8) pe_int (fun _ _ => rfl)))
          (pss_one (ps_ret (pe_tup (pa_cons pe_str (pa_cons (pe_xf R.ip.xf (R.ip.no _ (by decide)) hz hf (pv 7)) pa_nil)))))
          pss_nil)
      (pss_cons (ps_if (pt_val (pe_ixK K rfl (pv 8) pe_int (fun _ _ => rfl)))
          (pss_one (ps_ret (pe_tup (pa_cons pe_str (pa_cons (pe_xf R.is.xf (R.is.no _ (by decide)) hz hf (pv 7)) pa_nil)))))
          pss_nil)
      (pss_cons (ps_if (pt_val (pe_ixK K rfl (pv 8) pe_int (fun _ _ => rfl)))
          (pss_one (ps_ret (pe_tup (pa_cons pe_str (pa_cons (pe_xf R.np.xf (R.np.no _ (by decide)) hz hf (pv 7)) pa_nil)))))
          pss_nil)
      (pss_cons (ps_if (pt_val (pe_ixK K rfl (pv 8) pe_int (fun _ _ => rfl)))
          (pss_one (ps_ret (pe_tup (pa_cons pe_str (pa_cons (pe_xf R.uk.xf (R.uk.no _ (by decide)) hz hf (pv 7)) pa_nil)))))
          pss_nil)
      (pss_one (ps_ret (pe_tup (pa_cons pe_str (pa_cons (pe_xf R.wb.xf (R.wb.no _ (by decide)) hz hf (pv 7)) (pa_cons (pe_xf R.wb.xf (R.wb.no _ (by decide)) hz hf (pv 7)) pa_nil))))))))))))))), ?_⟩
  refine ⟨_, rfl, _, rfl, _, rfl, _, rfl, _, rfl, _, rfl, _, rfl, a, fam, door, v1, v2, v3, v4, rows, due, ok, lg, rfl, hg, ha, ?_⟩
  refine ⟨fun hd => ⟨fun H1 v d s1 i o => ⟨by show 2 ≤ sizeLine; decide, fun t hn => (ho.1 hd).1 _ _ d (s1.trans (up_same hn)) (.tup (SqT.of upd_same) (.cons (.str _) (.cons (i.mono (Stay.of (up_same hn))) .nil))) o⟩, fun z => ?_⟩, fun e he => ?_⟩
  · have hq : ∀ H' v, Same H H' → Im K H' v Er.many.dat → Q v H' := (ho.1 hd).2 z
    revert hq
    generalize Er.many = e
    intro hq
    intro d H1 fs s1 ed im
    have hcls := e.six
    have h6 := e.lt6
    refine ⟨?_, fun ea hea => ?_⟩
    · rw [hcls]
      exact M.exm _ h6
    have exc : ExcC K (He.ga K e.cls) := by rw [hcls]; exact M.exc _ h6
    have kit : ∀ j, j < 6 → PySem.W.kitOne K (.ref (He.ga K e.cls)) (.ref (He.ga K (six j))) = some (decide (e.idx = j)) := fun j hj => by rw [hcls]; exact M.kit _ j h6 hj
    have val : PySem.W.kitOne K (.ref (He.ga K e.cls)) (.type "ValueError") = some true := by rw [hcls]; exact M.val _ h6
    refine ⟨_, rfl, _, d, fs, _, _, _, rfl, rfl, ed, exc, rfl, fun _ z => z, kit 0 (by decide), _, rfl, _, d, fs, _, _, _, rfl, rfl, ed, exc, rfl, fun _ z => z, kit 1 (by decide), _, rfl, _, d, fs, _, _, _, rfl, rfl, ed, exc, rfl, fun _ z => z, kit 2 (by decide), (by show 3 ≤ sizeLine; decide), fun L1 hL1 => ?_⟩
    have u1 := up_same (o := .lst [V.bl (decide (e.idx = 0)), .bl (decide (e.idx = 1)), .bl (decide (e.idx = 2))]) hL1
    have e1 : (upd H1 L1 (.lst [V.bl (decide (e.idx = 0)), .bl (decide (e.idx = 1)), .bl (decide (e.idx = 2))])) L1 = some (.lst [V.bl (decide (e.idx = 0)), .bl (decide (e.idx = 1)), .bl (decide (e.idx = 2))]) := upd_same
    have ed1 := u1 _ _ ed
    refine ⟨_, rfl, _, rfl, _, d, fs, _, _, _, rfl, rfl, ed1, exc, rfl, fun _ z => z, kit 3 (by decide), _, rfl, _, d, fs, _, _, _, rfl, rfl, ed1, exc, rfl, fun _ z => z, kit 4 (by decide), _, rfl, _, d, fs, _, _, _, rfl, rfl, ed1, exc, rfl, fun _ z => z, kit 5 (by decide), (by show 3 ≤ sizeLine; decide), fun L2 hL2 => ?_⟩
    have u2 := up_same (o := .lst [V.bl (decide (e.idx = 3)), .bl (decide (e.idx = 4)), .bl (decide (e.idx = 5))]) hL2
    refine ⟨L1, L2, _, _, rfl, rfl, u2 _ _ e1, upd_same, (by show 6 ≤ sizeLine; decide), fun L3 hL3 => ?_⟩
    have u3 := up_same (o := .lst [V.bl (decide (e.idx = 0)), .bl (decide (e.idx = 1)), .bl (decide (e.idx = 2)), .bl (decide (e.idx = 3)), .bl (decide (e.idx = 4)), .bl (decide (e.idx = 5))]) hL3
    have s3 := ((s1.trans u1).trans u2).trans u3
    have ed3 := u3 _ _ (u2 _ _ ed1)
    have im3 := im.mono ((u1.trans u2).trans u3)
    have e3 : (upd (upd (upd H1 L1 (.lst [V.bl (decide (e.idx = 0)), .bl (decide (e.idx = 1)), .bl (decide (e.idx = 2))])) L2 (.lst [V.bl (decide (e.idx = 3)), .bl (decide (e.idx = 4)), .bl (decide (e.idx = 5))])) L3 (.lst [V.bl (decide (e.idx = 0)), .bl (decide (e.idx = 1)), .bl (decide (e.idx = 2)), .bl (decide (e.idx = 3)), .bl (decide (e.idx = 4)), .bl (decide (e.idx = 5))])) L3 = some (.lst [V.bl (decide (e.idx = 0)), .bl (decide (e.idx = 1)), .bl (decide (e.idx = 2)), .bl (decide (e.idx = 3)), .bl (decide (e.idx = 4)), .bl (decide (e.idx = 5))]) := upd_same
    refine ⟨_, rfl, _, d, fs, _, _, true, rfl, rfl, ed3, exc, rfl, fun _ z => z, val, _, rfl, iteF ?_⟩
    refine ⟨_, rfl, .inl ⟨rfl, _, SqL.of e3⟩, L3, _, .bl true, rfl, rfl, SqL.of e3, rfl, rfl, ?_⟩
    rw [cnt6 _ h6]
    refine ⟨rfl, _, rfl, iteF ?_⟩
    refine ⟨_, rfl, L3, _, _, _, rfl, rfl, SqL.of e3, atI_nat (j := 0) rfl, _, rfl, if_dec (fun c => ?_) (fun c0 => ?_)⟩
    · cases e with
      | many =>
        cases im3 with
        | cons i1 r1 =>
          cases r1 with
          | cons i2 r2 =>
            cases r2
            exact ⟨_, rfl, rfl, rfl, d, _, _, rfl, ed3, rfl, _, rfl, rfl, rfl, d, _, _, rfl, ed3, rfl, (by show 3 ≤ sizeLine; decide), fun t hn => hq _ _ (s3.trans (up_same hn)) (.tup (SqT.of upd_same) (.cons (.str _) (.cons (i2.mono (Stay.of (up_same hn))) (.cons (i1.mono (Stay.of (up_same hn))) .nil))))⟩
      | plant _ => exact absurd c (by simp [Er.idx])
      | stump _ => exact absurd c (by simp [Er.idx])
      | path _ => exact absurd c (by simp [Er.idx])
      | kind _ => exact absurd c (by simp [Er.idx])
      | wrong _ _ => exact absurd c (by simp [Er.idx])
    refine ⟨_, rfl, L3, _, _, _, rfl, rfl, SqL.of e3, atI_nat (j := 1) rfl, _, rfl, if_dec (fun c => ?_) (fun c1 => ?_)⟩
    · cases e with
      | many => exact absurd c (by simp [Er.idx])
      | plant _ =>
        cases im3 with
        | cons i1 r1 =>
          cases r1
          exact ⟨_, rfl, rfl, rfl, d, _, _, rfl, ed3, rfl, (by show 2 ≤ sizeLine; decide), fun t hn => hq _ _ (s3.trans (up_same hn)) (.tup (SqT.of upd_same) (.cons (.str _) (.cons (i1.mono (Stay.of (up_same hn))) .nil)))⟩
      | stump _ => exact absurd c (by simp [Er.idx])
      | path _ => exact absurd c (by simp [Er.idx])
      | kind _ => exact absurd c (by simp [Er.idx])
      | wrong _ _ => exact absurd c (by simp [Er.idx])
    refine ⟨_, rfl, L3, _, _, _, rfl, rfl, SqL.of e3, atI_nat (j := 2) rfl, _, rfl, if_dec (fun c => ?_) (fun c2 => ?_)⟩
    · cases e with
      | many => exact absurd c (by simp [Er.idx])
      | plant _ => exact absurd c (by simp [Er.idx])
      | stump _ =>
        cases im3 with
        | cons i1 r1 =>
          cases r1
          exact ⟨_, rfl, rfl, rfl, d, _, _, rfl, ed3, rfl, (by show 2 ≤ sizeLine; decide), fun t hn => hq _ _ (s3.trans (up_same hn)) (.tup (SqT.of upd_same) (.cons (.str _) (.cons (i1.mono (Stay.of (up_same hn))) .nil)))⟩
      | path _ => exact absurd c (by simp [Er.idx])
      | kind _ => exact absurd c (by simp [Er.idx])
      | wrong _ _ => exact absurd c (by simp [Er.idx])
    refine ⟨_, rfl, L3, _, _, _, rfl, rfl, SqL.of e3, atI_nat (j := 3) rfl, _, rfl, if_dec (fun c => ?_) (fun c3 => ?_)⟩
    · cases e with
      | many => exact absurd c (by simp [Er.idx])
      | plant _ => exact absurd c (by simp [Er.idx])
      | stump _ => exact absurd c (by simp [Er.idx])
      | path _ =>
        cases im3 with
        | cons i1 r1 =>
          cases r1
          exact ⟨_, rfl, rfl, rfl, d, _, _, rfl, ed3, rfl, (by show 2 ≤ sizeLine; decide), fun t hn => hq _ _ (s3.trans (up_same hn)) (.tup (SqT.of upd_same) (.cons (.str _) (.cons (i1.mono (Stay.of (up_same hn))) .nil)))⟩
      | kind _ => exact absurd c (by simp [Er.idx])
      | wrong _ _ => exact absurd c (by simp [Er.idx])
    refine ⟨_, rfl, L3, _, _, _, rfl, rfl, SqL.of e3, atI_nat (j := 4) rfl, _, rfl, if_dec (fun c => ?_) (fun c4 => ?_)⟩
    · cases e with
      | many => exact absurd c (by simp [Er.idx])
      | plant _ => exact absurd c (by simp [Er.idx])
      | stump _ => exact absurd c (by simp [Er.idx])
      | path _ => exact absurd c (by simp [Er.idx])
      | kind _ =>
        cases im3 with
        | cons i1 r1 =>
          cases r1
          exact ⟨_, rfl, rfl, rfl, d, _, _, rfl, ed3, rfl, (by show 2 ≤ sizeLine; decide), fun t hn => hq _ _ (s3.trans (up_same hn)) (.tup (SqT.of upd_same) (.cons (.str _) (.cons (i1.mono (Stay.of (up_same hn))) .nil)))⟩
      | wrong _ _ => exact absurd c (by simp [Er.idx])
    have c : e.idx = 5 := by omega
    cases e with
    | many => exact absurd c (by simp [Er.idx])
    | plant _ => exact absurd c (by simp [Er.idx])
    | stump _ => exact absurd c (by simp [Er.idx])
    | path _ => exact absurd c (by simp [Er.idx])
    | kind _ => exact absurd c (by simp [Er.idx])
    | wrong _ _ =>
      cases im3 with
      | cons i1 r1 =>
        cases r1 with
        | cons i2 r2 =>
          cases r2
          exact ⟨_, rfl, rfl, rfl, d, _, _, rfl, ed3, rfl, _, rfl, rfl, rfl, d, _, _, rfl, ed3, rfl, (by show 3 ≤ sizeLine; decide), fun t hn => hq _ _ (s3.trans (up_same hn)) (.tup (SqT.of upd_same) (.cons (.str _) (.cons (i2.mono (Stay.of (up_same hn))) (.cons (i1.mono (Stay.of (up_same hn))) .nil))))⟩
  · have hq : ∀ H' v, Same H H' → Im K H' v e.dat → Q v H' := ho.2 e he
    intro d H1 fs s1 ed im
    have hcls := e.six
    have h6 := e.lt6
    refine ⟨?_, fun ea hea => ?_⟩
    · rw [hcls]
      exact M.exm _ h6
    have exc : ExcC K (He.ga K e.cls) := by rw [hcls]; exact M.exc _ h6
    have kit : ∀ j, j < 6 → PySem.W.kitOne K (.ref (He.ga K e.cls)) (.ref (He.ga K (six j))) = some (decide (e.idx = j)) := fun j hj => by rw [hcls]; exact M.kit _ j h6 hj
    have val : PySem.W.kitOne K (.ref (He.ga K e.cls)) (.type "ValueError") = some true := by rw [hcls]; exact M.val _ h6
    refine ⟨_, rfl, _, d, fs, _, _, _, rfl, rfl, ed, exc, rfl, fun _ z => z, kit 0 (by decide), _, rfl, _, d, fs, _, _, _, rfl, rfl, ed, exc, rfl, fun _ z => z, kit 1 (by decide), _, rfl, _, d, fs, _, _, _, rfl, rfl, ed, exc, rfl, fun _ z => z, kit 2 (by decide), (by show 3 ≤ sizeLine; decide), fun L1 hL1 => ?_⟩
    have u1 := up_same (o := .lst [V.bl (decide (e.idx = 0)), .bl (decide (e.idx = 1)), .bl (decide (e.idx = 2))]) hL1
    have e1 : (upd H1 L1 (.lst [V.bl (decide (e.idx = 0)), .bl (decide (e.idx = 1)), .bl (decide (e.idx = 2))])) L1 = some (.lst [V.bl (decide (e.idx = 0)), .bl (decide (e.idx = 1)), .bl (decide (e.idx = 2))]) := upd_same
    have ed1 := u1 _ _ ed
    refine ⟨_, rfl, _, rfl, _, d, fs, _, _, _, rfl, rfl, ed1, exc, rfl, fun _ z => z, kit 3 (by decide), _, rfl, _, d, fs, _, _, _, rfl, rfl, ed1, exc, rfl, fun _ z => z, kit 4 (by decide), _, rfl, _, d, fs, _, _, _, rfl, rfl, ed1, exc, rfl, fun _ z => z, kit 5 (by decide), (by show 3 ≤ sizeLine; decide), fun L2 hL2 => ?_⟩
    have u2 := up_same (o := .lst [V.bl (decide (e.idx = 3)), .bl (decide (e.idx = 4)), .bl (decide (e.idx = 5))]) hL2
    refine ⟨L1, L2, _, _, rfl, rfl, u2 _ _ e1, upd_same, (by show 6 ≤ sizeLine; decide), fun L3 hL3 => ?_⟩
    have u3 := up_same (o := .lst [V.bl (decide (e.idx = 0)), .bl (decide (e.idx = 1)), .bl (decide (e.idx = 2)), .bl (decide (e.idx = 3)), .bl (decide (e.idx = 4)), .bl (decide (e.idx = 5))]) hL3
    have s3 := ((s1.trans u1).trans u2).trans u3
    have ed3 := u3 _ _ (u2 _ _ ed1)
    have im3 := im.mono ((u1.trans u2).trans u3)
    have e3 : (upd (upd (upd H1 L1 (.lst [V.bl (decide (e.idx = 0)), .bl (decide (e.idx = 1)), .bl (decide (e.idx = 2))])) L2 (.lst [V.bl (decide (e.idx = 3)), .bl (decide (e.idx = 4)), .bl (decide (e.idx = 5))])) L3 (.lst [V.bl (decide (e.idx = 0)), .bl (decide (e.idx = 1)), .bl (decide (e.idx = 2)), .bl (decide (e.idx = 3)), .bl (decide (e.idx = 4)), .bl (decide (e.idx = 5))])) L3 = some (.lst [V.bl (decide (e.idx = 0)), .bl (decide (e.idx = 1)), .bl (decide (e.idx = 2)), .bl (decide (e.idx = 3)), .bl (decide (e.idx = 4)), .bl (decide (e.idx = 5))]) := upd_same
    refine ⟨_, rfl, _, d, fs, _, _, true, rfl, rfl, ed3, exc, rfl, fun _ z => z, val, _, rfl, iteF ?_⟩
    refine ⟨_, rfl, .inl ⟨rfl, _, SqL.of e3⟩, L3, _, .bl true, rfl, rfl, SqL.of e3, rfl, rfl, ?_⟩
    rw [cnt6 _ h6]
    refine ⟨rfl, _, rfl, iteF ?_⟩
    refine ⟨_, rfl, L3, _, _, _, rfl, rfl, SqL.of e3, atI_nat (j := 0) rfl, _, rfl, if_dec (fun c => ?_) (fun c0 => ?_)⟩
    · cases e with
      | many =>
        cases im3 with
        | cons i1 r1 =>
          cases r1 with
          | cons i2 r2 =>
            cases r2
            exact ⟨_, rfl, rfl, rfl, d, _, _, rfl, ed3, rfl, _, rfl, rfl, rfl, d, _, _, rfl, ed3, rfl, (by show 3 ≤ sizeLine; decide), fun t hn => hq _ _ (s3.trans (up_same hn)) (.tup (SqT.of upd_same) (.cons (.str _) (.cons (i2.mono (Stay.of (up_same hn))) (.cons (i1.mono (Stay.of (up_same hn))) .nil))))⟩
      | plant _ => exact absurd c (by simp [Er.idx])
      | stump _ => exact absurd c (by simp [Er.idx])
      | path _ => exact absurd c (by simp [Er.idx])
      | kind _ => exact absurd c (by simp [Er.idx])
      | wrong _ _ => exact absurd c (by simp [Er.idx])
    refine ⟨_, rfl, L3, _, _, _, rfl, rfl, SqL.of e3, atI_nat (j := 1) rfl, _, rfl, if_dec (fun c => ?_) (fun c1 => ?_)⟩
    · cases e with
      | many => exact absurd c (by simp [Er.idx])
      | plant _ =>
        cases im3 with
        | cons i1 r1 =>
          cases r1
          exact ⟨_, rfl, rfl, rfl, d, _, _, rfl, ed3, rfl, (by show 2 ≤ sizeLine; decide), fun t hn => hq _ _ (s3.trans (up_same hn)) (.tup (SqT.of upd_same) (.cons (.str _) (.cons (i1.mono (Stay.of (up_same hn))) .nil)))⟩
      | stump _ => exact absurd c (by simp [Er.idx])
      | path _ => exact absurd c (by simp [Er.idx])
      | kind _ => exact absurd c (by simp [Er.idx])
      | wrong _ _ => exact absurd c (by simp [Er.idx])
    refine ⟨_, rfl, L3, _, _, _, rfl, rfl, SqL.of e3, atI_nat (j := 2) rfl, _, rfl, if_dec (fun c => ?_) (fun c2 => ?_)⟩
    · cases e with
      | many => exact absurd c (by simp [Er.idx])
      | plant _ => exact absurd c (by simp [Er.idx])
      | stump _ =>
        cases im3 with
        | cons i1 r1 =>
          cases r1
          exact ⟨_, rfl, rfl, rfl, d, _, _, rfl, ed3, rfl, (by show 2 ≤ sizeLine; decide), fun t hn => hq _ _ (s3.trans (up_same hn)) (.tup (SqT.of upd_same) (.cons (.str _) (.cons (i1.mono (Stay.of (up_same hn))) .nil)))⟩
      | path _ => exact absurd c (by simp [Er.idx])
      | kind _ => exact absurd c (by simp [Er.idx])
      | wrong _ _ => exact absurd c (by simp [Er.idx])
    refine ⟨_, rfl, L3, _, _, _, rfl, rfl, SqL.of e3, atI_nat (j := 3) rfl, _, rfl, if_dec (fun c => ?_) (fun c3 => ?_)⟩
    · cases e with
      | many => exact absurd c (by simp [Er.idx])
      | plant _ => exact absurd c (by simp [Er.idx])
      | stump _ => exact absurd c (by simp [Er.idx])
      | path _ =>
        cases im3 with
        | cons i1 r1 =>
          cases r1
          exact ⟨_, rfl, rfl, rfl, d, _, _, rfl, ed3, rfl, (by show 2 ≤ sizeLine; decide), fun t hn => hq _ _ (s3.trans (up_same hn)) (.tup (SqT.of upd_same) (.cons (.str _) (.cons (i1.mono (Stay.of (up_same hn))) .nil)))⟩
      | kind _ => exact absurd c (by simp [Er.idx])
      | wrong _ _ => exact absurd c (by simp [Er.idx])
    refine ⟨_, rfl, L3, _, _, _, rfl, rfl, SqL.of e3, atI_nat (j := 4) rfl, _, rfl, if_dec (fun c => ?_) (fun c4 => ?_)⟩
    · cases e with
      | many => exact absurd c (by simp [Er.idx])
      | plant _ => exact absurd c (by simp [Er.idx])
      | stump _ => exact absurd c (by simp [Er.idx])
      | path _ => exact absurd c (by simp [Er.idx])
      | kind _ =>
        cases im3 with
        | cons i1 r1 =>
          cases r1
          exact ⟨_, rfl, rfl, rfl, d, _, _, rfl, ed3, rfl, (by show 2 ≤ sizeLine; decide), fun t hn => hq _ _ (s3.trans (up_same hn)) (.tup (SqT.of upd_same) (.cons (.str _) (.cons (i1.mono (Stay.of (up_same hn))) .nil)))⟩
      | wrong _ _ => exact absurd c (by simp [Er.idx])
    have c : e.idx = 5 := by omega
    cases e with
    | many => exact absurd c (by simp [Er.idx])
    | plant _ => exact absurd c (by simp [Er.idx])
    | stump _ => exact absurd c (by simp [Er.idx])
    | path _ => exact absurd c (by simp [Er.idx])
    | kind _ => exact absurd c (by simp [Er.idx])
    | wrong _ _ =>
      cases im3 with
      | cons i1 r1 =>
        cases r1 with
        | cons i2 r2 =>
          cases r2
          exact ⟨_, rfl, rfl, rfl, d, _, _, rfl, ed3, rfl, _, rfl, rfl, rfl, d, _, _, rfl, ed3, rfl, (by show 3 ≤ sizeLine; decide), fun t hn => hq _ _ (s3.trans (up_same hn)) (.tup (SqT.of upd_same) (.cons (.str _) (.cons (i2.mono (Stay.of (up_same hn))) (.cons (i1.mono (Stay.of (up_same hn))) .nil))))⟩
end
end Sy
namespace Sy
open PySem PySem.Spec PyProof.Rows L2
theorem rep_len {w : List Nat} {l m : List Str} {i : Nat} (h : Fo 1 w) (hi : i < w.length) (hl : w.length = l.length) : (rep w l m i).length + en w i = l.length + m.length + i := by
  have := h.en_le hi
  unfold rep
  rw [List.length_append, List.length_append, List.length_take, List.length_drop]
  omega
theorem fit_DS {n : Nat} {l : List Str} (h : l.length ≤ 1000000) : Fit (n + 1) (DS l) := ⟨by rw [List.length_map]; exact h, fun d hd => by
  obtain ⟨x, _, rfl⟩ := List.mem_map.mp hd
  cases n <;> exact trivial⟩
theorem fit_dat {n : Nat} : ∀ e : Er, (∀ zs, e = .path zs → zs.length ≤ 1000) → Fit (n + 2) e.dat
  | .many, _ => ⟨by show 3 ≤ 1000000; decide, fun d hd => by simp at hd; rcases hd with rfl | rfl | rfl <;> exact trivial⟩
  | .plant _, _ => ⟨by show 2 ≤ 1000000; decide, fun d hd => by simp at hd; rcases hd with rfl | rfl <;> exact trivial⟩
  | .stump _, _ => ⟨by show 2 ≤ 1000000; decide, fun d hd => by simp at hd; rcases hd with rfl | rfl <;> exact trivial⟩
  | .path zs, h => ⟨by show 2 ≤ 1000000; decide, fun d hd => by
    simp at hd
    rcases hd with rfl | rfl
    · exact trivial
    · have := h zs rfl
      refine ⟨by rw [List.length_map]; omega, fun d hd => ?_⟩
      obtain ⟨x, _, rfl⟩ := List.mem_map.mp hd
      cases n <;> exact trivial⟩
  | .kind _, _ => ⟨by show 2 ≤ 1000000; decide, fun d hd => by simp at hd; rcases hd with rfl | rfl <;> exact trivial⟩
  | .wrong _ _, _ => ⟨by show 3 ≤ 1000000; decide, fun d hd => by simp at hd; rcases hd with rfl | rfl | rfl <;> exact trivial⟩
theorem pDue_low {rows : List Sy.Row} {door : Nat} {l m : List Str} {zs : List Int} (h : door < 6) : pDue rows door l m zs = ckP rows l := by
  unfold pDue
  cases e : ckP rows l with
  | some e => rfl
  | none => exact if_pos h
theorem pDue_bad {rows : List Sy.Row} {door : Nat} {l m : List Str} {zs : List Int} {e : Er} (h : ckP rows l = some e) : pDue rows door l m zs = some e := by
  unfold pDue
  rw [h]
theorem pDue_no {rows : List Sy.Row} {door : Nat} {l m : List Str} {zs : List Int} (h : ckP rows l = none) (hd : 6 ≤ door) (hz : pz (wt rows l) 0 zs = none) : pDue rows door l m zs = some (.path zs) := by
  unfold pDue
  rw [h, hz]
  exact if_neg (by omega)
theorem pDue_six {rows : List Sy.Row} {l m : List Str} {zs : List Int} {i : Nat} (h : ckP rows l = none) (hz : pz (wt rows l) 0 zs = some i) : pDue rows 6 l m zs = none := by
  unfold pDue
  rw [h, hz]
  rfl
theorem pDue_seven {rows : List Sy.Row} {door : Nat} {l m : List Str} {zs : List Int} {i : Nat} (h : ckP rows l = none) (hd : 6 < door) (hz : pz (wt rows l) 0 zs = some i) : pDue rows door l m zs = match ckP rows m with
      | some e => some e
      | none => if 2000 < (rep (wt rows l) l m i).length then some .many else none := by
  unfold pDue
  rw [h, hz]
  show (if door < 6 then none else if door = 6 then none else _) = _
  rw [if_neg (by omega), if_neg (by omega)]
  try rfl
theorem pz_in {rows : List Sy.Row} {l : List Str} {zs : List Int} {i : Nat} (h : Pln rows l) (hz : pz (wt rows l) 0 zs = some i) : i < (wt rows l).length := pz_lt h.fo zs 0 i h.fo.pos hz
section
variable {P : Program} {w : World} {K : PySem.W.Frag} {mg : Str → Option Value} {base : Heap}
/-- what the parts of the law about plants share -/
structure PW2 (K : PySem.W.Frag) (H : Hp) (q r o p : Addr) (rows : List Sy.Row) (l m : List Str) (zs : List Int) : Prop where
  rl : RL K H q rows
  hole : isK rows "*" = false
  le8 : rows.length ≤ 8
  r : Rw K H r l
  o : Rw K H o m
  p : SqT K H p (zs.map V.int)
  lz : zs.length ≤ 8
  bz : ∀ z ∈ zs, z.natAbs ≤ 5
  ll : l.length ≤ 100000
  lm : m.length ≤ 100000
theorem PW2.same {H H' : Hp} {q r o p : Addr} {rows : List Sy.Row} {l m : List Str} {zs : List Int} (h : PW2 K H q r o p rows l m zs) (s : Same H H') : PW2 K H' q r o p rows l m zs :=
  ⟨h.rl.mono s, h.hole, h.le8, h.r.mono s, h.o.mono s, Same.sqt s h.p, h.lz, h.bz, h.ll, h.lm⟩
theorem pzI_some {w : List Nat} {zs : List Int} {i : Nat} (h : pz w 0 zs = some i) : pzI w zs = (i : Int) := by
  unfold pzI
  rw [h]
theorem pzI_none {w : List Nat} {zs : List Int} (h : pz w 0 zs = none) : pzI w zs = -1 := by
  unfold pzI
  rw [h]
theorem ck_none {H : Hp} {e : Option Er} (h : Im K H .non (dD e)) : e = none := by
  cases e with
  | none => rfl
  | some e =>
    obtain ⟨a, ha⟩ := im_some h
    cases ha
def spPlDue (K : PySem.W.Frag) : Sp := fun vs H Q _ => ∃ (q r o p : Addr) (door : Nat) (v1 v2 : V) (rows : List Sy.Row) (l m : List Str) (zs : List Int), vs = [.ref q, .int (door : Nat), .ref r, .ref o, .ref p, v1, v2] ∧ PW2 K H q r o p rows l m zs ∧ Im K H v1 (dD (ckP rows l)) ∧ Im K H v2 (dD (ckP rows m)) ∧ door ≤ 7 ∧
  ∀ H' v, Same H H' → Im K H' v (dD (pDue rows door l m zs)) → Q v H'
abbrev N_plDue : List Str := ["_law_rows_here", "_law_door", "_law_first", "_law_second", "_law_path_here", "_law_bad", "_law_bad2", "_law_place_here"]
theorem sc_plDue : FnScope N_plDue ["_law_rows_here", "_law_door", "_law_first", "_law_second", "_law_path_here", "_law_bad", "_law_bad2"] (defScope (top 81)) := ⟨rfl, rfl, rfl, by decide +kernel, rfl, by decide +kernel, by decide +kernel⟩
theorem k_plDue (T : Txt K mg) (F : DF K mg "_law_plant_due" 81) (c_law_place : Cal P w K mg base 3 "_law_place" ["_law_rows_here", "_law_row", "_law_path_here"] (spPlaceL K)) (c_law_ends : Cal P w K mg base 2 "_law_ends" ["_law_rows_here", "_law_plant_here"] (spEnds K)) :
    Cal P w K mg base 4 "_law_plant_due" ["_law_rows_here", "_law_door", "_law_first", "_law_second", "_law_path_here", "_law_bad", "_law_bad2"] (spPlDue K) := by
  refine cal_of F.1 F.2 sc_plDue (fun _ _ _ _ _ _ us e => match us, e with | [_, _, _, _, _, _, _], _ => rfl) (fun vs H Q E s => by obtain ⟨_, _, _, _, _, _, _, _, _, _, _, rfl, _⟩ := s; rfl) ?_
  intro cdv A outer s H vs Q E hr h
  obtain ⟨q, r, o, p, door, v1, v2, rows, l, m, zs, rfl, hw, i1, i2, hd7, hq⟩ := h
  have sc := sc_plDue
  refine ⟨_, (pss_cons (ps_if (PW.pt (pw_or (pt_cmpR op_notN (pv 5) pe_non (nomark _)) (pw_or1 (pt_cmpR op_lt (pv 1) pe_int (nomark _)))))
        (pss_one (ps_ret (pv 5)))
        pss_nil)
      (pss_cons (ps_set (i := 7) sc.nd rfl (Or.inl rfl) (pe_cal c_law_place hr (pa_cons (pv 0) (pa_cons (pv 2) (pa_cons (pv 4) pa_nil)))))
      (pss_cons (ps_if (pt_cmpR op_lt (pv 7) pe_int (nomark _))
        (pss_one (ps_ret (pe_tup (pa_cons pe_str (pa_cons (pv 4) pa_nil)))))
        pss_nil)
      (pss_cons (ps_if (pt_cmpR op_eq (pv 1) pe_int (nomark _))
        (pss_one (ps_ret pe_non))
        pss_nil)
      (pss_cons (ps_if (PW.pt (pw_and (pt_cmpR op_isN (pv 6) pe_non (nomark _)) (pw_and1 (pt_cmpR op_gt (pe_op op_sub (pe_op op_add (pe_op op_add (pe_callB call_len_seq (by rfl) T.len (by decide +kernel) (pa_cons (pv 2) pa_nil)) (pe_callB call_len_seq (by rfl) T.len (by decide +kernel) (pa_cons (pv 3) pa_nil))) (pv 7)) (pe_ix ix_list (pe_cal c_law_ends hr (pa_cons (pv 0) (pa_cons (pv 2) pa_nil))) (pv 7) (fun _ _ => rfl))) pe_int (nomark _)))))
        (pss_one (ps_ret (pe_tup (pa_cons pe_str (pa_cons pe_str (pa_cons pe_int pa_nil))))))
        pss_nil)
      (pss_one (ps_ret (pv 6)))))))), ?_⟩
  cases he : ckP rows l with
  | some e =>
    rw [he] at i1
    obtain ⟨a1, rfl⟩ := im_some i1
    refine ⟨_, rfl, rfl, _, rfl, if_ndec (fun c => ?_) (fun c => by cases c)⟩
    exact ⟨_, rfl, hq H _ (Same.refl H) (by rw [pDue_bad he]; exact i1)⟩
  | none =>
    rw [he] at i1
    have := im_none i1
    subst this
    refine ⟨_, rfl, rfl, _, rfl, if_ndec (fun c => absurd rfl c) (fun _ => ?_)⟩
    refine ⟨_, rfl, _, _, rfl, rfl, _, rfl, if_dec (fun c => ?_) (fun c => ?_)⟩
    · exact ⟨_, rfl, hq H _ (Same.refl H) (by rw [pDue_low (by omega), he]; exact .non)⟩
    have hp := pln_of he
    have hF := hp.fo
    have hwl := wt_len rows l
    refine ⟨_, rfl, _, rfl, _, rfl, q, r, p, rows, l, zs, rfl, hw.rl, hw.r.sq, hp, hw.p, by have := hw.lz; omega, fun H1 s1 => ?_⟩
    have hw1 := hw.same s1
    cases hz : pz (wt rows l) 0 zs with
    | none =>
      rw [pzI_none hz]
      refine ⟨_, rfl, _, _, rfl, rfl, _, rfl, if_dec (fun c => ?_) (fun c => by omega)⟩
      refine ⟨_, rfl, by show 2 ≤ sizeLine; decide, fun t ht => hq _ _ (s1.trans (up_same ht)) ?_⟩
      rw [pDue_no he (by omega) hz]
      exact .tup (SqT.of upd_same) (.cons (.str _) (.cons ((Im.ints hw1.p).mono (Stay.of (up_same ht))) .nil))
    | some i =>
      rw [pzI_some hz]
      have hi := pz_in hp hz
      have hen := hF.en_le hi
      have hlen := rep_len (l := l) (m := m) hF hi hwl
      refine ⟨_, rfl, _, _, rfl, rfl, _, rfl, if_dec (fun c => by omega) (fun _ => ?_)⟩
      refine ⟨_, rfl, rfl, _, rfl, if_dec (fun c => ?_) (fun c6 => ?_)⟩
      · have : door = 6 := by have := V.int.inj c; omega
        subst this
        exact hq _ _ s1 (by rw [pDue_six he hz]; exact .non)
      have hd : 6 < door := by
        have d6 : door ≠ 6 := fun z => c6 (by rw [z]; rfl)
        omega
      rw [pDue_seven he hd hz] at hq
      cases he2 : ckP rows m with
      | some e =>
        rw [he2] at i2 hq
        obtain ⟨a2, rfl⟩ := im_some i2
        refine ⟨_, rfl, rfl, _, rfl, if_dec (fun c => by cases c) (fun _ => ?_)⟩
        exact ⟨_, rfl, hq _ _ s1 (i2.mono (Stay.of s1))⟩
      | none =>
        rw [he2] at i2 hq
        have := im_none i2
        subst this
        refine ⟨_, rfl, rfl, _, rfl, if_dec (fun _ => ?_) (fun c => absurd rfl c)⟩
        refine ⟨_, rfl, r, _, rfl, .inr hw1.r.sq, _, rfl, o, _, rfl, .inr hw1.o.sq, _, _, rfl, rfl, _, rfl, _, _, rfl, rfl, _, rfl, _, rfl, q, r, rows, l, rfl, hw1.rl, hw1.r.sq, hp, fun H2 e _ s2 he3 => ?_⟩
        have hw2 := hw1.same s2
        refine ⟨_, rfl, e, _, _, _, rfl, rfl, SqL.of he3, atI_nat (vN_at (ens_get hi)), _, _, rfl, rfl, _, _, rfl, rfl, _, rfl, if_dec (fun c => ?_) (fun c => ?_)⟩
        · rw [List.length_map, List.length_map] at c
          have hq : ∀ (H' : Hp) (v : V), Same H H' → Im K H' v (dD (if 2000 < (rep (wt rows l) l m i).length then some Er.many else none)) → Q v H' := hq
          rw [if_pos (by omega)] at hq
          exact ⟨by show 3 ≤ sizeLine; decide, fun t ht => hq _ _ ((s1.trans s2).trans (up_same ht)) (.tup (SqT.of upd_same) (.cons (.str _) (.cons (.str _) (.cons (.int _) .nil))))⟩
        · rw [List.length_map, List.length_map] at c
          have hq : ∀ (H' : Hp) (v : V), Same H H' → Im K H' v (dD (if 2000 < (rep (wt rows l) l m i).length then some Er.many else none)) → Q v H' := hq
          rw [if_neg (by omega)] at hq
          exact ⟨_, rfl, hq _ _ (s1.trans s2) .non⟩
end
end Sy
namespace Sy
open PySem PySem.Spec PyProof.Rows L2
section
variable {P : Program} {w : World} {K : PySem.W.Frag} {mg : Str → Option Value} {base : Heap}
theorem six_at {a b c d e f : Int} {j : Nat} {z : Int} (h : ([a, b, c, d, e, f] : List Int)[j]? = some z) : atI ([.int a, .int b, .int c, .int d, .int e, .int f] : List V) (j : Nat) = some (.int z) := by
  have : ([.int a, .int b, .int c, .int d, .int e, .int f] : List V) = ([a, b, c, d, e, f] : List Int).map V.int := rfl
  rw [this]
  exact atI_nat (by rw [List.getElem?_map, h]; rfl)
def spPlAns (K : PySem.W.Frag) : Sp := fun vs H Q _ => ∃ (q r o p : Addr) (door : Nat) (va : V) (d : PyData) (rows : List Sy.Row) (l m : List Str) (zs : List Int), vs = [.ref q, .int (door : Nat), .ref r, .ref o, .ref p, va] ∧ PW2 K H q r o p rows l m zs ∧ ckP rows l = none ∧ Im K H va d ∧ pOk rows door l m zs d ∧ door ≤ 7 ∧
  ∀ H', Same H H' → Q (.bl true) H'
abbrev N_plAns : List Str := ["_law_rows_here", "_law_door", "_law_first", "_law_second", "_law_path_here", "_law_answer", "_law_place_here", "_law_behind"]
theorem sc_plAns : FnScope N_plAns ["_law_rows_here", "_law_door", "_law_first", "_law_second", "_law_path_here", "_law_answer"] (defScope (top 82)) := ⟨rfl, rfl, rfl, by decide +kernel, rfl, by decide +kernel, by decide +kernel⟩
theorem k_plAns (T : Txt K mg) (TC : TxtC mg) (F : DF K mg "_law_plant_answer" 82) (c_law_place : Cal P w K mg base 3 "_law_place" ["_law_rows_here", "_law_row", "_law_path_here"] (spPlaceL K)) (c_law_ends : Cal P w K mg base 2 "_law_ends" ["_law_rows_here", "_law_plant_here"] (spEnds K))
    (c_law_number : Cal P w K mg base 1 "_law_number" ["_law_rows_here", "_law_word_here"] (spNum K)) (c_law_same : Cal P w K mg base 4 "_law_same" ["_law_told", "_law_due_here"] (spSame K 3)) :
    Cal P w K mg base 5 "_law_plant_answer" ["_law_rows_here", "_law_door", "_law_first", "_law_second", "_law_path_here", "_law_answer"] (spPlAns K) := by
  refine cal_of F.1 F.2 sc_plAns (fun _ _ _ _ _ _ us e => match us, e with | [_, _, _, _, _, _], _ => rfl) (fun vs H Q E s => by obtain ⟨_, _, _, _, _, _, _, _, _, _, _, rfl, _⟩ := s; rfl) ?_
  intro cdv A outer s H vs Q E hr h
  obtain ⟨q, r, o, p, door, va, d, rows, l, m, zs, rfl, hw, hck, ia, hok, hd7, hq⟩ := h
  have sc := sc_plAns
  have last : ∃ t, PSs (cxOf (L2.CX P w) P w K mg base N_plAns "_law_plant_answer" (defScope (top 82)) (He.ga K "_law_plant_answer") cdv A outer s H E) ((defBody (top 82)).drop 2) t ∧
      ∀ (a : Addr) (xs : List V), va = .ref a → SqT K H a xs → (door < 6 → ([0, 2, 0, (rows.length : Int), (aw (wt rows l) 0 : Int), (l.length : Int)] : List Int)[door]? = some (xs.length : Int)) → (6 ≤ door → ∃ i e, pz (wt rows l) 0 zs = some i ∧ Im K H va (DS e) ∧ e.length ≤ 1000000 ∧ e = if door = 6 then brn (wt rows l) l i else rep (wt rows l) l m i) →
        t { nx := fun _ H' => Q .non H', rt := Q } [some (.ref q), some (.int (door : Nat)), some (.ref r), some (.ref o), some (.ref p), some va, none, none] H := by
    refine ⟨_, (pss_cons (ps_if (pt_not (pt_val (pe_callB call_isi (by rfl) TC.isinstance (by decide +kernel) (pa_cons (pv 5) (pa_cons (pe_bltn (v := .ty "tuple") (by rfl) TC.tuple (by decide +kernel) rfl) pa_nil)))))
        (pss_one (ps_ret pe_bl))
        pss_nil)
      (pss_cons (ps_if (pt_cmpR op_gt (pv 1) pe_int (nomark _))
        (pss_cons (ps_set (i := 6) sc.nd rfl (Or.inl rfl) (pe_cal c_law_place hr (pa_cons (pv 0) (pa_cons (pv 2) (pa_cons (pv 4) pa_nil)))))
        (pss_cons (ps_set (i := 7) sc.nd rfl (Or.inl rfl) (pe_ix ix_list (pe_cal c_law_ends hr (pa_cons (pv 0) (pa_cons (pv 2) pa_nil))) (pv 6) (fun _ _ => rfl)))
        (pss_cons (ps_if (pt_cmpR op_eq (pv 1) pe_int (nomark _))
          (pss_one (ps_ret (pe_cal c_law_same hr (pa_cons (pv 5) (pa_cons (pe_slice sl_tupA (pv 2) (po_some (pv 6)) (po_some (pv 7))) pa_nil)))))
          pss_nil)
        (pss_one (ps_ret (pe_cal c_law_same hr (pa_cons (pv 5) (pa_cons (pe_op op_catA (pe_op op_catA (pe_slice sl_tupA (pv 2) po_none (po_some (pv 6))) (pv 3)) (pe_slice sl_tupA (pv 2) (po_some (pv 7)) po_none)) pa_nil))))))))
        pss_nil)
      (pss_one (ps_ret (pe_cmpR op_eq (pe_callB call_len_seq (by rfl) T.len (by decide +kernel) (pa_cons (pv 5) pa_nil)) (pe_ix ix_list (pe_lst (pa_cons pe_int (pa_cons pe_int (pa_cons pe_int (pa_cons (pe_callB call_len_seq (by rfl) T.len (by decide +kernel) (pa_cons (pv 0) pa_nil)) (pa_cons (pe_cal c_law_number hr (pa_cons (pv 0) (pa_cons (pe_ix ix_tup (pv 2) pe_int (fun _ _ => rfl)) pa_nil))) (pa_cons (pe_callB call_len_seq (by rfl) T.len (by decide +kernel) (pa_cons (pv 2) pa_nil)) pa_nil))))))) (pv 1) (fun _ _ => rfl)) (nomark _)))))), ?_⟩
    intro a xs eva ta hlow hhigh
    subst eva
    have hp := pln_of hck
    have hF := hp.fo
    have hwl := wt_len rows l
    refine ⟨_, rfl, _, _, _, _, true, rfl, .ty _, tyx_tup ta, kit_ty (by decide +kernel), _, rfl, iteF ?_⟩
    refine ⟨_, rfl, _, _, rfl, rfl, _, rfl, if_dec (fun c => ?_) (fun c => ?_)⟩
    · obtain ⟨i, e, hz, ie, hel, he⟩ := hhigh (by omega)
      have hi := pz_in hp hz
      have hen := hF.en_le hi
      have hgt := en_gt hi
      refine ⟨_, rfl, _, rfl, _, rfl, q, r, p, rows, l, zs, rfl, hw.rl, hw.r.sq, hp, hw.p, by have := hw.lz; omega, fun H1 s1 => ?_⟩
      rw [pzI_some hz]
      have hw1 := hw.same s1
      refine ⟨_, rfl, _, rfl, q, r, rows, l, rfl, hw1.rl, hw1.r.sq, hp, fun H2 ee _ s2 he3 => ?_⟩
      have hw2 := hw1.same s2
      have s12 := s1.trans s2
      refine ⟨_, rfl, ee, _, _, _, rfl, rfl, SqL.of he3, atI_nat (vN_at (ens_get hi)), ?_⟩
      refine ⟨_, rfl, rfl, _, rfl, if_dec (fun c6 => ?_) (fun c6 => ?_)⟩
      · have : door = 6 := by have := V.int.inj c6; omega
        subst this
        refine ⟨_, rfl, _, rfl, _, rfl, _, rfl, _, rfl, _, rfl, sl_any (cut_mid (by omega) (by rw [List.length_map]; omega)) hw2.r.sq fun p4 H3 s3 t3 => ?_⟩
        refine ⟨_, _, DS e, DS e, rfl, ie.mono (Stay.of (s12.trans s3)), ?_, fit_DS hel, .inl ⟨rfl, hq _ (s12.trans s3)⟩⟩
        rw [he, if_pos rfl]
        refine Im.strs ?_
        unfold brn
        rw [List.map_take, List.map_drop]
        exact t3
      · have hne : door ≠ 6 := fun z => c6 (by rw [z]; rfl)
        refine ⟨_, rfl, _, rfl, _, rfl, _, rfl, sl_any (cut_take (by rw [List.length_map]; omega)) hw2.r.sq fun p4 H3 s3 t3 => ?_⟩
        have hlm := hw.lm
        have hll := hw.ll
        refine ⟨_, rfl, cat_any t3 (Same.sqt s3 hw2.o.sq) (by rw [List.length_take, List.length_map, List.length_map]; omega) fun p5 H4 s4 t4 => ?_⟩
        refine ⟨_, rfl, _, rfl, _, rfl, ?_⟩
        dsimp only [tNoPart]
        refine sl_any (cut_drop (by rw [List.length_map]; omega)) (Same.sqt (s3.trans s4) hw2.r.sq) fun p6 H5 s5 t5 => ?_
        refine cat_any (Same.sqt s5 t4) t5 (by rw [List.length_append, List.length_take, List.length_map, List.length_map, List.length_drop, List.length_map]; omega) fun p7 H6 s6 t6 => ?_
        have sA := ((((s12.trans s3).trans s4).trans s5).trans s6)
        refine ⟨_, _, DS e, DS e, rfl, ie.mono (Stay.of sA), ?_, fit_DS hel, .inl ⟨rfl, hq _ sA⟩⟩
        rw [he, if_neg hne]
        refine Im.strs ?_
        unfold rep
        rw [List.map_append, List.map_append, List.map_take, List.map_drop]
        exact t6
    · have hl6 := hlow (by omega)
      obtain ⟨x, ex⟩ : ∃ x, l[0]? = some x := ⟨_, List.getElem?_eq_getElem (by have := hF.pos; omega)⟩
      have eaw : aw (wt rows l) 0 = ar rows x := wt_at ex
      have hnum : numb rows x = (ar rows x : Nat) := numb_ar (hp.kn x (List.mem_of_getElem? ex))
      obtain ⟨ps, hL, hP⟩ := id hw.rl
      have hpl := paired_len hP
      refine ⟨_, rfl, a, _, rfl, .inr ta, _, rfl, q, _, rfl, .inl (SqL.of hL), _, rfl, _, rfl, r, _, _, _, rfl, rfl, hw.r.sq, atI_nat (j := 0) (by rw [List.getElem?_map, ex]; rfl), q, rows, x, rfl, hw.rl, _, rfl, r, _, rfl, .inr hw.r.sq, (by show 6 ≤ sizeLine; decide), fun D hD => ?_⟩
      rw [hnum, List.length_map, List.length_map, hpl, ← eaw]
      refine ⟨_, rfl, D, _, _, _, rfl, rfl, SqL.of upd_same, six_at hl6, rfl, ?_⟩
      rw [decide_eq_true rfl]
      exact hq _ (up_same hD)
  obtain ⟨tL, pL, hLast⟩ := last
  refine ⟨_, (pss_cons (ps_if (pt_cmpR op_eq (pv 1) pe_int (nomark _))
        (pss_one (ps_ret (pe_cmpR op_isN (pv 5) pe_non (nomark _))))
        pss_nil)
      (pss_cons (ps_if (pt_cmpR op_eq (pv 1) pe_int (nomark _))
        (pss_one (ps_ret (pe_and (pe_callB call_isi (by rfl) TC.isinstance (by decide +kernel) (pa_cons (pv 5) (pa_cons (pe_bltn (v := .ty "int") (by rfl) TC.int (by decide +kernel) rfl) pa_nil))) (pe_one (pe_not (pe_callB call_isi (by rfl) TC.isinstance (by decide +kernel) (pa_cons (pv 5) (pa_cons (pe_bltn (v := .ty "bool") (by rfl) TC.bool (by decide +kernel) rfl) pa_nil))))))))
        pss_nil)
      pL)), ?_⟩
  have go : ∀ ds, d = .tuple ds → (door < 6 → ([0, 2, 0, (rows.length : Int), (aw (wt rows l) 0 : Int), (l.length : Int)] : List Int)[door]? = some (ds.length : Int)) → (6 ≤ door → ∃ i e, pz (wt rows l) 0 zs = some i ∧ d = DS e ∧ e.length ≤ 1000000 ∧ e = if door = 6 then brn (wt rows l) l i else rep (wt rows l) l m i) →
      tL { nx := fun _ H' => Q .non H', rt := Q } [some (.ref q), some (.int (door : Nat)), some (.ref r), some (.ref o), some (.ref p), some va, none, none] H := fun ds ed h1 h2 => by
    subst ed
    obtain ⟨a, xs, ea, ta, ib⟩ := ia.tupI
    refine hLast a xs ea ta (fun c => ?_) (fun c => ?_)
    · rw [h1 c, ib.len]
    · obtain ⟨i, e, hz, hd, he1, he2⟩ := h2 c
      exact ⟨i, e, hz, by rw [← hd]; exact ia, he1, he2⟩
  have hp := pln_of hck
  have hwl := wt_len rows l
  refine ⟨_, rfl, rfl, _, rfl, if_dec (fun c => ?_) (fun c0 => ?_)⟩
  · have : door = 0 := by have := V.int.inj c; omega
    subst this
    have hd : d = .none := hok
    subst hd
    cases ia
    refine ⟨_, rfl, rfl, ?_⟩
    rw [decide_eq_true rfl]
    exact hq H (Same.refl H)
  refine ⟨_, rfl, rfl, _, rfl, if_dec (fun c => ?_) (fun c2 => ?_)⟩
  · have : door = 2 := by have := V.int.inj c; omega
    subst this
    obtain ⟨n, hd⟩ : ∃ n : Int, d = .int n := hok
    subst hd
    cases ia
    exact ⟨_, rfl, _, _, _, _, true, rfl, .ty _, .base (.int n), kit_ty (by decide +kernel), _, rfl, iteT ⟨_, rfl, _, _, _, _, false, rfl, .ty _, .base (.int n), kit_ty (by decide +kernel), _, rfl, hq H (Same.refl H)⟩⟩
  have d0 : door ≠ 0 := fun z => c0 (by rw [z]; rfl)
  have d2 : door ≠ 2 := fun z => c2 (by rw [z]; rfl)
  match door, hd7, hok, d0, d2, go with
  | 1, _, hok, _, _, go =>
    obtain ⟨a, b, hd⟩ : ∃ a b, d = .tuple [a, b] := hok
    exact go _ hd (fun _ => rfl) (fun c => by omega)
  | 3, _, hok, _, _, go =>
    obtain ⟨ds, hd, hl⟩ : ∃ ds, d = .tuple ds ∧ ds.length = rows.length := hok
    exact go _ hd (fun _ => by rw [hl]; rfl) (fun c => by omega)
  | 4, _, hok, _, _, go =>
    obtain ⟨ds, hd, hl⟩ : ∃ ds, d = .tuple ds ∧ ds.length = aw (wt rows l) 0 := hok
    exact go _ hd (fun _ => by rw [hl]; rfl) (fun c => by omega)
  | 5, _, hok, _, _, go =>
    obtain ⟨ds, hd, hl⟩ : ∃ ds, d = .tuple ds ∧ ds.length = l.length := hok
    exact go _ hd (fun _ => by rw [hl]; rfl) (fun c => by omega)
  | 6, _, hok, _, _, go =>
    obtain ⟨i, hz, hd⟩ : ∃ i, pz (wt rows l) 0 zs = some i ∧ d = DS (brn (wt rows l) l i) := hok
    refine go _ hd (fun c => by omega) (fun _ => ⟨i, _, hz, hd, ?_, (if_pos rfl).symm⟩)
    unfold brn
    rw [List.length_take, List.length_drop]
    have := hw.ll
    omega
  | 7, _, hok, _, _, go =>
    obtain ⟨i, hz, hd⟩ : ∃ i, pz (wt rows l) 0 zs = some i ∧ d = DS (rep (wt rows l) l m i) := hok
    refine go _ hd (fun c => by omega) (fun _ => ⟨i, _, hz, hd, ?_, (if_neg (by decide)).symm⟩)
    unfold rep
    rw [List.length_append, List.length_append, List.length_take, List.length_drop]
    have := hw.ll
    have := hw.lm
    omega
end
end Sy
namespace Sy
open PySem PySem.Spec PyProof.Rows L2
theorem ckr_no {tag : Nat → Er} {rows : List Sy.Row} {lv l : List Str} {zs : List Int} (ht : ∀ i, tag i ≠ .path zs) : ckr tag rows lv l ≠ some (.path zs) := fun h => by
  unfold ckr at h
  split at h
  · cases h
  · split at h
    · exact ht _ (Option.some.inj h)
    · cases h
theorem ckP_no {rows : List Sy.Row} {l : List Str} {zs : List Int} : ckP rows l ≠ some (.path zs) := ckr_no fun _ z => by cases z
theorem ckS_no {rows : List Sy.Row} {l : List Str} {zs : List Int} : ckS rows l ≠ some (.path zs) := ckr_no fun _ z => by cases z
theorem pDue_path {rows : List Sy.Row} {door : Nat} {l m : List Str} {zs zs' : List Int} (h : pDue rows door l m zs = some (.path zs')) : zs' = zs := by
  unfold pDue at h
  cases e : ckP rows l with
  | some e2 =>
    rw [e] at h
    cases Option.some.inj h
    exact absurd e ckP_no
  | none =>
    rw [e] at h
    have h : (if door < 6 then none else match pz (wt rows l) 0 zs with
      | none => some (.path zs)
      | some i => if door = 6 then none else match ckP rows m with
        | some e => some e
        | none => if 2000 < (rep (wt rows l) l m i).length then some .many else none) = some (Er.path zs') := h
    split at h
    · cases h
    · split at h
      · cases Option.some.inj h
        rfl
      · split at h
        · cases h
        · split at h
          · rename_i e3
            cases Option.some.inj h
            exact absurd e3 ckP_no
          · split at h
            · cases Option.some.inj h
            · cases h
theorem pDue_none {rows : List Sy.Row} {door : Nat} {l m : List Str} {zs : List Int} (h : pDue rows door l m zs = none) : ckP rows l = none := by
  cases e : ckP rows l with
  | none => rfl
  | some e2 =>
    rw [pDue_bad e] at h
    cases h
section
variable {P : Program} {w : World} {K : PySem.W.Frag} {mg : Str → Option Value} {base : Heap}
theorem Gd.same {H H' : Hp} {a : Addr} {rows : List Sy.Row} (h : Gd K H a rows) (s : Same H H') : Gd K H' a rows := ⟨h.bed.mono (Stay.of s), h.hole, h.le, h.br⟩
/-- what is told stands in a pair -/
theorem told_at {H : Hp} {v : V} {d : PyData} (h : Im K H v (dTold d)) : ∃ a u, v = .ref a ∧ SqT K H a [.str "told", u] ∧ Im K H u d := by
  cases h with
  | tup t i =>
    cases i with
    | cons i1 r =>
      cases r with
      | cons i2 r2 =>
        cases r2
        cases i1
        exact ⟨_, _, rfl, t, i2⟩
def spPlRight (K : PySem.W.Frag) : Sp := fun vs H Q _ => ∃ (q a r o p : Addr) (rows : List Sy.Row) (l m : List Str) (zs : List Int), vs = [.ref q, .ref a, .ref r, .ref o, .ref p] ∧ PW2 K H q r o p rows l m zs ∧ Gd K H a rows ∧ ∀ H', Same H H' → Q (.bl true) H'
abbrev N_plRight : List Str := ["_law_rows_here", "_law_bed_here", "_law_first", "_law_second", "_law_path_here", "_law_bad", "_law_bad2", "_law_door", "_law_met_here", "_law_due_here"]
theorem sc_plRight : FnScope N_plRight ["_law_rows_here", "_law_bed_here", "_law_first", "_law_second", "_law_path_here"] (defScope (top 83)) := ⟨rfl, rfl, rfl, by decide +kernel, rfl, by decide +kernel, by decide +kernel⟩
theorem k_plRight (T : Txt K mg) (F : DF K mg "_law_plants_right" 83) (c_law_due : Cal P w K mg base 3 "_law_due" ["_law_rows_here", "_law_row", "_law_with_holes"] (spDueL K)) (c_law_met : Cal P w K mg base 9 "_law_met" ["_law_bed_here", "_law_family", "_law_door", "_law_first", "_law_second", "_law_path_here", "_law_pieces"] (spMet K))
    (c_law_plant_due : Cal P w K mg base 4 "_law_plant_due" ["_law_rows_here", "_law_door", "_law_first", "_law_second", "_law_path_here", "_law_bad", "_law_bad2"] (spPlDue K)) (c_law_same : Cal P w K mg base 4 "_law_same" ["_law_told", "_law_due_here"] (spSame K 3)) (c_law_plant_answer : Cal P w K mg base 5 "_law_plant_answer" ["_law_rows_here", "_law_door", "_law_first", "_law_second", "_law_path_here", "_law_answer"] (spPlAns K)) :
    Cal P w K mg base 10 "_law_plants_right" ["_law_rows_here", "_law_bed_here", "_law_first", "_law_second", "_law_path_here"] (spPlRight K) := by
  refine cal_of F.1 F.2 sc_plRight (fun _ _ _ _ _ _ us e => match us, e with | [_, _, _, _, _], _ => rfl) (fun vs H Q E s => by obtain ⟨_, _, _, _, _, _, _, _, _, rfl, _⟩ := s; rfl) ?_
  intro cdv A outer s H vs Q E hr h
  obtain ⟨q, a, r, o, p, rows, l, m, zs, rfl, hw, hg, hq⟩ := h
  have sc := sc_plRight
  have rest : ∃ t, PSs (cxOf (L2.CX P w) P w K mg base N_plRight "_law_plants_right" (defScope (top 83)) (He.ga K "_law_plants_right") cdv A outer s H E) ((sBody ((defBody (top 83)).getD 2 (.Pass ⟨0, 0, 0, 0⟩))).drop 1) t ∧
      ∀ (D : Ends) (door : Nat) (v1 v2 v : V) (t9 : Option V) (H1 : Hp), PW2 K H1 q r o p rows l m zs → Im K H1 v1 (dD (ckP rows l)) → Im K H1 v2 (dD (ckP rows m)) → door ≤ 7 → ((pDue rows door l m zs = none ∧ ∃ d, Im K H1 v (dTold d) ∧ pOk rows door l m zs d) ∨ ∃ e, pDue rows door l m zs = some e ∧ Im K H1 v e.dat) →
        (∀ t9 H2, Same H1 H2 → D.nx [some (.ref q), some (.ref a), some (.ref r), some (.ref o), some (.ref p), some v1, some v2, some (.int (door : Nat)), some v, t9] H2) →
        t D [some (.ref q), some (.ref a), some (.ref r), some (.ref o), some (.ref p), some v1, some v2, some (.int (door : Nat)), some v, t9] H1 := by
    refine ⟨_, (pss_cons (ps_set (i := 9) sc.nd rfl (Or.inl rfl) (pe_cal c_law_plant_due hr (pa_cons (pv 0) (pa_cons (pv 7) (pa_cons (pv 2) (pa_cons (pv 3) (pa_cons (pv 4) (pa_cons (pv 5) (pa_cons (pv 6) pa_nil)))))))))
        (pss_cons (ps_if (PW.pt (pw_and (pt_cmpR op_notN (pv 9) pe_non (nomark _)) (pw_and1 (pt_not (pt_val (pe_cal c_law_same hr (pa_cons (pv 8) (pa_cons (pv 9) pa_nil))))))))
          (pss_one (ps_ret pe_bl))
          pss_nil)
        (pss_cons (ps_if (PW.pt (pw_and (pt_cmpR op_isN (pv 9) pe_non (nomark _)) (pw_and1 (pt_cmpR op_ne (pe_ix ix_tup (pv 8) pe_int (fun _ _ => rfl)) pe_str (nomark _)))))
          (pss_one (ps_ret pe_bl))
          pss_nil)
        (pss_one (ps_if (PW.pt (pw_and (pt_cmpR op_isN (pv 9) pe_non (nomark _)) (pw_and1 (pt_not (pt_val (pe_cal c_law_plant_answer hr (pa_cons (pv 0) (pa_cons (pv 7) (pa_cons (pv 2) (pa_cons (pv 3) (pa_cons (pv 4) (pa_cons (pe_ix ix_tup (pv 8) pe_int (fun _ _ => rfl)) pa_nil))))))))))))
          (pss_one (ps_ret pe_bl))
          pss_nil))))), ?_⟩
    intro D door v1 v2 v t9 H1 hw1 i1 i2 hd7 hcase hnx
    refine ⟨_, rfl, _, rfl, _, rfl, _, rfl, _, rfl, _, rfl, _, rfl, q, r, o, p, door, v1, v2, rows, l, m, zs, rfl, hw1, i1, i2, hd7, fun H2 vd s2 id => ?_⟩
    have hw2 := hw1.same s2
    rcases hcase with ⟨hdue, d, iv, hok⟩ | ⟨e, hdue, iv⟩
    · rw [hdue] at id
      have := im_none id
      subst this
      obtain ⟨t, u, rfl, tt, iu⟩ := told_at iv
      have tt2 := Same.sqt s2 tt
      refine ⟨_, rfl, rfl, _, rfl, if_ndec (fun c => absurd rfl c) (fun _ => ?_)⟩
      refine ⟨_, rfl, rfl, _, rfl, if_dec (fun _ => ?_) (fun c => absurd rfl c)⟩
      refine ⟨_, rfl, t, _, _, _, rfl, rfl, tt2, atI_nat (j := 0) rfl, rfl, _, rfl, if_ndec (fun c => absurd rfl c) (fun _ => ?_)⟩
      refine ⟨_, rfl, rfl, _, rfl, if_dec (fun _ => ?_) (fun c => absurd rfl c)⟩
      exact ⟨_, rfl, _, rfl, _, rfl, _, rfl, _, rfl, _, rfl, t, _, _, _, rfl, rfl, tt2, atI_nat (j := 1) rfl, q, r, o, p, door, u, d, rows, l, m, zs, rfl, hw2, pDue_none hdue, iu.mono (Stay.of s2), hok, hd7, fun H3 s3 => ⟨_, rfl, iteF (hnx _ _ (s2.trans s3))⟩⟩
    · rw [hdue] at id
      obtain ⟨ad, rfl⟩ := im_some id
      refine ⟨_, rfl, rfl, _, rfl, if_ndec (fun _ => ?_) (fun c => by cases c)⟩
      refine ⟨_, rfl, _, rfl, v, .ref ad, e.dat, e.dat, rfl, iv.mono (Stay.of s2), id, fit_dat (n := 1) e (fun zs' he => ?_), .inl ⟨rfl, _, rfl, iteF ?_⟩⟩
      · rw [he] at hdue
        rw [pDue_path hdue]
        have := hw.lz
        omega
      refine ⟨_, rfl, rfl, _, rfl, if_dec (fun c => by cases c) (fun _ => ?_)⟩
      refine ⟨_, rfl, rfl, _, rfl, if_dec (fun c => by cases c) (fun _ => ?_)⟩
      exact hnx _ _ s2
  obtain ⟨tR, pR, hRest⟩ := rest
  refine ⟨_, (pss_cons (ps_set (i := 5) sc.nd rfl (Or.inl rfl) (pe_cal c_law_due hr (pa_cons (pv 0) (pa_cons (pv 2) (pa_cons pe_bl pa_nil)))))
      (pss_cons (ps_set (i := 6) sc.nd rfl (Or.inl rfl) (pe_cal c_law_due hr (pa_cons (pv 0) (pa_cons (pv 3) (pa_cons pe_bl pa_nil)))))
      (pss_cons (ps_for (passes_of rfl) rfl (pi_range1 rfl T.range (pa_cons pe_int pa_nil)) (pg_name (i := 7) sc.nd rfl (Or.inl rfl))
        (pss_cons (ps_set (i := 8) sc.nd rfl (Or.inl rfl) (pe_cal c_law_met hr (pa_cons (pv 1) (pa_cons pe_int (pa_cons (pv 7) (pa_cons (pv 2) (pa_cons (pv 3) (pa_cons (pv 4) (pa_cons (pe_lst pa_nil) pa_nil)))))))))
        pR))
      (pss_one (ps_ret pe_bl))))), ?_⟩
  refine ⟨_, rfl, _, rfl, q, r, false, rows, l, rfl, hw.rl, hw.r.sq, hw.hole, hw.ll, fun H1 v1 s1 i1 => ?_⟩
  rw [ckW_f] at i1
  have hw1 := hw.same s1
  refine ⟨_, rfl, _, rfl, q, o, false, rows, m, rfl, hw1.rl, hw1.o.sq, hw.hole, hw.lm, fun H2 v2 s2 i2 => ?_⟩
  rw [ckW_f] at i2
  have hw2 := hw1.same s2
  have hg2 := (hg.same s1).same s2
  have i1' := i1.mono (Stay.of s2)
  refine ⟨_, rfl, by decide, by decide, for_rng (n := 8) (fun i σ H' => ∃ t7 t8 t9, σ = [some (.ref q), some (.ref a), some (.ref r), some (.ref o), some (.ref p), some v1, some v2, t7, t8, t9] ∧ Same H2 H') ⟨none, none, none, rfl, Same.refl _⟩ ?_ ?_⟩
  · rintro i σ H3 hi ⟨t7, t8, t9, rfl, s3⟩
    have hw3 := hw2.same s3
    refine ⟨_, rfl, _, rfl, _, rfl, _, rfl, _, rfl, by decide, fun L hL => ?_⟩
    have s4 : Same H3 (upd H3 L (.lst [])) := up_same hL
    have hw4 := hw3.same s4
    have s34 := s3.trans s4
    refine ⟨a, 0, i, .ref r, .ref o, .ref p, .ref L, rows, _, _, _, rfl, hg2.same s34, Ask.plant hw4.r hw4.o hw4.p (by have := hw.lz; omega) hw.bz (by omega), ⟨fun e => ⟨fun H5 v d s5 iv hok => ?_, fun z => z.elim⟩, fun e he H5 v s5 iv => ?_⟩⟩
    · exact hRest _ i v1 v2 v _ H5 (hw4.same s5) (i1'.mono (Stay.of (s34.trans s5))) (i2.mono (Stay.of (s34.trans s5))) (by omega) (.inl ⟨e, d, iv, hok⟩) (fun t9 H6 s6 => ⟨_, _, _, rfl, (s34.trans s5).trans s6⟩)
    · exact hRest _ i v1 v2 v _ H5 (hw4.same s5) (i1'.mono (Stay.of (s34.trans s5))) (i2.mono (Stay.of (s34.trans s5))) (by omega) (.inr ⟨e, he, iv⟩) (fun t9 H6 s6 => ⟨_, _, _, rfl, (s34.trans s5).trans s6⟩)
  · rintro σ H3 ⟨t7, t8, t9, rfl, s3⟩
    exact hq _ ((s1.trans s2).trans s3)
end
end Sy
namespace Sy
open PySem PySem.Spec PyProof.Rows L2
theorem sOk_tup {door : Nat} {l : List Str} {d : PyData} (h : sOk door l d) (h0 : door ≠ 0) (h3 : door ≠ 3) (h5 : door ≠ 5) (hn : d ≠ .none) : ∃ ds, d = .tuple ds ∧ (door = 1 → ds.length = 2) ∧ (door = 2 ∨ door = 6 → ds.length = l.count ("*" : Str)) ∧ (door = 4 → d = DS l) := by
  match door, h, h0, h3, h5 with
  | 1, h, _, _, _ =>
    obtain ⟨a, b, rfl⟩ : ∃ a b, d = .tuple [a, b] := h
    exact ⟨_, rfl, fun _ => rfl, fun c => by omega, fun c => by omega⟩
  | 2, h, _, _, _ =>
    obtain ⟨ds, rfl, hl⟩ : ∃ ds, d = .tuple ds ∧ ds.length = l.count ("*" : Str) := h
    exact ⟨_, rfl, fun c => by omega, fun _ => hl, fun c => by omega⟩
  | 4, h, _, _, _ =>
    have h : d = DS l := h
    exact ⟨_, h, fun c => by omega, fun c => by omega, fun _ => h⟩
  | 6, h, _, _, _ =>
    rcases (show d = .none ∨ ∃ ds, d = .tuple ds ∧ ds.length = l.count ("*" : Str) from h) with h | ⟨ds, rfl, hl⟩
    · exact absurd h hn
    · exact ⟨_, rfl, fun c => by omega, fun _ => hl, fun c => by omega⟩
  | 7, h, _, _, _ =>
    obtain ⟨ds, rfl⟩ : ∃ ds, d = .tuple ds := h
    exact ⟨_, rfl, fun c => by omega, fun c => by omega, fun c => by omega⟩
  | n + 8, h, _, _, _ =>
    rcases (show d = .none ∨ ∃ ds, d = .tuple ds from h) with h | ⟨ds, rfl⟩
    · exact absurd h hn
    · exact ⟨_, rfl, fun c => by omega, fun c => by omega, fun c => by omega⟩
theorem sOk_non {door : Nat} {l : List Str} (h : sOk door l .none) (h0 : door ≠ 0) (hd : door ≤ 8) : door = 6 ∨ door = 8 := by
  match door, h, h0, hd with
  | 1, h, _, _ =>
    obtain ⟨a, b, h⟩ : ∃ a b, PyData.none = .tuple [a, b] := h
    cases h
  | 2, h, _, _ =>
    obtain ⟨ds, h, hl⟩ : ∃ ds, PyData.none = .tuple ds ∧ ds.length = l.count ("*" : Str) := h
    cases h
  | 3, h, _, _ =>
    obtain ⟨x, h⟩ : ∃ x, PyData.none = .str x := h
    cases h
  | 4, h, _, _ =>
    have h : PyData.none = DS l := h
    cases h
  | 5, h, _, _ =>
    obtain ⟨x, h⟩ : ∃ x, PyData.none = .bool x := h
    cases h
  | 6, h, _, _ => exact .inl rfl
  | 7, h, _, _ =>
    obtain ⟨ds, h⟩ : ∃ ds, PyData.none = .tuple ds := h
    cases h
  | 8, h, _, _ => exact .inr rfl
theorem ckS_two {rows : List Sy.Row} {l : List Str} {e : Er} (h : ckS rows l = some e) : e = .many ∨ ∃ i, e = .stump i := by
  unfold ckS ckr at h
  split at h
  · exact .inl (Option.some.inj h).symm
  · split at h
    · exact .inr ⟨_, (Option.some.inj h).symm⟩
    · cases h
theorem sDue_two {rows : List Sy.Row} {door : Nat} {l m : List Str} {e : Er} (h : sDue rows door l m = some e) : e = .many ∨ ∃ i, e = .stump i := by
  unfold sDue at h
  split at h
  · exact ckS_two h
  · unfold twoE at h
    cases e1 : ckS rows l with
    | some e2 =>
      rw [e1] at h
      cases Option.some.inj h
      exact ckS_two e1
    | none =>
      rw [e1] at h
      exact ckS_two h
section
variable {P : Program} {w : World} {K : PySem.W.Frag} {mg : Str → Option Value} {base : Heap}
def spStAns (K : PySem.W.Frag) : Sp := fun vs H Q _ => ∃ (r : Addr) (door : Nat) (va : V) (d : PyData) (l : List Str), vs = [.int (door : Nat), .ref r, va] ∧ Rw K H r l ∧ l.length ≤ 100000 ∧ Im K H va d ∧ sOk door l d ∧ door ≤ 8 ∧ Q (.bl true) H
theorem sc_stAns : FnScope ["_law_door", "_law_first", "_law_answer"] ["_law_door", "_law_first", "_law_answer"] (defScope (top 84)) := ⟨rfl, rfl, rfl, by decide +kernel, rfl, by decide +kernel, by decide +kernel⟩
theorem k_stAns (T : Txt K mg) (TC : TxtC mg) (F : DF K mg "_law_stump_answer" 84) (c_law_same : Cal P w K mg base 4 "_law_same" ["_law_told", "_law_due_here"] (spSame K 3)) :
    Cal P w K mg base 5 "_law_stump_answer" ["_law_door", "_law_first", "_law_answer"] (spStAns K) := by
  refine cal_of F.1 F.2 sc_stAns (fun _ _ _ _ _ _ us e => match us, e with | [_, _, _], _ => rfl) (fun vs H Q E s => by obtain ⟨_, _, _, _, _, rfl, _⟩ := s; rfl) ?_
  intro cdv A outer s H vs Q E hr h
  obtain ⟨r, door, va, d, l, rfl, hR, hll, ia, hok, hd8, hq⟩ := h
  refine ⟨_, (pss_cons (ps_if (pt_cmpR op_eq (pv 0) pe_int (nomark _))
        (pss_one (ps_ret (pe_cmpR op_isN (pv 2) pe_non (nomark _))))
        pss_nil)
      (pss_cons (ps_if (pt_cmpR op_eq (pv 0) pe_int (nomark _))
        (pss_one (ps_ret (pe_callB call_isi (by rfl) TC.isinstance (by decide +kernel) (pa_cons (pv 2) (pa_cons (pe_bltn (v := .ty "str") (by rfl) TC.str (by decide +kernel) rfl) pa_nil)))))
        pss_nil)
      (pss_cons (ps_if (pt_cmpR op_eq (pv 0) pe_int (nomark _))
        (pss_one (ps_ret (pe_callB call_isi (by rfl) TC.isinstance (by decide +kernel) (pa_cons (pv 2) (pa_cons (pe_bltn (v := .ty "bool") (by rfl) TC.bool (by decide +kernel) rfl) pa_nil)))))
        pss_nil)
      (pss_cons (ps_if (pt_cmpR op_isN (pv 2) pe_non (nomark _))
        (pss_one (ps_ret (pe_or (pe_cmpR op_eq (pv 0) pe_int (nomark _)) (pe_one (pe_cmpR op_eq (pv 0) pe_int (nomark _))))))
        pss_nil)
      (pss_cons (ps_if (pt_not (pt_val (pe_callB call_isi (by rfl) TC.isinstance (by decide +kernel) (pa_cons (pv 2) (pa_cons (pe_bltn (v := .ty "tuple") (by rfl) TC.tuple (by decide +kernel) rfl) pa_nil)))))
        (pss_one (ps_ret pe_bl))
        pss_nil)
      (pss_cons (ps_if (pt_cmpR op_eq (pv 0) pe_int (nomark _))
        (pss_one (ps_ret (pe_cmpR op_eq (pe_callB call_len_seq (by rfl) T.len (by decide +kernel) (pa_cons (pv 2) pa_nil)) pe_int (nomark _))))
        pss_nil)
      (pss_cons (ps_if (PW.pt (pw_or (pt_cmpR op_eq (pv 0) pe_int (nomark _)) (pw_or1 (pt_cmpR op_eq (pv 0) pe_int (nomark _)))))
        (pss_one (ps_ret (pe_cmpR op_eq (pe_callB call_len_seq (by rfl) T.len (by decide +kernel) (pa_cons (pv 2) pa_nil)) (pe_bmT PySem.F.slot_tuple_count PySem.F.type_tuple_count mt_tcount (pv 1) (pa_cons pe_str pa_nil)) (nomark _))))
        pss_nil)
      (pss_one (ps_ret (pe_or (pe_cmpR op_ne (pv 0) pe_int (nomark _)) (pe_one (pe_cal c_law_same hr (pa_cons (pv 2) (pa_cons (pv 1) pa_nil)))))))))))))), ?_⟩
  have cc : ∀ {k : Nat}, V.int (door : Nat) = V.int ((k : Nat) : Int) → door = k := fun z => by have := V.int.inj z; omega
  refine ⟨_, rfl, rfl, _, rfl, if_dec (fun c => ?_) (fun c0 => ?_)⟩
  · obtain rfl := cc (k := 0) c
    have hd : d = .none := hok
    subst hd
    cases ia
    refine ⟨_, rfl, rfl, ?_⟩
    rw [decide_eq_true rfl]
    exact hq
  refine ⟨_, rfl, rfl, _, rfl, if_dec (fun c => ?_) (fun c3 => ?_)⟩
  · obtain rfl := cc (k := 3) c
    obtain ⟨x, hd⟩ : ∃ x, d = .str x := hok
    subst hd
    cases ia
    exact ⟨_, rfl, _, _, _, _, true, rfl, .ty _, .base (.str x), kit_ty (by decide +kernel), hq⟩
  refine ⟨_, rfl, rfl, _, rfl, if_dec (fun c => ?_) (fun c5 => ?_)⟩
  · obtain rfl := cc (k := 5) c
    obtain ⟨x, hd⟩ : ∃ x, d = .bool x := hok
    subst hd
    cases ia
    exact ⟨_, rfl, _, _, _, _, true, rfl, .ty _, .base (.bl x), kit_ty (by decide +kernel), hq⟩
  have d0 : door ≠ 0 := fun z => c0 (by rw [z]; rfl)
  have d3 : door ≠ 3 := fun z => c3 (by rw [z]; rfl)
  have d5 : door ≠ 5 := fun z => c5 (by rw [z]; rfl)
  refine ⟨_, rfl, rfl, _, rfl, if_dec (fun c => ?_) (fun cn => ?_)⟩
  · subst c
    cases ia
    rcases sOk_non hok d0 hd8 with rfl | rfl
    · refine ⟨_, rfl, rfl, _, rfl, if_dec (fun _ => ?_) (fun c => absurd rfl c)⟩
      exact hq
    · refine ⟨_, rfl, rfl, _, rfl, if_dec (fun c => ?_) (fun _ => ?_)⟩
      · have := V.int.inj c
        omega
      · refine ⟨_, rfl, rfl, ?_⟩
        exact hq
  have hdn : d ≠ .none := fun z => by
    subst z
    cases ia
    exact cn rfl
  obtain ⟨ds, hd, h1, h2, h4⟩ := sOk_tup hok d0 d3 d5 hdn
  obtain ⟨a, xs, rfl, ta, ib⟩ : ∃ a xs, va = .ref a ∧ SqT K H a xs ∧ ImA K H xs ds := by
    rw [hd] at ia
    exact ia.tupI
  have hxl := ib.len
  refine ⟨_, rfl, _, _, _, _, true, rfl, .ty _, tyx_tup ta, kit_ty (by decide +kernel), _, rfl, iteF ?_⟩
  refine ⟨_, rfl, rfl, _, rfl, if_dec (fun c => ?_) (fun c1 => ?_)⟩
  · obtain rfl := cc (k := 1) c
    refine ⟨_, rfl, a, _, rfl, .inr ta, rfl, ?_⟩
    rw [hxl, h1 rfl]
    exact hq
  have ret : door = 2 ∨ door = 6 → ∃ (b : Bool), b = true ∧ decide (V.int ((xs.length : Nat) : Int) = V.int ((l.count ("*" : Str) : Nat) : Int)) = b := fun c => ⟨true, rfl, by rw [hxl, h2 c]; exact decide_eq_true rfl⟩
  refine ⟨_, rfl, rfl, _, rfl, if_dec (fun c => ?_) (fun c2 => ?_)⟩
  · obtain rfl := cc (k := 2) c
    refine ⟨_, rfl, a, _, rfl, .inr ta, _, rfl, ⟨r, _, rfl, hR.sq, hR.nd⟩, r, _, _, rfl, rfl, hR.sq, rfl, all_strs l, rfl, ?_⟩
    rw [countP_strs, hxl, h2 (.inl rfl), decide_eq_true rfl]
    exact hq
  refine ⟨_, rfl, rfl, _, rfl, if_dec (fun c => ?_) (fun c6 => ?_)⟩
  · obtain rfl := cc (k := 6) c
    refine ⟨_, rfl, a, _, rfl, .inr ta, _, rfl, ⟨r, _, rfl, hR.sq, hR.nd⟩, r, _, _, rfl, rfl, hR.sq, rfl, all_strs l, rfl, ?_⟩
    rw [countP_strs, hxl, h2 (.inr rfl), decide_eq_true rfl]
    exact hq
  refine ⟨_, rfl, rfl, _, rfl, if_ndec (fun c => ?_) (fun c => ?_)⟩
  · exact hq
  · obtain rfl := cc (k := 4) c
    exact ⟨_, rfl, _, rfl, _, _, d, DS l, rfl, ia, Im.strs hR.sq, fit_DS (by omega), .inl ⟨h4 rfl, hq⟩⟩
/-! _law_stumps_right -/
def spStRight (K : PySem.W.Frag) : Sp := fun vs H Q _ => ∃ (q a r o : Addr) (rows : List Sy.Row) (l m : List Str), vs = [.ref q, .ref a, .ref r, .ref o] ∧ RL K H q rows ∧ Rw K H r l ∧ Rw K H o m ∧ l.length ≤ 100000 ∧ m.length ≤ 100000 ∧ Gd K H a rows ∧ ∀ H', Same H H' → Q (.bl true) H'
abbrev N_stRight : List Str := ["_law_rows_here", "_law_bed_here", "_law_first", "_law_second", "_law_bad", "_law_bad2", "_law_door", "_law_met_here", "_law_due_here", "_law_large"]
theorem sc_stRight : FnScope N_stRight ["_law_rows_here", "_law_bed_here", "_law_first", "_law_second"] (defScope (top 85)) := ⟨rfl, rfl, rfl, by decide +kernel, rfl, by decide +kernel, by decide +kernel⟩
theorem k_stRight (T : Txt K mg) (F : DF K mg "_law_stumps_right" 85) (c_law_due : Cal P w K mg base 3 "_law_due" ["_law_rows_here", "_law_row", "_law_with_holes"] (spDueL K)) (c_law_met : Cal P w K mg base 9 "_law_met" ["_law_bed_here", "_law_family", "_law_door", "_law_first", "_law_second", "_law_path_here", "_law_pieces"] (spMet K))
    (c_law_same : Cal P w K mg base 4 "_law_same" ["_law_told", "_law_due_here"] (spSame K 3)) (c_law_stump_answer : Cal P w K mg base 5 "_law_stump_answer" ["_law_door", "_law_first", "_law_answer"] (spStAns K)) :
    Cal P w K mg base 10 "_law_stumps_right" ["_law_rows_here", "_law_bed_here", "_law_first", "_law_second"] (spStRight K) := by
  refine cal_of F.1 F.2 sc_stRight (fun _ _ _ _ _ _ us e => match us, e with | [_, _, _, _], _ => rfl) (fun vs H Q E s => by obtain ⟨_, _, _, _, _, _, _, rfl, _⟩ := s; rfl) ?_
  intro cdv A outer s H vs Q E hr h
  obtain ⟨q, a, r, o, rows, l, m, rfl, hRL, hR, hO, hll, hlm, hg, hq⟩ := h
  have sc := sc_stRight
  -- behind large
  have rest2 : ∃ t, PSs (cxOf (L2.CX P w) P w K mg base N_stRight "_law_stumps_right" (defScope (top 85)) (He.ga K "_law_stumps_right") cdv A outer s H E) ((sBody ((defBody (top 85)).getD 2 (.Pass ⟨0, 0, 0, 0⟩))).drop 5) t ∧
      ∀ (D : Ends) (door : Nat) (v1 v2 v vd : V) (b : Bool) (H1 : Hp), Rw K H1 r l → door ≤ 8 → ((vd = .non ∧ ((b = false ∧ ∃ d, Im K H1 v (dTold d) ∧ sOk door l d) ∨ (b = true ∧ Im K H1 v Er.many.dat))) ∨ ∃ x, vd = .ref x) →
        D.nx [some (.ref q), some (.ref a), some (.ref r), some (.ref o), some v1, some v2, some (.int (door : Nat)), some v, some vd, some (.bl b)] H1 →
        t D [some (.ref q), some (.ref a), some (.ref r), some (.ref o), some v1, some v2, some (.int (door : Nat)), some v, some vd, some (.bl b)] H1 := by
    refine ⟨_, (pss_cons (ps_if (PW.pt (pw_and (pt_cmpR op_isN (pv 8) pe_non (nomark _)) (pw_and (pt_cmpR op_ne (pe_ix ix_tup (pv 7) pe_int (fun _ _ => rfl)) pe_str (nomark _)) (pw_and1 (pt_not (pt_val (pv 9)))))))
          (pss_one (ps_ret pe_bl))
          pss_nil)
        (pss_one (ps_if (PW.pt (pw_and (pt_cmpR op_isN (pv 8) pe_non (nomark _)) (pw_and (pt_not (pt_val (pv 9))) (pw_and1 (pt_not (pt_val (pe_cal c_law_stump_answer hr (pa_cons (pv 6) (pa_cons (pv 2) (pa_cons (pe_ix ix_tup (pv 7) pe_int (fun _ _ => rfl)) pa_nil))))))))))
          (pss_one (ps_ret pe_bl))
          pss_nil))), ?_⟩
    intro D door v1 v2 v vd b H1 hR1 hd8 hcase hnx
    rcases hcase with ⟨rfl, ⟨rfl, d, iv, hok⟩ | ⟨rfl, iv⟩⟩ | ⟨x, rfl⟩
    · obtain ⟨t, u, rfl, tt, iu⟩ := told_at iv
      refine ⟨_, rfl, rfl, _, rfl, if_dec (fun _ => ?_) (fun c => absurd rfl c)⟩
      refine ⟨_, rfl, t, _, _, _, rfl, rfl, tt, atI_nat (j := 0) rfl, rfl, _, rfl, if_ndec (fun c => absurd rfl c) (fun _ => ?_)⟩
      refine ⟨_, rfl, rfl, _, rfl, if_dec (fun _ => ?_) (fun c => absurd rfl c)⟩
      refine ⟨_, rfl, _, rfl, iteT ?_⟩
      exact ⟨_, rfl, _, rfl, _, rfl, t, _, _, _, rfl, rfl, tt, atI_nat (j := 1) rfl, r, door, u, d, l, rfl, hR1, hll, iu, hok, hd8, _, rfl, iteF hnx⟩
    · have hv : ∃ t, v = .ref t ∧ ∃ xs, SqT K H1 t (.str "many" :: xs) := by
        cases iv with
        | tup t i =>
          cases i with
          | cons i1 r => cases i1; exact ⟨_, rfl, _, t⟩
      obtain ⟨t, rfl, xs, tt⟩ := hv
      refine ⟨_, rfl, rfl, _, rfl, if_dec (fun _ => ?_) (fun c => absurd rfl c)⟩
      refine ⟨_, rfl, t, _, _, _, rfl, rfl, tt, atI_nat (j := 0) rfl, rfl, _, rfl, if_ndec (fun _ => ?_) (fun c => by cases c)⟩
      refine ⟨_, rfl, _, rfl, iteF ?_⟩
      refine ⟨_, rfl, rfl, _, rfl, if_dec (fun _ => ?_) (fun c => absurd rfl c)⟩
      exact ⟨_, rfl, _, rfl, iteF hnx⟩
    · refine ⟨_, rfl, rfl, _, rfl, if_dec (fun c => by cases c) (fun _ => ?_)⟩
      refine ⟨_, rfl, rfl, _, rfl, if_dec (fun c => by cases c) (fun _ => ?_)⟩
      exact hnx
  obtain ⟨t2, p2, hRest2⟩ := rest2
  have rest1 : ∃ t, PSs (cxOf (L2.CX P w) P w K mg base N_stRight "_law_stumps_right" (defScope (top 85)) (He.ga K "_law_stumps_right") cdv A outer s H E) ((sBody ((defBody (top 85)).getD 2 (.Pass ⟨0, 0, 0, 0⟩))).drop 3) t ∧
      ∀ (D : Ends) (door : Nat) (v1 v2 v vd : V) (t9 : Option V) (H1 : Hp), Rw K H1 r l → Rw K H1 o m → door ≤ 8 → Im K H1 vd (dD (sDue rows door l m)) → ((sDue rows door l m = none ∧ ((∃ d, Im K H1 v (dTold d) ∧ sOk door l d) ∨ (door = 8 ∧ 2000 < l.length + m.length ∧ Im K H1 v Er.many.dat))) ∨ ∃ e, sDue rows door l m = some e ∧ Im K H1 v e.dat) →
        (∀ v8 t9 H2, Same H1 H2 → D.nx [some (.ref q), some (.ref a), some (.ref r), some (.ref o), some v1, some v2, some (.int (door : Nat)), some v, some v8, t9] H2) →
        t D [some (.ref q), some (.ref a), some (.ref r), some (.ref o), some v1, some v2, some (.int (door : Nat)), some v, some vd, t9] H1 := by
    refine ⟨_, (pss_cons (ps_if (PW.pt (pw_and (pt_cmpR op_notN (pv 8) pe_non (nomark _)) (pw_and1 (pt_not (pt_val (pe_cal c_law_same hr (pa_cons (pv 7) (pa_cons (pv 8) pa_nil))))))))
          (pss_one (ps_ret pe_bl))
          pss_nil)
        (pss_cons (ps_set (i := 9) sc.nd rfl (Or.inl rfl) (pe_and (pe_cmpR op_eq (pv 6) pe_int (nomark _)) (pe_and (pe_cmpR op_gt (pe_op op_add (pe_callB call_len_seq (by rfl) T.len (by decide +kernel) (pa_cons (pv 2) pa_nil)) (pe_callB call_len_seq (by rfl) T.len (by decide +kernel) (pa_cons (pv 3) pa_nil))) pe_int (nomark _)) (pe_one (pe_cal c_law_same hr (pa_cons (pv 7) (pa_cons (pe_tup (pa_cons pe_str (pa_cons pe_str (pa_cons pe_int pa_nil)))) pa_nil)))))))
        p2)), ?_⟩
    intro D door v1 v2 v vd t9 H1 hR1 hO1 hd8 id hcase hnx
    have go : ∀ (b : Bool) (H2 : Hp), Same H1 H2 → ((vd = .non ∧ ((b = false ∧ ∃ d, Im K H2 v (dTold d) ∧ sOk door l d) ∨ (b = true ∧ Im K H2 v Er.many.dat))) ∨ ∃ x, vd = .ref x) → t2 D [some (.ref q), some (.ref a), some (.ref r), some (.ref o), some v1, some v2, some (.int (door : Nat)), some v, some vd, some (.bl b)] H2 := fun b H2 s2 hc =>
      hRest2 D door v1 v2 v vd b H2 (hR1.mono s2) hd8 hc (hnx _ _ _ s2)
    have e3 : Er.many.dat = .tuple [.str "many", .str "knots", .int 2000] := rfl
    have imany : ∀ {H : Hp} {t : Addr}, SqT K H t [.str "many", .str "knots", .int 2000] → Im K H (.ref t) Er.many.dat := fun h => .tup h (.cons (.str _) (.cons (.str _) (.cons (.int _) .nil)))
    rcases hcase with ⟨hdue, hc⟩ | ⟨e, hdue, iv⟩
    · rw [hdue] at id
      have := im_none id
      subst this
      refine ⟨_, rfl, rfl, _, rfl, if_ndec (fun c => absurd rfl c) (fun _ => ?_)⟩
      refine ⟨_, rfl, rfl, _, rfl, if_dec (fun c => ?_) (fun c => ?_)⟩
      · refine ⟨_, rfl, r, _, rfl, .inr hR1.sq, _, rfl, o, _, rfl, .inr hO1.sq, _, _, rfl, rfl, _, _, rfl, rfl, _, rfl, if_dec (fun c2 => ?_) (fun c2 => ?_)⟩
        · refine ⟨_, rfl, by show 3 ≤ sizeLine; decide, fun t ht => ?_⟩
          have st := up_same (o := .tup [V.str "many", .str "knots", .int 2000]) ht
          rcases hc with ⟨d, iv, hok⟩ | ⟨_, _, iv⟩
          · exact ⟨v, .ref t, dTold d, Er.many.dat, rfl, iv.mono (Stay.of st), imany (SqT.of upd_same), fit_dat (n := 1) .many (fun _ z => by cases z), .inr ⟨_, _, rfl, e3, by show 2 ≠ 3; decide, go false _ st (.inl ⟨rfl, .inl ⟨rfl, d, iv.mono (Stay.of st), hok⟩⟩)⟩⟩
          · exact ⟨v, .ref t, Er.many.dat, Er.many.dat, rfl, iv.mono (Stay.of st), imany (SqT.of upd_same), fit_dat (n := 1) .many (fun _ z => by cases z), .inl ⟨rfl, go true _ st (.inl ⟨rfl, .inr ⟨rfl, iv.mono (Stay.of st)⟩⟩)⟩⟩
        · rcases hc with ⟨d, iv, hok⟩ | ⟨_, hgt, _⟩
          · exact go false _ (Same.refl _) (.inl ⟨rfl, .inl ⟨rfl, d, iv, hok⟩⟩)
          · rw [List.length_map, List.length_map] at c2
            omega
      · rcases hc with ⟨d, iv, hok⟩ | ⟨rfl, _, _⟩
        · exact go false _ (Same.refl _) (.inl ⟨rfl, .inl ⟨rfl, d, iv, hok⟩⟩)
        · exact absurd rfl c
    · rw [hdue] at id
      obtain ⟨ad, rfl⟩ := im_some id
      refine ⟨_, rfl, rfl, _, rfl, if_ndec (fun _ => ?_) (fun c => by cases c)⟩
      have hnp : ∀ zs, e = .path zs → zs.length ≤ 1000 := fun zs z => by
        rcases sDue_two hdue with h | ⟨i, h⟩ <;> rw [h] at z <;> cases z
      refine ⟨_, rfl, _, rfl, v, .ref ad, e.dat, e.dat, rfl, iv, id, fit_dat (n := 1) e hnp, .inl ⟨rfl, _, rfl, iteF ?_⟩⟩
      refine ⟨_, rfl, rfl, _, rfl, if_dec (fun c => ?_) (fun c => ?_)⟩
      · refine ⟨_, rfl, r, _, rfl, .inr hR1.sq, _, rfl, o, _, rfl, .inr hO1.sq, _, _, rfl, rfl, _, _, rfl, rfl, _, rfl, if_dec (fun c2 => ?_) (fun c2 => ?_)⟩
        · refine ⟨_, rfl, by show 3 ≤ sizeLine; decide, fun t ht => ?_⟩
          have st := up_same (o := .tup [V.str "many", .str "knots", .int 2000]) ht
          rcases sDue_two hdue with h | ⟨i, h⟩
          · subst h
            exact ⟨v, .ref t, Er.many.dat, Er.many.dat, rfl, iv.mono (Stay.of st), imany (SqT.of upd_same), fit_dat (n := 1) .many (fun _ z => by cases z), .inl ⟨rfl, go true _ st (.inr ⟨_, rfl⟩)⟩⟩
          · subst h
            exact ⟨v, .ref t, (Er.stump i).dat, Er.many.dat, rfl, iv.mono (Stay.of st), imany (SqT.of upd_same), fit_dat (n := 1) .many (fun _ z => by cases z), .inr ⟨_, _, rfl, e3, by show 2 ≠ 3; decide, go false _ st (.inr ⟨_, rfl⟩)⟩⟩
        · exact go false _ (Same.refl _) (.inr ⟨_, rfl⟩)
      · exact go false _ (Same.refl _) (.inr ⟨_, rfl⟩)
  obtain ⟨t1, p1, hRest1⟩ := rest1
  refine ⟨_, (pss_cons (ps_set (i := 4) sc.nd rfl (Or.inl rfl) (pe_cal c_law_due hr (pa_cons (pv 0) (pa_cons (pv 2) (pa_cons pe_bl pa_nil)))))
      (pss_cons (ps_set (i := 5) sc.nd rfl (Or.inl rfl) (pe_cal c_law_due hr (pa_cons (pv 0) (pa_cons (pv 3) (pa_cons pe_bl pa_nil)))))
      (pss_cons (ps_for (passes_of rfl) rfl (pi_range1 rfl T.range (pa_cons pe_int pa_nil)) (pg_name (i := 6) sc.nd rfl (Or.inl rfl))
        (pss_cons (ps_set (i := 7) sc.nd rfl (Or.inl rfl) (pe_cal c_law_met hr (pa_cons (pv 1) (pa_cons pe_int (pa_cons (pv 6) (pa_cons (pv 2) (pa_cons (pv 3) (pa_cons (pe_tup pa_nil) (pa_cons (pe_lst pa_nil) pa_nil)))))))))
        (pss_cons (ps_set (i := 8) sc.nd rfl (Or.inl rfl) (pv 4))
        (pss_cons (ps_if (PW.pt (pw_and (pt_cmpR op_isN (pv 8) pe_non (nomark _)) (pw_and1 (pt_cmpR op_gt (pv 6) pe_int (nomark _)))))
          (pss_one (ps_set (i := 8) sc.nd rfl (Or.inl rfl) (pv 5)))
          pss_nil)
        p1))))
      (pss_one (ps_ret pe_bl))))), ?_⟩
  refine ⟨_, rfl, _, rfl, q, r, true, rows, l, rfl, hRL, hR.sq, hg.hole, hll, fun H1 v1 s1 i1 => ?_⟩
  rw [ckW_t] at i1
  refine ⟨_, rfl, _, rfl, q, o, true, rows, m, rfl, hRL.mono s1, (hO.mono s1).sq, hg.hole, hlm, fun H2 v2 s2 i2 => ?_⟩
  rw [ckW_t] at i2
  have s12 := s1.trans s2
  have i1' := i1.mono (Stay.of s2)
  refine ⟨_, rfl, by decide, by decide, for_rng (n := 9) (fun i σ H' => ∃ t6 t7 t8 t9, σ = [some (.ref q), some (.ref a), some (.ref r), some (.ref o), some v1, some v2, t6, t7, t8, t9] ∧ Same H2 H') ⟨none, none, none, none, rfl, Same.refl _⟩ ?_ ?_⟩
  · rintro i σ H3 hi ⟨t6, t7, t8, t9, rfl, s3⟩
    refine ⟨_, rfl, _, rfl, _, rfl, _, rfl, by decide, fun T1 hT1 => ⟨by decide, fun L hL => ?_⟩⟩
    have s34 := (s3.trans (up_same (o := .tup ([] : List V)) hT1)).trans (up_same (o := .lst ([] : List V)) hL)
    have s04 := s12.trans s34
    have fin : ∀ (v : V) (H5 : Hp), Same (upd (upd H3 T1 (.tup [])) L (.lst [])) H5 → ∀ v8 t9 H6, Same H5 H6 → ∃ t6 t7 t8' t9', [some (.ref q), some (.ref a), some (.ref r), some (.ref o), some v1, some v2, some (.int (i : Nat)), some v, some v8, t9] = [some (.ref q), some (.ref a), some (.ref r), some (.ref o), some v1, some v2, t6, t7, t8', t9'] ∧ Same H2 H6 := fun v H5 s5 v8 t9 H6 s6 => ⟨_, _, _, _, rfl, (s34.trans s5).trans s6⟩
    refine ⟨a, 1, i, .ref r, .ref o, .ref T1, .ref L, rows, _, _, _, rfl, (hg.same s04), Ask.stump (hR.mono s04) (hO.mono s04) (by omega), ⟨fun e => ⟨fun H5 v d s5 iv hok => ?_, fun z H5 v s5 iv => ?_⟩, fun e he H5 v s5 iv => ?_⟩⟩
    · have hc : (sDue rows i l m = none ∧ ((∃ d, Im K H5 v (dTold d) ∧ sOk i l d) ∨ (i = 8 ∧ 2000 < l.length + m.length ∧ Im K H5 v Er.many.dat))) ∨ ∃ e, sDue rows i l m = some e ∧ Im K H5 v e.dat := .inl ⟨e, .inl ⟨d, iv, hok⟩⟩
      have j1 := i1'.mono (Stay.of (s34.trans s5))
      have j2 := i2.mono (Stay.of (s34.trans s5))
      have k1 := hR.mono (s04.trans s5)
      have k2 := hO.mono (s04.trans s5)
      cases e1 : ckS rows l with
      | some e1' =>
        rw [e1] at j1
        obtain ⟨x, rfl⟩ := im_some j1
        have hs : sDue rows i l m = some e1' := by
          unfold sDue
          split
          · exact e1
          · exact twoE_1 e1
        refine ⟨_, rfl, _, rfl, rfl, _, rfl, if_dec (fun c => by cases c) (fun _ => ?_)⟩
        exact hRest1 _ i _ v2 v _ _ H5 k1 k2 (by omega) (by rw [hs]; exact j1) hc (fin v H5 s5)
      | none =>
        rw [e1] at j1
        have := im_none j1
        subst this
        refine ⟨_, rfl, _, rfl, rfl, _, rfl, if_dec (fun _ => ?_) (fun c => absurd rfl c)⟩
        refine ⟨_, rfl, _, _, rfl, rfl, _, rfl, if_dec (fun c => ?_) (fun c => ?_)⟩
        · have hs : sDue rows i l m = ckS rows m := by
            unfold sDue
            rw [if_neg (by omega), twoE_2 e1]
          exact ⟨_, rfl, hRest1 _ i _ v2 v _ _ H5 k1 k2 (by omega) (by rw [hs]; exact j2) hc (fin v H5 s5)⟩
        · have hs : sDue rows i l m = none := by
            unfold sDue
            rw [if_pos (by omega), e1]
          exact hRest1 _ i _ v2 v _ _ H5 k1 k2 (by omega) (by rw [hs]; exact .non) hc (fin v H5 s5)
    · have hc : (sDue rows i l m = none ∧ ((∃ d, Im K H5 v (dTold d) ∧ sOk i l d) ∨ (i = 8 ∧ 2000 < l.length + m.length ∧ Im K H5 v Er.many.dat))) ∨ ∃ e, sDue rows i l m = some e ∧ Im K H5 v e.dat := .inl ⟨e, .inr ⟨z.1, z.2, iv⟩⟩
      have j1 := i1'.mono (Stay.of (s34.trans s5))
      have j2 := i2.mono (Stay.of (s34.trans s5))
      have k1 := hR.mono (s04.trans s5)
      have k2 := hO.mono (s04.trans s5)
      cases e1 : ckS rows l with
      | some e1' =>
        rw [e1] at j1
        obtain ⟨x, rfl⟩ := im_some j1
        have hs : sDue rows i l m = some e1' := by
          unfold sDue
          split
          · exact e1
          · exact twoE_1 e1
        refine ⟨_, rfl, _, rfl, rfl, _, rfl, if_dec (fun c => by cases c) (fun _ => ?_)⟩
        exact hRest1 _ i _ v2 v _ _ H5 k1 k2 (by omega) (by rw [hs]; exact j1) hc (fin v H5 s5)
      | none =>
        rw [e1] at j1
        have := im_none j1
        subst this
        refine ⟨_, rfl, _, rfl, rfl, _, rfl, if_dec (fun _ => ?_) (fun c => absurd rfl c)⟩
        refine ⟨_, rfl, _, _, rfl, rfl, _, rfl, if_dec (fun c => ?_) (fun c => ?_)⟩
        · have hs : sDue rows i l m = ckS rows m := by
            unfold sDue
            rw [if_neg (by omega), twoE_2 e1]
          exact ⟨_, rfl, hRest1 _ i _ v2 v _ _ H5 k1 k2 (by omega) (by rw [hs]; exact j2) hc (fin v H5 s5)⟩
        · have hs : sDue rows i l m = none := by
            unfold sDue
            rw [if_pos (by omega), e1]
          exact hRest1 _ i _ v2 v _ _ H5 k1 k2 (by omega) (by rw [hs]; exact .non) hc (fin v H5 s5)
    · have hc : (sDue rows i l m = none ∧ ((∃ d, Im K H5 v (dTold d) ∧ sOk i l d) ∨ (i = 8 ∧ 2000 < l.length + m.length ∧ Im K H5 v Er.many.dat))) ∨ ∃ e, sDue rows i l m = some e ∧ Im K H5 v e.dat := .inr ⟨e, he, iv⟩
      have j1 := i1'.mono (Stay.of (s34.trans s5))
      have j2 := i2.mono (Stay.of (s34.trans s5))
      have k1 := hR.mono (s04.trans s5)
      have k2 := hO.mono (s04.trans s5)
      cases e1 : ckS rows l with
      | some e1' =>
        rw [e1] at j1
        obtain ⟨x, rfl⟩ := im_some j1
        have hs : sDue rows i l m = some e1' := by
          unfold sDue
          split
          · exact e1
          · exact twoE_1 e1
        refine ⟨_, rfl, _, rfl, rfl, _, rfl, if_dec (fun c => by cases c) (fun _ => ?_)⟩
        exact hRest1 _ i _ v2 v _ _ H5 k1 k2 (by omega) (by rw [hs]; exact j1) hc (fin v H5 s5)
      | none =>
        rw [e1] at j1
        have := im_none j1
        subst this
        refine ⟨_, rfl, _, rfl, rfl, _, rfl, if_dec (fun _ => ?_) (fun c => absurd rfl c)⟩
        refine ⟨_, rfl, _, _, rfl, rfl, _, rfl, if_dec (fun c => ?_) (fun c => ?_)⟩
        · have hs : sDue rows i l m = ckS rows m := by
            unfold sDue
            rw [if_neg (by omega), twoE_2 e1]
          exact ⟨_, rfl, hRest1 _ i _ v2 v _ _ H5 k1 k2 (by omega) (by rw [hs]; exact j2) hc (fin v H5 s5)⟩
        · have hs : sDue rows i l m = none := by
            unfold sDue
            rw [if_pos (by omega), e1]
          exact hRest1 _ i _ v2 v _ _ H5 k1 k2 (by omega) (by rw [hs]; exact .non) hc (fin v H5 s5)
  · rintro σ H3 ⟨t6, t7, t8, t9, rfl, s3⟩
    exact hq _ (s12.trans s3)
end
end Sy
namespace Sy
open PySem PySem.Spec PyProof.Rows L2
/-- what pieces owe -/
def pcE (rows : List Sy.Row) (wh : Bool) (size : Int) (ls : List (List Str)) : Option Er := match fstE (ckW rows wh) ls with
  | some e => some e
  | none => if 2000 < size + (ls.flatten.length : Nat) then some .many else none
/-- what is to be met, as data -/
def dX (due : Option Er) (d : PyData) : PyData := match due with
  | some e => e.dat
  | none => dTold d
theorem fstE_mem {ck : List Str → Option Er} {e : Er} : ∀ {ls : List (List Str)}, fstE ck ls = some e → ∃ l, ck l = some e
  | [], h => by cases h
  | l :: ls, h => by
    unfold fstE at h
    cases e1 : ck l with
    | some e2 =>
      rw [e1] at h
      cases Option.some.inj h
      exact ⟨l, e1⟩
    | none =>
      rw [e1] at h
      exact fstE_mem h
theorem fstE_ok {ck : List Str → Option Er} : ∀ {ls : List (List Str)}, fstE ck ls = none → ∀ l ∈ ls, ck l = none
  | [], _, _, h => nomatch h
  | z :: ls, h, l, hl => by
    unfold fstE at h
    cases e1 : ck z with
    | some e2 => rw [e1] at h; cases h
    | none =>
      rw [e1] at h
      rcases List.mem_cons.mp hl with rfl | hl
      · exact e1
      · exact fstE_ok h l hl
theorem flat_len3 (ls : List (List Str)) (h : ∀ l ∈ ls, l.length ≤ 2000) (h4 : ls.length ≤ 4) : ls.flatten.length ≤ 8000 := by
  have := flat_le h
  have := Nat.mul_le_mul_left 2000 h4
  omega
theorem wrong_path {a b : Nat} {zs : List Int} : some (Er.wrong a b) ≠ some (.path zs) := fun z => by cases Option.some.inj z
theorem plDue_path {rows : List Sy.Row} {x : Str} {ls : List (List Str)} {zs : List Int} : plDue rows x ls ≠ some (.path zs) := fun h => by
  unfold plDue at h
  split at h
  · cases Option.some.inj h
  · split at h
    · cases Option.some.inj h
    · split at h
      · rename_i e1
        cases Option.some.inj h
        obtain ⟨l, hl⟩ := fstE_mem e1
        exact ckP_no hl
      · split at h
        · cases Option.some.inj h
        · cases h
theorem fillDue_path {rows : List Sy.Row} {l : List Str} {ls : List (List Str)} {zs : List Int} : fillDue rows l ls ≠ some (.path zs) := fun h => by
  unfold fillDue at h
  split at h
  · rename_i e1
    cases Option.some.inj h
    exact ckS_no e1
  · split at h
    · cases Option.some.inj h
    · split at h
      · rename_i e1
        cases Option.some.inj h
        obtain ⟨l, hl⟩ := fstE_mem e1
        exact ckS_no hl
      · split at h
        · cases Option.some.inj h
        · cases h
theorem fit_dX {due : Option Er} {w : List Str} (hp : ∀ zs, due ≠ some (.path zs)) (hl : due = none → w.length ≤ 1000000) : Fit 3 (dX due (DS w)) := by
  cases due with
  | some e => exact fit_dat (n := 1) e fun zs z => absurd (by rw [z]) (hp zs)
  | none =>
    refine ⟨by show 2 ≤ 1000000; decide, fun d hd => ?_⟩
    simp at hd
    rcases hd with rfl | rfl
    · exact trivial
    · exact fit_DS (hl rfl)
section
variable {P : Program} {w : World} {K : PySem.W.Frag} {mg : Str → Option Value} {base : Heap}
/-- pieces in a list at b -/
structure Pcs (K : PySem.W.Frag) (H : Hp) (b : Addr) (bs : List Addr) (ls : List (List Str)) : Prop where
  at_ : H b = some (.lst (bs.map V.ref))
  pd : Paired (fun q (l : List Str) => Rw K H q l) bs ls
  le : ls.length ≤ 4
  ll : ∀ l ∈ ls, l.length ≤ 100000
theorem Pcs.same {H H' : Hp} {b : Addr} {bs : List Addr} {ls : List (List Str)} (h : Pcs K H b bs ls) (s : Same H H') : Pcs K H' b bs ls := ⟨s _ _ h.at_, Paired.mapP h.pd fun _ _ z => z.mono s, h.le, h.ll⟩
theorem Pcs.len {H : Hp} {b : Addr} {bs : List Addr} {ls : List (List Str)} (h : Pcs K H b bs ls) : bs.length = ls.length := paired_len h.pd
def spPcDue (K : PySem.W.Frag) : Sp := fun vs H Q _ => ∃ (q b : Addr) (wh : Bool) (size : Int) (rows : List Sy.Row) (bs : List Addr) (ls : List (List Str)), vs = [.ref q, .ref b, .bl wh, .int size] ∧ RL K H q rows ∧ isK rows "*" = false ∧ Pcs K H b bs ls ∧ ∀ H' v, Same H H' → Im K H' v (dD (pcE rows wh size ls)) → Q v H'
abbrev N_pcDue : List Str := ["_law_rows_here", "_law_pieces", "_law_with_holes", "_law_size", "_law_piece", "_law_bad"]
theorem sc_pcDue : FnScope N_pcDue ["_law_rows_here", "_law_pieces", "_law_with_holes", "_law_size"] (defScope (top 86)) := ⟨rfl, rfl, rfl, by decide +kernel, rfl, by decide +kernel, by decide +kernel⟩
theorem k_pcDue (T : Txt K mg) (F : DF K mg "_law_pieces_due" 86) (c_law_due : Cal P w K mg base 3 "_law_due" ["_law_rows_here", "_law_row", "_law_with_holes"] (spDueL K)) : Cal P w K mg base 4 "_law_pieces_due" ["_law_rows_here", "_law_pieces", "_law_with_holes", "_law_size"] (spPcDue K) := by
  refine cal_of F.1 F.2 sc_pcDue (fun _ _ _ _ _ _ us e => match us, e with | [_, _, _, _], _ => rfl) (fun vs H Q E s => by obtain ⟨_, _, _, _, _, _, _, rfl, _⟩ := s; rfl) ?_
  intro cdv A outer s H vs Q E hr h
  obtain ⟨q, b, wh, size, rows, bs, ls, rfl, hRL, hs, hp, hq⟩ := h
  have sc := sc_pcDue
  have hbl := hp.len
  refine ⟨_, (pss_cons (ps_for (passes_of rfl) rfl (pi_list (pv 1)) (pg_name (i := 4) sc.nd rfl (Or.inl rfl))
        (pss_cons (ps_set (i := 5) sc.nd rfl (Or.inl rfl) (pe_cal c_law_due hr (pa_cons (pv 0) (pa_cons (pv 4) (pa_cons (pv 2) pa_nil)))))
        (pss_cons (ps_if (pt_cmpR op_notN (pv 5) pe_non (nomark _))
          (pss_one (ps_ret (pv 5)))
          pss_nil)
        (pss_one (ps_set (i := 3) sc.nd rfl (Or.inl rfl) (pe_op op_add (pv 3) (pe_callB call_len_seq (by rfl) T.len (by decide +kernel) (pa_cons (pv 4) pa_nil))))))))
      (pss_cons (ps_if (pt_cmpR op_gt (pv 3) pe_int (nomark _))
        (pss_one (ps_ret (pe_tup (pa_cons pe_str (pa_cons pe_str (pa_cons pe_int pa_nil))))))
        pss_nil)
      (pss_one (ps_ret pe_non)))), ?_⟩
  refine ⟨_, rfl, b, rfl, ⟨_, SqL.of hp.at_⟩, for_list (K := K) (xs := bs.map V.ref) (fun i σ H' => ∃ (sz : Int) (t4 t5 : Option V), σ = [some (.ref q), some (.ref b), some (.bl wh), some (.int sz), t4, t5] ∧ Same H H' ∧ sz = size + ((ls.take i).flatten.length : Nat) ∧ ∀ z ∈ ls.take i, ckW rows wh z = none) ⟨size, none, none, rfl, Same.refl H, by simp, fun _ z => (nomatch z)⟩ (fun _ _ _ _ ⟨_, _, _, _, s, _⟩ => SqL.of (s _ _ hp.at_)) ?_ ?_⟩
  · rintro i v σ H1 hv ⟨sz, t4, t5, rfl, s1, rfl, hpl⟩
    obtain ⟨p, ep, rfl⟩ := map_at hv
    have hi : i < ls.length := by rw [← hbl]; exact (List.getElem?_eq_some_iff.mp ep).1
    obtain ⟨l, el⟩ : ∃ l, ls[i]? = some l := ⟨_, List.getElem?_eq_getElem hi⟩
    obtain ⟨p2, ep2, tp⟩ := paired_at hp.pd el
    rw [ep] at ep2
    cases ep2
    have tp1 := tp.mono s1
    refine ⟨_, rfl, _, rfl, _, rfl, q, p, wh, rows, l, rfl, hRL.mono s1, tp1.sq, hs, hp.ll l (List.mem_of_getElem? el), fun H2 v2 s2 i2 => ?_⟩
    cases e1 : ckW rows wh l with
    | some e =>
      rw [e1] at i2
      have hpc : pcE rows wh size ls = some e := by
        unfold pcE
        rw [fstE_at hpl el e1]
      obtain ⟨x, rfl⟩ := im_some i2
      refine ⟨_, rfl, rfl, _, rfl, if_ndec (fun _ => ?_) (fun c => by cases c)⟩
      exact ⟨_, rfl, hq _ _ (s1.trans s2) (by rw [hpc]; exact i2)⟩
    | none =>
      rw [e1] at i2
      have := im_none i2
      subst this
      refine ⟨_, rfl, rfl, _, rfl, if_ndec (fun c => absurd rfl c) (fun _ => ?_)⟩
      refine ⟨_, rfl, _, rfl, p, _, rfl, .inr (tp1.mono s2).sq, _, _, rfl, rfl, _, _, _, rfl, s1.trans s2, ?_, fun z hz => ?_⟩
      · rw [List.length_map, List.take_succ, el]
        simp only [Option.toList, List.flatten_append, List.length_append, List.flatten_cons, List.flatten_nil, List.append_nil]
        omega
      · rw [List.take_succ, el] at hz
        rcases List.mem_append.mp hz with hz | hz
        · exact hpl z hz
        · rw [List.mem_singleton.mp hz]; exact e1
  · rintro σ H1 ⟨sz, t4, t5, rfl, s1, rfl, hpl⟩
    rw [List.length_map, hbl, List.take_length] at *
    have hpc : pcE rows wh size ls = if 2000 < size + (ls.flatten.length : Nat) then some .many else none := by
      unfold pcE
      rw [fstE_none hpl]
    rw [hpc] at hq
    refine ⟨_, rfl, _, _, rfl, rfl, _, rfl, if_dec (fun c => ?_) (fun c => ?_)⟩
    · rw [if_pos c] at hq
      exact ⟨by show 3 ≤ sizeLine; decide, fun t ht => hq _ _ (s1.trans (up_same ht)) (.tup (SqT.of upd_same) (.cons (.str _) (.cons (.str _) (.cons (.int _) .nil))))⟩
    · rw [if_neg c] at hq
      exact hq _ _ s1 .non
/-! _law_planted_right -/
def spPtRight (K : PySem.W.Frag) : Sp := fun vs H Q _ => ∃ (q a b : Addr) (x : Str) (rows : List Sy.Row) (bs : List Addr) (ls : List (List Str)), vs = [.ref q, .ref a, .str x, .ref b] ∧ RL K H q rows ∧ Gd K H a rows ∧ Wx x ∧ Pcs K H b bs ls ∧ ∀ H', Same H H' → Q (.bl true) H'
abbrev N_ptRight : List Str := ["_law_rows_here", "_law_bed_here", "_law_word_here", "_law_pieces", "_law_number_here", "_law_due_here", "_law_whole", "_law_piece"]
theorem sc_ptRight : FnScope N_ptRight ["_law_rows_here", "_law_bed_here", "_law_word_here", "_law_pieces"] (defScope (top 87)) := ⟨rfl, rfl, rfl, by decide +kernel, rfl, by decide +kernel, by decide +kernel⟩
theorem k_ptRight (T : Txt K mg) (F : DF K mg "_law_planted_right" 87) (c_law_number : Cal P w K mg base 1 "_law_number" ["_law_rows_here", "_law_word_here"] (spNum K)) (c_law_pieces_due : Cal P w K mg base 4 "_law_pieces_due" ["_law_rows_here", "_law_pieces", "_law_with_holes", "_law_size"] (spPcDue K))
    (c_law_met : Cal P w K mg base 9 "_law_met" ["_law_bed_here", "_law_family", "_law_door", "_law_first", "_law_second", "_law_path_here", "_law_pieces"] (spMet K)) (c_law_same : Cal P w K mg base 4 "_law_same" ["_law_told", "_law_due_here"] (spSame K 3)) :
    Cal P w K mg base 10 "_law_planted_right" ["_law_rows_here", "_law_bed_here", "_law_word_here", "_law_pieces"] (spPtRight K) := by
  refine cal_of F.1 F.2 sc_ptRight (fun _ _ _ _ _ _ us e => match us, e with | [_, _, _, _], _ => rfl) (fun vs H Q E s => by obtain ⟨_, _, _, _, _, _, _, rfl, _⟩ := s; rfl) ?_
  intro cdv A outer s H vs Q E hr h
  obtain ⟨q, a, b, x, rows, bs, ls, rfl, hRL, hg, hx, hp, hq⟩ := h
  have sc := sc_ptRight
  have hbl := hp.len
  have last : ∃ t, PSs (cxOf (L2.CX P w) P w K mg base N_ptRight "_law_planted_right" (defScope (top 87)) (He.ga K "_law_planted_right") cdv A outer s H E) ((defBody (top 87)).drop 3) t ∧
      ∀ (t4 t6 t7 : Option V) (vd : V) (H1 : Hp), Same H H1 → Im K H1 vd (dX (plDue rows x ls) (DS (x :: ls.flatten))) → (plDue rows x ls = none → (x :: ls.flatten).length ≤ 1000000) →
        t { nx := fun _ H' => Q .non H', rt := Q } [some (.ref q), some (.ref a), some (.str x), some (.ref b), t4, some vd, t6, t7] H1 := by
    refine ⟨_, (pss_one (ps_ret (pe_cal c_law_same hr (pa_cons (pe_cal c_law_met hr (pa_cons (pv 1) (pa_cons pe_int (pa_cons pe_int (pa_cons (pv 2) (pa_cons (pe_tup pa_nil) (pa_cons (pe_tup pa_nil) (pa_cons (pv 3) pa_nil)))))))) (pa_cons (pv 5) pa_nil))))), ?_⟩
    intro t4 t6 t7 vd H1 s1 id hfit
    have fin : ∀ (v : V) (H5 : Hp), Same H1 H5 → Im K H5 v (dX (plDue rows x ls) (DS (x :: ls.flatten))) → (tVar 5) [some (.ref q), some (.ref a), some (.str x), some (.ref b), t4, some vd, t6, t7] H5 (fun y H6 => spSame K 3 [v, y] H6 Q (E0)) := fun v H5 s5 iv =>
      ⟨_, rfl, v, vd, _, _, rfl, iv, id.mono (Stay.of s5), fit_dX (fun _ => plDue_path) hfit, .inl ⟨rfl, hq _ (s1.trans s5)⟩⟩
    refine ⟨_, rfl, _, rfl, by decide, fun T1 hT1 => ⟨by decide, fun T2 hT2 => ?_⟩⟩
    have s3 := (up_same (o := .tup ([] : List V)) hT1).trans (up_same (o := .tup ([] : List V)) hT2)
    have s13 := s1.trans s3
    refine ⟨_, rfl, a, 2, 0, .str x, .ref T1, .ref T2, .ref b, rows, _, _, _, rfl, hg.same s13, Ask.planted hx (hp.same s13).at_ (hp.same s13).pd hp.le, ⟨fun e => ⟨fun H5 v d s5 iv hok => ?_, fun z => z.elim⟩, fun e he H5 v s5 iv => ?_⟩⟩
    · subst hok
      exact fin v H5 (s3.trans s5) (by unfold dX; rw [e]; exact iv)
    · exact fin v H5 (s3.trans s5) (by unfold dX; rw [he]; exact iv)
  obtain ⟨tL, pL, hLast⟩ := last
  have rest : ∃ t, PSs (cxOf (L2.CX P w) P w K mg base N_ptRight "_law_planted_right" (defScope (top 87)) (He.ga K "_law_planted_right") cdv A outer s H E) ((defBody (top 87)).drop 2) t ∧
      ∀ (t4 : Option V) (vd : V) (H1 : Hp), Same H H1 → Im K H1 vd (dD (plDue rows x ls)) →
        t { nx := fun _ H' => Q .non H', rt := Q } [some (.ref q), some (.ref a), some (.str x), some (.ref b), t4, some vd, none, none] H1 := by
    refine ⟨_, (pss_cons (ps_if (pt_cmpR op_isN (pv 5) pe_non (nomark _))
        (pss_cons (ps_set (i := 6) sc.nd rfl (Or.inl rfl) (pe_tup (pa_cons (pv 2) pa_nil)))
        (pss_cons (ps_for (passes_of rfl) rfl (pi_list (pv 3)) (pg_name (i := 7) sc.nd rfl (Or.inl rfl))
          (pss_one (ps_set (i := 6) sc.nd rfl (Or.inl rfl) (pe_op op_catA (pv 6) (pv 7)))))
        (pss_one (ps_set (i := 5) sc.nd rfl (Or.inl rfl) (pe_tup (pa_cons pe_str (pa_cons (pv 6) pa_nil)))))))
        pss_nil)
      pL), ?_⟩
    intro t4 vd H1 s1 id
    have hp1 := hp.same s1
    cases hdue : plDue rows x ls with
    | some e =>
      rw [hdue] at id
      obtain ⟨y, rfl⟩ := im_some id
      refine ⟨_, rfl, rfl, _, rfl, if_dec (fun c => by cases c) (fun _ => ?_)⟩
      exact hLast _ _ _ _ H1 s1 (by unfold dX; rw [hdue]; exact id) (fun z => by rw [hdue] at z; cases z)
    | none =>
      rw [hdue] at id
      have := im_none id
      subst this
      have hlen : ∀ l ∈ ls, l.length ≤ 100000 := hp.ll
      have hfl : ls.flatten.length ≤ 400000 := by
        have := flat_le hlen
        have := Nat.mul_le_mul_left 100000 hp.le
        omega
      refine ⟨_, rfl, rfl, _, rfl, if_dec (fun _ => ?_) (fun c => absurd rfl c)⟩
      refine ⟨_, rfl, by show 1 ≤ sizeLine; decide, fun p0 hp0 => ?_⟩
      have s2 : Same H1 (upd H1 p0 (.tup [.str x])) := up_same hp0
      have ht0 : SqT K (upd H1 p0 (.tup [.str x])) p0 ((x :: (ls.take 0).flatten).map V.str) := SqT.of upd_same
      generalize upd H1 p0 (.tup [.str x]) = H2 at *
      refine ⟨_, rfl, b, rfl, ⟨_, SqL.of (hp1.same s2).at_⟩, for_list (K := K) (xs := bs.map V.ref) (fun i σ H' => ∃ (p : Addr) (t7 : Option V), σ = [some (.ref q), some (.ref a), some (.str x), some (.ref b), t4, some .non, some (.ref p), t7] ∧ Same H2 H' ∧ SqT K H' p ((x :: (ls.take i).flatten).map V.str)) ⟨p0, none, rfl, Same.refl _, ht0⟩ (fun _ _ _ _ ⟨_, _, _, s, _⟩ => SqL.of (s _ _ (hp1.same s2).at_)) ?_ ?_⟩
      · rintro i v σ H3 hv ⟨p, t7, rfl, s3, tp⟩
        obtain ⟨p1, ep, rfl⟩ := map_at hv
        have hi : i < ls.length := by rw [← hbl]; exact (List.getElem?_eq_some_iff.mp ep).1
        obtain ⟨l, el⟩ : ∃ l, ls[i]? = some l := ⟨_, List.getElem?_eq_getElem hi⟩
        obtain ⟨p2, ep2, tq⟩ := paired_at (hp1.same s2).pd el
        rw [ep] at ep2
        cases ep2
        have hti := flat_le (m := 100000) (ls := ls.take i) fun z hz => hlen z (List.mem_of_mem_take hz)
        have hti2 : (ls.take i).length ≤ 4 := by rw [List.length_take]; have := hp.le; omega
        have hl := hlen l (List.mem_of_getElem? el)
        refine ⟨_, rfl, _, rfl, cat_any tp (tq.mono s3).sq (by rw [List.length_map, List.length_map, List.length_cons]; have := Nat.mul_le_mul_left 100000 hti2; omega) fun p3 H4 s4 t4 => ⟨p3, _, rfl, s3.trans s4, ?_⟩⟩
        rw [List.take_succ, el]
        simp only [Option.toList, List.flatten_append, List.flatten_cons, List.flatten_nil, List.append_nil]
        rw [← List.cons_append, List.map_append]
        exact t4
      · rintro σ H3 ⟨p, t7, rfl, s3, tp⟩
        rw [List.length_map, hbl, List.take_length] at tp
        refine ⟨_, rfl, by show 2 ≤ sizeLine; decide, fun t ht => ?_⟩
        refine hLast _ _ _ _ _ (((s1.trans s2).trans s3).trans (up_same ht)) ?_ (fun _ => by rw [List.length_cons]; omega)
        unfold dX
        rw [hdue]
        exact .tup (SqT.of upd_same) (.cons (.str _) (.cons (Im.strs (Same.sqt (up_same ht) tp)) .nil))
  obtain ⟨tR, pR, hRest⟩ := rest
  refine ⟨_, (pss_cons (ps_set (i := 4) sc.nd rfl (Or.inl rfl) (pe_cal c_law_number hr (pa_cons (pv 0) (pa_cons (pv 2) pa_nil))))
      (pss_cons (ps_if (pt_cmpR op_lt (pv 4) pe_int (nomark _))
        (pss_one (ps_set (i := 5) sc.nd rfl (Or.inl rfl) (pe_tup (pa_cons pe_str (pa_cons (pv 2) pa_nil)))))
        (pss_one (ps_if (pt_cmpR op_ne (pv 4) (pe_callB call_len_seq (by rfl) T.len (by decide +kernel) (pa_cons (pv 3) pa_nil)) (nomark _))
          (pss_one (ps_set (i := 5) sc.nd rfl (Or.inl rfl) (pe_tup (pa_cons pe_str (pa_cons (pv 4) (pa_cons (pe_callB call_len_seq (by rfl) T.len (by decide +kernel) (pa_cons (pv 3) pa_nil)) pa_nil))))))
          (pss_one (ps_set (i := 5) sc.nd rfl (Or.inl rfl) (pe_cal c_law_pieces_due hr (pa_cons (pv 0) (pa_cons (pv 3) (pa_cons pe_bl (pa_cons pe_int pa_nil))))))))))
      pR)), ?_⟩
  refine ⟨_, rfl, _, rfl, q, rows, x, rfl, hRL, ?_⟩
  cases hk : isK rows x with
  | false =>
    have hd : plDue rows x ls = some (.kind x) := by
      unfold plDue
      rw [if_pos hk]
    rw [(numb_no hk).1]
    refine ⟨_, rfl, _, _, rfl, rfl, _, rfl, if_dec (fun _ => ?_) (fun c => by omega)⟩
    refine ⟨_, rfl, by show 2 ≤ sizeLine; decide, fun t ht => hRest _ _ _ (up_same ht) ?_⟩
    rw [hd]
    exact .tup (SqT.of upd_same) (.cons (.str _) (.cons (.str _) .nil))
  | true =>
    rw [numb_ar hk]
    refine ⟨_, rfl, _, _, rfl, rfl, _, rfl, if_dec (fun c => by omega) (fun _ => ?_)⟩
    refine ⟨_, rfl, _, rfl, b, _, rfl, .inl (SqL.of hp.at_), rfl, _, rfl, if_ndec (fun c => ?_) (fun c => ?_)⟩
    · rw [List.length_map, hbl] at c
      have hne : ls.length ≠ ar rows x := fun z => c (by rw [z])
      have hd : plDue rows x ls = some (.wrong (ar rows x) ls.length) := by
        unfold plDue
        rw [if_neg (by rw [hk]; decide), if_pos hne]
      refine ⟨_, rfl, _, rfl, b, _, rfl, .inl (SqL.of hp.at_), by show 3 ≤ sizeLine; decide, fun t ht => hRest _ _ _ (up_same ht) ?_⟩
      rw [hd, List.length_map, hbl]
      exact .tup (SqT.of upd_same) (.cons (.str _) (.cons (.int _) (.cons (.int _) .nil)))
    · rw [List.length_map, hbl] at c
      have he : ¬ ls.length ≠ ar rows x := fun z => z (by have := V.int.inj c; omega)
      have hd : plDue rows x ls = pcE rows false 1 ls := by
        unfold plDue pcE
        rw [if_neg (by rw [hk]; decide), if_neg he]
        show (match fstE (ckP rows) ls with
          | some e => some e
          | none => if 2000 < (x :: ls.flatten).length then some Er.many else none) = (match fstE (ckP rows) ls with
          | some e => some e
          | none => if (2000 : Int) < 1 + (ls.flatten.length : Nat) then some Er.many else none)
        cases fstE (ckP rows) ls with
        | some e => rfl
        | none =>
          show (if 2000 < (x :: ls.flatten).length then some Er.many else none) = if (2000 : Int) < 1 + (ls.flatten.length : Nat) then some Er.many else none
          rw [List.length_cons]
          by_cases c : 2000 < ls.flatten.length + 1
          · rw [if_pos c, if_pos (by omega)]
          · rw [if_neg c, if_neg (by omega)]
      refine ⟨_, rfl, _, rfl, q, b, false, 1, rows, bs, ls, rfl, hRL, hg.hole, hp, fun H1 v s1 i1 => hRest _ _ H1 s1 ?_⟩
      rw [hd]
      exact i1
end
end Sy
namespace Sy
open PySem PySem.Spec PyProof.Rows L2
theorem fillW_le : ∀ (l : List Str) (ls : List (List Str)), (fillW l ls).length ≤ l.length + ls.flatten.length
  | [], ls => Nat.zero_le _
  | x :: l, ls => by
    rw [fillW]
    by_cases c : x = "*"
    · rw [if_pos c, List.length_append]
      cases ls with
      | nil =>
        have := fillW_le l []
        simp at this ⊢
        omega
      | cons p t =>
        have := fillW_le l t
        simp only [List.headD_cons, List.tail_cons, List.flatten_cons, List.length_append, List.length_cons]
        omega
    · rw [if_neg c, List.length_cons]
      have := fillW_le l ls
      rw [List.length_cons]
      omega
section
variable {P : Program} {w : World} {K : PySem.W.Frag} {mg : Str → Option Value} {base : Heap}
def spFlRight (K : PySem.W.Frag) : Sp := fun vs H Q _ => ∃ (q a r b : Addr) (rows : List Sy.Row) (l : List Str) (bs : List Addr) (ls : List (List Str)), vs = [.ref q, .ref a, .ref r, .ref b] ∧ RL K H q rows ∧ Gd K H a rows ∧ Rw K H r l ∧ l.length ≤ 100000 ∧ Pcs K H b bs ls ∧ ∀ H', Same H H' → Q (.bl true) H'
abbrev N_flRight : List Str := ["_law_rows_here", "_law_bed_here", "_law_first", "_law_pieces", "_law_number_here", "_law_due_here", "_law_whole", "_law_at", "_law_word_here"]
theorem sc_flRight : FnScope N_flRight ["_law_rows_here", "_law_bed_here", "_law_first", "_law_pieces"] (defScope (top 88)) := ⟨rfl, rfl, rfl, by decide +kernel, rfl, by decide +kernel, by decide +kernel⟩
theorem k_flRight (T : Txt K mg) (F : DF K mg "_law_filled_right" 88) (c_law_due : Cal P w K mg base 3 "_law_due" ["_law_rows_here", "_law_row", "_law_with_holes"] (spDueL K)) (c_law_pieces_due : Cal P w K mg base 4 "_law_pieces_due" ["_law_rows_here", "_law_pieces", "_law_with_holes", "_law_size"] (spPcDue K))
    (c_law_met : Cal P w K mg base 9 "_law_met" ["_law_bed_here", "_law_family", "_law_door", "_law_first", "_law_second", "_law_path_here", "_law_pieces"] (spMet K)) (c_law_same : Cal P w K mg base 4 "_law_same" ["_law_told", "_law_due_here"] (spSame K 3)) :
    Cal P w K mg base 10 "_law_filled_right" ["_law_rows_here", "_law_bed_here", "_law_first", "_law_pieces"] (spFlRight K) := by
  refine cal_of F.1 F.2 sc_flRight (fun _ _ _ _ _ _ us e => match us, e with | [_, _, _, _], _ => rfl) (fun vs H Q E s => by obtain ⟨_, _, _, _, _, _, _, _, rfl, _⟩ := s; rfl) ?_
  intro cdv A outer s H vs Q E hr h
  obtain ⟨q, a, r, b, rows, l, bs, ls, rfl, hRL, hg, hR, hll, hp, hq⟩ := h
  have sc := sc_flRight
  have hbl := hp.len
  have hfl : ls.flatten.length ≤ 400000 := by
    have := flat_le hp.ll
    have := Nat.mul_le_mul_left 100000 hp.le
    omega
  have hfw := fillW_le l ls
  have last : ∃ t, PSs (cxOf (L2.CX P w) P w K mg base N_flRight "_law_filled_right" (defScope (top 88)) (He.ga K "_law_filled_right") cdv A outer s H E) ((defBody (top 88)).drop 4) t ∧
      ∀ (t4 t6 t7 t8 : Option V) (vd : V) (H1 : Hp), Same H H1 → Im K H1 vd (dX (fillDue rows l ls) (DS (fillW l ls))) →
        t { nx := fun _ H' => Q .non H', rt := Q } [some (.ref q), some (.ref a), some (.ref r), some (.ref b), t4, some vd, t6, t7, t8] H1 := by
    refine ⟨_, (pss_one (ps_ret (pe_cal c_law_same hr (pa_cons (pe_cal c_law_met hr (pa_cons (pv 1) (pa_cons pe_int (pa_cons pe_int (pa_cons (pv 2) (pa_cons (pe_tup pa_nil) (pa_cons (pe_tup pa_nil) (pa_cons (pv 3) pa_nil)))))))) (pa_cons (pv 5) pa_nil))))), ?_⟩
    intro t4 t6 t7 t8 vd H1 s1 id
    have fin : ∀ (v : V) (H5 : Hp), Same H1 H5 → Im K H5 v (dX (fillDue rows l ls) (DS (fillW l ls))) → (tVar 5) [some (.ref q), some (.ref a), some (.ref r), some (.ref b), t4, some vd, t6, t7, t8] H5 (fun y H6 => spSame K 3 [v, y] H6 Q (E0)) := fun v H5 s5 iv =>
      ⟨_, rfl, v, vd, _, _, rfl, iv, id.mono (Stay.of s5), fit_dX (fun _ => fillDue_path) (fun _ => by omega), .inl ⟨rfl, hq _ (s1.trans s5)⟩⟩
    refine ⟨_, rfl, _, rfl, by decide, fun T1 hT1 => ⟨by decide, fun T2 hT2 => ?_⟩⟩
    have s3 := (up_same (o := .tup ([] : List V)) hT1).trans (up_same (o := .tup ([] : List V)) hT2)
    have s13 := s1.trans s3
    refine ⟨_, rfl, a, 3, 0, .ref r, .ref T1, .ref T2, .ref b, rows, _, _, _, rfl, hg.same s13, Ask.filled (hR.mono s13) (hp.same s13).at_ (hp.same s13).pd hp.le, ⟨fun e => ⟨fun H5 v d s5 iv hok => ?_, fun z => z.elim⟩, fun e he H5 v s5 iv => ?_⟩⟩
    · subst hok
      exact fin v H5 (s3.trans s5) (by unfold dX; rw [e]; exact iv)
    · exact fin v H5 (s3.trans s5) (by unfold dX; rw [he]; exact iv)
  obtain ⟨tL, pL, hLast⟩ := last
  have rest : ∃ t, PSs (cxOf (L2.CX P w) P w K mg base N_flRight "_law_filled_right" (defScope (top 88)) (He.ga K "_law_filled_right") cdv A outer s H E) ((defBody (top 88)).drop 3) t ∧
      ∀ (t4 : Option V) (vd : V) (H1 : Hp), Same H H1 → Im K H1 vd (dD (fillDue rows l ls)) →
        t { nx := fun _ H' => Q .non H', rt := Q } [some (.ref q), some (.ref a), some (.ref r), some (.ref b), t4, some vd, none, none, none] H1 := by
    refine ⟨_, (pss_cons (ps_if (pt_cmpR op_isN (pv 5) pe_non (nomark _))
        (pss_cons (ps_set (i := 6) sc.nd rfl (Or.inl rfl) (pe_lst pa_nil))
        (pss_cons (ps_set (i := 7) sc.nd rfl (Or.inl rfl) pe_int)
        (pss_cons (ps_for (passes_of rfl) rfl (pi_tup (pv 2)) (pg_name (i := 8) sc.nd rfl (Or.inl rfl))
          (pss_one (ps_if (pt_cmpR op_eq (pv 8) pe_str (nomark _))
            (pss_cons (ps_expr (pe_bm PySem.F.plainAttrs_list PySem.F.slot_list_extend PySem.F.type_list_extend mt_extend (pv 6) (pa_cons (pe_callTy call_list_of (by rfl) T.list (by decide +kernel) (pa_cons (pe_ix ix_list (pv 3) (pv 7) (fun _ _ => rfl)) pa_nil)) pa_nil)))
            (pss_one (ps_set (i := 7) sc.nd rfl (Or.inl rfl) (pe_op op_add (pv 7) pe_int))))
            (pss_one (ps_expr (pe_bm PySem.F.plainAttrs_list PySem.F.slot_list_append PySem.F.type_list_append mt_append (pv 6) (pa_cons (pv 8) pa_nil)))))))
        (pss_one (ps_set (i := 5) sc.nd rfl (Or.inl rfl) (pe_tup (pa_cons pe_str (pa_cons (pe_callTy call_tupZ (by rfl) T.tuple (by decide +kernel) (pa_cons (pv 6) pa_nil)) pa_nil))))))))
        pss_nil)
      pL), ?_⟩
    intro t4 vd H1 s1 id
    have hp1 := hp.same s1
    have hR1 := hR.mono s1
    cases hdue : fillDue rows l ls with
    | some e =>
      rw [hdue] at id
      obtain ⟨y, rfl⟩ := im_some id
      refine ⟨_, rfl, rfl, _, rfl, if_dec (fun c => by cases c) (fun _ => ?_)⟩
      exact hLast _ _ _ _ _ H1 s1 (by unfold dX; rw [hdue]; exact id)
    | none =>
      rw [hdue] at id
      have := im_none id
      subst this
      have hcnt : ls.length = l.count ("*" : Str) := by
        unfold fillDue at hdue
        split at hdue
        · cases hdue
        · split at hdue
          · cases hdue
          · rename_i c
            exact Classical.not_not.mp c
      refine ⟨_, rfl, rfl, _, rfl, if_dec (fun _ => ?_) (fun c => absurd rfl c)⟩
      refine ⟨by decide, fun D hD => ?_⟩
      have h2 := (Hs.start H1).new (o := .lst []) hD
      refine ⟨_, rfl, r, rfl, ⟨_, (hR1.mono h2.sub).sq⟩, for_tup (K := K) (a := r) (xs := l.map V.str) (fun i σ H' => ∃ (k : Nat) (z : Int) (t8 : Option V) (B : Hp) (acc : List Str), σ = [some (.ref q), some (.ref a), some (.ref r), some (.ref b), t4, some .non, some (.ref D), some (.int z), t8] ∧ z = (k : Nat) ∧ Same H1 B ∧ Hs B [(D, .lst (acc.map V.str))] H' ∧ acc ++ fillW (l.drop i) (ls.drop k) = fillW l ls ∧ k + (l.drop i).count ("*" : Str) = ls.length)
        ⟨0, 0, none, H1, [], rfl, rfl, Same.refl _, h2, by rw [List.drop_zero, List.drop_zero, List.nil_append], by rw [List.drop_zero, hcnt, Nat.zero_add]⟩ (fun _ _ _ _ ⟨_, _, _, _, _, _, _, s, z, _⟩ => (hR1.mono (s.trans z.sub)).sq) ?_ ?_⟩
      · rintro i v σ H3 hv ⟨k, _, t8, B, acc, rfl, rfl, sB, hh, hacc, hk⟩
        obtain ⟨x, ex, rfl⟩ := map_at hv
        rw [drop_of ex] at hacc hk
        rw [fillW] at hacc
        rw [List.count_cons] at hk
        have hlen := congrArg List.length hacc
        rw [List.length_append] at hlen
        refine ⟨_, rfl, rfl, _, rfl, if_dec (fun c => ?_) (fun c => ?_)⟩
        · have hx : x = "*" := V.str.inj c
          rw [if_pos hx] at hacc hlen
          rw [hx] at hk
          simp only [beq_self_eq_true, if_true] at hk
          obtain ⟨p, ep⟩ : ∃ p, ls[k]? = some p := ⟨_, List.getElem?_eq_getElem (by omega)⟩
          rw [drop_of ep] at hacc hlen
          simp only [List.headD_cons, List.tail_cons, List.length_append] at hacc hlen
          have hpB := hp1.same (sB.trans hh.sub)
          obtain ⟨bp, ebp, tp⟩ := paired_at hpB.pd ep
          refine ⟨_, rfl, .inl ⟨rfl, _, SqL.of hh.r0⟩, _, rfl, _, rfl, b, _, _, _, rfl, rfl, SqL.of hpB.at_, atI_nat (by rw [List.getElem?_map, ebp]; rfl), bp, _, rfl, .inr tp.sq, fun m hm => ?_⟩
          have h4 := hh.lay (o := .lst (p.map V.str)) hm
          refine ⟨D, m, _, _, rfl, rfl, h4.r0, upd_same, by rw [List.length_map, List.length_map, sizeLine_eq]; omega, ?_⟩
          refine ⟨_, rfl, _, _, rfl, rfl, k + 1, _, _, B, acc ++ p, rfl, by omega, sB, by rw [List.map_append]; exact h4.w0, by rw [List.append_assoc]; exact hacc, by omega⟩
        · have hx : x ≠ "*" := fun z => c (by rw [z])
          rw [if_neg hx] at hacc hlen
          have hb : (x == ("*" : Str)) = false := beq_eq_false_iff_ne.mpr hx
          rw [hb] at hk
          simp only [Bool.false_eq_true, if_false] at hk
          rw [List.length_cons] at hlen
          refine ⟨_, rfl, .inl ⟨rfl, _, SqL.of hh.r0⟩, _, rfl, D, _, _, rfl, rfl, hh.r0, by rw [List.length_map, sizeLine_eq]; omega, ?_⟩
          exact ⟨k, _, _, B, acc ++ [x], rfl, rfl, sB, by rw [List.map_append]; exact hh.w0, by rw [List.append_assoc]; exact hacc, hk⟩
      · rintro σ H3 ⟨k, _, t8, B, acc, rfl, rfl, sB, hh, hacc, hk⟩
        rw [List.length_map, List.drop_length, fillW, List.append_nil] at hacc
        refine ⟨_, rfl, D, _, rfl, SqL.of hh.r0, fun p H4 n4 => ⟨by show 2 ≤ sizeLine; decide, fun t ht => ?_⟩⟩
        have sA := ((s1.trans sB).trans hh.sub).trans (n4.same.trans (up_same (o := .tup [V.str "told", .ref p]) ht))
        refine hLast _ _ _ _ _ _ sA ?_
        unfold dX
        rw [hdue, ← hacc]
        exact .tup (SqT.of upd_same) (.cons (.str _) (.cons (Im.strs (Same.sqt (up_same ht) n4.sqt)) .nil))
  obtain ⟨tR, pR, hRest⟩ := rest
  refine ⟨_, (pss_cons (ps_set (i := 4) sc.nd rfl (Or.inl rfl) (pe_bmT PySem.F.slot_tuple_count PySem.F.type_tuple_count mt_tcount (pv 2) (pa_cons pe_str pa_nil)))
      (pss_cons (ps_set (i := 5) sc.nd rfl (Or.inl rfl) (pe_cal c_law_due hr (pa_cons (pv 0) (pa_cons (pv 2) (pa_cons pe_bl pa_nil)))))
      (pss_cons (ps_if (PW.pt (pw_and (pt_cmpR op_isN (pv 5) pe_non (nomark _)) (pw_and1 (pt_cmpR op_ne (pv 4) (pe_callB call_len_seq (by rfl) T.len (by decide +kernel) (pa_cons (pv 3) pa_nil)) (nomark _)))))
        (pss_one (ps_set (i := 5) sc.nd rfl (Or.inl rfl) (pe_tup (pa_cons pe_str (pa_cons (pv 4) (pa_cons (pe_callB call_len_seq (by rfl) T.len (by decide +kernel) (pa_cons (pv 3) pa_nil)) pa_nil))))))
        (pss_one (ps_if (pt_cmpR op_isN (pv 5) pe_non (nomark _))
          (pss_one (ps_set (i := 5) sc.nd rfl (Or.inl rfl) (pe_cal c_law_pieces_due hr (pa_cons (pv 0) (pa_cons (pv 3) (pa_cons pe_bl (pa_cons (pe_op op_sub (pe_callB call_len_seq (by rfl) T.len (by decide +kernel) (pa_cons (pv 2) pa_nil)) (pv 4)) pa_nil)))))))
          pss_nil)))
      pR))), ?_⟩
  refine ⟨_, rfl, ⟨r, _, rfl, hR.sq, hR.nd⟩, r, _, _, rfl, rfl, hR.sq, rfl, all_strs l, ?_⟩
  rw [countP_strs]
  refine ⟨_, rfl, _, rfl, q, r, true, rows, l, rfl, hRL, hR.sq, hg.hole, hll, fun H1 v1 s1 i1 => ?_⟩
  rw [ckW_t] at i1
  have hp1 := hp.same s1
  cases e1 : ckS rows l with
  | some e =>
    rw [e1] at i1
    obtain ⟨y, rfl⟩ := im_some i1
    have hd : fillDue rows l ls = some e := by
      unfold fillDue
      rw [e1]
    refine ⟨_, rfl, rfl, _, rfl, if_dec (fun c => by cases c) (fun _ => ?_)⟩
    refine ⟨_, rfl, rfl, _, rfl, if_dec (fun c => by cases c) (fun _ => ?_)⟩
    exact hRest _ _ H1 s1 (by rw [hd]; exact i1)
  | none =>
    rw [e1] at i1
    have := im_none i1
    subst this
    refine ⟨_, rfl, rfl, _, rfl, if_dec (fun _ => ?_) (fun c => absurd rfl c)⟩
    refine ⟨_, rfl, _, rfl, b, _, rfl, .inl (SqL.of hp1.at_), rfl, _, rfl, if_ndec (fun c => ?_) (fun c => ?_)⟩
    · rw [List.length_map, hbl] at c
      have hne : ls.length ≠ l.count ("*" : Str) := fun z => c (by rw [z])
      have hd : fillDue rows l ls = some (.wrong (l.count ("*" : Str)) ls.length) := by
        unfold fillDue
        rw [e1]
        exact if_pos hne
      refine ⟨_, rfl, _, rfl, b, _, rfl, .inl (SqL.of hp1.at_), by show 3 ≤ sizeLine; decide, fun t ht => hRest _ _ _ (s1.trans (up_same ht)) ?_⟩
      rw [hd, List.length_map, hbl]
      exact .tup (SqT.of upd_same) (.cons (.str _) (.cons (.int _) (.cons (.int _) .nil)))
    · rw [List.length_map, hbl] at c
      have he : ls.length = l.count ("*" : Str) := by have := V.int.inj c; omega
      have hle := List.count_le_length (a := ("*" : Str)) (l := l)
      refine ⟨_, rfl, rfl, _, rfl, if_dec (fun _ => ?_) (fun c => absurd rfl c)⟩
      refine ⟨_, rfl, _, rfl, _, rfl, r, _, rfl, .inr (hR.mono s1).sq, _, rfl, _, _, rfl, rfl, q, b, true, _, rows, bs, ls, rfl, hRL.mono s1, hg.hole, hp1, fun H2 v2 s2 i2 => hRest _ _ H2 (s1.trans s2) ?_⟩
      rw [List.length_map] at i2
      have hd : fillDue rows l ls = pcE rows true ((l.length : Int) - (l.count ("*" : Str) : Nat)) ls := by
        unfold fillDue pcE
        rw [e1]
        show (if ls.length ≠ l.count ("*" : Str) then some (Er.wrong (l.count ("*" : Str)) ls.length) else match fstE (ckS rows) ls with
          | some e => some e
          | none => if 2000 < l.length - ls.length + ls.flatten.length then some Er.many else none) = (match fstE (ckS rows) ls with
          | some e => some e
          | none => if (2000 : Int) < (l.length : Int) - (l.count ("*" : Str) : Nat) + (ls.flatten.length : Nat) then some Er.many else none)
        rw [if_neg (fun z => z he)]
        cases fstE (ckS rows) ls with
        | some e => rfl
        | none =>
          show (if 2000 < l.length - ls.length + ls.flatten.length then some Er.many else none) = if (2000 : Int) < (l.length : Int) - (l.count ("*" : Str) : Nat) + (ls.flatten.length : Nat) then some Er.many else none
          by_cases c : 2000 < l.length - ls.length + ls.flatten.length
          · rw [if_pos c, if_pos (by omega)]
          · rw [if_neg c, if_neg (by omega)]
      rw [hd]
      exact i2
end
end Sy
namespace Sy
open PySem PySem.Spec PyProof.Rows L2
theorem isK_mem {rows : List Sy.Row} {x : Str} (h : isK rows x = true) : ∃ r ∈ rows, r.1 = x := by
  by_cases c : ∃ r ∈ rows, r.1 = x
  · exact c
  · have : rows.lookup x = none := lookup_none fun r hr z => c ⟨r, hr, z⟩
    unfold isK at h
    rw [this] at h
    cases h
theorem hole_no {rows : List Sy.Row} (h : ∀ r ∈ rows, Wd r.1) : isK rows "*" = false := by
  cases e : isK rows "*" with
  | false => rfl
  | true =>
    obtain ⟨r, hr, hx⟩ := isK_mem e
    have w := h r hr
    rw [hx] at w
    have := (w.2.2 42 (by decide +kernel)).1
    omega
section
variable {P : Program} {w : World} {K : PySem.W.Frag} {mg : Str → Option Value} {base : Heap}
/-- what the law has drawn -/
structure Dn (K : PySem.W.Frag) (H : Hp) (g q a r o u p : Addr) (rows : List Sy.Row) (l m n : List Str) (zs : List Int) : Prop where
  lw : Lw K H g q rows
  gd : Gd K H a rows
  r : Rw K H r l
  o : Rw K H o m
  u : Rw K H u n
  p : SqT K H p (zs.map V.int)
  ll : l.length ≤ 100000
  lm : m.length ≤ 100000
  ln : n.length ≤ 100000
  lz : zs.length ≤ 8
  bz : ∀ z ∈ zs, z.natAbs ≤ 5
theorem Dn.dr {H H' : Hp} {g q a r o u p : Addr} {rows : List Sy.Row} {l m n : List Str} {zs : List Int} (h : Dn K H g q a r o u p rows l m n zs) (d : Dr g H H') : Dn K H' g q a r o u p rows l m n zs := by
  have s := d.stay h.lw.bag
  exact ⟨h.lw.dr d, ⟨h.gd.bed.mono s, h.gd.hole, h.gd.le, h.gd.br⟩, h.r.dr s, h.o.dr s, h.u.dr s, s.sqt h.p, h.ll, h.lm, h.ln, h.lz, h.bz⟩
theorem Dn.same {H H' : Hp} {g q a r o u p : Addr} {rows : List Sy.Row} {l m n : List Str} {zs : List Int} (h : Dn K H g q a r o u p rows l m n zs) (s : Same H H') : Dn K H' g q a r o u p rows l m n zs :=
  h.dr ((Dr.refl h.lw.bag).same s)
theorem Pcs.dr {H H' : Hp} {g b : Addr} {bs : List Addr} {ls : List (List Str)} (h : Pcs K H b bs ls) (bg : Bag g H) (ne : b ≠ g) (d : Dr g H H') : Pcs K H' b bs ls := by
  have s := d.stay bg
  obtain ⟨_, _, c⟩ := d
  exact ⟨c.2 _ _ ne h.at_, Paired.mapP h.pd fun _ _ z => z.dr s, h.le, h.ll⟩
theorem three_at {u r o : Addr} {l m n : List Str} {H : Hp} (hu : Rw K H u n) (hr : Rw K H r l) (ho : Rw K H o m) (h1 : n.length ≤ 100000) (h2 : l.length ≤ 100000) (h3 : m.length ≤ 100000) (j : Nat) (hj : j < 3) : ∃ x y, ([.ref u, .ref r, .ref o] : List V)[j]? = some (.ref x) ∧ Rw K H x y ∧ y.length ≤ 100000 := by
  match j, hj with
  | 0, _ => exact ⟨_, _, rfl, hu, h1⟩
  | 1, _ => exact ⟨_, _, rfl, hr, h2⟩
  | 2, _ => exact ⟨_, _, rfl, ho, h3⟩
def spLaw (K : PySem.W.Frag) : Sp := fun vs H Q _ => ∃ (s : Addr) (zs : List Int), vs = [.ref s] ∧ SqL K H s (zs.map V.int) ∧ zs.length ≤ 100000 ∧ ∀ H', Q (.bl true) H'
abbrev N_law : List Str := ["_law_script", "_law_bag_here", "_law_rows_here", "_law_bed_here", "_law_first", "_law_second", "_law_spare", "_law_path_here", "_law_word_here", "_law_given", "_law_branches", "_law_pieces", "_law_k"]
theorem sc_law : FnScope N_law ["_law_script"] (defScope (top 89)) := ⟨rfl, rfl, rfl, by decide +kernel, rfl, by decide +kernel, by decide +kernel⟩
theorem k_law (T : Txt K mg) {fd : FuncData} (F : FunD K "law" "law" (defArgs (top 89)) (defBody (top 89)) (defScope (top 89)) [] [] (He.ga K "law") fd) (c_law_bag : Cal P w K mg base 1 "_law_bag" ["_law_script"] (spBag K)) (c_law_rows : Cal P w K mg base 4 "_law_rows" ["_law_bag_here", "_law_most"] (spRows K)) (c_law_bed : Cal P w K mg base 5 "_law_bed" ["_law_rows_here"] (spBed K))
    (c_law_bent : Cal P w K mg base 4 "_law_bent" ["_law_bag_here", "_law_rows_here"] (spLong K)) (c_law_plant : Cal P w K mg base 2 "_law_plant" ["_law_bag_here", "_law_rows_here", "_law_most", "_law_with_holes"] (spPlantL K)) (c_law_draw : Cal P w K mg base 1 "_law_draw" ["_law_bag_here", "_law_size"] spDraw)
    (c_law_path : Cal P w K mg base 4 "_law_path" ["_law_bag_here", "_law_rows_here", "_law_row"] (spPathL K)) (c_law_entry : Cal P w K mg base 2 "_law_entry" ["_law_bag_here", "_law_rows_here"] (spEntry K)) (c_law_number : Cal P w K mg base 1 "_law_number" ["_law_rows_here", "_law_word_here"] (spNum K))
    (c_law_plants_right : Cal P w K mg base 10 "_law_plants_right" ["_law_rows_here", "_law_bed_here", "_law_first", "_law_second", "_law_path_here"] (spPlRight K)) (c_law_stumps_right : Cal P w K mg base 10 "_law_stumps_right" ["_law_rows_here", "_law_bed_here", "_law_first", "_law_second"] (spStRight K))
    (c_law_planted_right : Cal P w K mg base 10 "_law_planted_right" ["_law_rows_here", "_law_bed_here", "_law_word_here", "_law_pieces"] (spPtRight K)) (c_law_filled_right : Cal P w K mg base 10 "_law_filled_right" ["_law_rows_here", "_law_bed_here", "_law_first", "_law_pieces"] (spFlRight K)) :
    FnOk P w K mg base (L2.CX P w) (10 + 1) (He.ga K "law") fd ["_law_script"] (spLaw K) := by
  refine F.ok sc_law (fun vs H Q E s => by obtain ⟨_, _, rfl, _⟩ := s; rfl) ?_
  intro cdv A outer s H vs Q E hr h
  obtain ⟨sa, zs0, rfl, hs, hzl, hq⟩ := h
  have sc := sc_law
  have restB : ∃ t, PSs (cxOf (L2.CX P w) P w K mg base N_law "law" (defScope (top 89)) (He.ga K "law") cdv A outer s H E) ((defBody (top 89)).drop 13) t ∧
      ∀ (H1 : Hp) (g q a r o u p b : Addr) (x : Str) (rows : List Sy.Row) (l m n : List Str) (zs : List Int) (bs : List Addr) (ls : List (List Str)) (given : Nat), Dn K H1 g q a r o u p rows l m n zs → Wx x → b ≠ g → Pcs K H1 b bs ls → given ≤ 4 →
        t { nx := fun _ H' => Q .non H', rt := Q } [some (.ref sa), some (.ref g), some (.ref q), some (.ref a), some (.ref r), some (.ref o), some (.ref u), some (.ref p), some (.str x), some (.int (given : Nat)), some (.ref b), none, none] H1 := by
    refine ⟨_, (pss_cons (ps_setLc (i := 11) (own := [("_law_k", 12)]) (g := gName 12) rfl sc.nd rfl rfl (sw_true rfl rfl rfl (by decide +kernel)) (pi_range1 rfl T.range (pa_cons (pv 9) pa_nil)) (blkOk_by (N := N_law) (sc := defScope (top 89)) (by decide +kernel)) (fun _ _ _ _ _ => (pg_name (i := 12) sc.nd rfl (Or.inl rfl))) (fun _ _ _ _ _ => pts_nil) (fun _ _ _ _ _ => (pe_ixK K rfl (pe_lst (pa_cons (pv 6) (pa_cons (pv 5) (pa_cons (pv 4) pa_nil)))) (pe_cal c_law_draw hr (pa_cons (pv 1) (pa_cons pe_int pa_nil))) (fun _ _ => rfl))))
      (pss_cons (ps_if (pt_not (pt_val (pe_cal c_law_plants_right hr (pa_cons (pv 2) (pa_cons (pv 3) (pa_cons (pv 4) (pa_cons (pv 5) (pa_cons (pv 7) pa_nil))))))))
        (pss_one (ps_ret pe_bl))
        pss_nil)
      (pss_cons (ps_if (pt_not (pt_val (pe_cal c_law_stumps_right hr (pa_cons (pv 2) (pa_cons (pv 3) (pa_cons (pv 4) (pa_cons (pv 5) pa_nil)))))))
        (pss_one (ps_ret pe_bl))
        pss_nil)
      (pss_cons (ps_if (PW.pt (pw_or (pt_not (pt_val (pe_cal c_law_planted_right hr (pa_cons (pv 2) (pa_cons (pv 3) (pa_cons (pv 8) (pa_cons (pv 10) pa_nil))))))) (pw_or1 (pt_not (pt_val (pe_cal c_law_filled_right hr (pa_cons (pv 2) (pa_cons (pv 3) (pa_cons (pv 4) (pa_cons (pv 11) pa_nil))))))))))
        (pss_one (ps_ret pe_bl))
        pss_nil)
      (pss_one (ps_ret (pe_cmpR op_eq (pe_gint rfl T.MOST_KNOTS) pe_int (nomark _)))))))), ?_⟩
    intro H1 g q a r o u p b x rows l m n zs bs ls given dn hx hbg hp hgv
    refine ⟨_, rfl, _, rfl, by omega, by omega, fun D hD => lc_it (n := ((given : Nat) : Int).toNat) walk_range (fun i H' => ∃ (ds : List Addr) (es : List (List Str)), es.length = i ∧ Dr g H1 H' ∧ D ≠ g ∧ H' D = some (.lst (ds.map V.ref)) ∧ Paired (fun q (l : List Str) => Rw K H' q l) ds es ∧ ∀ l ∈ es, l.length ≤ 100000)
      ⟨[], [], rfl, (Dr.refl dn.lw.bag).updf hD (dn.lw.bag.neq hD), dn.lw.bag.neq hD, upd_same, .nil, fun _ z => (nomatch z)⟩ (fun _ _ _ _ => trivial) ?_ ?_⟩
    · rintro i v _ H2 hi ⟨ds, es, he, d2, hDg, hDl, hpd, hes⟩ ⟨rfl, rfl⟩
      have dn2 := dn.dr d2
      refine ⟨rfl, ?_⟩
      simp only [tYes, if_true]
      refine ⟨_, rfl, _, rfl, _, rfl, by show 3 ≤ sizeLine; decide, fun L3 hL3 => ?_⟩
      have s3 := up_same (o := .lst [.ref u, .ref o, .ref r]) hL3
      have dn3 := dn2.same s3
      have d3 := d2.same s3
      have e3 : (upd H2 L3 (.lst [.ref u, .ref o, .ref r])) L3 = some (.lst [.ref u, .ref o, .ref r]) := upd_same
      have n3 : L3 ≠ g := dn2.lw.bag.neq hL3
      refine ⟨_, rfl, g, 3, rfl, dn3.lw.bag, by decide, by decide, fun j H4 hj d4 => ?_⟩
      have dn4 := dn3.dr d4
      have e4 : H4 L3 = some (.lst [.ref u, .ref o, .ref r]) := by
        obtain ⟨_, _, c⟩ := d4
        exact c.2 _ _ n3 e3
      have eD : H4 D = some (.lst (ds.map V.ref)) := by
        obtain ⟨_, _, c⟩ := d4
        exact c.2 _ _ hDg (s3 _ _ hDl)
      obtain ⟨y, z, ey, ry, hz⟩ := three_at (K := K) dn4.u dn4.o dn4.r dn.ln dn.lm dn.ll j hj
      have hdl := paired_len hpd
      have d24 : Dr g H2 H4 := ((Dr.refl dn2.lw.bag).same s3).trans d4
      have st24 := d24.stay dn2.lw.bag
      have sU : Stay H4 (upd H4 D (.lst (ds.map V.ref ++ [.ref y]))) := Stay.lst eD
      refine ⟨L3, _, _, _, rfl, rfl, SqL.of e4, atI_nat ey, _, eD, by rw [List.length_map, sizeLine_eq]; omega, ds ++ [y], es ++ [z], by rw [List.length_append, he]; rfl, (d3.trans d4).updf hD hDg, hDg, by rw [List.map_append]; exact upd_same, ?_, fun l hl => ?_⟩
      · exact Paired.snoc (Paired.mapP hpd fun _ _ q => (q.dr st24).dr sU) (ry.dr sU)
      · rcases List.mem_append.mp hl with hl | hl
        · exact hes l hl
        · rw [List.mem_singleton.mp hl]; exact hz
    · rintro H2 ⟨ds, es, he, d2, hDg, hDl, hpd, hes⟩
      have dn2 := dn.dr d2
      have hp2 := hp.dr dn.lw.bag hbg d2
      have pc2 : Pcs K H2 D ds es := ⟨hDl, hpd, by omega, hes⟩
      have hgd := dn2.gd
      refine ⟨_, rfl, _, rfl, _, rfl, _, rfl, _, rfl, q, a, r, o, p, rows, l, m, zs, rfl, ⟨dn2.lw.rl, hgd.hole, hgd.le, dn2.r, dn2.o, dn2.p, dn.lz, dn.bz, dn.ll, dn.lm⟩, hgd, fun H3 s3 => ⟨_, rfl, iteF ?_⟩⟩
      have dn3 := dn2.same s3
      refine ⟨_, rfl, _, rfl, _, rfl, _, rfl, q, a, r, o, rows, l, m, rfl, dn3.lw.rl, dn3.r, dn3.o, dn.ll, dn.lm, dn3.gd, fun H4 s4 => ⟨_, rfl, iteF ?_⟩⟩
      have dn4 := dn3.same s4
      have s34 := s3.trans s4
      refine ⟨_, rfl, _, rfl, _, rfl, _, rfl, q, a, b, x, rows, bs, ls, rfl, dn4.lw.rl, dn4.gd, hx, hp2.same s34, fun H5 s5 => ⟨_, rfl, iteF ?_⟩⟩
      have dn5 := dn4.same s5
      refine ⟨_, rfl, _, rfl, _, rfl, _, rfl, q, a, r, D, rows, l, ds, es, rfl, dn5.lw.rl, dn5.gd, dn5.r, dn.ll, pc2.same (s34.trans s5), fun H6 s6 => ⟨_, rfl, iteF ?_⟩⟩
      refine ⟨rfl, ?_⟩
      exact hq H6
  obtain ⟨tB, pB, hB⟩ := restB
  have restA : ∃ t, PSs (cxOf (L2.CX P w) P w K mg base N_law "law" (defScope (top 89)) (He.ga K "law") cdv A outer s H E) ((defBody (top 89)).drop 10) t ∧
      ∀ (H1 : Hp) (g q a r o u p : Addr) (x : Str) (rows : List Sy.Row) (l m n : List Str) (zs : List Int) (given : Nat), Dn K H1 g q a r o u p rows l m n zs → Wx x → given ≤ 4 →
        t { nx := fun _ H' => Q .non H', rt := Q } [some (.ref sa), some (.ref g), some (.ref q), some (.ref a), some (.ref r), some (.ref o), some (.ref u), some (.ref p), some (.str x), some (.int (given : Nat)), none, none, none] H1 := by
    refine ⟨_, (pss_cons (ps_setLc (i := 10) (own := [("_law_k", 12)]) (g := gName 12) rfl sc.nd rfl rfl (sw_true rfl rfl rfl (by decide +kernel)) (pi_range1 rfl T.range (pa_cons (pv 9) pa_nil)) (blkOk_by (N := N_law) (sc := defScope (top 89)) (by decide +kernel)) (fun _ _ _ _ _ => (pg_name (i := 12) sc.nd rfl (Or.inl rfl))) (fun _ _ _ _ _ => pts_nil) (fun _ _ _ _ _ => (pe_ixK K rfl (pe_lst (pa_cons (pv 6) (pa_cons (pv 4) (pa_cons (pv 5) pa_nil)))) (pe_cal c_law_draw hr (pa_cons (pv 1) (pa_cons pe_int pa_nil))) (fun _ _ => rfl))))
      (pss_cons (ps_set (i := 9) sc.nd rfl (Or.inl rfl) (pe_cal c_law_draw hr (pa_cons (pv 1) (pa_cons pe_int pa_nil))))
      (pss_cons (ps_if (PW.pt (pw_and (pt_cmpR op_gt (pe_cal c_law_draw hr (pa_cons (pv 1) (pa_cons pe_int pa_nil))) pe_int (nomark _)) (pw_and1 (pt_cmpR op_lt (pe_bmT PySem.F.slot_tuple_count PySem.F.type_tuple_count mt_tcount (pv 4) (pa_cons pe_str pa_nil)) pe_int (nomark _)))))
        (pss_one (ps_set (i := 9) sc.nd rfl (Or.inl rfl) (pe_bmT PySem.F.slot_tuple_count PySem.F.type_tuple_count mt_tcount (pv 4) (pa_cons pe_str pa_nil))))
        pss_nil)
      pB))), ?_⟩
    intro H1 g q a r o u p x rows l m n zs given dn hx hgv
    refine ⟨_, rfl, _, rfl, by omega, by omega, fun D hD => lc_it (n := ((given : Nat) : Int).toNat) walk_range (fun i H' => ∃ (ds : List Addr) (es : List (List Str)), es.length = i ∧ Dr g H1 H' ∧ D ≠ g ∧ H' D = some (.lst (ds.map V.ref)) ∧ Paired (fun q (l : List Str) => Rw K H' q l) ds es ∧ ∀ l ∈ es, l.length ≤ 100000)
      ⟨[], [], rfl, (Dr.refl dn.lw.bag).updf hD (dn.lw.bag.neq hD), dn.lw.bag.neq hD, upd_same, .nil, fun _ z => (nomatch z)⟩ (fun _ _ _ _ => trivial) ?_ ?_⟩
    · rintro i v _ H2 hi ⟨ds, es, he, d2, hDg, hDl, hpd, hes⟩ ⟨rfl, rfl⟩
      have dn2 := dn.dr d2
      refine ⟨rfl, ?_⟩
      simp only [tYes, if_true]
      refine ⟨_, rfl, _, rfl, _, rfl, by show 3 ≤ sizeLine; decide, fun L3 hL3 => ?_⟩
      have s3 := up_same (o := .lst [.ref u, .ref r, .ref o]) hL3
      have dn3 := dn2.same s3
      have d3 := d2.same s3
      have e3 : (upd H2 L3 (.lst [.ref u, .ref r, .ref o])) L3 = some (.lst [.ref u, .ref r, .ref o]) := upd_same
      have n3 : L3 ≠ g := dn2.lw.bag.neq hL3
      refine ⟨_, rfl, g, 3, rfl, dn3.lw.bag, by decide, by decide, fun j H4 hj d4 => ?_⟩
      have dn4 := dn3.dr d4
      have e4 : H4 L3 = some (.lst [.ref u, .ref r, .ref o]) := by
        obtain ⟨_, _, c⟩ := d4
        exact c.2 _ _ n3 e3
      have eD : H4 D = some (.lst (ds.map V.ref)) := by
        obtain ⟨_, _, c⟩ := d4
        exact c.2 _ _ hDg (s3 _ _ hDl)
      obtain ⟨y, z, ey, ry, hz⟩ := three_at (K := K) dn4.u dn4.r dn4.o dn.ln dn.ll dn.lm j hj
      have hdl := paired_len hpd
      have d24 : Dr g H2 H4 := ((Dr.refl dn2.lw.bag).same s3).trans d4
      have st24 := d24.stay dn2.lw.bag
      have sU : Stay H4 (upd H4 D (.lst (ds.map V.ref ++ [.ref y]))) := Stay.lst eD
      refine ⟨L3, _, _, _, rfl, rfl, SqL.of e4, atI_nat ey, _, eD, by rw [List.length_map, sizeLine_eq]; omega, ds ++ [y], es ++ [z], by rw [List.length_append, he]; rfl, (d3.trans d4).updf hD hDg, hDg, by rw [List.map_append]; exact upd_same, ?_, fun l hl => ?_⟩
      · exact Paired.snoc (Paired.mapP hpd fun _ _ q => (q.dr st24).dr sU) (ry.dr sU)
      · rcases List.mem_append.mp hl with hl | hl
        · exact hes l hl
        · rw [List.mem_singleton.mp hl]; exact hz
    · rintro H2 ⟨ds, es, he, d2, hDg, hDl, hpd, hes⟩
      have dn2 := dn.dr d2
      have pc2 : Pcs K H2 D ds es := ⟨hDl, hpd, by omega, hes⟩
      refine ⟨_, rfl, g, 5, rfl, dn2.lw.bag, by decide, by decide, fun gv H3 hgv3 d3 => ?_⟩
      have dn3 := dn2.dr d3
      have pc3 := pc2.dr dn2.lw.bag hDg d3
      refine ⟨_, rfl, g, 4, rfl, dn3.lw.bag, by decide, by decide, fun y H4 hy d4 => ?_⟩
      have dn4 := dn3.dr d4
      have pc4 := pc3.dr dn3.lw.bag hDg d4
      have cnt : ∀ R : V → Hp → Prop, R (.int ((l.count ("*" : Str) : Nat) : Int)) H4 → (tBMT K (rTCnt K) (tVar 4) (tCons (tC (.str "*")) tNil)) [some (.ref sa), some (.ref g), some (.ref q), some (.ref a), some (.ref r), some (.ref o), some (.ref u), some (.ref p), some (.str x), some (.int (gv : Nat)), some (.ref D), none, none] H4 R := fun R hR => by
        refine ⟨_, rfl, ⟨r, _, rfl, dn4.r.sq, dn4.r.nd⟩, r, _, _, rfl, rfl, dn4.r.sq, rfl, all_strs l, ?_⟩
        rw [countP_strs]
        exact hR
      refine ⟨_, _, rfl, rfl, _, rfl, if_dec (fun c => ?_) (fun c => ?_)⟩
      · refine cnt _ ⟨_, _, rfl, rfl, _, rfl, if_dec (fun c2 => ?_) (fun c2 => ?_)⟩
        · exact cnt _ (hB H4 g q a r o u p D x rows l m n zs ds es _ dn4 hx hDg pc4 (by omega))
        · exact hB H4 g q a r o u p D x rows l m n zs ds es gv dn4 hx hDg pc4 (by omega)
      · exact hB H4 g q a r o u p D x rows l m n zs ds es gv dn4 hx hDg pc4 (by omega)
  obtain ⟨tA, pA, hA⟩ := restA
  refine ⟨_, (pss_cons (ps_set (i := 1) sc.nd rfl (Or.inr rfl) (pe_cal c_law_bag hr (pa_cons (pv 0) pa_nil)))
      (pss_cons (ps_set (i := 2) sc.nd rfl (Or.inl rfl) (pe_cal c_law_rows hr (pa_cons (pv 1) (pa_cons pe_int pa_nil))))
      (pss_cons (ps_set (i := 3) sc.nd rfl (Or.inl rfl) (pe_cal c_law_bed hr (pa_cons (pv 2) pa_nil)))
      (pss_cons (ps_set (i := 4) sc.nd rfl (Or.inr rfl) (pe_cal c_law_bent hr (pa_cons (pv 1) (pa_cons (pv 2) pa_nil))))
      (pss_cons (ps_set (i := 5) sc.nd rfl (Or.inr rfl) (pe_cal c_law_bent hr (pa_cons (pv 1) (pa_cons (pv 2) pa_nil))))
      (pss_cons (ps_set (i := 6) sc.nd rfl (Or.inr rfl) (pe_cal c_law_plant hr (pa_cons (pv 1) (pa_cons (pv 2) (pa_cons (pe_op op_add pe_int (pe_cal c_law_draw hr (pa_cons (pv 1) (pa_cons pe_int pa_nil)))) (pa_cons pe_bl pa_nil))))))
      (pss_cons (ps_set (i := 7) sc.nd rfl (Or.inl rfl) (pe_cal c_law_path hr (pa_cons (pv 1) (pa_cons (pv 2) (pa_cons (pv 4) pa_nil)))))
      (pss_cons (ps_set (i := 8) sc.nd rfl (Or.inl rfl) (pe_cal c_law_entry hr (pa_cons (pv 1) (pa_cons (pv 2) pa_nil))))
      (pss_cons (ps_set (i := 9) sc.nd rfl (Or.inl rfl) (pe_cal c_law_draw hr (pa_cons (pv 1) (pa_cons pe_int pa_nil))))
      (pss_cons (ps_if (PW.pt (pw_and (pt_cmpR op_gt (pe_cal c_law_draw hr (pa_cons (pv 1) (pa_cons pe_int pa_nil))) pe_int (nomark _)) (pw_and1 (pt_cmpR op_ge (pe_cal c_law_number hr (pa_cons (pv 2) (pa_cons (pv 8) pa_nil))) pe_int (nomark _)))))
        (pss_one (ps_set (i := 9) sc.nd rfl (Or.inl rfl) (pe_cal c_law_number hr (pa_cons (pv 2) (pa_cons (pv 8) pa_nil)))))
        pss_nil)
      pA)))))))))), ?_⟩
  refine ⟨_, rfl, sa, zs0, rfl, hs, hzl, fun g H1 hgn s1 bg1 => ?_⟩
  refine ⟨_, rfl, g, 5, rfl, bg1, by decide, by decide, fun q ps rows H2 hrw d2 hqg hq2 hpd => ?_⟩
  have ok := hrw.ok
  have lw2 : Lw K H2 g q rows := ⟨d2.bag, hqg, ⟨ps, hq2, hpd⟩, ok, hrw.wd, hrw.pos⟩
  have hole := hole_no hrw.wd
  refine ⟨_, rfl, q, rows, rfl, lw2.rl, ok, hrw.pos, fun H3 a s3 hb3 => ?_⟩
  have lw3 := lw2.same s3
  have gd3 : Gd K H3 a rows := ⟨hb3, hole, ok.le, ok.br⟩
  refine ⟨_, rfl, _, rfl, g, q, rows, rfl, lw3, fun l r H4 hll d4 r4 => ?_⟩
  have lw4 := lw3.dr d4
  refine ⟨_, rfl, _, rfl, g, q, rows, rfl, lw4, fun m o H5 hlm d5 o5 => ?_⟩
  have lw5 := lw4.dr d5
  have r5 := r4.dr (d5.stay lw4.bag)
  refine ⟨_, rfl, _, rfl, _, rfl, g, 4, rfl, lw5.bag, by decide, by decide, fun k4 H6 hk4 d6 => ?_⟩
  have lw6 := lw5.dr d6
  refine ⟨_, _, rfl, rfl, g, q, 1 + k4, false, rows, rfl, lw6.bag, lw6.ne, lw6.rl, ok, fun r hr' => (hrw.wd r hr').wx, by omega, by omega, fun n u H7 hn1 hn2 d7 u7 => ?_⟩
  have lw7 := lw6.dr d7
  have r7 := (r5.dr (d6.stay lw5.bag)).dr (d7.stay lw6.bag)
  have o7 := (o5.dr (d6.stay lw5.bag)).dr (d7.stay lw6.bag)
  refine ⟨_, rfl, _, rfl, _, rfl, g, q, r, rows, l, rfl, lw7, hole, r7, by omega, fun p H8 zs d8 p8 hz8 hb8 => ?_⟩
  have st78 := d8.stay lw7.bag
  have st38 : Stay H3 H8 := ((((d4.stay lw3.bag).trans (d5.stay lw4.bag)).trans (d6.stay lw5.bag)).trans (d7.stay lw6.bag)).trans st78
  have dn8 : Dn K H8 g q a r o u p rows l m n zs := ⟨lw7.dr d8, ⟨hb3.mono st38, hole, ok.le, ok.br⟩, r7.dr st78, o7.dr st78, u7.dr st78, p8, by omega, by omega, by omega, hz8, fun z hz => by have := hb8 z hz; omega⟩
  refine ⟨_, rfl, _, rfl, g, q, rows, rfl, dn8.lw, fun x H9 hx d9 => ?_⟩
  have dn9 := dn8.dr d9
  refine ⟨_, rfl, g, 5, rfl, dn9.lw.bag, by decide, by decide, fun gv HA hgv dA => ?_⟩
  have dnA := dn9.dr dA
  refine ⟨_, rfl, g, 4, rfl, dnA.lw.bag, by decide, by decide, fun y HB hy dB => ?_⟩
  have dnB := dnA.dr dB
  refine ⟨_, _, rfl, rfl, _, rfl, if_dec (fun c => ?_) (fun c => ?_)⟩
  · refine ⟨_, rfl, _, rfl, q, rows, x, rfl, dnB.lw.rl, _, _, rfl, rfl, _, rfl, if_dec (fun c2 => ?_) (fun c2 => ?_)⟩
    · refine ⟨_, rfl, _, rfl, q, rows, x, rfl, dnB.lw.rl, ?_⟩
      have hk : isK rows x = true := by
        cases e : isK rows x with
        | true => rfl
        | false =>
          rw [(numb_no e).1] at c2
          omega
      rw [numb_ar hk]
      have := ar_le ok.br x
      exact hA HB g q a r o u p x rows l m n zs _ dnB hx (by omega)
    · exact hA HB g q a r o u p x rows l m n zs gv dnB hx (by omega)
  · exact hA HB g q a r o u p x rows l m n zs gv dnB hx (by omega)
end
end Sy
/-! the head's facts, own errors with an __init__ among them -/
namespace Sy
open PySem PySem.Spec PyProof.Rows L2
theorem oexB_ok {K : PySem.W.Frag} {C : Addr} (h : oexB K C = true) : ∃ nm q N bs bm sn sub ab col dd k0 k1 k2 k3 k5, K.lookup C = some (excClassObj nm q C N bs bm true sn sub ab col dd k0 k1 k2 k3 k5 "ValueError.__new__") ∧ HandSPX.refsVE bm = true := by
  unfold oexB at h
  split at h
  · rename_i t dd cd sl ho
    split at h
    · rename_i C' bm k0 k1 k2 k3 n k5 hm hs
      simp only [Bool.and_eq_true, decide_eq_true_eq, Bool.not_eq_true'] at h
      obtain ⟨h1, h2, h3, h4, h5, h6⟩ := h
      obtain ⟨nm, bs, mro, ns, qn, hd, sn, sub, ab, col, del⟩ := cd
      dsimp only at hm h4 h5
      subst hm h4 h5 h1 h2 h3
      have hsl : sl = #[k0, k1, k2, k3, some (.builtin "ValueError.__new__"), k5] := by
        obtain ⟨z⟩ := sl
        simp only at hs
        rw [hs]
      subst hsl
      exact ⟨nm, qn, ns, bs, bm, sn, sub, ab, col, dd, k0, k1, k2, k3, k5, ho, h6⟩
    · cases h
  · cases h
theorem initB_ok {K : PySem.W.Frag} {file : Str} {d : ErD} (e : erW K d.x = d.val) (h : initB K file d.x d.q = true) : ∃ (cc cd : Addr) (oc : Value) (od : Option Addr) (kV doc pm : Value) (an : Option Addr) (ct : Value) (osl : Array (Option Value)),
    K.lookup (iniA K d.x) = some ⟨oc, od, .func (PySem.W.fnX "__init__" d.q (defArgs d.st) (defBody d.st) (defScope d.st) [("__class__", cc)] .none kV doc pm an (.ref cd) ct), osl⟩ ∧ PySem.W.codeIn K (.ref cd) d.q = true ∧
    (∃ (cl : Value) (dd : Option Addr) (vs : Array Value) (sl : Array (Option Value)) (fi : Str) (tf : Tok), K.lookup cd = some ⟨cl, dd, .fields vs, sl⟩ ∧ vs[2]? = some (.str fi tf) ∧ (file == fi) = true) ∧ ∃ (cl : Value) (dd : Option Addr) (sl : Array (Option Value)), K.lookup cc = some ⟨cl, dd, .cell (some (.ref (He.ga K d.x))), sl⟩ := by
  unfold initB at h
  unfold erW at e
  split at h
  · rename_i oc od fd osl ho
    rw [ho] at e
    obtain ⟨n1, n2, n3, n4, n5, n6, n7, n8, n9, n10, n11, n12, n13, n14, n15⟩ := fd
    have e2 : (some (n1, n2, n3, n4, n5, n6, n7.map (·.1), n15) : FnE) = d.val := e
    unfold ErD.val at e2
    simp only [Option.some.injEq, Prod.mk.injEq] at e2
    obtain ⟨e1, e2, e3, e4, e5, e6, e7, e8⟩ := e2
    simp only [Bool.and_eq_true] at h
    obtain ⟨h1, h2, h3, h4⟩ := h
    have hd : n8 = .none := by
      split at h4
      · first | rfl | assumption
      · cases h4
    unfold fileB at h2
    split at h2
    · rename_i cd
      unfold cellB at h3
      split at h3
      · rename_i y cc
        have hy : y = "__class__" := by simpa using e7
        subst hy
        split at h3
        · rename_i cl2 dd2 D sl2 hc
          have hD := of_decide_eq_true h3
          subst hD
          split at h2
          · rename_i cl dd vs sl hv
            split at h2
            · rename_i fi tf hf
              subst e1 e2 e3 e4 e5 e6 e8 hd
              exact ⟨cc, cd, oc, od, n9, n10, n11, n12, n14, osl, ho, h1, ⟨cl, dd, vs, sl, fi, tf, hv, hf, h2⟩, ⟨cl2, dd2, sl2, hc⟩⟩
            · cases h2
          · cases h2
        · cases h3
      · cases h3
    · cases h2
  · cases h
theorem ErD.errB {P : Program} {K : PySem.W.Frag} {h : Heap} {mg : Str → Option Value} {d : ErD} (X : K.In h) (G : h.Ns mainGlobals mg) (e : erW K d.x = d.val) (c : d.ok P.main.file K = true) (mS : mg "super" = none) (top : (P.main.scope.names.lookup ("super" : Str)).isSome = false) : ErrB P K mg d.x d.q d.st d.fs := by
  obtain ⟨c1, c⟩ := Bool.and_eq_true_iff.mp c
  obtain ⟨c2, c⟩ := Bool.and_eq_true_iff.mp c
  obtain ⟨c3, c⟩ := Bool.and_eq_true_iff.mp c
  obtain ⟨c4, c⟩ := Bool.and_eq_true_iff.mp c
  obtain ⟨c5, c⟩ := Bool.and_eq_true_iff.mp c
  obtain ⟨c6, c⟩ := Bool.and_eq_true_iff.mp c
  obtain ⟨c7, c⟩ := Bool.and_eq_true_iff.mp c
  obtain ⟨c8, c⟩ := Bool.and_eq_true_iff.mp c
  obtain ⟨c9, c⟩ := Bool.and_eq_true_iff.mp c
  obtain ⟨c10, c⟩ := Bool.and_eq_true_iff.mp c
  obtain ⟨c11, c⟩ := Bool.and_eq_true_iff.mp c
  obtain ⟨c12, c⟩ := Bool.and_eq_true_iff.mp c
  obtain ⟨c13, c⟩ := Bool.and_eq_true_iff.mp c
  obtain ⟨c14, c⟩ := Bool.and_eq_true_iff.mp c
  obtain ⟨c15, c⟩ := Bool.and_eq_true_iff.mp c
  obtain ⟨c16, c17⟩ := Bool.and_eq_true_iff.mp c
  obtain ⟨cc, cd, oc, od, kV, doc, pm, an, ct, osl, l1, l2, l3, l4⟩ := initB_ok e c12
  refine ⟨⟨cc, cd, kV, doc, pm, an, ct, ⟨⟨oc, od, .none, kV, doc, pm, an, ct, osl, rfl, l1⟩, l2, l3, l4, ?_, of_decide_eq_true c14, He.eqO_ok c15, of_decide_eq_true c16, He.eqO_ok c17, ⟨oexB_ok c7, He.eqO_ok c8, of_decide_eq_true c9, of_decide_eq_true c10, c11⟩⟩⟩, He.eqO_ok c2, of_decide_eq_true c3, PySem.W.mg_of X G (He.eqO_ok c1), of_decide_eq_true c4, xfB_ok c5, fun f hf => He.eqO_ok (List.all_eq_true.mp c6 f hf), mS, top⟩
  unfold PySem.W.isClsIn at c13
  exact Option.isSome_iff_exists.mp c13
/-! isinstance and except of the errors -/
theorem excB_ok {K : PySem.W.Frag} {D : Addr} (c : excB K D = true) : ExcC K D := by
  obtain ⟨c1, c⟩ := Bool.and_eq_true_iff.mp c
  obtain ⟨c2, c⟩ := Bool.and_eq_true_iff.mp c
  obtain ⟨c3, c⟩ := Bool.and_eq_true_iff.mp c
  obtain ⟨c4, c⟩ := Bool.and_eq_true_iff.mp c
  obtain ⟨c5, c⟩ := Bool.and_eq_true_iff.mp c
  obtain ⟨c6, c⟩ := Bool.and_eq_true_iff.mp c
  obtain ⟨c7, c8⟩ := Bool.and_eq_true_iff.mp c
  exact ⟨He.eqO_ok c1, He.eqO_ok c2, of_decide_eq_true c3, c4, He.eqO_ok c5, He.eqO_ok c6, of_decide_eq_true c7, of_decide_eq_true c8⟩
theorem metB_ok {K : PySem.W.Frag} {mg : Str → Option Value} (c : metB K = true) (h1 : mg "YardError" = some (.ref (He.ga K "YardError"))) (h2 : mg "ValueError" = none) : MetT K mg := by
  have q : ∀ k, k < 6 → ExcC K (He.ga K (six k)) ∧ PySem.W.kitOne K (.ref (He.ga K (six k))) (.type "ValueError") = some true ∧ PySem.W.exmOne K (.ref (He.ga K (six k))) (.ref (He.ga K "YardError")) = some true ∧ ∀ j, j < 6 → PySem.W.kitOne K (.ref (He.ga K (six k))) (.ref (He.ga K (six j))) = some (decide (k = j)) := fun k hk => by
    have c := List.all_eq_true.mp c k (List.mem_range.mpr hk)
    obtain ⟨c1, c⟩ := Bool.and_eq_true_iff.mp c
    obtain ⟨c2, c⟩ := Bool.and_eq_true_iff.mp c
    obtain ⟨c3, c4⟩ := Bool.and_eq_true_iff.mp c
    exact ⟨excB_ok c1, of_decide_eq_true c2, of_decide_eq_true c3, fun j hj => of_decide_eq_true (List.all_eq_true.mp c4 j (List.mem_range.mpr hj))⟩
  exact ⟨fun k hk => (q k hk).1, fun k j hk hj => (q k hk).2.2.2 j hj, fun k hk => (q k hk).2.1, fun k hk => (q k hk).2.2.1, h1, h2⟩
section
variable {file : Str} {fa : List He.Fa} {fn : List He.DefD} {er : List ErD} {K : PySem.W.Frag}
theorem SaysX.d (c : SaysX file fa fn er K) : He.SaysD fa fn K := congrArg (fun z : AlX => z.1) c
theorem SaysX.met (c : SaysX file fa fn er K) : metB K = true := (Bool.and_eq_true_iff.mp (show ((er.all fun d => d.ok file K) && metB K) = true from congrArg (fun z : AlX => z.2.1) c)).2
theorem SaysX.err_ (c : SaysX file fa fn er K) (i : Nat) {d : ErD} (h : er[i]? = some d := by rfl) : erW K d.x = d.val ∧ d.ok file K = true := by
  have c0 : ((er.all fun d => d.ok file K) && metB K) = true := congrArg (fun z : AlX => z.2.1) c
  have c1 := (Bool.and_eq_true_iff.mp c0).1
  have c2 : (er.map fun d => erW K d.x) = er.map ErD.val := congrArg (fun z : AlX => z.2.2) c
  refine ⟨?_, List.all_eq_true.mp c1 d (List.mem_of_getElem? h)⟩
  have e2 : (er.map fun d => erW K d.x)[i]? = (er.map ErD.val)[i]? := by rw [c2]
  rw [List.getElem?_map, List.getElem?_map, h] at e2
  exact Option.some.inj e2
end
/-- a def that lets nothing out -/
theorem fn_calm {P : Program} {w : World} {K : PySem.W.Frag} {mg : Str → Option Value} {base : Heap} {k : Nat} {f : Addr} {fd : FuncData} {ps : List Str} {sp : Sp} (F : FnOk P w K mg base (L2.CX P w) k f fd ps sp) (h : ∀ vs H Q E, sp vs H Q E → sp vs H Q E0) : FnOk P w K mg base CX0 k f fd ps sp := by
  obtain ⟨len, run⟩ := F
  refine ⟨len, fun A outer s H args us vs Q E hr e0 hb r hsp => codeAny_mono (run A outer s H args us vs Q E0 hr e0 hb r (h _ _ _ _ hsp)) fun x s' z => ?_⟩
  cases x with
  | ok fl => cases fl <;> exact z
  | error e =>
    obtain ⟨_, _, _, _, _, _, _, _, _, _, _, _, q⟩ := z
    exact q.elim
end Sy
set_option maxHeartbeats 0
namespace Sy.En
open Sy PySem PySem.Spec PyProof.Rows L2
theorem facts {P : Program} {w : World} {K : PySem.W.Frag} {h : Heap} {mg : Str → Option Value} {f : Addr} (hfile : P.main.file = R.prog.main.file) (top_ : (P.main.scope.names.lookup ("super" : Str)).isSome = false) (X : K.In h) (G : h.Ns mainGlobals mg) (hfa : mg ("law" : Str) = some (.ref f)) (c : SaysX R.prog.main.file fa fn ers K) :
    ∃ fd : FuncData, (∀ (s : Shared) (v : Value), BindsTo s fd ⟨[v], []⟩ [("_law_script", v)]) ∧ ∀ base : Heap, K.In base → base.Ns mainGlobals mg → FnOk P w K mg base CX0 11 f fd ["_law_script"] (spLaw K) := by
  have D := c.d
  have e := hfa.symm.trans (He.glo_ok X G (D.fact 66 (f := .glo "law") rfl))
  cases e
  have f_check_count : DF K mg "check_count" 14 := ⟨D.def_ 0 (d := dOf "check_count" 14) rfl, He.glo_ok X G (D.fact 0 (f := .glo "check_count") rfl)⟩
  have f_arity : DF K mg "arity" 15 := ⟨D.def_ 1 (d := dOf "arity" 15) rfl, He.glo_ok X G (D.fact 1 (f := .glo "arity") rfl)⟩
  have f_fault_among : DF K mg "fault_among" 16 := ⟨D.def_ 2 (d := dOf "fault_among" 16) rfl, He.glo_ok X G (D.fact 2 (f := .glo "fault_among") rfl)⟩
  have f_spans : DF K mg "spans" 17 := ⟨D.def_ 3 (d := dOf "spans" 17) rfl, He.glo_ok X G (D.fact 3 (f := .glo "spans") rfl)⟩
  have f_span_stop : DF K mg "span_stop" 18 := ⟨D.def_ 4 (d := dOf "span_stop" 18) rfl, He.glo_ok X G (D.fact 4 (f := .glo "span_stop") rfl)⟩
  have f_kids : DF K mg "kids" 19 := ⟨D.def_ 5 (d := dOf "kids" 19) rfl, He.glo_ok X G (D.fact 5 (f := .glo "kids") rfl)⟩
  have f_row_paths : DF K mg "row_paths" 20 := ⟨D.def_ 6 (d := dOf "row_paths" 20) rfl, He.glo_ok X G (D.fact 6 (f := .glo "row_paths") rfl)⟩
  have f_place_of : DF K mg "place_of" 21 := ⟨D.def_ 7 (d := dOf "place_of" 21) rfl, He.glo_ok X G (D.fact 7 (f := .glo "place_of") rfl)⟩
  have f_substituted : DF K mg "substituted" 22 := ⟨D.def_ 8 (d := dOf "substituted" 22) rfl, He.glo_ok X G (D.fact 8 (f := .glo "substituted") rfl)⟩
  have f_swapped : DF K mg "swapped" 23 := ⟨D.def_ 9 (d := dOf "swapped" 23) rfl, He.glo_ok X G (D.fact 9 (f := .glo "swapped") rfl)⟩
  have f_side_by_side : DF K mg "side_by_side" 24 := ⟨D.def_ 10 (d := dOf "side_by_side" 24) rfl, He.glo_ok X G (D.fact 10 (f := .glo "side_by_side") rfl)⟩
  have f_common_row : DF K mg "common_row" 25 := ⟨D.def_ 11 (d := dOf "common_row" 25) rfl, He.glo_ok X G (D.fact 11 (f := .glo "common_row") rfl)⟩
  have f_entry_rank : DF K mg "entry_rank" 26 := ⟨D.def_ 12 (d := dOf "entry_rank" 26) rfl, He.glo_ok X G (D.fact 12 (f := .glo "entry_rank") rfl)⟩
  have f_row_key : DF K mg "row_key" 27 := ⟨D.def_ 13 (d := dOf "row_key" 27) rfl, He.glo_ok X G (D.fact 13 (f := .glo "row_key") rfl)⟩
  have f_check_plant : DF K mg "check_plant" 29 := ⟨D.def_ 14 (d := dOf "check_plant" 29) rfl, He.glo_ok X G (D.fact 14 (f := .glo "check_plant") rfl)⟩
  have f_plant_key : DF K mg "plant_key" 30 := ⟨D.def_ 15 (d := dOf "plant_key" 30) rfl, He.glo_ok X G (D.fact 15 (f := .glo "plant_key") rfl)⟩
  have f_height : DF K mg "height" 31 := ⟨D.def_ 16 (d := dOf "height" 31) rfl, He.glo_ok X G (D.fact 16 (f := .glo "height") rfl)⟩
  have f_counted : DF K mg "counted" 32 := ⟨D.def_ 17 (d := dOf "counted" 32) rfl, He.glo_ok X G (D.fact 17 (f := .glo "counted") rfl)⟩
  have f_branches_of : DF K mg "branches_of" 33 := ⟨D.def_ 18 (d := dOf "branches_of" 33) rfl, He.glo_ok X G (D.fact 18 (f := .glo "branches_of") rfl)⟩
  have f_planted : DF K mg "planted" 34 := ⟨D.def_ 19 (d := dOf "planted" 34) rfl, He.glo_ok X G (D.fact 19 (f := .glo "planted") rfl)⟩
  have f_paths : DF K mg "paths" 35 := ⟨D.def_ 20 (d := dOf "paths" 35) rfl, He.glo_ok X G (D.fact 20 (f := .glo "paths") rfl)⟩
  have f_branch_at : DF K mg "branch_at" 36 := ⟨D.def_ 21 (d := dOf "branch_at" 36) rfl, He.glo_ok X G (D.fact 21 (f := .glo "branch_at") rfl)⟩
  have f_replaced : DF K mg "replaced" 37 := ⟨D.def_ 22 (d := dOf "replaced" 37) rfl, He.glo_ok X G (D.fact 22 (f := .glo "replaced") rfl)⟩
  have f_only_letters : DF K mg "only_letters" 41 := ⟨D.def_ 23 (d := dOf "only_letters" 41) rfl, He.glo_ok X G (D.fact 23 (f := .glo "only_letters") rfl)⟩
  have f_is_name : DF K mg "is_name" 42 := ⟨D.def_ 24 (d := dOf "is_name" 42) rfl, He.glo_ok X G (D.fact 24 (f := .glo "is_name") rfl)⟩
  have f_check_stump : DF K mg "check_stump" 46 := ⟨D.def_ 25 (d := dOf "check_stump" 46) rfl, He.glo_ok X G (D.fact 25 (f := .glo "check_stump") rfl)⟩
  have f_stump_key : DF K mg "stump_key" 47 := ⟨D.def_ 26 (d := dOf "stump_key" 47) rfl, He.glo_ok X G (D.fact 26 (f := .glo "stump_key") rfl)⟩
  have f_holes : DF K mg "holes" 48 := ⟨D.def_ 27 (d := dOf "holes" 48) rfl, He.glo_ok X G (D.fact 27 (f := .glo "holes") rfl)⟩
  have f_filled : DF K mg "filled" 49 := ⟨D.def_ 28 (d := dOf "filled" 49) rfl, He.glo_ok X G (D.fact 28 (f := .glo "filled") rfl)⟩
  have f_begins : DF K mg "begins" 50 := ⟨D.def_ 29 (d := dOf "begins" 50) rfl, He.glo_ok X G (D.fact 29 (f := .glo "begins") rfl)⟩
  have f_parts : DF K mg "parts" 51 := ⟨D.def_ 30 (d := dOf "parts" 51) rfl, He.glo_ok X G (D.fact 30 (f := .glo "parts") rfl)⟩
  have f_common : DF K mg "common" 52 := ⟨D.def_ 31 (d := dOf "common" 52) rfl, He.glo_ok X G (D.fact 31 (f := .glo "common") rfl)⟩
  have f_united : DF K mg "united" 53 := ⟨D.def_ 32 (d := dOf "united" 53) rfl, He.glo_ok X G (D.fact 32 (f := .glo "united") rfl)⟩
  have f_written : DF K mg "written" 55 := ⟨D.def_ 33 (d := dOf "written" 55) rfl, He.glo_ok X G (D.fact 33 (f := .glo "written") rfl)⟩
  have f_joined_text : DF K mg "joined_text" 56 := ⟨D.def_ 34 (d := dOf "joined_text" 56) rfl, He.glo_ok X G (D.fact 34 (f := .glo "joined_text") rfl)⟩
  have f_law_bag : DF K mg "_law_bag" 58 := ⟨D.def_ 35 (d := dOf "_law_bag" 58) rfl, He.glo_ok X G (D.fact 35 (f := .glo "_law_bag") rfl)⟩
  have f_law_draw : DF K mg "_law_draw" 59 := ⟨D.def_ 36 (d := dOf "_law_draw" 59) rfl, He.glo_ok X G (D.fact 36 (f := .glo "_law_draw") rfl)⟩
  have f_law_word : DF K mg "_law_word" 60 := ⟨D.def_ 37 (d := dOf "_law_word" 60) rfl, He.glo_ok X G (D.fact 37 (f := .glo "_law_word") rfl)⟩
  have f_law_name : DF K mg "_law_name" 61 := ⟨D.def_ 38 (d := dOf "_law_name" 61) rfl, He.glo_ok X G (D.fact 38 (f := .glo "_law_name") rfl)⟩
  have f_law_rows : DF K mg "_law_rows" 62 := ⟨D.def_ 39 (d := dOf "_law_rows" 62) rfl, He.glo_ok X G (D.fact 39 (f := .glo "_law_rows") rfl)⟩
  have f_law_bed : DF K mg "_law_bed" 63 := ⟨D.def_ 40 (d := dOf "_law_bed" 63) rfl, He.glo_ok X G (D.fact 40 (f := .glo "_law_bed") rfl)⟩
  have f_law_number : DF K mg "_law_number" 64 := ⟨D.def_ 41 (d := dOf "_law_number" 64) rfl, He.glo_ok X G (D.fact 41 (f := .glo "_law_number") rfl)⟩
  have f_law_plant : DF K mg "_law_plant" 65 := ⟨D.def_ 42 (d := dOf "_law_plant" 65) rfl, He.glo_ok X G (D.fact 42 (f := .glo "_law_plant") rfl)⟩
  have f_law_entry : DF K mg "_law_entry" 66 := ⟨D.def_ 43 (d := dOf "_law_entry" 66) rfl, He.glo_ok X G (D.fact 43 (f := .glo "_law_entry") rfl)⟩
  have f_law_long : DF K mg "_law_long" 67 := ⟨D.def_ 44 (d := dOf "_law_long" 67) rfl, He.glo_ok X G (D.fact 44 (f := .glo "_law_long") rfl)⟩
  have f_law_bent : DF K mg "_law_bent" 68 := ⟨D.def_ 45 (d := dOf "_law_bent" 68) rfl, He.glo_ok X G (D.fact 45 (f := .glo "_law_bent") rfl)⟩
  have f_law_ends : DF K mg "_law_ends" 69 := ⟨D.def_ 46 (d := dOf "_law_ends" 69) rfl, He.glo_ok X G (D.fact 46 (f := .glo "_law_ends") rfl)⟩
  have f_law_fault : DF K mg "_law_fault" 70 := ⟨D.def_ 47 (d := dOf "_law_fault" 70) rfl, He.glo_ok X G (D.fact 47 (f := .glo "_law_fault") rfl)⟩
  have f_law_due : DF K mg "_law_due" 71 := ⟨D.def_ 48 (d := dOf "_law_due" 71) rfl, He.glo_ok X G (D.fact 48 (f := .glo "_law_due") rfl)⟩
  have f_law_path : DF K mg "_law_path" 72 := ⟨D.def_ 49 (d := dOf "_law_path" 72) rfl, He.glo_ok X G (D.fact 49 (f := .glo "_law_path") rfl)⟩
  have f_law_place : DF K mg "_law_place" 73 := ⟨D.def_ 50 (d := dOf "_law_place" 73) rfl, He.glo_ok X G (D.fact 50 (f := .glo "_law_place") rfl)⟩
  have f_law_same : DF K mg "_law_same" 74 := ⟨D.def_ 51 (d := dOf "_law_same" 74) rfl, He.glo_ok X G (D.fact 51 (f := .glo "_law_same") rfl)⟩
  have f_law_plant_door : DF K mg "_law_plant_door" 75 := ⟨D.def_ 52 (d := dOf "_law_plant_door" 75) rfl, He.glo_ok X G (D.fact 52 (f := .glo "_law_plant_door") rfl)⟩
  have f_law_stump_door : DF K mg "_law_stump_door" 76 := ⟨D.def_ 53 (d := dOf "_law_stump_door" 76) rfl, He.glo_ok X G (D.fact 53 (f := .glo "_law_stump_door") rfl)⟩
  have f_law_planted : DF K mg "_law_planted" 77 := ⟨D.def_ 54 (d := dOf "_law_planted" 77) rfl, He.glo_ok X G (D.fact 54 (f := .glo "_law_planted") rfl)⟩
  have f_law_filled : DF K mg "_law_filled" 78 := ⟨D.def_ 55 (d := dOf "_law_filled" 78) rfl, He.glo_ok X G (D.fact 55 (f := .glo "_law_filled") rfl)⟩
  have f_law_called : DF K mg "_law_called" 79 := ⟨D.def_ 56 (d := dOf "_law_called" 79) rfl, He.glo_ok X G (D.fact 56 (f := .glo "_law_called") rfl)⟩
  have f_law_met : DF K mg "_law_met" 80 := ⟨D.def_ 57 (d := dOf "_law_met" 80) rfl, He.glo_ok X G (D.fact 57 (f := .glo "_law_met") rfl)⟩
  have f_law_plant_due : DF K mg "_law_plant_due" 81 := ⟨D.def_ 58 (d := dOf "_law_plant_due" 81) rfl, He.glo_ok X G (D.fact 58 (f := .glo "_law_plant_due") rfl)⟩
  have f_law_plant_answer : DF K mg "_law_plant_answer" 82 := ⟨D.def_ 59 (d := dOf "_law_plant_answer" 82) rfl, He.glo_ok X G (D.fact 59 (f := .glo "_law_plant_answer") rfl)⟩
  have f_law_plants_right : DF K mg "_law_plants_right" 83 := ⟨D.def_ 60 (d := dOf "_law_plants_right" 83) rfl, He.glo_ok X G (D.fact 60 (f := .glo "_law_plants_right") rfl)⟩
  have f_law_stump_answer : DF K mg "_law_stump_answer" 84 := ⟨D.def_ 61 (d := dOf "_law_stump_answer" 84) rfl, He.glo_ok X G (D.fact 61 (f := .glo "_law_stump_answer") rfl)⟩
  have f_law_stumps_right : DF K mg "_law_stumps_right" 85 := ⟨D.def_ 62 (d := dOf "_law_stumps_right" 85) rfl, He.glo_ok X G (D.fact 62 (f := .glo "_law_stumps_right") rfl)⟩
  have f_law_pieces_due : DF K mg "_law_pieces_due" 86 := ⟨D.def_ 63 (d := dOf "_law_pieces_due" 86) rfl, He.glo_ok X G (D.fact 63 (f := .glo "_law_pieces_due") rfl)⟩
  have f_law_planted_right : DF K mg "_law_planted_right" 87 := ⟨D.def_ 64 (d := dOf "_law_planted_right" 87) rfl, He.glo_ok X G (D.fact 64 (f := .glo "_law_planted_right") rfl)⟩
  have f_law_filled_right : DF K mg "_law_filled_right" 88 := ⟨D.def_ 65 (d := dOf "_law_filled_right" 88) rfl, He.glo_ok X G (D.fact 65 (f := .glo "_law_filled_right") rfl)⟩
  have f_law : DF K mg "law" 89 := ⟨D.def_ 66 (d := dOf "law" 89) rfl, He.glo_ok X G (D.fact 66 (f := .glo "law") rfl)⟩
  have m_init : MB K "__init__" "Bed.__init__" (clb 43 0) := ⟨He.meth_ok (D.fact 96 (f := .meth "Bed" "__init__") rfl), D.def_ 67 (d := dMe "__init__" "Bed.__init__" 0) rfl⟩
  have m_leaves : MB K "leaves" "Bed.leaves" (clb 43 3) := ⟨He.meth_ok (D.fact 97 (f := .meth "Bed" "leaves") rfl), D.def_ 68 (d := dMe "leaves" "Bed.leaves" 3) rfl⟩
  have m_branches : MB K "branches" "Bed.branches" (clb 43 4) := ⟨He.meth_ok (D.fact 98 (f := .meth "Bed" "branches") rfl), D.def_ 69 (d := dMe "branches" "Bed.branches" 4) rfl⟩
  have n_len : mg "len" = none := He.free_ok X G (D.fact 67 (f := .free "len") rfl)
  have n_range : mg "range" = none := He.free_ok X G (D.fact 68 (f := .free "range") rfl)
  have n_reversed : mg "reversed" = none := He.free_ok X G (D.fact 69 (f := .free "reversed") rfl)
  have n_enumerate : mg "enumerate" = none := He.free_ok X G (D.fact 70 (f := .free "enumerate") rfl)
  have n_tuple : mg "tuple" = none := He.free_ok X G (D.fact 71 (f := .free "tuple") rfl)
  have n_list : mg "list" = none := He.free_ok X G (D.fact 72 (f := .free "list") rfl)
  have n_int : mg "int" = none := He.free_ok X G (D.fact 73 (f := .free "int") rfl)
  have n_abs : mg "abs" = none := He.free_ok X G (D.fact 74 (f := .free "abs") rfl)
  have n_max : mg "max" = none := He.free_ok X G (D.fact 75 (f := .free "max") rfl)
  have n_isinstance : mg "isinstance" = none := He.free_ok X G (D.fact 76 (f := .free "isinstance") rfl)
  have n_bool : mg "bool" = none := He.free_ok X G (D.fact 77 (f := .free "bool") rfl)
  have n_str : mg "str" = none := He.free_ok X G (D.fact 78 (f := .free "str") rfl)
  have n_super : mg "super" = none := He.free_ok X G (D.fact 79 (f := .free "super") rfl)
  have n_zip : mg "zip" = none := He.free_ok X G (D.fact 80 (f := .free "zip") rfl)
  have n_sum : mg "sum" = none := He.free_ok X G (D.fact 81 (f := .free "sum") rfl)
  have n_ValueError : mg "ValueError" = none := He.free_ok X G (D.fact 82 (f := .free "ValueError") rfl)
  have T : Txt K mg := ⟨⟨He.cls_ok (D.fact 90 (f := .cls "Bed") rfl), He.noat_ok (D.fact 92 (f := .noat "Bed" "arities") rfl), He.noat_ok (D.fact 93 (f := .noat "Bed" "rows") rfl), He.noat_ok (D.fact 94 (f := .noat "Bed" "kinds") rfl), He.noat_ok (D.fact 95 (f := .noat "Bed" "ranks") rfl)⟩, n_len, n_range, n_reversed, n_enumerate, n_tuple, n_list, n_int, n_abs, n_max, n_isinstance, He.int_ok X G (D.fact 83 (f := .int "MOST_KNOTS" 2000) rfl), He.int_ok X G (D.fact 84 (f := .int "MOST_KINDS" 8) rfl), He.int_ok X G (D.fact 85 (f := .int "MOST_BRANCHES" 3) rfl), He.int_ok X G (D.fact 86 (f := .int "LONGEST_NAME" 8) rfl)⟩
  have TC : TxtC mg := ⟨n_tuple, n_bool, n_int, n_str, n_isinstance, n_len, n_range⟩
  have S : TxtS mg := ⟨He.str_ok X G (D.fact 87 (f := .str "HOLE" "*") rfl), n_zip, n_sum, n_str⟩
  have e_TooMany : ErrB P K mg "TooMany" "TooMany.__init__" (clb 7 0) ["what", "limit"] := ErD.errB (d := ⟨"TooMany", "TooMany.__init__", clb 7 0, ["what", "limit"]⟩) X G (c.err_ 0 rfl).1 (by rw [hfile]; exact (c.err_ 0 rfl).2) n_super top_
  have e_NoPath : ErrB P K mg "NoPath" "NoPath.__init__" (clb 9 0) ["path"] := ErD.errB (d := ⟨"NoPath", "NoPath.__init__", clb 9 0, ["path"]⟩) X G (c.err_ 1 rfl).1 (by rw [hfile]; exact (c.err_ 1 rfl).2) n_super top_
  have e_InvalidPlant : ErrB P K mg "InvalidPlant" "InvalidPlant.__init__" (clb 3 0) ["place"] := ErD.errB (d := ⟨"InvalidPlant", "InvalidPlant.__init__", clb 3 0, ["place"]⟩) X G (c.err_ 2 rfl).1 (by rw [hfile]; exact (c.err_ 2 rfl).2) n_super top_
  have e_InvalidStump : ErrB P K mg "InvalidStump" "InvalidStump.__init__" (clb 4 0) ["place"] := ErD.errB (d := ⟨"InvalidStump", "InvalidStump.__init__", clb 4 0, ["place"]⟩) X G (c.err_ 3 rfl).1 (by rw [hfile]; exact (c.err_ 3 rfl).2) n_super top_
  have e_UnknownKind : ErrB P K mg "UnknownKind" "UnknownKind.__init__" (clb 6 0) ["kind"] := ErD.errB (d := ⟨"UnknownKind", "UnknownKind.__init__", clb 6 0, ["kind"]⟩) X G (c.err_ 4 rfl).1 (by rw [hfile]; exact (c.err_ 4 rfl).2) n_super top_
  have e_WrongBranches : ErrB P K mg "WrongBranches" "WrongBranches.__init__" (clb 8 0) ["wanted", "given"] := ErD.errB (d := ⟨"WrongBranches", "WrongBranches.__init__", clb 8 0, ["wanted", "given"]⟩) X G (c.err_ 5 rfl).1 (by rw [hfile]; exact (c.err_ 5 rfl).2) n_super top_
  have R : Ers P K mg := ⟨e_TooMany, e_NoPath, e_InvalidPlant, e_InvalidStump, e_UnknownKind, e_WrongBranches⟩
  have MT : MetT K mg := metB_ok c.met (He.glo_ok X G (D.fact 88 (f := .glo "YardError") rfl)) n_ValueError
  have M := He.mkr_ok (D.fact 91 (f := .mkr "Bed") rfl)
  have gBed := He.glo_ok X G (D.fact 89 (f := .glo "Bed") rfl)
  obtain ⟨fd, FD1⟩ := f_law.1
  have b := FunD.bindsA (ps := ["_law_script"]) FD1 fun _ _ _ _ _ _ us hl => match us, hl with | [_], _ => rfl
  refine ⟨fd, fun s v => b s [v] rfl, fun base _ _ => ?_⟩
  have c_arity := k_arity (P := P) (w := w) (base := base) T f_arity 
  have c_fault_among := k_fault (P := P) (w := w) (base := base) T f_fault_among c_arity 
  have c_spans := k_spans (P := P) (w := w) (base := base) T f_spans c_arity 
  have c_span_stop := k_stop (P := P) (w := w) (base := base) T f_span_stop c_arity 
  have c_kids := k_kids (P := P) (w := w) (base := base) T f_kids c_arity c_spans 
  have c_row_paths := k_pathsR (P := P) (w := w) (base := base) T f_row_paths c_kids 
  have c_swapped := k_swap (P := P) (w := w) (base := base) T f_swapped c_span_stop 
  have c_entry_rank := k_rank (P := P) (w := w) (base := base) T f_entry_rank 
  have c_row_key := k_key (P := P) (w := w) (base := base) T f_row_key c_entry_rank 
  have c_check_count := k_count (P := P) (w := w) (base := base) T e_TooMany f_check_count 
  have c_place_of := k_place (P := P) (w := w) (base := base) T e_NoPath f_place_of c_kids 
  have c_check_plant := k_check (P := P) (w := w) (base := base) T R f_check_plant c_check_count c_fault_among 
  have c_check_stump := k_checkS (P := P) (w := w) (base := base) T S.hole R f_check_stump c_check_count c_fault_among 
  have c_plant_key := k_keyP (P := P) (w := w) (base := base) T f_plant_key c_check_plant c_row_key 
  have c_paths := k_pathsP (P := P) (w := w) (base := base) T f_paths c_check_plant c_row_paths 
  have c_height := k_height (P := P) (w := w) (base := base) T f_height c_check_plant c_kids 
  have c_counted := k_counted (P := P) (w := w) (base := base) T f_counted c_check_plant 
  have c_branches_of := k_brs (P := P) (w := w) (base := base) T f_branches_of c_check_plant c_kids c_span_stop 
  have c_branch_at := k_brAt (P := P) (w := w) (base := base) T f_branch_at c_check_plant c_place_of c_span_stop 
  have c_replaced := k_rep (P := P) (w := w) (base := base) T f_replaced c_check_plant c_check_count c_place_of c_swapped 
  have c_only_letters := k_letters (P := P) (w := w) (base := base) f_only_letters 
  have c_is_name := k_name (P := P) (w := w) (base := base) T f_is_name c_only_letters 
  have cm_branches := k_branches (P := P) (w := w) (base := base) T R m_branches 
  have cm_leaves := k_leaves (P := P) (w := w) (base := base) T m_leaves 
  have c_init := r_init (P := P) (w := w) (base := base) T m_init c_is_name cm_leaves 
  have c_planted := r_planted (P := P) (w := w) (base := base) T R f_planted cm_branches c_check_plant c_check_count 
  have c_stump_key := k_keyS (P := P) (w := w) (base := base) T f_stump_key c_check_stump c_row_key 
  have c_joined_text := k_join (P := P) (w := w) (base := base) T f_joined_text c_arity 
  have c_written := k_written (P := P) (w := w) (base := base) T f_written c_check_stump c_joined_text 
  have c_holes := k_holes (P := P) (w := w) (base := base) T S f_holes c_check_stump c_row_paths 
  have c_substituted := k_sub (P := P) (w := w) (base := base) T f_substituted 
  have c_filled := r_filled (P := P) (w := w) (base := base) T S R f_filled c_check_stump c_check_count c_substituted 
  have c_side_by_side := k_side (P := P) (w := w) (base := base) T f_side_by_side c_span_stop 
  have c_parts := k_parts (P := P) (w := w) (base := base) T S f_parts c_check_stump c_side_by_side 
  have c_begins := k_begins (P := P) (w := w) (base := base) f_begins c_parts 
  have c_common_row := k_comRow (P := P) (w := w) (base := base) T f_common_row c_span_stop 
  have c_common := r_common (P := P) (w := w) (base := base) T S f_common c_check_stump c_common_row 
  have c_united := k_united (P := P) (w := w) (base := base) T S f_united c_check_stump c_check_count c_span_stop 
  have c_law_draw := k_draw (P := P) (w := w) (base := base) T f_law_draw 
  have c_law_word := k_word (P := P) (w := w) (base := base) T f_law_word c_law_draw 
  have c_law_name := k_nameL (P := P) (w := w) (base := base) T f_law_name c_law_draw c_law_word 
  have c_law_rows := k_rows (P := P) (w := w) (base := base) T f_law_rows c_law_draw c_law_name 
  have c_law_bag := k_bag (P := P) (w := w) (base := base) T f_law_bag 
  have c_law_bed := k_bed (P := P) (w := w) (base := base) T M gBed c_init f_law_bed 
  have c_law_number := k_num (P := P) (w := w) (base := base) T f_law_number 
  have c_law_plant := k_plantL (P := P) (w := w) (base := base) T f_law_plant c_law_draw 
  have c_law_entry := k_entry (P := P) (w := w) (base := base) T f_law_entry c_law_draw 
  have c_law_long := k_long (P := P) (w := w) (base := base) T f_law_long c_law_draw c_law_entry 
  have c_law_bent := k_bent (P := P) (w := w) (base := base) T f_law_bent c_law_draw c_law_entry c_law_long c_law_plant 
  have c_law_fault := k_faultL (P := P) (w := w) (base := base) T f_law_fault c_law_number 
  have c_law_same := k_same (P := P) (w := w) (base := base) TC f_law_same 3
  have c_law_due := k_dueL (P := P) (w := w) (base := base) T f_law_due c_law_fault 
  have c_law_ends := k_ends (P := P) (w := w) (base := base) T f_law_ends c_law_number 
  have c_law_place := k_placeL (P := P) (w := w) (base := base) T f_law_place c_law_number c_law_ends 
  have c_law_path := k_pathL (P := P) (w := w) (base := base) T f_law_path c_law_draw c_law_number c_law_due c_law_ends 
  have c_law_plant_door := k_pDoor (P := P) (w := w) (base := base) f_law_plant_door c_check_plant c_plant_key c_height c_counted c_branches_of c_paths c_branch_at c_replaced 
  have c_law_stump_door := k_sDoor (P := P) (w := w) (base := base) f_law_stump_door c_check_stump c_stump_key c_holes c_written c_common c_begins c_parts c_united 
  have c_law_planted := k_plL (P := P) (w := w) (base := base) T f_law_planted c_planted 
  have c_law_filled := k_flL (P := P) (w := w) (base := base) T f_law_filled c_filled 
  have c_law_called := k_called (P := P) (w := w) (base := base) f_law_called c_law_plant_door c_law_stump_door c_law_planted c_law_filled 
  have c_law_met := k_met (P := P) (w := w) (base := base) TC R MT f_law_met c_law_called 
  have c_law_plant_due := k_plDue (P := P) (w := w) (base := base) T f_law_plant_due c_law_place c_law_ends 
  have c_law_plant_answer := k_plAns (P := P) (w := w) (base := base) T TC f_law_plant_answer c_law_place c_law_ends c_law_number c_law_same 
  have c_law_plants_right := k_plRight (P := P) (w := w) (base := base) T f_law_plants_right c_law_due c_law_met c_law_plant_due c_law_same c_law_plant_answer 
  have c_law_stump_answer := k_stAns (P := P) (w := w) (base := base) T TC f_law_stump_answer c_law_same 
  have c_law_stumps_right := k_stRight (P := P) (w := w) (base := base) T f_law_stumps_right c_law_due c_law_met c_law_same c_law_stump_answer 
  have c_law_pieces_due := k_pcDue (P := P) (w := w) (base := base) T f_law_pieces_due c_law_due 
  have c_law_planted_right := k_ptRight (P := P) (w := w) (base := base) T f_law_planted_right c_law_number c_law_pieces_due c_law_met c_law_same 
  have c_law_filled_right := k_flRight (P := P) (w := w) (base := base) T f_law_filled_right c_law_due c_law_pieces_due c_law_met c_law_same 
  have c_law := k_law (P := P) (w := w) (base := base) T FD1 c_law_bag c_law_rows c_law_bed c_law_bent c_law_plant c_law_draw c_law_path c_law_entry c_law_number c_law_plants_right c_law_stumps_right c_law_planted_right c_law_filled_right 
  exact fn_calm c_law fun vs H Q E q => q
end Sy.En
open PySem PySem.W PySem.Calls PyProof.Rows
theorem PySem.Challenge.cw_shearyard_k00_rows_that_are_no_plants_holds : PySem.Challenge.rw_shearyard_k00_rows_that_are_no_plants.Holds := by
  w_on; o_law
  refine HandSHeadRun.head_any (r := OpenLaw.row PySem.Challenge.rw_shearyard_k00_rows_that_are_no_plants) (q := view (OpenLaw.row PySem.Challenge.rw_shearyard_k00_rows_that_are_no_plants).prog [89]) (H := Sy.En.hk) (ob := Sy.En.ob) (M := 30000) (loose := Sy.En.loose1 ++ Sy.En.loose2 ++ Sy.En.loose3) (d := HandSHeadRun.topDef (OpenLaw.row PySem.Challenge.rw_shearyard_k00_rows_that_are_no_plants).prog 89) (kwd := []) Sy.En.ob_eq
    (by kernel_rfl) (fun s => by kernel_rfl) Sy.En.run (by kernel_rfl) (by kernel_rfl) (by kernel_rfl) (by rfl) (by first | assumption | decide +kernel) (by decide +kernel) ⟨rfl, rfl, rfl, rfl, rfl, by decide +kernel⟩ ?hw ?hc
  case hw => w_witness2
  case hc =>
    refine L2.walk_ofE (l := PySem.Challenge.rw_shearyard_k00_rows_that_are_no_plants) (n := 63) (k := 11) (x := "_law_script") (CX := L2.CX0) rfl (by decide) (by kernel_rfl) ⟨rfl, by decide, by decide⟩ ?F (fun _ _ _ _ z => z)
    intro w mg fa h Y G hmg0
    obtain ⟨K, KX, c⟩ := Y
    have hmg : mg ("law" : PySem.Str) = some (.ref fa) := by
      have e : (HandSHeadRun.topDef (OpenLaw.row PySem.Challenge.rw_shearyard_k00_rows_that_are_no_plants).prog 89).name = ("law" : PySem.Str) := by kernel_rfl
      rw [← e]
      exact hmg0
    obtain ⟨fd, hb, hF⟩ := Sy.En.facts (P := (PySem.Challenge.rw_shearyard_k00_rows_that_are_no_plants).prog) (w := w) rfl (by kernel_rfl) KX G hmg c
    exact ⟨K, fd, Sy.spLaw K, KX, hb, fun H a ns hl _ hS => ⟨a, ns, rfl, hS, Nat.le_trans hl (by decide), fun _ => rfl⟩, hF⟩
