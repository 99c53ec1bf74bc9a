import PyProof.Rows.All
import Wide.All
import OpenK.AllK
import Wide.FinOn
import KE.KStateDown
import HandS.ForMost
import HandS.ForExc
import HandS.Walk
import HandS.StrMore
import HandS.Star
import KE.GoesEnum
import HandS.ExcInit
import HandS.Nested
import KE.KExcSuper
import HandS.TupMul
import HandS.TupAny
import HandS.FStrTup
import HandS.FStr
import HandS.Deep
import HandS.IsInst
import HandS.RevRange
import HandS.DictComp
import HandS.Defaults
import HandS.Flow
import HandS.HeadHook1
import HandS.HeadHook2
import HandS.Ends
import HandS.Words
import HandS.WordsExc
import HandS.Head0
import HandS.Head1
import HandS.Head2
import HandS.HeadEnd
import HandS.ExcField
import HandS.Dict
import HandS.Zip
import HandS.Style
import KE.DataMinMax
import HandS.More
import HandS.Rev
import HandS.ExcIs
import HandS.MakeKwOnly
import HandS.RevTup
import PySem.Challenge.RW_shearyard_k52_cheapest_change
set_option Elab.async false
set_option linter.all false
set_option maxRecDepth 100000
set_option maxHeartbeats 4000000
/-! enumerate over a tuple (own rule) -/
namespace Sy
open PySem PySem.Spec PyProof.Rows L2
open AutoSeq1 (wpAny_loadPart')
theorem enumNew {v : Value} {o : Obj} {Hh : Heap → Prop} (B : Begins v o Hh) : Meets (Builtin.«enumerate.__new__» ⟨[.type "enumerate", v], []⟩) (fun _ R s => Hh s.heap ∧
    R (.ok (.ret (.ref (s.heap.push o).objs.size))) { s with heap := (s.heap.push o).push { cls := .type "enumerate", data := .fields #[.none, .bool false, .ref s.heap.objs.size, rawInt 0, .none, .none] } }) :=
  .of_wp fun prog w A R s hs => by
    obtain ⟨hp, g, d, tk, os⟩ := s
    obtain ⟨h1, hR⟩ := hs
    have hsub := sub_enumerate
    have it1 : ∀ {A' : Around} {E : Value → Shared → Prop} {Q : Value → Shared → Prop}, Q (.ref hp.objs.size) ⟨hp.push o, g, d, tk, os⟩ → wpAny (model prog w) A' (pyIter v) Q E ⟨hp, g, d, tk, os⟩ := fun q => B.iter prog w _ _ ⟨hp, g, d, tk, os⟩ _ h1 q
    wp_walk using it1
    refine wpAny_stack_any fun st => wpAny_pure ?_
    split
    · rename_i c _ _ _ _ _
      cases (c == Value.type "enumerate") <;> (wp_walk using it1; exact ⟨_, rfl, hR⟩)
    · (wp_walk using it1; exact ⟨_, rfl, hR⟩)
theorem enumCall {prog : Program} {w : World} {A : Around} {E : Value → Shared → Prop} {s : Shared} {v : Value} {o : Obj} {Hh : Heap → Prop} {Q : Value → Shared → Prop} (B : Begins v o Hh) (h1 : Hh s.heap)
    (h : ∀ h', IsEnum h' (s.heap.objs.size + 1) s.heap.objs.size 0 .none → h'.get? s.heap.objs.size = some o → (∀ b ob, s.heap.get? b = some ob → h'.get? b = some ob) → Q (.ref (s.heap.objs.size + 1)) { s with heap := h' }) :
    wpAny (model prog w) A (call (.type "enumerate") [v]) Q E s := by
  refine callType_new F.called_enumerate (by decide) (F.typeCall_enumerate_1 _) (F.newCall_enumerate_1 _) (fun obj => F.args_object_init_2 obj _) F.entry_enumerate_new (enumNew B) ⟨h1, ?_⟩
  have hz : (s.heap.push o).objs.size = s.heap.objs.size + 1 := Heap.size_push ..
  show _ ∧ _
  rw [hz]
  have he : IsEnum ((s.heap.push o).push { cls := .type "enumerate", data := .fields #[.none, .bool false, .ref s.heap.objs.size, rawInt 0, .none, .none] }) (s.heap.objs.size + 1) s.heap.objs.size 0 .none := by
    have q := Heap.get?_push_size (s.heap.push o) (o := { cls := .type "enumerate", data := .fields #[.none, .bool false, .ref s.heap.objs.size, rawInt 0, .none, .none] }) rfl
    rw [hz] at q
    exact q
  exact ⟨⟨_, he, rfl⟩, h _ he (Heap.get?_push_of_some _ (Heap.get?_push_size _ B.free)) fun b ob x => Heap.get?_push_of_some _ (Heap.get?_push_of_some _ x)⟩
/-- the tuple at a, each item in a new pair -/
def ItE (K : PySem.W.Frag) (a : Addr) : It :=
  ⟨fun i H => ∃ (xs : List V) (x : V), SqT K H a xs ∧ xs[i]? = some x,
   fun i H v H' => ∃ T x, v = .ref T ∧ H T = none ∧ H' = upd H T (.tup [.int (i : Nat), x]) ∧ ∀ xs, SqT K H a xs → xs[i]? = some x,
   fun i H => ∃ xs : List V, SqT K H a xs ∧ xs.length ≤ i⟩
theorem turnE {P : Program} {w : World} {K : PySem.W.Frag} {elts : List Expr} {kk : Nat} {tpos : Pos} (a e it : Addr) :
    Turn P w K (.Tuple elts kk tpos) (ItE K a) [e, it] e (fun i h => (∃ old, IsEnum h e it ((i : Nat) : Int) old) ∧ h.IsTupleIter it a i ∧ e ≠ it ∧ a ≠ it ∧ a ≠ e) where
  mem := by simp
  obj := fun i h st b hb => by
    obtain ⟨⟨old, he⟩, ⟨o, ho, hc, hd⟩, _⟩ := st
    rcases (show b = e ∨ b = it by simpa using hb) with z | z
    · subst z; exact ⟨_, he, fun v q => nomatch q⟩
    · subst z; exact ⟨o, ho, fun v q => by rw [hd] at q; cases q⟩
  keep := fun i h h' st k => by
    obtain ⟨⟨old, he⟩, hi, n1⟩ := st
    exact ⟨⟨old, k e (by simp) _ he⟩, hi.at fun o q => k it (by simp) o q, n1⟩
  item := by
    intro X hP hw hK hc i pins s σ H E I hf st hg
    subst hP hw hK
    obtain ⟨⟨old, he⟩, hit, hne, ha1, ha2⟩ := st
    obtain ⟨xs, x, hq, hx⟩ := hg
    obtain ⟨its, rv, p, hz⟩ := I.tuple hq
    obtain ⟨u, hu, ru⟩ := rv.get hx
    have hlen : i < its.toArray.size := by
      rw [List.size_toArray]
      exact (List.getElem?_eq_some_iff.mp hu).1
    have D := Draws.tuple (prog := X.prog) (w := X.w) (A := X.A.in1) (by have q := I.ok.hd hc; exact q) it a ha1 its.toArray
    have hel : e < s.heap.objs.size := Heap.lt_size he
    have hil : it < s.heap.objs.size := by obtain ⟨_, q, _⟩ := hit; exact Heap.lt_size q
    refine wpAny_pyNext_enum_itemC D he ⟨hit, p⟩ hlen hne (by simp [hne, Ne.symm ha2]) fun y h' tk hP ho st' hT hsz hk => ?_
    have ey : y = u := by
      have z : its.toArray[i]? = some u := by simpa using hu
      exact Option.some.inj (hP.symm.trans z)
    subst ey
    refine ⟨_, rfl, wpAny_letOwnedTupleGo_enum (s := { s with heap := h', toks := tk + 1 }) ho fun h'' he' sb => ?_⟩
    have hT2 : h''.get? s.heap.objs.size = some { cls := .type "tuple", data := .seq #[.int i tk, y] } := (sb.2 _ (Nat.ne_of_gt hel)).trans hT
    have new : ObjOk X.prog X.w (upd H s.heap.objs.size (.tup [.int (i : Nat), x])) h'' s.heap.objs.size (.tup [.int (i : Nat), x]) :=
      ⟨by show 2 ≤ sizeLine; decide, [.int i tk, y], .cons ⟨_, rfl⟩ (.cons ru .nil), ⟨_, hT2, rfl, _, rfl⟩⟩
    have I1 : Inv X pins σ (upd H s.heap.objs.size (.tup [.int (i : Nat), x])) { s with heap := h'', toks := tk + 1 } :=
      I.turnedNew (ch := [e, it]) (fun b ob hb q => by
        have hb' : b ≠ e ∧ b ≠ it := by simpa using hb
        exact (sb.2 b hb'.1).trans (hk b ob hb'.1 hb'.2 q)) hf (Nat.le_refl _) new
    refine ⟨.ref s.heap.objs.size, _, I1, rfl, ⟨_, x, rfl, I.hok.fresh (Nat.le_refl _), rfl, fun ys hy => by rw [I.tuple_inj hy hq]; exact hx⟩, ⟨⟨y, ?_⟩, st'.1.at fun o q => (sb.2 it (Ne.symm hne)).trans q, hne, ha1, ha2⟩, fun b hb => ?_⟩
    · have e1 : ((i + 1 : Nat) : Int) = (i : Int) + 1 := by omega
      rw [e1]
      exact he'
    · have hb' : b < s.heap.objs.size := by
        rcases (show b = e ∨ b = it by simpa using hb) with z | z <;> (rw [z]; assumption)
      rw [upd_ne (Nat.ne_of_lt hb')]
      exact (hf b hb).1
  done := by
    intro X hP hw hK hc i pins s σ H E I hf st hg
    subst hP hw hK
    obtain ⟨⟨old, he⟩, hit, hne, ha1, ha2⟩ := st
    obtain ⟨xs, hq, hx⟩ := hg
    obtain ⟨its, rv, p, hz⟩ := I.tuple hq
    obtain ⟨f0, f1, f2, f3, f4, f5⟩ := hf it (by simp)
    have hl := rv.length
    have hT : s.TypeIs (.ref e) "enumerate" := ⟨_, he, rfl⟩
    unfold pyNext
    refine wpAny_bind (wpAny_attempt (wpAny_callSpecial?_slot (name := Str.ofString "__next__") hT F.slot_enumerate_next (wpAny_call_entry F.slot_enumerate_next hT F.entry_enumerate_next ?_ (F.args_enumerate_next_1 _))))
    show wpAny _ _ (field (.ref e) 2 >>= _) _ _ _
    refine wpAny_bind (wpAny_field he rfl (x := .ref it) rfl ?_)
    refine wpAny_bind (wpAny_nextOf_tuple_end (I.ok.hd hc) hit p (by simp; omega) fun h' x he' hx' => ?_)
    obtain ⟨o, ho, hcl⟩ := hx'
    refine wpAny_bind (wpAny_isInstance (T := "StopIteration") (b := true) ⟨o, ho, hcl⟩ isSubtype_stop ?_)
    exact wpAny_pure ⟨rfl, I.turned (t' := s.toks) (fun b ob hb q => he' b ob hb q) f0 f1 f3 f4 f5⟩
  self := fun A i s Q E st h => by
    obtain ⟨⟨_, he⟩, _⟩ := st
    exact wpAny_pyIter_enum he h
/-- for i, x in enumerate(t), t a tuple -/
def iEnumT (K : PySem.W.Frag) (ta : TA) : TI := fun σ H R => ta σ H fun vs H1 => ∃ a xs, vs = [.ref a] ∧ SqT K H1 a xs ∧ R (ItE K a) H1
theorem pi_enumT {X : Cx} {e : Expr} {ta : TA} {p pos tpos : Pos} {elts : List Expr} {kk : Nat} (hg : Gl X "enumerate") (hm : X.mg "enumerate" = none) (ha : PA X [e] ta) (hs : starEach [e] X.env = [(false, eval e X.env)] := by rfl) :
    PI X (.Tuple elts kk tpos) (.Call (.Name "enumerate" p) [e] [] pos) (iEnumT X.K ta) := by
  refine ⟨fun pins s σ H R I h => ?_⟩
  refine Call_ (ld_blt I hg hm boot_enumerate (PyProof.Rows.callWith_type1 (thn (ha.run pos pins s σ H _ I h) fun us s1 ⟨vs, H1, I1, r1, a, xs, ex, hq, q⟩ => ?_) hs rfl))
  subst ex
  cases r1 with
  | cons r rr =>
    cases rr
    cases r
    obtain ⟨its, rv, p', hz⟩ := I1.tuple hq
    have hal : a < s1.heap.objs.size := by obtain ⟨_, z, _⟩ := p'; exact Heap.lt_size z
    refine enumCall (begins_tuple a its.toArray) p' fun h' he hit hk => wpAny_pyIter_enum he ?_
    have I2 : Inv X pins σ H1 { s1 with heap := h' } := I1.kept (t' := s1.toks) hk
    refine ⟨s1.heap.objs.size + 1, [s1.heap.objs.size + 1, s1.heap.objs.size], _, _, H1, rfl, I2, turnE a (s1.heap.objs.size + 1) s1.heap.objs.size, ⟨⟨.none, he⟩, ⟨_, hit, rfl, rfl⟩, Nat.succ_ne_self _, Nat.ne_of_lt hal, Nat.ne_of_lt (Nat.lt_succ_of_lt hal)⟩, fun b hb => ?_, q⟩
    have hle : s1.heap.objs.size ≤ b := by
      rcases (show b = s1.heap.objs.size + 1 ∨ b = s1.heap.objs.size by simpa using hb) with z | z <;> (rw [z]; first | exact Nat.le_refl _ | exact Nat.le_add_right _ _)
    exact I1.fpOk hle (I1.hok.fresh hle)
theorem walkE {K : PySem.W.Frag} {a : Addr} {xs : List V} : Walk (ItE K a) xs.length (fun H => SqT K H a xs) (YPair (fun i => some (.int (i : Nat))) (fun i => xs[i]?)) :=
  ⟨fun i H hi h => ⟨xs, xs[i], h, by simp [hi]⟩, fun H h => ⟨xs, h, Nat.le_refl _⟩, fun i H x H' hi h y => by
    obtain ⟨T, z, e1, e2, e3, e4⟩ := y
    exact ⟨T, _, z, e1, e2, e3, rfl, e4 xs h⟩⟩
end Sy
/-! super().__init__(..) as the first row of an own error's __init__ (own rule) -/
namespace Sy
open PySem PySem.Spec PyProof.Rows L2 NdefX
/-- what the written part says of the error's class at D and its __init__ at f (its cell at cc, its code at cd) -/
structure SupF (P : Program) (K : PySem.W.Frag) (D f cc cd : Addr) (qual : Str) (pa : Arguments) (bo : List Stmt) (sc : Scope) (fd : FuncData) : Prop where
  ex : ∃ (oc : Value) (od : Option Addr) (dV kV doc pm : Value) (an : Option Addr) (ct : Value) (osl : Array (Option Value)),
    fd = PySem.W.fnX "__init__" qual pa bo sc [("__class__", cc)] dV kV doc pm an (.ref cd) ct ∧ K.lookup f = some ⟨oc, od, .func fd, osl⟩
  co : PySem.W.codeIn K (.ref cd) qual = true
  file : ∃ (cl : Value) (dd : Option Addr) (vs : Array Value) (sl : Array (Option Value)) (fi : Str) (tf : Tok), K.lookup cd = some ⟨cl, dd, .fields vs, sl⟩ ∧ vs[2]? = some (.str fi tf) ∧ ((P.main.file : Str) == fi) = true
  cell : ∃ (cl : Value) (dd : Option Addr) (sl : Array (Option Value)), K.lookup cc = some ⟨cl, dd, .cell (some (.ref D)), sl⟩
  isc : ∃ c, PySem.W.clsIn K D = some c
  sub : PySem.W.mroIn K D (.ref D) = some true
  sup : PySem.W.ks_superIn K D D "__init__" = some (some (.builtin "ValueError.__init__"))
  ve : PySem.W.subIn K (.ref D) (.type "ValueError") = some true
  opq : PySem.W.nsIn K cStatics "thirdparty.any" = some none
  oex : OexC K D
section
variable {P : Program} {w : World} {K : PySem.W.Frag} {mg : Str → Option Value} {base : Heap} {CX : CXT} {k : Nat} {D f cc cd : Addr} {qual : Str} {pa : Arguments} {bo rest : List Stmt} {sc : Scope} {fd : FuncData} {N ps : List Str} {sp : Sp} {e : Expr} {es : List Expr} {q0 q1 q2 q3 q4 : Pos} {p0 : Arg}
theorem fn_sup (T : SupF P K D f cc cd qual pa bo sc fd) (S : NScope N ps ["__class__"] sc) (hbo : bo = .Expr (.Call (.Attribute (.Call (.Name "super" q0) [] [] q1) "__init__" q2) (e :: es) [] q3) q4 :: rest)
    (hp : (pa.posonlyargs ++ pa.args).head? = some p0) (hps : N[0]? = some p0.arg) (hp1 : sc.names.lookup p0.arg = some .local) (hks : sc.names.lookup ("super" : Str) = some .globalImplicit) (mS : mg "super" = none) (top : (P.main.scope.names.lookup ("super" : Str)).isSome = false)
    (len : ∀ vs H Q E, sp vs H Q E → vs.length = ps.length)
    {pl : Sem Bool} (hev : ∀ env : Env, eval (.Call (.Attribute (.Call (.Name "super" q0) [] [] q1) "__init__" q2) (e :: es) [] q3) env = (do
      let ov ← attributeBase (.Call (.Name "super" q0) [] [] q1) "__init__" env (eval (.Call (.Name "super" q0) [] [] q1) env)
      standAt q2.atName
      let (f, first) ← holding [ov] (getMethod ov "__init__" pl)
      callWith q3 f first (backTo q3 (starEach (e :: es) env)) []))
    (he : ∀ env : Env, starEach (e :: es) env = (false, eval e env) :: starEach es env) (hpl : ∀ (env : Env) (pos : Pos), (backTo pos (starEach es env)).any (·.1) = false)
    (hbody : ∀ (A : Around) (outer : List Env) (s : Shared) (H : Hp) (vs : List V) (Q : VK) (E : XK), Room k (A.deeper (envF ⟨"__init__", qual, pa, bo, sc, [("__class__", cc)], cd⟩ f s.heap.objs.size)) → sp vs H Q E →
      ∃ ta t, PA (ncx CX P w K mg base N ⟨"__init__", qual, pa, bo, sc, [("__class__", cc)], cd⟩ f A outer s H E) (e :: es) ta ∧ PSs (ncx CX P w K mg base N ⟨"__init__", qual, pa, bo, sc, [("__class__", cc)], cd⟩ f A outer s H E) rest t ∧
        ∃ a vr, vs = .ref a :: vr ∧ H a = some (exo a D none) ∧ ta (startF N vs [some (.ref D)]) H fun ws H1 => ws.length ≤ 1000 ∧ H1 a = some (exo a D none) ∧ t { nx := fun _ H' => Q .non H', rt := Q } (startF N vs [some (.ref D)]) H1) :
    FnOk P w K mg base CX (k + 1) f fd ps sp := by
  obtain ⟨oc, od, dV, kV, doc, pm, an, ct, osl, rfl, lk⟩ := T.ex
  refine ⟨len, fun A outer s H args us vs Q E hr e0 hb r hsp => ?_⟩
  have hl := len _ _ _ _ hsp
  have KX : K.In s.heap := e0.mod.kin.keeps fun b o e => (e0.bs b o e).1
  have lim : s.heap.NoLimit := e0.mod.nolimit.keeps fun b o e => (e0.bs b o e).1
  obtain ⟨cl1, dd1, sl1, hcell⟩ := T.cell
  have hcn : H cc = none := (e0.bs _ _ (e0.mod.kin _ _ hcell)).2
  have CA : CellsAt [("__class__", cc)] ["__class__"] [some (.ref D)] s.heap H := by
    refine ⟨rfl, fun y c e => ?_, fun x y c e1 e2 => ?_, fun i y hi => ?_⟩
    · simp only [List.lookup] at e
      split at e
      · cases e; exact ⟨hcn, _, _, KX _ _ hcell, rfl⟩
      · cases e
    · simp only [List.lookup] at e1 e2
      split at e1
      · split at e2
        · rename_i z1 _ z2
          exact (beq_iff_eq.mp z1).trans (beq_iff_eq.mp z2).symm
        · cases e2
      · cases e1
    · cases i with
      | zero =>
        cases hi
        refine ⟨cc, rfl, fun v ev => ?_⟩
        cases ev
        exact ⟨.ref D, rfl, _, KX _ _ hcell, rfl⟩
      | succ n => simp at hi
  obtain ⟨ta, t, hA, hS, a, vr, rfl, hea, hq⟩ := hbody A outer s H _ Q E (hr.deeper _) hsp
  refine ks_codeAny_call_defAt hr.depth (KX _ _ lk) rfl lim (PySem.W.codeRec_of KX T.co) rfl hb S.nocell (fun ⟨n, _⟩ hy => S.par n (List.of_mem_zip hy).1) (fun h0 hns hk => ?_) S.co S.gen S.kind
  have I : Inv (ncx CX P w K mg base N ⟨"__init__", qual, pa, bo, sc, [("__class__", cc)], cd⟩ f A outer s H E) [] (startF N (.ref a :: vr) [some (.ref D)]) H { s with heap := h0, toks := s.toks + (ps.zip us).length } := inv_startN S hr.hd e0 hl r CA hns hk
  show _root_.PySem.wpAt _ (A.deeper (envF ⟨"__init__", qual, pa, bo, sc, [("__class__", cc)], cd⟩ f s.heap.objs.size)) (.func bo (envF ⟨"__init__", qual, pa, bo, sc, [("__class__", cc)], cd⟩ f s.heap.objs.size)) (execs bo (envF ⟨"__init__", qual, pa, bo, sc, [("__class__", cc)], cd⟩ f s.heap.objs.size)) _ _ _
  generalize hX : ncx CX P w K mg base N ⟨"__init__", qual, pa, bo, sc, [("__class__", cc)], cd⟩ f A outer s H E = X at *
  have hXe : X.env = envF ⟨"__init__", qual, pa, bo, sc, [("__class__", cc)], cd⟩ f s.heap.objs.size := by rw [← hX] <;> rfl
  have hXA : X.A = A.deeper (envF ⟨"__init__", qual, pa, bo, sc, [("__class__", cc)], cd⟩ f s.heap.objs.size) := by rw [← hX] <;> rfl
  have hK : X.K = K := by rw [← hX] <;> rfl
  have hP : X.prog = P := by rw [← hX] <;> rfl
  have hW : X.w = w := by rw [← hX] <;> rfl
  have hmg : X.mg = mg := by rw [← hX] <;> rfl
  have hN : X.N = N := by rw [← hX] <;> rfl
  have hxe : X.xe = fun e s' => wpAny (model P w) (A.deeper (envF ⟨"__init__", qual, pa, bo, sc, [("__class__", cc)], cd⟩ f s.heap.objs.size)) (leaving (envF ⟨"__init__", qual, pa, bo, sc, [("__class__", cc)], cd⟩ f s.heap.objs.size) e) (fun _ s'' => CX outer H s E e s'') (fun e' s'' => CX outer H s E e' s'') s' := by rw [← hX] <;> rfl
  have hs0 : X.s_0 = s := by rw [← hX] <;> rfl
  have hH0 : X.H_0 = H := by rw [← hX] <;> rfl
  have hstk : X.stack = envF ⟨"__init__", qual, pa, bo, sc, [("__class__", cc)], cd⟩ f s.heap.objs.size :: outer := by rw [← hX] <;> rfl
  have hfs : X.fs = frs outer := by rw [← hX] <;> rfl
  have hex : X.ex = [] := by rw [← hX] <;> rfl
  obtain ⟨cl2, dd2, vs2, sl2, fi, tf, hcode, hvs, hfi⟩ := T.file
  obtain ⟨cdD, hcd⟩ := T.isc
  obtain ⟨m, hm, hlook⟩ := I.loc
  obtain ⟨u0, ru0, hu0⟩ := hlook 0 p0.arg (.ref a) (by rw [hN]; exact hps) rfl (by rw [hXe]; exact .inl hp1)
  obtain rfl : u0 = Value.ref a := ru0
  have hself : m p0.arg = some (.ref a) := by
    rcases hu0 with ⟨_, z⟩ | ⟨z, _⟩
    · exact z
    · rw [hXe] at z
      have z1 : sc.names.lookup p0.arg = some .cell ∨ sc.names.lookup p0.arg = some .free := z
      rw [hp1] at z1
      rcases z1 with z1 | z1 <;> cases z1
  have kin : K.In h0 := by have q := I.kIn; rw [hK] at q; exact q
  rw [hXe] at hm
  subst hbo
  refine ks_wpAt_execs_cons (ks_wpAt_Expr_any (ks_wpAt_MethodCall ?_ (hev _)) (hi := by simp [interactive, S.kind]))
  obtain ⟨oD, hD1, hD2⟩ : ∃ oD, h0.get? D = some oD ∧ oD.data = .cls cdD := by
    unfold PySem.W.clsIn at hcd
    split at hcd
    · rename_i c d cd' sl ho
      cases hcd
      exact ⟨_, kin _ _ ho, rfl⟩
    · cases hcd
  obtain ⟨t1, hoe⟩ := exo_at I.hok hea
  have IA : PySem.W.InstAt h0 a ({ cls := .ref D, dict := none, data := .fields #[.ref t1, .none, .none, .none, .bool false, .none] } : Obj) D none := ⟨hoe, rfl, rfl, trivial⟩
  refine ks_wpAt_super_base hks (S.frk _ List.mem_cons_self) (by decide) rfl (hk _ _ (KX _ _ lk)) rfl hp rfl (hk _ _ (KX _ _ hcode)) rfl hvs hfi top ?_
  obtain ⟨mb, hb1, hb2⟩ := I.mod.blt
  have hbs : mb "super" = some (.type "super") := (hb2 ("super" : Str) (by decide)).trans (by first | boot_by_name | rfl | decide +kernel)
  refine PySem.W.ks_loadName_global S.kind hks (PySem.Calls.loadGlobal_builtin (mg := mg) (by have q := I.mod.glob.keeps I.bk; rw [hmg] at q; exact q) mS (hb1.keeps I.bk) hbs ⟨rfl, ?_⟩)
  refine wpAny_loadName_free S.kind (S.frk _ List.mem_cons_self) rfl ⟨_, kin _ _ hcell, rfl⟩ ?_
  refine wpAny_loadName_local S.kind hp1 hm hself ?_
  refine ks_wpAny_isType_cls hD1 hD2 ⟨rfl, ?_⟩
  refine ks_wpAny_call_super hD1 hD2 hoe rfl (fun c z => by cases z) (PySem.W.looks_mroIn kin T.sub) (fun h1 hso kp1 => ?_)
  have I1 := I.kept (h' := h1) (t' := s.toks + (ps.zip us).length) kp1
  have kin1 : K.In h1 := by have q := I1.kIn; rw [hK] at q; exact q
  have hoe1 := kp1 _ _ hoe
  have hsup := T.sup
  unfold PySem.W.ks_superIn at hsup
  rw [hcd] at hsup
  have IA1 : PySem.W.InstAt h1 a ({ cls := .ref D, dict := none, data := .fields #[.ref t1, .none, .none, .none, .bool false, .none] } : Obj) D none := ⟨hoe1, rfl, rfl, trivial⟩
  refine PySem.W.kxs_getMethod PySem.W.kxs_ValueError hso (PySem.W.looks_opaque kin1 T.opq) (l₀ := cdD.mro) (fun A Q E s k q => wpAny_bind ((PySem.W.looks_clsIn kin1 hcd) A _ E s k (wpAny_pure q))) rfl kin1 hsup (IA1.type.andThen (PySem.W.looks_subIn kin1 T.ve)) (PySem.W.ks_ne kin1 IA1 hcd) (by decide) ?_
  have kp2 : ∀ b o, h1.get? b = some o → (h1.push (PySem.W.kxs_mw "ValueError.__init__" a)).get? b = some o := fun b o z => Heap.get?_push_of_some _ z
  have hu : (h1.push (PySem.W.kxs_mw "ValueError.__init__" a)).get? h1.objs.size = some (PySem.W.kxs_mw "ValueError.__init__" a) := Heap.get?_push_at rfl rfl
  have I2 := I1.kept (h' := h1.push (PySem.W.kxs_mw "ValueError.__init__" a)) (t' := s.toks + (ps.zip us).length + 1) kp2
  have hfresh : H h1.objs.size = none := I1.hok.fresh (Nat.le_refl _)
  have hsz : h1.objs.size ≠ X.env.locals := Nat.ne_of_gt I1.lt
  have I3 : Inv X [(h1.objs.size, PySem.W.kxs_mw "ValueError.__init__" a)] (startF N (.ref a :: vr) [some (.ref D)]) H ⟨h1.push (PySem.W.kxs_mw "ValueError.__init__" a), s.gens, s.drawn, s.toks + (ps.zip us).length + 1, s.os⟩ := I2.pins_of fun p hp => by
    have hp' : p = (h1.objs.size, PySem.W.kxs_mw "ValueError.__init__" a) := by simpa using hp
    subst hp'
    exact ⟨hu, hfresh, hsz, I1.nofs (Nat.le_refl _), fun v z => by cases z⟩
  rw [← hP, ← hW]
  rw [he]
  refine PySem.W.kxs_callWith (i := "ValueError.__init__") (x := a) (by show (false || (backTo q3 (starEach es _)).any (·.1)) = false; rw [hpl]; rfl) ?_
  have hA2 := hA.run q3 _ _ _ _ (fun ws H1 => ws.length ≤ 1000 ∧ H1 a = some (exo a D none) ∧ t { nx := fun _ H' => Q .non H', rt := Q } (startF N (.ref a :: vr) [some (.ref D)]) H1) I3 hq
  rw [hXe, he, hXA, hxe] at hA2
  refine PySem.Calls.evalArgs_plain (wpAny_mono hA2 (fun us3 s3 h3 => ?_) (fun _ _ z => by rw [hP, hW]; exact z))
  obtain ⟨ws, H3, J, rv, hlen, hea3, hq3⟩ := h3
  have hu3 : s3.heap.get? h1.objs.size = some (PySem.W.kxs_mw "ValueError.__init__" a) := (J.pin _ (List.mem_append_right _ (List.mem_singleton.mpr rfl))).1
  refine ⟨hu3, ?_⟩
  have J0 : Inv X [] (startF N (.ref a :: vr) [some (.ref D)]) H3 s3 := J.pins_of fun p hp => by simp at hp
  have hus : us3.length ≤ sizeLine := by
    rw [← rv.length, sizeLine_eq]
    omega
  show wpAny _ _ (call (.ref h1.objs.size) us3) _ _ s3
  obtain ⟨nm, q, Nn, bs, bm, sn, sub, ab, col, dd, k0, k1, k2, k3, k5, hC, hbm⟩ := T.oex.cls
  have kin3 : K.In s3.heap := by have q := J0.kIn; rw [hK] at q; exact q
  obtain ⟨t3, ho3⟩ := exo_at J0.hok hea3
  obtain ⟨hp3, g3, d3, tk3, os3⟩ := s3
  refine wpAny_call (codeAny_of_tree ?_)
  show wpAny _ _ (callAny (.ref h1.objs.size) ⟨us3, []⟩) _ _ _
  simp only [callAny]
  refine wpAny_bind (wpAny_load hu3 ?_)
  simp only [PySem.W.kxs_mw, show (Value.type "method-wrapper" == Value.type "method" || Value.type "method-wrapper" == Value.type "builtin_function_or_method" || Value.type "method-wrapper" == Value.type "method-wrapper") = true by decide, if_true]
  refine PySem.W.KFB.if_so (by decide) ?_
  refine wpAny_bind (PySem.W.check_bound_init F.excBase_ValueError.toExcCallFacts (kin3 _ _ hC) ho3 rfl ?_)
  refine wpAny_bind (wpAny_pure (wpAny_pure ?_))
  refine ⟨plainId_quiet F.excBase_ValueError.init.plain _, codeAny_builtin F.excBase_ValueError.initEntry ?_⟩
  refine PySem.W.exc_init_tree (cls := .ref D) (t0 := t3) (dv := none) (c2 := .none) (c3 := .none) (b4 := .bool false) ho3 hus fun h4 kp4 hx4 _ => ?_
  have J4 := J0.write (t' := tk3) (x := a) (e := a) (o := exo a D none) (by rw [hea3]; exact True.intro) (.inl rfl) kp4 ⟨_, hx4⟩ (exo_ok hx4)
  have eu : upd H3 a (exo a D none) = H3 := by
    funext b
    by_cases hb : b = a
    · rw [hb, upd_same, hea3]
    · rw [upd_ne hb]
  rw [eu] at J4
  have hS4 := hS.run _ _ _ _ { nx := fun _ H' => Q .non H', rt := Q } J4 hq3
  rw [hXe, hXA, hxe, hP, hW] at hS4
  show _root_.PySem.wpAt _ _ _ _ _ _ _
  rw [hP, hW]
  refine wpAt_of_wpAny (wpAny_mono hS4 (fun fl s' hs => ?_) fun _ _ z => z)
  have fin : ∀ {σ' : L2.St} {H' : Hp} {v : V} {u : Value}, Inv X [] σ' H' s' → RelV v u → Q v H' → CE outer P w H s Q u s' := fun {σ' H' v u} J rv q => by
    have b1 := J.base
    have o1 := J.os
    have k1 := J.hok
    rw [hfs, hex, hH0, hs0] at b1
    rw [hs0] at o1
    rw [hP, hW] at k1
    exact ⟨v, H', o1, J.bare, b1, k1, rv, q⟩
  cases fl with
  | ret u =>
    obtain ⟨v, σ', H', J, rv, q⟩ := hs
    exact fin J rv q
  | next =>
    obtain ⟨σ', H', J, q⟩ := hs
    exact fin (v := V.non) (u := Value.none) J rfl q
  | brk =>
    obtain ⟨_, _, _, q⟩ := hs
    exact False.elim q
  | cont =>
    obtain ⟨_, _, _, q⟩ := hs
    exact False.elim q
end
end Sy
/-! tuple.count, tuple * int of any size, a tuple of ints in an f-string (own rules) -/
namespace Sy
open PySem PySem.Spec PyProof.Rows L2
open AutoSeq1 (wpAny_loadPart')
section
variable {X : Cx}
/-- t.count(y), all flat -/
def rTCnt (K : PySem.W.Frag) : V → List V → Hp → VK → Prop := fun x xs H Q => ∃ (a : Addr) (ys : List V) (y : V), x = V.ref a ∧ xs = [y] ∧ SqT K H a ys ∧ flatV y = true ∧ ys.all flatV = true ∧ Q (.int (ys.countP fun z => eqV z y : Nat)) H
theorem countU {y : V} : ∀ {ys : List V} {its : List Value}, Vals ys its → ys.all flatV = true → its.countP (eqU y) = ys.countP fun z => eqV z y
  | [], _, r, _ => by cases r; rfl
  | z :: ys, _, r, f => by
    cases r with
    | cons r1 r2 =>
      have f' := Bool.and_eq_true_iff.mp (show (flatV z && ys.all flatV) = true from f)
      rw [List.countP_cons, List.countP_cons, countU r2 f'.2, eqU_of r1 f'.1]
theorem mt_tcount : MtR X "tuple.count" (rTCnt X.K) := by
  intro pins s σ H x xs v us Q I rx rxs h
  obtain ⟨a, ys, y, rfl, rfl, hs, fy, fys, q⟩ := h
  cases rx
  cases rxs with
  | cons ry rt =>
    rename_i uy ut
    cases rt
    obtain ⟨its, rv, ⟨⟨cls, dd, data, sl⟩, ho, hc, n, hd⟩, hlen⟩ := I.tuple hs
    simp only at hc hd
    subst hc hd
    refine call_meets PySem.F.slot_tuple_count ⟨_, ho, rfl⟩ PySem.F.entry_tuple_count (PySem.F.args_tuple_count_2 _ _) (SeqAt.tuple_countAt a its.toArray n dd sl uy (eqU y)) ⟨ho, fun u' hu' => mem_eqAt ry fy rv fys u' (by simpa using hu'), ?_⟩
    have e1 : its.toArray.toList.countP (eqU y) = ys.countP fun z => eqV z y := by
      rw [← countU rv fys]
    rw [e1]
    exact ⟨.int (ys.countP fun z => eqV z y : Nat), H, I.tok _, ⟨_, rfl⟩, q⟩
/-! tuple * int -/
theorem tupMul1 (l : Addr) (items : Array Value) (n : Nat) (dd : Option Addr) (sl : Array (Option Value)) (x : Int) (u : Tok) (c0 : (decide (x < -(2 ^ 63)) || decide (x ≥ 2 ^ 63)) = false) (c1 : (items.isEmpty || x == 1) = true) :
    Meets (Builtin.«tuple.__mul__» ⟨[.ref l, .int x u], []⟩) (fun _ R s => s.heap.get? l = some { cls := .type "tuple", dict := dd, data := .seq items n, slots := sl } ∧ R (.ok (.ret (Value.ref l))) s) :=
  .of_wp fun prog w A R s h => by
    obtain ⟨hp, g, d, tk, os⟩ := s
    obtain ⟨hl, h⟩ := h
    have f1 := AutoSeq1.idx_int
    wp_walk using wpAny_loadPart' hl
    repeat (first
      | (refine wpAny_ite_false (decide_eq_false (by rw [c0]; exact Bool.false_ne_true)) ?_; wp_walk using wpAny_loadPart' hl)
      | (refine wpAny_ite_true (decide_eq_true c1) ?_; wp_walk using wpAny_loadPart' hl))
    all_goals exact ⟨_, rfl, h⟩
theorem tupMul0 (l : Addr) (items : Array Value) (n : Nat) (dd : Option Addr) (sl : Array (Option Value)) (x : Int) (u : Tok) (c0 : (decide (x < -(2 ^ 63)) || decide (x ≥ 2 ^ 63)) = false) (c1 : (items.isEmpty || x == 1) = false) (c2 : (decide (x ≤ 0) || items.isEmpty) = true) :
    Meets (Builtin.«tuple.__mul__» ⟨[.ref l, .int x u], []⟩) (fun _ R s => s.heap.get? l = some { cls := .type "tuple", dict := dd, data := .seq items n, slots := sl } ∧
      R (.ok (.ret (Value.ref s.heap.objs.size))) { s with heap := s.heap.push { cls := Value.type "tuple", data := Data.seq #[] } }) :=
  .of_wp fun prog w A R s h => by
    obtain ⟨hp, g, d, tk, os⟩ := s
    obtain ⟨hl, h⟩ := h
    have f1 := AutoSeq1.idx_int
    wp_walk using wpAny_loadPart' hl
    repeat (first
      | (refine wpAny_ite_false (decide_eq_false (by rw [c0]; exact Bool.false_ne_true)) ?_; wp_walk using wpAny_loadPart' hl)
      | (refine wpAny_ite_false (decide_eq_false (by rw [c1]; exact Bool.false_ne_true)) ?_; wp_walk using wpAny_loadPart' hl)
      | (refine wpAny_ite_true (decide_eq_true c2) ?_; wp_walk using wpAny_loadPart' hl))
    all_goals exact ⟨_, rfl, h⟩
/-- t * k: t itself where k is 1 or t is empty -/
def rRepG (K : PySem.W.Frag) : R2 := fun x y H Q => ∃ l k xs, x = .ref l ∧ y = .int k ∧ SqT K H l xs ∧ -(2 ^ 63) ≤ k ∧ k < 2 ^ 63 ∧ xs.length * k.toNat ≤ 1000000 ∧ xs.length ≤ 1000000 ∧
  ((xs = [] ∨ k = 1) → Q (.ref l) H) ∧ (¬(xs = [] ∨ k = 1) → ∀ p, H p = none → Q (.ref p) (upd H p (.tup (List.replicate k.toNat xs).flatten)))
theorem op_repG : OpR X (binaryOp .Mult) (rRepG X.K) := by
  intro pins s σ H x y v u Q I rx ry h
  obtain ⟨l, k, xs, rfl, rfl, hT, h1, h2, hz, hzl, qa, qb⟩ := h
  cases rx
  obtain ⟨t, rfl⟩ := ry
  obtain ⟨its, r, ⟨⟨cls, dd, data, sl⟩, ho, hc, n, hd⟩, hs⟩ := I.tuple hT
  simp only at hc hd
  subst hc hd
  have hle : its.length = xs.length := r.length.symm
  have c0 : (decide (k < -(2 ^ 63)) || decide (k ≥ 2 ^ 63)) = false := by
    rw [decide_eq_false (by omega), decide_eq_false (by omega)] <;> rfl
  have run : ∀ {Bb : Builtin} {R : Value → Shared → Prop}, Builtin.«tuple.__mul__» = Bb → wpAny (model X.prog X.w) X.A (call (.builtin "tuple.__mul__") [.ref l, .int k t]) R X.xe s → wpAny (model X.prog X.w) X.A (binaryOp .Mult (.ref l) (.int k t)) R X.xe s := fun _ hw =>
    wpAny_binaryOp_repeat_ref (T := "tuple") (U := "int") (by decide) ⟨_, ho, rfl⟩ (fun s' => typeIs_int s' k t) noFill_tuple_mul F.fills_int_mul F.slot_int_rmul repeat_tuple F.slot_int_index.lookup
      (call_meets F.slot_int_rmul (typeIs_int s k t) F.entry_int_rmul (F.args_int_rmul_2 _ _) (int_rmul_tuple k t l its.toArray n dd sl) ⟨ho, rfl, ⟨_, ho, rfl⟩, hw⟩)
  have eE : its.toArray.isEmpty = decide (xs = []) := by
    cases xs with
    | nil => cases r; rfl
    | cons a b => cases r; rfl
  by_cases hc : xs = [] ∨ k = 1
  · refine run rfl (call_meets F.slot_tuple_mul ⟨_, ho, rfl⟩ F.entry_tuple_mul (F.args_tuple_mul_2 _ _) (tupMul1 l its.toArray n dd sl k t c0 ?_) ⟨ho, ?_⟩)
    · rw [eE]
      rcases hc with hc | hc
      · rw [decide_eq_true hc, Bool.true_or]
      · rw [hc]
        exact Bool.or_true _
    · exact ⟨.ref l, H, I, rfl, qa hc⟩
  · have c1 : (its.toArray.isEmpty || k == 1) = false := by
      rw [eE, decide_eq_false (fun z => hc (.inl z)), Bool.false_or]
      exact beq_eq_false_iff_ne.mpr fun z => hc (.inr z)
    by_cases hk : k ≤ 0
    · refine run rfl (call_meets F.slot_tuple_mul ⟨_, ho, rfl⟩ F.entry_tuple_mul (F.args_tuple_mul_2 _ _) (tupMul0 l its.toArray n dd sl k t c0 c1 (by rw [decide_eq_true hk, Bool.true_or])) ⟨ho, ?_⟩)
      have e0 : k.toNat = 0 := by omega
      have q := qb hc _ (I.hok.fresh (Nat.le_refl _))
      rw [e0] at q
      refine ⟨.ref s.heap.objs.size, _, I.laid (t' := s.toks) (o := .tup (List.replicate 0 xs).flatten) (fun b ob q => Heap.get?_push_of_some _ q) (Nat.le_refl _) ?_, rfl, q⟩
      exact ⟨Nat.zero_le _, [], .nil, IsTup.new _ _⟩
    · have h3 : ((its.toArray.size : Nat) : Int) * k ≤ 1000000 := by
        rw [List.size_toArray, hle]
        have e1 : ((xs.length : Nat) : Int) * k = ((xs.length * k.toNat : Nat) : Int) := by
          rw [Int.natCast_mul, Int.toNat_of_nonneg (by omega)]
        rw [e1]
        generalize xs.length * k.toNat = m at hz ⊢
        omega
      have flen : (List.replicate k.toNat its).flatten.length ≤ 1000000 := by
        rw [PyProof.Rows.lm_len_rep_flat, hle, Nat.mul_comm]
        exact hz
      have sl24 := sizeLine_eq
      refine run rfl (call_meets F.slot_tuple_mul ⟨_, ho, rfl⟩ F.entry_tuple_mul (F.args_tuple_mul_2 _ _) (tuple_mulW l its.toArray n dd sl k t c0 c1 (by rw [decide_eq_false hk, Bool.false_or, eE]; exact decide_eq_false fun z => hc (.inl z)) (by omega) (by unfold Builtin.Tuple.tupleTooMany; exact decide_eq_false (by omega)) (by rw [size_rep, List.size_toArray]; omega)) ⟨ho, ?_⟩)
      rw [size_rep]
      refine ⟨.ref s.heap.objs.size, _, I.laid (t' := s.toks) (o := .tup (List.replicate k.toNat xs).flatten) (fun b ob q => Heap.get?_push_of_some _ q) (Nat.le_refl _) ?_, rfl, qb hc _ (I.hok.fresh (Nat.le_refl _))⟩
      exact ⟨by rw [PyProof.Rows.lm_len_rep_flat, Nat.mul_comm]; omega, _, r.rep k.toNat, IsTup.new _ _⟩
/-! a tuple of ints in an f-string -/
theorem reprInts {prog : Program} {w : World} : ∀ {l : List Int} {its : List Value}, Vals (l.map V.int) its → (∀ y ∈ l, y.natAbs.log2 < 1920) → ReprAll prog w its (l.map fun y => (toString y : Str))
  | [], _, r, _ => by
    cases r
    exact .nil
  | y :: l, _, r, h => by
    cases r with
    | cons r1 r2 =>
      obtain ⟨t, rfl⟩ := r1
      exact .cons (ReprIs.int t (h y List.mem_cons_self)) (reprInts r2 fun z hz => h z (List.mem_cons_of_mem _ hz))
theorem piledInts : ∀ l : List Int, (∀ y ∈ l, y.natAbs.log2 < 1920) → piled (l.map fun y => (toString y : Str)) ≤ 1923 * l.length
  | [], _ => Nat.zero_le _
  | y :: l, h => by
    have h1 := int_text_len_1921 (h y List.mem_cons_self)
    have h2 := piledInts l fun z hz => h z (List.mem_cons_of_mem _ hz)
    rw [List.map_cons, piled_cons, List.length_cons]
    omega
def tFmtI (K : PySem.W.Frag) (te : TE) : TE := fun σ H Q => te σ H fun x H1 => ∃ (a : Addr) (l : List Int), x = .ref a ∧ SqT K H1 a (l.map V.int) ∧ (∀ y ∈ l, y.natAbs.log2 < 1920) ∧ l.length ≤ 5000 ∧ ∀ m : Str, m.length ≤ 9700000 → Q (.str m) H1
theorem pe_fmtI {e : Expr} {te : TE} {pos : Pos} {k : Nat} (hr : Room k X.A) (he : PE X e te) : PE X (.FormattedValue e (-1) none pos) (tFmtI X.K te) := by
  refine ⟨fun pins s σ H Q I h => ?_⟩
  refine wpAny_FormattedValue_plain (thn (he.run pins s σ H _ I h) fun v s1 hv => ?_)
  obtain ⟨x, H1, I1, r1, a, l, rfl, ht, hc, hz, q⟩ := hv
  cases r1
  obtain ⟨its, rv, ⟨o, ho, hcl, n, hd⟩, _⟩ := I1.tuple ht
  have hp := piledInts l hc
  have htx := fmt_text (l.map fun y => (toString y : Str))
  have hu := hr.units
  have hsl := sizeLine_eq
  refine fmt_tuple (ts := l.map fun y => (toString y : Str)) (by omega) ho hcl hd (reprInts rv hc) (by omega) fun m u tk hm => ⟨.str m, H1, I1.tok _, ⟨u, rfl⟩, q m (by omega)⟩
end
end Sy
/-! own core: heaps, data that never changes, callables, forms of loops -/
namespace Sy
open PySem PySem.Spec PyProof.Rows L2
/-! ### heaps -/
theorem up_same {H : Hp} {p : Addr} {o : HO} (h : H p = none) : Same H (upd H p o) := fun b x e => by
  rw [upd_ne (ne_of_none e h)]
  exact e
theorem Same.sqt {K : PySem.W.Frag} {H H' : Hp} {a : Addr} {xs : List V} (e : Same H H') (h : SqT K H a xs) : SqT K H' a xs := by
  rcases h with (h | ⟨o, h⟩) | h
  · exact .inl (.inl (e _ _ h))
  · exact .inl (.inr ⟨o, e _ _ h⟩)
  · exact .inr h
/-- what is no list of one's own stays -/
def Stay (H H' : Hp) : Prop := ∀ a o, H a = some o → (∀ xs, o ≠ .lst xs) → H' a = some o
theorem Stay.of {H H' : Hp} (s : Same H H') : Stay H H' := fun a o h _ => s a o h
theorem Stay.refl (H : Hp) : Stay H H := fun _ _ h _ => h
theorem Stay.trans {H H1 H2 : Hp} (a : Stay H H1) (b : Stay H1 H2) : Stay H H2 := fun c o h n => b c o (a c o h n) n
theorem Stay.lst {H : Hp} {p : Addr} {xs : List V} {o : HO} (h : H p = some (.lst xs)) : Stay H (upd H p o) := fun a x e n => by
  rw [upd_ne]
  · exact e
  · intro z
    rw [z, h] at e
    exact n _ (Option.some.inj e).symm
theorem Stay.new {H : Hp} {p : Addr} {o : HO} (h : H p = none) : Stay H (upd H p o) := Stay.of (up_same h)
theorem Stay.sqt {K : PySem.W.Frag} {H H' : Hp} {a : Addr} {xs : List V} (e : Stay H H') (h : SqT K H a xs) : SqT K H' a xs := by
  rcases h with (h | ⟨o, h⟩) | h
  · exact .inl (.inl (e _ _ h fun _ z => by cases z))
  · exact .inl (.inr ⟨o, e _ _ h fun _ z => by cases z⟩)
  · exact .inr h
/-! ### data that never changes -/
mutual
inductive Im (K : PySem.W.Frag) (H : Hp) : V → PyData → Prop
  | non : Im K H .non .none
  | bl (b : Bool) : Im K H (.bl b) (.bool b)
  | int (i : Int) : Im K H (.int i) (.int i)
  | str (x : Str) : Im K H (.str x) (.str x)
  | tup {a : Addr} {xs : List V} {ds : List PyData} : SqT K H a xs → ImA K H xs ds → Im K H (.ref a) (.tuple ds)
inductive ImA (K : PySem.W.Frag) (H : Hp) : List V → List PyData → Prop
  | nil : ImA K H [] []
  | cons {v : V} {vs : List V} {d : PyData} {ds : List PyData} : Im K H v d → ImA K H vs ds → ImA K H (v :: vs) (d :: ds)
end
mutual
theorem Im.mono {K : PySem.W.Frag} {H H' : Hp} (s : Stay H H') : ∀ {v : V} {d : PyData}, Im K H v d → Im K H' v d
  | _, _, .non => .non
  | _, _, .bl b => .bl b
  | _, _, .int i => .int i
  | _, _, .str x => .str x
  | _, _, .tup h a => .tup (s.sqt h) (ImA.mono s a)
theorem ImA.mono {K : PySem.W.Frag} {H H' : Hp} (s : Stay H H') : ∀ {vs : List V} {ds : List PyData}, ImA K H vs ds → ImA K H' vs ds
  | _, _, .nil => .nil
  | _, _, .cons a b => .cons (Im.mono s a) (ImA.mono s b)
end
mutual
theorem Im.dp {K : PySem.W.Frag} {H : Hp} : ∀ {v : V} {d : PyData}, Im K H v d → Dp K H v d
  | _, _, .non => .non
  | _, _, .bl b => .bl b
  | _, _, .int i => .int i
  | _, _, .str x => .str x
  | _, _, .tup h a => .tup h (ImA.dp a)
theorem ImA.dp {K : PySem.W.Frag} {H : Hp} : ∀ {vs : List V} {ds : List PyData}, ImA K H vs ds → DpAll K H vs ds
  | _, _, .nil => .nil
  | _, _, .cons a b => .cons (Im.dp a) (ImA.dp b)
end
theorem ImA.len {K : PySem.W.Frag} {H : Hp} : ∀ {vs : List V} {ds : List PyData}, ImA K H vs ds → vs.length = ds.length
  | _, _, .nil => rfl
  | _, _, .cons _ b => by rw [List.length_cons, List.length_cons, ImA.len b]
theorem ImA.get {K : PySem.W.Frag} {H : Hp} : ∀ {vs : List V} {ds : List PyData} {i : Nat} {d : PyData}, ImA K H vs ds → ds[i]? = some d → ∃ v, vs[i]? = some v ∧ Im K H v d
  | _, _, _, _, .nil, e => by simp at e
  | _, _, 0, _, .cons a _, e => by simp at e; subst e; exact ⟨_, rfl, a⟩
  | _, _, i + 1, d, .cons _ b, e => by
    obtain ⟨v, h1, h2⟩ := ImA.get (i := i) (d := d) b (by simpa using e)
    exact ⟨v, by simpa using h1, h2⟩
theorem ImA.app {K : PySem.W.Frag} {H : Hp} : ∀ {vs ws : List V} {ds es : List PyData}, ImA K H vs ds → ImA K H ws es → ImA K H (vs ++ ws) (ds ++ es)
  | _, _, _, _, .nil, b => b
  | _, _, _, _, .cons a r, b => .cons a (ImA.app r b)
theorem ImA.strs {K : PySem.W.Frag} {H : Hp} : ∀ l : List Str, ImA K H (l.map V.str) (l.map PyData.str)
  | [] => .nil
  | x :: l => .cons (.str x) (ImA.strs l)
theorem ImA.ints {K : PySem.W.Frag} {H : Hp} : ∀ l : List Int, ImA K H (l.map V.int) (l.map PyData.int)
  | [] => .nil
  | x :: l => .cons (.int x) (ImA.ints l)
theorem Im.strs {K : PySem.W.Frag} {H : Hp} {a : Addr} {l : List Str} (h : SqT K H a (l.map V.str)) : Im K H (.ref a) (.tuple (l.map PyData.str)) := .tup h (ImA.strs l)
theorem Im.ints {K : PySem.W.Frag} {H : Hp} {a : Addr} {l : List Int} (h : SqT K H a (l.map V.int)) : Im K H (.ref a) (.tuple (l.map PyData.int)) := .tup h (ImA.ints l)
/-! ### known for good, and own -/
structure Hs (B : Hp) (L : List (Addr × HO)) (H : Hp) : Prop where
  sub : Same B H
  own : ∀ q ∈ L, H q.1 = some q.2
  nd : (L.map (·.1)).Nodup
  ap : ∀ q ∈ L, B q.1 = none
section
variable {B B' H H' : Hp} {L : List (Addr × HO)} {p : Addr} {o o' : HO} {x y z u : Addr × HO}
theorem Hs.start (H : Hp) : Hs H [] H := ⟨Same.refl H, fun _ h => (nomatch h), List.nodup_nil, fun _ h => (nomatch h)⟩
theorem Hs.ne_of_new (h : Hs B L H) (hp : H p = none) : ∀ q ∈ L, q.1 ≠ p := fun q hq z => by
  have e := h.own q hq
  rw [z, hp] at e
  cases e
theorem Hs.new (h : Hs B L H) (hp : H p = none) : Hs B ((p, o) :: L) (upd H p o) where
  sub := h.sub.trans (up_same hp)
  own := fun q hq => by
    rcases List.mem_cons.mp hq with rfl | hq
    · exact upd_same
    · rw [upd_ne (h.ne_of_new hp q hq)]
      exact h.own q hq
  nd := List.nodup_cons.mpr ⟨fun hm => by
    obtain ⟨q, hq, e⟩ := List.mem_map.mp hm
    exact h.ne_of_new hp q hq e, h.nd⟩
  ap := fun q hq => by
    rcases List.mem_cons.mp hq with rfl | hq
    · exact h.sub.free hp
    · exact h.ap q hq
theorem Hs.tup (h : Hs B L H) (hp : H p = none) : Hs (upd B p o) L (upd H p o) where
  sub := fun b w e => by
    by_cases hb : b = p
    · subst hb
      rw [upd_same] at e ⊢
      exact e
    · rw [upd_ne hb] at e ⊢
      exact h.sub b w e
  own := fun q hq => by
    rw [upd_ne (h.ne_of_new hp q hq)]
    exact h.own q hq
  nd := h.nd
  ap := fun q hq => by
    rw [upd_ne (h.ne_of_new hp q hq)]
    exact h.ap q hq
/-- what is laid and never told of again -/
theorem Hs.lay (h : Hs B L H) (hp : H p = none) : Hs B L (upd H p o) where
  sub := h.sub.trans (up_same hp)
  own := fun q hq => by
    rw [upd_ne (h.ne_of_new hp q hq)]
    exact h.own q hq
  nd := h.nd
  ap := h.ap
theorem Hs.swap (h : Hs B (x :: y :: L) H) : Hs B (y :: x :: L) H :=
  ⟨h.sub, fun q hq => h.own q (by simp only [List.mem_cons] at hq ⊢; rcases hq with a | a | a <;> simp [a]),
   (List.Perm.swap _ _ _).nodup_iff.mp (by simpa using h.nd), fun q hq => h.ap q (by simp only [List.mem_cons] at hq ⊢; rcases hq with a | a | a <;> simp [a])⟩
theorem Hs.perm {L' : List (Addr × HO)} (h : Hs B L H) (pm : L.Perm L') : Hs B L' H :=
  ⟨h.sub, fun q hq => h.own q (pm.mem_iff.mpr hq), (pm.map _).nodup_iff.mp h.nd, fun q hq => h.ap q (pm.mem_iff.mpr hq)⟩
theorem Hs.r0 (h : Hs B ((p, o) :: L) H) : H p = some o := h.own (p, o) List.mem_cons_self
theorem Hs.r1 (h : Hs B (x :: (p, o) :: L) H) : H p = some o := h.own (p, o) (by simp)
theorem Hs.r2 (h : Hs B (x :: y :: (p, o) :: L) H) : H p = some o := h.own (p, o) (by simp)
theorem Hs.r3 (h : Hs B (x :: y :: z :: (p, o) :: L) H) : H p = some o := h.own (p, o) (by simp)
theorem Hs.r4 (h : Hs B (x :: y :: z :: u :: (p, o) :: L) H) : H p = some o := h.own (p, o) (by simp)
theorem Hs.w0 (h : Hs B ((p, o) :: L) H) : Hs B ((p, o') :: L) (upd H p o') where
  sub := fun b w e => by
    rw [upd_ne]
    · exact h.sub b w e
    · intro q
      have := h.ap (p, o) List.mem_cons_self
      rw [q, this] at e
      cases e
  own := fun q hq => by
    rcases List.mem_cons.mp hq with rfl | hq
    · exact upd_same
    · have nd := List.nodup_cons.mp h.nd
      rw [upd_ne]
      · exact h.own q (List.mem_cons_of_mem _ hq)
      · intro e
        exact nd.1 (List.mem_map.mpr ⟨q, hq, e⟩)
  nd := h.nd
  ap := fun q hq => by
    rcases List.mem_cons.mp hq with rfl | hq
    · exact h.ap (p, o) List.mem_cons_self
    · exact h.ap q (List.mem_cons_of_mem _ hq)
theorem Hs.w1 (h : Hs B (x :: (p, o) :: L) H) : Hs B (x :: (p, o') :: L) (upd H p o') := h.swap.w0.swap
theorem Hs.w2 (h : Hs B (x :: y :: (p, o) :: L) H) : Hs B (x :: y :: (p, o') :: L) (upd H p o') :=
  (h.perm (L' := (p, o) :: x :: y :: L) ((List.Perm.cons _ (List.Perm.swap _ _ _)).trans (List.Perm.swap _ _ _))).w0.perm ((List.Perm.swap _ _ _).trans (List.Perm.cons _ (List.Perm.swap _ _ _)))
theorem Hs.drop (h : Hs B (x :: L) H) : Hs B L H := ⟨h.sub, fun q hq => h.own q (List.mem_cons_of_mem _ hq), (List.nodup_cons.mp h.nd).2, fun q hq => h.ap q (List.mem_cons_of_mem _ hq)⟩
/-- own no more: known for good -/
theorem Hs.give (h : Hs B ((p, o) :: L) H) : Same B (upd B p o) ∧ Hs (upd B p o) L H := by
  have hp : B p = none := h.ap (p, o) List.mem_cons_self
  refine ⟨up_same hp, fun b w e => ?_, fun q hq => h.own q (List.mem_cons_of_mem _ hq), (List.nodup_cons.mp h.nd).2, fun q hq => ?_⟩
  · by_cases hb : b = p
    · subst hb
      rw [upd_same] at e
      rw [h.r0]
      exact e
    · rw [upd_ne hb] at e
      exact h.sub b w e
  · rw [upd_ne]
    · exact h.ap q (List.mem_cons_of_mem _ hq)
    · intro e
      exact (List.nodup_cons.mp h.nd).1 (List.mem_map.mpr ⟨q, hq, e⟩)
/-- a known list (an argument that the def changes) becomes own -/
theorem Hs.take (h : Hs B L H) (hb : B p = some o) : Hs (L2.del B p) ((p, o) :: L) H where
  sub := fun b w e => by
    unfold L2.del at e
    split at e
    · cases e
    · exact h.sub b w e
  own := fun q hq => by
    rcases List.mem_cons.mp hq with rfl | hq
    · exact h.sub _ _ hb
    · exact h.own q hq
  nd := by
    refine List.nodup_cons.mpr ⟨fun hm => ?_, h.nd⟩
    obtain ⟨q, hq, e⟩ := List.mem_map.mp hm
    have e2 := h.ap q hq
    rw [e, hb] at e2
    cases e2
  ap := fun q hq => by
    rcases List.mem_cons.mp hq with rfl | hq
    · exact del_same
    · unfold L2.del
      split
      · rfl
      · exact h.ap q hq
theorem stay_del {xs : List V} (hb : B p = some (.lst xs)) : Stay B (L2.del B p) := fun a w e n => by
  rw [del_ne]
  · exact e
  · intro z
    rw [z, hb] at e
    exact n _ (Option.some.inj e).symm
/-! behind a call -/
def cut (L : List (Addr × HO)) (H : Hp) : Hp := fun a => if a ∈ L.map (·.1) then none else H a
theorem cut_at {a : Addr} (h : a ∉ L.map (·.1)) : cut L H a = H a := if_neg h
theorem cut_in {a : Addr} (h : a ∈ L.map (·.1)) : cut L H a = none := if_pos h
theorem Hs.out (h : Hs B L H) {a : Addr} {w : HO} (e : B a = some w) : a ∉ L.map (·.1) := fun hm => by
  obtain ⟨q, hq, z⟩ := List.mem_map.mp hm
  have := h.ap q hq
  rw [z, e] at this
  cases this
theorem Hs.out_new (h : Hs B L H) {a : Addr} (e : H a = none) : a ∉ L.map (·.1) := fun hm => by
  obtain ⟨q, hq, z⟩ := List.mem_map.mp hm
  have := h.own q hq
  rw [z, e] at this
  cases this
/-- a call that changes nothing tracked -/
theorem Hs.after (h : Hs B L H) (s : Same H H') : Same B (cut L H') ∧ Hs (cut L H') L H' :=
  ⟨fun a w e => by rw [cut_at (h.out e)]; exact s a w (h.sub a w e), fun a w e => by
    unfold cut at e
    split at e
    · cases e
    · exact e, fun q hq => s _ _ (h.own q hq), h.nd, fun q hq => cut_in (List.mem_map_of_mem hq)⟩
/-- .. that changes the one at p -/
def Chg (p : Addr) (o' : HO) (H H' : Hp) : Prop := H' p = some o' ∧ ∀ a w, a ≠ p → H a = some w → H' a = some w
theorem Hs.chg (h : Hs B ((p, o) :: L) H) (s : Chg p o' H H') : Same B (cut ((p, o') :: L) H') ∧ Hs (cut ((p, o') :: L) H') ((p, o') :: L) H' := by
  have kk : ((p, o') :: L).map (·.1) = ((p, o) :: L).map (·.1) := rfl
  refine ⟨fun a w e => ?_, fun a w e => ?_, fun q hq => ?_, by rw [kk]; exact h.nd, fun q hq => cut_in (List.mem_map_of_mem hq)⟩
  · have ho := h.out e
    rw [cut_at (by rw [kk]; exact ho)]
    exact s.2 a w (fun z => ho (by rw [z]; simp)) (h.sub a w e)
  · unfold cut at e
    split at e
    · cases e
    · exact e
  · rcases List.mem_cons.mp hq with rfl | hq
    · exact s.1
    · refine s.2 _ _ (fun z => (List.nodup_cons.mp h.nd).1 (List.mem_map.mpr ⟨q, hq, z⟩)) (h.own q (List.mem_cons_of_mem _ hq))
theorem Chg.stay {xs : List V} (c : Chg p o' H H') (hb : H p = some (.lst xs)) : Stay H H' := fun a w e n => c.2 a w (fun z => by
  rw [z, hb] at e
  exact n _ (Option.some.inj e).symm) e
/-- at a def's end -/
theorem Hs.same (h : Hs B L H') (s : Same H B) : Same H H' := s.trans h.sub
theorem Hs.isChg {B0 : Hp} (h : Hs B ((p, o') :: L) H') (s : Same (L2.del B0 p) B) : Chg p o' B0 H' :=
  ⟨h.r0, fun a w hne e => h.sub a w (s a w (by rw [del_ne hne]; exact e))⟩
theorem Chg.trans {o1 o2 : HO} {H1 H2 : Hp} (a : Chg p o1 H H1) (b : Chg p o2 H1 H2) : Chg p o2 H H2 := ⟨b.1, fun c w n e => b.2 c w n (a.2 c w n e)⟩
end
/-- lists of one's own are lists -/
def AllL (L : List (Addr × HO)) : Prop := ∀ q ∈ L, ∃ xs, q.2 = .lst xs
theorem stay_cut {L : List (Addr × HO)} {B H H' : Hp} (h : Hs B L H) (al : AllL L) (s : Same H H') : Stay H' (cut L H') := fun a w e n => by
  rw [cut_at]
  · exact e
  · intro hm
    obtain ⟨q, hq, z⟩ := List.mem_map.mp hm
    obtain ⟨xs, hx⟩ := al q hq
    have := s _ _ (h.own q hq)
    rw [z, e, hx] at this
    exact n _ (Option.some.inj this)
theorem stay_cutC {L : List (Addr × HO)} {p : Addr} {o o' : HO} {B H H' : Hp} (h : Hs B ((p, o) :: L) H) (al : AllL ((p, o') :: L)) (s : Chg p o' H H') : Stay H' (cut ((p, o') :: L) H') := fun a w e n => by
  rw [cut_at]
  · exact e
  · intro hm
    obtain ⟨q, hq, z⟩ := List.mem_map.mp hm
    obtain ⟨xs, hx⟩ := al q hq
    have := (h.chg s).2.own q hq
    rw [z, e, hx] at this
    exact n _ (Option.some.inj this)
theorem AllL.nil : AllL [] := fun _ h => (nomatch h)
theorem AllL.cons {p : Addr} {xs : List V} {L : List (Addr × HO)} (h : AllL L) : AllL ((p, .lst xs) :: L) := fun q hq => by
  rcases List.mem_cons.mp hq with rfl | hq
  · exact ⟨xs, rfl⟩
  · exact h q hq
/-! ### callables: a module's def -/
structure Cal (P : Program) (w : World) (K : PySem.W.Frag) (mg : Str → Option Value) (base : Heap) (k : Nat) (x : Str) (ps : List Str) (sp : Sp) : Prop where
  fn : ∃ fd, FnOk P w K mg base (L2.CX P w) k (He.ga K x) fd ps sp ∧ Binds K fd ps []
  at_ : mg x = some (.ref (He.ga K x))
  kp : PySem.W.keepIn K (.ref (He.ga K x)) = true
theorem Cal.mono {P : Program} {w : World} {K : PySem.W.Frag} {mg : Str → Option Value} {base : Heap} {j k : Nat} {x : Str} {ps : List Str} {sp : Sp} (c : Cal P w K mg base j x ps sp) (h : j ≤ k) : Cal P w K mg base k x ps sp :=
  ⟨let ⟨fd, a, b⟩ := c.fn; ⟨fd, a.mono h, b⟩, c.at_, c.kp⟩
section
variable {X : Cx} {k j : Nat} {x : Str} {ps : List Str} {sp : Sp} {p pos : Pos} {e : Expr} {es : List Expr} {t : TA} {W : WX}
/-- f(..) that raises nothing -/
theorem pe_cal (c : Cal X.prog X.w X.K X.mg X.base j x ps sp) (hr : Room k X.A) (ha : PA X (e :: es) t) (hk : j ≤ k := by decide) (hg : Gl X x := by rfl) (hdb : (x == ("__debug__" : Str)) = false := by decide)
    (he : starEach (e :: es) X.env = (false, eval e X.env) :: starEach es X.env := by rfl) (hpl : (backTo pos (starEach es X.env)).any (·.1) = false := by rfl) : PE X (.Call (.Name x p) (e :: es) [] pos) (tCallS sp (fun _ => E0) t) := by
  obtain ⟨fd, F, b⟩ := c.fn
  exact pe_callS F (hr.mono hk) hg c.at_ c.kp b (fun σ => fun pins H s e s' I h => passL pins σ H s e s' I h) ha hdb he hpl
/-- f(..) that may raise -/
theorem pe_calX (c : Cal X.prog X.w X.K X.mg X.base j x ps sp) (hr : Room k X.A) (tk : Takes X W) (ha : PA X (e :: es) t) (hk : j ≤ k := by decide) (hg : Gl X x := by rfl) (hdb : (x == ("__debug__" : Str)) = false := by decide)
    (he : starEach (e :: es) X.env = (false, eval e X.env) :: starEach es X.env := by rfl) (hpl : (backTo pos (starEach es X.env)).any (·.1) = false := by rfl) : PE X (.Call (.Name x p) (e :: es) [] pos) (tCallS sp (WE W) t) := by
  obtain ⟨fd, F, b⟩ := c.fn
  exact pe_callS F (hr.mono hk) hg c.at_ c.kp b (fun σ => passAt tk σ) ha hdb he hpl
end
/-! ### steps of a reading -/
section
variable {σ : L2.St} {H : Hp} {D : Ends} {Q : VK} {K : PySem.W.Frag}
theorem if_dec {p : Prop} [Decidable p] {A B : Prop} (a : p → A) (b : ¬p → B) : if decide p = true then A else B := by
  by_cases h : p
  · rw [decide_eq_true h]
    exact iteT (a h)
  · rw [decide_eq_false h]
    exact iteF (b h)
theorem if_ndec {p : Prop} [Decidable p] {A B : Prop} (a : ¬p → A) (b : p → B) : if (!decide p) = true then A else B := by
  by_cases h : p
  · rw [decide_eq_true h]
    exact iteF (b h)
  · rw [decide_eq_false h]
    exact iteT (a h)
theorem if_bool {c : Bool} {A B : Prop} (a : c = true → A) (b : c = false → B) : if c = true then A else B := by
  cases c with
  | true => exact iteT (a rfl)
  | false => exact iteF (b rfl)
end
end Sy
/-! defs of the top; a bed as an object -/
namespace Sy
open PySem PySem.Spec PyProof.Rows L2
/-- the def x of the top, by its row st -/
def FD (K : PySem.W.Frag) (x : Str) (st : Stmt) : Prop := ∃ fd, FunD K x x (defArgs st) (defBody st) (defScope st) [] [] (He.ga K x) fd
theorem cal_of {P : Program} {w : World} {K : PySem.W.Frag} {mg : Str → Option Value} {base : Heap} {x : Str} {st : Stmt} {N ps : List Str} {k : Nat} {sp : Sp} (F : FD K x st) (hm : mg x = some (.ref (He.ga K x))) (S : FnScope N ps (defScope st))
    (hb : ∀ (kV doc pm : Value) (an : Option Addr) (cdv ct : Value) (us : List Value), us.length = ps.length → bindArgs (PySem.W.fnOf x x (defArgs st) (defBody st) (defScope st) .none kV doc pm an cdv ct) ⟨us, []⟩ = pure (ps.zip us))
    (len : ∀ vs H Q E, sp vs H Q E → vs.length = ps.length)
    (body : ∀ (cdv : Value) (A : Around) (outer : List Env) (s : Shared) (H : Hp) (vs : List V) (Q : VK) (E : XK), Room k (A.deeper (envOfC x (defScope st) s.heap.objs.size (He.ga K x) cdv)) → sp vs H Q E →
      ∃ t, PSs (cxOf (L2.CX P w) P w K mg base N x (defScope st) (He.ga K x) cdv A outer s H E) (defBody st) t ∧ t { nx := fun _ H' => Q .non H', rt := Q } (start N vs) H) : Cal P w K mg base (k + 1) x ps sp := by
  obtain ⟨fd, F⟩ := F
  exact ⟨⟨fd, F.ok S len body, F.bindsN hb⟩, hm, F.kp⟩
/-! ### a bed -/
abbrev Row := Str × Nat
/-- the number of branches, 0 if it is no kind -/
def ar (rows : List Sy.Row) (x : Str) : Nat := (rows.lookup x).getD 0
def isK (rows : List Sy.Row) (x : Str) : Bool := (rows.lookup x).isSome
def arKV (rows : List Sy.Row) : List (Key × V) := rows.map fun r => (Sum.inr r.1, V.int (r.2 : Nat))
def rkKV : Nat → List Sy.Row → List (Key × V)
  | _, [] => []
  | n, r :: rs => (Sum.inr r.1, V.int (n : Nat)) :: rkKV (n + 1) rs
/-- the place of a kind -/
def rk : Nat → List Sy.Row → Str → Option Nat
  | _, [], _ => none
  | n, r :: rs, x => if r.1 = x then some n else rk (n + 1) rs x
theorem lookup_cons (r : Sy.Row) (rs : List Sy.Row) (x : Str) : (r :: rs).lookup x = if r.1 = x then some r.2 else rs.lookup x := by
  obtain ⟨a, b⟩ := r
  by_cases h : a = x
  · subst h
    simp [List.lookup]
  · rw [if_neg h]
    have h2 : (x == a) = false := beq_eq_false_iff_ne.mpr fun z => h z.symm
    simp [List.lookup, h2]
theorem valV_cons {κ : Type} [DecidableEq κ] (k : κ) (v : V) (l : List (κ × V)) (x : κ) : valV ((k, v) :: l) x = if k = x then some v else valV l x := by
  unfold valV
  rw [List.find?_cons]
  by_cases h : k = x
  · subst h
    simp
  · simp [h]
theorem valV_ar (x : Str) : ∀ rows : List Sy.Row, valV (arKV rows) (Sum.inr x : Key) = (rows.lookup x).map fun n => V.int (n : Nat)
  | [] => rfl
  | r :: rs => by
    show valV ((Sum.inr r.1, V.int (r.2 : Nat)) :: arKV rs) (Sum.inr x : Key) = _
    rw [valV_cons, lookup_cons, valV_ar x rs]
    by_cases h : r.1 = x
    · subst h
      simp
    · rw [if_neg h, if_neg]
      exact fun z => h (Sum.inr.inj z)
theorem valV_rk (x : Str) : ∀ (n : Nat) (rows : List Sy.Row), valV (rkKV n rows) (Sum.inr x : Key) = (rk n rows x).map fun n => V.int (n : Nat)
  | _, [] => rfl
  | n, r :: rs => by
    show valV ((Sum.inr r.1, V.int (n : Nat)) :: rkKV (n + 1) rs) (Sum.inr x : Key) = _
    rw [valV_cons, valV_rk x (n + 1) rs]
    show _ = (if r.1 = x then some n else rk (n + 1) rs x).map _
    by_cases h : r.1 = x
    · subst h
      simp
    · rw [if_neg h, if_neg]
      exact fun z => h (Sum.inr.inj z)
/-- the fields, in the order in which __init__ stores them -/
def bedF (dA tR tK dR : Addr) : List (Str × V) := [("arities", .ref dA), ("rows", .ref tR), ("kinds", .ref tK), ("ranks", .ref dR)]
/-- a bed stands at a -/
structure BedAt (K : PySem.W.Frag) (H : Hp) (a : Addr) (rows : List Sy.Row) : Prop where
  ex : ∃ (dx dA tR tK dR : Addr) (ps : List Addr), H a = some (.ins (He.ga K "Bed") dx (bedF dA tR tK dR)) ∧ H dA = some (.dK (arKV rows)) ∧ H dR = some (.dK (rkKV 0 rows)) ∧ SqT K H tR (ps.map V.ref) ∧ SqT K H tK (rows.map fun r => V.str r.1) ∧
    Paired (fun p (r : Sy.Row) => SqT K H p [.str r.1, .int (r.2 : Nat)]) ps rows
theorem BedAt.mono {K : PySem.W.Frag} {H H' : Hp} {a : Addr} {rows : List Sy.Row} (s : Stay H H') (b : BedAt K H a rows) : BedAt K H' a rows := by
  obtain ⟨dx, dA, tR, tK, dR, ps, h1, h2, h3, h4, h5, h6⟩ := b.ex
  exact ⟨dx, dA, tR, tK, dR, ps, s _ _ h1 (fun _ z => nomatch z), s _ _ h2 (fun _ z => nomatch z), s _ _ h3 (fun _ z => nomatch z), s.sqt h4, s.sqt h5, Paired.mapP h6 fun _ _ z => s.sqt z⟩
/-- what the walk asks of the top: the class Bed -/
structure BedT (K : PySem.W.Frag) : Prop where
  cl : Cls K (He.ga K "Bed")
  nA : NoAttr K (He.ga K "Bed") "arities"
  nR : NoAttr K (He.ga K "Bed") "rows"
  nK : NoAttr K (He.ga K "Bed") "kinds"
  nRk : NoAttr K (He.ga K "Bed") "ranks"
section
variable {K : PySem.W.Frag} {σ : L2.St} {H : Hp} {Q : VK} {i : Nat} {a : Addr} {rows : List Sy.Row}
/-- bed.arities, the bed in slot i -/
theorem bed_ar (T : BedT K) (b : BedAt K H a rows) (hi : σ[i]? = some (some (.ref a))) (h : ∀ dA, H dA = some (.dK (arKV rows)) → Q (.ref dA) H) : tFld K (tVar i) "arities" σ H Q := by
  obtain ⟨dx, dA, tR, tK, dR, ps, h1, h2, h3, h4, h5, h6⟩ := b.ex
  exact ⟨_, hi, a, _, dx, _, _, rfl, h1, T.cl, T.nA, rfl, h dA h2⟩
theorem bed_rk (T : BedT K) (b : BedAt K H a rows) (hi : σ[i]? = some (some (.ref a))) (h : ∀ dR, H dR = some (.dK (rkKV 0 rows)) → Q (.ref dR) H) : tFld K (tVar i) "ranks" σ H Q := by
  obtain ⟨dx, dA, tR, tK, dR, ps, h1, h2, h3, h4, h5, h6⟩ := b.ex
  exact ⟨_, hi, a, _, dx, _, _, rfl, h1, T.cl, T.nRk, rfl, h dR h3⟩
theorem bed_kd (T : BedT K) (b : BedAt K H a rows) (hi : σ[i]? = some (some (.ref a))) (h : ∀ tK, SqT K H tK (rows.map fun r => V.str r.1) → Q (.ref tK) H) : tFld K (tVar i) "kinds" σ H Q := by
  obtain ⟨dx, dA, tR, tK, dR, ps, h1, h2, h3, h4, h5, h6⟩ := b.ex
  exact ⟨_, hi, a, _, dx, _, _, rfl, h1, T.cl, T.nK, rfl, h tK h5⟩
end
end Sy
namespace Sy
open PySem PySem.Spec PyProof.Rows L2
theorem pe_gint {X : Cx} {x : Str} {i : Int} {pos : Pos} (hg : Gl X x) (hm : ∃ t, X.mg x = some (.int i t)) (hd : (x == ("__debug__" : Str)) = false := by decide) : PE X (.Name x pos) (tC (.int i)) := by
  obtain ⟨t, hm⟩ := hm
  exact pe_glob hg hm ⟨_, rfl⟩ hd
theorem pe_gstr {X : Cx} {x z : Str} {pos : Pos} (hg : Gl X x) (hm : ∃ t, X.mg x = some (.str z t)) (hd : (x == ("__debug__" : Str)) = false := by decide) : PE X (.Name x pos) (tC (.str z)) := by
  obtain ⟨t, hm⟩ := hm
  exact pe_glob hg hm ⟨_, rfl⟩ hd
/-- built-in names and constants that the module leaves alone -/
structure Txt (K : PySem.W.Frag) (mg : Str → Option Value) : Prop where
  bed : BedT K
  len : mg "len" = none
  range : mg "range" = none
  reversed : mg "reversed" = none
  enumerate : mg "enumerate" = none
  tuple : mg "tuple" = none
  list : mg "list" = none
  int : mg "int" = none
  abs : mg "abs" = none
  max : mg "max" = none
  isinstance : mg "isinstance" = none
  MOST_KNOTS : ∃ t, mg "MOST_KNOTS" = some (.int 2000 t)
  MOST_KINDS : ∃ t, mg "MOST_KINDS" = some (.int 8 t)
  MOST_BRANCHES : ∃ t, mg "MOST_BRANCHES" = some (.int 3 t)
  LONGEST_NAME : ∃ t, mg "LONGEST_NAME" = some (.int 8 t)
/-! loops, in the form that a reading asks for -/
abbrev Loop (J : It) (g : TG) (tb : TS) (D : Ends) (σ : L2.St) (H : Hp) : Prop := ∃ W : Nat → Nat → L2.St → Hp → Prop, (∃ m, W 0 m σ H) ∧ ∀ i m σ H, W i m σ H → (J.stop i H ∧ D.nx σ H) ∨
  (J.go i H ∧ ∃ N : L2.St → Hp → Prop, (∀ σ' H', N σ' H' → ∃ m', m' < m ∧ W (i + 1) m' σ' H') ∧ ∀ x H', J.yld i H x H' → g x σ H' fun σ2 H2 => tb { D with nx := N, ct := N, bk := D.nx } σ2 H2)
/-- for i, x in enumerate(t) -/
theorem for_enumT {K : PySem.W.Frag} {si sj : Nat} {tb : TS} {D : Ends} {σ : L2.St} {H : Hp} {a : Addr} {xs : List V} (Pv : Nat → L2.St → Hp → Prop)
    (h0 : Pv 0 σ H) (hG : ∀ i σ H, i ≤ xs.length → Pv i σ H → SqT K H a xs)
    (hs : ∀ i x σ H T, xs[i]? = some x → Pv i σ H → H T = none → tb { D with nx := Pv (i + 1), ct := Pv (i + 1), bk := D.nx } ((σ.set si (some (.int (i : Nat)))).set sj (some x)) (upd H T (.tup [.int (i : Nat), x])))
    (hd : ∀ σ H, Pv xs.length σ H → D.nx σ H) : Loop (ItE K a) (gTup K 2 (gCons (gName si) (gCons (gName sj) gNil))) tb D σ H := by
  refine for_it walkE Pv h0 hG (fun i v σ H H' hi hp y => ?_) hd
  obtain ⟨T, x, z, rfl, hT, rfl, e1, e2⟩ := y
  cases e1
  exact ⟨T, _, rfl, SqT.of upd_same, rfl, _, _, rfl, _, _, rfl, rfl, hs i z σ H T e2 hp hT⟩
/-- .. over a list that the body leaves alone -/
theorem for_enumL {K : PySem.W.Frag} {si sj : Nat} {tb : TS} {D : Ends} {σ : L2.St} {H : Hp} {a : Addr} {xs : List V} (Pv : Nat → L2.St → Hp → Prop)
    (h0 : Pv 0 σ H) (hG : ∀ i σ H, i ≤ xs.length → Pv i σ H → SqL K H a xs)
    (hs : ∀ i x σ H T, xs[i]? = some x → Pv i σ H → H T = none → tb { D with nx := Pv (i + 1), ct := Pv (i + 1), bk := D.nx } ((σ.set si (some (.int (i : Nat)))).set sj (some x)) (upd H T (.tup [.int (i : Nat), x])))
    (hd : ∀ σ H, Pv xs.length σ H → D.nx σ H) : Loop (Ite K a) (gTup K 2 (gCons (gName si) (gCons (gName sj) gNil))) tb D σ H := by
  refine for_it walk_enum Pv h0 hG (fun i v σ H H' hi hp y => ?_) hd
  obtain ⟨T, x, z, rfl, hT, rfl, e1, e2⟩ := y
  cases e1
  exact ⟨T, _, rfl, SqT.of upd_same, rfl, _, _, rfl, _, _, rfl, rfl, hs i z σ H T e2 hp hT⟩
/-- for k in range(n) -/
theorem for_rng {si : Nat} {tb : TS} {D : Ends} {σ : L2.St} {H : Hp} {n : Nat} (Pv : Nat → L2.St → Hp → Prop) (h0 : Pv 0 σ H)
    (hs : ∀ (i : Nat) σ H, i < n → Pv i σ H → tb { D with nx := Pv (i + 1), ct := Pv (i + 1), bk := D.nx } (σ.set si (some (.int (i : Nat)))) H)
    (hd : ∀ σ H, Pv n σ H → D.nx σ H) : Loop (Itr 0 n) (gName si) tb D σ H := by
  refine for_range Pv h0 (fun i σ H hi hp => ?_) hd
  have e : (0 : Int) + (i : Nat) = (i : Nat) := by omega
  have q := hs i σ _ hi hp
  rw [← e] at q
  exact q
/-- for k in reversed(range(n)) -/
theorem for_rrng {si : Nat} {tb : TS} {D : Ends} {σ : L2.St} {H : Hp} {n : Nat} (Pv : Nat → L2.St → Hp → Prop) (h0 : Pv n σ H)
    (hs : ∀ (i : Nat) σ H, i < n → Pv (i + 1) σ H → tb { D with nx := Pv i, ct := Pv i, bk := D.nx } (σ.set si (some (.int (i : Nat)))) H)
    (hd : ∀ σ H, Pv 0 σ H → D.nx σ H) : Loop (Itc (0 + (((n : Int) - 0).toNat : Int) - 1) (-1) (((n : Int) - 0).toNat)) (gName si) tb D σ H := by
  have e0 : (((n : Nat) : Int) - 0).toNat = n := by omega
  rw [e0]
  refine for_it walk_rangeC (fun j σ H => Pv (n - j) σ H) h0 (fun _ _ _ _ _ => trivial) (fun j v σ H H' hj hp y => ?_) (fun σ H q => ?_)
  · obtain ⟨rfl, rfl⟩ := y
    have e : (0 : Int) + (n : Nat) - 1 + (j : Nat) * -1 = ((n - 1 - j : Nat) : Int) := by omega
    have e1 : n - j = (n - 1 - j) + 1 := by omega
    rw [e1] at hp
    have q := hs (n - 1 - j) σ _ (by omega) hp
    rw [← e] at q
    have e2 : n - (j + 1) = n - 1 - j := by omega
    show tb { D with nx := fun σ H => Pv (n - (j + 1)) σ H, ct := fun σ H => Pv (n - (j + 1)) σ H, bk := D.nx } _ _
    rw [e2]
    exact q
  · rw [Nat.sub_self] at q
    exact hd σ H q
end Sy
/-! plants as rows of numbers of branches: plain mathematics -/
namespace Sy
/-- how many entries n plants take that stand one behind the other -/
def sp : Nat → List Nat → Nat
  | 0, _ => 0
  | _ + 1, [] => 0
  | n + 1, a :: w => 1 + sp (n + a) w
/-- w is n plants, one behind the other -/
def Fo : Nat → List Nat → Prop
  | 0, [] => True
  | 0, _ :: _ => False
  | _ + 1, [] => False
  | n + 1, a :: w => Fo (n + a) w
theorem sp_zero (w : List Nat) : sp 0 w = 0 := by cases w <;> rfl
theorem sp_nil (n : Nat) : sp n [] = 0 := by cases n <;> rfl
theorem sp_cons (n a : Nat) (w : List Nat) : sp (n + 1) (a :: w) = 1 + sp (n + a) w := rfl
theorem sp_add : ∀ (w : List Nat) (n m : Nat), sp (n + m) w = sp n w + sp m (w.drop (sp n w))
  | w, 0, m => by rw [sp_zero, Nat.zero_add, Nat.zero_add, List.drop_zero]
  | [], n + 1, m => by simp [sp_nil]
  | a :: w, n + 1, m => by
    have e : n + 1 + m = (n + m) + 1 := by omega
    rw [e, sp_cons, sp_cons, show n + m + a = (n + a) + m by omega, sp_add w (n + a) m, Nat.add_assoc, show 1 + sp (n + a) w = sp (n + a) w + 1 by omega, List.drop_succ_cons]
theorem Fo.zero {w : List Nat} (h : Fo 0 w) : w = [] := by
  cases w with
  | nil => rfl
  | cons a w => exact h.elim
theorem Fo.le : ∀ {w : List Nat} {k m : Nat}, Fo (k + m) w → sp k w ≤ w.length ∧ Fo m (w.drop (sp k w)) ∧ Fo k (w.take (sp k w))
  | w, 0, m, h => by
    rw [Nat.zero_add] at h
    rw [sp_zero]
    exact ⟨Nat.zero_le _, h, trivial⟩
  | [], k + 1, m, h => by
    rw [show k + 1 + m = (k + m) + 1 by omega] at h
    exact h.elim
  | a :: w, k + 1, m, h => by
    rw [show k + 1 + m = (k + m) + 1 by omega] at h
    have h : Fo (k + m + a) w := h
    rw [show k + m + a = (k + a) + m by omega] at h
    have q := Fo.le h
    rw [sp_cons, show 1 + sp (k + a) w = sp (k + a) w + 1 by omega, List.drop_succ_cons, List.take_succ_cons]
    exact ⟨by rw [List.length_cons]; omega, q.2.1, q.2.2⟩
theorem Fo.sp : ∀ {w : List Nat} {m : Nat}, Fo m w → sp m w = w.length
  | [], m, _ => sp_nil m
  | a :: w, 0, h => h.elim
  | a :: w, m + 1, h => by
    rw [sp_cons, Fo.sp (w := w) (m := m + a) h, List.length_cons]
    omega
theorem Fo.app : ∀ {u v : List Nat} {n m : Nat}, Fo n u → Fo m v → Fo (n + m) (u ++ v)
  | [], v, 0, m, _, h => by rw [Nat.zero_add]; exact h
  | a :: u, v, n + 1, m, g, h => by
    have q : Fo (n + a + m) (u ++ v) := Fo.app (u := u) (n := n + a) g h
    rw [show n + 1 + m = (n + m) + 1 by omega]
    show Fo (n + m + a) (u ++ v)
    rw [show n + m + a = n + a + m by omega]
    exact q
theorem Fo.sp_app : ∀ {u : List Nat} {n : Nat} (v : List Nat), Fo n u → Sy.sp n (u ++ v) = u.length
  | [], 0, v, _ => sp_zero _
  | [], n + 1, v, h => h.elim
  | a :: u, 0, v, h => h.elim
  | a :: u, n + 1, v, h => by
    rw [List.cons_append, sp_cons, Fo.sp_app (u := u) (n := n + a) v h, List.length_cons]
    omega
theorem Fo.cut : ∀ {u v : List Nat} {n k : Nat}, Fo k u → Fo n (u ++ v) → k ≤ n ∧ Fo (n - k) v
  | [], v, n, 0, _, h => ⟨Nat.zero_le _, by simpa using h⟩
  | a :: u, v, 0, k, _, h => h.elim
  | a :: u, v, n + 1, k + 1, g, h => by
    have q := Fo.cut (u := u) (v := v) (n := n + a) (k := k + a) g h
    refine ⟨by omega, ?_⟩
    have := q.2
    rw [show n + a - (k + a) = n + 1 - (k + 1) by omega] at this
    exact this
/-- one plant of a row is put in another's place -/
theorem Fo.put : ∀ {u x y v : List Nat} {n : Nat}, Fo 1 x → Fo 1 y → Fo n (u ++ (x ++ v)) → Fo n (u ++ (y ++ v))
  | [], x, y, v, n, hx, hy, h => by
    have q := Fo.cut hx h
    have := hy.app q.2
    rw [show 1 + (n - 1) = n by omega] at this
    exact this
  | a :: u, x, y, v, 0, hx, hy, h => h.elim
  | a :: u, x, y, v, n + 1, hx, hy, h => Fo.put (u := u) (n := n + a) hx hy h
theorem Fo.pos {w : List Nat} {n : Nat} (h : Fo (n + 1) w) : 0 < w.length := by
  cases w with
  | nil => exact h.elim
  | cons a w => rw [List.length_cons]; omega
theorem Fo.at_ : ∀ {w : List Nat} {n : Nat} {i : Nat}, Fo n w → i < w.length → ∃ m, Fo (m + 1) (w.drop i)
  | a :: w, 0, _, h, _ => h.elim
  | a :: w, n + 1, 0, h, _ => ⟨n, h⟩
  | a :: w, n + 1, i + 1, h, hi => by
    rw [List.drop_succ_cons]
    exact Fo.at_ (w := w) (n := n + a) h (by rw [List.length_cons] at hi; omega)
/-- what begins within n plants ends within them -/
theorem sp_within : ∀ {w : List Nat} {n i : Nat}, i < sp n w → ∃ m, sp n w = i + sp (m + 1) (w.drop i)
  | w, 0, i, h => by rw [sp_zero] at h; omega
  | w, n + 1, 0, h => ⟨n, by simp⟩
  | [], n + 1, i + 1, h => by rw [sp_nil] at h; omega
  | a :: w, n + 1, i + 1, h => by
    rw [sp_cons] at h ⊢
    obtain ⟨m, e⟩ := sp_within (w := w) (n := n + a) (i := i) (by omega)
    exact ⟨m, by rw [List.drop_succ_cons, e]; omega⟩
/-- the number of branches at i -/
def aw (w : List Nat) (i : Nat) : Nat := w[i]?.getD 0
/-- behind the plant that begins at i -/
def en (w : List Nat) (i : Nat) : Nat := i + sp 1 (w.drop i)
/-- where the branch k of i begins -/
def kd (w : List Nat) (i k : Nat) : Nat := i + 1 + sp k (w.drop (i + 1))
theorem aw_of {w : List Nat} {i a : Nat} (h : w[i]? = some a) : aw w i = a := by rw [aw, h]; rfl
theorem drop_at {w : List Nat} {i : Nat} (h : i < w.length) : w.drop i = aw w i :: w.drop (i + 1) := by
  rw [List.drop_eq_getElem_cons h, aw, List.getElem?_eq_getElem h]
  rfl
theorem kd_zero (w : List Nat) (i : Nat) : kd w i 0 = i + 1 := by rw [kd, sp_zero]
section
variable {w : List Nat} {i j k : Nat}
theorem kd_succ : kd w i (k + 1) = en w (kd w i k) := by
  unfold kd en
  rw [sp_add, List.drop_drop]
  omega
theorem en_kd (hi : i < w.length) : kd w i (aw w i) = en w i := by
  unfold kd en
  rw [drop_at hi, sp_cons, Nat.zero_add]
  omega
theorem en_gt (hi : i < w.length) : i < en w i := by
  unfold en
  rw [drop_at hi, sp_cons]
  omega
theorem Fo.below (h : Fo 1 w) (hi : i < w.length) : ∃ m, Fo (aw w i + m) (w.drop (i + 1)) := by
  obtain ⟨m, q⟩ := h.at_ hi
  rw [drop_at hi] at q
  exact ⟨m, by rw [Nat.add_comm]; exact q⟩
theorem Fo.kd_lt (h : Fo 1 w) (hi : i < w.length) (hk : k < aw w i) : kd w i k < w.length := by
  obtain ⟨m, q⟩ := h.below hi
  rw [show aw w i + m = k + (aw w i + m - k - 1 + 1) by omega] at q
  have q := Fo.le q
  have := q.2.1.pos
  rw [List.length_drop, List.length_drop] at this
  unfold kd
  omega
theorem Fo.en_le (h : Fo 1 w) (hi : i < w.length) : en w i ≤ w.length := by
  obtain ⟨m, q⟩ := h.at_ hi
  rw [Nat.add_comm] at q
  have q := q.le
  have := q.1
  rw [List.length_drop] at this
  unfold en
  omega
theorem Fo.en0 (h : Fo 1 w) : en w 0 = w.length := by
  unfold en
  rw [List.drop_zero, h.sp]
  omega
/-- the branch that begins at i is a plant -/
theorem Fo.branch (h : Fo 1 w) (hi : i < w.length) : Fo 1 ((w.drop i).take (en w i - i)) := by
  obtain ⟨m, q⟩ := h.at_ hi
  rw [Nat.add_comm] at q
  have q := q.le.2.2
  unfold en
  rw [show i + Sy.sp 1 (w.drop i) - i = Sy.sp 1 (w.drop i) by omega]
  exact q
theorem kd_gt : i < kd w i k := by unfold kd; omega
theorem kd_lt_succ (h : Fo 1 w) (hi : i < w.length) (hk : k < aw w i) : kd w i k < kd w i (k + 1) := by
  rw [kd_succ]
  exact en_gt (h.kd_lt hi hk)
theorem kd_mono (h : Fo 1 w) (hi : i < w.length) : ∀ (d : Nat), k + d ≤ aw w i → kd w i k + d ≤ kd w i (k + d)
  | 0, _ => Nat.le_refl _
  | d + 1, hd => by
    have a := kd_mono h hi d (by omega)
    have b := kd_lt_succ h hi (k := k + d) (by omega)
    rw [show k + (d + 1) = k + d + 1 by omega]
    omega
/-- nested -/
theorem en_nest (a : i ≤ j) (b : j < en w i) : en w j ≤ en w i := by
  unfold en at b ⊢
  obtain ⟨m, e⟩ := sp_within (w := w.drop i) (n := 1) (i := j - i) (by omega)
  rw [List.drop_drop, show i + (j - i) = j by omega, Nat.add_comm m 1, sp_add] at e
  omega
theorem kd_le_en (h : Fo 1 w) (hi : i < w.length) (hk : k ≤ aw w i) : kd w i k ≤ en w i := by
  have := kd_mono h hi (k := k) (aw w i - k) (by omega)
  rw [show k + (aw w i - k) = aw w i by omega, en_kd hi] at this
  omega
/-- a place behind i and within its plant stands in one of its branches -/
theorem in_branch (hi : i < w.length) (a : i < j) : ∀ (n : Nat), j < kd w i n → ∃ k, k < n ∧ kd w i k ≤ j ∧ j < kd w i (k + 1)
  | 0, b => by rw [kd_zero] at b; omega
  | n + 1, b => by
    by_cases c : j < kd w i n
    · obtain ⟨k, h1, h2, h3⟩ := in_branch hi a n c
      exact ⟨k, by omega, h2, h3⟩
    · exact ⟨n, by omega, by omega, b⟩
/-- a knot has one place above it .. -/
theorem kd_lt_of {i2 k2 : Nat} (h : Fo 1 w) (hi : i < w.length) (hi2 : i2 < w.length) (hk : k < aw w i) (hk2 : k2 < aw w i2) (lt : i < i2) : kd w i k ≠ kd w i2 k2 := by
  intro e
  have e1 : kd w i k < en w i := by
    have := kd_le_en h hi (k := k + 1) (by omega)
    have := kd_lt_succ h hi hk
    omega
  have g2 : i2 < kd w i2 k2 := kd_gt
  have hin : i2 < kd w i (aw w i) := by rw [en_kd hi]; omega
  obtain ⟨t, h1, h2, h3⟩ := in_branch hi lt _ hin
  have n1 : en w i2 ≤ en w (kd w i t) := en_nest h2 (by rw [← kd_succ]; exact h3)
  rw [← kd_succ] at n1
  have n2 : kd w i2 k2 < en w i2 := by
    have := kd_le_en h hi2 (k := k2 + 1) (by omega)
    have := kd_lt_succ h hi2 hk2
    omega
  by_cases c : k ≤ t
  · have := kd_mono h hi (k := k) (t - k) (by omega)
    rw [show k + (t - k) = t by omega] at this
    omega
  · have := kd_mono h hi (k := t + 1) (k - (t + 1)) (by omega)
    rw [show t + 1 + (k - (t + 1)) = k by omega] at this
    omega
theorem kd_inj {i2 k2 : Nat} (h : Fo 1 w) (hi : i < w.length) (hi2 : i2 < w.length) (hk : k < aw w i) (hk2 : k2 < aw w i2) (e : kd w i k = kd w i2 k2) : i = i2 ∧ k = k2 := by
  rcases Nat.lt_trichotomy i i2 with c | c | c
  · exact absurd e (kd_lt_of h hi hi2 hk hk2 c)
  · subst c
    refine ⟨rfl, ?_⟩
    rcases Nat.lt_trichotomy k k2 with d | d | d
    · have := kd_mono h hi (k := k) (k2 - k) (by omega)
      rw [show k + (k2 - k) = k2 by omega] at this
      omega
    · exact d
    · have := kd_mono h hi (k := k2) (k - k2) (by omega)
      rw [show k2 + (k - k2) = k by omega] at this
      omega
  · exact absurd e.symm (kd_lt_of h hi2 hi hk2 hk c)
/-- .. and every knot but the root has one -/
theorem has_above (h : Fo 1 w) : ∀ (j : Nat), 0 < j → j < w.length → ∃ i k, i < j ∧ k < aw w i ∧ kd w i k = j := by
  intro j
  induction j using Nat.strongRecOn with
  | _ j ih =>
    intro h0 hj
    -- from a place i < j whose plant ends at j
    have climb : ∀ i, i < j → en w i = j → ∃ i k, i < j ∧ k < aw w i ∧ kd w i k = j := by
      intro i
      induction i using Nat.strongRecOn with
      | _ i ih2 =>
        intro hi e
        by_cases z : i = 0
        · subst z
          rw [h.en0] at e
          omega
        · obtain ⟨p, k, hp, hk, ek⟩ := ih i hi (by omega) (by omega)
          have es : kd w p (k + 1) = j := by rw [kd_succ, ek]; exact e
          by_cases c : k + 1 < aw w p
          · exact ⟨p, k + 1, by omega, c, es⟩
          · have : k + 1 = aw w p := by omega
            rw [this, en_kd (by omega)] at es
            exact ih2 p hp (by omega) es
    by_cases c : 0 < aw w (j - 1)
    · exact ⟨j - 1, 0, by omega, c, by rw [kd_zero]; omega⟩
    · refine climb (j - 1) (by omega) ?_
      rw [← en_kd (by omega), show aw w (j - 1) = 0 by omega, kd_zero]
      omega
end
/-! ### the paths -/
/-- one knot's branches get their paths -/
def stp (w : List Nat) (i : Nat) (fd : List (List Nat)) (n : Nat) : List (List Nat) := (List.range n).foldl (fun fd k => fd.set (kd w i k) (fd.getD i [] ++ [k])) fd
/-- the paths after the first n knots -/
def pth (w : List Nat) (n : Nat) : List (List Nat) := (List.range n).foldl (fun fd i => stp w i fd (aw w i)) (List.replicate w.length [])
def pths (w : List Nat) : List (List Nat) := pth w w.length
theorem stp_succ (w : List Nat) (i n : Nat) (fd : List (List Nat)) : stp w i fd (n + 1) = (stp w i fd n).set (kd w i n) ((stp w i fd n).getD i [] ++ [n]) := by
  unfold stp
  rw [List.range_succ, List.foldl_append]
  rfl
theorem pth_succ (w : List Nat) (n : Nat) : pth w (n + 1) = stp w n (pth w n) (aw w n) := by
  unfold pth
  rw [List.range_succ, List.foldl_append]
  rfl
theorem stp_zero (w : List Nat) (i : Nat) (fd : List (List Nat)) : stp w i fd 0 = fd := rfl
theorem stp_len (w : List Nat) (i : Nat) (fd : List (List Nat)) : ∀ n, (stp w i fd n).length = fd.length
  | 0 => rfl
  | n + 1 => by rw [stp_succ, List.length_set, stp_len w i fd n]
theorem pth_len (w : List Nat) : ∀ n, (pth w n).length = w.length
  | 0 => by show (List.replicate w.length []).length = _; rw [List.length_replicate]
  | n + 1 => by rw [pth_succ, stp_len, pth_len w n]
theorem getD_set_ne {α : Type} (l : List α) {i j : Nat} (v d : α) (h : i ≠ j) : (l.set i v).getD j d = l.getD j d := by
  rw [List.getD_eq_getElem?_getD, List.getElem?_set_ne h, ← List.getD_eq_getElem?_getD]
theorem getD_set_eq {α : Type} (l : List α) {i : Nat} (v d : α) (h : i < l.length) : (l.set i v).getD i d = v := by
  rw [List.getD_eq_getElem?_getD, List.getElem?_set_self h]
  rfl
/-- places up to i stay; other places stay; a branch's place -/
theorem stp_ne (w : List Nat) (i j : Nat) (fd : List (List Nat)) : ∀ n, (∀ k, k < n → kd w i k ≠ j) → (stp w i fd n).getD j [] = fd.getD j []
  | 0, _ => rfl
  | n + 1, h => by
    rw [stp_succ, getD_set_ne _ _ _ (h n (by omega))]
    exact stp_ne w i j fd n fun k hk => h k (by omega)
theorem stp_at {w : List Nat} {i k : Nat} {fd : List (List Nat)} (h : Fo 1 w) (hi : i < w.length) (hl : fd.length = w.length) (hk : k < aw w i) : ∀ n, k < n → n ≤ aw w i → (stp w i fd n).getD (kd w i k) [] = fd.getD i [] ++ [k]
  | n + 1, a, b => by
    have hs : (stp w i fd n).getD i [] = fd.getD i [] := stp_ne w i i fd n fun k _ => by have := kd_gt (w := w) (i := i) (k := k); omega
    rw [stp_succ, hs]
    by_cases c : k = n
    · subst c
      rw [getD_set_eq]
      rw [stp_len, hl]
      exact h.kd_lt hi hk
    · rw [getD_set_ne]
      · exact stp_at h hi hl hk n (by omega) (by omega)
      · intro e
        have := (kd_inj h hi hi (by omega) hk e).2
        omega
theorem pth_at {w : List Nat} {i k : Nat} (h : Fo 1 w) (hi : i < w.length) (hk : k < aw w i) : ∀ n, i < n → n ≤ w.length → (pth w n).getD (kd w i k) [] = (pth w n).getD i [] ++ [k]
  | n + 1, a, b => by
    have si : (pth w (n + 1)).getD i [] = (pth w n).getD i [] := by
      rw [pth_succ]
      exact stp_ne w n i _ _ fun t _ e => by have := kd_gt (w := w) (i := n) (k := t); omega
    rw [si]
    by_cases c : i = n
    · subst c
      rw [pth_succ]
      exact stp_at h hi (pth_len w _) hk _ hk (Nat.le_refl _)
    · rw [pth_succ, stp_ne]
      · exact pth_at h hi hk n (by omega) (by omega)
      · intro t ht e
        have := (kd_inj h (by omega) hi ht hk e).1
        omega
theorem pths_at {w : List Nat} {i k : Nat} (h : Fo 1 w) (hi : i < w.length) (hk : k < aw w i) : (pths w).getD (kd w i k) [] = (pths w).getD i [] ++ [k] := pth_at h hi hk _ hi (Nat.le_refl _)
theorem pth_root (w : List Nat) : ∀ n, (pth w n).getD 0 [] = []
  | 0 => by
    show (List.replicate w.length []).getD 0 [] = []
    cases w <;> rfl
  | n + 1 => by
    rw [pth_succ, stp_ne]
    · exact pth_root w n
    · intro k _ e
      have := kd_gt (w := w) (i := n) (k := k)
      omega
/-- where a path leads -/
def pl (w : List Nat) : Nat → List Nat → Option Nat
  | i, [] => some i
  | i, k :: p => if k < aw w i then pl w (kd w i k) p else none
theorem pl_snoc (w : List Nat) (k : Nat) : ∀ (p : List Nat) (i : Nat), pl w i (p ++ [k]) = (pl w i p).bind fun j => if k < aw w j then some (kd w j k) else none
  | [], i => rfl
  | t :: p, i => by
    show (if t < aw w i then pl w (kd w i t) (p ++ [k]) else none) = (if t < aw w i then pl w (kd w i t) p else none).bind _
    by_cases c : t < aw w i
    · rw [if_pos c, if_pos c, pl_snoc w k p]
    · rw [if_neg c, if_neg c]
      rfl
theorem pl_pths {w : List Nat} (h : Fo 1 w) : ∀ j, j < w.length → pl w 0 ((pths w).getD j []) = some j := by
  intro j
  induction j using Nat.strongRecOn with
  | _ j ih =>
    intro hj
    by_cases z : j = 0
    · subst z
      rw [show pths w = pth w w.length from rfl, pth_root]
      rfl
    · obtain ⟨i, k, hi, hk, e⟩ := has_above h j (by omega) hj
      rw [← e, pths_at h (by omega) hk, pl_snoc, ih i hi (by omega)]
      show (if k < aw w i then some (kd w i k) else none) = _
      rw [if_pos hk]
/-- a path of a plant leads to the same place in each plant that is alike up to that place -/
theorem pl_local {w w' : List Nat} (h : Fo 1 w) (h' : Fo 1 w') : ∀ (p : List Nat) (i : Nat), pl w 0 p = some i → i < w'.length → w'.take i = w.take i → pl w' 0 p = some i := by
  intro p
  induction hn : p.length generalizing p with
  | zero =>
    have : p = [] := List.length_eq_zero_iff.mp hn
    subst this
    exact fun i e _ _ => e
  | succ n ih =>
    intro i e hi a
    obtain ⟨q, k, rfl⟩ : ∃ q k, p = q ++ [k] := ⟨p.dropLast, p.getLast (by intro z; rw [z] at hn; cases hn), (List.dropLast_concat_getLast _).symm⟩
    rw [pl_snoc] at e ⊢
    cases c : pl w 0 q with
    | none => rw [c] at e; cases e
    | some j =>
      rw [c] at e
      have e : (if k < aw w j then some (kd w j k) else none) = some i := e
      by_cases hk : k < aw w j
      · rw [if_pos hk] at e
        have e := Option.some.inj e
        have hj : j < i := by rw [← e]; exact kd_gt
        have hjw : j < w.length := by
          by_cases z : j < w.length
          · exact z
          · rw [aw, List.getElem?_eq_none (by omega)] at hk
            exact absurd hk (Nat.not_lt_zero _)
        have tk : w'.take j = w.take j := by
          have := congrArg (List.take j) a
          rwa [List.take_take, List.take_take, Nat.min_eq_left (by omega)] at this
        rw [ih q (by simpa using hn) j c (by omega) tk]
        have ea : aw w' j = aw w j := by
          have := congrArg (fun l => l[j]?) a
          simp only [List.getElem?_take, hj, if_true] at this
          rw [aw, aw, this]
        have ek : kd w' j k = kd w j k := by
          obtain ⟨m, f⟩ := h.below hjw
          rw [show aw w j + m = k + (aw w j + m - k) by omega] at f
          have f := f.le.2.2
          have el : i - (j + 1) = sp k (w.drop (j + 1)) := by rw [← e, kd]; omega
          have hw : w'.drop (j + 1) = (w.drop (j + 1)).take (sp k (w.drop (j + 1))) ++ w'.drop i := by
            rw [← el, List.take_drop, show j + 1 + (i - (j + 1)) = i by omega, ← a, ← List.take_append_drop i w', List.drop_append, List.take_append_drop]
            have : (w'.take i).length = i := by rw [List.length_take]; omega
            rw [this, show j + 1 - i = 0 by omega, List.drop_zero]
          unfold kd
          rw [hw, f.sp_app, List.length_take, Nat.min_eq_left]
          rw [← el, List.length_drop]
          have := h.kd_lt hjw hk
          omega
        show (if k < aw w' j then some (kd w' j k) else none) = _
        rw [ea, if_pos hk, ek, e]
      · rw [if_neg hk] at e
        cases e
end Sy
namespace Sy
open PySem PySem.Spec PyProof.Rows L2
def top (i : Nat) : Stmt := PySem.Challenge.pw_shearyard_k52_cheapest_change.main.body.getD i (.Pass ⟨0, 0, 0, 0⟩)
end Sy
/-! what the head's run looks at (the run is proved early: it wants much memory) -/
namespace Sy
open PySem PySem.Spec PyProof.Rows L2
def clb (i j : Nat) : Stmt := match top i with
  | .ClassDef _ _ _ b _ _ _ _ _ _ _ => b.getD j (.Pass ⟨0, 0, 0, 0⟩)
  | s => s
abbrev iniA (K : PySem.W.Frag) (x : Str) : Addr := He.ma K (He.ga K x) "__init__"
structure ErD where
  x : Str
  q : Str
  st : Stmt
  fs : List Str
abbrev FnE : Type := Option (Str × Str × Arguments × FuncBody × Scope × Addr × List Str × Addr)
def ErD.val (d : ErD) : FnE := some ("__init__", d.q, defArgs d.st, .stmts (defBody d.st), defScope d.st, mainGlobals, ["__class__"], builtinsNs)
def erW (K : PySem.W.Frag) (x : Str) : FnE := match K.lookup (iniA K x) with
  | some ⟨_, _, .func fd, _⟩ => some (fd.name, fd.qualname, fd.params, fd.body, fd.scope, fd.globals, fd.closure.map (·.1), fd.builtins)
  | _ => none
/-- the class object -/
def oexB (K : PySem.W.Frag) (C : Addr) : Bool := match K.lookup C with
  | some ⟨.type t, _, .cls cd, sl⟩ => (match cd.mro, sl.toList with
    | .ref C' :: bm, [_, _, _, _, some (.builtin n), _] => decide (t = "type") && (decide (C' = C) && (decide (n = "ValueError.__new__") && (!cd.hasDel && (cd.hasDict && HandSPX.refsVE bm))))
    | _, _ => false)
  | _ => false
/-- what stands in the code object, in the cell -/
def fileB (K : PySem.W.Frag) (file : Str) (cd : Value) : Bool := match cd with
  | .ref c => (match K.lookup c with
    | some ⟨_, _, .fields vs, _⟩ => (match (vs[2]? : Option Value) with
      | some (.str fi _) => (file == fi)
      | _ => false)
    | _ => false)
  | _ => false
def cellB (K : PySem.W.Frag) (C : Addr) (cl : List (Str × Addr)) : Bool := match cl with
  | [(_, cc)] => (match K.lookup cc with
    | some ⟨_, _, .cell (some (.ref D)), _⟩ => decide (D = C)
    | _ => false)
  | _ => false
def initB (K : PySem.W.Frag) (file x q : Str) : Bool := match K.lookup (iniA K x) with
  | some ⟨_, _, .func fd, _⟩ => PySem.W.codeIn K fd.code q && (fileB K file fd.code && (cellB K (He.ga K x) fd.closure && (match fd.defaults with
    | .none => true
    | _ => false)))
  | _ => false
def ErD.ok (file : Str) (K : PySem.W.Frag) (d : ErD) : Bool :=
  He.eqO (PySem.W.nsIn K mainGlobals d.x) (some (some (.ref (He.ga K d.x)))) && (He.eqO (PySem.W.findIn K (.ref (He.ga K d.x)) "__init__") (some (some (.ref (iniA K d.x)))) && (decide (PySem.W.typeIn K (.ref (iniA K d.x)) = some (.type "function")) &&
  (decide (PySem.W.exmOne K (.ref (He.ga K d.x)) (.ref (He.ga K d.x)) = some true) && (xfB K (He.ga K d.x) && ((d.fs.all fun f => He.eqO (PySem.W.findIn K (.ref (He.ga K d.x)) f) (some none)) && (oexB K (He.ga K d.x) &&
  (He.eqO (PySem.W.findIn K (.ref (He.ga K d.x)) "__setattr__") (some (some (.builtin "object.__setattr__"))) && (decide (PySem.W.subIn K (.ref (He.ga K d.x)) (.type "BaseException") = some true) && (decide (PySem.W.typeIn K (.ref (He.ga K d.x)) = some (.type "type")) && (PySem.W.keepIn K (.ref (He.ga K d.x)) &&
  (initB K file d.x d.q && (PySem.W.isClsIn K (He.ga K d.x) && (decide (PySem.W.mroIn K (He.ga K d.x) (.ref (He.ga K d.x)) = some true) && (He.eqO (PySem.W.ks_superIn K (He.ga K d.x) (He.ga K d.x) "__init__") (some (some (.builtin "ValueError.__init__"))) &&
  (decide (PySem.W.subIn K (.ref (He.ga K d.x)) (.type "ValueError") = some true) && He.eqO (PySem.W.nsIn K cStatics "thirdparty.any") (some none))))))))))))))))
def metB (_ : PySem.W.Frag) : Bool := true
/-! the Hook -/
abbrev AlX : Type := He.AlD × (Bool × List FnE)
def obsX (file : Str) (fa : List He.Fa) (fn : List He.DefD) (er : List ErD) (K : PySem.W.Frag) : AlX := (He.obsD fa fn K, ((er.all fun d => d.ok file K) && metB K, er.map fun d => erW K d.x))
def valX (fn : List He.DefD) (er : List ErD) : AlX := (He.valD fn, (true, er.map ErD.val))
def SaysX (file : Str) (fa : List He.Fa) (fn : List He.DefD) (er : List ErD) (K : PySem.W.Frag) : Prop := obsX file fa fn er K = valX fn er
def obsXG (file : Str) (as : List Addr) (fa : List He.Fa) (fn : List He.DefD) (er : List ErD) (g : Addr → Option Obj) : AlX := obsX file fa fn er (He.frG g as)
def hookX (file : Str) (as : List Addr) (fa : List He.Fa) (fn : List He.DefD) (er : List ErD) : PySem.W.Hook where
  α := AlX
  obs := fun s => obsXG file as fa fn er s.heap.get?
  val := fun _ => valX fn er
  says := fun _ h => ∃ K : PySem.W.Frag, K.In h ∧ SaysX file fa fn er K
  of := fun _ _ e => ⟨_, He.frG_in, e⟩
  keeps := fun _ _ _ ⟨K, hK, c⟩ k => ⟨K, PySem.W.Frag.In.keeps hK k, c⟩
theorem obsXG_eq {file : Str} {as : List Addr} {fa : List He.Fa} {fn : List He.DefD} {er : List ErD} {g : Addr → Option Obj} {s : Shared} (h : ∀ a, g a = s.heap.get? a) : obsXG file as fa fn er g = (hookX file as fa fn er).obs s := by
  have e : g = s.heap.get? := funext h
  rw [e]
  rfl
end Sy
set_option maxHeartbeats 0
namespace Sy.En
open Sy PySem PySem.Spec PyProof.Rows L2
abbrev dOf (x : Str) (i : Nat) : He.DefD := ⟨(x, none), x, x, defArgs (top i), defBody (top i), defScope (top i), [], []⟩
abbrev dMe (m q : Str) (j : Nat) : He.DefD := ⟨("Bed", some m), m, q, defArgs (clb 22 j), defBody (clb 22 j), defScope (clb 22 j), [], []⟩
abbrev dMeP (m q : Str) (j : Nat) : He.DefD := ⟨("Prices", some m), m, q, defArgs (clb 40 j), defBody (clb 40 j), defScope (clb 40 j), [], []⟩
abbrev dMeR (m q : Str) (j : Nat) (kw : List (Str × He.Dv)) : He.DefD := ⟨("Reader", some m), m, q, defArgs (clb 35 j), defBody (clb 35 j), defScope (clb 35 j), [], kw⟩
def fn : List He.DefD := [dOf "only_letters" 20, dOf "is_name" 21, dOf "need_same" 23, dOf "check_count" 25, dOf "arity" 26, dOf "fault_among" 27, dOf "check_plant" 29, dOf "_entered" 33, dOf "_check_marks" 34, dOf "named_plant" 37, dOf "cheapest" 41, dOf "_is_price" 42, dOf "_is_swap" 43, dOf "_turns" 44, dOf "_changed" 45, dOf "_cut_values" 46, dOf "_changed_knot" 47, dOf "_law_cell" 49, dOf "_law_box" 50, dOf "_law_pick" 51, dOf "_law_letters" 52, dOf "_law_kinds" 53, dOf "_law_arity" 54, dOf "_law_made_bed" 55, dOf "_law_tuples" 56, dOf "_law_reader" 57, dOf "_law_made_reader" 58, dOf "_law_plant" 59, dOf "_law_chain" 60, dOf "_law_fault" 61, dOf "_law_spoilt" 62, dOf "_law_number" 63, dOf "_law_swaps" 64, dOf "_law_made_prices" 65, dOf "_law_rank" 66, dOf "_law_lesser" 67, dOf "_law_steps" 68, dOf "_law_ways" 69, dOf "_law_integer" 70, dOf "_law_offer" 71, dOf "_law_knot" 72, dOf "_law_due" 73, dOf "_law_told" 74, dOf "_law_right" 75, dOf "law" 76, dMe "__init__" "Bed.__init__" 0, dMe "leaves" "Bed.leaves" 3, dMe "branches" "Bed.branches" 4, dMe "rank" "Bed.rank" 5, dMe "same" "Bed.same" 6, dMeP "__init__" "Prices.__init__" 0, dMeR "__init__" "Reader.__init__" 0 [("otherwise", .int 0)], dMeR "step" "Reader.step" 1 []]
def fa : List He.Fa := [.glo "only_letters", .glo "is_name", .glo "need_same", .glo "check_count", .glo "arity", .glo "fault_among", .glo "check_plant", .glo "_entered", .glo "_check_marks", .glo "named_plant", .glo "cheapest", .glo "_is_price", .glo "_is_swap", .glo "_turns", .glo "_changed", .glo "_cut_values", .glo "_changed_knot", .glo "_law_cell", .glo "_law_box", .glo "_law_pick", .glo "_law_letters", .glo "_law_kinds", .glo "_law_arity", .glo "_law_made_bed", .glo "_law_tuples", .glo "_law_reader", .glo "_law_made_reader", .glo "_law_plant", .glo "_law_chain", .glo "_law_fault", .glo "_law_spoilt", .glo "_law_number", .glo "_law_swaps", .glo "_law_made_prices", .glo "_law_rank", .glo "_law_lesser", .glo "_law_steps", .glo "_law_ways", .glo "_law_integer", .glo "_law_offer", .glo "_law_knot", .glo "_law_due", .glo "_law_told", .glo "_law_right", .glo "law", .free "len", .free "range", .free "reversed", .free "enumerate", .free "tuple", .free "list", .free "int", .free "abs", .free "max", .free "isinstance", .free "bool", .free "super", .free "zip", .free "min", .free "dict", .int "MOST_KNOTS" 2000, .int "MOST_KINDS" 8, .int "MOST_BRANCHES" 3, .int "LONGEST_NAME" 8, .int "GREATEST_PRICE" 1000, .int "MOST_STATES" 40, .glo "Bed", .cls "Bed", .mkr "Bed", .noat "Bed" "arities", .noat "Bed" "rows", .noat "Bed" "kinds", .noat "Bed" "ranks", .meth "Bed" "__init__", .meth "Bed" "leaves", .meth "Bed" "branches", .meth "Bed" "rank", .meth "Bed" "same", .glo "Prices", .cls "Prices", .mkr "Prices", .noat "Prices" "bed", .noat "Prices" "cutting", .noat "Prices" "swaps", .meth "Prices" "__init__", .glo "Reader", .cls "Reader", .mkr "Reader", .noat "Reader" "bed", .noat "Reader" "states", .noat "Reader" "marks", .noat "Reader" "_otherwise", .noat "Reader" "_entered", .meth "Reader" "step"]
def ers : List ErD := [⟨"TooMany", "TooMany.__init__", clb 10 0, ["what", "limit"]⟩, ⟨"InvalidPlant", "InvalidPlant.__init__", clb 4 0, ["place"]⟩, ⟨"InvalidPrices", "InvalidPrices.__init__", clb 6 0, ["place"]⟩, ⟨"UnknownKind", "UnknownKind.__init__", clb 8 0, ["kind"]⟩]
abbrev R : PySem.W.OpenRow := PySem.W.OpenLaw.row PySem.Challenge.rw_shearyard_k52_cheapest_change
/-- the addresses that the facts look at -/
def lit0 : List Addr := [3, 6, 4, 21, 31, 53, 74, 95, 116, 137, 158, 179, 200, 221, 242, 251, 258, 322, 333, 340, 347, 354, 361, 366, 373, 380, 438, 447, 464, 473, 480, 487, 494, 501, 508, 513, 520, 527, 534, 541, 546, 553, 560, 567, 574, 581, 586, 591, 598, 605, 612, 619, 626, 633, 640, 645, 652, 659, 666, 671, 678, 685, 692, 699, 0, 20, 30, 52, 73, 94, 115, 136, 157, 178, 199, 220, 241, 250, 257, 321, 332, 339, 346, 353, 360, 365, 372, 379, 437, 446, 463, 472, 479, 486, 493, 500, 507, 512, 519, 526, 533, 540, 545, 552, 559, 566, 573, 580, 585, 590, 597, 604, 611, 618, 625, 632, 639, 644, 651, 658, 665, 670, 677, 684, 691, 698, 15, 16, 17, 18, 19, 29, 32, 50, 51, 71, 72, 92, 93, 113, 114, 134, 135, 155, 156, 176, 177, 197, 198, 218, 219, 239, 240, 245, 246, 247, 248, 249, 252, 253, 254, 255, 256, 270, 279, 288, 293, 300, 307, 314, 319, 320, 323, 324, 327, 328, 329, 330, 331, 334, 335, 336, 337, 338, 341, 342, 343, 344, 345, 348, 349, 350, 351, 352, 355, 356, 357, 358, 359, 362]
def lit1 : List Addr := [363, 364, 367, 368, 369, 370, 371, 374, 375, 376, 377, 378, 395, 402, 407, 414, 421, 428, 435, 436, 439, 440, 443, 444, 445, 461, 462, 465, 466, 469, 470, 471, 474, 475, 476, 477, 478, 481, 482, 483, 484, 485, 488, 489, 490, 491, 492, 495, 496, 497, 498, 499, 502, 503, 504, 505, 506, 509, 510, 511, 514, 515, 516, 517, 518, 521, 522, 523, 524, 525, 528, 529, 530, 531, 532, 535, 536, 537, 538, 539, 542, 543, 544, 547, 548, 549, 550, 551, 554, 555, 556, 557, 558, 561, 562, 563, 564, 565, 568, 569, 570, 571, 572, 575, 576, 577, 578, 579, 582, 583, 584, 587, 588, 589, 592, 593, 594, 595, 596, 599, 600, 601, 602, 603, 606, 607, 608, 609, 610, 613, 614, 615, 616, 617, 620, 621, 622, 623, 624, 627, 628, 629, 630, 631, 634, 635, 636, 637, 638, 641, 642, 643, 646, 647, 648, 649, 650, 653, 654, 655, 656, 657, 660, 661, 662, 663, 664, 667, 668, 669, 672, 673, 674, 675, 676, 679, 680, 681, 682, 683, 686, 687, 688, 689, 690, 693, 694, 695, 696, 697, 49, 38, 70, 59, 91, 80, 112, 101, 133, 122]
def lit2 : List Addr := [154, 143, 175, 164, 196, 185, 217, 206, 238, 227, 269, 277, 278, 287, 292, 299, 306, 313, 318, 394, 388, 401, 406, 413, 420, 427, 434, 460, 44, 45, 46, 47, 48, 65, 66, 67, 68, 69, 86, 87, 88, 89, 90, 107, 108, 109, 110, 111, 128, 129, 130, 131, 132, 149, 150, 151, 152, 153, 170, 171, 172, 173, 174, 191, 192, 193, 194, 195, 212, 213, 214, 215, 216, 233, 234, 235, 236, 237, 266, 267, 268, 276, 280, 286, 289, 290, 291, 294, 295, 296, 297, 298, 301, 302, 303, 304, 305, 308, 309, 310, 311, 312, 315, 316, 317, 389, 390, 391, 392, 393, 396, 397, 398, 399, 400, 403, 404, 405, 408, 409, 410, 411, 412, 415, 416, 417, 418, 419, 422, 423, 424, 425, 426, 429, 430, 431, 432, 433, 455, 456, 457, 458, 459, 2]
def lit : List Addr := lit0 ++ lit1 ++ lit2
abbrev hk : PySem.W.Hook := hookX R.prog.main.file lit fa fn ers
def ob (s : PySem.W.SharedT) : AlX := obsXG R.prog.main.file lit fa fn ers (HandSHeadRun.getT s)
theorem ob_eq (s : PySem.W.SharedT) : ob s = hk.obs s.abs := obsXG_eq (HandSHeadRun.getT_eq s)
def loose1 : List Str := ["_wall", "YardError", "InvalidBed", "InvalidPlant", "InvalidReader", "InvalidPrices", "InvalidText", "UnknownKind", "OtherBed", "TooMany", "WrongBranches", "NoState", "MOST_KINDS", "MOST_BRANCHES", "MOST_KNOTS", "MOST_STATES", "LONGEST_NAME", "DIGITS", "only_letters", "is_name", "Bed", "need_same", "check_count", "arity", "fault_among", "check_plant", "below_tuples", "_entered", "_check_marks", "Reader"]
def loose2 : List Str := ["named_plant", "GREATEST_PRICE", "Prices", "cheapest", "_is_price", "_is_swap", "_turns", "_changed", "_cut_values", "_changed_knot", "_law_cell", "_law_box", "_law_pick", "_law_letters", "_law_kinds", "_law_arity", "_law_made_bed", "_law_tuples", "_law_reader", "_law_made_reader", "_law_plant", "_law_chain", "_law_fault", "_law_spoilt", "_law_number", "_law_swaps", "_law_made_prices", "_law_rank", "_law_lesser", "_law_steps"]
def loose3 : List Str := ["_law_ways", "_law_integer", "_law_offer", "_law_knot", "_law_due", "_law_told", "_law_right"]
theorem run (w : World) : HandSHeadRun.RunEq R (PySem.W.view R.prog [76]) hk ob 30000 (loose1 ++ loose2 ++ loose3) w := by
  intro os
  kernel_rfl
end Sy.En
/-! keys (k, tuple of keys) of a dict -/
namespace Sy
open PySem PySem.Spec PyProof.Rows L2
abbrev NKey : Type := Key × List Key
section
variable {prog : Program} {w : World} {A : Around} {E : Value → Shared → Prop} {s : Shared}
def IsNest (prog : Program) (w : World) (h : Heap) (k : NKey) (a : Addr) : Prop :=
  ∃ (o : Obj) (v : Value) (b : Addr) (n : Nat), h.get? a = some o ∧ o.cls = .type "tuple" ∧ o.data = .seq #[v, .ref b] n ∧ (mixKind prog w).is k.1 v = true ∧ IsTupleKey (mixKind prog w) h k.2 b
theorem IsNest.typeIs {k : NKey} {a : Addr} (x : IsNest prog w s.heap k a) : s.TypeIs (.ref a) "tuple" := let ⟨o, _, _, _, ho, hc, _⟩ := x; ⟨o, ho, hc⟩
theorem IsNest.inj {h : Heap} {a : Addr} {x y : NKey} (hx : IsNest prog w h x a) (hy : IsNest prog w h y a) : x = y := by
  obtain ⟨o, v, b, n, ho, _, hd, h1, h2⟩ := hx
  obtain ⟨o', v', b', n', ho', _, hd', h1', h2'⟩ := hy
  obtain rfl : o = o' := Option.some.inj (ho.symm.trans ho')
  rw [hd] at hd'
  injection hd' with e1 _
  have e2 : [v, Value.ref b] = [v', Value.ref b'] := congrArg Array.toList e1
  injection e2 with e3 e4
  injection e4 with e5 _
  injection e5 with e5
  subst e3 e5
  exact Prod.ext ((mixKind prog w).inj _ _ _ h1 h1') (h2.inj h2')
theorem IsNest.keeps {h h' : Heap} {k : NKey} {a d : Addr} {o : Obj} {es ep} (x : IsNest prog w h k a) (ho : h.get? d = some o) (hd : o.data = .dict es ep) (hs : Heap.SameBut d h h') : IsNest prog w h' k a := by
  obtain ⟨o', v, b, n, ho', hc, hd', h1, h2⟩ := x
  have hne : a ≠ d := by
    rintro rfl
    obtain rfl : o' = o := Option.some.inj (ho'.symm.trans ho)
    rw [hd] at hd'; exact nomatch hd'
  exact ⟨o', v, b, n, (hs.2 a hne).trans ho', hc, hd', h1, h2.keeps ho hd hs⟩
def nestHash (prog : Program) (w : World) (k : NKey) : Int := reduceHash (Builtin.Tuple.tupleHashOf [(mixKind prog w).hash k.1, tupleKeyHash (mixKind prog w) k.2])
theorem wpAny_pyHash_nest {k : NKey} {a : Addr} {Q : Int → Shared → Prop} (hu : A.units + 3 < cLine) (hk : IsNest prog w s.heap k a) (h : Q (nestHash prog w k) { s with toks := s.toks + (k.2.length + 3) }) :
    wpAny (model prog w) A (pyHash (.ref a)) Q E s := by
  have hT := hk.typeIs
  obtain ⟨o, v, b, n, ho, _, hd, h1, h2⟩ := hk
  unfold pyHash
  first | unfold pyHashByItsType | skip
  first | refine wpAny_bind (wpAny_cRoomFor_or (.inr (by omega)) ?_) | skip
  refine wpAny_bind (wpAny_specialOf hT F.slot_tuple_hash.lookup ?_)
  show wpAny _ _ (if (some (Value.builtin "tuple.__hash__") == some Value.none) = true then _ else _) Q E s
  rw [if_neg (by rw [beq_builtin_none]; exact Bool.false_ne_true)]
  refine wpAny_bind (wpAny_specialOf hT F.slot_tuple_hash.lookup ?_)
  show wpAny _ _ (callSpecialIfBoundUnlessNone? (.ref a) "__hash__" _ >>= _) Q E s
  refine wpAny_bind (wpAny_callSpecialIfBoundUnlessNone?_slot hT F.slot_tuple_hash (wpAny_call_entry F.slot_tuple_hash hT F.entry_tuple_hash ?_ (F.args_tuple_hash_1 _)))
  show wpAny _ _ (Builtin.Tuple.tupleItemsOf (.ref a) >>= _) _ _ s
  refine wpAny_bind (wpAny_tupleItemsOf ho hd ?_)
  refine wpAny_bind ?_
  rw [← Array.forIn_toList]
  refine wpAny_forIn_list _
    (fun rest (bs : Array Int) s' => (rest = [v, .ref b] ∧ bs.toList = [] ∧ s' = s) ∨ (rest = [.ref b] ∧ bs.toList = [(mixKind prog w).hash k.1] ∧ s' = { s with toks := s.toks + 1 }) ∨
      (rest = [] ∧ bs.toList = [(mixKind prog w).hash k.1, tupleKeyHash (mixKind prog w) k.2] ∧ s' = { s with toks := s.toks + (k.2.length + 2) }))
    _ ?_ ?_ _ _ (.inl ⟨rfl, rfl, rfl⟩)
  · rintro x rest bs s' (⟨e, hb, rfl⟩ | ⟨e, hb, rfl⟩ | ⟨e, _⟩)
    · injection e with e1 e2
      subst e1 e2
      refine wpAny_bind ((mixKind prog w).pyHash h1 ?_)
      first
        | exact wpAny_pure (.inr (.inl ⟨rfl, by simp [hb], rfl⟩))
        | exact wpAny_bind (wpAny_pure (wpAny_pure (.inr (.inl ⟨rfl, by simp [hb], rfl⟩))))
    · injection e with e1 e2
      subst e1 e2
      refine wpAny_bind (wpAny_pyHash_tuple (s := { s with toks := s.toks + 1 }) (by first | exact hu | (show A.units + 1 < cLine; omega) | (show A.units + 2 < cLine; omega) | (show A.units + 3 < cLine; omega)) h2 ?_)
      have e3 : s.toks + 1 + (k.2.length + 1) = s.toks + (k.2.length + 2) := by omega
      first
        | exact wpAny_pure (.inr (.inr ⟨rfl, by simp [hb], by simp [e3]⟩))
        | exact wpAny_bind (wpAny_pure (wpAny_pure (.inr (.inr ⟨rfl, by simp [hb], by simp [e3]⟩))))
    · exact nomatch e
  · rintro bs s' (⟨e, _⟩ | ⟨e, _⟩ | ⟨_, hb, rfl⟩)
    · exact nomatch e
    · exact nomatch e
    show wpAny _ _ (retInt (Builtin.Tuple.tupleHashOf bs.toList)) _ _ _
    rw [hb]
    refine wpAny_ret_mkInt ?_
    show wpAny _ _ (if (decide (-(2 : Int) ^ 63 ≤ Builtin.Tuple.tupleHashOf [(mixKind prog w).hash k.1, tupleKeyHash (mixKind prog w) k.2]) && decide (Builtin.Tuple.tupleHashOf [(mixKind prog w).hash k.1, tupleKeyHash (mixKind prog w) k.2] < 2 ^ 63)) = true then _ else _) Q E _
    unfold nestHash reduceHash at h
    by_cases hr : (decide (-(2 : Int) ^ 63 ≤ Builtin.Tuple.tupleHashOf [(mixKind prog w).hash k.1, tupleKeyHash (mixKind prog w) k.2]) && decide (Builtin.Tuple.tupleHashOf [(mixKind prog w).hash k.1, tupleKeyHash (mixKind prog w) k.2] < 2 ^ 63)) = true
    · rw [if_pos hr]
      rw [if_pos hr] at h
      exact wpAny_pure (by simpa [Nat.add_assoc] using h)
    · rw [if_neg hr]
      rw [if_neg hr] at h
      exact wpAny_bind (wpAny_rule (wpAny_pure (by simpa [Nat.add_assoc] using h)))
theorem nest_eq_tree {x y : NKey} {a b : Addr} {P : Fin → Shared → Prop} (hu : A.units < cLine) (hx : IsNest prog w s.heap x a) (hy : IsNest prog w s.heap y b) (h : P (.done (.ret (.bool (decide (x = y))))) s) :
    wpAny (model prog w) A (Builtin.«tuple.__eq__» ⟨[.ref a, .ref b], []⟩) P E s := by
  have hTb := hy.typeIs
  obtain ⟨oa, va, ba, na, hoa, _, hda, ha1, ha2⟩ := hx
  obtain ⟨ob, vb, bb, nb, hob, _, hdb, hb1, hb2⟩ := hy
  obtain ⟨x1, x2⟩ := x
  obtain ⟨y1, y2⟩ := y
  show wpAny _ _ (isInstance (.ref b) (.type "tuple") >>= _) _ _ s
  refine wpAny_bind (wpAny_isInstance hTb isSubtype_tuple_tuple ?_)
  simp only [Bool.not_true, Bool.false_eq_true, if_false]
  refine wpAny_bind (wpAny_tupleItemsOf hoa hda ?_)
  refine wpAny_bind (wpAny_tupleItemsOf hob hdb ?_)
  refine wpAny_bind ?_
  refine wpAny_forIn_list _
    (fun rest r s' => r.1 = none ∧ s' = s ∧ ((rest = [(va, vb), (.ref ba, .ref bb)]) ∨ (rest = [(.ref ba, .ref bb)] ∧ x1 = y1) ∨ (rest = [] ∧ x1 = y1 ∧ x2 = y2)))
    _ ?_ ?_ _ _ ⟨rfl, rfl, .inl rfl⟩
  · rintro ⟨u, v⟩ rest r s' ⟨hr, rfl, (e | ⟨e, he⟩ | ⟨e, _⟩)⟩
    · injection e with e1 e2
      injection e1 with e3 e4
      subst e2 e3 e4
      refine wpAny_bind ((mixKind prog w).eqBool (a := x1) (b := y1) ha1 hb1 ?_)
      by_cases hk : x1 = y1
      · subst hk
        rw [decide_eq_true rfl]
        simp only [Bool.not_true, Bool.false_eq_true, if_false]
        exact wpAny_pure (by simp)
      · rw [decide_eq_false hk]
        simp only [Bool.not_false, if_true]
        have hf : decide ((x1, x2) = (y1, y2)) = false := by simp [hk]
        rw [hf] at h
        exact wpAny_bind (wpAny_pure (wpAny_pure (wpAny_pure h)))
    · injection e with e1 e2
      injection e1 with e3 e4
      subst e2 e3 e4 he
      refine wpAny_bind (wpAny_eqBool_tuple (x := x2) (y := y2) hu ha2 hb2 ?_)
      by_cases hk : x2 = y2
      · subst hk
        rw [decide_eq_true rfl]
        simp only [Bool.not_true, Bool.false_eq_true, if_false]
        exact wpAny_pure (by simp)
      · rw [decide_eq_false hk]
        simp only [Bool.not_false, if_true]
        have hf : decide ((x1, x2) = (x1, y2)) = false := by simp [hk]
        rw [hf] at h
        exact wpAny_bind (wpAny_pure (wpAny_pure (wpAny_pure h)))
    · exact nomatch e
  · rintro ⟨r1, r2⟩ s' ⟨hr, rfl, (e | ⟨e, _⟩ | ⟨_, rfl, rfl⟩)⟩
    · exact nomatch e
    · exact nomatch e
    simp only at hr
    subst hr
    refine wpAny_pure ?_
    show P (.done (.ret (.bool ((#[va, Value.ref ba] : Array Value).size == (#[vb, Value.ref bb] : Array Value).size)))) s'
    simpa using h
theorem wpAny_eqBool_nest {x y : NKey} {a b : Addr} {Q : Bool → Shared → Prop} (hu : A.units + 3 < cLine) (hx : IsNest prog w s.heap x a) (hy : IsNest prog w s.heap y b) (h : Q (decide (x = y)) s) :
    wpAny (model prog w) A (eqBool (.ref a) (.ref b)) Q E s := by
  unfold eqBool
  try with_reducible refine wpAny_holding ?_
  show wpAny _ _ (if (Value.ref a == Value.ref b) = true then _ else _) Q E s
  by_cases hab : (Value.ref a == Value.ref b) = true
  · rw [if_pos hab]
    have e : a = b := by have := eq_of_beq hab; injection this
    subst e
    obtain rfl := hx.inj hy
    exact wpAny_bind (wpAny_rule (wpAny_pure (by simpa using h)))
  · rw [if_neg hab]
    refine wpAny_bind (wpAny_richCompare_same_room (op := .Eq) hx.typeIs hy.typeIs F.slot_tuple_eq
      (wpAny_call_entry F.slot_tuple_eq hx.typeIs F.entry_tuple_eq (nest_eq_tree ?_ hx hy ⟨_, rfl, (fun e => nomatch e), wpAny_truthy_bool h⟩) (F.args_tuple_eq_2 _ _)) (by omega))
    first | exact (show A.units + 1 < cLine by omega) | exact (show A.units + 2 < cLine by omega) | exact (show A.units + 3 < cLine by omega)
theorem quiet_tuple {n : Nat} {ks : List Key} {a : Addr} {Q : Bool → Shared → Prop} (hk : IsTupleKey (mixKind prog w) s.heap ks a) (h : Q true s) : wpAny (model prog w) A (eqIsQuiet (n + 1) (.ref a)) Q E s := by
  have hT := hk.typeIs
  obtain ⟨o, items, n, ho, _, hd, hi⟩ := hk
  unfold eqIsQuiet
  refine wpAny_bind (wpAny_specialOf hT F.slot_tuple_eq.lookup ?_)
  show wpAny _ _ (isInstance (.ref a) (.type "tuple") >>= _) _ _ s
  refine wpAny_bind (wpAny_isInstance hT isSubtype_tuple_tuple ?_)
  simp only [Bool.not_true, Bool.false_eq_true, if_false]
  refine wpAny_bind (wpAny_seqItems ho hd ?_)
  refine wpAny_bind ?_
  show wpAny _ _ (forIn items _ _) _ _ s
  rw [← Array.forIn_toList]
  refine wpAny_forIn_list _ (fun rest r s' => r.1 = none ∧ s' = s ∧ ∀ v ∈ rest, carriedByValue v = true) _ ?_ ?_ _ _ ⟨rfl, rfl, hi.byValue⟩
  · rintro v rest r s' ⟨hr, rfl, hall⟩
    rw [eqIsQuiet_byValue _ (hall v List.mem_cons_self)]
    refine wpAny_bind (wpAny_pure ?_)
    simp only [Bool.not_true, Bool.false_eq_true, if_false]
    exact wpAny_pure ⟨rfl, rfl, fun u hu' => hall u (List.mem_cons_of_mem _ hu')⟩
  · rintro ⟨r1, r2⟩ s' ⟨hr, rfl, _⟩
    simp only at hr
    subst hr
    exact wpAny_pure h
theorem wpAny_quiet_nest {k : NKey} {a : Addr} {Q : Bool → Shared → Prop} (hk : IsNest prog w s.heap k a) (h : Q true s) : wpAny (model prog w) A (eqIsQuiet 8 (.ref a)) Q E s := by
  have hT := hk.typeIs
  obtain ⟨o, v, b, n, ho, _, hd, h1, h2⟩ := hk
  unfold eqIsQuiet
  refine wpAny_bind (wpAny_specialOf hT F.slot_tuple_eq.lookup ?_)
  show wpAny _ _ (isInstance (.ref a) (.type "tuple") >>= _) _ _ s
  refine wpAny_bind (wpAny_isInstance hT isSubtype_tuple_tuple ?_)
  simp only [Bool.not_true, Bool.false_eq_true, if_false]
  refine wpAny_bind (wpAny_seqItems ho hd ?_)
  refine wpAny_bind ?_
  show wpAny _ _ (forIn #[v, Value.ref b] _ _) _ _ s
  rw [← Array.forIn_toList]
  refine wpAny_forIn_list _ (fun rest r s' => r.1 = none ∧ s' = s ∧ (rest = [v, .ref b] ∨ rest = [.ref b] ∨ rest = [])) _ ?_ ?_ _ _ ⟨rfl, rfl, .inl rfl⟩
  · rintro u rest r s' ⟨hr, rfl, (e | e | e)⟩
    · injection e with e1 e2
      subst e1 e2
      rw [eqIsQuiet_byValue _ ((mixKind prog w).byValue _ _ h1)]
      refine wpAny_bind (wpAny_pure ?_)
      simp only [Bool.not_true, Bool.false_eq_true, if_false]
      exact wpAny_pure (by simp)
    · injection e with e1 e2
      subst e1 e2
      refine wpAny_bind (quiet_tuple h2 ?_)
      simp only [Bool.not_true, Bool.false_eq_true, if_false]
      exact wpAny_pure (by simp)
    · exact nomatch e
  · rintro ⟨r1, r2⟩ s' ⟨hr, rfl, _⟩
    simp only at hr
    subst hr
    exact wpAny_pure h
end
/-- keys (k, tuple of keys) -/
def nestKind (prog : Program) (w : World) : HeapKind prog w NKey where
  is := IsNest prog w
  hash := nestHash prog w
  draws := fun k => k.2.length + 3
  room := fun A => A.units + 3 < cLine
  inj := fun hx hy => hx.inj hy
  keeps := fun x ho hd hs => x.keeps ho hd hs
  pyHash := fun hu hk h => wpAny_pyHash_nest hu hk h
  eqBool := fun hu hx hy h => wpAny_eqBool_nest hu hx hy h
  quiet := fun hk h => wpAny_quiet_nest hk h
end Sy
/-! dicts with keys (k, tuple of keys) -/
namespace Sy
open PySem PySem.Spec PyProof.Rows L2
/-- the dict at a holds these entries -/
def HN (P : Program) (w : World) (a : Addr) (xs : List (NKey × Addr × Value)) : HO := .ext fun h => ∃ o es ep, h.get? a = some o ∧ o.ExactDict ∧ o.data = .dict es ep ∧ es.toList = xs.map (entryOfKey (nestKind P w)) ∧ (xs.map (·.1)).Nodup
/-- the key k at b -/
def NK (K : PySem.W.Frag) (H : Hp) (k : NKey) (b : Addr) : Prop := ∃ c, SqT K H b [kV k.1, .ref c] ∧ SqT K H c (k.2.map kV)
abbrev KN (K : PySem.W.Frag) (H : Hp) : List (NKey × V) → List (NKey × Addr × Value) → Prop := Paired fun p q => p.1 = q.1 ∧ NK K H p.1 q.2.1 ∧ RelV p.2 q.2.2
/-- ob, the thing at a, is the dict kvs -/
structure NOf (P : Program) (w : World) (K : PySem.W.Frag) (H : Hp) (a : Addr) (ob : HO) (kvs : List (NKey × V)) : Prop where
  ex : ∃ xs, ob = HN P w a xs ∧ kvs.length ≤ sizeLine ∧ (a == sysModules) = false ∧ KN K H kvs xs
theorem NK.mono {K : PySem.W.Frag} {H H' : Hp} {k : NKey} {b : Addr} (h : NK K H k b) (s : Stay H H') : NK K H' k b := by
  obtain ⟨c, h1, h2⟩ := h
  exact ⟨c, s.sqt h1, s.sqt h2⟩
theorem NOf.mono {P : Program} {w : World} {K : PySem.W.Frag} {H H' : Hp} {a : Addr} {ob : HO} {kvs : List (NKey × V)} (h : NOf P w K H a ob kvs) (s : Stay H H') : NOf P w K H' a ob kvs := by
  obtain ⟨xs, h1, h2, h3, h4⟩ := h.ex
  exact ⟨xs, h1, h2, h3, Paired.mapP h4 fun _ _ z => ⟨z.1, z.2.1.mono s, z.2.2⟩⟩
theorem NOf.ext {P : Program} {w : World} {K : PySem.W.Frag} {H : Hp} {a : Addr} {ob : HO} {kvs : List (NKey × V)} (h : NOf P w K H a ob kvs) : ∃ φ, ob = .ext φ := by
  obtain ⟨xs, h1, _⟩ := h.ex
  exact ⟨_, h1⟩
theorem KN.val {K : PySem.W.Frag} {H : Hp} {kvs : List (NKey × V)} {xs : List (NKey × Addr × Value)} (r : KN K H kvs xs) (k : NKey) : RelO (valV kvs k) ((atKey xs k).map (·.2)) := by
  induction r with
  | nil => exact True.intro
  | @cons p q ps qs h t ih =>
    obtain ⟨h1, _, h2⟩ := h
    by_cases e : p.1 = k
    · have e' : q.1 = k := h1.symm.trans e
      have b : atKey (q :: qs) k = some q.2 := by simp [atKey, List.find?_cons, e']
      rw [valV_pos e, b]; exact h2
    · have e' : ¬ q.1 = k := fun z => e (h1.trans z)
      have b : atKey (q :: qs) k = atKey qs k := by simp [atKey, List.find?_cons, e']
      rw [valV_neg e, b]; exact ih
theorem KN.repl {K : PySem.W.Frag} {H : Hp} {kvs : List (NKey × V)} {xs : List (NKey × Addr × Value)} (r : KN K H kvs xs) (k : NKey) {y : V} {u : Value} (ry : RelV y u) :
    KN K H (kvs.map fun kv => if kv.1 = k then (kv.1, y) else kv) (xs.map (putAt k u)) := by
  induction r with
  | nil => exact .nil
  | @cons p q ps qs h t ih =>
    rw [List.map_cons, List.map_cons]
    refine .cons ?_ ih
    obtain ⟨h1, h2, h3⟩ := h
    unfold putAt
    by_cases e : p.1 = k
    · rw [if_pos e, if_pos (h1.symm.trans e)]; exact ⟨h1, h2, ry⟩
    · rw [if_neg e, if_neg (fun z => e (h1.trans z))]; exact ⟨h1, h2, h3⟩
theorem KN.put {K : PySem.W.Frag} {H : Hp} {kvs : List (NKey × V)} {xs : List (NKey × Addr × Value)} (r : KN K H kvs xs) (k : NKey) {b : Addr} {y : V} {u : Value} (hb : NK K H k b) (ry : RelV y u) :
    KN K H (putK kvs k y) (storedH xs k b u) := by
  have e : (kvs.any fun kv => decide (kv.1 = k)) = (atKey xs k).isSome := by
    rw [valV_any, (r.val k).isSome_eq, Option.isSome_map]
  unfold putK storedH
  rw [e]
  by_cases q : (atKey xs k).isSome = true
  · rw [if_pos q, if_pos q]; exact r.repl k ry
  · rw [if_neg q, if_neg q]; exact Paired.snoc r ⟨rfl, hb, ry⟩
section
variable {X : Cx} {pins : List (Addr × Obj)} {σ : L2.St} {H : Hp} {s : Shared} {a b : Addr} {y v : V} {u r : Value} {o : Option V} {A : Around} {E : Value → Shared → Prop} {ob : HO} {kvs : List (NKey × V)} {k : NKey}
theorem nk_of (I : Inv X pins σ H s) (h : NK X.K H k b) : (nestKind X.prog X.w).is s.heap k b := by
  obtain ⟨c, h1, h2⟩ := h
  obtain ⟨its, r1, ⟨o1, g1, c1, n1, d1⟩, _⟩ := I.tuple h1
  obtain ⟨jts, r2, ⟨o2, g2, c2, n2, d2⟩, _⟩ := I.tuple h2
  cases r1 with
  | cons e1 r1 =>
    cases r1 with
    | cons e2 r1 =>
      cases r1
      cases e2
      exact ⟨o1, _, c, n1, g1, c1, d1, kV_is e1, o2, _, n2, g2, c2, d2, by simpa using items_are r2⟩
theorem dn_dict {xs : List (NKey × Addr × Value)} (I : Inv X pins σ H s) (h4 : KN X.K H kvs xs) (e : H a = some (HN X.prog X.w a xs)) : s.heap.DictOfH (nestKind X.prog X.w) a xs := by
  obtain ⟨⟨o, es, ep, g1, g2, g3, g4, g5⟩, _⟩ := (show ObjOk X.prog X.w H s.heap a (HN X.prog X.w a xs) from I.hok a _ e)
  refine ⟨o, es, ep, g1, g2, g3, g4, fun x hx => ?_, g5⟩
  have all : ∀ {l : List (NKey × V)} {m : List (NKey × Addr × Value)}, KN X.K H l m → ∀ x ∈ m, (nestKind X.prog X.w).is s.heap x.1 x.2.1 := by
    intro l m q
    induction q with
    | nil => intro x hx; exact nomatch hx
    | @cons p q ps qs hq t ih =>
      intro x hx
      rcases List.mem_cons.mp hx with e | hx
      · subst e
        exact nk_of I (by rw [← hq.1]; exact hq.2.1)
      · exact ih x hx
  exact all h4 x hx
theorem dn_rd (I : Inv X pins σ H s) (hq : NOf X.prog X.w X.K H a ob kvs) (e : H a = some ob) : kvs.length ≤ sizeLine ∧ (a == sysModules) = false ∧ ∃ xs, ob = HN X.prog X.w a xs ∧ KN X.K H kvs xs ∧ s.heap.DictOfH (nestKind X.prog X.w) a xs := by
  obtain ⟨xs, rfl, h2, h3, h4⟩ := hq.ex
  exact ⟨h2, h3, xs, rfl, h4, dn_dict I h4 e⟩
theorem dn_noDict (I : Inv X pins σ H s) (hq : NOf X.prog X.w X.K H a ob kvs) (e : H a = some ob) : s.TypeIs (.ref a) "dict" ∧ (∀ b, Value.ref a = .ref b → ∃ ob, s.heap.get? b = some ob ∧ ob.dict = none) := by
  obtain ⟨_, _, xs, _, _, dd⟩ := dn_rd I hq e
  refine ⟨dd.typeIs, fun b q => ?_⟩
  cases q
  obtain ⟨ob, _, _, h1, h2, _⟩ := dd
  exact ⟨ob, h1, h2.2.1⟩
theorem dn_getItem {Q : Value → Shared → Prop} (hu : A.units + 4 < cLine) (I : Inv X pins σ H s) (hq : NOf X.prog X.w X.K H a ob kvs) (e : H a = some ob) (hk : NK X.K H k b) (l : valV kvs k = some v) (h : ∀ w' s', Inv X pins σ H s' → RelV v w' → Q w' s') :
    wpAny (model X.prog X.w) A (getItem (.ref a) (.ref b)) Q E s := by
  obtain ⟨z, hd, xs, _, rel, dd⟩ := dn_rd I hq e
  obtain ⟨w', hw, rw'⟩ := RelO.some_of (v := v) (o := (atKey xs k).map (·.2)) (by rw [← l]; exact rel.val k)
  obtain ⟨p, hp, hp2⟩ := Option.map_eq_some_iff.mp hw
  refine wpAny_getItem_heap (show A.units + 1 + 3 < cLine by omega) (nk_of I hk) dd hp ?_
  rw [hp2]
  exact h w' _ (I.tok _) rw'
theorem dn_in {Q : Value → Shared → Prop} (hu : A.units + 4 < cLine) (I : Inv X pins σ H s) (hq : NOf X.prog X.w X.K H a ob kvs) (e : H a = some ob) (hk : NK X.K H k b) (h : ∀ s', Inv X pins σ H s' → Q (.bool (valV kvs k).isSome) s') :
    wpAny (model X.prog X.w) A (compareOp .In (.ref b) (.ref a)) Q E s := by
  obtain ⟨z, hd, xs, _, rel, dd⟩ := dn_rd I hq e
  refine wpAny_in_heap (show A.units + 1 + 3 < cLine by omega) (nk_of I hk) hd dd ?_
  have q := (rel.val k).isSome_eq
  rw [Option.isSome_map] at q
  rw [← q]
  exact h _ (I.tok _)
theorem dn_get2 {Q : Value → Shared → Prop} {d : V} (hu : A.units + 4 < cLine) (I : Inv X pins σ H s) (hq : NOf X.prog X.w X.K H a ob kvs) (e : H a = some ob) (hk : NK X.K H k b) (rd : RelV d r) (h : ∀ w' s', Inv X pins σ H s' → RelV ((valV kvs k).getD d) w' → Q w' s') :
    wpAny (model X.prog X.w) A (call (.builtin "dict.get") [.ref a, .ref b, r]) Q E s := by
  obtain ⟨z, hd, xs, _, rel, dd⟩ := dn_rd I hq e
  refine call_meetsIn PySem.F.slot_dict_get dd.typeIs PySem.F.entry_dict_get (PySem.F.args_dict_get_3 _ _ _) (meetsH_dict_get_default (nestKind X.prog X.w) a b hd r) ⟨(show A.units + 1 + 3 < cLine by omega), k, xs, nk_of I hk, dd, h _ _ (I.tok _) ?_⟩
  exact (rel.val k).getD rd
theorem dn_setItem {B : Hp} {Q : Unit → Shared → Prop} (hu : A.units + 4 < cLine) (I : Inv X pins σ H s) (st : Stay B H) (hq : NOf X.prog X.w X.K B a ob kvs) (e : H a = some ob) (hk : NK X.K B k b) (hl : kvs.length < sizeLine) (rv : RelV v r)
    (h : ∀ ob' s', NOf X.prog X.w X.K B a ob' (putK kvs k v) → Inv X pins σ (upd H a ob') s' → Q () s') :
    wpAny (model X.prog X.w) A (setItem (.ref a) (.ref b) r) Q E s := by
  obtain ⟨xs, eo, z, hd, rel⟩ := hq.ex
  have relH : KN X.K H kvs xs := Paired.mapP rel fun _ _ z => ⟨z.1, z.2.1.mono st, z.2.2⟩
  have dd := dn_dict I relH (by rw [e, eo])
  have hz : xs.length ≤ sizeLine := by rw [← Paired.length rel]; exact z
  have hl2 : (putK kvs k v).length ≤ sizeLine := by have := length_putK kvs k v; omega
  refine wpAny_setItem_heap (hsz := hz) (show A.units + 1 + 3 < cLine by omega) (nk_of I (hk.mono st)) dd fun h' dd' hs => h (HN X.prog X.w a (storedH xs k b r)) _ ⟨_, rfl, hl2, hd, rel.put k hk rv⟩ ?_
  obtain ⟨q, es, ep, h1, h2, h3, h4, _, h5⟩ := dd'
  refine d_write I (by rw [e, eo]; exact True.intro) hs ⟨q, h1⟩ ⟨⟨q, es, ep, h1, h2, h3, h4, h5⟩, ⟨q, h1⟩, fun g1 g2 z1 z2 => ?_⟩
  obtain ⟨o, es, ep, y1, y2⟩ := z1
  exact ⟨o, es, ep, z2 _ y1, y2⟩
end
/-! readings and rules -/
/-- {}, to be such a dict -/
def tNNew (P : Program) (w : World) (K : PySem.W.Frag) : TE := fun _ H Q => ∀ p ob, H p = none → NOf P w K H p ob [] → Q (.ref p) (upd H p ob)
def tNGet (P : Program) (w : World) (K : PySem.W.Frag) (td ty : TE) : TE := fun σ H Q => td σ H fun x H1 => ty σ H1 fun y H2 => ∃ a b ob kvs k v, x = .ref a ∧ y = .ref b ∧ H2 a = some ob ∧ NOf P w K H2 a ob kvs ∧ NK K H2 k b ∧ valV kvs k = some v ∧ Q v H2
def tNIn (P : Program) (w : World) (K : PySem.W.Frag) (ty td : TE) : TE := fun σ H Q => ty σ H fun y H1 => td σ H1 fun x H2 => ∃ a b ob kvs k, x = .ref a ∧ y = .ref b ∧ H2 a = some ob ∧ NOf P w K H2 a ob kvs ∧ NK K H2 k b ∧ Q (.bl (valV kvs k).isSome) H2
def tNGet2 (P : Program) (w : World) (K : PySem.W.Frag) (td ty tx : TE) : TE := fun σ H Q => td σ H fun x H1 => ∃ a ob1 kvs1, x = .ref a ∧ H1 a = some ob1 ∧ NOf P w K H1 a ob1 kvs1 ∧ ty σ H1 fun y H2 => tx σ H2 fun z H3 => ∃ b ob kvs k, y = .ref b ∧ H3 a = some ob ∧ NOf P w K H3 a ob kvs ∧ NK K H3 k b ∧ Q ((valV kvs k).getD z) H3
def sNPut (P : Program) (w : World) (K : PySem.W.Frag) (td ty tv : TE) : TS := fun D σ H => tv σ H fun v H1 => td σ H1 fun x H2 => ty σ H2 fun y H3 => ∃ a b ob kvs k B, x = .ref a ∧ y = .ref b ∧ H3 a = some ob ∧ Stay B H3 ∧ NOf P w K B a ob kvs ∧ NK K B k b ∧ kvs.length < sizeLine ∧
  ∀ ob', NOf P w K B a ob' (putK kvs k v) → D.nx σ (upd H3 a ob')
section
variable {X : Cx} {o i e f value : Expr} {pos pos' tpos apos cpos : Pos} {td ty tv tx : TE}
theorem pe_nnew : PE X (.Dict [] [] pos) (tNNew X.prog X.w X.K) := ⟨fun pins s σ H Q I h => by
  have hb := I.big
  have hob : NOf X.prog X.w X.K H s.heap.objs.size (HN X.prog X.w s.heap.objs.size []) [] := ⟨[], rfl, Nat.zero_le _, beq_eq_false_iff_ne.mpr (Ne.symm (Nat.ne_of_lt hb)), .nil⟩
  refine wpAny_Dict_empty ⟨.ref s.heap.objs.size, _, I.laid (a := s.heap.objs.size) (o := HN X.prog X.w s.heap.objs.size []) (t' := s.toks) (fun _ _ q => Heap.get?_push_of_some _ q) (Nat.le_refl _) ?_, rfl, h _ _ (I.hok.fresh (Nat.le_refl _)) hob⟩
  refine ⟨⟨_, #[], 0, Heap.get?_push_size _ rfl, ⟨rfl, rfl, rfl⟩, rfl, rfl, List.nodup_nil⟩, ⟨_, Heap.get?_push_size _ rfl⟩, fun g1 g2 z1 z2 => ?_⟩
  obtain ⟨o, es, ep, y1, y2⟩ := z1
  exact ⟨o, es, ep, z2 _ y1, y2⟩⟩
theorem pe_nget (hu : X.A.units + 4 < cLine) (ho : PE X o td) (hi : PE X i ty) (hs : NoSl i) : PE X (.Subscript o i pos) (tNGet X.prog X.w X.K td ty) := by
  refine ⟨fun pins s σ H Q I h => ?_⟩
  refine subD_of PySem.F.slot_dict_getitem.lookup hs (thn (ho.run pins s σ H _ I h) fun u s1 ⟨x, H1, I1, rx, q1⟩ => thn (hi.run pins s1 σ H1 _ I1 q1) fun iv s2 ⟨y, H2, I2, ry, a, b, ob, kvs, k, v, ex, ey, ea, hq, hk, hv, q2⟩ => ?_)
  subst ex ey
  obtain rfl : u = Value.ref a := rx
  obtain rfl : iv = Value.ref b := ry
  exact ⟨(dn_noDict I2 hq ea).1, dn_getItem hu I2 hq ea hk hv fun w' s3 I3 rw' => ⟨v, H2, I3, rw', q2⟩⟩
theorem pc_nin (hu : X.A.units + 4 < cLine) (hi : PE X i ty) (ho : PE X o td) : PC X .In i o (tNIn X.prog X.w X.K ty td) := by
  refine ⟨fun pins s σ H Q I h => ?_⟩
  refine thn (hi.run pins s σ H _ I h) fun iv s1 ⟨y, H1, I1, ry, q1⟩ => thn (ho.run pins s1 σ H1 _ I1 q1) fun u s2 ⟨x, H2, I2, rx, a, b, ob, kvs, k, ex, ey, ea, hq, hk, q2⟩ => ?_
  subst ex ey
  obtain rfl : u = Value.ref a := rx
  obtain rfl : iv = Value.ref b := ry
  exact dn_in hu I2 hq ea hk fun s3 I3 => ⟨.bl (valV kvs k).isSome, H2, I3, rfl, q2⟩
theorem ps_nput (hu : X.A.units + 4 < cLine) (ho : PE X o td) (hi : PE X i ty) (hv : PE X value tv) (hs : swapsWith value (some (.Subscript o i pos')) pos.line X.env = pure false) :
    PS X (.Assign [.Subscript o i pos'] value pos) (sNPut X.prog X.w X.K td ty tv) := by
  refine ⟨fun pins s σ H D I h => ?_⟩
  refine wpAny_Assign_Subscript (thn (hv.run pins s σ H _ I h) fun r s1 ⟨v, H1, I1, rv, q1⟩ => thn (ho.run pins s1 σ H1 _ I1 q1) fun u s2 ⟨x, H2, I2, rx, q2⟩ => thn (hi.run pins s2 σ H2 _ I2 q2) fun iv s3 ⟨y, H3, I3, ry, a, b, ob, kvs, k, B, ex, ey, ea, st, hq, hk, hl, q3⟩ => ?_) hs
  subst ex ey
  obtain rfl : u = Value.ref a := rx
  obtain rfl : iv = Value.ref b := ry
  exact dn_setItem hu I3 st hq ea hk hl rv fun ob' s4 n4 I4 => ⟨σ, _, I4, q3 ob' n4⟩
theorem pe_nget2 (hu : X.A.units + 4 < cLine) (ho : PE X o td) (he : PE X e ty) (hf : PE X f tx) (m : M2 X o "get" apos e f cpos) : PE X (.Call (.Attribute o "get" apos) [e, f] [] cpos) (tNGet2 X.prog X.w X.K td ty tx) := by
  refine ⟨fun pins s σ H Q I h => ?_⟩
  refine wpAny_Call_method m.base m.few m.line PySem.F.plainAttrs_dict PySem.F.slot_dict_get PySem.F.type_dict_get (thn (ho.run pins s σ H _ I h) fun u s1 ⟨x, H1, I1, rx, a, ob1, kvs1, ex, ea1, hq1, q1⟩ => ?_)
  subst ex
  obtain rfl : u = Value.ref a := rx
  obtain ⟨t1, t2⟩ := dn_noDict I1 hq1 ea1
  refine ⟨t1, t2, ?_⟩
  rw [m.trees]
  refine Calls.callWith_builtin rfl (Calls.evalArgs_plain (Calls.spliced_cons (thn (he.run pins s1 σ H1 _ I1 q1) fun iv s2 ⟨y, H2, I2, ry, q2⟩ =>
    Calls.spliced_cons (thn (hf.run pins s2 σ H2 _ I2 q2) fun fv s3 ⟨z, H3, I3, rz, b, ob, kvs, k, ey, ea, hq, hk, q3⟩ => Calls.spliced_nil ?_))))
  subst ey
  obtain rfl : iv = Value.ref b := ry
  exact dn_get2 hu I3 hq ea hk rz fun w' s4 I4 rw' => ⟨_, H3, I4, rw', q3⟩
end
/-- a statement that is not reached -/
theorem ps_never {X : Cx} {st : Stmt} : PS X st (fun _ _ _ => False) := ⟨fun _ _ _ _ _ _ h => h.elim⟩
end Sy
namespace Sy
open PySem PySem.Spec PyProof.Rows L2
/-- a def of the top, by its place -/
abbrev DF (K : PySem.W.Frag) (mg : Str → Option Value) (x : Str) (i : Nat) : Prop := FD K x (top i) ∧ mg x = some (.ref (He.ga K x))
section
variable {P : Program} {w : World} {K : PySem.W.Frag} {mg : Str → Option Value} {base : Heap}
def spArity (K : PySem.W.Frag) : Sp := fun vs H Q _ => ∃ a rows x, vs = [.ref a, .str x] ∧ BedAt K H a rows ∧ Q (.int (ar rows x : Nat)) H
theorem sc_arity : FnScope ["bed", "entry"] ["bed", "entry"] (defScope (top 26)) := ⟨rfl, rfl, rfl, by decide +kernel, rfl, by decide +kernel, by decide +kernel⟩
theorem k_arity (T : Txt K mg) (F : DF K mg "arity" 26) : Cal P w K mg base 1 "arity" ["bed", "entry"] (spArity K) := by
  refine cal_of F.1 F.2 sc_arity (fun _ _ _ _ _ _ us e => match us, e with | [_, _], _ => rfl) (fun vs H Q E s => by obtain ⟨a, rows, x, rfl, _⟩ := s; rfl) ?_
  intro cdv A outer s H vs Q E hr h
  obtain ⟨a, rows, x, rfl, hb, hq⟩ := h
  have hu := hu_of hr
  refine ⟨_, pss_one (ps_ret (pe_dget2 hu (pe_fld (pv 0) rfl) (pv 1) pe_int ⟨rfl, rfl, rfl, rfl⟩)), ?_⟩
  obtain ⟨dx, dA, tR, tK, dR, ps, h1, hd, h3, h4, h5, h6⟩ := hb.ex
  refine ⟨_, rfl, a, _, dx, _, _, rfl, h1, T.bed.cl, T.bed.nA, rfl, dA, rfl, .inl ⟨_, .inl hd⟩, _, rfl, _, DGet.k (k := Sum.inr x) hd, ?_⟩
  rw [valV_ar]
  unfold ar at hq
  cases e : rows.lookup x with
  | none => rw [e] at hq; exact hq
  | some n => rw [e] at hq; exact hq
end
end Sy
namespace Sy
open PySem PySem.Spec PyProof.Rows L2
section
variable {P : Program} {w : World} {K : PySem.W.Frag} {mg : Str → Option Value} {base : Heap}
/-! fault_among -/
def fa (rows : List Sy.Row) (lv : List Str) : Nat → Nat → List Str → Int
  | m, i, [] => if 0 < m then (i : Nat) else -1
  | m, i, x :: l => if m = 0 then (i : Nat) else if isK rows x = false ∧ x ∉ lv then (i : Nat) else fa rows lv (m - 1 + ar rows x) (i + 1) l
def spFault (K : PySem.W.Frag) : Sp := fun vs H Q _ => ∃ a r v rows l lv, vs = [.ref a, .ref r, .ref v] ∧ BedAt K H a rows ∧ SqT K H r (l.map V.str) ∧ SqT K H v (lv.map V.str) ∧ ∀ H', Same H H' → Q (.int (fa rows lv 1 0 l)) H'
abbrev N_fault : List Str := ["bed", "row", "leaves", "missing", "index", "entry"]
theorem sc_fault : FnScope N_fault ["bed", "row", "leaves"] (defScope (top 27)) := ⟨rfl, rfl, rfl, by decide +kernel, rfl, by decide +kernel, by decide +kernel⟩
theorem map_at {α β : Type} {f : α → β} {l : List α} {i : Nat} {y : β} (h : (l.map f)[i]? = some y) : ∃ x, l[i]? = some x ∧ y = f x := by
  rw [List.getElem?_map] at h
  cases e : l[i]? with
  | none => rw [e] at h; cases h
  | some x => rw [e] at h; exact ⟨x, rfl, (Option.some.inj h).symm⟩
theorem inV_strs (y : Str) (lv : List Str) : inV (.str y) (lv.map V.str) = decide (y ∈ lv) := by
  unfold inV
  induction lv with
  | nil => rfl
  | cons x l ih =>
    rw [List.map_cons, List.any_cons, ih]
    have : eqV (V.str x) (V.str y) = decide (x = y) := by
      by_cases h : x = y
      · subst h
        simp [eqV]
      · simp [eqV, h]
    rw [this]
    simp [List.mem_cons, eq_comm]
theorem drop_of {α : Type} {l : List α} {i : Nat} {x : α} (h : l[i]? = some x) : l.drop i = x :: l.drop (i + 1) := by
  obtain ⟨hi, e⟩ := List.getElem?_eq_some_iff.mp h
  rw [List.drop_eq_getElem_cons hi, e]
theorem k_fault (T : Txt K mg) (F : DF K mg "fault_among" 27) (c_arity : Cal P w K mg base 1 "arity" ["bed", "entry"] (spArity K)) : Cal P w K mg base 2 "fault_among" ["bed", "row", "leaves"] (spFault K) := by
  refine cal_of F.1 F.2 sc_fault (fun _ _ _ _ _ _ us e => match us, e with | [_, _, _], _ => rfl) (fun vs H Q E s => by obtain ⟨_, _, _, _, _, _, rfl, _⟩ := s; rfl) ?_
  intro cdv A outer s H vs Q E hr h
  obtain ⟨a, r, v, rows, l, lv, rfl, hb, hR, hL, hq⟩ := h
  have hu := hu_of hr
  have sc := sc_fault
  refine ⟨_, (pss_cons (ps_set (i := 3) sc.nd rfl (Or.inl rfl) pe_int)
      (pss_cons (ps_for (passes_of rfl) rfl (pi_enumT (by rfl) T.enumerate (pa_cons (pv 1) pa_nil)) (pg_tup rfl (pgs_cons (pg_name (i := 4) sc.nd rfl (Or.inl rfl)) (pgs_cons (pg_name (i := 5) sc.nd rfl (Or.inl rfl)) pgs_nil)))
        (pss_cons (ps_if (pt_cmpR op_eq (pv 3) pe_int (nomark _))
          (pss_one (ps_ret (pv 4)))
          pss_nil)
        (pss_cons (ps_if (PW.pt (pw_and (pt_cmp (pc_dnotin hu (pv 5) (pe_fld (pv 0) rfl))) (pw_and1 (pt_cmpR op_notIn_seq (pv 5) (pv 2) rfl))))
          (pss_one (ps_ret (pv 4)))
          pss_nil)
        (pss_one (ps_set (i := 3) sc.nd rfl (Or.inl rfl) (pe_op op_add (pe_op op_sub (pv 3) pe_int) (pe_cal c_arity hr (pa_cons (pv 0) (pa_cons (pv 5) pa_nil)))))))))
      (pss_cons (ps_if (pt_cmpR op_gt (pv 3) pe_int (nomark _))
        (pss_one (ps_ret (pe_callB call_len_seq (by rfl) T.len (by decide +kernel) (pa_cons (pv 1) pa_nil))))
        pss_nil)
      (pss_one (ps_ret (pe_un un_neg pe_int)))))), ?_⟩
  refine ⟨_, rfl, r, _, rfl, hR, for_enumT (K := K) (fun i σ H' => ∃ (m : Nat) (z : Int) (s4 s5 : Option V), σ = [some (.ref a), some (.ref r), some (.ref v), some (.int z), s4, s5] ∧ z = (m : Nat) ∧ Same H H' ∧ fa rows lv m i (l.drop i) = fa rows lv 1 0 l) ⟨1, 1, none, none, rfl, rfl, Same.refl H, by rw [List.drop_zero]⟩ (fun i σ H' _ ⟨_, _, _, _, _, _, s, _⟩ => Same.sqt s hR) ?_ ?_⟩
  · intro i x σ H' Tt hx ⟨m, _, s4, s5, hσ, rfl, sm, e⟩ hT
    obtain ⟨y, hy, rfl⟩ := map_at hx
    subst hσ
    rw [drop_of hy] at e
    refine ⟨_, rfl, rfl, _, rfl, if_dec (fun c => ?_) (fun c => ?_)⟩
    · rw [fa, if_pos (by have := V.int.inj c; omega)] at e
      refine ⟨_, rfl, ?_⟩
      rw [e]
      exact hq _ (sm.trans (up_same hT))
    · have c : m ≠ 0 := fun z => c (by rw [z]; rfl)
      rw [fa, if_neg c] at e
      have sm2 : Same H (upd H' Tt (.tup [.int (i : Nat), .str y])) := sm.trans (up_same hT)
      have hb2 := hb.mono (Stay.of sm2)
      obtain ⟨dx, dA, tR, tK, dR, ps, h1, hd, h3, h4, h5, h6⟩ := hb2.ex
      refine ⟨_, rfl, _, rfl, a, _, dx, _, _, rfl, h1, T.bed.cl, T.bed.nA, rfl, dA, _, rfl, DGet.k (k := Sum.inr y) hd, _, rfl, ?_⟩
      have stop : isK rows y = false → y ∉ lv → Q (.int (i : Nat)) (upd H' Tt (.tup [.int (i : Nat), .str y])) := fun z1 z2 => by
        rw [if_pos ⟨z1, z2⟩] at e
        have q := hq _ sm2
        rw [← e] at q
        exact q
      have em : ((m : Int) - 1 + (ar rows y : Nat)) = ((m - 1 + ar rows y : Nat) : Int) := by omega
      have go : ¬ (isK rows y = false ∧ y ∉ lv) → fa rows lv (m - 1 + ar rows y) (i + 1) (l.drop (i + 1)) = fa rows lv 1 0 l := fun z => by
        rw [if_neg z] at e
        exact e
      refine if_bool (fun c2 => ?_) (fun c2 => ?_)
      · have c2 : isK rows y = false := by simpa [valV_ar, isK] using c2
        refine ⟨_, rfl, _, rfl, v, _, rfl, .inr (Same.sqt sm2 hL), rfl, by simp [flatV], _, rfl, ?_⟩
        refine if_bool (fun c3 => ?_) (fun c3 => ?_)
        · exact ⟨_, rfl, stop c2 (by simpa [inV_strs] using c3)⟩
        · exact ⟨_, rfl, _, _, rfl, rfl, _, rfl, _, rfl, a, rows, y, rfl, hb2, _, _, rfl, rfl, _, _, _, _, rfl, em, sm2, go fun z => z.2 (by simpa [inV_strs] using c3)⟩
      · have c2 : isK rows y = true := by simpa [valV_ar, isK] using c2
        exact ⟨_, rfl, _, _, rfl, rfl, _, rfl, _, rfl, a, rows, y, rfl, hb2, _, _, rfl, rfl, _, _, _, _, rfl, em, sm2, go fun z => by rw [c2] at z; cases z.1⟩
  · intro σ H' ⟨m, _, s4, s5, hσ, rfl, sm, e⟩
    subst hσ
    rw [List.drop_of_length_le (by simp), fa] at e
    refine ⟨_, rfl, _, _, rfl, rfl, _, rfl, if_dec (fun c => ?_) (fun c => ?_)⟩
    · rw [if_pos (by omega)] at e
      refine ⟨_, rfl, r, _, rfl, .inr (Same.sqt sm hR), ?_⟩
      have q := hq _ sm
      rw [← e] at q
      exact q
    · rw [if_neg (by omega)] at e
      refine ⟨_, rfl, ?_⟩
      have q := hq _ sm
      rw [← e] at q
      exact q
end
end Sy
namespace Sy
open PySem PySem.Spec PyProof.Rows L2
/-! more words -/
theorem ixN_nat {n j : Nat} (h : j < n) : ixN n (j : Int) = some j := by
  unfold ixN
  rw [if_pos (by omega), if_pos (by omega)]
  rfl
/-- a row of places -/
abbrev vN (l : List Nat) : List V := l.map fun n : Nat => V.int (n : Int)
def DN (l : List Nat) : PyData := .tuple (l.map fun n : Nat => PyData.int (n : Int))
def DS (l : List Str) : PyData := .tuple (l.map PyData.str)
section
variable {K : PySem.W.Frag} {H B B' : Hp} {v : V} {vs : List V} {ds : List PyData}
theorem ImA.nats : ∀ l : List Nat, ImA K H (vN l) (l.map fun n : Nat => PyData.int (n : Int))
  | [] => .nil
  | x :: l => .cons (.int _) (ImA.nats l)
theorem Im.nats {a : Addr} {l : List Nat} (h : SqT K H a (vN l)) : Im K H (.ref a) (DN l) := .tup h (ImA.nats l)
theorem Im.tupI (h : Im K H v (.tuple ds)) : ∃ a xs, v = .ref a ∧ SqT K H a xs ∧ ImA K H xs ds := by
  cases h with
  | tup h1 h2 => exact ⟨_, _, rfl, h1, h2⟩
theorem Im.intI {i : Int} (h : Im K H v (.int i)) : v = .int i := by cases h; rfl
theorem Im.strI {x : Str} (h : Im K H v (.str x)) : v = .str x := by cases h; rfl
theorem ImA.natsI : ∀ {l : List Nat} {vs : List V}, ImA K H vs (l.map fun n : Nat => PyData.int (n : Int)) → vs = vN l
  | [], _, .nil => rfl
  | _ :: _, _, .cons a b => by rw [a.intI, ImA.natsI b]; rfl
theorem ImA.strsI : ∀ {l : List Str} {vs : List V}, ImA K H vs (l.map PyData.str) → vs = l.map V.str
  | [], _, .nil => rfl
  | _ :: _, _, .cons a b => by rw [a.strI, ImA.strsI b]; rfl
theorem Im.natsI {l : List Nat} (h : Im K H v (DN l)) : ∃ a, v = .ref a ∧ SqT K H a (vN l) := by
  obtain ⟨a, xs, rfl, h1, h2⟩ := h.tupI
  rw [h2.natsI] at h1
  exact ⟨a, rfl, h1⟩
theorem Im.strsI {l : List Str} (h : Im K H v (DS l)) : ∃ a, v = .ref a ∧ SqT K H a (l.map V.str) := by
  obtain ⟨a, xs, rfl, h1, h2⟩ := h.tupI
  rw [h2.strsI] at h1
  exact ⟨a, rfl, h1⟩
theorem ImA.set : ∀ {vs : List V} {ds : List PyData} {i : Nat} {d : PyData}, ImA K H vs ds → Im K H v d → ImA K H (vs.set i v) (ds.set i d)
  | _, _, _, _, .nil, _ => .nil
  | _, _, 0, _, .cons _ b, h => .cons h b
  | _, _, i + 1, _, .cons a b, h => .cons a (ImA.set b h)
theorem ImA.snoc {d : PyData} (h : ImA K H vs ds) (g : Im K H v d) : ImA K H (vs ++ [v]) (ds ++ [d]) := h.app (.cons g .nil)
end
/-! comprehensions over a tuple -/
abbrev LcW (J : It) (g : TG) (tt : TT) (te : TE) (vs : List Nat) (σ : L2.St) (H1 : Hp) (D : Addr) (Qd : Hp → Prop) : Prop := ∃ W : Nat → Nat → Hp → Prop, (∃ m, W 0 m (upd H1 D (.lst []))) ∧ ∀ i m H, W i m H → (J.stop i H ∧ Qd H) ∨
  (J.go i H ∧ ∃ Nx : Hp → Prop, (∀ H', Nx H' → ∃ m', m' < m ∧ W (i + 1) m' H') ∧ ∀ x H', J.yld i H x H' → g x (wipe σ vs) H' fun σ2 H2 => wipe σ2 vs = wipe σ vs ∧ tt σ2 H2 fun b H3 => if b = true then te σ2 H3 fun y H4 => ∃ acc, H4 D = some (.lst acc) ∧ acc.length < sizeLine ∧ Nx (upd H4 D (.lst (acc ++ [y]))) else Nx H3)
/-- [e for x in t] -/
theorem wipe_one (σ : L2.St) (i : Nat) (v : Option V) : wipe (σ.set i v) [i] = wipe σ [i] := by
  show (σ.set i v).set i none = σ.set i none
  rw [List.set_set]
theorem lc_map {K : PySem.W.Frag} {a : Addr} {xs : List V} {si : Nat} {te : TE} {σ : L2.St} {H B : Hp} {L : List (Addr × HO)} {D : Addr} {Qd : Hp → Prop} (h : Hs B L H) (hD : H D = none) (hx : SqT K B a xs) (hsz : xs.length ≤ 1000000)
    (Pv : Nat → Hp → List V → Prop) (h0 : Pv 0 B [])
    (hs : ∀ i x B' acc H', xs[i]? = some x → Same B B' → Pv i B' acc → Hs B' ((D, .lst acc) :: L) H' →
      ∀ R : VK, (∀ y H4 B4, Same B' B4 → Hs B4 ((D, .lst acc) :: L) H4 → Pv (i + 1) B4 (acc ++ [y]) → R y H4) → te ((wipe σ [si]).set si (some x)) H' R)
    (hd : ∀ B' acc H', Same B B' → Pv xs.length B' acc → Hs B' ((D, .lst acc) :: L) H' → Qd H') : LcW (Itt K a) (gName si) tYes te [si] σ H D Qd := by
  refine lc_tup (K := K) (a := a) (xs := xs) (fun i H' => i ≤ xs.length ∧ ∃ B' acc, acc.length = i ∧ Same B B' ∧ Pv i B' acc ∧ Hs B' ((D, .lst acc) :: L) H') ⟨Nat.zero_le _, B, [], rfl, Same.refl B, h0, h.new hD⟩ ?_ ?_ ?_
  · rintro i H' _ ⟨_, B', acc, _, s, _, hh⟩
    exact Same.sqt (s.trans hh.sub) hx
  · rintro i x H' hxi ⟨hi, B', acc, ha, s, p, hh⟩
    have lt : i < xs.length := (List.getElem?_eq_some_iff.mp hxi).1
    refine ⟨wipe_one _ _ _ |>.trans (by show (σ.set si none).set si none = σ.set si none; rw [List.set_set]), ?_⟩
    simp only [tYes, if_true]
    refine hs i x B' acc H' hxi s p hh _ (fun y H4 B4 s4 h4 p4 => ?_)
    exact ⟨acc, h4.r0, by rw [sizeLine_eq]; omega, by omega, B4, acc ++ [y], by rw [List.length_append, ha]; rfl, s.trans s4, p4, h4.w0⟩
  · rintro H' ⟨_, B', acc, _, s, p, hh⟩
    exact hd B' acc H' s p hh
end Sy
namespace Sy
open PySem PySem.Spec PyProof.Rows L2
section
variable {K : PySem.W.Frag} {H : Hp} {a b : Addr} {xs ys : List V} {Q : VK}
/-- a tuple's slice, whether it is the whole or not -/
theorem sl_any {lo hi : Option Int} {zs : List V} (hz : cutV xs lo hi = zs) (h : SqT K H a xs) (q : ∀ p H', Same H H' → SqT K H' p zs → Q (.ref p) H') : rSlA K (.ref a) lo hi H Q := by
  subst hz
  refine ⟨a, xs, rfl, h, fun c => q _ _ (Same.refl H) ?_, fun _ p hp => q _ _ (up_same hp) (SqT.of upd_same)⟩
  unfold cutV
  rw [c.1, c.2, List.drop_zero, Nat.sub_zero, List.take_length]
  exact h
theorem cat_any (h : SqT K H a xs) (g : SqT K H b ys) (hs : xs.length + ys.length ≤ 1000000) (q : ∀ p H', Same H H' → SqT K H' p (xs ++ ys) → Q (.ref p) H') : rCatA K (.ref a) (.ref b) H Q := by
  refine ⟨a, b, xs, ys, rfl, rfl, h, g, by rw [sizeLine_eq]; omega, fun c => q _ _ (Same.refl H) (by rw [c]; exact g), fun _ c => q _ _ (Same.refl H) (by rw [c, List.append_nil]; exact h), fun _ _ p hp => q _ _ (up_same hp) (SqT.of upd_same)⟩
theorem cut_take {i : Nat} (h : i ≤ xs.length) : cutV xs none (some (i : Int)) = xs.take i := by
  unfold cutV HT.sIx
  simp only [List.drop_zero, Nat.sub_zero]
  rw [if_neg (by omega), show min (i : Int).toNat xs.length = i by omega]
theorem cut_drop {i : Nat} (h : i ≤ xs.length) : cutV xs (some (i : Int)) none = xs.drop i := by
  unfold cutV HT.sIx
  simp only []
  rw [if_neg (by omega), show min (i : Int).toNat xs.length = i by omega, List.take_of_length_le]
  rw [List.length_drop]
  exact Nat.le_refl _
theorem cut_mid {i j : Nat} (h : i ≤ j) (g : j ≤ xs.length) : cutV xs (some (i : Int)) (some (j : Int)) = (xs.drop i).take (j - i) := by
  unfold cutV HT.sIx
  simp only []
  rw [if_neg (by omega), if_neg (by omega), show min (i : Int).toNat xs.length = i by omega, show min (j : Int).toNat xs.length = j by omega]
end
end Sy
/-! try: .. except X as e: suite, further clauses behind it that are not reached -/
namespace Sy
open PySem PySem.Spec PyProof.Rows L2
/-- what the body may raise: what the first clause catches -/
def wFst (K : PySem.W.Frag) (c : Value) (i : Nat) (ts : Addr → Value → Option Addr → TS) (D : Ends) : WX := fun cls d σ H => PySem.W.exmOne K cls c = some true ∧ ∀ a, H a = none →
  ts a cls d { nx := fun σ' H' => D.nx (σ'.set i none) H', rt := D.rt, bk := fun σ' H' => D.bk (σ'.set i none) H', ct := fun σ' H' => D.ct (σ'.set i none) H' } (σ.set i (some (.ref a))) H
theorem ps_try_fst {X : Cx} {x n : Str} {c : Value} {i : Nat} {body suite : List Stmt} {b₀ : Stmt} {np pos pos' : Pos} {hds : List ExceptHandler} {tb : WX → TS} {ts : Addr → Value → Option Addr → TS}
    (hs : X.stack = X.env :: X.outer) (hf : X.env.frame = some X.env.locals) (hN : X.N.Nodup) (hi : X.N[i]? = some n) (hln : X.env.kindOf n = some .local) (hc : Names X x c)
    (hb : ∀ (W : WX) (pn : List (Addr × Obj)) (xe : Value → Shared → Prop), Takes (X.tr pn xe) W → PassesOwn (model X.prog X.w) X.A X.env xe → PSs (X.tr pn xe) body (tb W))
    (hsu : ∀ (a : Addr) (oe : Obj) (cls : Value) (d : Option Addr) (pn : List (Addr × Obj)), Zc cls d oe → (∃ vs, oe.data = .fields vs) → PSs (X.suite a ((a, oe) :: pn)) (b₀ :: suite) (ts a cls d)) :
    PS X (.Try body (.ExceptHandler (some (.Name x np)) (some n) (b₀ :: suite) pos' :: hds) [] [] pos) (fun D σ H => tb (wFst X.K c i ts D) D σ H) := by
  constructor
  intro pins s σ H D I h
  have ok := I.ok
  have fr0 : X.A.frames = some (X.env :: X.outer) := by rw [ok.frames, hs]
  apply wpAny_Try_except
  refine wpAny_mono ((hb (wFst X.K c i ts D) (X.pn ++ pins) (fun e s₁ => wpAny (model X.prog X.w) X.A (noteFrame e X.env) (fun _ s₂ => wpAny (model X.prog X.w) X.A (setFlight e none) (fun _ s₃ =>
    wpAny (model X.prog X.w) X.A (handleBy e X.env (.ExceptHandler (some (.Name x np)) (some n) (b₀ :: suite) pos' :: hds)) (SP X pins D) X.xe s₃) X.xe s₂) X.xe s₁) (fun u s' q => ?cat) PassesOwn.looking).run [] s σ H D (I.toTry _) h) (fun f s1 q => ?fin) (fun _ _ q => q)
  case fin =>
    cases f
    case next =>
      obtain ⟨_, _, J, z⟩ := q
      exact wpAny_execs_nil ⟨_, _, J.ofTry ok, z⟩
    case brk =>
      obtain ⟨_, _, J, z⟩ := q
      exact ⟨_, _, J.ofTry ok, z⟩
    case cont =>
      obtain ⟨_, _, J, z⟩ := q
      exact ⟨_, _, J.ofTry ok, z⟩
    case ret =>
      obtain ⟨_, _, _, J, rv, z⟩ := q
      exact ⟨_, _, _, J.ofTry ok, rv, z⟩
  case cat =>
    obtain ⟨a, B, sI, pins', σ1, H1, cls, d, rfl, J', nb, up, sky, na, os, ag, hcat, hgo⟩ := q
    have J : Inv X pins σ1 H1 sI := J'.ofTry ok
    rw [hs] at sky
    show wpAny (model X.prog X.w) X.A (noteFrame (.ref a) X.env) _ _ _
    refine Sky.land Zc.steady fr0 hf sky fun h3 fl up3 => ?_
    have J3 : Inv X pins σ1 H1 { s' with heap := h3 } := J.landed nb fl.1 (up.trans up3) os ag
    obtain ⟨o3, v3, g3, z3, d3⟩ := fl.there
    have off : a ∉ frs (X.env :: X.outer) := fun hm => by
      obtain ⟨_, _, e', no⟩ := fl.2.2.1.mem hm
      rw [g3] at e'
      cases e'
      exact no _ d3
    have nL : a ≠ X.env.locals := fun z => off (List.mem_filterMap.mpr ⟨X.env, List.mem_cons_self, by rw [hf, z]⟩)
    have nF : a ∉ X.fs := fun hm => by
      obtain ⟨e, he, z⟩ := List.mem_filterMap.mp hm
      exact off (List.mem_filterMap.mpr ⟨e, List.mem_cons_of_mem _ he, z⟩)
    have S3 := J3.suite g3 d3 na nL nF
    refine wpAny_handleBy_cons (codeAny_handlers_test ?_) (by intro z; cases z)
    have LT : PySem.W.Looks (model X.prog X.w) h3 (typeOf (.ref a)) cls := fun _ _ _ _ k z => wpAny_typeOf_ref (k _ _ g3) (by rw [z3.1]; exact z)
    have LM := PySem.W.exm_one (M := model X.prog X.w) J3.kIn LT hcat
    have go2 : ∀ {Q E : Value → Shared → Prop}, Q c { s' with heap := h3 } → wpAny (model X.prog X.w) (X.A.mark (some (.ref a))) (eval (.Name x np) X.env) Q E { s' with heap := h3 } := fun {Q E} z => by
      rcases hc with ⟨g, dbg, m | ⟨m, v, nn⟩⟩
      · exact ld_glob (X := X.suite a ((a, o3) :: (X.pn ++ pins))) S3 g m z dbg
      · exact ld_blt (X := X.suite a ((a, o3) :: (X.pn ++ pins))) S3 g m v z nn dbg
    refine go2 (LM.here ?_)
    refine codeAny_handlers_suite_as ?_
    refine HandSPX.lands_againZ fl fun h4 fl4 up4 => ?_
    have J4 : Inv X pins σ1 H1 { s' with heap := h4 } := J.landed nb fl4.1 ((up.trans up3).trans up4) os ag
    obtain ⟨o4, v4, g4, z4, d4⟩ := fl4.there
    refine store_ok (X := X.suite a ((a, o4) :: (X.pn ++ pins))) (v := .ref a) (J4.suite g4 d4 na nL nF) hN hi (.inl hln) rfl (fun s5 S5 => ?_) (.inr hln)
    refine wpAny_mono ((hsu a o4 cls d (X.pn ++ pins) z4 ⟨_, d4⟩).run [] s5 _ H1 _ S5 (hgo a na)) (fun f s6 q => ?_) (fun _ _ z => z.elim)
    have shut : ∀ {σ6 : L2.St} {H6 : Hp} {R : Shared → Prop}, Inv (X.suite a ((a, o4) :: (X.pn ++ pins))) [] σ6 H6 s6 → (∀ s7, Inv X pins (σ6.set i none) H6 s7 → R s7) →
        wpAny (model X.prog X.w) X.A (do bindName X.env n .none; unbindBehindTheSuite X.env n pos') (fun _ s7 => R s7) X.xe s6 := fun S6 k => gone_ok (S6.unsuite ok) hN hi hln k
    cases f
    case next =>
      obtain ⟨_, _, S6, z⟩ := q
      exact shut S6 fun _ J7 => ⟨_, _, J7, z⟩
    case brk =>
      obtain ⟨_, _, S6, z⟩ := q
      exact shut S6 fun _ J7 => ⟨_, _, J7, z⟩
    case cont =>
      obtain ⟨_, _, S6, z⟩ := q
      exact shut S6 fun _ J7 => ⟨_, _, J7, z⟩
    case ret =>
      obtain ⟨_, _, _, S6, rv, z⟩ := q
      exact shut S6 fun _ J7 => ⟨_, _, _, J7, rv, z⟩
end Sy
/-! own errors: their __init__, raising them -/
namespace Sy
open PySem PySem.Spec PyProof.Rows L2
/-- the class x, its __init__ by its row, its fields -/
structure ErrB (P : Program) (K : PySem.W.Frag) (mg : Str → Option Value) (x q : Str) (st : Stmt) (fs : List Str) : Prop where
  sup : ∃ (cc cd : Addr) (kV doc pm : Value) (an : Option Addr) (ct : Value), SupF P K (He.ga K x) (iniA K x) cc cd q (defArgs st) (defBody st) (defScope st) (PySem.W.fnX "__init__" q (defArgs st) (defBody st) (defScope st) [("__class__", cc)] .none kV doc pm an (.ref cd) ct)
  iC : PySem.W.findIn K (.ref (He.ga K x)) "__init__" = some (some (.ref (iniA K x)))
  tI : PySem.W.typeIn K (.ref (iniA K x)) = some (.type "function")
  at_ : mg x = some (.ref (He.ga K x))
  ex : PySem.W.exmOne K (.ref (He.ga K x)) (.ref (He.ga K x)) = some true
  xf : XfC K (He.ga K x)
  no : ∀ f ∈ fs, PySem.W.findIn K (.ref (He.ga K x)) f = some none
  mS : mg "super" = none
  top : (P.main.scope.names.lookup ("super" : Str)).isSome = false
/-- raised: a new dict with these fields, beside what stood -/
def Ra (K : PySem.W.Frag) (x : Str) (fs : List (Str × V)) (H : Hp) (E : XK) : Prop := ∀ d H', Same H H' → H' d = some (.xd fs) → E (.ref (He.ga K x)) (some d) H'
def spInit (C : Addr) (ok : List V → Hp → List (Str × V) → Prop) : Sp := fun vs H Q _ => ∃ a us fs, vs = .ref a :: us ∧ ok us H fs ∧ H a = some (exo a C none) ∧
  ∀ dx H', H dx = none → dx ≠ a → H' a = some (exo a C (some dx)) → H' dx = some (exd dx fs) → (∀ b, b ≠ a → b ≠ dx → H' b = H b) → Q .non H'
theorem mk_ra {K : PySem.W.Frag} {x : Str} {ok : List V → Hp → List (Str × V) → Prop} {us : List V} {H : Hp} {fs : List (Str × V)} {E : XK} (hok : ∀ H', Same H H' → ok us H' fs) (hl : us.length ≤ 1000) (h : Ra K x fs H E) :
    us.length ≤ 1000 ∧ ∀ a, H a = none → spInit (He.ga K x) ok (.ref a :: (us ++ [])) (upd H a (exo a (He.ga K x) none)) (fun v H2 => v = .non ∧ ∃ (d : Addr) (fs : List (Str × V)), H2 a = some (exo a (He.ga K x) (some d)) ∧ H2 d = some (exd d fs) ∧ H d = none ∧ E (.ref (He.ga K x)) (some d) (upd (L2.del H2 a) d (.xd fs))) (fun _ _ _ => False) := by
  refine ⟨hl, fun a ha => ⟨a, us, fs, by rw [List.append_nil], hok _ (up_same ha), upd_same, fun dx H' h1 h2 h3 h4 h5 => ⟨rfl, dx, fs, h3, h4, by rw [upd_ne h2] at h1; exact h1, h dx _ (fun b o e => ?_) upd_same⟩⟩⟩
  have hb : b ≠ a := fun z => by rw [z, ha] at e; cases e
  have hd : H dx = none := by rw [upd_ne h2] at h1; exact h1
  have hb2 : b ≠ dx := fun z => by rw [z, hd] at e; cases e
  rw [upd_ne hb2, del_ne hb, h5 b hb hb2, upd_ne hb]
  exact e
section
variable {P : Program} {w : World} {K : PySem.W.Frag} {mg : Str → Option Value} {base : Heap}
/-! TooMany(what, limit) -/
def okTM : List V → Hp → List (Str × V) → Prop := fun us _ fs => ∃ (x : Str) (n : Int), us = [.str x, .int n] ∧ x.length ≤ 100 ∧ n.natAbs.log2 < 1920 ∧ (toString n : Str).length ≤ 1000 ∧ fs = ([("limit", V.int n), ("what", V.str x)] : List (Str × V))
abbrev N_tm : List Str := ["self", "what", "limit", "__class__"]
theorem sc_tm : NdefX.NScope N_tm ["self", "what", "limit"] ["__class__"] (defScope (clb 10 0)) := ⟨rfl, rfl, rfl, by decide +kernel, rfl, by decide +kernel, by decide +kernel, by decide +kernel, by decide +kernel⟩
theorem i_tm (T : ErrB P K mg "TooMany" "TooMany.__init__" (clb 10 0) ["what", "limit"]) : ∃ fd, FnOk P w K mg base CX0 1 (iniA K "TooMany") fd ["self", "what", "limit"] (spInit (He.ga K "TooMany") okTM) ∧ L2.Binds K fd ["self", "what", "limit"] [] := by
  obtain ⟨cc, cd, kV, doc, pm, an, ct, S⟩ := T.sup
  refine ⟨_, fn_sup (k := 0) S sc_tm rfl rfl rfl rfl rfl T.mS T.top (fun vs H Q E s => by obtain ⟨_, _, _, rfl, ⟨_, _, rfl, _⟩, _⟩ := s; rfl) (fun _ => rfl) (fun _ => rfl) (fun _ _ => rfl) ?_, .all fun us e => match us, e with | [_, _, _], _ => rfl⟩
  intro A outer s H vs Q E hr h
  obtain ⟨a, us, fs, rfl, ⟨x, n, rfl, hx, hn, hn2, rfl⟩, ha, hq⟩ := h
  refine ⟨_, _, pa_cons (pe_joined (.cons pe_str (.cons (pe_fmt (pv 1)) (.cons pe_str (.cons (pe_fmt (pv 2)) .nil))))) pa_nil, pss_cons (ps_ost (pv 0) (pv 1)) (pss_one (ps_ost (pv 0) (pv 2))), a, _, rfl, ha, ?_⟩
  have L1 : ((Str.empty : Str) ++ ("too many " : Str)).length = 9 := by decide +kernel
  have L2' : (": the limit is " : Str).length = 15 := by decide +kernel
  refine ⟨_, rfl, by rw [L1]; decide, _, rfl, .inl ⟨x, rfl, by rw [sizeLine_eq]; omega, _, rfl, ?_, _, rfl, ?_, _, rfl, .inr ⟨n, rfl, hn, _, rfl, ?_, (by show 1 ≤ 1000; decide), ha, _, rfl, _, rfl, a, _, rfl, S.oex, T.no _ (by decide), .inl ⟨ha, fun dx h1 h2 => ⟨_, rfl, _, rfl, a, _, rfl, S.oex, T.no _ (by decide), .inr ⟨dx, _, upd_same, by rw [upd_ne h2]; exact upd_same, (by show 1 ≤ 900; decide), hq dx _ h1 h2 ?_ upd_same ?_⟩⟩⟩⟩⟩⟩
  · rw [PySem.Str.length_append, L1, sizeLine_eq]
    omega
  · rw [PySem.Str.length_append, PySem.Str.length_append, L1, L2', sizeLine_eq]
    omega
  · rw [PySem.Str.length_append, PySem.Str.length_append, PySem.Str.length_append, L1, L2', sizeLine_eq]
    omega
  · rw [upd_ne h2.symm]
    exact upd_same
  · intro b hb hb2
    rw [upd_ne hb2, upd_ne hb, upd_ne hb2]
/-- raise TooMany(.., ..) -/
theorem mk_tm {X : Cx} {k : Nat} {p pos : Pos} {e1 e2 : Expr} {ta : TA} (T : ErrB X.prog X.K X.mg "TooMany" "TooMany.__init__" (clb 10 0) ["what", "limit"]) (hr : Room k X.A) (hg : Gl X "TooMany") (ha : PA X [e1, e2] ta)
    (hx : Passes CX0 X (fun _ _ _ => False)) (hk : 2 ≤ k := by decide) (he : starEach [e1, e2] X.env = (false, eval e1 X.env) :: starEach [e2] X.env := by rfl) (hpl : (backTo pos (starEach [e2] X.env)).any (·.1) = false := by rfl) :
    PMk X (.Call (.Name "TooMany" p) [e1, e2] [] pos) (tMkO (He.ga X.K "TooMany") (spInit (He.ga X.K "TooMany") okTM) [] ta) := by
  obtain ⟨fd, F, B⟩ := i_tm (w := X.w) (base := X.base) T
  obtain ⟨cc, cd, kV, doc, pm, an, ct, S⟩ := T.sup
  exact pmk_oex S.oex T.iC T.tI F (hr.mono hk) B .nil hx hg T.at_ ha rfl he hpl
/-! check_count -/
def spCount (K : PySem.W.Frag) : Sp := fun vs H Q E => ∃ n : Int, vs = [.int n] ∧ (n ≤ 2000 → Q .non H) ∧ (2000 < n → Ra K "TooMany" [("limit", .int 2000), ("what", .str "knots")] H E)
theorem sc_count : FnScope ["number"] ["number"] (defScope (top 25)) := ⟨rfl, rfl, rfl, by decide +kernel, rfl, by decide +kernel, by decide +kernel⟩
theorem k_count (T : Txt K mg) (TM : ErrB P K mg "TooMany" "TooMany.__init__" (clb 10 0) ["what", "limit"]) (F : DF K mg "check_count" 25) : Cal P w K mg base 3 "check_count" ["number"] (spCount K) := by
  refine cal_of F.1 F.2 sc_count (fun _ _ _ _ _ _ us e => match us, e with | [_], _ => rfl) (fun vs H Q E s => by obtain ⟨_, rfl, _⟩ := s; rfl) ?_
  intro cdv A outer s H vs Q E hr h
  obtain ⟨n, rfl, h1, h2⟩ := h
  have sc := sc_count
  refine ⟨_, (pss_one (ps_if (pt_cmpR op_gt (pv 0) (pe_gint rfl T.MOST_KNOTS) (nomark _))
        (pss_one (ps_raise rfl (takes_of rfl rfl rfl rfl) (mk_tm TM hr rfl (pa_cons pe_str (pa_cons (pe_gint rfl T.MOST_KNOTS) pa_nil)) pass0)))
        pss_nil)), ?_⟩
  refine ⟨_, rfl, _, _, rfl, rfl, _, rfl, if_dec (fun c => ?_) (fun c => ?_)⟩
  · exact mk_ra (fun _ _ => ⟨_, _, rfl, by decide +kernel, by decide +kernel, by decide +kernel, rfl⟩) (by show 2 ≤ 1000; decide) (h2 c)
  · exact h1 (by omega)
end
end Sy
/-! outcomes that are errors -/
namespace Sy
open PySem PySem.Spec PyProof.Rows L2
/-- an error that is due -/
inductive Er
  | many (x : Str) (n : Nat)
  | plant (i : Nat)
  | prices (i : Int)
  | kind (x : Str)
def Er.cls : Er → Str
  | .many _ _ => "TooMany"
  | .plant _ => "InvalidPlant"
  | .prices _ => "InvalidPrices"
  | .kind _ => "UnknownKind"
/-- its fields, the newest first -/
def Er.fds : Er → List (Str × PyData)
  | .many x n => [("limit", .int (n : Nat)), ("what", .str x)]
  | .plant i => [("place", .int (i : Nat))]
  | .prices i => [("place", .int i)]
  | .kind x => [("kind", .str x)]
inductive ImF (K : PySem.W.Frag) (H : Hp) : List (Str × V) → List (Str × PyData) → Prop
  | nil : ImF K H [] []
  | cons {f : Str} {v : V} {d : PyData} {fs : List (Str × V)} {ds : List (Str × PyData)} : Im K H v d → ImF K H fs ds → ImF K H ((f, v) :: fs) ((f, d) :: ds)
def RaE (K : PySem.W.Frag) (e : Er) (H : Hp) (E : XK) : Prop := ∀ d H' fs, Same H H' → H' d = some (.xd fs) → ImF K H' fs e.fds → E (.ref (He.ga K e.cls)) (some d) H'
theorem RaE.mono {K : PySem.W.Frag} {e : Er} {H H1 : Hp} {E : XK} (h : RaE K e H E) (s : Same H H1) : RaE K e H1 E := fun d H' fs s' e1 i => h d H' fs (s.trans s') e1 i
theorem ImF.mono {K : PySem.W.Frag} {H H' : Hp} (s : Same H H') : ∀ {fs : List (Str × V)} {ds : List (Str × PyData)}, ImF K H fs ds → ImF K H' fs ds
  | _, _, .nil => .nil
  | _, _, .cons a b => .cons (a.mono (Stay.of s)) (ImF.mono s b)
theorem RaE.ra {K : PySem.W.Frag} {e : Er} {H : Hp} {E : XK} {fs : List (Str × V)} (h : RaE K e H E) (i : ImF K H fs e.fds) : Ra K e.cls fs H E := fun d H' s e1 => h d H' fs s e1 (i.mono s)
section
variable {P : Program} {w : World} {K : PySem.W.Frag} {mg : Str → Option Value} {base : Heap}
theorem L0 (x : Str) : ((Str.empty : Str) ++ x).length = x.length := by rw [PySem.Str.length_append]; exact Nat.zero_add _
/-! place -/
def okIP : List V → Hp → List (Str × V) → Prop := fun us _ fs => ∃ i : Nat, us = [.int (i : Nat)] ∧ i ≤ 1000000 ∧ fs = ([("place", V.int (i : Nat))] : List (Str × V))
set_option exponentiation.threshold 3000 in
theorem nat_log {i : Nat} (h : i ≤ 1000000) : ((i : Int).natAbs).log2 < 1920 := by
  have e : (i : Int).natAbs = i := Int.natAbs_natCast i
  rw [e]
  by_cases c : i = 0
  · rw [c]; decide
  · exact (Nat.log2_lt c).mpr (Nat.lt_of_le_of_lt h (by decide))
theorem nat_txt {i : Nat} (h : i ≤ 1000000) : (toString (i : Int) : Str).length ≤ 1921 := int_text_len_1921 (nat_log h)

/-! InvalidBed(place) -/
def okIB : List V → Hp → List (Str × V) → Prop := fun us _ fs => ∃ i : Int, us = [.int i] ∧ (-1 ≤ i ∧ i ≤ 1000000) ∧ fs = ([("place", V.int i)] : List (Str × V))
theorem int_log {i : Int} (h : -1 ≤ i ∧ i ≤ 1000000) : i.natAbs.log2 < 1920 := by
  rcases Int.lt_or_le i 0 with c | c
  · have : i = -1 := by omega
    subst this
    decide
  · obtain ⟨n, rfl⟩ : ∃ n : Nat, i = (n : Int) := ⟨i.toNat, by omega⟩
    exact nat_log (by omega)
theorem sc_pr : NdefX.NScope ["self", "place", "__class__"] ["self", "place"] ["__class__"] (defScope (clb 6 0)) := ⟨rfl, rfl, rfl, by decide +kernel, rfl, by decide +kernel, by decide +kernel, by decide +kernel, by decide +kernel⟩
theorem i_pr (T : ErrB P K mg "InvalidPrices" "InvalidPrices.__init__" (clb 6 0) ["place"]) : ∃ fd, FnOk P w K mg base CX0 1 (iniA K "InvalidPrices") fd ["self", "place"] (spInit (He.ga K "InvalidPrices") okIB) ∧ L2.Binds K fd ["self", "place"] [] := by
  obtain ⟨cc, cd, kV, doc, pm, an, ct, S⟩ := T.sup
  refine ⟨_, fn_sup (k := 0) S sc_pr rfl rfl rfl rfl rfl T.mS T.top (fun vs H Q E s => by obtain ⟨_, _, _, rfl, ⟨_, rfl, _⟩, _⟩ := s; rfl) (fun _ => rfl) (fun _ => rfl) (fun _ _ => rfl) ?_, .all fun us e => match us, e with | [_, _], _ => rfl⟩
  intro A outer s H vs Q E hr h
  obtain ⟨a, us, fs, rfl, ⟨x, rfl, hx, rfl⟩, ha, hq⟩ := h
  refine ⟨_, _, pa_cons (pe_joined (.cons pe_str (.cons (pe_fmt (pv 1)) .nil))) pa_nil, pss_one (ps_ost (pv 0) (pv 1)), a, _, rfl, ha, ?_⟩
  have L1 : ((Str.empty : Str) ++ ("invalid prices: " : Str)).length = 16 := by decide +kernel
  have htx := int_text_len_1921 (int_log hx)
  refine ⟨_, rfl, by rw [L1]; decide, _, rfl, .inr ⟨x, rfl, int_log hx, _, rfl, ?_, (by show 1 ≤ 1000; decide), ha, _, rfl, _, rfl, a, _, rfl, S.oex, T.no _ (by decide), .inl ⟨ha, fun dx h1 h2 => hq dx _ h1 h2 upd_same ?_ ?_⟩⟩⟩
  · rw [PySem.Str.length_append, L1, sizeLine_eq]
    omega
  · rw [upd_ne h2]
    exact upd_same
  · intro b hb hb2
    rw [upd_ne hb, upd_ne hb2]
theorem mk_pr {X : Cx} {k : Nat} {p pos : Pos} {e1 : Expr} {ta : TA} (T : ErrB X.prog X.K X.mg "InvalidPrices" "InvalidPrices.__init__" (clb 6 0) ["place"]) (hr : Room k X.A) (hg : Gl X "InvalidPrices") (ha : PA X [e1] ta)
    (hx : Passes CX0 X (fun _ _ _ => False)) (hk : 2 ≤ k := by decide) (he : starEach [e1] X.env = (false, eval e1 X.env) :: starEach [] X.env := by rfl) (hpl : (backTo pos (starEach [] X.env)).any (·.1) = false := by rfl) :
    PMk X (.Call (.Name "InvalidPrices" p) [e1] [] pos) (tMkO (He.ga X.K "InvalidPrices") (spInit (He.ga X.K "InvalidPrices") okIB) [] ta) := by
  obtain ⟨fd, F, B⟩ := i_pr (w := X.w) (base := X.base) T
  obtain ⟨cc, cd, kV, doc, pm, an, ct, S⟩ := T.sup
  exact pmk_oex S.oex T.iC T.tI F (hr.mono hk) B .nil hx hg T.at_ ha rfl he hpl
theorem sc_ip : NdefX.NScope ["self", "place", "__class__"] ["self", "place"] ["__class__"] (defScope (clb 4 0)) := ⟨rfl, rfl, rfl, by decide +kernel, rfl, by decide +kernel, by decide +kernel, by decide +kernel, by decide +kernel⟩
theorem i_ip (T : ErrB P K mg "InvalidPlant" "InvalidPlant.__init__" (clb 4 0) ["place"]) : ∃ fd, FnOk P w K mg base CX0 1 (iniA K "InvalidPlant") fd ["self", "place"] (spInit (He.ga K "InvalidPlant") okIP) ∧ L2.Binds K fd ["self", "place"] [] := by
  obtain ⟨cc, cd, kV, doc, pm, an, ct, S⟩ := T.sup
  refine ⟨_, fn_sup (k := 0) S sc_ip rfl rfl rfl rfl rfl T.mS T.top (fun vs H Q E s => by obtain ⟨_, _, _, rfl, ⟨_, rfl, _⟩, _⟩ := s; rfl) (fun _ => rfl) (fun _ => rfl) (fun _ _ => rfl) ?_, .all fun us e => match us, e with | [_, _], _ => rfl⟩
  intro A outer s H vs Q E hr h
  obtain ⟨a, us, fs, rfl, ⟨x, rfl, hx, rfl⟩, ha, hq⟩ := h
  refine ⟨_, _, pa_cons (pe_joined (.cons pe_str (.cons (pe_fmt (pv 1)) (.cons pe_str .nil)))) pa_nil, pss_one (ps_ost (pv 0) (pv 1)), a, _, rfl, ha, ?_⟩
  have L1 : ((Str.empty : Str) ++ ("not a plant from index " : Str)).length = 23 := by decide +kernel
  have L2' : (" on" : Str).length = 3 := by decide +kernel
  have htx := nat_txt hx
  refine ⟨_, rfl, by rw [L1]; decide, _, rfl, .inr ⟨(x : Int), rfl, nat_log hx, _, rfl, ?_, _, rfl, ?_, (by show 1 ≤ 1000; decide), ha, _, rfl, _, rfl, a, _, rfl, S.oex, T.no _ (by decide), .inl ⟨ha, fun dx h1 h2 => hq dx _ h1 h2 upd_same ?_ ?_⟩⟩⟩
  · rw [PySem.Str.length_append, L1, sizeLine_eq]
    omega
  · rw [PySem.Str.length_append, PySem.Str.length_append, L1, L2', sizeLine_eq]
    omega
  · rw [upd_ne h2]
    exact upd_same
  · intro b hb hb2
    rw [upd_ne hb, upd_ne hb2]
theorem mk_ip {X : Cx} {k : Nat} {p pos : Pos} {e1 : Expr} {ta : TA} (T : ErrB X.prog X.K X.mg "InvalidPlant" "InvalidPlant.__init__" (clb 4 0) ["place"]) (hr : Room k X.A) (hg : Gl X "InvalidPlant") (ha : PA X [e1] ta)
    (hx : Passes CX0 X (fun _ _ _ => False)) (hk : 2 ≤ k := by decide) (he : starEach [e1] X.env = (false, eval e1 X.env) :: starEach [] X.env := by rfl) (hpl : (backTo pos (starEach [] X.env)).any (·.1) = false := by rfl) :
    PMk X (.Call (.Name "InvalidPlant" p) [e1] [] pos) (tMkO (He.ga X.K "InvalidPlant") (spInit (He.ga X.K "InvalidPlant") okIP) [] ta) := by
  obtain ⟨fd, F, B⟩ := i_ip (w := X.w) (base := X.base) T
  obtain ⟨cc, cd, kV, doc, pm, an, ct, S⟩ := T.sup
  exact pmk_oex S.oex T.iC T.tI F (hr.mono hk) B .nil hx hg T.at_ ha rfl he hpl

/-! UnknownKind(kind) -/
def okUK : List V → Hp → List (Str × V) → Prop := fun us _ fs => ∃ x : Str, us = [.str x] ∧ (x.length ≤ 100 ∧ ∀ c ∈ x.cps.toList, c < 16 ^ 8) ∧ fs = ([("kind", V.str x)] : List (Str × V))

theorem sc_uk : NdefX.NScope ["self", "kind", "__class__"] ["self", "kind"] ["__class__"] (defScope (clb 8 0)) := ⟨rfl, rfl, rfl, by decide +kernel, rfl, by decide +kernel, by decide +kernel, by decide +kernel, by decide +kernel⟩
theorem i_uk (T : ErrB P K mg "UnknownKind" "UnknownKind.__init__" (clb 8 0) ["kind"]) : ∃ fd, FnOk P w K mg base CX0 1 (iniA K "UnknownKind") fd ["self", "kind"] (spInit (He.ga K "UnknownKind") okUK) ∧ L2.Binds K fd ["self", "kind"] [] := by
  obtain ⟨cc, cd, kV, doc, pm, an, ct, S⟩ := T.sup
  refine ⟨_, fn_sup (k := 0) S sc_uk rfl rfl rfl rfl rfl T.mS T.top (fun vs H Q E s => by obtain ⟨_, _, _, rfl, ⟨_, rfl, _⟩, _⟩ := s; rfl) (fun _ => rfl) (fun _ => rfl) (fun _ _ => rfl) ?_, .all fun us e => match us, e with | [_, _], _ => rfl⟩
  intro A outer s H vs Q E hr h
  obtain ⟨a, us, fs, rfl, ⟨x, rfl, hx, rfl⟩, ha, hq⟩ := h
  refine ⟨_, _, pa_cons (pe_joined (.cons pe_str (.cons (pe_fmtR (pv 1)) .nil))) pa_nil, pss_one (ps_ost (pv 0) (pv 1)), a, _, rfl, ha, ?_⟩
  have L1 : ((Str.empty : Str) ++ ("unknown kind: " : Str)).length = 14 := by decide +kernel
  have htx := StrLaws.reprText_len x hx.2
  have hxl := hx.1
  refine ⟨_, rfl, by rw [L1]; decide, _, rfl, .inl ⟨x, rfl, by rw [sizeLine_eq]; omega, _, rfl, ?_, (by show 1 ≤ 1000; decide), ha, _, rfl, _, rfl, a, _, rfl, S.oex, T.no _ (by decide), .inl ⟨ha, fun dx h1 h2 => hq dx _ h1 h2 upd_same ?_ ?_⟩⟩⟩
  · rw [PySem.Str.length_append, L1, sizeLine_eq]
    omega
  · rw [upd_ne h2]
    exact upd_same
  · intro b hb hb2
    rw [upd_ne hb, upd_ne hb2]
theorem mk_uk {X : Cx} {k : Nat} {p pos : Pos} {e1 : Expr} {ta : TA} (T : ErrB X.prog X.K X.mg "UnknownKind" "UnknownKind.__init__" (clb 8 0) ["kind"]) (hr : Room k X.A) (hg : Gl X "UnknownKind") (ha : PA X [e1] ta)
    (hx : Passes CX0 X (fun _ _ _ => False)) (hk : 2 ≤ k := by decide) (he : starEach [e1] X.env = (false, eval e1 X.env) :: starEach [] X.env := by rfl) (hpl : (backTo pos (starEach [] X.env)).any (·.1) = false := by rfl) :
    PMk X (.Call (.Name "UnknownKind" p) [e1] [] pos) (tMkO (He.ga X.K "UnknownKind") (spInit (He.ga X.K "UnknownKind") okUK) [] ta) := by
  obtain ⟨fd, F, B⟩ := i_uk (w := X.w) (base := X.base) T
  obtain ⟨cc, cd, kV, doc, pm, an, ct, S⟩ := T.sup
  exact pmk_oex S.oex T.iC T.tI F (hr.mono hk) B .nil hx hg T.at_ ha rfl he hpl

/-! the errors of the top -/
structure Ers (P : Program) (K : PySem.W.Frag) (mg : Str → Option Value) : Prop where
  tm : ErrB P K mg "TooMany" "TooMany.__init__" (clb 10 0) ["what", "limit"]
  ip : ErrB P K mg "InvalidPlant" "InvalidPlant.__init__" (clb 4 0) ["place"]
  pr : ErrB P K mg "InvalidPrices" "InvalidPrices.__init__" (clb 6 0) ["place"]
  uk : ErrB P K mg "UnknownKind" "UnknownKind.__init__" (clb 8 0) ["kind"]
end
end Sy
/-! tuples of which it is known that they have no dict: methods of a tuple -/
namespace Sy
open PySem PySem.Spec PyProof.Rows L2
def NoD (H : Hp) (a : Addr) : Prop := ∃ (o : Obj) (u : HO), H a = some (.frz o u) ∧ o.dict = none
/-- a new tuple at p -/
def NewT (H : Hp) (p : Addr) (xs : List V) (H' : Hp) : Prop := H p = none ∧ ∃ o : Obj, o.dict = none ∧ H' = upd H p (.frz o (.tup xs))
theorem NewT.same {H H' : Hp} {p : Addr} {xs : List V} (h : NewT H p xs H') : Same H H' := by
  obtain ⟨h1, o, _, rfl⟩ := h
  exact up_same h1
theorem NewT.sqt {K : PySem.W.Frag} {H H' : Hp} {p : Addr} {xs : List V} (h : NewT H p xs H') : SqT K H' p xs := by
  obtain ⟨h1, o, _, rfl⟩ := h
  exact .inl (.inr ⟨o, upd_same⟩)
theorem NewT.nod {H H' : Hp} {p : Addr} {xs : List V} (h : NewT H p xs H') : NoD H' p := by
  obtain ⟨h1, o, h2, rfl⟩ := h
  exact ⟨o, _, upd_same, h2⟩
theorem NoD.mono {H H' : Hp} {a : Addr} (h : NoD H a) (s : Stay H H') : NoD H' a := by
  obtain ⟨o, u, h1, h2⟩ := h
  exact ⟨o, u, s _ _ h1 (fun _ z => by cases z), h2⟩
section
variable {X : Cx} {es : List Expr} {t : TA} {pos : Pos}
def tTupZ (t : TA) : TE := fun σ H Q => t σ H fun xs H1 => xs.length ≤ sizeLine ∧ ∀ p H', NewT H1 p xs H' → Q (.ref p) H'
theorem pe_tupZ {x1} (h : PA X es t) : PE X (.Tuple es x1 pos) (tTupZ t) := by
  constructor
  intro pins s σ H Q I hq
  refine wpAny_Tuple_spliced (thn (h.run pos pins s σ H _ I hq) fun us s1 ⟨xs, H1, I1, r, z, q⟩ => ⟨by rw [← r.length]; exact z, ?_⟩)
  have hf : H1 s1.heap.objs.size = none := I1.hok.fresh (Nat.le_refl _)
  have hg : (s1.heap.push ({ cls := .type "tuple", data := .seq us.toArray } : Obj)).get? s1.heap.objs.size = some ({ cls := .type "tuple", data := .seq us.toArray } : Obj) := Heap.get?_push_size _ rfl
  refine ⟨.ref s1.heap.objs.size, _, I1.laid (t' := s1.toks) (o := .frz ({ cls := .type "tuple", data := .seq us.toArray } : Obj) (.tup xs)) (fun b u e => Heap.get?_push_of_some _ e) (Nat.le_refl _) ?_, rfl, q _ _ ⟨hf, _, rfl, rfl⟩⟩
  exact ⟨hg, z, us, r, ⟨_, hg, rfl, _, rfl⟩⟩
def rCatZ (K : PySem.W.Frag) : R2 := fun x y H Q => ∃ a b xs ys, x = .ref a ∧ y = .ref b ∧ SqT K H a xs ∧ SqT K H b ys ∧ xs.length + ys.length ≤ sizeLine ∧
  (xs = [] → Q (.ref b) H) ∧ (xs ≠ [] → ys = [] → Q (.ref a) H) ∧ (xs ≠ [] → ys ≠ [] → ∀ p H', NewT H p (xs ++ ys) H' → Q (.ref p) H')
theorem op_catZ : OpR X (binaryOp .Add) (rCatZ X.K) := by
  intro pins s σ H x y v u Q I rx ry h
  obtain ⟨a, b, xs, ys, rfl, rfl, ha, hb, hz, q0, q1, q2⟩ := h
  by_cases hx : xs = []
  · exact op_catA pins s σ H _ _ v u Q I rx ry ⟨a, b, xs, ys, rfl, rfl, ha, hb, hz, q0, q1, fun z => absurd hx z⟩
  cases rx
  cases ry
  obtain ⟨its, r1, p1, _⟩ := I.tuple ha
  obtain ⟨its2, r2, p2, _⟩ := I.tuple hb
  refine HT.cat_tup p1 p2 (fun z => hx (r1.nil_iff.mp z)) (fun z => ⟨.ref a, H, I, rfl, q1 hx (r2.nil_iff.mp z)⟩) (fun z => ?_) (by rw [← r1.length, ← r2.length]; exact hz)
  have hg : (s.heap.push ({ cls := .type "tuple", data := .seq (its ++ its2).toArray } : Obj)).get? s.heap.objs.size = some ({ cls := .type "tuple", data := .seq (its ++ its2).toArray } : Obj) := Heap.get?_push_size _ rfl
  refine ⟨.ref s.heap.objs.size, _, I.laid (t' := s.toks) (o := .frz ({ cls := .type "tuple", data := .seq (its ++ its2).toArray } : Obj) (.tup (xs ++ ys))) (fun b ob q => Heap.get?_push_of_some _ q) (Nat.le_refl _) ?_, rfl,
    q2 hx (fun w => z (r2.nil_iff.mpr w)) _ _ ⟨I.hok.fresh (Nat.le_refl _), _, rfl, rfl⟩⟩
  exact ⟨hg, by rw [List.length_append]; exact hz, _, r1.append r2, ⟨_, hg, rfl, _, rfl⟩⟩
def rTupZ (K : PySem.W.Frag) : List V → Hp → VK → Prop := fun xs H Q => ∃ p ys, xs = [.ref p] ∧ SqL K H p ys ∧ ∀ l H', NewT H l ys H' → Q (.ref l) H'
theorem call_tupZ : CallR X (.type "tuple") (rTupZ X.K) := by
  intro pins s σ H xs us Q I r h
  obtain ⟨p, ys, rfl, hq, q⟩ := h
  obtain ⟨u, rfl, rx⟩ := vals1 r
  cases rx
  obtain ⟨its, r', pl, hz⟩ := I.list hq
  have hlen := r'.length
  refine call_tuple_list pl.isList (fun h' kp => ?_) (by simp only [List.size_toArray]; omega)
  have I1 : Inv X pins σ H { s with heap := h' } := I.kept (t' := s.toks) kp
  have hg : (h'.push ({ cls := .type "tuple", data := .seq its.toArray } : Obj)).get? h'.objs.size = some ({ cls := .type "tuple", data := .seq its.toArray } : Obj) := Heap.get?_push_size _ rfl
  have I2 : Inv X pins σ (upd H h'.objs.size (.frz ({ cls := .type "tuple", data := .seq its.toArray } : Obj) (.tup ys))) { s with heap := h'.push { cls := .type "tuple", data := .seq its.toArray } } :=
    I1.laid (t' := s.toks) (fun b o e => Heap.get?_push_of_some _ e) (Nat.le_refl _) (show ObjOk X.prog X.w _ _ _ (.frz _ (.tup ys)) from ⟨hg, hz, its, r', ⟨_, hg, rfl, _, rfl⟩⟩)
  exact ⟨.ref h'.objs.size, _, I2, rfl, q _ _ ⟨I1.hok.fresh (Nat.le_refl _), _, rfl, rfl⟩⟩
/-! t.m(..) -/
def tBMT (K : PySem.W.Frag) (r : V → List V → Hp → VK → Prop) (to : TE) (t : TA) : TE := fun σ H Q => to σ H fun x H1 => (∃ a xs, x = .ref a ∧ SqT K H1 a xs ∧ NoD H1 a) ∧ t σ H1 fun xs H2 => r x xs H2 Q
variable {o e : Expr} {to : TE} {name : Str} {apos cpos : Pos} {id : String} {r : V → List V → Hp → VK → Prop}
theorem pe_bmT (slot : Slot "tuple" name id) (hty : typeOf (.builtin id) = pure (.type "method_descriptor")) (hm : MtR X id r) (ho : PE X o to) (ha : PA X (e :: es) t)
    (hbase : attributeBase o name X.env (eval o X.env) = eval o X.env := by rfl)
    (hfew : ((backTo cpos (starEach (e :: es) X.env)).all (fun x => !x.1) && (backToKw cpos (keywordEach [] X.env)).all (fun x => x.1.isSome)
      && decide ((e :: es).length + ([] : List Keyword).length + (if ([] : List Keyword).isEmpty then 0 else 1) < 30)) = true := by rfl)
    (hline : (apos.endLine == cpos.line) = true := by rfl) (hs : starEach (e :: es) X.env = (false, eval e X.env) :: starEach es X.env := by rfl) (hplain : (backTo cpos (starEach es X.env)).any (·.1) = false := by rfl) :
    PE X (.Call (.Attribute o name apos) (e :: es) [] cpos) (tBMT X.K r to t) := by
  constructor
  intro pins s σ H Q I h
  refine wpAny_Call_method_late hbase hfew hline rfl (thn (ho.run pins s σ H _ I h) fun v s1 ⟨x, H1, I1, r1, ⟨a, xs, ex, st, ob, u, hf, hd⟩, q1⟩ => ?_)
  subst ex
  cases r1
  obtain ⟨its, _, pt, _⟩ := I1.tuple st
  refine ⟨"tuple", id, PySem.F.plainAttrs_tuple, slot, hty, pt.typeIs, fun b e => ?_, ?_⟩
  · cases e
    exact ⟨ob, (I1.hok _ _ hf).1, hd⟩
  · have hA := ha.run cpos pins s1 σ H1 _ I1 q1
    rw [hs] at hA ⊢
    refine Calls.callWith_builtin (by show (false || (backTo cpos (starEach es X.env)).any (·.1)) = false; rw [hplain]; rfl) (Calls.evalArgs_plain ?_)
    exact thn hA fun us s2 ⟨vs, H2, I2, r2, q2⟩ => hm pins s2 σ H2 (.ref a) vs _ us Q I2 rfl r2 q2
end
end Sy
namespace Sy
open PySem PySem.Spec PyProof.Rows L2
/-- a dict comprehension over any walk -/
theorem dc_it {J : It} {n : Nat} {G : Hp → Prop} {Y : Nat → Hp → V → Hp → Prop} (w : Walk J n G Y) {g : TG} {tt : TT} {tk tv : TE} {vs : List Nat} {σ : L2.St} {H1 : Hp} {D : Addr} {Qd : Hp → Prop} (Pv : Nat → Hp → Prop) (h0 : Pv 0 (upd H1 D (.dK []))) (hG : ∀ i H, i ≤ n → Pv i H → G H)
    (hs : ∀ i x H H', i < n → Pv i H → Y i H x H' → g x (wipe σ vs) H' fun σ2 H2 => wipe σ2 vs = wipe σ vs ∧ tt σ2 H2 fun b H3 =>
      if b = true then tk σ2 H3 fun y H4 => tv σ2 H4 fun z H5 => ∃ kvs k, y = kV k ∧ H5 D = some (.dK kvs) ∧ kvs.length < sizeLine ∧ Pv (i + 1) (upd H5 D (.dK (putK kvs k z))) else Pv (i + 1) H3) (hd : ∀ H, Pv n H → Qd H) :
    ∃ W : Nat → Nat → Hp → Prop, (∃ m, W 0 m (upd H1 D (.dK []))) ∧ ∀ i m H, W i m H →
      (J.stop i H ∧ Qd H) ∨ (J.go i H ∧ ∃ Nx : Hp → Prop, (∀ H', Nx H' → ∃ m', m' < m ∧ W (i + 1) m' H') ∧ ∀ x H', J.yld i H x H' → g x (wipe σ vs) H' fun σ2 H2 => wipe σ2 vs = wipe σ vs ∧ tt σ2 H2 fun b H3 =>
        if b = true then tk σ2 H3 fun y H4 => tv σ2 H4 fun z H5 => ∃ kvs k, y = kV k ∧ H5 D = some (.dK kvs) ∧ kvs.length < sizeLine ∧ Nx (upd H5 D (.dK (putK kvs k z))) else Nx H3) := by
  refine ⟨fun i m H => i + m = n ∧ Pv i H, ⟨n, Nat.zero_add n, h0⟩, fun i m H ⟨e, p⟩ => ?_⟩
  have q := hG i H (by omega) p
  cases m with
  | zero =>
    obtain rfl : i = n := by omega
    exact .inl ⟨w.stops H q, hd H p⟩
  | succ m =>
    exact .inr ⟨w.goes i H (by omega) q, Pv (i + 1), fun H' p' => ⟨m, Nat.lt_succ_self m, by omega, p'⟩, fun x H' y => hs i x H H' (by omega) p (w.yields i H x H' (by omega) q y)⟩
theorem paired_at {α β : Type} {R : α → β → Prop} : ∀ {xs : List α} {ys : List β} {i : Nat} {y : β}, Paired R xs ys → ys[i]? = some y → ∃ x, xs[i]? = some x ∧ R x y
  | _, _, i, y, .nil, h => by simp at h
  | _, _, 0, y, .cons a _, h => by
    simp at h
    subst h
    exact ⟨_, rfl, a⟩
  | _, _, i + 1, y, .cons _ b, h => by
    obtain ⟨x, h1, h2⟩ := paired_at (i := i) b (by simpa using h)
    exact ⟨x, by simpa using h1, h2⟩
theorem paired_len {α β : Type} {R : α → β → Prop} : ∀ {xs : List α} {ys : List β}, Paired R xs ys → xs.length = ys.length
  | _, _, .nil => rfl
  | _, _, .cons _ b => by rw [List.length_cons, List.length_cons, paired_len b]
def nameOk (x : Str) : Bool := decide (x.length ≤ 8) && (Txt.isascii x && (Txt.isalpha x && Txt.islower x))
def leafs (rows : List Sy.Row) : List Str := (rows.filter fun r => decide (r.2 = 0)).map (·.1)
/-- rows of which a bed is made -/
structure RowsOk (rows : List Sy.Row) : Prop where
  nm : ∀ r ∈ rows, nameOk r.1 = true
  br : ∀ r ∈ rows, r.2 ≤ 3
  nd : (rows.map (·.1)).Nodup
  lf : ∃ r ∈ rows, r.2 = 0
  le : rows.length ≤ 8
theorem lookup_none {rows : List Sy.Row} {x : Str} (h : ∀ r ∈ rows, r.1 ≠ x) : rows.lookup x = none := by
  induction rows with
  | nil => rfl
  | cons r rs ih =>
    rw [lookup_cons, if_neg (h r List.mem_cons_self)]
    exact ih fun q hq => h q (List.mem_cons_of_mem _ hq)
theorem nodup_take {rows : List Sy.Row} (nd : (rows.map (·.1)).Nodup) {i : Nat} {r : Sy.Row} (h : rows[i]? = some r) : ∀ q ∈ rows.take i, q.1 ≠ r.1 := by
  intro q hq e
  obtain ⟨j, hj, ej⟩ := List.mem_iff_getElem.mp hq
  rw [List.length_take] at hj
  rw [List.getElem_take] at ej
  obtain ⟨hi, er⟩ := List.getElem?_eq_some_iff.mp h
  have hlt : j < rows.length := by omega
  have := List.pairwise_iff_getElem.mp nd j i (by rw [List.length_map]; omega) (by rw [List.length_map]; omega) (by omega)
  rw [List.getElem_map, List.getElem_map, ej, er] at this
  exact this e
section
variable {P : Program} {w : World} {K : PySem.W.Frag} {mg : Str → Option Value} {base : Heap}
/-! only_letters, is_name -/
def spLetters : Sp := fun vs H Q _ => ∃ x : Str, vs = [.str x] ∧ Q (.bl (Txt.isascii x && (Txt.isalpha x && Txt.islower x))) H
theorem sc_letters : FnScope ["text"] ["text"] (defScope (top 20)) := ⟨rfl, rfl, rfl, by decide +kernel, rfl, by decide +kernel, by decide +kernel⟩
theorem k_letters (F : DF K mg "only_letters" 20) : Cal P w K mg base 1 "only_letters" ["text"] spLetters := by
  refine cal_of F.1 F.2 sc_letters (fun _ _ _ _ _ _ us e => match us, e with | [_], _ => rfl) (fun vs H Q E s => by obtain ⟨_, rfl, _⟩ := s; rfl) ?_
  intro cdv A outer s H vs Q E hr h
  obtain ⟨x, rfl, hq⟩ := h
  refine ⟨_, (pss_one (ps_ret (pe_and (pe_bm0 PySem.F.plainAttrs_str PySem.F.slot_str_isascii PySem.F.type_str_isascii mt_isascii (pv 0)) (pe_and (pe_bm0 PySem.F.plainAttrs_str PySem.F.slot_str_isalpha PySem.F.type_str_isalpha mt_isalpha (pv 0)) (pe_one (pe_bm0 PySem.F.plainAttrs_str PySem.F.slot_str_islower PySem.F.type_str_islower mt_islower (pv 0))))))), ?_⟩
  refine ⟨_, rfl, rfl, x, rfl, rfl, trivial, _, rfl, if_bool (fun c1 => ?_) (fun c1 => ?_)⟩
  · rw [c1] at hq
    refine ⟨_, rfl, rfl, x, rfl, rfl, trivial, _, rfl, if_bool (fun c2 => ?_) (fun c2 => ?_)⟩
    · rw [c2] at hq
      exact ⟨_, rfl, rfl, x, rfl, rfl, trivial, hq⟩
    · rw [c2] at hq
      exact hq
  · rw [c1] at hq
    exact hq
def spName : Sp := fun vs H Q _ => ∃ x : Str, vs = [.str x] ∧ x.length ≤ 1000000 ∧ Q (.bl (nameOk x)) H
theorem sc_name : FnScope ["text"] ["text"] (defScope (top 21)) := ⟨rfl, rfl, rfl, by decide +kernel, rfl, by decide +kernel, by decide +kernel⟩
theorem k_name (T : Txt K mg) (F : DF K mg "is_name" 21) (c_only_letters : Cal P w K mg base 1 "only_letters" ["text"] spLetters) : Cal P w K mg base 2 "is_name" ["text"] spName := by
  refine cal_of F.1 F.2 sc_name (fun _ _ _ _ _ _ us e => match us, e with | [_], _ => rfl) (fun vs H Q E s => by obtain ⟨_, rfl, _⟩ := s; rfl) ?_
  intro cdv A outer s H vs Q E hr h
  obtain ⟨x, rfl, hx, hq⟩ := h
  refine ⟨_, (pss_one (ps_ret (pe_and (pe_cmpR op_le (pe_callB call_len_str (by rfl) T.len (by decide +kernel) (pa_cons (pv 0) pa_nil)) (pe_gint rfl T.LONGEST_NAME) (nomark _)) (pe_one (pe_cal c_only_letters hr (pa_cons (pv 0) pa_nil)))))), ?_⟩
  have e8 : decide ((x.length : Int) ≤ 8) = decide (x.length ≤ 8) := by
    by_cases h : x.length ≤ 8
    · rw [decide_eq_true h, decide_eq_true (by omega)]
    · rw [decide_eq_false h, decide_eq_false (by omega)]
  unfold nameOk at hq
  rw [← e8] at hq
  refine ⟨_, rfl, x, rfl, by rw [sizeLine_eq]; omega, _, _, rfl, rfl, _, rfl, if_bool (fun c1 => ?_) (fun c1 => ?_)⟩
  · rw [c1] at hq
    exact ⟨_, rfl, x, rfl, hq⟩
  · rw [c1] at hq
    exact hq
/-! methods of Bed -/
structure MB (K : PySem.W.Frag) (m q : Str) (st : Stmt) : Prop where
  me : Meth K (He.ga K "Bed") m (He.ma K (He.ga K "Bed") m)
  fn : ∃ fd, FunD K m q (defArgs st) (defBody st) (defScope st) [] [] (He.ma K (He.ga K "Bed") m) fd
structure CalM (P : Program) (w : World) (K : PySem.W.Frag) (mg : Str → Option Value) (base : Heap) (k : Nat) (m : Str) (ps : List Str) (sp : Sp) : Prop where
  me : Meth K (He.ga K "Bed") m (He.ma K (He.ga K "Bed") m)
  fn : ∃ fd, FnOk P w K mg base (L2.CX P w) k (He.ma K (He.ga K "Bed") m) fd ps sp ∧ Binds K fd ps []
theorem calM_of {m q : Str} {st : Stmt} {N ps : List Str} {k : Nat} {sp : Sp} (F : MB K m q st) (S : FnScope N ps (defScope st))
    (hb : ∀ (kV doc pm : Value) (an : Option Addr) (cdv ct : Value) (us : List Value), us.length = ps.length → bindArgs (PySem.W.fnOf m q (defArgs st) (defBody st) (defScope st) .none kV doc pm an cdv ct) ⟨us, []⟩ = pure (ps.zip us))
    (len : ∀ vs H Q E, sp vs H Q E → vs.length = ps.length)
    (body : ∀ (cdv : Value) (A : Around) (outer : List Env) (s : Shared) (H : Hp) (vs : List V) (Q : VK) (E : XK), Room k (A.deeper (envOfC q (defScope st) s.heap.objs.size (He.ma K (He.ga K "Bed") m) cdv)) → sp vs H Q E →
      ∃ t, PSs (cxOf (L2.CX P w) P w K mg base N q (defScope st) (He.ma K (He.ga K "Bed") m) cdv A outer s H E) (defBody st) t ∧ t { nx := fun _ H' => Q .non H', rt := Q } (start N vs) H) : CalM P w K mg base (k + 1) m ps sp := by
  obtain ⟨me, fd, F⟩ := F
  exact ⟨me, fd, F.ok S len body, F.bindsN hb⟩
abbrev WdB (x : Str) : Prop := x.length ≤ 100 ∧ ∀ c ∈ x.cps.toList, c < 16 ^ 8
def spBranches (K : PySem.W.Frag) : Sp := fun vs H Q E => ∃ (a : Addr) (rows : List Sy.Row) (x : Str), vs = [.ref a, .str x] ∧ BedAt K H a rows ∧ WdB x ∧ (isK rows x = true → Q (.int (ar rows x : Nat)) H) ∧ (isK rows x = false → RaE K (.kind x) H E)
theorem sc_branches : FnScope ["self", "kind"] ["self", "kind"] (defScope (clb 22 4)) := ⟨rfl, rfl, rfl, by decide +kernel, rfl, by decide +kernel, by decide +kernel⟩
theorem k_branches (T : Txt K mg) (R : Ers P K mg) (F : MB K "branches" "Bed.branches" (clb 22 4)) : CalM P w K mg base 3 "branches" ["self", "kind"] (spBranches K) := by
  refine calM_of F sc_branches (fun _ _ _ _ _ _ us e => match us, e with | [_, _], _ => rfl) (fun vs H Q E s => by obtain ⟨_, _, _, rfl, _⟩ := s; rfl) ?_
  intro cdv A outer s H vs Q E hr h
  obtain ⟨a, rows, x, rfl, hb, hx, hq, hE⟩ := h
  have hu := hu_of hr
  obtain ⟨dx, dA, tR, tK, dR, ps, h1, hd, h3, h4, h5, h6⟩ := hb.ex
  refine ⟨_, (pss_cons (ps_if (pt_cmp (pc_dnotin hu (pv 1) (pe_fld (pv 0) rfl)))
        (pss_one (ps_raise rfl (takes_of rfl rfl rfl rfl) (mk_uk R.uk hr rfl (pa_cons (pv 1) pa_nil) pass0)))
        pss_nil)
      (pss_one (ps_ret (pe_dget hu (pe_fld (pv 0) rfl) (pv 1) (fun _ _ => rfl))))), ?_⟩
  refine ⟨_, rfl, _, rfl, a, _, dx, _, _, rfl, h1, T.bed.cl, T.bed.nA, rfl, dA, _, rfl, DGet.k (k := Sum.inr x) hd, _, rfl, ?_⟩
  cases e : rows.lookup x with
  | none =>
    have hv : valV (arKV rows) (Sum.inr x : Key) = none := by rw [valV_ar, e]; rfl
    rw [hv]
    refine iteT ⟨_, rfl, mk_ra (fun _ _ => ⟨x, rfl, hx, rfl⟩) (by show 1 ≤ 1000; decide) ((hE (by unfold isK; rw [e]; rfl)).ra (.cons (.str _) .nil))⟩
  | some n =>
    have hv : valV (arKV rows) (Sum.inr x : Key) = some (.int (n : Nat)) := by rw [valV_ar, e]; rfl
    rw [hv]
    refine iteF ⟨_, rfl, a, _, dx, _, _, rfl, h1, T.bed.cl, T.bed.nA, rfl, _, rfl, dA, .int (n : Nat), rfl, ?_, ?_⟩
    · rw [← hv]
      exact DGet.k (k := Sum.inr x) hd
    · have q := hq (by unfold isK; rw [e]; rfl)
      have : ar rows x = n := by unfold ar; rw [e]; rfl
      rw [this] at q
      exact q
def spLeaves (K : PySem.W.Frag) : Sp := fun vs H Q _ => ∃ (a : Addr) (rows : List Sy.Row), vs = [.ref a] ∧ BedAt K H a rows ∧ rows.length ≤ 1000 ∧ ∀ H' p, Same H H' → SqT K H' p ((leafs rows).map V.str) → Q (.ref p) H'
abbrev N_leaves : List Str := ["self", "name", "branches"]
theorem sc_leaves : FnScope N_leaves ["self"] (defScope (clb 22 3)) := ⟨rfl, rfl, rfl, by decide +kernel, rfl, by decide +kernel, by decide +kernel⟩
theorem k_leaves (T : Txt K mg) (F : MB K "leaves" "Bed.leaves" (clb 22 3)) : CalM P w K mg base 1 "leaves" ["self"] (spLeaves K) := by
  refine calM_of F sc_leaves (fun _ _ _ _ _ _ us e => match us, e with | [_], _ => rfl) (fun vs H Q E s => by obtain ⟨_, _, rfl, _⟩ := s; rfl) ?_
  intro cdv A outer s H vs Q E hr h
  obtain ⟨a, rows, rfl, hb, hl, hq⟩ := h
  have sc := sc_leaves
  obtain ⟨dx, dA, tR, tK, dR, ps, h1, hd, h3, h4, h5, h6⟩ := hb.ex
  have hpl := paired_len h6
  refine ⟨_, (pss_one (ps_ret (pe_callTy call_tuple_of (by rfl) T.tuple (by decide +kernel) (pa_cons (pe_lc (own := [("name", 1), ("branches", 2)]) (g := gTup K 2 (gCons (gName 1) (gCons (gName 2) (gNil)))) rfl sc.nd (pi_tup (pe_fld (pv 0) rfl)) (blkOk_by (N := N_leaves) (sc := defScope (clb 22 3)) (by decide +kernel)) (fun _ _ _ _ _ => (pg_tup rfl (pgs_cons (pg_name (i := 1) sc.nd rfl (Or.inl rfl)) (pgs_cons (pg_name (i := 2) sc.nd rfl (Or.inl rfl)) pgs_nil)))) (fun _ _ _ _ _ => (pts_one (pt_cmpR op_eq (pv 2) pe_int (nomark _)))) (fun _ _ _ _ _ => (pv 1))) pa_nil)))), ?_⟩
  refine ⟨_, rfl, a, _, dx, _, _, rfl, h1, T.bed.cl, T.bed.nR, rfl, tR, rfl, ⟨_, h4⟩, fun D hD => lc_it walk_tup (fun i H' => Hs H [(D, .lst ((leafs (rows.take i)).map V.str))] H') ((Hs.start H).new hD) (fun _ _ _ p => Same.sqt p.sub h4) ?_ ?_⟩
  · rintro i x H' _ hi hh ⟨rfl, hx⟩
    rw [List.length_map, hpl] at hi
    obtain ⟨r, hr'⟩ : ∃ r, rows[i]? = some r := ⟨_, List.getElem?_eq_getElem hi⟩
    obtain ⟨q, e1, tq⟩ := paired_at h6 hr'
    rw [List.getElem?_map, e1] at hx
    cases hx
    have etk : rows.take (i + 1) = rows.take i ++ [r] := by rw [List.take_succ, hr']; rfl
    have ll : (leafs (rows.take i)).length ≤ 1000 := by
      unfold leafs
      rw [List.length_map]
      have := List.length_filter_le (fun r : Sy.Row => decide (r.2 = 0)) (rows.take i)
      rw [List.length_take] at this
      omega
    refine ⟨q, _, rfl, Same.sqt hh.sub tq, rfl, _, _, rfl, _, _, rfl, rfl, rfl, _, rfl, rfl, _, rfl, if_dec (fun c => ?_) (fun c => ?_)⟩
    · refine ⟨_, rfl, _, hh.r0, by rw [List.length_map, sizeLine_eq]; omega, ?_⟩
      have c2 : r.2 = 0 := by
        have := V.int.inj c
        omega
      have : leafs (rows.take (i + 1)) = leafs (rows.take i) ++ [r.1] := by
        unfold leafs
        rw [etk, List.filter_append, List.map_append]
        simp [c2]
      rw [this, List.map_append]
      exact hh.w0
    · have c2 : ¬ r.2 = 0 := fun z => c (by rw [z]; rfl)
      have : leafs (rows.take (i + 1)) = leafs (rows.take i) := by
        unfold leafs
        rw [etk, List.filter_append, List.map_append]
        simp [c2]
      rw [this]
      exact hh
  · intro H' hh
    rw [List.length_map, hpl, List.take_length] at hh
    exact ⟨D, _, rfl, .inl ⟨SqL.of hh.r0, fun l hl => hq _ _ (hh.sub.trans (up_same hl)) (SqT.of upd_same)⟩⟩
end
end Sy
namespace Sy
open PySem PySem.Spec PyProof.Rows L2
section
variable {P : Program} {w : World} {K : PySem.W.Frag} {mg : Str → Option Value} {base : Heap}
/-- what a def with a star asks, by what its body asks -/
def spStar (n : Nat) (sp : Sp) : Sp := fun vs H Q E => ∃ ws rest, vs = ws ++ rest ∧ ws.length = n ∧ rest.length ≤ sizeLine ∧ ∀ p, H p = Option.none → sp (ws ++ [V.ref p]) (upd H p (.tup rest)) Q E
theorem fnR_of {x q pv : Str} {st : Stmt} {f : Addr} {fd : FuncData} {N ps : List Str} {k : Nat} {sp : Sp} (F : FunD K x q (defArgs st) (defBody st) (defScope st) [] [] f fd) (S : FnScope N (ps ++ [pv]) (defScope st))
    (hb : ∀ (kV doc pm : Value) (an : Option Addr) (cdv ct : Value) (us rest : List Value), us.length = ps.length → bindArgs (PySem.W.fnOf x q (defArgs st) (defBody st) (defScope st) .none kV doc pm an cdv ct) ⟨us ++ rest, []⟩ = (newTuple rest >>= fun t => pure (ps.zip us ++ [(pv, t)])))
    (body : ∀ (cdv : Value) (A : Around) (outer : List Env) (s : Shared) (H : Hp) (vs : List V) (Q : VK) (E : XK), Room k (A.deeper (envOfC q (defScope st) s.heap.objs.size f cdv)) → sp vs H Q E →
      ∃ t, PSs (cxOf (L2.CX P w) P w K mg base N q (defScope st) f cdv A outer s H E) (defBody st) t ∧ t { nx := fun _ H' => Q .non H', rt := Q } (start N vs) H) : FnR P w K mg base (L2.CX P w) (k + 1) f (spStar ps.length sp) := by
  obtain ⟨oc, od, dV, kV, doc, pm, an, cdv, ct, osl, rfl, lk, hcd, hD, hK⟩ := F.ex
  rcases hD with ⟨_, rfl⟩ | ⟨e, _⟩
  · exact StX.fn_star lk hcd S StX.cxUp (hb kV doc pm an cdv ct) fun A outer s H vs Q E hr h => body cdv A outer s H vs Q E hr h
  · exact absurd rfl e
/-! Bed.__init__ -/
def spInitB (K : PySem.W.Frag) : Sp := fun vs H Q _ => ∃ (x p dx : Addr) (ps : List Addr) (rows : List Sy.Row), vs = [.ref x, .ref p] ∧ H x = some (.ins (He.ga K "Bed") dx []) ∧ SqT K H p (ps.map V.ref) ∧ Paired (fun q (r : Sy.Row) => SqT K H q [.str r.1, .int (r.2 : Nat)]) ps rows ∧ RowsOk rows ∧
  ∀ H', (∀ a o, a ≠ x → H a = some o → H' a = some o) → BedAt K H' x rows → Q .non H'
abbrev N_init : List Str := ["self", "kinds", "place", "name", "branches", "rank"]
theorem sc_init : FnScope N_init ((["self"] : List Str) ++ (["kinds"] : List Str)) (defScope (clb 22 0)) := ⟨rfl, rfl, rfl, by decide +kernel, rfl, by decide +kernel, by decide +kernel⟩
theorem sqt_del {H : Hp} {x p C dx : Addr} {fs : List (Str × V)} {xs : List V} (h : SqT K H p xs) (hx : H x = some (.ins C dx fs)) : SqT K (L2.del H x) p xs := by
  have ne : ∀ o, H p = some o → (∀ C dx fs, o ≠ .ins C dx fs) → p ≠ x := fun o e n z => by
    rw [z, hx] at e
    exact n _ _ _ (Option.some.inj e).symm
  rcases h with (h | ⟨o, h⟩) | h
  · exact .inl (.inl (by rw [del_ne (ne _ h fun _ _ _ z => by cases z)]; exact h))
  · exact .inl (.inr ⟨o, by rw [del_ne (ne _ h fun _ _ _ z => by cases z)]; exact h⟩)
  · exact .inr h
theorem nx_le (x : Str) (h : nameOk x = true) : x.length ≤ 8 := by
  unfold nameOk at h
  exact of_decide_eq_true (Bool.and_eq_true_iff.mp h).1
theorem rkKV_snoc : ∀ (l : List Sy.Row) (n : Nat) (r : Sy.Row), rkKV n (l ++ [r]) = rkKV n l ++ [(Sum.inr r.1, V.int ((n + l.length : Nat) : Int))]
  | [], n, r => rfl
  | q :: l, n, r => by
    show (Sum.inr q.1, V.int (n : Nat)) :: rkKV (n + 1) (l ++ [r]) = _
    rw [rkKV_snoc l (n + 1) r, show n + 1 + l.length = n + (q :: l).length by rw [List.length_cons]; omega]
    rfl
theorem rkKV_len : ∀ (l : List Sy.Row) (n : Nat), (rkKV n l).length = l.length
  | [], _ => rfl
  | q :: l, n => by
    show (rkKV (n + 1) l).length + 1 = _
    rw [rkKV_len l (n + 1)]
    rfl
theorem rk_none : ∀ {l : List Sy.Row} {n : Nat} {x : Str}, (∀ q ∈ l, q.1 ≠ x) → rk n l x = none
  | [], _, _, _ => rfl
  | q :: l, n, x, h => by
    rw [rk, if_neg (h q List.mem_cons_self)]
    exact rk_none fun z hz => h z (List.mem_cons_of_mem _ hz)
theorem leafs_pos {rows : List Sy.Row} (h : ∃ r ∈ rows, r.2 = 0) : 0 < (leafs rows).length := by
  obtain ⟨r, hr, e⟩ := h
  unfold leafs
  rw [List.length_map]
  exact List.length_pos_of_mem (List.mem_filter.mpr ⟨hr, decide_eq_true e⟩)
theorem r_init (T : Txt K mg) (F : MB K "__init__" "Bed.__init__" (clb 22 0)) (c_is_name : Cal P w K mg base 2 "is_name" ["text"] spName) (c_leaves : CalM P w K mg base 1 "leaves" ["self"] (spLeaves K)) :
    FnR P w K mg base (L2.CX P w) 3 (He.ma K (He.ga K "Bed") "__init__") (spStar 1 (spInitB K)) := by
  obtain ⟨me, fd, F⟩ := F
  obtain ⟨mL, fL, FL, BL⟩ := c_leaves
  refine fnR_of (ps := ["self"]) F sc_init (fun kV doc pm an cdv ct => StX.bind_star1 (B := fun l => bindArgs (PySem.W.fnOf "__init__" "Bed.__init__" (defArgs (clb 22 0)) (defBody (clb 22 0)) (defScope (clb 22 0)) .none kV doc pm an cdv ct) ⟨l, []⟩) (fun _ => rfl) (fun _ _ _ => rfl)) ?_
  intro cdv A outer s H vs Q E hr h
  obtain ⟨x, p, dx, ps, rows, rfl, hx, hp, hpr, ok, hq⟩ := h
  have hu := hu_of hr
  have sc := sc_init
  refine ⟨_, (pss_cons (ps_if (pt_cmpR op_gt (pe_callB call_len_seq (by rfl) T.len (by decide +kernel) (pa_cons (pv 1) pa_nil)) (pe_gint rfl T.MOST_KINDS) (nomark _))
        (pss_one ps_never)
        pss_nil)
      (pss_cons (ps_fld (pv 0) pe_dnewK rfl)
      (pss_cons (ps_for (passes_of rfl) rfl (pi_enumT (by rfl) T.enumerate (pa_cons (pv 1) pa_nil)) (pg_tup rfl (pgs_cons (pg_name (i := 2) sc.nd rfl (Or.inl rfl)) (pgs_cons (pg_tup rfl (pgs_cons (pg_name (i := 3) sc.nd rfl (Or.inl rfl)) (pgs_cons (pg_name (i := 4) sc.nd rfl (Or.inl rfl)) pgs_nil))) pgs_nil)))
        (pss_cons (ps_if (pt_not (pt_val (pe_cal c_is_name hr (pa_cons (pv 3) pa_nil))))
          (pss_one ps_never)
          pss_nil)
        (pss_cons (ps_if (PW.pt (pw_or (pt_cmpR op_lt (pv 4) pe_int (nomark _)) (pw_or1 (pt_cmpR op_gt (pv 4) (pe_gint rfl T.MOST_BRANCHES) (nomark _)))))
          (pss_one ps_never)
          pss_nil)
        (pss_cons (ps_if (pt_cmp (pc_din hu (pv 3) (pe_fld (pv 0) rfl)))
          (pss_one ps_never)
          pss_nil)
        (pss_one (ps_dput hu (pe_fld (pv 0) rfl) (pv 3) (pv 4) rfl))))))
      (pss_cons (ps_fld (pv 0) (pe_callTy call_tuple_of (by rfl) T.tuple (by decide +kernel) (pa_cons (pv 1) pa_nil)) rfl)
      (pss_cons (ps_fld (pv 0) (pe_callTy call_tuple_of (by rfl) T.tuple (by decide +kernel) (pa_cons (pe_lc (own := [("name", 3), ("branches", 4)]) (g := gTup K 2 (gCons (gName 3) (gCons (gName 4) (gNil)))) rfl sc.nd (pi_tup (pv 1)) (blkOk_by (N := N_init) (sc := defScope (clb 22 0)) (by decide +kernel)) (fun _ _ _ _ _ => (pg_tup rfl (pgs_cons (pg_name (i := 3) sc.nd rfl (Or.inl rfl)) (pgs_cons (pg_name (i := 4) sc.nd rfl (Or.inl rfl)) pgs_nil)))) (fun _ _ _ _ _ => pts_nil) (fun _ _ _ _ _ => (pv 3))) pa_nil)) rfl)
      (pss_cons (ps_fld (pv 0) (pe_dc (own := [("rank", 5), ("name", 3)]) (g := gTup K 2 (gCons (gName 5) (gCons (gName 3) (gNil)))) rfl sc.nd (pi_enumT (by rfl) T.enumerate (pa_cons (pe_fld (pv 0) rfl) pa_nil)) (blkOk_by (N := N_init) (sc := defScope (clb 22 0)) (by decide +kernel)) (fun _ _ _ _ _ => (pg_tup rfl (pgs_cons (pg_name (i := 5) sc.nd rfl (Or.inl rfl)) (pgs_cons (pg_name (i := 3) sc.nd rfl (Or.inl rfl)) pgs_nil)))) (fun _ _ _ _ _ => pts_nil) (fun _ _ _ _ _ => (pv 3)) (fun _ _ _ _ _ => (pv 5))) rfl)
      (pss_one (ps_if (pt_cmpR op_eq (pe_callB call_len_seq (by rfl) T.len (by decide +kernel) (pa_cons (pe_meth0 (pv 0) T.bed.cl mL FL (hr.mono (by decide)) BL .nil (E := E0) (fun pins σ H s e s' I h => passL pins σ H s e s' I h)) pa_nil)) pe_int (nomark _))
        (pss_one ps_never)
        pss_nil)))))))), ?_⟩
  have hpl := paired_len hpr
  have hle := ok.le
  -- known for good: all but the new object
  have k0 : Hs (L2.del H x) [(x, .ins (He.ga K "Bed") dx [])] H := (Hs.start H).take hx
  have hp0 := sqt_del hp hx
  have hpr0 : Paired (fun q (r : Sy.Row) => SqT K (L2.del H x) q [.str r.1, .int (r.2 : Nat)]) ps rows := Paired.mapP hpr fun _ _ z => sqt_del z hx
  generalize hB : L2.del H x = B at *
  refine ⟨_, rfl, p, _, rfl, .inr hp, _, _, rfl, rfl, _, rfl, ?_⟩
  rw [List.length_map, hpl, decide_eq_false (by omega)]
  refine iteF fun d hd => ?_
  have k1 := k0.new (o := .dK []) hd
  refine ⟨_, rfl, x, _, dx, _, rfl, k1.r1, T.bed.cl, T.bed.nA, by decide, ?_⟩
  have k2 := k1.w1 (o' := .ins (He.ga K "Bed") dx (putF "arities" (.ref d) []))
  refine ⟨_, rfl, p, _, rfl, Same.sqt k2.sub hp0, for_it walkE (fun i σ H' => ∃ t2 t3 t4, σ = [some (.ref x), some (.ref p), t2, t3, t4, none] ∧ Hs B [(d, .dK (arKV (rows.take i))), (x, .ins (He.ga K "Bed") dx [("arities", .ref d)])] H') ⟨none, none, none, rfl, k2⟩ (fun _ _ _ _ ⟨_, _, _, _, z⟩ => Same.sqt z.sub hp0) ?_ ?_⟩
  · rintro i v σ H1 H2 hi ⟨t2, t3, t4, rfl, hh⟩ ⟨T1, u1, u2, rfl, hT, rfl, e1, e2⟩
    cases e1
    rw [List.length_map, hpl] at hi
    obtain ⟨r, hr'⟩ : ∃ r, rows[i]? = some r := ⟨_, List.getElem?_eq_getElem hi⟩
    obtain ⟨q, eq, tq⟩ := paired_at hpr0 hr'
    have e2 : (ps.map V.ref)[i]? = some u2 := e2
    rw [List.getElem?_map, eq] at e2
    cases e2
    have hm := List.mem_of_getElem? hr'
    have hh := hh.lay (o := .tup [.int (i : Nat), .ref q]) hT
    have hnone : ∀ z ∈ rows.take i, z.1 ≠ r.1 := nodup_take ok.nd hr'
    have vn : valV (arKV (rows.take i)) (Sum.inr r.1 : Key) = none := by rw [valV_ar, lookup_none hnone]; rfl
    have hbr := ok.br r hm
    have hnm := ok.nm r hm
    have etk : rows.take (i + 1) = rows.take i ++ [r] := by rw [List.take_succ, hr']; rfl
    refine ⟨T1, _, rfl, SqT.of upd_same, rfl, _, _, rfl, _, _, rfl, q, _, rfl, Same.sqt hh.sub tq, rfl, _, _, rfl, _, _, rfl, rfl, rfl, ?_⟩
    refine ⟨_, rfl, r.1, rfl, Nat.le_trans (nx_le _ hnm) (by decide), _, rfl, ?_⟩
    rw [hnm]
    refine iteF ⟨_, rfl, _, _, rfl, rfl, _, rfl, ?_⟩
    rw [decide_eq_false (by omega)]
    refine iteF ⟨_, rfl, _, _, rfl, rfl, _, rfl, ?_⟩
    rw [decide_eq_false (by omega)]
    refine iteF ⟨_, rfl, _, rfl, x, _, dx, _, _, rfl, hh.r1, T.bed.cl, T.bed.nA, rfl, d, _, rfl, DGet.k (k := Sum.inr r.1) hh.r0, _, rfl, ?_⟩
    rw [vn]
    refine iteF ⟨_, rfl, _, rfl, x, _, dx, _, _, rfl, hh.r1, T.bed.cl, T.bed.nA, rfl, _, rfl, d, _, rfl, DPut.k (k := Sum.inr r.1) hh.r0 (by unfold arKV; rw [List.length_map, List.length_take, sizeLine_eq]; omega), ?_⟩
    refine ⟨_, _, _, rfl, ?_⟩
    rw [putK_new _ vn, etk]
    unfold arKV
    rw [List.map_append]
    exact hh.w0
  · rintro σ H1 ⟨t2, t3, t4, rfl, hh⟩
    rw [List.length_map, hpl, List.take_length] at hh
    -- rows
    refine ⟨_, rfl, p, _, rfl, .inr ⟨Same.sqt hh.sub hp0, ?_⟩⟩
    refine ⟨_, rfl, x, _, dx, _, rfl, hh.r1, T.bed.cl, T.bed.nR, (by show 1 < 1000; decide), ?_⟩
    have k3 := hh.w1 (o' := .ins (He.ga K "Bed") dx [("arities", .ref d), ("rows", .ref p)])
    -- kinds
    refine ⟨_, rfl, p, rfl, ⟨_, Same.sqt k3.sub hp0⟩, fun D hD => lc_it walk_tup (fun i H' => Hs B [(D, .lst ((rows.take i).map fun r => V.str r.1)), (d, .dK (arKV rows)), (x, .ins (He.ga K "Bed") dx [("arities", .ref d), ("rows", .ref p)])] H') (k3.new hD) (fun _ _ _ z => Same.sqt z.sub hp0) ?_ ?_⟩
    · rintro i v H1 _ hi hh ⟨rfl, hv⟩
      rw [List.length_map, hpl] at hi
      obtain ⟨r, hr'⟩ : ∃ r, rows[i]? = some r := ⟨_, List.getElem?_eq_getElem hi⟩
      obtain ⟨q, eq, tq⟩ := paired_at hpr0 hr'
      rw [List.getElem?_map, eq] at hv
      cases hv
      refine ⟨q, _, rfl, Same.sqt hh.sub tq, rfl, _, _, rfl, _, _, rfl, rfl, rfl, ?_⟩
      simp only [tYes, if_true]
      refine ⟨_, rfl, _, hh.r0, by rw [List.length_map, List.length_take, sizeLine_eq]; omega, ?_⟩
      rw [List.take_succ, hr', List.map_append]
      exact hh.w0
    intro H2 hh
    rw [List.length_map, hpl, List.take_length] at hh
    refine ⟨D, _, rfl, .inl ⟨SqL.of hh.r0, fun tK hK => ?_⟩⟩
    have k4 := (hh.drop).new (o := .tup (rows.map fun r => V.str r.1)) hK
    refine ⟨_, rfl, x, _, dx, _, rfl, k4.r2, T.bed.cl, T.bed.nK, (by show 2 < 1000; decide), ?_⟩
    have k5 := k4.w2 (o' := .ins (He.ga K "Bed") dx [("arities", .ref d), ("rows", .ref p), ("kinds", .ref tK)])
    -- ranks
    refine ⟨_, rfl, x, _, dx, _, _, rfl, k5.r2, T.bed.cl, T.bed.nK, rfl, tK, _, rfl, SqT.of k5.r0, fun R hR => dc_it walkE (fun i H' => Hs B [(R, .dK (rkKV 0 (rows.take i))), (tK, .tup (rows.map fun r => V.str r.1)), (d, .dK (arKV rows)), (x, .ins (He.ga K "Bed") dx [("arities", .ref d), ("rows", .ref p), ("kinds", .ref tK)])] H') (k5.new hR) (fun _ _ _ z => SqT.of z.r1) ?_ ?_⟩
    · rintro i v H1 H2 hi hh ⟨T1, u1, u2, rfl, hT, rfl, e1, e2⟩
      cases e1
      rw [List.length_map] at hi
      obtain ⟨r, hr'⟩ : ∃ r, rows[i]? = some r := ⟨_, List.getElem?_eq_getElem hi⟩
      have e2 : (rows.map fun r => V.str r.1)[i]? = some u2 := e2
      rw [List.getElem?_map, hr'] at e2
      cases e2
      have hh := hh.lay (o := .tup [.int (i : Nat), .str r.1]) hT
      have vn : valV (rkKV 0 (rows.take i)) (Sum.inr r.1 : Key) = none := by rw [valV_rk, rk_none (nodup_take ok.nd hr')]; rfl
      refine ⟨T1, _, rfl, SqT.of upd_same, rfl, _, _, rfl, _, _, rfl, rfl, rfl, ?_⟩
      simp only [tYes, if_true]
      refine ⟨_, rfl, _, rfl, _, Sum.inr r.1, rfl, hh.r0, by rw [rkKV_len, List.length_take, sizeLine_eq]; omega, ?_⟩
      rw [putK_new _ vn, List.take_succ, hr']
      show Hs B [(R, .dK (rkKV 0 (rows.take i ++ [r]))), _, _, _] _
      rw [rkKV_snoc, List.length_take, show 0 + min i rows.length = i by omega]
      exact hh.w0
    intro H3 hh
    rw [List.length_map, List.take_length] at hh
    refine ⟨_, rfl, x, _, dx, _, rfl, hh.r3, T.bed.cl, T.bed.nRk, (by show 3 < 1000; decide), ?_⟩
    generalize hH4 : upd H3 x (.ins (He.ga K "Bed") dx (putF "ranks" (.ref R) [("arities", .ref d), ("rows", .ref p), ("kinds", .ref tK)])) = H4
    have hx4 : H4 x = some (.ins (He.ga K "Bed") dx (bedF d p tK R)) := by rw [← hH4]; exact upd_same
    have nx : ∀ a o, a ≠ x → H3 a = some o → H4 a = some o := fun a o n e => by rw [← hH4, upd_ne n]; exact e
    have sB : Same B H4 := fun a o e => nx a o (fun z => by rw [z, ← hB, del_same] at e; cases e) (hh.sub a o e)
    have nK : tK ≠ x := ne_of hh.r1 hh.r3 (by intro z; cases z)
    have nd : d ≠ x := ne_of hh.r2 hh.r3 (by intro z; cases z)
    have nR : R ≠ x := ne_of hh.r0 hh.r3 (by intro z; cases z)
    have bed : BedAt K H4 x rows := ⟨dx, d, p, tK, R, ps, hx4, nx _ _ nd hh.r2, nx _ _ nR hh.r0, Same.sqt sB hp0, SqT.of (nx _ _ nK hh.r1), Paired.mapP hpr0 fun _ _ z => Same.sqt sB z⟩
    refine ⟨_, rfl, x, dx, _, rfl, hx4, rfl, x, rows, rfl, bed, by omega, fun H5 t s5 ht => ?_⟩
    refine ⟨t, _, rfl, .inr ht, rfl, _, rfl, ?_⟩
    have := leafs_pos ok.lf
    rw [List.length_map, decide_eq_false (fun z => by have := V.int.inj z; omega)]
    refine iteF (hq _ (fun a o n e => ?_) (bed.mono (Stay.of s5)))
    refine s5 _ _ (sB _ _ ?_)
    rw [← hB, del_ne n]
    exact e
end
end Sy
namespace Sy
open PySem PySem.Spec PyProof.Rows L2
section
variable {P : Program} {w : World} {K : PySem.W.Frag} {mg : Str → Option Value} {base : Heap}
/-- a bed is made -/
theorem pe_bed {X : Cx} {k : Nat} {p pos : Pos} {e : Expr} {es : List Expr} {t : TA} (M : Mk X.K (He.ga X.K "Bed") (He.ma X.K (He.ga X.K "Bed") "__init__")) (at_ : X.mg "Bed" = some (.ref (He.ga X.K "Bed")))
    (F : FnR X.prog X.w X.K X.mg X.base (L2.CX X.prog X.w) 3 (He.ma X.K (He.ga X.K "Bed") "__init__") (spStar 1 (spInitB X.K))) (hr : Room k X.A) (ha : PA X (e :: es) t) (hk : 4 ≤ k := by decide) (hg : Gl X "Bed" := by rfl)
    (he : starEach (e :: es) X.env = (false, eval e X.env) :: starEach es X.env := by rfl) (hpl : (backTo pos (starEach es X.env)).any (·.1) = false := by rfl) : PE X (.Call (.Name "Bed" p) (e :: es) [] pos) (StX.tMakeR (He.ga X.K "Bed") (spStar 1 (spInitB X.K)) E0 t) :=
  StX.pe_makeR M F (hr.mono hk) hg at_ (fun pins σ H s e s' I h => passL pins σ H s e s' I h) ha (by decide) he hpl
/-- what making it asks -/
theorem bed_of {vs : List V} {H : Hp} {Q : VK} {ps : List Addr} {rows : List Sy.Row} (ev : vs = ps.map V.ref) (hp : Paired (fun q (r : Sy.Row) => SqT K H q [.str r.1, .int (r.2 : Nat)]) ps rows) (ok : RowsOk rows) (h : ∀ H' a, Same H H' → BedAt K H' a rows → Q (.ref a) H') :
    ∀ x dx, H x = Option.none → H dx = Option.none → dx ≠ x → spStar 1 (spInitB K) (V.ref x :: vs) (upd (upd H dx (.own x)) x (.ins (He.ga K "Bed") dx [])) (fun v H2 => v = .non ∧ Q (.ref x) H2) E0 := by
  intro x dx hx hdx ne
  subst ev
  have hpl := paired_len hp
  have hle := ok.le
  have s1 : Same H (upd H dx (.own x)) := up_same hdx
  have hx1 : (upd H dx (.own x)) x = none := by rw [upd_ne ne.symm]; exact hx
  have s2 : Same H (upd (upd H dx (.own x)) x (.ins (He.ga K "Bed") dx [])) := s1.trans (up_same hx1)
  refine ⟨[.ref x], ps.map V.ref, rfl, rfl, by rw [List.length_map, sizeLine_eq]; omega, fun p hp' => ?_⟩
  have s3 := s2.trans (up_same (o := .tup (ps.map V.ref)) hp')
  have nx : x ≠ p := fun z => by rw [← z, upd_same] at hp'; cases hp'
  refine ⟨x, p, dx, ps, rows, rfl, by rw [upd_ne nx]; exact upd_same, SqT.of upd_same, Paired.mapP hp fun _ _ z => Same.sqt s3 z, ok, fun H' keep bed => ⟨rfl, h H' x (fun b o e => keep b o (fun z => ?_) (s3 _ _ e)) bed⟩⟩
  rw [z, hx] at e
  cases e
end
end Sy
namespace Sy
open PySem PySem.Spec PyProof.Rows L2
/-- small letters -/
def Lt (c : Nat) : Prop := 97 ≤ c ∧ c ≤ 122
def Wd (x : Str) : Prop := 1 ≤ x.cps.toList.length ∧ x.cps.toList.length ≤ 8 ∧ ∀ c ∈ x.cps.toList, Lt c
theorem lt_uni (c : Nat) (h : Lt c) : Unicode.isAlpha c = true ∧ Unicode.isLower c = true ∧ Unicode.isUpper c = false ∧ Unicode.isTitle c = false := by
  have q : ∀ i : Fin 26, Unicode.isAlpha (97 + i.val) = true ∧ Unicode.isLower (97 + i.val) = true ∧ Unicode.isUpper (97 + i.val) = false ∧ Unicode.isTitle (97 + i.val) = false := by decide +kernel
  obtain ⟨h1, h2⟩ := h
  have := q ⟨c - 97, by omega⟩
  rw [show 97 + (c - 97) = c by omega] at this
  exact this
theorem len_tl (x : Str) : x.length = x.cps.toList.length := by
  show x.cps.size = _
  simp
theorem Wd.ok {x : Str} (h : Wd x) : nameOk x = true := by
  obtain ⟨h1, h2, h3⟩ := h
  have hl := len_tl x
  have a1 : Txt.isascii x = true := by
    unfold Txt.isascii
    rw [← Array.all_toList, List.all_eq_true]
    intro c hc
    have := (h3 c hc).2
    exact decide_eq_true (by omega)
  have a2 : Txt.isalpha x = true := by
    unfold Txt.isalpha
    rw [decide_eq_true (by omega), Bool.true_and, ← Array.all_toList, List.all_eq_true]
    exact fun c hc => (lt_uni c (h3 c hc)).1
  have a3 : Txt.islower x = true := by
    unfold Txt.islower
    rw [Bool.and_eq_true]
    constructor
    · rw [← Array.any_toList, List.any_eq_true]
      obtain ⟨c, hc⟩ : ∃ c, c ∈ x.cps.toList := List.exists_mem_of_length_pos (by omega)
      exact ⟨c, hc, (lt_uni c (h3 c hc)).2.1⟩
    · rw [← Array.any_toList, Bool.not_eq_true', List.any_eq_false]
      intro c hc
      rw [(lt_uni c (h3 c hc)).2.2.1, (lt_uni c (h3 c hc)).2.2.2]
      decide
  unfold nameOk
  rw [a1, a2, a3, decide_eq_true (by omega)]
  rfl
theorem join_one (cs : List Nat) : (Txt.join (Str.empty) (cs.map fun c => (⟨#[c]⟩ : Str))).cps.toList = cs := by
  rw [TL.join_eq]
  have h := TL.tl_join Str.empty (cs.map fun c => (⟨#[c]⟩ : Str))
  show TL.tl _ = cs
  rw [h]
  have : ∀ cs : List Nat, TL.joinL (TL.tl Str.empty) ((cs.map fun c => (⟨#[c]⟩ : Str)).map TL.tl) = cs := by
    intro cs
    induction cs with
    | nil => rfl
    | cons c cs ih =>
      cases cs with
      | nil => rfl
      | cons d ds =>
        show [c] ++ ([] ++ TL.joinL _ _) = _
        rw [List.nil_append]
        exact congrArg (fun l => [c] ++ l) ih
  exact this cs
/-- fewer than 26 words leave a letter -/
theorem nodup_le {α : Type} [DecidableEq α] : ∀ {l m : List α}, l.Nodup → (∀ x ∈ l, x ∈ m) → l.length ≤ m.length
  | [], _, _, _ => Nat.zero_le _
  | x :: l, m, h, s => by
    have hx := s x List.mem_cons_self
    have h2 := List.nodup_cons.mp h
    have := nodup_le (l := l) (m := m.erase x) h2.2 fun y hy => by
      rw [List.mem_erase_of_ne (fun z => h2.1 (by rw [← z]; exact hy))]
      exact s y (List.mem_cons_of_mem _ hy)
    rw [List.length_erase_of_mem hx] at this
    have := List.length_pos_of_mem hx
    rw [List.length_cons]
    omega
def abc : Str := "abcdefghijklmnopqrstuvwxyz"
theorem abc_at : ∀ i : Nat, i < 26 → abc.cps[i]? = some (97 + i) := by
  have q : ∀ i : Fin 26, abc.cps[i.val]? = some (97 + i.val) := by decide +kernel
  exact fun i h => q ⟨i, h⟩
theorem abc_len : abc.length = 26 := by decide +kernel
theorem abc_tl (i : Nat) (h : i < 26) : abc.cps.toList[i]? = some (97 + i) := by rw [Array.getElem?_toList]; exact abc_at i h
/-- the letters that are not taken -/
def freeL (tk : List Str) (n : Nat) : List Str := ((List.range n).map fun i => (⟨#[97 + i]⟩ : Str)).filter fun x => decide (x ∉ tk)
theorem freeL_pos (tk : List Str) (h : tk.length < 26) : ∃ x r, freeL tk 26 = x :: r ∧ x ∉ tk ∧ Wd x := by
  cases e : freeL tk 26 with
  | nil =>
    exfalso
    have all : ∀ x ∈ ((List.range 26).map fun i => (⟨#[97 + i]⟩ : Str)), x ∈ tk := fun x hx => by
      have := List.filter_eq_nil_iff.mp e x hx
      simpa using this
    have nd : ((List.range 26).map fun i => (⟨#[97 + i]⟩ : Str)).Nodup := by decide +kernel
    have := nodup_le nd all
    simp at this
    omega
  | cons x r =>
    have hm : x ∈ freeL tk 26 := by rw [e]; exact List.mem_cons_self
    unfold freeL at hm
    obtain ⟨h1, h2⟩ := List.mem_filter.mp hm
    obtain ⟨i, hi, rfl⟩ := List.mem_map.mp h1
    rw [List.mem_range] at hi
    refine ⟨_, r, rfl, of_decide_eq_true h2, ?_⟩
    refine ⟨Nat.le_refl _, by show 1 ≤ 8; decide, fun c hc => ?_⟩
    have : c = 97 + i := by simpa using hc
    subst this
    exact ⟨by omega, by omega⟩
theorem Wd.first {x y : Str} {c : Nat} (hx : Wd x) (hy : Wd y) (h8 : x.length < 8) (hc : y.cps.toList[0]? = some c) : Wd (x ++ ⟨#[c]⟩) := by
  obtain ⟨h1, h2, h3⟩ := hx
  have hl := len_tl x
  have e : (x ++ ⟨#[c]⟩ : Str).cps.toList = x.cps.toList ++ [c] := by
    show (x.cps ++ #[c]).toList = _
    simp
  have hcm := hy.2.2 c (List.mem_of_getElem? hc)
  refine ⟨?_, ?_, fun d hd => ?_⟩
  · rw [e, List.length_append]
    show 1 ≤ _ + 1
    omega
  · rw [e, List.length_append]
    show _ + 1 ≤ 8
    omega
  · rw [e] at hd
    rcases List.mem_append.mp hd with hd | hd
    · exact h3 d hd
    · rw [List.mem_singleton.mp hd]
      exact hcm
theorem Wd.cut {x : Str} (hx : Wd x) (h1 : 1 < x.length) : Wd (cutS x none (some (-1))) := by
  obtain ⟨h1', h2, h3⟩ := hx
  have hl := len_tl x
  have e : (cutS x none (some (-1))).cps.toList = x.cps.toList.take (x.length - 1) := by
    unfold cutS HT.sIx
    simp only [List.drop_zero, Nat.sub_zero]
    rw [if_pos (by decide), show ((-1 : Int) + (x.length : Int)).toNat = x.length - 1 by omega]
  refine ⟨?_, ?_, fun d hd => ?_⟩
  · rw [e, List.length_take]
    omega
  · rw [e, List.length_take]
    omega
  · rw [e] at hd
    exact h3 d (List.mem_of_mem_take hd)
theorem all_strs (l : List Str) : (l.map V.str).all flatV = true := by
  rw [List.all_map, List.all_eq_true]
  intro x _
  rfl
end Sy
namespace Sy
open PySem PySem.Spec PyProof.Rows L2
/-- the law's box of draws -/
def BagOk (l : List Int) : Prop := ∃ a b, l = [a, b]
def Bag (g : Addr) (H : Hp) : Prop := ∃ l : List Int, BagOk l ∧ H g = some (.lst (l.map V.int))
/-- the box at g is another one, nothing else has changed -/
def Dr (g : Addr) (H H' : Hp) : Prop := ∃ l : List Int, BagOk l ∧ Chg g (.lst (l.map V.int)) H H'
theorem Chg.upd {g : Addr} {o o' : HO} {H H1 : Hp} (c : Chg g o H H1) : Chg g o' H (L2.upd H1 g o') := ⟨upd_same, fun a w n e => by rw [upd_ne n]; exact c.2 a w n e⟩
theorem Chg.refl {g : Addr} {o : HO} {H : Hp} (h : H g = some o) : Chg g o H H := ⟨h, fun _ _ _ e => e⟩
theorem Dr.same {g : Addr} {H H1 H2 : Hp} (d : Dr g H H1) (s : Same H1 H2) : Dr g H H2 := by
  obtain ⟨l, hl, c⟩ := d
  exact ⟨l, hl, s _ _ c.1, fun a w n e => s _ _ (c.2 a w n e)⟩
theorem Dr.trans {g : Addr} {H H1 H2 : Hp} (a : Dr g H H1) (b : Dr g H1 H2) : Dr g H H2 := by
  obtain ⟨l, _, c⟩ := a
  obtain ⟨m, hm, d⟩ := b
  exact ⟨m, hm, Chg.trans c d⟩
theorem Dr.bag {g : Addr} {H H1 : Hp} (d : Dr g H H1) : Bag g H1 := by
  obtain ⟨l, hl, c⟩ := d
  exact ⟨l, hl, c.1⟩
theorem Bag.same {g : Addr} {H H1 : Hp} (d : Bag g H) (s : Same H H1) : Bag g H1 := by
  obtain ⟨l, hl, c⟩ := d
  exact ⟨l, hl, s _ _ c⟩
theorem Bag.dr {g : Addr} {H : Hp} (d : Bag g H) : Dr g H H := by
  obtain ⟨l, hl, c⟩ := d
  exact ⟨l, hl, Chg.refl c⟩
section
variable {B H H' : Hp} {L : List (Addr × HO)} {g : Addr} {o : HO} {x y z : Addr × HO}
theorem Hs.dr0 (h : Hs B ((g, o) :: L) H) (d : Dr g H H') : ∃ l B', BagOk l ∧ Same B B' ∧ Hs B' ((g, .lst (l.map V.int)) :: L) H' ∧ B' = cut ((g, .lst (l.map V.int)) :: L) H' := by
  obtain ⟨l, hl, c⟩ := d
  have := h.chg c
  exact ⟨l, _, hl, this.1, this.2, rfl⟩
theorem Hs.dr1 (h : Hs B (x :: (g, o) :: L) H) (d : Dr g H H') : ∃ l B', BagOk l ∧ Same B B' ∧ Hs B' (x :: (g, .lst (l.map V.int)) :: L) H' := by
  obtain ⟨l, B', hl, s, h', _⟩ := h.swap.dr0 d
  exact ⟨l, B', hl, s, h'.swap⟩
theorem Hs.bag (h : Hs B ((g, .lst ((l : List Int).map V.int)) :: L) H) (hl : BagOk l) : Bag g H := ⟨l, hl, h.r0⟩
theorem Bag.take (h : Bag g H) : ∃ l, BagOk l ∧ Hs (L2.del H g) [(g, .lst (l.map V.int))] H := by
  obtain ⟨l, hl, e⟩ := h
  exact ⟨l, hl, (Hs.start H).take e⟩
theorem Hs.rot (h : Hs B (x :: y :: z :: L) H) : Hs B (y :: z :: x :: L) H := h.perm ((List.Perm.swap _ _ _).trans (List.Perm.cons _ (List.Perm.swap _ _ _)))
theorem Hs.isDr (h : Hs B L H') {l : List Int} (hl : BagOk l) (m : (g, HO.lst (l.map V.int)) ∈ L) (s : Same (L2.del H g) B) : Dr g H H' := ⟨l, hl, h.own _ m, fun a w n e => h.sub _ _ (s _ _ (by rw [del_ne n]; exact e))⟩
end
theorem modr {n : Nat} (hn : 1 ≤ n) (x : Int) : ∃ k : Nat, x % (n : Int) = (k : Int) ∧ k < n := by
  have h1 := Int.emod_nonneg x (show (n : Int) ≠ 0 by omega)
  have h2 := Int.emod_lt_of_pos x (show (0 : Int) < n by omega)
  exact ⟨(x % (n : Int)).toNat, by omega, by omega⟩
section
variable {P : Program} {w : World} {K : PySem.W.Frag} {mg : Str → Option Value} {base : Heap}
def spCell (K : PySem.W.Frag) : Sp := fun vs H Q _ => ∃ (s : Addr) (zs : List Int) (k : Nat), vs = [.ref s, .int (k : Nat)] ∧ SqL K H s (zs.map V.int) ∧ zs.length ≤ 100000 ∧ k < 5 ∧ ∀ (n : Int) H', Same H H' → Q (.int n) H'
theorem sc_cell : FnScope ["_law_script", "_law_k"] ["_law_script", "_law_k"] (defScope (top 49)) := ⟨rfl, rfl, rfl, by decide +kernel, rfl, by decide +kernel, by decide +kernel⟩
theorem k_cell (T : Txt K mg) (F : DF K mg "_law_cell" 49) : Cal P w K mg base 1 "_law_cell" ["_law_script", "_law_k"] (spCell K) := by
  refine cal_of F.1 F.2 sc_cell (fun _ _ _ _ _ _ us e => match us, e with | [_, _], _ => rfl) (fun vs H Q E s => by obtain ⟨_, _, _, rfl, _⟩ := s; rfl) ?_
  intro cdv A outer s H vs Q E hr h
  obtain ⟨sa, zs, k, rfl, hs, hl, hk, hq⟩ := h
  refine ⟨_, (pss_cons (ps_if (pt_cmpR op_lt (pv 1) (pe_callB call_len_seq (by rfl) T.len (by decide +kernel) (pa_cons (pv 0) pa_nil)) (nomark _))
        (pss_one (ps_ret (pe_ix ix_list (pv 0) (pv 1) (fun _ _ => rfl))))
        pss_nil)
      (pss_cons (ps_if (pt_cmpR op_eq (pe_callB call_len_seq (by rfl) T.len (by decide +kernel) (pa_cons (pv 0) pa_nil)) pe_int (nomark _))
        (pss_one (ps_ret (pe_op op_add (pe_op op_pow pe_int pe_int) (pe_ix ix_list (pe_lst (pa_cons pe_int (pa_cons pe_int (pa_cons pe_int (pa_cons pe_int (pa_cons pe_int pa_nil)))))) (pv 1) (fun _ _ => rfl)))))
        pss_nil)
      (pss_one (ps_ret (pe_op op_add (pe_op op_mul pe_int (pe_op op_add (pv 1) pe_int)) (pe_op op_mul pe_int (pe_op op_mod (pe_callTy call_int1 (by rfl) T.int (by decide +kernel) (pa_cons (pe_ix ix_list (pv 0) pe_int (fun _ _ => rfl)) pa_nil)) pe_int))))))), ?_⟩
  refine ⟨_, rfl, _, rfl, sa, _, rfl, .inl hs, _, _, rfl, rfl, _, rfl, if_dec (fun c => ?_) (fun c => ?_)⟩
  · rw [List.length_map] at c
    obtain ⟨z, hz⟩ : ∃ z, zs[k]? = some z := ⟨_, List.getElem?_eq_getElem (by omega)⟩
    exact ⟨_, rfl, _, rfl, sa, _, _, _, rfl, rfl, hs, atI_nat (by rw [List.getElem?_map, hz]; rfl), hq z H (Same.refl H)⟩
  refine ⟨_, rfl, sa, _, rfl, .inl hs, rfl, _, rfl, if_dec (fun c2 => ?_) (fun c2 => ?_)⟩
  · refine ⟨_, _, rfl, rfl, ⟨by decide, by decide, by decide⟩, (by show 5 ≤ sizeLine; decide), fun D hD => ?_⟩
    obtain ⟨z, hz⟩ : ∃ z : Int, ([.int 111056706050, .int 77857, .int 235646, .int 140375, .int 179739] : List V)[k]? = some (.int z) := by
      match k, hk with
      | 0, _ => exact ⟨_, rfl⟩
      | 1, _ => exact ⟨_, rfl⟩
      | 2, _ => exact ⟨_, rfl⟩
      | 3, _ => exact ⟨_, rfl⟩
      | 4, _ => exact ⟨_, rfl⟩
    exact ⟨_, rfl, D, _, _, _, rfl, rfl, SqL.of upd_same, atI_nat hz, _, _, rfl, rfl, hq _ _ (up_same hD)⟩
  · have hpos : 0 < zs.length := by
      rw [List.length_map] at c2
      rcases Nat.eq_zero_or_pos zs.length with e | e
      · exact absurd (by rw [e]; rfl) c2
      · exact e
    obtain ⟨z, hz⟩ : ∃ z, zs[0]? = some z := ⟨_, List.getElem?_eq_getElem hpos⟩
    refine ⟨_, rfl, _, _, rfl, rfl, _, _, rfl, rfl, .inl ⟨by omega, by omega⟩, _, rfl, sa, _, _, _, rfl, rfl, hs, atI_nat (j := 0) (by rw [List.getElem?_map, hz]; rfl), .inl ⟨_, rfl, _, _, rfl, rfl, (by show (0 : Int) < 1000003; decide), _, _, rfl, rfl, .inl ⟨by omega, by omega⟩, _, _, rfl, rfl, hq _ _ (Same.refl H)⟩⟩
def spBox (K : PySem.W.Frag) : Sp := fun vs H Q _ => ∃ (s : Addr) (zs : List Int) (k : Nat), vs = [.ref s, .int (k : Nat)] ∧ SqL K H s (zs.map V.int) ∧ zs.length ≤ 100000 ∧ k < 5 ∧ ∀ g H', H g = none → Same H H' → Bag g H' → Q (.ref g) H'
abbrev N_box : List Str := ["_law_script", "_law_k", "_law_cell_here", "_law_seed"]
theorem sc_box : FnScope N_box ["_law_script", "_law_k"] (defScope (top 50)) := ⟨rfl, rfl, rfl, by decide +kernel, rfl, by decide +kernel, by decide +kernel⟩
theorem k_box (T : Txt K mg) (F : DF K mg "_law_box" 50) (c_law_cell : Cal P w K mg base 1 "_law_cell" ["_law_script", "_law_k"] (spCell K)) : Cal P w K mg base 2 "_law_box" ["_law_script", "_law_k"] (spBox K) := by
  refine cal_of F.1 F.2 sc_box (fun _ _ _ _ _ _ us e => match us, e with | [_, _], _ => rfl) (fun vs H Q E s => by obtain ⟨_, _, _, rfl, _⟩ := s; rfl) ?_
  intro cdv A outer s H vs Q E hr h
  obtain ⟨sa, zs, k, rfl, hs, hl, hk, hq⟩ := h
  have sc := sc_box
  refine ⟨_, (pss_cons (ps_set (i := 2) sc.nd rfl (Or.inl rfl) (pe_cal c_law_cell hr (pa_cons (pv 0) (pa_cons (pv 1) pa_nil))))
      (pss_cons (ps_set (i := 3) sc.nd rfl (Or.inl rfl) (pe_op op_mod (pe_callTy call_int1 (by rfl) T.int (by decide +kernel) (pa_cons (pe_op op_add (pe_op op_mul (pe_callTy call_int1 (by rfl) T.int (by decide +kernel) (pa_cons (pv 2) pa_nil)) pe_int) (pe_op op_mul pe_int (pe_op op_add (pv 1) pe_int))) pa_nil)) pe_int))
      (pss_cons (ps_if (pt_cmpR op_ge (pv 2) (pe_op op_pow pe_int pe_int) (nomark _))
        (pss_one (ps_ret (pe_lst (pa_cons (pe_op op_sub (pv 2) (pe_op op_pow pe_int pe_int)) (pa_cons (pv 3) pa_nil)))))
        pss_nil)
      (pss_one (ps_ret (pe_lst (pa_cons pe_int (pa_cons (pv 3) pa_nil)))))))), ?_⟩
  refine ⟨_, rfl, _, rfl, sa, zs, k, rfl, hs, hl, hk, fun n H1 s1 => ?_⟩
  refine ⟨_, rfl, .inl ⟨n, rfl, _, _, rfl, rfl, .inr (by decide), _, rfl, _, _, rfl, rfl, _, _, rfl, rfl, .inl ⟨by omega, by omega⟩, _, _, rfl, rfl, .inl ⟨_, rfl, _, _, rfl, rfl, (by show (0 : Int) < 2147483647; decide), ?_⟩⟩⟩
  refine ⟨_, rfl, _, _, rfl, rfl, ⟨by decide, by decide, by decide⟩, _, _, rfl, rfl, _, rfl, if_dec (fun c => ?_) (fun c => ?_)⟩
  · refine ⟨_, rfl, _, _, rfl, rfl, ⟨by decide, by decide, by decide⟩, _, _, rfl, rfl, _, rfl, (by show 2 ≤ sizeLine; decide), fun g hg => hq g _ (s1.free hg) (s1.trans (up_same hg)) ⟨[_, _], ⟨_, _, rfl⟩, upd_same⟩⟩
  · exact ⟨_, rfl, (by show 2 ≤ sizeLine; decide), fun g hg => hq g _ (s1.free hg) (s1.trans (up_same hg)) ⟨[_, _], ⟨_, _, rfl⟩, upd_same⟩⟩
def spDraw : Sp := fun vs H Q _ => ∃ (g : Addr) (n : Nat), vs = [.ref g, .int (n : Nat)] ∧ Bag g H ∧ 1 ≤ n ∧ n < 1000000000 ∧ ∀ (r : Nat) H', r < n → Dr g H H' → Q (.int (r : Nat)) H'
abbrev N_draw : List Str := ["_law_box_here", "_law_many", "_law_digit"]
theorem sc_draw : FnScope N_draw ["_law_box_here", "_law_many"] (defScope (top 51)) := ⟨rfl, rfl, rfl, by decide +kernel, rfl, by decide +kernel, by decide +kernel⟩
theorem k_draw (T : Txt K mg) (F : DF K mg "_law_pick" 51) : Cal P w K mg base 1 "_law_pick" ["_law_box_here", "_law_many"] spDraw := by
  refine cal_of F.1 F.2 sc_draw (fun _ _ _ _ _ _ us e => match us, e with | [_, _], _ => rfl) (fun vs H Q E s => by obtain ⟨_, _, rfl, _⟩ := s; rfl) ?_
  intro cdv A outer s H vs Q E hr h
  obtain ⟨g, n, rfl, ⟨_, ⟨a, b, rfl⟩, hg⟩, hn, hn2, hq⟩ := h
  have sc := sc_draw
  refine ⟨_, (pss_cons (ps_if (pt_cmpR op_gt (pe_ix ix_list (pv 0) pe_int (fun _ _ => rfl)) pe_int (nomark _))
        (pss_cons (ps_set (i := 2) sc.nd rfl (Or.inl rfl) (pe_op op_mod (pe_callTy call_int1 (by rfl) T.int (by decide +kernel) (pa_cons (pe_ix ix_list (pv 0) pe_int (fun _ _ => rfl)) pa_nil)) (pv 1)))
        (pss_cons (ps_asg (pe_op op_fdiv (pe_ix ix_list (pv 0) pe_int (fun _ _ => rfl)) (pv 1)) (pg_sub (pv 0) pe_int set_list))
        (pss_one (ps_ret (pv 2)))))
        pss_nil)
      (pss_cons (ps_asg (pe_op op_mod (pe_callTy call_int1 (by rfl) T.int (by decide +kernel) (pa_cons (pe_op op_add (pe_op op_mul (pe_ix ix_list (pv 0) pe_int (fun _ _ => rfl)) pe_int) pe_int) pa_nil)) pe_int) (pg_sub (pv 0) pe_int set_list))
      (pss_one (ps_ret (pe_op op_mod (pe_op op_mod (pe_callTy call_int1 (by rfl) T.int (by decide +kernel) (pa_cons (pe_op op_add (pe_op op_mul (pe_callTy call_int1 (by rfl) T.int (by decide +kernel) (pa_cons (pe_op op_fdiv (pe_ix ix_list (pv 0) pe_int (fun _ _ => rfl)) pe_int) pa_nil)) pe_int) pe_int) pa_nil)) pe_int) (pv 1)))))), ?_⟩
  have hg : H g = some (.lst [.int a, .int b]) := hg
  have S := SqL.of (K := K) hg
  have at0 : ∀ a b : Int, atI ([.int a, .int b] : List V) (0 : Int) = some (.int a) := fun _ _ => atI_nat (j := 0) rfl
  have at1 : ∀ a b : Int, atI ([.int a, .int b] : List V) (1 : Int) = some (.int b) := fun _ _ => atI_nat (j := 1) rfl
  refine ⟨_, rfl, g, _, _, _, rfl, rfl, S, at0 a b, _, _, rfl, rfl, _, rfl, if_dec (fun c => ?_) (fun c => ?_)⟩
  · obtain ⟨k, ek, hk⟩ := modr hn a
    refine ⟨_, rfl, g, _, _, _, rfl, rfl, S, at0 a b, .inl ⟨a, rfl, _, rfl, _, _, rfl, rfl, (by omega), ?_⟩⟩
    refine ⟨_, rfl, g, _, _, _, rfl, rfl, S, at0 a b, _, rfl, _, _, rfl, rfl, ⟨by omega, by omega⟩, _, rfl, g, _, _, 0, rfl, rfl, hg, ixN_nat (by show 0 < 2; decide), _, rfl, ?_⟩
    have q := hq k (L2.upd H g (.lst ([a / (n : Int), b].map V.int))) hk ⟨_, ⟨_, _, rfl⟩, (Chg.refl hg).upd⟩
    rw [← ek] at q
    exact q
  · refine ⟨_, rfl, g, _, _, _, rfl, rfl, S, at1 a b, _, _, rfl, rfl, .inr (by decide), _, _, rfl, rfl, .inl ⟨_, rfl, _, _, rfl, rfl, (by show (0 : Int) < 2147483647; decide), _, rfl, g, _, _, 1, rfl, rfl, hg, ixN_nat (by show 1 < 2; decide), ?_⟩⟩
    have hg2 : ∀ b2 : Int, (L2.upd H g (.lst ([.int a, .int b].set 1 (.int b2)))) g = some (.lst [.int a, .int b2]) := fun _ => upd_same
    refine ⟨_, rfl, g, _, _, _, rfl, rfl, SqL.of (hg2 ((b * 48271 + 69621) % 2147483647)), at1 a _, _, _, rfl, rfl, ⟨by decide, by decide⟩, .inl ⟨_, rfl, _, _, rfl, rfl, .inr (by decide), _, _, rfl, rfl, .inl ⟨_, rfl, _, _, rfl, rfl, (by show (0 : Int) < 999983; decide), _, rfl, _, _, rfl, rfl, (by omega), ?_⟩⟩⟩
    obtain ⟨k, ek, hk⟩ := modr hn (((b * 48271 + 69621) % 2147483647 / 32 * 69997 + 30323) % 999983)
    have q := hq k (L2.upd H g (.lst ([a, (b * 48271 + 69621) % 2147483647].map V.int))) hk ⟨_, ⟨_, _, rfl⟩, (Chg.refl hg).upd⟩
    rw [← ek] at q
    exact q
end
end Sy
namespace Sy
open PySem PySem.Spec PyProof.Rows L2
/-- a word with a letter more -/
def Wq (x : Str) : Prop := x.cps.toList.length ≤ 8 ∧ ∀ c ∈ x.cps.toList, Lt c
theorem app_tl (x : Str) (c : Nat) : (x ++ (⟨#[c]⟩ : Str)).cps.toList = x.cps.toList ++ [c] := by
  show (x.cps ++ #[c]).toList = _
  simp
theorem cut7_tl (x : Str) : (cutS x none (some 7)).cps.toList = x.cps.toList.take 7 := by
  unfold cutS HT.sIx
  simp only [List.drop_zero, Nat.sub_zero]
  have hl := len_tl x
  rw [if_neg (by decide)]
  show List.take (min 7 x.length) _ = _
  by_cases h : x.length ≤ 7
  · rw [Nat.min_eq_right h, List.take_of_length_le (by omega), List.take_of_length_le (by omega)]
  · rw [Nat.min_eq_left (by omega)]
theorem str_ext {x y : Str} (h : x.cps.toList = y.cps.toList) : x = y := by
  obtain ⟨a⟩ := x
  obtain ⟨b⟩ := y
  have : a = b := by
    apply Array.ext'
    exact h
  rw [this]
/-- seven signs of a word and a letter -/
def w7 (x : Str) (i : Nat) : Str := cutS x none (some 7) ++ (⟨#[97 + i]⟩ : Str)
theorem w7_tl (x : Str) (i : Nat) : (w7 x i).cps.toList = x.cps.toList.take 7 ++ [97 + i] := by
  unfold w7
  rw [app_tl, cut7_tl]
theorem w7_wd {x : Str} (h : Wd x) {i : Nat} (hi : i < 26) : Wd (w7 x i) := by
  obtain ⟨h1, h2, h3⟩ := h
  unfold Wd
  rw [w7_tl]
  refine ⟨?_, ?_, fun c hc => ?_⟩
  · rw [List.length_append]
    show 1 ≤ _ + 1
    omega
  · rw [List.length_append, List.length_take]
    show _ + 1 ≤ 8
    omega
  · rcases List.mem_append.mp hc with hc | hc
    · exact h3 c (List.mem_of_mem_take hc)
    · rw [List.mem_singleton.mp hc]
      exact ⟨by omega, by omega⟩
theorem w7_free {x : Str} {tk : List Str} (hl : tk.length < 26) : ∃ i, i < 26 ∧ w7 x i ∉ tk := by
  refine Decidable.byContradiction fun hc => ?_
  have all : ∀ y ∈ (List.range 26).map (w7 x), y ∈ tk := fun y hy => by
    obtain ⟨i, hi, rfl⟩ := List.mem_map.mp hy
    rw [List.mem_range] at hi
    exact Decidable.byContradiction fun z => hc ⟨i, hi, z⟩
  have nd : ((List.range 26).map (w7 x)).Nodup := by
    rw [List.nodup_iff_pairwise_ne, List.pairwise_map]
    refine List.Pairwise.imp ?_ List.nodup_range
    intro i j hij e
    have := congrArg (fun s : Str => s.cps.toList) e
    simp only [w7_tl] at this
    have := List.append_cancel_left this
    simp at this
    exact hij (by omega)
  have := nodup_le nd all
  rw [List.length_map, List.length_range] at this
  omega
section
variable {P : Program} {w : World} {K : PySem.W.Frag} {mg : Str → Option Value} {base : Heap}
def spNameL (K : PySem.W.Frag) : Sp := fun vs H Q _ => ∃ (g t : Addr) (tk : List Str), vs = [.ref g, .ref t] ∧ Bag g H ∧ g ≠ t ∧ H t = some (.lst (tk.map V.str)) ∧ tk.length ≤ 20 ∧ ∀ x H', Wd x → x ∉ tk → Dr g H H' → Q (.str x) H'
abbrev N_nameL : List Str := ["_law_box_here", "_law_taken", "_law_letters_here", "_law_word", "_law_turn", "_law_letter"]
theorem sc_nameL : FnScope N_nameL ["_law_box_here", "_law_taken"] (defScope (top 52)) := ⟨rfl, rfl, rfl, by decide +kernel, rfl, by decide +kernel, by decide +kernel⟩
theorem k_nameL (T : Txt K mg) (F : DF K mg "_law_letters" 52) (c_law_pick : Cal P w K mg base 1 "_law_pick" ["_law_box_here", "_law_many"] spDraw) : Cal P w K mg base 2 "_law_letters" ["_law_box_here", "_law_taken"] (spNameL K) := by
  refine cal_of F.1 F.2 sc_nameL (fun _ _ _ _ _ _ us e => match us, e with | [_, _], _ => rfl) (fun vs H Q E s => by obtain ⟨_, _, _, rfl, _⟩ := s; rfl) ?_
  intro cdv A outer s H vs Q E hr h
  obtain ⟨g, tA, tk, rfl, hg, hne, hT, hlen, hq⟩ := h
  have sc := sc_nameL
  obtain ⟨l0, hl0, h0⟩ := hg.take
  have hT0 : (L2.del H g) tA = some (.lst (tk.map V.str)) := by rw [del_ne hne.symm]; exact hT
  refine ⟨_, (pss_cons (ps_set (i := 2) sc.nd rfl (Or.inl rfl) pe_str)
      (pss_cons (ps_set (i := 3) sc.nd rfl (Or.inl rfl) pe_str)
      (pss_cons (ps_for (passes_of rfl) rfl (pi_range1 rfl T.range (pa_cons (pe_op op_add pe_int (pe_cal c_law_pick hr (pa_cons (pv 0) (pa_cons pe_int pa_nil)))) pa_nil)) (pg_name (i := 4) sc.nd rfl (Or.inl rfl))
        (pss_one (ps_set (i := 3) sc.nd rfl (Or.inl rfl) (pe_op op_add_str (pv 3) (pe_ix ix_str (pv 2) (pe_cal c_law_pick hr (pa_cons (pv 0) (pa_cons pe_int pa_nil))) (fun _ _ => rfl))))))
      (pss_cons (ps_if (pt_cmpR op_in_seq (pv 3) (pv 1) rfl)
        (pss_one (ps_for (passes_of rfl) rfl (pi_str (pv 2)) (pg_name (i := 5) sc.nd rfl (Or.inl rfl))
          (pss_one (ps_if (pt_cmpR op_notIn_seq (pe_op op_add_str (pe_slice sl_str (pv 3) po_none (po_some pe_int)) (pv 5)) (pv 1) rfl)
            (pss_one (ps_ret (pe_op op_add_str (pe_slice sl_str (pv 3) po_none (po_some pe_int)) (pv 5))))
            pss_nil))))
        pss_nil)
      (pss_one (ps_ret (pv 3))))))), ?_⟩
  refine ⟨_, rfl, g, 8, rfl, hg, by decide, by decide, fun r H1 hr1 d1 => ?_⟩
  obtain ⟨l1, B1, hl1, s1, h1, _⟩ := h0.dr0 d1
  refine ⟨_, _, rfl, rfl, _, rfl, by omega, by omega, for_rng (n := (1 + (r : Int)).toNat)
    (fun i σ H' => ∃ (x : Str) (t4 : Option V) (B : Hp) (l : List Int), σ = [some (.ref g), some (.ref tA), some (.str abc), some (.str x), t4, none] ∧ BagOk l ∧ x.cps.toList.length = i ∧ (∀ c ∈ x.cps.toList, Lt c) ∧ Same (L2.del H g) B ∧ Hs B [(g, .lst (l.map V.int))] H')
    ⟨Str.empty, none, B1, l1, rfl, hl1, rfl, fun c hc => (nomatch hc), s1, h1⟩ ?_ ?_⟩
  · rintro i σ H2 hi ⟨x, t4, B, l, rfl, hl, hx, hlt, sB, hh⟩
    refine ⟨_, rfl, _, rfl, _, rfl, g, 26, rfl, hh.bag hl, by decide, by decide, fun c H3 hc d3 => ?_⟩
    obtain ⟨l3, B3, hl3, s3, h3, _⟩ := hh.dr0 d3
    have lx := len_tl x
    refine ⟨abc, _, 97 + c, rfl, rfl, by decide +kernel, atI_nat (abc_tl c hc), x, _, rfl, rfl, ?_, _, _, B3, l3, rfl, hl3, ?_, fun d hd => ?_, sB.trans s3, h3⟩
    · show x.length + 1 ≤ sizeLine
      rw [sizeLine_eq]
      omega
    · rw [app_tl, List.length_append, hx]
      rfl
    · rw [app_tl] at hd
      rcases List.mem_append.mp hd with hd | hd
      · exact hlt d hd
      · rw [List.mem_singleton.mp hd]
        exact ⟨by omega, by omega⟩
  · rintro σ H2 ⟨x, t4, B, l, rfl, hl, hx, hlt, sB, hh⟩
    have wx : Wd x := ⟨by omega, by omega, hlt⟩
    have lx := len_tl x
    have hT2 : H2 tA = some (.lst (tk.map V.str)) := hh.sub _ _ (sB _ _ hT0)
    refine ⟨_, rfl, _, rfl, tA, _, rfl, .inl (SqL.of hT2), rfl, all_strs tk, _, rfl, ?_⟩
    show if inV (V.str x) (tk.map V.str) = true then _ else _
    rw [inV_strs]
    refine if_dec (fun c => ?_) (fun c => ?_)
    · refine ⟨_, rfl, _, rfl, for_it walk_str (fun i σ H' => (∀ j, j < i → w7 x j ∈ tk) ∧ H' = H2 ∧ ∃ t5, σ = [some (.ref g), some (.ref tA), some (.str abc), some (.str x), t4, t5]) ⟨fun j hj => by omega, rfl, none, rfl⟩ (fun _ _ _ _ _ => trivial) ?_ ?_⟩
      · rintro i v σ _ H3 hi ⟨hj, rfl, t5, rfl⟩ ⟨rfl, c, hc, rfl⟩
        have hi26 : i < 26 := by
          have := abc_len
          exact hi
        rw [abc_at i hi26] at hc
        cases hc
        have hcut : (cutS x none (some 7)).length ≤ 7 := by rw [len_tl, cut7_tl, List.length_take]; omega
        have hsz : (cutS x none (some 7)).length + 1 ≤ sizeLine := by rw [sizeLine_eq]; omega
        have hxs : x.length ≤ sizeLine := by rw [sizeLine_eq]; omega
        refine ⟨_, rfl, _, rfl, x, rfl, hxs, _, rfl, _, _, rfl, rfl, hsz, _, rfl, tA, _, rfl, .inl (SqL.of hT2), rfl, all_strs tk, _, rfl, ?_⟩
        show if (!inV (V.str (w7 x i)) (tk.map V.str)) = true then _ else _
        rw [inV_strs]
        refine if_ndec (fun c => ?_) (fun c => ?_)
        · exact ⟨_, rfl, _, rfl, x, rfl, hxs, _, rfl, _, _, rfl, rfl, hsz, hq _ _ (w7_wd wx hi26) c ⟨l, hl, hh.isChg sB⟩⟩
        · refine ⟨fun j hj' => ?_, rfl, _, rfl⟩
          by_cases e : j = i
          · rw [e]; exact c
          · exact hj j (by omega)
      · rintro σ H3 ⟨hj, rfl, t5, rfl⟩
        obtain ⟨i, hi, hf⟩ := w7_free (x := x) (tk := tk) (by omega)
        exact absurd (hj i (by have := abc_len; exact Nat.lt_of_lt_of_eq hi this.symm)) hf
    · exact ⟨_, rfl, hq x _ wx c ⟨l, hl, hh.isChg sB⟩⟩
end
end Sy
namespace Sy
open PySem PySem.Spec PyProof.Rows L2
/-! rules that name K; a word between two statements -/
theorem pe_ixTK (K : PySem.W.Frag) {X : Cx} {a b : Expr} {ta tb : TE} {pos : Pos} (hK : X.K = K) (ha : PE X a ta) (hb : PE X b tb) (hs : PlainIx b) : PE X (.Subscript a b pos) (tOp (rIxT K) ta tb) := by
  subst hK
  exact pe_ix ix_tup ha hb hs
theorem pe_ixK (K : PySem.W.Frag) {X : Cx} {a b : Expr} {ta tb : TE} {pos : Pos} (hK : X.K = K) (ha : PE X a ta) (hb : PE X b tb) (hs : PlainIx b) : PE X (.Subscript a b pos) (tOp (rIxL K) ta tb) := by
  subst hK
  exact pe_ix ix_list ha hb hs
theorem ps_cut {X : Cx} {st : Stmt} {t : TS} (h : PS X st t) : PS X st (fun D σ H => ∃ J : L2.St → Hp → Prop, t { D with nx := J } σ H ∧ ∀ σ' H', J σ' H' → D.nx σ' H') := by
  refine ⟨fun pins s σ H D I hh => ?_⟩
  obtain ⟨J, h1, h2⟩ := hh
  refine thn (h.run pins s σ H { D with nx := J } I h1) fun f s1 q => ?_
  cases f with
  | next =>
    obtain ⟨σ', H', I', q⟩ := q
    exact ⟨σ', H', I', h2 _ _ q⟩
  | ret v => exact q
  | brk => exact q
  | cont => exact q
/-- [e for x in xs if t], xs a list that stays; nothing else is made -/
theorem lc_filt {K : PySem.W.Frag} {α : Type} {a : Addr} {xs : List α} {f out : α → V} {keep : α → Bool} {si : Nat} {tt : TT} {te : TE} {σ : L2.St} {H B : Hp} {L : List (Addr × HO)} {D : Addr} {Qd : Hp → Prop} (h : Hs B L H) (hD : H D = none)
    (ha : ∀ H' o, Hs B ((D, o) :: L) H' → H' a = some (.lst (xs.map f))) (hsz : xs.length ≤ 100000)
    (hs : ∀ x ∈ xs, ∀ H', Same B H' → ∀ (R1 : VK) (R2 : Hp → Prop), (keep x = true → R1 (out x) H') → (keep x = false → R2 H') → tt ((wipe σ [si]).set si (some (f x))) H' fun b H3 => if b = true then te ((wipe σ [si]).set si (some (f x))) H3 R1 else R2 H3)
    (hd : ∀ H', Hs B ((D, .lst ((xs.filter keep).map out)) :: L) H' → Qd H') : LcW (Itl K a) (gName si) tt te [si] σ H D Qd := by
  refine lc_it (walk_list (K := K) (a := a) (xs := xs.map f)) (fun i H' => Hs B ((D, .lst (((xs.take i).filter keep).map out)) :: L) H') (h.new hD) (fun _ _ _ z => SqL.of (ha _ _ z)) ?_ ?_
  · rintro i v _ H2 hi hh ⟨rfl, hv⟩
    obtain ⟨x, hx, rfl⟩ := map_at hv
    rw [List.length_map] at hi
    have et : xs.take (i + 1) = xs.take i ++ [x] := by rw [List.take_succ, hx]; rfl
    have hl : ((xs.take i).filter keep).length ≤ i := by
      have := List.length_filter_le keep (xs.take i)
      rw [List.length_take] at this
      omega
    refine ⟨(by show (σ.set si none |>.set si _).set si none = σ.set si none; rw [List.set_set, List.set_set]), ?_⟩
    refine hs x (List.mem_of_getElem? hx) H2 hh.sub _ _ (fun c => ?_) (fun c => ?_)
    · refine ⟨_, hh.r0, by rw [List.length_map, sizeLine_eq]; omega, ?_⟩
      rw [et, List.filter_append, List.map_append]
      have : [x].filter keep = [x] := by simp [c]
      rw [this]
      exact hh.w0
    · rw [et, List.filter_append]
      have : [x].filter keep = [] := by simp [c]
      rw [this, List.append_nil]
      exact hh
  · intro H' hh
    rw [List.length_map, List.take_length] at hh
    exact hd H' hh
/-- .. without a test -/
theorem lc_maps {K : PySem.W.Frag} {α : Type} {a : Addr} {xs : List α} {f out : α → V} {si : Nat} {te : TE} {σ : L2.St} {H B : Hp} {L : List (Addr × HO)} {D : Addr} {Qd : Hp → Prop} (h : Hs B L H) (hD : H D = none)
    (ha : ∀ H' o, Hs B ((D, o) :: L) H' → H' a = some (.lst (xs.map f))) (hsz : xs.length ≤ 100000)
    (hs : ∀ x ∈ xs, ∀ H', Same B H' → ∀ (R1 : VK), R1 (out x) H' → te ((wipe σ [si]).set si (some (f x))) H' R1)
    (hd : ∀ H', Hs B ((D, .lst (xs.map out)) :: L) H' → Qd H') : LcW (Itl K a) (gName si) tYes te [si] σ H D Qd := by
  refine lc_filt (keep := fun _ => true) (out := out) h hD ha hsz (fun x hx H' s R1 R2 k1 _ => ?_) (fun H' hh => ?_)
  · simp only [tYes, if_true]
    exact hs x hx H' s R1 (k1 rfl)
  · rw [List.filter_eq_self.mpr (fun _ _ => rfl)] at hh
    exact hd H' hh
/-- the law's rows, each with its place -/
structure RwP (K : PySem.W.Frag) (B : Hp) (pr : List (Addr × Sy.Row)) : Prop where
  at_ : ∀ z ∈ pr, SqT K B z.1 [.str z.2.1, .int (z.2.2 : Nat)]
theorem RwP.mono {K : PySem.W.Frag} {B B' : Hp} {pr : List (Addr × Sy.Row)} (h : RwP K B pr) (s : Same B B') : RwP K B' pr := ⟨fun z hz => Same.sqt s (h.at_ z hz)⟩
end Sy
namespace Sy
open PySem PySem.Spec PyProof.Rows L2
/-- the numbers of branches of a row's entries -/
def wt (rows : List Sy.Row) (l : List Str) : List Nat := l.map (ar rows)
def ens (w : List Nat) : List Nat := (List.range w.length).map (en w)
def kidsN (w : List Nat) (i : Nat) : List Nat := (List.range (aw w i)).map (kd w i)
def dKids (w : List Nat) : PyData := .tuple ((List.range w.length).map fun i => DN (kidsN w i))
section
variable {rows : List Sy.Row} {l : List Str} {i : Nat} {y : Str} {w : List Nat}
theorem wt_len (rows : List Sy.Row) (l : List Str) : (wt rows l).length = l.length := List.length_map ..
theorem wt_at (h : l[i]? = some y) : aw (wt rows l) i = ar rows y := aw_of (by rw [wt, List.getElem?_map, h]; rfl)
theorem ens_of {ss : List Nat} (hl : ss.length = w.length) (h : ∀ j, j < w.length → ss[j]? = some (en w j)) : ss = ens w := by
  apply List.ext_getElem?
  intro j
  by_cases hj : j < w.length
  · rw [h j hj, ens, List.getElem?_map, List.getElem?_range hj]
    rfl
  · rw [List.getElem?_eq_none (by omega), List.getElem?_eq_none (by rw [ens, List.length_map, List.length_range]; omega)]
theorem ens_at (h : i < w.length) : (ens w)[i]? = some (en w i) := by rw [ens, List.getElem?_map, List.getElem?_range h]; rfl
theorem ens_len (w : List Nat) : (ens w).length = w.length := by rw [ens, List.length_map, List.length_range]
theorem vN_at {ns : List Nat} {n : Nat} (h : ns[i]? = some n) : (vN ns)[i]? = some (.int (n : Int)) := by rw [vN, List.getElem?_map, h]; rfl
theorem vN_set (ns : List Nat) (i n : Nat) : (vN ns).set i (.int (n : Int)) = vN (ns.set i n) := by rw [vN, vN, List.map_set]
theorem aw_le (h : Fo 1 w) (hi : i < w.length) : aw w i ≤ w.length := by
  have a := kd_mono h hi (k := 0) (aw w i) (by omega)
  have b := h.en_le hi
  rw [Nat.zero_add, en_kd hi] at a
  omega
end
end Sy
namespace Sy
open PySem PySem.Spec PyProof.Rows L2
/-- a plant of the bed -/
structure Pln (rows : List Sy.Row) (l : List Str) : Prop where
  fo : Fo 1 (wt rows l)
  kn : ∀ x ∈ l, isK rows x = true
  le : l.length ≤ 2000
theorem fa_ok {rows : List Sy.Row} {lv : List Str} : ∀ {l : List Str} {m i : Nat}, Fo m (wt rows l) → (∀ x ∈ l, isK rows x = true) → fa rows lv m i l = -1
  | [], 0, i, _, _ => rfl
  | x :: l, m + 1, i, h, k => by
    have h : Fo (m + ar rows x) (wt rows l) := h
    rw [fa, if_neg (by omega), if_neg (fun z => by rw [k x List.mem_cons_self] at z; cases z.1)]
    exact fa_ok (m := m + 1 - 1 + ar rows x) h fun y hy => k y (List.mem_cons_of_mem _ hy)
theorem kidsN_len (w : List Nat) (i : Nat) : (kidsN w i).length = aw w i := by rw [kidsN, List.length_map, List.length_range]
theorem kidsN_at {w : List Nat} {i k : Nat} (h : k < aw w i) : (kidsN w i)[k]? = some (kd w i k) := by rw [kidsN, List.getElem?_map, List.getElem?_range h]; rfl
theorem Ra.mono {K : PySem.W.Frag} {x : Str} {fs : List (Str × V)} {H H1 : Hp} {E : XK} (h : Ra K x fs H E) (s : Same H H1) : Ra K x fs H1 E := fun d H' s' e => h d H' (s.trans s') e
section
variable {K : PySem.W.Frag} {H : Hp} {v : V} {w : List Nat} {i : Nat}
/-- kids' answer, by its places -/
theorem kids_get (h : Im K H v (dKids w)) : ∃ a ks, v = .ref a ∧ SqT K H a ks ∧ ks.length = w.length ∧ ∀ i, i < w.length → ∃ b, ks[i]? = some (.ref b) ∧ SqT K H b (vN (kidsN w i)) := by
  obtain ⟨a, ks, rfl, h1, h2⟩ := h.tupI
  refine ⟨a, ks, rfl, h1, by rw [h2.len, List.length_map, List.length_range], fun i hi => ?_⟩
  obtain ⟨z, e, iz⟩ := h2.get (i := i) (d := DN (kidsN w i)) (by rw [List.getElem?_map, List.getElem?_range hi]; rfl)
  obtain ⟨b, rfl, t⟩ := iz.natsI
  exact ⟨b, e, t⟩
end
section
variable {P : Program} {w : World} {K : PySem.W.Frag} {mg : Str → Option Value} {base : Heap}
/-! check_plant, check_stump -/
def ckr (tag : Nat → Er) (rows : List Sy.Row) (lv l : List Str) : Option Er := if 2000 < l.length then some (.many "knots" 2000) else if 0 ≤ fa rows lv 1 0 l then some (tag (fa rows lv 1 0 l).toNat) else none
abbrev ckP (rows : List Sy.Row) (l : List Str) : Option Er := ckr .plant rows [] l
theorem fa_neg {rows : List Sy.Row} {lv : List Str} : ∀ {l : List Str} {m i : Nat}, fa rows lv m i l < 0 → Fo m (wt rows l) ∧ ∀ x ∈ l, isK rows x = true ∨ x ∈ lv
  | [], m, i, h => by
    rw [fa] at h
    by_cases c : 0 < m
    · rw [if_pos c] at h; omega
    · have : m = 0 := by omega
      subst this
      exact ⟨trivial, fun _ z => (nomatch z)⟩
  | x :: l, m, i, h => by
    rw [fa] at h
    by_cases c : m = 0
    · rw [if_pos c] at h; omega
    · rw [if_neg c] at h
      by_cases d : isK rows x = false ∧ x ∉ lv
      · rw [if_pos d] at h; omega
      · rw [if_neg d] at h
        obtain ⟨h1, h2⟩ := fa_neg h
        obtain ⟨n, rfl⟩ : ∃ n, m = n + 1 := ⟨m - 1, by omega⟩
        refine ⟨h1, fun y hy => ?_⟩
        rcases List.mem_cons.mp hy with rfl | hy
        · by_cases e : isK rows y = true
          · exact .inl e
          · refine .inr (Decidable.byContradiction fun z => d ⟨by simpa using e, z⟩)
        · exact h2 y hy
theorem fa_le {rows : List Sy.Row} {lv : List Str} : ∀ {l : List Str} {m i : Nat}, fa rows lv m i l ≤ ((i + l.length : Nat) : Int)
  | [], m, i => by rw [fa]; split <;> simp <;> omega
  | x :: l, m, i => by
    rw [fa]
    split
    · simp only [List.length_cons]; omega
    · split
      · simp only [List.length_cons]; omega
      · have := fa_le (rows := rows) (lv := lv) (l := l) (m := m - 1 + ar rows x) (i := i + 1)
        simp only [List.length_cons]
        omega
theorem pln_of {rows : List Sy.Row} {l : List Str} (h : ckP rows l = none) : Pln rows l := by
  unfold ckP ckr at h
  split at h
  · cases h
  · split at h
    · cases h
    · obtain ⟨h1, h2⟩ := fa_neg (rows := rows) (lv := []) (l := l) (m := 1) (i := 0) (by omega)
      exact ⟨h1, fun x hx => (h2 x hx).elim id fun z => (nomatch z), by omega⟩
def spCheckE (K : PySem.W.Frag) (ck : List Sy.Row → List Str → Option Er) : Sp := fun vs H Q E => ∃ a r rows l, vs = [.ref a, .ref r] ∧ BedAt K H a rows ∧ SqT K H r (l.map V.str) ∧ (ck rows l = none → ∀ H', Same H H' → Q .non H') ∧ (∀ e, ck rows l = some e → RaE K e H E)
abbrev N_check : List Str := ["bed", "plant", "place"]
theorem sc_check : FnScope N_check ["bed", "plant"] (defScope (top 29)) := ⟨rfl, rfl, rfl, by decide +kernel, rfl, by decide +kernel, by decide +kernel⟩
theorem im_int {H : Hp} (i : Nat) : ImF K H [("place", V.int (i : Nat))] [("place", .int (i : Nat))] := .cons (.int _) .nil
theorem im_tm {H : Hp} : ImF K H [("limit", .int 2000), ("what", .str "knots")] (Er.many "knots" 2000).fds := .cons (.int _) (.cons (.str _) .nil)
theorem k_check (T : Txt K mg) (R : Ers P K mg) (F : DF K mg "check_plant" 29) (c_check_count : Cal P w K mg base 3 "check_count" ["number"] (spCount K)) (c_fault_among : Cal P w K mg base 2 "fault_among" ["bed", "row", "leaves"] (spFault K)) : Cal P w K mg base 4 "check_plant" ["bed", "plant"] (spCheckE K ckP) := by
  refine cal_of F.1 F.2 sc_check (fun _ _ _ _ _ _ us e => match us, e with | [_, _], _ => rfl) (fun vs H Q E s => by obtain ⟨_, _, _, _, rfl, _⟩ := s; rfl) ?_
  intro cdv A outer s H vs Q E hr h
  obtain ⟨a, r, rows, l, rfl, hb, hR, hq, hE⟩ := h
  have sc := sc_check
  refine ⟨_, (pss_cons (ps_expr (pe_calX c_check_count hr (takes_of rfl rfl rfl rfl) (pa_cons (pe_callB call_len_seq (by rfl) T.len (by decide +kernel) (pa_cons (pv 1) pa_nil)) pa_nil)))
      (pss_cons (ps_set (i := 2) sc.nd rfl (Or.inl rfl) (pe_cal c_fault_among hr (pa_cons (pv 0) (pa_cons (pv 1) (pa_cons (pe_tup pa_nil) pa_nil)))))
      (pss_one (ps_if (pt_cmpR op_ge (pv 2) pe_int (nomark _))
        (pss_one (ps_raise rfl (takes_of rfl rfl rfl rfl) (mk_ip R.ip hr rfl (pa_cons (pv 2) pa_nil) pass0)))
        pss_nil)))), ?_⟩
  refine ⟨_, rfl, r, _, rfl, .inr hR, _, rfl, fun c => ?_, fun c => (hE (.many "knots" 2000) ?_).ra im_tm⟩
  · rw [List.length_map] at c
    refine ⟨_, rfl, _, rfl, by decide, fun t ht => ?_⟩
    have s1 := up_same (o := .tup []) ht
    refine ⟨a, r, t, rows, l, [], rfl, hb.mono (Stay.of s1), Same.sqt s1 hR, SqT.of upd_same, fun H' s2 => ?_⟩
    refine ⟨_, rfl, _, _, rfl, rfl, _, rfl, if_dec (fun c2 => ?_) (fun c2 => ?_)⟩
    · have c2 : 0 ≤ fa rows [] 1 0 l := c2
      have hle := fa_le (rows := rows) (lv := []) (l := l) (m := 1) (i := 0)
      obtain ⟨n, en⟩ : ∃ n : Nat, fa rows [] 1 0 l = (n : Nat) := ⟨(fa rows [] 1 0 l).toNat, by omega⟩
      rw [en] at hle ⊢
      refine ⟨_, rfl, mk_ra (fun _ _ => ⟨n, rfl, by omega, rfl⟩) (by show 1 ≤ 1000; decide) (((hE (.plant n) ?_).ra (im_int n)).mono (s1.trans s2))⟩
      unfold ckP ckr
      rw [if_neg (by omega), en, if_pos (by omega)]
      rfl
    · have c2 : ¬ 0 ≤ fa rows [] 1 0 l := c2
      refine hq ?_ _ (s1.trans s2)
      unfold ckP ckr
      rw [if_neg (by omega), if_neg c2]
  · rw [List.length_map] at c
    unfold ckP ckr
    rw [if_pos (by omega)]
end
end Sy
/-! zip of two tuples, its pairs kept whole (own rule) -/
namespace Sy
open PySem PySem.Spec PyProof.Rows L2 RZ
abbrev ZipO (h : Heap) (z TI TO : Addr) (f0 : Value) (f : Bool) : Prop :=
  h.get? z = some { cls := .type "zip", dict := none, data := .fields #[f0, .bool f, .bool false, .ref TI, .ref TO], slots := #[] }
section
variable {prog : Program} {w : World} {A : Around} {E : Value → Shared → Prop} {s : Shared}
theorem zip_free {z TI TO : Addr} {f0 : Value} {f : Bool} {Q : Bool → Shared → Prop} (hz : ZipO s.heap z TI TO f0 f) (h0 : f0 = .none ∨ ∃ T : Addr, f0 = rawInt (T : Nat)) (ht : Q true s)
    (hf : ∀ h', ZipO h' z TI TO f0 true → Heap.SameBut z s.heap h' → Q false { s with heap := h' }) : wpAny (model prog w) A (Builtin.SmallTypes.ownedTupleIsFree (.ref z)) Q E s := by
  unfold Builtin.SmallTypes.ownedTupleIsFree
  rcases h0 with rfl | ⟨T, rfl⟩
  · exact wpAny_bind (wpAny_field hz rfl (x := .none) rfl (wpAny_pure ht))
  · refine wpAny_bind (wpAny_field hz rfl (x := rawInt (T : Nat)) rfl ?_)
    show wpAny _ _ (loadIfAlive ((T : Int).toNat) >>= _) _ _ _
    rw [Int.toNat_natCast]
    have alive : ∀ (Q' : Option Obj → Shared → Prop), Q' (s.heap.get? T) s → wpAny (model prog w) A (loadIfAlive T) Q' E s := fun Q' h' => fun _ _ _ => h'
    refine wpAny_bind (alive _ ?_)
    cases s.heap.get? T with
    | none => exact wpAny_pure ht
    | some o =>
      simp only [Option.isNone_some, Bool.false_eq_true, if_false]
      refine wpAny_bind (wpAny_field hz rfl (x := .bool f) rfl ?_)
      cases f with
      | true =>
        rw [if_neg (show ¬ ((Value.bool true != Value.bool true) = true) from Bool.false_ne_true)]
        exact wpAny_pure (hf s.heap hz (Heap.SameBut.refl _ _))
      | false =>
        rw [if_pos (show (Value.bool false != Value.bool true) = true from rfl)]
        refine wpAny_bind (wpAny_setField_rec hz (by simp) fun h₃ he₃ hs₃ => ?_)
        exact wpAny_pure (hf h₃ he₃ hs₃)
theorem zipN_next_item {z TI TO i1 i2 l1 l2 : Addr} {k1 k2 : Nat} {xs ys : Array Value} {x y a b f0 : Value} {f : Bool} {Q : Value → Shared → Prop} (D : ZipApart z TI TO i1 i2 l1 l2)
    (hz : ZipO s.heap z TI TO f0 f) (h0 : f0 = .none ∨ ∃ T : Addr, f0 = rawInt (T : Nat)) (hTI : IsPair s.heap TI (.ref i1) (.ref i2)) (hTO : IsPair s.heap TO a b)
    (h1 : s.heap.IsTupleIter i1 l1 k1) (h2 : s.heap.IsTupleIter i2 l2 k2) (hl1 : s.heap.IsTuple l1 xs) (hl2 : s.heap.IsTuple l2 ys) (hx : xs[k1]? = some x) (hy : ys[k2]? = some y)
    (hQ : ∀ h' f0' f', ZipO h' z TI TO f0' f' → (f0' = .none ∨ ∃ T : Addr, f0' = rawInt (T : Nat)) → (∃ a b, IsPair h' TO a b) → h'.IsTupleIter i1 l1 (k1 + 1) → h'.IsTupleIter i2 l2 (k2 + 1) → IsPair h' s.heap.objs.size x y → h'.objs.size = s.heap.objs.size + 1 →
      (∀ c o, c ≠ z → c ≠ TO → c ≠ i1 → c ≠ i2 → s.heap.get? c = some o → h'.get? c = some o) → Q (.ref s.heap.objs.size) { s with heap := h' }) :
    wpAny (model prog w) A (Builtin.«zip.__next__» ⟨[.ref z], []⟩) (fun fin s' => ∃ v, fin = .done (.ret v) ∧ Q v s') E s := by
  show wpAny _ _ (field (.ref z) 2 >>= _) _ _ _
  refine wpAny_bind (wpAny_field hz rfl (x := .bool false) rfl ?_)
  show wpAny _ _ (field (.ref z) 3 >>= _) _ _ _
  refine wpAny_bind (wpAny_field hz rfl (x := .ref TI) rfl ?_)
  refine wpAny_bind (wpAny_seqItems hTI rfl ?_)
  show wpAny _ _ (Builtin.SmallTypes.ownedTupleIsFree (.ref z) >>= _) _ _ _
  refine wpAny_bind (zip_free hz h0 ?_ fun h₀ hz₀ hs₀ => ?_)
  · simp only [if_true]
    refine wpAny_bind (wpAny_rule ?_)
    refine wpAny_bind (wpAny_field hz rfl (x := .ref TO) rfl ?_)
    refine wpAny_bind (wpAny_setField_rec hz (by simp) fun h₁ hz₁ hs₁ => ?_)
    replace hz₁ : ZipO h₁ z TI TO .ellipsis f := hz₁
    refine wpAny_bind ?_
    simp only [List.zipIdx_cons, List.zipIdx_nil, List.forIn_cons, List.forIn_nil]
    refine wpAny_bind (wpAny_bind (wpAny_onRaise ?_))
    show wpAny _ _ (Builtin.SmallTypes.nextOf (.ref i1) >>= _) _ _ _
    refine wpAny_bind (nextOf_tuple_item (h1.extBut hs₁.extBut D.i1z) (hl1.extBut hs₁.extBut D.l1z) hx fun h₂ h1₂ hs₂ => wpAny_pure ?_)
    have hTO₂ : IsPair h₂ TO a b := hs₂.extBut _ _ D.TOi1 (hs₁.extBut _ _ D.TOz hTO)
    refine wpAny_bind (wpAny_seqItems hTO₂ rfl ?_)
    refine wpAny_bind (wpAny_updateSeq_pair hTO₂ fun h₃ hTO₃ hs₃ => ?_)
    replace hTO₃ : IsPair h₃ TO x b := hTO₃
    refine wpAny_bind (wpAny_letGo (wpAny_pure ?_))
    refine wpAny_bind (wpAny_bind (wpAny_onRaise ?_))
    show wpAny _ _ (Builtin.SmallTypes.nextOf (.ref i2) >>= _) _ _ _
    refine wpAny_bind (nextOf_tuple_item (((h2.extBut hs₁.extBut D.i2z).extBut hs₂.extBut D.i12.symm).extBut hs₃.extBut D.TOi2.symm)
      (((hl2.extBut hs₁.extBut D.l2z).extBut hs₂.extBut D.l2i1).extBut hs₃.extBut D.l2TO) hy fun h₄ h2₄ hs₄ => wpAny_pure ?_)
    have hTO₄ : IsPair h₄ TO x b := hs₄.extBut _ _ D.TOi2 hTO₃
    refine wpAny_bind (wpAny_seqItems hTO₄ rfl ?_)
    refine wpAny_bind (wpAny_updateSeq_pair hTO₄ fun h₅ hTO₅ hs₅ => ?_)
    replace hTO₅ : IsPair h₅ TO x y := hTO₅
    refine wpAny_bind (wpAny_letGo (wpAny_pure (wpAny_pure ?_)))
    refine wpAny_bind (wpAny_seqItems hTO₅ rfl ?_)
    refine wpAny_bind (wpAny_newTuple ?_)
    have hsz : h₅.objs.size = s.heap.objs.size := by rw [hs₅.1, hs₄.1, hs₃.1, hs₂.1, hs₁.1]
    have hz₅ : ZipO h₅ z TI TO .ellipsis f := hs₅.extBut _ _ D.TOz.symm (hs₄.extBut _ _ D.i2z.symm (hs₃.extBut _ _ D.TOz.symm (hs₂.extBut _ _ D.i1z.symm hz₁)))
    have hk₅ : ∀ c o, c ≠ z → c ≠ TO → c ≠ i1 → c ≠ i2 → s.heap.get? c = some o → h₅.get? c = some o := fun c o c1 c2 c3 c4 e =>
      hs₅.extBut _ _ c2 (hs₄.extBut _ _ c4 (hs₃.extBut _ _ c2 (hs₂.extBut _ _ c3 (hs₁.extBut _ _ c1 e))))
    have h1₅ : h₅.IsTupleIter i1 l1 (k1 + 1) := ((h1₂.extBut hs₃.extBut D.TOi1.symm).extBut hs₄.extBut D.i12).extBut hs₅.extBut D.TOi1.symm
    have h2₅ : h₅.IsTupleIter i2 l2 (k2 + 1) := h2₄.extBut hs₅.extBut D.TOi2.symm
    have hzlt : z < h₅.objs.size := Heap.lt_size hz₅
    show wpAny _ _ (Builtin.SmallTypes.ownedTupleHandOut (.ref z) (.ref h₅.objs.size) >>= _) _ _ _
    refine wpAny_bind ?_
    unfold Builtin.SmallTypes.ownedTupleHandOut
    have hz₆ : ZipO (h₅.push { cls := .type "tuple", data := .seq #[x, y] }) z TI TO .ellipsis f := Heap.get?_push_of_some _ hz₅
    refine wpAny_bind (wpAny_setField_rec hz₆ (by simp) fun h₇ hz₇ hs₇ => ?_)
    replace hz₇ : ZipO h₇ z TI TO (rawInt h₅.objs.size) f := hz₇
    refine wpAny_setField_rec hz₇ (by simp) fun h₈ hz₈ hs₈ => ?_
    replace hz₈ : ZipO h₈ z TI TO (rawInt h₅.objs.size) false := hz₈
    have up : ∀ c o, c ≠ z → h₅.get? c = some o → h₈.get? c = some o := fun c o c1 e => hs₈.extBut _ _ c1 (hs₇.extBut _ _ c1 (Heap.get?_push_of_some _ e))
    have hT₈ : IsPair h₈ h₅.objs.size x y := hs₈.extBut _ _ (Nat.ne_of_gt hzlt) (hs₇.extBut _ _ (Nat.ne_of_gt hzlt) (Heap.get?_push_size _ rfl))
    have hz8 : h₈.objs.size = h₅.objs.size + 1 := by rw [hs₈.1, hs₇.1, Heap.size_push]
    rw [hsz] at hz₈ hT₈ hz8
    refine wpAny_pure ⟨_, rfl, ?_⟩
    show Q (.ref h₅.objs.size) _
    rw [hsz]
    exact hQ h₈ _ _ hz₈ (.inr ⟨_, rfl⟩) ⟨_, _, up _ _ D.TOz hTO₅⟩ (h1₅.at fun o e => up _ o D.i1z e) (h2₅.at fun o e => up _ o D.i2z e) hT₈ hz8 fun c o c1 c2 c3 c4 e => up c o c1 (hk₅ c o c1 c2 c3 c4 e)
  · simp only [Bool.false_eq_true, if_false]
    refine wpAny_bind ?_
    rw [← Array.forIn_toList]
    simp only [List.forIn_cons, List.forIn_nil]
    refine wpAny_bind (wpAny_bind (wpAny_holding ?_))
    show wpAny _ _ (Builtin.SmallTypes.nextOf (.ref i1) >>= _) _ _ _
    refine wpAny_bind (nextOf_tuple_item (h1.extBut hs₀.extBut D.i1z) (hl1.extBut hs₀.extBut D.l1z) hx fun h₂ h1₂ hs₂ => wpAny_pure ?_)
    refine wpAny_pure ?_
    refine wpAny_bind (wpAny_bind (wpAny_holding ?_))
    show wpAny _ _ (Builtin.SmallTypes.nextOf (.ref i2) >>= _) _ _ _
    refine wpAny_bind (nextOf_tuple_item ((h2.extBut hs₀.extBut D.i2z).extBut hs₂.extBut D.i12.symm) ((hl2.extBut hs₀.extBut D.l2z).extBut hs₂.extBut D.l2i1) hy fun h₄ h2₄ hs₄ => wpAny_pure ?_)
    refine wpAny_pure (wpAny_pure ?_)
    refine wpAny_bind (wpAny_newTuple ?_ (by show 2 ≤ sizeLine; decide))
    have hsz : h₄.objs.size = s.heap.objs.size := by rw [hs₄.1, hs₂.1, hs₀.1]
    have hz₄ : ZipO h₄ z TI TO f0 true := hs₄.extBut _ _ D.i2z.symm (hs₂.extBut _ _ D.i1z.symm hz₀)
    have hk₄ : ∀ c o, c ≠ z → c ≠ i1 → c ≠ i2 → s.heap.get? c = some o → h₄.get? c = some o := fun c o c1 c3 c4 e => hs₄.extBut _ _ c4 (hs₂.extBut _ _ c3 (hs₀.extBut _ _ c1 e))
    have h1₄ : h₄.IsTupleIter i1 l1 (k1 + 1) := h1₂.extBut hs₄.extBut D.i12
    have pu : ∀ c o, h₄.get? c = some o → (h₄.push { cls := .type "tuple", data := .seq #[x, y] }).get? c = some o := fun c o e => Heap.get?_push_of_some _ e
    refine wpAny_pure ⟨_, rfl, ?_⟩
    show Q (.ref h₄.objs.size) _
    have hT : IsPair (h₄.push { cls := .type "tuple", data := .seq #[x, y] }) h₄.objs.size x y := Heap.get?_push_size _ rfl
    have hz8 : (h₄.push { cls := .type "tuple", data := .seq #[x, y] }).objs.size = h₄.objs.size + 1 := Heap.size_push ..
    rw [hsz] at hT hz8 ⊢
    exact hQ _ _ _ (pu _ _ hz₄) h0 ⟨_, _, pu _ _ (hk₄ _ _ D.TOz D.TOi1 D.TOi2 hTO)⟩ (h1₄.at fun o e => pu _ o e) (h2₄.at fun o e => pu _ o e) hT hz8 fun c o c1 c2 c3 c4 e => pu c o (hk₄ c o c1 c3 c4 e)
theorem zipN_next_end {z TI TO i1 i2 l1 l2 : Addr} {k1 k2 : Nat} {xs ys : Array Value} {a b f0 : Value} {f : Bool} {Q : Fin → Shared → Prop} (hh : A.handled = none) (D : ZipApart z TI TO i1 i2 l1 l2)
    (hz : ZipO s.heap z TI TO f0 f) (h0 : f0 = .none ∨ ∃ T : Addr, f0 = rawInt (T : Nat)) (hTI : IsPair s.heap TI (.ref i1) (.ref i2)) (hTO : IsPair s.heap TO a b)
    (h1 : s.heap.IsTupleIter i1 l1 k1) (h2 : s.heap.IsTupleIter i2 l2 k2) (hl1 : s.heap.IsTuple l1 xs) (hl2 : s.heap.IsTuple l2 ys) (hend : xs[k1]? = none ∨ ys[k2]? = none)
    (hE : ∀ h' e, (∀ c o, c ≠ z → c ≠ TO → c ≠ i1 → c ≠ i2 → s.heap.get? c = some o → h'.get? c = some o) → (∃ o, h'.get? e = some o ∧ o.cls = .type "StopIteration") → E (.ref e) { s with heap := h' }) :
    wpAny (model prog w) A (Builtin.«zip.__next__» ⟨[.ref z], []⟩) Q E s := by
  show wpAny _ _ (field (.ref z) 2 >>= _) _ _ _
  refine wpAny_bind (wpAny_field hz rfl (x := .bool false) rfl ?_)
  show wpAny _ _ (field (.ref z) 3 >>= _) _ _ _
  refine wpAny_bind (wpAny_field hz rfl (x := .ref TI) rfl ?_)
  refine wpAny_bind (wpAny_seqItems hTI rfl ?_)
  show wpAny _ _ (Builtin.SmallTypes.ownedTupleIsFree (.ref z) >>= _) _ _ _
  refine wpAny_bind (zip_free hz h0 ?_ fun h₀ hz₀ hs₀ => ?_)
  · simp only [if_true]
    refine wpAny_bind (wpAny_rule ?_)
    refine wpAny_bind (wpAny_field hz rfl (x := .ref TO) rfl ?_)
    refine wpAny_bind (wpAny_setField_rec hz (by simp) fun h₁ hz₁ hs₁ => ?_)
    replace hz₁ : ZipO h₁ z TI TO .ellipsis f := hz₁
    refine wpAny_bind ?_
    simp only [List.zipIdx_cons, List.zipIdx_nil, List.forIn_cons, List.forIn_nil]
    refine wpAny_bind (wpAny_bind (wpAny_onRaise ?_))
    show wpAny _ _ (Builtin.SmallTypes.nextOf (.ref i1) >>= _) _ _ _
    cases hx : xs[k1]? with
    | none =>
      refine wpAny_bind (nextOf_tuple_end hh (h1.extBut hs₁.extBut D.i1z) (hl1.extBut hs₁.extBut D.l1z) hx fun h₂ e hs₂ he => ?_)
      obtain ⟨oe, hoe, hce⟩ := he
      have hz₂ : ZipO h₂ z TI TO .ellipsis f := hs₂ _ _ D.i1z.symm hz₁
      have hez : e ≠ z := fun x => by subst x; rw [hz₂] at hoe; cases hoe; simp at hce
      refine wpAny_setField_rec hz₂ (by simp) fun h₃ _ hs₃ => hE h₃ e (fun c o c1 _ c3 _ x => hs₃.extBut _ _ c1 (hs₂ _ _ c3 (hs₁.extBut _ _ c1 x))) ⟨oe, hs₃.extBut _ _ hez hoe, hce⟩
    | some x =>
      have hy : ys[k2]? = none := by rcases hend with h | h; rw [hx] at h; cases h; exact h
      refine wpAny_bind (nextOf_tuple_item (h1.extBut hs₁.extBut D.i1z) (hl1.extBut hs₁.extBut D.l1z) hx fun h₂ h1₂ hs₂ => wpAny_pure ?_)
      have hTO₂ : IsPair h₂ TO a b := hs₂.extBut _ _ D.TOi1 (hs₁.extBut _ _ D.TOz hTO)
      refine wpAny_bind (wpAny_seqItems hTO₂ rfl ?_)
      refine wpAny_bind (wpAny_updateSeq_pair hTO₂ fun h₃ hTO₃ hs₃ => ?_)
      refine wpAny_bind (wpAny_letGo (wpAny_pure ?_))
      refine wpAny_bind (wpAny_bind (wpAny_onRaise ?_))
      show wpAny _ _ (Builtin.SmallTypes.nextOf (.ref i2) >>= _) _ _ _
      refine wpAny_bind (nextOf_tuple_end hh (((h2.extBut hs₁.extBut D.i2z).extBut hs₂.extBut D.i12.symm).extBut hs₃.extBut D.TOi2.symm)
        (((hl2.extBut hs₁.extBut D.l2z).extBut hs₂.extBut D.l2i1).extBut hs₃.extBut D.l2TO) hy fun h₄ e hs₄ he => ?_)
      obtain ⟨oe, hoe, hce⟩ := he
      have hz₄ : ZipO h₄ z TI TO .ellipsis f := hs₄ _ _ D.i2z.symm (hs₃.extBut _ _ D.TOz.symm (hs₂.extBut _ _ D.i1z.symm hz₁))
      have hez : e ≠ z := fun x => by subst x; rw [hz₄] at hoe; cases hoe; simp at hce
      refine wpAny_setField_rec hz₄ (by simp) fun h₅ _ hs₅ => hE h₅ e (fun c o c1 c2 c3 c4 x => hs₅.extBut _ _ c1 (hs₄ _ _ c4 (hs₃.extBut _ _ c2 (hs₂.extBut _ _ c3 (hs₁.extBut _ _ c1 x))))) ⟨oe, hs₅.extBut _ _ hez hoe, hce⟩
  · simp only [Bool.false_eq_true, if_false]
    refine wpAny_bind ?_
    rw [← Array.forIn_toList]
    simp only [List.forIn_cons, List.forIn_nil]
    refine wpAny_bind (wpAny_bind (wpAny_holding ?_))
    show wpAny _ _ (Builtin.SmallTypes.nextOf (.ref i1) >>= _) _ _ _
    cases hx : xs[k1]? with
    | none =>
      exact wpAny_bind (nextOf_tuple_end hh (h1.extBut hs₀.extBut D.i1z) (hl1.extBut hs₀.extBut D.l1z) hx fun h₂ e hs₂ he => hE h₂ e (fun c o c1 _ c3 _ x => hs₂ _ _ c3 (hs₀.extBut _ _ c1 x)) he)
    | some x =>
      have hy : ys[k2]? = none := by rcases hend with h | h; rw [hx] at h; cases h; exact h
      refine wpAny_bind (nextOf_tuple_item (h1.extBut hs₀.extBut D.i1z) (hl1.extBut hs₀.extBut D.l1z) hx fun h₂ h1₂ hs₂ => wpAny_pure ?_)
      refine wpAny_pure ?_
      refine wpAny_bind (wpAny_bind (wpAny_holding ?_))
      show wpAny _ _ (Builtin.SmallTypes.nextOf (.ref i2) >>= _) _ _ _
      exact wpAny_bind (nextOf_tuple_end hh ((h2.extBut hs₀.extBut D.i2z).extBut hs₂.extBut D.i12.symm) ((hl2.extBut hs₀.extBut D.l2z).extBut hs₂.extBut D.l2i1) hy fun h₄ e hs₄ he =>
        hE h₄ e (fun c o c1 _ c3 c4 x => hs₄ _ _ c4 (hs₂.extBut _ _ c3 (hs₀.extBut _ _ c1 x))) he)
theorem pyNext_zipN_item {z TI TO i1 i2 l1 l2 : Addr} {k1 k2 : Nat} {xs ys : Array Value} {x y a b f0 : Value} {f : Bool} {Q : Option Value → Shared → Prop} (D : ZipApart z TI TO i1 i2 l1 l2)
    (hz : ZipO s.heap z TI TO f0 f) (h0 : f0 = .none ∨ ∃ T : Addr, f0 = rawInt (T : Nat)) (hTI : IsPair s.heap TI (.ref i1) (.ref i2)) (hTO : IsPair s.heap TO a b)
    (h1 : s.heap.IsTupleIter i1 l1 k1) (h2 : s.heap.IsTupleIter i2 l2 k2) (hl1 : s.heap.IsTuple l1 xs) (hl2 : s.heap.IsTuple l2 ys) (hx : xs[k1]? = some x) (hy : ys[k2]? = some y)
    (hQ : ∀ h' f0' f', ZipO h' z TI TO f0' f' → (f0' = .none ∨ ∃ T : Addr, f0' = rawInt (T : Nat)) → (∃ a b, IsPair h' TO a b) → h'.IsTupleIter i1 l1 (k1 + 1) → h'.IsTupleIter i2 l2 (k2 + 1) → IsPair h' s.heap.objs.size x y → h'.objs.size = s.heap.objs.size + 1 →
      (∀ c o, c ≠ z → c ≠ TO → c ≠ i1 → c ≠ i2 → s.heap.get? c = some o → h'.get? c = some o) → Q (some (.ref s.heap.objs.size)) { s with heap := h' }) :
    wpAny (model prog w) A (pyNext (.ref z)) Q E s := by
  have hT : s.TypeIs (.ref z) "zip" := ⟨_, hz, rfl⟩
  unfold pyNext
  exact wpAny_bind (wpAny_attempt (wpAny_callSpecial?_slot (name := Str.ofString "__next__") hT F.slot_zip_next
    (wpAny_call_entry F.slot_zip_next hT F.entry_zip_next
      (zipN_next_item D hz h0 hTI hTO h1 h2 hl1 hl2 hx hy fun h' f0' f' a1 a0 a2 a3 a4 a5 a6 a7 => wpAny_pure (hQ h' f0' f' a1 a0 a2 a3 a4 a5 a6 a7)) (F.args_zip_next_1 _))))
theorem pyNext_zipN_end {z TI TO i1 i2 l1 l2 : Addr} {k1 k2 : Nat} {xs ys : Array Value} {a b f0 : Value} {f : Bool} {Q : Option Value → Shared → Prop} (hh : A.handled = none) (D : ZipApart z TI TO i1 i2 l1 l2)
    (hz : ZipO s.heap z TI TO f0 f) (h0 : f0 = .none ∨ ∃ T : Addr, f0 = rawInt (T : Nat)) (hTI : IsPair s.heap TI (.ref i1) (.ref i2)) (hTO : IsPair s.heap TO a b)
    (h1 : s.heap.IsTupleIter i1 l1 k1) (h2 : s.heap.IsTupleIter i2 l2 k2) (hl1 : s.heap.IsTuple l1 xs) (hl2 : s.heap.IsTuple l2 ys) (hend : xs[k1]? = none ∨ ys[k2]? = none)
    (hQ : ∀ h', (∀ c o, c ≠ z → c ≠ TO → c ≠ i1 → c ≠ i2 → s.heap.get? c = some o → h'.get? c = some o) → Q none { s with heap := h' }) : wpAny (model prog w) A (pyNext (.ref z)) Q E s := by
  have hT : s.TypeIs (.ref z) "zip" := ⟨_, hz, rfl⟩
  unfold pyNext
  refine wpAny_bind (wpAny_attempt (wpAny_callSpecial?_slot (name := Str.ofString "__next__") hT F.slot_zip_next
    (wpAny_call_entry F.slot_zip_next hT F.entry_zip_next (zipN_next_end hh D hz h0 hTI hTO h1 h2 hl1 hl2 hend fun h' e hk he => ?_) (F.args_zip_next_1 _))))
  obtain ⟨o, ho, hc⟩ := he
  refine wpAny_bind (wpAny_isInstance (T := "StopIteration") (b := true) ⟨o, ho, hc⟩ isSubtype_stop ?_)
  exact wpAny_pure (hQ _ hk)
end
theorem turn_zipN {P : Program} {w : World} {K : PySem.W.Frag} {x : Str} {tpos : Pos} {a b z TI TO i1 i2 : Addr} (D : ZipApart z TI TO i1 i2 a b) :
    Turn P w K (.Name x tpos) (ItzT K a b) [z, TI, TO, i1, i2] z (fun i h => (∃ f0 f, ZipO h z TI TO f0 f ∧ (f0 = .none ∨ ∃ T : Addr, f0 = rawInt (T : Nat))) ∧ IsPair h TI (.ref i1) (.ref i2) ∧ (∃ x y, IsPair h TO x y) ∧ h.IsTupleIter i1 a i ∧ h.IsTupleIter i2 b i) where
  mem := by simp
  obj := fun i h st c hc => by
    obtain ⟨⟨f0, f, hz, _⟩, hTI, ⟨x, y, hTO⟩, ⟨o1, e1, _, d1⟩, ⟨o2, e2, _, d2⟩⟩ := st
    have e' : c = z ∨ c = TI ∨ c = TO ∨ c = i1 ∨ c = i2 := by simpa using hc
    rcases e' with q | q | q | q | q
    · rw [q]; exact ⟨_, hz, fun v q => nomatch q⟩
    · rw [q]; exact ⟨_, hTI, fun v q => nomatch q⟩
    · rw [q]; exact ⟨_, hTO, fun v q => nomatch q⟩
    · rw [q]; exact ⟨o1, e1, fun v q => by rw [d1] at q; cases q⟩
    · rw [q]; exact ⟨o2, e2, fun v q => by rw [d2] at q; cases q⟩
  keep := fun i h h' st k => by
    obtain ⟨⟨f0, f, hz, h0⟩, hTI, ⟨x, y, hTO⟩, h1, h2⟩ := st
    exact ⟨⟨f0, f, k z (by simp) _ hz, h0⟩, k TI (by simp) _ hTI, ⟨x, y, k TO (by simp) _ hTO⟩, h1.at fun o q => k i1 (by simp) o q, h2.at fun o q => k i2 (by simp) o q⟩
  item := by
    intro X hP hw hK hc i pins s σ H E I hf st hg
    subst hP hw hK
    obtain ⟨⟨f0, f, hz, h0⟩, hTI, ⟨x0, y0, hTO⟩, h1, h2⟩ := st
    obtain ⟨xs, ys, x, y, hqx, hqy, hx, hy⟩ := hg
    obtain ⟨its, rv, p, _⟩ := I.tuple hqx
    obtain ⟨its2, rv2, p2, _⟩ := I.tuple hqy
    obtain ⟨u, hu, ru⟩ := rv.get hx
    obtain ⟨u2, hu2, ru2⟩ := rv2.get hy
    have hzl : z < s.heap.objs.size := Heap.lt_size hz
    refine pyNext_zipN_item D hz h0 hTI hTO h1 h2 p p2 (x := u) (y := u2) (by simpa using hu) (by simpa using hu2) fun h' f0' f' z' h0' TO' h1' h2' hT hsz hk => ?_
    refine ⟨_, rfl, ?_⟩
    show wpAny _ _ (pure ()) _ _ _
    refine wpAny_pure ?_
    have new : ObjOk X.prog X.w (upd H s.heap.objs.size (.tup [x, y])) h' s.heap.objs.size (.tup [x, y]) :=
      ⟨by show 2 ≤ sizeLine; decide, [u, u2], .cons ru (.cons ru2 .nil), ⟨_, hT, rfl, _, rfl⟩⟩
    have I1 : Inv X pins σ (upd H s.heap.objs.size (.tup [x, y])) { s with heap := h' } :=
      I.turnedNew (t' := s.toks) (ch := [z, TI, TO, i1, i2]) (fun c o hb q => hk c o (fun q' => hb (by simp [q'])) (fun q' => hb (by simp [q'])) (fun q' => hb (by simp [q'])) (fun q' => hb (by simp [q'])) q) hf (Nat.le_refl _) new
    refine ⟨.ref s.heap.objs.size, _, I1, rfl, ⟨_, x, y, rfl, I.hok.fresh (Nat.le_refl _), rfl, fun l hl => by rw [I.tuple_inj hl hqx]; exact hx, fun l hl => by rw [I.tuple_inj hl hqy]; exact hy⟩, ⟨⟨f0', f', z', h0'⟩, ?_, TO', h1', h2'⟩, fun c hcm => ?_⟩
    · exact hk _ _ D.TIz D.TITO D.TIi1 D.TIi2 hTI
    · have hlt : c < s.heap.objs.size := by
        have e' : c = z ∨ c = TI ∨ c = TO ∨ c = i1 ∨ c = i2 := by simpa using hcm
        rcases e' with q | q | q | q | q
        · rw [q]; exact hzl
        · rw [q]; exact Heap.lt_size hTI
        · rw [q]; exact Heap.lt_size hTO
        · rw [q]; obtain ⟨_, e1, _⟩ := h1; exact Heap.lt_size e1
        · rw [q]; obtain ⟨_, e2, _⟩ := h2; exact Heap.lt_size e2
      rw [upd_ne (Nat.ne_of_lt hlt)]
      exact (hf c hcm).1
  done := by
    intro X hP hw hK hc i pins s σ H E I hf st hg
    subst hP hw hK
    obtain ⟨⟨f0, f, hz, h0⟩, hTI, ⟨x0, y0, hTO⟩, h1, h2⟩ := st
    obtain ⟨xs, ys, hqx, hqy, hend⟩ := hg
    obtain ⟨its, rv, p, _⟩ := I.tuple hqx
    obtain ⟨its2, rv2, p2, _⟩ := I.tuple hqy
    have l1 := rv.length
    have l2 := rv2.length
    have he : its.toArray[i]? = none ∨ its2.toArray[i]? = none := by
      rcases hend with q | q
      · exact .inl (by simp; omega)
      · exact .inr (by simp; omega)
    exact pyNext_zipN_end (I.ok.hd hc) D hz h0 hTI hTO h1 h2 p p2 he fun h' hk => ⟨rfl, I.turnedL (t' := s.toks) (ch := [z, TI, TO, i1, i2]) (fun c o hb q =>
      hk c o (fun q' => hb (by simp [q'])) (fun q' => hb (by simp [q'])) (fun q' => hb (by simp [q'])) (fun q' => hb (by simp [q'])) q) hf⟩
  self := fun A i s Q E st h => by
    obtain ⟨⟨f0, f, hz, _⟩, _⟩ := st
    have hT : s.TypeIs (.ref z) "zip" := ⟨_, hz, rfl⟩
    refine wpAny_pyIter_slot hT F.slot_zip_iter (wpAny_call_entry F.slot_zip_iter hT F.entry_zip_iter ?_ (F.args_zip_iter_1 _))
    show wpAny _ _ (ret (.ref z)) _ _ s
    exact wpAny_pure ⟨_, rfl, "zip", _, hT, F.slot_zip_next.lookup, h⟩
def iZipN (K : PySem.W.Frag) (ta : TA) : TI := fun σ H R => ta σ H fun vs H1 => ∃ a b xs ys, vs = [.ref a, .ref b] ∧ SqT K H1 a xs ∧ SqT K H1 b ys ∧ R (ItzT K a b) H1
/-- for x in zip(t, u): the pair itself -/
theorem pi_zipN {X : Cx} {e e2 : Expr} {ta : TA} {x : Str} {p pos tpos : Pos} (hg : Gl X "zip") (hm : X.mg "zip" = none) (ha : PA X [e, e2] ta)
    (hs : starEach [e, e2] X.env = (false, eval e X.env) :: starEach [e2] X.env := by rfl) (hpl : (backTo pos (starEach [e2] X.env)).any (·.1) = false := by rfl) :
    PI X (.Name x tpos) (.Call (.Name "zip" p) [e, e2] [] pos) (iZipN X.K ta) := by
  refine ⟨fun pins s σ H R I h => ?_⟩
  refine Call_ (ld_blt I hg hm PyProof.Rows.boot_zip (PyProof.Rows.callWith_type1 (thn (ha.run pos pins s σ H _ I h) fun us s1 ⟨vs, H1, I1, r1, q1⟩ => ?_) hs hpl))
  obtain ⟨a, b, xs, ys, ex, hqx, hqy, q⟩ := q1
  subst ex
  cases r1 with
  | cons r rr =>
    cases rr with
    | cons r' rr =>
      cases rr
      cases r
      cases r'
      have fresh5 : ∀ c, c ∈ [s1.heap.objs.size + 4, s1.heap.objs.size + 2, s1.heap.objs.size + 3, s1.heap.objs.size, s1.heap.objs.size + 1] → FpOk X pins H1 c := fun c hcm => by
        have e' : c = s1.heap.objs.size + 4 ∨ c = s1.heap.objs.size + 2 ∨ c = s1.heap.objs.size + 3 ∨ c = s1.heap.objs.size ∨ c = s1.heap.objs.size + 1 := by simpa using hcm
        have hle : s1.heap.objs.size ≤ c := by
          rcases e' with z | z | z | z | z
          · rw [z]; exact Nat.le_add_right _ _
          · rw [z]; exact Nat.le_add_right _ _
          · rw [z]; exact Nat.le_add_right _ _
          · rw [z]; exact Nat.le_refl _
          · rw [z]; exact Nat.le_add_right _ _
        exact I1.fpOk hle (I1.hok.fresh hle)
      obtain ⟨its, rv, p1, _⟩ := I1.tuple hqx
      obtain ⟨its2, rv2, p2, _⟩ := I1.tuple hqy
      obtain ⟨o1, ho1, _⟩ := id p1
      obtain ⟨o2, ho2, _⟩ := id p2
      refine call_zipT (show s1.heap.IsTuple a its.toArray from p1) (show s1.heap.IsTuple b its2.toArray from p2) fun h' hz hTI hTO h1 h2 hsz hk => wpAny_pyIter_zip hz ?_
      have I2 : Inv X pins σ H1 { s1 with heap := h' } := I1.kept (t' := s1.toks) hk
      exact ⟨s1.heap.objs.size + 4, [s1.heap.objs.size + 4, s1.heap.objs.size + 2, s1.heap.objs.size + 3, s1.heap.objs.size, s1.heap.objs.size + 1], _, _, H1, rfl, I2, turn_zipN (PySem.W.ktu_apart s1.heap.objs.size a b (Heap.lt_size ho1) (Heap.lt_size ho2)), ⟨⟨_, _, hz, .inl rfl⟩, hTI, ⟨_, _, hTO⟩, h1, h2⟩, fresh5, q⟩
end Sy
/-! the price of a change: plain mathematics -/
namespace Sy
def oadd : Option Int → Option Int → Option Int
  | some a, some b => some (a + b)
  | _, _ => none
def osum : List (Option Int) → Option Int
  | [] => some 0
  | x :: l => oadd x (osum l)
theorem oadd_zero (a : Option Int) : oadd a (some 0) = a := by cases a <;> simp [oadd]
theorem zero_oadd (a : Option Int) : oadd (some 0) a = a := by cases a <;> simp [oadd]
theorem oadd_assoc (a b c : Option Int) : oadd (oadd a b) c = oadd a (oadd b c) := by
  cases a <;> cases b <;> cases c <;> simp [oadd] <;> omega
theorem oadd_comm (a b : Option Int) : oadd a b = oadd b a := by
  cases a <;> cases b <;> simp [oadd] <;> omega
theorem oadd_none (a : Option Int) : oadd a none = none := by cases a <;> rfl
theorem none_oadd (a : Option Int) : oadd none a = none := by cases a <;> rfl
theorem osum_app : ∀ a b : List (Option Int), osum (a ++ b) = oadd (osum a) (osum b)
  | [], b => (zero_oadd _).symm
  | x :: a, b => by
    show oadd x (osum (a ++ b)) = oadd (oadd x (osum a)) (osum b)
    rw [osum_app a b, oadd_assoc]
theorem osum_snoc (a : List (Option Int)) (x : Option Int) : osum (a ++ [x]) = oadd (osum a) x := by
  rw [osum_app]
  show oadd _ (oadd x (some 0)) = _
  rw [oadd_zero]
/-- a swap's price, or the cutting price if that is less -/
def minO (cut : Int) : Option Int → Int
  | none => cut
  | some c => if cut < c then cut else c
section
variable (w w2 : List Nat) (sw : Nat → Nat → Option Int) (cut : Int)
def stepP (f : Nat → Nat → Option Int) (i j : Nat) : Option Int :=
  if aw w2 j = 0 then some (minO cut (sw i j)) else oadd (sw i j) (osum ((List.range (aw w i)).map fun k => f (kd w i k) (kd w2 j k)))
def prN : Nat → Nat → Nat → Option Int
  | 0, _, _ => none
  | f + 1, i, j => stepP w w2 sw cut (prN f) i j
/-- the price between the branches at i and at j -/
def prO (i j : Nat) : Option Int := prN w w2 sw cut w.length i j
/-- the entries of a branch -/
def siz (i : Nat) : Nat := en w i - i
end
section
variable {w w2 : List Nat} {sw : Nat → Nat → Option Int} {cut : Int}
theorem siz_pos {i : Nat} (hi : i < w.length) : 0 < siz w i := by
  have := en_gt hi
  unfold siz
  omega
theorem siz_le {i : Nat} (h : Fo 1 w) (hi : i < w.length) : siz w i ≤ w.length := by
  have := h.en_le hi
  unfold siz
  omega
theorem siz_kd {i k : Nat} (h : Fo 1 w) (hi : i < w.length) (hk : k < aw w i) : siz w (kd w i k) + 1 ≤ siz w i := by
  have h1 := kd_le_en h hi (k := k + 1) (by omega)
  rw [kd_succ] at h1
  have h2 := kd_gt (w := w) (i := i) (k := k)
  have h3 := en_gt hi
  unfold siz
  omega
theorem prN_st (h : Fo 1 w) : ∀ (f g i j : Nat), i < w.length → siz w i ≤ f → siz w i ≤ g → prN w w2 sw cut f i j = prN w w2 sw cut g i j
  | 0, _, i, j, hi, hf, _ => by have := siz_pos hi; omega
  | _ + 1, 0, i, j, hi, _, hg => by have := siz_pos hi; omega
  | f + 1, g + 1, i, j, hi, hf, hg => by
    show stepP w w2 sw cut (prN w w2 sw cut f) i j = stepP w w2 sw cut (prN w w2 sw cut g) i j
    unfold stepP
    split
    · rfl
    · congr 2
      apply List.map_congr_left
      intro k hk
      rw [List.mem_range] at hk
      have h2 := siz_kd h hi hk
      exact prN_st h f g _ _ (h.kd_lt hi hk) (by omega) (by omega)
theorem prO_eq (h : Fo 1 w) {i j : Nat} (hi : i < w.length) : prO w w2 sw cut i j = stepP w w2 sw cut (prO w w2 sw cut) i j := by
  have := siz_le h hi
  exact prN_st h w.length (w.length + 1) i j hi (by omega) (by omega)
/-- of a row of pairs -/
def prS (w w2 : List Nat) (sw : Nat → Nat → Option Int) (cut : Int) (ps : List (Nat × Nat)) : Option Int := osum (ps.map fun p => prO w w2 sw cut p.1 p.2)
def szS (w : List Nat) (ps : List (Nat × Nat)) : Nat := (ps.map fun p => siz w p.1).sum
/-- the pairs of branches that face each other -/
def kdP (w w2 : List Nat) (i j : Nat) : List (Nat × Nat) := (List.range (min (aw w i) (aw w2 j))).map fun k => (kd w i k, kd w2 j k)
def VaP (w w2 : List Nat) (ps : List (Nat × Nat)) : Prop := ∀ p ∈ ps, p.1 < w.length ∧ p.2 < w2.length
theorem szS_app (a b : List (Nat × Nat)) : szS w (a ++ b) = szS w a + szS w b := by
  unfold szS
  rw [List.map_append, List.sum_append]
theorem szS_cons (p : Nat × Nat) (b : List (Nat × Nat)) : szS w (p :: b) = siz w p.1 + szS w b := rfl
theorem szS_len : ∀ {ps : List (Nat × Nat)}, (∀ p ∈ ps, p.1 < w.length) → ps.length ≤ szS w ps
  | [], _ => Nat.zero_le _
  | p :: ps, h => by
    have h1 := szS_len (ps := ps) fun q hq => h q (List.mem_cons_of_mem _ hq)
    have h2 := siz_pos (h p List.mem_cons_self)
    rw [szS_cons, List.length_cons]
    omega
theorem szS_kd (h : Fo 1 w) {i j : Nat} (hi : i < w.length) : szS w (kdP w w2 i j) + 1 ≤ siz w i := by
  have q : ∀ n, n ≤ aw w i → szS w ((List.range n).map fun k => (kd w i k, kd w2 j k)) + (i + 1) = kd w i n := by
    intro n
    induction n with
    | zero => intro _; rw [kd_zero]; show 0 + _ = _; omega
    | succ n ih =>
      intro hn
      have h1 := ih (by omega)
      have h2 := kd_lt_succ h hi (k := n) (by omega)
      rw [List.range_succ, List.map_append, szS_app]
      have e : szS w [(kd w i n, kd w2 j n)] = kd w i (n + 1) - kd w i n := by
        show siz w (kd w i n) + 0 = _
        unfold siz
        rw [kd_succ]
        omega
      show szS w _ + szS w [(kd w i n, kd w2 j n)] + _ = _
      rw [e]
      omega
  have h1 := q (min (aw w i) (aw w2 j)) (Nat.min_le_left _ _)
  have h2 := kd_le_en h hi (k := min (aw w i) (aw w2 j)) (Nat.min_le_left _ _)
  have h3 := en_gt hi
  show szS w ((List.range (min (aw w i) (aw w2 j))).map fun k => (kd w i k, kd w2 j k)) + 1 ≤ en w i - i
  omega
theorem VaP_kd (h : Fo 1 w) (h2 : Fo 1 w2) {i j : Nat} (hi : i < w.length) (hj : j < w2.length) : VaP w w2 (kdP w w2 i j) := by
  intro p hp
  obtain ⟨k, hk, rfl⟩ := List.mem_map.mp hp
  rw [List.mem_range] at hk
  exact ⟨h.kd_lt hi (by omega), h2.kd_lt hj (by omega)⟩
theorem VaP.app {a b : List (Nat × Nat)} (h : VaP w w2 a) (g : VaP w w2 b) : VaP w w2 (a ++ b) := fun p hp => (List.mem_append.mp hp).elim (h p) (g p)
/-! the program's stack -/
/-- what one pair costs by itself -/
def hereO (w2 : List Nat) (sw : Nat → Nat → Option Int) (cut : Int) (i j : Nat) : Option Int := if aw w2 j = 0 then some (minO cut (sw i j)) else sw i j
theorem prO_here (h : Fo 1 w) (hS : ∀ i j, i < w.length → j < w2.length → (sw i j).isSome = true → aw w i = aw w2 j) {i j : Nat} (hi : i < w.length) (hj : j < w2.length) :
    prO w w2 sw cut i j = oadd (hereO w2 sw cut i j) (prS w w2 sw cut (kdP w w2 i j)) := by
  rw [prO_eq h hi]
  unfold stepP hereO prS kdP
  split
  · rename_i c
    rw [c, Nat.min_zero]
    exact (oadd_zero _).symm
  · cases e : sw i j with
    | none => rw [none_oadd, none_oadd]
    | some c =>
      have := hS i j hi hj (by rw [e]; rfl)
      rw [this, Nat.min_self, List.map_map]
      rfl
theorem prS_snoc (ps : List (Nat × Nat)) (p : Nat × Nat) : prS w w2 sw cut (ps ++ [p]) = oadd (prS w w2 sw cut ps) (prO w w2 sw cut p.1 p.2) := by
  unfold prS
  rw [List.map_append]
  exact osum_snoc _ _
theorem prS_app (ps qs : List (Nat × Nat)) : prS w w2 sw cut (ps ++ qs) = oadd (prS w w2 sw cut ps) (prS w w2 sw cut qs) := by
  unfold prS
  rw [List.map_append]
  exact osum_app _ _
/-- one turn of the stack -/
theorem stack_go (h : Fo 1 w) (hS : ∀ i j, i < w.length → j < w2.length → (sw i j).isSome = true → aw w i = aw w2 j) {ps : List (Nat × Nat)} {i j : Nat} {t c : Int} {r : Option Int} (hi : i < w.length) (hj : j < w2.length)
    (inv : oadd (some t) (prS w w2 sw cut (ps ++ [(i, j)])) = r) (hc : hereO w2 sw cut i j = some c) : oadd (some (t + c)) (prS w w2 sw cut (ps ++ kdP w w2 i j)) = r := by
  rw [← inv, prS_snoc, prS_app]
  show _ = oadd (some t) (oadd _ (prO w w2 sw cut i j))
  rw [prO_here h hS hi hj, hc]
  rw [← oadd_assoc, ← oadd_assoc, ← oadd_assoc, oadd_assoc (some t) _ (some c), oadd_comm (prS w w2 sw cut ps) (some c), ← oadd_assoc]
  rfl
theorem stack_no (h : Fo 1 w) (hS : ∀ i j, i < w.length → j < w2.length → (sw i j).isSome = true → aw w i = aw w2 j) {ps : List (Nat × Nat)} {i j : Nat} {t : Int} {r : Option Int} (hi : i < w.length) (hj : j < w2.length)
    (inv : oadd (some t) (prS w w2 sw cut (ps ++ [(i, j)])) = r) (hc : hereO w2 sw cut i j = none) : r = none := by
  rw [← inv, prS_snoc]
  show oadd _ (oadd _ (prO w w2 sw cut i j)) = _
  rw [prO_here h hS hi hj, hc, none_oadd, oadd_none, oadd_none]
theorem szS_go (h : Fo 1 w) {ps : List (Nat × Nat)} {i j : Nat} (hi : i < w.length) : szS w (ps ++ kdP w w2 i j) < szS w (ps ++ [(i, j)]) := by
  have := szS_kd (w2 := w2) (j := j) h hi
  rw [szS_app, szS_app]
  show _ < _ + (siz w i + 0)
  omega
/-! the law's row of pairs -/
structure PairsI (w w2 : List Nat) (sw : Nat → Nat → Option Int) (t : Nat) (qs : List (Nat × Nat)) : Prop where
  va : VaP w w2 qs
  z0 : qs[0]? = some (0, 0)
  sz : szS w (qs.drop t) ≤ w.length - t
  cl : ∀ a p, a < t → qs[a]? = some p → (sw p.1 p.2).isSome = true → ∀ k, k < aw w p.1 → ∃ b, a < b ∧ qs[b]? = some (kd w p.1 k, kd w2 p.2 k)
theorem PairsI.start (h : Fo 1 w) (h2 : Fo 1 w2) : PairsI w w2 sw 0 [(0, 0)] := by
  have l1 := Fo.pos h
  have l2 := Fo.pos h2
  refine ⟨fun p hp => ?_, rfl, ?_, fun a p ha => by omega⟩
  · rw [List.mem_singleton.mp hp]
    exact ⟨l1, l2⟩
  · show siz w 0 + 0 ≤ _
    have := siz_le h l1
    omega
theorem PairsI.rest {t : Nat} {qs : List (Nat × Nat)} (h : PairsI w w2 sw t qs) (ht : qs.length ≤ t) : PairsI w w2 sw (t + 1) qs := by
  refine ⟨h.va, h.z0, ?_, fun a p ha hp => h.cl a p ?_ hp⟩
  · rw [List.drop_of_length_le (by omega)]
    exact Nat.zero_le _
  · have := (List.getElem?_eq_some_iff.mp hp).1
    omega
theorem PairsI.len {t : Nat} {qs : List (Nat × Nat)} (h : PairsI w w2 sw t qs) : qs.length - t ≤ w.length - t := by
  have h1 := szS_len (w := w) (ps := qs.drop t) fun p hp => (h.va p (List.mem_of_mem_drop hp)).1
  have h2 := h.sz
  rw [List.length_drop] at h1
  omega
theorem PairsI.skip (hF : Fo 1 w) {t : Nat} {qs : List (Nat × Nat)} {p : Nat × Nat} (h : PairsI w w2 sw t qs) (hp : qs[t]? = some p) (hn : (sw p.1 p.2).isSome = false) : PairsI w w2 sw (t + 1) qs := by
  obtain ⟨ht, e⟩ := List.getElem?_eq_some_iff.mp hp
  have h1 := h.sz
  rw [List.drop_eq_getElem_cons ht, e, szS_cons] at h1
  have h2 := siz_pos (h.va p (List.mem_of_getElem? hp)).1
  refine ⟨h.va, h.z0, by omega, fun a q ha hq hs => ?_⟩
  by_cases c : a < t
  · exact h.cl a q c hq hs
  · obtain rfl : a = t := by omega
    rw [hp] at hq
    cases hq
    rw [hn] at hs
    cases hs
theorem PairsI.step (hF : Fo 1 w) (hF2 : Fo 1 w2) {t : Nat} {qs : List (Nat × Nat)} {p : Nat × Nat} (h : PairsI w w2 sw t qs) (hp : qs[t]? = some p) (he : aw w p.1 = aw w2 p.2) : PairsI w w2 sw (t + 1) (qs ++ kdP w w2 p.1 p.2) := by
  obtain ⟨ht, e⟩ := List.getElem?_eq_some_iff.mp hp
  have h1 := h.sz
  rw [List.drop_eq_getElem_cons ht, e, szS_cons] at h1
  have hv := h.va p (List.mem_of_getElem? hp)
  have h3 := szS_kd (w2 := w2) (j := p.2) hF hv.1
  refine ⟨h.va.app (VaP_kd hF hF2 hv.1 hv.2), ?_, ?_, fun a q ha hq hs k hk => ?_⟩
  · rw [List.getElem?_append_left (by omega)]
    exact h.z0
  · rw [List.drop_append_of_le_length (by omega), szS_app]
    omega
  · by_cases c : a < t
    · rw [List.getElem?_append_left (by omega)] at hq
      obtain ⟨b, hb, eb⟩ := h.cl a q c hq hs k hk
      refine ⟨b, hb, ?_⟩
      rw [List.getElem?_append_left (List.getElem?_eq_some_iff.mp eb).1]
      exact eb
    · obtain rfl : a = t := by omega
      rw [List.getElem?_append_left ht, hp] at hq
      cases hq
      refine ⟨qs.length + k, by omega, ?_⟩
      rw [List.getElem?_append_right (by omega), Nat.add_sub_cancel_left, kdP, he, Nat.min_self, List.getElem?_map, List.getElem?_range (by omega)]
      rfl
/-- at the end -/
theorem PairsI.fin {qs : List (Nat × Nat)} (h : PairsI w w2 sw w.length qs) {a : Nat} {p : Nat × Nat} (hp : qs[a]? = some p) (hs : (sw p.1 p.2).isSome = true) {k : Nat} (hk : k < aw w p.1) : ∃ b, a < b ∧ qs[b]? = some (kd w p.1 k, kd w2 p.2 k) := by
  have := h.len
  have := (List.getElem?_eq_some_iff.mp hp).1
  exact h.cl a p (by omega) hp hs k hk
/-- what the law makes of a pair -/
theorem law_step (h : Fo 1 w) (hS : ∀ i j, i < w.length → j < w2.length → (sw i j).isSome = true → aw w i = aw w2 j) {i j : Nat} (hi : i < w.length) (hj : j < w2.length) (T : Option Int)
    (hT : T = oadd (sw i j) (osum ((List.range (aw w i)).map fun k => prO w w2 sw cut (kd w i k) (kd w2 j k)))) : prO w w2 sw cut i j = if aw w2 j = 0 then some (minO cut T) else T := by
  rw [prO_eq h hi]
  unfold stepP
  split
  · rename_i c
    congr 2
    rw [hT]
    cases e : sw i j with
    | none => rw [none_oadd]
    | some x =>
      have := hS i j hi hj (by rw [e]; rfl)
      rw [this, c]
      show _ = oadd _ (some 0)
      rw [oadd_zero]
  · exact hT.symm
end
end Sy
namespace Sy
open PySem PySem.Spec PyProof.Rows L2
/-! prices -/
abbrev Swp := Str × Str × Int
def SwAt (K : PySem.W.Frag) (H : Hp) (q : Addr) (s : Swp) : Prop := SqT K H q [.str s.1, .str s.2.1, .int s.2.2]
def prcF (b : Addr) (c : Int) (t : Addr) : List (Str × V) := [("bed", .ref b), ("cutting", .int c), ("swaps", .ref t)]
structure PrcAt (K : PySem.W.Frag) (H : Hp) (a b : Addr) (c : Int) (rows : List Sy.Row) (sws : List Swp) : Prop where
  ex : ∃ (dx t : Addr) (ps : List Addr), H a = some (.ins (He.ga K "Prices") dx (prcF b c t)) ∧ BedAt K H b rows ∧ SqT K H t (ps.map V.ref) ∧ Paired (SwAt K H) ps sws
theorem PrcAt.mono {K : PySem.W.Frag} {H H' : Hp} {a b : Addr} {c : Int} {rows : List Sy.Row} {sws : List Swp} (s : Stay H H') (h : PrcAt K H a b c rows sws) : PrcAt K H' a b c rows sws := by
  obtain ⟨dx, t, ps, h1, h2, h3, h4⟩ := h.ex
  exact ⟨dx, t, ps, s _ _ h1 (fun _ z => nomatch z), h2.mono s, s.sqt h3, Paired.mapP h4 fun _ _ z => s.sqt z⟩
structure TxtP (K : PySem.W.Frag) (mg : Str → Option Value) : Prop where
  cl : Cls K (He.ga K "Prices")
  nB : NoAttr K (He.ga K "Prices") "bed"
  nC : NoAttr K (He.ga K "Prices") "cutting"
  nS : NoAttr K (He.ga K "Prices") "swaps"
  zip : mg "zip" = none
  GREATEST_PRICE : ∃ t, mg "GREATEST_PRICE" = some (.int 1000 t)
def prOk (n : Int) : Bool := if decide (0 ≤ n) = true then decide (n ≤ 1000) else false
theorem prOk_iff {n : Int} : prOk n = true ↔ 0 ≤ n ∧ n ≤ 1000 := by
  unfold prOk
  by_cases h : 0 ≤ n
  · simp [h]
  · simp [h]
def swOk (rows : List Sy.Row) (s : Swp) : Bool := isK rows s.1 && (isK rows s.2.1 && (!decide (s.1 = s.2.1) && (decide (ar rows s.1 = ar rows s.2.1) && prOk s.2.2)))
/-- the first swap that is none -/
def prScan (rows : List Sy.Row) : List (Str × Str) → Nat → List Swp → Option Nat
  | _, _, [] => none
  | seen, i, s :: l => if swOk rows s = true ∧ (s.1, s.2.1) ∉ seen then prScan rows (seen ++ [(s.1, s.2.1)]) (i + 1) l else some i
def prDue (rows : List Sy.Row) (c : Int) (l : List Swp) : Option Er := if prOk c = true then (prScan rows [] 0 l).map fun i => .prices (i : Nat) else some (.prices (-1))
theorem isK_in (x : Str) : ∀ rows : List Sy.Row, inV (.str x) (rows.map fun r => V.str r.1) = isK rows x
  | [] => rfl
  | r :: rs => by
    have ih := isK_in x rs
    unfold isK inV at *
    rw [List.map_cons, List.any_cons, ih, lookup_cons]
    have : eqV (V.str r.1) (V.str x) = decide (r.1 = x) := by
      by_cases h : r.1 = x
      · rw [h]; simp [eqV]
      · simp [eqV, h]
    rw [this]
    by_cases h : r.1 = x
    · simp [h]
    · simp [h]
theorem flat_kd (rows : List Sy.Row) : (rows.map fun r => V.str r.1).all flatV = true := by
  rw [List.all_map, List.all_eq_true]
  intro x _
  rfl
theorem isK_mem' {rows : List Sy.Row} {x : Str} (h : isK rows x = true) : ∃ r ∈ rows, r.1 = x := by
  induction rows with
  | nil => cases h
  | cons r rs ih =>
    unfold isK at h ih
    rw [lookup_cons] at h
    by_cases c : r.1 = x
    · exact ⟨r, List.mem_cons_self, c⟩
    · rw [if_neg c] at h
      obtain ⟨q, hq, e⟩ := ih h
      exact ⟨q, List.mem_cons_of_mem _ hq, e⟩
theorem wdB_of {x : Str} (h : nameOk x = true) : WdB x := by
  have hl := nx_le x h
  unfold nameOk at h
  have h2 := (Bool.and_eq_true_iff.mp (Bool.and_eq_true_iff.mp h).2).1
  refine ⟨by omega, fun c hc => ?_⟩
  unfold Txt.isascii at h2
  rw [← Array.all_toList, List.all_eq_true] at h2
  have := of_decide_eq_true (h2 c hc)
  exact Nat.lt_of_lt_of_le this (by decide)
theorem RowsOk.wdB {rows : List Sy.Row} (ok : RowsOk rows) {x : Str} (h : isK rows x = true) : WdB x := by
  obtain ⟨r, hr, rfl⟩ := isK_mem' h
  exact wdB_of (ok.nm r hr)
section
variable {P : Program} {w : World} {K : PySem.W.Frag} {mg : Str → Option Value} {base : Heap}
def spIsP : Sp := fun vs H Q _ => ∃ n : Int, vs = [.int n] ∧ Q (.bl (prOk n)) H
theorem sc_isP : FnScope ["number"] ["number"] (defScope (top 42)) := ⟨rfl, rfl, rfl, by decide +kernel, rfl, by decide +kernel, by decide +kernel⟩
theorem k_isP (TP : TxtP K mg) (F : DF K mg "_is_price" 42) : Cal P w K mg base 1 "_is_price" ["number"] spIsP := by
  refine cal_of F.1 F.2 sc_isP (fun _ _ _ _ _ _ us e => match us, e with | [_], _ => rfl) (fun vs H Q E s => by obtain ⟨_, rfl, _⟩ := s; rfl) ?_
  intro cdv A outer s H vs Q E hr h
  obtain ⟨n, rfl, hq⟩ := h
  refine ⟨_, (pss_one (ps_ret (pe_chain op_le op_le pe_int (pv 0) (pe_gint rfl TP.GREATEST_PRICE)))), ?_⟩
  unfold prOk at hq
  refine ⟨_, rfl, _, _, rfl, rfl, _, rfl, ?_⟩
  by_cases c : (0 : Int) ≤ n
  · rw [decide_eq_true c] at hq ⊢
    exact iteT ⟨_, _, rfl, rfl, hq⟩
  · rw [decide_eq_false c] at hq ⊢
    exact iteF hq
def spIsS (K : PySem.W.Frag) : Sp := fun vs H Q _ => ∃ (b : Addr) (rows : List Sy.Row) (s : Swp), vs = [.ref b, .str s.1, .str s.2.1, .int s.2.2] ∧ BedAt K H b rows ∧ RowsOk rows ∧ Q (.bl (swOk rows s)) H
abbrev N_isS : List Str := ["bed", "kind", "other", "cost"]
theorem sc_isS : FnScope N_isS ["bed", "kind", "other", "cost"] (defScope (top 43)) := ⟨rfl, rfl, rfl, by decide +kernel, rfl, by decide +kernel, by decide +kernel⟩
theorem k_isS (T : Txt K mg) (F : DF K mg "_is_swap" 43) (c_branches : CalM P w K mg base 3 "branches" ["self", "kind"] (spBranches K)) (c_is_price : Cal P w K mg base 1 "_is_price" ["number"] spIsP) : Cal P w K mg base 4 "_is_swap" ["bed", "kind", "other", "cost"] (spIsS K) := by
  refine cal_of F.1 F.2 sc_isS (fun _ _ _ _ _ _ us e => match us, e with | [_, _, _, _], _ => rfl) (fun vs H Q E s => by obtain ⟨_, _, _, rfl, _⟩ := s; rfl) ?_
  intro cdv A outer s H vs Q E hr h
  obtain ⟨b, rows, ⟨x, y, c⟩, rfl, hb, ok, hq⟩ := h
  obtain ⟨mB, fB, FB, BB⟩ := c_branches
  have hu := hu_of hr
  refine ⟨_, (pss_cons (ps_if (PW.pt (pw_or (pt_cmpR op_notIn_seq (pv 1) (pe_fld (pv 0) rfl) rfl) (pw_or (pt_cmpR op_notIn_seq (pv 2) (pe_fld (pv 0) rfl) rfl) (pw_or1 (pt_cmpR op_eq (pv 1) (pv 2) (nomark _))))))
        (pss_one (ps_ret pe_bl))
        pss_nil)
      (pss_one (ps_ret (pe_and (pe_cmpR op_eq (pe_meth (pv 0) T.bed.cl mB FB (hr.mono (by decide)) BB .nil (E := E0) (fun pins σ H s e s' I h => passL pins σ H s e s' I h) (pa_cons (pv 1) pa_nil)) (pe_meth (pv 0) T.bed.cl mB FB (hr.mono (by decide)) BB .nil (E := E0) (fun pins σ H s e s' I h => passL pins σ H s e s' I h) (pa_cons (pv 2) pa_nil)) (nomark _)) (pe_one (pe_cal c_is_price hr (pa_cons (pv 3) pa_nil))))))), ?_⟩
  obtain ⟨dx, dA, tR, tK, dR, pp, h1, hd, h3, h4, h5, h6⟩ := id hb.ex
  have hq : Q (.bl (isK rows x && (isK rows y && (!decide (x = y) && (decide (ar rows x = ar rows y) && prOk c))))) H := hq
  refine ⟨_, rfl, _, rfl, b, _, dx, _, _, rfl, h1, T.bed.cl, T.bed.nK, rfl, tK, _, rfl, .inr h5, rfl, flat_kd rows, _, rfl, ?_⟩
  rw [isK_in]
  refine if_bool (fun c1 => ?_) (fun c1 => ?_)
  · have c1 : isK rows x = false := by simpa using c1
    rw [c1] at hq
    exact hq
  have c1 : isK rows x = true := by simpa using c1
  rw [c1, Bool.true_and] at hq
  refine ⟨_, rfl, _, rfl, b, _, dx, _, _, rfl, h1, T.bed.cl, T.bed.nK, rfl, tK, _, rfl, .inr h5, rfl, flat_kd rows, _, rfl, ?_⟩
  rw [isK_in]
  refine if_bool (fun c2 => ?_) (fun c2 => ?_)
  · have c2 : isK rows y = false := by simpa using c2
    rw [c2] at hq
    exact hq
  have c2 : isK rows y = true := by simpa using c2
  rw [c2, Bool.true_and] at hq
  refine ⟨_, rfl, _, rfl, rfl, _, rfl, if_dec (fun c3 => ?_) (fun c3 => ?_)⟩
  · rw [decide_eq_true (V.str.inj c3)] at hq
    exact hq
  rw [decide_eq_false (fun z => c3 (by rw [z])), Bool.not_false, Bool.true_and] at hq
  refine ⟨_, rfl, b, dx, _, rfl, h1, rfl, _, rfl, b, rows, x, rfl, hb, ok.wdB c1, fun _ => ?_, fun z => by rw [c1] at z; cases z⟩
  refine ⟨_, rfl, b, dx, _, rfl, h1, rfl, _, rfl, b, rows, y, rfl, hb, ok.wdB c2, fun _ => ?_, fun z => by rw [c2] at z; cases z⟩
  refine ⟨rfl, _, rfl, if_dec (fun c4 => ?_) (fun c4 => ?_)⟩
  · have c4 : ar rows x = ar rows y := by have := V.int.inj c4; omega
    rw [decide_eq_true c4, Bool.true_and] at hq
    exact ⟨_, rfl, c, rfl, hq⟩
  · have c4 : ¬ ar rows x = ar rows y := fun z => c4 (by rw [z])
    rw [decide_eq_false c4, Bool.false_and] at hq
    exact hq
end
end Sy
namespace Sy
open PySem PySem.Spec PyProof.Rows L2
def Keep (x : Addr) (H H' : Hp) : Prop := ∀ a o, a ≠ x → H a = some o → H' a = some o
/-- a pair of names as a key -/
def k2 (x y : Str) : List Key := [Sum.inr x, Sum.inr y]
theorem k2_inj {a b c d : Str} : k2 a b = k2 c d ↔ a = c ∧ b = d := by
  unfold k2
  constructor
  · intro h
    simp at h
    exact h
  · rintro ⟨rfl, rfl⟩
    rfl
def pr2 (s : Swp) : Str × Str := (s.1, s.2.1)
def seenKV (l : List (Str × Str)) : List (List Key × V) := l.map fun p => (k2 p.1 p.2, V.bl true)
theorem valV_seen (x y : Str) : ∀ l : List (Str × Str), valV (seenKV l) (k2 x y) = if (x, y) ∈ l then some (.bl true) else none
  | [] => rfl
  | p :: l => by
    show valV ((k2 p.1 p.2, V.bl true) :: seenKV l) (k2 x y) = _
    rw [valV_cons, valV_seen x y l]
    obtain ⟨a, b⟩ := p
    by_cases h : a = x ∧ b = y
    · obtain ⟨rfl, rfl⟩ := h
      simp
    · rw [if_neg (fun z => h (k2_inj.mp z))]
      have : (x, y) ≠ (a, b) := fun z => h ⟨(congrArg Prod.fst z).symm, (congrArg Prod.snd z).symm⟩
      simp [this]
theorem BedAt.del {K : PySem.W.Frag} {H : Hp} {x a C dx : Addr} {rows : List Sy.Row} (b : BedAt K H a rows) (hx : H x = some (.ins C dx [])) : BedAt K (L2.del H x) a rows := by
  obtain ⟨dx', dA, tR, tK, dR, ps, h1, h2, h3, h4, h5, h6⟩ := b.ex
  have ne : ∀ {p o}, H p = some o → o ≠ .ins C dx [] → p ≠ x := fun e n z => by
    rw [z, hx] at e
    exact n (Option.some.inj e).symm
  refine ⟨dx', dA, tR, tK, dR, ps, ?_, ?_, ?_, sqt_del h4 hx, sqt_del h5 hx, Paired.mapP h6 fun _ _ z => sqt_del z hx⟩
  · rw [del_ne (ne h1 (by unfold bedF; intro z; injection z with _ _ z; cases z))]
    exact h1
  · rw [del_ne (ne h2 (by intro z; cases z))]
    exact h2
  · rw [del_ne (ne h3 (by intro z; cases z))]
    exact h3
theorem prScan_le {rows : List Sy.Row} : ∀ {l : List Swp} {sn : List (Str × Str)} {i n : Nat}, prScan rows sn i l = some n → n ≤ i + l.length
  | [], _, _, _, h => nomatch h
  | s :: l, sn, i, n, h => by
    rw [prScan] at h
    split at h
    · have := prScan_le h
      rw [List.length_cons]
      omega
    · cases h
      omega
theorem bind_star3 {B : List Value → Sem (List (Str × Value))} {p1 p2 p3 pv : Str} (h0 : ∀ a b c, B [a, b, c] = (newTuple [] >>= fun t => pure [(p1, a), (p2, b), (p3, c), (pv, t)])) (h1 : ∀ a b c r rs, B (a :: b :: c :: r :: rs) = (newTuple (r :: rs) >>= fun t => pure [(p1, a), (p2, b), (p3, c), (pv, t)])) :
    ∀ us rest : List Value, us.length = [p1, p2, p3].length → B (us ++ rest) = (newTuple rest >>= fun t => pure ([p1, p2, p3].zip us ++ [(pv, t)]))
  | [a, b, c], [], _ => h0 a b c
  | [a, b, c], r :: rs, _ => h1 a b c r rs
section
variable {P : Program} {w : World} {K : PySem.W.Frag} {mg : Str → Option Value} {base : Heap}
def spInitP (K : PySem.W.Frag) : Sp := fun vs H Q E => ∃ (x b p dx : Addr) (c : Int) (ps : List Addr) (rows : List Sy.Row) (sws : List Swp), vs = [.ref x, .ref b, .int c, .ref p] ∧ H x = some (.ins (He.ga K "Prices") dx []) ∧ BedAt K H b rows ∧ RowsOk rows ∧ SqT K H p (ps.map V.ref) ∧ Paired (SwAt K H) ps sws ∧ sws.length ≤ 1000 ∧
  (prDue rows c sws = none → ∀ H', Keep x H H' → PrcAt K H' x b c rows sws → Q .non H') ∧ (∀ e, prDue rows c sws = some e → ∀ d H' fs, Keep x H H' → H' d = some (.xd fs) → ImF K H' fs e.fds → E (.ref (He.ga K e.cls)) (some d) H')
abbrev N_initP : List Str := ["self", "bed", "cutting", "swaps", "seen", "place", "kind", "other", "cost"]
theorem sc_initP : FnScope N_initP ((["self", "bed", "cutting"] : List Str) ++ (["swaps"] : List Str)) (defScope (clb 40 0)) := ⟨rfl, rfl, rfl, by decide +kernel, rfl, by decide +kernel, by decide +kernel⟩
/-- a method of the class C -/
structure MC (K : PySem.W.Frag) (C m q : Str) (st : Stmt) : Prop where
  me : Meth K (He.ga K C) m (He.ma K (He.ga K C) m)
  fn : ∃ fd, FunD K m q (defArgs st) (defBody st) (defScope st) [] [] (He.ma K (He.ga K C) m) fd
theorem r_initP (T : Txt K mg) (TP : TxtP K mg) (R : Ers P K mg) (F : MC K "Prices" "__init__" "Prices.__init__" (clb 40 0)) (c_is_price : Cal P w K mg base 1 "_is_price" ["number"] spIsP) (c_is_swap : Cal P w K mg base 4 "_is_swap" ["bed", "kind", "other", "cost"] (spIsS K)) :
    FnR P w K mg base (L2.CX P w) 5 (He.ma K (He.ga K "Prices") "__init__") (spStar 3 (spInitP K)) := by
  obtain ⟨me, fd, F⟩ := F
  refine fnR_of (ps := ["self", "bed", "cutting"]) F sc_initP (fun kV doc pm an cdv ct => bind_star3 (B := fun l => bindArgs (PySem.W.fnOf "__init__" "Prices.__init__" (defArgs (clb 40 0)) (defBody (clb 40 0)) (defScope (clb 40 0)) .none kV doc pm an cdv ct) ⟨l, []⟩) (fun _ _ _ => rfl) (fun _ _ _ _ _ => rfl)) ?_
  intro cdv A outer s H vs Q E hr h
  obtain ⟨x, b, p, dx, c, ps, rows, sws, rfl, hx, hb, ok, hp, hpr, hsl, hq, hE⟩ := h
  have hu := hu_of hr
  have sc := sc_initP
  refine ⟨_, (pss_cons (ps_if (pt_not (pt_val (pe_cal c_is_price hr (pa_cons (pv 2) pa_nil))))
        (pss_one (ps_raise rfl (takes_of rfl rfl rfl rfl) (mk_pr R.pr hr rfl (pa_cons (pe_un un_neg pe_int) pa_nil) pass0)))
        pss_nil)
      (pss_cons (ps_set (i := 4) sc.nd rfl (Or.inl rfl) pe_dnewT)
      (pss_cons (ps_for (passes_of rfl) rfl (pi_enumT (by rfl) T.enumerate (pa_cons (pv 3) pa_nil)) (pg_tup rfl (pgs_cons (pg_name (i := 5) sc.nd rfl (Or.inl rfl)) (pgs_cons (pg_tup rfl (pgs_cons (pg_name (i := 6) sc.nd rfl (Or.inl rfl)) (pgs_cons (pg_name (i := 7) sc.nd rfl (Or.inl rfl)) (pgs_cons (pg_name (i := 8) sc.nd rfl (Or.inl rfl)) pgs_nil)))) pgs_nil)))
        (pss_cons (ps_if (PW.pt (pw_or (pt_not (pt_val (pe_cal c_is_swap hr (pa_cons (pv 1) (pa_cons (pv 6) (pa_cons (pv 7) (pa_cons (pv 8) pa_nil))))))) (pw_or1 (pt_cmp (pc_din hu (pe_tup (pa_cons (pv 6) (pa_cons (pv 7) pa_nil))) (pv 4))))))
          (pss_one (ps_raise rfl (takes_of rfl rfl rfl rfl) (mk_pr R.pr hr rfl (pa_cons (pv 5) pa_nil) pass0)))
          pss_nil)
        (pss_one (ps_dput hu (pv 4) (pe_tup (pa_cons (pv 6) (pa_cons (pv 7) pa_nil))) pe_bl rfl))))
      (pss_cons (ps_fld (pv 0) (pv 1) rfl)
      (pss_cons (ps_fld (pv 0) (pv 2) rfl)
      (pss_one (ps_fld (pv 0) (pv 3) rfl))))))), ?_⟩
  have hpl := paired_len hpr
  have k0 : Hs (L2.del H x) [(x, .ins (He.ga K "Prices") dx [])] H := (Hs.start H).take hx
  have hp0 := sqt_del hp hx
  have hb0 := hb.del hx
  have hpr0 : Paired (SwAt K (L2.del H x)) ps sws := Paired.mapP hpr fun _ _ z => sqt_del z hx
  have keep0 : ∀ {B' H' : Hp}, Same (L2.del H x) B' → Same B' H' → Keep x H H' := fun s1 s2 a o n e => s2 _ _ (s1 _ _ (by rw [del_ne n]; exact e))
  have raise : ∀ (e : Er) (H1 : Hp) (fs : List (Str × V)), prDue rows c sws = some e → Keep x H H1 → ImF K H1 fs e.fds → Ra K e.cls fs H1 E := fun e H1 fs he hk im d H' s ed => hE e he d H' fs (fun a o n z => s _ _ (hk a o n z)) ed (im.mono s)
  generalize hB : L2.del H x = B at *
  refine ⟨_, rfl, c, rfl, _, rfl, ?_⟩
  cases hc : prOk c with
  | false =>
    refine iteT ⟨_, rfl, mk_ra (fun _ _ => ⟨-1, rfl, by omega, rfl⟩) (by show 1 ≤ 1000; decide) (raise (.prices (-1)) _ _ ?_ (fun _ _ _ e => e) (.cons (.int _) .nil))⟩
    unfold prDue
    rw [hc]
    rfl
  | true =>
  have due : prDue rows c sws = (prScan rows [] 0 sws).map fun i => .prices (i : Nat) := by
    unfold prDue
    rw [hc]
    rfl
  refine iteF fun d hd => ?_
  have k1 := k0.new (o := .dT []) hd
  refine ⟨_, rfl, p, _, rfl, Same.sqt k1.sub hp0, for_it walkE (fun i σ H' => ∃ t5 t6 t7 t8, σ = [some (.ref x), some (.ref b), some (.int c), some (.ref p), some (.ref d), t5, t6, t7, t8] ∧ prScan rows ((sws.take i).map pr2) i (sws.drop i) = prScan rows [] 0 sws ∧ Hs B [(d, .dT (seenKV ((sws.take i).map pr2))), (x, .ins (He.ga K "Prices") dx [])] H')
    ⟨none, none, none, none, rfl, rfl, k1⟩ (fun _ _ _ _ ⟨_, _, _, _, _, _, z⟩ => Same.sqt z.sub hp0) ?_ ?_⟩
  · rintro i v σ H1 H2 hi ⟨t5, t6, t7, t8, rfl, hg, hh⟩ ⟨T1, u1, u2, rfl, hT, rfl, e1, e2⟩
    cases e1
    rw [List.length_map, hpl] at hi
    obtain ⟨sw, hr'⟩ : ∃ r, sws[i]? = some r := ⟨_, List.getElem?_eq_getElem hi⟩
    obtain ⟨q, eq, tq⟩ := paired_at hpr0 hr'
    have e2 : (ps.map V.ref)[i]? = some u2 := e2
    rw [List.getElem?_map, eq] at e2
    cases e2
    have hh := hh.lay (o := .tup [.int (i : Nat), .ref q]) hT
    have tq2 : SqT K (upd H1 T1 (.tup [.int (i : Nat), .ref q])) q [.str sw.1, .str sw.2.1, .int sw.2.2] := Same.sqt hh.sub tq
    have etk : (sws.take (i + 1)).map pr2 = (sws.take i).map pr2 ++ [pr2 sw] := by rw [List.take_succ, hr', List.map_append]; rfl
    rw [drop_of hr', prScan] at hg
    refine ⟨T1, _, rfl, SqT.of upd_same, rfl, _, _, rfl, _, _, rfl, q, _, rfl, tq2, rfl, _, _, rfl, _, _, rfl, _, _, rfl, rfl, rfl, ?_⟩
    have bad : ∀ {H3 : Hp}, Keep x H H3 → ¬ (swOk rows sw = true ∧ (sw.1, sw.2.1) ∉ (sws.take i).map pr2) → Ra K "InvalidPrices" [("place", .int (i : Nat))] H3 E := fun hk hb => by
      rw [if_neg hb] at hg
      refine raise (.prices (i : Nat)) _ _ ?_ hk (.cons (.int _) .nil)
      rw [due, ← hg]
      rfl
    refine ⟨_, rfl, _, rfl, _, rfl, _, rfl, b, rows, sw, rfl, hb0.mono (Stay.of hh.sub), ok, _, rfl, if_bool (fun c1 => ?_) (fun c1 => ?_)⟩
    · have c1 : swOk rows sw = false := by simpa using c1
      exact ⟨_, rfl, mk_ra (fun _ _ => ⟨(i : Nat), rfl, by omega, rfl⟩) (by show 1 ≤ 1000; decide) (bad (keep0 (Same.refl _) hh.sub) (fun z => by rw [c1] at z; cases z.1))⟩
    have c1 : swOk rows sw = true := by simpa using c1
    refine ⟨_, rfl, _, rfl, (by show 2 ≤ sizeLine; decide), fun T2 hT2 => ?_⟩
    have h2 := hh.lay (o := .tup [.str sw.1, .str sw.2.1]) hT2
    refine ⟨_, rfl, d, _, rfl, DGet.t (k := k2 sw.1 sw.2.1) h2.r0 upd_same, _, rfl, ?_⟩
    rw [valV_seen]
    by_cases c2 : (sw.1, sw.2.1) ∈ (sws.take i).map pr2
    · rw [if_pos c2]
      exact iteT ⟨_, rfl, mk_ra (fun _ _ => ⟨(i : Nat), rfl, by omega, rfl⟩) (by show 1 ≤ 1000; decide) (bad (keep0 (Same.refl _) h2.sub) (fun z => z.2 c2))⟩
    · rw [if_neg c2]
      have vn : valV (seenKV ((sws.take i).map pr2)) (k2 sw.1 sw.2.1) = none := by rw [valV_seen, if_neg c2]
      refine iteF ⟨_, rfl, _, rfl, _, rfl, (by show 2 ≤ sizeLine; decide), fun T3 hT3 => ?_⟩
      have h3 := h2.lay (o := .tup [.str sw.1, .str sw.2.1]) hT3
      refine ⟨d, _, rfl, DPut.t (k := k2 sw.1 sw.2.1) h3.r0 upd_same (by unfold seenKV; rw [List.length_map, List.length_map, List.length_take, sizeLine_eq]; omega), ?_⟩
      rw [if_pos ⟨c1, c2⟩] at hg
      refine ⟨_, _, _, _, rfl, by rw [etk]; exact hg, ?_⟩
      rw [putK_new _ vn, etk]
      unfold seenKV
      rw [List.map_append]
      exact h3.w0
  · rintro σ H1 ⟨t5, t6, t7, t8, rfl, hg, hh⟩
    rw [List.length_map, hpl] at hg
    rw [List.drop_length] at hg
    have hg : none = prScan rows [] 0 sws := hg
    have h1 := hh.drop
    refine ⟨_, rfl, _, rfl, x, _, dx, _, rfl, h1.r0, TP.cl, TP.nB, (by show 0 < 1000; decide), ?_⟩
    have h2 := h1.w0 (o' := .ins (He.ga K "Prices") dx [("bed", .ref b)])
    refine ⟨_, rfl, _, rfl, x, _, dx, _, rfl, h2.r0, TP.cl, TP.nC, (by show 1 < 1000; decide), ?_⟩
    have h3 := h2.w0 (o' := .ins (He.ga K "Prices") dx [("bed", .ref b), ("cutting", .int c)])
    refine ⟨_, rfl, _, rfl, x, _, dx, _, rfl, h3.r0, TP.cl, TP.nS, (by show 2 < 1000; decide), ?_⟩
    have h4 := h3.w0 (o' := .ins (He.ga K "Prices") dx (prcF b c p))
    refine hq (by rw [due, ← hg]; rfl) _ (keep0 (Same.refl _) h4.sub) ⟨dx, p, ps, h4.r0, hb0.mono (Stay.of h4.sub), Same.sqt h4.sub hp0, Paired.mapP hpr0 fun _ _ z => Same.sqt h4.sub z⟩
end
end Sy
/-! data compared: rows, pairs of names, swaps -/
namespace Sy
open PySem PySem.Spec PyProof.Rows L2
def RowD (r : Sy.Row) : PyData := .tuple [.str r.1, .int (r.2 : Nat)]
def RowsD (rows : List Sy.Row) : PyData := .tuple (rows.map RowD)
theorem eqv_RowD (x y : Sy.Row) : PyData.eqv (RowD x) (RowD y) = decide (x = y) := by
  obtain ⟨a, n⟩ := x
  obtain ⟨b, m⟩ := y
  unfold RowD
  simp only [PyData.eqv, PyData.eqvAll, Bool.and_true]
  by_cases h : a = b
  · subst h
    by_cases g : n = m
    · subst g
      simp
    · have : ¬ ((n : Int) = (m : Int)) := by omega
      simp [g, this]
  · have : (a == b) = false := beq_eq_false_iff_ne.mpr h
    simp [h, this]
theorem eqv_rows : ∀ (x y : List Sy.Row), PyData.eqvAll (x.map RowD) (y.map RowD) = decide (x = y)
  | [], [] => rfl
  | [], y :: ys => by simp [PyData.eqvAll]
  | x :: xs, [] => by simp [PyData.eqvAll]
  | x :: xs, y :: ys => by
    rw [List.map_cons, List.map_cons, PyData.eqvAll, eqv_RowD, eqv_rows xs ys]
    by_cases h : x = y
    · subst h
      simp
    · simp [h]
theorem lay_rows {rows : List Sy.Row} (h : ∀ r ∈ rows, PyData.strOk r.1 = true) : PyData.canLayAll0 (rows.map RowD) = true ∧ PyData.depthAll (rows.map RowD) ≤ 3 := by
  induction rows with
  | nil => exact ⟨rfl, Nat.zero_le _⟩
  | cons x l ih =>
    have ih := ih fun y hy => h y (List.mem_cons_of_mem _ hy)
    have hx := h x List.mem_cons_self
    rw [List.map_cons]
    unfold RowD at ih ⊢
    simp only [PyData.canLayAll0, PyData.depthAll, PyData.canLay0, PyData.depth, hx, Bool.true_and]
    exact ⟨ih.1, by omega⟩
theorem lay_RowsD {rows : List Sy.Row} (h : ∀ r ∈ rows, PyData.strOk r.1 = true) : SeqAt.shaped (RowsD rows) = true := by
  have := lay_rows h
  unfold SeqAt.shaped RowsD
  simp only [PyData.canLay0, PyData.depth]
  rw [this.1, Bool.true_and]
  exact decide_eq_true (by omega)
theorem Im.rowsD {K : PySem.W.Frag} {H : Hp} : ∀ {ps : List Addr} {rows : List Sy.Row}, Paired (fun q (r : Sy.Row) => SqT K H q [.str r.1, .int (r.2 : Nat)]) ps rows → ImA K H (ps.map V.ref) (rows.map RowD)
  | _, _, .nil => .nil
  | _, _, .cons a b => .cons (.tup a (.cons (.str _) (.cons (.int _) .nil))) (Im.rowsD b)
theorem Wd.sok {x : Str} (h : Wd x) : PyData.strOk x = true := by
  unfold PyData.strOk
  rw [← Array.all_toList, List.all_eq_true]
  intro c hc
  have := (h.2.2 c hc).2
  exact decide_eq_true (by omega)

/-- pairs of names -/
def PaD (p : Str × Str) : PyData := .tuple [.str p.1, .str p.2]
theorem eqv_PaD (p q : Str × Str) : PyData.eqv (PaD p) (PaD q) = decide (p = q) := by
  obtain ⟨a, b⟩ := p
  obtain ⟨c, d⟩ := q
  unfold PaD
  simp only [PyData.eqv, PyData.eqvAll, Bool.and_true]
  by_cases h : a = c
  · subst h
    by_cases g : b = d
    · subst g
      simp
    · have : (b == d) = false := beq_eq_false_iff_ne.mpr g
      simp [g, this]
  · have : (a == c) = false := beq_eq_false_iff_ne.mpr h
    simp [h, this]
abbrev PaOk (p : Str × Str) : Prop := PyData.strOk p.1 = true ∧ PyData.strOk p.2 = true
theorem lay_PaD {p : Str × Str} (h : PaOk p) : SeqAt.shaped (PaD p) = true := by
  unfold SeqAt.shaped PaD
  simp only [PyData.canLay0, PyData.canLayAll0, PyData.depth, PyData.depthAll, h.1, h.2, Bool.true_and, Bool.and_true]
  rfl
theorem lay_Pas {l : List (Str × Str)} (h : ∀ p ∈ l, PaOk p) : PyData.canLayAll0 (l.map PaD) = true ∧ PyData.depthAll (l.map PaD) ≤ 3 := by
  induction l with
  | nil => exact ⟨rfl, Nat.zero_le _⟩
  | cons x l ih =>
    have ih := ih fun y hy => h y (List.mem_cons_of_mem _ hy)
    have hx := h x List.mem_cons_self
    rw [List.map_cons]
    unfold PaD at ih ⊢
    simp only [PyData.canLayAll0, PyData.depthAll, PyData.canLay0, PyData.depth, hx.1, hx.2, Bool.true_and]
    exact ⟨ih.1, by omega⟩
theorem lay_PaL {l : List (Str × Str)} (h : ∀ p ∈ l, PaOk p) : SeqAt.shaped (.list (l.map PaD)) = true := by
  have := lay_Pas h
  unfold SeqAt.shaped
  simp only [PyData.canLay0, PyData.depth]
  rw [this.1, Bool.true_and]
  exact decide_eq_true (by omega)
theorem any_PaD (p : Str × Str) : ∀ l : List (Str × Str), ((l.map PaD).any fun z => PyData.eqv z (PaD p)) = decide (p ∈ l)
  | [] => rfl
  | q :: l => by
    rw [List.map_cons, List.any_cons, any_PaD p l, eqv_PaD]
    by_cases h : q = p
    · subst h
      simp
    · have h2 : p ≠ q := fun z => h z.symm
      simp [h, h2]
/-- swaps -/
def SwD (s : Swp) : PyData := .tuple [.str s.1, .str s.2.1, .int s.2.2]
abbrev SwOkS (s : Swp) : Prop := PyData.strOk s.1 = true ∧ PyData.strOk s.2.1 = true
theorem eqv_SwD (s : Swp) : PyData.eqv (SwD s) (SwD s) = true := by
  unfold SwD
  simp [PyData.eqv, PyData.eqvAll]
theorem eqv_Sws : ∀ l : List Swp, PyData.eqvAll (l.map SwD) (l.map SwD) = true
  | [] => rfl
  | s :: l => by rw [List.map_cons, PyData.eqvAll, eqv_SwD, eqv_Sws l]; rfl
theorem lay_Sws {l : List Swp} (h : ∀ s ∈ l, SwOkS s) : PyData.canLayAll0 (l.map SwD) = true ∧ PyData.depthAll (l.map SwD) ≤ 3 := by
  induction l with
  | nil => exact ⟨rfl, Nat.zero_le _⟩
  | cons x l ih =>
    have ih := ih fun y hy => h y (List.mem_cons_of_mem _ hy)
    have hx := h x List.mem_cons_self
    rw [List.map_cons]
    unfold SwD at ih ⊢
    simp only [PyData.canLayAll0, PyData.depthAll, PyData.canLay0, PyData.depth, hx.1, hx.2, Bool.true_and]
    exact ⟨ih.1, by omega⟩
theorem lay_SwT {l : List Swp} (h : ∀ s ∈ l, SwOkS s) : SeqAt.shaped (.tuple (l.map SwD)) = true := by
  have := lay_Sws h
  unfold SeqAt.shaped
  simp only [PyData.canLay0, PyData.depth]
  rw [this.1, Bool.true_and]
  exact decide_eq_true (by omega)
theorem ImA.sws {K : PySem.W.Frag} {H : Hp} : ∀ {ps : List Addr} {l : List Swp}, Paired (SwAt K H) ps l → ImA K H (ps.map V.ref) (l.map SwD)
  | _, _, .nil => .nil
  | _, _, .cons a b => .cons (.tup a (.cons (.str _) (.cons (.str _) (.cons (.int _) .nil)))) (ImA.sws b)
section
variable {P : Program} {w : World} {K : PySem.W.Frag} {mg : Str → Option Value} {base : Heap}
/-! same -/
def spSameB (K : PySem.W.Frag) : Sp := fun vs H Q _ => ∃ (a b : Addr) (rows rows2 : List Sy.Row), vs = [.ref a, .ref b] ∧ BedAt K H a rows ∧ BedAt K H b rows2 ∧ (∀ r ∈ rows, PyData.strOk r.1 = true) ∧ (∀ r ∈ rows2, PyData.strOk r.1 = true) ∧ Q (.bl (decide (rows = rows2))) H
theorem sc_sameB : FnScope ["self", "other"] ["self", "other"] (defScope (clb 22 6)) := ⟨rfl, rfl, rfl, by decide +kernel, rfl, by decide +kernel, by decide +kernel⟩
theorem k_sameB (T : Txt K mg) (F : MB K "same" "Bed.same" (clb 22 6)) : CalM P w K mg base 1 "same" ["self", "other"] (spSameB K) := by
  refine calM_of F sc_sameB (fun _ _ _ _ _ _ us e => match us, e with | [_, _], _ => rfl) (fun vs H Q E s => by obtain ⟨_, _, _, _, rfl, _⟩ := s; rfl) ?_
  intro cdv A outer s H vs Q E hr h
  obtain ⟨a, b, rows, rows2, rfl, hb, hb2, hs, hs2, hq⟩ := h
  obtain ⟨dx, dA, tR, tK, dR, ps, h1, hd, h3, h4, h5, h6⟩ := hb.ex
  obtain ⟨dx', dA', tR', tK', dR', ps', h1', hd', h3', h4', h5', h6'⟩ := hb2.ex
  refine ⟨_, (pss_one (ps_ret (pe_cmpR (op_eqD hr.units) (pe_fld (pv 0) rfl) (pe_fld (pv 1) rfl) (nomark _)))), ?_⟩
  refine ⟨_, rfl, a, _, dx, _, _, rfl, h1, T.bed.cl, T.bed.nR, rfl, _, rfl, b, _, dx', _, _, rfl, h1', T.bed.cl, T.bed.nR, rfl, RowsD rows, RowsD rows2, (Im.tup h4 (Im.rowsD h6)).dp, (Im.tup h4' (Im.rowsD h6')).dp, lay_RowsD hs, lay_RowsD hs2, ?_⟩
  have : PyData.eqv (RowsD rows) (RowsD rows2) = decide (rows = rows2) := by
    unfold RowsD
    rw [PyData.eqv, eqv_rows]
  rw [this]
  exact hq
end
end Sy
/-! readers: the rows entered -/
namespace Sy
open PySem PySem.Spec PyProof.Rows L2
abbrev RRow : Type := Str × List Nat × Nat
def iK (l : List Nat) : List Key := l.map fun n => Sum.inl ((n : Nat) : Int)
def rkey (r : RRow) : NKey := (Sum.inr r.1, iK r.2.1)
def tabKV (rws : List RRow) : List (NKey × V) := rws.map fun r => (rkey r, V.int ((r.2.2 : Nat) : Int))
theorem iK_kV (l : List Nat) : (iK l).map kV = vN l := by
  unfold iK vN
  rw [List.map_map]
  rfl
theorem iK_inj : ∀ {l m : List Nat}, iK l = iK m → l = m
  | [], [], _ => rfl
  | [], _ :: _, h => by simp [iK] at h
  | _ :: _, [], h => by simp [iK] at h
  | a :: l, b :: m, h => by
    simp only [iK, List.map_cons, List.cons.injEq, Sum.inl.injEq] at h
    rw [iK_inj (l := l) (m := m) h.2]
    have := h.1
    rw [show a = b by omega]
theorem rkey_inj {x y : Str} {l m : List Nat} {i j : Nat} (h : rkey (x, l, i) = rkey (y, m, j)) : x = y ∧ l = m := by
  unfold rkey at h
  injection h with h1 h2
  injection h1 with h1
  exact ⟨h1, iK_inj h2⟩
structure RwsOk (rows : List Sy.Row) (many : Nat) (rws : List RRow) : Prop where
  kd : ∀ r ∈ rws, isK rows r.1 = true ∧ r.2.1.length = ar rows r.1 ∧ (∀ n ∈ r.2.1, n < many) ∧ r.2.2 < many
  nd : (rws.map rkey).Nodup
  le : rws.length ≤ 10000
def RrAt (K : PySem.W.Frag) (H : Hp) (q : Addr) (r : RRow) : Prop := ∃ c, SqT K H q [.str r.1, .ref c, .int ((r.2.2 : Nat) : Int)] ∧ SqT K H c (vN r.2.1)
theorem RrAt.mono {K : PySem.W.Frag} {H H' : Hp} {q : Addr} {r : RRow} (h : RrAt K H q r) (s : Stay H H') : RrAt K H' q r := by
  obtain ⟨c, h1, h2⟩ := h
  exact ⟨c, s.sqt h1, s.sqt h2⟩
theorem NK.of {K : PySem.W.Frag} {H : Hp} {x : Str} {l : List Nat} {i : Nat} {b c : Addr} (h1 : SqT K H b [.str x, .ref c]) (h2 : SqT K H c (vN l)) : NK K H (rkey (x, l, i)) b := ⟨c, h1, by
  show SqT K H c ((iK l).map kV)
  rw [iK_kV]
  exact h2⟩
theorem valV_tab {rws : List RRow} {k : NKey} : valV (tabKV rws) k = (rws.find? fun r => decide (rkey r = k)).map fun r => V.int ((r.2.2 : Nat) : Int) := by
  unfold tabKV valV
  rw [List.find?_map, Option.map_map]
  rfl
theorem valV_tab_none {rws : List RRow} {k : NKey} (h : k ∉ rws.map rkey) : valV (tabKV rws) k = none := by
  rw [valV_tab]
  have : rws.find? (fun r => decide (rkey r = k)) = none := by
    rw [List.find?_eq_none]
    intro r hr z
    exact h (List.mem_map.mpr ⟨r, hr, of_decide_eq_true z⟩)
  rw [this]
  rfl
theorem putK_tab {rws : List RRow} {r : RRow} (h : rkey r ∉ rws.map rkey) : putK (tabKV rws) (rkey r) (V.int ((r.2.2 : Nat) : Int)) = tabKV (rws ++ [r]) := by
  unfold putK
  rw [valV_any, valV_tab_none h]
  unfold tabKV
  rw [List.map_append]
  rfl
theorem lookup_at {x : Str} {n : Nat} : ∀ {rows : List Sy.Row}, rows.lookup x = some n → (x, n) ∈ rows
  | [], h => by cases h
  | (y, m) :: l, h => by
    rw [List.lookup_cons] at h
    by_cases c : x = y
    · subst c
      have : (x == x) = true := beq_self_eq_true x
      rw [this] at h
      cases h
      exact List.mem_cons_self
    · have : (x == y) = false := beq_eq_false_iff_ne.mpr c
      rw [this] at h
      exact List.mem_cons_of_mem _ (lookup_at h)
theorem RowsOk.ar_le {rows : List Sy.Row} (ok : RowsOk rows) (x : Str) : ar rows x ≤ 3 := by
  unfold ar
  cases e : rows.lookup x with
  | none => exact Nat.zero_le _
  | some n => exact ok.br _ (lookup_at e)
section
variable {P : Program} {w : World} {K : PySem.W.Frag} {mg : Str → Option Value} {base : Heap}
theorem hu4_of {k : Nat} {A : Around} (h : Room k A) : A.units + 4 < cLine := by have := h.un; omega
/-! need_same -/
def spNeed (K : PySem.W.Frag) : Sp := fun vs H Q _ => ∃ (p : Addr) (as : List Addr) (rows : List Sy.Row), vs = [.ref p] ∧ SqT K H p (as.map V.ref) ∧ as.length ≤ 1000 ∧ (∀ a ∈ as, BedAt K H a rows) ∧ (∀ r ∈ rows, PyData.strOk r.1 = true) ∧ Q .non H
theorem sc_need : FnScope ["beds", "bed"] ((([] : List Str)) ++ (["beds"] : List Str)) (defScope (top 23)) := ⟨rfl, rfl, rfl, by decide +kernel, rfl, by decide +kernel, by decide +kernel⟩
theorem bind_star0 {B : List Value → Sem (List (Str × Value))} {pv : Str} (h0 : B [] = (newTuple [] >>= fun t => pure [(pv, t)])) (h1 : ∀ r rs, B (r :: rs) = (newTuple (r :: rs) >>= fun t => pure [(pv, t)])) :
    ∀ us rest : List Value, us.length = ([] : List Str).length → B (us ++ rest) = (newTuple rest >>= fun t => pure (([] : List Str).zip us ++ [(pv, t)]))
  | [], [], _ => h0
  | [], r :: rs, _ => h1 r rs
structure CalR (P : Program) (w : World) (K : PySem.W.Frag) (mg : Str → Option Value) (base : Heap) (k : Nat) (x : Str) (sp : Sp) : Prop where
  fn : FnR P w K mg base (L2.CX P w) k (He.ga K x) sp
  at_ : mg x = some (.ref (He.ga K x))
  kp : PySem.W.keepIn K (.ref (He.ga K x)) = true
theorem pe_calR {X : Cx} {k j : Nat} {x : Str} {sp : Sp} {p pos : Pos} {e : Expr} {es : List Expr} {t : TA} {E : XK} (c : CalR X.prog X.w X.K X.mg X.base j x sp) (hr : Room k X.A) (tk : Takes X (fun cls d _ H => E cls d H)) (ha : PA X (e :: es) t) (hk : j ≤ k := by decide) (hg : Gl X x := by rfl) (hdb : (x == ("__debug__" : Str)) = false := by decide)
    (he : starEach (e :: es) X.env = (false, eval e X.env) :: starEach es X.env := by rfl) (hpl : (backTo pos (starEach es X.env)).any (·.1) = false := by rfl) : PE X (.Call (.Name x p) (e :: es) [] pos) (fun σ H Q => t σ H fun vs H1 => sp vs H1 Q E) := by
  constructor
  intro pins s σ H Q I h
  refine wpAny_Call_Name_kw (ld_glob I hg c.at_ ?_ hdb)
  refine PySem.W.callWith_K (h₀ := X.base) I.ok.mod.kin c.kp (thn (ha.run pos pins s σ H _ I h) fun us s1 ⟨vs, H1, I1, r, q⟩ => ⟨I1.kIn, ?_⟩) he hpl
  exact wpAny_call (run_fnR c.fn (hr.mono hk) (fun pins σ H s e s' I h => passAt tk σ pins H s e s' I h) I1 r q)
theorem r_need (T : Txt K mg) (F : DF K mg "need_same" 23) (c_same : CalM P w K mg base 1 "same" ["self", "other"] (spSameB K)) : CalR P w K mg base 2 "need_same" (spStar 0 (spNeed K)) := by
  obtain ⟨⟨fd, F⟩, at_⟩ := F
  refine ⟨fnR_of (ps := []) F sc_need (fun kV doc pm an cdv ct => bind_star0 (B := fun l => bindArgs (PySem.W.fnOf "need_same" "need_same" (defArgs (top 23)) (defBody (top 23)) (defScope (top 23)) .none kV doc pm an cdv ct) ⟨l, []⟩) rfl (fun _ _ => rfl)) ?_, at_, F.kp⟩
  intro cdv A outer s H vs Q E hr h
  obtain ⟨p, as, rows, rfl, hp, hl, hb, hs, hq⟩ := h
  obtain ⟨mS, fS, FS, BS⟩ := c_same
  have sc := sc_need
  refine ⟨_, (pss_one (ps_for (passes_of rfl) rfl (pi_tup (pv 0)) (pg_name (i := 1) sc.nd rfl (Or.inl rfl))
        (pss_one (ps_if (pt_not (pt_val (pe_meth (pe_ix ix_tup (pv 0) pe_int (fun _ _ => rfl)) T.bed.cl mS FS (hr.mono (by decide)) BS .nil (E := E0) (fun pins σ H s e s' I h => passL pins σ H s e s' I h) (pa_cons (pv 1) pa_nil))))
          (pss_one ps_never)
          pss_nil)))), ?_⟩
  refine ⟨_, rfl, p, rfl, ⟨_, hp⟩, for_tup (K := K) (a := p) (xs := as.map V.ref) (fun i σ H' => ∃ t1, σ = [some (.ref p), t1] ∧ H' = H) ⟨none, rfl, rfl⟩ (fun _ _ _ _ ⟨_, _, e⟩ => by rw [e]; exact hp) ?_ ?_⟩
  · rintro i v σ H' hv ⟨t1, rfl, rfl⟩
    obtain ⟨c, ec, rfl⟩ := map_at hv
    obtain ⟨a0, e0⟩ : ∃ a0, as[0]? = some a0 := ⟨_, List.getElem?_eq_getElem (by have := (List.getElem?_eq_some_iff.mp ec).1; omega)⟩
    have h0 := hb a0 (List.mem_of_getElem? e0)
    have h1 := hb c (List.mem_of_getElem? ec)
    obtain ⟨dx, dA, tR, tK, dR, ps, b1, b2⟩ := id h0.ex
    refine ⟨_, rfl, p, _, _, .ref a0, rfl, rfl, hp, atI_nat (j := 0) (by rw [List.getElem?_map, e0]; rfl), a0, dx, _, rfl, b1, rfl, _, rfl, a0, c, rows, rows, rfl, h0, h1, hs, hs, _, rfl, ?_⟩
    rw [decide_eq_true rfl]
    exact iteF ⟨_, rfl, rfl⟩
  · rintro σ H' ⟨t1, rfl, rfl⟩
    exact hq
/-! _entered -/
def spEnt (P : Program) (w : World) (K : PySem.W.Frag) : Sp := fun vs H Q _ => ∃ (b t : Addr) (many : Nat) (rows : List Sy.Row) (ps : List Addr) (rws : List RRow), vs = [.ref b, .int (many : Nat), .ref t] ∧ BedAt K H b rows ∧ RowsOk rows ∧ SqT K H t (ps.map V.ref) ∧ Paired (RrAt K H) ps rws ∧ RwsOk rows many rws ∧
  ∀ d ob H', H d = none → Same H H' → H' d = some ob → NOf P w K H' d ob (tabKV rws) → Q (.ref d) H'
abbrev N_ent : List Str := ["bed", "states", "rows", "found", "place", "row", "kind", "below", "state", "one"]
theorem sc_ent : FnScope N_ent ["bed", "states", "rows"] (defScope (top 33)) := ⟨rfl, rfl, rfl, by decide +kernel, rfl, by decide +kernel, by decide +kernel⟩
theorem k_ent (T : Txt K mg) (F : DF K mg "_entered" 33) (c_branches : CalM P w K mg base 3 "branches" ["self", "kind"] (spBranches K)) : Cal P w K mg base 4 "_entered" ["bed", "states", "rows"] (spEnt P w K) := by
  refine cal_of F.1 F.2 sc_ent (fun _ _ _ _ _ _ us e => match us, e with | [_, _, _], _ => rfl) (fun vs H Q E s => by obtain ⟨_, _, _, _, _, _, rfl, _⟩ := s; rfl) ?_
  intro cdv A outer s H vs Q E hr h
  obtain ⟨b, t, many, rows, ps, rws, rfl, hb, ok, hp, hpr, rok, hq⟩ := h
  obtain ⟨mB, fB, FB, BB⟩ := c_branches
  have hu := hu4_of hr
  have sc := sc_ent
  have hpl := paired_len hpr
  have hle := rok.le
  refine ⟨_, (pss_cons (ps_set (i := 3) sc.nd rfl (Or.inl rfl) pe_nnew)
      (pss_cons (ps_for (passes_of rfl) rfl (pi_enumT (by rfl) T.enumerate (pa_cons (pv 2) pa_nil)) (pg_tup rfl (pgs_cons (pg_name (i := 4) sc.nd rfl (Or.inl rfl)) (pgs_cons (pg_name (i := 5) sc.nd rfl (Or.inl rfl)) pgs_nil)))
        (pss_cons (ps_asg (pv 5) (pg_tup rfl (pgs_cons (pg_name (i := 6) sc.nd rfl (Or.inl rfl)) (pgs_cons (pg_name (i := 7) sc.nd rfl (Or.inl rfl)) (pgs_cons (pg_name (i := 8) sc.nd rfl (Or.inl rfl)) pgs_nil)))))
        (pss_cons (ps_if (pt_cmpR op_notIn_seq (pv 6) (pe_fld (pv 0) rfl) rfl)
          (pss_one ps_never)
          pss_nil)
        (pss_cons (ps_if (pt_cmpR op_ne (pe_callB call_len_seq (by rfl) T.len (by decide +kernel) (pa_cons (pv 7) pa_nil)) (pe_meth (pv 0) T.bed.cl mB FB (hr.mono (by decide)) BB .nil (E := E0) (fun pins σ H s e s' I h => passL pins σ H s e s' I h) (pa_cons (pv 6) pa_nil)) (nomark _))
          (pss_one ps_never)
          pss_nil)
        (pss_cons (ps_for (passes_of rfl) rfl (pi_tup (pe_tup (StX.pa_star (pv 7) (pa_cons (pv 8) pa_nil)))) (pg_name (i := 9) sc.nd rfl (Or.inl rfl))
          (pss_one (ps_if (PW.pt (pw_or (pt_cmpR op_lt (pv 9) pe_int (nomark _)) (pw_or1 (pt_cmpR op_ge (pv 9) (pv 1) (nomark _)))))
            (pss_one ps_never)
            pss_nil)))
        (pss_cons (ps_if (pt_cmp (pc_nin hu (pe_tup (pa_cons (pv 6) (pa_cons (pv 7) pa_nil))) (pv 3)))
          (pss_one ps_never)
          pss_nil)
        (pss_one (ps_nput hu (pv 3) (pe_tup (pa_cons (pv 6) (pa_cons (pv 7) pa_nil))) (pv 8) rfl))))))))
      (pss_one (ps_ret (pv 3))))), ?_⟩
  refine fun d ob hd hN0 => ?_
  have k1 := (Hs.start H).new (o := ob) hd
  obtain ⟨dx, dA, tR, tK, dR, pp, b1, b2, b3, b4, b5, b6⟩ := id hb.ex
  refine ⟨_, rfl, t, _, rfl, Same.sqt k1.sub hp, for_it walkE (fun i σ H' => ∃ (t4 t5 t6 t7 t8 t9 : Option V) (B : Hp) (ob : HO), σ = [some (.ref b), some (.int (many : Nat)), some (.ref t), some (.ref d), t4, t5, t6, t7, t8, t9] ∧ Same H B ∧ Hs B [(d, ob)] H' ∧ NOf P w K B d ob (tabKV (rws.take i)))
    ⟨none, none, none, none, none, none, H, ob, rfl, Same.refl _, k1, hN0⟩ (fun _ _ _ _ ⟨_, _, _, _, _, _, _, _, _, sB, h, _⟩ => Same.sqt (sB.trans h.sub) hp) ?_ ?_⟩
  · rintro i v σ H1 H2 hi ⟨t4, t5, t6, t7, t8, t9, B, ob, rfl, sB, hh, hN⟩ ⟨T1, u1, u2, rfl, hT, rfl, e1, e2⟩
    cases e1
    rw [List.length_map, hpl] at hi
    obtain ⟨r, hr'⟩ : ∃ r, rws[i]? = some r := ⟨_, List.getElem?_eq_getElem hi⟩
    have hrm := List.mem_of_getElem? hr'
    obtain ⟨ck, cl, cn, cs⟩ := rok.kd r hrm
    obtain ⟨q, eq, c, tq, tc⟩ := paired_at hpr hr'
    have e2 : (ps.map V.ref)[i]? = some u2 := e2
    rw [List.getElem?_map, eq] at e2
    cases e2
    have sB1 : Same B (upd B T1 (.tup [.int (i : Nat), .ref q])) := up_same (hh.sub.free hT)
    have hh := hh.tup (o := .tup [.int (i : Nat), .ref q]) hT
    replace sB := sB.trans sB1
    replace hN := hN.mono (Stay.of sB1)
    generalize upd B T1 (.tup [.int (i : Nat), .ref q]) = B at *
    generalize hH3 : upd H1 T1 (.tup [.int (i : Nat), .ref q]) = H3 at *
    have tT : SqT K H3 T1 [.int (i : Nat), .ref q] := by rw [← hH3]; exact SqT.of upd_same
    have sH := sB.trans hh.sub
    refine ⟨T1, _, rfl, tT, rfl, _, _, rfl, _, _, rfl, rfl, ?_⟩
    refine ⟨_, rfl, q, _, rfl, Same.sqt sH tq, rfl, _, _, rfl, _, _, rfl, _, _, rfl, rfl, ?_⟩
    refine ⟨_, rfl, _, rfl, b, _, dx, _, _, rfl, sH _ _ b1, T.bed.cl, T.bed.nK, rfl, tK, _, rfl, .inr (Same.sqt sH b5), rfl, flat_kd rows, _, rfl, ?_⟩
    rw [isK_in, ck]
    refine iteF ?_
    refine ⟨_, rfl, c, _, rfl, .inr (Same.sqt sH tc), _, rfl, b, dx, _, rfl, sH _ _ b1, rfl, _, rfl, b, rows, r.1, rfl, hb.mono (Stay.of sH), ok.wdB ck, fun _ => ?_, fun z => by rw [ck] at z; cases z⟩
    have elen : (vN r.2.1).length = ar rows r.1 := by rw [vN, List.length_map, cl]
    have har : ar rows r.1 ≤ 100 := by
      have := ok.ar_le r.1
      omega
    refine ⟨rfl, _, rfl, if_ndec (fun c1 => absurd (by rw [elen]) c1) (fun _ => ?_)⟩
    refine ⟨_, rfl, c, _, rfl, .inl (Same.sqt sH tc), _, rfl, by rw [List.length_append, elen]; show _ + 1 ≤ sizeLine; rw [sizeLine_eq]; omega, fun T2 hT2 => ?_⟩
    have sB2 : Same B (upd B T2 (.tup (vN r.2.1 ++ [.int ((r.2.2 : Nat) : Int)]))) := up_same (hh.sub.free hT2)
    have h2 := hh.tup (o := .tup (vN r.2.1 ++ [.int ((r.2.2 : Nat) : Int)])) hT2
    have tT2 : SqT K (upd H3 T2 (.tup (vN r.2.1 ++ [.int ((r.2.2 : Nat) : Int)]))) T2 (vN r.2.1 ++ [.int ((r.2.2 : Nat) : Int)]) := SqT.of upd_same
    generalize upd H3 T2 (.tup (vN r.2.1 ++ [.int ((r.2.2 : Nat) : Int)])) = H4 at *
    replace sB := sB.trans sB2
    replace hN := hN.mono (Stay.of sB2)
    generalize upd B T2 (.tup (vN r.2.1 ++ [.int ((r.2.2 : Nat) : Int)])) = B2 at *
    have eN : vN r.2.1 ++ [V.int ((r.2.2 : Nat) : Int)] = vN (r.2.1 ++ [r.2.2]) := by rw [vN, vN, List.map_append]; rfl
    rw [eN] at tT2
    refine ⟨T2, rfl, ⟨_, tT2⟩, for_tup (K := K) (a := T2) (xs := vN (r.2.1 ++ [r.2.2])) (fun _ σ H' => ∃ t9, σ = [some (.ref b), some (.int (many : Nat)), some (.ref t), some (.ref d), some (.int (i : Nat)), some (.ref q), some (.str r.1), some (.ref c), some (.int ((r.2.2 : Nat) : Int)), t9] ∧ H' = H4)
      ⟨t9, rfl, rfl⟩ (fun _ _ _ _ ⟨_, _, e⟩ => by rw [e]; exact tT2) ?_ ?_⟩
    · rintro j v σ _ hv ⟨t9, rfl, rfl⟩
      obtain ⟨n, en, rfl⟩ := map_at hv
      have hn : n < many := by
        rcases List.mem_append.mp (List.mem_of_getElem? en) with h | h
        · exact cn n h
        · rw [List.mem_singleton.mp h]; exact cs
      refine ⟨_, rfl, _, _, rfl, rfl, _, rfl, if_dec (fun z => by omega) (fun _ => ?_)⟩
      exact ⟨_, rfl, _, rfl, _, _, rfl, rfl, _, rfl, if_dec (fun z => by omega) (fun _ => ⟨_, rfl, rfl⟩)⟩
    · rintro σ _ ⟨t9, rfl, rfl⟩
      have hnot : rkey r ∉ (rws.take i).map rkey := fun hm => by
        obtain ⟨z, hz, e⟩ := List.mem_map.mp hm
        have hnd := rok.nd
        rw [show rws = rws.take i ++ (r :: rws.drop (i + 1)) by rw [← drop_of hr', List.take_append_drop], List.map_append, List.nodup_append] at hnd
        exact hnd.2.2 _ (List.mem_map_of_mem hz) _ (by rw [List.map_cons]; exact List.mem_cons_self) e
      have sH4 := sB.trans h2.sub
      refine ⟨_, rfl, _, rfl, (by show 2 ≤ sizeLine; decide), fun T5 hT5 => ?_⟩
      have sB5 : Same B2 (upd B2 T5 (.tup [.str r.1, .ref c])) := up_same (h2.sub.free hT5)
      have h5 := h2.tup (o := .tup [.str r.1, .ref c]) hT5
      have sH5 := (sB.trans sB5).trans h5.sub
      refine ⟨_, rfl, d, T5, ob, _, rkey r, rfl, rfl, h5.r0, (hN.mono (Stay.of sB5)).mono (Stay.of h5.sub), NK.of (SqT.of upd_same) (Same.sqt sH5 tc), _, rfl, ?_⟩
      rw [valV_tab_none hnot]
      refine iteF ?_
      refine ⟨_, rfl, _, rfl, _, rfl, _, rfl, (by show 2 ≤ sizeLine; decide), fun T6 hT6 => ?_⟩
      have sB6 : Same (upd B2 T5 (.tup [.str r.1, .ref c])) (upd (upd B2 T5 (.tup [.str r.1, .ref c])) T6 (.tup [.str r.1, .ref c])) := up_same (h5.sub.free hT6)
      have h6 := h5.tup (o := .tup [.str r.1, .ref c]) hT6
      have hN6 := (hN.mono (Stay.of sB5)).mono (Stay.of sB6)
      have sH6 := ((sB.trans sB5).trans sB6).trans h6.sub
      refine ⟨d, T6, ob, _, rkey r, upd (upd B2 T5 (.tup [.str r.1, .ref c])) T6 (.tup [.str r.1, .ref c]), rfl, rfl, h6.r0, Stay.of h6.sub, hN6, NK.of (SqT.of upd_same) (Same.sqt ((sB.trans sB5).trans sB6) tc), ?_, fun ob' hN' => ?_⟩
      · unfold tabKV
        rw [List.length_map, List.length_take, sizeLine_eq]
        omega
      rw [putK_tab hnot] at hN'
      rw [← show rws.take (i + 1) = rws.take i ++ [r] by rw [List.take_succ, hr']; rfl] at hN'
      exact ⟨_, _, _, _, _, _, _, ob', rfl, (sB.trans sB5).trans sB6, h6.w0, hN'⟩
  · rintro σ H1 ⟨t4, t5, t6, t7, t8, t9, B, ob, rfl, sB, hh, hN⟩
    rw [List.length_map, hpl, List.take_length] at hN
    exact ⟨_, rfl, hq d ob H1 hd (sB.trans hh.sub) hh.r0 (hN.mono (Stay.of hh.sub))⟩
end
end Sy
/-! Reader: made, step -/
namespace Sy
open PySem PySem.Spec PyProof.Rows L2
structure Rdr where
  many : Nat
  rws : List RRow
  marks : List Nat
  rest : Nat
def rdF (b : Addr) (many : Nat) (tM : Addr) (rest : Nat) (dE : Addr) : List (Str × V) := [("bed", .ref b), ("states", .int (many : Nat)), ("marks", .ref tM), ("_otherwise", .int (rest : Nat)), ("_entered", .ref dE)]
structure RdAt (P : Program) (w : World) (K : PySem.W.Frag) (H : Hp) (a b : Addr) (rows : List Sy.Row) (d : Rdr) : Prop where
  ex : ∃ (dx tM dE : Addr) (ob : HO), H a = some (.ins (He.ga K "Reader") dx (rdF b d.many tM d.rest dE)) ∧ BedAt K H b rows ∧ SqT K H tM (vN d.marks) ∧ H dE = some ob ∧ NOf P w K H dE ob (tabKV d.rws)
theorem RdAt.mono {P : Program} {w : World} {K : PySem.W.Frag} {H H' : Hp} {a b : Addr} {rows : List Sy.Row} {d : Rdr} (h : RdAt P w K H a b rows d) (s : Stay H H') : RdAt P w K H' a b rows d := by
  obtain ⟨dx, tM, dE, ob, h1, h2, h3, h4, h5⟩ := h.ex
  refine ⟨dx, tM, dE, ob, s _ _ h1 (fun _ z => nomatch z), h2.mono s, s.sqt h3, s _ _ h4 (fun xs z => ?_), h5.mono s⟩
  obtain ⟨φ, e⟩ := h5.ext
  rw [e] at z
  cases z
structure MrkOk (many : Nat) (marks : List Nat) : Prop where
  up : marks.Pairwise (· < ·)
  lt : ∀ n ∈ marks, n < many
/-- valid -/
structure RdOk (rows : List Sy.Row) (d : Rdr) : Prop where
  rw : RwsOk rows d.many d.rws
  mr : MrkOk d.many d.marks
  re : d.rest < d.many
  le : d.many ≤ 40
def stepF (d : Rdr) (x : Str) (l : List Nat) : Nat := ((d.rws.find? fun r => decide (rkey r = rkey (x, l, 0))).map (·.2.2)).getD d.rest
structure TxtR (K : PySem.W.Frag) (mg : Str → Option Value) : Prop where
  cl : Cls K (He.ga K "Reader")
  nB : NoAttr K (He.ga K "Reader") "bed"
  nS : NoAttr K (He.ga K "Reader") "states"
  nM : NoAttr K (He.ga K "Reader") "marks"
  nO : NoAttr K (He.ga K "Reader") "_otherwise"
  nE : NoAttr K (He.ga K "Reader") "_entered"
  min : mg "min" = none
  dict : mg "dict" = none
  MOST_STATES : ∃ t, mg "MOST_STATES" = some (.int 40 t)
theorem NOf.del {P : Program} {w : World} {K : PySem.W.Frag} {H : Hp} {a x C dx : Addr} {fs : List (Str × V)} {ob : HO} {kvs : List (NKey × V)} (h : NOf P w K H a ob kvs) (hx : H x = some (.ins C dx fs)) : NOf P w K (L2.del H x) a ob kvs := by
  obtain ⟨xs, h1, h2, h3, h4⟩ := h.ex
  exact ⟨xs, h1, h2, h3, Paired.mapP h4 fun _ _ ⟨z1, ⟨c, z2, z3⟩, z4⟩ => ⟨z1, ⟨c, sqt_del z2 hx, sqt_del z3 hx⟩, z4⟩⟩
section
variable {P : Program} {w : World} {K : PySem.W.Frag} {mg : Str → Option Value} {base : Heap}
/-! _check_marks -/
def spMarks (K : PySem.W.Frag) : Sp := fun vs H Q _ => ∃ (m : Addr) (many : Nat) (marks : List Nat), vs = [.int (many : Nat), .ref m] ∧ SqT K H m (vN marks) ∧ MrkOk many marks ∧ Q .non H
theorem sc_marks : FnScope ["states", "marks", "last", "one"] ["states", "marks"] (defScope (top 34)) := ⟨rfl, rfl, rfl, by decide +kernel, rfl, by decide +kernel, by decide +kernel⟩
theorem k_marks (F : DF K mg "_check_marks" 34) : Cal P w K mg base 1 "_check_marks" ["states", "marks"] (spMarks K) := by
  refine cal_of F.1 F.2 sc_marks (fun _ _ _ _ _ _ us e => match us, e with | [_, _], _ => rfl) (fun vs H Q E s => by obtain ⟨_, _, _, rfl, _⟩ := s; rfl) ?_
  intro cdv A outer s H vs Q E hr h
  obtain ⟨m, many, marks, rfl, hm, ok, hq⟩ := h
  have sc := sc_marks
  refine ⟨_, (pss_cons (ps_set (i := 2) sc.nd rfl (Or.inl rfl) (pe_un un_neg pe_int))
      (pss_one (ps_for (passes_of rfl) rfl (pi_tup (pv 1)) (pg_name (i := 3) sc.nd rfl (Or.inl rfl))
        (pss_cons (ps_if (PW.pt (pw_or (pt_cmpR op_le (pv 3) (pv 2) (nomark _)) (pw_or1 (pt_cmpR op_ge (pv 3) (pv 0) (nomark _)))))
          (pss_one ps_never)
          pss_nil)
        (pss_one (ps_set (i := 2) sc.nd rfl (Or.inl rfl) (pv 3))))))), ?_⟩
  refine ⟨1, rfl, ?_⟩
  refine ⟨_, rfl, m, rfl, ⟨_, hm⟩, for_tup (K := K) (a := m) (xs := vN marks) (fun i σ H' => ∃ (last : Int) (t3 : Option V), σ = [some (.int (many : Nat)), some (.ref m), some (.int last), t3] ∧ H' = H ∧ ∀ j n, i ≤ j → marks[j]? = some n → last < (n : Int))
    ⟨-1, none, rfl, rfl, fun j n _ _ => by omega⟩ (fun _ _ _ _ ⟨_, _, _, e, _⟩ => by rw [e]; exact hm) ?_ ?_⟩
  · rintro i v σ H' hv ⟨last, t3, rfl, rfl, hl⟩
    obtain ⟨n, en, rfl⟩ := map_at hv
    have h1 := hl i n (Nat.le_refl _) en
    have h2 := ok.lt n (List.mem_of_getElem? en)
    refine ⟨_, rfl, _, rfl, _, _, rfl, rfl, _, rfl, if_dec (fun z => by omega) (fun _ => ?_)⟩
    refine ⟨_, rfl, _, rfl, _, _, rfl, rfl, _, rfl, if_dec (fun z => by omega) (fun _ => ?_)⟩
    refine ⟨_, rfl, _, _, rfl, rfl, fun j k hj ej => ?_⟩
    have := List.pairwise_iff_getElem.mp ok.up i j (List.getElem?_eq_some_iff.mp en).1 (List.getElem?_eq_some_iff.mp ej).1 (by omega)
    rw [(List.getElem?_eq_some_iff.mp en).2, (List.getElem?_eq_some_iff.mp ej).2] at this
    omega
  · rintro σ H' ⟨last, t3, rfl, rfl, _⟩
    exact hq
/-! Reader.__init__ -/
def spInitR (P : Program) (w : World) (K : PySem.W.Frag) : Sp := fun vs H Q _ => ∃ (x b t m dx : Addr) (rows : List Sy.Row) (ps : List Addr) (d : Rdr), vs = [.ref x, .ref b, .int (d.many : Nat), .ref t, .ref m, .int (d.rest : Nat)] ∧ H x = some (.ins (He.ga K "Reader") dx []) ∧ BedAt K H b rows ∧ RowsOk rows ∧
  SqT K H t (ps.map V.ref) ∧ Paired (RrAt K H) ps d.rws ∧ SqT K H m (vN d.marks) ∧ RdOk rows d ∧ ∀ H', Keep x H H' → RdAt P w K H' x b rows d → Q .non H'
abbrev N_initR : List Str := ["self", "bed", "states", "rows", "marks", "otherwise", "entered"]
theorem sc_initR : FnScope N_initR ["self", "bed", "states", "rows", "marks", "otherwise"] (defScope (clb 35 0)) := ⟨rfl, rfl, rfl, by decide +kernel, rfl, by decide +kernel, by decide +kernel⟩
structure RdM (K : PySem.W.Frag) : Prop where
  me : Meth K (He.ga K "Reader") "__init__" (He.ma K (He.ga K "Reader") "__init__")
  fn : ∃ fd, FunD K "__init__" "Reader.__init__" (defArgs (clb 35 0)) (defBody (clb 35 0)) (defScope (clb 35 0)) [] [("otherwise", .int 0)] (He.ma K (He.ga K "Reader") "__init__") fd
theorem f_initR (T : Txt K mg) (TR : TxtR K mg) {fd : FuncData} (F : FunD K "__init__" "Reader.__init__" (defArgs (clb 35 0)) (defBody (clb 35 0)) (defScope (clb 35 0)) [] [("otherwise", .int 0)] (He.ma K (He.ga K "Reader") "__init__") fd)
    (c_entered : Cal P w K mg base 4 "_entered" ["bed", "states", "rows"] (spEnt P w K)) (c_check_marks : Cal P w K mg base 1 "_check_marks" ["states", "marks"] (spMarks K)) :
    FnOk P w K mg base (L2.CX P w) (4 + 1) (He.ma K (He.ga K "Reader") "__init__") fd ["self", "bed", "states", "rows", "marks", "otherwise"] (spInitR P w K) := by
  refine F.ok sc_initR (fun vs H Q E s => by obtain ⟨_, _, _, _, _, _, _, _, rfl, _⟩ := s; rfl) ?_
  intro cdv A outer s H vs Q E hr h
  obtain ⟨x, b, t, m, dx, rows, ps, d, rfl, hx, hb, ok, hT, hP, hM, dok, hq⟩ := h
  have sc := sc_initR
  have l1 := dok.le
  have l2 := dok.re
  refine ⟨_, (pss_cons (ps_if (pt_cmpR op_gt (pv 2) (pe_gint rfl TR.MOST_STATES) (nomark _))
        (pss_one ps_never)
        pss_nil)
      (pss_cons (ps_if (pt_cmpR op_lt (pv 2) pe_int (nomark _))
        (pss_one ps_never)
        pss_nil)
      (pss_cons (ps_set (i := 6) sc.nd rfl (Or.inl rfl) (pe_cal c_entered hr (pa_cons (pv 1) (pa_cons (pv 2) (pa_cons (pv 3) pa_nil)))))
      (pss_cons (ps_expr (pe_cal c_check_marks hr (pa_cons (pv 2) (pa_cons (pv 4) pa_nil))))
      (pss_cons (ps_if (PW.pt (pw_or (pt_cmpR op_lt (pv 5) pe_int (nomark _)) (pw_or1 (pt_cmpR op_ge (pv 5) (pv 2) (nomark _)))))
        (pss_one ps_never)
        pss_nil)
      (pss_cons (ps_fld (pv 0) (pv 1) rfl)
      (pss_cons (ps_fld (pv 0) (pv 2) rfl)
      (pss_cons (ps_fld (pv 0) (pe_callTy call_tuple_of (by rfl) T.tuple (by decide +kernel) (pa_cons (pv 4) pa_nil)) rfl)
      (pss_cons (ps_fld (pv 0) (pv 5) rfl)
      (pss_one (ps_fld (pv 0) (pv 6) rfl))))))))))), ?_⟩
  refine ⟨_, rfl, _, _, rfl, rfl, _, rfl, if_dec (fun z => by omega) (fun _ => ?_)⟩
  refine ⟨_, rfl, _, _, rfl, rfl, _, rfl, if_dec (fun z => by omega) (fun _ => ?_)⟩
  refine ⟨_, rfl, _, rfl, _, rfl, b, t, d.many, rows, ps, d.rws, rfl, hb, ok, hT, hP, dok.rw, fun dE ob H1 hdE s1 hE hN => ?_⟩
  have hx1 := s1 _ _ hx
  refine ⟨_, rfl, _, rfl, m, d.many, d.marks, rfl, Same.sqt s1 hM, dok.mr, ?_⟩
  refine ⟨_, rfl, _, _, rfl, rfl, _, rfl, if_dec (fun z => by omega) (fun _ => ?_)⟩
  refine ⟨_, rfl, _, rfl, _, _, rfl, rfl, _, rfl, if_dec (fun z => by omega) (fun _ => ?_)⟩
  have k1 : Hs (L2.del H1 x) [(x, .ins (He.ga K "Reader") dx [])] H1 := (Hs.start H1).take hx1
  have hb1 : BedAt K (L2.del H1 x) b rows := (hb.mono (Stay.of s1)).del hx1
  have hM1 := sqt_del (Same.sqt s1 hM) hx1
  have hN1 := hN.del hx1
  have ndE : dE ≠ x := fun z => by rw [z, hx] at hdE; cases hdE
  have hE1 : (L2.del H1 x) dE = some ob := by rw [del_ne ndE]; exact hE
  have keep0 : ∀ {H' : Hp}, Same (L2.del H1 x) H' → Keep x H H' := fun s2 a o n e => s2 _ _ (by rw [del_ne n]; exact s1 _ _ e)
  refine ⟨_, rfl, _, rfl, x, _, dx, _, rfl, k1.r0, TR.cl, TR.nB, (by show 0 < 1000; decide), ?_⟩
  have h2 := k1.w0 (o' := .ins (He.ga K "Reader") dx [("bed", .ref b)])
  refine ⟨_, rfl, _, rfl, x, _, dx, _, rfl, h2.r0, TR.cl, TR.nS, (by show 1 < 1000; decide), ?_⟩
  have h3 := h2.w0 (o' := .ins (He.ga K "Reader") dx [("bed", .ref b), ("states", .int (d.many : Nat))])
  refine ⟨_, rfl, m, _, rfl, .inr ⟨Same.sqt h3.sub hM1, ?_⟩⟩
  refine ⟨_, rfl, x, _, dx, _, rfl, h3.r0, TR.cl, TR.nM, (by show 2 < 1000; decide), ?_⟩
  have h4 := h3.w0 (o' := .ins (He.ga K "Reader") dx [("bed", .ref b), ("states", .int (d.many : Nat)), ("marks", .ref m)])
  refine ⟨_, rfl, _, rfl, x, _, dx, _, rfl, h4.r0, TR.cl, TR.nO, (by show 3 < 1000; decide), ?_⟩
  have h5 := h4.w0 (o' := .ins (He.ga K "Reader") dx [("bed", .ref b), ("states", .int (d.many : Nat)), ("marks", .ref m), ("_otherwise", .int (d.rest : Nat))])
  refine ⟨_, rfl, _, rfl, x, _, dx, _, rfl, h5.r0, TR.cl, TR.nE, (by show 4 < 1000; decide), ?_⟩
  have h6 := h5.w0 (o' := .ins (He.ga K "Reader") dx (rdF b d.many m d.rest dE))
  exact hq _ (keep0 h6.sub) ⟨dx, m, dE, ob, h6.r0, hb1.mono (Stay.of h6.sub), Same.sqt h6.sub hM1, h6.sub _ _ hE1, hN1.mono (Stay.of h6.sub)⟩
/-! step -/
structure CalC (P : Program) (w : World) (K : PySem.W.Frag) (mg : Str → Option Value) (base : Heap) (k : Nat) (C m : Str) (ps : List Str) (sp : Sp) : Prop where
  me : Meth K (He.ga K C) m (He.ma K (He.ga K C) m)
  fn : ∃ fd, FnOk P w K mg base (L2.CX P w) k (He.ma K (He.ga K C) m) fd ps sp ∧ Binds K fd ps []
def spStep (P : Program) (w : World) (K : PySem.W.Frag) : Sp := fun vs H Q _ => ∃ (a b c : Addr) (x : Str) (rows : List Sy.Row) (d : Rdr) (l : List Nat), vs = [.ref a, .str x, .ref c] ∧ RdAt P w K H a b rows d ∧ RowsOk rows ∧ RdOk rows d ∧ isK rows x = true ∧ SqT K H c (vN l) ∧ l.length = ar rows x ∧ (∀ n ∈ l, n < d.many) ∧
  ∀ H', Same H H' → Q (.int (stepF d x l : Nat)) H'
theorem sc_step : FnScope ["self", "kind", "below", "wanted", "one"] ["self", "kind", "below"] (defScope (clb 35 1)) := ⟨rfl, rfl, rfl, by decide +kernel, rfl, by decide +kernel, by decide +kernel⟩
theorem k_step (T : Txt K mg) (TR : TxtR K mg) (F : MC K "Reader" "step" "Reader.step" (clb 35 1)) (c_branches : CalM P w K mg base 3 "branches" ["self", "kind"] (spBranches K)) : CalC P w K mg base 4 "Reader" "step" ["self", "kind", "below"] (spStep P w K) := by
  obtain ⟨me, fd, F⟩ := F
  refine ⟨me, fd, F.ok sc_step (fun vs H Q E s => by obtain ⟨_, _, _, _, _, _, _, rfl, _⟩ := s; rfl) ?_, F.bindsN (fun _ _ _ _ _ _ us e => match us, e with | [_, _, _], _ => rfl)⟩
  intro cdv A outer s H vs Q E hr h
  obtain ⟨a, b, c, x, rows, d, l, rfl, hR, ok, dok, hk, hc, hl, hlt, hq⟩ := h
  obtain ⟨mB, fB, FB, BB⟩ := c_branches
  have hu := hu4_of hr
  have sc := sc_step
  obtain ⟨dx, tM, dE, ob, h1, h2, h3, h4, h5⟩ := hR.ex
  obtain ⟨dx', dA, tR, tK, dR, pp, b1, b2⟩ := id h2.ex
  refine ⟨_, (pss_cons (ps_set (i := 3) sc.nd rfl (Or.inl rfl) (pe_meth (pe_fld (pv 0) rfl) T.bed.cl mB FB (hr.mono (by decide)) BB .nil (E := E0) (fun pins σ H s e s' I h => passL pins σ H s e s' I h) (pa_cons (pv 1) pa_nil)))
      (pss_cons (ps_if (pt_cmpR op_ne (pe_callB call_len_seq (by rfl) T.len (by decide +kernel) (pa_cons (pv 2) pa_nil)) (pv 3) (nomark _))
        (pss_one ps_never)
        pss_nil)
      (pss_cons (ps_for (passes_of rfl) rfl (pi_tup (pv 2)) (pg_name (i := 4) sc.nd rfl (Or.inl rfl))
        (pss_one (ps_if (PW.pt (pw_or (pt_cmpR op_lt (pv 4) pe_int (nomark _)) (pw_or1 (pt_cmpR op_ge (pv 4) (pe_fld (pv 0) rfl) (nomark _)))))
          (pss_one ps_never)
          pss_nil)))
      (pss_one (ps_ret (pe_nget2 hu (pe_fld (pv 0) rfl) (pe_tup (pa_cons (pv 1) (pa_cons (pv 2) pa_nil))) (pe_fld (pv 0) rfl) ⟨rfl, rfl, rfl, rfl⟩)))))), ?_⟩
  refine ⟨_, rfl, a, _, dx, _, _, rfl, h1, TR.cl, TR.nB, rfl, b, dx', _, rfl, b1, rfl, _, rfl, b, rows, x, rfl, h2, ok.wdB hk, fun _ => ?_, fun z => by rw [hk] at z; cases z⟩
  have elen : (vN l).length = ar rows x := by rw [vN, List.length_map, hl]
  refine ⟨_, rfl, c, _, rfl, .inr hc, _, rfl, rfl, _, rfl, if_ndec (fun c1 => absurd (by rw [elen]) c1) (fun _ => ?_)⟩
  refine ⟨_, rfl, c, rfl, ⟨_, hc⟩, for_tup (K := K) (a := c) (xs := vN l) (fun _ σ H' => ∃ t4, σ = [some (.ref a), some (.str x), some (.ref c), some (.int (ar rows x : Nat)), t4] ∧ H' = H) ⟨none, rfl, rfl⟩ (fun _ _ _ _ ⟨_, _, e⟩ => by rw [e]; exact hc) ?_ ?_⟩
  · rintro j v σ _ hv ⟨t4, rfl, rfl⟩
    obtain ⟨n, en, rfl⟩ := map_at hv
    have hn := hlt n (List.mem_of_getElem? en)
    refine ⟨_, rfl, _, _, rfl, rfl, _, rfl, if_dec (fun z => by omega) (fun _ => ?_)⟩
    exact ⟨_, rfl, _, rfl, a, _, dx, _, _, rfl, h1, TR.cl, TR.nS, rfl, _, _, rfl, rfl, _, rfl, if_dec (fun z => by omega) (fun _ => ⟨_, rfl, rfl⟩)⟩
  · rintro σ H' ⟨t4, rfl, rfl⟩
    refine ⟨_, rfl, a, _, dx, _, _, rfl, h1, TR.cl, TR.nE, rfl, dE, ob, _, rfl, h4, h5, _, rfl, _, rfl, (by show 2 ≤ sizeLine; decide), fun T5 hT5 => ?_⟩
    have s5 := up_same (o := .tup [.str x, .ref c]) hT5
    refine ⟨_, rfl, a, _, dx, _, _, rfl, s5 _ _ h1, TR.cl, TR.nO, rfl, T5, ob, _, rkey (x, l, 0), rfl, s5 _ _ h4, h5.mono (Stay.of s5), NK.of (SqT.of upd_same) (Same.sqt s5 hc), ?_⟩
    have e : (valV (tabKV d.rws) (rkey (x, l, 0))).getD (.int (d.rest : Nat)) = .int (stepF d x l : Nat) := by
      rw [valV_tab]
      unfold stepF
      cases d.rws.find? (fun r => decide (rkey r = rkey (x, l, 0))) <;> rfl
    rw [e]
    exact hq _ s5
end
end Sy
namespace Sy
open PySem PySem.Spec PyProof.Rows L2
/-- the rows of _turns -/
def turnsL (k : Str) (l : List Swp) : List (Str × Int) := (k, 0) :: (l.filter fun s => decide (s.1 = k)).map fun s => s.2
/-- what a swap costs -/
def swp (l : List Swp) (x y : Str) : Option Int := if x = y then some 0 else (l.find? fun s => decide (s.1 = x ∧ s.2.1 = y)).map fun s => s.2.2
theorem swp_eq (l : List Swp) (x : Str) : swp l x x = some 0 := if_pos rfl
section
variable {P : Program} {w : World} {K : PySem.W.Frag} {mg : Str → Option Value} {base : Heap}
def TuAt (K : PySem.W.Frag) (H : Hp) (q : Addr) (s : Str × Int) : Prop := SqT K H q [.str s.1, .int s.2]
def spTurns (K : PySem.W.Frag) : Sp := fun vs H Q _ => ∃ (a b : Addr) (c : Int) (rows : List Sy.Row) (sws : List Swp) (k : Str), vs = [.ref a, .str k] ∧ PrcAt K H a b c rows sws ∧ sws.length ≤ 1000 ∧
  ∀ H' p ps, Same H H' → H' p = some (.lst (ps.map V.ref)) → Paired (TuAt K H') ps (turnsL k sws) → Q (.ref p) H'
abbrev N_turns : List Str := ["prices", "kind", "rows", "start", "result", "cost"]
theorem sc_turns : FnScope N_turns ["prices", "kind"] (defScope (top 44)) := ⟨rfl, rfl, rfl, by decide +kernel, rfl, by decide +kernel, by decide +kernel⟩
theorem k_turns (T : Txt K mg) (TP : TxtP K mg) (F : DF K mg "_turns" 44) : Cal P w K mg base 1 "_turns" ["prices", "kind"] (spTurns K) := by
  refine cal_of F.1 F.2 sc_turns (fun _ _ _ _ _ _ us e => match us, e with | [_, _], _ => rfl) (fun vs H Q E s => by obtain ⟨_, _, _, _, _, _, rfl, _⟩ := s; rfl) ?_
  intro cdv A outer s H vs Q E hr h
  obtain ⟨a, b, c, rows, sws, k, rfl, hp, hsl, hq⟩ := h
  have sc := sc_turns
  obtain ⟨dx, t, ps, h1, h2, h3, h4⟩ := id hp.ex
  have hpl := paired_len h4
  refine ⟨_, (pss_cons (ps_set (i := 2) sc.nd rfl (Or.inl rfl) (pe_lst (pa_cons (pe_tup (pa_cons (pv 1) (pa_cons pe_int pa_nil))) pa_nil)))
      (pss_cons (ps_for (passes_of rfl) rfl (pi_tup (pe_fld (pv 0) rfl)) (pg_tup rfl (pgs_cons (pg_name (i := 3) sc.nd rfl (Or.inl rfl)) (pgs_cons (pg_name (i := 4) sc.nd rfl (Or.inl rfl)) (pgs_cons (pg_name (i := 5) sc.nd rfl (Or.inl rfl)) pgs_nil))))
        (pss_one (ps_if (pt_cmpR op_eq (pv 3) (pv 1) (nomark _))
          (pss_one (ps_expr (pe_bm PySem.F.plainAttrs_list PySem.F.slot_list_append PySem.F.type_list_append mt_append (pv 2) (pa_cons (pe_tup (pa_cons (pv 4) (pa_cons (pv 5) pa_nil))) pa_nil))))
          pss_nil)))
      (pss_one (ps_ret (pv 2))))), ?_⟩
  refine ⟨_, rfl, (by show 2 ≤ sizeLine; decide), fun T0 hT0 => ⟨(by show 1 ≤ sizeLine; decide), fun D hD => ?_⟩⟩
  have k1 := ((Hs.start H).tup (o := .tup [.str k, .int 0]) hT0).new (o := .lst [.ref T0]) hD
  have sB1 : Same H (upd H T0 (.tup [.str k, .int 0])) := up_same hT0
  refine ⟨_, rfl, a, _, dx, _, _, rfl, (k1.sub _ _ (sB1 _ _ h1)), TP.cl, TP.nS, rfl, t, rfl, ⟨_, Same.sqt (sB1.trans k1.sub) h3⟩, for_tup (K := K) (a := t) (xs := ps.map V.ref)
    (fun i σ H' => ∃ t3 t4 t5 B qs, σ = [some (.ref a), some (.str k), some (.ref D), t3, t4, t5] ∧ Same H B ∧ Hs B [(D, .lst (qs.map V.ref))] H' ∧ Paired (TuAt K B) qs (turnsL k (sws.take i)))
    ⟨none, none, none, _, [T0], rfl, sB1, k1, .cons (SqT.of upd_same) .nil⟩ (fun _ _ _ _ ⟨_, _, _, _, _, _, s, z, _⟩ => Same.sqt (s.trans z.sub) h3) ?_ ?_⟩
  · rintro i v σ H1 hv ⟨t3, t4, t5, B, qs, rfl, sB, hh, hP⟩
    obtain ⟨q, eq, rfl⟩ := map_at hv
    have hi : i < sws.length := by rw [← hpl]; exact (List.getElem?_eq_some_iff.mp eq).1
    obtain ⟨sw, hsw⟩ : ∃ z, sws[i]? = some z := ⟨_, List.getElem?_eq_getElem hi⟩
    obtain ⟨q2, eq2, tq⟩ := paired_at h4 hsw
    rw [eq] at eq2
    cases eq2
    have tq : SqT K H1 q [.str sw.1, .str sw.2.1, .int sw.2.2] := Same.sqt (sB.trans hh.sub) tq
    have etk : sws.take (i + 1) = sws.take i ++ [sw] := by rw [List.take_succ, hsw]; rfl
    have hlq := paired_len hP
    have hfl := List.length_filter_le (fun s : Swp => decide (s.1 = k)) (sws.take i)
    rw [turnsL, List.length_cons, List.length_map] at hlq
    rw [List.length_take] at hfl
    refine ⟨q, _, rfl, tq, rfl, _, _, rfl, _, _, rfl, _, _, rfl, rfl, _, rfl, _, rfl, rfl, _, rfl, if_dec (fun c1 => ?_) (fun c1 => ?_)⟩
    · have c1 := V.str.inj c1
      refine ⟨_, rfl, .inl ⟨rfl, _, SqL.of hh.r0⟩, _, rfl, _, rfl, (by show 2 ≤ sizeLine; decide), fun T1 hT1 => ?_⟩
      have h5 := hh.tup (o := .tup [.str sw.2.1, .int sw.2.2]) hT1
      have s5 : Same B (upd B T1 (.tup [.str sw.2.1, .int sw.2.2])) := up_same (hh.sub.free hT1)
      refine ⟨D, _, _, rfl, rfl, h5.r0, by rw [List.length_map, sizeLine_eq]; omega, _, _, _, _, qs ++ [T1], rfl, sB.trans s5, by rw [List.map_append]; exact h5.w0, ?_⟩
      rw [etk, turnsL, List.filter_append, List.map_append]
      have : [sw].filter (fun s : Swp => decide (s.1 = k)) = [sw] := by simp [c1]
      rw [this, ← List.cons_append]
      exact Paired.snoc (Paired.mapP hP fun _ _ z => Same.sqt s5 z) (SqT.of upd_same)
    · have c1 : ¬ sw.1 = k := fun z => c1 (by rw [z])
      refine ⟨_, _, _, B, qs, rfl, sB, hh, ?_⟩
      rw [etk, turnsL, List.filter_append]
      have : [sw].filter (fun s : Swp => decide (s.1 = k)) = [] := by simp [c1]
      rw [this, List.append_nil]
      exact hP
  · rintro σ H1 ⟨t3, t4, t5, B, qs, rfl, sB, hh, hP⟩
    rw [List.length_map, hpl, List.take_length] at hP
    exact ⟨_, rfl, hq H1 D qs (sB.trans hh.sub) hh.r0 (Paired.mapP hP fun _ _ z => Same.sqt hh.sub z)⟩
end
end Sy
namespace Sy
open PySem PySem.Spec PyProof.Rows L2
/-- swaps that a Prices object has -/
structure SwsOk (rows : List Sy.Row) (l : List Swp) : Prop where
  ok : ∀ s ∈ l, swOk rows s = true
  nd : (l.map pr2).Nodup
theorem swOk_i {rows : List Sy.Row} {s : Swp} (h : swOk rows s = true) : isK rows s.1 = true ∧ isK rows s.2.1 = true ∧ s.1 ≠ s.2.1 ∧ ar rows s.1 = ar rows s.2.1 ∧ prOk s.2.2 = true := by
  unfold swOk at h
  simp only [Bool.and_eq_true, Bool.not_eq_true', decide_eq_true_eq, decide_eq_false_iff_not] at h
  exact ⟨h.1, h.2.1, h.2.2.1, h.2.2.2.1, h.2.2.2.2⟩
theorem prScan_none {rows : List Sy.Row} : ∀ {l : List Swp} {sn : List (Str × Str)} {i : Nat}, prScan rows sn i l = none → sn.Nodup → (∀ s ∈ l, swOk rows s = true) ∧ (sn ++ l.map pr2).Nodup
  | [], sn, _, _, hn => ⟨fun _ z => (nomatch z), by rw [List.map_nil, List.append_nil]; exact hn⟩
  | s :: l, sn, i, h, hn => by
    rw [prScan] at h
    split at h
    · rename_i c
      have hn2 : (sn ++ [(s.1, s.2.1)]).Nodup := List.nodup_append.mpr ⟨hn, by simp, fun a ha b hb => by rw [List.mem_singleton.mp hb]; exact fun z => c.2 (z ▸ ha)⟩
      obtain ⟨h1, h2⟩ := prScan_none h hn2
      refine ⟨fun q hq => (List.mem_cons.mp hq).elim (fun e => e ▸ c.1) (h1 q), ?_⟩
      rw [List.append_assoc] at h2
      exact h2
    · cases h
theorem SwsOk.of {rows : List Sy.Row} {c : Int} {l : List Swp} (h : prDue rows c l = none) : SwsOk rows l ∧ prOk c = true := by
  unfold prDue at h
  split at h
  · rename_i hc
    have h2 : prScan rows [] 0 l = none := by
      cases e : prScan rows [] 0 l with
      | none => rfl
      | some i => rw [e] at h; cases h
    obtain ⟨h3, h4⟩ := prScan_none h2 List.nodup_nil
    exact ⟨⟨h3, by simpa using h4⟩, hc⟩
  · cases h
/-- the last of the pairs with this name -/
def lastL (l : List (Str × Int)) (y : Str) : Option Int := l.foldl (fun acc p => if p.1 = y then some p.2 else acc) none
theorem lastL_snoc (l : List (Str × Int)) (p : Str × Int) (y : Str) : lastL (l ++ [p]) y = if p.1 = y then some p.2 else lastL l y := by
  unfold lastL
  rw [List.foldl_append]
  rfl
theorem fold_find (k y : Str) : ∀ (l : List Swp) (acc : Option Int), (l.map pr2).Nodup →
    ((l.filter fun s => decide (s.1 = k)).map fun s => s.2).foldl (fun acc p => if p.1 = y then some p.2 else acc) acc = match l.find? fun s => decide (s.1 = k ∧ s.2.1 = y) with
      | some s => some s.2.2
      | none => acc
  | [], acc, _ => rfl
  | s :: l, acc, h => by
    rw [List.map_cons, List.nodup_cons] at h
    by_cases c : s.1 = k
    · rw [List.filter_cons, if_pos (by simpa using c), List.map_cons, List.foldl_cons, fold_find k y l _ h.2]
      by_cases d : s.2.1 = y
      · rw [if_pos d, List.find?_cons, show decide (s.1 = k ∧ s.2.1 = y) = true by simp [c, d]]
        have : l.find? (fun s => decide (s.1 = k ∧ s.2.1 = y)) = none := by
          rw [List.find?_eq_none]
          intro q hq z
          have z := of_decide_eq_true z
          exact h.1 (List.mem_map.mpr ⟨q, hq, by unfold pr2; rw [z.1, z.2, c, d]⟩)
        rw [this]
      · rw [if_neg d, List.find?_cons, show decide (s.1 = k ∧ s.2.1 = y) = false by simp [d]]
    · rw [List.filter_cons, if_neg (by simpa using c), fold_find k y l _ h.2, List.find?_cons, show decide (s.1 = k ∧ s.2.1 = y) = false by simp [c]]
theorem lastL_turns {rows : List Sy.Row} {l : List Swp} (h : SwsOk rows l) (k y : Str) : lastL (turnsL k l) y = swp l k y := by
  unfold lastL turnsL swp
  rw [List.foldl_cons, fold_find k y l _ h.nd]
  by_cases c : k = y
  · subst c
    rw [if_pos rfl, if_pos rfl]
    have : l.find? (fun s => decide (s.1 = k ∧ s.2.1 = k)) = none := by
      rw [List.find?_eq_none]
      intro q hq z
      have z := of_decide_eq_true z
      exact (swOk_i (h.ok q hq)).2.2.1 (by rw [z.1, z.2])
    rw [this]
  · rw [if_neg c, if_neg c]
    cases l.find? (fun s => decide (s.1 = k ∧ s.2.1 = y)) with
    | none => rfl
    | some s => rfl
/-- between places of two plants -/
def swF (l : List Swp) (a b : List Str) (i j : Nat) : Option Int := match a[i]?, b[j]? with
  | some x, some y => swp l x y
  | _, _ => none
theorem swF_at {l : List Swp} {a b : List Str} {i j : Nat} {x y : Str} (h : a[i]? = some x) (g : b[j]? = some y) : swF l a b i j = swp l x y := by
  unfold swF
  rw [h, g]
theorem swp_ar {rows : List Sy.Row} {l : List Swp} (h : SwsOk rows l) {x y : Str} (e : (swp l x y).isSome = true) : ar rows x = ar rows y := by
  unfold swp at e
  split at e
  · rename_i c
    rw [c]
  · cases e2 : l.find? (fun s => decide (s.1 = x ∧ s.2.1 = y)) with
    | none => rw [e2] at e; cases e
    | some s =>
      have hm := List.mem_of_find?_eq_some e2
      have hz : s.1 = x ∧ s.2.1 = y := by simpa using List.find?_some e2
      have := (swOk_i (h.ok s hm)).2.2.2.1
      rw [hz.1, hz.2] at this
      exact this
theorem swF_ar {rows : List Sy.Row} {l : List Swp} {a b : List Str} (h : SwsOk rows l) : ∀ i j, i < (wt rows a).length → j < (wt rows b).length → (swF l a b i j).isSome = true → aw (wt rows a) i = aw (wt rows b) j := by
  intro i j hi hj e
  rw [wt_len] at hi hj
  obtain ⟨x, hx⟩ : ∃ x, a[i]? = some x := ⟨_, List.getElem?_eq_getElem hi⟩
  obtain ⟨y, hy⟩ : ∃ y, b[j]? = some y := ⟨_, List.getElem?_eq_getElem hj⟩
  rw [swF_at hx hy] at e
  rw [wt_at hx, wt_at hy]
  exact swp_ar h e
/-- the price, as it is told -/
def prF (rows : List Sy.Row) (l : List Swp) (c : Int) (a b : List Str) : Option Int := prO (wt rows a) (wt rows b) (swF l a b) c 0 0
def oV : Option Int → V
  | none => .non
  | some c => .int c
theorem sqt_cut {K : PySem.W.Frag} {H : Hp} {L : List (Addr × HO)} {a : Addr} {xs : List V} (hs : ∀ q ∈ L, H q.1 = some q.2) (nt : ∀ q ∈ L, (∀ xs, q.2 ≠ .tup xs) ∧ ∀ o u, q.2 ≠ .frz o u) (h : SqT K H a xs) : SqT K (cut L H) a xs := by
  have out : ∀ o, H a = some o → ((∃ xs, o = .tup xs) ∨ ∃ b u, o = .frz b u) → a ∉ L.map (·.1) := fun o e c hm => by
    obtain ⟨q, hq, rfl⟩ := List.mem_map.mp hm
    have := hs q hq
    rw [e] at this
    have := Option.some.inj this
    rcases c with ⟨xs, rfl⟩ | ⟨b, u, rfl⟩
    · exact (nt q hq).1 _ this.symm
    · exact (nt q hq).2 _ _ this.symm
  rcases h with (h | ⟨o, h⟩) | h
  · exact .inl (.inl (by rw [cut_at (out _ h (.inl ⟨_, rfl⟩))]; exact h))
  · exact .inl (.inr ⟨o, by rw [cut_at (out _ h (.inr ⟨_, _, rfl⟩))]; exact h⟩)
  · exact .inr h
theorem cut_lst {H : Hp} {d r : Addr} {kvs : List (List Key × V)} {xs : List V} (hd : H d = some (.dT kvs)) (hr : H r = some (.lst xs)) : cut [(d, .dT kvs)] H r = some (.lst xs) := by
  rw [cut_at]
  · exact hr
  · intro hm
    have : r = d := by simpa using hm
    subst this
    rw [hd] at hr
    cases hr
/-- pairs of places -/
def PpAt (K : PySem.W.Frag) (H : Hp) (q : Addr) (p : Nat × Nat) : Prop := SqT K H q [.int (p.1 : Nat), .int (p.2 : Nat)]
theorem paired_init {α β : Type} {R : α → β → Prop} : ∀ {xs : List α} {ys : List β} {x : α} {y : β}, Paired R (xs ++ [x]) (ys ++ [y]) → Paired R xs ys
  | [], [], _, _, _ => .nil
  | [], _ :: ys, _, _, .cons _ b => by
    have := paired_len b
    simp at this
  | _ :: xs, [], _, _, .cons _ b => by
    have := paired_len b
    simp at this
  | _ :: _, _ :: _, _, _, .cons a b => .cons a (paired_init b)
theorem zip_range {α β : Type} (f : Nat → α) (g : Nat → β) (n m : Nat) : ((List.range n).map f).zip ((List.range m).map g) = (List.range (min n m)).map fun k => (f k, g k) := by
  apply List.ext_getElem?
  intro i
  by_cases h : i < min n m
  · rw [List.getElem?_map, List.getElem?_range h]
    show _ = some (f i, g i)
    rw [List.getElem?_zip_eq_some, List.getElem?_map, List.getElem?_map, List.getElem?_range (by omega), List.getElem?_range (by omega)]
    exact ⟨rfl, rfl⟩
  · rw [List.getElem?_eq_none (by rw [List.length_zip, List.length_map, List.length_map, List.length_range, List.length_range]; omega), List.getElem?_eq_none (by rw [List.length_map, List.length_range]; omega)]
theorem kid_zip (w w2 : List Nat) (i j : Nat) : (kidsN w i).zip (kidsN w2 j) = kdP w w2 i j := zip_range _ _ _ _
/-- for x in zip(t, u), the pair kept -/
theorem for_zipN {K : PySem.W.Frag} {a b : Addr} {xs ys : List V} {si : Nat} {tb : TS} {D : Ends} {σ : L2.St} {H : Hp} (Pv : Nat → L2.St → Hp → Prop) (h0 : Pv 0 σ H) (hq : ∀ i σ H, Pv i σ H → SqT K H a xs ∧ SqT K H b ys)
    (hs : ∀ (i : Nat) (x y : V) (T : Addr) (σ : L2.St) (H : Hp), xs[i]? = some x → ys[i]? = some y → Pv i σ H → H T = none → tb { D with nx := Pv (i + 1), ct := Pv (i + 1), bk := D.nx } (σ.set si (some (.ref T))) (upd H T (.tup [x, y]))) (hd : ∀ σ H, Pv (min xs.length ys.length) σ H → D.nx σ H) :
    Loop (RZ.ItzT K a b) (gName si) tb D σ H := by
  refine ⟨fun i m σ H => m = min xs.length ys.length - i ∧ i ≤ min xs.length ys.length ∧ Pv i σ H, ⟨_, rfl, Nat.zero_le _, h0⟩, ?_⟩
  rintro i m σ H ⟨rfl, hi, p⟩
  obtain ⟨qx, qy⟩ := hq i σ H p
  by_cases hlt : i < min xs.length ys.length
  · obtain ⟨x, hx⟩ : ∃ x, xs[i]? = some x := ⟨_, List.getElem?_eq_getElem (by omega)⟩
    obtain ⟨y, hy⟩ : ∃ y, ys[i]? = some y := ⟨_, List.getElem?_eq_getElem (by omega)⟩
    refine .inr ⟨⟨xs, ys, _, _, qx, qy, hx, hy⟩, Pv (i + 1), fun σ' H' p' => ⟨min xs.length ys.length - (i + 1), by omega, rfl, hlt, p'⟩, fun v H' yy => ?_⟩
    obtain ⟨T, x', y', rfl, hT, rfl, f1, f2⟩ := yy
    exact hs i x' y' T σ H (f1 xs qx) (f2 ys qy) p hT
  · have e : i = min xs.length ys.length := by omega
    subst e
    exact .inl ⟨⟨xs, ys, qx, qy, by omega⟩, hd σ H p⟩
def sBody : Stmt → List Stmt
  | .For _ _ b _ _ => b
  | .If _ b _ _ => b
  | .While _ b _ _ => b
  | _ => []
theorem kd_snoc {n : Nat} {f : Nat → Nat × Nat} : (List.range (n + 1)).map f = (List.range n).map f ++ [f n] := by rw [List.range_succ, List.map_append]; rfl
end Sy
/-! the cheapest change: plain mathematics -/
namespace Sy
open PySem PySem.Spec PyProof.Rows L2 PySem.W
theorem rk_isK (x : Str) : ∀ (n : Nat) (rows : List Sy.Row), isK rows x = true → ∃ m, rk n rows x = some m
  | n, [], h => by simp [isK] at h
  | n, r :: rs, h => by
    rw [isK, lookup_cons] at h
    rw [rk]
    by_cases c : r.1 = x
    · exact ⟨n, by rw [if_pos c]⟩
    · rw [if_neg c] at h ⊢
      exact rk_isK x (n + 1) rs h
def rkD (rows : List Sy.Row) (x : Str) : Nat := (rk 0 rows x).getD rows.length
/-- a price and a plant's ranks -/
abbrev Val : Type := Int × List Nat
def rlt : List Nat → List Nat → Bool
  | [], [] => false
  | [], _ :: _ => true
  | _ :: _, [] => false
  | a :: l, b :: m => if a = b then rlt l m else decide (a < b)
def vlt (a b : Val) : Bool := if a.1 = b.1 then (if a.2.length = b.2.length then rlt a.2 b.2 else decide (a.2.length < b.2.length)) else decide (a.1 < b.1)
theorem rlt_irr : ∀ l : List Nat, rlt l l = false
  | [] => rfl
  | a :: l => by rw [rlt, if_pos rfl, rlt_irr l]
theorem rlt_trans : ∀ {a b c : List Nat}, rlt a b = true → rlt b c = true → rlt a c = true
  | [], [], _, h, _ => by cases h
  | [], _ :: _, [], _, h => by cases h
  | [], _ :: _, _ :: _, _, _ => rfl
  | _ :: _, [], _, h, _ => by cases h
  | _ :: _, _ :: _, [], _, h => by cases h
  | x :: a, y :: b, z :: c, h, g => by
    rw [rlt] at h g ⊢
    by_cases e : x = y
    · subst e
      rw [if_pos rfl] at h
      by_cases f : x = z
      · rw [if_pos f] at g ⊢
        exact rlt_trans h g
      · rw [if_neg f] at g ⊢
        exact g
    · rw [if_neg e] at h
      by_cases f : y = z
      · subst f
        rw [if_neg e]
        exact h
      · rw [if_neg f] at g
        have h := of_decide_eq_true h
        have g := of_decide_eq_true g
        rw [if_neg (by omega)]
        exact decide_eq_true (by omega)
theorem rlt_tri : ∀ {a b : List Nat}, rlt a b = false → rlt b a = false → a = b
  | [], [], _, _ => rfl
  | [], _ :: _, h, _ => by cases h
  | _ :: _, [], _, h => by cases h
  | x :: a, y :: b, h, g => by
    rw [rlt] at h g
    by_cases e : x = y
    · subst e
      rw [if_pos rfl] at h g
      rw [rlt_tri h g]
    · rw [if_neg e] at h
      rw [if_neg (fun z => e z.symm)] at g
      have h := of_decide_eq_false h
      have g := of_decide_eq_false g
      omega
theorem vlt_irr (a : Val) : vlt a a = false := by unfold vlt; rw [if_pos rfl, if_pos rfl, rlt_irr]
theorem vlt_trans {a b c : Val} (h : vlt a b = true) (g : vlt b c = true) : vlt a c = true := by
  unfold vlt at h g ⊢
  by_cases e : a.1 = b.1
  · rw [if_pos e] at h
    by_cases f : b.1 = c.1
    · rw [if_pos f] at g
      rw [if_pos (e.trans f)]
      by_cases e2 : a.2.length = b.2.length
      · rw [if_pos e2] at h
        by_cases f2 : b.2.length = c.2.length
        · rw [if_pos f2] at g
          rw [if_pos (e2.trans f2)]
          exact rlt_trans h g
        · rw [if_neg f2] at g
          rw [if_neg (by omega)]
          have g := of_decide_eq_true g
          exact decide_eq_true (by omega)
      · rw [if_neg e2] at h
        have h := of_decide_eq_true h
        by_cases f2 : b.2.length = c.2.length
        · rw [if_neg (by omega)]
          exact decide_eq_true (by omega)
        · rw [if_neg f2] at g
          have g := of_decide_eq_true g
          rw [if_neg (by omega)]
          exact decide_eq_true (by omega)
    · rw [if_neg f] at g
      rw [if_neg (by rw [e]; exact f), e]
      exact g
  · rw [if_neg e] at h
    have h := of_decide_eq_true h
    by_cases f : b.1 = c.1
    · rw [if_neg (by rw [← f]; exact e), ← f]
      exact decide_eq_true h
    · rw [if_neg f] at g
      have g := of_decide_eq_true g
      rw [if_neg (by omega)]
      exact decide_eq_true (by omega)
theorem vlt_tri {a b : Val} (h : vlt a b = false) (g : vlt b a = false) : a = b := by
  unfold vlt at h g
  by_cases e : a.1 = b.1
  · rw [if_pos e] at h
    rw [if_pos e.symm] at g
    by_cases e2 : a.2.length = b.2.length
    · rw [if_pos e2] at h
      rw [if_pos e2.symm] at g
      exact Prod.ext e (rlt_tri h g)
    · rw [if_neg e2] at h
      rw [if_neg (fun z => e2 z.symm)] at g
      have h := of_decide_eq_false h
      have g := of_decide_eq_false g
      omega
  · rw [if_neg e] at h
    rw [if_neg (fun z => e z.symm)] at g
    have h := of_decide_eq_false h
    have g := of_decide_eq_false g
    omega
/-! the best for each state -/
abbrev Tab : Type := Nat → Option Val
def best1 (T : Tab) (s : Nat) (v : Val) : Tab := fun s' => if s' = s then (match T s with
  | none => some v
  | some o => if vlt v o = true then some v else some o) else T s'
structure IsB (T : Tab) (C : Nat → Val → Prop) : Prop where
  mem : ∀ s v, T s = some v → C s v
  le : ∀ s v, C s v → ∃ o, T s = some o ∧ vlt v o = false
theorem IsB.uniq {T T' : Tab} {C : Nat → Val → Prop} (h : IsB T C) (g : IsB T' C) : T = T' := by
  funext s
  cases e : T s with
  | none =>
    cases f : T' s with
    | none => rfl
    | some v =>
      obtain ⟨o, eo, _⟩ := h.le s v (g.mem s v f)
      rw [e] at eo
      cases eo
  | some v =>
    obtain ⟨o, eo, lo⟩ := g.le s v (h.mem s v e)
    obtain ⟨o', eo', lo'⟩ := h.le s o (g.mem s o eo)
    rw [e] at eo'
    cases eo'
    rw [eo, vlt_tri lo lo']
theorem IsB.congr {T : Tab} {C C' : Nat → Val → Prop} (h : IsB T C) (e : ∀ s v, C s v ↔ C' s v) : IsB T C' := ⟨fun s v z => (e s v).mp (h.mem s v z), fun s v z => h.le s v ((e s v).mpr z)⟩
theorem IsB.empty : IsB (fun _ => none) (fun _ _ => False) := ⟨fun _ _ z => (nomatch z), fun _ _ z => z.elim⟩
theorem IsB.step {T : Tab} {C : Nat → Val → Prop} (h : IsB T C) (s : Nat) (v : Val) : IsB (best1 T s v) (fun s' v' => C s' v' ∨ (s' = s ∧ v' = v)) := by
  refine ⟨fun s' v' z => ?_, fun s' v' z => ?_⟩
  · unfold best1 at z
    by_cases c : s' = s
    · rw [if_pos c] at z
      cases e : T s with
      | none =>
        rw [e] at z
        exact .inr ⟨c, (Option.some.inj z).symm⟩
      | some o =>
        rw [e] at z
        simp only at z
        by_cases d : vlt v o = true
        · rw [if_pos d] at z
          exact .inr ⟨c, (Option.some.inj z).symm⟩
        · rw [if_neg d] at z
          have := Option.some.inj z
          subst this
          exact .inl (by rw [c]; exact h.mem s o e)
    · rw [if_neg c] at z
      exact .inl (h.mem s' v' z)
  · unfold best1
    by_cases c : s' = s
    · rw [if_pos c]
      cases e : T s with
      | none =>
        rcases z with z | ⟨_, rfl⟩
        · obtain ⟨o, eo, _⟩ := h.le s' v' z
          rw [c, e] at eo
          cases eo
        · exact ⟨_, rfl, vlt_irr _⟩
      | some o =>
        simp only
        by_cases d : vlt v o = true
        · rw [if_pos d]
          refine ⟨v, rfl, ?_⟩
          rcases z with z | ⟨_, rfl⟩
          · obtain ⟨o', eo, lo⟩ := h.le s' v' z
            rw [c, e] at eo
            cases eo
            cases f : vlt v' v with
            | false => rfl
            | true => rw [vlt_trans f d] at lo; cases lo
          · exact vlt_irr _
        · rw [if_neg d]
          refine ⟨o, rfl, ?_⟩
          rcases z with z | ⟨_, rfl⟩
          · obtain ⟨o', eo, lo⟩ := h.le s' v' z
            rw [c, e] at eo
            cases eo
            exact lo
          · simpa using d
    · rw [if_neg c]
      rcases z with z | ⟨z, _⟩
      · exact h.le s' v' z
      · exact absurd z c
/-! what may come out of a knot -/
abbrev Pick : Type := List (Nat × Val)
def pkS (ps : Pick) : List Nat := ps.map (·.1)
def pkC (ps : Pick) : Int := (ps.map (·.2.1)).sum
def pkR (ps : Pick) : List Nat := (ps.map (·.2.2)).flatten
abbrev PkOk : List Tab → Pick → Prop := Paired fun T p => T p.1 = some p.2
def CutC (rows : List Sy.Row) (d : Rdr) (c : Int) : Nat → Val → Prop := fun s v => ∃ k, isK rows k = true ∧ ar rows k = 0 ∧ s = stepF d k [] ∧ v = (c, [rkD rows k])
def StepC (rows : List Sy.Row) (sws : List Swp) (d : Rdr) (x : Str) (Ts : List Tab) : Nat → Val → Prop := fun s v => ∃ y more ps, (y, more) ∈ turnsL x sws ∧ PkOk Ts ps ∧ s = stepF d y (pkS ps) ∧ v = (more + pkC ps, rkD rows y :: pkR ps)
def Cand (rows : List Sy.Row) (sws : List Swp) (d : Rdr) (c : Int) (x : Str) (Ts : List Tab) : Nat → Val → Prop := fun s v => CutC rows d c s v ∨ StepC rows sws d x Ts s v
theorem pkC_snoc (ps : Pick) (p : Nat × Val) : pkC (ps ++ [p]) = pkC ps + p.2.1 := by
  unfold pkC
  rw [List.map_append, List.sum_append]
  simp
theorem pkR_snoc (ps : Pick) (p : Nat × Val) : pkR (ps ++ [p]) = pkR ps ++ p.2.2 := by
  unfold pkR
  rw [List.map_append, List.flatten_append]
  simp
theorem pkS_snoc (ps : Pick) (p : Nat × Val) : pkS (ps ++ [p]) = pkS ps ++ [p.1] := by
  unfold pkS
  rw [List.map_append]
  rfl
/-- tables of all knots -/
def TbOk (rows : List Sy.Row) (sws : List Swp) (d : Rdr) (c : Int) (l : List Str) (i : Nat) (tb : Nat → Tab) : Prop := ∀ j x, i ≤ j → l[j]? = some x → IsB (tb j) (Cand rows sws d c x ((kidsN (wt rows l) j).map tb))
/-! as data -/
def vD (v : Val) : PyData := .tuple [.int v.1, .int ((v.2.length : Nat) : Int), .tuple (v.2.map fun n => .int ((n : Nat) : Int))]
theorem toks_rlt : ∀ l m : List Nat, lexLt itemOrd (keyToksAll (l.map fun n => PyData.int ((n : Nat) : Int))) (keyToksAll (m.map fun n => PyData.int ((n : Nat) : Int))) = rlt l m
  | [], [] => by rfl
  | [], b :: m => by rfl
  | a :: l, [] => by rfl
  | a :: l, b :: m => by
    rw [List.map_cons, List.map_cons, rlt]
    by_cases e : a = b
    · subst e
      rw [if_pos rfl, dataLt_all_yes rfl (by simp [PyData.eqv])]
      exact toks_rlt l m
    · rw [if_neg e, dataLt_all_no rfl (by
        have : ¬ ((a : Int) = (b : Int)) := by omega
        simp [PyData.eqv, this]), dataLt_int]
      by_cases f : a < b
      · rw [decide_eq_true f, decide_eq_true (by omega)]
      · rw [decide_eq_false f, decide_eq_false (by omega)]
theorem alike_ints : ∀ l m : List Nat, alikeAll (l.map fun n => PyData.int ((n : Nat) : Int)) (m.map fun n => PyData.int ((n : Nat) : Int)) = true
  | [], [] => rfl
  | [], _ :: _ => rfl
  | _ :: _, [] => rfl
  | a :: l, b :: m => by
    rw [List.map_cons, List.map_cons, alikeAll, alike_ints l m]
    rfl
theorem vD_alike (a b : Val) : alike (vD a) (vD b) = true := by
  unfold vD
  simp only [alike, alikeAll, alike_ints, Bool.and_true]
theorem vD_lt (a b : Val) : dataLt (vD a) (vD b) = vlt a b := by
  unfold vD vlt
  rw [dataLt_tuple]
  by_cases e : a.1 = b.1
  · rw [if_pos e, dataLt_all_yes rfl (by simp [PyData.eqv, e])]
    by_cases f : a.2.length = b.2.length
    · rw [if_pos f, dataLt_all_yes rfl (by simp [PyData.eqv, f])]
      by_cases g : PyData.eqv (.tuple (a.2.map fun n => PyData.int ((n : Nat) : Int))) (.tuple (b.2.map fun n => PyData.int ((n : Nat) : Int))) = true
      · rw [dataLt_all_yes (by simp only [alike]; exact alike_ints _ _) g]
        have := (toks_eqv _ _ (by simp only [alike]; exact alike_ints a.2 b.2)).1 g
        have h2 : dataLt (.tuple (a.2.map fun n => PyData.int ((n : Nat) : Int))) (.tuple (b.2.map fun n => PyData.int ((n : Nat) : Int))) = false := by
          unfold dataLt
          rw [this]
          exact lex_irrefl _
        rw [dataLt_tuple, toks_rlt] at h2
        rw [h2]
        rfl
      · have g : PyData.eqv (.tuple (a.2.map fun n => PyData.int ((n : Nat) : Int))) (.tuple (b.2.map fun n => PyData.int ((n : Nat) : Int))) = false := by simpa using g
        rw [dataLt_all_no (by simp only [alike]; exact alike_ints _ _) g, dataLt_tuple, toks_rlt]
    · rw [if_neg f, dataLt_all_no rfl (by
        have : ¬ ((a.2.length : Int) = (b.2.length : Int)) := by omega
        simp [PyData.eqv, this]), dataLt_int]
      by_cases g : a.2.length < b.2.length
      · rw [decide_eq_true g, decide_eq_true (by omega)]
      · rw [decide_eq_false g, decide_eq_false (by omega)]
  · rw [if_neg e, dataLt_all_no rfl (by simp [PyData.eqv, e]), dataLt_int]
end Sy
/-! < of data, min of a list of data (own rules over the library's) -/
namespace Sy
open PySem PySem.Spec PyProof.Rows L2 PySem.W
def rLtD (K : PySem.W.Frag) : R2 := fun x y H Q => ∃ d e, Dp K H x d ∧ Dp K H y e ∧ alike d e = true ∧ d ≠ .none ∧ d.depth ≤ 40 ∧ Q (.bl (dataLt d e)) H
theorem op_ltD {X : Cx} (hu : X.A.units + 65 < cLine) : OpR X (compareOp .Lt) (rLtD X.K) := by
  intro pins s σ H x y v u Q I rx ry h
  obtain ⟨d, e, hd, he, ha, hn, hl, q⟩ := h
  obtain ⟨as, r1⟩ := Dp.reads I d x v hd rx
  obtain ⟨bs, r2⟩ := Dp.reads I e y u he ry
  exact lt_data r1 r2 ha hn (by have := Nat.min_le_left d.depth e.depth; omega) ⟨.bl _, H, I, rfl, q⟩
theorem vals_get : ∀ {xs : List V} {us : List Value} {i : Nat} {u : Value}, Vals xs us → us[i]? = some u → ∃ x, xs[i]? = some x ∧ RelV x u
  | _, _, _, _, .nil, h => by simp at h
  | _, _, 0, _, .cons r _, h => by
    have := Option.some.inj h
    subst this
    exact ⟨_, rfl, r⟩
  | _, _, i + 1, _, .cons _ t, h => vals_get (i := i) t h
theorem dpAll_get {K : PySem.W.Frag} {H : Hp} : ∀ {xs : List V} {ds : List PyData} {i : Nat} {x : V}, DpAll K H xs ds → xs[i]? = some x → ∃ d, ds[i]? = some d ∧ Dp K H x d
  | _, _, _, _, .nil, h => by simp at h
  | _, _, 0, _, .cons r _, h => by
    have := Option.some.inj h
    subst this
    exact ⟨_, rfl, r⟩
  | _, _, i + 1, _, .cons _ t, h => dpAll_get (i := i) t h
/-- min(l): one of the items, its data the least -/
def rMinD (K : PySem.W.Frag) : List V → Hp → VK → Prop := fun xs H Q => ∃ (l : Addr) (items : List V) (d0 : PyData) (ds : List PyData), xs = [.ref l] ∧ SqL K H l items ∧ DpAll K H items (d0 :: ds) ∧ AlikeAll (d0 :: ds) ∧ PyData.depthAll (d0 :: ds) ≤ 40 ∧
  ∀ (i : Nat) (x : V), items[i]? = some x → (d0 :: ds)[i]? = some (minD d0 ds) → Q x H
theorem minD_mem : ∀ (ds : List PyData) (d : PyData), minD d ds ∈ d :: ds
  | [], d => List.mem_singleton.mpr rfl
  | e :: ds, d => by
    show minD (if dataLt e d then e else d) ds ∈ _
    have := minD_mem ds (if dataLt e d then e else d)
    rcases List.mem_cons.mp this with h | h
    · rw [h]
      split <;> simp
    · exact List.mem_cons_of_mem _ (List.mem_cons_of_mem _ h)
theorem call_minD {X : Cx} (hc : X.calm = true) (hu : X.A.units + 65 < cLine) : CallR X (.builtin "min") (rMinD X.K) := by
  intro pins s σ H xs us Q I r h
  obtain ⟨l, items, d0, ds, rfl, hl, hd, ha, hdep, q⟩ := h
  obtain ⟨u, rfl, rx⟩ := vals1 r
  obtain rfl : u = Value.ref l := rx
  obtain ⟨its, rv, pl, hz⟩ := I.list hl
  obtain ⟨as, hr⟩ := Dp.readsAll I (d0 :: ds) items its hd rv
  refine min_list_data (I.ok.hd hc) pl.isList (by simpa using hr) ha (by omega) fun i v h' tk bs hv hm k => ?_
  obtain ⟨x, hx, rxv⟩ := vals_get (i := i) rv (by simpa using hv)
  obtain ⟨d, hdi, hxd⟩ := dpAll_get hd hx
  obtain ⟨cs, hrd⟩ := Dp.reads I d x v hxd rxv
  have hmem := minD_mem ds d0
  have hdm := List.mem_of_getElem? hdi
  have : d = minD d0 ds := alike_unique d (minD d0 ds) v cs bs (ha.1 _ hdm _ hmem) (Reads.keeps k hrd) hm
  exact ⟨x, H, I.kept k, rxv, q i x hx (by rw [hdi, this])⟩
end Sy
/-! tables in the heap -/
namespace Sy
open PySem PySem.Spec PyProof.Rows L2 PySem.W
/-- a value of the program -/
def VAt (K : PySem.W.Frag) (H : Hp) (q : Addr) (v : Val) : Prop := ∃ b, SqT K H q [.int v.1, .int ((v.2.length : Nat) : Int), .ref b] ∧ SqT K H b (vN v.2)
theorem VAt.mono {K : PySem.W.Frag} {H H' : Hp} {q : Addr} {v : Val} (h : VAt K H q v) (s : Stay H H') : VAt K H' q v := by
  obtain ⟨b, h1, h2⟩ := h
  exact ⟨b, s.sqt h1, s.sqt h2⟩
abbrev Ent : Type := Nat × Addr × Val
def tabE (pr : List Ent) : List (Key × V) := pr.map fun z => (Sum.inl ((z.1 : Nat) : Int), V.ref z.2.1)
def lookP (pr : List Ent) : Tab := fun s => (pr.find? fun z => decide (z.1 = s)).map (·.2.2)
def putP (pr : List Ent) (s : Nat) (q : Addr) (v : Val) : List Ent := if (pr.any fun z => decide (z.1 = s)) = true then pr.map fun z => if z.1 = s then (s, q, v) else z else pr ++ [(s, q, v)]
theorem valV_tabE (s : Nat) : ∀ pr : List Ent, valV (tabE pr) (Sum.inl ((s : Nat) : Int)) = (pr.find? fun z => decide (z.1 = s)).map fun z => V.ref z.2.1
  | [] => rfl
  | z :: pr => by
    have ih := valV_tabE s pr
    unfold tabE at ih ⊢
    rw [List.map_cons, List.find?_cons]
    by_cases c : z.1 = s
    · rw [valV_pos (by rw [c]), decide_eq_true c]
      rfl
    · rw [valV_neg (fun e => c (by injection e with e; omega)), ih, decide_eq_false c]
theorem any_tabE (s : Nat) : ∀ pr : List Ent, ((tabE pr).any fun kv => decide (kv.1 = Sum.inl ((s : Nat) : Int))) = pr.any fun z => decide (z.1 = s)
  | [] => rfl
  | z :: pr => by
    have ih := any_tabE s pr
    unfold tabE at ih ⊢
    rw [List.map_cons, List.any_cons, List.any_cons, ih]
    congr 1
    by_cases c : z.1 = s
    · simp [c]
    · have : ¬ ((Sum.inl ((z.1 : Nat) : Int) : Key) = Sum.inl ((s : Nat) : Int)) := fun e => c (by injection e with e; omega)
      simp [c, this]
theorem putK_tabE (pr : List Ent) (s : Nat) (q : Addr) (v : Val) : putK (tabE pr) (Sum.inl ((s : Nat) : Int)) (V.ref q) = tabE (putP pr s q v) := by
  unfold putK putP
  rw [any_tabE]
  by_cases c : (pr.any fun z => decide (z.1 = s)) = true
  · rw [if_pos c, if_pos c]
    unfold tabE
    rw [List.map_map, List.map_map]
    apply List.map_congr_left
    intro z _
    show (if (Sum.inl ((z.1 : Nat) : Int) : Key) = Sum.inl ((s : Nat) : Int) then _ else _) = _
    by_cases d : z.1 = s
    · rw [if_pos (by rw [d])]
      show _ = ((fun z : Ent => ((Sum.inl ((z.1 : Nat) : Int) : Key), V.ref z.2.1)) (if z.1 = s then (s, q, v) else z))
      rw [if_pos d]
      show ((Sum.inl ((z.1 : Nat) : Int) : Key), V.ref q) = (Sum.inl ((s : Nat) : Int), V.ref q)
      rw [d]
    · rw [if_neg (fun e => d (by injection e with e; omega))]
      show _ = ((fun z : Ent => ((Sum.inl ((z.1 : Nat) : Int) : Key), V.ref z.2.1)) (if z.1 = s then (s, q, v) else z))
      rw [if_neg d]
  · rw [if_neg c, if_neg c]
    unfold tabE
    rw [List.map_append]
    rfl
theorem any_look {pr : List Ent} {s : Nat} : (pr.any fun z => decide (z.1 = s)) = (lookP pr s).isSome := by
  unfold lookP
  rw [Option.isSome_map]
  induction pr with
  | nil => rfl
  | cons z pr ih =>
    rw [List.any_cons, List.find?_cons, ih]
    by_cases c : z.1 = s
    · rw [decide_eq_true c]; rfl
    · rw [decide_eq_false c, Bool.false_or]
theorem look_map {s s' : Nat} {q : Addr} {v : Val} : ∀ pr : List Ent, lookP (pr.map fun z => if z.1 = s then (s, q, v) else z) s' = if s' = s then (lookP pr s').map fun _ => v else lookP pr s'
  | [] => by unfold lookP; split <;> rfl
  | z :: pr => by
    have ih := look_map (s := s) (s' := s') (q := q) (v := v) pr
    unfold lookP at ih ⊢
    rw [List.map_cons, List.find?_cons, List.find?_cons]
    by_cases c : z.1 = s
    · rw [if_pos c]
      by_cases d : s' = s
      · rw [if_pos d] at ih ⊢
        have d1 : decide (s = s') = true := decide_eq_true d.symm
        have d2 : decide (z.1 = s') = true := decide_eq_true (by rw [c, d])
        simp only [d1, d2]
        rfl
      · rw [if_neg d] at ih ⊢
        have d1 : decide (s = s') = false := decide_eq_false (fun e => d e.symm)
        have d2 : decide (z.1 = s') = false := decide_eq_false (fun e => d (by rw [← e, c]))
        simp only [d1, d2]
        exact ih
    · rw [if_neg c]
      by_cases d : z.1 = s'
      · have : s' ≠ s := fun e => c (by rw [d, e])
        rw [if_neg this]
        have d2 : decide (z.1 = s') = true := decide_eq_true d
        simp only [d2]
      · have d2 : decide (z.1 = s') = false := decide_eq_false d
        simp only [d2]
        exact ih
theorem look_put (pr : List Ent) (s : Nat) (q : Addr) (v : Val) : lookP (putP pr s q v) = fun s' => if s' = s then some v else lookP pr s' := by
  funext s'
  unfold putP
  by_cases c : (pr.any fun z => decide (z.1 = s)) = true
  · rw [if_pos c, look_map]
    by_cases d : s' = s
    · rw [if_pos d, if_pos d]
      rw [any_look, ← d] at c
      obtain ⟨o, e⟩ := Option.isSome_iff_exists.mp c
      rw [e]
      rfl
    · rw [if_neg d, if_neg d]
  · rw [if_neg c]
    have c2 : lookP pr s = none := by
      rw [any_look] at c
      simpa using c
    unfold lookP at c2 ⊢
    rw [List.find?_append]
    by_cases d : s' = s
    · subst d
      rw [if_pos rfl]
      have : pr.find? (fun z => decide (z.1 = s')) = none := by
        cases e : pr.find? (fun z => decide (z.1 = s')) with
        | none => rfl
        | some _ => rw [e] at c2; cases c2
      rw [this]
      simp
    · rw [if_neg d]
      have : ([(s, q, v)] : List Ent).find? (fun z => decide (z.1 = s')) = none := by
        rw [List.find?_cons, decide_eq_false (fun e => d e.symm)]
        rfl
      rw [this]
      cases pr.find? (fun z => decide (z.1 = s')) <;> rfl
theorem mem_put {pr : List Ent} {s : Nat} {q : Addr} {v : Val} {z : Ent} (h : z ∈ putP pr s q v) : z ∈ pr ∨ z = (s, q, v) := by
  unfold putP at h
  split at h
  · obtain ⟨y, hy, rfl⟩ := List.mem_map.mp h
    split
    · exact .inr rfl
    · exact .inl hy
  · rcases List.mem_append.mp h with h | h
    · exact .inl h
    · exact .inr (List.mem_singleton.mp h)
theorem nd_put {pr : List Ent} {s : Nat} {q : Addr} {v : Val} (h : (pr.map (·.1)).Nodup) : ((putP pr s q v).map (·.1)).Nodup := by
  unfold putP
  split
  · have : (pr.map fun z => if z.1 = s then (s, q, v) else z).map (·.1) = pr.map (·.1) := by
      rw [List.map_map]
      apply List.map_congr_left
      intro z _
      show (if z.1 = s then (s, q, v) else z).1 = z.1
      by_cases c : z.1 = s
      · rw [if_pos c, c]
      · rw [if_neg c]
    rw [this]
    exact h
  · rename_i c
    rw [List.map_append, List.nodup_append]
    refine ⟨h, by simp, fun a ha b hb e => c ?_⟩
    obtain ⟨z, hz, rfl⟩ := List.mem_map.mp ha
    rw [List.any_eq_true]
    refine ⟨z, hz, decide_eq_true ?_⟩
    rw [e]
    simpa using hb
theorem nd_len : ∀ {n : Nat} {l : List Nat}, l.Nodup → (∀ x ∈ l, x < n) → l.length ≤ n
  | 0, [], _, _ => Nat.le_refl _
  | 0, x :: _, _, h => absurd (h x List.mem_cons_self) (by omega)
  | n + 1, l, hn, h => by
    have h1 : (l.erase n).Nodup := hn.erase n
    have h2 : ∀ x ∈ l.erase n, x < n := fun x hx => by
      have := (hn.mem_erase_iff).mp hx
      have := h x this.2
      omega
    have := nd_len h1 h2
    have h3 : l.length ≤ (l.erase n).length + 1 := by
      rw [List.length_erase]
      split <;> omega
    omega
/-- a table of entries -/
structure EnOk (K : PySem.W.Frag) (H : Hp) (many : Nat) (pr : List Ent) : Prop where
  at_ : ∀ z ∈ pr, VAt K H z.2.1 z.2.2
  nd : (pr.map (·.1)).Nodup
  lt : ∀ z ∈ pr, z.1 < many
theorem EnOk.mono {K : PySem.W.Frag} {H H' : Hp} {many : Nat} {pr : List Ent} (h : EnOk K H many pr) (s : Stay H H') : EnOk K H' many pr := ⟨fun z hz => (h.at_ z hz).mono s, h.nd, h.lt⟩
theorem EnOk.len {K : PySem.W.Frag} {H : Hp} {many : Nat} {pr : List Ent} (h : EnOk K H many pr) : pr.length ≤ many := by
  have := nd_len h.nd (n := many) fun x hx => by
    obtain ⟨z, hz, rfl⟩ := List.mem_map.mp hx
    exact h.lt z hz
  rw [List.length_map] at this
  exact this
theorem EnOk.nil {K : PySem.W.Frag} {H : Hp} {many : Nat} : EnOk K H many [] := ⟨fun _ z => (nomatch z), List.nodup_nil, fun _ z => (nomatch z)⟩
theorem EnOk.put {K : PySem.W.Frag} {H : Hp} {many : Nat} {pr : List Ent} (h : EnOk K H many pr) {s : Nat} {q : Addr} {v : Val} (hv : VAt K H q v) (hs : s < many) : EnOk K H many (putP pr s q v) :=
  ⟨fun z hz => (mem_put hz).elim (h.at_ z) fun e => by rw [e]; exact hv, nd_put h.nd, fun z hz => (mem_put hz).elim (h.lt z) fun e => by rw [e]; exact hs⟩
theorem look_mem {pr : List Ent} (nd : (pr.map (·.1)).Nodup) {z : Ent} (hz : z ∈ pr) : lookP pr z.1 = some z.2.2 := by
  induction pr with
  | nil => cases hz
  | cons y pr ih =>
    rw [List.map_cons, List.nodup_cons] at nd
    unfold lookP
    rw [List.find?_cons]
    rcases List.mem_cons.mp hz with rfl | hz
    · rw [decide_eq_true rfl]
      rfl
    · have : y.1 ≠ z.1 := fun e => nd.1 (by rw [e]; exact List.mem_map_of_mem hz)
      rw [decide_eq_false this]
      exact ih nd.2 hz
theorem look_some {pr : List Ent} {s : Nat} {v : Val} (h : lookP pr s = some v) : ∃ q, (s, q, v) ∈ pr ∧ pr.find? (fun z => decide (z.1 = s)) = some (s, q, v) := by
  unfold lookP at h
  cases e : pr.find? (fun z => decide (z.1 = s)) with
  | none => rw [e] at h; cases h
  | some z =>
    rw [e] at h
    obtain ⟨n, q, u⟩ := z
    have h1 := List.mem_of_find?_eq_some e
    have h2 : n = s := by simpa using List.find?_some e
    have h3 : u = v := Option.some.inj h
    subst h2 h3
    exact ⟨q, h1, rfl⟩
theorem look_none {pr : List Ent} {s : Nat} (h : lookP pr s = none) : pr.find? (fun z => decide (z.1 = s)) = none := by
  unfold lookP at h
  cases e : pr.find? (fun z => decide (z.1 = s)) with
  | none => rfl
  | some z => rw [e] at h; cases h
/-- the dict at a is the table T -/
def TabAt (K : PySem.W.Frag) (H : Hp) (many : Nat) (a : Addr) (T : Tab) : Prop := ∃ pr, H a = some (.dK (tabE pr)) ∧ EnOk K H many pr ∧ T = lookP pr
theorem TabAt.mono {K : PySem.W.Frag} {H H' : Hp} {many : Nat} {a : Addr} {T : Tab} (h : TabAt K H many a T) (s : Same H H') : TabAt K H' many a T := by
  obtain ⟨pr, h1, h2, h3⟩ := h
  exact ⟨pr, s _ _ h1, h2.mono (Stay.of s), h3⟩
theorem stepF_lt {rows : List Sy.Row} {d : Rdr} (ok : RdOk rows d) (x : Str) (l : List Nat) : stepF d x l < d.many := by
  unfold stepF
  cases e : d.rws.find? (fun r => decide (rkey r = rkey (x, l, 0))) with
  | none => exact ok.re
  | some r => exact (ok.rw.kd r (List.mem_of_find?_eq_some e)).2.2.2
theorem pe_fldK {X : Cx} (K : PySem.W.Frag) (hK : X.K = K) {o : Expr} {f : Str} {p : Pos} {to : TE} (ho : PE X o to) (hb : attributeBase o f X.env (eval o X.env) = eval o X.env) : PE X (.Attribute o f p) (tFld K to f) := by
  subst hK
  exact pe_fld ho hb
end Sy
/-! rank, named_plant, _cut_values -/
namespace Sy
open PySem PySem.Spec PyProof.Rows L2
theorem rk_lt (x : Str) : ∀ (n : Nat) (rows : List Sy.Row) {m : Nat}, rk n rows x = some m → n ≤ m ∧ m < n + rows.length ∧ (rows[m - n]?.map (·.1)) = some x
  | n, [], m, h => by cases h
  | n, r :: rs, m, h => by
    rw [rk] at h
    by_cases c : r.1 = x
    · rw [if_pos c] at h
      cases h
      refine ⟨Nat.le_refl _, by rw [List.length_cons]; omega, ?_⟩
      rw [Nat.sub_self]
      show some r.1 = some x
      rw [c]
    · rw [if_neg c] at h
      obtain ⟨h1, h2, h3⟩ := rk_lt x (n + 1) rs h
      refine ⟨by omega, by rw [List.length_cons]; omega, ?_⟩
      rw [show m - n = (m - (n + 1)) + 1 by omega]
      exact h3
theorem rkD_at {rows : List Sy.Row} {x : Str} (h : isK rows x = true) : rk 0 rows x = some (rkD rows x) ∧ rkD rows x < rows.length ∧ (rows[rkD rows x]?.map (·.1)) = some x := by
  obtain ⟨m, hm⟩ := rk_isK x 0 rows h
  have e : rkD rows x = m := by unfold rkD; rw [hm]; rfl
  obtain ⟨_, h2, h3⟩ := rk_lt x 0 rows hm
  rw [e]
  exact ⟨hm, by omega, h3⟩
/-- the words of ranks -/
def kdW (rows : List Sy.Row) (n : Nat) : Str := (rows[n]?.map (·.1)).getD ""
theorem kdW_rk {rows : List Sy.Row} {x : Str} (h : isK rows x = true) : kdW rows (rkD rows x) = x := by
  unfold kdW
  rw [(rkD_at h).2.2]
  rfl
section
variable {P : Program} {w : World} {K : PySem.W.Frag} {mg : Str → Option Value} {base : Heap}
/-! rank -/
def spRk (K : PySem.W.Frag) : Sp := fun vs H Q _ => ∃ (a : Addr) (rows : List Sy.Row) (x : Str), vs = [.ref a, .str x] ∧ BedAt K H a rows ∧ isK rows x = true ∧ Q (.int (rkD rows x : Nat)) H
theorem sc_rank : FnScope ["self", "kind"] ["self", "kind"] (defScope (clb 22 5)) := ⟨rfl, rfl, rfl, by decide +kernel, rfl, by decide +kernel, by decide +kernel⟩
theorem k_rank (T : Txt K mg) (F : MB K "rank" "Bed.rank" (clb 22 5)) : CalM P w K mg base 1 "rank" ["self", "kind"] (spRk K) := by
  refine calM_of F sc_rank (fun _ _ _ _ _ _ us e => match us, e with | [_, _], _ => rfl) (fun vs H Q E s => by obtain ⟨_, _, _, rfl, _⟩ := s; rfl) ?_
  intro cdv A outer s H vs Q E hr h
  obtain ⟨a, rows, x, rfl, hb, hk, hq⟩ := h
  have hu := hu_of hr
  obtain ⟨dx, dA, tR, tK, dR, ps, h1, hd, h3, h4, h5, h6⟩ := hb.ex
  refine ⟨_, (pss_cons (ps_if (pt_cmp (pc_dnotin hu (pv 1) (pe_fld (pv 0) rfl)))
        (pss_one ps_never)
        pss_nil)
      (pss_one (ps_ret (pe_dget hu (pe_fld (pv 0) rfl) (pv 1) (fun _ _ => rfl))))), ?_⟩
  refine ⟨_, rfl, _, rfl, a, _, dx, _, _, rfl, h1, T.bed.cl, T.bed.nRk, rfl, dR, _, rfl, DGet.k (k := Sum.inr x) h3, _, rfl, ?_⟩
  have hv : valV (rkKV 0 rows) (Sum.inr x : Key) = some (.int (rkD rows x : Nat)) := by rw [valV_rk, (rkD_at hk).1]; rfl
  rw [hv]
  refine iteF ⟨_, rfl, a, _, dx, _, _, rfl, h1, T.bed.cl, T.bed.nRk, rfl, _, rfl, dR, .int (rkD rows x : Nat), rfl, ?_, hq⟩
  rw [← hv]
  exact DGet.k (k := Sum.inr x) h3
/-! named_plant -/
def spNamed (K : PySem.W.Frag) : Sp := fun vs H Q _ => ∃ (b t : Addr) (n : Nat) (rows : List Sy.Row) (rs : List Nat), vs = [.ref b, .int (n : Nat), .ref t] ∧ BedAt K H b rows ∧ SqT K H t (vN rs) ∧ n ≤ 2000 ∧ rs.length ≤ 2000 ∧ (∀ r ∈ rs, r < rows.length) ∧ ∀ H' p, Same H H' → SqT K H' p ((rs.map (kdW rows)).map V.str) → Q (.ref p) H'
abbrev N_named : List Str := ["bed", "knots", "ranks", "rank"]
theorem sc_named : FnScope N_named ["bed", "knots", "ranks"] (defScope (top 37)) := ⟨rfl, rfl, rfl, by decide +kernel, rfl, by decide +kernel, by decide +kernel⟩
theorem k_named (T : Txt K mg) (F : DF K mg "named_plant" 37) (c_check_count : Cal P w K mg base 3 "check_count" ["number"] (spCount K)) : Cal P w K mg base 4 "named_plant" ["bed", "knots", "ranks"] (spNamed K) := by
  refine cal_of F.1 F.2 sc_named (fun _ _ _ _ _ _ us e => match us, e with | [_, _, _], _ => rfl) (fun vs H Q E s => by obtain ⟨_, _, _, _, _, rfl, _⟩ := s; rfl) ?_
  intro cdv A outer s H vs Q E hr h
  obtain ⟨b, t, n, rows, rs, rfl, hb, ht, hn, hl, hlt, hq⟩ := h
  have sc := sc_named
  obtain ⟨dx, dA, tR, tK, dR, ps, h1, hd, h3, h4, h5, h6⟩ := hb.ex
  refine ⟨_, (pss_cons (ps_expr (pe_cal c_check_count hr (pa_cons (pv 1) pa_nil)))
      (pss_one (ps_ret (pe_callTy call_tuple_of (by rfl) T.tuple (by decide +kernel) (pa_cons (pe_lc (own := [("rank", 3)]) (g := gName 3) (te := tOp (rIxT K) (tFld K (tVar 0) "kinds") (tVar 3)) rfl sc.nd (pi_tup (pv 2)) (blkOk_by (N := N_named) (sc := defScope (top 37)) (by decide +kernel)) (fun _ _ _ _ _ => (pg_name (i := 3) sc.nd rfl (Or.inl rfl))) (fun _ _ _ _ _ => pts_nil) (fun _ _ _ _ _ => (pe_ixTK K rfl (pe_fldK K rfl (pv 0) rfl) (pv 3) (fun _ _ => rfl)))) pa_nil))))), ?_⟩
  refine ⟨_, rfl, (n : Nat), rfl, fun _ => ?_, fun z => by omega⟩
  refine ⟨_, rfl, t, rfl, ⟨_, ht⟩, fun D hD => lc_tup (K := K) (a := t) (xs := vN rs) (fun i H' => Hs H [(D, .lst (((rs.take i).map (kdW rows)).map V.str))] H') ((Hs.start H).new hD) ?_ ?_ ?_⟩
  · rintro i H' _ hh
    exact Same.sqt hh.sub ht
  · rintro i x H' hx hh
    obtain ⟨r, hr', rfl⟩ := map_at hx
    have hrl := hlt r (List.mem_of_getElem? hr')
    obtain ⟨y, ey⟩ : ∃ y, rows[r]? = some y := ⟨_, List.getElem?_eq_getElem hrl⟩
    have ek : kdW rows r = y.1 := by unfold kdW; rw [ey]; rfl
    refine ⟨rfl, ?_⟩
    simp only [tYes, if_true]
    refine ⟨_, rfl, b, _, dx, _, _, rfl, hh.sub _ _ h1, T.bed.cl, T.bed.nK, rfl, _, rfl, tK, _, _, _, rfl, rfl, Same.sqt hh.sub h5, atI_nat (by rw [List.getElem?_map, ey]; rfl), _, hh.r0, by rw [List.length_map, List.length_map, List.length_take, sizeLine_eq]; omega, ?_⟩
    have e : ((rs.take (i + 1)).map (kdW rows)).map V.str = ((rs.take i).map (kdW rows)).map V.str ++ [.str y.1] := by
      rw [List.take_succ, hr', List.map_append, List.map_append]
      show _ ++ [V.str (kdW rows r)] = _
      rw [ek]
    rw [e]
    exact hh.w0
  · rintro H1 hh
    rw [show (vN rs).length = rs.length from List.length_map .., List.take_length] at hh
    refine ⟨D, _, rfl, .inl ⟨SqL.of hh.r0, fun p hp => ?_⟩⟩
    exact hq _ p (hh.sub.trans (up_same hp)) (SqT.of upd_same)
end
end Sy
namespace Sy
open PySem PySem.Spec PyProof.Rows L2
theorem inV_nat (n : Nat) (ns : List Nat) : inV (.int (n : Int)) (vN ns) = decide (n ∈ ns) := by
  unfold inV vN
  induction ns with
  | nil => rfl
  | cons x l ih =>
    rw [List.map_cons, List.any_cons, ih]
    have : eqV (V.int (x : Int)) (V.int (n : Int)) = decide (x = n) := by
      show ((x : Int) == (n : Int)) = _
      by_cases h : x = n
      · subst h
        simp
      · rw [decide_eq_false h, beq_eq_false_iff_ne]
        omega
    rw [this]
    by_cases h : x = n
    · subst h
      simp
    · have h2 : n ≠ x := fun z => h z.symm
      simp [h, h2]
theorem all_nats (l : List Nat) : (vN l).all flatV = true := by
  rw [vN, List.all_map, List.all_eq_true]
  intro x _
  rfl
/-- rows as the law draws them -/
structure RowsL (rows : List Sy.Row) (most : Nat) : Prop where
  ok : RowsOk rows
  wd : ∀ r ∈ rows, Wd r.1
  le : rows.length ≤ most
  pos : 0 < rows.length
/-- the law's rows as a list at q -/
def RL (K : PySem.W.Frag) (H : Hp) (q : Addr) (rows : List Sy.Row) : Prop := ∃ pr : List (Addr × Sy.Row), pr.map (·.2) = rows ∧ H q = some (.lst (pr.map fun z => V.ref z.1)) ∧ RwP K H pr
theorem RL.mono {K : PySem.W.Frag} {H H' : Hp} {q : Addr} {rows : List Sy.Row} (h : RL K H q rows) (s : Same H H') : RL K H' q rows := by
  obtain ⟨pr, h1, h2, h3⟩ := h
  exact ⟨pr, h1, s _ _ h2, h3.mono s⟩
theorem sqt_delL {K : PySem.W.Frag} {H : Hp} {g p : Addr} {xs ys : List V} (h : SqT K H p xs) (hg : H g = some (.lst ys)) : SqT K (L2.del H g) p xs := (stay_del hg).sqt h
theorem RL.del {K : PySem.W.Frag} {H : Hp} {q g : Addr} {rows : List Sy.Row} {ys : List V} (h : RL K H q rows) (ne : q ≠ g) (hg : H g = some (.lst ys)) : RL K (L2.del H g) q rows := by
  obtain ⟨pr, h1, h2, h3⟩ := h
  exact ⟨pr, h1, by rw [del_ne ne]; exact h2, ⟨fun z hz => sqt_delL (h3.at_ z hz) hg⟩⟩
theorem wid8 (j : Nat) (h : j < 8) : ∃ n : Nat, ([.int 0, .int 1, .int 1, .int 2, .int 2, .int 2, .int 3, .int 0] : List V)[j]? = some (.int (n : Int)) ∧ n ≤ 3 := by
  match j, h with
  | 0, _ => exact ⟨0, rfl, by decide⟩
  | 1, _ => exact ⟨1, rfl, by decide⟩
  | 2, _ => exact ⟨1, rfl, by decide⟩
  | 3, _ => exact ⟨2, rfl, by decide⟩
  | 4, _ => exact ⟨2, rfl, by decide⟩
  | 5, _ => exact ⟨2, rfl, by decide⟩
  | 6, _ => exact ⟨3, rfl, by decide⟩
  | 7, _ => exact ⟨0, rfl, by decide⟩
theorem man8 (j : Nat) (h : j < 8) : ∃ n : Nat, ([.int 2, .int 2, .int 3, .int 3, .int 3, .int 4, .int 2, .int 1] : List V)[j]? = some (.int (n : Int)) ∧ 1 ≤ n ∧ n ≤ 4 := by
  match j, h with
  | 0, _ => exact ⟨2, rfl, by decide⟩
  | 1, _ => exact ⟨2, rfl, by decide⟩
  | 2, _ => exact ⟨3, rfl, by decide⟩
  | 3, _ => exact ⟨3, rfl, by decide⟩
  | 4, _ => exact ⟨3, rfl, by decide⟩
  | 5, _ => exact ⟨4, rfl, by decide⟩
  | 6, _ => exact ⟨2, rfl, by decide⟩
  | 7, _ => exact ⟨1, rfl, by decide⟩
section
variable {P : Program} {w : World} {K : PySem.W.Frag} {mg : Str → Option Value} {base : Heap}
def spKinds (K : PySem.W.Frag) : Sp := fun vs H Q _ => ∃ g : Addr, vs = [.ref g] ∧ Bag g H ∧ ∀ (q : Addr) (rows : List Sy.Row) H', RowsL rows 4 → Dr g H H' → q ≠ g → RL K H' q rows → Q (.ref q) H'
abbrev N_kinds : List Str := ["_law_box_here", "_law_many", "_law_lowest", "_law_kinds_here", "_law_place", "_law_width", "_law_pair"]
theorem sc_kinds : FnScope N_kinds ["_law_box_here"] (defScope (top 53)) := ⟨rfl, rfl, rfl, by decide +kernel, rfl, by decide +kernel, by decide +kernel⟩
theorem k_kinds (T : Txt K mg) (F : DF K mg "_law_kinds" 53) (c_law_pick : Cal P w K mg base 1 "_law_pick" ["_law_box_here", "_law_many"] spDraw) (c_law_letters : Cal P w K mg base 2 "_law_letters" ["_law_box_here", "_law_taken"] (spNameL K)) : Cal P w K mg base 3 "_law_kinds" ["_law_box_here"] (spKinds K) := by
  refine cal_of F.1 F.2 sc_kinds (fun _ _ _ _ _ _ us e => match us, e with | [_], _ => rfl) (fun vs H Q E s => by obtain ⟨_, rfl, _⟩ := s; rfl) ?_
  intro cdv A outer s H vs Q E hr h
  obtain ⟨g, rfl, hg, hq⟩ := h
  have sc := sc_kinds
  obtain ⟨l0, hl0, h0⟩ := hg.take
  generalize hB0 : L2.del H g = B0 at *
  refine ⟨_, (pss_cons (ps_set (i := 1) sc.nd rfl (Or.inl rfl) (pe_ix ix_list (pe_lst (pa_cons pe_int (pa_cons pe_int (pa_cons pe_int (pa_cons pe_int (pa_cons pe_int (pa_cons pe_int (pa_cons pe_int (pa_cons pe_int pa_nil))))))))) (pe_cal c_law_pick hr (pa_cons (pv 0) (pa_cons pe_int pa_nil))) (fun _ _ => rfl)))
      (pss_cons (ps_set (i := 2) sc.nd rfl (Or.inl rfl) (pe_cal c_law_pick hr (pa_cons (pv 0) (pa_cons (pv 1) pa_nil))))
      (pss_cons (ps_set (i := 3) sc.nd rfl (Or.inl rfl) (pe_lst pa_nil))
      (pss_cons (ps_for (passes_of rfl) rfl (pi_range1 rfl T.range (pa_cons (pv 1) pa_nil)) (pg_name (i := 4) sc.nd rfl (Or.inl rfl))
        (pss_cons (ps_set (i := 5) sc.nd rfl (Or.inl rfl) (pe_ix ix_list (pe_lst (pa_cons pe_int (pa_cons pe_int (pa_cons pe_int (pa_cons pe_int (pa_cons pe_int (pa_cons pe_int (pa_cons pe_int (pa_cons pe_int pa_nil))))))))) (pe_cal c_law_pick hr (pa_cons (pv 0) (pa_cons pe_int pa_nil))) (fun _ _ => rfl)))
        (pss_cons (ps_cut (ps_if (pt_cmpR op_eq (pv 4) (pv 2) (nomark _))
          (pss_one (ps_set (i := 5) sc.nd rfl (Or.inl rfl) pe_int))
          pss_nil))
        (pss_cons (ps_cut (ps_if (PW.pt (pw_and (pt_cmpR op_eq (pv 5) pe_int (nomark _)) (pw_and1 (pt_cmpR op_in_seq pe_int (pe_lc (own := [("_law_pair", 6)]) (g := gName 6) rfl sc.nd (pi_list (pv 3)) (blkOk_by (N := N_kinds) (sc := defScope (top 53)) (by decide +kernel)) (fun _ _ _ _ _ => (pg_name (i := 6) sc.nd rfl (Or.inl rfl))) (fun _ _ _ _ _ => pts_nil) (fun _ _ _ _ _ => (pe_ixTK K rfl (pv 6) pe_int (fun _ _ => rfl)))) rfl))))
          (pss_one (ps_set (i := 5) sc.nd rfl (Or.inl rfl) pe_int))
          pss_nil))
        (pss_one (ps_expr (pe_bm PySem.F.plainAttrs_list PySem.F.slot_list_append PySem.F.type_list_append mt_append (pv 3) (pa_cons (pe_tup (pa_cons (pe_cal c_law_letters hr (pa_cons (pv 0) (pa_cons (pe_lc (own := [("_law_pair", 6)]) (g := gName 6) rfl sc.nd (pi_list (pv 3)) (blkOk_by (N := N_kinds) (sc := defScope (top 53)) (by decide +kernel)) (fun _ _ _ _ _ => (pg_name (i := 6) sc.nd rfl (Or.inl rfl))) (fun _ _ _ _ _ => pts_nil) (fun _ _ _ _ _ => (pe_ixTK K rfl (pv 6) pe_int (fun _ _ => rfl)))) pa_nil))) (pa_cons (pv 5) pa_nil))) pa_nil))))))))
      (pss_one (ps_ret (pv 3))))))), ?_⟩
  refine ⟨(by show 8 ≤ sizeLine; decide), fun p hp => ?_⟩
  have h1 := h0.lay (o := .lst [.int 2, .int 2, .int 3, .int 3, .int 3, .int 4, .int 2, .int 1]) hp
  have hgp : g ≠ p := h0.ne_of_new hp (g, .lst (l0.map V.int)) (by simp)
  refine ⟨_, rfl, g, 8, rfl, h1.bag hl0, by decide, by decide, fun j H1 hj d1 => ?_⟩
  have hp1 : H1 p = some (.lst [.int 2, .int 2, .int 3, .int 3, .int 3, .int 4, .int 2, .int 1]) := by
    obtain ⟨_, _, c⟩ := d1
    exact c.2 _ _ hgp.symm upd_same
  obtain ⟨l1, B1, hl1, s1, h1, _⟩ := h1.dr0 d1
  obtain ⟨m, hm, hm1, hm4⟩ := man8 j hj
  refine ⟨p, _, _, _, rfl, rfl, SqL.of hp1, atI_nat hm, ?_⟩
  refine ⟨_, rfl, _, rfl, g, m, rfl, h1.bag hl1, hm1, by omega, fun low H2 hlow d2 => ?_⟩
  obtain ⟨l2, B2, hl2, s2, h2, _⟩ := h1.dr0 d2
  refine ⟨by decide, fun D hD => ?_⟩
  have h3 := (h2.new (o := .lst []) hD).swap
  refine ⟨_, rfl, _, rfl, by omega, by omega, for_rng (n := m)
    (fun i σ H' => ∃ (t4 t5 : Option V) (B : Hp) (l : List Int) (pr : List (Addr × Sy.Row)), σ = [some (.ref g), some (.int (m : Nat)), some (.int (low : Nat)), some (.ref D), t4, t5, none] ∧ BagOk l ∧ pr.length = i ∧ RwP K B pr ∧ (pr.map fun z => z.2.1).Nodup ∧ (∀ z ∈ pr, Wd z.2.1 ∧ z.2.2 ≤ 3) ∧ (low < i → ∃ z ∈ pr, z.2.2 = 0) ∧ Same B0 B ∧ Hs B [(g, .lst (l.map V.int)), (D, .lst (pr.map fun z => V.ref z.1))] H')
    ⟨none, none, B2, l2, [], rfl, hl2, rfl, ⟨fun _ z => (nomatch z)⟩, List.nodup_nil, fun _ z => (nomatch z), fun z => by omega, s1.trans s2, h3⟩ ?_ ?_⟩
  · rintro i σ H3 hi ⟨t4, t5, B, l, pr, rfl, hl, hpr, hat, hnd, hwd, hlo, sB, hh⟩
    refine ⟨(by show 8 ≤ sizeLine; decide), fun p4 hp4 => ?_⟩
    have h4 := hh.lay (o := .lst [.int 0, .int 1, .int 1, .int 2, .int 2, .int 2, .int 3, .int 0]) hp4
    have hgp4 : g ≠ p4 := hh.ne_of_new hp4 (g, .lst (l.map V.int)) (by simp)
    refine ⟨_, rfl, g, 8, rfl, h4.bag hl, by decide, by decide, fun j4 H5 hj4 d5 => ?_⟩
    have hp5 : H5 p4 = some (.lst [.int 0, .int 1, .int 1, .int 2, .int 2, .int 2, .int 3, .int 0]) := by
      obtain ⟨_, _, c⟩ := d5
      exact c.2 _ _ hgp4.symm upd_same
    obtain ⟨l5, B5, hl5, s5, h5, _⟩ := h4.dr0 d5
    obtain ⟨n, hn, hn3⟩ := wid8 j4 hj4
    refine ⟨p4, _, _, _, rfl, rfl, SqL.of hp5, atI_nat hn, ?_⟩
    refine ⟨fun σ' H' => ∃ n : Nat, n ≤ 3 ∧ (low = i → n = 0) ∧ H' = H5 ∧ σ' = [some (.ref g), some (.int (m : Nat)), some (.int (low : Nat)), some (.ref D), some (.int (i : Nat)), some (.int (n : Nat)), none], ⟨_, rfl, _, rfl, rfl, _, rfl, if_dec (fun c => ?_) (fun c => ?_)⟩, ?_⟩
    · exact ⟨0, by omega, fun _ => rfl, rfl, rfl⟩
    · exact ⟨n, hn3, fun e => absurd (by rw [e]) c, rfl, rfl⟩
    rintro σ' H' ⟨n, hn3, hn0, rfl, rfl⟩
    have hat5 := hat.mono s5
    refine ⟨fun σ' H' => ∃ (n : Nat), n ≤ 3 ∧ (low = i → n = 0) ∧ Hs B5 [(g, .lst (l5.map V.int)), (D, .lst (pr.map fun z => V.ref z.1))] H' ∧ σ' = [some (.ref g), some (.int (m : Nat)), some (.int (low : Nat)), some (.ref D), some (.int (i : Nat)), some (.int (n : Nat)), none], ⟨_, rfl, rfl, _, rfl, if_dec (fun c => ?_) (fun c => ?_)⟩, ?_⟩
    · have c : n = 3 := by have := V.int.inj c; omega
      refine ⟨_, rfl, D, rfl, ⟨_, SqL.of h5.r1⟩, fun D2 hD2 => lc_maps (si := 6) (f := fun z : Addr × Sy.Row => V.ref z.1) (out := fun z => V.int (z.2.2 : Nat)) h5 hD2 (fun _ _ z => z.r2) (by omega) (fun z hz H' s' R1 k1 => ?_) (fun H' hh' => ?_)⟩
      · exact ⟨_, rfl, z.1, _, _, _, rfl, rfl, Same.sqt s' (hat5.at_ z hz), atI_nat (j := 1) rfl, k1⟩
      · refine ⟨D2, _, rfl, .inl (SqL.of hh'.r0), rfl, ?_, _, rfl, if_bool (fun c2 => ?_) (fun c2 => ?_)⟩
        · rw [List.all_map, List.all_eq_true]
          intro x _
          rfl
        · exact ⟨2, by decide, fun e => absurd (hn0 e) (by omega), hh'.drop, rfl⟩
        · exact ⟨n, hn3, hn0, hh'.drop, rfl⟩
    · exact ⟨n, hn3, hn0, h5, rfl⟩
    rintro σ' H6 ⟨n, hn3, hn0, h6, rfl⟩
    refine ⟨_, rfl, .inl ⟨rfl, _, SqL.of h6.r1⟩, _, rfl, _, rfl, D, rfl, ⟨_, SqL.of h6.r1⟩, fun D3 hD3 => lc_maps (si := 6) (f := fun z : Addr × Sy.Row => V.ref z.1) (out := fun z => V.str z.2.1) h6 hD3 (fun _ _ z => z.r2) (by omega) (fun z hz H' s' R1 k1 => ?_) (fun H7 h7 => ?_)⟩
    · exact ⟨_, rfl, z.1, _, _, _, rfl, rfl, Same.sqt s' (hat5.at_ z hz), atI_nat (j := 0) rfl, k1⟩
    · have hgD : g ≠ D3 := h6.ne_of_new hD3 (g, .lst (l5.map V.int)) (by simp)
      have emap : (pr.map fun z => V.str z.2.1) = (pr.map fun z => z.2.1).map V.str := by rw [List.map_map]; rfl
      refine ⟨g, D3, pr.map fun z => z.2.1, rfl, h7.swap.bag hl5, hgD, by rw [← emap]; exact h7.r0, by rw [List.length_map]; omega, fun x H8 hx hxn d8 => ?_⟩
      obtain ⟨l8, B8, hl8, s8, h8, _⟩ := h7.swap.dr0 d8
      have h8 := h8.swap.drop
      refine ⟨_, rfl, (by show 2 ≤ sizeLine; decide), fun p9 hp9 => ?_⟩
      have h9 := h8.tup (o := .tup [.str x, .int (n : Nat)]) hp9
      have s9 : Same B8 (upd B8 p9 (.tup [.str x, .int (n : Nat)])) := up_same (h8.sub.free hp9)
      refine ⟨D, _, _, rfl, rfl, h9.r1, by rw [List.length_map, sizeLine_eq]; omega, _, _, _, l8, pr ++ [(p9, (x, n))], rfl, hl8, by rw [List.length_append, hpr]; rfl, ⟨fun z hz => ?_⟩, ?_, fun z hz => ?_, fun hlt => ?_, (((sB.trans s5).trans s8).trans s9), ?_⟩
      · rcases List.mem_append.mp hz with hz | hz
        · exact Same.sqt (s8.trans s9) (hat5.at_ z hz)
        · rw [List.mem_singleton.mp hz]
          exact SqT.of upd_same
      · rw [List.map_append]
        refine List.nodup_append.mpr ⟨hnd, by simp, fun a ha b hb => ?_⟩
        have hb : b = x := by simpa using hb
        rw [hb]
        exact fun z => hxn (z ▸ ha)
      · rcases List.mem_append.mp hz with hz | hz
        · exact hwd z hz
        · rw [List.mem_singleton.mp hz]
          exact ⟨hx, hn3⟩
      · by_cases e : low = i
        · exact ⟨(p9, (x, n)), by simp, hn0 e⟩
        · obtain ⟨z, hz, ez⟩ := hlo (by omega)
          exact ⟨z, List.mem_append_left _ hz, ez⟩
      · rw [List.map_append]
        exact h9.w1
  · rintro σ H3 ⟨t4, t5, B, l, pr, rfl, hl, hpr, hat, hnd, hwd, hlo, sB, hh⟩
    have hne := (List.nodup_cons.mp hh.nd).1
    refine ⟨_, rfl, hq D (pr.map (·.2)) H3 ⟨⟨fun r hr => ?_, fun r hr => ?_, ?_, ?_, ?_⟩, fun r hr => ?_, by rw [List.length_map]; omega, by rw [List.length_map]; omega⟩ (hh.isDr hl (by simp) (by rw [hB0]; exact sB)) (fun z => hne (by rw [z]; simp)) ⟨pr, rfl, hh.r1, hat.mono hh.sub⟩⟩
    · obtain ⟨z, hz, rfl⟩ := List.mem_map.mp hr
      exact (hwd z hz).1.ok
    · obtain ⟨z, hz, rfl⟩ := List.mem_map.mp hr
      exact (hwd z hz).2
    · rw [List.map_map]
      exact hnd
    · obtain ⟨z, hz, e⟩ := hlo hlow
      exact ⟨z.2, List.mem_map_of_mem hz, e⟩
    · rw [List.length_map]
      omega
    · obtain ⟨z, hz, rfl⟩ := List.mem_map.mp hr
      exact (hwd z hz).1
end
end Sy
namespace Sy
open PySem PySem.Spec PyProof.Rows L2
theorem len2 {α : Type} : ∀ {l : List α}, l.length = 2 → ∃ a b, l = [a, b]
  | [a, b], _ => ⟨a, b, rfl⟩
theorem len3 {α : Type} : ∀ {l : List α}, l.length = 3 → ∃ a b c, l = [a, b, c]
  | [a, b, c], _ => ⟨a, b, c, rfl⟩
theorem len4 {α : Type} : ∀ {l : List α}, l.length = 4 → ∃ a b c d, l = [a, b, c, d]
  | [a, b, c, d], _ => ⟨a, b, c, d, rfl⟩
theorem RwP.paired {K : PySem.W.Frag} {H : Hp} : ∀ {pr : List (Addr × Sy.Row)}, RwP K H pr → Paired (fun q (r : Sy.Row) => SqT K H q [.str r.1, .int (r.2 : Nat)]) (pr.map (·.1)) (pr.map (·.2))
  | [], _ => .nil
  | z :: pr, h => .cons (h.at_ z List.mem_cons_self) (RwP.paired ⟨fun y hy => h.at_ y (List.mem_cons_of_mem _ hy)⟩)
section
variable {P : Program} {w : World} {K : PySem.W.Frag} {mg : Str → Option Value} {base : Heap}
/-! _law_arity -/
def spArD (K : PySem.W.Frag) : Sp := fun vs H Q _ => ∃ (q : Addr) (rows : List Sy.Row), vs = [.ref q] ∧ RL K H q rows ∧ (rows.map (·.1)).Nodup ∧ rows.length ≤ 8 ∧ ∀ d H', Same H H' → H' d = some (.dK (arKV rows)) → Q (.ref d) H'
abbrev N_arD : List Str := ["_law_kinds_here", "_law_found", "_law_pair"]
theorem sc_arD : FnScope N_arD ["_law_kinds_here"] (defScope (top 54)) := ⟨rfl, rfl, rfl, by decide +kernel, rfl, by decide +kernel, by decide +kernel⟩
theorem k_arD (F : DF K mg "_law_arity" 54) : Cal P w K mg base 1 "_law_arity" ["_law_kinds_here"] (spArD K) := by
  refine cal_of F.1 F.2 sc_arD (fun _ _ _ _ _ _ us e => match us, e with | [_], _ => rfl) (fun vs H Q E s => by obtain ⟨_, _, rfl, _⟩ := s; rfl) ?_
  intro cdv A outer s H vs Q E hr h
  obtain ⟨q, rows, rfl, ⟨pr, rfl, hL, hP⟩, hnd, hle, hq⟩ := h
  have hu := hu_of hr
  have sc := sc_arD
  refine ⟨_, (pss_cons (ps_set (i := 1) sc.nd rfl (Or.inl rfl) pe_dnewK)
      (pss_cons (ps_for (passes_of rfl) rfl (pi_list (pv 0)) (pg_name (i := 2) sc.nd rfl (Or.inl rfl))
        (pss_one (ps_dput hu (pv 1) (pe_ix ix_tup (pv 2) pe_int (fun _ _ => rfl)) (pe_ix ix_tup (pv 2) pe_int (fun _ _ => rfl)) rfl)))
      (pss_one (ps_ret (pv 1))))), ?_⟩
  intro d hd
  have k1 := (Hs.start H).new (o := .dK []) hd
  rw [List.length_map] at hle
  refine ⟨_, rfl, q, rfl, ⟨_, SqL.of (k1.sub _ _ hL)⟩, for_list (K := K) (xs := pr.map fun z => V.ref z.1) (fun i σ H' => ∃ t2, σ = [some (.ref q), some (.ref d), t2] ∧ Hs H [(d, .dK (arKV ((pr.map (·.2)).take i)))] H') ⟨none, rfl, k1⟩ (fun _ _ _ _ ⟨_, _, z⟩ => SqL.of (z.sub _ _ hL)) ?_ ?_⟩
  · rintro i v σ H1 hv ⟨t2, rfl, hh⟩
    obtain ⟨z, ez, rfl⟩ := map_at hv
    have hm := List.mem_of_getElem? ez
    have hr' : (pr.map (·.2))[i]? = some z.2 := by rw [List.getElem?_map, ez]; rfl
    have tz := Same.sqt hh.sub (hP.at_ z hm)
    have vn : valV (arKV ((pr.map (·.2)).take i)) (Sum.inr z.2.1 : Key) = none := by rw [valV_ar, lookup_none (nodup_take hnd hr')]; rfl
    refine ⟨_, rfl, z.1, _, _, _, rfl, rfl, tz, atI_nat (j := 1) rfl, _, rfl, _, rfl, z.1, _, _, _, rfl, rfl, tz, atI_nat (j := 0) rfl, d, _, rfl, DPut.k (k := Sum.inr z.2.1) hh.r0 (by unfold arKV; rw [List.length_map, List.length_take, List.length_map, sizeLine_eq]; omega), _, rfl, ?_⟩
    rw [putK_new _ vn, List.take_succ, hr']
    unfold arKV
    rw [List.map_append]
    exact hh.w0
  · rintro σ H1 ⟨t2, rfl, hh⟩
    rw [List.length_map, List.take_of_length_le (by rw [List.length_map]; exact Nat.le_refl _)] at hh
    exact ⟨_, rfl, hq d H1 hh.sub hh.r0⟩
/-! _law_made_bed -/
def spMadeB (K : PySem.W.Frag) : Sp := fun vs H Q _ => ∃ (q : Addr) (rows : List Sy.Row), vs = [.ref q] ∧ RL K H q rows ∧ RowsL rows 4 ∧ ∀ a H', Same H H' → BedAt K H' a rows → Q (.ref a) H'
theorem sc_madeB : FnScope ["_law_kinds_here"] ["_law_kinds_here"] (defScope (top 55)) := ⟨rfl, rfl, rfl, by decide +kernel, rfl, by decide +kernel, by decide +kernel⟩
theorem k_madeB (T : Txt K mg) (M : Mk K (He.ga K "Bed") (He.ma K (He.ga K "Bed") "__init__")) (at_ : mg "Bed" = some (.ref (He.ga K "Bed"))) (FB : FnR P w K mg base (L2.CX P w) 3 (He.ma K (He.ga K "Bed") "__init__") (spStar 1 (spInitB K))) (F : DF K mg "_law_made_bed" 55) :
    Cal P w K mg base 5 "_law_made_bed" ["_law_kinds_here"] (spMadeB K) := by
  refine cal_of F.1 F.2 sc_madeB (fun _ _ _ _ _ _ us e => match us, e with | [_], _ => rfl) (fun vs H Q E s => by obtain ⟨_, _, rfl, _⟩ := s; rfl) ?_
  intro cdv A outer s H vs Q E hr h
  obtain ⟨q, rows, rfl, ⟨pr, rfl, hL, hP⟩, rl, hq⟩ := h
  refine ⟨_, (pss_cons (ps_if (pt_cmpR op_eq (pe_callB call_len_seq (by rfl) T.len (by decide +kernel) (pa_cons (pv 0) pa_nil)) pe_int (nomark _))
        (pss_one (ps_ret (pe_bed M at_ FB hr (pa_cons (pe_ix ix_list (pv 0) pe_int (fun _ _ => rfl)) pa_nil))))
        pss_nil)
      (pss_cons (ps_if (pt_cmpR op_eq (pe_callB call_len_seq (by rfl) T.len (by decide +kernel) (pa_cons (pv 0) pa_nil)) pe_int (nomark _))
        (pss_one (ps_ret (pe_bed M at_ FB hr (pa_cons (pe_ix ix_list (pv 0) pe_int (fun _ _ => rfl)) (pa_cons (pe_ix ix_list (pv 0) pe_int (fun _ _ => rfl)) pa_nil)))))
        pss_nil)
      (pss_cons (ps_if (pt_cmpR op_eq (pe_callB call_len_seq (by rfl) T.len (by decide +kernel) (pa_cons (pv 0) pa_nil)) pe_int (nomark _))
        (pss_one (ps_ret (pe_bed M at_ FB hr (pa_cons (pe_ix ix_list (pv 0) pe_int (fun _ _ => rfl)) (pa_cons (pe_ix ix_list (pv 0) pe_int (fun _ _ => rfl)) (pa_cons (pe_ix ix_list (pv 0) pe_int (fun _ _ => rfl)) pa_nil))))))
        pss_nil)
      (pss_one (ps_ret (pe_bed M at_ FB hr (pa_cons (pe_ix ix_list (pv 0) pe_int (fun _ _ => rfl)) (pa_cons (pe_ix ix_list (pv 0) pe_int (fun _ _ => rfl)) (pa_cons (pe_ix ix_list (pv 0) pe_int (fun _ _ => rfl)) (pa_cons (pe_ix ix_list (pv 0) pe_int (fun _ _ => rfl)) pa_nil)))))))))), ?_⟩
  have hS := SqL.of (K := K) hL
  have hl := rl.le
  have hp := rl.pos
  rw [List.length_map] at hl hp
  have hPp := hP.paired
  have ok := rl.ok
  have fin : ∀ H' a, Same H H' → BedAt K H' a (pr.map (·.2)) → Q (.ref a) H' := fun H' a s b => hq a H' s b
  have hl' : (pr.map fun z => V.ref z.1).length = pr.length := List.length_map ..
  refine ⟨_, rfl, q, _, rfl, .inl hS, rfl, _, rfl, if_dec (fun c => ?_) (fun c => ?_)⟩
  · have c : pr.length = 1 := by have := V.int.inj c; omega
    obtain ⟨a, rfl⟩ := List.length_eq_one_iff.mp c
    exact ⟨_, rfl, q, _, _, _, rfl, rfl, hS, atI_nat (j := 0) rfl, bed_of (ps := [a.1]) rfl hPp ok fin⟩
  have c1 : pr.length ≠ 1 := fun z => c (by rw [hl', z]; rfl)
  refine ⟨_, rfl, q, _, rfl, .inl hS, rfl, _, rfl, if_dec (fun c => ?_) (fun c => ?_)⟩
  · have c : pr.length = 2 := by have := V.int.inj c; omega
    obtain ⟨a, b, rfl⟩ := len2 c
    exact ⟨_, rfl, q, _, _, _, rfl, rfl, hS, atI_nat (j := 0) rfl, _, rfl, q, _, _, _, rfl, rfl, hS, atI_nat (j := 1) rfl, bed_of (ps := [a.1, b.1]) rfl hPp ok fin⟩
  have c2 : pr.length ≠ 2 := fun z => c (by rw [hl', z]; rfl)
  refine ⟨_, rfl, q, _, rfl, .inl hS, rfl, _, rfl, if_dec (fun c => ?_) (fun c => ?_)⟩
  · have c : pr.length = 3 := by have := V.int.inj c; omega
    obtain ⟨a, b, c', rfl⟩ := len3 c
    exact ⟨_, rfl, q, _, _, _, rfl, rfl, hS, atI_nat (j := 0) rfl, _, rfl, q, _, _, _, rfl, rfl, hS, atI_nat (j := 1) rfl, _, rfl, q, _, _, _, rfl, rfl, hS, atI_nat (j := 2) rfl, bed_of (ps := [a.1, b.1, c'.1]) rfl hPp ok fin⟩
  have c3 : pr.length ≠ 3 := fun z => c (by rw [hl', z]; rfl)
  obtain ⟨a, b, c', d, rfl⟩ := len4 (l := pr) (by omega)
  exact ⟨_, rfl, q, _, _, _, rfl, rfl, hS, atI_nat (j := 0) rfl, _, rfl, q, _, _, _, rfl, rfl, hS, atI_nat (j := 1) rfl, _, rfl, q, _, _, _, rfl, rfl, hS, atI_nat (j := 2) rfl, _, rfl, q, _, _, _, rfl, rfl, hS, atI_nat (j := 3) rfl, bed_of (ps := [a.1, b.1, c'.1, d.1]) rfl hPp ok fin⟩
/-! _law_fault -/
def spFaultL (K : PySem.W.Frag) : Sp := fun vs H Q _ => ∃ (d p : Addr) (rows : List Sy.Row) (l : List Str), vs = [.ref d, .ref p] ∧ H d = some (.dK (arKV rows)) ∧ SqT K H p (l.map V.str) ∧ l.length ≤ 1000000 ∧ Q (.int (fa rows [] 1 0 l)) H
abbrev N_faultL : List Str := ["_law_arity_here", "_law_plant_here", "_law_gap", "_law_place"]
theorem sc_faultL : FnScope N_faultL ["_law_arity_here", "_law_plant_here"] (defScope (top 61)) := ⟨rfl, rfl, rfl, by decide +kernel, rfl, by decide +kernel, by decide +kernel⟩
theorem k_faultL (T : Txt K mg) (F : DF K mg "_law_fault" 61) : Cal P w K mg base 1 "_law_fault" ["_law_arity_here", "_law_plant_here"] (spFaultL K) := by
  refine cal_of F.1 F.2 sc_faultL (fun _ _ _ _ _ _ us e => match us, e with | [_, _], _ => rfl) (fun vs H Q E s => by obtain ⟨_, _, _, _, rfl, _⟩ := s; rfl) ?_
  intro cdv A outer s H vs Q E hr h
  obtain ⟨d, p, rows, l, rfl, hd, hP, hl, hq⟩ := h
  have hu := hu_of hr
  have sc := sc_faultL
  refine ⟨_, (pss_cons (ps_set (i := 2) sc.nd rfl (Or.inl rfl) pe_int)
      (pss_cons (ps_for (passes_of rfl) rfl (pi_range1 rfl T.range (pa_cons (pe_callB call_len_seq (by rfl) T.len (by decide +kernel) (pa_cons (pv 1) pa_nil)) pa_nil)) (pg_name (i := 3) sc.nd rfl (Or.inl rfl))
        (pss_cons (ps_if (PW.pt (pw_or (pt_cmpR op_eq (pv 2) pe_int (nomark _)) (pw_or1 (pt_cmp (pc_dnotin hu (pe_ix ix_tup (pv 1) (pv 3) (fun _ _ => rfl)) (pv 0))))))
          (pss_one (ps_ret (pv 3)))
          pss_nil)
        (pss_one (ps_set (i := 2) sc.nd rfl (Or.inl rfl) (pe_op op_add (pe_op op_sub (pv 2) pe_int) (pe_dget hu (pv 0) (pe_ix ix_tup (pv 1) (pv 3) (fun _ _ => rfl)) (fun _ _ => rfl)))))))
      (pss_cons (ps_if (pt_cmpR op_gt (pv 2) pe_int (nomark _))
        (pss_one (ps_ret (pe_callB call_len_seq (by rfl) T.len (by decide +kernel) (pa_cons (pv 1) pa_nil))))
        pss_nil)
      (pss_one (ps_ret (pe_un un_neg pe_int)))))), ?_⟩
  refine ⟨_, rfl, p, _, rfl, .inr hP, _, rfl, by omega, by rw [List.length_map]; omega, for_rng (n := (l.map V.str).length) (fun i σ H' => ∃ (m : Nat) (z : Int) (t3 : Option V), σ = [some (.ref d), some (.ref p), some (.int z), t3] ∧ z = (m : Nat) ∧ H' = H ∧ fa rows [] m i (l.drop i) = fa rows [] 1 0 l) ⟨1, 1, none, rfl, rfl, rfl, by rw [List.drop_zero]⟩ ?_ ?_⟩
  · rintro i σ _ hi ⟨m, _, t3, rfl, rfl, rfl, e⟩
    rw [List.length_map] at hi
    obtain ⟨y, hy⟩ : ∃ y, l[i]? = some y := ⟨_, List.getElem?_eq_getElem hi⟩
    have hyv : (l.map V.str)[i]? = some (.str y) := by rw [List.getElem?_map, hy]; rfl
    rw [drop_of hy, fa] at e
    refine ⟨_, rfl, rfl, _, rfl, if_dec (fun c => ?_) (fun c => ?_)⟩
    · rw [if_pos (by have := V.int.inj c; omega)] at e
      refine ⟨_, rfl, ?_⟩
      rw [← e] at hq
      exact hq
    have c : m ≠ 0 := fun z => c (by rw [z]; rfl)
    rw [if_neg c] at e
    refine ⟨_, rfl, _, rfl, p, _, _, _, rfl, rfl, hP, atI_nat hyv, _, rfl, d, _, rfl, DGet.k (k := Sum.inr y) hd, _, rfl, ?_⟩
    rw [valV_ar]
    cases e2 : rows.lookup y with
    | none =>
      have hk : isK rows y = false := by unfold isK; rw [e2]; rfl
      rw [if_pos ⟨hk, by simp⟩] at e
      rw [← e] at hq
      exact iteT ⟨_, rfl, hq⟩
    | some n =>
      have hk : isK rows y = true := by unfold isK; rw [e2]; rfl
      have ha : ar rows y = n := by unfold ar; rw [e2]; rfl
      rw [if_neg (fun z => by rw [hk] at z; cases z.1), ha] at e
      refine iteF ⟨_, rfl, _, _, rfl, rfl, _, rfl, _, rfl, _, rfl, p, _, _, _, rfl, rfl, hP, atI_nat hyv, d, .int (n : Nat), rfl, ?_, _, _, rfl, rfl, m - 1 + n, _, _, rfl, by omega, rfl, e⟩
      have := DGet.k (k := (Sum.inr y : Key)) hd
      rw [valV_ar, e2] at this
      exact this
  · rintro σ _ ⟨m, _, t3, rfl, rfl, rfl, e⟩
    rw [List.length_map, List.drop_length, fa] at e
    refine ⟨_, rfl, _, _, rfl, rfl, _, rfl, if_dec (fun c => ?_) (fun c => ?_)⟩
    · rw [if_pos (by omega)] at e
      rw [← e] at hq
      refine ⟨_, rfl, p, _, rfl, .inr hP, ?_⟩
      rw [List.length_map]
      exact hq
    · rw [if_neg (by omega)] at e
      rw [← e] at hq
      exact ⟨_, rfl, hq⟩
/-! _law_number -/
def spNumber (K : PySem.W.Frag) : Sp := fun vs H Q _ => ∃ g : Addr, vs = [.ref g] ∧ Bag g H ∧ ∀ (n : Nat) H', n ≤ 1000 → Dr g H H' → Q (.int (n : Nat)) H'
theorem sc_number : FnScope ["_law_box_here", "_law_way"] ["_law_box_here"] (defScope (top 63)) := ⟨rfl, rfl, rfl, by decide +kernel, rfl, by decide +kernel, by decide +kernel⟩
theorem num4 (j : Nat) (h : j < 4) : ∃ n : Nat, ([.int 0, .int 1, .int 999, .int 1000] : List V)[j]? = some (.int (n : Int)) ∧ n ≤ 1000 := by
  match j, h with
  | 0, _ => exact ⟨0, rfl, by decide⟩
  | 1, _ => exact ⟨1, rfl, by decide⟩
  | 2, _ => exact ⟨999, rfl, by decide⟩
  | 3, _ => exact ⟨1000, rfl, by decide⟩
theorem k_number (F : DF K mg "_law_number" 63) (c_law_pick : Cal P w K mg base 1 "_law_pick" ["_law_box_here", "_law_many"] spDraw) : Cal P w K mg base 2 "_law_number" ["_law_box_here"] (spNumber K) := by
  refine cal_of F.1 F.2 sc_number (fun _ _ _ _ _ _ us e => match us, e with | [_], _ => rfl) (fun vs H Q E s => by obtain ⟨_, rfl, _⟩ := s; rfl) ?_
  intro cdv A outer s H vs Q E hr h
  obtain ⟨g, rfl, hg, hq⟩ := h
  have sc := sc_number
  refine ⟨_, (pss_cons (ps_set (i := 1) sc.nd rfl (Or.inl rfl) (pe_cal c_law_pick hr (pa_cons (pv 0) (pa_cons pe_int pa_nil))))
      (pss_cons (ps_if (pt_cmpR op_eq (pv 1) pe_int (nomark _))
        (pss_one (ps_ret (pe_cal c_law_pick hr (pa_cons (pv 0) (pa_cons pe_int pa_nil)))))
        pss_nil)
      (pss_cons (ps_if (pt_cmpR op_eq (pv 1) pe_int (nomark _))
        (pss_one (ps_ret (pe_ix ix_list (pe_lst (pa_cons pe_int (pa_cons pe_int (pa_cons pe_int (pa_cons pe_int pa_nil))))) (pe_cal c_law_pick hr (pa_cons (pv 0) (pa_cons pe_int pa_nil))) (fun _ _ => rfl))))
        pss_nil)
      (pss_one (ps_ret (pe_cal c_law_pick hr (pa_cons (pv 0) (pa_cons pe_int pa_nil)))))))), ?_⟩
  refine ⟨_, rfl, g, 4, rfl, hg, by decide, by decide, fun r H1 hr1 d1 => ?_⟩
  refine ⟨_, rfl, rfl, _, rfl, if_dec (fun c => ?_) (fun c => ?_)⟩
  · exact ⟨_, rfl, g, 1001, rfl, d1.bag, by decide, by decide, fun n H2 hn d2 => hq n H2 (by omega) (d1.trans d2)⟩
  refine ⟨_, rfl, rfl, _, rfl, if_dec (fun c2 => ?_) (fun c2 => ?_)⟩
  · refine ⟨(by show 4 ≤ sizeLine; decide), fun p hp => ?_⟩
    have s2 := up_same (o := .lst [.int 0, .int 1, .int 999, .int 1000]) hp
    have ne : p ≠ g := fun z => by
      obtain ⟨_, _, e⟩ := d1.bag
      rw [z, e] at hp
      cases hp
    refine ⟨_, rfl, g, 4, rfl, d1.bag.same s2, by decide, by decide, fun j H2 hj d2 => ?_⟩
    have hp2 : H2 p = some (.lst [.int 0, .int 1, .int 999, .int 1000]) := by
      obtain ⟨_, _, c⟩ := d2
      exact c.2 _ _ ne upd_same
    obtain ⟨n, hn, hn2⟩ := num4 j hj
    exact ⟨p, _, _, _, rfl, rfl, SqL.of hp2, atI_nat hn, hq n H2 hn2 ((d1.same s2).trans d2)⟩
  · exact ⟨_, rfl, g, 6, rfl, d1.bag, by decide, by decide, fun n H2 hn d2 => hq n H2 (by omega) (d1.trans d2)⟩
end
end Sy
namespace Sy
open PySem PySem.Spec PyProof.Rows L2
theorem lookup_mem {rows : List Sy.Row} (nd : (rows.map (·.1)).Nodup) {r : Sy.Row} (hr : r ∈ rows) : rows.lookup r.1 = some r.2 := by
  induction rows with
  | nil => cases hr
  | cons q rs ih =>
    rw [List.map_cons, List.nodup_cons] at nd
    rw [lookup_cons]
    rcases List.mem_cons.mp hr with rfl | hr
    · rw [if_pos rfl]
    · rw [if_neg, ih nd.2 hr]
      exact fun z => nd.1 (by rw [z]; exact List.mem_map_of_mem hr)
theorem ar_mem {rows : List Sy.Row} (nd : (rows.map (·.1)).Nodup) {r : Sy.Row} (hr : r ∈ rows) : ar rows r.1 = r.2 ∧ isK rows r.1 = true := by
  have := lookup_mem nd hr
  unfold ar isK
  rw [this]
  exact ⟨rfl, rfl⟩
/-- a row that some plants would complete -/
def Op (rows : List Sy.Row) (gap : Nat) (pl : List Str) : Prop := ∀ u : List Str, Fo gap (wt rows u) → Fo 1 (wt rows (pl ++ u))
theorem Op.start (rows : List Sy.Row) : Op rows 1 [] := fun u h => h
theorem Op.step {rows : List Sy.Row} {m : Nat} {pl : List Str} {x : Str} (h : Op rows (m + 1) pl) : Op rows (m + ar rows x) (pl ++ [x]) := fun u hu => by
  rw [List.append_assoc]
  exact h (x :: u) hu
theorem Op.done {rows : List Sy.Row} {pl : List Str} (h : Op rows 0 pl) : Fo 1 (wt rows pl) := by
  have := h [] trivial
  rwa [List.append_nil] at this
section
variable {P : Program} {w : World} {K : PySem.W.Frag} {mg : Str → Option Value} {base : Heap}
/-! _law_plant -/
def spPlantL (K : PySem.W.Frag) : Sp := fun vs H Q _ => ∃ (g q : Addr) (room : Nat) (rows : List Sy.Row), vs = [.ref g, .ref q, .int (room : Nat)] ∧ Bag g H ∧ q ≠ g ∧ RL K H q rows ∧ RowsL rows 4 ∧ 1 ≤ room ∧ room ≤ 1000 ∧
  ∀ l p H', Pln rows l → l.length ≤ room → Dr g H H' → SqT K H' p (l.map V.str) → Q (.ref p) H'
abbrev N_plantL : List Str := ["_law_box_here", "_law_kinds_here", "_law_room", "_law_pair", "_law_tips", "_law_inner", "_law_row", "_law_gap", "_law_turn"]
theorem sc_plantL : FnScope N_plantL ["_law_box_here", "_law_kinds_here", "_law_room"] (defScope (top 59)) := ⟨rfl, rfl, rfl, by decide +kernel, rfl, by decide +kernel, by decide +kernel⟩
theorem k_plantL (T : Txt K mg) (F : DF K mg "_law_plant" 59) (c_law_pick : Cal P w K mg base 1 "_law_pick" ["_law_box_here", "_law_many"] spDraw) : Cal P w K mg base 2 "_law_plant" ["_law_box_here", "_law_kinds_here", "_law_room"] (spPlantL K) := by
  refine cal_of F.1 F.2 sc_plantL (fun _ _ _ _ _ _ us e => match us, e with | [_, _, _], _ => rfl) (fun vs H Q E s => by obtain ⟨_, _, _, _, rfl, _⟩ := s; rfl) ?_
  intro cdv A outer s H vs Q E hr h
  obtain ⟨g, q, room, rows, rfl, hg, hqg, hRL, rl, hm1, hm2, hq⟩ := h
  have sc := sc_plantL
  obtain ⟨l0, hl0, h0⟩ := hg.take
  obtain ⟨pr, rfl, hL0, hP0⟩ : RL K (L2.del H g) q rows := by
    obtain ⟨l, _, e⟩ := hg
    exact hRL.del hqg e
  generalize hB0 : L2.del H g = B0 at *
  have hle := rl.le
  rw [List.length_map] at hle
  refine ⟨_, (pss_cons (ps_setLc (i := 4) (own := [("_law_pair", 3)]) (g := gName 3) (tt := tTest (tOp rEq (tOp (rIxT K) (tVar 3) (tC (.int 1))) (tC (.int 0)))) rfl sc.nd rfl rfl (sw_true rfl rfl rfl (by decide +kernel)) (pi_list (pv 1)) (blkOk_by (N := N_plantL) (sc := defScope (top 59)) (by decide +kernel)) (fun _ _ _ _ _ => (pg_name (i := 3) sc.nd rfl (Or.inl rfl))) (fun _ _ _ _ _ => (pts_one (pt_cmpR op_eq (pe_ixTK K rfl (pv 3) pe_int (fun _ _ => rfl)) pe_int (nomark _)))) (fun _ _ _ _ _ => (pv 3)))
      (pss_cons (ps_setLc (i := 5) (own := [("_law_pair", 3)]) (g := gName 3) (tt := tTest (tOp (rI0 fun i j => V.bl (decide (j < i))) (tOp (rIxT K) (tVar 3) (tC (.int 1))) (tC (.int 0)))) rfl sc.nd rfl rfl (sw_true rfl rfl rfl (by decide +kernel)) (pi_list (pv 1)) (blkOk_by (N := N_plantL) (sc := defScope (top 59)) (by decide +kernel)) (fun _ _ _ _ _ => (pg_name (i := 3) sc.nd rfl (Or.inl rfl))) (fun _ _ _ _ _ => (pts_one (pt_cmpR op_gt (pe_ixTK K rfl (pv 3) pe_int (fun _ _ => rfl)) pe_int (nomark _)))) (fun _ _ _ _ _ => (pv 3)))
      (pss_cons (ps_set (i := 6) sc.nd rfl (Or.inl rfl) (pe_lst pa_nil))
      (pss_cons (ps_set (i := 7) sc.nd rfl (Or.inl rfl) pe_int)
      (pss_cons (ps_cut (ps_for (passes_of rfl) rfl (pi_range1 rfl T.range (pa_cons (pv 2) pa_nil)) (pg_name (i := 8) sc.nd rfl (Or.inl rfl))
        (pss_cons (ps_if (pt_cmpR op_eq (pv 7) pe_int (nomark _))
          (pss_one ps_break)
          pss_nil)
        (pss_cons (ps_set (i := 7) sc.nd rfl (Or.inl rfl) (pe_op op_sub (pv 7) pe_int))
        (pss_cons (ps_set (i := 3) sc.nd rfl (Or.inl rfl) (pe_ix ix_list (pv 1) (pe_cal c_law_pick hr (pa_cons (pv 0) (pa_cons (pe_callB call_len_seq (by rfl) T.len (by decide +kernel) (pa_cons (pv 1) pa_nil)) pa_nil))) (fun _ _ => rfl)))
        (pss_cons (ps_cut (ps_if (PW.pt (pw_and (pt_cmpR op_lt (pv 8) pe_int (nomark _)) (pw_and1 (pt_cmpR op_gt (pe_callB call_len_seq (by rfl) T.len (by decide +kernel) (pa_cons (pv 5) pa_nil)) pe_int (nomark _)))))
          (pss_one (ps_set (i := 3) sc.nd rfl (Or.inl rfl) (pe_ix ix_list (pv 5) (pe_cal c_law_pick hr (pa_cons (pv 0) (pa_cons (pe_callB call_len_seq (by rfl) T.len (by decide +kernel) (pa_cons (pv 5) pa_nil)) pa_nil))) (fun _ _ => rfl))))
          pss_nil))
        (pss_cons (ps_cut (ps_if (PW.pt (pw_and (pt_cmpR op_gt (pe_ix ix_tup (pv 3) pe_int (fun _ _ => rfl)) pe_int (nomark _)) (pw_and1 (pt_cmpR op_gt (pe_op op_add (pe_op op_add (pe_op op_add (pe_callB call_len_seq (by rfl) T.len (by decide +kernel) (pa_cons (pv 6) pa_nil)) pe_int) (pv 7)) (pe_ix ix_tup (pv 3) pe_int (fun _ _ => rfl))) (pv 2) (nomark _)))))
          (pss_one (ps_set (i := 3) sc.nd rfl (Or.inl rfl) (pe_ix ix_list (pv 4) (pe_cal c_law_pick hr (pa_cons (pv 0) (pa_cons (pe_callB call_len_seq (by rfl) T.len (by decide +kernel) (pa_cons (pv 4) pa_nil)) pa_nil))) (fun _ _ => rfl))))
          pss_nil))
        (pss_cons (ps_expr (pe_bm PySem.F.plainAttrs_list PySem.F.slot_list_append PySem.F.type_list_append mt_append (pv 6) (pa_cons (pe_ix ix_tup (pv 3) pe_int (fun _ _ => rfl)) pa_nil)))
        (pss_one (ps_set (i := 7) sc.nd rfl (Or.inl rfl) (pe_op op_add (pv 7) (pe_ix ix_tup (pv 3) pe_int (fun _ _ => rfl)))))))))))))
      (pss_one (ps_ret (pe_callTy call_tuple_of (by rfl) T.tuple (by decide +kernel) (pa_cons (pv 6) pa_nil))))))))), ?_⟩
  refine ⟨_, rfl, q, rfl, ⟨_, SqL.of (h0.sub _ _ hL0)⟩, fun D1 hD1 => lc_filt (si := 3) (f := fun z : Addr × Sy.Row => V.ref z.1) (out := fun z => V.ref z.1) (keep := fun z => decide (z.2.2 = 0)) h0 hD1 (fun _ _ z => z.sub _ _ hL0) (by omega) (fun z hz H' s' R1 R2 k1 k2 => ?_) (fun H1 h1 => ?_)⟩
  · refine ⟨_, rfl, z.1, _, _, _, rfl, rfl, Same.sqt s' (hP0.at_ z hz), atI_nat (j := 1) rfl, rfl, _, rfl, if_dec (fun c => ?_) (fun c => ?_)⟩
    · exact ⟨_, rfl, k1 (decide_eq_true (by have := V.int.inj c; omega))⟩
    · exact k2 (decide_eq_false (fun z => c (by rw [z]; rfl)))
  replace h1 := h1.give
  obtain ⟨s1, h1⟩ := h1
  have e1 : (upd B0 D1 (.lst ((pr.filter fun z => decide (z.2.2 = 0)).map fun z => V.ref z.1))) D1 = some (.lst ((pr.filter fun z => decide (z.2.2 = 0)).map fun z => V.ref z.1)) := upd_same
  generalize upd B0 D1 (.lst ((pr.filter fun z => decide (z.2.2 = 0)).map fun z => V.ref z.1)) = B1 at *
  have hL1 := s1 _ _ hL0
  have hP1 := hP0.mono s1
  refine ⟨_, rfl, q, rfl, ⟨_, SqL.of (h1.sub _ _ hL1)⟩, fun D2 hD2 => lc_filt (si := 3) (f := fun z : Addr × Sy.Row => V.ref z.1) (out := fun z => V.ref z.1) (keep := fun z => decide (0 < z.2.2)) h1 hD2 (fun _ _ z => z.sub _ _ hL1) (by omega) (fun z hz H' s' R1 R2 k1 k2 => ?_) (fun H2 h2 => ?_)⟩
  · refine ⟨_, rfl, z.1, _, _, _, rfl, rfl, Same.sqt s' (hP1.at_ z hz), atI_nat (j := 1) rfl, _, _, rfl, rfl, _, rfl, if_dec (fun c => ?_) (fun c => ?_)⟩
    · exact ⟨_, rfl, k1 (decide_eq_true (by omega))⟩
    · exact k2 (decide_eq_false (by omega))
  replace h2 := h2.give
  obtain ⟨s2, h2⟩ := h2
  have e2 : (upd B1 D2 (.lst ((pr.filter fun z => decide (0 < z.2.2)).map fun z => V.ref z.1))) D2 = some (.lst ((pr.filter fun z => decide (0 < z.2.2)).map fun z => V.ref z.1)) := upd_same
  generalize upd B1 D2 (.lst ((pr.filter fun z => decide (0 < z.2.2)).map fun z => V.ref z.1)) = B2 at *
  have hL2 := s2 _ _ hL1
  have hP2 := hP1.mono s2
  have e1 := s2 _ _ e1
  have tpos : 0 < (pr.filter fun z => decide (z.2.2 = 0)).length := by
    obtain ⟨r, hr', e⟩ := rl.ok.lf
    obtain ⟨z, hz, rfl⟩ := List.mem_map.mp hr'
    exact List.length_pos_of_mem (List.mem_filter.mpr ⟨hz, decide_eq_true e⟩)
  have flen : ∀ k : Addr × Sy.Row → Bool, (pr.filter k).length ≤ 4 := fun k => by
    have := List.length_filter_le k pr
    omega
  generalize hTp : (pr.filter fun z => decide (z.2.2 = 0)) = pT at *
  generalize hIn : (pr.filter fun z => decide (0 < z.2.2)) = pI at *
  have tmem : ∀ z ∈ pT, z ∈ pr ∧ z.2.2 = 0 := fun z hz => by
    rw [← hTp] at hz
    have := List.mem_filter.mp hz
    exact ⟨this.1, of_decide_eq_true this.2⟩
  have imem : ∀ z ∈ pI, z ∈ pr := fun z hz => by
    rw [← hIn] at hz
    exact (List.mem_filter.mp hz).1
  have tlen : pT.length ≤ 4 := by rw [← hTp]; exact flen _
  have ilen : pI.length ≤ 4 := by rw [← hIn]; exact flen _
  have ppos := rl.pos
  rw [List.length_map] at ppos
  have arz : ∀ z ∈ pr, ar (pr.map (·.2)) z.2.1 = z.2.2 ∧ isK (pr.map (·.2)) z.2.1 = true := fun z hz => ar_mem rl.ok.nd (List.mem_map_of_mem hz)
  refine ⟨by decide, fun R hR => ?_⟩
  have h3 := (h2.new (o := .lst []) hR).swap
  refine ⟨fun σ' H' => ∃ (t3 t7 t8 : Option V) (B : Hp) (lb : List Int) (pl : List Str), σ' = [some (.ref g), some (.ref q), some (.int (room : Nat)), t3, some (.ref D1), some (.ref D2), some (.ref R), t7, t8] ∧ BagOk lb ∧ Same B2 B ∧ Hs B [(g, .lst (lb.map V.int)), (R, .lst (pl.map V.str))] H' ∧ Pln (pr.map (·.2)) pl ∧ pl.length ≤ room, ?_, ?_⟩
  · refine ⟨_, rfl, _, rfl, by omega, by omega, for_rng (n := room)
      (fun i σ H' => ∃ (gap : Nat) (z7 : Int) (t3 t8 : Option V) (B : Hp) (lb : List Int) (pl : List Str), σ = [some (.ref g), some (.ref q), some (.int (room : Nat)), t3, some (.ref D1), some (.ref D2), some (.ref R), some (.int z7), t8] ∧ z7 = (gap : Nat) ∧ BagOk lb ∧ Same B2 B ∧ Hs B [(g, .lst (lb.map V.int)), (R, .lst (pl.map V.str))] H' ∧
        pl.length = i ∧ pl.length + gap ≤ room ∧ Op (pr.map (·.2)) gap pl ∧ ∀ x ∈ pl, isK (pr.map (·.2)) x = true)
      ⟨1, 1, none, none, B2, l0, [], rfl, rfl, hl0, Same.refl _, h3, rfl, by show 0 + 1 ≤ room; omega, Op.start _, fun _ z => (nomatch z)⟩ ?_ ?_⟩
    · rintro i σ H3 hi ⟨gap, _, t3, t8, B, lb, pl, rfl, rfl, hlb, sB, hh, hpl, hrm, hop, hkn⟩
      refine ⟨_, rfl, rfl, _, rfl, if_dec (fun c => ?_) (fun c => ?_)⟩
      · have c : gap = 0 := by have := V.int.inj c; omega
        subst c
        exact ⟨_, _, _, B, lb, pl, rfl, hlb, sB, hh, ⟨hop.done, hkn, by omega⟩, by omega⟩
      obtain ⟨m, rfl⟩ : ∃ m, gap = m + 1 := ⟨gap - 1, by have : gap ≠ 0 := fun z => c (by rw [z]; rfl); omega⟩
      have em : (((m + 1 : Nat) : Int) - 1) = ((m : Nat) : Int) := by omega
      refine ⟨_, rfl, _, _, rfl, rfl, _, rfl, _, rfl, _, rfl, q, _, rfl, .inl (SqL.of (hh.sub _ _ (sB _ _ hL2))), g, pr.length, by rw [List.length_map], hh.bag hlb, ppos, by omega, fun j H4 hj d4 => ?_⟩
      obtain ⟨l4, B4, hl4, s4, h4, _⟩ := hh.dr0 d4
      have sB4 := sB.trans s4
      obtain ⟨z, ez⟩ : ∃ z, pr[j]? = some z := ⟨_, List.getElem?_eq_getElem hj⟩
      refine ⟨q, _, _, _, rfl, rfl, SqL.of (h4.sub _ _ (sB4 _ _ hL2)), atI_nat (by rw [List.getElem?_map, ez]; rfl), ?_⟩
      have hz := List.mem_of_getElem? ez
      refine ⟨fun σ' H' => ∃ (z : Addr × Sy.Row) (B : Hp) (lb : List Int), z ∈ pr ∧ σ' = [some (.ref g), some (.ref q), some (.int (room : Nat)), some (.ref z.1), some (.ref D1), some (.ref D2), some (.ref R), some (.int (((m + 1 : Nat) : Int) - 1)), some (.int (i : Nat))] ∧ BagOk lb ∧ Same B2 B ∧ Hs B [(g, .lst (lb.map V.int)), (R, .lst (pl.map V.str))] H', ?_, ?_⟩
      · refine ⟨_, rfl, _, _, rfl, rfl, _, rfl, if_dec (fun c1 => ?_) (fun c1 => ?_)⟩
        · refine ⟨_, rfl, D2, _, rfl, .inl (SqL.of (h4.sub _ _ (sB4 _ _ e2))), _, _, rfl, rfl, _, rfl, if_dec (fun c2 => ?_) (fun c2 => ?_)⟩
          · rw [List.length_map] at c2
            refine ⟨_, rfl, _, rfl, _, rfl, D2, _, rfl, .inl (SqL.of (h4.sub _ _ (sB4 _ _ e2))), g, pI.length, by rw [List.length_map], h4.bag hl4, by omega, by omega, fun j5 H5 hj5 d5 => ?_⟩
            obtain ⟨l5, B5, hl5, s5, h5, _⟩ := h4.dr0 d5
            obtain ⟨z5, ez5⟩ : ∃ z, pI[j5]? = some z := ⟨_, List.getElem?_eq_getElem hj5⟩
            exact ⟨D2, _, _, _, rfl, rfl, SqL.of (h5.sub _ _ (s5 _ _ (sB4 _ _ e2))), atI_nat (by rw [List.getElem?_map, ez5]; rfl), z5, B5, l5, imem _ (List.mem_of_getElem? ez5), rfl, hl5, sB4.trans s5, h5⟩
          · exact ⟨z, B4, l4, hz, rfl, hl4, sB4, h4⟩
        · exact ⟨z, B4, l4, hz, rfl, hl4, sB4, h4⟩
      clear hz ez z
      rintro σ' H5 ⟨z, B5, l5, hz, rfl, hl5, sB5, h5⟩
      have tz : ∀ {z : Addr × Sy.Row} {H' : Hp}, z ∈ pr → Same B5 H' → SqT K H' z.1 [.str z.2.1, .int (z.2.2 : Nat)] := fun hz s' => Same.sqt (sB5.trans s') (hP2.at_ _ hz)
      rw [em]
      refine ⟨fun σ' H' => ∃ (z : Addr × Sy.Row) (B : Hp) (lb : List Int), z ∈ pr ∧ pl.length + 1 + m + z.2.2 ≤ room ∧ σ' = [some (.ref g), some (.ref q), some (.int (room : Nat)), some (.ref z.1), some (.ref D1), some (.ref D2), some (.ref R), some (.int (m : Nat)), some (.int (i : Nat))] ∧ BagOk lb ∧ Same B5 B ∧ Hs B [(g, .lst (lb.map V.int)), (R, .lst (pl.map V.str))] H', ?_, ?_⟩
      · refine ⟨_, rfl, z.1, _, _, _, rfl, rfl, tz hz h5.sub, atI_nat (j := 1) rfl, _, _, rfl, rfl, _, rfl, if_dec (fun c1 => ?_) (fun c1 => ?_)⟩
        · refine ⟨_, rfl, R, _, rfl, .inl (SqL.of h5.r1), _, _, rfl, rfl, _, rfl, _, _, rfl, rfl, _, rfl, z.1, _, _, _, rfl, rfl, tz hz h5.sub, atI_nat (j := 1) rfl, _, _, rfl, rfl, _, rfl, _, _, rfl, rfl, _, rfl, if_dec (fun c2 => ?_) (fun c2 => ?_)⟩
          · refine ⟨_, rfl, _, rfl, _, rfl, D1, _, rfl, .inl (SqL.of (h5.sub _ _ (sB5 _ _ e1))), g, pT.length, by rw [List.length_map], h5.bag hl5, by omega, by omega, fun j6 H6 hj6 d6 => ?_⟩
            obtain ⟨l6, B6, hl6, s6, h6, _⟩ := h5.dr0 d6
            obtain ⟨z6, ez6⟩ : ∃ z, pT[j6]? = some z := ⟨_, List.getElem?_eq_getElem hj6⟩
            have hz6 := tmem _ (List.mem_of_getElem? ez6)
            exact ⟨D1, _, _, _, rfl, rfl, SqL.of (h6.sub _ _ (s6 _ _ (sB5 _ _ e1))), atI_nat (by rw [List.getElem?_map, ez6]; rfl), z6, B6, l6, hz6.1, by omega, rfl, hl6, s6, h6⟩
          · rw [List.length_map] at c2
            exact ⟨z, B5, l5, hz, by omega, rfl, hl5, Same.refl _, h5⟩
        · exact ⟨z, B5, l5, hz, by omega, rfl, hl5, Same.refl _, h5⟩
      clear hz z
      rintro σ' H6 ⟨z, B6, l6, hz, hroom, rfl, hl6, s6, h6⟩
      refine ⟨_, rfl, .inl ⟨rfl, _, SqL.of h6.r1⟩, _, rfl, z.1, _, _, _, rfl, rfl, tz hz (s6.trans h6.sub), atI_nat (j := 0) rfl, R, _, _, rfl, rfl, h6.r1, by rw [List.length_map, sizeLine_eq]; omega, ?_⟩
      have h7 := h6.w1 (o' := .lst (pl.map V.str ++ [.str z.2.1]))
      refine ⟨_, rfl, _, rfl, z.1, _, _, _, rfl, rfl, tz hz (s6.trans h7.sub), atI_nat (j := 1) rfl, _, _, rfl, rfl, m + z.2.2, _, _, _, B6, l6, pl ++ [z.2.1], rfl, by omega, hl6, sB5.trans s6, by rw [List.map_append]; exact h7, by rw [List.length_append, hpl]; rfl, by rw [List.length_append]; show _ + 1 + _ ≤ _; omega, ?_, fun x hx => ?_⟩
      · have := hop.step (x := z.2.1)
        rw [(arz z hz).1] at this
        exact this
      · rcases List.mem_append.mp hx with hx | hx
        · exact hkn x hx
        · rw [List.mem_singleton.mp hx]
          exact (arz z hz).2
    · rintro σ H3 ⟨gap, _, t3, t8, B, lb, pl, rfl, rfl, hlb, sB, hh, hpl, hrm, hop, hkn⟩
      obtain rfl : gap = 0 := by omega
      exact ⟨_, _, _, B, lb, pl, rfl, hlb, sB, hh, ⟨hop.done, hkn, by omega⟩, by omega⟩
  · rintro σ' H3 ⟨t3, t7, t8, B, lb, pl, rfl, hlb, sB, hh, hpln, hlen⟩
    refine ⟨_, rfl, R, _, rfl, .inl ⟨SqL.of hh.r1, fun p hp => ?_⟩⟩
    have h4 := hh.lay (o := .tup (pl.map V.str)) hp
    exact hq pl p _ hpln hlen (h4.isDr hlb (by simp) (by rw [hB0]; exact (s1.trans s2).trans sB)) (SqT.of upd_same)
end
end Sy
/-! loops within comprehensions of two clauses; a locked dict -/
namespace Sy
open PySem PySem.Spec PyProof.Rows L2
theorem lp_it {J : It} {n : Nat} {G : Hp → Prop} {Y : Nat → Hp → V → Hp → Prop} (w : Walk J n G Y) {step : V → Hp → (Hp → Prop) → Prop} {H0 : Hp} {Qd : Hp → Prop} (Pv : Nat → Hp → Prop) (h0 : Pv 0 H0) (hG : ∀ i H, i ≤ n → Pv i H → G H)
    (hs : ∀ i x H H', i < n → Pv i H → Y i H x H' → step x H' (Pv (i + 1))) (hd : ∀ H, Pv n H → Qd H) :
    ∃ W : Nat → Nat → Hp → Prop, (∃ m, W 0 m H0) ∧ ∀ i m H, W i m H → (J.stop i H ∧ Qd H) ∨ (J.go i H ∧ ∃ Nx : Hp → Prop, (∀ H', Nx H' → ∃ m', m' < m ∧ W (i + 1) m' H') ∧ ∀ x H', J.yld i H x H' → step x H' Nx) := by
  refine ⟨fun i m H => m = n - i ∧ i ≤ n ∧ Pv i H, ⟨n, by simp, Nat.zero_le _, h0⟩, ?_⟩
  rintro i m H ⟨rfl, hi, p⟩
  have q := hG i H hi p
  by_cases hlt : i < n
  · refine .inr ⟨w.goes i H hlt q, Pv (i + 1), fun H' p' => ⟨n - (i + 1), by omega, rfl, hlt, p'⟩, fun x H' y => hs i x H H' hlt p (w.yields i H x H' hlt q y)⟩
  · have e : i = n := by omega
    subst e
    exact .inl ⟨w.stops H q, hd H p⟩
theorem Hs.updB {B H : Hp} {L : List (Addr × HO)} {d : Addr} {u o : HO} (h : Hs B L H) (hd : B d = some u) : Hs (upd B d o) L (upd H d o) := by
  have ne : ∀ q ∈ L, q.1 ≠ d := fun q hq z => by
    have := h.ap q hq
    rw [z, hd] at this
    cases this
  refine ⟨fun a w e => ?_, fun q hq => by rw [upd_ne (ne q hq)]; exact h.own q hq, h.nd, fun q hq => by rw [upd_ne (ne q hq)]; exact h.ap q hq⟩
  by_cases c : a = d
  · subst c
    rw [upd_same] at e ⊢
    exact e
  · rw [upd_ne c] at e ⊢
    exact h.sub a w e
theorem sqt_updK {K : PySem.W.Frag} {B : Hp} {a d : Addr} {xs : List V} {kvs : List (Key × V)} {o : HO} (h : SqT K B a xs) (hd : B d = some (.dK kvs) ∨ ∃ od, B d = some (.frz od (.dK kvs))) : SqT K (upd B d o) a xs := by
  have ne : ∀ w, B a = some w → (∀ kvs, w ≠ .dK kvs) → (∀ od kvs, w ≠ .frz od (.dK kvs)) → a ≠ d := fun w e n1 n2 z => by
    rw [z] at e
    rcases hd with hd | ⟨od, hd⟩
    · rw [hd] at e
      exact n1 _ (Option.some.inj e).symm
    · rw [hd] at e
      exact n2 _ _ (Option.some.inj e).symm
  rcases h with (h | ⟨od, h⟩) | h
  · exact .inl (.inl (by rw [upd_ne (ne _ h (fun _ z => nomatch z) (fun _ _ z => nomatch z))]; exact h))
  · exact .inl (.inr ⟨od, by rw [upd_ne (ne _ h (fun _ z => nomatch z) (fun _ _ z => by cases z))]; exact h⟩)
  · exact .inr h
theorem pe_catK {X : Cx} (K : PySem.W.Frag) (hK : X.K = K) {a b : Expr} {ta tb : TE} {pos : Pos} (ha : PE X a ta) (hb : PE X b tb) : PE X (.BinOp a .Add b pos) (tOp (rCatA K) ta tb) := by
  subst hK
  exact pe_op op_catA ha hb
end Sy
/-! _changed_knot -/
namespace Sy
open PySem PySem.Spec PyProof.Rows L2 PySem.W
theorem pkok_snoc : ∀ {Ts : List Tab} {T : Tab} {ps : Pick}, PkOk (Ts ++ [T]) ps → ∃ qs p, ps = qs ++ [p] ∧ PkOk Ts qs ∧ T p.1 = some p.2
  | [], _, _, .cons h .nil => ⟨[], _, rfl, .nil, h⟩
  | _ :: Ts, _, _, .cons h t => by
    obtain ⟨qs, p, e, a, b⟩ := pkok_snoc t
    exact ⟨_ :: qs, p, by rw [e]; rfl, .cons h a, b⟩
theorem pkok_of {Ts : List Tab} {T : Tab} {qs : Pick} {p : Nat × Val} (h : PkOk Ts qs) (g : T p.1 = some p.2) : PkOk (Ts ++ [T]) (qs ++ [p]) := Paired.snoc h g
def exP (ps : Pick) (z : Ent) : Pick := ps ++ [(z.1, z.2.2)]
def exC (C : List Pick) (pr : List Ent) : List Pick := C.flatMap fun ps => pr.map (exP ps)
theorem exC_snoc (C : List Pick) (ps : Pick) (pr : List Ent) : exC (C ++ [ps]) pr = exC C pr ++ pr.map (exP ps) := by
  unfold exC
  rw [List.flatMap_append]
  simp
theorem exC_len (pr : List Ent) : ∀ C : List Pick, (exC C pr).length = C.length * pr.length
  | [] => by simp [exC]
  | c :: C => by
    have ih := exC_len pr C
    unfold exC at ih ⊢
    rw [List.flatMap_cons, List.length_append, ih, List.length_map, List.length_cons, Nat.succ_mul, Nat.add_comm]
theorem exC_mem {C : List Pick} {pr : List Ent} {Ts : List Tab} (nd : (pr.map (·.1)).Nodup) (hC : ∀ ps, ps ∈ C ↔ PkOk Ts ps) (ps : Pick) : ps ∈ exC C pr ↔ PkOk (Ts ++ [lookP pr]) ps := by
  unfold exC
  rw [List.mem_flatMap]
  constructor
  · rintro ⟨qs, hq, hm⟩
    obtain ⟨z, hz, rfl⟩ := List.mem_map.mp hm
    exact pkok_of ((hC qs).mp hq) (look_mem nd hz)
  · intro h
    obtain ⟨qs, p, rfl, a, b⟩ := pkok_snoc h
    obtain ⟨q, hm, _⟩ := look_some b
    exact ⟨qs, (hC qs).mpr a, List.mem_map.mpr ⟨_, hm, rfl⟩⟩
/-- a row of the walk -/
def RwAt (K : PySem.W.Frag) (H : Hp) (q : Addr) (ps : Pick) : Prop := ∃ a b, SqT K H q [.ref a, .int (pkC ps), .int ((1 + (pkR ps).length : Nat) : Int), .ref b] ∧ SqT K H a (vN (pkS ps)) ∧ SqT K H b (vN (pkR ps))
theorem RwAt.mono {K : PySem.W.Frag} {H H' : Hp} {q : Addr} {ps : Pick} (h : RwAt K H q ps) (s : Stay H H') : RwAt K H' q ps := by
  obtain ⟨a, b, h1, h2, h3⟩ := h
  exact ⟨a, b, s.sqt h1, s.sqt h2, s.sqt h3⟩
theorem RwAt.upd {K : PySem.W.Frag} {B : Hp} {q d : Addr} {ps : Pick} {kvs : List (Key × V)} {o : HO} (h : RwAt K B q ps) (hd : B d = some (.dK kvs) ∨ ∃ od, B d = some (.frz od (.dK kvs))) : RwAt K (upd B d o) q ps := by
  obtain ⟨a, b, h1, h2, h3⟩ := h
  exact ⟨a, b, sqt_updK h1 hd, sqt_updK h2 hd, sqt_updK h3 hd⟩
theorem VAt.upd {K : PySem.W.Frag} {B : Hp} {q d : Addr} {v : Val} {kvs : List (Key × V)} {o : HO} (h : VAt K B q v) (hd : B d = some (.dK kvs) ∨ ∃ od, B d = some (.frz od (.dK kvs))) : VAt K (upd B d o) q v := by
  obtain ⟨b, h1, h2⟩ := h
  exact ⟨b, sqt_updK h1 hd, sqt_updK h2 hd⟩
theorem im_vN {K : PySem.W.Frag} {H : Hp} : ∀ l : List Nat, ImA K H (vN l) (l.map fun n => .int ((n : Nat) : Int))
  | [] => .nil
  | n :: l => .cons (.int _) (im_vN l)
theorem VAt.im {K : PySem.W.Frag} {H : Hp} {q : Addr} {v : Val} (h : VAt K H q v) : Im K H (.ref q) (vD v) := by
  obtain ⟨b, h1, h2⟩ := h
  exact .tup h1 (.cons (.int _) (.cons (.int _) (.cons (.tup h2 (im_vN _)) .nil)))
theorem dep_ints : ∀ l : List Nat, PyData.depthAll (l.map fun n => PyData.int ((n : Nat) : Int)) ≤ 1
  | [] => by simp [PyData.depthAll]
  | n :: l => by
    have := dep_ints l
    rw [List.map_cons]
    simp only [PyData.depthAll, PyData.depth]
    omega
theorem vD_dep (v : Val) : (vD v).depth ≤ 5 := by
  have := dep_ints v.2
  unfold vD
  simp only [PyData.depth, PyData.depthAll]
  omega
theorem pkR_len {Ts : List Tab} (hb : ∀ T ∈ Ts, ∀ s v, T s = some v → v.2.length ≤ 2000) {ps : Pick} (h : PkOk Ts ps) : (pkR ps).length ≤ 2000 * Ts.length := by
  induction h with
  | nil => exact Nat.le_refl _
  | @cons T p Ts ps h t ih =>
    have h1 := hb T List.mem_cons_self _ _ h
    have h2 := ih fun U hU => hb U (List.mem_cons_of_mem _ hU)
    have e : pkR (p :: ps) = p.2.2 ++ pkR ps := by unfold pkR; rw [List.map_cons, List.flatten_cons]
    rw [e, List.length_append, List.length_cons]
    omega
theorem pow3 {i : Nat} (h : i ≤ 3) : 3 ^ i ≤ 27 := by
  match i, h with
  | 0, _ => decide
  | 1, _ => decide
  | 2, _ => decide
  | 3, _ => decide
def KnC (rows : List Sy.Row) (d : Rdr) (ps : Pick) (t : Str × Int) : Nat → Val → Prop := fun s v => s = stepF d t.1 (pkS ps) ∧ v = (pkC ps + t.2, rkD rows t.1 :: pkR ps)
theorem Hs.go {B H H' : Hp} {L : List (Addr × HO)} (h : Hs B L H) (al : AllL L) (s : Same H H') : ∃ B', Same B B' ∧ Hs B' L H' ∧ Stay H' B' := by
  obtain ⟨a, b⟩ := h.after s
  exact ⟨_, a, b, stay_cut h al s⟩
theorem allL2 {a b : Addr} {xs ys : List V} : AllL [(a, .lst xs), (b, .lst ys)] := fun q hq => by
  rcases List.mem_cons.mp hq with rfl | hq
  · exact ⟨_, rfl⟩
  · rw [List.mem_singleton.mp hq]; exact ⟨_, rfl⟩
theorem put_best {pr : List Ent} {s : Nat} {q : Addr} {v : Val} (h : ∀ o, lookP pr s = some o → vlt v o = true) : lookP (putP pr s q v) = best1 (lookP pr) s v := by
  rw [look_put]
  funext s'
  unfold best1
  by_cases c : s' = s
  · rw [if_pos c, if_pos c]
    cases e : lookP pr s with
    | none => rfl
    | some o =>
      simp only
      rw [if_pos (h o e)]
  · rw [if_neg c, if_neg c]
theorem stay_best {T : Tab} {s : Nat} {v o : Val} (e : T s = some o) (h : vlt v o = false) : T = best1 T s v := by
  funext s'
  unfold best1
  by_cases c : s' = s
  · rw [if_pos c, c, e]
    simp only
    rw [if_neg (by rw [h]; exact Bool.false_ne_true)]
  · rw [if_neg c]
theorem nt2 {a b : Addr} {kvs : List (Key × V)} {xs : List V} : ∀ q ∈ ([(a, .dK kvs), (b, .lst xs)] : List (Addr × HO)), (∀ xs, q.2 ≠ .tup xs) ∧ ∀ o u, q.2 ≠ .frz o u := fun q hq => by
  rcases List.mem_cons.mp hq with rfl | hq
  · exact ⟨fun _ z => (nomatch z), fun _ _ z => (nomatch z)⟩
  · rw [List.mem_singleton.mp hq]
    exact ⟨fun _ z => (nomatch z), fun _ _ z => (nomatch z)⟩
section
variable {P : Program} {w : World} {K : PySem.W.Frag} {mg : Str → Option Value} {base : Heap}
def spKnot (P : Program) (w : World) (K : PySem.W.Frag) : Sp := fun vs H Q _ => ∃ (ra b tq bl ca : Addr) (rows : List Sy.Row) (d : Rdr) (zs bs : List Addr) (tl : List (Str × Int)) (Ts : List Tab) (Tc : Tab), vs = [.ref ra, .ref tq, .ref bl, .ref ca] ∧ RdAt P w K H ra b rows d ∧ RowsOk rows ∧ RdOk rows d ∧ d.many ≤ 3 ∧
  H tq = some (.lst (zs.map V.ref)) ∧ Paired (TuAt K H) zs tl ∧ (∀ t ∈ tl, isK rows t.1 = true ∧ ar rows t.1 = Ts.length) ∧ H bl = some (.lst (bs.map V.ref)) ∧ Paired (TabAt K H d.many) bs Ts ∧ (∀ T ∈ Ts, ∀ s v, T s = some v → v.2.length ≤ 2000) ∧ TabAt K H d.many ca Tc ∧ Ts.length ≤ 3 ∧
  ∀ H' a T, H a = none → Same H H' → TabAt K H' d.many a T → (∀ C0, IsB Tc C0 → IsB T (fun s v => C0 s v ∨ ∃ ps t, PkOk Ts ps ∧ t ∈ tl ∧ KnC rows d ps t s v)) → Q (.ref a) H'
abbrev N_knot : List Str := ["reader", "turns", "below", "cut_values", "rows", "part", "states", "cost", "knots", "ranks", "state", "more", "best", "result", "value", "many", "added"]
theorem sc_knot : FnScope N_knot ["reader", "turns", "below", "cut_values"] (defScope (top 47)) := ⟨rfl, rfl, rfl, by decide +kernel, rfl, by decide +kernel, by decide +kernel⟩
theorem k_knot (T : Txt K mg) (TR : TxtR K mg) (F : DF K mg "_changed_knot" 47) (c_step : CalC P w K mg base 4 "Reader" "step" ["self", "kind", "below"] (spStep P w K)) (c_rank : CalM P w K mg base 1 "rank" ["self", "kind"] (spRk K)) :
    Cal P w K mg base 5 "_changed_knot" ["reader", "turns", "below", "cut_values"] (spKnot P w K) := by
  refine cal_of F.1 F.2 sc_knot (fun _ _ _ _ _ _ us e => match us, e with | [_, _, _, _], _ => rfl) (fun vs H Q E s => by obtain ⟨_, _, _, _, _, _, _, _, _, _, _, _, rfl, _⟩ := s; rfl) ?_
  intro cdv A outer s H vs Q E hr h
  obtain ⟨ra, b, tq, bl, ca, rows, d, zs, bs, tl, Ts, Tc, rfl, hR, ok, dok, hm3, htq, hzs, htl, hbl, hbs, hbound, hca, hT3l, hq⟩ := h
  obtain ⟨mS, fS, FS, BS⟩ := c_step
  obtain ⟨mR, fR, FR, BR⟩ := c_rank
  have hu := hu_of hr
  have hu65 : (A.deeper (envOfC "_changed_knot" (defScope (top 47)) s.heap.objs.size (He.ga K "_changed_knot") cdv)).units + 65 < cLine := by have := hr.un; omega
  have sc := sc_knot
  refine ⟨_, (pss_cons (ps_set (i := 4) sc.nd rfl (Or.inl rfl) (pe_lst (pa_cons (pe_tup (pa_cons (pe_tup pa_nil) (pa_cons pe_int (pa_cons pe_int (pa_cons (pe_tup pa_nil) pa_nil))))) pa_nil)))
      (pss_cons (ps_cut (ps_for (passes_of rfl) rfl (pi_list (pv 2)) (pg_name (i := 5) sc.nd rfl (Or.inr rfl))
        (pss_one (ps_lock (ps_setLc2 (i := 4) (own := [("states", 6), ("cost", 7), ("knots", 8), ("ranks", 9), ("state", 10), ("more", 11), ("many", 15), ("added", 16)]) (vs1 := [10, 11, 15, 16]) (g := gTup K 4 (gCons (gName 6) (gCons (gName 7) (gCons (gName 8) (gCons (gName 9) gNil))))) (g1 := gTup K 2 (gCons (gName 10) (gCons (gTup K 3 (gCons (gName 11) (gCons (gName 15) (gCons (gName 16) gNil)))) gNil)))
          (te := tTup (tCons (tOp (rCatA K) (tVar 6) (tTup (tCons (tVar 10) tNil))) (tCons _ (tCons _ (tCons (tOp (rCatA K) (tVar 9) (tVar 16)) tNil)))))
          rfl sc.nd rfl rfl (sw_true rfl rfl rfl (by decide +kernel)) (pi_list (pv 4)) (blkOk_by (N := N_knot) (sc := defScope (top 47)) (by decide +kernel)) (by decide)
          (fun _ _ _ _ _ => (pg_tup rfl (pgs_cons (pg_name (i := 6) sc.nd rfl (Or.inl rfl)) (pgs_cons (pg_name (i := 7) sc.nd rfl (Or.inl rfl)) (pgs_cons (pg_name (i := 8) sc.nd rfl (Or.inl rfl)) (pgs_cons (pg_name (i := 9) sc.nd rfl (Or.inl rfl)) pgs_nil)))))) (fun _ _ _ _ _ => pts_nil)
          (fun _ _ _ _ _ => pi_items (pv 5))
          (fun _ _ _ _ _ => (pg_tup rfl (pgs_cons (pg_name (i := 10) sc.nd rfl (Or.inl rfl)) (pgs_cons (pg_tup rfl (pgs_cons (pg_name (i := 11) sc.nd rfl (Or.inl rfl)) (pgs_cons (pg_name (i := 15) sc.nd rfl (Or.inl rfl)) (pgs_cons (pg_name (i := 16) sc.nd rfl (Or.inl rfl)) pgs_nil)))) pgs_nil)))) (fun _ _ _ _ _ => pts_nil)
          (fun _ _ _ _ _ => (pe_tup (pa_cons (pe_catK K rfl (pv 6) (pe_tup (pa_cons (pv 10) pa_nil))) (pa_cons (pe_op op_add (pv 7) (pv 11)) (pa_cons (pe_op op_add (pv 8) (pv 15)) (pa_cons (pe_catK K rfl (pv 9) (pv 16)) pa_nil)))))))))))
      (pss_cons (ps_set (i := 12) sc.nd rfl (Or.inl rfl) (pe_callTy call_dictD (by rfl) TR.dict (by decide +kernel) (pa_cons (pv 3) pa_nil)))
      (pss_cons (ps_for (passes_of rfl) rfl (pi_list (pv 4)) (pg_tup rfl (pgs_cons (pg_name (i := 6) sc.nd rfl (Or.inl rfl)) (pgs_cons (pg_name (i := 7) sc.nd rfl (Or.inl rfl)) (pgs_cons (pg_name (i := 8) sc.nd rfl (Or.inl rfl)) (pgs_cons (pg_name (i := 9) sc.nd rfl (Or.inl rfl)) pgs_nil)))))
        (pss_one (ps_for (passes_of rfl) rfl (pi_list (pv 1)) (pg_tup rfl (pgs_cons (pg_name (i := 13) sc.nd rfl (Or.inl rfl)) (pgs_cons (pg_name (i := 11) sc.nd rfl (Or.inl rfl)) pgs_nil)))
          (pss_cons (ps_set (i := 10) sc.nd rfl (Or.inl rfl) (pe_meth (pv 0) TR.cl mS FS (hr.mono (by decide)) BS .nil (E := E0) (fun pins σ H s e s' I h => passL pins σ H s e s' I h) (pa_cons (pv 13) (pa_cons (pv 6) pa_nil))))
          (pss_cons (ps_set (i := 14) sc.nd rfl (Or.inl rfl) (pe_tup (pa_cons (pe_op op_add (pv 7) (pv 11)) (pa_cons (pv 8) (pa_cons (pe_op op_catA (pe_tup (pa_cons (pe_meth (pe_fld (pv 0) rfl) T.bed.cl mR FR (hr.mono (by decide)) BR .nil (E := E0) (fun pins σ H s e s' I h => passL pins σ H s e s' I h) (pa_cons (pv 13) pa_nil)) pa_nil)) (pv 9)) pa_nil)))))
          (pss_one (ps_if (PW.pt (pw_or (pt_cmp (pc_dnotin hu (pv 10) (pv 12))) (pw_or1 (pt_cmpR (op_ltD hu65) (pv 14) (pe_dget hu (pv 12) (pv 10) (fun _ _ => rfl)) (nomark _)))))
            (pss_one (ps_dput hu (pv 12) (pv 10) (pv 14) rfl))
            pss_nil)))))))
      (pss_one (ps_ret (pv 12))))))), ?_⟩
  refine ⟨by decide, fun T1 hT1 => ⟨by decide, fun T2 hT2 => ⟨(by show 4 ≤ sizeLine; decide), fun T3 hT3 => ⟨(by show 1 ≤ sizeLine; decide), fun D0 hD0 => ?_⟩⟩⟩⟩
  have k0 := ((((Hs.start H).tup (o := .tup []) hT1).tup (o := .tup []) hT2).tup (o := .tup [.ref T1, .int 0, .int 1, .ref T2]) hT3).new (o := .lst [.ref T3]) hD0
  have u1 := up_same (o := .tup []) hT1
  have u2 := up_same (o := .tup []) hT2
  have u3 := up_same (o := .tup [.ref T1, .int 0, .int 1, .ref T2]) hT3
  have row0 : RwAt K (upd (upd (upd H T1 (.tup [])) T2 (.tup [])) T3 (.tup [.ref T1, .int 0, .int 1, .ref T2])) T3 [] := ⟨T1, T2, SqT.of upd_same, SqT.of (u3 _ _ (u2 _ _ upd_same)), SqT.of (u3 _ _ upd_same)⟩
  have sB0 := (u1.trans u2).trans u3
  generalize upd (upd (upd H T1 (.tup [])) T2 (.tup [])) T3 (.tup [.ref T1, .int 0, .int 1, .ref T2]) = B0 at *
  have hbl' := paired_len hbs
  refine ⟨fun σ' H' => ∃ (rq : Addr) (t5 : Option V) (B : Hp) (qs : List Addr) (C : List Pick), σ' = [some (.ref ra), some (.ref tq), some (.ref bl), some (.ref ca), some (.ref rq), t5, none, none, none, none, none, none, none, none, none, none, none] ∧ Same H B ∧ Hs B [(rq, .lst (qs.map V.ref))] H' ∧ Paired (RwAt K B) qs C ∧
      (∀ ps, ps ∈ C ↔ PkOk Ts ps) ∧ C.length ≤ 27, ?_, ?_⟩
  · refine ⟨_, rfl, bl, rfl, ⟨_, SqL.of ((sB0.trans k0.sub) _ _ hbl)⟩, for_list (K := K) (xs := bs.map V.ref) (fun i σ' H' => ∃ (rq : Addr) (t5 : Option V) (B : Hp) (qs : List Addr) (C : List Pick), σ' = [some (.ref ra), some (.ref tq), some (.ref bl), some (.ref ca), some (.ref rq), t5, none, none, none, none, none, none, none, none, none, none, none] ∧ Same H B ∧ Hs B [(rq, .lst (qs.map V.ref))] H' ∧ Paired (RwAt K B) qs C ∧
        (∀ ps, ps ∈ C ↔ PkOk (Ts.take i) ps) ∧ C.length ≤ 3 ^ i) ⟨D0, none, B0, [T3], [[]], rfl, sB0, k0, .cons row0 .nil, fun ps => ?_, Nat.le_refl _⟩ (fun _ _ _ _ ⟨_, _, _, _, _, _, sB, hh, _⟩ => SqL.of ((sB.trans hh.sub) _ _ hbl)) ?_ ?_⟩
    · rw [List.mem_singleton]
      constructor
      · rintro rfl
        exact .nil
      · intro z
        cases z
        rfl
    · rintro i v σ H1 hv ⟨rq, t5, B, qs, C, rfl, sB, hh, hP, hC, hCl⟩
      obtain ⟨q, eq, rfl⟩ := map_at hv
      have hi : i < Ts.length := by rw [← hbl']; exact (List.getElem?_eq_some_iff.mp eq).1
      obtain ⟨Ti, eT⟩ : ∃ z, Ts[i]? = some z := ⟨_, List.getElem?_eq_getElem hi⟩
      obtain ⟨q2, eq2, tA⟩ := paired_at hbs eT
      rw [eq] at eq2
      cases eq2
      obtain ⟨pr, hd0, pok0, rfl⟩ := tA
      have hdB : B q = some (.dK (tabE pr)) := sB _ _ hd0
      have pok := pok0.mono (Stay.of sB)
      have prl := pok.len
      refine ⟨q, .dK (tabE pr), hh.sub _ _ hdB, trivial, fun od => ?_⟩
      have hL := hh.updB (o := .frz od (.dK (tabE pr))) hdB
      have hP1 : Paired (RwAt K (upd B q (.frz od (.dK (tabE pr))))) qs C := Paired.mapP hP fun _ _ z => z.upd (.inl hdB)
      have pat1 : ∀ z ∈ pr, VAt K (upd B q (.frz od (.dK (tabE pr)))) z.2.1 z.2.2 := fun z hz => (pok.at_ z hz).upd (.inl hdB)
      have hq1 : (upd B q (.frz od (.dK (tabE pr)))) q = some (.frz od (.dK (tabE pr))) := upd_same
      have hB1 : ∀ B2, Same (upd B q (.frz od (.dK (tabE pr)))) B2 → Same B (upd B2 q (.dK (tabE pr))) := fun B2 s a o e => by
        by_cases c : a = q
        · rw [c, upd_same, ← hdB, ← c, e]
        · rw [upd_ne c]
          exact s _ _ (by rw [upd_ne c]; exact e)
      generalize upd B q (.frz od (.dK (tabE pr))) = B1 at *
      have hPl := paired_len hP1
      have hC27 : C.length ≤ 9 := by
        have : 3 ^ i ≤ 9 := by
          match i, (show i ≤ 2 by omega) with
          | 0, _ => decide
          | 1, _ => decide
          | 2, _ => decide
        omega
      have exl : ∀ n, (exC (C.take n) pr).length ≤ 27 := fun n => by
        rw [exC_len, List.length_take]
        have := Nat.mul_le_mul (show min n C.length ≤ 9 by omega) (show pr.length ≤ 3 by omega)
        omega
      refine ⟨_, rfl, rq, rfl, ⟨_, SqL.of hL.r0⟩, fun D hD => lp_it (walk_list (K := K) (a := rq) (xs := qs.map V.ref)) (fun n H' => ∃ (B2 : Hp) (qs2 : List Addr), Same B1 B2 ∧ Hs B2 [(D, .lst (qs2.map V.ref)), (rq, .lst (qs.map V.ref))] H' ∧ Paired (RwAt K B2) qs2 (exC (C.take n) pr))
        ⟨B1, [], Same.refl _, hL.new hD, .nil⟩ (fun _ _ _ ⟨_, _, _, h2, _⟩ => SqL.of h2.r1) ?_ ?_⟩
      · rintro n x H2 _ hn ⟨B2, qs2, s2, h2, hP2⟩ ⟨rfl, hx⟩
        obtain ⟨r, er, rfl⟩ := map_at hx
        obtain ⟨ps, eps⟩ : ∃ z, C[n]? = some z := ⟨_, List.getElem?_eq_getElem (by rw [List.length_map] at hn; omega)⟩
        obtain ⟨r2, er2, rw0⟩ := paired_at hP1 eps
        rw [er] at er2
        cases er2
        obtain ⟨a1, a2, ta, tb, tc⟩ := rw0.mono (Stay.of s2)
        have rank6 : (pkR ps).length ≤ 6000 := by
          have := pkR_len (Ts := Ts.take i) (fun T hT => hbound T (List.mem_of_mem_take hT)) ((hC ps).mp (List.mem_of_getElem? eps))
          rw [List.length_take] at this
          omega
        have st4 : (pkS ps).length ≤ 10 := by
          have := paired_len ((hC ps).mp (List.mem_of_getElem? eps))
          unfold pkS
          rw [List.length_map, ← this, List.length_take]
          omega
        simp only [wipe, List.map_cons, List.map_nil, List.set_cons_succ, List.set_cons_zero]
        refine ⟨r, _, rfl, Same.sqt h2.sub ta, rfl, _, _, rfl, _, _, rfl, _, _, rfl, _, _, rfl, rfl, ?_, ?_⟩
        · simp only [List.set_cons_succ, List.set_cons_zero]
        simp only [tYes, if_true, List.set_cons_succ, List.set_cons_zero]
        have take_n : C.take (n + 1) = C.take n ++ [ps] := by rw [List.take_succ, eps]; rfl
        refine ⟨_, rfl, q, od, tabE pr, rfl, h2.sub _ _ (s2 _ _ hq1), lp_it walk_items (fun j H' => ∃ (B3 : Hp) (qs3 : List Addr), Same B2 B3 ∧ Hs B3 [(D, .lst (qs3.map V.ref)), (rq, .lst (qs.map V.ref))] H' ∧ Paired (RwAt K B3) qs3 (exC (C.take n) pr ++ (pr.take j).map (exP ps)))
          ⟨B2, qs2, Same.refl _, h2, by rw [List.take_zero, List.map_nil, List.append_nil]; exact hP2⟩ (fun _ _ _ ⟨_, _, s3, h3, _⟩ => (s3.trans h3.sub) _ _ (s2 _ _ hq1)) ?_ ?_⟩
        · rintro j x H3 H4 hj ⟨B3, qs3, s3, h3, hP3⟩ ⟨Tn, w1, w2, rfl, hTn, rfl, e1, e2⟩
          have hjp : j < pr.length := by
            rw [show (tabE pr).length = pr.length from List.length_map ..] at hj
            exact hj
          obtain ⟨z, ez⟩ : ∃ z, pr[j]? = some z := ⟨_, List.getElem?_eq_getElem hjp⟩
          have etz : (tabE pr)[j]? = some (Sum.inl ((z.1 : Nat) : Int), V.ref z.2.1) := by unfold tabE; rw [List.getElem?_map, ez]; rfl
          simp only [etz] at e1 e2
          obtain rfl : V.int ((z.1 : Nat) : Int) = w1 := Option.some.inj e1
          obtain rfl : V.ref z.2.1 = w2 := Option.some.inj e2
          have hzm := List.mem_of_getElem? ez
          have s13 := s2.trans s3
          obtain ⟨vb, tv, tvb⟩ := (pat1 z hzm).mono (Stay.of s13)
          have vl : z.2.2.2.length ≤ 2000 := hbound _ (List.mem_of_getElem? eT) _ _ (look_mem pok.nd hzm)
          have h4 := h3.tup (o := .tup [.int ((z.1 : Nat) : Int), .ref z.2.1]) hTn
          have sT : Same B3 (upd B3 Tn (.tup [.int ((z.1 : Nat) : Int), .ref z.2.1])) := up_same (h3.sub.free hTn)
          simp only [wipe, List.set_cons_succ, List.set_cons_zero]
          refine ⟨Tn, _, rfl, SqT.of upd_same, rfl, _, _, rfl, _, _, rfl, z.2.1, _, rfl, Same.sqt (sT.trans h4.sub) tv, rfl, _, _, rfl, _, _, rfl, _, _, rfl, rfl, rfl, ?_, ?_⟩
          · simp only [List.set_cons_succ, List.set_cons_zero]
          simp only [tYes, if_true, List.set_cons_succ, List.set_cons_zero]
          refine ⟨_, rfl, _, rfl, (by show 1 ≤ sizeLine; decide), fun Tu hTu => ?_⟩
          have sU : Same (upd B3 Tn (.tup [.int ((z.1 : Nat) : Int), .ref z.2.1])) (upd (upd B3 Tn (.tup [.int ((z.1 : Nat) : Int), .ref z.2.1])) Tu (.tup [.int ((z.1 : Nat) : Int)])) := up_same (h4.sub.free hTu)
          have h5 := h4.tup (o := .tup [.int ((z.1 : Nat) : Int)]) hTu
          have s35 := sT.trans sU
          generalize upd (upd B3 Tn (.tup [.int ((z.1 : Nat) : Int), .ref z.2.1])) Tu (.tup [.int ((z.1 : Nat) : Int)]) = B5 at *
          refine cat_any (Same.sqt ((s3.trans s35).trans h5.sub) tb) (SqT.of upd_same) (by rw [show (vN (pkS ps)).length = (pkS ps).length from List.length_map ..]; show _ + 1 ≤ 1000000; omega) (fun p6 H6 s6 t6 => ?_)
          obtain ⟨B6, s56, h6, st6⟩ := h5.go allL2 s6
          have t6 := st6.sqt t6
          refine ⟨_, rfl, _, rfl, _, _, rfl, rfl, _, rfl, _, rfl, _, _, rfl, rfl, _, rfl, _, rfl, cat_any (Same.sqt (((s3.trans s35).trans s56).trans h6.sub) tc) (Same.sqt ((s35.trans s56).trans h6.sub) tvb) (by rw [show (vN (pkR ps)).length = (pkR ps).length from List.length_map .., show (vN z.2.2.2).length = z.2.2.2.length from List.length_map ..]; omega) (fun p7 H7 s7 t7 => ?_)⟩
          obtain ⟨B7, s67, h7, st7⟩ := h6.go allL2 s7
          have t7 := st7.sqt t7
          refine ⟨(by show 4 ≤ sizeLine; decide), fun T8 hT8 => ?_⟩
          have h8 := h7.tup (o := .tup [.ref p6, .int (pkC ps + z.2.2.1), .int (((1 + (pkR ps).length : Nat) : Int) + ((z.2.2.2.length : Nat) : Int)), .ref p7]) hT8
          have s78 : Same B7 (upd B7 T8 (.tup [.ref p6, .int (pkC ps + z.2.2.1), .int (((1 + (pkR ps).length : Nat) : Int) + ((z.2.2.2.length : Nat) : Int)), .ref p7])) := up_same (h7.sub.free hT8)
          have s38 := ((s35.trans s56).trans s67).trans s78
          have row : RwAt K (upd B7 T8 (.tup [.ref p6, .int (pkC ps + z.2.2.1), .int (((1 + (pkR ps).length : Nat) : Int) + ((z.2.2.2.length : Nat) : Int)), .ref p7])) T8 (exP ps z) := by
            refine ⟨p6, p7, ?_, ?_, ?_⟩
            · have e1 : pkC (exP ps z) = pkC ps + z.2.2.1 := pkC_snoc ps (z.1, z.2.2)
              have e2 : ((1 + (pkR (exP ps z)).length : Nat) : Int) = ((1 + (pkR ps).length : Nat) : Int) + ((z.2.2.2.length : Nat) : Int) := by
                rw [show pkR (exP ps z) = pkR ps ++ z.2.2.2 from pkR_snoc ps (z.1, z.2.2), List.length_append]
                omega
              rw [e1, e2]
              exact SqT.of upd_same
            · rw [show pkS (exP ps z) = pkS ps ++ [z.1] from pkS_snoc ps (z.1, z.2.2), show vN (pkS ps ++ [z.1]) = vN (pkS ps) ++ [.int ((z.1 : Nat) : Int)] from List.map_append ..]
              exact Same.sqt (s67.trans s78) t6
            · rw [show pkR (exP ps z) = pkR ps ++ z.2.2.2 from pkR_snoc ps (z.1, z.2.2), show vN (pkR ps ++ z.2.2.2) = vN (pkR ps) ++ vN z.2.2.2 from List.map_append ..]
              exact Same.sqt s78 t7
          have etk : (pr.take (j + 1)).map (exP ps) = (pr.take j).map (exP ps) ++ [exP ps z] := by rw [List.take_succ, ez, List.map_append]; rfl
          have ql := paired_len hP3
          refine ⟨_, h8.r0, ?_, _, qs3 ++ [T8], s3.trans s38, by rw [List.map_append]; exact h8.w0, ?_⟩
          · rw [List.length_map, ql, List.length_append, List.length_map, List.length_take, sizeLine_eq]
            have := exl n
            omega
          · rw [etk, ← List.append_assoc]
            exact Paired.snoc (Paired.mapP hP3 fun _ _ y => y.mono (Stay.of s38)) row
        · rintro H3 ⟨B3, qs3, s3, h3, hP3⟩
          rw [show (tabE pr).length = pr.length from List.length_map .., List.take_length, ← exC_snoc, ← take_n] at hP3
          exact ⟨B3, qs3, s2.trans s3, h3, hP3⟩
      · rintro H2 ⟨B2, qs2, s2, h2, hP2⟩
        rw [List.length_map, hPl, List.take_length] at hP2
        have hq2 := h2.sub _ _ (s2 _ _ hq1)
        have h2d : Hs B2 [(D, .lst (qs2.map V.ref))] H2 := ⟨h2.sub, fun z hz => h2.own z (by rw [List.mem_singleton.mp hz]; exact List.mem_cons_self), by simp, fun z hz => h2.ap z (by rw [List.mem_singleton.mp hz]; exact List.mem_cons_self)⟩
        refine ⟨hq2, D, _, upd B2 q (.dK (tabE pr)), qs2, exC C pr, rfl, sB.trans (hB1 B2 s2), h2d.updB (s2 _ _ hq1), Paired.mapP hP2 fun _ _ z => z.upd (.inr ⟨od, s2 _ _ hq1⟩), fun ps => ?_, ?_⟩
        · rw [exC_mem pok.nd hC, show Ts.take (i + 1) = Ts.take i ++ [lookP pr] by rw [List.take_succ, eT]; rfl]
        · rw [exC_len, Nat.pow_succ]
          exact Nat.mul_le_mul hCl (by omega)
    · rintro σ H1 ⟨rq, t5, B, qs, C, rfl, sB, hh, hP, hC, hCl⟩
      rw [List.length_map, hbl'] at hC hCl
      rw [List.take_length] at hC
      exact ⟨rq, t5, B, qs, C, rfl, sB, hh, hP, hC, Nat.le_trans hCl (pow3 hT3l)⟩
  rintro σ' H1 ⟨rq, t5, B, qs, C, rfl, sB, hh, hP, hC, hCl⟩
  obtain ⟨prc, hcd, hcok, rfl⟩ := hca
  have sH1 := sB.trans hh.sub
  refine ⟨_, rfl, ca, tabE prc, rfl, .inl (sH1 _ _ hcd), fun a ha => ?_⟩
  have ha0 := sH1.free ha
  have k1 := hh.new (o := .dK (tabE prc)) ha
  have hPl := paired_len hP
  have hzl := paired_len hzs
  obtain ⟨dx, tM, dE, ob, hra, hbd, _, _, _⟩ := id hR.ex
  obtain ⟨dx', dA, tR, tK, dR, pp, hb1, _⟩ := id hbd.ex
  have tlt : ∀ T ∈ Ts, ∀ s v, T s = some v → s < d.many := fun T hT s v e => by
    obtain ⟨i, hi, rfl⟩ := List.mem_iff_getElem.mp hT
    obtain ⟨q, _, tA⟩ := paired_at hbs (List.getElem?_eq_getElem hi)
    obtain ⟨pr, _, pok, e2⟩ := tA
    rw [e2] at e
    obtain ⟨q2, hm, _⟩ := look_some e
    exact pok.lt _ hm
  have pslt : ∀ ps, PkOk Ts ps → ∀ n ∈ pkS ps, n < d.many := fun ps h => by
    clear hC hP hPl hbs hbound htl hT3l hq hbl'
    induction h with
    | nil => intro n hn; cases hn
    | @cons T p Ts ps h t ih =>
      intro n hn
      rcases List.mem_cons.mp hn with rfl | hn
      · exact tlt T List.mem_cons_self _ _ h
      · exact ih (fun U hU => tlt U (List.mem_cons_of_mem _ hU)) n hn
  refine ⟨_, rfl, rq, rfl, ⟨_, SqL.of k1.r1⟩, for_it (walk_list (K := K) (a := rq) (xs := qs.map V.ref)) (fun i σ H' => ∃ (t6 t7 t8 t9 t10 t11 t13 t14 : Option V) (B2 : Hp) (pr : List Ent), σ = [some (.ref ra), some (.ref tq), some (.ref bl), some (.ref ca), some (.ref rq), t5, t6, t7, t8, t9, t10, t11, some (.ref a), t13, t14, none, none] ∧ Same B B2 ∧ Hs B2 [(a, .dK (tabE pr)), (rq, .lst (qs.map V.ref))] H' ∧ EnOk K B2 d.many pr ∧
      ∀ C0, IsB (lookP prc) C0 → IsB (lookP pr) (fun s v => C0 s v ∨ ∃ ps ∈ C.take i, ∃ t ∈ tl, KnC rows d ps t s v))
    ⟨none, none, none, none, none, none, none, none, B, prc, rfl, Same.refl _, k1, hcok.mono (Stay.of sB), fun C0 h0 => h0.congr fun s v => ⟨.inl, fun z => z.elim id fun ⟨_, hm, _⟩ => by simp at hm⟩⟩ (fun _ _ _ _ ⟨_, _, _, _, _, _, _, _, _, _, _, _, h2, _⟩ => SqL.of h2.r1) ?_ ?_⟩
  · rintro i v σ H2 _ hi ⟨t6, t7, t8, t9, t10, t11, t13, t14, B2, pr, rfl, s2, h2, pok, hI⟩ ⟨rfl, hx⟩
    obtain ⟨r, er, rfl⟩ := map_at hx
    obtain ⟨ps, eps⟩ : ∃ z, C[i]? = some z := ⟨_, List.getElem?_eq_getElem (by rw [List.length_map] at hi; omega)⟩
    obtain ⟨r2, er2, rw0⟩ := paired_at hP eps
    rw [er] at er2
    cases er2
    obtain ⟨a1, a2, ta, tb, tc⟩ := rw0.mono (Stay.of s2)
    have psok := (hC ps).mp (List.mem_of_getElem? eps)
    have rank6 := pkR_len hbound psok
    have psl : (pkS ps).length = Ts.length := by unfold pkS; rw [List.length_map, ← paired_len psok]
    refine ⟨r, _, rfl, Same.sqt h2.sub ta, rfl, _, _, rfl, _, _, rfl, _, _, rfl, _, _, rfl, rfl, ?_⟩
    simp only [List.set_cons_succ, List.set_cons_zero]
    have s02 := sB.trans s2
    refine ⟨_, rfl, tq, rfl, ⟨_, SqL.of ((s02.trans h2.sub) _ _ htq)⟩, for_it (walk_list (K := K) (a := tq) (xs := zs.map V.ref)) (fun j σ H' => ∃ (t10 t11 t13 t14 : Option V) (B3 : Hp) (pr3 : List Ent), σ = [some (.ref ra), some (.ref tq), some (.ref bl), some (.ref ca), some (.ref rq), t5, some (.ref a1), some (.int (pkC ps)), some (.int ((1 + (pkR ps).length : Nat) : Int)), some (.ref a2), t10, t11, some (.ref a), t13, t14, none, none] ∧ Same B2 B3 ∧ Hs B3 [(a, .dK (tabE pr3)), (rq, .lst (qs.map V.ref))] H' ∧ EnOk K B3 d.many pr3 ∧
        ∀ C0, IsB (lookP prc) C0 → IsB (lookP pr3) (fun s v => (C0 s v ∨ ∃ ps ∈ C.take i, ∃ t ∈ tl, KnC rows d ps t s v) ∨ ∃ t ∈ tl.take j, KnC rows d ps t s v))
      ⟨t10, t11, t13, t14, B2, pr, rfl, Same.refl _, h2, pok, fun C0 h0 => (hI C0 h0).congr fun s v => ⟨.inl, fun z => z.elim id fun ⟨_, hm, _⟩ => by simp at hm⟩⟩ (fun _ _ _ _ ⟨_, _, _, _, _, _, _, s3, h3, _⟩ => SqL.of (((s02.trans s3).trans h3.sub) _ _ htq)) ?_ ?_⟩
    · rintro j v σ H3 _ hj ⟨t10, t11, t13, t14, B3, pr3, rfl, s3, h3, pok3, hI3⟩ ⟨rfl, hx⟩
      obtain ⟨z, ez, rfl⟩ := map_at hx
      obtain ⟨t, et⟩ : ∃ t, tl[j]? = some t := ⟨_, List.getElem?_eq_getElem (by rw [List.length_map] at hj; omega)⟩
      obtain ⟨z2, ez2, tz⟩ := paired_at hzs et
      rw [ez] at ez2
      cases ez2
      have htm := List.mem_of_getElem? et
      obtain ⟨tk, tar⟩ := htl t htm
      have s03 := s02.trans s3
      have sH3 := s03.trans h3.sub
      refine ⟨z, _, rfl, Same.sqt sH3 tz, rfl, _, _, rfl, _, _, rfl, rfl, ?_⟩
      simp only [List.set_cons_succ, List.set_cons_zero]
      refine ⟨_, rfl, ra, dx, _, rfl, sH3 _ _ hra, rfl, _, rfl, _, rfl, ra, b, a1, t.1, rows, d, pkS ps, rfl, hR.mono (Stay.of sH3), ok, dok, tk, Same.sqt (s3.trans h3.sub) tb, by rw [psl, tar], pslt ps psok, fun H4 s4 => ?_⟩
      obtain ⟨s34, h4⟩ := h3.after s4
      generalize cut [(a, HO.dK (tabE pr3)), (rq, HO.lst (qs.map V.ref))] H4 = B4 at *
      have s04 := s03.trans s34
      have sH4 := s04.trans h4.sub
      refine ⟨_, rfl, _, rfl, _, _, rfl, rfl, _, rfl, _, rfl, ra, _, dx, _, _, rfl, sH4 _ _ hra, TR.cl, TR.nB, rfl, b, dx', _, rfl, sH4 _ _ hb1, rfl, _, rfl, b, rows, t.1, rfl, hbd.mono (Stay.of sH4), tk, (by show 1 ≤ sizeLine; decide), fun T5 hT5 => ?_⟩
      have h5 := h4.tup (o := .tup [.int (rkD rows t.1 : Nat)]) hT5
      have s45 : Same B4 (upd B4 T5 (.tup [.int (rkD rows t.1 : Nat)])) := up_same (h4.sub.free hT5)
      generalize hB5 : upd B4 T5 (.tup [.int (rkD rows t.1 : Nat)]) = B5 at *
      refine ⟨_, rfl, cat_any (SqT.of upd_same) (Same.sqt (((s3.trans s34).trans s45).trans h5.sub) tc) (by rw [show (vN (pkR ps)).length = (pkR ps).length from List.length_map ..]; show 1 + _ ≤ 1000000; omega) (fun p6 H6 s6 t6 => ?_)⟩
      obtain ⟨s56, h6⟩ := h5.after s6
      have t6 := sqt_cut h6.own nt2 t6
      generalize cut [(a, HO.dK (tabE pr3)), (rq, HO.lst (qs.map V.ref))] H6 = B6 at *
      refine ⟨(by show 3 ≤ sizeLine; decide), fun T7 hT7 => ?_⟩
      have h7 := h6.tup (o := .tup [.int (pkC ps + t.2), .int ((1 + (pkR ps).length : Nat) : Int), .ref p6]) hT7
      have s67 : Same B6 (upd B6 T7 (.tup [.int (pkC ps + t.2), .int ((1 + (pkR ps).length : Nat) : Int), .ref p6])) := up_same (h6.sub.free hT7)
      have s37 := ((s34.trans s45).trans s56).trans s67
      have hv7 : VAt K (upd B6 T7 (.tup [.int (pkC ps + t.2), .int ((1 + (pkR ps).length : Nat) : Int), .ref p6])) T7 (pkC ps + t.2, rkD rows t.1 :: pkR ps) := by
        refine ⟨p6, ?_, Same.sqt s67 t6⟩
        rw [show (rkD rows t.1 :: pkR ps).length = 1 + (pkR ps).length by rw [List.length_cons]; omega]
        exact SqT.of upd_same
      generalize upd B6 T7 (.tup [.int (pkC ps + t.2), .int ((1 + (pkR ps).length : Nat) : Int), .ref p6]) = B7 at *
      have pok7 := pok3.mono (Stay.of s37)
      have hlen := pok7.len
      have slt := stepF_lt dok t.1 (pkS ps)
      have next : ∀ C0, IsB (lookP prc) C0 → IsB (best1 (lookP pr3) (stepF d t.1 (pkS ps)) (pkC ps + t.2, rkD rows t.1 :: pkR ps)) (fun s v => (C0 s v ∨ ∃ ps ∈ C.take i, ∃ t ∈ tl, KnC rows d ps t s v) ∨ ∃ t ∈ tl.take (j + 1), KnC rows d ps t s v) := fun C0 h0 => by
        refine ((hI3 C0 h0).step _ _).congr fun s v => ?_
        have etk : tl.take (j + 1) = tl.take j ++ [t] := by rw [List.take_succ, et]; rfl
        rw [etk]
        constructor
        · rintro ((z | ⟨u, hu, z⟩) | z)
          · exact .inl z
          · exact .inr ⟨u, List.mem_append_left _ hu, z⟩
          · exact .inr ⟨t, List.mem_append_right _ (List.mem_singleton.mpr rfl), z⟩
        · rintro (z | ⟨u, hu, z⟩)
          · exact .inl (.inl z)
          · rcases List.mem_append.mp hu with hu | hu
            · exact .inl (.inr ⟨u, hu, z⟩)
            · rw [List.mem_singleton.mp hu] at z
              exact .inr z
      simp only [List.set_cons_succ, List.set_cons_zero]
      refine ⟨_, rfl, _, rfl, a, _, rfl, DGet.k (k := Sum.inl ((stepF d t.1 (pkS ps) : Nat) : Int)) h7.r0, _, rfl, ?_⟩
      rw [valV_tabE]
      cases e : lookP pr3 (stepF d t.1 (pkS ps)) with
      | none =>
        rw [look_none e]
        refine iteT ⟨_, rfl, _, rfl, _, rfl, a, _, rfl, DPut.k (k := Sum.inl ((stepF d t.1 (pkS ps) : Nat) : Int)) h7.r0 (by unfold tabE; rw [List.length_map, sizeLine_eq]; omega), ?_⟩
        rw [putK_tabE]
        refine ⟨_, _, _, _, B7, _, rfl, s3.trans s37, h7.w0, pok7.put hv7 slt, fun C0 h0 => ?_⟩
        rw [put_best (fun o z => by rw [e] at z; cases z)]
        exact next C0 h0
      | some o =>
        obtain ⟨qo, hqo, hfo⟩ := look_some e
        rw [hfo]
        refine iteF ⟨_, rfl, _, rfl, _, rfl, a, .ref qo, rfl, ?_, vD (pkC ps + t.2, rkD rows t.1 :: pkR ps), vD o, (hv7.mono (Stay.of h7.sub)).im.dp, ((pok7.at_ _ hqo).mono (Stay.of h7.sub)).im.dp, vD_alike _ _, (fun z => nomatch z), (by have := vD_dep (pkC ps + t.2, rkD rows t.1 :: pkR ps); omega), _, rfl, ?_⟩
        · have := DGet.k (k := Sum.inl ((stepF d t.1 (pkS ps) : Nat) : Int)) h7.r0
          rw [valV_tabE, hfo] at this
          exact this
        rw [vD_lt]
        cases f : vlt (pkC ps + t.2, rkD rows t.1 :: pkR ps) o with
        | true =>
          refine iteT ⟨_, rfl, _, rfl, _, rfl, a, _, rfl, DPut.k (k := Sum.inl ((stepF d t.1 (pkS ps) : Nat) : Int)) h7.r0 (by unfold tabE; rw [List.length_map, sizeLine_eq]; omega), ?_⟩
          rw [putK_tabE]
          refine ⟨_, _, _, _, B7, _, rfl, s3.trans s37, h7.w0, pok7.put hv7 slt, fun C0 h0 => ?_⟩
          rw [put_best (fun o' z => by rw [e] at z; cases z; exact f)]
          exact next C0 h0
        | false =>
          refine iteF ⟨_, _, _, _, B7, pr3, rfl, s3.trans s37, h7, pok7, fun C0 h0 => ?_⟩
          rw [stay_best e f]
          exact next C0 h0
    · rintro σ H3 ⟨t10, t11, t13, t14, B3, pr3, rfl, s3, h3, pok3, hI3⟩
      rw [List.length_map, hzl, List.take_length] at hI3
      refine ⟨_, _, _, _, _, _, _, _, B3, pr3, rfl, s2.trans s3, h3, pok3, fun C0 h0 => (hI3 C0 h0).congr fun s v => ?_⟩
      have etk : C.take (i + 1) = C.take i ++ [ps] := by rw [List.take_succ, eps]; rfl
      rw [etk]
      constructor
      · rintro ((z | ⟨u, hu, z⟩) | z)
        · exact .inl z
        · exact .inr ⟨u, List.mem_append_left _ hu, z⟩
        · exact .inr ⟨ps, List.mem_append_right _ (List.mem_singleton.mpr rfl), z⟩
      · rintro (z | ⟨u, hu, z⟩)
        · exact .inl (.inl z)
        · rcases List.mem_append.mp hu with hu | hu
          · exact .inl (.inr ⟨u, hu, z⟩)
          · rw [List.mem_singleton.mp hu] at z
            exact .inr z
  · rintro σ H2 ⟨t6, t7, t8, t9, t10, t11, t13, t14, B2, pr, rfl, s2, h2, pok, hI⟩
    rw [List.length_map, hPl, List.take_length] at hI
    refine ⟨_, rfl, hq H2 a (lookP pr) ha0 ((sB.trans s2).trans h2.sub) ⟨pr, h2.r0, pok.mono (Stay.of h2.sub), rfl⟩ fun C0 h0 => (hI C0 h0).congr fun s v => ?_⟩
    constructor
    · rintro (z | ⟨ps, hp, t, ht, z⟩)
      · exact .inl z
      · exact .inr ⟨ps, t, (hC ps).mp hp, ht, z⟩
    · rintro (z | ⟨ps, t, hp, ht, z⟩)
      · exact .inl z
      · exact .inr ⟨ps, (hC ps).mpr hp, t, ht, z⟩
end
end Sy
/-! _cut_values -/
namespace Sy
open PySem PySem.Spec PyProof.Rows L2
theorem rk_at {rows : List Sy.Row} : ∀ {n i : Nat} {r : Sy.Row}, (rows.map (·.1)).Nodup → rows[i]? = some r → rk n rows r.1 = some (n + i) := by
  induction rows with
  | nil => intro n i r _ h; simp at h
  | cons q rs ih =>
    intro n i r nd h
    rw [List.map_cons, List.nodup_cons] at nd
    rw [rk]
    cases i with
    | zero =>
      have : q = r := by simpa using h
      subst this
      rw [if_pos rfl]
      rfl
    | succ i =>
      have h : rs[i]? = some r := by simpa using h
      have : q.1 ≠ r.1 := fun e => nd.1 (by rw [e]; exact List.mem_map_of_mem (List.mem_of_getElem? h))
      rw [if_neg this, ih nd.2 h]
      congr 1
      omega
theorem leafs_up {rows : List Sy.Row} (nd : (rows.map (·.1)).Nodup) : (leafs rows).Pairwise fun a b => rkD rows a < rkD rows b := by
  have h : rows.Pairwise fun a b => rkD rows a.1 < rkD rows b.1 := by
    rw [List.pairwise_iff_getElem]
    intro i j hi hj hij
    have e1 := rk_at (n := 0) nd (List.getElem?_eq_getElem hi)
    have e2 := rk_at (n := 0) nd (List.getElem?_eq_getElem hj)
    unfold rkD
    rw [e1, e2]
    show 0 + i < 0 + j
    omega
  unfold leafs
  rw [List.pairwise_map]
  exact h.filter _
theorem leafs_mem {rows : List Sy.Row} (nd : (rows.map (·.1)).Nodup) {k : Str} : k ∈ leafs rows ↔ isK rows k = true ∧ ar rows k = 0 := by
  unfold leafs
  rw [List.mem_map]
  constructor
  · rintro ⟨r, hr, rfl⟩
    rw [List.mem_filter] at hr
    have e := lookup_mem nd hr.1
    have : r.2 = 0 := by simpa using hr.2
    unfold isK ar
    rw [e]
    exact ⟨rfl, this⟩
  · rintro ⟨h1, h2⟩
    unfold isK at h1
    obtain ⟨n, e⟩ := Option.isSome_iff_exists.mp h1
    unfold ar at h2
    rw [e] at h2
    have h2 : n = 0 := h2
    subst h2
    exact ⟨(k, 0), List.mem_filter.mpr ⟨lookup_at e, by simp⟩, rfl⟩
section
variable {P : Program} {w : World} {K : PySem.W.Frag} {mg : Str → Option Value} {base : Heap}
def spCutV (P : Program) (w : World) (K : PySem.W.Frag) : Sp := fun vs H Q _ => ∃ (pa ra b b' : Addr) (c : Int) (rows : List Sy.Row) (sws : List Swp) (d : Rdr), vs = [.ref pa, .ref ra] ∧ PrcAt K H pa b c rows sws ∧ RdAt P w K H ra b' rows d ∧ RowsOk rows ∧ RdOk rows d ∧
  ∀ H' a T, H a = none → Same H H' → TabAt K H' d.many a T → IsB T (CutC rows d c) → Q (.ref a) H'
abbrev N_cutV : List Str := ["prices", "reader", "found", "kind", "state"]
theorem sc_cutV : FnScope N_cutV ["prices", "reader"] (defScope (top 46)) := ⟨rfl, rfl, rfl, by decide +kernel, rfl, by decide +kernel, by decide +kernel⟩
theorem k_cutV (T : Txt K mg) (TP : TxtP K mg) (TR : TxtR K mg) (F : DF K mg "_cut_values" 46) (c_step : CalC P w K mg base 4 "Reader" "step" ["self", "kind", "below"] (spStep P w K)) (c_rank : CalM P w K mg base 1 "rank" ["self", "kind"] (spRk K)) (c_leaves : CalM P w K mg base 1 "leaves" ["self"] (spLeaves K)) :
    Cal P w K mg base 5 "_cut_values" ["prices", "reader"] (spCutV P w K) := by
  refine cal_of F.1 F.2 sc_cutV (fun _ _ _ _ _ _ us e => match us, e with | [_, _], _ => rfl) (fun vs H Q E s => by obtain ⟨_, _, _, _, _, _, _, _, rfl, _⟩ := s; rfl) ?_
  intro cdv A outer s H vs Q E hr h
  obtain ⟨pa, ra, b, b', c, rows, sws, d, rfl, hP, hR, ok, dok, hq⟩ := h
  obtain ⟨mS, fS, FS, BS⟩ := c_step
  obtain ⟨mR, fR, FR, BR⟩ := c_rank
  obtain ⟨mL, fL, FL, BL⟩ := c_leaves
  have hu := hu_of hr
  have sc := sc_cutV
  obtain ⟨dp, tp, pps, hpa, hbd, _, _⟩ := id hP.ex
  obtain ⟨dx, tM, dE, ob, hra, _⟩ := id hR.ex
  obtain ⟨dx', dA, tR, tK, dR, pp, hb1, _⟩ := id hbd.ex
  refine ⟨_, (pss_cons (ps_set (i := 2) sc.nd rfl (Or.inl rfl) pe_dnewK)
      (pss_cons (ps_for (passes_of rfl) rfl (pi_tup (pe_meth0 (pe_fld (pv 0) rfl) T.bed.cl mL FL (hr.mono (by decide)) BL .nil (E := E0) (fun pins σ H s e s' I h => passL pins σ H s e s' I h))) (pg_name (i := 3) sc.nd rfl (Or.inl rfl))
        (pss_cons (ps_set (i := 4) sc.nd rfl (Or.inl rfl) (pe_meth (pv 1) TR.cl mS FS (hr.mono (by decide)) BS .nil (E := E0) (fun pins σ H s e s' I h => passL pins σ H s e s' I h) (pa_cons (pv 3) (pa_cons (pe_tup pa_nil) pa_nil))))
        (pss_one (ps_if (pt_cmp (pc_dnotin hu (pv 4) (pv 2)))
          (pss_one (ps_dput hu (pv 2) (pv 4) (pe_tup (pa_cons (pe_fld (pv 0) rfl) (pa_cons pe_int (pa_cons (pe_tup (pa_cons (pe_meth (pe_fld (pv 0) rfl) T.bed.cl mR FR (hr.mono (by decide)) BR .nil (E := E0) (fun pins σ H s e s' I h => passL pins σ H s e s' I h) (pa_cons (pv 3) pa_nil)) pa_nil)) pa_nil)))) rfl))
          pss_nil))))
      (pss_one (ps_ret (pv 2))))), ?_⟩
  refine fun D hD => ?_
  have k1 := (Hs.start H).new (o := .dK []) hD
  have ule := ok.le
  refine ⟨_, rfl, pa, _, dp, _, _, rfl, k1.sub _ _ hpa, TP.cl, TP.nB, rfl, b, dx', _, rfl, k1.sub _ _ hb1, rfl, b, rows, rfl, hbd.mono (Stay.of k1.sub), by omega, fun H1 t s1 ht => ?_⟩
  obtain ⟨sB1, h1⟩ := k1.after s1
  have htB := sqt_cut h1.own (fun q hq => by rw [List.mem_singleton.mp hq]; exact ⟨fun _ z => (nomatch z), fun _ _ z => (nomatch z)⟩) ht
  generalize cut [(D, HO.dK [])] H1 = B1 at *
  have up := leafs_up ok.nd
  have lrl : (leafs rows).length ≤ 8 := by
    unfold leafs
    rw [List.length_map]
    exact Nat.le_trans (List.length_filter_le _ _) ok.le
  refine ⟨t, rfl, ⟨_, ht⟩, for_tup (K := K) (a := t) (xs := (leafs rows).map V.str) (fun i σ H' => ∃ (t3 t4 : Option V) (B : Hp) (pr : List Ent), σ = [some (.ref pa), some (.ref ra), some (.ref D), t3, t4] ∧ Same B1 B ∧ Hs B [(D, .dK (tabE pr))] H' ∧ EnOk K B d.many pr ∧
      IsB (lookP pr) (fun s v => ∃ k ∈ (leafs rows).take i, s = stepF d k [] ∧ v = (c, [rkD rows k])))
    ⟨none, none, B1, [], rfl, Same.refl _, h1, EnOk.nil, IsB.empty.congr fun s v => ⟨fun z => z.elim, fun ⟨_, hm, _⟩ => by simp at hm⟩⟩ (fun _ _ _ _ ⟨_, _, _, _, _, sB, hh, _⟩ => Same.sqt (sB.trans hh.sub) htB) ?_ ?_⟩
  · rintro i v σ H2 hv ⟨t3, t4, B, pr, rfl, sB, hh, pok, hI⟩
    obtain ⟨k, ek, rfl⟩ := map_at hv
    obtain ⟨kk, kar⟩ := (leafs_mem ok.nd).mp (List.mem_of_getElem? ek)
    have s0 := sB1.trans sB
    have sH := s0.trans hh.sub
    refine ⟨_, rfl, ra, dx, _, rfl, sH _ _ hra, rfl, _, rfl, (by decide), fun T4 hT4 => ?_⟩
    have h4 := hh.tup (o := .tup []) hT4
    have s4 : Same B (upd B T4 (.tup [])) := up_same (hh.sub.free hT4)
    refine ⟨ra, b', T4, k, rows, d, [], rfl, hR.mono (Stay.of ((s0.trans s4).trans h4.sub)), ok, dok, kk, SqT.of upd_same, by rw [kar]; rfl, fun _ z => (nomatch z), fun H5 s5 => ?_⟩
    obtain ⟨s45, h5⟩ := h4.after s5
    generalize cut [(D, HO.dK (tabE pr))] H5 = B5 at *
    have s05 := (s0.trans s4).trans s45
    have sH5 := s05.trans h5.sub
    have pok5 := pok.mono (Stay.of (s4.trans s45))
    have hlen := pok5.len
    have d40 := dok.le
    have slt := stepF_lt dok k []
    have etk : (leafs rows).take (i + 1) = (leafs rows).take i ++ [k] := by rw [List.take_succ, ek]; rfl
    have next : IsB (best1 (lookP pr) (stepF d k []) (c, [rkD rows k])) (fun s v => ∃ k ∈ (leafs rows).take (i + 1), s = stepF d k [] ∧ v = (c, [rkD rows k])) := by
      refine (hI.step _ _).congr fun s v => ?_
      rw [etk]
      constructor
      · rintro (⟨u, hu, z⟩ | z)
        · exact ⟨u, List.mem_append_left _ hu, z⟩
        · exact ⟨k, List.mem_append_right _ (List.mem_singleton.mpr rfl), z⟩
      · rintro ⟨u, hu, z⟩
        rcases List.mem_append.mp hu with hu | hu
        · exact .inl ⟨u, hu, z⟩
        · rw [List.mem_singleton.mp hu] at z
          exact .inr z
    refine ⟨_, rfl, _, rfl, D, _, rfl, DGet.k (k := Sum.inl ((stepF d k [] : Nat) : Int)) h5.r0, _, rfl, ?_⟩
    rw [valV_tabE]
    cases e : lookP pr (stepF d k []) with
    | none =>
      rw [look_none e]
      refine iteT ⟨_, rfl, pa, _, dp, _, _, rfl, sH5 _ _ hpa, TP.cl, TP.nC, rfl, _, rfl, pa, _, dp, _, _, rfl, sH5 _ _ hpa, TP.cl, TP.nB, rfl, b, dx', _, rfl, sH5 _ _ hb1, rfl, _, rfl, b, rows, k, rfl, hbd.mono (Stay.of sH5), kk, (by show 1 ≤ sizeLine; decide), fun T6 hT6 => ⟨(by show 3 ≤ sizeLine; decide), fun T7 hT7 => ?_⟩⟩
      have h7 := (h5.tup (o := .tup [.int (rkD rows k : Nat)]) hT6).tup (o := .tup [.int c, .int 1, .ref T6]) hT7
      have s6 : Same B5 (upd B5 T6 (.tup [.int (rkD rows k : Nat)])) := up_same (h5.sub.free hT6)
      have s7 : Same (upd B5 T6 (.tup [.int (rkD rows k : Nat)])) (upd (upd B5 T6 (.tup [.int (rkD rows k : Nat)])) T7 (.tup [.int c, .int 1, .ref T6])) := up_same ((h5.tup (o := .tup [.int (rkD rows k : Nat)]) hT6).sub.free hT7)
      have hv : VAt K (upd (upd B5 T6 (.tup [.int (rkD rows k : Nat)])) T7 (.tup [.int c, .int 1, .ref T6])) T7 (c, [rkD rows k]) := ⟨T6, SqT.of upd_same, SqT.of (s7 _ _ upd_same)⟩
      refine ⟨_, rfl, _, rfl, D, _, rfl, DPut.k (k := Sum.inl ((stepF d k [] : Nat) : Int)) h7.r0 (by unfold tabE; rw [List.length_map, sizeLine_eq]; omega), ?_⟩
      rw [putK_tabE]
      refine ⟨_, _, _, _, rfl, ((((sB.trans s4).trans s45).trans s6).trans s7), h7.w0, (pok5.mono (Stay.of (s6.trans s7))).put hv slt, ?_⟩
      rw [put_best (fun o z => by rw [e] at z; cases z)]
      exact next
    | some o =>
      obtain ⟨qo, hqo, hfo⟩ := look_some e
      rw [hfo]
      obtain ⟨k', hk', es, ev⟩ := hI.mem _ _ e
      have lt : vlt (c, [rkD rows k]) o = false := by
        rw [ev]
        obtain ⟨j, hj, ej⟩ := List.mem_iff_getElem.mp hk'
        rw [List.length_take] at hj
        rw [List.getElem_take] at ej
        have := List.pairwise_iff_getElem.mp up j i (by omega) (List.getElem?_eq_some_iff.mp ek).1 (by omega)
        rw [ej, (List.getElem?_eq_some_iff.mp ek).2] at this
        unfold vlt
        rw [if_pos rfl, if_pos (show (c, [rkD rows k]).2.length = (c, [rkD rows k']).2.length from rfl)]
        show rlt [rkD rows k] [rkD rows k'] = false
        rw [rlt, if_neg (by omega)]
        exact decide_eq_false (by omega)
      refine iteF ⟨_, _, B5, pr, rfl, (sB.trans s4).trans s45, h5, pok5, ?_⟩
      rw [stay_best e lt]
      exact next
  · rintro σ H2 ⟨t3, t4, B, pr, rfl, sB, hh, pok, hI⟩
    rw [List.length_map, List.take_length] at hI
    refine ⟨_, rfl, hq H2 D (lookP pr) hD ((sB1.trans sB).trans hh.sub) ⟨pr, hh.r0, pok.mono (Stay.of hh.sub), rfl⟩ (hI.congr fun s v => ?_)⟩
    constructor
    · rintro ⟨k, hk, z⟩
      obtain ⟨kk, kar⟩ := (leafs_mem ok.nd).mp hk
      exact ⟨k, kk, kar, z⟩
    · rintro ⟨k, kk, kar, z⟩
      exact ⟨k, (leafs_mem ok.nd).mpr ⟨kk, kar⟩, z⟩
end
end Sy
/-! roots of plants in a row -/
namespace Sy
open PySem PySem.Spec PyProof.Rows L2
theorem Fo.uniq : ∀ {w : List Nat} {n m : Nat}, Fo n w → Fo m w → n = m
  | [], 0, 0, _, _ => rfl
  | [], n + 1, _, h, _ => h.elim
  | [], 0, m + 1, _, h => h.elim
  | a :: w, 0, _, h, _ => h.elim
  | a :: w, n + 1, 0, _, h => h.elim
  | a :: w, n + 1, m + 1, h, g => by
    have := Fo.uniq (w := w) (n := n + a) (m := m + a) h g
    omega
theorem szN : ∀ {w : List Nat} {n : Nat}, Fo n w → n ≤ w.length
  | [], 0, _ => Nat.zero_le _
  | [], n + 1, h => h.elim
  | a :: w, 0, h => Nat.zero_le _
  | a :: w, n + 1, h => by
    have := szN (w := w) (n := n + a) h
    rw [List.length_cons]
    omega
/-- where the plants begin that stand from i on -/
def rts (w : List Nat) (i m : Nat) : List Nat := (List.range m).map fun k => i + sp k (w.drop i)
theorem rts_len (w : List Nat) (i m : Nat) : (rts w i m).length = m := by rw [rts, List.length_map, List.length_range]
theorem rts_at {w : List Nat} {i m k : Nat} (h : k < m) : (rts w i m)[k]? = some (i + sp k (w.drop i)) := by rw [rts, List.getElem?_map, List.getElem?_range h]; rfl
theorem rts_step {w : List Nat} {i m : Nat} (hi : i < w.length) : rts w i (m + 1) = i :: (rts w (i + 1) (aw w i + m)).drop (aw w i) := by
  apply List.ext_getElem?
  intro k
  cases k with
  | zero =>
    rw [rts_at (by omega), sp_zero]
    rfl
  | succ k =>
    rw [List.getElem?_cons_succ, List.getElem?_drop]
    by_cases h : k < m
    · rw [rts_at (by omega), rts_at (by omega), drop_at hi, sp_cons, show k + aw w i = aw w i + k by omega]
      congr 1
      omega
    · rw [List.getElem?_eq_none (by rw [rts_len]; omega), List.getElem?_eq_none (by rw [rts_len]; omega)]
theorem rts_kd {w : List Nat} {i m k : Nat} (h : k < m) : (rts w (i + 1) m)[k]? = some (kd w i k) := rts_at h
end Sy
/-! how long the values' plants are; what the turns give -/
namespace Sy
open PySem PySem.Spec PyProof.Rows L2
theorem kids_map (w : List Nat) (i : Nat) (tb : Nat → Tab) : (kidsN w i).map tb = (List.range (aw w i)).map fun t => tb (kd w i t) := by
  unfold kidsN
  rw [List.map_map]
  rfl
theorem pk_len {w : List Nat} {i : Nat} {tb : Nat → Tab} (h : Fo 1 w) (hi : i < w.length) (hb : ∀ t, t < aw w i → ∀ s v, tb (kd w i t) s = some v → v.2.length + kd w i t ≤ en w (kd w i t)) :
    ∀ n, n ≤ aw w i → ∀ ps, PkOk ((List.range n).map fun t => tb (kd w i t)) ps → (pkR ps).length + (i + 1) ≤ kd w i n
  | 0, _, ps, hp => by
    cases hp
    rw [kd_zero]
    show 0 + (i + 1) ≤ i + 1
    omega
  | n + 1, hn, ps, hp => by
    rw [List.range_succ, List.map_append] at hp
    obtain ⟨qs, p, rfl, a, b⟩ := pkok_snoc hp
    have ih := pk_len h hi hb n (by omega) qs a
    have := hb n (by omega) _ _ b
    rw [pkR_snoc, List.length_append, kd_succ]
    omega
theorem cand_len {rows : List Sy.Row} {sws : List Swp} {d : Rdr} {c : Int} {l : List Str} {i : Nat} {x : Str} {tb : Nat → Tab} (h : Fo 1 (wt rows l)) (hx : l[i]? = some x)
    (hb : ∀ t, t < aw (wt rows l) i → ∀ s v, tb (kd (wt rows l) i t) s = some v → v.2.length + kd (wt rows l) i t ≤ en (wt rows l) (kd (wt rows l) i t)) {s : Nat} {v : Val} (hc : Cand rows sws d c x ((kidsN (wt rows l) i).map tb) s v) :
    v.2.length + i ≤ en (wt rows l) i := by
  have hi : i < (wt rows l).length := by rw [wt_len]; exact (List.getElem?_eq_some_iff.mp hx).1
  have e1 := kd_le_en h hi (Nat.zero_le (aw (wt rows l) i))
  rw [kd_zero] at e1
  rcases hc with ⟨k, _, _, _, rfl⟩ | ⟨y, more, ps, _, hp, _, rfl⟩
  · show 1 + i ≤ _
    omega
  · rw [kids_map] at hp
    have := pk_len h hi hb _ (Nat.le_refl _) ps hp
    rw [en_kd hi] at this
    show (rkD rows y :: pkR ps).length + i ≤ _
    rw [List.length_cons]
    omega
theorem turnsL_ok {rows : List Sy.Row} {sws : List Swp} (h : SwsOk rows sws) {x : Str} (hx : isK rows x = true) : ∀ t ∈ turnsL x sws, isK rows t.1 = true ∧ ar rows t.1 = ar rows x := fun t ht => by
  unfold turnsL at ht
  rcases List.mem_cons.mp ht with rfl | ht
  · exact ⟨hx, rfl⟩
  · obtain ⟨s, hs, rfl⟩ := List.mem_map.mp ht
    rw [List.mem_filter] at hs
    have e : s.1 = x := by simpa using hs.2
    have := swOk_i (h.ok s hs.1)
    rw [← e]
    exact ⟨this.2.1, this.2.2.2.1.symm⟩
theorem cand_iff {rows : List Sy.Row} {sws : List Swp} {d : Rdr} {c : Int} {x : Str} {Ts : List Tab} (s : Nat) (v : Val) : (CutC rows d c s v ∨ ∃ ps t, PkOk Ts ps ∧ t ∈ turnsL x sws ∧ KnC rows d ps t s v) ↔ Cand rows sws d c x Ts s v := by
  unfold Cand
  constructor
  · rintro (z | ⟨ps, t, hp, ht, h1, h2⟩)
    · exact .inl z
    · exact .inr ⟨t.1, t.2, ps, ht, hp, h1, by rw [h2, Int.add_comm]⟩
  · rintro (z | ⟨y, more, ps, ht, hp, h1, h2⟩)
    · exact .inl z
    · exact .inr ⟨ps, (y, more), hp, ht, h1, by rw [h2]; show (more + pkC ps, _) = (pkC ps + more, _); rw [Int.add_comm]⟩
/-- the tables do not depend on how they were made -/
theorem TbOk.uniq {rows : List Sy.Row} {sws : List Swp} {d : Rdr} {c : Int} {l : List Str} {tb tb' : Nat → Tab} (h : Fo 1 (wt rows l)) (a : TbOk rows sws d c l 0 tb) (b : TbOk rows sws d c l 0 tb') : ∀ n j, l.length - j ≤ n → j < l.length → tb j = tb' j
  | 0, j, h1, h2 => by omega
  | n + 1, j, h1, h2 => by
    have hx : l[j]? = some l[j] := List.getElem?_eq_getElem h2
    have e : (kidsN (wt rows l) j).map tb = (kidsN (wt rows l) j).map tb' := by
      rw [kids_map, kids_map]
      apply List.map_congr_left
      intro t ht
      have ht := List.mem_range.mp ht
      have hj : j < (wt rows l).length := by rw [wt_len]; exact h2
      have l1 := kd_lt_succ h hj ht
      have l2 := kd_le_en h hj (show t + 1 ≤ aw (wt rows l) j by omega)
      have l3 := h.en_le hj
      rw [wt_len] at l3
      have g : j < kd (wt rows l) j t := kd_gt
      exact TbOk.uniq h a b n _ (by omega) (by omega)
    have p := a j _ (Nat.zero_le _) hx
    rw [e] at p
    exact p.uniq (b j _ (Nat.zero_le _) hx)
end Sy
/-! _changed -/
namespace Sy
open PySem PySem.Spec PyProof.Rows L2
/-- the turns of a kind, listed at z -/
def TnAt (K : PySem.W.Frag) (H : Hp) (z : Addr) (k : Str) (sws : List Swp) : Prop := ∃ zs : List Addr, H z = some (.lst (zs.map V.ref)) ∧ Paired (TuAt K H) zs (turnsL k sws)
theorem TnAt.mono {K : PySem.W.Frag} {H H' : Hp} {z : Addr} {k : Str} {sws : List Swp} (h : TnAt K H z k sws) (s : Same H H') : TnAt K H' z k sws := by
  obtain ⟨zs, h1, h2⟩ := h
  exact ⟨zs, s _ _ h1, Paired.mapP h2 fun _ _ z => Same.sqt s z⟩
theorem paired_take {α β : Type} {R : α → β → Prop} : ∀ {n : Nat} {xs : List α} {ys : List β}, Paired R xs ys → Paired R (xs.take n) (ys.take n)
  | 0, _, _, _ => .nil
  | _ + 1, _, _, .nil => .nil
  | n + 1, _, _, .cons a b => .cons a (paired_take b)
theorem paired_drop {α β : Type} {R : α → β → Prop} : ∀ {n : Nat} {xs : List α} {ys : List β}, Paired R xs ys → Paired R (xs.drop n) (ys.drop n)
  | 0, _, _, h => h
  | _ + 1, _, _, .nil => .nil
  | n + 1, _, _, .cons a b => paired_drop (n := n) b
theorem paired_mapR {α β γ : Type} {R : α → γ → Prop} {f : β → γ} : ∀ {xs : List α} {ys : List β}, Paired (fun a b => R a (f b)) xs ys → Paired R xs (ys.map f)
  | _, _, .nil => .nil
  | _, _, .cons a b => .cons a (paired_mapR b)
theorem paired_mem {α β : Type} {R R' : α → β → Prop} : ∀ {xs : List α} {ys : List β}, Paired R xs ys → (∀ a b, b ∈ ys → R a b → R' a b) → Paired R' xs ys
  | _, _, .nil, _ => .nil
  | _, _, .cons a b, f => .cons (f _ _ List.mem_cons_self a) (paired_mem b fun x y h => f x y (List.mem_cons_of_mem _ h))
theorem TabAt.stay {K : PySem.W.Frag} {H H' : Hp} {many : Nat} {a : Addr} {T : Tab} (h : TabAt K H many a T) (s : Stay H H') : TabAt K H' many a T := by
  obtain ⟨pr, h1, h2, h3⟩ := h
  exact ⟨pr, s _ _ h1 (fun _ z => nomatch z), h2.mono s, h3⟩
theorem rts_ge {w : List Nat} {i m j : Nat} (h : j ∈ rts w i m) : i ≤ j := by
  unfold rts at h
  obtain ⟨k, _, rfl⟩ := List.mem_map.mp h
  omega
theorem rts_take {w : List Nat} {i m : Nat} : (rts w (i + 1) (aw w i + m)).take (aw w i) = kidsN w i := by
  apply List.ext_getElem?
  intro k
  by_cases h : k < aw w i
  · rw [List.getElem?_take, if_pos h, rts_kd (by omega), kidsN_at h]
  · rw [List.getElem?_take, if_neg h, List.getElem?_eq_none (by rw [kidsN_len]; omega)]
section
variable {P : Program} {w : World} {K : PySem.W.Frag} {mg : Str → Option Value} {base : Heap}
def spChg (P : Program) (w : World) (K : PySem.W.Frag) : Sp := fun vs H Q _ => ∃ (pa p ra b b' : Addr) (c : Int) (rows : List Sy.Row) (sws : List Swp) (d : Rdr) (l : List Str), vs = [.ref pa, .ref p, .ref ra] ∧ PrcAt K H pa b c rows sws ∧ RdAt P w K H ra b' rows d ∧ RowsOk rows ∧ RdOk rows d ∧ d.many ≤ 3 ∧ SwsOk rows sws ∧ sws.length ≤ 1000 ∧
  SqT K H p (l.map V.str) ∧ Pln rows l ∧ ∀ H' a tb, Same H H' → TabAt K H' d.many a (tb 0) → TbOk rows sws d c l 0 tb → (∀ s v, tb 0 s = some v → v.2.length ≤ l.length) → Q (.ref a) H'
abbrev N_chg : List Str := ["prices", "plant", "reader", "bed", "turns", "kind", "cut_values", "tables", "below", "_"]
theorem sc_chg : FnScope N_chg ["prices", "plant", "reader"] (defScope (top 45)) := ⟨rfl, rfl, rfl, by decide +kernel, rfl, by decide +kernel, by decide +kernel⟩
theorem k_chg (T : Txt K mg) (TP : TxtP K mg) (F : DF K mg "_changed" 45) (c_turns : Cal P w K mg base 1 "_turns" ["prices", "kind"] (spTurns K)) (c_cut_values : Cal P w K mg base 5 "_cut_values" ["prices", "reader"] (spCutV P w K))
    (c_changed_knot : Cal P w K mg base 5 "_changed_knot" ["reader", "turns", "below", "cut_values"] (spKnot P w K)) (c_branches : CalM P w K mg base 3 "branches" ["self", "kind"] (spBranches K)) : Cal P w K mg base 6 "_changed" ["prices", "plant", "reader"] (spChg P w K) := by
  refine cal_of F.1 F.2 sc_chg (fun _ _ _ _ _ _ us e => match us, e with | [_, _, _], _ => rfl) (fun vs H Q E s => by obtain ⟨_, _, _, _, _, _, _, _, _, _, rfl, _⟩ := s; rfl) ?_
  intro cdv A outer s H vs Q E hr h
  obtain ⟨pa, p, ra, b, b', c, rows, sws, d, l, rfl, hP, hR, ok, dok, hm3, so, hsl, hp, pl, hq⟩ := h
  obtain ⟨mB, fB, FB, BB⟩ := c_branches
  have hu := hu_of hr
  have sc := sc_chg
  obtain ⟨dp, tp, pps, hpa, hbd, _, _⟩ := id hP.ex
  obtain ⟨dx', dA, tR, tK, dR, pp, hb1, hb2, hb3, hb4, hb5, hb6⟩ := id hbd.ex
  refine ⟨_, (pss_cons (ps_set (i := 3) sc.nd rfl (Or.inl rfl) (pe_fld (pv 0) rfl))
      (pss_cons (ps_set (i := 4) sc.nd rfl (Or.inl rfl) pe_dnewK)
      (pss_cons (ps_for (passes_of rfl) rfl (pi_tup (pe_fld (pv 3) rfl)) (pg_name (i := 5) sc.nd rfl (Or.inl rfl))
        (pss_one (ps_dput hu (pv 4) (pv 5) (pe_cal c_turns hr (pa_cons (pv 0) (pa_cons (pv 5) pa_nil))) rfl)))
      (pss_cons (ps_set (i := 6) sc.nd rfl (Or.inl rfl) (pe_cal c_cut_values hr (pa_cons (pv 0) (pa_cons (pv 2) pa_nil))))
      (pss_cons (ps_set (i := 7) sc.nd rfl (Or.inl rfl) (pe_lst pa_nil))
      (pss_cons (ps_for (passes_of rfl) rfl (RT.pi_revA rfl T.reversed (pv 1)) (pg_name (i := 5) sc.nd rfl (Or.inl rfl))
        (pss_cons (ps_set (i := 8) sc.nd rfl (Or.inl rfl) (pe_lst pa_nil))
        (pss_cons (ps_for (passes_of rfl) rfl (pi_range1 rfl T.range (pa_cons (pe_meth (pv 3) T.bed.cl mB FB (hr.mono (by decide)) BB .nil (E := E0) (fun pins σ H s e s' I h => passL pins σ H s e s' I h) (pa_cons (pv 5) pa_nil)) pa_nil)) (pg_name (i := 9) sc.nd rfl (Or.inl rfl))
          (pss_one (ps_expr (pe_bm PySem.F.plainAttrs_list PySem.F.slot_list_append PySem.F.type_list_append mt_append (pv 8) (pa_cons (pe_bm0 PySem.F.plainAttrs_list PySem.F.slot_list_pop PySem.F.type_list_pop mt_pop (pv 7)) pa_nil)))))
        (pss_one (ps_expr (pe_bm PySem.F.plainAttrs_list PySem.F.slot_list_append PySem.F.type_list_append mt_append (pv 7) (pa_cons (pe_cal c_changed_knot hr (pa_cons (pv 2) (pa_cons (pe_dget hu (pv 4) (pv 5) (fun _ _ => rfl)) (pa_cons (pv 8) (pa_cons (pv 6) pa_nil))))) pa_nil)))))))
      (pss_one (ps_ret (pe_ix ix_list (pv 7) pe_int (fun _ _ => rfl)))))))))), ?_⟩
  refine ⟨_, rfl, pa, _, dp, _, _, rfl, hpa, TP.cl, TP.nB, rfl, fun D hD => ?_⟩
  have k1 := (Hs.start H).new (o := .dK []) hD
  have ule := ok.le
  refine ⟨_, rfl, b, _, dx', _, _, rfl, k1.sub _ _ hb1, T.bed.cl, T.bed.nK, rfl, tK, rfl, ⟨_, Same.sqt k1.sub hb5⟩, for_tup (K := K) (a := tK) (xs := rows.map fun r => V.str r.1) (fun i σ H' => ∃ (t5 : Option V) (B : Hp) (kvs : List (Key × V)), σ = [some (.ref pa), some (.ref p), some (.ref ra), some (.ref b), some (.ref D), t5, none, none, none, none] ∧ Same H B ∧ Hs B [(D, .dK kvs)] H' ∧ kvs.length ≤ i ∧
      ∀ r ∈ rows.take i, ∃ z, valV kvs (Sum.inr r.1) = some (.ref z) ∧ TnAt K B z r.1 sws) ⟨none, H, [], rfl, Same.refl _, k1, Nat.le_refl _, fun r hr' => by simp at hr'⟩ (fun _ _ _ _ ⟨_, _, _, _, sB, hh, _⟩ => Same.sqt (sB.trans hh.sub) hb5) ?_ ?_⟩
  · rintro i v σ H1 hv ⟨t5, B, kvs, rfl, sB, hh, hkl, hall⟩
    obtain ⟨r, er, rfl⟩ := map_at hv
    have sH := sB.trans hh.sub
    have hir : i < rows.length := (List.getElem?_eq_some_iff.mp er).1
    refine ⟨_, rfl, _, rfl, pa, b, c, rows, sws, r.1, rfl, hP.mono (Stay.of sH), hsl, fun H2 z zs s2 hz hzs => ?_⟩
    obtain ⟨sB2, h2⟩ := hh.after s2
    have hz2 : (cut [(D, HO.dK kvs)] H2) z = some (.lst (zs.map V.ref)) := by
      rw [cut_at]
      · exact hz
      · intro hm
        have : z = D := by simpa using hm
        have hD2 := h2.r0
        rw [← this, hz] at hD2
        cases hD2
    have hP2 : Paired (TuAt K (cut [(D, HO.dK kvs)] H2)) zs (turnsL r.1 sws) := Paired.mapP hzs fun q u z => sqt_cut h2.own (fun w hw => by rw [List.mem_singleton.mp hw]; exact ⟨fun _ z => (nomatch z), fun _ _ z => (nomatch z)⟩) z
    generalize cut [(D, HO.dK kvs)] H2 = B2 at *
    refine ⟨_, rfl, _, rfl, D, _, rfl, DPut.k (k := Sum.inr r.1) h2.r0 (by rw [sizeLine_eq]; omega), _, B2, _, rfl, sB.trans sB2, h2.w0, Nat.le_trans (length_putK _ _ _) (by omega), fun u hu' => ?_⟩
    rw [valV_put]
    by_cases cc : u.1 = r.1
    · rw [if_pos (by rw [cc])]
      exact ⟨z, rfl, zs, hz2, by rw [cc]; exact hP2⟩
    · rw [if_neg (fun e => cc (by injection e))]
      rw [show rows.take (i + 1) = rows.take i ++ [r] by rw [List.take_succ, er]; rfl] at hu'
      rcases List.mem_append.mp hu' with hu' | hu'
      · obtain ⟨z', e', t'⟩ := hall u hu'
        exact ⟨z', e', t'.mono sB2⟩
      · exact absurd (by rw [List.mem_singleton.mp hu']) cc
  rintro σ H1 ⟨t5, B, kvs, rfl, sB, hh, hkl, hall⟩
  rw [List.length_map, List.take_length] at hall
  have sH1 := sB.trans hh.sub
  have turn : ∀ x, isK rows x = true → ∃ z, valV kvs (Sum.inr x) = some (.ref z) ∧ TnAt K H1 z x sws := fun x hx => by
    unfold isK at hx
    obtain ⟨n, e⟩ := Option.isSome_iff_exists.mp hx
    obtain ⟨z, e2, t2⟩ := hall _ (lookup_at e)
    exact ⟨z, e2, t2.mono hh.sub⟩
  have hD1 := hh.r0
  refine ⟨_, rfl, _, rfl, pa, ra, b, b', c, rows, sws, d, rfl, hP.mono (Stay.of sH1), hR.mono (Stay.of sH1), ok, dok, fun H2 ca Tc _ s2 tca hTc => ?_⟩
  refine ⟨by decide, fun S hS => ?_⟩
  have h2 := (Hs.start H2).new (o := .lst []) hS
  have s02 := sH1.trans s2
  have hp2 := Same.sqt s02 hp
  have hwl := wt_len rows l
  have ll := pl.le
  refine ⟨_, rfl, p, l.map V.str, rfl, .inr ⟨Same.sqt h2.sub hp2, RT.for_ItvT (K := K) (a := p) (xs := l.map V.str) (fun n σ H' => ∃ (t5 t8 t9 : Option V) (B : Hp) (m : Nat) (R : List Addr) (tb : Nat → Tab), σ = [some (.ref pa), some (.ref p), some (.ref ra), some (.ref b), some (.ref D), t5, some (.ref ca), some (.ref S), t8, t9] ∧ Same H2 B ∧ Hs B [(S, .lst (R.reverse.map V.ref))] H' ∧
      Fo m ((wt rows l).drop (l.length - n)) ∧ Paired (fun q j => TabAt K B d.many q (tb j)) R (rts (wt rows l) (l.length - n) m) ∧ TbOk rows sws d c l (l.length - n) tb ∧ (∀ j, l.length - n ≤ j → j < l.length → ∀ s v, tb j s = some v → v.2.length + j ≤ en (wt rows l) j))
    ⟨_, none, none, H2, 0, [], fun _ _ => none, rfl, Same.refl _, h2, ?_, .nil, fun j x h1 h2 => ?_, fun j h1 h2 => by omega⟩ (fun _ _ _ ⟨_, _, _, _, _, _, _, _, sB, hh, _⟩ => Same.sqt (sB.trans hh.sub) hp2) ?_ ?_⟩⟩
  · rw [List.drop_of_length_le (by omega)]
    trivial
  · have := (List.getElem?_eq_some_iff.mp h2).1
    omega
  · rintro n v σ H3 hn hv ⟨t5, t8, t9, B, m0, R, tb, rfl, sB, hh, hFo, hRt, hTb, hbn⟩
    rw [List.length_map] at hn hv
    obtain ⟨x, ex, rfl⟩ := map_at hv
    generalize hi0 : l.length - 1 - n = i at *
    have ei : l.length - n = i + 1 := by omega
    rw [ei] at hFo hRt hTb hbn
    have hil : i < l.length := by omega
    have hiw : i < (wt rows l).length := by omega
    have kx := pl.kn x (List.mem_of_getElem? ex)
    have eaw : aw (wt rows l) i = ar rows x := wt_at ex
    obtain ⟨m, hm⟩ := pl.fo.below hiw
    obtain rfl : m0 = aw (wt rows l) i + m := Fo.uniq hFo hm
    have hRl := paired_len hRt
    rw [rts_len] at hRl
    have har := ok.ar_le x
    refine ⟨by decide, fun D2 hD2 => ?_⟩
    have h3 := hh.new (o := .lst []) hD2
    have s23 := sB
    have sH3 := (s02.trans sB).trans h3.sub
    refine ⟨_, rfl, b, dx', _, rfl, sH3 _ _ hb1, rfl, _, rfl, b, rows, x, rfl, hbd.mono (Stay.of sH3), ok.wdB kx, fun _ => ?_, fun z => by rw [kx] at z; cases z⟩
    refine ⟨_, rfl, by omega, by omega, for_rng (n := ar rows x) (fun t σ H' => ∃ t9, σ = [some (.ref pa), some (.ref p), some (.ref ra), some (.ref b), some (.ref D), some (.str x), some (.ref ca), some (.ref S), some (.ref D2), t9] ∧ Hs B [(D2, .lst ((R.take t).map V.ref)), (S, .lst ((R.drop t).reverse.map V.ref))] H') ⟨_, rfl, h3⟩ ?_ ?_⟩
    · rintro t σ H4 ht ⟨t9, rfl, h4⟩
      obtain ⟨q, eq⟩ : ∃ q, R[t]? = some q := ⟨_, List.getElem?_eq_getElem (by omega)⟩
      have eR : (R.drop t).reverse.map V.ref = (R.drop (t + 1)).reverse.map V.ref ++ [V.ref q] := by rw [drop_of eq, List.reverse_cons, List.map_append]; rfl
      refine ⟨_, rfl, .inl ⟨rfl, _, SqL.of h4.r0⟩, _, rfl, .inl ⟨rfl, _, SqL.of h4.r1⟩, S, (R.drop t).reverse.map V.ref, .ref q, rfl, rfl, h4.r1, ?_, ?_⟩
      · rw [eR, List.length_append, List.length_singleton, Nat.add_sub_cancel, List.getElem?_append_right (Nat.le_refl _), Nat.sub_self]
        rfl
      have edl : ((R.drop t).reverse.map V.ref).dropLast = (R.drop (t + 1)).reverse.map V.ref := by
        rw [eR]
        exact List.dropLast_concat
      rw [edl]
      have h5 := h4.w1 (o' := .lst ((R.drop (t + 1)).reverse.map V.ref))
      refine ⟨D2, _, _, rfl, rfl, h5.r0, by rw [List.length_map, List.length_take, sizeLine_eq]; omega, _, rfl, ?_⟩
      have h6 := h5.w0 (o' := .lst ((R.take t).map V.ref ++ [.ref q]))
      rw [show (R.take t).map V.ref ++ [V.ref q] = (R.take (t + 1)).map V.ref by rw [List.take_succ, eq, List.map_append]; rfl] at h6 ⊢
      exact h6
    · rintro σ H4 ⟨t9, rfl, h4⟩
      have sH4 := (s02.trans sB).trans h4.sub
      have s14 := (s2.trans sB).trans h4.sub
      obtain ⟨z, ez, tz⟩ := turn x kx
      obtain ⟨zs, hz, hzs⟩ := tz.mono s14
      have hRk : Paired (TabAt K H4 d.many) (R.take (ar rows x)) ((kidsN (wt rows l) i).map tb) := by
        have hk := paired_take (n := aw (wt rows l) i) hRt
        rw [rts_take, eaw] at hk
        exact paired_mapR (Paired.mapP hk fun _ _ y => TabAt.mono y h4.sub)
      have kbn : ∀ t, t < aw (wt rows l) i → ∀ s v, tb (kd (wt rows l) i t) s = some v → v.2.length + kd (wt rows l) i t ≤ en (wt rows l) (kd (wt rows l) i t) := fun t ht s v e => by
        have := pl.fo.kd_lt hiw ht
        have g : i < kd (wt rows l) i t := kd_gt
        exact hbn _ (by omega) (by omega) s v e
      have bd : ∀ U ∈ (kidsN (wt rows l) i).map tb, ∀ s v, U s = some v → v.2.length ≤ 2000 := fun U hU s v e => by
        rw [kids_map] at hU
        obtain ⟨t, ht, rfl⟩ := List.mem_map.mp hU
        have ht := List.mem_range.mp ht
        have h1 := kbn t ht s v e
        have h2 := pl.fo.en_le (pl.fo.kd_lt hiw ht)
        omega
      have kl : ((kidsN (wt rows l) i).map tb).length = ar rows x := by rw [List.length_map, kidsN_len, eaw]
      refine ⟨_, rfl, .inl ⟨rfl, _, SqL.of h4.r1⟩, _, rfl, _, rfl, _, rfl, D, .ref z, rfl, ?_, _, rfl, _, rfl, ra, b', z, D2, ca, rows, d, zs, R.take (ar rows x), turnsL x sws, (kidsN (wt rows l) i).map tb, Tc, rfl, hR.mono (Stay.of sH4), ok, dok, hm3, hz, hzs, fun t ht => by rw [kl]; exact turnsL_ok so kx t ht, h4.r0, hRk, bd, tca.mono ((sB.trans h4.sub)), by rw [kl]; exact har, fun H5 a Tn _ s5 tA hIs => ?_⟩
      · have := DGet.k (k := (Sum.inr x : Key)) (s14 _ _ hD1)
        rw [ez] at this
        exact this
      obtain ⟨B5, sB5, h5, st5⟩ := h4.go allL2 s5
      refine ⟨S, _, _, rfl, rfl, h5.r1, by rw [List.length_map, List.length_reverse, List.length_drop, sizeLine_eq]; have := szN hm; rw [List.length_drop] at this; omega, ?_⟩
      have h6 := h5.w1 (o' := .lst ((R.drop (ar rows x)).reverse.map V.ref ++ [.ref a]))
      have er : (R.drop (ar rows x)).reverse.map V.ref ++ [V.ref a] = (a :: R.drop (ar rows x)).reverse.map V.ref := by rw [List.reverse_cons, List.map_append]; rfl
      rw [er] at h6 ⊢
      have e1 : l.length - (n + 1) = i := by omega
      have ekids : ∀ j, i ≤ j → (kidsN (wt rows l) j).map (fun j => if j = i then Tn else tb j) = (kidsN (wt rows l) j).map tb := fun j hj => by
        rw [kids_map, kids_map]
        apply List.map_congr_left
        intro t _
        have g : j < kd (wt rows l) j t := kd_gt
        rw [if_neg (by omega)]
      have isTn : IsB Tn (Cand rows sws d c x ((kidsN (wt rows l) i).map tb)) := (hIs _ hTc).congr fun s v => cand_iff s v
      refine ⟨_, _, _, B5, m + 1, a :: R.drop (ar rows x), fun j => if j = i then Tn else tb j, rfl, sB.trans sB5, h6.drop, ?_, ?_, fun j y h1 h2 => ?_, fun j h1 h2 s v e => ?_⟩
      · rw [e1, drop_at hiw]
        show Fo (m + aw (wt rows l) i) _
        rw [Nat.add_comm]
        exact hm
      · rw [e1, rts_step hiw, ← eaw]
        refine .cons (by show TabAt K B5 d.many a (if i = i then Tn else tb i); rw [if_pos rfl]; exact tA.stay st5) (paired_mem (paired_drop hRt) fun q j hj z => ?_)
        have := rts_ge (List.mem_of_mem_drop hj)
        show TabAt K B5 d.many q (if j = i then Tn else tb j)
        rw [if_neg (by omega)]
        exact TabAt.mono z sB5
      · rw [e1] at h1
        rw [ekids j h1]
        by_cases c1 : j = i
        · subst c1
          rw [ex] at h2
          cases h2
          show IsB (if j = j then Tn else tb j) _
          rw [if_pos rfl]
          exact isTn
        · show IsB (if j = i then Tn else tb j) _
          rw [if_neg c1]
          exact hTb j y (by omega) h2
      · rw [e1] at h1
        have e : (if j = i then Tn else tb j) s = some v := e
        by_cases c1 : j = i
        · subst c1
          rw [if_pos rfl] at e
          exact cand_len pl.fo ex kbn (isTn.mem s v e)
        · rw [if_neg c1] at e
          exact hbn j (by omega) h2 s v e
  · rintro σ H3 ⟨t5, t8, t9, B, m, R, tb, rfl, sB, hh, hFo, hRt, hTb, hbn⟩
    rw [List.length_map, Nat.sub_self] at hFo hRt hTb hbn
    rw [List.drop_zero] at hFo
    obtain rfl : m = 1 := Fo.uniq hFo pl.fo
    have hRl := paired_len hRt
    rw [rts_len] at hRl
    obtain ⟨a0, rfl⟩ := List.length_eq_one_iff.mp hRl
    have e0 : rts (wt rows l) 0 1 = [0] := by
      show [0 + sp 0 _] = [0]
      rw [sp_zero]
    rw [e0] at hRt
    have lp := Fo.pos pl.fo
    cases hRt with
    | cons tA _ =>
      refine ⟨_, rfl, S, _, _, .ref a0, rfl, rfl, SqL.of hh.r0, atI_nat (j := 0) rfl, hq H3 a0 tb ((s02.trans sB).trans hh.sub) (TabAt.mono tA hh.sub) hTb fun s v e => ?_⟩
      have h1 := hbn 0 (Nat.le_refl _) (by omega) s v e
      have h2 := pl.fo.en_le lp
      omega
end
end Sy
/-! cheapest -/
namespace Sy
open PySem PySem.Spec PyProof.Rows L2 PySem.W
/-- the least of the marked -/
def MinM (marks : List Nat) (T : Tab) : Option Val → Prop
  | none => ∀ m ∈ marks, T m = none
  | some v => (∃ m ∈ marks, T m = some v) ∧ ∀ m ∈ marks, ∀ u, T m = some u → vlt u v = false
def minV (v : Val) (vs : List Val) : Val := vs.foldl (fun a y => if vlt y a = true then y else a) v
theorem minV_ok : ∀ (vs : List Val) (v : Val), minV v vs ∈ v :: vs ∧ ∀ u ∈ v :: vs, vlt u (minV v vs) = false
  | [], v => ⟨List.mem_singleton.mpr rfl, fun u hu => by rw [List.mem_singleton.mp hu]; exact vlt_irr _⟩
  | y :: vs, v => by
    have ih := minV_ok vs (if vlt y v = true then y else v)
    have e : minV v (y :: vs) = minV (if vlt y v = true then y else v) vs := rfl
    rw [e]
    by_cases c : vlt y v = true
    · rw [if_pos c] at ih ⊢
      refine ⟨List.mem_cons_of_mem _ ih.1, fun u hu => ?_⟩
      rcases List.mem_cons.mp hu with rfl | hu
      · cases f : vlt u (minV y vs) with
        | false => rfl
        | true => have := ih.2 y List.mem_cons_self; rw [vlt_trans c f] at this; cases this
      · exact ih.2 u hu
    · rw [if_neg c] at ih ⊢
      have c2 : vlt y v = false := by simpa using c
      refine ⟨?_, fun u hu => ?_⟩
      · rcases List.mem_cons.mp ih.1 with h | h
        · rw [h]; exact List.mem_cons_self
        · exact List.mem_cons_of_mem _ (List.mem_cons_of_mem _ h)
      · rcases List.mem_cons.mp hu with rfl | hu
        · exact ih.2 u List.mem_cons_self
        · rcases List.mem_cons.mp hu with rfl | hu
          · cases f : vlt u (minV v vs) with
            | false => rfl
            | true =>
              have h1 := ih.2 v List.mem_cons_self
              cases g : vlt v u with
              | true => rw [vlt_trans g f] at h1; cases h1
              | false =>
                have := vlt_tri c2 g
                subst this
                rw [f] at h1
                cases h1
          · exact ih.2 u (List.mem_cons_of_mem _ hu)
theorem vD_inj {a b : Val} (h : vD a = vD b) : a = b := by
  have e1 : vlt a b = false := by rw [← vD_lt, h, vD_lt, vlt_irr]
  have e2 : vlt b a = false := by rw [← vD_lt, ← h, vD_lt, vlt_irr]
  exact vlt_tri e1 e2
theorem minD_map : ∀ (vs : List Val) (v : Val), minD (vD v) (vs.map vD) = vD (minV v vs)
  | [], _ => rfl
  | y :: vs, v => by
    have ih := minD_map vs (if vlt y v = true then y else v)
    show minD (if dataLt (vD y) (vD v) then vD y else vD v) (vs.map vD) = vD (minV (if vlt y v = true then y else v) vs)
    rw [← ih, vD_lt]
    by_cases c : vlt y v = true
    · rw [if_pos c, if_pos c]
    · rw [if_neg c, if_neg c]
theorem alike_vD (vs : List Val) : AlikeAll (vs.map vD) := by
  refine ⟨fun x hx y hy => ?_, fun x hx => ?_⟩
  · obtain ⟨a, _, rfl⟩ := List.mem_map.mp hx
    obtain ⟨b, _, rfl⟩ := List.mem_map.mp hy
    exact vD_alike a b
  · obtain ⟨a, _, rfl⟩ := List.mem_map.mp hx
    exact fun z => nomatch z
theorem dep_vD : ∀ vs : List Val, PyData.depthAll (vs.map vD) ≤ 5
  | [] => by simp [PyData.depthAll]
  | v :: vs => by
    have := dep_vD vs
    have := vD_dep v
    rw [List.map_cons]
    simp only [PyData.depthAll]
    omega
theorem MinM.uniq {marks : List Nat} {T : Tab} : ∀ {a b : Option Val}, MinM marks T a → MinM marks T b → a = b
  | none, none, _, _ => rfl
  | none, some _, h, g => by obtain ⟨⟨m, hm, e⟩, _⟩ := g; rw [h m hm] at e; cases e
  | some _, none, h, g => by obtain ⟨⟨m, hm, e⟩, _⟩ := h; rw [g m hm] at e; cases e
  | some a, some b, h, g => by
    obtain ⟨⟨m, hm, e⟩, l1⟩ := h
    obtain ⟨⟨n, hn, f⟩, l2⟩ := g
    rw [vlt_tri (l2 m hm a e) (l1 n hn b f)]
theorem pk_rk {rows : List Sy.Row} {Ts : List Tab} (h : ∀ T ∈ Ts, ∀ s v, T s = some v → ∀ r ∈ v.2, r < rows.length) {ps : Pick} (hp : PkOk Ts ps) : ∀ r ∈ pkR ps, r < rows.length := by
  induction hp with
  | nil => intro r hr; cases hr
  | @cons T p Ts ps a t ih =>
    intro r hr
    have e : pkR (p :: ps) = p.2.2 ++ pkR ps := by unfold pkR; rw [List.map_cons, List.flatten_cons]
    rw [e] at hr
    rcases List.mem_append.mp hr with hr | hr
    · exact h T List.mem_cons_self _ _ a r hr
    · exact ih (fun U hU => h U (List.mem_cons_of_mem _ hU)) r hr
/-- the ranks in a value are ranks of the bed's kinds -/
theorem TbOk.rk {rows : List Sy.Row} {sws : List Swp} {d : Rdr} {c : Int} {l : List Str} {tb : Nat → Tab} (so : SwsOk rows sws) (pl : Pln rows l) (a : TbOk rows sws d c l 0 tb) : ∀ n j, l.length - j ≤ n → j < l.length → ∀ s v, tb j s = some v → ∀ r ∈ v.2, r < rows.length
  | 0, j, h1, h2 => by omega
  | n + 1, j, h1, h2 => by
    intro s v e
    have hx : l[j]? = some l[j] := List.getElem?_eq_getElem h2
    have kx := pl.kn _ (List.mem_of_getElem? hx)
    have hj : j < (wt rows l).length := by rw [wt_len]; exact h2
    have kb : ∀ U ∈ (kidsN (wt rows l) j).map tb, ∀ s v, U s = some v → ∀ r ∈ v.2, r < rows.length := fun U hU s v e => by
      rw [kids_map] at hU
      obtain ⟨t, ht, rfl⟩ := List.mem_map.mp hU
      have ht := List.mem_range.mp ht
      have := pl.fo.kd_lt hj ht
      rw [wt_len] at this
      have g : j < kd (wt rows l) j t := kd_gt
      exact TbOk.rk so pl a n _ (by omega) (by omega) s v e
    rcases (a j _ (Nat.zero_le _) hx).mem s v e with ⟨k, kk, _, _, rfl⟩ | ⟨y, more, ps, ht, hp, _, rfl⟩
    · intro r hr
      rw [List.mem_singleton.mp hr]
      exact (rkD_at kk).2.1
    · intro r hr
      rcases List.mem_cons.mp hr with rfl | hr
      · exact (rkD_at (turnsL_ok so kx _ ht).1).2.1
      · exact pk_rk kb hp r hr
section
variable {P : Program} {w : World} {K : PySem.W.Frag} {mg : Str → Option Value} {base : Heap}
def spChp (P : Program) (w : World) (K : PySem.W.Frag) : Sp := fun vs H Q E => ∃ (pa p ra b b' : Addr) (c : Int) (rows : List Sy.Row) (sws : List Swp) (d : Rdr) (l : List Str), vs = [.ref pa, .ref p, .ref ra] ∧ PrcAt K H pa b c rows sws ∧ RdAt P w K H ra b' rows d ∧ RowsOk rows ∧ RdOk rows d ∧ d.many ≤ 3 ∧ SwsOk rows sws ∧ sws.length ≤ 1000 ∧
  (∀ r ∈ rows, PyData.strOk r.1 = true) ∧ SqT K H p (l.map V.str) ∧ (∀ e, ckP rows l = some e → RaE K e H E) ∧ (ckP rows l = none → (∀ H' tb, Same H H' → TbOk rows sws d c l 0 tb → MinM d.marks (tb 0) none → Q .non H') ∧
  ∀ H' tb v t p2, Same H H' → TbOk rows sws d c l 0 tb → MinM d.marks (tb 0) (some v) → SqT K H' t [.int v.1, .ref p2] → SqT K H' p2 ((v.2.map (kdW rows)).map V.str) → Q (.ref t) H')
abbrev N_chp : List Str := ["prices", "plant", "reader", "bed", "best", "found", "cost", "knots", "ranks", "state"]
theorem sc_chp : FnScope N_chp ["prices", "plant", "reader"] (defScope (top 41)) := ⟨rfl, rfl, rfl, by decide +kernel, rfl, by decide +kernel, by decide +kernel⟩
theorem k_chp (T : Txt K mg) (TP : TxtP K mg) (TR : TxtR K mg) (F : DF K mg "cheapest" 41) (c_need_same : CalR P w K mg base 2 "need_same" (spStar 0 (spNeed K))) (c_check_plant : Cal P w K mg base 4 "check_plant" ["bed", "plant"] (spCheckE K ckP)) (c_changed : Cal P w K mg base 6 "_changed" ["prices", "plant", "reader"] (spChg P w K))
    (c_named_plant : Cal P w K mg base 4 "named_plant" ["bed", "knots", "ranks"] (spNamed K)) : Cal P w K mg base 7 "cheapest" ["prices", "plant", "reader"] (spChp P w K) := by
  refine cal_of F.1 F.2 sc_chp (fun _ _ _ _ _ _ us e => match us, e with | [_, _, _], _ => rfl) (fun vs H Q E s => by obtain ⟨_, _, _, _, _, _, _, _, _, _, rfl, _⟩ := s; rfl) ?_
  intro cdv A outer s H vs Q E hr h
  obtain ⟨pa, p, ra, b, b', c, rows, sws, d, l, rfl, hP, hR, ok, dok, hm3, so, hsl, sok, hp, hE, hq⟩ := h
  have hu := hu_of hr
  have hu65 : (A.deeper (envOfC "cheapest" (defScope (top 41)) s.heap.objs.size (He.ga K "cheapest") cdv)).units + 65 < cLine := by have := hr.un; omega
  have sc := sc_chp
  obtain ⟨dp, tp, pps, hpa, hbd, _, _⟩ := id hP.ex
  obtain ⟨dx, tM, dE, ob, hra, hbd', hM, _⟩ := id hR.ex
  refine ⟨_, (pss_cons (ps_set (i := 3) sc.nd rfl (Or.inl rfl) (pe_fld (pv 0) rfl))
      (pss_cons (ps_expr (pe_calR c_need_same hr (takes_of rfl rfl rfl rfl) (pa_cons (pv 3) (pa_cons (pe_fld (pv 2) rfl) pa_nil))))
      (pss_cons (ps_expr (pe_calX c_check_plant hr (takes_of rfl rfl rfl rfl) (pa_cons (pv 3) (pa_cons (pv 1) pa_nil))))
      (pss_cons (ps_set (i := 4) sc.nd rfl (Or.inr rfl) (pe_cal c_changed hr (pa_cons (pv 0) (pa_cons (pv 1) (pa_cons (pv 2) pa_nil)))))
      (pss_cons (ps_setLc (i := 5) (own := [("state", 9)]) (g := gName 9) rfl sc.nd rfl rfl (sw_true rfl rfl rfl (by decide +kernel)) (pi_tup (pe_fld (pv 2) rfl)) (blkOk_by (N := N_chp) (sc := defScope (top 41)) (by decide +kernel)) (fun _ _ _ _ _ => (pg_name (i := 9) sc.nd rfl (Or.inl rfl))) (fun _ _ _ _ _ => (pts_one (pt_cmp (pc_din hu (pv 9) (pv 4))))) (fun _ _ _ _ _ => (pe_dget hu (pv 4) (pv 9) (fun _ _ => rfl))))
      (pss_cons (ps_if (pt_cmpR op_eq (pe_callB call_len_seq (by rfl) T.len (by decide +kernel) (pa_cons (pv 5) pa_nil)) pe_int (nomark _))
        (pss_one (ps_ret pe_non))
        pss_nil)
      (pss_cons (ps_asg (pe_callB (call_minD rfl hu65) (by rfl) TR.min (by decide +kernel) (pa_cons (pv 5) pa_nil)) (pg_tup rfl (pgs_cons (pg_name (i := 6) sc.nd rfl (Or.inl rfl)) (pgs_cons (pg_name (i := 7) sc.nd rfl (Or.inl rfl)) (pgs_cons (pg_name (i := 8) sc.nd rfl (Or.inl rfl)) pgs_nil)))))
      (pss_one (ps_ret (pe_tup (pa_cons (pv 6) (pa_cons (pe_cal c_named_plant hr (pa_cons (pv 3) (pa_cons (pv 7) (pa_cons (pv 8) pa_nil)))) pa_nil)))))))))))), ?_⟩
  refine ⟨_, rfl, pa, _, dp, _, _, rfl, hpa, TP.cl, TP.nB, rfl, ?_⟩
  refine ⟨_, rfl, _, rfl, ra, _, dx, _, _, rfl, hra, TR.cl, TR.nB, rfl, [], [.ref b, .ref b'], rfl, rfl, (by show 2 ≤ sizeLine; decide), fun p1 hp1 => ?_⟩
  have s1 := up_same (o := .tup [.ref b, .ref b']) hp1
  refine ⟨p1, [b, b'], rows, rfl, SqT.of upd_same, (by show 2 ≤ 1000; decide), fun a ha => ?_, sok, ?_⟩
  · simp only [List.mem_cons, List.not_mem_nil, or_false] at ha
    rcases ha with rfl | rfl
    · exact hbd.mono (Stay.of s1)
    · exact hbd'.mono (Stay.of s1)
  refine ⟨_, rfl, _, rfl, b, p, rows, l, rfl, hbd.mono (Stay.of s1), Same.sqt s1 hp, fun ck H2 s2 => ?_, fun e he => (hE e he).mono s1⟩
  obtain ⟨hq0, hq1⟩ := hq ck
  have pl := pln_of ck
  have s02 := s1.trans s2
  refine ⟨_, rfl, _, rfl, _, rfl, pa, p, ra, b, b', c, rows, sws, d, l, rfl, hP.mono (Stay.of s02), hR.mono (Stay.of s02), ok, dok, hm3, so, hsl, Same.sqt s02 hp, pl, fun H3 a tb s3 tA hTb hlen => ?_⟩
  have s03 := s02.trans s3
  obtain ⟨pr, hda, pok, etb⟩ := tA
  refine ⟨_, rfl, ra, _, dx, _, _, rfl, s03 _ _ hra, TR.cl, TR.nM, rfl, tM, rfl, ⟨_, Same.sqt s03 hM⟩, fun D hD => lc_tup (K := K) (a := tM) (xs := vN d.marks) (fun i H' => ∃ qs : List Addr, Hs H3 [(D, .lst (qs.map V.ref))] H' ∧ Paired (VAt K H3) qs ((d.marks.take i).filterMap (tb 0)) ∧ qs.length ≤ i) ⟨[], (Hs.start H3).new hD, .nil, Nat.le_refl _⟩ ?_ ?_ ?_⟩
  · rintro i H' _ ⟨qs, hh, _⟩
    exact Same.sqt (s03.trans hh.sub) hM
  · rintro i x H' hx ⟨qs, hh, hPq, hql⟩
    obtain ⟨m, em, rfl⟩ := map_at hx
    have etk : d.marks.take (i + 1) = d.marks.take i ++ [m] := by rw [List.take_succ, em]; rfl
    have mlen : d.marks.length ≤ 40 := by
      have h1 := nd_len (n := d.many) (l := d.marks) (dok.mr.up.imp (fun h => Nat.ne_of_lt h)) dok.mr.lt
      have := dok.le
      omega
    have hil : i < d.marks.length := (List.getElem?_eq_some_iff.mp em).1
    refine ⟨rfl, ?_⟩
    refine ⟨_, rfl, _, rfl, a, _, rfl, DGet.k (k := Sum.inl ((m : Nat) : Int)) (hh.sub _ _ hda), _, rfl, ?_⟩
    rw [valV_tabE]
    cases e : lookP pr m with
    | none =>
      rw [look_none e]
      refine iteF ⟨qs, hh, ?_, by omega⟩
      rw [etk, List.filterMap_append]
      have : [m].filterMap (tb 0) = [] := by simp [etb, e]
      rw [this, List.append_nil]
      exact hPq
    | some v =>
      obtain ⟨q, hqm, hf⟩ := look_some e
      rw [hf]
      refine iteT ⟨_, rfl, _, rfl, a, .ref q, rfl, ?_, _, hh.r0, by rw [List.length_map, sizeLine_eq]; omega, qs ++ [q], by rw [List.map_append]; exact hh.w0, ?_, by rw [List.length_append]; show qs.length + 1 ≤ i + 1; omega⟩
      · have := DGet.k (k := (Sum.inl ((m : Nat) : Int) : Key)) (hh.sub _ _ hda)
        rw [valV_tabE, hf] at this
        exact this
      · rw [etk, List.filterMap_append]
        have : [m].filterMap (tb 0) = [v] := by simp [etb, e]
        rw [this]
        exact Paired.snoc hPq (pok.at_ _ hqm)
  · rintro H4 ⟨qs, hh, hPq, hql⟩
    rw [show (vN d.marks).length = d.marks.length from List.length_map ..] at hPq hql
    rw [List.take_length] at hPq
    have s04 := s03.trans hh.sub
    have mlen : d.marks.length ≤ 40 := by
      have h1 := nd_len (n := d.many) (l := d.marks) (dok.mr.up.imp (fun h => Nat.ne_of_lt h)) dok.mr.lt
      have := dok.le
      omega
    have hqs := paired_len hPq
    refine ⟨_, rfl, D, _, rfl, .inl (SqL.of hh.r0), rfl, _, rfl, if_dec (fun c1 => ?_) (fun c1 => ?_)⟩
    · rw [List.length_map] at c1
      have c1 : qs.length = 0 := by have := V.int.inj c1; omega
      refine hq0 H4 tb s04 hTb fun m hm => ?_
      cases e : tb 0 m with
      | none => rfl
      | some v =>
        have : v ∈ d.marks.filterMap (tb 0) := List.mem_filterMap.mpr ⟨m, hm, e⟩
        have := List.length_pos_of_mem this
        omega
    · rw [List.length_map] at c1
      obtain ⟨v0, vs, evs⟩ : ∃ v0 vs, d.marks.filterMap (tb 0) = v0 :: vs := by
        cases e : d.marks.filterMap (tb 0) with
        | nil => rw [e] at hqs; exact absurd (by rw [hqs]; rfl) c1
        | cons v0 vs => exact ⟨v0, vs, rfl⟩
      rw [evs] at hPq
      have hdp : DpAll K H4 (qs.map V.ref) (vD v0 :: vs.map vD) := by
        have : ∀ {qs : List Addr} {us : List Val}, Paired (VAt K H3) qs us → ImA K H4 (qs.map V.ref) (us.map vD) := fun h => by
          induction h with
          | nil => exact .nil
          | cons a _ ih => exact .cons (a.mono (Stay.of hh.sub)).im ih
        exact (this hPq).dp
      refine ⟨_, rfl, D, qs.map V.ref, vD v0, vs.map vD, rfl, SqL.of hh.r0, hdp, alike_vD (v0 :: vs), (by have := dep_vD (v0 :: vs); exact Nat.le_trans this (by decide)), fun i x hx hd => ?_⟩
      obtain ⟨q, eq, rfl⟩ := map_at hx
      obtain ⟨u, eu⟩ : ∃ u, (v0 :: vs)[i]? = some u := ⟨_, List.getElem?_eq_getElem (by have := (List.getElem?_eq_some_iff.mp eq).1; have := paired_len hPq; omega)⟩
      obtain ⟨q2, eq2, tv⟩ := paired_at hPq eu
      rw [eq] at eq2
      cases eq2
      have eu2 : (vD v0 :: vs.map vD)[i]? = some (vD u) := by
        have : (vD v0 :: vs.map vD) = (v0 :: vs).map vD := rfl
        rw [this, List.getElem?_map, eu]
        rfl
      rw [eu2, minD_map] at hd
      have eum : u = minV v0 vs := vD_inj (Option.some.inj hd)
      obtain ⟨mmem, mle⟩ := minV_ok vs v0
      rw [← eum, ← evs] at mmem mle
      have hMin : MinM d.marks (tb 0) (some u) := by
        obtain ⟨m, hm, em⟩ := List.mem_filterMap.mp mmem
        exact ⟨⟨m, hm, em⟩, fun m' hm' u' e' => mle u' (List.mem_filterMap.mpr ⟨m', hm', e'⟩)⟩
      obtain ⟨⟨m, hm, em⟩, _⟩ := id hMin
      have ul := hlen m u em
      have pl2 := pl.le
      have lp := Fo.pos pl.fo
      rw [wt_len] at lp
      have hrk := TbOk.rk so pl hTb l.length 0 (by omega) lp m u em
      obtain ⟨bR, tq, tbR⟩ := tv.mono (Stay.of hh.sub)
      refine ⟨q, _, rfl, tq, rfl, _, _, rfl, _, _, rfl, _, _, rfl, rfl, ?_⟩
      simp only [List.set_cons_succ, List.set_cons_zero]
      refine ⟨_, rfl, _, rfl, _, rfl, _, rfl, b, bR, u.2.length, rows, u.2, rfl, hbd.mono (Stay.of s04), tbR, by omega, by omega, hrk, fun H5 p5 s5 t5 => ?_⟩
      refine ⟨(by show 2 ≤ sizeLine; decide), fun T6 hT6 => ?_⟩
      have s6 := up_same (o := .tup [.int u.1, .ref p5]) hT6
      exact hq1 _ tb u T6 p5 ((s04.trans s5).trans s6) hTb hMin (SqT.of upd_same) (Same.sqt s6 t5)
end
end Sy
/-! the law's ranks, order, offers -/
namespace Sy
open PySem PySem.Spec PyProof.Rows L2
theorem rkD_inj {rows : List Sy.Row} {x y : Str} (hx : isK rows x = true) (hy : isK rows y = true) (e : rkD rows x = rkD rows y) : x = y := by
  have h1 := (rkD_at hx).2.2
  have h2 := (rkD_at hy).2.2
  rw [e, h2] at h1
  exact (Option.some.inj h1).symm
/-- a value by its plant -/
def vP (rows : List Sy.Row) (n : Int) (l : List Str) : Val := (n, l.map (rkD rows))
def lesF (rows : List Sy.Row) (l m : List Str) : Bool := if l.length = m.length then rlt (l.map (rkD rows)) (m.map (rkD rows)) else decide (l.length < m.length)
theorem lesF_vlt {rows : List Sy.Row} {n n' : Int} {l m : List Str} : vlt (vP rows n l) (vP rows n' m) = if n = n' then lesF rows l m else decide (n < n') := by
  unfold vlt vP lesF
  simp only [List.length_map]
section
variable {P : Program} {w : World} {K : PySem.W.Frag} {mg : Str → Option Value} {base : Heap}
/-! _law_lesser -/
def spLes (K : PySem.W.Frag) : Sp := fun vs H Q _ => ∃ (d p r : Addr) (rows : List Sy.Row) (l m : List Str), vs = [.ref d, .ref p, .ref r] ∧ H d = some (.dK (rkKV 0 rows)) ∧ SqT K H p (l.map V.str) ∧ SqT K H r (m.map V.str) ∧ (∀ x ∈ l, isK rows x = true) ∧ (∀ x ∈ m, isK rows x = true) ∧ l.length ≤ 100000 ∧ Q (.bl (lesF rows l m)) H
abbrev N_les : List Str := ["_law_rank_here", "_law_one", "_law_two", "_law_place"]
theorem sc_les : FnScope N_les ["_law_rank_here", "_law_one", "_law_two"] (defScope (top 67)) := ⟨rfl, rfl, rfl, by decide +kernel, rfl, by decide +kernel, by decide +kernel⟩
theorem rlt_at {a b : List Nat} : ∀ {i : Nat}, (∀ j, j < i → a[j]? = b[j]?) → rlt (a.drop i) (b.drop i) = rlt a b
  | 0, _ => by rw [List.drop_zero, List.drop_zero]
  | i + 1, h => by
    rw [← rlt_at (i := i) fun j hj => h j (by omega)]
    have e := h i (by omega)
    cases ea : a[i]? with
    | none =>
      rw [ea] at e
      have l1 : a.length ≤ i := List.getElem?_eq_none_iff.mp ea
      have l2 : b.length ≤ i := List.getElem?_eq_none_iff.mp e.symm
      rw [List.drop_eq_nil_of_le (by omega), List.drop_eq_nil_of_le (by omega), List.drop_eq_nil_of_le l1, List.drop_eq_nil_of_le l2]
    | some x =>
      rw [ea] at e
      rw [drop_of ea, drop_of e.symm, rlt, if_pos rfl]
theorem k_les (T : Txt K mg) (F : DF K mg "_law_lesser" 67) : Cal P w K mg base 1 "_law_lesser" ["_law_rank_here", "_law_one", "_law_two"] (spLes K) := by
  refine cal_of F.1 F.2 sc_les (fun _ _ _ _ _ _ us e => match us, e with | [_, _, _], _ => rfl) (fun vs H Q E s => by obtain ⟨_, _, _, _, _, _, rfl, _⟩ := s; rfl) ?_
  intro cdv A outer s H vs Q E hr h
  obtain ⟨d, p, r, rows, l, m, rfl, hd, hp, hm, kl, km, hl, hq⟩ := h
  have hu := hu_of hr
  have sc := sc_les
  refine ⟨_, (pss_cons (ps_if (pt_cmpR op_ne (pe_callB call_len_seq (by rfl) T.len (by decide +kernel) (pa_cons (pv 1) pa_nil)) (pe_callB call_len_seq (by rfl) T.len (by decide +kernel) (pa_cons (pv 2) pa_nil)) (nomark _))
        (pss_one (ps_ret (pe_cmpR op_lt (pe_callB call_len_seq (by rfl) T.len (by decide +kernel) (pa_cons (pv 1) pa_nil)) (pe_callB call_len_seq (by rfl) T.len (by decide +kernel) (pa_cons (pv 2) pa_nil)) (nomark _))))
        pss_nil)
      (pss_cons (ps_for (passes_of rfl) rfl (pi_range1 rfl T.range (pa_cons (pe_callB call_len_seq (by rfl) T.len (by decide +kernel) (pa_cons (pv 1) pa_nil)) pa_nil)) (pg_name (i := 3) sc.nd rfl (Or.inl rfl))
        (pss_one (ps_if (pt_cmpR op_ne (pe_ix ix_tup (pv 1) (pv 3) (fun _ _ => rfl)) (pe_ix ix_tup (pv 2) (pv 3) (fun _ _ => rfl)) (nomark _))
          (pss_one (ps_ret (pe_cmpR op_lt (pe_dget hu (pv 0) (pe_ix ix_tup (pv 1) (pv 3) (fun _ _ => rfl)) (fun _ _ => rfl)) (pe_dget hu (pv 0) (pe_ix ix_tup (pv 2) (pv 3) (fun _ _ => rfl)) (fun _ _ => rfl)) (nomark _))))
          pss_nil)))
      (pss_one (ps_ret pe_bl)))), ?_⟩
  refine ⟨_, rfl, p, _, rfl, .inr hp, _, rfl, r, _, rfl, .inr hm, rfl, _, rfl, if_ndec (fun c => ?_) (fun c => ?_)⟩
  · have c : ¬ l.length = m.length := fun z => c (by rw [List.length_map, List.length_map, z])
    refine ⟨_, rfl, p, _, rfl, .inr hp, _, rfl, r, _, rfl, .inr hm, _, _, rfl, rfl, ?_⟩
    unfold lesF at hq
    rw [if_neg c] at hq
    have : decide (((l.length : Nat) : Int) < ((m.length : Nat) : Int)) = decide (l.length < m.length) := by
      by_cases h : l.length < m.length
      · rw [decide_eq_true h, decide_eq_true (by omega)]
      · rw [decide_eq_false h, decide_eq_false (by omega)]
    rw [← this] at hq
    rw [List.length_map, List.length_map]
    exact hq
  · have c : l.length = m.length := by
      rw [List.length_map, List.length_map] at c
      have := V.int.inj c
      omega
    unfold lesF at hq
    rw [if_pos c] at hq
    have dg : ∀ x, isK rows x = true → DGet H d (.str x) (some (.int ((rkD rows x : Nat) : Int))) := fun x hx => by
      have := DGet.k (k := (Sum.inr x : Key)) hd
      rw [valV_rk, (rkD_at hx).1] at this
      exact this
    refine ⟨_, rfl, p, _, rfl, .inr hp, _, rfl, by omega, by rw [List.length_map]; omega, for_rng (n := (l.map V.str).length) (fun i σ H' => ∃ t3, σ = [some (.ref d), some (.ref p), some (.ref r), t3] ∧ H' = H ∧ ∀ j, j < i → (l.map (rkD rows))[j]? = (m.map (rkD rows))[j]?) ⟨none, rfl, rfl, fun j hj => by omega⟩ ?_ ?_⟩
    · rintro i σ H' hi ⟨t3, rfl, rfl, he⟩
      rw [List.length_map] at hi
      obtain ⟨x, ex⟩ : ∃ x, l[i]? = some x := ⟨_, List.getElem?_eq_getElem hi⟩
      obtain ⟨y, ey⟩ : ∃ y, m[i]? = some y := ⟨_, List.getElem?_eq_getElem (by omega)⟩
      have kx := kl x (List.mem_of_getElem? ex)
      have ky := km y (List.mem_of_getElem? ey)
      have ax : atI (l.map V.str) ((i : Nat) : Int) = some (.str x) := atI_nat (by rw [List.getElem?_map, ex]; rfl)
      have ay : atI (m.map V.str) ((i : Nat) : Int) = some (.str y) := atI_nat (by rw [List.getElem?_map, ey]; rfl)
      have e1 : (l.map (rkD rows))[i]? = some (rkD rows x) := by rw [List.getElem?_map, ex]; rfl
      have e2 : (m.map (rkD rows))[i]? = some (rkD rows y) := by rw [List.getElem?_map, ey]; rfl
      refine ⟨_, rfl, _, rfl, p, _, _, _, rfl, rfl, hp, ax, _, rfl, _, rfl, r, _, _, _, rfl, rfl, hm, ay, rfl, _, rfl, if_ndec (fun c2 => ?_) (fun c2 => ?_)⟩
      · have ne : rkD rows x ≠ rkD rows y := fun z => c2 (by rw [rkD_inj kx ky z])
        refine ⟨_, rfl, _, rfl, _, rfl, p, _, _, _, rfl, rfl, hp, ax, d, _, rfl, dg x kx, _, rfl, _, rfl, _, rfl, r, _, _, _, rfl, rfl, hm, ay, d, _, rfl, dg y ky, _, _, rfl, rfl, ?_⟩
        rw [← rlt_at he, drop_of e1, drop_of e2, rlt, if_neg ne] at hq
        have : decide (((rkD rows x : Nat) : Int) < ((rkD rows y : Nat) : Int)) = decide (rkD rows x < rkD rows y) := by
          by_cases h : rkD rows x < rkD rows y
          · rw [decide_eq_true h, decide_eq_true (by omega)]
          · rw [decide_eq_false h, decide_eq_false (by omega)]
        rw [← this] at hq
        exact hq
      · have c2 : x = y := V.str.inj c2
        refine ⟨_, rfl, rfl, fun j hj => ?_⟩
        by_cases cj : j = i
        · rw [cj, e1, e2, c2]
        · exact he j (by omega)
    · rintro σ H' ⟨t3, rfl, rfl, he⟩
      rw [List.length_map] at he
      have : rlt (l.map (rkD rows)) (m.map (rkD rows)) = false := by
        rw [← rlt_at (i := l.length) he, List.drop_eq_nil_of_le (by rw [List.length_map]; exact Nat.le_refl _), List.drop_eq_nil_of_le (by rw [List.length_map]; omega)]
        rfl
      rw [this] at hq
      exact hq
end
end Sy
/-! _law_rank, _law_offer -/
namespace Sy
open PySem PySem.Spec PyProof.Rows L2
/-- a value of the law: number, plant -/
def LVAt (K : PySem.W.Frag) (H : Hp) (rows : List Sy.Row) (q : Addr) (v : Val) : Prop := ∃ (b : Addr) (l : List Str), SqT K H q [.int v.1, .ref b] ∧ SqT K H b (l.map V.str) ∧ (∀ x ∈ l, isK rows x = true) ∧ l.length ≤ 100000 ∧ v = vP rows v.1 l
theorem LVAt.mono {K : PySem.W.Frag} {H H' : Hp} {rows : List Sy.Row} {q : Addr} {v : Val} (h : LVAt K H rows q v) (s : Stay H H') : LVAt K H' rows q v := by
  obtain ⟨b, l, h1, h2, h3⟩ := h
  exact ⟨b, l, s.sqt h1, s.sqt h2, h3⟩
structure LPr (K : PySem.W.Frag) (H : Hp) (rows : List Sy.Row) (many : Nat) (pr : List Ent) : Prop where
  at_ : ∀ z ∈ pr, LVAt K H rows z.2.1 z.2.2
  nd : (pr.map (·.1)).Nodup
  lt : ∀ z ∈ pr, z.1 < many
theorem LPr.mono {K : PySem.W.Frag} {H H' : Hp} {rows : List Sy.Row} {many : Nat} {pr : List Ent} (h : LPr K H rows many pr) (s : Stay H H') : LPr K H' rows many pr := ⟨fun z hz => (h.at_ z hz).mono s, h.nd, h.lt⟩
theorem LPr.len {K : PySem.W.Frag} {H : Hp} {rows : List Sy.Row} {many : Nat} {pr : List Ent} (h : LPr K H rows many pr) : pr.length ≤ many := by
  have := nd_len h.nd (n := many) fun x hx => by
    obtain ⟨z, hz, rfl⟩ := List.mem_map.mp hx
    exact h.lt z hz
  rw [List.length_map] at this
  exact this
theorem LPr.nil {K : PySem.W.Frag} {H : Hp} {rows : List Sy.Row} {many : Nat} : LPr K H rows many [] := ⟨fun _ z => (nomatch z), List.nodup_nil, fun _ z => (nomatch z)⟩
theorem LPr.put {K : PySem.W.Frag} {H : Hp} {rows : List Sy.Row} {many : Nat} {pr : List Ent} (h : LPr K H rows many pr) {s : Nat} {q : Addr} {v : Val} (hv : LVAt K H rows q v) (hs : s < many) : LPr K H rows many (putP pr s q v) :=
  ⟨fun z hz => (mem_put hz).elim (h.at_ z) fun e => by rw [e]; exact hv, nd_put h.nd, fun z hz => (mem_put hz).elim (h.lt z) fun e => by rw [e]; exact hs⟩
section
variable {P : Program} {w : World} {K : PySem.W.Frag} {mg : Str → Option Value} {base : Heap}
/-! _law_rank -/
def spLRk (K : PySem.W.Frag) : Sp := fun vs H Q _ => ∃ (q : Addr) (rows : List Sy.Row), vs = [.ref q] ∧ RL K H q rows ∧ (rows.map (·.1)).Nodup ∧ rows.length ≤ 8 ∧ ∀ d H', Same H H' → H' d = some (.dK (rkKV 0 rows)) → Q (.ref d) H'
theorem sc_lrk : FnScope ["_law_kinds_here", "_law_found", "_law_place"] ["_law_kinds_here"] (defScope (top 66)) := ⟨rfl, rfl, rfl, by decide +kernel, rfl, by decide +kernel, by decide +kernel⟩
theorem k_lrk (T : Txt K mg) (F : DF K mg "_law_rank" 66) : Cal P w K mg base 1 "_law_rank" ["_law_kinds_here"] (spLRk K) := by
  refine cal_of F.1 F.2 sc_lrk (fun _ _ _ _ _ _ us e => match us, e with | [_], _ => rfl) (fun vs H Q E s => by obtain ⟨_, _, rfl, _⟩ := s; rfl) ?_
  intro cdv A outer s H vs Q E hr h
  obtain ⟨q, rows, rfl, ⟨pr, rfl, hL, hP⟩, hnd, hle, hq⟩ := h
  have hu := hu_of hr
  have sc := sc_lrk
  refine ⟨_, (pss_cons (ps_set (i := 1) sc.nd rfl (Or.inl rfl) pe_dnewK)
      (pss_cons (ps_for (passes_of rfl) rfl (pi_range1 rfl T.range (pa_cons (pe_callB call_len_seq (by rfl) T.len (by decide +kernel) (pa_cons (pv 0) pa_nil)) pa_nil)) (pg_name (i := 2) sc.nd rfl (Or.inl rfl))
        (pss_one (ps_dput hu (pv 1) (pe_ix ix_tup (pe_ix ix_list (pv 0) (pv 2) (fun _ _ => rfl)) pe_int (fun _ _ => rfl)) (pv 2) rfl)))
      (pss_one (ps_ret (pv 1))))), ?_⟩
  intro d hd
  have k1 := (Hs.start H).new (o := .dK []) hd
  rw [List.length_map] at hle
  refine ⟨_, rfl, q, _, rfl, .inl (SqL.of (k1.sub _ _ hL)), _, rfl, by omega, by rw [List.length_map]; omega, for_rng (n := (pr.map fun z : Addr × Sy.Row => V.ref z.1).length) (fun i σ H' => ∃ t2, σ = [some (.ref q), some (.ref d), t2] ∧ Hs H [(d, .dK (rkKV 0 ((pr.map (·.2)).take i)))] H') ⟨none, rfl, k1⟩ ?_ ?_⟩
  · rintro i σ H1 hi ⟨t2, rfl, hh⟩
    rw [List.length_map] at hi
    obtain ⟨z, ez⟩ : ∃ z, pr[i]? = some z := ⟨_, List.getElem?_eq_getElem hi⟩
    have hm := List.mem_of_getElem? ez
    have hr' : (pr.map (·.2))[i]? = some z.2 := by rw [List.getElem?_map, ez]; rfl
    have tz := Same.sqt hh.sub (hP.at_ z hm)
    have vn : valV (rkKV 0 ((pr.map (·.2)).take i)) (Sum.inr z.2.1 : Key) = none := by rw [valV_rk, rk_none (nodup_take hnd hr')]; rfl
    refine ⟨_, rfl, _, rfl, _, rfl, _, rfl, q, _, _, .ref z.1, rfl, rfl, SqL.of (hh.sub _ _ hL), atI_nat (by rw [List.getElem?_map, ez]; rfl), z.1, _, _, _, rfl, rfl, tz, atI_nat (j := 0) rfl, d, _, rfl, DPut.k (k := Sum.inr z.2.1) hh.r0 (by rw [rkKV_len, List.length_take, List.length_map, sizeLine_eq]; omega), _, rfl, ?_⟩
    rw [putK_new _ vn, List.take_succ, hr']
    have := rkKV_snoc ((pr.map (·.2)).take i) 0 z.2
    rw [List.length_take, List.length_map, show 0 + min i pr.length = i by omega] at this
    show Hs H [(d, .dK (rkKV 0 ((pr.map (·.2)).take i ++ [z.2])))] _
    rw [this]
    exact hh.w0
  · rintro σ H1 ⟨t2, rfl, hh⟩
    rw [List.length_map, List.take_of_length_le (by rw [List.length_map]; exact Nat.le_refl _)] at hh
    exact ⟨_, rfl, hq d H1 hh.sub hh.r0⟩
/-! _law_offer -/
def spOff (K : PySem.W.Frag) : Sp := fun vs H Q _ => ∃ (d t p : Addr) (s many : Nat) (n : Int) (rows : List Sy.Row) (l : List Str) (B : Hp) (pr : List Ent), vs = [.ref d, .ref t, .int (s : Nat), .int n, .ref p] ∧ B d = some (.dK (rkKV 0 rows)) ∧ Hs B [(t, .dK (tabE pr))] H ∧ LPr K B rows many pr ∧ s < many ∧ many ≤ 1000 ∧ SqT K B p (l.map V.str) ∧ (∀ x ∈ l, isK rows x = true) ∧ l.length ≤ 100000 ∧
  ∀ B' pr' H' bo, Same B B' → Hs B' [(t, .dK (tabE pr'))] H' → LPr K B' rows many pr' → lookP pr' = best1 (lookP pr) s (vP rows n l) → Q (.bl bo) H'
abbrev N_off : List Str := ["_law_rank_here", "_law_best", "_law_state", "_law_number_here", "_law_plant_here", "_law_old"]
theorem sc_off : FnScope N_off ["_law_rank_here", "_law_best", "_law_state", "_law_number_here", "_law_plant_here"] (defScope (top 71)) := ⟨rfl, rfl, rfl, by decide +kernel, rfl, by decide +kernel, by decide +kernel⟩
theorem k_off (F : DF K mg "_law_offer" 71) (c_law_lesser : Cal P w K mg base 1 "_law_lesser" ["_law_rank_here", "_law_one", "_law_two"] (spLes K)) : Cal P w K mg base 2 "_law_offer" ["_law_rank_here", "_law_best", "_law_state", "_law_number_here", "_law_plant_here"] (spOff K) := by
  refine cal_of F.1 F.2 sc_off (fun _ _ _ _ _ _ us e => match us, e with | [_, _, _, _, _], _ => rfl) (fun vs H Q E s => by obtain ⟨_, _, _, _, _, _, _, _, _, _, rfl, _⟩ := s; rfl) ?_
  intro cdv A outer s0 H vs Q E hr h
  obtain ⟨d, t, p, s, many, n, rows, l, B, pr, rfl, hd, hh, pok, hs, hmn, hp, kl, hl, hq⟩ := h
  have hu := hu_of hr
  have sc := sc_off
  have hlen := pok.len
  refine ⟨_, (pss_cons (ps_cut (ps_if (pt_cmp (pc_din hu (pv 2) (pv 1)))
        (pss_cons (ps_set (i := 5) sc.nd rfl (Or.inl rfl) (pe_dget hu (pv 1) (pv 2) (fun _ _ => rfl)))
        (pss_one (ps_if (PW.pt (pw_or (pt_cmpR op_gt (pv 3) (pe_ix ix_tup (pv 5) pe_int (fun _ _ => rfl)) (nomark _)) (pw_or1 (PW.pt (pw_and (pt_cmpR op_eq (pv 3) (pe_ix ix_tup (pv 5) pe_int (fun _ _ => rfl)) (nomark _)) (pw_and1 (pt_not (pt_val (pe_cal c_law_lesser hr (pa_cons (pv 0) (pa_cons (pv 4) (pa_cons (pe_ix ix_tup (pv 5) pe_int (fun _ _ => rfl)) pa_nil))))))))))))
          (pss_one (ps_ret pe_bl))
          pss_nil)))
        pss_nil))
      (pss_cons (ps_dput hu (pv 1) (pv 2) (pe_tup (pa_cons (pv 3) (pa_cons (pv 4) pa_nil))) rfl)
      (pss_one (ps_ret pe_bl)))), ?_⟩
  refine ⟨fun σ' H' => ∃ t5, σ' = [some (.ref d), some (.ref t), some (.int (s : Nat)), some (.int n), some (.ref p), t5] ∧ H' = H ∧ ∀ o, lookP pr s = some o → vlt (vP rows n l) o = true, ?_, ?_⟩
  · refine ⟨_, rfl, _, rfl, t, _, rfl, DGet.k (k := Sum.inl ((s : Nat) : Int)) hh.r0, _, rfl, ?_⟩
    rw [valV_tabE]
    cases e : lookP pr s with
    | none =>
      rw [look_none e]
      exact iteF ⟨_, rfl, rfl, fun o z => by cases z⟩
    | some o =>
      obtain ⟨q, hqm, hf⟩ := look_some e
      rw [hf]
      obtain ⟨b, m, tq, tb, km, _, ev⟩ := pok.at_ _ hqm
      have ev : o = vP rows o.1 m := ev
      have tq : SqT K H q [.int o.1, .ref b] := Same.sqt hh.sub tq
      have dg : DGet H t (.int ((s : Nat) : Int)) (some (.ref q)) := by
        have := DGet.k (k := (Sum.inl ((s : Nat) : Int) : Key)) hh.r0
        rw [valV_tabE, hf] at this
        exact this
      have no : vlt (vP rows n l) o = false → ∀ bo H', H' = H → Q (.bl bo) H' := fun f bo H' e' => by
        subst e'
        exact hq B pr _ bo (Same.refl _) hh pok (stay_best e f)
      have lv : vlt (vP rows n l) o = if n = o.1 then lesF rows l m else decide (n < o.1) := by
        rw [ev]
        exact lesF_vlt
      refine iteT ⟨_, rfl, _, rfl, t, .ref q, rfl, dg, ?_⟩
      refine ⟨_, rfl, _, rfl, q, _, _, _, rfl, rfl, tq, atI_nat (j := 0) rfl, _, _, rfl, rfl, _, rfl, if_dec (fun c1 => ?_) (fun c1 => ?_)⟩
      · refine no ?_ _ _ rfl
        rw [lv, if_neg (by omega)]
        exact decide_eq_false (by omega)
      refine ⟨_, rfl, _, rfl, q, _, _, _, rfl, rfl, tq, atI_nat (j := 0) rfl, rfl, _, rfl, if_dec (fun c2 => ?_) (fun c2 => ?_)⟩
      · have c2 : n = o.1 := V.int.inj c2
        rw [if_pos c2] at lv
        refine ⟨_, rfl, _, rfl, _, rfl, q, _, _, .ref b, rfl, rfl, tq, atI_nat (j := 1) rfl, d, p, b, rows, l, m, rfl, hh.sub _ _ hd, Same.sqt hh.sub hp, Same.sqt hh.sub tb, kl, km, hl, _, rfl, ?_⟩
        cases f : lesF rows l m with
        | true => exact iteF ⟨_, rfl, rfl, fun o' z => by cases z; rw [lv, f]⟩
        | false => exact iteT (no (by rw [lv, f]) _ _ rfl)
      · have c2 : ¬ n = o.1 := fun z => c2 (by rw [z])
        rw [if_neg c2] at lv
        exact ⟨_, rfl, rfl, fun o' z => by cases z; rw [lv]; exact decide_eq_true (by omega)⟩
  · rintro σ' _ ⟨t5, rfl, rfl, hb⟩
    refine ⟨_, rfl, _, rfl, (by show 2 ≤ sizeLine; decide), fun T4 hT4 => ?_⟩
    have h4 := hh.tup (o := .tup [.int n, .ref p]) hT4
    have s4 : Same B (upd B T4 (.tup [.int n, .ref p])) := up_same (hh.sub.free hT4)
    have hv : LVAt K (upd B T4 (.tup [.int n, .ref p])) rows T4 (vP rows n l) := ⟨p, l, SqT.of upd_same, Same.sqt s4 hp, kl, hl, rfl⟩
    refine ⟨_, rfl, _, rfl, t, _, rfl, DPut.k (k := Sum.inl ((s : Nat) : Int)) h4.r0 (by unfold tabE; rw [List.length_map, sizeLine_eq]; omega), ?_⟩
    rw [putK_tabE]
    exact hq _ _ _ true s4 h4.w0 ((pok.mono (Stay.of s4)).put hv hs) (put_best hb)
end
end Sy
/-! _law_tuples -/
namespace Sy
open PySem PySem.Spec PyProof.Rows L2
def wid (many : Nat) (r : List Nat) : List (List Nat) := (List.range many).map fun s => r ++ [s]
def tupF (many : Nat) : Nat → List (List Nat)
  | 0 => [[]]
  | k + 1 => (tupF many k).flatMap (wid many)
theorem tupF_mem {many : Nat} : ∀ {k : Nat} {ns : List Nat}, ns ∈ tupF many k ↔ ns.length = k ∧ ∀ n ∈ ns, n < many
  | 0, ns => by
    unfold tupF
    rw [List.mem_singleton]
    constructor
    · rintro rfl
      exact ⟨rfl, fun _ z => (nomatch z)⟩
    · rintro ⟨h, _⟩
      exact List.length_eq_zero_iff.mp h
  | k + 1, ns => by
    unfold tupF
    rw [List.mem_flatMap]
    constructor
    · rintro ⟨r, hr, hm⟩
      obtain ⟨s, hs, rfl⟩ := List.mem_map.mp hm
      obtain ⟨h1, h2⟩ := tupF_mem.mp hr
      refine ⟨by rw [List.length_append, h1]; rfl, fun n hn => ?_⟩
      rcases List.mem_append.mp hn with hn | hn
      · exact h2 n hn
      · rw [List.mem_singleton.mp hn]
        exact List.mem_range.mp hs
    · rintro ⟨h1, h2⟩
      obtain ⟨r, s, rfl⟩ : ∃ r s, ns = r ++ [s] := by
        rcases List.eq_nil_or_concat ns with rfl | ⟨r, s, rfl⟩
        · cases h1
        · exact ⟨r, s, by simp⟩
      rw [List.length_append] at h1
      have h1 : r.length = k := by simpa using h1
      exact ⟨r, tupF_mem.mpr ⟨h1, fun n hn => h2 n (List.mem_append_left _ hn)⟩, List.mem_map.mpr ⟨s, List.mem_range.mpr (h2 s (List.mem_append_right _ (List.mem_singleton.mpr rfl))), rfl⟩⟩
theorem wid_len (many : Nat) (r : List Nat) : (wid many r).length = many := by unfold wid; rw [List.length_map, List.length_range]
theorem flat_wid (many : Nat) : ∀ L : List (List Nat), (L.flatMap (wid many)).length = L.length * many
  | [] => by simp
  | r :: L => by rw [List.flatMap_cons, List.length_append, flat_wid many L, wid_len, List.length_cons, Nat.succ_mul, Nat.add_comm]
theorem tupF_len (many : Nat) : ∀ k, (tupF many k).length = many ^ k
  | 0 => rfl
  | k + 1 => by
    unfold tupF
    rw [flat_wid, tupF_len many k, Nat.pow_succ]
theorem pow_le27 {m k : Nat} (hm : m ≤ 3) (hk : k ≤ 3) : m ^ k ≤ 27 := by
  have h1 : m ^ k ≤ 3 ^ k := Nat.pow_le_pow_left hm k
  have := pow3 hk
  omega
/-- a tuple of numbers -/
def TpN (K : PySem.W.Frag) (H : Hp) (q : Addr) (ns : List Nat) : Prop := SqT K H q (vN ns)
section
variable {P : Program} {w : World} {K : PySem.W.Frag} {mg : Str → Option Value} {base : Heap}
def spTup (K : PySem.W.Frag) : Sp := fun vs H Q _ => ∃ many k : Nat, vs = [.int (many : Nat), .int (k : Nat)] ∧ many ≤ 3 ∧ k ≤ 3 ∧ ∀ H' q (qs : List Addr), H q = none → Same H H' → H' q = some (.lst (qs.map V.ref)) → Paired (TpN K H') qs (tupF many k) → Q (.ref q) H'
abbrev N_tup : List Str := ["_law_many", "_law_length", "_law_found", "_law_turn", "_law_wider", "_law_row", "_law_state"]
theorem sc_tup : FnScope N_tup ["_law_many", "_law_length"] (defScope (top 56)) := ⟨rfl, rfl, rfl, by decide +kernel, rfl, by decide +kernel, by decide +kernel⟩
theorem k_tup (T : Txt K mg) (F : DF K mg "_law_tuples" 56) : Cal P w K mg base 1 "_law_tuples" ["_law_many", "_law_length"] (spTup K) := by
  refine cal_of F.1 F.2 sc_tup (fun _ _ _ _ _ _ us e => match us, e with | [_, _], _ => rfl) (fun vs H Q E s => by obtain ⟨_, _, rfl, _⟩ := s; rfl) ?_
  intro cdv A outer s H vs Q E hr h
  obtain ⟨many, k, rfl, hm, hk, hq⟩ := h
  have sc := sc_tup
  refine ⟨_, (pss_cons (ps_set (i := 2) sc.nd rfl (Or.inl rfl) (pe_lst (pa_cons (pe_tup pa_nil) pa_nil)))
      (pss_cons (ps_for (passes_of rfl) rfl (pi_range1 rfl T.range (pa_cons (pv 1) pa_nil)) (pg_name (i := 3) sc.nd rfl (Or.inl rfl))
        (pss_cons (ps_set (i := 4) sc.nd rfl (Or.inl rfl) (pe_lst pa_nil))
        (pss_cons (ps_for (passes_of rfl) rfl (pi_list (pv 2)) (pg_name (i := 5) sc.nd rfl (Or.inl rfl))
          (pss_one (ps_for (passes_of rfl) rfl (pi_range1 rfl T.range (pa_cons (pv 0) pa_nil)) (pg_name (i := 6) sc.nd rfl (Or.inl rfl))
            (pss_one (ps_expr (pe_bm PySem.F.plainAttrs_list PySem.F.slot_list_append PySem.F.type_list_append mt_append (pv 4) (pa_cons (pe_op op_catA (pv 5) (pe_tup (pa_cons (pv 6) pa_nil))) pa_nil)))))))
        (pss_one (ps_set (i := 2) sc.nd rfl (Or.inl rfl) (pv 4))))))
      (pss_one (ps_ret (pv 2))))), ?_⟩
  refine ⟨by decide, fun T1 hT1 => ⟨(by show 1 ≤ sizeLine; decide), fun D0 hD0 => ?_⟩⟩
  have k0 := ((Hs.start H).tup (o := .tup []) hT1).new (o := .lst [.ref T1]) hD0
  have u1 := up_same (o := .tup []) hT1
  have hD00 : H D0 = none := u1.free hD0
  refine ⟨_, rfl, _, rfl, by omega, by omega, for_rng (n := k) (fun t σ H' => ∃ (rq : Addr) (t3 t4 t5 t6 : Option V) (B : Hp) (qs : List Addr), σ = [some (.int (many : Nat)), some (.int (k : Nat)), some (.ref rq), t3, t4, t5, t6] ∧ H rq = none ∧ Same H B ∧ Hs B [(rq, .lst (qs.map V.ref))] H' ∧ Paired (TpN K B) qs (tupF many t))
    ⟨D0, none, none, none, none, _, [T1], rfl, hD00, u1, k0, .cons (SqT.of upd_same) .nil⟩ ?_ ?_⟩
  · rintro t σ H1 ht ⟨rq, t3, t4, t5, t6, B, qs, rfl, hrq, sB, hh, hP⟩
    have hPl := paired_len hP
    have hcard : (tupF many t).length ≤ 27 := by rw [tupF_len]; exact pow_le27 hm (by omega)
    refine ⟨by decide, fun D hD => ?_⟩
    have h1 := hh.new (o := .lst []) hD
    have hD0' : H D = none := (sB.trans hh.sub).free hD
    refine ⟨_, rfl, rq, rfl, ⟨_, SqL.of h1.r1⟩, for_list (K := K) (xs := qs.map V.ref) (fun i σ H' => ∃ (t5 t6 : Option V) (B2 : Hp) (qs2 : List Addr), σ = [some (.int (many : Nat)), some (.int (k : Nat)), some (.ref rq), some (.int (t : Nat)), some (.ref D), t5, t6] ∧ Same B B2 ∧ Hs B2 [(D, .lst (qs2.map V.ref)), (rq, .lst (qs.map V.ref))] H' ∧ Paired (TpN K B2) qs2 (((tupF many t).take i).flatMap (wid many)))
      ⟨t5, t6, B, [], rfl, Same.refl _, h1, .nil⟩ (fun _ _ _ _ ⟨_, _, _, _, _, _, h2, _⟩ => SqL.of h2.r1) ?_ ?_⟩
    · rintro i v σ H2 hv ⟨t5, t6, B2, qs2, rfl, s2, h2, hP2⟩
      obtain ⟨q, eq, rfl⟩ := map_at hv
      have hi : i < (tupF many t).length := by rw [← hPl]; exact (List.getElem?_eq_some_iff.mp eq).1
      obtain ⟨r, er⟩ : ∃ r, (tupF many t)[i]? = some r := ⟨_, List.getElem?_eq_getElem hi⟩
      obtain ⟨q2, eq2, tq⟩ := paired_at hP er
      rw [eq] at eq2
      cases eq2
      have tq : SqT K B q (vN r) := tq
      have rl := (tupF_mem.mp (List.mem_of_getElem? er)).1
      refine ⟨_, rfl, _, rfl, by omega, by omega, for_rng (n := many) (fun j σ H' => ∃ (t6 : Option V) (B3 : Hp) (qs3 : List Addr), σ = [some (.int (many : Nat)), some (.int (k : Nat)), some (.ref rq), some (.int (t : Nat)), some (.ref D), some (.ref q), t6] ∧ Same B B3 ∧ Hs B3 [(D, .lst (qs3.map V.ref)), (rq, .lst (qs.map V.ref))] H' ∧ Paired (TpN K B3) qs3 (((tupF many t).take i).flatMap (wid many) ++ (List.range j).map fun s => r ++ [s]))
        ⟨t6, B2, qs2, rfl, s2, h2, by rw [List.range_zero, List.map_nil, List.append_nil]; exact hP2⟩ ?_ ?_⟩
      · rintro j σ H3 hj ⟨t6, B3, qs3, rfl, s3, h3, hP3⟩
        refine ⟨_, rfl, .inl ⟨rfl, _, SqL.of h3.r0⟩, _, rfl, _, rfl, (by show 1 ≤ sizeLine; decide), fun Tu hTu => ?_⟩
        have h4 := h3.tup (o := .tup [.int (j : Nat)]) hTu
        have s4 : Same B3 (upd B3 Tu (.tup [.int (j : Nat)])) := up_same (h3.sub.free hTu)
        generalize hB4 : upd B3 Tu (.tup [.int (j : Nat)]) = B4 at *
        refine cat_any (Same.sqt ((s3.trans s4).trans h4.sub) tq) (SqT.of upd_same) (by rw [show (vN r).length = r.length from List.length_map .., rl]; show _ + 1 ≤ 1000000; omega) (fun p6 H6 s6 t6' => ?_)
        obtain ⟨B6, s46, h6, st6⟩ := h4.go allL2 s6
        have t6' := st6.sqt t6'
        have ql := paired_len hP3
        have et : (List.range (j + 1)).map (fun s => r ++ [s]) = (List.range j).map (fun s => r ++ [s]) ++ [r ++ [j]] := by rw [List.range_succ, List.map_append]; rfl
        refine ⟨D, _, _, rfl, rfl, h6.r0, ?_, _, B6, qs3 ++ [p6], rfl, (s3.trans s4).trans s46, by rw [List.map_append]; exact h6.w0, ?_⟩
        · rw [List.length_map, ql, List.length_append, List.length_map, List.length_range, flat_wid, List.length_take, sizeLine_eq]
          have := Nat.mul_le_mul (show min i (tupF many t).length ≤ 27 by omega) hm
          omega
        · rw [et, ← List.append_assoc]
          refine Paired.snoc (Paired.mapP hP3 fun _ _ z => Same.sqt (s4.trans s46) z) ?_
          show SqT K B6 p6 (vN (r ++ [j]))
          rw [show vN (r ++ [j]) = vN r ++ [.int (j : Nat)] from List.map_append ..]
          exact t6'
      · rintro σ H3 ⟨t6, B3, qs3, rfl, s3, h3, hP3⟩
        refine ⟨_, t6, B3, qs3, rfl, s3, h3, ?_⟩
        rw [List.take_succ, er, List.flatMap_append]
        have : [r].flatMap (wid many) = (List.range many).map fun s => r ++ [s] := by simp [wid]
        rw [show (some r).toList = [r] from rfl, this]
        exact hP3
    · rintro σ H2 ⟨t5, t6, B2, qs2, rfl, s2, h2, hP2⟩
      rw [List.length_map, hPl, List.take_length] at hP2
      exact ⟨_, rfl, D, _, _, _, _, B2, qs2, rfl, hD0', sB.trans s2, h2.swap.drop, hP2⟩
  · rintro σ H1 ⟨rq, t3, t4, t5, t6, B, qs, rfl, hrq, sB, hh, hP⟩
    exact ⟨_, rfl, hq H1 rq qs hrq (sB.trans hh.sub) hh.r0 (Paired.mapP hP fun _ _ z => Same.sqt hh.sub z)⟩
end
end Sy
/-! _law_ways -/
namespace Sy
open PySem PySem.Spec PyProof.Rows L2
theorem Same.sql {K : PySem.W.Frag} {H H' : Hp} {a : Addr} {xs : List V} (e : Same H H') (h : SqL K H a xs) : SqL K H' a xs := by
  rcases h with (h | ⟨o, h⟩) | h
  · exact .inl (.inl (e _ _ h))
  · exact .inl (.inr ⟨o, e _ _ h⟩)
  · exact .inr h
def widL (ns : List Nat) (r : List Nat) : List (List Nat) := ns.map fun s => r ++ [s]
def wayF (nss : List (List Nat)) : List (List Nat) := nss.foldl (fun L ns => L.flatMap (widL ns)) [[]]
theorem wayF_snoc (nss : List (List Nat)) (ns : List Nat) : wayF (nss ++ [ns]) = (wayF nss).flatMap (widL ns) := by
  unfold wayF
  rw [List.foldl_append]
  rfl
theorem flat_widL (ns : List Nat) : ∀ L : List (List Nat), (L.flatMap (widL ns)).length = L.length * ns.length
  | [] => by simp
  | r :: L => by
    rw [List.flatMap_cons, List.length_append, flat_widL ns L, List.length_cons, Nat.succ_mul, Nat.add_comm]
    unfold widL
    rw [List.length_map]
theorem paired_snocInv {α β : Type} {R : α → β → Prop} : ∀ {xs : List α} {x : α} {ys : List β}, Paired R (xs ++ [x]) ys → ∃ zs y, ys = zs ++ [y] ∧ Paired R xs zs ∧ R x y
  | [], _, _, .cons h .nil => ⟨[], _, rfl, .nil, h⟩
  | _ :: xs, _, _, .cons h t => by
    obtain ⟨zs, y, e, a, b⟩ := paired_snocInv t
    exact ⟨_ :: zs, y, by rw [e]; rfl, .cons h a, b⟩
theorem wayF_take {nss : List (List Nat)} : ∀ {n : Nat}, n ≤ nss.length → ∀ {ss : List Nat}, ss ∈ wayF (nss.take n) ↔ Paired (fun (l : List Nat) s => s ∈ l) (nss.take n) ss
  | 0, _, ss => by
    show ss ∈ [[]] ↔ _
    rw [List.mem_singleton]
    constructor
    · rintro rfl
      exact .nil
    · intro z
      cases z
      rfl
  | n + 1, hn, ss => by
    obtain ⟨ns, en⟩ : ∃ ns, nss[n]? = some ns := ⟨_, List.getElem?_eq_getElem (by omega)⟩
    have e : nss.take (n + 1) = nss.take n ++ [ns] := by rw [List.take_succ, en]; rfl
    rw [e, wayF_snoc, List.mem_flatMap]
    constructor
    · rintro ⟨r, hr, hm⟩
      obtain ⟨s, hs, rfl⟩ := List.mem_map.mp hm
      exact Paired.snoc ((wayF_take (by omega)).mp hr) hs
    · intro h
      obtain ⟨zs, y, rfl, a, b⟩ := paired_snocInv h
      exact ⟨zs, (wayF_take (by omega)).mpr a, List.mem_map.mpr ⟨y, b, rfl⟩⟩
theorem wayF_mem {nss : List (List Nat)} {ss : List Nat} : ss ∈ wayF nss ↔ Paired (fun (l : List Nat) s => s ∈ l) nss ss := by
  have := wayF_take (nss := nss) (n := nss.length) (Nat.le_refl _) (ss := ss)
  rw [List.take_length] at this
  exact this
theorem wayF_len {nss : List (List Nat)} (h : ∀ ns ∈ nss, ns.length ≤ 3) : ∀ n, n ≤ nss.length → (wayF (nss.take n)).length ≤ 3 ^ n
  | 0, _ => Nat.le_refl _
  | n + 1, hn => by
    obtain ⟨ns, en⟩ : ∃ ns, nss[n]? = some ns := ⟨_, List.getElem?_eq_getElem (by omega)⟩
    have e : nss.take (n + 1) = nss.take n ++ [ns] := by rw [List.take_succ, en]; rfl
    rw [e, wayF_snoc, flat_widL, Nat.pow_succ]
    exact Nat.mul_le_mul (wayF_len h n (by omega)) (h ns (List.mem_of_getElem? en))
section
variable {P : Program} {w : World} {K : PySem.W.Frag} {mg : Str → Option Value} {base : Heap}
def spWay (K : PySem.W.Frag) : Sp := fun vs H Q _ => ∃ (q : Addr) (as : List Addr) (nss : List (List Nat)), vs = [.ref q] ∧ H q = some (.lst (as.map V.ref)) ∧ Paired (fun a ns => SqL K H a (vN ns)) as nss ∧ nss.length ≤ 3 ∧ (∀ ns ∈ nss, ns.length ≤ 3) ∧
  ∀ H' z (qs : List Addr), H z = none → Same H H' → H' z = some (.lst (qs.map V.ref)) → Paired (TpN K H') qs (wayF nss) → Q (.ref z) H'
abbrev N_way : List Str := ["_law_lists", "_law_found", "_law_row", "_law_wider", "_law_way", "_law_state"]
theorem sc_way : FnScope N_way ["_law_lists"] (defScope (top 69)) := ⟨rfl, rfl, rfl, by decide +kernel, rfl, by decide +kernel, by decide +kernel⟩
theorem k_way (F : DF K mg "_law_ways" 69) : Cal P w K mg base 1 "_law_ways" ["_law_lists"] (spWay K) := by
  refine cal_of F.1 F.2 sc_way (fun _ _ _ _ _ _ us e => match us, e with | [_], _ => rfl) (fun vs H Q E s => by obtain ⟨_, _, _, rfl, _⟩ := s; rfl) ?_
  intro cdv A outer s H vs Q E hr h
  obtain ⟨q, as, nss, rfl, hL, hA, hk, hm, hq⟩ := h
  have sc := sc_way
  have hal := paired_len hA
  refine ⟨_, (pss_cons (ps_set (i := 1) sc.nd rfl (Or.inl rfl) (pe_lst (pa_cons (pe_tup pa_nil) pa_nil)))
      (pss_cons (ps_for (passes_of rfl) rfl (pi_list (pv 0)) (pg_name (i := 2) sc.nd rfl (Or.inl rfl))
        (pss_cons (ps_set (i := 3) sc.nd rfl (Or.inl rfl) (pe_lst pa_nil))
        (pss_cons (ps_for (passes_of rfl) rfl (pi_list (pv 1)) (pg_name (i := 4) sc.nd rfl (Or.inl rfl))
          (pss_one (ps_for (passes_of rfl) rfl (pi_list (pv 2)) (pg_name (i := 5) sc.nd rfl (Or.inl rfl))
            (pss_one (ps_expr (pe_bm PySem.F.plainAttrs_list PySem.F.slot_list_append PySem.F.type_list_append mt_append (pv 3) (pa_cons (pe_op op_catA (pv 4) (pe_tup (pa_cons (pv 5) pa_nil))) pa_nil)))))))
        (pss_one (ps_set (i := 1) sc.nd rfl (Or.inl rfl) (pv 3))))))
      (pss_one (ps_ret (pv 1))))), ?_⟩
  refine ⟨by decide, fun T1 hT1 => ⟨(by show 1 ≤ sizeLine; decide), fun D0 hD0 => ?_⟩⟩
  have k0 := ((Hs.start H).tup (o := .tup []) hT1).new (o := .lst [.ref T1]) hD0
  have u1 := up_same (o := .tup []) hT1
  have hD00 : H D0 = none := u1.free hD0
  refine ⟨_, rfl, q, rfl, ⟨_, SqL.of (k0.sub _ _ (u1 _ _ hL))⟩, for_list (K := K) (xs := as.map V.ref) (fun t σ H' => ∃ (rq : Addr) (t2 t3 t4 t5 : Option V) (B : Hp) (qs : List Addr), σ = [some (.ref q), some (.ref rq), t2, t3, t4, t5] ∧ H rq = none ∧ Same H B ∧ Hs B [(rq, .lst (qs.map V.ref))] H' ∧ Paired (TpN K B) qs (wayF (nss.take t)))
    ⟨D0, none, none, none, none, _, [T1], rfl, hD00, u1, k0, .cons (SqT.of upd_same) .nil⟩ (fun _ _ _ _ ⟨_, _, _, _, _, _, _, _, _, sB, hh, _⟩ => SqL.of ((sB.trans hh.sub) _ _ hL)) ?_ ?_⟩
  · rintro t v σ H1 hv ⟨rq, t2, t3, t4, t5, B, qs, rfl, hrq, sB, hh, hP⟩
    obtain ⟨a, ea, rfl⟩ := map_at hv
    have ht : t < nss.length := by rw [← hal]; exact (List.getElem?_eq_some_iff.mp ea).1
    obtain ⟨ns, en⟩ : ∃ ns, nss[t]? = some ns := ⟨_, List.getElem?_eq_getElem ht⟩
    obtain ⟨a2, ea2, sa⟩ := paired_at hA en
    rw [ea] at ea2
    cases ea2
    have hPl := paired_len hP
    have hcard : (wayF (nss.take t)).length ≤ 27 := Nat.le_trans (wayF_len hm t (by omega)) (pow3 (by omega))
    have nl := hm ns (List.mem_of_getElem? en)
    have etk : nss.take (t + 1) = nss.take t ++ [ns] := by rw [List.take_succ, en]; rfl
    refine ⟨by decide, fun D hD => ?_⟩
    have h1 := hh.new (o := .lst []) hD
    have hD0' : H D = none := (sB.trans hh.sub).free hD
    refine ⟨_, rfl, rq, rfl, ⟨_, SqL.of h1.r1⟩, for_list (K := K) (xs := qs.map V.ref) (fun i σ H' => ∃ (t4 t5 : Option V) (B2 : Hp) (qs2 : List Addr), σ = [some (.ref q), some (.ref rq), some (.ref a), some (.ref D), t4, t5] ∧ Same B B2 ∧ Hs B2 [(D, .lst (qs2.map V.ref)), (rq, .lst (qs.map V.ref))] H' ∧ Paired (TpN K B2) qs2 (((wayF (nss.take t)).take i).flatMap (widL ns)))
      ⟨t4, t5, B, [], rfl, Same.refl _, h1, .nil⟩ (fun _ _ _ _ ⟨_, _, _, _, _, _, h2, _⟩ => SqL.of h2.r1) ?_ ?_⟩
    · rintro i v σ H2 hv ⟨t4, t5, B2, qs2, rfl, s2, h2, hP2⟩
      obtain ⟨q1, eq, rfl⟩ := map_at hv
      have hi : i < (wayF (nss.take t)).length := by rw [← hPl]; exact (List.getElem?_eq_some_iff.mp eq).1
      obtain ⟨r, er⟩ : ∃ r, (wayF (nss.take t))[i]? = some r := ⟨_, List.getElem?_eq_getElem hi⟩
      obtain ⟨q2, eq2, tq⟩ := paired_at hP er
      rw [eq] at eq2
      cases eq2
      have tq : SqT K B q1 (vN r) := tq
      have rl := paired_len ((wayF_take (by omega)).mp (List.mem_of_getElem? er))
      rw [List.length_take] at rl
      refine ⟨_, rfl, a, rfl, ⟨_, Same.sql ((sB.trans s2).trans h2.sub) sa⟩, for_list (K := K) (xs := vN ns) (fun j σ H' => ∃ (t5 : Option V) (B3 : Hp) (qs3 : List Addr), σ = [some (.ref q), some (.ref rq), some (.ref a), some (.ref D), some (.ref q1), t5] ∧ Same B B3 ∧ Hs B3 [(D, .lst (qs3.map V.ref)), (rq, .lst (qs.map V.ref))] H' ∧ Paired (TpN K B3) qs3 (((wayF (nss.take t)).take i).flatMap (widL ns) ++ widL (ns.take j) r))
        ⟨t5, B2, qs2, rfl, s2, h2, by show Paired _ _ (_ ++ []); rw [List.append_nil]; exact hP2⟩ (fun _ _ _ _ ⟨_, _, _, _, s3, h3, _⟩ => Same.sql ((sB.trans s3).trans h3.sub) sa) ?_ ?_⟩
      · rintro j v σ H3 hv ⟨t5, B3, qs3, rfl, s3, h3, hP3⟩
        obtain ⟨n, en2, rfl⟩ := map_at hv
        refine ⟨_, rfl, .inl ⟨rfl, _, SqL.of h3.r0⟩, _, rfl, _, rfl, (by show 1 ≤ sizeLine; decide), fun Tu hTu => ?_⟩
        have h4 := h3.tup (o := .tup [.int (n : Nat)]) hTu
        have s4 : Same B3 (upd B3 Tu (.tup [.int (n : Nat)])) := up_same (h3.sub.free hTu)
        generalize hB4 : upd B3 Tu (.tup [.int (n : Nat)]) = B4 at *
        refine cat_any (Same.sqt ((s3.trans s4).trans h4.sub) tq) (SqT.of upd_same) (by rw [show (vN r).length = r.length from List.length_map ..]; show _ + 1 ≤ 1000000; omega) (fun p6 H6 s6 t6' => ?_)
        obtain ⟨B6, s46, h6, st6⟩ := h4.go allL2 s6
        have t6' := st6.sqt t6'
        have ql := paired_len hP3
        have et : widL (ns.take (j + 1)) r = widL (ns.take j) r ++ [r ++ [n]] := by unfold widL; rw [List.take_succ, en2, List.map_append]; rfl
        refine ⟨D, _, _, rfl, rfl, h6.r0, ?_, _, B6, qs3 ++ [p6], rfl, (s3.trans s4).trans s46, by rw [List.map_append]; exact h6.w0, ?_⟩
        · rw [List.length_map, ql, List.length_append, flat_widL, List.length_take, sizeLine_eq]
          unfold widL
          rw [List.length_map, List.length_take]
          have := Nat.mul_le_mul (show min i (wayF (nss.take t)).length ≤ 27 by omega) nl
          omega
        · rw [et, ← List.append_assoc]
          refine Paired.snoc (Paired.mapP hP3 fun _ _ z => Same.sqt (s4.trans s46) z) ?_
          show SqT K B6 p6 (vN (r ++ [n]))
          rw [show vN (r ++ [n]) = vN r ++ [.int (n : Nat)] from List.map_append ..]
          exact t6'
      · rintro σ H3 ⟨t5, B3, qs3, rfl, s3, h3, hP3⟩
        refine ⟨_, t5, B3, qs3, rfl, s3, h3, ?_⟩
        rw [show (vN ns).length = ns.length from List.length_map .., List.take_length] at hP3
        rw [List.take_succ, er, List.flatMap_append, show (some r).toList = [r] from rfl, show [r].flatMap (widL ns) = widL ns r by simp]
        exact hP3
    · rintro σ H2 ⟨t4, t5, B2, qs2, rfl, s2, h2, hP2⟩
      rw [List.length_map, hPl, List.take_length] at hP2
      exact ⟨_, rfl, D, _, _, _, _, B2, qs2, rfl, hD0', sB.trans s2, h2.swap.drop, by rw [etk, wayF_snoc]; exact hP2⟩
  · rintro σ H1 ⟨rq, t2, t3, t4, t5, B, qs, rfl, hrq, sB, hh, hP⟩
    rw [List.length_map, hal, List.take_length] at hP
    exact ⟨_, rfl, hq H1 rq qs hrq (sB.trans hh.sub) hh.r0 (Paired.mapP hP fun _ _ z => Same.sqt hh.sub z)⟩
end
end Sy
namespace Sy
open PySem PySem.Spec PyProof.Rows L2
/-- the law's swaps as a list at q -/
def SL (K : PySem.W.Frag) (H : Hp) (q : Addr) (sws : List Swp) : Prop := ∃ pr : List (Addr × Swp), pr.map (·.2) = sws ∧ H q = some (.lst (pr.map fun z => V.ref z.1)) ∧ ∀ z ∈ pr, SwAt K H z.1 z.2
theorem SL.mono {K : PySem.W.Frag} {H H' : Hp} {q : Addr} {sws : List Swp} (h : SL K H q sws) (s : Same H H') : SL K H' q sws := by
  obtain ⟨pr, h1, h2, h3⟩ := h
  exact ⟨pr, h1, s _ _ h2, fun z hz => Same.sqt s (h3 z hz)⟩
theorem SL.del {K : PySem.W.Frag} {H : Hp} {q g : Addr} {sws : List Swp} {ys : List V} (h : SL K H q sws) (ne : q ≠ g) (hg : H g = some (.lst ys)) : SL K (L2.del H g) q sws := by
  obtain ⟨pr, h1, h2, h3⟩ := h
  exact ⟨pr, h1, by rw [del_ne ne]; exact h2, fun z hz => sqt_delL (h3 z hz) hg⟩
theorem sw_paired {K : PySem.W.Frag} {H : Hp} : ∀ {pr : List (Addr × Swp)}, (∀ z ∈ pr, SwAt K H z.1 z.2) → Paired (SwAt K H) (pr.map (·.1)) (pr.map (·.2))
  | [], _ => .nil
  | z :: pr, h => .cons (h z List.mem_cons_self) (sw_paired fun y hy => h y (List.mem_cons_of_mem _ hy))
/-- a pair of kinds that may be swapped -/
def PrOk (rows : List Sy.Row) (p : Str × Str) : Prop := isK rows p.1 = true ∧ isK rows p.2 = true ∧ p.1 ≠ p.2 ∧ ar rows p.1 = ar rows p.2
theorem perm_erase {α : Type} : ∀ {l : List α} {k : Nat} {y : α}, l[k]? = some y → (y :: l.eraseIdx k).Perm l
  | [], _, _, h => by simp at h
  | a :: l, 0, y, h => by
    have : a = y := by simpa using h
    subst this
    exact List.Perm.refl _
  | a :: l, k + 1, y, h => by
    have ih := perm_erase (l := l) (k := k) (y := y) (by simpa using h)
    exact (List.Perm.swap _ _ _).trans (List.Perm.cons _ ih)
theorem map_erase {α β : Type} (f : α → β) : ∀ (l : List α) (k : Nat), (l.eraseIdx k).map f = (l.map f).eraseIdx k
  | [], _ => rfl
  | _ :: _, 0 => rfl
  | a :: l, k + 1 => by
    show f a :: (l.eraseIdx k).map f = f a :: (l.map f).eraseIdx k
    rw [map_erase f l k]
section
variable {P : Program} {w : World} {K : PySem.W.Frag} {mg : Str → Option Value} {base : Heap}
/-! _law_swaps -/
def spSwaps (K : PySem.W.Frag) : Sp := fun vs H Q _ => ∃ (g q : Addr) (rows : List Sy.Row), vs = [.ref g, .ref q] ∧ Bag g H ∧ q ≠ g ∧ RL K H q rows ∧ RowsL rows 4 ∧
  ∀ p sws H', SwsOk rows sws → sws.length ≤ 5 → Dr g H H' → p ≠ g → SL K H' p sws → Q (.ref p) H'
abbrev N_swaps : List Str := ["_law_box_here", "_law_kinds_here", "_law_choices", "_law_pair", "_law_other", "_law_found", "_law_turn", "_law_both"]
theorem sc_swaps : FnScope N_swaps ["_law_box_here", "_law_kinds_here"] (defScope (top 64)) := ⟨rfl, rfl, rfl, by decide +kernel, rfl, by decide +kernel, by decide +kernel⟩
theorem k_swaps (T : Txt K mg) (F : DF K mg "_law_swaps" 64) (c_law_pick : Cal P w K mg base 1 "_law_pick" ["_law_box_here", "_law_many"] spDraw) (c_law_number : Cal P w K mg base 2 "_law_number" ["_law_box_here"] (spNumber K)) : Cal P w K mg base 3 "_law_swaps" ["_law_box_here", "_law_kinds_here"] (spSwaps K) := by
  refine cal_of F.1 F.2 sc_swaps (fun _ _ _ _ _ _ us e => match us, e with | [_, _], _ => rfl) (fun vs H Q E s => by obtain ⟨_, _, _, rfl, _⟩ := s; rfl) ?_
  intro cdv A outer s H vs Q E hr h
  obtain ⟨g, q, rows, rfl, hg, hqg, hRL, rl, hq⟩ := h
  have sc := sc_swaps
  obtain ⟨l0, hl0, h0⟩ := hg.take
  obtain ⟨pr, rfl, hL0, hP0⟩ : RL K (L2.del H g) q rows := by
    obtain ⟨l, _, e⟩ := hg
    exact hRL.del hqg e
  generalize hB0 : L2.del H g = B0 at *
  have hle := rl.le
  rw [List.length_map] at hle
  have hnd : (pr.map fun z => z.2.1).Nodup := by
    have := rl.ok.nd
    rw [List.map_map] at this
    exact this
  have arz : ∀ z ∈ pr, ar (pr.map (·.2)) z.2.1 = z.2.2 ∧ isK (pr.map (·.2)) z.2.1 = true := fun z hz => ar_mem rl.ok.nd (List.mem_map_of_mem hz)
  have notin : ∀ {i : Nat} {z : Addr × Sy.Row}, pr[i]? = some z → z.2.1 ∉ (pr.take i).map fun z => z.2.1 := fun {i z} hz hm => by
    obtain ⟨y, hy, e⟩ := List.mem_map.mp hm
    obtain ⟨j, hj, ej⟩ := List.mem_iff_getElem.mp hy
    rw [List.length_take] at hj
    rw [List.getElem_take] at ej
    obtain ⟨hi, er⟩ := List.getElem?_eq_some_iff.mp hz
    have := List.pairwise_iff_getElem.mp hnd j i (by rw [List.length_map]; omega) (by rw [List.length_map]; omega) (by omega)
    rw [List.getElem_map, List.getElem_map, ej, er] at this
    exact this e
  refine ⟨_, (pss_cons (ps_set (i := 2) sc.nd rfl (Or.inl rfl) (pe_lst pa_nil))
      (pss_cons (ps_for (passes_of rfl) rfl (pi_list (pv 1)) (pg_name (i := 3) sc.nd rfl (Or.inl rfl))
        (pss_one (ps_for (passes_of rfl) rfl (pi_list (pv 1)) (pg_name (i := 4) sc.nd rfl (Or.inl rfl))
          (pss_one (ps_if (PW.pt (pw_and (pt_cmpR op_ne (pe_ix ix_tup (pv 3) pe_int (fun _ _ => rfl)) (pe_ix ix_tup (pv 4) pe_int (fun _ _ => rfl)) (nomark _)) (pw_and1 (pt_cmpR op_eq (pe_ix ix_tup (pv 3) pe_int (fun _ _ => rfl)) (pe_ix ix_tup (pv 4) pe_int (fun _ _ => rfl)) (nomark _)))))
            (pss_one (ps_expr (pe_bm PySem.F.plainAttrs_list PySem.F.slot_list_append PySem.F.type_list_append mt_append (pv 2) (pa_cons (pe_tup (pa_cons (pe_ix ix_tup (pv 3) pe_int (fun _ _ => rfl)) (pa_cons (pe_ix ix_tup (pv 4) pe_int (fun _ _ => rfl)) pa_nil))) pa_nil))))
            pss_nil)))))
      (pss_cons (ps_set (i := 5) sc.nd rfl (Or.inl rfl) (pe_lst pa_nil))
      (pss_cons (ps_cut (ps_for (passes_of rfl) rfl (pi_range1 rfl T.range (pa_cons (pe_cal c_law_pick hr (pa_cons (pv 0) (pa_cons pe_int pa_nil))) pa_nil)) (pg_name (i := 6) sc.nd rfl (Or.inl rfl))
        (pss_cons (ps_if (pt_cmpR op_eq (pe_callB call_len_seq (by rfl) T.len (by decide +kernel) (pa_cons (pv 2) pa_nil)) pe_int (nomark _))
          (pss_one ps_break)
          pss_nil)
        (pss_cons (ps_set (i := 7) sc.nd rfl (Or.inl rfl) (pe_bm PySem.F.plainAttrs_list PySem.F.slot_list_pop PySem.F.type_list_pop mt_popAt (pv 2) (pa_cons (pe_cal c_law_pick hr (pa_cons (pv 0) (pa_cons (pe_callB call_len_seq (by rfl) T.len (by decide +kernel) (pa_cons (pv 2) pa_nil)) pa_nil))) pa_nil)))
        (pss_one (ps_expr (pe_bm PySem.F.plainAttrs_list PySem.F.slot_list_append PySem.F.type_list_append mt_append (pv 5) (pa_cons (pe_tup (pa_cons (pe_ix ix_tup (pv 7) pe_int (fun _ _ => rfl)) (pa_cons (pe_ix ix_tup (pv 7) pe_int (fun _ _ => rfl)) (pa_cons (pe_cal c_law_number hr (pa_cons (pv 0) pa_nil)) pa_nil)))) pa_nil))))))))
      (pss_one (ps_ret (pv 5))))))), ?_⟩
  refine ⟨by decide, fun D hD => ?_⟩
  have h1 := (h0.new (o := .lst []) hD).swap
  refine ⟨_, rfl, q, rfl, ⟨_, SqL.of (h1.sub _ _ hL0)⟩, for_list (K := K) (xs := pr.map fun z => V.ref z.1)
    (fun i σ H' => ∃ (t3 t4 : Option V) (B : Hp) (ch : List (Addr × (Str × Str))), σ = [some (.ref g), some (.ref q), some (.ref D), t3, t4, none, none, none] ∧ Same B0 B ∧ Hs B [(g, .lst (l0.map V.int)), (D, .lst (ch.map fun z => V.ref z.1))] H' ∧ (∀ z ∈ ch, SqT K B z.1 [.str z.2.1, .str z.2.2]) ∧ (∀ z ∈ ch, PrOk (pr.map (·.2)) z.2) ∧ (ch.map (·.2)).Nodup ∧
      ch.length ≤ 4 * i ∧ ∀ z ∈ ch, z.2.1 ∈ (pr.take i).map fun z => z.2.1)
    ⟨none, none, B0, [], rfl, Same.refl _, h1, fun _ z => (nomatch z), fun _ z => (nomatch z), List.nodup_nil, Nat.zero_le _, fun _ z => (nomatch z)⟩ (fun _ _ _ _ ⟨_, _, _, _, _, s, z, _⟩ => SqL.of (z.sub _ _ (s _ _ hL0))) ?_ ?_⟩
  · rintro i v σ H2 hv ⟨t3, t4, B, ch, rfl, sB, hh, hat, hok, hnd2, hlen, hin⟩
    obtain ⟨x, ex, rfl⟩ := map_at hv
    have hx := List.mem_of_getElem? ex
    have hxn := notin ex
    have etk : ((pr.take (i + 1)).map fun z => z.2.1) = ((pr.take i).map fun z => z.2.1) ++ [x.2.1] := by rw [List.take_succ, ex, List.map_append]; rfl
    refine ⟨_, rfl, q, rfl, ⟨_, SqL.of (hh.sub _ _ (sB _ _ hL0))⟩, for_list (K := K) (xs := pr.map fun z => V.ref z.1)
      (fun j σ H' => ∃ (t4 : Option V) (B : Hp) (ch : List (Addr × (Str × Str))), σ = [some (.ref g), some (.ref q), some (.ref D), some (.ref x.1), t4, none, none, none] ∧ Same B0 B ∧ Hs B [(g, .lst (l0.map V.int)), (D, .lst (ch.map fun z => V.ref z.1))] H' ∧ (∀ z ∈ ch, SqT K B z.1 [.str z.2.1, .str z.2.2]) ∧ (∀ z ∈ ch, PrOk (pr.map (·.2)) z.2) ∧ (ch.map (·.2)).Nodup ∧
        ch.length ≤ 4 * i + j ∧ ∀ z ∈ ch, (z.2.1 ∈ (pr.take i).map fun z => z.2.1) ∨ (z.2.1 = x.2.1 ∧ z.2.2 ∈ (pr.take j).map fun z => z.2.1))
      ⟨t4, B, ch, rfl, sB, hh, hat, hok, hnd2, by omega, fun z hz => .inl (hin z hz)⟩ (fun _ _ _ _ ⟨_, _, _, _, s, z, _⟩ => SqL.of (z.sub _ _ (s _ _ hL0))) ?_ ?_⟩
    · clear sB hh hat hok hnd2 hlen hin
      clear ch B t3 t4
      rintro j v σ H3 hv ⟨t4, B, ch, rfl, sB, hh, hat, hok, hnd2, hlen, hin⟩
      obtain ⟨y, ey, rfl⟩ := map_at hv
      have hy := List.mem_of_getElem? ey
      have hyn := notin ey
      have etj : ((pr.take (j + 1)).map fun z => z.2.1) = ((pr.take j).map fun z => z.2.1) ++ [y.2.1] := by rw [List.take_succ, ey, List.map_append]; rfl
      have hi4 : i < pr.length := (List.getElem?_eq_some_iff.mp ex).1
      have hj4 : j < pr.length := (List.getElem?_eq_some_iff.mp ey).1
      have tx := Same.sqt (sB.trans hh.sub) (hP0.at_ x hx)
      have ty := Same.sqt (sB.trans hh.sub) (hP0.at_ y hy)
      have skip : ∀ z ∈ ch, (z.2.1 ∈ (pr.take i).map fun z => z.2.1) ∨ (z.2.1 = x.2.1 ∧ z.2.2 ∈ (pr.take (j + 1)).map fun z => z.2.1) := fun z hz => (hin z hz).imp id fun e => ⟨e.1, by rw [etj]; exact List.mem_append_left _ e.2⟩
      refine ⟨_, rfl, x.1, _, _, _, rfl, rfl, tx, atI_nat (j := 0) rfl, _, rfl, y.1, _, _, _, rfl, rfl, ty, atI_nat (j := 0) rfl, rfl, _, rfl, if_ndec (fun c => ?_) (fun c => ?_)⟩
      · have c : x.2.1 ≠ y.2.1 := fun z => c (by rw [z])
        refine ⟨_, rfl, x.1, _, _, _, rfl, rfl, tx, atI_nat (j := 1) rfl, _, rfl, y.1, _, _, _, rfl, rfl, ty, atI_nat (j := 1) rfl, rfl, _, rfl, if_dec (fun c2 => ?_) (fun c2 => ?_)⟩
        · have c2 : x.2.2 = y.2.2 := by have := V.int.inj c2; omega
          refine ⟨_, rfl, .inl ⟨rfl, _, SqL.of hh.r1⟩, _, rfl, x.1, _, _, _, rfl, rfl, tx, atI_nat (j := 0) rfl, _, rfl, y.1, _, _, _, rfl, rfl, ty, atI_nat (j := 0) rfl, (by show 2 ≤ sizeLine; decide), fun T4 hT4 => ?_⟩
          have h4 := hh.tup (o := .tup [.str x.2.1, .str y.2.1]) hT4
          have s4 : Same B (upd B T4 (.tup [.str x.2.1, .str y.2.1])) := up_same (hh.sub.free hT4)
          refine ⟨D, _, _, rfl, rfl, h4.r1, by rw [List.length_map, sizeLine_eq]; omega, _, _, ch ++ [(T4, (x.2.1, y.2.1))], rfl, sB.trans s4, by rw [List.map_append]; exact h4.w1, fun z hz => ?_, fun z hz => ?_, ?_, by rw [List.length_append]; show _ + 1 ≤ _; omega, fun z hz => ?_⟩
          · rcases List.mem_append.mp hz with hz | hz
            · exact Same.sqt s4 (hat z hz)
            · rw [List.mem_singleton.mp hz]
              exact SqT.of upd_same
          · rcases List.mem_append.mp hz with hz | hz
            · exact hok z hz
            · rw [List.mem_singleton.mp hz]
              exact ⟨(arz x hx).2, (arz y hy).2, c, by rw [(arz x hx).1, (arz y hy).1]; exact c2⟩
          · rw [List.map_append]
            refine List.nodup_append.mpr ⟨hnd2, by simp, fun a ha b hb => ?_⟩
            have hb : b = (x.2.1, y.2.1) := by simpa using hb
            obtain ⟨z, hz, rfl⟩ := List.mem_map.mp ha
            rw [hb]
            intro e
            rcases hin z hz with e2 | ⟨e2, e3⟩
            · exact hxn (by rw [e] at e2; exact e2)
            · exact hyn (by rw [e] at e3; exact e3)
          · rcases List.mem_append.mp hz with hz | hz
            · exact skip z hz
            · rw [List.mem_singleton.mp hz]
              exact .inr ⟨rfl, by rw [etj]; simp⟩
        · exact ⟨_, B, ch, rfl, sB, hh, hat, hok, hnd2, by omega, skip⟩
      · exact ⟨_, B, ch, rfl, sB, hh, hat, hok, hnd2, by omega, skip⟩
    · clear sB hh hat hok hnd2 hlen hin
      clear ch B t3 t4
      rintro σ H3 ⟨t4, B, ch, rfl, sB, hh, hat, hok, hnd2, hlen, hin⟩
      rw [List.length_map] at hlen
      refine ⟨_, _, B, ch, rfl, sB, hh, hat, hok, hnd2, by omega, fun z hz => ?_⟩
      rw [etk]
      rcases hin z hz with e | ⟨e, _⟩
      · exact List.mem_append_left _ e
      · rw [e]
        exact List.mem_append_right _ (List.mem_singleton.mpr rfl)
  · rintro σ H2 ⟨t3, t4, B, ch, rfl, sB, hh, hat, hok, hnd2, hlen, hin⟩
    rw [List.length_map] at hlen
    refine ⟨by decide, fun R hR => ?_⟩
    have h3 := ((hh.new (o := .lst []) hR).swap)
    have h3 := h3.perm (L' := [(g, .lst (l0.map V.int)), (D, .lst (ch.map fun z => V.ref z.1)), (R, .lst [])]) (List.Perm.cons _ (List.Perm.swap _ _ _))
    refine ⟨fun σ' H' => ∃ (t6 t7 : Option V) (B : Hp) (lb : List Int) (o2 : HO) (fd : List (Addr × Swp)), σ' = [some (.ref g), some (.ref q), some (.ref D), t3, t4, some (.ref R), t6, t7] ∧ BagOk lb ∧ Same B0 B ∧ Hs B [(g, .lst (lb.map V.int)), (D, o2), (R, .lst (fd.map fun z => V.ref z.1))] H' ∧ (∀ z ∈ fd, SwAt K B z.1 z.2) ∧ SwsOk (pr.map (·.2)) (fd.map (·.2)) ∧ fd.length ≤ 5, ?_, ?_⟩
    · refine ⟨_, rfl, g, 6, rfl, h3.bag hl0, by decide, by decide, fun m H4 hm d4 => ?_⟩
      obtain ⟨l4, B4, hl4, s4, h4, _⟩ := h3.dr0 d4
      refine ⟨_, rfl, by omega, by omega, for_rng (n := m)
        (fun i σ H' => ∃ (t6 t7 : Option V) (B : Hp) (lb : List Int) (ch : List (Addr × (Str × Str))) (fd : List (Addr × Swp)), σ = [some (.ref g), some (.ref q), some (.ref D), t3, t4, some (.ref R), t6, t7] ∧ BagOk lb ∧ Same B0 B ∧ Hs B [(g, .lst (lb.map V.int)), (D, .lst (ch.map fun z => V.ref z.1)), (R, .lst (fd.map fun z => V.ref z.1))] H' ∧
          (∀ z ∈ ch, SqT K B z.1 [.str z.2.1, .str z.2.2]) ∧ (∀ z ∈ ch, PrOk (pr.map (·.2)) z.2) ∧ ch.length ≤ 16 ∧ (∀ z ∈ fd, SwAt K B z.1 z.2) ∧ (∀ z ∈ fd, swOk (pr.map (·.2)) z.2 = true) ∧ (fd.map (fun z => pr2 z.2) ++ ch.map (·.2)).Nodup ∧ fd.length ≤ i)
        ⟨none, none, B4, l4, ch, [], rfl, hl4, sB.trans s4, h4, fun z hz => Same.sqt s4 (hat z hz), hok, by omega, fun _ z => (nomatch z), fun _ z => (nomatch z), hnd2, Nat.le_refl _⟩ ?_ ?_⟩
      · clear sB hh h3 h4 hat hok hnd2 hlen hin s4
        rintro i σ H5 hi ⟨t6, t7, B, lb, ch, fd, rfl, hlb, sB, hh, hat, hok, hlen, hfa, hfo, hnd2, hfl⟩
        refine ⟨_, rfl, D, _, rfl, .inl (SqL.of hh.r1), rfl, _, rfl, if_dec (fun c => ?_) (fun c => ?_)⟩
        · refine ⟨_, _, B, lb, _, fd, rfl, hlb, sB, hh, hfa, ⟨fun s hs => ?_, ?_⟩, by omega⟩
          · obtain ⟨z, hz, rfl⟩ := List.mem_map.mp hs
            exact hfo z hz
          · rw [List.map_map]
            exact (List.nodup_append.mp hnd2).1
        have cpos : 0 < ch.length := by
          rw [List.length_map] at c
          rcases Nat.eq_zero_or_pos ch.length with e | e
          · exact absurd (by rw [e]; rfl) c
          · exact e
        refine ⟨_, rfl, .inl ⟨rfl, _, SqL.of hh.r1⟩, _, rfl, _, rfl, D, _, rfl, .inl (SqL.of hh.r1), g, ch.length, by rw [List.length_map], hh.bag hlb, cpos, by omega, fun k H6 hk d6 => ?_⟩
        obtain ⟨l6, B6, hl6, s6, h6, _⟩ := hh.dr0 d6
        obtain ⟨y, ey⟩ : ∃ y, ch[k]? = some y := ⟨_, List.getElem?_eq_getElem hk⟩
        have hy := List.mem_of_getElem? ey
        refine ⟨D, _, _, k, .ref y.1, rfl, rfl, h6.r1, by omega, by omega, ?_, by rw [List.getElem?_map, ey]; rfl, ?_⟩
        · rw [List.length_map, seqIndex_of (by omega) (by omega), Int.toNat_natCast]
        rw [← map_erase]
        have h7 := h6.w1 (o' := .lst ((ch.eraseIdx k).map fun z => V.ref z.1))
        have ty := Same.sqt (s6.trans h7.sub) (hat y hy)
        refine ⟨_, rfl, .inl ⟨rfl, _, SqL.of h7.r2⟩, _, rfl, y.1, _, _, _, rfl, rfl, ty, atI_nat (j := 0) rfl, _, rfl, y.1, _, _, _, rfl, rfl, ty, atI_nat (j := 1) rfl, _, rfl, g, rfl, h7.bag hl6, fun n H8 hn d8 => ?_⟩
        obtain ⟨l8, B8, hl8, s8, h8, _⟩ := h7.dr0 d8
        refine ⟨(by show 3 ≤ sizeLine; decide), fun T9 hT9 => ?_⟩
        have h9 := h8.tup (o := .tup [.str y.2.1, .str y.2.2, .int (n : Nat)]) hT9
        have s9 : Same B8 (upd B8 T9 (.tup [.str y.2.1, .str y.2.2, .int (n : Nat)])) := up_same (h8.sub.free hT9)
        have s69 := (s6.trans s8).trans s9
        have hpe := perm_erase ey
        have hsub : ∀ z ∈ ch.eraseIdx k, z ∈ ch := fun z hz => hpe.mem_iff.mp (List.mem_cons_of_mem _ hz)
        have oky := hok y hy
        refine ⟨R, _, _, rfl, rfl, h9.r2, by rw [List.length_map, sizeLine_eq]; omega, _, _, _, l8, ch.eraseIdx k, fd ++ [(T9, (y.2.1, y.2.2, ((n : Nat) : Int)))], rfl, hl8, sB.trans s69, by rw [List.map_append]; exact h9.w2, fun z hz => Same.sqt s69 (hat z (hsub z hz)), fun z hz => hok z (hsub z hz), by have := List.length_eraseIdx_le ch k; omega, fun z hz => ?_, fun z hz => ?_, ?_, by rw [List.length_append]; show _ + 1 ≤ _; omega⟩
        · rcases List.mem_append.mp hz with hz | hz
          · exact Same.sqt s69 (hfa z hz)
          · rw [List.mem_singleton.mp hz]
            exact SqT.of upd_same
        · rcases List.mem_append.mp hz with hz | hz
          · exact hfo z hz
          · rw [List.mem_singleton.mp hz]
            unfold swOk
            simp only [oky.1, oky.2.1, oky.2.2.1, oky.2.2.2, Bool.true_and, decide_true, decide_false, Bool.not_false]
            exact prOk_iff.mpr ⟨by omega, by omega⟩
        · rw [List.map_append, List.append_assoc]
          have p1 : (([((T9, (y.2.1, y.2.2, ((n : Nat) : Int))) : Addr × Swp)].map fun z => pr2 z.2) ++ (ch.eraseIdx k).map (·.2)) = (y :: ch.eraseIdx k).map (·.2) := rfl
          rw [p1]
          exact (List.Perm.append_left _ (hpe.map _)).nodup_iff.mpr hnd2
      · clear sB hh h3 h4 hat hok hnd2 hlen hin s4
        rintro σ H5 ⟨t6, t7, B, lb, ch, fd, rfl, hlb, sB, hh, hat, hok, hlen, hfa, hfo, hnd2, hfl⟩
        refine ⟨_, _, B, lb, _, fd, rfl, hlb, sB, hh, hfa, ⟨fun s hs => ?_, ?_⟩, by omega⟩
        · obtain ⟨z, hz, rfl⟩ := List.mem_map.mp hs
          exact hfo z hz
        · rw [List.map_map]
          exact (List.nodup_append.mp hnd2).1
    · rintro σ' H5 ⟨t6, t7, B5, lb, o2, fd, rfl, hlb, sB5, h5, hfa, hso, hfl⟩
      have hne := (List.nodup_cons.mp h5.nd).1
      exact ⟨_, rfl, hq R (fd.map (·.2)) H5 hso (by rw [List.length_map]; exact hfl) (h5.isDr hlb (by simp) (by rw [hB0]; exact sB5)) (fun z => hne (by rw [z]; simp)) ⟨fd, rfl, h5.r2, fun z hz => Same.sqt h5.sub (hfa z hz)⟩⟩
end
end Sy
/-! _law_steps -/
namespace Sy
open PySem PySem.Spec PyProof.Rows L2
def stpF (rows : List Sy.Row) (sws : List Swp) : List Swp := (rows.map fun r => (r.1, r.1, 0)) ++ sws
theorem stpF_mem {rows : List Sy.Row} {sws : List Swp} (nd : (rows.map (·.1)).Nodup) {x y : Str} {n : Int} (hx : isK rows x = true) : (x, y, n) ∈ stpF rows sws ↔ (y, n) ∈ turnsL x sws := by
  unfold stpF turnsL
  rw [List.mem_append, List.mem_cons, List.mem_map, List.mem_map]
  constructor
  · rintro (⟨r, _, e⟩ | h)
    · injection e with e1 e2
      injection e2 with e2 e3
      exact .inl (by rw [← e1, e2, e3])
    · exact .inr ⟨_, List.mem_filter.mpr ⟨h, by simp⟩, rfl⟩
  · rintro (h | ⟨s, hs, e⟩)
    · injection h with h1 h2
      unfold isK at hx
      obtain ⟨m, e⟩ := Option.isSome_iff_exists.mp hx
      exact .inl ⟨_, lookup_at e, by rw [h1, h2]⟩
    · rw [List.mem_filter] at hs
      have e1 : s.1 = x := by simpa using hs.2
      have : s = (x, y, n) := by
        obtain ⟨a, b⟩ := s
        have e : b = (y, n) := e
        have e1 : a = x := e1
        rw [e, e1]
      rw [← this]
      exact .inr hs.1
section
variable {P : Program} {w : World} {K : PySem.W.Frag} {mg : Str → Option Value} {base : Heap}
def spStp (K : PySem.W.Frag) : Sp := fun vs H Q _ => ∃ (q p : Addr) (rows : List Sy.Row) (sws : List Swp), vs = [.ref q, .ref p] ∧ RL K H q rows ∧ SL K H p sws ∧ rows.length ≤ 8 ∧ sws.length ≤ 100 ∧ ∀ H' z, Same H H' → SL K H' z (stpF rows sws) → Q (.ref z) H'
abbrev N_stp : List Str := ["_law_kinds_here", "_law_swaps_here", "_law_found", "_law_pair"]
theorem sc_stp : FnScope N_stp ["_law_kinds_here", "_law_swaps_here"] (defScope (top 68)) := ⟨rfl, rfl, rfl, by decide +kernel, rfl, by decide +kernel, by decide +kernel⟩
theorem k_stp (T : Txt K mg) (F : DF K mg "_law_steps" 68) : Cal P w K mg base 1 "_law_steps" ["_law_kinds_here", "_law_swaps_here"] (spStp K) := by
  refine cal_of F.1 F.2 sc_stp (fun _ _ _ _ _ _ us e => match us, e with | [_, _], _ => rfl) (fun vs H Q E s => by obtain ⟨_, _, _, _, rfl, _⟩ := s; rfl) ?_
  intro cdv A outer s H vs Q E hr h
  obtain ⟨q, p, _, _, rfl, ⟨pr, rfl, hL, hP⟩, ⟨ps, rfl, hLs, hPs⟩, l1, l2, hq⟩ := h
  have sc := sc_stp
  rw [List.length_map] at l1 l2
  refine ⟨_, (pss_cons (ps_setLc (i := 2) (own := [("_law_pair", 3)]) (g := gName 3) (te := tTup (tCons (tOp (rIxT K) (tVar 3) (tC (.int 0))) (tCons (tOp (rIxT K) (tVar 3) (tC (.int 0))) (tCons (tC (.int 0)) tNil)))) rfl sc.nd rfl rfl (sw_true rfl rfl rfl (by decide +kernel)) (pi_list (pv 0)) (blkOk_by (N := N_stp) (sc := defScope (top 68)) (by decide +kernel)) (fun _ _ _ _ _ => (pg_name (i := 3) sc.nd rfl (Or.inl rfl))) (fun _ _ _ _ _ => pts_nil) (fun _ _ _ _ _ => (pe_tup (pa_cons (pe_ixTK K rfl (pv 3) pe_int (fun _ _ => rfl)) (pa_cons (pe_ixTK K rfl (pv 3) pe_int (fun _ _ => rfl)) (pa_cons pe_int pa_nil))))))
      (pss_one (ps_ret (pe_op op_cat (pv 2) (pe_callTy call_list_of (by rfl) T.list (by decide +kernel) (pa_cons (pv 1) pa_nil)))))), ?_⟩
  refine ⟨_, rfl, q, rfl, ⟨_, SqL.of hL⟩, fun D hD => lc_it (walk_list (K := K) (a := q) (xs := pr.map fun z => V.ref z.1)) (fun i H' => ∃ (B : Hp) (qs : List (Addr × Swp)), Same H B ∧ Hs B [(D, .lst (qs.map fun z => V.ref z.1))] H' ∧ qs.map (·.2) = ((pr.take i).map fun z => (z.2.1, z.2.1, 0)) ∧ ∀ z ∈ qs, SwAt K B z.1 z.2)
    ⟨H, [], Same.refl _, (Hs.start H).new hD, rfl, fun _ z => (nomatch z)⟩ (fun _ _ _ ⟨_, _, sB, hh, _⟩ => SqL.of ((sB.trans hh.sub) _ _ hL)) ?_ ?_⟩
  · rintro i x H1 _ hi ⟨B, qs, sB, hh, hqs, hat⟩ ⟨rfl, hx⟩
    obtain ⟨z, ez, rfl⟩ := map_at hx
    have hz := List.mem_of_getElem? ez
    have tz := Same.sqt (sB.trans hh.sub) (hP.at_ z hz)
    refine ⟨rfl, ?_⟩
    simp only [tYes, if_true]
    refine ⟨_, rfl, z.1, _, _, _, rfl, rfl, tz, atI_nat (j := 0) rfl, _, rfl, z.1, _, _, _, rfl, rfl, tz, atI_nat (j := 0) rfl, (by show 3 ≤ sizeLine; decide), fun T2 hT2 => ?_⟩
    have h2 := hh.tup (o := .tup [.str z.2.1, .str z.2.1, .int 0]) hT2
    have s2 : Same B (upd B T2 (.tup [.str z.2.1, .str z.2.1, .int 0])) := up_same (hh.sub.free hT2)
    have ql : qs.length = (pr.take i).length := by
      have := congrArg List.length hqs
      rw [List.length_map, List.length_map] at this
      exact this
    refine ⟨_, h2.r0, by rw [List.length_map, ql, List.length_take, sizeLine_eq]; omega, _, qs ++ [(T2, (z.2.1, z.2.1, 0))], sB.trans s2, by rw [List.map_append]; exact h2.w0, ?_, fun y hy => ?_⟩
    · rw [List.map_append, hqs, List.take_succ, ez, List.map_append]
      rfl
    · rcases List.mem_append.mp hy with hy | hy
      · exact Same.sqt s2 (hat y hy)
      · rw [List.mem_singleton.mp hy]
        exact SqT.of upd_same
  · rintro H1 ⟨B, qs, sB, hh, hqs, hat⟩
    rw [List.length_map, List.take_length] at hqs
    have sH := sB.trans hh.sub
    have ql : qs.length = pr.length := by
      have := congrArg List.length hqs
      rw [List.length_map, List.length_map] at this
      exact this
    refine ⟨_, rfl, _, rfl, p, _, rfl, .inl (SqL.of (sH _ _ hLs)), fun z hz => ?_⟩
    have s2 := up_same (o := .lst (ps.map fun z => V.ref z.1)) hz
    refine ⟨D, z, _, _, rfl, rfl, s2 _ _ hh.r0, upd_same, by rw [List.length_map, List.length_map, sizeLine_eq]; omega, fun y hy => ?_⟩
    have s3 := s2.trans (up_same (o := .lst ((qs.map fun z => V.ref z.1) ++ ps.map fun z => V.ref z.1)) hy)
    refine hq _ y (sH.trans s3) ⟨qs ++ ps, ?_, ?_, fun u hu => ?_⟩
    · unfold stpF
      rw [List.map_append, hqs, List.map_map]
      rfl
    · rw [upd_same, List.map_append]
    · rcases List.mem_append.mp hu with hu | hu
      · exact Same.sqt (hh.sub.trans s3) (hat u hu)
      · exact Same.sqt (sH.trans s3) (hPs u hu)
end
end Sy
namespace Sy
open PySem PySem.Spec PyProof.Rows L2
/-- words as the law makes them -/
def Wz (x : Str) : Prop := PyData.strOk x = true ∧ x.length ≤ 20
theorem Wd.wz {x : Str} (h : Wd x) : Wz x := ⟨h.sok, by have := len_tl x; have := h.2.1; omega⟩
theorem wz_add {x : Str} (h : Wd x) : Wz (x ++ ("Z" : Str)) := by
  have h1 := len_tl x
  have h2 := h.2.1
  have e : (x ++ ("Z" : Str)).cps.toList = x.cps.toList ++ [90] := by
    show (x.cps ++ _).toList = _
    rw [Array.toList_append]
    rfl
  refine ⟨?_, ?_⟩
  · unfold PyData.strOk
    rw [← Array.all_toList, List.all_eq_true]
    intro c hc
    rw [e] at hc
    rcases List.mem_append.mp hc with hc | hc
    · have := (h.2.2 c hc).2
      exact decide_eq_true (by omega)
    · rw [List.mem_singleton.mp hc]
      decide
  · rw [len_tl, e, List.length_append]
    show _ + 1 ≤ 20
    omega
theorem isK_wd {rows : List Sy.Row} {most : Nat} (rl : RowsL rows most) {x : Str} (h : isK rows x = true) : Wd x := by
  obtain ⟨r, hr, rfl⟩ := isK_mem' h
  exact rl.wd r hr
theorem str3 (j : Nat) (h : j < 3) : ∃ x : Str, ([.str "Z", .str "*", .str ""] : List V)[j]? = some (.str x) ∧ Wz x := by
  match j, h with
  | 0, _ => exact ⟨"Z", rfl, by decide +kernel, by decide +kernel⟩
  | 1, _ => exact ⟨"*", rfl, by decide +kernel, by decide +kernel⟩
  | 2, _ => exact ⟨"", rfl, by decide +kernel, by decide +kernel⟩
section
variable {P : Program} {w : World} {K : PySem.W.Frag} {mg : Str → Option Value} {base : Heap}
/-! _law_spoilt -/
def spSpoilt (K : PySem.W.Frag) : Sp := fun vs H Q _ => ∃ (g q p : Addr) (rows : List Sy.Row) (l : List Str), vs = [.ref g, .ref q, .ref p] ∧ Bag g H ∧ q ≠ g ∧ RL K H q rows ∧ RowsL rows 4 ∧ SqT K H p (l.map V.str) ∧ 1 ≤ l.length ∧ l.length ≤ 1990 ∧
  ∀ (l' : List Str) p' H', l'.length ≤ 1999 → Dr g H H' → SqT K H' p' (l'.map V.str) → Q (.ref p') H'
def JSp (g q p : Addr) (way place : Nat) (B0 : Hp) : L2.St → Hp → Prop := fun σ' H' => ∃ (y : Str) (B : Hp) (lb : List Int), σ' = [some (.ref g), some (.ref q), some (.ref p), some (.int (way : Nat)), some (.int (place : Nat)), some (.str y)] ∧ BagOk lb ∧ Same B0 B ∧ Hs B [(g, .lst (lb.map V.int))] H'
abbrev N_spoilt : List Str := ["_law_box_here", "_law_kinds_here", "_law_plant_here", "_law_way", "_law_place", "_law_word"]
theorem sc_spoilt : FnScope N_spoilt ["_law_box_here", "_law_kinds_here", "_law_plant_here"] (defScope (top 62)) := ⟨rfl, rfl, rfl, by decide +kernel, rfl, by decide +kernel, by decide +kernel⟩
theorem k_spoilt (T : Txt K mg) (F : DF K mg "_law_spoilt" 62) (c_law_pick : Cal P w K mg base 1 "_law_pick" ["_law_box_here", "_law_many"] spDraw) : Cal P w K mg base 2 "_law_spoilt" ["_law_box_here", "_law_kinds_here", "_law_plant_here"] (spSpoilt K) := by
  refine cal_of F.1 F.2 sc_spoilt (fun _ _ _ _ _ _ us e => match us, e with | [_, _, _], _ => rfl) (fun vs H Q E s => by obtain ⟨_, _, _, _, _, rfl, _⟩ := s; rfl) ?_
  intro cdv A outer s H vs Q E hr h
  obtain ⟨g, q, p, rows, l, rfl, hg, hqg, hRL, rl, hp, hl1, hl2, hq⟩ := h
  have sc := sc_spoilt
  obtain ⟨l0, hl0, h0⟩ := hg.take
  have hp0 : SqT K (L2.del H g) p (l.map V.str) := by
    obtain ⟨l, _, e⟩ := hg
    exact sqt_delL hp e
  obtain ⟨pr, rfl, hL0, hP0⟩ : RL K (L2.del H g) q rows := by
    obtain ⟨l, _, e⟩ := hg
    exact hRL.del hqg e
  generalize hB0 : L2.del H g = B0 at *
  have ppos := rl.pos
  have hle := rl.le
  rw [List.length_map] at hle ppos
  refine ⟨_, (pss_cons (ps_set (i := 3) sc.nd rfl (Or.inl rfl) (pe_cal c_law_pick hr (pa_cons (pv 0) (pa_cons pe_int pa_nil))))
      (pss_cons (ps_set (i := 4) sc.nd rfl (Or.inl rfl) (pe_cal c_law_pick hr (pa_cons (pv 0) (pa_cons (pe_callB call_len_seq (by rfl) T.len (by decide +kernel) (pa_cons (pv 2) pa_nil)) pa_nil))))
      (pss_cons (ps_set (i := 5) sc.nd rfl (Or.inl rfl) (pe_ix ix_tup (pe_ix ix_list (pv 1) (pe_cal c_law_pick hr (pa_cons (pv 0) (pa_cons (pe_callB call_len_seq (by rfl) T.len (by decide +kernel) (pa_cons (pv 1) pa_nil)) pa_nil))) (fun _ _ => rfl)) pe_int (fun _ _ => rfl)))
      (pss_cons (ps_cut (ps_if (pt_cmpR op_eq (pv 3) pe_int (nomark _))
        (pss_one (ps_set (i := 5) sc.nd rfl (Or.inl rfl) (pe_ix ix_list (pe_lst (pa_cons pe_str (pa_cons pe_str (pa_cons pe_str (pa_cons (pe_op op_add_str (pv 5) pe_str) pa_nil))))) (pe_cal c_law_pick hr (pa_cons (pv 0) (pa_cons pe_int pa_nil))) (fun _ _ => rfl))))
        pss_nil))
      (pss_cons (ps_if (pt_cmpR op_eq (pv 3) pe_int (nomark _))
        (pss_one (ps_ret (pe_slice sl_tupA (pv 2) po_none (po_some (pv 4)))))
        pss_nil)
      (pss_cons (ps_if (pt_cmpR op_eq (pv 3) pe_int (nomark _))
        (pss_one (ps_ret (pe_op op_catA (pv 2) (pe_tup (pa_cons (pv 5) pa_nil)))))
        pss_nil)
      (pss_one (ps_ret (pe_op op_catA (pe_op op_catA (pe_slice sl_tupA (pv 2) po_none (po_some (pv 4))) (pe_tup (pa_cons (pv 5) pa_nil))) (pe_slice sl_tupA (pv 2) (po_some (pe_op op_add (pv 4) pe_int)) po_none)))))))))), ?_⟩
  refine ⟨_, rfl, g, 4, rfl, h0.bag hl0, by decide, by decide, fun way H1 hway d1 => ?_⟩
  obtain ⟨l1, B1, hl1', s1, h1, _⟩ := h0.dr0 d1
  refine ⟨_, rfl, _, rfl, p, _, rfl, .inr (Same.sqt (s1.trans h1.sub) hp0), g, l.length, by rw [List.length_map], h1.bag hl1', hl1, by omega, fun place H2 hpl d2 => ?_⟩
  obtain ⟨l2, B2, hl2', s2, h2, _⟩ := h1.dr0 d2
  have s02 := s1.trans s2
  refine ⟨_, rfl, _, rfl, _, rfl, q, _, rfl, .inl (SqL.of (h2.sub _ _ (s02 _ _ hL0))), g, pr.length, by rw [List.length_map], h2.bag hl2', ppos, by omega, fun j3 H3 hj3 d3 => ?_⟩
  obtain ⟨l3, B3, hl3, s3, h3, _⟩ := h2.dr0 d3
  have s03 := s02.trans s3
  obtain ⟨z, ez⟩ : ∃ z, pr[j3]? = some z := ⟨_, List.getElem?_eq_getElem hj3⟩
  have hz := List.mem_of_getElem? ez
  have wz : Wd z.2.1 := rl.wd _ (List.mem_map_of_mem hz)
  refine ⟨q, _, _, _, rfl, rfl, SqL.of (h3.sub _ _ (s03 _ _ hL0)), atI_nat (by rw [List.getElem?_map, ez]; rfl), z.1, _, _, _, rfl, rfl, Same.sqt (s03.trans h3.sub) (hP0.at_ z hz), atI_nat (j := 0) rfl, ?_⟩
  refine ⟨JSp g q p way place B0, ⟨_, rfl, rfl, _, rfl, if_dec (fun c => ?_) (fun c => ?_)⟩, ?_⟩
  · have hzl := wz.wz.2
    refine ⟨_, rfl, _, _, rfl, rfl, ?_, (by show 4 ≤ sizeLine; decide), fun D4 hD4 => ?_⟩
    · show z.2.1.length + 1 ≤ sizeLine
      rw [sizeLine_eq]
      omega
    have h4 := h3.lay (o := .lst [.str "*", .str "Z", .str "", .str (z.2.1 ++ "Z")]) hD4
    have hgD : g ≠ D4 := h3.ne_of_new hD4 (g, .lst (l3.map V.int)) (by simp)
    refine ⟨_, rfl, g, 4, rfl, h4.bag hl3, by decide, by decide, fun j5 H5 hj5 d5 => ?_⟩
    have hD5 : H5 D4 = some (.lst [.str "*", .str "Z", .str "", .str (z.2.1 ++ "Z")]) := by
      obtain ⟨_, _, c⟩ := d5
      exact c.2 _ _ hgD.symm upd_same
    obtain ⟨l5, B5, hl5, s5, h5, _⟩ := h4.dr0 d5
    obtain ⟨x, hx⟩ : ∃ x : Str, ([.str "*", .str "Z", .str "", .str (z.2.1 ++ "Z")] : List V)[j5]? = some (.str x) := by
      match j5, hj5 with
      | 0, _ => exact ⟨_, rfl⟩
      | 1, _ => exact ⟨_, rfl⟩
      | 2, _ => exact ⟨_, rfl⟩
      | 3, _ => exact ⟨_, rfl⟩
    exact ⟨D4, _, _, _, rfl, rfl, SqL.of hD5, atI_nat hx, x, B5, l5, rfl, hl5, s03.trans s5, h5⟩
  · exact ⟨z.2.1, B3, l3, rfl, hl3, s03, h3⟩
  rintro σ' H4 ⟨y, B4, l4, rfl, hl4, s4, h4⟩
  have tp := Same.sqt (s4.trans h4.sub) hp0
  have dr : ∀ {H' : Hp}, Same H4 H' → Dr g H H' := fun s => (h4.isDr (g := g) (H := H) hl4 (by simp) (by rw [hB0]; exact s4)).same s
  have hpl2 : place ≤ (l.map V.str).length := by rw [List.length_map]; omega
  refine ⟨_, rfl, rfl, _, rfl, if_dec (fun c => ?_) (fun c => ?_)⟩
  · refine ⟨_, rfl, _, rfl, _, rfl, sl_any (zs := (l.take place).map V.str) (by rw [cut_take hpl2, List.map_take]) tp (fun p5 H5 s5 t5 => hq _ p5 H5 (by rw [List.length_take]; omega) (dr s5) t5)⟩
  refine ⟨_, rfl, rfl, _, rfl, if_dec (fun c2 => ?_) (fun c2 => ?_)⟩
  · refine ⟨_, rfl, _, rfl, (by show 1 ≤ sizeLine; decide), fun T5 hT5 => ?_⟩
    have s5 := up_same (o := .tup [.str y]) hT5
    refine cat_any (Same.sqt s5 tp) (SqT.of upd_same) (by rw [List.length_map]; show _ + 1 ≤ _; omega) (fun p6 H6 s6 t6 => hq (l ++ [y]) p6 H6 (by rw [List.length_append]; show _ + 1 ≤ _; omega) (dr (s5.trans s6)) (by rw [List.map_append]; exact t6))
  · refine ⟨_, rfl, _, rfl, _, rfl, sl_any (zs := (l.take place).map V.str) (by rw [cut_take hpl2, List.map_take]) tp (fun p5 H5 s5 t5 => ?_)⟩
    refine ⟨_, rfl, (by show 1 ≤ sizeLine; decide), fun T6 hT6 => ?_⟩
    have s6 := up_same (o := .tup [.str y]) hT6
    refine cat_any (Same.sqt s6 t5) (SqT.of upd_same) (by rw [List.length_map, List.length_take]; show _ + 1 ≤ _; omega) (fun p7 H7 s7 t7 => ?_)
    have s47 := (s5.trans s6).trans s7
    refine ⟨_, rfl, _, rfl, _, _, rfl, rfl, _, rfl, ?_⟩
    have e1 : ((place : Nat) : Int) + 1 = ((place + 1 : Nat) : Int) := by omega
    dsimp only [tNoPart]
    rw [e1]
    refine sl_any (zs := (l.drop (place + 1)).map V.str) (by rw [cut_drop (by rw [List.length_map]; omega), List.map_drop]) (Same.sqt s47 tp) (fun p8 H8 s8 t8 => ?_)
    refine cat_any (Same.sqt s8 t7) t8 (by rw [List.length_append, List.length_map, List.length_map, List.length_take, List.length_drop]; show _ + 1 + _ ≤ _; omega) (fun p9 H9 s9 t9 => hq (l.take place ++ [y] ++ l.drop (place + 1)) p9 H9 (by rw [List.length_append, List.length_append, List.length_take, List.length_drop]; show _ + 1 + _ ≤ _; omega) (dr ((s47.trans s8).trans s9)) ?_)
    rw [List.map_append, List.map_append]
    exact t9
end
end Sy
/-! isinstance of a caught own error that has fields (own rule) -/
namespace Sy
open PySem PySem.Spec PySem.Calls PySem.W PyProof.Rows L2
section
variable {prog : Program} {w : World} {A : Around} {E : Value → Shared → Prop} {s : Shared} {K : PySem.W.Frag} {x D : Addr} {ox od : Obj}
theorem findX {C : Addr} {name : Str} {a g : Value} (hc : (clsIn K C).isSome = true) (ha : findIn K (.ref C) name = some (some a)) (hg : specialIn K a "__get__" = some (some g)) (ht : takesIn K a = some true) : findObj K C (some od) name = some (.bind g a) := by
  obtain ⟨cd, hc⟩ := Option.isSome_iff_exists.mp hc
  unfold findObj
  rw [hc, Option.bind_some, ha, Option.bind_some]
  simp [hg, ht]
theorem classX {Q : Option Value → Shared → Prop} (C : ExcC K D) (X : K.In s.heap) (I : PySem.W.InstAt s.heap x ox D (some od)) (h : Q (some (.ref D)) { s with toks := s.toks + 1 }) : wpAny (model prog w) A (getAttr? (.ref x) "__class__") Q E s := by
  have hf : findObj K D (some od) "__class__" = some (.bind (.builtin "getset_descriptor.__get__") (.builtin "object.__class__")) := findX (by obtain ⟨cd, hc, _⟩ := any_some C.hd; rw [hc]; rfl) C.ha C.hn C.ht
  obtain ⟨hp, g, d, t, os⟩ := s
  have L0 := I.type (M := model prog w)
  have L1 := looks_findIn (M := model prog w) X C.hg
  have L2 := looks_findIn (M := model prog w) X C.hk
  have L3 := looks_find (M := model prog w) X I hf
  have sub : Looks (model prog w) hp (isInstance (.ref x) (.type "BaseException")) true := L0.andThen (looks_subIn X C.hs)
  have n1 : (false && onTheHeap (Value.builtin "BaseException.__getattribute__")) = false := rfl
  have n2 : (onTheHeap (Value.ref D) && Value.builtin "BaseException.__getattribute__" == Value.builtin "object.__getattribute__") = false := by
    rw [show (Value.builtin "BaseException.__getattribute__" == Value.builtin "object.__getattribute__") = false by decide +kernel]; rfl
  unfold getAttr? getAttrBy? getAttrBy
  refine wpAny_bind (wpAny_mkText (wpAny_bind (wpAny_attempt (wpAny_holding (wpAny_bind (L0.at (wpAny_bind (L1.at ?_))))))))
  show wpAny _ _ (if (onTheHeap (Value.ref D) && Value.builtin "BaseException.__getattribute__" == Value.builtin "object.__getattribute__") = true then _ else _) _ _ _
  rw [n2, if_neg Bool.false_ne_true]
  unfold getAttrByItsOwn hookBefore
  refine wpAny_bind ?_
  rw [if_pos (show onTheHeap (Value.ref D) = true from rfl)]
  refine L2.at ?_
  refine wpAny_bind (wpAny_attempt (wpAny_holding ?_))
  unfold callGetattribute
  rw [n1, if_neg Bool.false_ne_true]
  unfold boundAndCalled
  rw [PySem.F.excAttr_ValueError.ga.bind (.ref x)]
  refine wpAny_bind (wpAny_pure ?_)
  show wpAny _ _ (call (.builtin "BaseException.__getattribute__") [.ref x, .str "__class__" t]) _ _ _
  refine wpAny_call (codeAny_call_builtin PySem.F.excAttr_ValueError.ga.plain PySem.F.entry_bexc_ga ?_)
  refine @check_slot (model prog w) _ _ ⟨hp, g, d, t + 1, os⟩ "BaseException.__getattribute__" "BaseException" "__getattribute__" (.ref x) [.str "__class__" t] [] _ (by decide +kernel) (by decide +kernel) sub (PySem.F.args_bexc_ga (.ref x) (.str "__class__" t)) ?_
  unfold Builtin.«object.__getattribute__»
  refine wpAny_bind (wpAny_of_eq (a := ((Value.ref x : Value), [Value.str "__class__" t])) (by first | rfl | (simp only [slotArgs]; rfl)) ?_)
  refine wpAny_bind (wpAny_pure (wpAny_bind (L0.at (wpAny_bind (L3.at ?_)))))
  show wpAny _ _ (holding [Value.builtin "object.__class__"] (call (.builtin "getset_descriptor.__get__") [.builtin "object.__class__", .ref x, .ref D]) >>= ret) _ _ _
  refine wpAny_bind (wpAny_holding (wpAny_call (class_get (s := ⟨hp, g, d, t + 1, os⟩) (ox := ox) (od := some od) X I C.hm ?_)))
  refine wpAny_pure ?_
  show wpAny _ _ (handedOut (.ref D)) _ _ _
  rw [handedOut_of (v := .ref D) rfl]
  first
    | exact wpAny_pure (wpAny_pure h)
    | exact wpAny_pure h
    | exact wpAny_pure (wpAny_bind (wpAny_pure (wpAny_pure h)))
theorem kitX (C : ExcC K D) : KitX K (.ref x) (.ref D) (fun h => PySem.W.InstAt h x ox D (some od)) where
  ty := fun _ _ _ I => I.type
  it := fun _ _ X _ => by
    obtain ⟨cdD, hcD, _⟩ := any_some C.hd
    unfold clsIn at hcD
    split at hcD
    · rename_i c' d' cd' sl' ho
      intro A' Q' E' s' k q
      unfold isType loadHead
      exact wpAny_bind (wpAny_loadPart (k _ _ (X _ _ ho)) (wpAny_pure q))
    · cases hcD
  ne := fun h tp dd its n sl X htp => by
    obtain ⟨cdD, hcD, _⟩ := any_some C.hd
    refine Bool.eq_false_iff.mpr fun q => ?_
    have e : D = tp := Value.ref.inj (beq_iff_eq.mp q)
    subst e
    unfold clsIn at hcD
    split at hcD
    · rename_i c' d' cd' sl' ho
      have z := (X _ _ ho).symm.trans htp
      cases z
    · cases hcD
  ca := fun X I k => classX C X I k
end
/-- isinstance(e, c): which class e has is told by the reading -/
def rIsX (K : PySem.W.Frag) (a : Addr) (cls : Value) (d : Option Addr) : List V → Hp → VK → Prop := fun xs H Q => ∃ (D dd : Addr) (fs : List (Str × V)) (c : V) (cv : Value) (b : Bool), cls = .ref D ∧ d = some dd ∧ H dd = some (.xd fs) ∧ ExcC K D ∧ xs = [.ref a, c] ∧ (∀ u, RelV c u → u = cv) ∧ PySem.W.kitOne K (.ref D) cv = some b ∧ Q (.bl b) H
theorem call_isX {X : Cx} {a : Addr} {cls : Value} {d : Option Addr} {oe : Obj} {pn : List (Addr × Obj)} (hz : Zc cls d oe) (hf : ∃ vs, oe.data = .fields vs) : CallR (X.suite a ((a, oe) :: pn)) (.builtin "isinstance") (rIsX X.K a cls d) := by
  intro pins s σ H xs us Q I r h
  obtain ⟨D, dd, fs, c, cv, b, rfl, rfl, ea, C, rfl, hcv, e, q⟩ := h
  obtain ⟨u, u2, rfl, rx, rt⟩ : ∃ u u2, us = [u, u2] ∧ RelV (.ref a) u ∧ RelV c u2 := by
    cases r with
    | cons r rr => cases rr with
      | cons r' rr => cases rr; exact ⟨_, _, rfl, r, r'⟩
  cases rx
  have ec := hcv _ rt
  subst ec
  obtain ⟨hget, _⟩ := I.pin (a, oe) (List.mem_append.mpr (.inl List.mem_cons_self))
  obtain ⟨vs, hv⟩ := hf
  have hx : ObjOk X.prog X.w H s.heap dd (.xd fs) := I.hok dd _ ea
  obtain ⟨mA, hns, hr⟩ := hx
  obtain ⟨od, ho, hl⟩ := lookIn_ns hns
  have J : PySem.W.InstAt s.heap a oe D (some od) := ⟨hget, hz.1, by unfold PySem.W.notCls; rw [hv] <;> rfl, by rw [hz.2]; exact ho⟩
  exact PySem.W.kia_one (kitX C) I.kIn J e (fun z => nomatch z) fun tk => ⟨.bl b, H, I.kept (t' := tk) fun _ _ z => z, rfl, q⟩
section
variable {X : Cx}
open PySem PySem.Spec PyProof.Rows L2 in
theorem call_isXK (K : PySem.W.Frag) {a : Addr} {cls : Value} {d : Option Addr} {oe : Obj} {pn : List (Addr × Obj)} (hK : X.K = K) (hz : Zc cls d oe) (hf : ∃ vs, oe.data = .fields vs) : CallR (X.suite a ((a, oe) :: pn)) (.builtin "isinstance") (rIsX K a cls d) := by
  subst hK
  exact call_isX hz hf
end
end Sy
/-! _law_told -/
namespace Sy
open PySem PySem.Spec PyProof.Rows L2
theorem pln_neg {rows : List Sy.Row} {l : List Str} (h : ¬ 0 ≤ fa rows [] 1 0 l) (hl : l.length ≤ 2000) : Pln rows l := by
  refine pln_of ?_
  unfold ckP ckr
  rw [if_neg (by omega), if_neg h]
theorem ckP_cases {rows : List Sy.Row} {l : List Str} (hl : l.length ≤ 2000) : (ckP rows l = none ∧ ¬ 0 ≤ fa rows [] 1 0 l) ∨ ∃ n : Nat, ckP rows l = some (.plant n) ∧ fa rows [] 1 0 l = (n : Int) := by
  unfold ckP ckr
  rw [if_neg (by omega)]
  by_cases h : 0 ≤ fa rows [] 1 0 l
  · refine .inr ⟨(fa rows [] 1 0 l).toNat, by rw [if_pos h], by omega⟩
  · exact .inl ⟨by rw [if_neg h], h⟩
/-- an answer at t -/
def AnC (K : PySem.W.Frag) (H : Hp) (rows : List Sy.Row) (t : Addr) : Int ⊕ Option Val → Prop
  | .inl i => SqT K H t [.str "invalid", .int i]
  | .inr none => SqT K H t [.str "told", .non]
  | .inr (some v) => ∃ t2 p2, SqT K H t [.str "told", .ref t2] ∧ SqT K H t2 [.int v.1, .ref p2] ∧ SqT K H p2 ((v.2.map (kdW rows)).map V.str)
/-- what is due -/
def DuC (rows : List Sy.Row) (sws : List Swp) (d : Rdr) (c : Int) (l : List Str) : Int ⊕ Option Val → Prop
  | .inl i => 0 ≤ i ∧ fa rows [] 1 0 l = i
  | .inr o => ¬ 0 ≤ fa rows [] 1 0 l ∧ ∃ tb, TbOk rows sws d c l 0 tb ∧ MinM d.marks (tb 0) o
theorem DuC.uniq {rows : List Sy.Row} {sws : List Swp} {d : Rdr} {c : Int} {l : List Str} (hl : l.length ≤ 2000) : ∀ {a b : Int ⊕ Option Val}, DuC rows sws d c l a → DuC rows sws d c l b → a = b
  | .inl i, .inl j, h, g => by rw [← h.2, ← g.2]
  | .inl i, .inr o, h, g => absurd (by rw [h.2]; exact h.1) g.1
  | .inr o, .inl i, h, g => absurd (by rw [g.2]; exact g.1) h.1
  | .inr o, .inr u, h, g => by
    obtain ⟨n, tb, h1, h2⟩ := h
    obtain ⟨_, tb', g1, g2⟩ := g
    have pl := pln_neg n hl
    have lp := Fo.pos pl.fo
    rw [wt_len] at lp
    rw [TbOk.uniq pl.fo h1 g1 l.length 0 (by omega) lp] at h2
    rw [h2.uniq g2]
section
variable {P : Program} {w : World} {K : PySem.W.Frag} {mg : Str → Option Value} {base : Heap}
def spTldC (P : Program) (w : World) (K : PySem.W.Frag) : Sp := fun vs H Q _ => ∃ (pa p ra b b' : Addr) (c : Int) (rows : List Sy.Row) (sws : List Swp) (d : Rdr) (l : List Str), vs = [.ref pa, .ref p, .ref ra] ∧ PrcAt K H pa b c rows sws ∧ RdAt P w K H ra b' rows d ∧ RowsOk rows ∧ RdOk rows d ∧ d.many ≤ 3 ∧ SwsOk rows sws ∧ sws.length ≤ 1000 ∧
  (∀ r ∈ rows, PyData.strOk r.1 = true) ∧ SqT K H p (l.map V.str) ∧ l.length ≤ 2000 ∧ ∀ H' t a, Same H H' → DuC rows sws d c l a → AnC K H' rows t a → Q (.ref t) H'
abbrev N_tldC : List Str := ["_law_prices", "_law_plant_here", "_law_made", "_law_found", "e"]
theorem sc_tldC : FnScope N_tldC ["_law_prices", "_law_plant_here", "_law_made"] (defScope (top 74)) := ⟨rfl, rfl, rfl, by decide +kernel, rfl, by decide +kernel, by decide +kernel⟩
theorem k_tldC (R : Ers P K mg) (F : DF K mg "_law_told" 74) (c_cheapest : Cal P w K mg base 7 "cheapest" ["prices", "plant", "reader"] (spChp P w K)) : Cal P w K mg base 8 "_law_told" ["_law_prices", "_law_plant_here", "_law_made"] (spTldC P w K) := by
  refine cal_of F.1 F.2 sc_tldC (fun _ _ _ _ _ _ us e => match us, e with | [_, _, _], _ => rfl) (fun vs H Q E s => by obtain ⟨_, _, _, _, _, _, _, _, _, _, rfl, _⟩ := s; rfl) ?_
  intro cdv A outer s H vs Q E hr h
  obtain ⟨pa, p, ra, b, b', c, rows, sws, d, l, rfl, hP, hR, ok, dok, hm3, so, hsl, sok, hp, hl2, hq⟩ := h
  have sc := sc_tldC
  refine ⟨_, pss_cons (ps_try_fst (i := 4) rfl rfl sc.nd rfl rfl ⟨rfl, by decide, .inl R.ip.at_⟩
    (fun W pn xe tk _ => pss_one (ps_set (i := 3) sc.nd rfl (Or.inl rfl) (pe_calX c_cheapest hr tk (pa_cons (pv 0) (pa_cons (pv 1) (pa_cons (pv 2) pa_nil))))))
    (fun ea oe cls d pn hz hf => pss_one (ps_ret (pe_tup (pa_cons pe_str (pa_cons (pe_xf R.ip.xf (R.ip.no _ (by decide)) hz hf (pv 4)) pa_nil))))))
    (pss_one (ps_ret (pe_tup (pa_cons pe_str (pa_cons (pv 3) pa_nil))))), ?_⟩
  refine ⟨_, rfl, _, rfl, _, rfl, pa, p, ra, b, b', c, rows, sws, d, l, rfl, hP, hR, ok, dok, hm3, so, hsl, sok, hp, fun e he d1 H1 fs s1 ed im => ?_, fun ck => ?_⟩
  · rcases ckP_cases (rows := rows) hl2 with ⟨z, _⟩ | ⟨n, z, en⟩
    · rw [z] at he; cases he
    rw [z] at he
    cases he
    refine ⟨R.ip.ex, fun ea hea => ?_⟩
    cases im with
    | cons i1 r1 =>
      cases r1
      have i1 := i1.intI
      subst i1
      exact ⟨_, rfl, rfl, rfl, d1, _, _, rfl, ed, rfl, (by show 2 ≤ sizeLine; decide), fun t ht => hq _ t (.inl (n : Int)) (s1.trans (up_same ht)) ⟨by omega, en⟩ (SqT.of upd_same)⟩
  · rcases ckP_cases (rows := rows) hl2 with ⟨_, f0⟩ | ⟨n, z, en⟩
    · refine ⟨fun H1 tb s1 hTb hM => ?_, fun H1 tb v t p2 s1 hTb hM ht hp2 => ?_⟩
      · exact ⟨_, rfl, (by show 2 ≤ sizeLine; decide), fun t ht => hq _ t (.inr none) (s1.trans (up_same ht)) ⟨f0, tb, hTb, hM⟩ (SqT.of upd_same)⟩
      · exact ⟨_, rfl, (by show 2 ≤ sizeLine; decide), fun t3 ht3 => hq _ t3 (.inr (some v)) (s1.trans (up_same ht3)) ⟨f0, tb, hTb, hM⟩ ⟨t, p2, SqT.of upd_same, Same.sqt (up_same ht3) ht, Same.sqt (up_same ht3) hp2⟩⟩
    · rw [z] at ck; cases ck
end
end Sy
/-! _law_integer, _law_right -/
namespace Sy
open PySem PySem.Spec PyProof.Rows L2
theorem tyx_tup {K : PySem.W.Frag} {H : Hp} {a : Addr} {xs : List V} (h : SqT K H a xs) : TyX K H (.ref a) (.type "tuple") := by
  rcases h with (h | ⟨o, h⟩) | ⟨o, its, n, hk, hc, _⟩
  · exact .base (.tup h)
  · exact .fTuple h
  · exact .kTuple hk hc
section
variable {P : Program} {w : World} {K : PySem.W.Frag} {mg : Str → Option Value} {base : Heap}
def spInt : Sp := fun vs H Q _ => ∃ n : Int, vs = [.int n] ∧ Q (.bl true) H
theorem sc_int : FnScope ["_law_found"] ["_law_found"] (defScope (top 70)) := ⟨rfl, rfl, rfl, by decide +kernel, rfl, by decide +kernel, by decide +kernel⟩
theorem k_int (T : Txt K mg) (hbl : mg "bool" = none) (F : DF K mg "_law_integer" 70) : Cal P w K mg base 1 "_law_integer" ["_law_found"] spInt := by
  refine cal_of F.1 F.2 sc_int (fun _ _ _ _ _ _ us e => match us, e with | [_], _ => rfl) (fun vs H Q E s => by obtain ⟨_, rfl, _⟩ := s; rfl) ?_
  intro cdv A outer s H vs Q E hr h
  obtain ⟨n, rfl, hq⟩ := h
  refine ⟨_, (pss_one (ps_ret (pe_and (pe_callB call_isi (by rfl) T.isinstance (by decide +kernel) (pa_cons (pv 0) (pa_cons (pe_bltn (v := .ty "int") (by rfl) T.int (by decide +kernel) rfl) pa_nil))) (pe_one (pe_not (pe_callB call_isi (by rfl) T.isinstance (by decide +kernel) (pa_cons (pv 0) (pa_cons (pe_bltn (v := .ty "bool") (by rfl) hbl (by decide +kernel) rfl) pa_nil)))))))), ?_⟩
  refine ⟨_, rfl, _, _, _, _, true, rfl, .ty _, .base (.int n), kit_ty (by decide +kernel), _, rfl, iteT ?_⟩
  exact ⟨_, rfl, _, _, _, _, false, rfl, .ty _, .base (.int n), kit_ty (by decide +kernel), _, rfl, hq⟩
theorem sok_kdW {rows : List Sy.Row} (h : ∀ r ∈ rows, PyData.strOk r.1 = true) (n : Nat) : PyData.strOk (kdW rows n) = true := by
  unfold kdW
  cases e : rows[n]? with
  | none => show PyData.strOk ("" : Str) = true; decide +kernel
  | some r => exact h r (List.mem_of_getElem? e)
def DSs (l : List Str) : PyData := .tuple (l.map PyData.str)
theorem im_strs {K : PySem.W.Frag} {H : Hp} : ∀ l : List Str, ImA K H (l.map V.str) (l.map PyData.str)
  | [] => .nil
  | x :: l => .cons (.str x) (im_strs l)
theorem lay_strs {l : List Str} (h : ∀ x ∈ l, PyData.strOk x = true) : PyData.canLayAll0 (l.map PyData.str) = true ∧ PyData.depthAll (l.map PyData.str) ≤ 1 := by
  induction l with
  | nil => exact ⟨rfl, Nat.zero_le _⟩
  | cons x l ih =>
    have ih := ih fun y hy => h y (List.mem_cons_of_mem _ hy)
    simp only [List.map_cons, PyData.canLayAll0, PyData.depthAll, PyData.canLay0, PyData.depth, h x List.mem_cons_self, Bool.true_and]
    exact ⟨ih.1, by omega⟩
def anD (n : Int) (l : List Str) : PyData := .tuple [.int n, DSs l]
theorem lay_anD {n : Int} {l : List Str} (h : ∀ x ∈ l, PyData.strOk x = true) : SeqAt.shaped (anD n l) = true := by
  have := lay_strs h
  unfold SeqAt.shaped anD DSs
  simp only [PyData.canLay0, PyData.canLayAll0, PyData.depth, PyData.depthAll]
  rw [this.1]
  simp only [Bool.and_true, Bool.true_and]
  exact decide_eq_true (by omega)
theorem eqv_refl_strs : ∀ l : List Str, PyData.eqvAll (l.map PyData.str) (l.map PyData.str) = true
  | [] => rfl
  | x :: l => by rw [List.map_cons, PyData.eqvAll, eqv_refl_strs l]; simp [PyData.eqv]
theorem eqv_anD (n : Int) (l : List Str) : PyData.eqv (anD n l) (anD n l) = true := by
  unfold anD DSs
  simp [PyData.eqv, PyData.eqvAll, eqv_refl_strs]
def spRgC (P : Program) (w : World) (K : PySem.W.Frag) : Sp := fun vs H Q _ => ∃ (pa p ra u b b' : Addr) (c : Int) (rows : List Sy.Row) (sws : List Swp) (d : Rdr) (l : List Str) (a : Int ⊕ Option Val), vs = [.ref pa, .ref p, .ref ra, .ref u] ∧ PrcAt K H pa b c rows sws ∧ RdAt P w K H ra b' rows d ∧ RowsOk rows ∧ RdOk rows d ∧ d.many ≤ 3 ∧ SwsOk rows sws ∧ sws.length ≤ 1000 ∧
  (∀ r ∈ rows, PyData.strOk r.1 = true) ∧ SqT K H p (l.map V.str) ∧ l.length ≤ 2000 ∧ DuC rows sws d c l a ∧ AnC K H rows u a ∧ ∀ H', Same H H' → Q (.bl true) H'
abbrev N_rgC : List Str := ["_law_prices", "_law_plant_here", "_law_made", "_law_due_here", "_law_told_here"]
theorem sc_rgC : FnScope N_rgC ["_law_prices", "_law_plant_here", "_law_made", "_law_due_here"] (defScope (top 75)) := ⟨rfl, rfl, rfl, by decide +kernel, rfl, by decide +kernel, by decide +kernel⟩
theorem k_rgC (T : Txt K mg) (F : DF K mg "_law_right" 75) (c_law_told : Cal P w K mg base 8 "_law_told" ["_law_prices", "_law_plant_here", "_law_made"] (spTldC P w K)) (c_law_integer : Cal P w K mg base 1 "_law_integer" ["_law_found"] spInt) : Cal P w K mg base 9 "_law_right" ["_law_prices", "_law_plant_here", "_law_made", "_law_due_here"] (spRgC P w K) := by
  refine cal_of F.1 F.2 sc_rgC (fun _ _ _ _ _ _ us e => match us, e with | [_, _, _, _], _ => rfl) (fun vs H Q E s => by obtain ⟨_, _, _, _, _, _, _, _, _, _, _, _, rfl, _⟩ := s; rfl) ?_
  intro cdv A outer s H vs Q E hr h
  obtain ⟨pa, p, ra, u, b, b', c, rows, sws, d, l, a, rfl, hP, hR, ok, dok, hm3, so, hsl, sok, hp, hl2, hdu, han, hq⟩ := h
  have sc := sc_rgC
  refine ⟨_, (pss_cons (ps_set (i := 4) sc.nd rfl (Or.inl rfl) (pe_cal c_law_told hr (pa_cons (pv 0) (pa_cons (pv 1) (pa_cons (pv 2) pa_nil)))))
      (pss_cons (ps_if (pt_cmpR op_ne (pe_ix ix_tup (pv 4) pe_int (fun _ _ => rfl)) (pe_ix ix_tup (pv 3) pe_int (fun _ _ => rfl)) (nomark _))
        (pss_one (ps_ret pe_bl))
        pss_nil)
      (pss_cons (ps_if (pt_cmpR op_eq (pe_ix ix_tup (pv 3) pe_int (fun _ _ => rfl)) pe_str (nomark _))
        (pss_one (ps_ret (pe_and (pe_cal c_law_integer hr (pa_cons (pe_ix ix_tup (pv 4) pe_int (fun _ _ => rfl)) pa_nil)) (pe_one (pe_cmpR op_eq (pe_ix ix_tup (pv 4) pe_int (fun _ _ => rfl)) (pe_ix ix_tup (pv 3) pe_int (fun _ _ => rfl)) (nomark _))))))
        pss_nil)
      (pss_cons (ps_if (pt_cmpR op_isN (pe_ix ix_tup (pv 3) pe_int (fun _ _ => rfl)) pe_non (nomark _))
        (pss_one (ps_ret (pe_cmpR op_isN (pe_ix ix_tup (pv 4) pe_int (fun _ _ => rfl)) pe_non (nomark _))))
        pss_nil)
      (pss_cons (ps_if (PW.pt (pw_or (pt_not (pt_val (pe_callB call_isi (by rfl) T.isinstance (by decide +kernel) (pa_cons (pe_ix ix_tup (pv 4) pe_int (fun _ _ => rfl)) (pa_cons (pe_bltn (v := .ty "tuple") (by rfl) T.tuple (by decide +kernel) rfl) pa_nil))))) (pw_or (pt_cmpR op_ne (pe_callB call_len_seq (by rfl) T.len (by decide +kernel) (pa_cons (pe_ix ix_tup (pv 4) pe_int (fun _ _ => rfl)) pa_nil)) pe_int (nomark _)) (pw_or1 (pt_not (pt_val (pe_callB call_isi (by rfl) T.isinstance (by decide +kernel) (pa_cons (pe_ix ix_tup (pe_ix ix_tup (pv 4) pe_int (fun _ _ => rfl)) pe_int (fun _ _ => rfl)) (pa_cons (pe_bltn (v := .ty "tuple") (by rfl) T.tuple (by decide +kernel) rfl) pa_nil)))))))))
        (pss_one (ps_ret pe_bl))
        pss_nil)
      (pss_one (ps_ret (pe_and (pe_cal c_law_integer hr (pa_cons (pe_ix ix_tup (pe_ix ix_tup (pv 4) pe_int (fun _ _ => rfl)) pe_int (fun _ _ => rfl)) pa_nil)) (pe_one (pe_cmpR (op_eqD hr.units) (pe_ix ix_tup (pv 4) pe_int (fun _ _ => rfl)) (pe_ix ix_tup (pv 3) pe_int (fun _ _ => rfl)) (nomark _))))))))))), ?_⟩
  refine ⟨_, rfl, _, rfl, _, rfl, pa, p, ra, b, b', c, rows, sws, d, l, rfl, hP, hR, ok, dok, hm3, so, hsl, sok, hp, hl2, fun H1 t a' s1 hdu' han' => ?_⟩
  obtain rfl := DuC.uniq hl2 hdu' hdu
  have fin := hq H1 s1
  rcases a' with i | (_ | v)
  · have ht : SqT K H1 t [.str "invalid", .int i] := han'
    have hu : SqT K H1 u [.str "invalid", .int i] := Same.sqt s1 han
    refine ⟨_, rfl, t, _, _, _, rfl, rfl, ht, atI_nat (j := 0) rfl, _, rfl, u, _, _, _, rfl, rfl, hu, atI_nat (j := 0) rfl, rfl, _, rfl, if_ndec (fun c2 => absurd rfl c2) (fun _ => ?_)⟩
    refine ⟨_, rfl, u, _, _, _, rfl, rfl, hu, atI_nat (j := 0) rfl, rfl, _, rfl, if_dec (fun _ => ?_) (fun c2 => absurd rfl c2)⟩
    refine ⟨_, rfl, t, _, _, _, rfl, rfl, ht, atI_nat (j := 1) rfl, i, rfl, _, rfl, iteT ?_⟩
    refine ⟨_, rfl, t, _, _, _, rfl, rfl, ht, atI_nat (j := 1) rfl, _, rfl, u, _, _, _, rfl, rfl, hu, atI_nat (j := 1) rfl, rfl, ?_⟩
    rw [decide_eq_true (show V.int i = V.int i from rfl)]
    exact fin
  · have ht : SqT K H1 t [.str "told", .non] := han'
    have hu : SqT K H1 u [.str "told", .non] := Same.sqt s1 han
    refine ⟨_, rfl, t, _, _, _, rfl, rfl, ht, atI_nat (j := 0) rfl, _, rfl, u, _, _, _, rfl, rfl, hu, atI_nat (j := 0) rfl, rfl, _, rfl, if_ndec (fun c2 => absurd rfl c2) (fun _ => ?_)⟩
    refine ⟨_, rfl, u, _, _, _, rfl, rfl, hu, atI_nat (j := 0) rfl, rfl, _, rfl, if_dec (fun c2 => absurd (V.str.inj c2) (by decide +kernel)) (fun _ => ?_)⟩
    refine ⟨_, rfl, u, _, _, _, rfl, rfl, hu, atI_nat (j := 1) rfl, rfl, _, rfl, iteT ?_⟩
    refine ⟨_, rfl, t, _, _, _, rfl, rfl, ht, atI_nat (j := 1) rfl, rfl, ?_⟩
    exact fin
  · obtain ⟨t2, p2, ht, ht2, hp2⟩ := (show ∃ t2 p2, SqT K H1 t [.str "told", .ref t2] ∧ SqT K H1 t2 [.int v.1, .ref p2] ∧ SqT K H1 p2 ((v.2.map (kdW rows)).map V.str) from han')
    obtain ⟨u2, q2, hu, hu2, hq2⟩ := (show ∃ t2 p2, SqT K H u [.str "told", .ref t2] ∧ SqT K H t2 [.int v.1, .ref p2] ∧ SqT K H p2 ((v.2.map (kdW rows)).map V.str) from han)
    have hu := Same.sqt s1 hu
    have hu2 := Same.sqt s1 hu2
    have hq2 := Same.sqt s1 hq2
    have okw : ∀ x ∈ v.2.map (kdW rows), PyData.strOk x = true := fun x hx => by
      obtain ⟨n, _, rfl⟩ := List.mem_map.mp hx
      exact sok_kdW sok n
    refine ⟨_, rfl, t, _, _, _, rfl, rfl, ht, atI_nat (j := 0) rfl, _, rfl, u, _, _, _, rfl, rfl, hu, atI_nat (j := 0) rfl, rfl, _, rfl, if_ndec (fun c2 => absurd rfl c2) (fun _ => ?_)⟩
    refine ⟨_, rfl, u, _, _, _, rfl, rfl, hu, atI_nat (j := 0) rfl, rfl, _, rfl, if_dec (fun c2 => absurd (V.str.inj c2) (by decide +kernel)) (fun _ => ?_)⟩
    refine ⟨_, rfl, u, _, _, _, rfl, rfl, hu, atI_nat (j := 1) rfl, rfl, _, rfl, iteF ?_⟩
    refine ⟨_, rfl, t, _, _, .ref t2, rfl, rfl, ht, atI_nat (j := 1) rfl, _, _, _, _, true, rfl, .ty _, tyx_tup ht2, kit_ty (by decide +kernel), _, rfl, iteF ?_⟩
    refine ⟨_, rfl, t, _, _, .ref t2, rfl, rfl, ht, atI_nat (j := 1) rfl, t2, _, rfl, .inr ht2, rfl, _, rfl, if_ndec (fun c2 => absurd rfl c2) (fun _ => ?_)⟩
    refine ⟨_, rfl, t, _, _, .ref t2, rfl, rfl, ht, atI_nat (j := 1) rfl, t2, _, _, .ref p2, rfl, rfl, ht2, atI_nat (j := 1) rfl, _, _, _, _, true, rfl, .ty _, tyx_tup hp2, kit_ty (by decide +kernel), _, rfl, iteF ?_⟩
    refine ⟨_, rfl, t, _, _, .ref t2, rfl, rfl, ht, atI_nat (j := 1) rfl, t2, _, _, _, rfl, rfl, ht2, atI_nat (j := 0) rfl, v.1, rfl, _, rfl, iteT ?_⟩
    refine ⟨_, rfl, t, _, _, .ref t2, rfl, rfl, ht, atI_nat (j := 1) rfl, _, rfl, u, _, _, .ref u2, rfl, rfl, hu, atI_nat (j := 1) rfl, anD v.1 (v.2.map (kdW rows)), anD v.1 (v.2.map (kdW rows)), (Im.tup ht2 (.cons (.int _) (.cons (.tup hp2 (im_strs _)) .nil))).dp, (Im.tup hu2 (.cons (.int _) (.cons (.tup hq2 (im_strs _)) .nil))).dp, lay_anD okw, lay_anD okw, ?_⟩
    rw [eqv_anD]
    exact fin
end
end Sy
/-! how Reader(..) binds -/
namespace Sy
open PySem PySem.Spec PyProof.Rows L2
abbrev rPs : List Str := ["self", "bed", "states", "rows", "marks", "otherwise"]
/-- Reader(b, n, rows, marks): otherwise lacks -/
theorem rd_binds0 {K : PySem.W.Frag} {f : Addr} {fd : FuncData} (F : FunD K "__init__" "Reader.__init__" (defArgs (clb 35 0)) (defBody (clb 35 0)) (defScope (clb 35 0)) [] [("otherwise", .int 0)] f fd) :
    ∃ mv : List Value, KBn K fd rPs 5 [] (fun us ws => us ++ (mv ++ ws)) (fun vs zs => vs ++ ([V.int 0] ++ zs)) := by
  refine F.kbinds0 5 [] [("otherwise", .int 0)] (fun us mv ws => us ++ (mv ++ ws)) (by simp) (fun q hq => hq) (fun a b c => a.append (b.append c)) ?_
  intro D doc pm an cdv ct us mv ws h1 h2 h3
  match us, h1, mv, h2, ws, h3 with
  | [a, b, c, d, e], _, [m], _, [], _ => exact ⟨_, _, _, _, _, _, rfl, rfl, rfl⟩
/-- Reader(b, n, rows, marks, otherwise=k) -/
theorem rd_binds1 {K : PySem.W.Frag} {f : Addr} {fd : FuncData} (F : FunD K "__init__" "Reader.__init__" (defArgs (clb 35 0)) (defBody (clb 35 0)) (defScope (clb 35 0)) [] [("otherwise", .int 0)] f fd) :
    ∃ mv : List Value, KBn K fd rPs 5 ["otherwise"] (fun us ws => us ++ (mv ++ ws)) (fun vs zs => vs ++ (([] : List V) ++ zs)) := by
  refine F.kbinds0 5 ["otherwise"] [] (fun us mv ws => us ++ (mv ++ ws)) (by simp) (fun q hq => nomatch hq) (fun a b c => a.append (b.append c)) ?_
  intro D doc pm an cdv ct us mv ws h1 h2 h3
  match us, h1, mv, h2, ws, h3 with
  | [a, b, c, d, e], _, [], _, [k], _ => exact rfl
end Sy
/-! _law_made_reader -/
namespace Sy
open PySem PySem.Spec PyProof.Rows L2
section
variable {P : Program} {w : World} {K : PySem.W.Frag} {mg : Str → Option Value} {base : Heap}
/-- a reader as the law holds it: [many, table, marks, rows, rest] at z -/
def LRd (P : Program) (w : World) (K : PySem.W.Frag) (H : Hp) (z : Addr) (d : Rdr) (full : List RRow) : Prop := ∃ (dT tm tr : Addr) (ob : HO) (ps : List Addr), H z = some (.lst [.int (d.many : Nat), .ref dT, .ref tm, .ref tr, .int (d.rest : Nat)]) ∧ H dT = some ob ∧ NOf P w K H dT ob (tabKV full) ∧
  H tm = some (.lst (vN d.marks)) ∧ H tr = some (.lst (ps.map V.ref)) ∧ Paired (RrAt K H) ps d.rws
def spMkR (P : Program) (w : World) (K : PySem.W.Frag) : Sp := fun vs H Q _ => ∃ (b z : Addr) (rows : List Sy.Row) (d : Rdr) (full : List RRow), vs = [.ref b, .ref z] ∧ BedAt K H b rows ∧ RowsOk rows ∧ RdOk rows d ∧ LRd P w K H z d full ∧ ∀ H' a, Same H H' → RdAt P w K H' a b rows d → Q (.ref a) H'
theorem sc_mkR : FnScope ["_law_bed", "_law_reader_here"] ["_law_bed", "_law_reader_here"] (defScope (top 58)) := ⟨rfl, rfl, rfl, by decide +kernel, rfl, by decide +kernel, by decide +kernel⟩
theorem k_mkR (T : Txt K mg) (F : DF K mg "_law_made_reader" 58) (M : Mk K (He.ga K "Reader") (He.ma K (He.ga K "Reader") "__init__")) (at_ : mg "Reader" = some (.ref (He.ga K "Reader"))) {fd : FuncData} (FD : FunD K "__init__" "Reader.__init__" (defArgs (clb 35 0)) (defBody (clb 35 0)) (defScope (clb 35 0)) [] [("otherwise", .int 0)] (He.ma K (He.ga K "Reader") "__init__") fd)
    (FI : FnOk P w K mg base (L2.CX P w) (4 + 1) (He.ma K (He.ga K "Reader") "__init__") fd rPs (spInitR P w K)) : Cal P w K mg base 7 "_law_made_reader" ["_law_bed", "_law_reader_here"] (spMkR P w K) := by
  refine cal_of F.1 F.2 sc_mkR (fun _ _ _ _ _ _ us e => match us, e with | [_, _], _ => rfl) (fun vs H Q E s => by obtain ⟨_, _, _, _, _, rfl, _⟩ := s; rfl) ?_
  intro cdv A outer s H vs Q E hr h
  obtain ⟨b, z, rows, d, full, rfl, hb, ok, dok, ⟨dT, tm, tr, ob, ps, hz, hdT, hN, hm, htr, hps⟩, hq⟩ := h
  obtain ⟨mv0, KB0⟩ := rd_binds0 FD
  obtain ⟨mv1, KB1⟩ := rd_binds1 FD
  have sc := sc_mkR
  refine ⟨_, (pss_cons (ps_if (pt_cmpR op_eq (pe_ix ix_list (pv 1) pe_int (fun _ _ => rfl)) pe_int (nomark _))
        (pss_one (ps_ret (pe_makeK (E := E0) M FI (hr.mono (by decide)) rfl at_ KB0 (fun pins σ H s e s' I h => passL pins σ H s e s' I h) (pa_cons (pv 0) (pa_cons (pe_ix ix_list (pv 1) pe_int (fun _ _ => rfl)) (pa_cons (pe_callTy call_tuple_of (by rfl) T.tuple (by decide +kernel) (pa_cons (pe_ix ix_list (pv 1) pe_int (fun _ _ => rfl)) pa_nil)) (pa_cons (pe_callTy call_tuple_of (by rfl) T.tuple (by decide +kernel) (pa_cons (pe_ix ix_list (pv 1) pe_int (fun _ _ => rfl)) pa_nil)) pa_nil)))) pk_nil)))
        pss_nil)
      (pss_one (ps_ret (pe_makeK (E := E0) M FI (hr.mono (by decide)) rfl at_ KB1 (fun pins σ H s e s' I h => passL pins σ H s e s' I h) (pa_cons (pv 0) (pa_cons (pe_ix ix_list (pv 1) pe_int (fun _ _ => rfl)) (pa_cons (pe_callTy call_tuple_of (by rfl) T.tuple (by decide +kernel) (pa_cons (pe_ix ix_list (pv 1) pe_int (fun _ _ => rfl)) pa_nil)) (pa_cons (pe_callTy call_tuple_of (by rfl) T.tuple (by decide +kernel) (pa_cons (pe_ix ix_list (pv 1) pe_int (fun _ _ => rfl)) pa_nil)) pa_nil)))) (pk_cons (pe_ix ix_list (pv 1) pe_int (fun _ _ => rfl)) pk_nil))))), ?_⟩
  have core : ∀ (v : V) (r1 r2 : Addr), v = .int (d.rest : Nat) → H r1 = none → (upd H r1 (.tup (ps.map V.ref))) r2 = none → ∀ x dx, (upd (upd H r1 (.tup (ps.map V.ref))) r2 (.tup (vN d.marks))) x = none → (upd (upd H r1 (.tup (ps.map V.ref))) r2 (.tup (vN d.marks))) dx = none → dx ≠ x →
      spInitR P w K [.ref x, .ref b, .int (d.many : Nat), .ref r1, .ref r2, v] (upd (upd (upd (upd H r1 (.tup (ps.map V.ref))) r2 (.tup (vN d.marks))) dx (.own x)) x (.ins (He.ga K "Reader") dx [])) (fun v H2 => v = .non ∧ Q (.ref x) H2) E0 := by
    intro v r1 r2 ev h1 h2 x dx hx hdx ne
    subst ev
    have s1 := up_same (o := .tup (ps.map V.ref)) h1
    have s2 := up_same (o := .tup (vN d.marks)) h2
    have s3 := up_same (o := .own x) hdx
    have hx3 : (upd (upd (upd H r1 (.tup (ps.map V.ref))) r2 (.tup (vN d.marks))) dx (.own x)) x = none := by rw [upd_ne ne.symm]; exact hx
    have s4 := up_same (o := .ins (He.ga K "Reader") dx []) hx3
    have s14 := ((s1.trans s2).trans s3).trans s4
    refine ⟨x, b, r1, r2, dx, rows, ps, d, rfl, upd_same, hb.mono (Stay.of s14), ok, SqT.of (((s2.trans s3).trans s4) _ _ upd_same), Paired.mapP hps fun _ _ y => y.mono (Stay.of s14), SqT.of ((s3.trans s4) _ _ upd_same), dok, fun H' keep rd => ⟨rfl, hq H' x (fun a o e => keep a o (fun y => ?_) (s14 _ _ e)) rd⟩⟩
    have := (s1.trans s2) _ _ e
    rw [y, hx] at this
    cases this
  have hzz : ∀ {H' : Hp}, Same H H' → SqL K H' z [.int (d.many : Nat), .ref dT, .ref tm, .ref tr, .int (d.rest : Nat)] := fun s => SqL.of (s _ _ hz)
  refine ⟨_, rfl, z, _, _, _, rfl, rfl, hzz (Same.refl H), atI_nat (j := 4) rfl, rfl, _, rfl, if_dec (fun c => ?_) (fun c => ?_)⟩
  · refine ⟨_, rfl, _, rfl, z, _, _, _, rfl, rfl, hzz (Same.refl H), atI_nat (j := 0) rfl, _, rfl, z, _, _, .ref tr, rfl, rfl, hzz (Same.refl H), atI_nat (j := 3) rfl, tr, _, rfl, .inl ⟨SqL.of htr, fun r1 h1 => ?_⟩⟩
    have s1 := up_same (o := .tup (ps.map V.ref)) h1
    refine ⟨_, rfl, z, _, _, .ref tm, rfl, rfl, hzz s1, atI_nat (j := 2) rfl, tm, _, rfl, .inl ⟨SqL.of (s1 _ _ hm), fun r2 h2 => ?_⟩⟩
    exact ⟨rfl, rfl, core (.int 0) r1 r2 c.symm h1 h2⟩
  · refine ⟨_, rfl, _, rfl, z, _, _, _, rfl, rfl, hzz (Same.refl H), atI_nat (j := 0) rfl, _, rfl, z, _, _, .ref tr, rfl, rfl, hzz (Same.refl H), atI_nat (j := 3) rfl, tr, _, rfl, .inl ⟨SqL.of htr, fun r1 h1 => ?_⟩⟩
    have s1 := up_same (o := .tup (ps.map V.ref)) h1
    refine ⟨_, rfl, z, _, _, .ref tm, rfl, rfl, hzz s1, atI_nat (j := 2) rfl, tm, _, rfl, .inl ⟨SqL.of (s1 _ _ hm), fun r2 h2 => ?_⟩⟩
    have s2 := up_same (o := .tup (vN d.marks)) h2
    exact ⟨_, rfl, z, _, _, _, rfl, rfl, hzz (s1.trans s2), atI_nat (j := 4) rfl, rfl, rfl, core _ r1 r2 rfl h1 h2⟩
end
end Sy
/-! list(reversed(a list)) (own rule) -/
namespace Sy
open PySem PySem.Spec PyProof.Rows L2 RT
section
variable {prog : Program} {w : World} {A : Around} {E : Value → Shared → Prop} {s : Shared}
theorem extend_rev {R : Result → Shared → Prop} (hh : A.handled = none) {it l : Addr} {items : Array Value} (S : Addr) (res : Value) (c₀ : Nat) (hS : s.heap.get? S = some { cls := .type "list", data := .seq #[] c₀ })
    (hit : s.heap.IsRevIter it l ((items.size : Int) - 1)) (hl : s.heap.IsList l items) (hne : l ≠ it) (hSi : S ≠ it) (hSl : S ≠ l)
    (hR : ∀ h' tk acc' c', (∀ b o, b ≠ S → b ≠ it → s.heap.get? b = some o → h'.get? b = some o) → h'.get? S = some { cls := .type "list", dict := none, data := .seq acc' c', slots := #[] } →
      ItemsOf (fun i v => items[items.size - 1 - i]? = some v) acc' items.size → R (.ok (.ret res)) { s with heap := h', toks := tk }) (hn : items.size ≤ sizeLine) :
    wpAny (model prog w) A.in1 (Builtin.List.listExtendWith (.ref S) (.ref it) res)
      (fun fin s' => match fin with | .done f => R (.ok f) s' | .again c' => c'.quiet = true ∧ codeAny (model prog w) A c' R s') (fun e s' => R (.error e) s') s := by
  have W := (Walks.listRev (prog := prog) (w := w) (A := A.in1) hh it l hne items).toS
  have hSf : S ∉ [it, l] := by simp only [List.mem_cons, List.not_mem_nil, or_false, not_or]; exact ⟨hSi, hSl⟩
  have hT : s.TypeIs (.ref it) "list_reverseiterator" := Heap.IsRevIter.typeIs (s := s) hit
  have h1 : Builtin.List.listSameRef (.ref S) (.ref it) = false := by simp [Builtin.List.listSameRef, hSi]
  unfold Builtin.List.listExtendWith
  refine wpAny_bind (wpAny_typeOf hT ?_)
  rw [if_neg (by rw [h1]; decide)]
  refine wpAny_bind (wpAny_pyIter_revIter hit ?_)
  refine wpAny_bind (wpAny_holding ?_)
  unfold Builtin.List.listLengthHint
  refine wpAny_bind (wpAny_specialOf hT nolen_lri ?_)
  show wpAny _ A.in1 (specialOf (Value.ref it) (Str.ofString "__length_hint__") >>= _) _ _ _
  refine wpAny_bind (wpAny_specialOf hT hint_lri ?_)
  generalize hid : ("list_reverseiterator.__length_hint__" : String) = id0
  wp_delta
  rw [show splitId id0 = some ("list_reverseiterator", "__length_hint__") from by subst hid; decide +kernel]
  subst hid
  refine wpAny_bind (wpAny_isInstance (b := true) hT (by rw [isSubtype_type]; kernel_rfl) ?_)
  refine wpAny_pure ?_
  rw [if_neg (by decide)]
  have e0 : ((items.size : Nat) : Int) - 1 - ((0 : Nat) : Int) = (items.size : Int) - 1 := by omega
  refine wpAny_pure ⟨plainId_quiet F.plain_extend_loop _, codeAny_extend_loopS W hn _ hSf _ items.size 0 _ _ _ rfl (Nat.zero_le _) ⟨Nat.zero_le _, by rw [e0]; exact hit, hl⟩ hS (ItemsOf.nil _) fun s' acc' c' hm hS' hacc => ?_⟩
  rw [Moved.eq_with hm]
  refine hR s'.heap s'.toks acc' c' (fun b o hb hb2 e => hm.heap b o (fun hmem => ?_) e) hS' hacc
  rcases List.mem_cons.mp hmem with e' | hmem
  · exact hb e'
  · exact hb2 (List.mem_singleton.mp hmem)
theorem call_list_rev {it l : Addr} {items : Array Value} {Q : Value → Shared → Prop} (hh : A.handled = none) (hit : s.heap.IsRevIter it l ((items.size : Int) - 1)) (hl : s.heap.IsList l items) (hne : l ≠ it) (hn : items.size ≤ sizeLine)
    (hQ : ∀ h' tk acc' c', (∀ b o, b ≠ it → s.heap.get? b = some o → h'.get? b = some o) →
      h'.get? s.heap.objs.size = some { cls := .type "list", dict := none, data := .seq acc' c', slots := #[] } → ItemsOf (fun i v => items[items.size - 1 - i]? = some v) acc' items.size → Q (.ref s.heap.objs.size) { s with heap := h', toks := tk }) :
    wpAny (model prog w) A (call (.type "list") [.ref it]) Q E s := by
  refine callType_codes (Q₁ := fun obj s₁ => obj = .ref s.heap.objs.size ∧ s₁ = { s with heap := s.heap.push { cls := .type "list", data := .seq #[] } }) PySem.F.called_list (PySem.F.typeCall_list_1 _) PySem.F.entry_list_init
    (code_list_new _ ⟨rfl, rfl⟩) fun obj s₁ h₁ => ?_
  obtain ⟨rfl, rfl⟩ := h₁
  have hS : (s.heap.push { cls := .type "list", data := .seq #[] }).get? s.heap.objs.size = some { cls := .type "list", data := .seq #[] } := Heap.get?_push_size _ rfl
  obtain ⟨oi, hoi, _⟩ := id hit
  obtain ⟨ol, hol, _⟩ := id hl
  have hSi : s.heap.objs.size ≠ it := Nat.ne_of_gt (Heap.lt_size hoi)
  have hSl : s.heap.objs.size ≠ l := Nat.ne_of_gt (Heap.lt_size hol)
  refine ⟨⟨_, hS, rfl⟩, PySem.F.args_list_init_2 _ _, ?_⟩
  generalize hH : s.heap.push { cls := .type "list", data := .seq #[] } = h0 at *
  have hit0 : h0.IsRevIter it l ((items.size : Int) - 1) := hit.at fun o e => by rw [← hH]; exact Heap.get?_push_of_some _ e
  have hl0 : h0.IsList l items := by rw [← hH]; exact hl.push _
  show wpAny _ _ (do let old ← Builtin.List.listItems (.ref s.heap.objs.size); Builtin.List.listUpdate (.ref s.heap.objs.size) (fun _ => #[]); letGo old.toList.reverse; Builtin.List.listExtendWith (.ref s.heap.objs.size) (.ref it) .none) _ _ _
  refine wpAny_bind ?_
  unfold Builtin.List.listItems
  refine wpAny_bind (wpAny_seqItems hS rfl (wpAny_pure ?_))
  show wpAny _ _ (updateSeq s.heap.objs.size (fun _ => #[]) >>= fun _ => letGo (#[] : Array Value).toList.reverse >>= fun _ => Builtin.List.listExtendWith (.ref s.heap.objs.size) (.ref it) .none) _ _ _
  refine wpAny_bind (wpAny_updateSeq hS rfl ?_)
  have hS₂ := Heap.get?_update_self (Obj.mapSeq (fun _ => (#[] : Array Value))) hS rfl
  have oth : ∀ b o, b ≠ s.heap.objs.size → h0.get? b = some o → (h0.update s.heap.objs.size (Obj.mapSeq (fun _ => (#[] : Array Value)))).get? b = some o :=
    fun b o hb e => (Heap.get?_update_other _ _ (Ne.symm hb)).trans e
  refine wpAny_bind (wpAny_letGo ?_)
  refine extend_rev (A := A.in1) hh s.heap.objs.size .none _ hS₂ (hit0.at fun o e => oth _ o hSi.symm e) ?_ hne hSi hSl (fun h' tk acc' c' hk hS' hacc => ?_) hn
  · exact hl0.extBut (fun b o hb e => oth b o hb e) hSl.symm
  · exact ⟨rfl, hQ h' tk acc' c' (fun b o hb e => hk b o (Nat.ne_of_lt (Heap.lt_size e)) hb (oth b o (Nat.ne_of_lt (Heap.lt_size e)) (by rw [← hH]; exact Heap.get?_push_of_some _ e))) hS' hacc⟩
end
def tLstRev (K : PySem.W.Frag) (te : TE) : TE := fun σ H Q => te σ H fun v H1 => ∃ (a : Addr) (xs : List V), v = .ref a ∧ SqL K H1 a xs ∧ ∀ q, H1 q = none → Q (.ref q) (upd H1 q (.lst xs.reverse))
theorem pe_lstRev {X : Cx} {e : Expr} {te : TE} {p p2 pos pos2 : Pos} (hc : X.calm = true) (hg : Gl X "list") (hm : X.mg "list" = none) (hg2 : Gl X "reversed") (hm2 : X.mg "reversed" = none) (he : PE X e te)
    (hs : starEach [e] X.env = (false, eval e X.env) :: starEach [] X.env := by rfl)
    (hs2 : starEach [.Call (.Name "reversed" p2) [e] [] pos2] X.env = (false, eval (.Call (.Name "reversed" p2) [e] [] pos2) X.env) :: starEach [] X.env := by rfl) :
    PE X (.Call (.Name "list" p) [.Call (.Name "reversed" p2) [e] [] pos2] [] pos) (tLstRev X.K te) := by
  refine ⟨fun pins s σ H Q I h => ?_⟩
  refine Call_ (ld_blt I hg hm boot_list (PyProof.Rows.callWith_type1 (args_cons (Call_ (ld_blt I hg2 hm2 PyProof.Rows.boot_reversed (PyProof.Rows.callWith_type1 (args_cons (thn (he.run pins s σ H _ I h) fun u s1 ⟨v, H1, I1, r1, q1⟩ => args_nil ?_) hs) hs rfl))) hs2) hs2 rfl))
  obtain ⟨a, xs, ev, hq, q⟩ := q1
  subst ev
  obtain rfl : u = Value.ref a := r1
  obtain ⟨its, rv, p', hz⟩ := I1.list hq
  refine call_reversed_list p'.isList (args_nil ?_)
  have k0 : ∀ b o, s1.heap.get? b = some o → (s1.heap.push (revObj a ((its.toArray.size : Int) - 1))).get? b = some o := fun b o e => Heap.get?_push_of_some _ e
  have I2 : Inv X pins σ H1 { s1 with heap := s1.heap.push (revObj a ((its.toArray.size : Int) - 1)) } := I1.kept (t' := s1.toks) k0
  obtain ⟨f0, f1, f2, f3, f4, f5⟩ := I1.fpOk (H' := H1) (b := s1.heap.objs.size) (Nat.le_refl _) (I1.hok.fresh (Nat.le_refl _))
  have hl := p'.isList
  obtain ⟨ol, hol, _⟩ := id hl
  have hne : a ≠ s1.heap.objs.size := Nat.ne_of_lt (Heap.lt_size hol)
  have hn : its.toArray.size ≤ sizeLine := by rw [List.size_toArray, ← rv.length]; exact hz
  refine call_list_rev (s := { s1 with heap := s1.heap.push (revObj a ((its.toArray.size : Int) - 1)) }) (I1.ok.hd hc) ⟨_, Heap.get?_push_size _ rfl, rfl, rfl⟩ (hl.push _) hne hn fun h' tk acc c' hk hS hi => ?_
  have ez : (s1.heap.push (revObj a ((its.toArray.size : Int) - 1))).objs.size = s1.heap.objs.size + 1 := Heap.size_push ..
  have new : ObjOk X.prog X.w (upd H1 (s1.heap.push (revObj a ((its.toArray.size : Int) - 1))).objs.size (.lst xs.reverse)) h' (s1.heap.push (revObj a ((its.toArray.size : Int) - 1))).objs.size (.lst xs.reverse) := by
    refine ⟨by rw [List.length_reverse]; exact hz, acc.toList, c', vals_rev rv hi, ?_⟩
    rw [Array.toArray_toList]
    exact hS
  have I3 := I2.turnedNew (t' := tk) (ch := [s1.heap.objs.size]) (T := (s1.heap.push (revObj a ((its.toArray.size : Int) - 1))).objs.size) (fun b o hb e => hk b o (fun z => hb (by simp [z])) e) (fun b hb => by
    rw [List.mem_singleton.mp hb]
    exact ⟨f0, f1, f2, f3, f4, f5⟩) (Nat.le_refl _) new
  exact ⟨.ref _, _, I3, rfl, q _ (I2.hok.fresh (Nat.le_refl _))⟩
end Sy
/-! plain: the law's full table -/
namespace Sy
open PySem PySem.Spec PyProof.Rows L2
def kys (many : Nat) (rows : List Sy.Row) : List (Str × List Nat) := rows.flatMap fun r => (tupF many r.2).map fun l => (r.1, l)
theorem tupF_nd (many : Nat) : ∀ k, (tupF many k).Nodup
  | 0 => by unfold tupF; simp
  | k + 1 => by
    unfold tupF List.Nodup
    rw [List.pairwise_flatMap]
    refine ⟨fun r _ => ?_, List.Pairwise.imp (fun {a b} h x hx y hy e => ?_) (tupF_nd many k)⟩
    · unfold wid
      rw [List.pairwise_map]
      exact List.Pairwise.imp (fun {a b} h e => h (by simpa using e)) List.nodup_range
    · obtain ⟨s, _, rfl⟩ := List.mem_map.mp hx
      obtain ⟨t, _, rfl⟩ := List.mem_map.mp hy
      have h3 := (List.append_inj' e rfl).1
      exact h h3
theorem kys_nd {many : Nat} {rows : List Sy.Row} (nd : (rows.map (·.1)).Nodup) : (kys many rows).Nodup := by
  unfold kys List.Nodup
  rw [List.pairwise_flatMap]
  refine ⟨fun r _ => ?_, ?_⟩
  · rw [List.pairwise_map]
    exact List.Pairwise.imp (fun {a b} h e => h (by injection e)) (tupF_nd many r.2)
  · unfold List.Nodup at nd
    rw [List.pairwise_map] at nd
    refine List.Pairwise.imp (fun {a b} h x hx y hy e => ?_) nd
    obtain ⟨s, _, rfl⟩ := List.mem_map.mp hx
    obtain ⟨t, _, rfl⟩ := List.mem_map.mp hy
    injection e with e1 e2
    exact h e1
theorem kys_mem {many : Nat} {rows : List Sy.Row} (ok : RowsOk rows) {x : Str} {l : List Nat} : (x, l) ∈ kys many rows ↔ isK rows x = true ∧ l.length = ar rows x ∧ ∀ n ∈ l, n < many := by
  unfold kys
  rw [List.mem_flatMap]
  constructor
  · rintro ⟨r, hr, hm⟩
    obtain ⟨l', hl, e⟩ := List.mem_map.mp hm
    injection e with e1 e2
    subst e1 e2
    obtain ⟨h1, h2⟩ := tupF_mem.mp hl
    obtain ⟨a1, a2⟩ := ar_mem ok.nd hr
    exact ⟨a2, by rw [a1]; exact h1, h2⟩
  · rintro ⟨h1, h2, h3⟩
    unfold isK at h1
    obtain ⟨m, e⟩ := Option.isSome_iff_exists.mp h1
    have hm := lookup_at e
    obtain ⟨a1, a2⟩ := ar_mem ok.nd hm
    exact ⟨_, hm, List.mem_map.mpr ⟨l, tupF_mem.mpr ⟨by rw [h2]; exact a1, h3⟩, rfl⟩⟩
theorem kys_len {many : Nat} (hm : many ≤ 3) : ∀ {rows : List Sy.Row}, (∀ r ∈ rows, r.2 ≤ 3) → (kys many rows).length ≤ 27 * rows.length
  | [], _ => Nat.zero_le _
  | r :: rows, h => by
    have ih := kys_len hm (rows := rows) fun r hr => h r (List.mem_cons_of_mem _ hr)
    unfold kys at ih ⊢
    rw [List.flatMap_cons, List.length_append, List.length_map, tupF_len, List.length_cons]
    have := pow_le27 hm (h r List.mem_cons_self)
    omega
theorem kys_next {many i j : Nat} {rows : List Sy.Row} {r : Sy.Row} {l : List Nat} (nd : (rows.map (·.1)).Nodup) (hr : rows[i]? = some r) (hl : (tupF many r.2)[j]? = some l) : (r.1, l) ∉ kys many (rows.take i) ++ ((tupF many r.2).take j).map (fun l => (r.1, l)) := fun hm => by
  have h := kys_nd (many := many) nd
  rw [show rows = rows.take i ++ (r :: rows.drop (i + 1)) by rw [← drop_of hr, List.take_append_drop]] at h
  unfold kys at h hm
  rw [List.flatMap_append, List.flatMap_cons] at h
  rw [show (tupF many r.2).map (fun l => (r.1, l)) = ((tupF many r.2).take j).map (fun l => (r.1, l)) ++ (r.1, l) :: ((tupF many r.2).drop (j + 1)).map (fun l => (r.1, l)) by rw [← List.map_cons (f := fun l => (r.1, l)), ← drop_of hl, ← List.map_append, List.take_append_drop]] at h
  rw [List.append_assoc, ← List.append_assoc] at h
  rw [List.nodup_append] at h
  exact h.2.2 _ hm _ List.mem_cons_self rfl
theorem map_nd_inj {α β : Type} {f : α → β} : ∀ {l : List α}, (l.map f).Nodup → ∀ {a b : α}, a ∈ l → b ∈ l → f a = f b → a = b
  | [], _, _, _, h, _, _ => nomatch h
  | x :: l, nd, a, b, ha, hb, e => by
    rw [List.map_cons, List.nodup_cons] at nd
    rcases List.mem_cons.mp ha with ea | ha2
    · rcases List.mem_cons.mp hb with eb | hb2
      · rw [ea, eb]
      · exact absurd (by rw [← ea, e]; exact List.mem_map_of_mem hb2) nd.1
    · rcases List.mem_cons.mp hb with eb | hb2
      · exact absurd (by rw [← eb, ← e]; exact List.mem_map_of_mem ha2) nd.1
      · exact map_nd_inj nd.2 ha2 hb2 e
theorem find_uq {α : Type} {p : α → Bool} {l : List α} {z : α} (hz : z ∈ l) (pz : p z = true) (u : ∀ y ∈ l, p y = true → y = z) : l.find? p = some z := by
  cases e : l.find? p with
  | none => exact absurd pz (List.find?_eq_none.mp e z hz)
  | some y => rw [u y (List.mem_of_find?_eq_some e) (List.find?_some e)]
def kyO (r : RRow) : Str × List Nat := (r.1, r.2.1)
structure FulOk (many rest : Nat) (ks : List (Str × List Nat)) (full rws : List RRow) : Prop where
  ke : full.map kyO = ks
  sb : rws.Sublist full
  df : ∀ z ∈ full, z ∉ rws → z.2.2 = rest
  lt : ∀ z ∈ full, z.2.2 < many
theorem FulOk.nil {many rest : Nat} : FulOk many rest [] [] [] := ⟨rfl, List.Sublist.refl _, fun _ h => (nomatch h), fun _ h => (nomatch h)⟩
theorem FulOk.both {many rest : Nat} {ks : List (Str × List Nat)} {full rws : List RRow} (h : FulOk many rest ks full rws) {z : RRow} (hz : z.2.2 < many) : FulOk many rest (ks ++ [kyO z]) (full ++ [z]) (rws ++ [z]) where
  ke := by rw [List.map_append, h.ke]; rfl
  sb := h.sb.append (List.Sublist.refl _)
  df := fun y hy hn => by
    rcases List.mem_append.mp hy with hy | hy
    · exact h.df y hy fun q => hn (List.mem_append_left _ q)
    · exact absurd (List.mem_append_right _ hy) hn
  lt := fun y hy => by
    rcases List.mem_append.mp hy with hy | hy
    · exact h.lt y hy
    · rw [List.mem_singleton.mp hy]; exact hz
theorem FulOk.one {many rest : Nat} {ks : List (Str × List Nat)} {full rws : List RRow} (h : FulOk many rest ks full rws) {z : RRow} (hz : z.2.2 < many) (e : z.2.2 = rest) : FulOk many rest (ks ++ [kyO z]) (full ++ [z]) rws where
  ke := by rw [List.map_append, h.ke]; rfl
  sb := h.sb.trans (List.sublist_append_left _ _)
  df := fun y hy hn => by
    rcases List.mem_append.mp hy with hy | hy
    · exact h.df y hy hn
    · rw [List.mem_singleton.mp hy]; exact e
  lt := fun y hy => by
    rcases List.mem_append.mp hy with hy | hy
    · exact h.lt y hy
    · rw [List.mem_singleton.mp hy]; exact hz
theorem rkey_iff {r s : RRow} : rkey r = rkey s ↔ kyO r = kyO s := by
  obtain ⟨x, l, i⟩ := r
  obtain ⟨y, m, j⟩ := s
  constructor
  · intro h
    obtain ⟨a, b⟩ := rkey_inj h
    unfold kyO
    rw [a, b]
  · intro h
    unfold kyO at h
    injection h with a b
    have a : x = y := a
    have b : l = m := b
    unfold rkey
    rw [a, b]
theorem FulOk.fresh {many rest : Nat} {ks : List (Str × List Nat)} {full rws : List RRow} (h : FulOk many rest ks full rws) {z : RRow} (hz : kyO z ∉ ks) : rkey z ∉ full.map rkey := fun hm => by
  obtain ⟨y, hy, e⟩ := List.mem_map.mp hm
  exact hz (by rw [← h.ke, ← rkey_iff.mp e]; exact List.mem_map_of_mem hy)
theorem FulOk.nd {many rest : Nat} {ks : List (Str × List Nat)} {full rws : List RRow} (h : FulOk many rest ks full rws) (nd : ks.Nodup) : (full.map rkey).Nodup := by
  rw [← h.ke] at nd
  unfold List.Nodup at nd ⊢
  rw [List.pairwise_map] at nd ⊢
  exact List.Pairwise.imp (fun {a b} q e => q (rkey_iff.mp e)) nd
/-- the full table says what the reader does -/
def FullOk (rows : List Sy.Row) (d : Rdr) (full : List RRow) : Prop := ∀ x l, isK rows x = true → l.length = ar rows x → (∀ n ∈ l, n < d.many) → valV (tabKV full) (rkey (x, l, 0)) = some (.int ((stepF d x l : Nat) : Int)) ∧ stepF d x l < d.many
theorem FulOk.full {many rest : Nat} {rows : List Sy.Row} {full rws rw2 : List RRow} {marks : List Nat} (ok : RowsOk rows) (h : FulOk many rest (kys many rows) full rws) (e2 : ∀ z, z ∈ rw2 ↔ z ∈ rws) : FullOk rows ⟨many, rw2, marks, rest⟩ full := by
  intro x l h1 h2 h3
  have nd := h.nd (kys_nd ok.nd)
  have hk := (kys_mem ok).mpr ⟨h1, h2, h3⟩
  rw [← h.ke] at hk
  obtain ⟨z, hz, ez⟩ := List.mem_map.mp hk
  have kz : rkey z = rkey (x, l, 0) := rkey_iff.mpr ez
  have uq : ∀ y ∈ full, decide (rkey y = rkey (x, l, 0)) = true → y = z := fun y hy e => map_nd_inj nd hy hz ((of_decide_eq_true e).trans kz.symm)
  have f1 := find_uq (p := fun r => decide (rkey r = rkey (x, l, 0))) hz (decide_eq_true kz) uq
  have e3 : stepF ⟨many, rw2, marks, rest⟩ x l = z.2.2 := by
    unfold stepF
    show ((rw2.find? fun r => decide (rkey r = rkey (x, l, 0))).map (·.2.2)).getD rest = _
    by_cases c : z ∈ rws
    · rw [find_uq (p := fun r => decide (rkey r = rkey (x, l, 0))) ((e2 z).mpr c) (decide_eq_true kz) fun y hy e => uq y (h.sb.subset ((e2 y).mp hy)) e]
      rfl
    · rw [List.find?_eq_none.mpr fun y hy e => c (by
        have hy := (e2 y).mp hy
        rw [← uq y (h.sb.subset hy) e]; exact hy)]
      exact (h.df z hz c).symm
  rw [e3]
  refine ⟨?_, h.lt z hz⟩
  rw [valV_tab, f1]
  rfl
theorem FulOk.rws {many rest : Nat} {rows : List Sy.Row} {full rws : List RRow} (ok : RowsOk rows) (h : FulOk many rest (kys many rows) full rws) (hl : rows.length ≤ 8) (hm : many ≤ 3) : RwsOk rows many rws where
  kd := fun r hr => by
    have hf := h.sb.subset hr
    have hk : kyO r ∈ kys many rows := by rw [← h.ke]; exact List.mem_map_of_mem hf
    obtain ⟨a, b, c⟩ := (kys_mem ok).mp hk
    exact ⟨a, b, c, h.lt r hf⟩
  nd := (h.nd (kys_nd ok.nd)).sublist (h.sb.map _)
  le := by
    have h1 := h.sb.length_le
    have h2 := congrArg List.length h.ke
    rw [List.length_map] at h2
    have h3 := kys_len hm (rows := rows) fun r hr => ok.br r hr
    omega
theorem RwsOk.rev {rows : List Sy.Row} {many : Nat} {rws : List RRow} (h : RwsOk rows many rws) : RwsOk rows many rws.reverse :=
  ⟨fun r hr => h.kd r (List.mem_reverse.mp hr), by rw [List.map_reverse]; exact (List.reverse_perm _).nodup_iff.mpr h.nd, by rw [List.length_reverse]; exact h.le⟩
theorem paired_rev {α β : Type} {R : α → β → Prop} {xs : List α} {ys : List β} (h : Paired R xs ys) : Paired R xs.reverse ys.reverse := by
  induction h with
  | nil => exact .nil
  | cons a b ih =>
    rw [List.reverse_cons, List.reverse_cons]
    exact Paired.snoc ih a
theorem NOf.nil {P : Program} {w : World} {K : PySem.W.Frag} {H H' : Hp} {a : Addr} {ob : HO} (h : NOf P w K H a ob []) : NOf P w K H' a ob [] := by
  obtain ⟨xs, h1, h2, h3, h4⟩ := h.ex
  cases h4
  exact ⟨[], h1, h2, h3, .nil⟩
end Sy
/-! _law_reader -/
namespace Sy
open PySem PySem.Spec PyProof.Rows L2
theorem nt3 {a b c : Addr} {ob : HO} {xs ys : List V} (he : ∃ φ, ob = .ext φ) : ∀ q ∈ ([(a, .lst xs), (b, ob), (c, .lst ys)] : List (Addr × HO)), (∀ xs, q.2 ≠ .tup xs) ∧ ∀ o u, q.2 ≠ .frz o u := fun q hq => by
  obtain ⟨φ, rfl⟩ := he
  rcases List.mem_cons.mp hq with rfl | hq
  · exact ⟨fun _ z => (nomatch z), fun _ _ z => (nomatch z)⟩
  rcases List.mem_cons.mp hq with rfl | hq
  · exact ⟨fun _ z => (nomatch z), fun _ _ z => (nomatch z)⟩
  · rw [List.mem_singleton.mp hq]
    exact ⟨fun _ z => (nomatch z), fun _ _ z => (nomatch z)⟩
section
variable {P : Program} {w : World} {K : PySem.W.Frag} {mg : Str → Option Value} {base : Heap}
def spRdr (P : Program) (w : World) (K : PySem.W.Frag) : Sp := fun vs H Q _ => ∃ (g q : Addr) (rows : List Sy.Row), vs = [.ref g, .ref q, .int 3] ∧ Bag g H ∧ q ≠ g ∧ RL K H q rows ∧ RowsL rows 4 ∧
  ∀ z d full H', RdOk rows d → d.many ≤ 3 → FullOk rows d full → Dr g H H' → LRd P w K H' z d full → Q (.ref z) H'
abbrev N_rdr : List Str := ["_law_box_here", "_law_kinds_here", "_law_most", "_law_many", "_law_rest", "_law_way", "_law_table", "_law_rows", "_law_pair", "_law_below", "_law_state", "_law_choice", "_law_marks", "_law_bit"]
theorem sc_rdr : FnScope N_rdr ["_law_box_here", "_law_kinds_here", "_law_most"] (defScope (top 57)) := ⟨rfl, rfl, rfl, by decide +kernel, rfl, by decide +kernel, by decide +kernel⟩
theorem k_rdr (T : Txt K mg) (F : DF K mg "_law_reader" 57) (c_law_pick : Cal P w K mg base 1 "_law_pick" ["_law_box_here", "_law_many"] spDraw) (c_law_tuples : Cal P w K mg base 1 "_law_tuples" ["_law_many", "_law_length"] (spTup K)) :
    Cal P w K mg base 2 "_law_reader" ["_law_box_here", "_law_kinds_here", "_law_most"] (spRdr P w K) := by
  refine cal_of F.1 F.2 sc_rdr (fun _ _ _ _ _ _ us e => match us, e with | [_, _, _], _ => rfl) (fun vs H Q E s => by obtain ⟨_, _, _, rfl, _⟩ := s; rfl) ?_
  intro cdv A outer s H vs Q E hr h
  obtain ⟨g, q, rows, rfl, hg, hqg, hRL, rl, hq⟩ := h
  have sc := sc_rdr
  have hu := hu4_of hr
  obtain ⟨l0, hl0, h0⟩ := hg.take
  obtain ⟨pr, rfl, hL0, hP0⟩ : RL K (L2.del H g) q rows := by
    obtain ⟨l, _, e⟩ := hg
    exact hRL.del hqg e
  generalize hB0 : L2.del H g = B0 at *
  have ok := rl.ok
  have hle := rl.le
  refine ⟨_, (pss_cons (ps_set (i := 3) sc.nd rfl (Or.inl rfl) (pe_op op_add pe_int (pe_cal c_law_pick hr (pa_cons (pv 0) (pa_cons (pv 2) pa_nil)))))
      (pss_cons (ps_set (i := 4) sc.nd rfl (Or.inl rfl) (pe_cal c_law_pick hr (pa_cons (pv 0) (pa_cons (pv 3) pa_nil))))
      (pss_cons (ps_set (i := 5) sc.nd rfl (Or.inl rfl) (pe_cal c_law_pick hr (pa_cons (pv 0) (pa_cons pe_int pa_nil))))
      (pss_cons (ps_set (i := 6) sc.nd rfl (Or.inl rfl) pe_nnew)
      (pss_cons (ps_set (i := 7) sc.nd rfl (Or.inl rfl) (pe_lst pa_nil))
      (pss_cons (ps_for (passes_of rfl) rfl (pi_list (pv 1)) (pg_name (i := 8) sc.nd rfl (Or.inl rfl))
        (pss_one (ps_for (passes_of rfl) rfl (pi_list (pe_cal c_law_tuples hr (pa_cons (pv 3) (pa_cons (pe_ix ix_tup (pv 8) pe_int (fun _ _ => rfl)) pa_nil)))) (pg_name (i := 9) sc.nd rfl (Or.inl rfl))
          (pss_cons (ps_set (i := 10) sc.nd rfl (Or.inl rfl) (pe_cal c_law_pick hr (pa_cons (pv 0) (pa_cons (pv 3) pa_nil))))
          (pss_cons (ps_cut (ps_if (PW.pt (pw_and (pt_cmpR op_eq (pv 5) pe_int (nomark _)) (pw_and1 (pt_cmpR op_in_seq pe_int (pv 9) rfl))))
            (pss_one (ps_set (i := 10) sc.nd rfl (Or.inl rfl) pe_int))
            pss_nil))
          (pss_cons (ps_nput hu (pv 6) (pe_tup (pa_cons (pe_ix ix_tup (pv 8) pe_int (fun _ _ => rfl)) (pa_cons (pv 9) pa_nil))) (pv 10) rfl)
          (pss_one (ps_if (PW.pt (pw_or (pt_cmpR op_ne (pv 10) (pv 4) (nomark _)) (pw_or1 (pt_cmpR op_eq (pv 5) pe_int (nomark _)))))
            (pss_one (ps_expr (pe_bm PySem.F.plainAttrs_list PySem.F.slot_list_append PySem.F.type_list_append mt_append (pv 7) (pa_cons (pe_tup (pa_cons (pe_ix ix_tup (pv 8) pe_int (fun _ _ => rfl)) (pa_cons (pv 9) (pa_cons (pv 10) pa_nil)))) pa_nil))))
            pss_nil))))))))
      (pss_cons (ps_set (i := 11) sc.nd rfl (Or.inl rfl) (pe_cal c_law_pick hr (pa_cons (pv 0) (pa_cons pe_int pa_nil))))
      (pss_cons (ps_set (i := 12) sc.nd rfl (Or.inl rfl) (pe_lst pa_nil))
      (pss_cons (ps_for (passes_of rfl) rfl (pi_range1 rfl T.range (pa_cons (pv 3) pa_nil)) (pg_name (i := 10) sc.nd rfl (Or.inl rfl))
        (pss_cons (ps_set (i := 13) sc.nd rfl (Or.inl rfl) (pe_cal c_law_pick hr (pa_cons (pv 0) (pa_cons pe_int pa_nil))))
        (pss_one (ps_if (PW.pt (pw_or (pt_cmpR op_eq (pv 11) pe_int (nomark _)) (pw_or1 (PW.pt (pw_and (pt_cmpR op_gt (pv 11) pe_int (nomark _)) (pw_and1 (pt_cmpR op_eq (pv 13) pe_int (nomark _))))))))
          (pss_one (ps_expr (pe_bm PySem.F.plainAttrs_list PySem.F.slot_list_append PySem.F.type_list_append mt_append (pv 12) (pa_cons (pv 10) pa_nil))))
          pss_nil))))
      (pss_cons (ps_cut (ps_if (PW.pt (pw_and (pt_cmpR op_eq (pe_callB call_len_seq (by rfl) T.len (by decide +kernel) (pa_cons (pv 12) pa_nil)) pe_int (nomark _)) (pw_and1 (pt_cmpR op_gt (pv 11) pe_int (nomark _)))))
        (pss_one (ps_expr (pe_bm PySem.F.plainAttrs_list PySem.F.slot_list_append PySem.F.type_list_append mt_append (pv 12) (pa_cons (pe_cal c_law_pick hr (pa_cons (pv 0) (pa_cons (pv 3) pa_nil))) pa_nil))))
        pss_nil))
      (pss_cons (ps_cut (ps_if (pt_cmpR op_eq (pv 5) pe_int (nomark _))
        (pss_one (ps_set (i := 7) sc.nd rfl (Or.inl rfl) (pe_lstRev rfl rfl T.list rfl T.reversed (pv 7))))
        pss_nil))
      (pss_one (ps_ret (pe_lst (pa_cons (pv 3) (pa_cons (pv 6) (pa_cons (pv 12) (pa_cons (pv 7) (pa_cons (pv 4) pa_nil))))))))))))))))))), ?_⟩
  refine ⟨_, rfl, _, rfl, g, 3, rfl, hg, by decide, by decide, fun r1 H1 hr1 d1 => ⟨_, _, rfl, rfl, ?_⟩⟩
  dsimp only
  rw [show (1 : Int) + ((r1 : Nat) : Int) = ((1 + r1 : Nat) : Int) from by omega]
  obtain ⟨many, em⟩ : ∃ m, m = 1 + r1 := ⟨_, rfl⟩
  rw [← em]
  obtain ⟨l1, B1, hl1, s1, h1, _⟩ := h0.dr0 d1
  refine ⟨_, rfl, _, rfl, g, many, rfl, h1.bag hl1, by omega, by omega, fun rest H2 hrest d2 => ?_⟩
  obtain ⟨l2, B2, hl2, s2, h2, _⟩ := h1.dr0 d2
  refine ⟨_, rfl, g, 4, rfl, h2.bag hl2, by decide, by decide, fun way H3 hway d3 => ?_⟩
  obtain ⟨l3, B3, hl3, s3, h3, _⟩ := h2.dr0 d3
  refine fun dT ob0 hdT hN0 => ?_
  have h4 := (h3.new (o := ob0) hdT).swap
  refine ⟨by decide, fun dR hdR => ?_⟩
  have h5 := (h4.new (o := .lst []) hdR).rot
  have sB3 := (s1.trans s2).trans s3
  have hm3 : many ≤ 3 := by omega
  simp only [List.set_cons_succ, List.set_cons_zero]
  refine ⟨_, rfl, q, rfl, ⟨_, SqL.of (h5.sub _ _ (sB3 _ _ hL0))⟩, for_list (K := K) (xs := pr.map fun z => V.ref z.1)
    (fun i σ H' => ∃ (t8 t9 t10 : Option V) (B : Hp) (lb : List Int) (ob : HO) (full rws : List RRow) (ps : List Addr), σ = [some (.ref g), some (.ref q), some (.int 3), some (.int (many : Nat)), some (.int (rest : Nat)), some (.int (way : Nat)), some (.ref dT), some (.ref dR), t8, t9, t10, none, none, none] ∧ BagOk lb ∧ Same B0 B ∧
      Hs B [(g, .lst (lb.map V.int)), (dT, ob), (dR, .lst (ps.map V.ref))] H' ∧ NOf P w K B dT ob (tabKV full) ∧ Paired (RrAt K B) ps rws ∧ FulOk many rest (kys many ((pr.map (·.2)).take i)) full rws)
    ⟨none, none, none, B3, l3, ob0, [], [], [], rfl, hl3, sB3, h5, hN0.nil, .nil, FulOk.nil⟩ (fun _ _ _ _ ⟨_, _, _, _, _, _, _, _, _, _, _, s, z, _⟩ => SqL.of (z.sub _ _ (s _ _ hL0))) ?_ ?_⟩
  · rintro i v σ H4 hv ⟨t8, t9, t10, B, lb, ob, full, rws, ps, rfl, hlb, sB, hh, hN, hR, hF⟩
    obtain ⟨z, ez, rfl⟩ := map_at hv
    have hz := List.mem_of_getElem? ez
    have hz2 : (pr.map (·.2))[i]? = some z.2 := by rw [List.getElem?_map, ez]; rfl
    have tz0 := hP0.at_ z hz
    have hk3 : z.2.2 ≤ 3 := ok.br _ (List.mem_map_of_mem hz)
    refine ⟨_, rfl, _, rfl, z.1, _, _, _, rfl, rfl, Same.sqt (sB.trans hh.sub) tz0, atI_nat (j := 1) rfl, many, z.2.2, rfl, hm3, hk3, fun H5 tq qs htq s5 hL5 hP5 => ?_⟩
    obtain ⟨c1, c2⟩ := hh.after s5
    have nt := nt3 (a := g) (b := dT) (c := dR) (xs := lb.map V.int) (ys := ps.map V.ref) hN.ext
    have hP5 := Paired.mapP hP5 fun _ _ y => sqt_cut c2.own nt y
    have hL5' : cut [(g, .lst (lb.map V.int)), (dT, ob), (dR, .lst (ps.map V.ref))] H5 tq = some (.lst (qs.map V.ref)) := by rw [cut_at (hh.out_new htq)]; exact hL5
    generalize hB5 : cut [(g, HO.lst (lb.map V.int)), (dT, ob), (dR, .lst (ps.map V.ref))] H5 = B5 at *
    have hqs := paired_len hP5
    have s05 := sB.trans c1
    refine ⟨tq, rfl, ⟨_, SqL.of (c2.sub _ _ hL5')⟩, for_list (K := K) (xs := qs.map V.ref)
      (fun j σ H' => ∃ (t9 t10 : Option V) (B : Hp) (lb : List Int) (ob : HO) (full rws : List RRow) (ps : List Addr), σ = [some (.ref g), some (.ref q), some (.int 3), some (.int (many : Nat)), some (.int (rest : Nat)), some (.int (way : Nat)), some (.ref dT), some (.ref dR), some (.ref z.1), t9, t10, none, none, none] ∧ BagOk lb ∧ Same B5 B ∧
        Hs B [(g, .lst (lb.map V.int)), (dT, ob), (dR, .lst (ps.map V.ref))] H' ∧ NOf P w K B dT ob (tabKV full) ∧ Paired (RrAt K B) ps rws ∧ FulOk many rest (kys many ((pr.map (·.2)).take i) ++ ((tupF many z.2.2).take j).map fun l => (z.2.1, l)) full rws)
      ⟨t9, t10, B5, lb, ob, full, rws, ps, rfl, hlb, Same.refl _, c2, hN.mono (Stay.of c1), Paired.mapP hR fun _ _ y => y.mono (Stay.of c1), by show FulOk _ _ (_ ++ []) _ _; rw [List.append_nil]; exact hF⟩ (fun _ _ _ _ ⟨_, _, _, _, _, _, _, _, _, _, s, z, _⟩ => SqL.of (z.sub _ _ (s _ _ hL5'))) ?_ ?_⟩
    · clear hh hN hR hF c2 nt hB5 hlb
      clear lb ob full rws ps
      rintro j v σ H6 hv ⟨t9, t10, B, lb, ob, full, rws, ps, rfl, hlb, sB, hh, hN, hR, hF⟩
      obtain ⟨a, ea, rfl⟩ := map_at hv
      have hj : j < (tupF many z.2.2).length := by rw [← hqs]; exact (List.getElem?_eq_some_iff.mp ea).1
      obtain ⟨l, el⟩ : ∃ l, (tupF many z.2.2)[j]? = some l := ⟨_, List.getElem?_eq_getElem hj⟩
      obtain ⟨a', ea', ta0⟩ := paired_at hP5 el
      rw [ea] at ea'
      cases ea'
      have ta0 : SqT K B5 a (vN l) := ta0
      refine ⟨_, rfl, _, rfl, g, many, rfl, hh.bag hlb, by omega, by omega, fun st H7 hst d7 => ?_⟩
      obtain ⟨l7, B7, hl7, s7, h7, _⟩ := hh.dr0 d7
      have sB7 := sB.trans s7
      have ta := Same.sqt (sB7.trans h7.sub) ta0
      have tz := Same.sqt ((s05.trans sB7).trans h7.sub) tz0
      simp only [List.set_cons_succ, List.set_cons_zero]
      refine ⟨fun σ' H' => ∃ st : Nat, st < many ∧ H' = H7 ∧ σ' = [some (.ref g), some (.ref q), some (.int 3), some (.int (many : Nat)), some (.int (rest : Nat)), some (.int (way : Nat)), some (.ref dT), some (.ref dR), some (.ref z.1), some (.ref a), some (.int (st : Nat)), none, none, none], ⟨_, rfl, rfl, _, rfl, if_dec (fun c => ?_) (fun c => ?_)⟩, ?_⟩
      · refine ⟨_, rfl, a, _, rfl, .inr ta, rfl, all_nats _, _, rfl, if_bool (fun c2 => ?_) (fun c2 => ?_)⟩
        · exact ⟨0, by omega, rfl, rfl⟩
        · exact ⟨st, hst, rfl, rfl⟩
      · exact ⟨st, hst, rfl, rfl⟩
      clear hst st
      rintro σ' _ ⟨st, hst, rfl, rfl⟩
      have hnk := kys_next ok.nd hz2 el
      have hfr := hF.fresh (z := (z.2.1, l, st)) hnk
      have hfl : (tabKV full).length < sizeLine := by
        unfold tabKV
        rw [List.length_map, sizeLine_eq]
        have h1 := congrArg List.length hF.ke
        rw [List.length_map, List.length_append, List.length_map, List.length_take, tupF_len] at h1
        have h2 := kys_len hm3 (rows := (pr.map (·.2)).take i) fun r hr => ok.br r (List.mem_of_mem_take hr)
        rw [List.length_take] at h2
        have h3 := pow_le27 hm3 hk3
        omega
      have hps : ps.length < sizeLine := by
        have h1 := paired_len hR
        have h2 := hF.sb.length_le
        unfold tabKV at hfl
        rw [List.length_map] at hfl
        omega
      refine ⟨_, rfl, _, rfl, _, rfl, z.1, _, _, _, rfl, rfl, tz, atI_nat (j := 0) rfl, _, rfl, (by show 2 ≤ sizeLine; decide), fun T5 hT5 => ?_⟩
      have h8 := h7.tup (o := .tup [.str z.2.1, .ref a]) hT5
      have s8 : Same B7 (upd B7 T5 (.tup [.str z.2.1, .ref a])) := up_same (h7.sub.free hT5)
      have tT5 : SqT K (upd B7 T5 (.tup [.str z.2.1, .ref a])) T5 [.str z.2.1, .ref a] := SqT.of upd_same
      generalize upd B7 T5 (.tup [.str z.2.1, .ref a]) = B8 at *
      have s08 := sB7.trans s8
      refine ⟨dT, T5, ob, _, rkey (z.2.1, l, st), B8, rfl, rfl, h8.r1, Stay.of h8.sub, hN.mono (Stay.of (s7.trans s8)), NK.of tT5 (Same.sqt s08 ta0), hfl, fun ob' hN' => ?_⟩
      have hN' : NOf P w K B8 dT ob' (putK (tabKV full) (rkey (z.2.1, l, st)) (V.int (((z.2.1, l, st) : RRow).2.2 : Nat))) := hN'
      rw [putK_tab hfr] at hN'
      have h9 := h8.w1 (o' := ob')
      have ta9 := Same.sqt (s08.trans h9.sub) ta0
      have tz9 := Same.sqt ((s05.trans s08).trans h9.sub) tz0
      have ek : kys many ((pr.map (·.2)).take i) ++ ((tupF many z.2.2).take (j + 1)).map (fun l => (z.2.1, l)) = (kys many ((pr.map (·.2)).take i) ++ ((tupF many z.2.2).take j).map fun l => (z.2.1, l)) ++ [kyO (z.2.1, l, st)] := by
        rw [List.take_succ, el, List.map_append, List.append_assoc]
        rfl
      have add : ∀ H', (∀ T8, upd (upd H' T8 (.tup [.str z.2.1, .ref a, .int (st : Nat)])) dR (.lst (ps.map V.ref ++ [.ref T8])) = upd (upd H' T8 (.tup [.str z.2.1, .ref a, .int (st : Nat)])) dR (.lst ((ps ++ [T8]).map V.ref))) := fun H' T8 => by rw [List.map_append]; rfl
      refine ⟨_, rfl, _, rfl, rfl, _, rfl, if_ndec (fun c => ?_) (fun c => ?_)⟩
      · refine ⟨_, rfl, .inl ⟨rfl, _, SqL.of h9.r2⟩, _, rfl, z.1, _, _, _, rfl, rfl, tz9, atI_nat (j := 0) rfl, _, rfl, _, rfl, (by show 3 ≤ sizeLine; decide), fun T8 hT8 => ?_⟩
        have h10 := h9.tup (o := .tup [.str z.2.1, .ref a, .int (st : Nat)]) hT8
        have s10 : Same B8 (upd B8 T8 (.tup [.str z.2.1, .ref a, .int (st : Nat)])) := up_same (h9.sub.free hT8)
        refine ⟨dR, _, _, rfl, rfl, h10.r2, by rw [List.length_map]; omega, _, _, _, l7, ob', full ++ [(z.2.1, l, st)], rws ++ [(z.2.1, l, st)], ps ++ [T8], rfl, hl7, s08.trans s10, ?_, hN'.mono (Stay.of s10), ?_, by rw [ek]; exact hF.both hst⟩
        · rw [add]; exact h10.w2
        · exact Paired.snoc (Paired.mapP hR fun _ _ y => y.mono (Stay.of ((s7.trans s8).trans s10))) ⟨a, SqT.of upd_same, Same.sqt (s08.trans s10) ta0⟩
      · refine ⟨_, rfl, rfl, _, rfl, if_dec (fun c2 => ?_) (fun c2 => ?_)⟩
        · refine ⟨_, rfl, .inl ⟨rfl, _, SqL.of h9.r2⟩, _, rfl, z.1, _, _, _, rfl, rfl, tz9, atI_nat (j := 0) rfl, _, rfl, _, rfl, (by show 3 ≤ sizeLine; decide), fun T8 hT8 => ?_⟩
          have h10 := h9.tup (o := .tup [.str z.2.1, .ref a, .int (st : Nat)]) hT8
          have s10 : Same B8 (upd B8 T8 (.tup [.str z.2.1, .ref a, .int (st : Nat)])) := up_same (h9.sub.free hT8)
          refine ⟨dR, _, _, rfl, rfl, h10.r2, by rw [List.length_map]; omega, _, _, _, l7, ob', full ++ [(z.2.1, l, st)], rws ++ [(z.2.1, l, st)], ps ++ [T8], rfl, hl7, s08.trans s10, ?_, hN'.mono (Stay.of s10), ?_, by rw [ek]; exact hF.both hst⟩
          · rw [add]; exact h10.w2
          · exact Paired.snoc (Paired.mapP hR fun _ _ y => y.mono (Stay.of ((s7.trans s8).trans s10))) ⟨a, SqT.of upd_same, Same.sqt (s08.trans s10) ta0⟩
        · have c : st = rest := by have := V.int.inj c; omega
          exact ⟨_, _, _, l7, ob', full ++ [(z.2.1, l, st)], rws, ps, rfl, hl7, s08, h9, hN', Paired.mapP hR fun _ _ y => y.mono (Stay.of (s7.trans s8)), by rw [ek]; exact hF.one hst c⟩
    · clear hh hN hR hF c2 nt hB5 hlb
      clear lb ob full rws ps
      rintro σ H6 ⟨t9, t10, B, lb, ob, full, rws, ps, rfl, hlb, sB, hh, hN, hR, hF⟩
      rw [List.length_map, hqs, List.take_length] at hF
      refine ⟨_, _, _, B, lb, ob, full, rws, ps, rfl, hlb, s05.trans sB, hh, hN, hR, ?_⟩
      rw [List.take_succ, hz2]
      unfold kys
      rw [List.flatMap_append]
      show FulOk _ _ (_ ++ [z.2].flatMap _) _ _
      rw [List.flatMap_cons, List.flatMap_nil, List.append_nil]
      exact hF
  · rintro σ H4 ⟨t8, t9, t10, B, lb, ob, full, rws, ps, rfl, hlb, sB, hh, hN, hR, hF⟩
    rw [List.length_map, show pr.length = (pr.map (·.2)).length from (List.length_map ..).symm, List.take_length] at hF
    obtain ⟨g1, h5⟩ := hh.rot.give
    obtain ⟨g2, h6⟩ := h5.give
    have eT : upd (upd B dT ob) dR (.lst (ps.map V.ref)) dT = some ob := g2 _ _ upd_same
    have eR : upd (upd B dT ob) dR (.lst (ps.map V.ref)) dR = some (.lst (ps.map V.ref)) := upd_same
    have s02 := (sB.trans g1).trans g2
    replace hN := hN.mono (Stay.of (g1.trans g2))
    replace hR := Paired.mapP hR fun _ _ y => y.mono (Stay.of (g1.trans g2))
    generalize upd (upd B dT ob) dR (.lst (ps.map V.ref)) = B6 at *
    refine ⟨_, rfl, g, 8, rfl, h6.bag hlb, by decide, by decide, fun ch H7 hch d7 => ?_⟩
    obtain ⟨l7, B7, hl7, s7, h7, _⟩ := h6.dr0 d7
    refine ⟨by decide, fun dM hdM => ?_⟩
    have h8 := (h7.new (o := .lst []) hdM).swap
    simp only [List.set_cons_succ, List.set_cons_zero]
    refine ⟨_, rfl, _, rfl, by omega, by omega, for_rng (n := many) (fun i σ H' => ∃ (t10 t13 : Option V) (B : Hp) (lb : List Int) (mks : List Nat), σ = [some (.ref g), some (.ref q), some (.int 3), some (.int (many : Nat)), some (.int (rest : Nat)), some (.int (way : Nat)), some (.ref dT), some (.ref dR), t8, t9, t10, some (.int (ch : Nat)), some (.ref dM), t13] ∧ BagOk lb ∧ Same B7 B ∧
      Hs B [(g, .lst (lb.map V.int)), (dM, .lst (vN mks))] H' ∧ mks.Pairwise (· < ·) ∧ (∀ m ∈ mks, m < i) ∧ mks.length ≤ i)
      ⟨_, none, B7, l7, [], rfl, hl7, Same.refl _, h8, .nil, fun _ z => (nomatch z), Nat.le_refl _⟩ ?_ ?_⟩
    · rintro i σ H8 hi ⟨t10, t13, B, lb, mks, rfl, hlb, sB, hh, hp, hlt, hml⟩
      refine ⟨_, rfl, g, 2, rfl, hh.bag hlb, by decide, by decide, fun bit H9 hbit d9 => ?_⟩
      obtain ⟨l9, B9, hl9, s9, h9, _⟩ := hh.dr0 d9
      have app : ∀ (t13 : Option V), ∃ (t10 t13' : Option V) (B : Hp) (lb : List Int) (mk : List Nat), [some (.ref g), some (.ref q), some (.int 3), some (.int (many : Nat)), some (.int (rest : Nat)), some (.int (way : Nat)), some (.ref dT), some (.ref dR), t8, t9, some (.int (i : Nat)), some (.int (ch : Nat)), some (.ref dM), t13] = [some (.ref g), some (.ref q), some (.int 3), some (.int (many : Nat)), some (.int (rest : Nat)), some (.int (way : Nat)), some (.ref dT), some (.ref dR), t8, t9, t10, some (.int (ch : Nat)), some (.ref dM), t13'] ∧ BagOk lb ∧ Same B7 B ∧
          Hs B [(g, .lst (lb.map V.int)), (dM, .lst (vN mk))] (upd H9 dM (.lst (vN mks ++ [.int (i : Nat)]))) ∧ mk.Pairwise (· < ·) ∧ (∀ m ∈ mk, m < i + 1) ∧ mk.length ≤ i + 1 := fun t13 => by
        refine ⟨_, _, B9, l9, mks ++ [i], rfl, hl9, sB.trans s9, ?_, ?_, fun m hm => ?_, by rw [List.length_append]; show _ + 1 ≤ _; omega⟩
        · rw [show vN (mks ++ [i]) = vN mks ++ [.int (i : Nat)] from List.map_append ..]
          exact h9.w1
        · rw [List.pairwise_append]
          exact ⟨hp, List.pairwise_singleton _ _, fun a ha b hb => by rw [List.mem_singleton.mp hb]; exact hlt a ha⟩
        · rcases List.mem_append.mp hm with hm | hm
          · have := hlt m hm
            omega
          · rw [List.mem_singleton.mp hm]; omega
      have hmz : (vN mks).length < sizeLine := by rw [vN, List.length_map, sizeLine_eq]; omega
      refine ⟨_, rfl, rfl, _, rfl, if_dec (fun c => ?_) (fun c => ⟨_, rfl, _, _, rfl, rfl, _, rfl, if_dec (fun c2 => ⟨_, rfl, rfl, _, rfl, if_dec (fun c3 => ?_) (fun c3 => ?_)⟩) (fun c2 => ?_)⟩)⟩
      · exact ⟨_, rfl, .inl ⟨rfl, _, SqL.of h9.r1⟩, _, rfl, dM, _, _, rfl, rfl, h9.r1, hmz, app _⟩
      · exact ⟨_, rfl, .inl ⟨rfl, _, SqL.of h9.r1⟩, _, rfl, dM, _, _, rfl, rfl, h9.r1, hmz, app _⟩
      · exact ⟨_, _, B9, l9, mks, rfl, hl9, sB.trans s9, h9, hp, fun m hm => by have := hlt m hm; omega, by omega⟩
      · exact ⟨_, _, B9, l9, mks, rfl, hl9, sB.trans s9, h9, hp, fun m hm => by have := hlt m hm; omega, by omega⟩
    · clear hh h8 h7 hl7 h6 h5
      rintro σ H8 ⟨t10', t13, B, lb, mks, rfl, hlb, sB, hh, hp, hlt, hml⟩
      refine ⟨fun σ' H' => ∃ (B : Hp) (lb : List Int) (mks : List Nat), σ' = [some (.ref g), some (.ref q), some (.int 3), some (.int (many : Nat)), some (.int (rest : Nat)), some (.int (way : Nat)), some (.ref dT), some (.ref dR), t8, t9, t10', some (.int (ch : Nat)), some (.ref dM), t13] ∧ BagOk lb ∧ Same B7 B ∧
        Hs B [(g, .lst (lb.map V.int)), (dM, .lst (vN mks))] H' ∧ MrkOk many mks, ⟨_, rfl, dM, _, rfl, .inl (SqL.of hh.r1), rfl, _, rfl, if_dec (fun c => ⟨_, rfl, _, _, rfl, rfl, _, rfl, if_dec (fun c2 => ?_) (fun c2 => ?_)⟩) (fun c => ?_)⟩, ?_⟩
      · refine ⟨_, rfl, .inl ⟨rfl, _, SqL.of hh.r1⟩, _, rfl, _, rfl, g, many, rfl, hh.bag hlb, by omega, by omega, fun m H9 hm d9 => ?_⟩
        obtain ⟨l9, B9, hl9, s9, h9, _⟩ := hh.dr0 d9
        have e0 : mks = [] := by
          have c := V.int.inj c
          rw [vN, List.length_map] at c
          exact List.length_eq_zero_iff.mp (by omega)
        subst e0
        exact ⟨dM, _, _, rfl, rfl, h9.r1, (by show 0 < sizeLine; decide), B9, l9, [m], rfl, hl9, sB.trans s9, h9.w1, ⟨List.pairwise_singleton _ _, fun n hn => by rw [List.mem_singleton.mp hn]; exact hm⟩⟩
      · exact ⟨B, lb, mks, rfl, hlb, sB, hh, ⟨hp, hlt⟩⟩
      · exact ⟨B, lb, mks, rfl, hlb, sB, hh, ⟨hp, hlt⟩⟩
      clear hlb hh hp hlt hml sB
      clear B lb mks
      rintro σ' H8' ⟨B, lb, mks, rfl, hlb, sB, hh, mok⟩
      refine ⟨fun σ' H' => ∃ (B' : Hp) (tR : Addr) (rw2 : List RRow) (ps2 : List Addr), σ' = [some (.ref g), some (.ref q), some (.int 3), some (.int (many : Nat)), some (.int (rest : Nat)), some (.int (way : Nat)), some (.ref dT), some (.ref tR), t8, t9, t10', some (.int (ch : Nat)), some (.ref dM), t13] ∧ Same B B' ∧ Hs B' [(g, .lst (lb.map V.int)), (dM, .lst (vN mks))] H' ∧
        B' tR = some (.lst (ps2.map V.ref)) ∧ Paired (RrAt K B') ps2 rw2 ∧ (rw2 = rws ∨ rw2 = rws.reverse), ⟨_, rfl, rfl, _, rfl, if_dec (fun c => ?_) (fun c => ?_)⟩, ?_⟩
      · refine ⟨_, rfl, dR, _, rfl, SqL.of (((s7.trans sB).trans hh.sub) _ _ eR), fun y hy => ?_⟩
        have h9 := hh.tup (o := .lst (ps.map V.ref).reverse) hy
        have s9 : Same B (upd B y (.lst (ps.map V.ref).reverse)) := up_same (hh.sub.free hy)
        exact ⟨_, y, rws.reverse, ps.reverse, rfl, s9, h9, by rw [upd_same, List.map_reverse], Paired.mapP (paired_rev hR) fun _ _ u => u.mono (Stay.of ((s7.trans sB).trans s9)), .inr rfl⟩
      · exact ⟨B, dR, rws, ps, rfl, Same.refl _, hh, (s7.trans sB) _ _ eR, Paired.mapP hR fun _ _ u => u.mono (Stay.of (s7.trans sB)), .inl rfl⟩
      rintro σ' H9 ⟨B', tR, rw2, ps2, rfl, s9, h9, eR2, hR2, hor⟩
      refine ⟨_, rfl, _, rfl, _, rfl, _, rfl, _, rfl, (by show 5 ≤ sizeLine; decide), fun y hy => ?_⟩
      have rok := hF.rws ok (by omega) hm3
      have mm : ∀ z, z ∈ rw2 ↔ z ∈ rws := fun z => by
        rcases hor with e | e
        · rw [e]
        · rw [e]; exact List.mem_reverse
      have rok2 : RwsOk (pr.map (·.2)) many rw2 := by
        rcases hor with e | e
        · rw [e]; exact rok
        · rw [e]; exact rok.rev
      have su := up_same (o := .lst [.int (many : Nat), .ref dT, .ref dM, .ref tR, .int (rest : Nat)]) hy
      have sall := h9.sub.trans su
      have sT := ((s7.trans sB).trans s9).trans sall
      refine hq y ⟨many, rw2, mks, rest⟩ full _ ⟨rok2, mok, by show rest < many; omega, by show many ≤ 40; omega⟩ hm3 (hF.full ok mm) (Dr.same (h9.isDr hlb (by simp) (by rw [hB0]; exact (((s02.trans s7).trans sB).trans s9))) su) ?_
      exact ⟨dT, dM, tR, ob, ps2, upd_same, sT _ _ eT, hN.mono (Stay.of sT), su _ _ h9.r1, sall _ _ eR2, Paired.mapP hR2 fun _ _ u => u.mono (Stay.of sall)⟩
end
end Sy
/-! plain: what the law's knot offers -/
namespace Sy
open PySem PySem.Spec PyProof.Rows L2
theorem pick_of {Ts : List Tab} {ss : List Nat} (h : Paired (fun (T : Tab) s => ∃ v, T s = some v) Ts ss) : ∃ ps, PkOk Ts ps ∧ pkS ps = ss := by
  induction h with
  | nil => exact ⟨[], .nil, rfl⟩
  | @cons T s Ts ss h t ih =>
    obtain ⟨v, e⟩ := h
    obtain ⟨ps, a, b⟩ := ih
    exact ⟨(s, v) :: ps, .cons e a, by show s :: pkS ps = s :: ss; rw [b]⟩
theorem pick_uq : ∀ {Ts : List Tab} {ps ps' : Pick}, PkOk Ts ps → PkOk Ts ps' → pkS ps = pkS ps' → ps = ps'
  | _, [], [], _, _, _ => rfl
  | _, [], _ :: _, .nil, h, _ => nomatch h
  | _, _ :: _, [], h, .nil, _ => nomatch h
  | _, p :: ps, p' :: ps', .cons a b, .cons c d, e => by
    have e : p.1 :: pkS ps = p'.1 :: pkS ps' := e
    injection e with e1 e2
    rw [pick_uq b d e2]
    obtain ⟨s, v⟩ := p
    obtain ⟨s', v'⟩ := p'
    have e1 : s = s' := e1
    subst e1
    rw [a] at c
    cases c
    rfl
def keysP (pr : List Ent) : List Nat := pr.map (·.1)
theorem keysP_iff {pr : List Ent} (nd : (pr.map (·.1)).Nodup) {s : Nat} : s ∈ keysP pr ↔ ∃ v, lookP pr s = some v := by
  unfold keysP
  rw [List.mem_map]
  constructor
  · rintro ⟨z, hz, rfl⟩
    exact ⟨_, look_mem nd hz⟩
  · rintro ⟨v, e⟩
    obtain ⟨q, hm, _⟩ := look_some e
    exact ⟨_, hm, rfl⟩
theorem tabE_keys (pr : List Ent) : (tabE pr).map (fun kv => kV kv.1) = vN (keysP pr) := by
  unfold tabE keysP vN
  rw [List.map_map, List.map_map]
  rfl
theorem ways_iff {prs : List (List Ent)} (nd : ∀ pr ∈ prs, (pr.map (·.1)).Nodup) {ss : List Nat} : ss ∈ wayF (prs.map keysP) ↔ ∃ ps, PkOk (prs.map lookP) ps ∧ pkS ps = ss := by
  rw [wayF_mem]
  constructor
  · intro h
    refine pick_of ?_
    have : ∀ {prs : List (List Ent)} {ss : List Nat}, (∀ pr ∈ prs, (pr.map (·.1)).Nodup) → Paired (fun (l : List Nat) s => s ∈ l) (prs.map keysP) ss → Paired (fun (T : Tab) s => ∃ v, T s = some v) (prs.map lookP) ss := by
      intro prs
      induction prs with
      | nil => intro ss _ h; cases h; exact .nil
      | cons pr prs ih =>
        intro ss nd h
        cases h with
        | cons a b => exact .cons ((keysP_iff (nd pr List.mem_cons_self)).mp a) (ih (fun q hq => nd q (List.mem_cons_of_mem _ hq)) b)
    exact this nd h
  · rintro ⟨ps, h, rfl⟩
    have : ∀ {prs : List (List Ent)} {ps : Pick}, (∀ pr ∈ prs, (pr.map (·.1)).Nodup) → PkOk (prs.map lookP) ps → Paired (fun (l : List Nat) s => s ∈ l) (prs.map keysP) (pkS ps) := by
      intro prs
      induction prs with
      | nil => intro ps _ h; cases h; exact .nil
      | cons pr prs ih =>
        intro ps nd h
        cases h with
        | cons a b => exact .cons ((keysP_iff (nd pr List.mem_cons_self)).mpr ⟨_, a⟩) (ih (fun q hq => nd q (List.mem_cons_of_mem _ hq)) b)
    exact this nd h
/-- a table of the law at a -/
def LTabAt (K : PySem.W.Frag) (H : Hp) (rows : List Sy.Row) (many : Nat) (a : Addr) (T : Tab) : Prop := ∃ pr, H a = some (.dK (tabE pr)) ∧ LPr K H rows many pr ∧ T = lookP pr
theorem LTabAt.stay {K : PySem.W.Frag} {H H' : Hp} {rows : List Sy.Row} {many : Nat} {a : Addr} {T : Tab} (h : LTabAt K H rows many a T) (s : Stay H H') : LTabAt K H' rows many a T := by
  obtain ⟨pr, h1, h2, h3⟩ := h
  exact ⟨pr, s _ _ h1 (fun _ z => nomatch z), h2.mono s, h3⟩
theorem LTabAt.mono {K : PySem.W.Frag} {H H' : Hp} {rows : List Sy.Row} {many : Nat} {a : Addr} {T : Tab} (h : LTabAt K H rows many a T) (s : Same H H') : LTabAt K H' rows many a T := h.stay (Stay.of s)
theorem lt_prs {K : PySem.W.Frag} {H : Hp} {rows : List Sy.Row} {many : Nat} {bs : List Addr} {Ts : List Tab} (h : Paired (LTabAt K H rows many) bs Ts) : ∃ prs : List (List Ent), Ts = prs.map lookP ∧ Paired (fun a pr => H a = some (.dK (tabE pr)) ∧ LPr K H rows many pr) bs prs := by
  induction h with
  | nil => exact ⟨[], rfl, .nil⟩
  | cons h t ih =>
    obtain ⟨pr, a, b, c⟩ := h
    obtain ⟨prs, d, e⟩ := ih
    exact ⟨pr :: prs, by rw [c, d]; rfl, .cons ⟨a, b⟩ e⟩
def WyC (rows : List Sy.Row) (d : Rdr) (Ts : List Tab) (t : Str × Int) (L : List (List Nat)) : Nat → Val → Prop := fun s v => ∃ ps, PkOk Ts ps ∧ pkS ps ∈ L ∧ KnC rows d ps t s v
def StC (rows : List Sy.Row) (d : Rdr) (x : Str) (Ts : List Tab) (L : List Swp) : Nat → Val → Prop := fun s v => ∃ t ∈ L, t.1 = x ∧ ∃ ps, PkOk Ts ps ∧ KnC rows d ps t.2 s v
def LfC (rows : List Sy.Row) (d : Rdr) (c : Int) (L : List Sy.Row) : Nat → Val → Prop := fun s v => ∃ r ∈ L, r.2 = 0 ∧ s = stepF d r.1 [] ∧ v = (c, [rkD rows r.1])
theorem wyc_snoc {rows : List Sy.Row} {d : Rdr} {Ts : List Tab} {t : Str × Int} {L : List (List Nat)} {ps : Pick} (hp : PkOk Ts ps) (s : Nat) (v : Val) : WyC rows d Ts t (L ++ [pkS ps]) s v ↔ WyC rows d Ts t L s v ∨ KnC rows d ps t s v := by
  constructor
  · rintro ⟨qs, h1, h2, h3⟩
    rcases List.mem_append.mp h2 with h2 | h2
    · exact .inl ⟨qs, h1, h2, h3⟩
    · rw [pick_uq h1 hp (List.mem_singleton.mp h2)] at h3
      exact .inr h3
  · rintro (⟨qs, h1, h2, h3⟩ | h)
    · exact ⟨qs, h1, List.mem_append_left _ h2, h3⟩
    · exact ⟨ps, hp, List.mem_append_right _ (List.mem_singleton.mpr rfl), h⟩
theorem stc_snoc {rows : List Sy.Row} {d : Rdr} {x : Str} {Ts : List Tab} {L : List Swp} {t : Swp} (s : Nat) (v : Val) : StC rows d x Ts (L ++ [t]) s v ↔ StC rows d x Ts L s v ∨ (t.1 = x ∧ ∃ ps, PkOk Ts ps ∧ KnC rows d ps t.2 s v) := by
  constructor
  · rintro ⟨u, hu, h⟩
    rcases List.mem_append.mp hu with hu | hu
    · exact .inl ⟨u, hu, h⟩
    · rw [List.mem_singleton.mp hu] at h
      exact .inr h
  · rintro (⟨u, hu, h⟩ | h)
    · exact ⟨u, List.mem_append_left _ hu, h⟩
    · exact ⟨t, List.mem_append_right _ (List.mem_singleton.mpr rfl), h⟩
theorem lfc_snoc {rows : List Sy.Row} {d : Rdr} {c : Int} {L : List Sy.Row} {r : Sy.Row} (s : Nat) (v : Val) : LfC rows d c (L ++ [r]) s v ↔ LfC rows d c L s v ∨ (r.2 = 0 ∧ s = stepF d r.1 [] ∧ v = (c, [rkD rows r.1])) := by
  constructor
  · rintro ⟨u, hu, h⟩
    rcases List.mem_append.mp hu with hu | hu
    · exact .inl ⟨u, hu, h⟩
    · rw [List.mem_singleton.mp hu] at h
      exact .inr h
  · rintro (⟨u, hu, h⟩ | h)
    · exact ⟨u, List.mem_append_left _ hu, h⟩
    · exact ⟨r, List.mem_append_right _ (List.mem_singleton.mpr rfl), h⟩
theorem cand_law {rows : List Sy.Row} {sws : List Swp} {d : Rdr} {c : Int} {x : Str} {Ts : List Tab} (ok : RowsOk rows) (hx : isK rows x = true) (s : Nat) (v : Val) : (LfC rows d c rows s v ∨ StC rows d x Ts (stpF rows sws) s v) ↔ Cand rows sws d c x Ts s v := by
  rw [← cand_iff]
  have e1 : LfC rows d c rows s v ↔ CutC rows d c s v := by
    constructor
    · rintro ⟨r, hr, h1, h2, h3⟩
      obtain ⟨a1, a2⟩ := ar_mem ok.nd hr
      exact ⟨r.1, a2, by rw [a1, h1], h2, h3⟩
    · rintro ⟨k, h1, h2, h3, h4⟩
      unfold isK at h1
      obtain ⟨m, e⟩ := Option.isSome_iff_exists.mp h1
      have hm := lookup_at e
      obtain ⟨a1, _⟩ := ar_mem ok.nd hm
      exact ⟨_, hm, by rw [← a1]; exact h2, h3, h4⟩
  have e2 : StC rows d x Ts (stpF rows sws) s v ↔ ∃ ps t, PkOk Ts ps ∧ t ∈ turnsL x sws ∧ KnC rows d ps t s v := by
    constructor
    · rintro ⟨⟨a, y, n⟩, ht, e, ps, h1, h2⟩
      have e : a = x := e
      subst e
      exact ⟨ps, (y, n), h1, (stpF_mem ok.nd hx).mp ht, h2⟩
    · rintro ⟨ps, ⟨y, n⟩, h1, h2, h3⟩
      exact ⟨(x, y, n), (stpF_mem ok.nd hx).mpr h2, rfl, ps, h1, h3⟩
  rw [e1, e2]
end Sy
/-! _law_knot -/
namespace Sy
open PySem PySem.Spec PyProof.Rows L2
theorem nt1 {a : Addr} {kvs : List (Key × V)} : ∀ q ∈ ([(a, .dK kvs)] : List (Addr × HO)), (∀ xs, q.2 ≠ .tup xs) ∧ ∀ o u, q.2 ≠ .frz o u := fun q hq => by
  rw [List.mem_singleton.mp hq]
  exact ⟨fun _ z => (nomatch z), fun _ _ z => (nomatch z)⟩
section
variable {P : Program} {w : World} {K : PySem.W.Frag} {mg : Str → Option Value} {base : Heap}
theorem LRd.mono {H H' : Hp} {z : Addr} {d : Rdr} {full : List RRow} (h : LRd P w K H z d full) (s : Same H H') : LRd P w K H' z d full := by
  obtain ⟨dT, tm, tr, ob, ps, h1, h2, h3, h4, h5, h6⟩ := h
  exact ⟨dT, tm, tr, ob, ps, s _ _ h1, s _ _ h2, h3.mono (Stay.of s), s _ _ h4, s _ _ h5, Paired.mapP h6 fun _ _ y => y.mono (Stay.of s)⟩
def spLKn (P : Program) (w : World) (K : PySem.W.Frag) : Sp := fun vs H Q _ => ∃ (q rk z st bl : Addr) (c : Int) (x : Str) (rows : List Sy.Row) (sws : List Swp) (d : Rdr) (full : List RRow) (bs : List Addr) (Ts : List Tab), vs = [.ref q, .ref rk, .ref z, .int c, .ref st, .str x, .ref bl] ∧
  RL K H q rows ∧ RowsOk rows ∧ H rk = some (.dK (rkKV 0 rows)) ∧ LRd P w K H z d full ∧ FullOk rows d full ∧ d.many ≤ 3 ∧ SL K H st (stpF rows sws) ∧ SwsOk rows sws ∧ isK rows x = true ∧ H bl = some (.lst (bs.map V.ref)) ∧ Paired (LTabAt K H rows d.many) bs Ts ∧ Ts.length = ar rows x ∧
  (∀ T ∈ Ts, ∀ s v, T s = some v → v.2.length ≤ 2000) ∧ ∀ H' a T, Same H H' → LTabAt K H' rows d.many a T → IsB T (Cand rows sws d c x Ts) → Q (.ref a) H'
abbrev N_lkn : List Str := ["_law_kinds_here", "_law_rank_here", "_law_reader_here", "_law_cutting", "_law_steps_here", "_law_entry", "_law_below", "_law_best", "_law_pair", "_law_step", "_law_part", "_law_states", "_law_number_here", "_law_plant_here", "_law_branch"]
theorem sc_lkn : FnScope N_lkn ["_law_kinds_here", "_law_rank_here", "_law_reader_here", "_law_cutting", "_law_steps_here", "_law_entry", "_law_below"] (defScope (top 72)) := ⟨rfl, rfl, rfl, by decide +kernel, rfl, by decide +kernel, by decide +kernel⟩
theorem k_lkn (T : Txt K mg) (F : DF K mg "_law_knot" 72) (c_law_offer : Cal P w K mg base 2 "_law_offer" ["_law_rank_here", "_law_best", "_law_state", "_law_number_here", "_law_plant_here"] (spOff K)) (c_law_ways : Cal P w K mg base 1 "_law_ways" ["_law_lists"] (spWay K)) :
    Cal P w K mg base 3 "_law_knot" ["_law_kinds_here", "_law_rank_here", "_law_reader_here", "_law_cutting", "_law_steps_here", "_law_entry", "_law_below"] (spLKn P w K) := by
  refine cal_of F.1 F.2 sc_lkn (fun _ _ _ _ _ _ us e => match us, e with | [_, _, _, _, _, _, _], _ => rfl) (fun vs H Q E s => by obtain ⟨_, _, _, _, _, _, _, _, _, _, _, _, _, rfl, _⟩ := s; rfl) ?_
  intro cdv A outer s H vs Q E hr h
  obtain ⟨q, rk, z, st, bl, c, x, rows, sws, d, full, bs, Ts, rfl, ⟨pr, rfl, hL, hP⟩, ok, hrk, hz0, hfull, hm3, ⟨p2, hp2, hst, hat2⟩, so, kx, hbl, hbs, hTl, hbound, hq⟩ := h
  have sc := sc_lkn
  have hu := hu_of hr
  have hu4 := hu4_of hr
  obtain ⟨prs, eTs, hbp⟩ := lt_prs hbs
  have hz0' := hz0
  obtain ⟨dT, tm, tr, ob, _, hz, hdT, hN, _, _, _⟩ := hz0'
  have har := ok.ar_le x
  have hbl' := paired_len hbp
  have ndp : ∀ pr ∈ prs, (pr.map (·.1)).Nodup := fun y hy => by
    obtain ⟨i, hi⟩ := List.getElem?_of_mem hy
    obtain ⟨_, _, h2⟩ := paired_at hbp hi
    exact h2.2.nd
  have hprsl : prs.length = Ts.length := by rw [eTs, List.length_map]
  have ktl : ∀ pr ∈ prs, (keysP pr).length ≤ 3 := fun y hy => by
    obtain ⟨i, hi⟩ := List.getElem?_of_mem hy
    obtain ⟨_, _, h2⟩ := paired_at hbp hi
    unfold keysP
    rw [List.length_map]
    have := h2.2.len
    omega
  refine ⟨_, (pss_cons (ps_set (i := 7) sc.nd rfl (Or.inl rfl) pe_dnewK)
      (pss_cons (ps_for (passes_of rfl) rfl (pi_list (pv 0)) (pg_name (i := 8) sc.nd rfl (Or.inl rfl))
        (pss_one (ps_if (pt_cmpR op_eq (pe_ix ix_tup (pv 8) pe_int (fun _ _ => rfl)) pe_int (nomark _))
          (pss_one (ps_expr (pe_cal c_law_offer hr (pa_cons (pv 1) (pa_cons (pv 7) (pa_cons (pe_nget hu4 (pe_ix ix_list (pv 2) pe_int (fun _ _ => rfl)) (pe_tup (pa_cons (pe_ix ix_tup (pv 8) pe_int (fun _ _ => rfl)) (pa_cons (pe_tup pa_nil) pa_nil))) (fun _ _ => rfl)) (pa_cons (pv 3) (pa_cons (pe_tup (pa_cons (pe_ix ix_tup (pv 8) pe_int (fun _ _ => rfl)) pa_nil)) pa_nil))))))))
          pss_nil)))
      (pss_cons (ps_for (passes_of rfl) rfl (pi_list (pv 4)) (pg_name (i := 9) sc.nd rfl (Or.inl rfl))
        (pss_one (ps_if (pt_cmpR op_eq (pe_ix ix_tup (pv 9) pe_int (fun _ _ => rfl)) (pv 5) (nomark _))
          (pss_one (ps_for (passes_of rfl) rfl (pi_list (pe_cal c_law_ways hr (pa_cons (pe_lc (own := [("_law_part", 10)]) (g := gName 10) rfl sc.nd (pi_list (pv 6)) (blkOk_by (N := N_lkn) (sc := defScope (top 72)) (by decide +kernel)) (fun _ _ _ _ _ => (pg_name (i := 10) sc.nd rfl (Or.inl rfl))) (fun _ _ _ _ _ => pts_nil) (fun _ _ _ _ _ => (pe_callTy (call_listD rfl) (by rfl) T.list (by decide +kernel) (pa_cons (pv 10) pa_nil)))) pa_nil))) (pg_name (i := 11) sc.nd rfl (Or.inl rfl))
            (pss_cons (ps_set (i := 12) sc.nd rfl (Or.inl rfl) (pe_ix ix_tup (pv 9) pe_int (fun _ _ => rfl)))
            (pss_cons (ps_set (i := 13) sc.nd rfl (Or.inl rfl) (pe_tup (pa_cons (pe_ix ix_tup (pv 9) pe_int (fun _ _ => rfl)) pa_nil)))
            (pss_cons (ps_for (passes_of rfl) rfl (pi_range1 rfl T.range (pa_cons (pe_callB call_len_seq (by rfl) T.len (by decide +kernel) (pa_cons (pv 11) pa_nil)) pa_nil)) (pg_name (i := 14) sc.nd rfl (Or.inl rfl))
              (pss_cons (ps_set (i := 10) sc.nd rfl (Or.inl rfl) (pe_dget hu (pe_ix ix_list (pv 6) (pv 14) (fun _ _ => rfl)) (pe_ix ix_tup (pv 11) (pv 14) (fun _ _ => rfl)) (fun _ _ => rfl)))
              (pss_cons (ps_set (i := 12) sc.nd rfl (Or.inl rfl) (pe_op op_add (pv 12) (pe_ix ix_tup (pv 10) pe_int (fun _ _ => rfl))))
              (pss_one (ps_set (i := 13) sc.nd rfl (Or.inl rfl) (pe_op op_catA (pv 13) (pe_ix ix_tup (pv 10) pe_int (fun _ _ => rfl))))))))
            (pss_one (ps_expr (pe_cal c_law_offer hr (pa_cons (pv 1) (pa_cons (pv 7) (pa_cons (pe_nget hu4 (pe_ix ix_list (pv 2) pe_int (fun _ _ => rfl)) (pe_tup (pa_cons (pe_ix ix_tup (pv 9) pe_int (fun _ _ => rfl)) (pa_cons (pv 11) pa_nil))) (fun _ _ => rfl)) (pa_cons (pv 12) (pa_cons (pv 13) pa_nil)))))))))))))
          pss_nil)))
      (pss_one (ps_ret (pv 7)))))), ?_⟩
  intro D hD
  have k1 := (Hs.start H).new (o := .dK []) hD
  simp only [List.set_cons_succ, List.set_cons_zero]
  refine ⟨_, rfl, q, rfl, ⟨_, SqL.of (k1.sub _ _ hL)⟩, for_list (K := K) (xs := pr.map fun z => V.ref z.1)
    (fun i σ H' => ∃ (t8 : Option V) (B : Hp) (en : List Ent), σ = [some (.ref q), some (.ref rk), some (.ref z), some (.int c), some (.ref st), some (.str x), some (.ref bl), some (.ref D), t8, none, none, none, none, none, none] ∧ Same H B ∧ Hs B [(D, .dK (tabE en))] H' ∧ LPr K B (pr.map (·.2)) d.many en ∧ IsB (lookP en) (LfC (pr.map (·.2)) d c ((pr.map (·.2)).take i)))
    ⟨none, H, [], rfl, Same.refl _, k1, LPr.nil, IsB.empty.congr fun s v => ⟨fun z => z.elim, fun ⟨_, hm, _⟩ => by simp at hm⟩⟩ (fun _ _ _ _ ⟨_, _, _, _, s, y, _⟩ => SqL.of (y.sub _ _ (s _ _ hL))) ?_ ?_⟩
  · rintro i v σ H1 hv ⟨t8, B, en, rfl, sB, hh, hen, hI⟩
    obtain ⟨u, eu, rfl⟩ := map_at hv
    have hum := List.mem_of_getElem? eu
    have hu2 : (pr.map (·.2))[i]? = some u.2 := by rw [List.getElem?_map, eu]; rfl
    have tu0 := hP.at_ u hum
    have tu := Same.sqt (sB.trans hh.sub) tu0
    obtain ⟨au, ku⟩ := ar_mem ok.nd (List.mem_map_of_mem hum)
    have etk : (pr.map (·.2)).take (i + 1) = (pr.map (·.2)).take i ++ [u.2] := by rw [List.take_succ, hu2]; rfl
    refine ⟨_, rfl, u.1, _, _, _, rfl, rfl, tu, atI_nat (j := 1) rfl, rfl, _, rfl, if_dec (fun cc => ?_) (fun cc => ?_)⟩
    · have c0 : u.2.2 = 0 := by have := V.int.inj cc; omega
      refine ⟨_, rfl, _, rfl, _, rfl, z, _, _, .ref dT, rfl, rfl, SqL.of ((sB.trans hh.sub) _ _ hz), atI_nat (j := 1) rfl, _, rfl, u.1, _, _, _, rfl, rfl, tu, atI_nat (j := 0) rfl, (by decide), fun T1 hT1 => ⟨(by show 2 ≤ sizeLine; decide), fun T2 hT2 => ?_⟩⟩
      have h1 := hh.tup (o := .tup []) hT1
      have s1 : Same B (upd B T1 (.tup [])) := up_same (hh.sub.free hT1)
      have t1 : SqT K (upd B T1 (.tup [])) T1 [] := SqT.of upd_same
      generalize upd B T1 (.tup []) = B1 at *
      generalize upd H1 T1 (.tup []) = H2 at *
      have h2 := h1.tup (o := .tup [.str u.2.1, .ref T1]) hT2
      have s2 : Same B1 (upd B1 T2 (.tup [.str u.2.1, .ref T1])) := up_same (h1.sub.free hT2)
      have t2 : SqT K (upd B1 T2 (.tup [.str u.2.1, .ref T1])) T2 [.str u.2.1, .ref T1] := SqT.of upd_same
      generalize upd B1 T2 (.tup [.str u.2.1, .ref T1]) = B2 at *
      generalize upd H2 T2 (.tup [.str u.2.1, .ref T1]) = H3 at *
      have s02 := (sB.trans s1).trans s2
      have sH := s02.trans h2.sub
      obtain ⟨f1, f2⟩ := hfull u.2.1 [] ku (by rw [au, c0]; rfl) (fun _ y => (nomatch y))
      refine ⟨dT, T2, ob, _, rkey (u.2.1, [], 0), _, rfl, rfl, sH _ _ hdT, hN.mono (Stay.of sH), NK.of (Same.sqt h2.sub t2) (Same.sqt (s2.trans h2.sub) t1), f1, ?_⟩
      refine ⟨_, rfl, _, rfl, u.1, _, _, _, rfl, rfl, Same.sqt sH tu0, atI_nat (j := 0) rfl, (by show 1 ≤ sizeLine; decide), fun T3 hT3 => ?_⟩
      have h3 := h2.tup (o := .tup [.str u.2.1]) hT3
      have s3 : Same B2 (upd B2 T3 (.tup [.str u.2.1])) := up_same (h2.sub.free hT3)
      have s03 := s02.trans s3
      refine ⟨rk, D, T3, stepF d u.2.1 [], d.many, c, pr.map (·.2), [u.2.1], _, en, rfl, s03 _ _ hrk, h3, hen.mono (Stay.of ((s1.trans s2).trans s3)), f2, by omega, SqT.of upd_same, fun y hy => by rw [List.mem_singleton.mp hy]; exact ku, by show 1 ≤ 100000; decide, fun B' en' H' bo s' h' p' e' => ?_⟩
      refine ⟨_, B', en', rfl, s03.trans s', h', p', ?_⟩
      rw [e', etk]
      exact (hI.step _ _).congr fun s v => by
        rw [lfc_snoc]
        exact or_congr Iff.rfl ⟨fun y => ⟨c0, y⟩, fun y => y.2⟩
    · have c0 : ¬ u.2.2 = 0 := fun y => cc (by rw [y]; rfl)
      refine ⟨_, B, en, rfl, sB, hh, hen, hI.congr fun s v => ?_⟩
      rw [etk, lfc_snoc]
      exact ⟨fun y => .inl y, fun y => y.elim id fun y => absurd y.1 c0⟩
  rintro σ H1 ⟨t8, B, en, rfl, sB, hh, hen, hI⟩
  rw [List.length_map, show pr.length = (pr.map (·.2)).length from (List.length_map ..).symm, List.take_length] at hI
  refine ⟨_, rfl, st, rfl, ⟨_, SqL.of (hh.sub _ _ (sB _ _ hst))⟩, for_list (K := K) (xs := p2.map fun z => V.ref z.1)
    (fun i σ H' => ∃ (t9 t10 t11 t12 t13 t14 : Option V) (B : Hp) (en : List Ent), σ = [some (.ref q), some (.ref rk), some (.ref z), some (.int c), some (.ref st), some (.str x), some (.ref bl), some (.ref D), t8, t9, t10, t11, t12, t13, t14] ∧ Same H B ∧ Hs B [(D, .dK (tabE en))] H' ∧ LPr K B (pr.map (·.2)) d.many en ∧
      IsB (lookP en) (fun s v => LfC (pr.map (·.2)) d c (pr.map (·.2)) s v ∨ StC (pr.map (·.2)) d x Ts ((stpF (pr.map (·.2)) sws).take i) s v))
    ⟨none, none, none, none, none, none, B, en, rfl, sB, hh, hen, hI.congr fun s v => ⟨fun y => .inl y, fun y => y.elim id fun ⟨_, hm, _⟩ => by simp at hm⟩⟩ (fun _ _ _ _ ⟨_, _, _, _, _, _, _, _, _, s, y, _⟩ => SqL.of (y.sub _ _ (s _ _ hst))) ?_ ?_⟩
  · clear hh hen hI sB
    clear B en
    rintro i v σ H1 hv ⟨t9, t10, t11, t12, t13, t14, B, en, rfl, sB, hh, hen, hI⟩
    obtain ⟨u, eu, rfl⟩ := map_at hv
    have hu2 : (stpF (pr.map (·.2)) sws)[i]? = some u.2 := by rw [← hp2, List.getElem?_map, eu]; rfl
    have tu0 := hat2 u (List.mem_of_getElem? eu)
    have tu := Same.sqt (sB.trans hh.sub) tu0
    have etk : (stpF (pr.map (·.2)) sws).take (i + 1) = (stpF (pr.map (·.2)) sws).take i ++ [u.2] := by rw [List.take_succ, hu2]; rfl
    refine ⟨_, rfl, u.1, _, _, _, rfl, rfl, tu, atI_nat (j := 0) rfl, _, rfl, rfl, _, rfl, if_dec (fun cc => ?_) (fun cc => ?_)⟩
    · have c0 : u.2.1 = x := V.str.inj cc
      obtain ⟨ky, ay⟩ : isK (pr.map (·.2)) u.2.2.1 = true ∧ ar (pr.map (·.2)) u.2.2.1 = ar (pr.map (·.2)) x := turnsL_ok so kx u.2.2 ((stpF_mem ok.nd kx).mp (by rw [← c0]; exact List.mem_of_getElem? hu2))
      simp only [List.set_cons_succ, List.set_cons_zero]
      refine ⟨_, rfl, bl, rfl, ⟨_, SqL.of ((sB.trans hh.sub) _ _ hbl)⟩, fun D2 hD2 => lc_it (walk_list (K := K) (a := bl) (xs := bs.map V.ref)) (fun n H' => ∃ (B2 : Hp) (as : List Addr), Same B B2 ∧ Hs B2 [(D2, .lst (as.map V.ref)), (D, .dK (tabE en))] H' ∧ Paired (fun a ns => SqL K B2 a (vN ns)) as ((prs.take n).map keysP))
        ⟨B, [], Same.refl _, hh.new hD2, .nil⟩ (fun _ _ _ ⟨_, _, s2, h2, _⟩ => SqL.of (((sB.trans s2).trans h2.sub) _ _ hbl)) ?_ ?_⟩
      · rintro n y H2 _ hn ⟨B2, as, s2, h2, hA⟩ ⟨rfl, hy⟩
        obtain ⟨b, eb, rfl⟩ := map_at hy
        have hnp : n < prs.length := by rw [← hbl']; exact (List.getElem?_eq_some_iff.mp eb).1
        obtain ⟨e, ee⟩ : ∃ e, prs[n]? = some e := ⟨_, List.getElem?_eq_getElem hnp⟩
        obtain ⟨b', eb', hb1, hb2⟩ := paired_at hbp ee
        rw [eb] at eb'
        cases eb'
        refine ⟨?_, ?_⟩
        · simp only [wipe, List.map_cons, List.map_nil, List.set_cons_succ, List.set_cons_zero]
        simp only [tYes, if_true, wipe, List.map_cons, List.map_nil, List.set_cons_succ, List.set_cons_zero]
        refine ⟨_, rfl, b, _, rfl, Rd.of (((sB.trans s2).trans h2.sub) _ _ hb1), fun p5 hp5 => ?_⟩
        rw [tabE_keys]
        have h5 := h2.tup (o := .lst (vN (keysP e))) hp5
        have s5 : Same B2 (upd B2 p5 (.lst (vN (keysP e)))) := up_same (h2.sub.free hp5)
        have hal := paired_len hA
        rw [List.length_map, List.length_take] at hal
        refine ⟨_, h5.r0, by rw [List.length_map, sizeLine_eq]; omega, _, as ++ [p5], s2.trans s5, by rw [List.map_append]; exact h5.w0, ?_⟩
        rw [List.take_succ, ee, List.map_append]
        exact Paired.snoc (Paired.mapP hA fun _ _ w => Same.sql s5 w) (SqL.of upd_same)
      rintro H2 ⟨B2, as, s2, h2, hA⟩
      rw [List.length_map, hbl', List.take_length] at hA
      obtain ⟨g2, h3⟩ := h2.give
      have eD2 : upd B2 D2 (.lst (as.map V.ref)) D2 = some (.lst (as.map V.ref)) := upd_same
      replace hA := Paired.mapP hA fun _ _ w => Same.sql g2 w
      have s3 := s2.trans g2
      generalize upd B2 D2 (.lst (as.map V.ref)) = B3 at *
      refine ⟨D2, as, prs.map keysP, rfl, h3.sub _ _ eD2, Paired.mapP hA fun _ _ w => Same.sql h3.sub w, by rw [List.length_map]; omega, fun ns hns => by
        obtain ⟨e, he, rfl⟩ := List.mem_map.mp hns
        exact ktl e he, fun H3 zq qs hzq s4 hL4 hP4 => ?_⟩
      obtain ⟨c1, c2⟩ := h3.after s4
      have hP4 := Paired.mapP hP4 fun _ _ y => sqt_cut c2.own nt1 y
      have hL4' : cut [(D, HO.dK (tabE en))] H3 zq = some (.lst (qs.map V.ref)) := by rw [cut_at (h3.out_new hzq)]; exact hL4
      generalize hB5 : cut [(D, HO.dK (tabE en))] H3 = B5 at *
      have hqs := paired_len hP4
      have s05 := (sB.trans s3).trans c1
      have hmon := hen.mono (Stay.of (s3.trans c1))
      refine ⟨zq, rfl, ⟨_, SqL.of (c2.sub _ _ hL4')⟩, for_list (K := K) (xs := qs.map V.ref)
        (fun j σ H' => ∃ (t10 t11 t12 t13 t14 : Option V) (B : Hp) (en : List Ent), σ = [some (.ref q), some (.ref rk), some (.ref z), some (.int c), some (.ref st), some (.str x), some (.ref bl), some (.ref D), t8, some (.ref u.1), t10, t11, t12, t13, t14] ∧ Same B5 B ∧ Hs B [(D, .dK (tabE en))] H' ∧ LPr K B (pr.map (·.2)) d.many en ∧
          IsB (lookP en) (fun s v => (LfC (pr.map (·.2)) d c (pr.map (·.2)) s v ∨ StC (pr.map (·.2)) d x Ts ((stpF (pr.map (·.2)) sws).take i) s v) ∨ WyC (pr.map (·.2)) d Ts u.2.2 ((wayF (prs.map keysP)).take j) s v))
        ⟨_, _, _, _, _, B5, en, rfl, Same.refl _, c2, hmon, hI.congr fun s v => ⟨fun y => .inl y, fun y => y.elim id fun ⟨_, _, hm, _⟩ => by simp at hm⟩⟩ (fun _ _ _ _ ⟨_, _, _, _, _, _, _, _, s, y, _⟩ => SqL.of (y.sub _ _ (s _ _ hL4'))) ?_ ?_⟩
      · clear hI hen hmon c2 hB5 hh h2 h3
        rintro j v σ H4 hv ⟨t10, t11, t12, t13, t14, B, en, rfl, s5, hh, hen, hI⟩
        obtain ⟨a, ea, rfl⟩ := map_at hv
        have hj : j < (wayF (prs.map keysP)).length := by rw [← hqs]; exact (List.getElem?_eq_some_iff.mp ea).1
        obtain ⟨ss, es⟩ : ∃ ss, (wayF (prs.map keysP))[j]? = some ss := ⟨_, List.getElem?_eq_getElem hj⟩
        obtain ⟨a', ea', ta0⟩ := paired_at hP4 es
        rw [ea] at ea'
        cases ea'
        have ta0 : SqT K B5 a (vN ss) := ta0
        obtain ⟨ps, hps, rfl⟩ := (ways_iff ndp).mp (List.mem_of_getElem? es)
        rw [← eTs] at hps
        have hpl := paired_len hps
        have epS : (pkS ps).length = Ts.length := by unfold pkS; rw [List.length_map, ← hpl]
        have s0 := s05.trans s5
        have tu := Same.sqt (s0.trans hh.sub) tu0
        simp only [List.set_cons_succ, List.set_cons_zero]
        refine ⟨_, rfl, u.1, _, _, _, rfl, rfl, tu, atI_nat (j := 2) rfl, _, rfl, u.1, _, _, _, rfl, rfl, tu, atI_nat (j := 1) rfl, (by show 1 ≤ sizeLine; decide), fun T5 hT5 => ?_⟩
        have h5 := hh.tup (o := .tup [.str u.2.2.1]) hT5
        have s6 : Same B (upd B T5 (.tup [.str u.2.2.1])) := up_same (hh.sub.free hT5)
        have t5 : SqT K (upd B T5 (.tup [.str u.2.2.1])) T5 ([u.2.2.1].map V.str) := SqT.of upd_same
        generalize upd B T5 (.tup [.str u.2.2.1]) = B6 at *
        generalize upd H4 T5 (.tup [.str u.2.2.1]) = H5 at *
        have ta6 := Same.sqt (s5.trans s6) ta0
        have hen6 := hen.mono (Stay.of s6)
        have s06 := s0.trans s6
        simp only [List.set_cons_succ, List.set_cons_zero]
        refine ⟨_, rfl, a, _, rfl, .inr (Same.sqt h5.sub ta6), _, rfl, by omega, by rw [vN, List.length_map, epS]; omega, for_rng (n := (vN (pkS ps)).length) (fun t σ H' => ∃ (t10 t14 : Option V) (B : Hp) (pt : Addr) (pl : List Str), σ = [some (.ref q), some (.ref rk), some (.ref z), some (.int c), some (.ref st), some (.str x), some (.ref bl), some (.ref D), t8, some (.ref u.1), t10, some (.ref a), some (.int (pkC (ps.take t) + u.2.2.2)), some (.ref pt), t14] ∧ Same B6 B ∧ Hs B [(D, .dK (tabE en))] H' ∧
          SqT K B pt (pl.map V.str) ∧ (∀ y ∈ pl, isK (pr.map (·.2)) y = true) ∧ pl.length ≤ 1 + 2000 * t ∧ pl.map (rkD (pr.map (·.2))) = rkD (pr.map (·.2)) u.2.2.1 :: pkR (ps.take t))
          ⟨_, _, B6, T5, [u.2.2.1], by show _ = [_, _, _, _, _, _, _, _, _, _, _, _, some (V.int (0 + _)), _, _]; rw [Int.zero_add]; rfl, Same.refl _, h5, t5, fun y hy => by rw [List.mem_singleton.mp hy]; exact ky, Nat.le_refl _, rfl⟩ ?_ ?_⟩
        · rintro t σ H6 ht ⟨t10, t14, B7, pt, pl, rfl, s7, h7, tp, kp, lp, ep⟩
          rw [vN, List.length_map, epS] at ht
          obtain ⟨Tn, eTn⟩ : ∃ y, Ts[t]? = some y := ⟨_, List.getElem?_eq_getElem ht⟩
          obtain ⟨b, eb, tA⟩ := paired_at hbs eTn
          obtain ⟨en2, hb1, hb2, rfl⟩ := tA
          obtain ⟨pp, epp⟩ : ∃ y, ps[t]? = some y := ⟨_, List.getElem?_eq_getElem (by rw [← hpl]; exact ht)⟩
          obtain ⟨Tn', eTn', look⟩ := paired_at hps epp
          rw [eTn] at eTn'
          cases eTn'
          have look : lookP en2 pp.1 = some pp.2 := look
          obtain ⟨qe, hqm, hf⟩ := look_some look
          obtain ⟨b2, m, tq, tb, km, ml, ev⟩ := hb2.at_ _ hqm
          have tq : SqT K H qe [.int pp.2.1, .ref b2] := tq
          have ev : pp.2 = vP (pr.map (·.2)) pp.2.1 m := ev
          have s07 := s06.trans s7
          have sH7 := s07.trans h7.sub
          have ml2 : m.length ≤ 2000 := by
            have := hbound _ (List.mem_of_getElem? eTn) _ _ look
            rw [ev] at this
            unfold vP at this
            rw [List.length_map] at this
            exact this
          have esn : (pkS ps)[t]? = some pp.1 := by unfold pkS; rw [List.getElem?_map, epp]; rfl
          have dg : DGet H6 b (.int ((pp.1 : Nat) : Int)) (some (.ref qe)) := by
            have := DGet.k (k := (Sum.inl ((pp.1 : Nat) : Int) : Key)) (sH7 _ _ hb1)
            rw [valV_tabE, hf] at this
            exact this
          have etp : ps.take (t + 1) = ps.take t ++ [pp] := by rw [List.take_succ, epp]; rfl
          simp only [List.set_cons_succ, List.set_cons_zero]
          refine ⟨_, rfl, _, rfl, bl, _, _, .ref b, rfl, rfl, SqL.of (sH7 _ _ hbl), atI_nat (by rw [List.getElem?_map, eb]; rfl), _, rfl, _, rfl, a, _, _, .int ((pp.1 : Nat) : Int), rfl, rfl, Same.sqt (s7.trans h7.sub) ta6, atI_nat (by rw [vN, List.getElem?_map, esn]; rfl), b, .ref qe, rfl, dg, ?_⟩
          simp only [List.set_cons_succ, List.set_cons_zero]
          refine ⟨_, rfl, _, rfl, qe, _, _, _, rfl, rfl, Same.sqt sH7 tq, atI_nat (j := 0) rfl, _, _, rfl, rfl, ?_⟩
          simp only [List.set_cons_succ, List.set_cons_zero]
          refine ⟨_, rfl, _, rfl, qe, _, _, .ref b2, rfl, rfl, Same.sqt sH7 tq, atI_nat (j := 1) rfl, cat_any (Same.sqt h7.sub tp) (Same.sqt sH7 tb) (by rw [List.length_map, List.length_map]; omega) (fun p8 H8 s8 t8' => ?_)⟩
          obtain ⟨d1, d2⟩ := h7.after s8
          have t8'' := sqt_cut d2.own nt1 t8'
          refine ⟨some (.ref qe), some (.int (t : Nat)), _, p8, pl ++ m, ?_, s7.trans d1, d2, by rw [List.map_append]; exact t8'', fun y hy => ?_, by rw [List.length_append]; omega, ?_⟩
          · rw [etp, pkC_snoc, show pkC (ps.take t) + u.2.2.2 + pp.2.1 = pkC (ps.take t) + pp.2.1 + u.2.2.2 by omega]
            rfl
          · rcases List.mem_append.mp hy with hy | hy
            · exact kp y hy
            · exact km y hy
          · rw [List.map_append, ep, etp, pkR_snoc]
            have : pp.2.2 = m.map (rkD (pr.map (·.2))) := by rw [ev]; rfl
            rw [this]
            rfl
        · rintro σ H6 ⟨t10, t14, B7, pt, pl, rfl, s7, h7, tp, kp, lp, ep⟩
          rw [vN, List.length_map, epS] at lp ep
          rw [show (vN (pkS ps)).length = ps.length by rw [vN, List.length_map, epS, hpl]]
          rw [hpl, List.take_length] at ep
          rw [List.take_length]
          have s07 := s06.trans s7
          have sH7 := s07.trans h7.sub
          have hlt : ∀ n ∈ pkS ps, n < d.many := fun n hn => by
            unfold pkS at hn
            obtain ⟨pp, hpp, rfl⟩ := List.mem_map.mp hn
            obtain ⟨t, et⟩ := List.getElem?_of_mem hpp
            obtain ⟨Tn, eTn, look⟩ := paired_at hps et
            obtain ⟨b, eb, tA⟩ := paired_at hbs eTn
            obtain ⟨en2, hb1, hb2, rfl⟩ := tA
            obtain ⟨qe, hqm, _⟩ := look_some (show lookP en2 pp.1 = some pp.2 from look)
            exact hb2.lt _ hqm
          obtain ⟨f1, f2⟩ := hfull u.2.2.1 (pkS ps) ky (by rw [epS, hTl, ay]) hlt
          simp only [List.set_cons_succ, List.set_cons_zero]
          refine ⟨_, rfl, _, rfl, _, rfl, z, _, _, .ref dT, rfl, rfl, SqL.of (sH7 _ _ hz), atI_nat (j := 1) rfl, _, rfl, u.1, _, _, _, rfl, rfl, Same.sqt sH7 tu0, atI_nat (j := 1) rfl, _, rfl, (by show 2 ≤ sizeLine; decide), fun T9 hT9 => ?_⟩
          have h9 := h7.tup (o := .tup [.str u.2.2.1, .ref a]) hT9
          have s9 : Same B7 (upd B7 T9 (.tup [.str u.2.2.1, .ref a])) := up_same (h7.sub.free hT9)
          have s09 := s07.trans s9
          have sH9 := s09.trans h9.sub
          refine ⟨dT, T9, ob, _, rkey (u.2.2.1, pkS ps, 0), _, rfl, rfl, sH9 _ _ hdT, hN.mono (Stay.of sH9), NK.of (SqT.of upd_same) (Same.sqt ((s7.trans s9).trans h9.sub) ta6), f1, ?_⟩
          refine ⟨_, rfl, _, rfl, rk, D, pt, stepF d u.2.2.1 (pkS ps), d.many, _, pr.map (·.2), pl, _, en, rfl, s09 _ _ hrk, h9, hen6.mono (Stay.of (s7.trans s9)), f2, by omega, Same.sqt s9 tp, kp, by omega, fun B' en' H' bo s' h' p' e' => ?_⟩
          refine ⟨_, _, _, _, _, B', en', rfl, (((s5.trans s6).trans s7).trans s9).trans s', h', p', ?_⟩
          rw [e']
          refine (hI.step _ _).congr fun s v => ?_
          have etj : (wayF (prs.map keysP)).take (j + 1) = (wayF (prs.map keysP)).take j ++ [pkS ps] := by rw [List.take_succ, es]; rfl
          rw [etj, wyc_snoc hps, or_assoc]
          have : vP (pr.map (·.2)) (pkC ps + u.2.2.2) pl = (pkC ps + u.2.2.2, rkD (pr.map (·.2)) u.2.2.1 :: pkR ps) := by unfold vP; rw [ep]
          rw [this]
          rfl
      · clear hI hen hmon c2 hB5 hh h2 h3
        rintro σ H4 ⟨t10, t11, t12, t13, t14, B, en, rfl, s5, hh, hen, hI⟩
        rw [List.length_map, hqs, List.take_length] at hI
        refine ⟨_, _, _, _, _, _, B, en, rfl, s05.trans s5, hh, hen, hI.congr fun s v => ?_⟩
        rw [etk, stc_snoc, or_assoc]
        refine or_congr Iff.rfl (or_congr Iff.rfl ?_)
        constructor
        · rintro ⟨ps, h1, _, h2⟩
          exact ⟨c0, ps, h1, h2⟩
        · rintro ⟨_, ps, h1, h2⟩
          exact ⟨ps, h1, (ways_iff ndp).mpr ⟨ps, by rw [← eTs]; exact h1, rfl⟩, h2⟩
    · have c0 : ¬ u.2.1 = x := fun y => cc (by rw [y])
      refine ⟨_, _, _, _, _, _, B, en, rfl, sB, hh, hen, hI.congr fun s v => ?_⟩
      rw [etk, stc_snoc]
      exact or_congr Iff.rfl ⟨fun y => .inl y, fun y => y.elim id fun y => absurd y.1 c0⟩
  · clear hh hen hI sB
    clear B en
    rintro σ H2 ⟨t9, t10, t11, t12, t13, t14, B, en, rfl, sB, hh, hen, hI⟩
    rw [List.length_map, show p2.length = (stpF (pr.map (·.2)) sws).length by rw [← hp2, List.length_map], List.take_length] at hI
    exact ⟨_, rfl, hq H2 D (lookP en) (sB.trans hh.sub) ⟨en, hh.r0, hen.mono (Stay.of hh.sub), rfl⟩ (hI.congr fun s v => cand_law ok kx s v)⟩
end
end Sy
/-! _law_due -/
namespace Sy
open PySem PySem.Spec PyProof.Rows L2
section
variable {P : Program} {w : World} {K : PySem.W.Frag} {mg : Str → Option Value} {base : Heap}
def spDueC (P : Program) (w : World) (K : PySem.W.Frag) : Sp := fun vs H Q _ => ∃ (q ad z sw p : Addr) (c : Int) (rows : List Sy.Row) (sws : List Swp) (d : Rdr) (full : List RRow) (l : List Str), vs = [.ref q, .ref ad, .ref z, .int c, .ref sw, .ref p] ∧
  RL K H q rows ∧ RowsOk rows ∧ H ad = some (.dK (arKV rows)) ∧ LRd P w K H z d full ∧ RdOk rows d ∧ FullOk rows d full ∧ d.many ≤ 3 ∧ SL K H sw sws ∧ SwsOk rows sws ∧ sws.length ≤ 100 ∧ SqT K H p (l.map V.str) ∧ l.length ≤ 2000 ∧
  ∀ H' t a, Same H H' → DuC rows sws d c l a → AnC K H' rows t a → Q (.ref t) H'
abbrev N_due : List Str := ["_law_kinds_here", "_law_arity_here", "_law_reader_here", "_law_cutting", "_law_swaps_here", "_law_plant_here", "_law_place", "_law_rank_here", "_law_steps_here", "_law_stack", "_law_entry", "_law_below", "_law_turn", "_law_found", "_law_state"]
theorem sc_due : FnScope N_due ["_law_kinds_here", "_law_arity_here", "_law_reader_here", "_law_cutting", "_law_swaps_here", "_law_plant_here"] (defScope (top 73)) := ⟨rfl, rfl, rfl, by decide +kernel, rfl, by decide +kernel, by decide +kernel⟩
theorem k_due (T : Txt K mg) (F : DF K mg "_law_due" 73) (c_law_fault : Cal P w K mg base 1 "_law_fault" ["_law_arity_here", "_law_plant_here"] (spFaultL K)) (c_law_rank : Cal P w K mg base 1 "_law_rank" ["_law_kinds_here"] (spLRk K)) (c_law_steps : Cal P w K mg base 1 "_law_steps" ["_law_kinds_here", "_law_swaps_here"] (spStp K))
    (c_law_offer : Cal P w K mg base 2 "_law_offer" ["_law_rank_here", "_law_best", "_law_state", "_law_number_here", "_law_plant_here"] (spOff K))
    (c_law_knot : Cal P w K mg base 3 "_law_knot" ["_law_kinds_here", "_law_rank_here", "_law_reader_here", "_law_cutting", "_law_steps_here", "_law_entry", "_law_below"] (spLKn P w K)) :
    Cal P w K mg base 4 "_law_due" ["_law_kinds_here", "_law_arity_here", "_law_reader_here", "_law_cutting", "_law_swaps_here", "_law_plant_here"] (spDueC P w K) := by
  refine cal_of F.1 F.2 sc_due (fun _ _ _ _ _ _ us e => match us, e with | [_, _, _, _, _, _], _ => rfl) (fun vs H Q E s => by obtain ⟨_, _, _, _, _, _, _, _, _, _, _, rfl, _⟩ := s; rfl) ?_
  intro cdv A outer s H vs Q E hr h
  obtain ⟨q, ad, z, sw, p, c, rows, sws, d, full, l, rfl, hRL, ok, had, hz0, dok, hfull, hm3, hsw, so, hsl, hp, hl2, hq⟩ := h
  have sc := sc_due
  have hu := hu_of hr
  have ule := ok.le
  refine ⟨_, (pss_cons (ps_set (i := 6) sc.nd rfl (Or.inl rfl) (pe_cal c_law_fault hr (pa_cons (pv 1) (pa_cons (pv 5) pa_nil))))
      (pss_cons (ps_if (pt_cmpR op_ge (pv 6) pe_int (nomark _))
        (pss_one (ps_ret (pe_tup (pa_cons pe_str (pa_cons (pv 6) pa_nil)))))
        pss_nil)
      (pss_cons (ps_set (i := 7) sc.nd rfl (Or.inl rfl) (pe_cal c_law_rank hr (pa_cons (pv 0) pa_nil)))
      (pss_cons (ps_set (i := 8) sc.nd rfl (Or.inl rfl) (pe_cal c_law_steps hr (pa_cons (pv 0) (pa_cons (pv 4) pa_nil))))
      (pss_cons (ps_set (i := 9) sc.nd rfl (Or.inl rfl) (pe_lst pa_nil))
      (pss_cons (ps_for (passes_of rfl) rfl (RT.pi_revA rfl T.reversed (pv 5)) (pg_name (i := 10) sc.nd rfl (Or.inl rfl))
        (pss_cons (ps_set (i := 11) sc.nd rfl (Or.inl rfl) (pe_lst pa_nil))
        (pss_cons (ps_for (passes_of rfl) rfl (pi_range1 rfl T.range (pa_cons (pe_dget hu (pv 1) (pv 10) (fun _ _ => rfl)) pa_nil)) (pg_name (i := 12) sc.nd rfl (Or.inl rfl))
          (pss_one (ps_expr (pe_bm PySem.F.plainAttrs_list PySem.F.slot_list_append PySem.F.type_list_append mt_append (pv 11) (pa_cons (pe_bm0 PySem.F.plainAttrs_list PySem.F.slot_list_pop PySem.F.type_list_pop mt_pop (pv 9)) pa_nil)))))
        (pss_one (ps_expr (pe_bm PySem.F.plainAttrs_list PySem.F.slot_list_append PySem.F.type_list_append mt_append (pv 9) (pa_cons (pe_cal c_law_knot hr (pa_cons (pv 0) (pa_cons (pv 7) (pa_cons (pv 2) (pa_cons (pv 3) (pa_cons (pv 8) (pa_cons (pv 10) (pa_cons (pv 11) pa_nil)))))))) pa_nil)))))))
      (pss_cons (ps_set (i := 13) sc.nd rfl (Or.inl rfl) pe_dnewK)
      (pss_cons (ps_for (passes_of rfl) rfl (pi_list (pe_ix ix_list (pv 2) pe_int (fun _ _ => rfl))) (pg_name (i := 14) sc.nd rfl (Or.inl rfl))
        (pss_one (ps_if (pt_cmp (pc_din hu (pv 14) (pe_ix ix_list (pv 9) pe_int (fun _ _ => rfl))))
          (pss_one (ps_expr (pe_cal c_law_offer hr (pa_cons (pv 7) (pa_cons (pv 13) (pa_cons pe_int (pa_cons (pe_ix ix_tup (pe_dget hu (pe_ix ix_list (pv 9) pe_int (fun _ _ => rfl)) (pv 14) (fun _ _ => rfl)) pe_int (fun _ _ => rfl)) (pa_cons (pe_ix ix_tup (pe_dget hu (pe_ix ix_list (pv 9) pe_int (fun _ _ => rfl)) (pv 14) (fun _ _ => rfl)) pe_int (fun _ _ => rfl)) pa_nil))))))))
          pss_nil)))
      (pss_cons (ps_if (pt_cmp (pc_din hu pe_int (pv 13)))
        (pss_one (ps_ret (pe_tup (pa_cons pe_str (pa_cons (pe_dget hu (pv 13) pe_int (fun _ _ => rfl)) pa_nil)))))
        pss_nil)
      (pss_one (ps_ret (pe_tup (pa_cons pe_str (pa_cons pe_non pa_nil)))))))))))))), ?_⟩
  refine ⟨_, rfl, _, rfl, ad, p, rows, l, rfl, had, hp, by omega, ?_⟩
  simp only [List.set_cons_succ, List.set_cons_zero]
  refine ⟨_, rfl, _, _, rfl, rfl, _, rfl, if_dec (fun c0 => ?_) (fun c0 => ?_)⟩
  · exact ⟨_, rfl, (by show 2 ≤ sizeLine; decide), fun t ht => hq _ t (.inl (fa rows [] 1 0 l)) (up_same ht) ⟨c0, rfl⟩ (SqT.of upd_same)⟩
  have pl := pln_neg c0 hl2
  refine ⟨_, rfl, q, rows, rfl, hRL, ok.nd, by omega, fun rk H1 s1 hrk => ?_⟩
  simp only [List.set_cons_succ, List.set_cons_zero]
  refine ⟨_, rfl, _, rfl, q, sw, rows, sws, rfl, hRL.mono s1, hsw.mono s1, by omega, hsl, fun H2 st s2 hst => ?_⟩
  have s02 := s1.trans s2
  have hrk2 := s2 _ _ hrk
  refine ⟨by decide, fun S hS => ?_⟩
  have h2 := (Hs.start H2).new (o := .lst []) hS
  have hp2 := Same.sqt s02 hp
  have hwl := wt_len rows l
  have ll := pl.le
  simp only [List.set_cons_succ, List.set_cons_zero]
  refine ⟨_, rfl, p, l.map V.str, rfl, .inr ⟨Same.sqt h2.sub hp2, RT.for_ItvT (K := K) (a := p) (xs := l.map V.str) (fun n σ H' => ∃ (t10 t11 t12 : Option V) (B : Hp) (m : Nat) (R : List Addr) (tb : Nat → Tab), σ = [some (.ref q), some (.ref ad), some (.ref z), some (.int c), some (.ref sw), some (.ref p), some (.int (fa rows [] 1 0 l)), some (.ref rk), some (.ref st), some (.ref S), t10, t11, t12, none, none] ∧ Same H2 B ∧ Hs B [(S, .lst (R.reverse.map V.ref))] H' ∧
      Fo m ((wt rows l).drop (l.length - n)) ∧ Paired (fun q j => LTabAt K B rows d.many q (tb j)) R (rts (wt rows l) (l.length - n) m) ∧ TbOk rows sws d c l (l.length - n) tb ∧ (∀ j, l.length - n ≤ j → j < l.length → ∀ s v, tb j s = some v → v.2.length + j ≤ en (wt rows l) j))
    ⟨none, none, none, H2, 0, [], fun _ _ => none, rfl, Same.refl _, h2, ?_, .nil, fun j x h1 h2 => ?_, fun j h1 h2 => by omega⟩ (fun _ _ _ ⟨_, _, _, _, _, _, _, _, sB, hh, _⟩ => Same.sqt (sB.trans hh.sub) hp2) ?_ ?_⟩⟩
  · rw [List.drop_of_length_le (by omega)]
    trivial
  · have := (List.getElem?_eq_some_iff.mp h2).1
    omega
  · rintro n v σ H3 hn hv ⟨t10, t11, t12, B, m0, R, tb, rfl, sB, hh, hFo, hRt, hTb, hbn⟩
    rw [List.length_map] at hn hv
    obtain ⟨x, ex, rfl⟩ := map_at hv
    generalize hi0 : l.length - 1 - n = i at *
    have ei : l.length - n = i + 1 := by omega
    rw [ei] at hFo hRt hTb hbn
    have hil : i < l.length := by omega
    have hiw : i < (wt rows l).length := by omega
    have kx := pl.kn x (List.mem_of_getElem? ex)
    have eaw : aw (wt rows l) i = ar rows x := wt_at ex
    obtain ⟨m, hm⟩ := pl.fo.below hiw
    obtain rfl : m0 = aw (wt rows l) i + m := Fo.uniq hFo hm
    have hRl := paired_len hRt
    rw [rts_len] at hRl
    have har := ok.ar_le x
    have elk : rows.lookup x = some (ar rows x) := by
      unfold isK at kx
      obtain ⟨n, e⟩ := Option.isSome_iff_exists.mp kx
      unfold ar
      rw [e]
      rfl
    refine ⟨by decide, fun D2 hD2 => ?_⟩
    have h3 := hh.new (o := .lst []) hD2
    have sH3 := (s02.trans sB).trans h3.sub
    have dg : DGet (upd H3 D2 (.lst [])) ad (.str x) (some (.int (ar rows x : Nat))) := by
      have := DGet.k (k := (Sum.inr x : Key)) (sH3 _ _ had)
      rw [valV_ar, elk] at this
      exact this
    simp only [List.set_cons_succ, List.set_cons_zero]
    refine ⟨_, rfl, _, rfl, ad, _, rfl, dg, _, rfl, by omega, by omega, for_rng (n := ar rows x) (fun t σ H' => ∃ t12, σ = [some (.ref q), some (.ref ad), some (.ref z), some (.int c), some (.ref sw), some (.ref p), some (.int (fa rows [] 1 0 l)), some (.ref rk), some (.ref st), some (.ref S), some (.str x), some (.ref D2), t12, none, none] ∧ Hs B [(D2, .lst ((R.take t).map V.ref)), (S, .lst ((R.drop t).reverse.map V.ref))] H') ⟨_, rfl, h3⟩ ?_ ?_⟩
    · rintro t σ H4 ht ⟨t12, rfl, h4⟩
      obtain ⟨u, eq⟩ : ∃ u, R[t]? = some u := ⟨_, List.getElem?_eq_getElem (by omega)⟩
      have eR : (R.drop t).reverse.map V.ref = (R.drop (t + 1)).reverse.map V.ref ++ [V.ref u] := by rw [drop_of eq, List.reverse_cons, List.map_append]; rfl
      refine ⟨_, rfl, .inl ⟨rfl, _, SqL.of h4.r0⟩, _, rfl, .inl ⟨rfl, _, SqL.of h4.r1⟩, S, (R.drop t).reverse.map V.ref, .ref u, rfl, rfl, h4.r1, ?_, ?_⟩
      · rw [eR, List.length_append, List.length_singleton, Nat.add_sub_cancel, List.getElem?_append_right (Nat.le_refl _), Nat.sub_self]
        rfl
      have edl : ((R.drop t).reverse.map V.ref).dropLast = (R.drop (t + 1)).reverse.map V.ref := by
        rw [eR]
        exact List.dropLast_concat
      rw [edl]
      have h5 := h4.w1 (o' := .lst ((R.drop (t + 1)).reverse.map V.ref))
      refine ⟨D2, _, _, rfl, rfl, h5.r0, by rw [List.length_map, List.length_take, sizeLine_eq]; omega, _, rfl, ?_⟩
      have h6 := h5.w0 (o' := .lst ((R.take t).map V.ref ++ [.ref u]))
      rw [show (R.take t).map V.ref ++ [V.ref u] = (R.take (t + 1)).map V.ref by rw [List.take_succ, eq, List.map_append]; rfl] at h6 ⊢
      exact h6
    · rintro σ H4 ⟨t12, rfl, h4⟩
      have s24 := sB.trans h4.sub
      have sH4 := s02.trans s24
      have hRk : Paired (LTabAt K H4 rows d.many) (R.take (ar rows x)) ((kidsN (wt rows l) i).map tb) := by
        have hk := paired_take (n := aw (wt rows l) i) hRt
        rw [rts_take, eaw] at hk
        exact paired_mapR (Paired.mapP hk fun _ _ y => LTabAt.mono y h4.sub)
      have kbn : ∀ t, t < aw (wt rows l) i → ∀ s v, tb (kd (wt rows l) i t) s = some v → v.2.length + kd (wt rows l) i t ≤ en (wt rows l) (kd (wt rows l) i t) := fun t ht s v e => by
        have := pl.fo.kd_lt hiw ht
        have g : i < kd (wt rows l) i t := kd_gt
        exact hbn _ (by omega) (by omega) s v e
      have bd : ∀ U ∈ (kidsN (wt rows l) i).map tb, ∀ s v, U s = some v → v.2.length ≤ 2000 := fun U hU s v e => by
        rw [kids_map] at hU
        obtain ⟨t, ht, rfl⟩ := List.mem_map.mp hU
        have ht := List.mem_range.mp ht
        have h1 := kbn t ht s v e
        have h2 := pl.fo.en_le (pl.fo.kd_lt hiw ht)
        omega
      have kl : ((kidsN (wt rows l) i).map tb).length = ar rows x := by rw [List.length_map, kidsN_len, eaw]
      refine ⟨_, rfl, .inl ⟨rfl, _, SqL.of h4.r1⟩, _, rfl, _, rfl, _, rfl, _, rfl, _, rfl, _, rfl, _, rfl, q, rk, z, st, D2, c, x, rows, sws, d, full, R.take (ar rows x), (kidsN (wt rows l) i).map tb, rfl, hRL.mono sH4, ok, s24 _ _ hrk2, hz0.mono sH4, hfull, hm3, hst.mono s24, so, kx, h4.r0, hRk, kl, bd, fun H5 a Tn s5 tA hIs => ?_⟩
      obtain ⟨B5, sB5, h5, st5⟩ := h4.go allL2 s5
      refine ⟨S, _, _, rfl, rfl, h5.r1, by rw [List.length_map, List.length_reverse, List.length_drop, sizeLine_eq]; have := szN hm; rw [List.length_drop] at this; omega, ?_⟩
      have h6 := h5.w1 (o' := .lst ((R.drop (ar rows x)).reverse.map V.ref ++ [.ref a]))
      have er : (R.drop (ar rows x)).reverse.map V.ref ++ [V.ref a] = (a :: R.drop (ar rows x)).reverse.map V.ref := by rw [List.reverse_cons, List.map_append]; rfl
      rw [er] at h6 ⊢
      have e1 : l.length - (n + 1) = i := by omega
      have ekids : ∀ j, i ≤ j → (kidsN (wt rows l) j).map (fun j => if j = i then Tn else tb j) = (kidsN (wt rows l) j).map tb := fun j hj => by
        rw [kids_map, kids_map]
        apply List.map_congr_left
        intro t _
        have g : j < kd (wt rows l) j t := kd_gt
        rw [if_neg (by omega)]
      refine ⟨_, _, _, B5, m + 1, a :: R.drop (ar rows x), fun j => if j = i then Tn else tb j, rfl, sB.trans sB5, h6.drop, ?_, ?_, fun j y h1 h2 => ?_, fun j h1 h2 s v e => ?_⟩
      · rw [e1, drop_at hiw]
        show Fo (m + aw (wt rows l) i) _
        rw [Nat.add_comm]
        exact hm
      · rw [e1, rts_step hiw, ← eaw]
        refine .cons (by show LTabAt K B5 rows d.many a (if i = i then Tn else tb i); rw [if_pos rfl]; exact tA.stay st5) (paired_mem (paired_drop hRt) fun q j hj z => ?_)
        have := rts_ge (List.mem_of_mem_drop hj)
        show LTabAt K B5 rows d.many q (if j = i then Tn else tb j)
        rw [if_neg (by omega)]
        exact LTabAt.mono z sB5
      · rw [e1] at h1
        rw [ekids j h1]
        by_cases c1 : j = i
        · subst c1
          rw [ex] at h2
          cases h2
          show IsB (if j = j then Tn else tb j) _
          rw [if_pos rfl]
          exact hIs
        · show IsB (if j = i then Tn else tb j) _
          rw [if_neg c1]
          exact hTb j y (by omega) h2
      · rw [e1] at h1
        have e : (if j = i then Tn else tb j) s = some v := e
        by_cases c1 : j = i
        · subst c1
          rw [if_pos rfl] at e
          exact cand_len pl.fo ex kbn (hIs.mem s v e)
        · rw [if_neg c1] at e
          exact hbn j (by omega) h2 s v e
  · rintro σ H3 ⟨t10, t11, t12, B, m, R, tb, rfl, sB, hh, hFo, hRt, hTb, hbn⟩
    rw [List.length_map, Nat.sub_self] at hFo hRt hTb hbn
    rw [List.drop_zero] at hFo
    obtain rfl : m = 1 := Fo.uniq hFo pl.fo
    have hRl := paired_len hRt
    rw [rts_len] at hRl
    obtain ⟨a0, rfl⟩ := List.length_eq_one_iff.mp hRl
    have e0 : rts (wt rows l) 0 1 = [0] := by
      show [0 + sp 0 _] = [0]
      rw [sp_zero]
    rw [e0] at hRt
    cases hRt with
    | cons tA _ =>
      obtain ⟨g2, h4⟩ := hh.give
      have eS : upd B S (.lst ([a0].reverse.map V.ref)) S = some (.lst [.ref a0]) := upd_same
      have s0 := (s02.trans sB).trans g2
      have s2b := sB.trans g2
      have tA := tA.mono g2
      generalize upd B S (.lst ([a0].reverse.map V.ref)) = B1 at *
      obtain ⟨pr0, ha0, hpr0, etb⟩ := tA
      have etb : tb 0 = lookP pr0 := etb
      obtain ⟨dT, tm, tr, ob, _, hz, _, _, hmk, _, _⟩ := hz0
      refine fun D3 hD3 => ?_
      have h5 := h4.new (o := .dK []) hD3
      simp only [List.set_cons_succ, List.set_cons_zero]
      refine ⟨_, rfl, z, _, _, .ref tm, rfl, rfl, SqL.of ((s0.trans h5.sub) _ _ hz), atI_nat (j := 2) rfl, tm, rfl, ⟨_, SqL.of ((s0.trans h5.sub) _ _ hmk)⟩, for_list (K := K) (xs := vN d.marks)
        (fun i σ H' => ∃ (t14 : Option V) (B : Hp) (en : List Ent), σ = [some (.ref q), some (.ref ad), some (.ref z), some (.int c), some (.ref sw), some (.ref p), some (.int (fa rows [] 1 0 l)), some (.ref rk), some (.ref st), some (.ref S), t10, t11, t12, some (.ref D3), t14] ∧ Same B1 B ∧ Hs B [(D3, .dK (tabE en))] H' ∧ LPr K B rows 1 en ∧ IsB (lookP en) (fun s v => s = 0 ∧ ∃ m ∈ d.marks.take i, tb 0 m = some v))
        ⟨none, B1, [], rfl, Same.refl _, h5, LPr.nil, IsB.empty.congr fun s v => ⟨fun z => z.elim, fun ⟨_, _, hm, _⟩ => by simp at hm⟩⟩ (fun _ _ _ _ ⟨_, _, _, _, s, y, _⟩ => SqL.of (y.sub _ _ (s _ _ (s0 _ _ hmk)))) ?_ ?_⟩
      · rintro i v σ H4 hv ⟨t14, B2, en, rfl, s2', h6, hen, hI⟩
        obtain ⟨k, ek, rfl⟩ := map_at hv
        have etk : d.marks.take (i + 1) = d.marks.take i ++ [k] := by rw [List.take_succ, ek]; rfl
        have sS := SqL.of (K := K) ((s2'.trans h6.sub) _ _ eS)
        have hdk := (s2'.trans h6.sub) _ _ ha0
        simp only [List.set_cons_succ, List.set_cons_zero]
        refine ⟨_, rfl, _, rfl, S, _, _, .ref a0, rfl, rfl, sS, atI_nat (j := 0) rfl, a0, _, rfl, DGet.k (k := Sum.inl ((k : Nat) : Int)) hdk, _, rfl, ?_⟩
        rw [valV_tabE]
        cases e : lookP pr0 k with
        | none =>
          rw [look_none e]
          refine iteF ⟨_, B2, en, rfl, s2', h6, hen, hI.congr fun s v => ?_⟩
          rw [etk]
          constructor
          · rintro ⟨y0, m, hm, y⟩
            exact ⟨y0, m, List.mem_append_left _ hm, y⟩
          · rintro ⟨y0, m, hm, y⟩
            rcases List.mem_append.mp hm with hm | hm
            · exact ⟨y0, m, hm, y⟩
            · rw [List.mem_singleton.mp hm, etb, e] at y
              cases y
        | some v =>
          obtain ⟨qe, hqm, hf⟩ := look_some e
          rw [hf]
          obtain ⟨b2, ml, tq, tbb, km, mll, ev⟩ := hpr0.at_ _ hqm
          have tq : SqT K B1 qe [.int v.1, .ref b2] := tq
          have ev : v = vP rows v.1 ml := ev
          have dg : DGet H4 a0 (.int ((k : Nat) : Int)) (some (.ref qe)) := by
            have := DGet.k (k := (Sum.inl ((k : Nat) : Int) : Key)) hdk
            rw [valV_tabE, hf] at this
            exact this
          have tq4 := Same.sqt (s2'.trans h6.sub) tq
          refine iteT ⟨_, rfl, _, rfl, _, rfl, S, _, _, .ref a0, rfl, rfl, sS, atI_nat (j := 0) rfl, _, rfl, a0, .ref qe, rfl, dg, qe, _, _, _, rfl, rfl, tq4, atI_nat (j := 0) rfl, _, rfl, S, _, _, .ref a0, rfl, rfl, sS, atI_nat (j := 0) rfl, _, rfl, a0, .ref qe, rfl, dg, qe, _, _, _, rfl, rfl, tq4, atI_nat (j := 1) rfl, rk, D3, b2, 0, 1, v.1, rows, ml, B2, en, rfl, (s2b.trans s2') _ _ hrk2, h6, hen, by decide, by decide, Same.sqt s2' tbb, km, mll, fun B' en' H' bo s' h' p' e' => ?_⟩
          refine ⟨_, B', en', rfl, s2'.trans s', h', p', ?_⟩
          rw [e', ← ev]
          refine (hI.step _ _).congr fun s u => ?_
          rw [etk]
          constructor
          · rintro (⟨y0, m, hm, y⟩ | ⟨y0, y⟩)
            · exact ⟨y0, m, List.mem_append_left _ hm, y⟩
            · exact ⟨y0, k, List.mem_append_right _ (List.mem_singleton.mpr rfl), by rw [etb, e, y]⟩
          · rintro ⟨y0, m, hm, y⟩
            rcases List.mem_append.mp hm with hm | hm
            · exact .inl ⟨y0, m, hm, y⟩
            · rw [List.mem_singleton.mp hm, etb, e] at y
              exact .inr ⟨y0, (Option.some.inj y).symm⟩
      · rintro σ H4 ⟨t14, B2, en, rfl, s2', h6, hen, hI⟩
        rw [show (vN d.marks).length = d.marks.length from List.length_map .., List.take_length] at hI
        have sH4 := (s0.trans s2').trans h6.sub
        refine ⟨_, rfl, D3, _, rfl, DGet.k (k := Sum.inl (((0 : Nat) : Nat) : Int)) h6.r0, _, rfl, ?_⟩
        rw [valV_tabE]
        cases e : lookP en 0 with
        | none =>
          rw [look_none e]
          refine iteF ⟨(by show 2 ≤ sizeLine; decide), fun t ht => hq _ t (.inr none) (sH4.trans (up_same ht)) ⟨c0, tb, hTb, fun m hm => ?_⟩ (SqT.of upd_same)⟩
          cases f : tb 0 m with
          | none => rfl
          | some u =>
            obtain ⟨o, eo, _⟩ := hI.le 0 u ⟨rfl, m, hm, f⟩
            rw [e] at eo
            cases eo
        | some v =>
          obtain ⟨qe, hqm, hf⟩ := look_some e
          rw [hf]
          obtain ⟨b2, ml, tq, tbb, km, mll, ev⟩ := hen.at_ _ hqm
          have tq : SqT K B2 qe [.int v.1, .ref b2] := tq
          have ev : v = vP rows v.1 ml := ev
          have dg : DGet H4 D3 (.int 0) (some (.ref qe)) := by
            have := DGet.k (k := (Sum.inl (((0 : Nat) : Nat) : Int) : Key)) h6.r0
            rw [valV_tabE, hf] at this
            exact this
          have ew : v.2.map (kdW rows) = ml := by
            rw [ev]
            show (ml.map (rkD rows)).map (kdW rows) = ml
            rw [List.map_map]
            exact (List.map_congr_left fun y hy => kdW_rk (km y hy)).trans (List.map_id _)
          refine iteT ⟨_, rfl, D3, .ref qe, rfl, dg, (by show 2 ≤ sizeLine; decide), fun t ht => hq _ t (.inr (some v)) (sH4.trans (up_same ht)) ⟨c0, tb, hTb, ?_, fun m hm u f => ?_⟩ ⟨qe, b2, SqT.of upd_same, Same.sqt (h6.sub.trans (up_same ht)) tq, by rw [ew]; exact Same.sqt (h6.sub.trans (up_same ht)) tbb⟩⟩
          · obtain ⟨_, m, hm, f⟩ := hI.mem 0 v e
            exact ⟨m, hm, f⟩
          · obtain ⟨o, eo, lo⟩ := hI.le 0 u ⟨rfl, m, hm, f⟩
            rw [e] at eo
            cases eo
            exact lo
end
end Sy
namespace Sy
open PySem PySem.Spec PyProof.Rows L2
section
variable {P : Program} {w : World} {K : PySem.W.Frag} {mg : Str → Option Value} {base : Heap}
/-- making Prices -/
structure PrcM (P : Program) (w : World) (K : PySem.W.Frag) (mg : Str → Option Value) (base : Heap) : Prop where
  mkP : Mk K (He.ga K "Prices") (He.ma K (He.ga K "Prices") "__init__")
  at_ : mg "Prices" = some (.ref (He.ga K "Prices"))
  fn : FnR P w K mg base (L2.CX P w) 5 (He.ma K (He.ga K "Prices") "__init__") (spStar 3 (spInitP K))
theorem pe_prices {X : Cx} {k : Nat} {p pos : Pos} {e : Expr} {es : List Expr} {t : TA} {E : XK} (M : PrcM X.prog X.w X.K X.mg X.base) (hr : Room k X.A) (tk : Takes X (fun cls d _ H => E cls d H)) (ha : PA X (e :: es) t) (hk : 6 ≤ k := by decide) (hg : Gl X "Prices" := by rfl)
    (he : starEach (e :: es) X.env = (false, eval e X.env) :: starEach es X.env := by rfl) (hpl : (backTo pos (starEach es X.env)).any (·.1) = false := by rfl) : PE X (.Call (.Name "Prices" p) (e :: es) [] pos) (StX.tMakeR (He.ga X.K "Prices") (spStar 3 (spInitP X.K)) E t) :=
  StX.pe_makeR M.mkP M.fn (hr.mono hk) hg M.at_ (fun pins σ H s e s' I h => passAt tk σ pins H s e s' I h) ha (by decide) he hpl
theorem prc_of {b : Addr} {c : Int} {as : List Addr} {H : Hp} {Q : VK} {E : XK} {rows : List Sy.Row} {sws : List Swp} (hb : BedAt K H b rows) (ok : RowsOk rows) (hp : Paired (SwAt K H) as sws) (hl : sws.length ≤ 1000)
    (h : prDue rows c sws = none → ∀ H' a, Same H H' → PrcAt K H' a b c rows sws → Q (.ref a) H') (hE : ∀ e, prDue rows c sws = some e → RaE K e H E) :
    ∀ x dx, H x = Option.none → H dx = Option.none → dx ≠ x → spStar 3 (spInitP K) (V.ref x :: V.ref b :: V.int c :: as.map V.ref) (upd (upd H dx (.own x)) x (.ins (He.ga K "Prices") dx [])) (fun v H2 => v = .non ∧ Q (.ref x) H2) E := by
  intro x dx hx hdx ne
  have hpl := paired_len hp
  have s1 : Same H (upd H dx (.own x)) := up_same hdx
  have hx1 : (upd H dx (.own x)) x = none := by rw [upd_ne ne.symm]; exact hx
  have s2 : Same H (upd (upd H dx (.own x)) x (.ins (He.ga K "Prices") dx [])) := s1.trans (up_same hx1)
  refine ⟨[.ref x, .ref b, .int c], as.map V.ref, rfl, rfl, by rw [List.length_map, sizeLine_eq]; omega, fun p hp' => ?_⟩
  have s3 := s2.trans (up_same (o := .tup (as.map V.ref)) hp')
  have nx : x ≠ p := fun z => by rw [← z, upd_same] at hp'; cases hp'
  have sk : ∀ {H' : Hp}, Keep x (upd (upd (upd H dx (.own x)) x (.ins (He.ga K "Prices") dx [])) p (.tup (as.map V.ref))) H' → Same H H' := fun keep b o e => keep b o (fun z => by rw [z, hx] at e; cases e) (s3 _ _ e)
  exact ⟨x, b, p, dx, c, as, rows, sws, rfl, by rw [upd_ne nx]; exact upd_same, hb.mono (Stay.of s3), ok, SqT.of upd_same, Paired.mapP hp fun _ _ z => Same.sqt s3 z, hl, fun he H' keep bed => ⟨rfl, h he H' x (sk keep) bed⟩,
    fun e he d H' fs keep hd hf => hE e he d H' fs (sk keep) hd hf⟩
/-! _law_made_prices -/
def spMadeP (K : PySem.W.Frag) : Sp := fun vs H Q E => ∃ (b q : Addr) (c : Int) (rows : List Sy.Row) (sws : List Swp), vs = [.ref b, .int c, .ref q] ∧ BedAt K H b rows ∧ RowsOk rows ∧ SL K H q sws ∧ sws.length ≤ 6 ∧
  (prDue rows c sws = none → ∀ H' a, Same H H' → PrcAt K H' a b c rows sws → Q (.ref a) H') ∧ (∀ e, prDue rows c sws = some e → RaE K e H E)
theorem len5 {α : Type} : ∀ {l : List α}, l.length = 5 → ∃ a b c d e, l = [a, b, c, d, e]
  | [a, b, c, d, e], _ => ⟨a, b, c, d, e, rfl⟩
theorem len6 {α : Type} : ∀ {l : List α}, l.length = 6 → ∃ a b c d e f, l = [a, b, c, d, e, f]
  | [a, b, c, d, e, f], _ => ⟨a, b, c, d, e, f, rfl⟩
theorem sc_madeP : FnScope ["_law_bed", "_law_cutting", "_law_swaps_here"] ["_law_bed", "_law_cutting", "_law_swaps_here"] (defScope (top 65)) := ⟨rfl, rfl, rfl, by decide +kernel, rfl, by decide +kernel, by decide +kernel⟩
theorem k_madeP (T : Txt K mg) (M : PrcM P w K mg base) (F : DF K mg "_law_made_prices" 65) : Cal P w K mg base 7 "_law_made_prices" ["_law_bed", "_law_cutting", "_law_swaps_here"] (spMadeP K) := by
  refine cal_of F.1 F.2 sc_madeP (fun _ _ _ _ _ _ us e => match us, e with | [_, _, _], _ => rfl) (fun vs H Q E s => by obtain ⟨_, _, _, _, _, rfl, _⟩ := s; rfl) ?_
  intro cdv A outer s H vs Q E hr h
  obtain ⟨b, q, c, rows, _, rfl, hb, ok, ⟨pr, rfl, hL, hA⟩, hlen, hq, hE⟩ := h
  rw [List.length_map] at hlen
  refine ⟨_, (pss_cons (ps_if (pt_cmpR op_eq (pe_callB call_len_seq (by rfl) T.len (by decide +kernel) (pa_cons (pv 2) pa_nil)) pe_int (nomark _))
        (pss_one (ps_ret (pe_prices M hr (takes_of rfl rfl rfl rfl) (pa_cons (pv 0) (pa_cons (pv 1) pa_nil)))))
        pss_nil)
      (pss_cons (ps_if (pt_cmpR op_eq (pe_callB call_len_seq (by rfl) T.len (by decide +kernel) (pa_cons (pv 2) pa_nil)) pe_int (nomark _))
        (pss_one (ps_ret (pe_prices M hr (takes_of rfl rfl rfl rfl) (pa_cons (pv 0) (pa_cons (pv 1) (pa_cons (pe_ix ix_list (pv 2) pe_int (fun _ _ => rfl)) pa_nil))))))
        pss_nil)
      (pss_cons (ps_if (pt_cmpR op_eq (pe_callB call_len_seq (by rfl) T.len (by decide +kernel) (pa_cons (pv 2) pa_nil)) pe_int (nomark _))
        (pss_one (ps_ret (pe_prices M hr (takes_of rfl rfl rfl rfl) (pa_cons (pv 0) (pa_cons (pv 1) (pa_cons (pe_ix ix_list (pv 2) pe_int (fun _ _ => rfl)) (pa_cons (pe_ix ix_list (pv 2) pe_int (fun _ _ => rfl)) pa_nil)))))))
        pss_nil)
      (pss_cons (ps_if (pt_cmpR op_eq (pe_callB call_len_seq (by rfl) T.len (by decide +kernel) (pa_cons (pv 2) pa_nil)) pe_int (nomark _))
        (pss_one (ps_ret (pe_prices M hr (takes_of rfl rfl rfl rfl) (pa_cons (pv 0) (pa_cons (pv 1) (pa_cons (pe_ix ix_list (pv 2) pe_int (fun _ _ => rfl)) (pa_cons (pe_ix ix_list (pv 2) pe_int (fun _ _ => rfl)) (pa_cons (pe_ix ix_list (pv 2) pe_int (fun _ _ => rfl)) pa_nil))))))))
        pss_nil)
      (pss_cons (ps_if (pt_cmpR op_eq (pe_callB call_len_seq (by rfl) T.len (by decide +kernel) (pa_cons (pv 2) pa_nil)) pe_int (nomark _))
        (pss_one (ps_ret (pe_prices M hr (takes_of rfl rfl rfl rfl) (pa_cons (pv 0) (pa_cons (pv 1) (pa_cons (pe_ix ix_list (pv 2) pe_int (fun _ _ => rfl)) (pa_cons (pe_ix ix_list (pv 2) pe_int (fun _ _ => rfl)) (pa_cons (pe_ix ix_list (pv 2) pe_int (fun _ _ => rfl)) (pa_cons (pe_ix ix_list (pv 2) pe_int (fun _ _ => rfl)) pa_nil)))))))))
        pss_nil)
      (pss_cons (ps_if (pt_cmpR op_eq (pe_callB call_len_seq (by rfl) T.len (by decide +kernel) (pa_cons (pv 2) pa_nil)) pe_int (nomark _))
        (pss_one (ps_ret (pe_prices M hr (takes_of rfl rfl rfl rfl) (pa_cons (pv 0) (pa_cons (pv 1) (pa_cons (pe_ix ix_list (pv 2) pe_int (fun _ _ => rfl)) (pa_cons (pe_ix ix_list (pv 2) pe_int (fun _ _ => rfl)) (pa_cons (pe_ix ix_list (pv 2) pe_int (fun _ _ => rfl)) (pa_cons (pe_ix ix_list (pv 2) pe_int (fun _ _ => rfl)) (pa_cons (pe_ix ix_list (pv 2) pe_int (fun _ _ => rfl)) pa_nil))))))))))
        pss_nil)
      (pss_one (ps_ret (pe_prices M hr (takes_of rfl rfl rfl rfl) (pa_cons (pv 0) (pa_cons (pv 1) (pa_cons (pe_ix ix_list (pv 2) pe_int (fun _ _ => rfl)) (pa_cons (pe_ix ix_list (pv 2) pe_int (fun _ _ => rfl)) (pa_cons (pe_ix ix_list (pv 2) pe_int (fun _ _ => rfl)) (pa_cons (pe_ix ix_list (pv 2) pe_int (fun _ _ => rfl)) (pa_cons (pe_ix ix_list (pv 2) pe_int (fun _ _ => rfl)) (pa_cons (pe_ix ix_list (pv 2) pe_int (fun _ _ => rfl)) pa_nil))))))))))))))))), ?_⟩
  have hS := SqL.of (K := K) hL
  have hPp := sw_paired hA
  have hl1000 : (pr.map (·.2)).length ≤ 1000 := by rw [List.length_map]; omega
  have hl' : (pr.map fun z => V.ref z.1).length = pr.length := List.length_map ..
  have no : ∀ n : Nat, ¬ (V.int (((pr.map fun z => V.ref z.1).length : Nat) : Int) = V.int ((n : Nat) : Int)) → pr.length ≠ n := fun n c z => c (by rw [hl', z])
  refine ⟨_, rfl, q, _, rfl, .inl hS, rfl, _, rfl, if_dec (fun z => ?_) (fun z0 => ?_)⟩
  · have z : pr.length = 0 := by have := V.int.inj z; omega
    obtain rfl := List.length_eq_zero_iff.mp z
    exact ⟨_, rfl, _, rfl, prc_of (as := []) hb ok hPp hl1000 hq hE⟩
  refine ⟨_, rfl, q, _, rfl, .inl hS, rfl, _, rfl, if_dec (fun z => ?_) (fun z1 => ?_)⟩
  · have z : pr.length = 1 := by have := V.int.inj z; omega
    obtain ⟨x, rfl⟩ := List.length_eq_one_iff.mp z
    exact ⟨_, rfl, _, rfl, _, rfl, q, _, _, _, rfl, rfl, hS, atI_nat (j := 0) rfl, prc_of (as := [x.1]) hb ok hPp hl1000 hq hE⟩
  refine ⟨_, rfl, q, _, rfl, .inl hS, rfl, _, rfl, if_dec (fun z => ?_) (fun z2 => ?_)⟩
  · have z : pr.length = 2 := by have := V.int.inj z; omega
    obtain ⟨x, y, rfl⟩ := len2 z
    exact ⟨_, rfl, _, rfl, _, rfl, q, _, _, _, rfl, rfl, hS, atI_nat (j := 0) rfl, _, rfl, q, _, _, _, rfl, rfl, hS, atI_nat (j := 1) rfl, prc_of (as := [x.1, y.1]) hb ok hPp hl1000 hq hE⟩
  refine ⟨_, rfl, q, _, rfl, .inl hS, rfl, _, rfl, if_dec (fun z => ?_) (fun z3 => ?_)⟩
  · have z : pr.length = 3 := by have := V.int.inj z; omega
    obtain ⟨x, y, u, rfl⟩ := len3 z
    exact ⟨_, rfl, _, rfl, _, rfl, q, _, _, _, rfl, rfl, hS, atI_nat (j := 0) rfl, _, rfl, q, _, _, _, rfl, rfl, hS, atI_nat (j := 1) rfl, _, rfl, q, _, _, _, rfl, rfl, hS, atI_nat (j := 2) rfl, prc_of (as := [x.1, y.1, u.1]) hb ok hPp hl1000 hq hE⟩
  refine ⟨_, rfl, q, _, rfl, .inl hS, rfl, _, rfl, if_dec (fun z => ?_) (fun z4 => ?_)⟩
  · have z : pr.length = 4 := by have := V.int.inj z; omega
    obtain ⟨x, y, u, v, rfl⟩ := len4 z
    exact ⟨_, rfl, _, rfl, _, rfl, q, _, _, _, rfl, rfl, hS, atI_nat (j := 0) rfl, _, rfl, q, _, _, _, rfl, rfl, hS, atI_nat (j := 1) rfl, _, rfl, q, _, _, _, rfl, rfl, hS, atI_nat (j := 2) rfl, _, rfl, q, _, _, _, rfl, rfl, hS, atI_nat (j := 3) rfl, prc_of (as := [x.1, y.1, u.1, v.1]) hb ok hPp hl1000 hq hE⟩
  refine ⟨_, rfl, q, _, rfl, .inl hS, rfl, _, rfl, if_dec (fun z => ?_) (fun z5 => ?_)⟩
  · have z : pr.length = 5 := by have := V.int.inj z; omega
    obtain ⟨x, y, u, v, r, rfl⟩ := len5 z
    exact ⟨_, rfl, _, rfl, _, rfl, q, _, _, _, rfl, rfl, hS, atI_nat (j := 0) rfl, _, rfl, q, _, _, _, rfl, rfl, hS, atI_nat (j := 1) rfl, _, rfl, q, _, _, _, rfl, rfl, hS, atI_nat (j := 2) rfl, _, rfl, q, _, _, _, rfl, rfl, hS, atI_nat (j := 3) rfl, _, rfl, q, _, _, _, rfl, rfl, hS, atI_nat (j := 4) rfl, prc_of (as := [x.1, y.1, u.1, v.1, r.1]) hb ok hPp hl1000 hq hE⟩
  have n0 := no 0 z0
  have n1 := no 1 z1
  have n2 := no 2 z2
  have n3 := no 3 z3
  have n4 := no 4 z4
  have n5 := no 5 z5
  obtain ⟨x, y, u, v, r, t, rfl⟩ := len6 (l := pr) (by omega)
  exact ⟨_, rfl, _, rfl, _, rfl, q, _, _, _, rfl, rfl, hS, atI_nat (j := 0) rfl, _, rfl, q, _, _, _, rfl, rfl, hS, atI_nat (j := 1) rfl, _, rfl, q, _, _, _, rfl, rfl, hS, atI_nat (j := 2) rfl, _, rfl, q, _, _, _, rfl, rfl, hS, atI_nat (j := 3) rfl, _, rfl, q, _, _, _, rfl, rfl, hS, atI_nat (j := 4) rfl, _, rfl, q, _, _, _, rfl, rfl, hS, atI_nat (j := 5) rfl, prc_of (as := [x.1, y.1, u.1, v.1, r.1, t.1]) hb ok hPp hl1000 hq hE⟩
end
theorem prScan_ok {rows : List Sy.Row} : ∀ {l : List Swp} {sn : List (Str × Str)} {i : Nat}, (∀ s ∈ l, swOk rows s = true) → (sn ++ l.map pr2).Nodup → prScan rows sn i l = none
  | [], _, _, _, _ => rfl
  | s :: l, sn, i, h, hn => by
    rw [prScan]
    have e : sn ++ (s :: l).map pr2 = (sn ++ [(s.1, s.2.1)]) ++ l.map pr2 := by rw [List.append_assoc]; rfl
    have hnot : (s.1, s.2.1) ∉ sn := fun z => by
      rw [List.nodup_append] at hn
      exact hn.2.2 _ z _ (by rw [List.map_cons]; exact List.mem_cons_self) rfl
    rw [if_pos ⟨h s List.mem_cons_self, hnot⟩]
    rw [e] at hn
    exact prScan_ok (fun q hq => h q (List.mem_cons_of_mem _ hq)) hn
theorem SwsOk.due {rows : List Sy.Row} {c : Int} {l : List Swp} (h : SwsOk rows l) (hc : 0 ≤ c ∧ c ≤ 1000) : prDue rows c l = none := by
  unfold prDue
  rw [if_pos (prOk_iff.mpr hc), prScan_ok h.ok (by simpa using h.nd)]
  rfl
theorem same_del {H H' : Hp} {g : Addr} (hg : H g = none) (s : Same H H') : Same H (L2.del H' g) := fun a o e => by
  rw [del_ne (fun z => by rw [z, hg] at e; cases e)]
  exact s a o e
theorem cut_del (H : Hp) (g : Addr) (o : HO) : cut [(g, o)] H = L2.del H g := by
  funext a
  unfold cut L2.del
  simp
theorem Hs.ne0 {B H : Hp} {g a : Addr} {o w : HO} {L : List (Addr × HO)} (h : Hs B ((g, o) :: L) H) (e : B a = some w) : a ≠ g := fun z => by
  have := h.ap _ List.mem_cons_self
  rw [z] at e
  rw [this] at e
  cases e
section
variable {K : PySem.W.Frag}
theorem Hs.drT {B H H' : Hp} {g : Addr} {o : HO} (h : Hs B [(g, o)] H) (d : Dr g H H') : ∃ l B', BagOk l ∧ Same B B' ∧ Hs B' [(g, .lst (l.map V.int))] H' ∧ (∀ a xs, SqT K H' a xs → SqT K B' a xs) ∧ (∀ q sws, q ≠ g → SL K H' q sws → SL K B' q sws) ∧ ∀ q rows, q ≠ g → RL K H' q rows → RL K B' q rows := by
  obtain ⟨l, B', hl, s, h', e⟩ := h.dr0 d
  rw [cut_del] at e
  subst e
  exact ⟨l, _, hl, s, h', fun a xs t => sqt_delL t h'.r0, fun q sws n t => t.del n h'.r0, fun q rows n t => t.del n h'.r0⟩
/-- what the law keeps -/
structure LwB (K : PySem.W.Frag) (B : Hp) (q d b : Addr) (rows : List Sy.Row) : Prop where
  rl : RL K B q rows
  hd : B d = some (.dK (arKV rows))
  bed : BedAt K B b rows
theorem LwB.mono {B B' : Hp} {q d b : Addr} {rows : List Sy.Row} (h : LwB K B q d b rows) (s : Same B B') : LwB K B' q d b rows := ⟨h.rl.mono s, s _ _ h.hd, h.bed.mono (Stay.of s)⟩
theorem RL.ex {B : Hp} {q : Addr} {rows : List Sy.Row} (h : RL K B q rows) : ∃ w, B q = some w := by
  obtain ⟨pr, _, h2, _⟩ := h
  exact ⟨_, h2⟩
theorem SL.ex {B : Hp} {q : Addr} {sws : List Swp} (h : SL K B q sws) : ∃ w, B q = some w := by
  obtain ⟨pr, _, h2, _⟩ := h
  exact ⟨_, h2⟩
end
theorem Pln.len1 {rows : List Sy.Row} {l : List Str} (h : Pln rows l) : 1 ≤ l.length := by
  have := Fo.pos h.fo
  rw [wt_len] at this
  exact this
theorem SwsOk.sok {rows : List Sy.Row} {sws : List Swp} {most : Nat} (rl : RowsL rows most) (h : SwsOk rows sws) : ∀ s ∈ sws, SwOkS s := fun s hs => by
  have := swOk_i (h.ok s hs)
  exact ⟨(isK_wd rl this.1).sok, (isK_wd rl this.2.1).sok⟩
end Sy
namespace Sy
open PySem PySem.Spec PyProof.Rows L2
section
variable {K : PySem.W.Frag} {H : Hp} {a b : Addr} {xs ys : List V} {Q : VK}
theorem rep_any {k : Nat} {zs : List V} (hz : (List.replicate k xs).flatten = zs) (h : SqT K H a xs) (hk : k ≤ 1000000) (hl : xs.length ≤ 1000) (hkl : xs.length * k ≤ 1000000) (q : ∀ p H', Same H H' → SqT K H' p zs → Q (.ref p) H') : rRepG K (.ref a) (.int (k : Nat)) H Q := by
  subst hz
  refine ⟨a, _, xs, rfl, rfl, h, by omega, by omega, by rw [Int.toNat_natCast]; exact hkl, by omega, fun c => q _ _ (Same.refl H) ?_, fun _ p hp => q _ _ (up_same hp) (by rw [Int.toNat_natCast]; exact SqT.of upd_same)⟩
  rcases c with c | c
  · subst c
    rw [List.flatten_replicate_nil]
    exact h
  · have : k = 1 := by omega
    subst this
    simpa using h
end
theorem fo_tips : ∀ {s n : Nat} {u : List Nat}, Fo n u → Fo (n + s) (List.replicate s 0 ++ u)
  | 0, n, u, h => h
  | s + 1, n, u, h => by
    show Fo (n + (s + 1)) (0 :: (List.replicate s 0 ++ u))
    rw [show n + (s + 1) = (n + s) + 1 by omega]
    exact fo_tips (s := s) (n := n) h
theorem fo_chain {a side : Nat} (hs : side < a) : ∀ (many n : Nat) {u : List Nat}, Fo (n + 1 + many * (a - 1 - side)) u → Fo (n + 1) ((List.replicate many (a :: List.replicate side 0)).flatten ++ u)
  | 0, n, u, h => by simpa using h
  | many + 1, n, u, h => by
    rw [List.replicate_succ, List.flatten_cons, List.append_assoc]
    show Fo (n + a) (List.replicate side 0 ++ _)
    have e : n + a = (n + (a - 1 - side)) + 1 + side := by omega
    rw [e]
    refine fo_tips (fo_chain hs many (n + (a - 1 - side)) ?_)
    have e2 : n + (a - 1 - side) + 1 + many * (a - 1 - side) = n + 1 + (many + 1) * (a - 1 - side) := by rw [Nat.succ_mul]; omega
    rw [e2]
    exact h
theorem flat_map_rep {α β : Type} (f : α → β) (n : Nat) (l : List α) : (List.replicate n (l.map f)).flatten = ((List.replicate n l).flatten).map f := by
  rw [List.map_flatten, List.map_replicate]
theorem flat_rep_len {α : Type} (n : Nat) (l : List α) : ((List.replicate n l).flatten).length = n * l.length := by
  rw [List.length_flatten, List.map_replicate, List.sum_replicate_nat]
/-- the chain is a plant -/
theorem chain_pln {rows : List Sy.Row} {l : List Str} {x t : Str} {many side : Nat} (hl : Pln rows l) (hx : isK rows x = true) (ht : isK rows t = true) (h0 : ar rows t = 0) (hs : side < ar rows x) (hm : many * ar rows x + l.length ≤ 2000) :
    Pln rows ((List.replicate many (x :: List.replicate side t)).flatten ++ l ++ List.replicate (many * (ar rows x - 1 - side)) t) := by
  have hlen : ((List.replicate many (x :: List.replicate side t)).flatten ++ l ++ List.replicate (many * (ar rows x - 1 - side)) t).length = many * ar rows x + l.length := by
    rw [List.length_append, List.length_append, flat_rep_len, List.length_replicate, List.length_cons, List.length_replicate]
    have e : many * (side + 1) + many * (ar rows x - 1 - side) = many * ar rows x := by
      rw [← Nat.mul_add]
      congr 1
      omega
    generalize many * (side + 1) = u at *
    generalize many * (ar rows x - 1 - side) = v at *
    omega
  refine ⟨?_, fun y hy => ?_, by omega⟩
  · have w1 : ∀ n, wt rows (List.replicate n t) = List.replicate n 0 := fun n => by
      unfold wt
      rw [List.map_replicate, h0]
    have e : wt rows ((List.replicate many (x :: List.replicate side t)).flatten ++ l ++ List.replicate (many * (ar rows x - 1 - side)) t) = (List.replicate many (ar rows x :: List.replicate side 0)).flatten ++ (wt rows l ++ List.replicate (many * (ar rows x - 1 - side)) 0) := by
      rw [List.append_assoc]
      unfold wt at *
      rw [List.map_append, List.map_append, w1, List.map_flatten, List.map_replicate, List.map_cons, w1]
    rw [e]
    refine fo_chain hs many 0 ?_
    rw [Nat.zero_add]
    refine Fo.app hl.fo ?_
    have := fo_tips (s := many * (ar rows x - 1 - side)) (n := 0) (u := []) trivial
    rw [List.append_nil, Nat.zero_add] at this
    exact this
  · rcases List.mem_append.mp hy with hy | hy
    · rcases List.mem_append.mp hy with hy | hy
      · obtain ⟨z, hz, hyz⟩ := List.mem_flatten.mp hy
        rw [List.eq_of_mem_replicate hz] at hyz
        rcases List.mem_cons.mp hyz with rfl | hyz
        · exact hx
        · rw [List.eq_of_mem_replicate hyz]
          exact ht
      · exact hl.kn y hy
    · rw [List.eq_of_mem_replicate hy]
      exact ht
section
variable {P : Program} {w : World} {K : PySem.W.Frag} {mg : Str → Option Value} {base : Heap}
/-! _law_chain -/
def spChain (K : PySem.W.Frag) : Sp := fun vs H Q _ => ∃ (g q p : Addr) (most : Nat) (rows : List Sy.Row) (l : List Str), vs = [.ref g, .ref q, .ref p, .int (most : Nat)] ∧ Bag g H ∧ q ≠ g ∧ RL K H q rows ∧ RowsL rows 4 ∧ most ≤ 1800 ∧ Pln rows l ∧ l.length ≤ 100 ∧ SqT K H p (l.map V.str) ∧
  ∀ l' p' H', Pln rows l' → l'.length ≤ 1950 → Dr g H H' → SqT K H' p' (l'.map V.str) → Q (.ref p') H'
abbrev N_chain : List Str := ["_law_box_here", "_law_kinds_here", "_law_plant_here", "_law_most", "_law_pair", "_law_inner", "_law_way", "_law_side", "_law_tips", "_law_tip", "_law_many", "_law_other"]
theorem sc_chain : FnScope N_chain ["_law_box_here", "_law_kinds_here", "_law_plant_here", "_law_most"] (defScope (top 60)) := ⟨rfl, rfl, rfl, by decide +kernel, rfl, by decide +kernel, by decide +kernel⟩
theorem k_chain (T : Txt K mg) (F : DF K mg "_law_chain" 60) (c_law_pick : Cal P w K mg base 1 "_law_pick" ["_law_box_here", "_law_many"] spDraw) : Cal P w K mg base 2 "_law_chain" ["_law_box_here", "_law_kinds_here", "_law_plant_here", "_law_most"] (spChain K) := by
  refine cal_of F.1 F.2 sc_chain (fun _ _ _ _ _ _ us e => match us, e with | [_, _, _, _], _ => rfl) (fun vs H Q E s => by obtain ⟨_, _, _, _, _, _, rfl, _⟩ := s; rfl) ?_
  intro cdv A outer s H vs Q E hr h
  obtain ⟨g, q, p, most, rows, l, rfl, hg, hqg, hRL, rl, hmost, hpl, hlen, hp, hq⟩ := h
  have sc := sc_chain
  obtain ⟨l0, hl0, h0⟩ := hg.take
  have hp0 : SqT K (L2.del H g) p (l.map V.str) := by
    obtain ⟨l, _, e⟩ := hg
    exact sqt_delL hp e
  obtain ⟨pr, rfl, hL0, hP0⟩ : RL K (L2.del H g) q rows := by
    obtain ⟨l, _, e⟩ := hg
    exact hRL.del hqg e
  generalize hB0 : L2.del H g = B0 at *
  have hle := rl.le
  rw [List.length_map] at hle
  refine ⟨_, (pss_cons (ps_setLc (i := 5) (own := [("_law_pair", 4)]) (g := gName 4) (tt := tTest (tOp (rI0 fun i j => V.bl (decide (j < i))) (tOp (rIxT K) (tVar 4) (tC (.int 1))) (tC (.int 0)))) rfl sc.nd rfl rfl (sw_true rfl rfl rfl (by decide +kernel)) (pi_list (pv 1)) (blkOk_by (N := N_chain) (sc := defScope (top 60)) (by decide +kernel)) (fun _ _ _ _ _ => (pg_name (i := 4) sc.nd rfl (Or.inl rfl))) (fun _ _ _ _ _ => (pts_one (pt_cmpR op_gt (pe_ixTK K rfl (pv 4) pe_int (fun _ _ => rfl)) pe_int (nomark _)))) (fun _ _ _ _ _ => (pv 4)))
      (pss_cons (ps_set (i := 6) sc.nd rfl (Or.inl rfl) (pe_cal c_law_pick hr (pa_cons (pv 0) (pa_cons pe_int pa_nil))))
      (pss_cons (ps_if (PW.pt (pw_or (pt_cmpR op_eq (pe_callB call_len_seq (by rfl) T.len (by decide +kernel) (pa_cons (pv 5) pa_nil)) pe_int (nomark _)) (pw_or1 (pt_cmpR op_lt (pv 6) pe_int (nomark _)))))
        (pss_one (ps_ret (pv 2)))
        pss_nil)
      (pss_cons (ps_set (i := 4) sc.nd rfl (Or.inl rfl) (pe_ix ix_list (pv 5) (pe_cal c_law_pick hr (pa_cons (pv 0) (pa_cons (pe_callB call_len_seq (by rfl) T.len (by decide +kernel) (pa_cons (pv 5) pa_nil)) pa_nil))) (fun _ _ => rfl)))
      (pss_cons (ps_set (i := 7) sc.nd rfl (Or.inl rfl) (pe_cal c_law_pick hr (pa_cons (pv 0) (pa_cons (pe_ix ix_tup (pv 4) pe_int (fun _ _ => rfl)) pa_nil))))
      (pss_cons (ps_setLc (i := 8) (own := [("_law_other", 11)]) (g := gName 11) (tt := tTest (tOp rEq (tOp (rIxT K) (tVar 11) (tC (.int 1))) (tC (.int 0)))) rfl sc.nd rfl rfl (sw_true rfl rfl rfl (by decide +kernel)) (pi_list (pv 1)) (blkOk_by (N := N_chain) (sc := defScope (top 60)) (by decide +kernel)) (fun _ _ _ _ _ => (pg_name (i := 11) sc.nd rfl (Or.inl rfl))) (fun _ _ _ _ _ => (pts_one (pt_cmpR op_eq (pe_ixTK K rfl (pv 11) pe_int (fun _ _ => rfl)) pe_int (nomark _)))) (fun _ _ _ _ _ => (pe_ixTK K rfl (pv 11) pe_int (fun _ _ => rfl))))
      (pss_cons (ps_set (i := 9) sc.nd rfl (Or.inl rfl) (pe_tup (pa_cons (pe_ix ix_list (pv 8) (pe_cal c_law_pick hr (pa_cons (pv 0) (pa_cons (pe_callB call_len_seq (by rfl) T.len (by decide +kernel) (pa_cons (pv 8) pa_nil)) pa_nil))) (fun _ _ => rfl)) pa_nil)))
      (pss_cons (ps_set (i := 10) sc.nd rfl (Or.inl rfl) (pe_op op_add pe_int (pe_cal c_law_pick hr (pa_cons (pv 0) (pa_cons pe_int pa_nil)))))
      (pss_cons (ps_cut (ps_if (pt_cmpR op_gt (pv 6) pe_int (nomark _))
        (pss_one (ps_set (i := 10) sc.nd rfl (Or.inl rfl) (pe_op op_add pe_int (pe_cal c_law_pick hr (pa_cons (pv 0) (pa_cons pe_int pa_nil))))))
        pss_nil))
      (pss_cons (ps_cut (ps_if (pt_cmpR op_eq (pv 6) pe_int (nomark _))
        (pss_one (ps_set (i := 10) sc.nd rfl (Or.inl rfl) (pe_op op_add pe_int (pe_cal c_law_pick hr (pa_cons (pv 0) (pa_cons (pe_callB (call_max2 rfl) (by rfl) T.max (by decide +kernel) (pa_cons pe_int (pa_cons (pe_op op_fdiv (pv 3) (pe_ix ix_tup (pv 4) pe_int (fun _ _ => rfl))) pa_nil))) pa_nil))))))
        pss_nil))
      (pss_one (ps_ret (pe_op op_catA (pe_op op_catA (pe_op op_repG (pe_op op_catA (pe_tup (pa_cons (pe_ix ix_tup (pv 4) pe_int (fun _ _ => rfl)) pa_nil)) (pe_op op_repG (pv 9) (pv 7))) (pv 10)) (pv 2)) (pe_op op_repG (pv 9) (pe_op op_mul (pv 10) (pe_op op_sub (pe_op op_sub (pe_ix ix_tup (pv 4) pe_int (fun _ _ => rfl)) pe_int) (pv 7))))))))))))))))), ?_⟩
  refine ⟨_, rfl, q, rfl, ⟨_, SqL.of (h0.sub _ _ hL0)⟩, fun D1 hD1 => lc_filt (si := 4) (f := fun z : Addr × Sy.Row => V.ref z.1) (out := fun z => V.ref z.1) (keep := fun z => decide (0 < z.2.2)) h0 hD1 (fun _ _ z => z.sub _ _ hL0) (by omega) (fun z hz H' s' R1 R2 k1 k2 => ?_) (fun H1 h1 => ?_)⟩
  · refine ⟨_, rfl, z.1, _, _, _, rfl, rfl, Same.sqt s' (hP0.at_ z hz), atI_nat (j := 1) rfl, _, _, rfl, rfl, _, rfl, if_dec (fun c => ?_) (fun c => ?_)⟩
    · exact ⟨_, rfl, k1 (decide_eq_true (by omega))⟩
    · exact k2 (decide_eq_false (by omega))
  replace h1 := h1.give
  obtain ⟨s1, h1⟩ := h1
  have e1 : (upd B0 D1 (.lst ((pr.filter fun z => decide (0 < z.2.2)).map fun z => V.ref z.1))) D1 = some (.lst ((pr.filter fun z => decide (0 < z.2.2)).map fun z => V.ref z.1)) := upd_same
  generalize upd B0 D1 (.lst ((pr.filter fun z => decide (0 < z.2.2)).map fun z => V.ref z.1)) = B1 at *
  have ilen : (pr.filter fun z => decide (0 < z.2.2)).length ≤ 4 := by
    have := List.length_filter_le (fun z : Addr × Sy.Row => decide (0 < z.2.2)) pr
    omega
  generalize hIn : (pr.filter fun z => decide (0 < z.2.2)) = pI at *
  have imem : ∀ z ∈ pI, z ∈ pr ∧ 0 < z.2.2 := fun z hz => by
    rw [← hIn] at hz
    have := List.mem_filter.mp hz
    exact ⟨this.1, of_decide_eq_true this.2⟩
  have arz : ∀ z ∈ pr, ar (pr.map (·.2)) z.2.1 = z.2.2 ∧ isK (pr.map (·.2)) z.2.1 = true := fun z hz => ar_mem rl.ok.nd (List.mem_map_of_mem hz)
  refine ⟨_, rfl, g, 32, rfl, h1.bag hl0, by decide, by decide, fun way H2 hway d2 => ?_⟩
  obtain ⟨l2, B2, hl2, s2, h2, _⟩ := h1.dr0 d2
  have s02 := s1.trans s2
  refine ⟨_, rfl, D1, _, rfl, .inl (SqL.of (h2.sub _ _ (s2 _ _ e1))), rfl, _, rfl, if_dec (fun c => ?_) (fun c => ?_)⟩
  · exact ⟨_, rfl, hq l p H2 hpl (by omega) (h2.isDr hl2 (by simp) (by rw [hB0]; exact s02)) (Same.sqt (s02.trans h2.sub) hp0)⟩
  have ipos : 0 < pI.length := by
    rw [List.length_map] at c
    rcases Nat.eq_zero_or_pos pI.length with e | e
    · exact absurd (by rw [e]; rfl) c
    · exact e
  refine ⟨_, rfl, _, _, rfl, rfl, _, rfl, if_dec (fun c => ?_) (fun c => ?_)⟩
  · exact ⟨_, rfl, hq l p H2 hpl (by omega) (h2.isDr hl2 (by simp) (by rw [hB0]; exact s02)) (Same.sqt (s02.trans h2.sub) hp0)⟩
  refine ⟨_, rfl, _, rfl, _, rfl, D1, _, rfl, .inl (SqL.of (h2.sub _ _ (s2 _ _ e1))), g, pI.length, by rw [List.length_map], h2.bag hl2, ipos, by omega, fun j3 H3 hj3 d3 => ?_⟩
  obtain ⟨l3, B3, hl3, s3, h3, _⟩ := h2.dr0 d3
  obtain ⟨z, ez⟩ : ∃ z, pI[j3]? = some z := ⟨_, List.getElem?_eq_getElem hj3⟩
  obtain ⟨hz, hz0⟩ := imem _ (List.mem_of_getElem? ez)
  refine ⟨D1, _, _, _, rfl, rfl, SqL.of (h3.sub _ _ (s3 _ _ (s2 _ _ e1))), atI_nat (by rw [List.getElem?_map, ez]; rfl), ?_⟩
  have s03 := s02.trans s3
  have tz : ∀ {H' : Hp}, Same B3 H' → SqT K H' z.1 [.str z.2.1, .int (z.2.2 : Nat)] := fun s' => Same.sqt (s03.trans s') (hP0.at_ _ hz)
  have hz3 : z.2.2 ≤ 3 := rl.ok.br _ (List.mem_map_of_mem hz)
  refine ⟨_, rfl, _, rfl, z.1, _, _, _, rfl, rfl, tz h3.sub, atI_nat (j := 1) rfl, g, z.2.2, rfl, h3.bag hl3, hz0, by omega, fun side H4 hside d4 => ?_⟩
  obtain ⟨l4, B4, hl4, s4, h4, _⟩ := h3.dr0 d4
  have s04 := s03.trans s4
  refine ⟨_, rfl, q, rfl, ⟨_, SqL.of (h4.sub _ _ (s04 _ _ hL0))⟩, fun D5 hD5 => lc_filt (si := 11) (f := fun z : Addr × Sy.Row => V.ref z.1) (out := fun z => V.str z.2.1) (keep := fun z => decide (z.2.2 = 0)) h4 hD5 (fun _ _ z => z.sub _ _ (s04 _ _ hL0)) (by omega) (fun z hz H' s' R1 R2 k1 k2 => ?_) (fun H5 h5 => ?_)⟩
  · refine ⟨_, rfl, z.1, _, _, _, rfl, rfl, Same.sqt (s04.trans s') (hP0.at_ z hz), atI_nat (j := 1) rfl, rfl, _, rfl, if_dec (fun c => ?_) (fun c => ?_)⟩
    · exact ⟨_, rfl, z.1, _, _, _, rfl, rfl, Same.sqt (s04.trans s') (hP0.at_ z hz), atI_nat (j := 0) rfl, k1 (decide_eq_true (by have := V.int.inj c; omega))⟩
    · exact k2 (decide_eq_false (fun z => c (by rw [z]; rfl)))
  replace h5 := h5.give
  obtain ⟨s5, h5⟩ := h5
  have e5 : (upd B4 D5 (.lst ((pr.filter fun z => decide (z.2.2 = 0)).map fun z => V.str z.2.1))) D5 = some (.lst ((pr.filter fun z => decide (z.2.2 = 0)).map fun z => V.str z.2.1)) := upd_same
  generalize upd B4 D5 (.lst ((pr.filter fun z => decide (z.2.2 = 0)).map fun z => V.str z.2.1)) = B5 at *
  have tpos : 0 < (pr.filter fun z => decide (z.2.2 = 0)).length := by
    obtain ⟨r, hr', e⟩ := rl.ok.lf
    obtain ⟨z, hz, rfl⟩ := List.mem_map.mp hr'
    exact List.length_pos_of_mem (List.mem_filter.mpr ⟨hz, decide_eq_true e⟩)
  have tlen : (pr.filter fun z => decide (z.2.2 = 0)).length ≤ 4 := by
    have := List.length_filter_le (fun z : Addr × Sy.Row => decide (z.2.2 = 0)) pr
    omega
  generalize hTp : (pr.filter fun z => decide (z.2.2 = 0)) = pT at *
  refine ⟨_, rfl, _, rfl, _, rfl, D5, _, rfl, .inl (SqL.of (h5.sub _ _ e5)), g, pT.length, by rw [List.length_map], h5.bag hl4, tpos, by omega, fun j6 H6 hj6 d6 => ?_⟩
  obtain ⟨l6, B6, hl6, s6, h6, _⟩ := h5.dr0 d6
  obtain ⟨y, ey⟩ : ∃ z, pT[j6]? = some z := ⟨_, List.getElem?_eq_getElem hj6⟩
  have hy : y ∈ pr ∧ y.2.2 = 0 := by
    have := List.mem_of_getElem? ey
    rw [← hTp] at this
    have := List.mem_filter.mp this
    exact ⟨this.1, of_decide_eq_true this.2⟩
  refine ⟨D5, _, _, _, rfl, rfl, SqL.of (h6.sub _ _ (s6 _ _ e5)), atI_nat (by rw [List.getElem?_map, ey]; rfl), (by show 1 ≤ sizeLine; decide), fun TP hTP => ?_⟩
  have h7 := h6.tup (o := .tup [.str y.2.1]) hTP
  have s7 : Same B6 (upd B6 TP (.tup [.str y.2.1])) := up_same (h6.sub.free hTP)
  have t7 : SqT K (upd B6 TP (.tup [.str y.2.1])) TP [.str y.2.1] := SqT.of upd_same
  generalize upd B6 TP (.tup [.str y.2.1]) = B7 at *
  have s57 := (s5.trans s6).trans s7
  have s07 := s04.trans s57
  have s37 := s4.trans s57
  refine ⟨_, rfl, g, 4, rfl, h7.bag hl6, by decide, by decide, fun m8 H8 hm8 d8 => ?_⟩
  obtain ⟨l8, B8, hl8, s8, h8, _⟩ := h7.dr0 d8
  refine ⟨_, _, rfl, rfl, ?_⟩
  refine ⟨fun σ' H' => ∃ (many : Nat) (B : Hp) (lb : List Int), many ≤ 40 ∧ σ' = [some (.ref g), some (.ref q), some (.ref p), some (.int (most : Nat)), some (.ref z.1), some (.ref D1), some (.int (way : Nat)), some (.int (side : Nat)), some (.ref D5), some (.ref TP), some (.int (many : Nat)), none] ∧ BagOk lb ∧ Same B7 B ∧ Hs B [(g, .lst (lb.map V.int))] H', ⟨_, rfl, _, _, rfl, rfl, _, rfl, if_dec (fun c => ?_) (fun c => ?_)⟩, ?_⟩
  · refine ⟨_, rfl, g, 40, rfl, h8.bag hl8, by decide, by decide, fun m9 H9 hm9 d9 => ?_⟩
    obtain ⟨l9, B9, hl9, s9, h9, _⟩ := h8.dr0 d9
    exact ⟨_, _, rfl, rfl, 1 + m9, B9, l9, by omega, rfl, hl9, s8.trans s9, h9⟩
  · exact ⟨1 + m8, B8, l8, by omega, rfl, hl8, s8, h8⟩
  rintro σ' H9 ⟨many, B9, l9, hmany, rfl, hl9, s9, h9⟩
  refine ⟨fun σ' H' => ∃ (many : Nat) (B : Hp) (lb : List Int), many * z.2.2 ≤ 1800 ∧ σ' = [some (.ref g), some (.ref q), some (.ref p), some (.int (most : Nat)), some (.ref z.1), some (.ref D1), some (.int (way : Nat)), some (.int (side : Nat)), some (.ref D5), some (.ref TP), some (.int (many : Nat)), none] ∧ BagOk lb ∧ Same B7 B ∧ Hs B [(g, .lst (lb.map V.int))] H', ⟨_, rfl, rfl, _, rfl, if_dec (fun c => ?_) (fun c => ?_)⟩, ?_⟩
  · have hmx : (if (((most : Nat) : Int) / ((z.2.2 : Nat) : Int)) > 1 then (((most : Nat) : Int) / ((z.2.2 : Nat) : Int)) else 1) = ((max 1 (most / z.2.2) : Nat) : Int) := by
      have e : ((most : Nat) : Int) / ((z.2.2 : Nat) : Int) = ((most / z.2.2 : Nat) : Int) := by omega
      rw [e]
      split <;> omega
    have hdiv := Nat.div_mul_le_self most z.2.2
    have hdl := Nat.div_le_self most z.2.2
    refine ⟨_, rfl, _, rfl, _, rfl, z.1, _, _, _, rfl, rfl, tz ((s37.trans s9).trans h9.sub), atI_nat (j := 1) rfl, _, _, rfl, rfl, ⟨by omega, by omega⟩, _, _, rfl, g, max 1 (most / z.2.2), by rw [hmx], h9.bag hl9, by omega, by omega, fun m10 H10 hm10 d10 => ?_⟩
    obtain ⟨l10, B10, hl10, s10, h10, _⟩ := h9.dr0 d10
    refine ⟨_, _, rfl, rfl, 1 + m10, B10, l10, ?_, rfl, hl10, s9.trans s10, h10⟩
    by_cases c3 : 1 ≤ most / z.2.2
    · rw [Nat.max_eq_right c3] at hm10
      have : (1 + m10) * z.2.2 ≤ most / z.2.2 * z.2.2 := Nat.mul_le_mul_right _ (by omega)
      omega
    · rw [Nat.max_eq_left (by omega)] at hm10
      have : m10 = 0 := by omega
      subst this
      omega
  · refine ⟨many, B9, l9, ?_, rfl, hl9, s9, h9⟩
    have : many * z.2.2 ≤ 40 * 3 := Nat.mul_le_mul hmany hz3
    omega
  clear hmany h9 s9 hl9
  clear many B9 l9
  rintro σ' H10 ⟨many, B10, l10, hmany, rfl, hl10, s10, h10⟩
  have hm1 : many ≤ 1800 := by
    have : many * 1 ≤ many * z.2.2 := Nat.mul_le_mul_left _ hz0
    omega
  have tT : ∀ {H' : Hp}, Same B10 H' → SqT K H' TP [.str y.2.1] := fun s' => Same.sqt (s10.trans s') t7
  refine ⟨_, rfl, z.1, _, _, _, rfl, rfl, tz ((s37.trans s10).trans h10.sub), atI_nat (j := 0) rfl, (by show 1 ≤ sizeLine; decide), fun T11 hT11 => ?_⟩
  have s11 : Same H10 (upd H10 T11 (.tup [.str z.2.1])) := up_same hT11
  refine ⟨_, rfl, _, rfl, rep_any (k := side) (zs := (List.replicate side y.2.1).map V.str) (by simp) (tT (h10.sub.trans s11)) (by omega) (by simp) (by simp; omega) (fun p12 H12 s12 t12 => ?_)⟩
  have s012 := s11.trans s12
  refine cat_any (Same.sqt s12 (SqT.of upd_same)) t12 (by rw [List.length_map, List.length_replicate]; simp; omega) (fun p13 H13 s13 t13 => ?_)
  have s013 := s012.trans s13
  have e13 : ([V.str z.2.1] ++ (List.replicate side y.2.1).map V.str) = (z.2.1 :: List.replicate side y.2.1).map V.str := rfl
  rw [e13] at t13
  have hml : many * (side + 1) ≤ 1800 := Nat.le_trans (Nat.mul_le_mul_left _ (by omega)) hmany
  refine ⟨_, rfl, rep_any (k := many) (flat_map_rep _ _ _) t13 (by omega) (by rw [List.length_map, List.length_cons, List.length_replicate]; omega) (by rw [List.length_map, List.length_cons, List.length_replicate, Nat.mul_comm]; omega) (fun p14 H14 s14 t14 => ?_)⟩
  have s014 := s013.trans s14
  have hB : Same B0 H14 := ((s07.trans s10).trans h10.sub).trans s014
  refine ⟨_, rfl, cat_any t14 (Same.sqt hB hp0) (by rw [List.length_map, List.length_map, flat_rep_len, List.length_cons, List.length_replicate]; omega) (fun p15 H15 s15 t15 => ?_)⟩
  have s015 := s014.trans s15
  rw [← List.map_append] at t15
  have esub : (((z.2.2 : Nat) : Int) - 1 - ((side : Nat) : Int)) = ((z.2.2 - 1 - side : Nat) : Int) := by omega
  have hmr : many * (z.2.2 - 1 - side) ≤ 1800 := Nat.le_trans (Nat.mul_le_mul_left _ (by omega)) hmany
  refine ⟨_, rfl, _, rfl, _, rfl, z.1, _, _, _, rfl, rfl, tz ((s37.trans s10).trans (h10.sub.trans s015)), atI_nat (j := 1) rfl, _, _, rfl, rfl, _, rfl, _, _, rfl, rfl, _, _, rfl, rfl, .inl ⟨by omega, by omega⟩, ?_⟩
  have emul : ((many : Nat) : Int) * (((z.2.2 : Nat) : Int) - 1 - ((side : Nat) : Int)) = ((many * (z.2.2 - 1 - side) : Nat) : Int) := by
    rw [esub, Int.natCast_mul]
  show rRepG K (.ref TP) (.int (((many : Nat) : Int) * (((z.2.2 : Nat) : Int) - 1 - ((side : Nat) : Int)))) H15 _
  rw [emul]
  refine rep_any (k := many * (z.2.2 - 1 - side)) (zs := (List.replicate (many * (z.2.2 - 1 - side)) y.2.1).map V.str) (by simp) (tT (h10.sub.trans s015)) (by omega) (by simp) (by simp; omega) (fun p16 H16 s16 t16 => ?_)
  have s016 := s015.trans s16
  have hfl : ((List.replicate many (z.2.1 :: List.replicate side y.2.1)).flatten).length = many * (side + 1) := by rw [flat_rep_len, List.length_cons, List.length_replicate]
  refine cat_any (Same.sqt s16 t15) t16 (by rw [List.length_map, List.length_map, List.length_append, List.length_replicate, hfl]; omega) (fun p17 H17 s17 t17 => ?_)
  rw [← List.map_append] at t17
  have az := arz z hz
  have ay := arz y hy.1
  have hpln := chain_pln (many := many) (side := side) hpl az.2 ay.2 (by rw [ay.1]; exact hy.2) (by rw [az.1]; exact hside) (by rw [az.1]; omega)
  rw [az.1] at hpln
  have hd := (h10.isDr (H := H) (g := g) hl10 (by simp) (by rw [hB0]; exact s07.trans s10)).same (s016.trans s17)
  refine hq _ p17 H17 hpln ?_ hd t17
  rw [List.length_append, List.length_append, List.length_replicate, hfl]
  have e : many * (side + 1) + many * (z.2.2 - 1 - side) = many * z.2.2 := by
    rw [← Nat.mul_add]
    congr 1
    omega
  omega
end
end Sy
/-! law -/
namespace Sy
open PySem PySem.Spec PyProof.Rows L2
theorem cut_tail (xs : List V) : cutV xs (some 1) none = xs.drop 1 := by
  cases xs with
  | nil => rfl
  | cons x xs => exact cut_drop (i := 1) (by rw [List.length_cons]; omega)
theorem SwsOk.tail {rows : List Sy.Row} {l : List Swp} (h : SwsOk rows l) : SwsOk rows (l.drop 1) :=
  ⟨fun s hs => h.ok s (List.mem_of_mem_drop hs), h.nd.sublist ((List.drop_sublist 1 l).map _)⟩
section
variable {P : Program} {w : World} {K : PySem.W.Frag} {mg : Str → Option Value} {base : Heap}
theorem SL.tail {B : Hp} {q : Addr} {sws : List Swp} (h : SL K B q sws) : ∃ xs : List V, SqL K B q xs ∧ ∀ r, B r = none → SL K (upd B r (.lst (cutV xs (some 1) none))) r (sws.drop 1) := by
  obtain ⟨pr, rfl, h2, h3⟩ := h
  refine ⟨_, SqL.of h2, fun r hr => ⟨pr.drop 1, by rw [List.map_drop], by rw [upd_same, cut_tail, List.map_drop], fun z hz => Same.sqt (up_same hr) (h3 z (List.mem_of_mem_drop hz))⟩⟩
/-- what the law keeps -/
structure LwC (P : Program) (w : World) (K : PySem.W.Frag) (H : Hp) (q d b z ra p pa pb : Addr) (c n8 : Nat) (rows : List Sy.Row) (sws : List Swp) (dd : Rdr) (full : List RRow) : Prop where
  lw : LwB K H q d b rows
  rd : LRd P w K H z dd full
  ra : RdAt P w K H ra b rows dd
  sl : SL K H p sws
  pa : PrcAt K H pa b (c : Nat) rows sws
  pb : PrcAt K H pb b (n8 : Nat) rows (sws.drop 1)
theorem LwC.mono {H H' : Hp} {q d b z ra p pa pb : Addr} {c n8 : Nat} {rows : List Sy.Row} {sws : List Swp} {dd : Rdr} {full : List RRow} (h : LwC P w K H q d b z ra p pa pb c n8 rows sws dd full) (s : Same H H') : LwC P w K H' q d b z ra p pa pb c n8 rows sws dd full :=
  ⟨h.lw.mono s, h.rd.mono s, h.ra.mono (Stay.of s), h.sl.mono s, PrcAt.mono (Stay.of s) h.pa, PrcAt.mono (Stay.of s) h.pb⟩
abbrev LC (sa q d b z ra p pa pb : Addr) (g : V) (c n8 : Nat) (D t13 t14 t15 t16 : Option V) : L2.St :=
  [some (.ref sa), some (.ref q), some (.ref d), some (.ref b), some (.ref z), some (.ref ra), some g, some (.int (c : Nat)), some (.int (n8 : Nat)), some (.ref p), some (.ref pa), some (.ref pb), D, t13, t14, t15, t16]
def spLaw (K : PySem.W.Frag) : Sp := fun vs H Q _ => ∃ (s : Addr) (zs : List Int), vs = [.ref s] ∧ SqL K H s (zs.map V.int) ∧ zs.length ≤ 100000 ∧ ∀ H', Q (.bl true) H'
abbrev N_law : List Str := ["_law_script", "_law_kinds_here", "_law_arity_here", "_law_bed", "_law_reader_here", "_law_made", "_law_box_here", "_law_cutting", "_law_later", "_law_swaps_here", "_law_prices", "_law_second", "_law_plants", "_law_turn", "_law_mine", "_law_room", "_law_plant_here"]
theorem sc_law : FnScope N_law ["_law_script"] (defScope (top 76)) := ⟨rfl, rfl, rfl, by decide +kernel, rfl, by decide +kernel, by decide +kernel⟩
theorem k_law (T : Txt K mg) {fd : FuncData} (F : FunD K "law" "law" (defArgs (top 76)) (defBody (top 76)) (defScope (top 76)) [] [] (He.ga K "law") fd)
    (c_law_kinds : Cal P w K mg base 3 "_law_kinds" ["_law_box_here"] (spKinds K)) (c_law_box : Cal P w K mg base 2 "_law_box" ["_law_script", "_law_k"] (spBox K)) (c_law_arity : Cal P w K mg base 1 "_law_arity" ["_law_kinds_here"] (spArD K)) (c_law_made_bed : Cal P w K mg base 5 "_law_made_bed" ["_law_kinds_here"] (spMadeB K))
    (c_law_reader : Cal P w K mg base 2 "_law_reader" ["_law_box_here", "_law_kinds_here", "_law_most"] (spRdr P w K)) (c_law_made_reader : Cal P w K mg base 7 "_law_made_reader" ["_law_bed", "_law_reader_here"] (spMkR P w K))
    (c_law_number : Cal P w K mg base 2 "_law_number" ["_law_box_here"] (spNumber K)) (c_law_swaps : Cal P w K mg base 3 "_law_swaps" ["_law_box_here", "_law_kinds_here"] (spSwaps K))
    (c_law_pick : Cal P w K mg base 1 "_law_pick" ["_law_box_here", "_law_many"] spDraw)
    (c_law_plant : Cal P w K mg base 2 "_law_plant" ["_law_box_here", "_law_kinds_here", "_law_room"] (spPlantL K)) (c_law_chain : Cal P w K mg base 2 "_law_chain" ["_law_box_here", "_law_kinds_here", "_law_plant_here", "_law_most"] (spChain K))
    (c_law_spoilt : Cal P w K mg base 2 "_law_spoilt" ["_law_box_here", "_law_kinds_here", "_law_plant_here"] (spSpoilt K)) (c_law_made_prices : Cal P w K mg base 7 "_law_made_prices" ["_law_bed", "_law_cutting", "_law_swaps_here"] (spMadeP K))
    (c_law_right : Cal P w K mg base 9 "_law_right" ["_law_prices", "_law_plant_here", "_law_made", "_law_due_here"] (spRgC P w K))
    (c_law_due : Cal P w K mg base 4 "_law_due" ["_law_kinds_here", "_law_arity_here", "_law_reader_here", "_law_cutting", "_law_swaps_here", "_law_plant_here"] (spDueC P w K)) :
    FnOk P w K mg base (L2.CX P w) (9 + 1) (He.ga K "law") fd ["_law_script"] (spLaw K) := by
  refine F.ok sc_law (fun vs H Q E s => by obtain ⟨_, _, rfl, _⟩ := s; rfl) ?_
  intro cdv A outer s H vs Q E hr h
  obtain ⟨sa, zs, rfl, hs, hl, hq⟩ := h
  have sc := sc_law
  -- the answers
  have third : ∃ t, PSs (cxOf (L2.CX P w) P w K mg base N_law "law" (defScope (top 76)) (He.ga K "law") cdv A outer s H E) ((defBody (top 76)).drop 14) t ∧
      ∀ (H1 : Hp) (sa q d b z ra p pa pb D : Addr) (g : V) (c n8 : Nat) (rows : List Sy.Row) (sws : List Swp) (dd : Rdr) (full : List RRow) (as : List Addr) (ls : List (List Str)) (t13 t14 t15 t16 : Option V), RowsL rows 4 → SwsOk rows sws → sws.length ≤ 5 → RdOk rows dd → dd.many ≤ 3 → FullOk rows dd full → LwC P w K H1 q d b z ra p pa pb c n8 rows sws dd full →
        H1 D = some (.lst (as.map V.ref)) → Paired (fun a (l : List Str) => SqT K H1 a (l.map V.str)) as ls → (∀ l ∈ ls, l.length ≤ 1999) → t { nx := fun _ H' => Q .non H', rt := Q } (LC sa q d b z ra p pa pb g c n8 (some (.ref D)) t13 t14 t15 t16) H1 := by
    refine ⟨_, (pss_cons (ps_for (passes_of rfl) rfl (pi_list (pv 12)) (pg_name (i := 16) sc.nd rfl (Or.inl rfl))
        (pss_cons (ps_if (pt_not (pt_val (pe_cal c_law_right hr (pa_cons (pv 10) (pa_cons (pv 16) (pa_cons (pv 5) (pa_cons (pe_cal c_law_due hr (pa_cons (pv 1) (pa_cons (pv 2) (pa_cons (pv 4) (pa_cons (pv 7) (pa_cons (pv 9) (pa_cons (pv 16) pa_nil))))))) pa_nil)))))))
          (pss_one (ps_ret pe_bl))
          pss_nil)
        (pss_one (ps_if (pt_not (pt_val (pe_cal c_law_right hr (pa_cons (pv 11) (pa_cons (pv 16) (pa_cons (pv 5) (pa_cons (pe_cal c_law_due hr (pa_cons (pv 1) (pa_cons (pv 2) (pa_cons (pv 4) (pa_cons (pv 8) (pa_cons (pe_slice sl_list (pv 9) (po_some pe_int) po_none) (pa_cons (pv 16) pa_nil))))))) pa_nil)))))))
          (pss_one (ps_ret pe_bl))
          pss_nil))))
      (pss_one (ps_ret pe_bl))), ?_⟩
    intro H1 sa q d b z ra p pa pb D g c n8 rows sws dd full as ls t13 t14 t15 t16 rl so hsl dok hm3 hfull hC hD hA hA2
    have wdr : ∀ r ∈ rows, PyData.strOk r.1 = true := fun r hr' => (rl.wd r hr').sok
    refine ⟨_, rfl, D, rfl, ⟨_, SqL.of hD⟩, for_list (K := K) (xs := as.map V.ref) (fun i σ H' => ∃ t16, σ = LC sa q d b z ra p pa pb g c n8 (some (.ref D)) t13 t14 t15 t16 ∧ Same H1 H') ⟨t16, rfl, Same.refl _⟩ (fun _ _ _ _ ⟨_, _, s⟩ => SqL.of (s _ _ hD)) ?_ ?_⟩
    · rintro i v σ H2 hv ⟨t16, rfl, s2⟩
      obtain ⟨a, ea, rfl⟩ := map_at hv
      have hi : i < ls.length := by rw [← paired_len hA]; exact (List.getElem?_eq_some_iff.mp ea).1
      obtain ⟨l, el⟩ : ∃ l, ls[i]? = some l := ⟨_, List.getElem?_eq_getElem hi⟩
      obtain ⟨a', ea', ta⟩ := paired_at hA el
      rw [ea] at ea'
      cases ea'
      have ta : SqT K H1 a (l.map V.str) := ta
      have hll := hA2 l (List.mem_of_getElem? el)
      have C2 := hC.mono s2
      simp only [List.set_cons_succ, List.set_cons_zero]
      refine ⟨_, rfl, _, rfl, _, rfl, _, rfl, _, rfl, _, rfl, _, rfl, _, rfl, _, rfl, q, d, z, p, a, (c : Nat), rows, sws, dd, full, l, rfl, C2.lw.rl, rl.ok, C2.lw.hd, C2.rd, dok, hfull, hm3, C2.sl, so, by omega, Same.sqt s2 ta, by omega, fun H3 t av s3 hdu han => ?_⟩
      have C3 := C2.mono s3
      refine ⟨pa, a, ra, t, b, b, (c : Nat), rows, sws, dd, l, av, rfl, C3.pa, C3.ra, rl.ok, dok, hm3, so, by omega, wdr, Same.sqt (s2.trans s3) ta, by omega, hdu, han, fun H4 s4 => ⟨_, rfl, iteF ?_⟩⟩
      have s24 := s3.trans s4
      have C4 := C3.mono s4
      obtain ⟨xs, hxs, htl⟩ := C4.sl.tail
      refine ⟨_, rfl, _, rfl, _, rfl, _, rfl, _, rfl, _, rfl, _, rfl, _, rfl, 1, rfl, ?_⟩
      dsimp only [tNoPart]
      refine ⟨p, xs, rfl, hxs, fun y hy => ?_⟩
      have s5 := up_same (o := .lst (cutV xs (some 1) none)) hy
      have hSt := htl y hy
      generalize upd H4 y (.lst (cutV xs (some 1) none)) = H5 at *
      have C5 := C4.mono s5
      have s05 := (s2.trans s24).trans s5
      refine ⟨_, rfl, q, d, z, y, a, (n8 : Nat), rows, sws.drop 1, dd, full, l, rfl, C5.lw.rl, rl.ok, C5.lw.hd, C5.rd, dok, hfull, hm3, hSt, so.tail, by rw [List.length_drop]; omega, Same.sqt s05 ta, by omega, fun H6 t2 av2 s6 hdu2 han2 => ?_⟩
      have C6 := C5.mono s6
      exact ⟨pb, a, ra, t2, b, b, (n8 : Nat), rows, sws.drop 1, dd, l, av2, rfl, C6.pb, C6.ra, rl.ok, dok, hm3, so.tail, by rw [List.length_drop]; omega, wdr, Same.sqt (s05.trans s6) ta, by omega, hdu2, han2, fun H7 s7 => ⟨_, rfl, iteF ⟨_, rfl, (s05.trans s6).trans s7⟩⟩⟩
    · rintro σ H2 ⟨t16, rfl, s2⟩
      exact hq _
  obtain ⟨t3, pt3, h3rd⟩ := third
  -- the plants
  have second : ∃ t, PSs (cxOf (L2.CX P w) P w K mg base N_law "law" (defScope (top 76)) (He.ga K "law") cdv A outer s H E) ((defBody (top 76)).drop 11) t ∧
      ∀ (H1 : Hp) (sa q d b z ra p pa pb : Addr) (g : V) (c n8 : Nat) (rows : List Sy.Row) (sws : List Swp) (dd : Rdr) (full : List RRow), RowsL rows 4 → SwsOk rows sws → sws.length ≤ 5 → RdOk rows dd → dd.many ≤ 3 → FullOk rows dd full → LwC P w K H1 q d b z ra p pa pb c n8 rows sws dd full → SqL K H1 sa (zs.map V.int) →
        t { nx := fun _ H' => Q .non H', rt := Q } (LC sa q d b z ra p pa pb g c n8 none none none none none) H1 := by
    refine ⟨_, (pss_cons (ps_set (i := 12) sc.nd rfl (Or.inl rfl) (pe_lst pa_nil))
      (pss_cons (ps_for (passes_of rfl) rfl (pi_range1 rfl T.range (pa_cons pe_int pa_nil)) (pg_name (i := 13) sc.nd rfl (Or.inl rfl))
        (pss_cons (ps_set (i := 14) sc.nd rfl (Or.inl rfl) (pe_cal c_law_box hr (pa_cons (pv 0) (pa_cons (pe_op op_add pe_int (pv 13)) pa_nil))))
        (pss_cons (ps_set (i := 15) sc.nd rfl (Or.inl rfl) (pe_op op_add pe_int (pe_cal c_law_pick hr (pa_cons (pv 14) (pa_cons pe_int pa_nil)))))
        (pss_cons (ps_set (i := 16) sc.nd rfl (Or.inl rfl) (pe_cal c_law_chain hr (pa_cons (pv 14) (pa_cons (pv 1) (pa_cons (pe_cal c_law_plant hr (pa_cons (pv 14) (pa_cons (pv 1) (pa_cons (pv 15) pa_nil)))) (pa_cons pe_int pa_nil))))))
        (pss_cons (ps_cut (ps_if (pt_cmpR op_eq (pe_cal c_law_pick hr (pa_cons (pv 14) (pa_cons pe_int pa_nil))) pe_int (nomark _))
          (pss_one (ps_set (i := 16) sc.nd rfl (Or.inl rfl) (pe_cal c_law_spoilt hr (pa_cons (pv 14) (pa_cons (pv 1) (pa_cons (pv 16) pa_nil))))))
          pss_nil))
        (pss_one (ps_expr (pe_bm PySem.F.plainAttrs_list PySem.F.slot_list_append PySem.F.type_list_append mt_append (pv 12) (pa_cons (pv 16) pa_nil)))))))))
      (pss_cons (ps_expr (pe_bm PySem.F.plainAttrs_list PySem.F.slot_list_append PySem.F.type_list_append mt_append (pv 12) (pa_cons (pe_ix ix_list (pv 12) pe_int (fun _ _ => rfl)) pa_nil)))
      pt3))), ?_⟩
    intro H1 sa q d b z ra p pa pb g c n8 rows sws dd full rl so hsl dok hm3 hfull hC hsa
    refine ⟨by decide, fun D hD => ?_⟩
    have h1 := (Hs.start H1).new (o := .lst []) hD
    simp only [List.set_cons_succ, List.set_cons_zero]
    refine ⟨2, rfl, by decide, by decide, for_rng (n := 2) (fun i σ H' => ∃ (t13 t14 t15 t16 : Option V) (B : Hp) (as : List Addr) (ls : List (List Str)), σ = LC sa q d b z ra p pa pb g c n8 (some (.ref D)) t13 t14 t15 t16 ∧ Same H1 B ∧ Hs B [(D, .lst (as.map V.ref))] H' ∧ Paired (fun a (l : List Str) => SqT K B a (l.map V.str)) as ls ∧ (∀ l ∈ ls, l.length ≤ 1999) ∧ as.length = i)
      ⟨none, none, none, none, H1, [], [], rfl, Same.refl _, h1, .nil, fun _ y => (nomatch y), rfl⟩ ?_ ?_⟩
    · rintro i σ H2 hi ⟨t13, t14, t15, t16, B, as, ls, rfl, sB, hh, hA, hA2, hal⟩
      have s12 := sB.trans hh.sub
      simp only [List.set_cons_succ, List.set_cons_zero]
      refine ⟨_, rfl, _, rfl, _, _, rfl, rfl, sa, zs, 3 + i, rfl, Same.sql s12 hsa, hl, by omega, fun g3 H3 hg3 s3 bg3 => ?_⟩
      obtain ⟨lb3, hlb3, h3⟩ := bg3.take
      have sd := same_del hg3 s3
      have hD3 : L2.del H3 g3 D = some (.lst (as.map V.ref)) := sd _ _ hh.r0
      have F3 := (hC.mono (s12.trans sd)).lw
      have sB3 := hh.sub.trans sd
      generalize L2.del H3 g3 = B3 at *
      obtain ⟨wq, eqq⟩ := F3.rl.ex
      have hqg : q ≠ g3 := h3.ne0 eqq
      refine ⟨_, rfl, g3, 9, rfl, h3.bag hlb3, by decide, by decide, fun r0 H4 hr0 d4 => ?_⟩
      obtain ⟨lb4, B4, hlb4, s4, h4, _⟩ := h3.dr0 d4
      refine ⟨_, _, rfl, rfl, ?_⟩
      refine ⟨_, rfl, _, rfl, _, rfl, _, rfl, _, rfl, g3, q, 1 + r0, rows, rfl, h4.bag hlb4, hqg, (F3.mono (s4.trans h4.sub)).rl, rl, by omega, by omega, fun l5 p5 H5 pl5 hl5 d5 hp5 => ?_⟩
      obtain ⟨lb5, B5, hlb5, s5, h5, k5, _⟩ := h4.drT d5
      have hp5 := k5 _ _ hp5
      have s35 := s4.trans s5
      refine ⟨g3, q, p5, 40, rows, l5, rfl, h5.bag hlb5, hqg, (F3.mono (s35.trans h5.sub)).rl, rl, by decide, pl5, by omega, Same.sqt h5.sub hp5, fun l6 p6 H6 pl6 hl6 d6 hp6 => ?_⟩
      obtain ⟨lb6, B6, hlb6, s6, h6, k6, _⟩ := h5.drT d6
      have hp6 := k6 _ _ hp6
      have s36 := s35.trans s6
      have l6n := pl6.len1
      refine ⟨fun σ' H' => ∃ (l : List Str) (py : Addr) (lb : List Int) (B' : Hp), BagOk lb ∧ Same B6 B' ∧ Hs B' [(g3, .lst (lb.map V.int))] H' ∧ SqT K B' py (l.map V.str) ∧ l.length ≤ 1999 ∧ σ' = LC sa q d b z ra p pa pb g c n8 (some (.ref D)) (some (.int (i : Nat))) (some (.ref g3)) (some (.int ((1 + r0 : Nat) : Int))) (some (.ref py)), ?_, ?_⟩
      · refine ⟨_, rfl, g3, 8, rfl, h6.bag hlb6, by decide, by decide, fun r7 H7 _ d7 => ?_⟩
        obtain ⟨lb7, B7, hlb7, s7, h7, _⟩ := h6.dr0 d7
        refine ⟨rfl, _, rfl, if_dec (fun c1 => ?_) (fun c1 => ?_)⟩
        · refine ⟨_, rfl, _, rfl, _, rfl, g3, q, p6, rows, l6, rfl, h7.bag hlb7, hqg, (F3.mono ((s36.trans s7).trans h7.sub)).rl, rl, Same.sqt (s7.trans h7.sub) hp6, l6n, by omega, fun l8 p8 H8 hl8 d8 hp8 => ?_⟩
          obtain ⟨lb8, B8, hlb8, s8, h8, k8, _⟩ := h7.drT d8
          exact ⟨l8, p8, lb8, B8, hlb8, s7.trans s8, h8, k8 _ _ hp8, hl8, rfl⟩
        · exact ⟨l6, p6, lb7, B7, hlb7, s7, h7, Same.sqt s7 hp6, by omega, rfl⟩
      clear h6 hlb6 hp6
      rintro σ' H9 ⟨l, py, lb9, B9, hlb9, s9, h9, hpy, hly, rfl⟩
      have s39 := s36.trans s9
      have hD9 := s39 _ _ hD3
      have h10 := ((h9.take hD9).w0 (o' := .lst (as.map V.ref ++ [.ref py]))).swap.drop
      have sBn : Same B (L2.del B9 D) := same_del (hh.ap _ List.mem_cons_self) (sB3.trans s39)
      refine ⟨_, rfl, .inl ⟨rfl, _, SqL.of (h9.sub _ _ hD9)⟩, _, rfl, D, _, _, rfl, rfl, h9.sub _ _ hD9, by rw [List.length_map, sizeLine_eq]; omega, _, _, _, _, _, as ++ [py], ls ++ [l], rfl, sB.trans sBn, by rw [List.map_append]; exact h10, Paired.snoc (Paired.mapP hA fun _ _ y => Same.sqt sBn y) (sqt_delL hpy hD9), fun y hy => ?_, by rw [List.length_append, hal]; rfl⟩
      rcases List.mem_append.mp hy with hy | hy
      · exact hA2 y hy
      · rw [List.mem_singleton.mp hy]; exact hly
    · rintro σ H2 ⟨t13, t14, t15, t16, B, as, ls, rfl, sB, hh, hA, hA2, hal⟩
      obtain ⟨a0, a1, rfl⟩ := len2 hal
      obtain ⟨l0, l1, rfl⟩ := len2 (by rw [← paired_len hA]; exact hal)
      refine ⟨_, rfl, .inl ⟨rfl, _, SqL.of hh.r0⟩, _, rfl, D, _, _, .ref a0, rfl, rfl, SqL.of hh.r0, atI_nat (j := 0) rfl, D, _, _, rfl, rfl, hh.r0, (by show 2 < sizeLine; decide), ?_⟩
      have h3 := hh.w0 (o' := .lst ([a0, a1, a0].map V.ref))
      have hA' := Paired.mapP hA fun _ _ y => Same.sqt h3.sub y
      have hp0 : SqT K (upd H2 D (.lst ([a0, a1, a0].map V.ref))) a0 (l0.map V.str) := by
        cases hA' with
        | cons x _ => exact x
      refine h3rd _ sa q d b z ra p pa pb D g c n8 rows sws dd full [a0, a1, a0] [l0, l1, l0] t13 t14 t15 t16 rl so hsl dok hm3 hfull (hC.mono (sB.trans h3.sub)) h3.r0 (Paired.snoc hA' hp0) fun y hy => ?_
      refine hA2 y ?_
      simp only [List.mem_cons, List.not_mem_nil, or_false] at hy ⊢
      rcases hy with e | e | e
      · exact .inl e
      · exact .inr e
      · exact .inl e
  obtain ⟨t2, pt2, h2nd⟩ := second
  refine ⟨_, (pss_cons (ps_set (i := 1) sc.nd rfl (Or.inl rfl) (pe_cal c_law_kinds hr (pa_cons (pe_cal c_law_box hr (pa_cons (pv 0) (pa_cons pe_int pa_nil))) pa_nil)))
      (pss_cons (ps_set (i := 2) sc.nd rfl (Or.inl rfl) (pe_cal c_law_arity hr (pa_cons (pv 1) pa_nil)))
      (pss_cons (ps_set (i := 3) sc.nd rfl (Or.inl rfl) (pe_cal c_law_made_bed hr (pa_cons (pv 1) pa_nil)))
      (pss_cons (ps_set (i := 4) sc.nd rfl (Or.inl rfl) (pe_cal c_law_reader hr (pa_cons (pe_cal c_law_box hr (pa_cons (pv 0) (pa_cons pe_int pa_nil))) (pa_cons (pv 1) (pa_cons pe_int pa_nil)))))
      (pss_cons (ps_set (i := 5) sc.nd rfl (Or.inl rfl) (pe_cal c_law_made_reader hr (pa_cons (pv 3) (pa_cons (pv 4) pa_nil))))
      (pss_cons (ps_set (i := 6) sc.nd rfl (Or.inl rfl) (pe_cal c_law_box hr (pa_cons (pv 0) (pa_cons pe_int pa_nil))))
      (pss_cons (ps_set (i := 7) sc.nd rfl (Or.inl rfl) (pe_cal c_law_number hr (pa_cons (pv 6) pa_nil)))
      (pss_cons (ps_set (i := 8) sc.nd rfl (Or.inl rfl) (pe_cal c_law_number hr (pa_cons (pv 6) pa_nil)))
      (pss_cons (ps_set (i := 9) sc.nd rfl (Or.inl rfl) (pe_cal c_law_swaps hr (pa_cons (pv 6) (pa_cons (pv 1) pa_nil))))
      (pss_cons (ps_set (i := 10) sc.nd rfl (Or.inl rfl) (pe_cal c_law_made_prices hr (pa_cons (pv 3) (pa_cons (pv 7) (pa_cons (pv 9) pa_nil)))))
      (pss_cons (ps_set (i := 11) sc.nd rfl (Or.inl rfl) (pe_cal c_law_made_prices hr (pa_cons (pv 3) (pa_cons (pv 8) (pa_cons (pe_slice sl_list (pv 9) (po_some pe_int) po_none) pa_nil)))))
      pt2))))))))))), ?_⟩
  refine ⟨_, rfl, sa, zs, 0, rfl, hs, hl, by decide, fun g0 H1 hg0 s1 bg0 => ?_⟩
  obtain ⟨lb0, hlb0, hh0⟩ := bg0.take
  have hs0 : SqL K (L2.del H1 g0) sa (zs.map V.int) := Same.sql (same_del hg0 s1) hs
  refine ⟨g0, rfl, bg0, fun q rows H2 rl d2 hqg0 hRL => ?_⟩
  obtain ⟨lb1, B2, hlb1, s2, h2, _⟩ := hh0.dr0 d2
  have hs2 : SqL K H2 sa (zs.map V.int) := Same.sql (s2.trans h2.sub) hs0
  have rle := rl.le
  refine ⟨_, rfl, q, rows, rfl, hRL, rl.ok.nd, by omega, fun d H3 s3 hd => ?_⟩
  refine ⟨_, rfl, q, rows, rfl, hRL.mono s3, rl, fun b H4 s4 hb => ?_⟩
  have s24 := s3.trans s4
  simp only [List.set_cons_succ, List.set_cons_zero]
  refine ⟨_, rfl, sa, zs, 1, rfl, Same.sql s24 hs2, hl, by decide, fun g1 H5 hg1 s5 bg1 => ?_⟩
  have sB := same_del hg1 s5
  obtain ⟨lb5, hlb5, h5⟩ := bg1.take
  have hF : LwB K (L2.del H5 g1) q d b rows := ⟨hRL.mono (s24.trans sB), sB _ _ (s4 _ _ hd), hb.mono (Stay.of sB)⟩
  have hsB : SqL K (L2.del H5 g1) sa (zs.map V.int) := Same.sql (s24.trans sB) hs2
  generalize L2.del H5 g1 = B5 at *
  obtain ⟨wq, eqq⟩ := hF.rl.ex
  have hqg1 : q ≠ g1 := h5.ne0 eqq
  refine ⟨_, rfl, g1, q, rows, rfl, bg1, hqg1, (hF.mono h5.sub).rl, rl, fun z dd full H6 dok hm3 hfull d6 hLR => ?_⟩
  obtain ⟨lb6, B6, hlb6, s6, h6, _⟩ := h5.dr0 d6
  have s56 := s6.trans h6.sub
  replace hF := hF.mono s56
  replace hsB := Same.sql s56 hsB
  clear h6 h5
  simp only [List.set_cons_succ, List.set_cons_zero]
  refine ⟨_, rfl, _, rfl, b, z, rows, dd, full, rfl, hF.bed, rl.ok, dok, hLR, fun H7 ra s7 hRA => ?_⟩
  simp only [List.set_cons_succ, List.set_cons_zero]
  refine ⟨_, rfl, sa, zs, 2, rfl, Same.sql s7 hsB, hl, by decide, fun g H8 hg s8 bg => ?_⟩
  have sD := same_del hg s8
  obtain ⟨lb8, hlb8, h8⟩ := bg.take
  replace hF := hF.mono (s7.trans sD)
  replace hsB := Same.sql (s7.trans sD) hsB
  replace hLR := hLR.mono (s7.trans sD)
  replace hRA := hRA.mono (Stay.of sD)
  generalize L2.del H8 g = B8 at *
  obtain ⟨wq8, eqq8⟩ := hF.rl.ex
  have hqg : q ≠ g := h8.ne0 eqq8
  refine ⟨_, rfl, g, rfl, h8.bag hlb8, fun c H9 hc d9 => ?_⟩
  obtain ⟨lb9, B9, hlb9, s9, h9, _⟩ := h8.dr0 d9
  refine ⟨_, rfl, g, rfl, h9.bag hlb9, fun n8 H10 hn8 d10 => ?_⟩
  obtain ⟨lb10, B10, hlb10, s10, h10, _⟩ := h9.dr0 d10
  have s8a := s9.trans s10
  refine ⟨_, rfl, _, rfl, g, q, rows, rfl, h10.bag hlb10, hqg, (hF.mono (s8a.trans h10.sub)).rl, rl, fun p sws H11 so hsl d11 hpg hSL => ?_⟩
  obtain ⟨lb11, B11, hlb11, s11, h11, _, kS, _⟩ := h10.drT d11
  have hSL := kS _ _ hpg hSL
  have s8b := (s8a.trans s11).trans h11.sub
  replace hF := hF.mono s8b
  replace hsB := Same.sql s8b hsB
  replace hLR := hLR.mono s8b
  replace hRA := hRA.mono (Stay.of s8b)
  replace hSL := hSL.mono h11.sub
  clear h11
  simp only [List.set_cons_succ, List.set_cons_zero]
  have due1 := so.due (c := (c : Nat)) ⟨by omega, by omega⟩
  have due2 := so.tail.due (c := (n8 : Nat)) ⟨by omega, by omega⟩
  refine ⟨_, rfl, _, rfl, _, rfl, b, p, (c : Nat), rows, sws, rfl, hF.bed, rl.ok, hSL, by omega, fun _ H12 pa s12 hP1 => ?_, fun e he => by rw [due1] at he; cases he⟩
  have hSL2 := hSL.mono s12
  obtain ⟨xs, hxs, htl⟩ := hSL2.tail
  simp only [List.set_cons_succ, List.set_cons_zero]
  refine ⟨_, rfl, _, rfl, _, rfl, 1, rfl, ?_⟩
  dsimp only [tNoPart]
  refine ⟨p, xs, rfl, hxs, fun y hy => ?_⟩
  have s13 := up_same (o := .lst (cutV xs (some 1) none)) hy
  have hSt := htl y hy
  generalize upd H12 y (.lst (cutV xs (some 1) none)) = H13 at *
  have sx := s12.trans s13
  refine ⟨b, y, (n8 : Nat), rows, sws.drop 1, rfl, (hF.mono sx).bed, rl.ok, hSt, by rw [List.length_drop]; omega, fun _ H14 pb s14 hP2 => ?_, fun e he => by rw [due2] at he; cases he⟩
  have sy := sx.trans s14
  simp only [List.set_cons_succ, List.set_cons_zero]
  exact h2nd H14 sa q d b z ra p pa pb (.ref g) c n8 rows sws dd full rl so hsl dok hm3 hfull ⟨hF.mono sy, hLR.mono sy, hRA.mono (Stay.of sy), hSL.mono sy, PrcAt.mono (Stay.of (s13.trans s14)) hP1, hP2⟩ (Same.sql sy hsB)
end
end Sy
/-! the head's facts, own errors with an __init__ among them -/
namespace Sy
open PySem PySem.Spec PyProof.Rows L2
theorem oexB_ok {K : PySem.W.Frag} {C : Addr} (h : oexB K C = true) : ∃ nm q N bs bm sn sub ab col dd k0 k1 k2 k3 k5, K.lookup C = some (excClassObj nm q C N bs bm true sn sub ab col dd k0 k1 k2 k3 k5 "ValueError.__new__") ∧ HandSPX.refsVE bm = true := by
  unfold oexB at h
  split at h
  · rename_i t dd cd sl ho
    split at h
    · rename_i C' bm k0 k1 k2 k3 n k5 hm hs
      simp only [Bool.and_eq_true, decide_eq_true_eq, Bool.not_eq_true'] at h
      obtain ⟨h1, h2, h3, h4, h5, h6⟩ := h
      obtain ⟨nm, bs, mro, ns, qn, hd, sn, sub, ab, col, del⟩ := cd
      dsimp only at hm h4 h5
      subst hm h4 h5 h1 h2 h3
      have hsl : sl = #[k0, k1, k2, k3, some (.builtin "ValueError.__new__"), k5] := by
        obtain ⟨z⟩ := sl
        simp only at hs
        rw [hs]
      subst hsl
      exact ⟨nm, qn, ns, bs, bm, sn, sub, ab, col, dd, k0, k1, k2, k3, k5, ho, h6⟩
    · cases h
  · cases h
theorem initB_ok {K : PySem.W.Frag} {file : Str} {d : ErD} (e : erW K d.x = d.val) (h : initB K file d.x d.q = true) : ∃ (cc cd : Addr) (oc : Value) (od : Option Addr) (kV doc pm : Value) (an : Option Addr) (ct : Value) (osl : Array (Option Value)),
    K.lookup (iniA K d.x) = some ⟨oc, od, .func (PySem.W.fnX "__init__" d.q (defArgs d.st) (defBody d.st) (defScope d.st) [("__class__", cc)] .none kV doc pm an (.ref cd) ct), osl⟩ ∧ PySem.W.codeIn K (.ref cd) d.q = true ∧
    (∃ (cl : Value) (dd : Option Addr) (vs : Array Value) (sl : Array (Option Value)) (fi : Str) (tf : Tok), K.lookup cd = some ⟨cl, dd, .fields vs, sl⟩ ∧ vs[2]? = some (.str fi tf) ∧ (file == fi) = true) ∧ ∃ (cl : Value) (dd : Option Addr) (sl : Array (Option Value)), K.lookup cc = some ⟨cl, dd, .cell (some (.ref (He.ga K d.x))), sl⟩ := by
  unfold initB at h
  unfold erW at e
  split at h
  · rename_i oc od fd osl ho
    rw [ho] at e
    obtain ⟨n1, n2, n3, n4, n5, n6, n7, n8, n9, n10, n11, n12, n13, n14, n15⟩ := fd
    have e2 : (some (n1, n2, n3, n4, n5, n6, n7.map (·.1), n15) : FnE) = d.val := e
    unfold ErD.val at e2
    simp only [Option.some.injEq, Prod.mk.injEq] at e2
    obtain ⟨e1, e2, e3, e4, e5, e6, e7, e8⟩ := e2
    simp only [Bool.and_eq_true] at h
    obtain ⟨h1, h2, h3, h4⟩ := h
    have hd : n8 = .none := by
      split at h4
      · first | rfl | assumption
      · cases h4
    unfold fileB at h2
    split at h2
    · rename_i cd
      unfold cellB at h3
      split at h3
      · rename_i y cc
        have hy : y = "__class__" := by simpa using e7
        subst hy
        split at h3
        · rename_i cl2 dd2 D sl2 hc
          have hD := of_decide_eq_true h3
          subst hD
          split at h2
          · rename_i cl dd vs sl hv
            split at h2
            · rename_i fi tf hf
              subst e1 e2 e3 e4 e5 e6 e8 hd
              exact ⟨cc, cd, oc, od, n9, n10, n11, n12, n14, osl, ho, h1, ⟨cl, dd, vs, sl, fi, tf, hv, hf, h2⟩, ⟨cl2, dd2, sl2, hc⟩⟩
            · cases h2
          · cases h2
        · cases h3
      · cases h3
    · cases h2
  · cases h
theorem ErD.errB {P : Program} {K : PySem.W.Frag} {h : Heap} {mg : Str → Option Value} {d : ErD} (X : K.In h) (G : h.Ns mainGlobals mg) (e : erW K d.x = d.val) (c : d.ok P.main.file K = true) (mS : mg "super" = none) (top : (P.main.scope.names.lookup ("super" : Str)).isSome = false) : ErrB P K mg d.x d.q d.st d.fs := by
  obtain ⟨c1, c⟩ := Bool.and_eq_true_iff.mp c
  obtain ⟨c2, c⟩ := Bool.and_eq_true_iff.mp c
  obtain ⟨c3, c⟩ := Bool.and_eq_true_iff.mp c
  obtain ⟨c4, c⟩ := Bool.and_eq_true_iff.mp c
  obtain ⟨c5, c⟩ := Bool.and_eq_true_iff.mp c
  obtain ⟨c6, c⟩ := Bool.and_eq_true_iff.mp c
  obtain ⟨c7, c⟩ := Bool.and_eq_true_iff.mp c
  obtain ⟨c8, c⟩ := Bool.and_eq_true_iff.mp c
  obtain ⟨c9, c⟩ := Bool.and_eq_true_iff.mp c
  obtain ⟨c10, c⟩ := Bool.and_eq_true_iff.mp c
  obtain ⟨c11, c⟩ := Bool.and_eq_true_iff.mp c
  obtain ⟨c12, c⟩ := Bool.and_eq_true_iff.mp c
  obtain ⟨c13, c⟩ := Bool.and_eq_true_iff.mp c
  obtain ⟨c14, c⟩ := Bool.and_eq_true_iff.mp c
  obtain ⟨c15, c⟩ := Bool.and_eq_true_iff.mp c
  obtain ⟨c16, c17⟩ := Bool.and_eq_true_iff.mp c
  obtain ⟨cc, cd, oc, od, kV, doc, pm, an, ct, osl, l1, l2, l3, l4⟩ := initB_ok e c12
  refine ⟨⟨cc, cd, kV, doc, pm, an, ct, ⟨⟨oc, od, .none, kV, doc, pm, an, ct, osl, rfl, l1⟩, l2, l3, l4, ?_, of_decide_eq_true c14, He.eqO_ok c15, of_decide_eq_true c16, He.eqO_ok c17, ⟨oexB_ok c7, He.eqO_ok c8, of_decide_eq_true c9, of_decide_eq_true c10, c11⟩⟩⟩, He.eqO_ok c2, of_decide_eq_true c3, PySem.W.mg_of X G (He.eqO_ok c1), of_decide_eq_true c4, xfB_ok c5, fun f hf => He.eqO_ok (List.all_eq_true.mp c6 f hf), mS, top⟩
  unfold PySem.W.isClsIn at c13
  exact Option.isSome_iff_exists.mp c13
section
variable {file : Str} {fa : List He.Fa} {fn : List He.DefD} {er : List ErD} {K : PySem.W.Frag}
theorem SaysX.d (c : SaysX file fa fn er K) : He.SaysD fa fn K := congrArg (fun z : AlX => z.1) c
theorem SaysX.err_ (c : SaysX file fa fn er K) (i : Nat) {d : ErD} (h : er[i]? = some d := by rfl) : erW K d.x = d.val ∧ d.ok file K = true := by
  have c0 : ((er.all fun d => d.ok file K) && metB K) = true := congrArg (fun z : AlX => z.2.1) c
  have c1 := (Bool.and_eq_true_iff.mp c0).1
  have c2 : (er.map fun d => erW K d.x) = er.map ErD.val := congrArg (fun z : AlX => z.2.2) c
  refine ⟨?_, List.all_eq_true.mp c1 d (List.mem_of_getElem? h)⟩
  have e2 : (er.map fun d => erW K d.x)[i]? = (er.map ErD.val)[i]? := by rw [c2]
  rw [List.getElem?_map, List.getElem?_map, h] at e2
  exact Option.some.inj e2
end
/-- a def that lets nothing out -/
theorem fn_calm {P : Program} {w : World} {K : PySem.W.Frag} {mg : Str → Option Value} {base : Heap} {k : Nat} {f : Addr} {fd : FuncData} {ps : List Str} {sp : Sp} (F : FnOk P w K mg base (L2.CX P w) k f fd ps sp) (h : ∀ vs H Q E, sp vs H Q E → sp vs H Q E0) : FnOk P w K mg base CX0 k f fd ps sp := by
  obtain ⟨len, run⟩ := F
  refine ⟨len, fun A outer s H args us vs Q E hr e0 hb r hsp => codeAny_mono (run A outer s H args us vs Q E0 hr e0 hb r (h _ _ _ _ hsp)) fun x s' z => ?_⟩
  cases x with
  | ok fl => cases fl <;> exact z
  | error e =>
    obtain ⟨_, _, _, _, _, _, _, _, _, _, _, _, q⟩ := z
    exact q.elim
end Sy
set_option maxHeartbeats 0
namespace Sy.En
open Sy PySem PySem.Spec PyProof.Rows L2
theorem facts {P : Program} {w : World} {K : PySem.W.Frag} {h : Heap} {mg : Str → Option Value} {f : Addr} (hfile : P.main.file = R.prog.main.file) (top_ : (P.main.scope.names.lookup ("super" : Str)).isSome = false) (X : K.In h) (G : h.Ns mainGlobals mg) (hfa : mg ("law" : Str) = some (.ref f)) (c : SaysX R.prog.main.file fa fn ers K) :
    ∃ fd : FuncData, (∀ (s : Shared) (v : Value), BindsTo s fd ⟨[v], []⟩ [("_law_script", v)]) ∧ ∀ base : Heap, K.In base → base.Ns mainGlobals mg → FnOk P w K mg base CX0 10 f fd ["_law_script"] (spLaw K) := by
  have D := c.d
  have e := hfa.symm.trans (He.glo_ok X G (D.fact 44 (f := .glo "law") rfl))
  cases e
  have f_only_letters : DF K mg "only_letters" 20 := ⟨D.def_ 0 (d := dOf "only_letters" 20) rfl, He.glo_ok X G (D.fact 0 (f := .glo "only_letters") rfl)⟩
  have f_is_name : DF K mg "is_name" 21 := ⟨D.def_ 1 (d := dOf "is_name" 21) rfl, He.glo_ok X G (D.fact 1 (f := .glo "is_name") rfl)⟩
  have f_need_same : DF K mg "need_same" 23 := ⟨D.def_ 2 (d := dOf "need_same" 23) rfl, He.glo_ok X G (D.fact 2 (f := .glo "need_same") rfl)⟩
  have f_check_count : DF K mg "check_count" 25 := ⟨D.def_ 3 (d := dOf "check_count" 25) rfl, He.glo_ok X G (D.fact 3 (f := .glo "check_count") rfl)⟩
  have f_arity : DF K mg "arity" 26 := ⟨D.def_ 4 (d := dOf "arity" 26) rfl, He.glo_ok X G (D.fact 4 (f := .glo "arity") rfl)⟩
  have f_fault_among : DF K mg "fault_among" 27 := ⟨D.def_ 5 (d := dOf "fault_among" 27) rfl, He.glo_ok X G (D.fact 5 (f := .glo "fault_among") rfl)⟩
  have f_check_plant : DF K mg "check_plant" 29 := ⟨D.def_ 6 (d := dOf "check_plant" 29) rfl, He.glo_ok X G (D.fact 6 (f := .glo "check_plant") rfl)⟩
  have f_entered : DF K mg "_entered" 33 := ⟨D.def_ 7 (d := dOf "_entered" 33) rfl, He.glo_ok X G (D.fact 7 (f := .glo "_entered") rfl)⟩
  have f_check_marks : DF K mg "_check_marks" 34 := ⟨D.def_ 8 (d := dOf "_check_marks" 34) rfl, He.glo_ok X G (D.fact 8 (f := .glo "_check_marks") rfl)⟩
  have f_named_plant : DF K mg "named_plant" 37 := ⟨D.def_ 9 (d := dOf "named_plant" 37) rfl, He.glo_ok X G (D.fact 9 (f := .glo "named_plant") rfl)⟩
  have f_cheapest : DF K mg "cheapest" 41 := ⟨D.def_ 10 (d := dOf "cheapest" 41) rfl, He.glo_ok X G (D.fact 10 (f := .glo "cheapest") rfl)⟩
  have f_is_price : DF K mg "_is_price" 42 := ⟨D.def_ 11 (d := dOf "_is_price" 42) rfl, He.glo_ok X G (D.fact 11 (f := .glo "_is_price") rfl)⟩
  have f_is_swap : DF K mg "_is_swap" 43 := ⟨D.def_ 12 (d := dOf "_is_swap" 43) rfl, He.glo_ok X G (D.fact 12 (f := .glo "_is_swap") rfl)⟩
  have f_turns : DF K mg "_turns" 44 := ⟨D.def_ 13 (d := dOf "_turns" 44) rfl, He.glo_ok X G (D.fact 13 (f := .glo "_turns") rfl)⟩
  have f_changed : DF K mg "_changed" 45 := ⟨D.def_ 14 (d := dOf "_changed" 45) rfl, He.glo_ok X G (D.fact 14 (f := .glo "_changed") rfl)⟩
  have f_cut_values : DF K mg "_cut_values" 46 := ⟨D.def_ 15 (d := dOf "_cut_values" 46) rfl, He.glo_ok X G (D.fact 15 (f := .glo "_cut_values") rfl)⟩
  have f_changed_knot : DF K mg "_changed_knot" 47 := ⟨D.def_ 16 (d := dOf "_changed_knot" 47) rfl, He.glo_ok X G (D.fact 16 (f := .glo "_changed_knot") rfl)⟩
  have f_law_cell : DF K mg "_law_cell" 49 := ⟨D.def_ 17 (d := dOf "_law_cell" 49) rfl, He.glo_ok X G (D.fact 17 (f := .glo "_law_cell") rfl)⟩
  have f_law_box : DF K mg "_law_box" 50 := ⟨D.def_ 18 (d := dOf "_law_box" 50) rfl, He.glo_ok X G (D.fact 18 (f := .glo "_law_box") rfl)⟩
  have f_law_pick : DF K mg "_law_pick" 51 := ⟨D.def_ 19 (d := dOf "_law_pick" 51) rfl, He.glo_ok X G (D.fact 19 (f := .glo "_law_pick") rfl)⟩
  have f_law_letters : DF K mg "_law_letters" 52 := ⟨D.def_ 20 (d := dOf "_law_letters" 52) rfl, He.glo_ok X G (D.fact 20 (f := .glo "_law_letters") rfl)⟩
  have f_law_kinds : DF K mg "_law_kinds" 53 := ⟨D.def_ 21 (d := dOf "_law_kinds" 53) rfl, He.glo_ok X G (D.fact 21 (f := .glo "_law_kinds") rfl)⟩
  have f_law_arity : DF K mg "_law_arity" 54 := ⟨D.def_ 22 (d := dOf "_law_arity" 54) rfl, He.glo_ok X G (D.fact 22 (f := .glo "_law_arity") rfl)⟩
  have f_law_made_bed : DF K mg "_law_made_bed" 55 := ⟨D.def_ 23 (d := dOf "_law_made_bed" 55) rfl, He.glo_ok X G (D.fact 23 (f := .glo "_law_made_bed") rfl)⟩
  have f_law_tuples : DF K mg "_law_tuples" 56 := ⟨D.def_ 24 (d := dOf "_law_tuples" 56) rfl, He.glo_ok X G (D.fact 24 (f := .glo "_law_tuples") rfl)⟩
  have f_law_reader : DF K mg "_law_reader" 57 := ⟨D.def_ 25 (d := dOf "_law_reader" 57) rfl, He.glo_ok X G (D.fact 25 (f := .glo "_law_reader") rfl)⟩
  have f_law_made_reader : DF K mg "_law_made_reader" 58 := ⟨D.def_ 26 (d := dOf "_law_made_reader" 58) rfl, He.glo_ok X G (D.fact 26 (f := .glo "_law_made_reader") rfl)⟩
  have f_law_plant : DF K mg "_law_plant" 59 := ⟨D.def_ 27 (d := dOf "_law_plant" 59) rfl, He.glo_ok X G (D.fact 27 (f := .glo "_law_plant") rfl)⟩
  have f_law_chain : DF K mg "_law_chain" 60 := ⟨D.def_ 28 (d := dOf "_law_chain" 60) rfl, He.glo_ok X G (D.fact 28 (f := .glo "_law_chain") rfl)⟩
  have f_law_fault : DF K mg "_law_fault" 61 := ⟨D.def_ 29 (d := dOf "_law_fault" 61) rfl, He.glo_ok X G (D.fact 29 (f := .glo "_law_fault") rfl)⟩
  have f_law_spoilt : DF K mg "_law_spoilt" 62 := ⟨D.def_ 30 (d := dOf "_law_spoilt" 62) rfl, He.glo_ok X G (D.fact 30 (f := .glo "_law_spoilt") rfl)⟩
  have f_law_number : DF K mg "_law_number" 63 := ⟨D.def_ 31 (d := dOf "_law_number" 63) rfl, He.glo_ok X G (D.fact 31 (f := .glo "_law_number") rfl)⟩
  have f_law_swaps : DF K mg "_law_swaps" 64 := ⟨D.def_ 32 (d := dOf "_law_swaps" 64) rfl, He.glo_ok X G (D.fact 32 (f := .glo "_law_swaps") rfl)⟩
  have f_law_made_prices : DF K mg "_law_made_prices" 65 := ⟨D.def_ 33 (d := dOf "_law_made_prices" 65) rfl, He.glo_ok X G (D.fact 33 (f := .glo "_law_made_prices") rfl)⟩
  have f_law_rank : DF K mg "_law_rank" 66 := ⟨D.def_ 34 (d := dOf "_law_rank" 66) rfl, He.glo_ok X G (D.fact 34 (f := .glo "_law_rank") rfl)⟩
  have f_law_lesser : DF K mg "_law_lesser" 67 := ⟨D.def_ 35 (d := dOf "_law_lesser" 67) rfl, He.glo_ok X G (D.fact 35 (f := .glo "_law_lesser") rfl)⟩
  have f_law_steps : DF K mg "_law_steps" 68 := ⟨D.def_ 36 (d := dOf "_law_steps" 68) rfl, He.glo_ok X G (D.fact 36 (f := .glo "_law_steps") rfl)⟩
  have f_law_ways : DF K mg "_law_ways" 69 := ⟨D.def_ 37 (d := dOf "_law_ways" 69) rfl, He.glo_ok X G (D.fact 37 (f := .glo "_law_ways") rfl)⟩
  have f_law_integer : DF K mg "_law_integer" 70 := ⟨D.def_ 38 (d := dOf "_law_integer" 70) rfl, He.glo_ok X G (D.fact 38 (f := .glo "_law_integer") rfl)⟩
  have f_law_offer : DF K mg "_law_offer" 71 := ⟨D.def_ 39 (d := dOf "_law_offer" 71) rfl, He.glo_ok X G (D.fact 39 (f := .glo "_law_offer") rfl)⟩
  have f_law_knot : DF K mg "_law_knot" 72 := ⟨D.def_ 40 (d := dOf "_law_knot" 72) rfl, He.glo_ok X G (D.fact 40 (f := .glo "_law_knot") rfl)⟩
  have f_law_due : DF K mg "_law_due" 73 := ⟨D.def_ 41 (d := dOf "_law_due" 73) rfl, He.glo_ok X G (D.fact 41 (f := .glo "_law_due") rfl)⟩
  have f_law_told : DF K mg "_law_told" 74 := ⟨D.def_ 42 (d := dOf "_law_told" 74) rfl, He.glo_ok X G (D.fact 42 (f := .glo "_law_told") rfl)⟩
  have f_law_right : DF K mg "_law_right" 75 := ⟨D.def_ 43 (d := dOf "_law_right" 75) rfl, He.glo_ok X G (D.fact 43 (f := .glo "_law_right") rfl)⟩
  have f_law : DF K mg "law" 76 := ⟨D.def_ 44 (d := dOf "law" 76) rfl, He.glo_ok X G (D.fact 44 (f := .glo "law") rfl)⟩
  have m_init : MB K "__init__" "Bed.__init__" (clb 22 0) := ⟨He.meth_ok (D.fact 73 (f := .meth "Bed" "__init__") rfl), D.def_ 45 (d := dMe "__init__" "Bed.__init__" 0) rfl⟩
  have m_leaves : MB K "leaves" "Bed.leaves" (clb 22 3) := ⟨He.meth_ok (D.fact 74 (f := .meth "Bed" "leaves") rfl), D.def_ 46 (d := dMe "leaves" "Bed.leaves" 3) rfl⟩
  have m_branches : MB K "branches" "Bed.branches" (clb 22 4) := ⟨He.meth_ok (D.fact 75 (f := .meth "Bed" "branches") rfl), D.def_ 47 (d := dMe "branches" "Bed.branches" 4) rfl⟩
  have m_rank : MB K "rank" "Bed.rank" (clb 22 5) := ⟨He.meth_ok (D.fact 76 (f := .meth "Bed" "rank") rfl), D.def_ 48 (d := dMe "rank" "Bed.rank" 5) rfl⟩
  have m_same : MB K "same" "Bed.same" (clb 22 6) := ⟨He.meth_ok (D.fact 77 (f := .meth "Bed" "same") rfl), D.def_ 49 (d := dMe "same" "Bed.same" 6) rfl⟩
  have n_len : mg "len" = none := He.free_ok X G (D.fact 45 (f := .free "len") rfl)
  have n_range : mg "range" = none := He.free_ok X G (D.fact 46 (f := .free "range") rfl)
  have n_reversed : mg "reversed" = none := He.free_ok X G (D.fact 47 (f := .free "reversed") rfl)
  have n_enumerate : mg "enumerate" = none := He.free_ok X G (D.fact 48 (f := .free "enumerate") rfl)
  have n_tuple : mg "tuple" = none := He.free_ok X G (D.fact 49 (f := .free "tuple") rfl)
  have n_list : mg "list" = none := He.free_ok X G (D.fact 50 (f := .free "list") rfl)
  have n_int : mg "int" = none := He.free_ok X G (D.fact 51 (f := .free "int") rfl)
  have n_abs : mg "abs" = none := He.free_ok X G (D.fact 52 (f := .free "abs") rfl)
  have n_max : mg "max" = none := He.free_ok X G (D.fact 53 (f := .free "max") rfl)
  have n_isinstance : mg "isinstance" = none := He.free_ok X G (D.fact 54 (f := .free "isinstance") rfl)
  have n_bool : mg "bool" = none := He.free_ok X G (D.fact 55 (f := .free "bool") rfl)
  have n_super : mg "super" = none := He.free_ok X G (D.fact 56 (f := .free "super") rfl)
  have n_zip : mg "zip" = none := He.free_ok X G (D.fact 57 (f := .free "zip") rfl)
  have n_min : mg "min" = none := He.free_ok X G (D.fact 58 (f := .free "min") rfl)
  have n_dict : mg "dict" = none := He.free_ok X G (D.fact 59 (f := .free "dict") rfl)
  have T : Txt K mg := ⟨⟨He.cls_ok (D.fact 67 (f := .cls "Bed") rfl), He.noat_ok (D.fact 69 (f := .noat "Bed" "arities") rfl), He.noat_ok (D.fact 70 (f := .noat "Bed" "rows") rfl), He.noat_ok (D.fact 71 (f := .noat "Bed" "kinds") rfl), He.noat_ok (D.fact 72 (f := .noat "Bed" "ranks") rfl)⟩, n_len, n_range, n_reversed, n_enumerate, n_tuple, n_list, n_int, n_abs, n_max, n_isinstance, He.int_ok X G (D.fact 60 (f := .int "MOST_KNOTS" 2000) rfl), He.int_ok X G (D.fact 61 (f := .int "MOST_KINDS" 8) rfl), He.int_ok X G (D.fact 62 (f := .int "MOST_BRANCHES" 3) rfl), He.int_ok X G (D.fact 63 (f := .int "LONGEST_NAME" 8) rfl)⟩
  have e_TooMany : ErrB P K mg "TooMany" "TooMany.__init__" (clb 10 0) ["what", "limit"] := ErD.errB (d := ⟨"TooMany", "TooMany.__init__", clb 10 0, ["what", "limit"]⟩) X G (c.err_ 0 rfl).1 (by rw [hfile]; exact (c.err_ 0 rfl).2) n_super top_
  have e_InvalidPlant : ErrB P K mg "InvalidPlant" "InvalidPlant.__init__" (clb 4 0) ["place"] := ErD.errB (d := ⟨"InvalidPlant", "InvalidPlant.__init__", clb 4 0, ["place"]⟩) X G (c.err_ 1 rfl).1 (by rw [hfile]; exact (c.err_ 1 rfl).2) n_super top_
  have e_InvalidPrices : ErrB P K mg "InvalidPrices" "InvalidPrices.__init__" (clb 6 0) ["place"] := ErD.errB (d := ⟨"InvalidPrices", "InvalidPrices.__init__", clb 6 0, ["place"]⟩) X G (c.err_ 2 rfl).1 (by rw [hfile]; exact (c.err_ 2 rfl).2) n_super top_
  have e_UnknownKind : ErrB P K mg "UnknownKind" "UnknownKind.__init__" (clb 8 0) ["kind"] := ErD.errB (d := ⟨"UnknownKind", "UnknownKind.__init__", clb 8 0, ["kind"]⟩) X G (c.err_ 3 rfl).1 (by rw [hfile]; exact (c.err_ 3 rfl).2) n_super top_
  have R : Ers P K mg := ⟨e_TooMany, e_InvalidPlant, e_InvalidPrices, e_UnknownKind⟩
  have mP_init : MC K "Prices" "__init__" "Prices.__init__" (clb 40 0) := ⟨He.meth_ok (D.fact 84 (f := .meth "Prices" "__init__") rfl), D.def_ 50 (d := dMeP "__init__" "Prices.__init__" 0) rfl⟩
  have TP : TxtP K mg := ⟨He.cls_ok (D.fact 79 (f := .cls "Prices") rfl), He.noat_ok (D.fact 81 (f := .noat "Prices" "bed") rfl), He.noat_ok (D.fact 82 (f := .noat "Prices" "cutting") rfl), He.noat_ok (D.fact 83 (f := .noat "Prices" "swaps") rfl), n_zip, He.int_ok X G (D.fact 64 (f := .int "GREATEST_PRICE" 1000) rfl)⟩
  have MkP := He.mkr_ok (D.fact 80 (f := .mkr "Prices") rfl)
  have gPrices := He.glo_ok X G (D.fact 78 (f := .glo "Prices") rfl)
  obtain ⟨fdR, FDR⟩ := D.def_ 51 (d := dMeR "__init__" "Reader.__init__" 0 [("otherwise", .int 0)]) rfl
  have mR_step : MC K "Reader" "step" "Reader.step" (clb 35 1) := ⟨He.meth_ok (D.fact 93 (f := .meth "Reader" "step") rfl), D.def_ 52 (d := dMeR "step" "Reader.step" 1 []) rfl⟩
  have TR : TxtR K mg := ⟨He.cls_ok (D.fact 86 (f := .cls "Reader") rfl), He.noat_ok (D.fact 88 (f := .noat "Reader" "bed") rfl), He.noat_ok (D.fact 89 (f := .noat "Reader" "states") rfl), He.noat_ok (D.fact 90 (f := .noat "Reader" "marks") rfl), He.noat_ok (D.fact 91 (f := .noat "Reader" "_otherwise") rfl), He.noat_ok (D.fact 92 (f := .noat "Reader" "_entered") rfl), n_min, n_dict, He.int_ok X G (D.fact 65 (f := .int "MOST_STATES" 40) rfl)⟩
  have MkR := He.mkr_ok (D.fact 87 (f := .mkr "Reader") rfl)
  have gReader := He.glo_ok X G (D.fact 85 (f := .glo "Reader") rfl)
  have M := He.mkr_ok (D.fact 68 (f := .mkr "Bed") rfl)
  have gBed := He.glo_ok X G (D.fact 66 (f := .glo "Bed") rfl)
  obtain ⟨fd, FD1⟩ := f_law.1
  have b := FunD.bindsA (ps := ["_law_script"]) FD1 fun _ _ _ _ _ _ us hl => match us, hl with | [_], _ => rfl
  refine ⟨fd, fun s v => b s [v] rfl, fun base _ _ => ?_⟩
  have c_arity := k_arity (P := P) (w := w) (base := base) T f_arity 
  have c_fault_among := k_fault (P := P) (w := w) (base := base) T f_fault_among c_arity 
  have c_check_count := k_count (P := P) (w := w) (base := base) T e_TooMany f_check_count 
  have c_only_letters := k_letters (P := P) (w := w) (base := base) f_only_letters 
  have c_is_name := k_name (P := P) (w := w) (base := base) T f_is_name c_only_letters 
  have cm_branches := k_branches (P := P) (w := w) (base := base) T R m_branches 
  have cm_leaves := k_leaves (P := P) (w := w) (base := base) T m_leaves 
  have c_init := r_init (P := P) (w := w) (base := base) T m_init c_is_name cm_leaves 
  have c_law_cell := k_cell (P := P) (w := w) (base := base) T f_law_cell 
  have c_law_box := k_box (P := P) (w := w) (base := base) T f_law_box c_law_cell 
  have c_law_pick := k_draw (P := P) (w := w) (base := base) T f_law_pick 
  have c_law_letters := k_nameL (P := P) (w := w) (base := base) T f_law_letters c_law_pick 
  have c_check_plant := k_check (P := P) (w := w) (base := base) T R f_check_plant c_check_count c_fault_among 
  have c_is_price := k_isP (P := P) (w := w) (base := base) TP f_is_price 
  have c_is_swap := k_isS (P := P) (w := w) (base := base) T f_is_swap cm_branches c_is_price 
  have c_initP := r_initP (P := P) (w := w) (base := base) T TP R mP_init c_is_price c_is_swap 
  have PM : PrcM P w K mg base := ⟨MkP, gPrices, c_initP⟩
  have cm_same := k_sameB (P := P) (w := w) (base := base) T m_same 
  have c_need_same := r_need (P := P) (w := w) (base := base) T f_need_same cm_same 
  have c_entered := k_ent (P := P) (w := w) (base := base) T f_entered cm_branches 
  have c_check_marks := k_marks (P := P) (w := w) (base := base) f_check_marks 
  have c_initR := f_initR (P := P) (w := w) (base := base) T TR FDR c_entered c_check_marks 
  have cc_step := k_step (P := P) (w := w) (base := base) T TR mR_step cm_branches 
  have c_turns := k_turns (P := P) (w := w) (base := base) T TP f_turns 
  have cm_rank := k_rank (P := P) (w := w) (base := base) T m_rank 
  have c_named_plant := k_named (P := P) (w := w) (base := base) T f_named_plant c_check_count 
  have c_law_kinds := k_kinds (P := P) (w := w) (base := base) T f_law_kinds c_law_pick c_law_letters 
  have c_law_arity := k_arD (P := P) (w := w) (base := base) f_law_arity 
  have c_law_made_bed := k_madeB (P := P) (w := w) (base := base) T M gBed c_init f_law_made_bed 
  have c_law_fault := k_faultL (P := P) (w := w) (base := base) T f_law_fault 
  have c_law_number := k_number (P := P) (w := w) (base := base) f_law_number c_law_pick 
  have c_law_plant := k_plantL (P := P) (w := w) (base := base) T f_law_plant c_law_pick 
  have c_changed_knot := k_knot (P := P) (w := w) (base := base) T TR f_changed_knot cc_step cm_rank 
  have c_cut_values := k_cutV (P := P) (w := w) (base := base) T TP TR f_cut_values cc_step cm_rank cm_leaves 
  have c_changed := k_chg (P := P) (w := w) (base := base) T TP f_changed c_turns c_cut_values c_changed_knot cm_branches 
  have c_cheapest := k_chp (P := P) (w := w) (base := base) T TP TR f_cheapest c_need_same c_check_plant c_changed c_named_plant 
  have c_law_lesser := k_les (P := P) (w := w) (base := base) T f_law_lesser 
  have c_law_rank := k_lrk (P := P) (w := w) (base := base) T f_law_rank 
  have c_law_offer := k_off (P := P) (w := w) (base := base) f_law_offer c_law_lesser 
  have c_law_tuples := k_tup (P := P) (w := w) (base := base) T f_law_tuples 
  have c_law_ways := k_way (P := P) (w := w) (base := base) f_law_ways 
  have c_law_swaps := k_swaps (P := P) (w := w) (base := base) T f_law_swaps c_law_pick c_law_number 
  have c_law_steps := k_stp (P := P) (w := w) (base := base) T f_law_steps 
  have c_law_spoilt := k_spoilt (P := P) (w := w) (base := base) T f_law_spoilt c_law_pick 
  have c_law_told := k_tldC (P := P) (w := w) (base := base) R f_law_told c_cheapest 
  have c_law_integer := k_int (P := P) (w := w) (base := base) T n_bool f_law_integer 
  have c_law_right := k_rgC (P := P) (w := w) (base := base) T f_law_right c_law_told c_law_integer 
  have c_law_made_reader := k_mkR (P := P) (w := w) (base := base) T f_law_made_reader MkR gReader FDR c_initR 
  have c_law_reader := k_rdr (P := P) (w := w) (base := base) T f_law_reader c_law_pick c_law_tuples 
  have c_law_knot := k_lkn (P := P) (w := w) (base := base) T f_law_knot c_law_offer c_law_ways 
  have c_law_due := k_due (P := P) (w := w) (base := base) T f_law_due c_law_fault c_law_rank c_law_steps c_law_offer c_law_knot 
  have c_law_made_prices := k_madeP (P := P) (w := w) (base := base) T PM f_law_made_prices 
  have c_law_chain := k_chain (P := P) (w := w) (base := base) T f_law_chain c_law_pick 
  have c_law := k_law (P := P) (w := w) (base := base) T FD1 c_law_kinds c_law_box c_law_arity c_law_made_bed c_law_reader c_law_made_reader c_law_number c_law_swaps c_law_pick c_law_plant c_law_chain c_law_spoilt c_law_made_prices c_law_right c_law_due 
  exact fn_calm c_law fun vs H Q E q => q
end Sy.En
open PySem PySem.W PySem.Calls PyProof.Rows
theorem PySem.Challenge.cw_shearyard_k52_cheapest_change_holds : PySem.Challenge.rw_shearyard_k52_cheapest_change.Holds := by
  w_on; o_law
  refine HandSHeadRun.head_any (r := OpenLaw.row PySem.Challenge.rw_shearyard_k52_cheapest_change) (q := view (OpenLaw.row PySem.Challenge.rw_shearyard_k52_cheapest_change).prog [76]) (H := Sy.En.hk) (ob := Sy.En.ob) (M := 30000) (loose := Sy.En.loose1 ++ Sy.En.loose2 ++ Sy.En.loose3) (d := HandSHeadRun.topDef (OpenLaw.row PySem.Challenge.rw_shearyard_k52_cheapest_change).prog 76) (kwd := []) Sy.En.ob_eq
    (by kernel_rfl) (fun s => by kernel_rfl) Sy.En.run (by kernel_rfl) (by kernel_rfl) (by kernel_rfl) (by rfl) (by first | assumption | decide +kernel) (by decide +kernel) ⟨rfl, rfl, rfl, rfl, rfl, by decide +kernel⟩ ?hw ?hc
  case hw => w_witness2
  case hc =>
    refine L2.walk_ofE (l := PySem.Challenge.rw_shearyard_k52_cheapest_change) (n := 63) (k := 10) (x := "_law_script") (CX := L2.CX0) rfl (by decide) (by kernel_rfl) ⟨rfl, by decide, by decide⟩ ?F (fun _ _ _ _ z => z)
    intro w mg fa h Y G hmg0
    obtain ⟨K, KX, c⟩ := Y
    have hmg : mg ("law" : PySem.Str) = some (.ref fa) := by
      have e : (HandSHeadRun.topDef (OpenLaw.row PySem.Challenge.rw_shearyard_k52_cheapest_change).prog 76).name = ("law" : PySem.Str) := by kernel_rfl
      rw [← e]
      exact hmg0
    obtain ⟨fd, hb, hF⟩ := Sy.En.facts (P := (PySem.Challenge.rw_shearyard_k52_cheapest_change).prog) (w := w) rfl (by kernel_rfl) KX G hmg c
    exact ⟨K, fd, Sy.spLaw K, KX, hb, fun H a ns hl _ hS => ⟨a, ns, rfl, hS, Nat.le_trans hl (by decide), fun _ => rfl⟩, hF⟩
