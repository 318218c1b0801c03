import PyProof.Rows.All
import Wide.All
import OpenK.AllK
import Wide.FinOn
import HandS.ForMost
import HandS.TupAny
import HandS.Walk
import HandS.Conv
import HandS.Evl
import HandS.RaiseMore
import KE.GoesMore
import HandS.Head0
import HandS.Head1
import HandS.Head2
import HandS.HeadEnd
import HandS.HeadHook1
import HandS.HeadHook2
import HandS.Defaults
import KE.KDictKeyed
import HandS.Wide
import HandS.WideBits
import HandS.Style
import HandS.Text
import KE.KExcSuper
import HandS.Exc
import HandS.ExcOwn
import HandS.ExcIs
import HandS.TryOnly
import HandS.More
import HandS.SortInts
import HandS.Sort
import HandS.SetFor
import HandS.Zip
import HandS.DictComp
import HandS.Deep
import HandS.Steps
import HandS.TupMul
import HandS.IsInst
import HandS.Small
import PySem.Challenge.RW_carryladder_k70_whole_programs_with_the
set_option Elab.async false
set_option linter.all false
set_option maxRecDepth 100000
set_option maxHeartbeats 4000000
/-! Dla: enumerate of a tuple, repr of nested data, defs that know that no guard stands around them. -/
namespace DL
open PySem PySem.Spec PyProof.Rows L2

/-! ### enumerate(tuple) -/
theorem meets_enum_of {v : Value} {o : Obj} {C : Heap → Prop} (b : Begins v o C) :
    Meets (Builtin.«enumerate.__new__» ⟨[.type "enumerate", v], []⟩) (fun _ R s => C s.heap ∧
      R (.ok (.ret (.ref (s.heap.push o).objs.size))) { s with heap := (s.heap.push o).push { cls := .type "enumerate", data := .fields #[.none, .bool false, .ref s.heap.objs.size, rawInt 0, .none, .none] } }) :=
  .of_wp fun prog w A R s hyp => by
    obtain ⟨hp, g, d, tk, os⟩ := s
    obtain ⟨hC, fin⟩ := hyp
    have esub := sub_enumerate
    have it : ∀ {A' : Around} {E Q : Value → Shared → Prop}, Q (.ref hp.objs.size) ⟨hp.push o, g, d, tk, os⟩ → wpAny (model prog w) A' (pyIter v) Q E ⟨hp, g, d, tk, os⟩ :=
      fun q => b.iter prog w _ _ ⟨hp, g, d, tk, os⟩ _ hC q
    wp_walk using it
    refine wpAny_stack_any fun _ => wpAny_pure ?_
    split
    · rename_i c _ _ _ _ _
      cases (c == Value.type "enumerate") <;> (wp_walk using it; exact ⟨_, rfl, fin⟩)
    · wp_walk using it
      exact ⟨_, rfl, fin⟩
theorem call_enum_of {prog : Program} {w : World} {A : Around} {E : Value → Shared → Prop} {s : Shared} {v : Value} {o : Obj} {C : Heap → Prop} {Q : Value → Shared → Prop} (b : Begins v o C) (hC : C s.heap)
    (k : ∀ h', IsEnum h' (s.heap.objs.size + 1) s.heap.objs.size 0 .none → h'.get? s.heap.objs.size = some o → h'.objs.size = s.heap.objs.size + 2 →
      (∀ a u, s.heap.get? a = some u → h'.get? a = some u) → Q (.ref (s.heap.objs.size + 1)) { s with heap := h' }) :
    wpAny (model prog w) A (call (.type "enumerate") [v]) Q E s := by
  refine callType_new F.called_enumerate (by decide) (F.typeCall_enumerate_1 _) (F.newCall_enumerate_1 _) (fun obj => F.args_object_init_2 obj _) F.entry_enumerate_new (meets_enum_of b) ⟨hC, ?_⟩
  have sz : (s.heap.push o).objs.size = s.heap.objs.size + 1 := Heap.size_push ..
  have e1 := Heap.get?_push_size (s.heap.push o) (o := { cls := .type "enumerate", data := .fields #[.none, .bool false, .ref s.heap.objs.size, rawInt 0, .none, .none] }) rfl
  rw [sz] at e1
  show _ ∧ _
  rw [sz]
  exact ⟨⟨_, e1, rfl⟩, k _ e1 (Heap.get?_push_of_some _ (Heap.get?_push_size _ b.free)) (by rw [Heap.size_push, sz]) fun a u e => Heap.get?_push_of_some _ (Heap.get?_push_of_some _ e)⟩

/-- the tuple at a, each item in a new pair -/
def Iet (K : PySem.W.Frag) (a : Addr) : It :=
  ⟨fun i H => ∃ (xs : List V) (x : V), SqT K H a xs ∧ xs[i]? = some x, fun i H v H' => ∃ p x, v = .ref p ∧ H p = none ∧ H' = upd H p (.tup [.int (i : Nat), x]) ∧ ∀ xs, SqT K H a xs → xs[i]? = some x, fun i H => ∃ xs : List V, SqT K H a xs ∧ xs.length ≤ i⟩
theorem turn_enumT {P : Program} {w : World} {K : PySem.W.Frag} {elts : List Expr} {kk : Nat} {tpos : Pos} (a e it : Addr) :
    Turn P w K (.Tuple elts kk tpos) (Iet K a) [e, it] e (fun i h => (∃ old, IsEnum h e it ((i : Nat) : Int) old) ∧ h.IsTupleIter it a i ∧ e ≠ it ∧ a ≠ it ∧ a ≠ e) where
  mem := List.mem_cons_self
  obj := fun i h st b hb => by
    obtain ⟨⟨old, he⟩, ⟨o, ho, hc, hd⟩, _⟩ := st
    rcases List.mem_cons.mp hb with z | z
    · rw [z]
      exact ⟨_, he, fun v q => nomatch q⟩
    · rw [List.mem_singleton.mp z]
      exact ⟨o, ho, fun v q => by rw [hd] at q; cases q⟩
  keep := fun i h h' st kp => by
    obtain ⟨⟨old, he⟩, hi, r⟩ := st
    exact ⟨⟨old, kp e (by simp) _ he⟩, hi.at fun o q => kp it (by simp) o q, r⟩
  item := by
    intro X hP hw hK hc i pins s σ H E I hf st hg
    subst hP hw hK
    obtain ⟨⟨old, he⟩, hit, hne, hai, hae⟩ := st
    obtain ⟨xs, x, hq, hx⟩ := hg
    obtain ⟨its, rv, p, hz⟩ := I.tuple hq
    obtain ⟨u, hu, ru⟩ := rv.get hx
    have hel : e < s.heap.objs.size := Heap.lt_size he
    have hil : it < s.heap.objs.size := by
      obtain ⟨_, q, _⟩ := hit
      exact Heap.lt_size q
    have hT : s.heap.IsTuple a its.toArray := p
    have hlt : i < its.toArray.size := by
      have := (List.getElem?_eq_some_iff.mp hu).1
      simpa using this
    refine wpAny_pyNext_enum_itemD (Draws.tuple (prog := X.prog) (w := X.w) (A := X.A.in1) (I.ok.hd hc) it a hai its.toArray) he ⟨hit, hT⟩ hlt hne (by simp [hne, Ne.symm hae]) fun y h' tk hy ho hst hnew hsz hk => ?_
    have ey : y = u := by
      have : its[i]? = some y := by simpa using hy
      rw [hu] at this
      exact (Option.some.inj this).symm
    subst ey
    refine ⟨_, rfl, wpAny_letOwnedTupleGo_enum (s := { s with heap := h', toks := tk + 1 }) ho fun h2 he2 sb => ?_⟩
    have hT2 : h2.get? s.heap.objs.size = some { cls := .type "tuple", data := .seq #[.int i tk, y] } := (sb.2 _ (Nat.ne_of_gt hel)).trans hnew
    have new : ObjOk X.prog X.w (upd H s.heap.objs.size (.tup [.int (i : Nat), x])) h2 s.heap.objs.size (.tup [.int (i : Nat), x]) :=
      ⟨by show 2 ≤ sizeLine; decide, [.int i tk, y], .cons ⟨_, rfl⟩ (.cons ru .nil), ⟨_, hT2, rfl, _, rfl⟩⟩
    have I1 : Inv X pins σ (upd H s.heap.objs.size (.tup [.int (i : Nat), x])) { s with heap := h2, toks := tk + 1 } :=
      I.turnedNew (ch := [e, it]) (fun b ob hb q => (sb.2 b (fun z => hb (by simp [z]))).trans (hk b ob (fun z => hb (by simp [z])) (fun z => hb (by simp [z])) q)) hf (Nat.le_refl _) new
    refine ⟨.ref s.heap.objs.size, _, I1, rfl, ⟨_, x, rfl, I.hok.fresh (Nat.le_refl _), rfl, fun ys hy => by rw [I.tuple_inj hy hq]; exact hx⟩, ⟨⟨y, ?_⟩, hst.1.at fun o q => (sb.2 it (Ne.symm hne)).trans q, hne, hai, hae⟩, fun b hb => ?_⟩
    · have e1 : ((i + 1 : Nat) : Int) = (i : Int) + 1 := by omega
      rw [e1]
      exact he2
    · have hb' : b < s.heap.objs.size := by
        rcases List.mem_cons.mp hb with z | z
        · exact z ▸ hel
        · rw [List.mem_singleton] at z
          exact z ▸ hil
      rw [upd_ne (Nat.ne_of_lt hb')]
      exact (hf b hb).1
  done := by
    intro X hP hw hK hc i pins s σ H E I hf st hg
    subst hP hw hK
    obtain ⟨⟨old, he⟩, hit, hne, hai, hae⟩ := st
    obtain ⟨xs, hq, hx⟩ := hg
    obtain ⟨its, rv, p, hz⟩ := I.tuple hq
    obtain ⟨f0, f1, f2, f3, f4, f5⟩ := hf it (by simp)
    have hl := rv.length
    have hT : s.heap.IsTuple a its.toArray := p
    obtain ⟨o, ho, hcl, hd⟩ := id hit
    unfold pyNext
    refine wpAny_bind (wpAny_attempt (wpAny_callSpecial?_slot (name := Str.ofString "__next__") ⟨_, he, rfl⟩ F.slot_enumerate_next
      (wpAny_call_entry F.slot_enumerate_next ⟨_, he, rfl⟩ F.entry_enumerate_next ?_ (F.args_enumerate_next_1 _))))
    show wpAny _ _ (field (.ref e) 2 >>= _) _ _ _
    refine wpAny_bind (wpAny_field he rfl (x := .ref it) rfl ?_)
    refine wpAny_bind (wpAny_nextOf_tuple_end (I.ok.hd hc) hit hT (by simp; omega) fun h' x eb hx' => ?_)
    obtain ⟨ox, hox, hcx⟩ := hx'
    refine wpAny_bind (wpAny_isInstance (T := "StopIteration") (b := true) ⟨ox, hox, hcx⟩ isSubtype_stop ?_)
    exact wpAny_pure ⟨rfl, I.turned (t' := s.toks) (fun b o hb q => eb b o hb q) f0 f1 f3 f4 f5⟩
  self := fun A i s Q E st h => let ⟨⟨_, he⟩, _⟩ := st; wpAny_pyIter_enum he h
def iEnumT (K : PySem.W.Frag) (ta : TA) : TI := fun σ H R => ta σ H fun vs H1 => ∃ a xs, vs = [.ref a] ∧ SqT K H1 a xs ∧ R (Iet K a) H1
theorem pi_enumT {X : Cx} {e : Expr} {ta : TA} {p pos tpos : Pos} {elts : List Expr} {kk : Nat} (hg : Gl X "enumerate") (hm : X.mg "enumerate" = none) (ha : PA X [e] ta) (hs : starEach [e] X.env = [(false, eval e X.env)] := by rfl) :
    PI X (.Tuple elts kk tpos) (.Call (.Name "enumerate" p) [e] [] pos) (iEnumT X.K ta) := by
  refine ⟨fun pins s σ H R I hyp => ?_⟩
  refine Call_ (ld_blt I hg hm boot_enumerate (PyProof.Rows.callWith_type1 (thn (ha.run pos pins s σ H _ I hyp) fun us s1 ⟨vs, H1, I1, r1, a, xs, ex, hq, q⟩ => ?_) hs rfl))
  subst ex
  cases r1 with
  | cons r rr =>
    cases rr
    cases r
    obtain ⟨its, rv, p', hz⟩ := I1.tuple hq
    have hT : s1.heap.IsTuple a its.toArray := p'
    have hlt : a < s1.heap.objs.size := p'.lt
    refine call_enum_of (begins_tuple a its.toArray) hT fun h' he hit hsz hk => wpAny_pyIter_enum he ?_
    have I2 : Inv X pins σ H1 { s1 with heap := h' } := I1.kept (t' := s1.toks) hk
    refine ⟨s1.heap.objs.size + 1, [s1.heap.objs.size + 1, s1.heap.objs.size], _, _, H1, rfl, I2, turn_enumT a (s1.heap.objs.size + 1) s1.heap.objs.size,
      ⟨⟨.none, he⟩, ⟨_, hit, rfl, rfl⟩, Nat.succ_ne_self _, Nat.ne_of_lt hlt, Nat.ne_of_lt (Nat.lt_succ_of_lt hlt)⟩, fun b hb => ?_, q⟩
    have hle : s1.heap.objs.size ≤ b := by
      rcases List.mem_cons.mp hb with z | z
      · rw [z]
        exact Nat.le_succ _
      · rw [List.mem_singleton.mp z]
        exact Nat.le_refl _
    exact I1.fpOk hle (I1.hok.fresh hle)
theorem walk_enumT {K : PySem.W.Frag} {a : Addr} {xs : List V} : Walk (Iet K a) xs.length (fun H => SqT K H a xs) (YPair (fun i => some (.int (i : Nat))) fun i => xs[i]?) :=
  ⟨fun i _ hi q => ⟨xs, xs[i], q, by simp [hi]⟩, fun _ q => ⟨xs, q, Nat.le_refl _⟩, fun i H x H' _ q y => by
    obtain ⟨p, z, e1, e2, e3, e4⟩ := y
    exact ⟨p, _, z, e1, e2, e3, rfl, e4 xs q⟩⟩

/-! ### repr of nested data -/
def rRepr (K : PySem.W.Frag) : List V → Hp → VK → Prop := fun vs H Q => ∃ v d, vs = [v] ∧ Dp K H v d ∧ d.showable = true ∧ d.hasDict = false ∧ d.depth ≤ 60 ∧ d.shown.length ≤ sizeLine ∧ (∀ x, d ≠ .str x) ∧ (∀ b, d ≠ .bool b) ∧ d ≠ .none ∧ Q (.str d.shown) H
theorem call_reprD {X : Cx} (hg : X.A.guards = some []) (hu : X.A.units + 64 < cLine) : CallR X (.builtin "repr") (rRepr X.K) := by
  intro pins s σ H xs us Q I r hyp
  obtain ⟨v, d, rfl, hd, h1, h2, h3, h4, h5, h6, h7, q⟩ := hyp
  obtain ⟨u, rfl, ru⟩ := vals1 r
  obtain ⟨as, rd⟩ := Dp.reads I d v u hd ru
  cases hd with
  | non => exact absurd rfl h7
  | bl b => exact absurd rfl (h6 b)
  | str x => exact absurd rfl (h5 x)
  | int i =>
    obtain ⟨t, rfl⟩ := ru
    have hz : i.natAbs.log2 < 1920 := by
      rw [PyData.showable] at h1
      exact of_decide_eq_true h1
    refine PySem.P.repr_of_int hz ⟨.str _, H, I.tok _, ⟨_, rfl⟩, ?_⟩
    rw [PyData.shown] at q
    exact q
  | lst hs ha =>
    cases ru
    exact repr_of_reads' rd h1 (fun z => absurd (z.symm.trans h2) (by decide)) hg (by omega) (fun _ _ z => z) (fun h' u tk hk => ⟨.str _, H, I.kept hk, ⟨_, rfl⟩, q⟩) h4
  | tup hs ha =>
    cases ru
    exact repr_of_reads' rd h1 (fun z => absurd (z.symm.trans h2) (by decide)) hg (by omega) (fun _ _ z => z) (fun h' u tk hk => ⟨.str _, H, I.kept hk, ⟨_, rfl⟩, q⟩) h4

/-! ### defs that are called where no guard stands -/
structure FnG (P : Program) (w : World) (K : PySem.W.Frag) (mg : Str → Option Value) (base : Heap) (CX : CXT) (k : Nat) (f : Addr) (fd : FuncData) (ps : List Str) (sp : Sp) : Prop where
  len : ∀ vs H Q E, sp vs H Q E → vs.length = ps.length
  run : ∀ (A : Around) (outer : List Env) (s : Shared) (H : Hp) (args : Args) (us : List Value) (vs : List V) (Q : VK) (E : XK), A.guards = some [] → Room k A → Env0 P w K mg base A outer s H →
    BindsTo s fd args (ps.zip us) → Vals vs us → sp vs H Q E → codeAny (model P w) A (.call (.ref f) args) (CR CX outer P w H s Q E) s
section
variable {P : Program} {w : World} {K : PySem.W.Frag} {mg : Str → Option Value} {base : Heap} {CX : CXT} {j k : Nat} {f : Addr} {fd : FuncData} {ps : List Str} {sp : Sp}
theorem FnG.of (F : FnOk P w K mg base CX k f fd ps sp) : FnG P w K mg base CX k f fd ps sp :=
  ⟨F.len, fun A outer s H args us vs Q E _ hr e0 hb r h => F.run A outer s H args us vs Q E hr e0 hb r h⟩
theorem FnG.mono (F : FnG P w K mg base CX j f fd ps sp) (h : j ≤ k) : FnG P w K mg base CX k f fd ps sp :=
  ⟨F.len, fun A outer s H args us vs Q E hg hr => F.run A outer s H args us vs Q E hg (hr.mono h)⟩
end
section
variable {X : Cx} {CX : CXT} {k : Nat} {f : Addr} {fd : FuncData} {ps : List Str} {sp : Sp} {dvs : List V} {ds : List Value} {E : XK} {x : Str} {p pos : Pos} {e : Expr} {es : List Expr} {t : TA}
theorem FnG.go {pins : List (Addr × Obj)} {σ : L2.St} {H : Hp} {s : Shared} {Q : VK} {us : List Value} {vs : List V} (F : FnG X.prog X.w X.K X.mg X.base CX k f fd ps sp) (hg : X.A.guards = some []) (hr : Room k X.A) (hb : Binds X.K fd ps ds) (hd : Vals dvs ds)
    (hx : Passes CX X E) (I : Inv X pins σ H s) (r : Vals vs us) (hyp : sp (vs ++ dvs) H Q E) : wpAny (model X.prog X.w) X.A (call (.ref f) us) (EP X pins σ Q) X.xe s := by
  have rr : Vals (vs ++ dvs) (us ++ ds) := r.append hd
  have ll := rr.length.symm.trans (F.len _ _ _ _ hyp)
  have body := F.run X.A X.stack s H ⟨us, []⟩ (us ++ ds) (vs ++ dvs) Q E hg hr I.env0 (hb s us I.kIn ll) rr hyp
  refine wpAny_call (codeAny_mono body ?_)
  rintro (e | fl) s' hq
  · exact hx pins σ H s e s' I hq
  · cases fl
    case ret u => exact I.after hq
    all_goals exact hq.elim
theorem pe_callg (F : FnG X.prog X.w X.K X.mg X.base CX k f fd ps sp) (hgu : X.A.guards = some []) (hr : Room k X.A) (hg : Gl X x) (hm : X.mg x = some (.ref f)) (hk : PySem.W.keepIn X.K (.ref f) = true) (hb : Binds X.K fd ps ds) (hd : Vals dvs ds) (hx : Passes CX X E)
    (ha : PA X (e :: es) t) (hdb : (x == ("__debug__" : Str)) = false := by decide) (he : starEach (e :: es) X.env = (false, eval e X.env) :: starEach es X.env := by rfl) (hpl : (backTo pos (starEach es X.env)).any (·.1) = false := by rfl) :
    PE X (.Call (.Name x p) (e :: es) [] pos) (tCall sp dvs E t) where
  run := fun pins s σ H Q I hyp => wpAny_Call_Name_kw (ld_glob I hg hm
    (PySem.W.callWith_K (h₀ := X.base) I.ok.mod.kin hk (thn (ha.run pos pins s σ H _ I hyp) fun us s1 ⟨vs, H1, I1, r, q⟩ => ⟨I1.kIn, F.go hgu hr hb hd hx I1 r q⟩) he hpl) hdb)
theorem pe_callg0 (F : FnG X.prog X.w X.K X.mg X.base CX k f fd ps sp) (hgu : X.A.guards = some []) (hr : Room k X.A) (hg : Gl X x) (hm : X.mg x = some (.ref f)) (hk : PySem.W.keepIn X.K (.ref f) = true) (hb : Binds X.K fd ps ds) (hd : Vals dvs ds) (hx : Passes CX X E)
    (hdb : (x == ("__debug__" : Str)) = false := by decide) : PE X (.Call (.Name x p) [] [] pos) (tCall sp dvs E tNil) where
  run := fun pins s σ H Q I hyp => wpAny_Call_Name_kw (ld_glob I hg hm (PySem.W.callWith_K0 I.kIn hk (F.go (us := []) hgu hr hb hd hx I .nil hyp)) hdb)
end
end DL
/-! Dlb: a def's body gives its promise where no guard stands; the law's end. -/
namespace DL
open PySem PySem.Spec PyProof.Rows L2

section
variable {P : Program} {w : World} {K : PySem.W.Frag} {mg : Str → Option Value} {base : Heap} {CX : CXT} {k : Nat} {f : Addr} {N ps : List Str} {sp : Sp}
theorem guards_deeper {A : Around} {env : Env} : (A.deeper env).guards = A.guards := rfl
/-- a def of the text keeps its promise by its body; what is around it has no guard -/
theorem fnG_of {name qual : Str} {params : Arguments} {body : List Stmt} {scope : Scope} {dV kV doc pm cdv ct oc : Value} {an od : Option Addr} {osl : Array (Option Value)}
    (lk : K.lookup f = some ⟨oc, od, .func (PySem.W.fnOf name qual params body scope dV kV doc pm an cdv ct), osl⟩) (hcd : PySem.W.codeIn K cdv qual = true) (S : FnScope N ps scope) (len : ∀ vs H Q E, sp vs H Q E → vs.length = ps.length)
    (hbody : ∀ (A : Around) (outer : List Env) (s : Shared) (H : Hp) (vs : List V) (Q : VK) (E : XK), (A.deeper (envOfC qual scope s.heap.objs.size f cdv)).guards = some [] → Room k (A.deeper (envOfC qual scope s.heap.objs.size f cdv)) → sp vs H Q E →
      ∃ t, PSs (cxOf CX P w K mg base N qual scope f cdv A outer s H E) body t ∧ t { nx := fun _ H' => Q .non H', rt := Q } (start N vs) H) :
    FnG P w K mg base CX (k + 1) f (PySem.W.fnOf name qual params body scope dV kV doc pm an cdv ct) ps sp := by
  constructor
  · exact len
  intro A outer s H args us vs Q E hg hr e0 hb r hsp
  have keepK : K.In s.heap := e0.mod.kin.keeps fun a o z => (e0.bs a o z).1
  have nolim : s.heap.NoLimit := e0.mod.nolimit.keeps fun a o z => (e0.bs a o z).1
  have par : ∀ y ∈ ps.zip us, scope.names.lookup y.1 = some .local ∨ (scope.names.lookup y.1 = some .cell ∧ ((cellsFrom (s.heap.objs.size + 1) scope.names []).lookup y.1).isSome = true) := by
    rintro ⟨n, v⟩ hy
    have hn := (List.of_mem_zip hy).1
    cases S.par n hn with
    | inl q => exact Or.inl q
    | inr q => exact Or.inr ⟨q, PySem.W.cellsFrom_some _ _ _ (Or.inl q)⟩
  obtain ⟨t, ht, hq⟩ := hbody A outer s H vs Q E hg (hr.deeper _) hsp
  refine codeAny_call_function hr.depth (keepK _ _ lk) rfl S.co S.gen rfl (PySem.W.codeRec_of keepK hcd) (hb _ _ _ _ (wpAny_newFunctionEnv_cells S.kind par ?_))
  intro env he s1 x
  cases he
  have I := inv_start (CX := CX) (P := P) (w := w) (E := E) S hr.hd e0 (len _ _ _ _ hsp) r x
  refine ⟨nolim.keeps x.toInCall.keep, codeAny_func (wpAny_mono (ht.run [] s1 (start N vs) H _ I hq) ?_ fun _ _ z => z)⟩
  have out : ∀ {σ' : L2.St} {H' : Hp} {v : V} {u : Value} {s' : Shared}, Inv (cxOf CX P w K mg base N qual scope f cdv A outer s H E) [] σ' H' s' → RelV v u → Q v H' → CE outer P w H s Q u s' :=
    fun {σ' H' v u s'} J rv q => ⟨v, H', J.os, J.bare, J.base, J.hok, rv, q⟩
  intro fl s' hs
  match fl, hs with
  | .ret u, ⟨v, σ', H', J, rv, q⟩ => exact out J rv q
  | .next, ⟨σ', H', J, q⟩ => exact out (v := V.non) (u := Value.none) J rfl q
  | .brk, ⟨_, _, _, q⟩ => exact q.elim
  | .cont, ⟨_, _, _, q⟩ => exact q.elim
/-- the same of a def's datum -/
theorem FunDg {x qual : Str} {params : Arguments} {body : List Stmt} {scope : Scope} {dvs : List V} {kws : List (Str × V)} {fd : FuncData} (F : FunD K x qual params body scope dvs kws f fd) (S : FnScope N ps scope) (len : ∀ vs H Q E, sp vs H Q E → vs.length = ps.length)
    (hbody : ∀ (cdv : Value) (A : Around) (outer : List Env) (s : Shared) (H : Hp) (vs : List V) (Q : VK) (E : XK), (A.deeper (envOfC qual scope s.heap.objs.size f cdv)).guards = some [] → Room k (A.deeper (envOfC qual scope s.heap.objs.size f cdv)) → sp vs H Q E →
      ∃ t, PSs (cxOf CX P w K mg base N qual scope f cdv A outer s H E) body t ∧ t { nx := fun _ H' => Q .non H', rt := Q } (start N vs) H) : FnG P w K mg base CX (k + 1) f fd ps sp := by
  obtain ⟨oc, od, dV, kV, doc, pm, an, cdv, ct, osl, rfl, lk, hcd, _, _⟩ := F.ex
  exact fnG_of lk hcd S len fun A outer s H vs Q E => hbody cdv A outer s H vs Q E
end

/-! ### the law's call -/
theorem law_callG {P : Program} {w : World} {K : PySem.W.Frag} {mg mb : Str → Option Value} {CX : CXT} {k : Nat} {fa a : Addr} {fd : FuncData} {x : Str} {sp : Sp} {s1 : Shared} {vs : List Value} {ns : List Int}
    (KX : K.In s1.heap) (hns : s1.heap.Ns mainGlobals mg) (hb : s1.heap.Ns builtinsNs mb) (hbb : ∀ x : Str, x ≠ "__name__" → mb x = bootBuiltins x) (hlim : s1.heap.NoLimit) (hg : s1.gens = #[])
    (ha : s1.heap.get? a = some { cls := .type "list", data := .seq vs.toArray }) (hi : IntsAre vs ns) (hl : ns.length ≤ sizeLine) (hr : Room k callerA)
    (F : ∀ base : Heap, K.In base → base.Ns mainGlobals mg → FnG P w K mg base CX k fa fd [x] sp) (hbind : ∀ (s : Shared) (u : Value), BindsTo s fd ⟨[u], []⟩ [(x, u)])
    (hsp : ∀ H : Hp, Only H → SqL K H a (ns.map V.int) → sp [.ref a] H (fun v _ => v = .bl true) fun _ _ _ => False) (hCX : ∀ H e s', CX [] H s1 (fun _ _ _ => False) e s' → False) :
    codeAny (model P w) callerA (.call (.ref fa) ⟨[.ref a], []⟩) (fun r s' => r = .ok (.ret (.bool true)) ∧ OldK s1.heap s'.heap ∧ s'.os = s1.os ∧ AllBare s'.gens) s1 := by
  have scr := vals_ints hi
  -- H: nothing tracked but perhaps the script
  have main : ∀ H : Hp, Only H → SqL K H a (ns.map V.int) → HOk P w H s1.heap → (∀ b, b ≠ a → H b = none) → (K.lookup a ≠ none → H a = none) →
      codeAny (model P w) callerA (.call (.ref fa) ⟨[.ref a], []⟩) (fun r s' => r = .ok (.ret (.bool true)) ∧ OldK s1.heap s'.heap ∧ s'.os = s1.os ∧ AllBare s'.gens) s1 := by
    intro H only hS hok away inK
    have dictFree : ∀ {b : Addr} {o : Obj} {es : Array DictEntry} {n : Nat}, s1.heap.get? b = some o → o.data = .dict es n → H b = none := by
      intro b o es n e d
      by_cases hba : b = a
      · subst hba
        rw [ha] at e
        cases e
        cases (show Data.seq vs.toArray _ = Data.dict es n from d)
      · exact away b hba
    have ns' : ∀ {b : Addr} {m : Str → Option Value}, s1.heap.Ns b m → (hidT s1.heap H).Ns b m := by
      rintro b m ⟨o, es, n, e, d, r⟩
      exact ⟨o, es, n, hidT_get e (dictFree e d), d, r⟩
    have kb : K.In (hidT s1.heap H) := by
      intro b o e
      refine hidT_get (KX b o e) ?_
      by_cases hba : b = a
      · subst hba
        exact inK (by rw [e]; exact nofun)
      · exact away b hba
    have hM : Mod K mg (hidT s1.heap H) := by
      obtain ⟨mc, c1, c2⟩ := hlim
      exact ⟨kb, ns' hns, ⟨mb, ns' hb, hbb⟩, ⟨mc, ns' c1, c2⟩⟩
    have e0 : Env0 P w K mg (hidT s1.heap H) callerA [] s1 H := {
      frames := rfl, mod := hM, bs := fun _ _ e => of_hidT e, bsz := Nat.le_of_eq (hidT_size _ _), funs := trivial, frf := fun b z => (List.not_mem_nil z).elim, hok := hok, bare := .of_eq hg }
    have run := (F _ kb (ns' hns)).run callerA [] s1 H ⟨[.ref a], []⟩ [.ref a] [.ref a] _ _ rfl hr e0 (hbind s1 (.ref a)) (.cons rfl .nil) (hsp H only hS)
    refine codeAny_mono run ?_
    rintro (e | fl) s' h
    · exact (hCX H e s' h).elim
    cases fl
    case ret u =>
      obtain ⟨v, H', os, bare, un, hok', ru, (rfl : v = .bl true)⟩ := h
      cases ru
      refine ⟨rfl, OldK.of_keep ?_, os, bare⟩
      intro b o e
      rcases only b with z | ⟨ob, xs, z⟩
      · exact un.keep b o e z (fun m => (List.not_mem_nil (show b ∈ ([] : List Addr) from m)).elim) List.not_mem_nil
      · have before := (hok b _ z).1
        have behind := (hok' b _ (un.frzs b ob _ z)).1
        rw [before] at e
        exact behind.trans e
    all_goals exact h.elim
  by_cases hk : K.lookup a = none
  · refine main (fun b => if b = a then some (.frz { cls := .type "list", data := .seq vs.toArray } (.lst (ns.map V.int))) else none) ?_ (Or.inl (Or.inr ⟨_, if_pos rfl⟩)) ?_ (fun b hb => if_neg hb) fun z => absurd hk z
    · intro b
      by_cases hb : b = a
      · exact Or.inr ⟨_, _, if_pos hb⟩
      · exact Or.inl (if_neg hb)
    · intro b u z
      by_cases hb : b = a
      · cases (if_pos hb).symm.trans z
        subst hb
        exact ⟨ha, by rw [List.length_map]; exact hl, vs, _, scr, ha⟩
      · cases (if_neg hb).symm.trans z
  · obtain ⟨o, ho⟩ := Option.ne_none_iff_exists'.mp hk
    have e := KX a o ho
    rw [ha] at e
    cases e
    have len : vs.length ≤ sizeLine := by rw [hi.length]; exact hl
    exact main (fun _ => none) (fun _ => Or.inl rfl) (Or.inr ⟨_, vs.toArray, _, ho, rfl, rfl, rfl, by rw [List.size_toArray]; exact len, by simpa using scr⟩) (fun _ _ z => nomatch z) (fun _ _ => rfl) fun _ => rfl
/-- a law: F gives the written part, the function object, the promise over every base -/
theorem walk_ofG {l : PySem.W.OpenLaw} {n k : Nat} {q : Program} {loose : List Str} {XP : (Str → Option Value) → Heap → Prop} {YP : World → Heap → Prop} {d : DefRec} {CX : CXT} {x : Str}
    (hn : l.most = some n) (hn2 : n ≤ sizeLine) (hdf : d.params.defaults = []) (hr : Room k callerA)
    (F : ∀ (w : World) (mg : Str → Option Value) (fa : Addr) (h : Heap), YP w h → h.Ns mainGlobals mg → mg d.name = some (.ref fa) →
      ∃ (K : PySem.W.Frag) (fd : FuncData) (sp : Sp), K.In h ∧ (∀ (s : Shared) (u : Value), BindsTo s fd ⟨[u], []⟩ [(x, u)]) ∧
        (∀ (H : Hp) (a : Addr) (ns : List Int), ns.length ≤ n → Only H → SqL K H a (ns.map V.int) → sp [.ref a] H (fun v _ => v = .bl true) fun _ _ _ => False) ∧
        ∀ base : Heap, K.In base → base.Ns mainGlobals mg → FnG l.prog w K mg base CX k fa fd [x] sp)
    (hCX : ∀ (H : Hp) (s : Shared) (e : Value) (s' : Shared), CX [] H s (fun _ _ _ => False) e s' → False) :
    PySem.W.WalkO q loose XP YP l.row.toRowW d [] (fun f vs => PySem.call f vs) := by
  refine Att.attach_call hn hdf ?_
  intro w s0 s1 mg mb fa o pm cd doc a vs ns G Y ho hd hcd hmg hobj hints hlen hg
  obtain ⟨K, fd, sp, KX, hb, hsp, hF⟩ := F w mg fa _ Y G.T.g hmg
  refine law_callG KX G.T.g G.T.b G.T.builtins G.T.nolimit hg hobj hints (Nat.le_trans hlen hn2) hr hF hb ?_ ?_
  · intro H only hS
    exact hsp H a ns hlen only hS
  · intro H e s'
    exact hCX H s1 e s'
end DL
/-! Dlc: the heap as data: what is stable, what is owned; expressions and statements by the data that they handle. -/
namespace DL
open PySem PySem.Spec PyProof.Rows L2
open Evl (Ex ex_l ex_t)
abbrev D := PyData
abbrev Sg := L2.St

/-! ### data through a growing heap -/
mutual
/-- what a value is as data: lists are tracked ones, tuples may be written ones, too -/
inductive Dt (K : PySem.W.Frag) (H : Hp) : V → D → Prop
  | non : Dt K H .non .none
  | bl (b : Bool) : Dt K H (.bl b) (.bool b)
  | int (i : Int) : Dt K H (.int i) (.int i)
  | str (x : Str) : Dt K H (.str x) (.str x)
  | lst {a : Addr} {xs : List V} {ds : List D} : H a = some (.lst xs) → DtAll K H xs ds → Dt K H (.ref a) (.list ds)
  | tup {a : Addr} {xs : List V} {ds : List D} : SqT K H a xs → DtAll K H xs ds → Dt K H (.ref a) (.tuple ds)
  | dic {a : Addr} {ks : List (Key × V)} {es : List (D × D)} : H a = some (.dK ks) → DtKv K H ks es → Dt K H (.ref a) (.dict es)
inductive DtKv (K : PySem.W.Frag) (H : Hp) : List (Key × V) → List (D × D) → Prop
  | nil : DtKv K H [] []
  | cons {i : Int} {v : V} {ks : List (Key × V)} {d : D} {es : List (D × D)} : Dt K H v d → DtKv K H ks es → DtKv K H ((.inl i, v) :: ks) ((.int i, d) :: es)
  | conS {i : Str} {v : V} {ks : List (Key × V)} {d : D} {es : List (D × D)} : Dt K H v d → DtKv K H ks es → DtKv K H ((.inr i, v) :: ks) ((.str i, d) :: es)
inductive DtAll (K : PySem.W.Frag) (H : Hp) : List V → List D → Prop
  | nil : DtAll K H [] []
  | cons {v : V} {vs : List V} {d : D} {ds : List D} : Dt K H v d → DtAll K H vs ds → DtAll K H (v :: vs) (d :: ds)
end
mutual
theorem Dt.dp {K : PySem.W.Frag} {H : Hp} : ∀ {v : V} {d : D}, Dt K H v d → d.hasDict = false → Dp K H v d
  | _, _, .non, _ => .non
  | _, _, .bl b, _ => .bl b
  | _, _, .int i, _ => .int i
  | _, _, .str x, _ => .str x
  | _, _, .lst h a, z => .lst (SqL.of h) (DtAll.dp a (by rw [PyData.hasDict] at z; exact z))
  | _, _, .tup h a, z => .tup h (DtAll.dp a (by rw [PyData.hasDict] at z; exact z))
  | _, _, .dic h a, z => by rw [PyData.hasDict] at z; cases z
theorem DtAll.dp {K : PySem.W.Frag} {H : Hp} : ∀ {vs : List V} {ds : List D}, DtAll K H vs ds → PyData.hasDictAll ds = false → DpAll K H vs ds
  | _, _, .nil, _ => .nil
  | _, _, .cons h t, z => by
    rw [PyData.hasDictAll, Bool.or_eq_false_iff] at z
    exact .cons (Dt.dp h z.1) (DtAll.dp t z.2)
end
mutual
theorem dp_mono {K : PySem.W.Frag} {H H' : Hp} (e : Ex H H') : ∀ {v : V} {d : D}, Dt K H v d → Dt K H' v d
  | _, _, .non => .non
  | _, _, .bl b => .bl b
  | _, _, .int i => .int i
  | _, _, .str x => .str x
  | _, _, .lst h a => .lst (e _ _ h) (dps_mono e a)
  | _, _, .tup h a => .tup (ex_t e h) (dps_mono e a)
  | _, _, .dic h a => .dic (e _ _ h) (dtkv_mono e a)
theorem dtkv_mono {K : PySem.W.Frag} {H H' : Hp} (e : Ex H H') : ∀ {ks : List (Key × V)} {es : List (D × D)}, DtKv K H ks es → DtKv K H' ks es
  | _, _, .nil => .nil
  | _, _, .cons h t => .cons (dp_mono e h) (dtkv_mono e t)
  | _, _, .conS h t => .conS (dp_mono e h) (dtkv_mono e t)
theorem dps_mono {K : PySem.W.Frag} {H H' : Hp} (e : Ex H H') : ∀ {vs : List V} {ds : List D}, DtAll K H vs ds → DtAll K H' vs ds
  | _, _, .nil => .nil
  | _, _, .cons h t => .cons (dp_mono e h) (dps_mono e t)
end
section
variable {K : PySem.W.Frag} {H H' : Hp} {v : V} {d : D} {vs : List V} {ds : List D}
theorem dps_len : ∀ {vs : List V} {ds : List D}, DtAll K H vs ds → vs.length = ds.length
  | _, _, .nil => rfl
  | _, _, .cons _ t => congrArg (· + 1) (dps_len t)
theorem dps_get : ∀ {vs : List V} {ds : List D} {i : Nat} {d : D}, DtAll K H vs ds → ds[i]? = some d → ∃ v, vs[i]? = some v ∧ Dt K H v d
  | _, _, _, _, .nil, e => by simp at e
  | _, _, 0, d, .cons (v := v) h _, e => by
    cases Option.some.inj e
    exact ⟨v, rfl, h⟩
  | _, _, i + 1, d, .cons _ t, e => by
    obtain ⟨u, h1, h2⟩ := dps_get (i := i) (d := d) t (by simpa using e)
    exact ⟨u, by simpa using h1, h2⟩
theorem dps_at : ∀ {vs : List V} {ds : List D} {i : Nat} {v : V}, DtAll K H vs ds → vs[i]? = some v → ∃ d, ds[i]? = some d ∧ Dt K H v d
  | _, _, _, _, .nil, e => by simp at e
  | _, _, 0, _, .cons (d := d) h _, e => by
    cases Option.some.inj e
    exact ⟨d, rfl, h⟩
  | _, _, i + 1, v, .cons _ t, e => by
    obtain ⟨u, h1, h2⟩ := dps_at (i := i) (v := v) t (by simpa using e)
    exact ⟨u, by simpa using h1, h2⟩
theorem dps_app : ∀ {vs : List V} {ds : List D} {us : List V} {es : List D}, DtAll K H vs ds → DtAll K H us es → DtAll K H (vs ++ us) (ds ++ es)
  | _, _, _, _, .nil, s => s
  | _, _, _, _, .cons h t, s => .cons h (dps_app t s)
theorem dps_set (h : Dt K H v d) : ∀ {vs : List V} {ds : List D} (i : Nat), DtAll K H vs ds → DtAll K H (vs.set i v) (ds.set i d)
  | _, _, _, .nil => .nil
  | _, _, 0, .cons _ t => .cons h t
  | _, _, i + 1, .cons g t => .cons g (dps_set h i t)
theorem dps_take : ∀ {vs : List V} {ds : List D} (n : Nat), DtAll K H vs ds → DtAll K H (vs.take n) (ds.take n)
  | _, _, 0, _ => .nil
  | _, _, _ + 1, .nil => .nil
  | _, _, n + 1, .cons h t => .cons h (dps_take n t)
theorem dps_drop : ∀ {vs : List V} {ds : List D} (n : Nat), DtAll K H vs ds → DtAll K H (vs.drop n) (ds.drop n)
  | _, _, 0, h => h
  | _, _, _ + 1, .nil => .nil
  | _, _, n + 1, .cons _ t => dps_drop n t
theorem dps_erase : ∀ {vs : List V} {ds : List D} (n : Nat), DtAll K H vs ds → DtAll K H (vs.eraseIdx n) (ds.eraseIdx n)
  | _, _, _, .nil => .nil
  | _, _, 0, .cons _ t => t
  | _, _, n + 1, .cons h t => .cons h (dps_erase n t)
theorem dps_rep (h : Dt K H v d) : ∀ n : Nat, DtAll K H (List.replicate n v) (List.replicate n d)
  | 0 => .nil
  | n + 1 => .cons h (dps_rep h n)
theorem dps_ints (ns : List Int) : DtAll K H (ns.map V.int) (ns.map PyData.int) := by
  induction ns with
  | nil => exact .nil
  | cons n r ih => exact .cons (.int n) ih
theorem dps_ints_inv : ∀ {ns : List Int} {vs : List V}, DtAll K H vs (ns.map PyData.int) → vs = ns.map V.int
  | [], _, h => by
    cases h
    rfl
  | n :: r, _, h => by
    cases h with
    | cons h t =>
      cases h
      rw [dps_ints_inv t]
      rfl
theorem dps_bools_inv : ∀ {ns : List Bool} {vs : List V}, DtAll K H vs (ns.map PyData.bool) → vs = ns.map V.bl
  | [], _, h => by
    cases h
    rfl
  | n :: r, _, h => by
    cases h with
    | cons h t =>
      cases h
      rw [dps_bools_inv t]
      rfl
theorem dp_int_inv {n : Int} (h : Dt K H v (.int n)) : v = .int n := by
  cases h
  rfl
theorem dp_bool_inv {n : Bool} (h : Dt K H v (.bool n)) : v = .bl n := by
  cases h
  rfl
theorem dp_str_inv {n : Str} (h : Dt K H v (.str n)) : v = .str n := by
  cases h
  rfl
theorem dp_non_inv (h : Dt K H v .none) : v = .non := by
  cases h
  rfl
end

/-! ### growth: B what is stable, H what stands; S what may change -/
structure Ext (S : Addr → Prop) (B H B' H' : Hp) : Prop where
  b : Ex B B'
  s : Ex B' H'
  k : ∀ a o, H a = some o → ¬ S a → H' a = some o
  t : ∀ a, H a ≠ none → H' a ≠ none
  n : ∀ a, H a ≠ none → B a = none → B' a = none
theorem Ext.refl {S : Addr → Prop} {B H : Hp} (e : Ex B H) : Ext S B H B H := ⟨Ex.refl B, e, fun _ _ h _ => h, fun _ h => h, fun _ _ h => h⟩
theorem Ext.trans {S : Addr → Prop} {B H B1 H1 B2 H2 : Hp} (x : Ext S B H B1 H1) (y : Ext S B1 H1 B2 H2) : Ext S B H B2 H2 :=
  ⟨x.b.trans y.b, y.s, fun a o h hs => y.k a o (x.k a o h hs) hs, fun a h => y.t a (x.t a h), fun a h hb => y.n a (x.t a h) (x.n a h hb)⟩
theorem Ext.wide {S S' : Addr → Prop} {B H B1 H1 : Hp} (x : Ext S B H B1 H1) (h : ∀ a, S a → S' a) : Ext S' B H B1 H1 :=
  ⟨x.b, x.s, fun a o e hs => x.k a o e fun z => hs (h a z), x.t, x.n⟩
theorem fresh_b {B H : Hp} {p : Addr} (e : Ex B H) (h : H p = none) : B p = none := Evl.fresh_back e h
/-- a new thing, stable from now on -/
theorem Ext.new {S : Addr → Prop} {B H : Hp} {p : Addr} {o : HO} (e : Ex B H) (h : H p = none) : Ext S B H (upd B p o) (upd H p o) where
  b := Ex.new (fresh_b e h)
  s := fun a u z => by
    by_cases q : a = p
    · subst q
      rw [upd_same] at z ⊢
      exact z
    · rw [upd_ne q] at z ⊢
      exact e a u z
  k := fun a u z _ => by
    rw [upd_ne (ne_of_none z h)]
    exact z
  t := fun a z => by
    rw [upd_ne (fun q => z (by rw [q]; exact h))]
    exact z
  n := fun a z hb => by
    rw [upd_ne (fun q => z (by rw [q]; exact h))]
    exact hb
/-- a new thing that is owned -/
theorem Ext.newOwn {S : Addr → Prop} {B H : Hp} {p : Addr} {o : HO} (e : Ex B H) (h : H p = none) : Ext S B H B (upd H p o) where
  b := Ex.refl B
  s := Ex.trans e (Ex.new h)
  k := (Ext.new (S := S) (o := o) e h).k
  t := (Ext.new (S := S) (o := o) e h).t
  n := fun _ _ hb => hb
/-- an owned thing that was not there at first is stable from now on -/
theorem Ext.freeze {S : Addr → Prop} {B H B' H' : Hp} {p : Addr} {o : HO} (x : Ext S B H B' H') (h : H p = none) (h' : H' p = some o) (hb : B' p = none) : Ext S B H (upd B' p o) H' where
  b := x.b.trans (Ex.new hb)
  s := fun a u z => by
    by_cases q : a = p
    · subst q
      rw [upd_same] at z
      cases z
      exact h'
    · rw [upd_ne q] at z
      exact x.s a u z
  k := x.k
  t := x.t
  n := fun a z zb => by
    rw [upd_ne (fun q => z (by rw [q]; exact h))]
    exact x.n a z zb

/-- a resource: the addresses S, what R says of them -/
structure Res (S : Addr → Prop) (R : Hp → Hp → Prop) : Prop where
  live : ∀ {B H : Hp} {a : Addr}, R B H → S a → H a ≠ none ∧ B a = none
  stab : ∀ {B H B' H' : Hp}, R B H → Ex B B' → (∀ a o, S a → H a = some o → H' a = some o) → (∀ a, S a → B' a = none) → R B' H'
theorem res0 : Res (fun _ => False) (fun _ _ => True) := ⟨fun _ h => h.elim, fun _ _ _ _ => trivial⟩
/-- where one stands: the written part, the resource, the entry -/
structure Cn where
  K : PySem.W.Frag
  S : Addr → Prop
  R : Hp → Hp → Prop
  res : Res S R
  B0 : Hp
  H0 : Hp
structure At (c : Cn) (B H : Hp) : Prop where
  e : Ext c.S c.B0 c.H0 B H
  r : c.R B H
section
variable {c : Cn} {B H B' H' : Hp} {p : Addr} {o : HO}
theorem At.go (a : At c B H) (x : Ext c.S B H B' H') (r : c.R B' H') : At c B' H' := ⟨a.e.trans x, r⟩
theorem At.same (a : At c B H) : Ext c.S B H B H := Ext.refl a.e.s
/-- the resource stays where nothing of it is touched -/
theorem At.stay (a : At c B H) (x : Ext (fun _ => False) B H B' H') : c.R B' H' :=
  c.res.stab a.r x.b (fun q o _ h => x.k q o h fun z => z) fun q hq => x.n q (c.res.live a.r hq).1 (c.res.live a.r hq).2
theorem At.new (a : At c B H) (h : H p = none) : Ext c.S B H (upd B p o) (upd H p o) ∧ c.R (upd B p o) (upd H p o) :=
  ⟨Ext.new a.e.s h, a.stay (Ext.new a.e.s h)⟩
theorem At.newOwn (a : At c B H) (h : H p = none) : Ext c.S B H B (upd H p o) ∧ c.R B (upd H p o) :=
  ⟨Ext.newOwn a.e.s h, a.stay (Ext.newOwn a.e.s h)⟩
theorem At.notS (a : At c B H) (h : H p = none) : ¬ c.S p := fun z => (c.res.live a.r z).1 h
theorem At.freeze (a : At c B' H') (h : c.H0 p = none) (h' : H' p = some o) (hb : B' p = none) (hs : ¬ c.S p) : At c (upd B' p o) H' :=
  ⟨a.e.freeze h h' hb, c.res.stab a.r (Ex.new hb) (fun _ _ _ z => z) fun q hq => by
    rw [upd_ne (fun e => hs (by rw [← e]; exact hq))]
    exact (c.res.live a.r hq).2⟩
end

/-! ### dicts by tuples -/
mutual
/-- a tuple of data as a key -/
def nkOf : D → NestedKey
  | .none => .none
  | .bool b => .num (if b = true then 1 else 0)
  | .int i => .num i
  | .str x => .text x
  | .tuple ds => .tup (nkAll ds)
  | .list _ => .none
  | .dict _ => .none
def nkAll : List D → List NestedKey
  | [] => []
  | d :: ds => nkOf d :: nkAll ds
end
/-- a dict at a whose keys are tuples, by its keys, where they stand, its values -/
def NDictO (P : Program) (w : World) (a : Addr) (ks : List (NestedKey × Addr × V)) : HO := .ext fun h => ks.length ≤ sizeLine ∧ (a == sysModules) = false ∧ ∃ xs : List (NestedKey × Addr × Value), Paired (fun (p : NestedKey × Addr × V) (q : NestedKey × Addr × Value) => p.1 = q.1 ∧ p.2.1 = q.2.1 ∧ RelV p.2.2 q.2.2) ks xs ∧
  ∃ o es ep, h.get? a = some o ∧ o.ExactDict ∧ o.data = .dict es ep ∧ es.toList = xs.map (entryOfKey (nestedKind P w)) ∧ (xs.map (·.1)).Nodup

/-! ### slots as data -/
/-- what a slot may own: a list, a dict by ints, a dict by tuples -/
inductive OD where
  | lst (ds : List D)
  | idc (es : List (D × D))
  | ndc (P : Program) (w : World) (es : List (D × D))
def ObIn (K : PySem.W.Frag) (B H : Hp) (p : Addr) : OD → Prop
  | .lst ds => ∃ xs, H p = some (.lst xs) ∧ DtAll K B xs ds
  | .idc es => ∃ ks, H p = some (.dK ks) ∧ DtKv K B ks es
  | .ndc P w es => ∃ ks, H p = some (NDictO P w p ks) ∧ Paired (fun (k : NestedKey × Addr × V) (q : D × D) => Dt K B (.ref k.2.1) q.1 ∧ nkOf q.1 = k.1 ∧ Dt K B k.2.2 q.2) ks es
theorem ObIn.go {K : PySem.W.Frag} {B H B' H' : Hp} {p : Addr} {u : OD} (h : ObIn K B H p u) (e : Ex B B') (k : ∀ o, H p = some o → H' p = some o) : ObIn K B' H' p u := by
  cases u with
  | lst ds =>
    obtain ⟨xs, h1, h2⟩ := h
    exact ⟨xs, k _ h1, dps_mono e h2⟩
  | idc es =>
    obtain ⟨xs, h1, h2⟩ := h
    exact ⟨xs, k _ h1, dtkv_mono e h2⟩
  | ndc P w es =>
    obtain ⟨xs, h1, h2⟩ := h
    exact ⟨xs, k _ h1, Paired.mapP h2 fun a b z => ⟨dp_mono e z.1, z.2.1, dp_mono e z.2.2⟩⟩
theorem ObIn.live {K : PySem.W.Frag} {B H : Hp} {p : Addr} {u : OD} (h : ObIn K B H p u) : H p ≠ none := by
  cases u with
  | lst ds => obtain ⟨xs, h1, _⟩ := h; rw [h1]; exact nofun
  | idc es => obtain ⟨xs, h1, _⟩ := h; rw [h1]; exact nofun
  | ndc P w es => obtain ⟨xs, h1, _⟩ := h; rw [h1]; exact nofun
inductive Sl where
  | no
  | dat (d : D)
  | raw (v : V)
  | ow (p : Addr) (u : OD)
abbrev Sl.own (p : Addr) (ds : List D) : Sl := .ow p (.lst ds)
def SlOk (c : Cn) (B H : Hp) (x : Option V) : Sl → Prop
  | .no => True
  | .dat d => ∃ v, x = some v ∧ Dt c.K B v d
  | .raw v => x = some v
  | .ow p u => x = some (.ref p) ∧ ObIn c.K B H p u ∧ B p = none ∧ ¬ c.S p ∧ c.H0 p = none
def owns : List Sl → List Addr
  | [] => []
  | .ow p _ :: r => p :: owns r
  | _ :: r => owns r
structure EnvOk (c : Cn) (B H : Hp) (σ : Sg) (env : List Sl) : Prop where
  len : σ.length = env.length
  at_ : ∀ (i : Nat) (s : Sl), env[i]? = some s → ∃ x : Option V, σ[i]? = some x ∧ SlOk c B H x s
  nd : (owns env).Nodup
section
variable {c : Cn} {B H B' H' : Hp} {σ : Sg} {env : List Sl} {p : Addr} {ds : List D} {i : Nat} {s : Sl} {x : Option V}
theorem SlOk.go (h : SlOk c B H x s) (e : Ext c.S B H B' H') : SlOk c B' H' x s := by
  cases s with
  | no => exact trivial
  | dat d =>
    obtain ⟨v, e1, e2⟩ := h
    exact ⟨v, e1, dp_mono e.b e2⟩
  | raw v => exact h
  | ow p u =>
    obtain ⟨e1, h1, h3, h4, h5⟩ := h
    exact ⟨e1, h1.go e.b fun o z => e.k _ _ z h4, e.n _ h1.live h3, h4, h5⟩
theorem EnvOk.go (h : EnvOk c B H σ env) (e : Ext c.S B H B' H') : EnvOk c B' H' σ env :=
  ⟨h.len, fun i s hs => let ⟨x, h1, h2⟩ := h.at_ i s hs; ⟨x, h1, h2.go e⟩, h.nd⟩
theorem owns_mem : ∀ {env : List Sl} {p : Addr}, p ∈ owns env ↔ ∃ u : OD, ∃ i : Nat, env[i]? = some (.ow p u)
  | [], p => by simp [owns]
  | s :: r, p => by
    have ih := owns_mem (env := r) (p := p)
    constructor
    · intro h
      cases s with
      | ow q es =>
        rcases List.mem_cons.mp h with e | h
        · subst e
          exact ⟨es, 0, rfl⟩
        · obtain ⟨ds, i, e⟩ := ih.mp h
          exact ⟨ds, i + 1, by simpa using e⟩
      | _ =>
        obtain ⟨ds, i, e⟩ := ih.mp h
        exact ⟨ds, i + 1, by simpa using e⟩
    · rintro ⟨ds, i, e⟩
      cases i with
      | zero =>
        obtain rfl : s = .ow p ds := by simpa using e
        exact List.mem_cons_self
      | succ i =>
        have h : p ∈ owns r := ih.mpr ⟨ds, i, by simpa using e⟩
        cases s with
        | ow q es => exact List.mem_cons_of_mem _ h
        | _ => exact h
theorem owns_set_sub : ∀ {env : List Sl} {i : Nat} {s : Sl}, (∀ p u, s ≠ .ow p u) → (owns (env.set i s)).Sublist (owns env)
  | [], _, _, _ => List.Sublist.refl _
  | t :: r, 0, s, h => by
    have e : owns (s :: r) = owns r := by
      cases s with
      | ow p ds => exact absurd rfl (h p ds)
      | _ => rfl
    show (owns (s :: r)).Sublist (owns (t :: r))
    rw [e]
    cases t with
    | ow p ds => exact List.sublist_cons_self _ _
    | _ => exact List.Sublist.refl _
  | t :: r, i + 1, s, h => by
    have ih := owns_set_sub (env := r) (i := i) h
    show (owns (t :: r.set i s)).Sublist (owns (t :: r))
    cases t with
    | ow p ds => exact ih.cons_cons p
    | _ => exact ih
theorem owns_set_own : ∀ {env : List Sl} {i : Nat} {p : Addr} {ds : OD}, (owns env).Nodup → p ∉ owns env → (owns (env.set i (.ow p ds))).Nodup ∧ ∀ q ∈ owns (env.set i (.ow p ds)), q = p ∨ q ∈ owns env
  | [], _, _, _, h, _ => ⟨h, fun q hq => .inr hq⟩
  | t :: r, 0, p, ds, h, hp => by
    have hr : (owns r).Nodup ∧ p ∉ owns r ∧ ∀ q ∈ owns r, q ∈ owns (t :: r) := by
      cases t with
      | ow q es => exact ⟨(List.nodup_cons.mp h).2, fun z => hp (List.mem_cons_of_mem _ z), fun z hz => List.mem_cons_of_mem _ hz⟩
      | _ => exact ⟨h, hp, fun z hz => hz⟩
    refine ⟨List.nodup_cons.mpr ⟨hr.2.1, hr.1⟩, fun q hq => ?_⟩
    rcases List.mem_cons.mp hq with e | hq
    · exact .inl e
    · exact .inr (hr.2.2 q hq)
  | t :: r, i + 1, p, ds, h, hp => by
    cases t with
    | ow q es =>
      have h' := List.nodup_cons.mp h
      obtain ⟨i1, i2⟩ := owns_set_own (env := r) (i := i) (p := p) (ds := ds) h'.2 (fun z => hp (List.mem_cons_of_mem _ z))
      refine ⟨List.nodup_cons.mpr ⟨fun z => ?_, i1⟩, fun z hz => ?_⟩
      · rcases i2 q z with e | e
        · exact hp (by rw [← e]; exact List.mem_cons_self)
        · exact h'.1 e
      · rcases List.mem_cons.mp hz with e | hz
        · exact .inr (by rw [e]; exact List.mem_cons_self)
        · rcases i2 z hz with e | e
          · exact .inl e
          · exact .inr (List.mem_cons_of_mem _ e)
    | _ => exact owns_set_own (env := r) (i := i) (p := p) (ds := ds) h hp
/-- an owned list keeps its place and gets other items -/
theorem owns_set_same : ∀ {env : List Sl} {i : Nat} {p : Addr} {ds es : OD}, env[i]? = some (.ow p ds) → owns (env.set i (.ow p es)) = owns env
  | [], _, _, _, _, h => by simp at h
  | t :: r, 0, p, ds, es, h => by
    obtain rfl : t = .ow p ds := by simpa using h
    rfl
  | t :: r, i + 1, p, ds, es, h => by
    have ih := owns_set_same (env := r) (i := i) (p := p) (ds := ds) (es := es) (by simpa using h)
    show owns (t :: r.set i (.ow p es)) = owns (t :: r)
    cases t with
    | ow q qs => exact congrArg (q :: ·) ih
    | _ => exact ih
theorem EnvOk.put (h : EnvOk c B H σ env) {v : V} (hs : ∀ p u, s ≠ .ow p u) (hv : SlOk c B H (some v) s) : EnvOk c B H (σ.set i (some v)) (env.set i s) where
  len := by rw [List.length_set, List.length_set, h.len]
  at_ := fun j u hu => by
    by_cases e : i = j
    · subst e
      have hl : i < env.length := by
        have := (List.getElem?_eq_some_iff.mp hu).1
        rwa [List.length_set] at this
      rw [List.getElem?_set_self hl] at hu
      cases hu
      exact ⟨some v, List.getElem?_set_self (by rw [h.len]; exact hl), hv⟩
    · rw [List.getElem?_set_ne e] at hu ⊢
      exact h.at_ j u hu
  nd := h.nd.sublist (owns_set_sub hs)
theorem EnvOk.dat (h : EnvOk c B H σ env) {v : V} {d : D} (hd : Dt c.K B v d) : EnvOk c B H (σ.set i (some v)) (env.set i (.dat d)) :=
  h.put (fun _ _ z => nomatch z) ⟨v, rfl, hd⟩
theorem EnvOk.live (h : EnvOk c B H σ env) (hp : p ∈ owns env) : H p ≠ none := by
  obtain ⟨ds, i, e⟩ := owns_mem.mp hp
  obtain ⟨x, _, _, z, _⟩ := h.at_ i _ e
  exact z.live
/-- a slot gets a new owned thing -/
theorem EnvOk.owO {u : OD} (h : EnvOk c B H σ env) (hn : p ∉ owns env) (hu : ObIn c.K B H p u) (hb : B p = none) (hs : ¬ c.S p) (h0 : c.H0 p = none) :
    EnvOk c B H (σ.set i (some (.ref p))) (env.set i (.ow p u)) where
  len := by rw [List.length_set, List.length_set, h.len]
  at_ := fun j u hu' => by
    by_cases e : i = j
    · subst e
      have hl : i < env.length := by
        have := (List.getElem?_eq_some_iff.mp hu').1
        rwa [List.length_set] at this
      rw [List.getElem?_set_self hl] at hu'
      cases hu'
      exact ⟨some (.ref p), List.getElem?_set_self (by rw [h.len]; exact hl), rfl, hu, hb, hs, h0⟩
    · rw [List.getElem?_set_ne e] at hu' ⊢
      exact h.at_ j u hu'
  nd := (owns_set_own h.nd hn).1
theorem EnvOk.own (h : EnvOk c B H σ env) {xs : List V} (hn : p ∉ owns env) (hp : H p = some (.lst xs)) (hd : DtAll c.K B xs ds) (hb : B p = none) (hs : ¬ c.S p) (h0 : c.H0 p = none) :
    EnvOk c B H (σ.set i (some (.ref p))) (env.set i (.own p ds)) := h.owO hn ⟨xs, hp, hd⟩ hb hs h0
/-- two slots with one address are one -/
theorem owns_two {q : Addr} : ∀ {l : List Sl} {i j : Nat} {a b : OD}, (owns l).Nodup → l[i]? = some (.ow q a) → l[j]? = some (.ow q b) → i = j := by
  intro l
  induction l with
  | nil => intro i j a b _ h _; simp at h
  | cons t r ih =>
    intro i j a b nd h1 h2
    cases i with
    | zero =>
      cases j with
      | zero => rfl
      | succ j =>
        obtain rfl : t = .ow q a := by simpa using h1
        exact absurd (owns_mem.mpr ⟨b, j, by simpa using h2⟩) (List.nodup_cons.mp nd).1
    | succ i =>
      cases j with
      | zero =>
        obtain rfl : t = .ow q b := by simpa using h2
        exact absurd (owns_mem.mpr ⟨a, i, by simpa using h1⟩) (List.nodup_cons.mp nd).1
      | succ j =>
        have nd' : (owns r).Nodup := by
          cases t with
          | ow z zs => exact (List.nodup_cons.mp nd).2
          | _ => exact nd
        exact congrArg (· + 1) (ih nd' (by simpa using h1) (by simpa using h2))
/-- an owned thing changes -/
theorem EnvOk.itemsO {u u' : OD} {ob : HO} (h : EnvOk c B H σ env) (hi : env[i]? = some (.ow p u)) (hd : ObIn c.K B (upd H p ob) p u') : EnvOk c B (upd H p ob) σ (env.set i (.ow p u')) where
  len := by rw [List.length_set, h.len]
  at_ := fun j u hu => by
    by_cases e : i = j
    · subst e
      have hl := (List.getElem?_eq_some_iff.mp hi).1
      rw [List.getElem?_set_self hl] at hu
      cases hu
      obtain ⟨x, h1, h2, h3, h5, h6, h7⟩ := h.at_ i _ hi
      exact ⟨x, h1, h2, hd, h5, h6, h7⟩
    · rw [List.getElem?_set_ne e] at hu
      obtain ⟨x, h1, h2⟩ := h.at_ j u hu
      refine ⟨x, h1, ?_⟩
      cases u with
      | no => exact trivial
      | dat d => exact h2
      | raw v => exact h2
      | ow q qs =>
        obtain ⟨e1, h3, r⟩ := h2
        have hne : q ≠ p := by
          rintro rfl
          exact e (owns_two h.nd hi hu)
        exact ⟨e1, h3.go (Ex.refl B) fun o z => by rw [upd_ne hne]; exact z, r⟩
  nd := by
    rw [owns_set_same hi]
    exact h.nd
theorem EnvOk.items (h : EnvOk c B H σ env) {xs : List V} {es : List D} (hi : env[i]? = some (.own p ds)) (hd : DtAll c.K B xs es) : EnvOk c B (upd H p (.lst xs)) σ (env.set i (.own p es)) :=
  h.itemsO hi ⟨xs, upd_same, hd⟩
end
/-- the heap behind a change of an owned list -/
theorem At.items {c : Cn} {B H : Hp} {p : Addr} {o : HO} (a : At c B H) (hb : B p = none) (hs : ¬ c.S p) (h0 : c.H0 p = none) (hl : H p ≠ none) : At c B (upd H p o) where
  e := ⟨a.e.b, fun q u z => by
      rw [upd_ne (ne_of_none z hb)]
      exact a.e.s q u z, fun q u z zs => by
      rw [upd_ne (ne_of_none z h0)]
      exact a.e.k q u z zs, fun q z => by
      by_cases e : q = p
      · subst e
        rw [upd_same]
        exact nofun
      · rw [upd_ne e]
        exact a.e.t q z, a.e.n⟩
  r := c.res.stab a.r (Ex.refl B) (fun q u hq z => by
    rw [upd_ne (fun e => hs (by rw [← e]; exact hq))]
    exact z) fun q hq => (c.res.live a.r hq).2
end DL
/-! Dld: expressions by their data. -/
namespace DL
open PySem PySem.Spec PyProof.Rows L2
open Evl (Ex ex_l ex_t)

/-! ### operators of several kinds -/
def rAddU (K : PySem.W.Frag) : R2 := fun x y H Q => rI0 (fun i j => .int (i + j)) x y H Q ∨ rCat x y H Q ∨ rCatA K x y H Q ∨ ∃ i j, x = .str i ∧ y = .str j ∧ i.length + j.length ≤ sizeLine ∧ Q (.str (i ++ j)) H
def rMulU : R2 := fun x y H Q => rI CMul (fun i j => .int (i * j)) x y H Q ∨ rI CMulW (fun i j => .int (i * j)) x y H Q ∨ rRep x y H Q
def rSlU (K : PySem.W.Frag) : V → Option Int → Option Int → Hp → VK → Prop := fun x lo hi H Q => rSlL K x lo hi H Q ∨ rSlA K x lo hi H Q
section
variable {X : Cx}
theorem op_addU : OpR X (binaryOp .Add) (rAddU X.K) := by
  intro pins s σ H x y v u Q I rx ry h
  rcases h with h | h | h | h
  · exact op_add pins s σ H x y v u Q I rx ry h
  · exact op_cat pins s σ H x y v u Q I rx ry h
  · exact op_catA pins s σ H x y v u Q I rx ry h
  · exact op_add_str pins s σ H x y v u Q I rx ry h
theorem op_mulU : OpR X (binaryOp .Mult) rMulU := by
  intro pins s σ H x y v u Q I rx ry h
  rcases h with h | h | h
  · exact op_mul pins s σ H x y v u Q I rx ry h
  · exact op_mulW pins s σ H x y v u Q I rx ry h
  · exact op_rep pins s σ H x y v u Q I rx ry h
theorem sl_U : SlR X (rSlU X.K) := by
  intro pins s σ H x v vl vu lo hi sl Q I rx hs pl pu h
  rcases h with h | h
  · exact sl_list pins s σ H x v vl vu lo hi sl Q I rx hs pl pu h
  · exact sl_tupA pins s σ H x v vl vu lo hi sl Q I rx hs pl pu h
end

/-! ### judgements -/
def EvP (c : Cn) (te : TE) (env : List Sl) (P : D → Prop) : Prop := ∀ (σ : Sg) (B H : Hp), At c B H → EnvOk c B H σ env → ∀ Q : VK, (∀ v d B' H', Ext c.S B H B' H' → c.R B' H' → Dt c.K B' v d → P d → Q v H') → te σ H Q
abbrev Ev (c : Cn) (te : TE) (env : List Sl) (d : D) : Prop := EvP c te env (fun e => e = d)
/-- a new list that is not yet stable -/
def EvN (c : Cn) (te : TE) (env : List Sl) (P : List D → Prop) : Prop := ∀ (σ : Sg) (B H : Hp), At c B H → EnvOk c B H σ env → ∀ Q : VK,
  (∀ p xs ds B' H', Ext c.S B H B' H' → c.R B' H' → H p = none → B' p = none → H' p = some (.lst xs) → DtAll c.K B' xs ds → P ds → Q (.ref p) H') → te σ H Q
def LsOk (c : Cn) (B H : Hp) (p : Addr) (xs : List V) : Prop := H p = some (.lst xs) ∧ (B p = some (.lst xs) ∨ ¬ c.S p)
/-- a list that is read -/
def EvS (c : Cn) (te : TE) (env : List Sl) (ds : List D) : Prop := ∀ (σ : Sg) (B H : Hp), At c B H → EnvOk c B H σ env → ∀ Q : VK,
  (∀ p xs B' H', Ext c.S B H B' H' → c.R B' H' → LsOk c B' H' p xs → DtAll c.K B' xs ds → Q (.ref p) H') → te σ H Q
def EvTP (c : Cn) (tt : TT) (env : List Sl) (P : Bool → Prop) : Prop := ∀ (σ : Sg) (B H : Hp), At c B H → EnvOk c B H σ env → ∀ Q : Bool → Hp → Prop, (∀ b B' H', Ext c.S B H B' H' → c.R B' H' → P b → Q b H') → tt σ H Q
abbrev EvB (c : Cn) (tt : TT) (env : List Sl) (b : Bool) : Prop := EvTP c tt env (fun e => e = b)
def EvAP (c : Cn) (ta : TA) (env : List Sl) (P : List D → Prop) : Prop := ∀ (σ : Sg) (B H : Hp), At c B H → EnvOk c B H σ env → ∀ Q : List V → Hp → Prop, (∀ vs ds B' H', Ext c.S B H B' H' → c.R B' H' → DtAll c.K B' vs ds → P ds → Q vs H') → ta σ H Q
abbrev EvA (c : Cn) (ta : TA) (env : List Sl) (ds : List D) : Prop := EvAP c ta env (fun e => e = ds)
def EvO (c : Cn) (to : TO) (env : List Sl) (o : Option Int) : Prop := ∀ (σ : Sg) (B H : Hp), At c B H → EnvOk c B H σ env → ∀ Q : Option Int → Hp → Prop, (∀ B' H', Ext c.S B H B' H' → c.R B' H' → Q o H') → to σ H Q
/-- an operation on values that are data -/
def OpD (c : Cn) (r : R2) (a b : D) (P : D → Prop) : Prop := ∀ (B H : Hp) (x y : V), At c B H → Dt c.K B x a → Dt c.K B y b → ∀ Q : VK, (∀ z d B' H', Ext c.S B H B' H' → c.R B' H' → Dt c.K B' z d → P d → Q z H') → r x y H Q
def UnD (c : Cn) (r : V → Hp → VK → Prop) (a : D) (P : D → Prop) : Prop := ∀ (B H : Hp) (x : V), At c B H → Dt c.K B x a → ∀ Q : VK, (∀ z d B' H', Ext c.S B H B' H' → c.R B' H' → Dt c.K B' z d → P d → Q z H') → r x H Q
def CaD (c : Cn) (r : List V → Hp → VK → Prop) (as : List D) (P : D → Prop) : Prop := ∀ (B H : Hp) (xs : List V), At c B H → DtAll c.K B xs as → ∀ Q : VK, (∀ z d B' H', Ext c.S B H B' H' → c.R B' H' → Dt c.K B' z d → P d → Q z H') → r xs H Q

section
variable {c : Cn} {env : List Sl} {te ta tb tc : TE} {P P' : D → Prop} {d a b : D} {i : Nat} {r : R2} {tt tu : TT}

theorem EvP.imp (h : EvP c te env P) (k : ∀ d, P d → P' d) : EvP c te env P' := fun σ B H a e Q q => h σ B H a e Q fun v d B' H' x r t p => q v d B' H' x r t (k d p)
theorem Ev.is (h : Ev c te env a) (e : a = b) : Ev c te env b := by
  rw [← e]
  exact h
theorem EvB.is {x y : Bool} (h : EvB c tt env x) (e : x = y) : EvB c tt env y := by
  rw [← e]
  exact h
/-! values -/
theorem ev_var (h : env[i]? = some (.dat d)) : Ev c (tVar i) env d := fun σ B H a e Q q => by
  obtain ⟨x, h1, v, h2, h3⟩ := e.at_ i _ h
  subst h2
  exact ⟨v, h1, q v d B H a.same a.r h3 rfl⟩
theorem ev_c {v : V} (h : ∀ B, Dt c.K B v d) : Ev c (tC v) env d := fun σ B H a e Q q => q v d B H a.same a.r (h B) rfl
theorem ev_int {n : Int} : Ev c (tC (.int n)) env (.int n) := ev_c fun _ => .int n
theorem ev_bl {n : Bool} : Ev c (tC (.bl n)) env (.bool n) := ev_c fun _ => .bl n
theorem ev_str {n : Str} : Ev c (tC (.str n)) env (.str n) := ev_c fun _ => .str n
theorem ev_non : Ev c (tC .non) env .none := ev_c fun _ => .non
theorem ev_opP {Pa : D → Prop} {Pb : D → D → Prop} (ha : EvP c ta env Pa) (hb : ∀ a, Pa a → EvP c tb env (Pb a)) (hr : ∀ a b, Pa a → Pb a b → OpD c r a b P) : EvP c (tOp r ta tb) env P := fun σ B H A e Q q =>
  ha σ B H A e _ fun v a B1 H1 x1 r1 t1 p1 => hb a p1 σ B1 H1 (A.go x1 r1) (e.go x1) _ fun u b B2 H2 x2 r2 t2 p2 =>
    hr a b p1 p2 B2 H2 v u ((A.go x1 r1).go x2 r2) (dp_mono x2.b t1) t2 Q fun z d B3 H3 x3 r3 t3 p3 => q z d B3 H3 ((x1.trans x2).trans x3) r3 t3 p3
theorem ev_op (ha : Ev c ta env a) (hb : Ev c tb env b) (hr : OpD c r a b P) : EvP c (tOp r ta tb) env P :=
  ev_opP (Pb := fun _ e => e = b) ha (fun _ _ => hb) fun x y hx hy => by
    subst hx hy
    exact hr
theorem ev_unP {ru : V → Hp → VK → Prop} {Pa : D → Prop} (ha : EvP c ta env Pa) (hr : ∀ a, Pa a → UnD c ru a P) : EvP c (tUn ru ta) env P := fun σ B H A e Q q =>
  ha σ B H A e _ fun v a B1 H1 x1 r1 t1 p1 => hr a p1 B1 H1 v (A.go x1 r1) t1 Q fun z d B3 H3 x3 r3 t3 p3 => q z d B3 H3 (x1.trans x3) r3 t3 p3
theorem ev_if {x : Bool} (h : EvB c tt env x) (h1 : x = true → EvP c ta env P) (h2 : x = false → EvP c tb env P) : EvP c (tIf tt ta tb) env P := fun σ B H A e Q q =>
  h σ B H A e _ fun y B1 H1 x1 r1 p => by
    subst p
    cases y with
    | true =>
      show ta σ H1 Q
      exact h1 rfl σ B1 H1 (A.go x1 r1) (e.go x1) Q fun z d B3 H3 x3 r3 t3 p3 => q z d B3 H3 (x1.trans x3) r3 t3 p3
    | false =>
      show tb σ H1 Q
      exact h2 rfl σ B1 H1 (A.go x1 r1) (e.go x1) Q fun z d B3 H3 x3 r3 t3 p3 => q z d B3 H3 (x1.trans x3) r3 t3 p3
theorem ev_notV {x : Bool} (h : Ev c ta env (.bool x)) : Ev c (tNotV ta) env (.bool (!x)) := fun σ B H A e Q q =>
  h σ B H A e _ fun v d B1 H1 x1 r1 t1 p1 => by
    subst p1
    rw [dp_bool_inv t1]
    exact ⟨x, rfl, q _ _ B1 H1 x1 r1 (.bl _) rfl⟩
theorem ev_andV {x y : Bool} (h1 : Ev c ta env (.bool x)) (h2 : x = true → Ev c tb env (.bool y)) : Ev c (tAndV ta tb) env (.bool (x && y)) := fun σ B H A e Q q =>
  h1 σ B H A e _ fun v d B1 H1 x1 r1 t1 p1 => by
    subst p1
    rw [dp_bool_inv t1]
    refine ⟨x, rfl, ?_⟩
    cases x with
    | true => exact h2 rfl σ B1 H1 (A.go x1 r1) (e.go x1) Q fun z d B3 H3 x3 r3 t3 p3 => q z d B3 H3 (x1.trans x3) r3 t3 p3
    | false => exact q _ _ B1 H1 x1 r1 (.bl _) rfl
theorem ev_orV {x y : Bool} (h1 : Ev c ta env (.bool x)) (h2 : x = false → Ev c tb env (.bool y)) : Ev c (tOrV ta tb) env (.bool (x || y)) := fun σ B H A e Q q =>
  h1 σ B H A e _ fun v d B1 H1 x1 r1 t1 p1 => by
    subst p1
    rw [dp_bool_inv t1]
    refine ⟨x, rfl, ?_⟩
    cases x with
    | false => exact h2 rfl σ B1 H1 (A.go x1 r1) (e.go x1) Q fun z d B3 H3 x3 r3 t3 p3 => q z d B3 H3 (x1.trans x3) r3 t3 p3
    | true => exact q _ _ B1 H1 x1 r1 (.bl _) rfl

/-! tests -/
theorem et_B {x : Bool} (h : Ev c ta env (.bool x)) : EvB c (tB ta) env x := fun σ B H A e Q q =>
  h σ B H A e _ fun v d B1 H1 x1 r1 t1 p1 => by
    subst p1
    rw [dp_bool_inv t1]
    exact ⟨x, rfl, q x B1 H1 x1 r1 rfl⟩
theorem et_test {x : Bool} (h : Ev c ta env (.bool x)) : EvB c (tTest ta) env x := et_B h
theorem et_not {x : Bool} (h : EvB c tt env x) : EvB c (tNot tt) env (!x) := fun σ B H A e Q q =>
  h σ B H A e _ fun y B1 H1 x1 r1 p => by
    subst p
    exact q _ B1 H1 x1 r1 rfl
theorem et_and {x y : Bool} (h1 : EvB c tt env x) (h2 : x = true → EvB c tu env y) : EvB c (tAnd tt tu) env (x && y) := fun σ B H A e Q q =>
  h1 σ B H A e _ fun z B1 H1 x1 r1 p => by
    subst p
    cases z with
    | true => exact h2 rfl σ B1 H1 (A.go x1 r1) (e.go x1) Q fun b B3 H3 x3 r3 p3 => q b B3 H3 (x1.trans x3) r3 p3
    | false => exact q _ B1 H1 x1 r1 rfl
theorem et_or {x y : Bool} (h1 : EvB c tt env x) (h2 : x = false → EvB c tu env y) : EvB c (tOr tt tu) env (x || y) := fun σ B H A e Q q =>
  h1 σ B H A e _ fun z B1 H1 x1 r1 p => by
    subst p
    cases z with
    | false => exact h2 rfl σ B1 H1 (A.go x1 r1) (e.go x1) Q fun b B3 H3 x3 r3 p3 => q b B3 H3 (x1.trans x3) r3 p3
    | true => exact q _ B1 H1 x1 r1 rfl
theorem et_yes : EvB c tYes env true := fun σ B H A e Q q => q true B H A.same A.r rfl

/-! arguments, displays -/
theorem ea_nil : EvA c tNil env [] := fun σ B H A e Q q => q [] [] B H A.same A.r .nil rfl
theorem ea_consP {tr : TA} {Pa : D → Prop} {Pr : D → List D → Prop} (h : EvP c ta env Pa) (hr : ∀ a, Pa a → EvAP c tr env (Pr a)) : EvAP c (tCons ta tr) env (fun l => ∃ a r, l = a :: r ∧ Pa a ∧ Pr a r) := fun σ B H A e Q q =>
  h σ B H A e _ fun v d B1 H1 x1 r1 t1 p1 => hr d p1 σ B1 H1 (A.go x1 r1) (e.go x1) _ fun vs ds B2 H2 x2 r2 t2 p2 => q (v :: vs) (d :: ds) B2 H2 (x1.trans x2) r2 (.cons (dp_mono x2.b t1) t2) ⟨d, ds, rfl, p1, p2⟩
theorem ea_cons {tr : TA} {ds : List D} (h : Ev c ta env a) (hr : EvA c tr env ds) : EvA c (tCons ta tr) env (a :: ds) := fun σ B H A e Q q =>
  h σ B H A e _ fun v d B1 H1 x1 r1 t1 p1 => hr σ B1 H1 (A.go x1 r1) (e.go x1) _ fun vs es B2 H2 x2 r2 t2 p2 => by
    subst p1 p2
    exact q (v :: vs) (d :: es) B2 H2 (x1.trans x2) r2 (.cons (dp_mono x2.b t1) t2) rfl
theorem EvAP.imp {tr : TA} {P P' : List D → Prop} (h : EvAP c tr env P) (k : ∀ d, P d → P' d) : EvAP c tr env P' := fun σ B H a e Q q => h σ B H a e Q fun v d B' H' x r t p => q v d B' H' x r t (k d p)
theorem sz {n : Nat} (h : n ≤ 1000000) : n ≤ sizeLine := Nat.le_trans h (by decide)
theorem szlt {n : Nat} (h : n < 1000000) : n < sizeLine := Nat.lt_of_lt_of_le h (by decide)
theorem ev_tupP {tr : TA} {P : List D → Prop} (h : EvAP c tr env P) (hz : ∀ ds, P ds → ds.length ≤ 1000000) : EvP c (tTup tr) env (fun d => ∃ ds, d = .tuple ds ∧ P ds) := fun σ B H A e Q q =>
  h σ B H A e _ fun vs ds B1 H1 x1 r1 t1 p1 => ⟨sz (by rw [dps_len t1]; exact hz ds p1), fun p hp => by
    obtain ⟨x2, r2⟩ := (A.go x1 r1).new (o := .tup vs) hp
    exact q _ _ _ _ (x1.trans x2) r2 (.tup (SqT.of upd_same) (dps_mono x2.b t1)) ⟨ds, rfl, p1⟩⟩
theorem ev_tup {tr : TA} {ds : List D} (h : EvA c tr env ds) (hz : ds.length ≤ 1000000) : Ev c (tTup tr) env (.tuple ds) :=
  (ev_tupP h (fun es e => by rw [e]; exact hz)).imp fun d ⟨es, e1, e2⟩ => by rw [e1, e2]
theorem en_lstP {tr : TA} {P : List D → Prop} (h : EvAP c tr env P) (hz : ∀ ds, P ds → ds.length ≤ 1000000) : EvN c (tLst tr) env P := fun σ B H A e Q q =>
  h σ B H A e _ fun vs ds B1 H1 x1 r1 t1 p1 => ⟨sz (by rw [dps_len t1]; exact hz ds p1), fun p hp => by
    obtain ⟨x2, r2⟩ := (A.go x1 r1).newOwn (o := .lst vs) hp
    have h0 : H p = none := by
      cases z : H p with
      | none => rfl
      | some o => exact absurd hp (x1.t p (by rw [z]; exact nofun))
    exact q p vs ds B1 _ (x1.trans x2) r2 h0 (fresh_b x1.s hp) upd_same t1 p1⟩
theorem en_lst {tr : TA} {ds : List D} (h : EvA c tr env ds) (hz : ds.length ≤ 1000000) : EvN c (tLst tr) env (fun e => e = ds) := en_lstP h fun es e => by rw [e]; exact hz
theorem EvN.imp {P P' : List D → Prop} (h : EvN c te env P) (k : ∀ d, P d → P' d) : EvN c te env P' := fun σ B H a e Q q => h σ B H a e Q fun p xs ds B' H' x r h0 hb h1 t p' => q p xs ds B' H' x r h0 hb h1 t (k ds p')
/-- a new list made stable -/
theorem ev_newP {P : List D → Prop} (h : EvN c te env P) : EvP c te env (fun d => ∃ ds, d = .list ds ∧ P ds) := fun σ B H A e Q q =>
  h σ B H A e _ fun p xs ds B1 H1 x1 r1 h0 hb h1 t1 p1 => by
    have hs : ¬ c.S p := A.notS h0
    refine q _ _ (upd B1 p (.lst xs)) H1 (x1.freeze h0 h1 hb) (c.res.stab r1 (Ex.new hb) (fun _ _ _ z => z) fun q hq => ?_) (.lst upd_same (dps_mono (Ex.new hb) t1)) ⟨ds, rfl, p1⟩
    rw [upd_ne (fun e => hs (by rw [← e]; exact hq))]
    exact (c.res.live r1 hq).2
theorem ev_new {ds : List D} (h : EvN c te env (fun e => e = ds)) : Ev c te env (.list ds) := (ev_newP h).imp fun d ⟨es, e1, e2⟩ => by rw [e1, e2]

/-! lists that are read -/
theorem LsOk.go {B H B' H' : Hp} {p : Addr} {xs : List V} (h : LsOk c B H p xs) (x : Ext c.S B H B' H') : LsOk c B' H' p xs := by
  obtain ⟨h1, h2⟩ := h
  rcases h2 with h2 | h2
  · exact ⟨x.s _ _ (x.b _ _ h2), .inl (x.b _ _ h2)⟩
  · exact ⟨x.k _ _ h1 h2, .inr h2⟩
theorem es_own {p : Addr} {ds : List D} (h : env[i]? = some (.own p ds)) : EvS c (tVar i) env ds := fun σ B H A e Q q => by
  obtain ⟨x, h1, h2, ⟨xs, h3, h4⟩, h5, h6, h7⟩ := e.at_ i _ h
  subst h2
  exact ⟨_, h1, q p xs B H A.same A.r ⟨h3, .inr h6⟩ h4⟩
theorem es_of {ds : List D} (h : Ev c te env (.list ds)) : EvS c te env ds := fun σ B H A e Q q =>
  h σ B H A e _ fun v d B1 H1 x1 r1 t1 p1 => by
    subst p1
    cases t1 with
    | lst h a => exact q _ _ B1 H1 x1 r1 ⟨x1.s _ _ h, .inl h⟩ a
theorem es_new {ds : List D} (h : EvN c te env (fun e => e = ds)) : EvS c te env ds := es_of (ev_new h)
theorem es_var {ds : List D} (h : env[i]? = some (.dat (.list ds)) ∨ ∃ p, env[i]? = some (.own p ds)) : EvS c (tVar i) env ds := by
  rcases h with h | ⟨p, h⟩
  · exact es_of (ev_var h)
  · exact es_own h

/-! indices -/
theorem atI_map {xs : List V} {ds : List D} {B : Hp} {K : PySem.W.Frag} {j : Int} (t : DtAll K B xs ds) (h : atI ds j = some d) : ∃ v, atI xs j = some v ∧ Dt K B v d := by
  unfold atI at h ⊢
  rw [dps_len t]
  cases e : ixN ds.length j with
  | none =>
    rw [e] at h
    cases h
  | some k =>
    rw [e] at h
    exact dps_get t h
theorem atI_nat' {ds : List D} {n : Nat} : atI ds (n : Int) = ds[n]? := by
  unfold atI ixN
  rw [if_pos (by omega)]
  by_cases h : n < ds.length
  · rw [if_pos (by omega)]
    simp
  · rw [if_neg (by omega)]
    simp
    omega
theorem ev_ixT {ds : List D} {j : Int} (ha : Ev c ta env (.tuple ds)) (hb : Ev c tb env (.int j)) (h : atI ds j = some d) : Ev c (tOp (rIx c.K) ta tb) env d :=
  ev_op ha hb fun B H x y A tx ty Q q => by
    cases tx with
    | tup h1 h2 =>
      rw [dp_int_inv ty]
      obtain ⟨v, h3, h4⟩ := atI_map h2 h
      exact .inr (.inl ⟨_, _, j, v, rfl, rfl, ex_t A.e.s h1, h3, q v d B H A.same A.r h4 rfl⟩)
theorem ev_ixL {ds : List D} {j : Int} (ha : EvS c ta env ds) (hb : Ev c tb env (.int j)) (h : atI ds j = some d) : Ev c (tOp (rIx c.K) ta tb) env d := fun σ B H A e Q q =>
  ha σ B H A e _ fun p xs B1 H1 x1 r1 l1 t1 => hb σ B1 H1 (A.go x1 r1) (e.go x1) _ fun u n B2 H2 x2 r2 t2 p2 => by
    subst p2
    rw [dp_int_inv t2]
    obtain ⟨v, h3, h4⟩ := atI_map t1 h
    exact .inl ⟨_, _, j, v, rfl, rfl, SqL.of (l1.go x2).1, h3, q v d B2 H2 (x1.trans x2) r2 (dp_mono x2.b h4) rfl⟩
/-- the item's place is drawn -/
theorem ev_ixTP {ds : List D} {Pb : D → Prop} (ha : Ev c ta env (.tuple ds)) (hb : EvP c tb env Pb) (h : ∀ b, Pb b → ∃ j d, b = .int j ∧ atI ds j = some d ∧ P d) : EvP c (tOp (rIx c.K) ta tb) env P :=
  ev_opP (Pb := fun _ => Pb) ha (fun _ _ => hb) fun a b ea pb B H x y A tx ty Q q => by
    subst ea
    obtain ⟨j, d, rfl, h, pd⟩ := h b pb
    cases tx with
    | tup h1 h2 =>
      rw [dp_int_inv ty]
      obtain ⟨v, h3, h4⟩ := atI_map h2 h
      exact .inr (.inl ⟨_, _, j, v, rfl, rfl, ex_t A.e.s h1, h3, q v d B H A.same A.r h4 pd⟩)
theorem ev_ixLP {ds : List D} {Pb : D → Prop} (ha : EvS c ta env ds) (hb : EvP c tb env Pb) (h : ∀ b, Pb b → ∃ j d, b = .int j ∧ atI ds j = some d ∧ P d) : EvP c (tOp (rIx c.K) ta tb) env P := fun σ B H A e Q q =>
  ha σ B H A e _ fun p xs B1 H1 x1 r1 l1 t1 => hb σ B1 H1 (A.go x1 r1) (e.go x1) _ fun u n B2 H2 x2 r2 t2 p2 => by
    obtain ⟨j, d, rfl, h, pd⟩ := h n p2
    rw [dp_int_inv t2]
    obtain ⟨v, h3, h4⟩ := atI_map t1 h
    exact .inl ⟨_, _, j, v, rfl, rfl, SqL.of (l1.go x2).1, h3, q v d B2 H2 (x1.trans x2) r2 (dp_mono x2.b h4) pd⟩

/-! operators on ints -/
theorem opd_val {z : D} (h : ∀ (B H : Hp) (x y : V), At c B H → Dt c.K B x a → Dt c.K B y b → ∃ v, Dt c.K B v z ∧ ∀ Q : VK, Q v H → r x y H Q) : OpD c r a b (fun e => e = z) := fun B H x y A tx ty Q q => by
  obtain ⟨v, h1, h2⟩ := h B H x y A tx ty
  exact h2 Q (q v z B H A.same A.r h1 rfl)
theorem opd_I0 {f : Int → Int → Int} {i j : Int} : OpD c (rI0 fun i j => .int (f i j)) (.int i) (.int j) (fun e => e = .int (f i j)) :=
  opd_val fun B H x y A tx ty => ⟨_, .int _, fun Q q => ⟨i, j, dp_int_inv tx, dp_int_inv ty, q⟩⟩
theorem opd_cmp {f : Int → Int → Bool} {i j : Int} : OpD c (rI0 fun i j => .bl (f i j)) (.int i) (.int j) (fun e => e = .bool (f i j)) :=
  opd_val fun B H x y A tx ty => ⟨_, .bl _, fun Q q => ⟨i, j, dp_int_inv tx, dp_int_inv ty, q⟩⟩
theorem opd_I {C : Int → Int → Prop} {f : Int → Int → Int} {i j : Int} (hc : C i j) : OpD c (rI C fun i j => .int (f i j)) (.int i) (.int j) (fun e => e = .int (f i j)) :=
  opd_val fun B H x y A tx ty => ⟨_, .int _, fun Q q => ⟨i, j, dp_int_inv tx, dp_int_inv ty, hc, q⟩⟩
theorem opd_add {i j : Int} : OpD c (rAddU c.K) (.int i) (.int j) (fun e => e = .int (i + j)) :=
  opd_val fun B H x y A tx ty => ⟨_, .int _, fun Q q => .inl ⟨i, j, dp_int_inv tx, dp_int_inv ty, q⟩⟩
theorem opd_addS {i j : Str} (h : i.length + j.length ≤ 1000000) : OpD c (rAddU c.K) (.str i) (.str j) (fun e => e = .str (i ++ j)) :=
  opd_val fun B H x y A tx ty => ⟨_, .str _, fun Q q => .inr (.inr (.inr ⟨i, j, dp_str_inv tx, dp_str_inv ty, sz h, q⟩))⟩
theorem opd_mul {i j : Int} (hc : CMul i j) : OpD c rMulU (.int i) (.int j) (fun e => e = .int (i * j)) :=
  opd_val fun B H x y A tx ty => ⟨_, .int _, fun Q q => .inl ⟨i, j, dp_int_inv tx, dp_int_inv ty, hc, q⟩⟩
theorem opd_mulW {i j : Int} (hc : CMulW i j) : OpD c rMulU (.int i) (.int j) (fun e => e = .int (i * j)) :=
  opd_val fun B H x y A tx ty => ⟨_, .int _, fun Q q => .inr (.inl ⟨i, j, dp_int_inv tx, dp_int_inv ty, hc, q⟩)⟩
theorem opd_mod {i j : Int} (h : 0 < j) : OpD c (rI (fun _ j => j ≠ 0) fun i j => .int (i.fmod j)) (.int i) (.int j) (fun e => e = .int (i % j)) := by
  rw [← Int.fmod_eq_emod_of_nonneg i (Int.le_of_lt h)]
  exact opd_I (f := Int.fmod) (by omega)
theorem opd_div {i j : Int} (h : 0 < j) (h2 : j < 2 ^ 64) : OpD c (rI CDivW fun i j => .int (i / j)) (.int i) (.int j) (fun e => e = .int (i / j)) :=
  opd_I (f := fun i j => i / j) ⟨h, by
    have : j.natAbs < 2 ^ 64 := by omega
    have := Nat.log2_lt (n := j.natAbs) (k := 64) (by omega) |>.mpr this
    omega⟩
theorem opd_shl {i j : Nat} (h : j ≤ 1000) (h2 : i < 2 ^ 64) : OpD c (rI CPow fun i j => .int (i * 2 ^ j.toNat)) (.int i) (.int j) (fun e => e = .int ((i * 2 ^ j : Nat) : Int)) := by
  have e : ((i * 2 ^ j : Nat) : Int) = (i : Int) * 2 ^ ((j : Int).toNat) := by simp
  rw [e]
  exact opd_I (f := fun i j => i * 2 ^ j.toNat) ⟨by omega, by omega, by simpa using h2⟩
theorem opd_pow {i j : Nat} (h : j ≤ 1000) (h2 : i < 2 ^ 64) : OpD c (rI CPow fun i j => .int (i ^ j.toNat)) (.int i) (.int j) (fun e => e = .int ((i ^ j : Nat) : Int)) := by
  have e : ((i ^ j : Nat) : Int) = (i : Int) ^ ((j : Int).toNat) := by simp
  rw [e]
  exact opd_I (f := fun i j => i ^ j.toNat) ⟨by omega, by omega, by simpa using h2⟩
theorem opd_shr {i j : Nat} : OpD c (rI (fun _ j => 0 ≤ j) fun i j => .int (i / 2 ^ j.toNat)) (.int i) (.int j) (fun e => e = .int ((i / 2 ^ j : Nat) : Int)) := by
  have e : ((i / 2 ^ j : Nat) : Int) = (i : Int) / 2 ^ ((j : Int).toNat) := by simp
  rw [e]
  exact opd_I (f := fun i j => i / 2 ^ j.toNat) (by omega)
theorem opd_eq {x y : D} (hx : SeqAt.shaped x = true) (hy : SeqAt.shaped y = true) (nx : x.hasDict = false := by rw [PyData.hasDict]) (ny : y.hasDict = false := by rw [PyData.hasDict]) : OpD c (rEqD c.K) x y (fun e => e = .bool (PyData.eqv x y)) := fun B H u v A tx ty Q q =>
  ⟨x, y, (dp_mono A.e.s tx).dp nx, (dp_mono A.e.s ty).dp ny, hx, hy, q _ _ B H A.same A.r (.bl _) rfl⟩
theorem opd_ne {x y : D} (hx : SeqAt.shaped x = true) (hy : SeqAt.shaped y = true) (nx : x.hasDict = false := by rw [PyData.hasDict]) (ny : y.hasDict = false := by rw [PyData.hasDict]) : OpD c (rNeD c.K) x y (fun e => e = .bool (!PyData.eqv x y)) := fun B H u v A tx ty Q q =>
  ⟨x, y, (dp_mono A.e.s tx).dp nx, (dp_mono A.e.s ty).dp ny, hx, hy, q _ _ B H A.same A.r (.bl _) rfl⟩
/-! operators on tuples and lists -/
theorem opd_catT {xs ys : List D} (h : xs.length + ys.length ≤ 1000000) : OpD c (rAddU c.K) (.tuple xs) (.tuple ys) (fun e => e = .tuple (xs ++ ys)) := fun B H x y A tx ty Q q => by
  cases tx with
  | tup h1 a1 =>
    cases ty with
    | tup h2 a2 =>
      rename_i us vs
      refine .inr (.inr (.inl ⟨_, _, _, _, rfl, rfl, ex_t A.e.s h1, ex_t A.e.s h2, by rw [dps_len a1, dps_len a2]; exact sz h, fun e => ?_, fun e1 e2 => ?_, fun _ _ p hp => ?_⟩))
      · subst e
        cases a1
        exact q _ _ B H A.same A.r (.tup h2 a2) rfl
      · subst e2
        cases a2
        rw [List.append_nil] at q
        exact q _ _ B H A.same A.r (.tup h1 a1) rfl
      · obtain ⟨x2, r2⟩ := A.new (o := .tup _) hp
        exact q _ _ _ _ x2 r2 (.tup (SqT.of upd_same) (dps_mono x2.b (dps_app a1 a2))) rfl
theorem en_catP {P Pa Pb : List D → Prop} (ha : EvN c ta env Pa) (hb : EvN c tb env Pb) (h : ∀ x y, Pa x → Pb y → x.length + y.length ≤ 1000000 ∧ P (x ++ y)) : EvN c (tOp (rAddU c.K) ta tb) env P := fun σ B H A e Q q =>
  ha σ B H A e _ fun p xs ds B1 H1 x1 r1 h0 hb1 h1 t1 p1 => hb σ B1 H1 (A.go x1 r1) (e.go x1) _ fun p2 ys es B2 H2 x2 r2 h02 hb2 h2 t2 pp2 => by
    have hs : ¬ c.S p := A.notS h0
    obtain ⟨g1, g2⟩ := h ds es p1 pp2
    refine .inr (.inl ⟨p, p2, xs, ys, rfl, rfl, x2.k _ _ h1 hs, h2, by rw [dps_len t1, dps_len t2]; exact sz g1, fun z hz => ?_⟩)
    obtain ⟨x3, r3⟩ := ((A.go x1 r1).go x2 r2).newOwn (o := .lst (xs ++ ys)) hz
    have hz0 : H z = none := by
      cases w : H z with
      | none => rfl
      | some o => exact absurd hz ((x1.trans x2).t z (by rw [w]; exact nofun))
    exact q z _ _ B2 _ ((x1.trans x2).trans x3) r3 hz0 (fresh_b x2.s hz) upd_same (dps_app (dps_mono x2.b t1) t2) g2
theorem rep_flat {α : Type} (x : List α) : ∀ n : Nat, (List.replicate n x).flatten.length = n * x.length
  | 0 => by simp
  | n + 1 => by
    rw [List.replicate_succ, List.flatten_cons, List.length_append, rep_flat x n, Nat.succ_mul]
    omega
theorem dps_flat {K : PySem.W.Frag} {B : Hp} {xs : List V} {ds : List D} (t : DtAll K B xs ds) : ∀ n : Nat, DtAll K B (List.replicate n xs).flatten (List.replicate n ds).flatten
  | 0 => .nil
  | n + 1 => by
    rw [List.replicate_succ, List.replicate_succ, List.flatten_cons, List.flatten_cons]
    exact dps_app t (dps_flat t n)
theorem en_repP {P Pa : List D → Prop} {k : Int} (ha : EvN c ta env Pa) (hb : Ev c tb env (.int k)) (hk : -(2 ^ 63) ≤ k ∧ k < 2 ^ 63) (h : ∀ x, Pa x → x.length * k.toNat ≤ 1000000 ∧ P (List.replicate k.toNat x).flatten) : EvN c (tOp rMulU ta tb) env P := fun σ B H A e Q q =>
  ha σ B H A e _ fun p xs ds B1 H1 x1 r1 h0 hb1 h1 t1 p1 => hb σ B1 H1 (A.go x1 r1) (e.go x1) _ fun v d B2 H2 x2 r2 t2 pp2 => by
    subst pp2
    rw [dp_int_inv t2]
    have hs : ¬ c.S p := A.notS h0
    obtain ⟨g1, g2⟩ := h ds p1
    refine .inr (.inr ⟨p, k, xs, rfl, rfl, x2.k _ _ h1 hs, hk.1, hk.2, by rw [dps_len t1]; exact sz g1, fun z hz => ?_⟩)
    obtain ⟨x3, r3⟩ := ((A.go x1 r1).go x2 r2).newOwn (o := .lst (List.replicate k.toNat xs).flatten) hz
    have hz0 : H z = none := by
      cases w : H z with
      | none => rfl
      | some o => exact absurd hz ((x1.trans x2).t z (by rw [w]; exact nofun))
    exact q z _ _ B2 _ ((x1.trans x2).trans x3) r3 hz0 (fresh_b x2.s hz) upd_same (dps_mono x2.b (dps_flat t1 _)) g2
end
end DL
/-! Dle: what is walked, targets, comprehensions, calls, statements, by their data. -/
namespace DL
open PySem PySem.Spec PyProof.Rows L2
open Evl (Ex ex_l ex_t)

/-! ### what is walked -/
def Src (c : Cn) (J : It) (B : Hp) (ds : List D) : Prop := ∃ (G : Hp → Prop) (Y : Nat → Hp → V → Hp → Prop), Walk J ds.length G Y ∧ (∀ H, Ex B H → G H) ∧
  ∀ (i : Nat) (d : D) (x : V) (B2 H H' : Hp), ds[i]? = some d → At c B2 H → Ex B B2 → Y i H x H' → ∃ B3, Ext c.S B2 H B3 H' ∧ c.R B3 H' ∧ Dt c.K B3 x d
def EvI (c : Cn) (wi : TI) (env : List Sl) (ds : List D) : Prop := ∀ (σ : Sg) (B H : Hp), At c B H → EnvOk c B H σ env → ∀ R : It → Hp → Prop, (∀ J B' H', Ext c.S B H B' H' → c.R B' H' → Src c J B' ds → R J H') → wi σ H R
section
variable {c : Cn} {env : List Sl} {te ta tb : TE} {d a b : D} {i : Nat}
theorem ei_list {ds : List D} (h : Ev c te env (.list ds)) : EvI c (iList c.K te) env ds := fun σ B H A e R q =>
  h σ B H A e _ fun v d B1 H1 x1 r1 t1 p1 => by
    subst p1
    cases t1 with
    | lst h1 a1 =>
      rename_i a xs
      refine ⟨a, rfl, ⟨xs, SqL.of (x1.s _ _ h1)⟩, q _ B1 H1 x1 r1 ⟨fun H => SqL c.K H a xs, YAt xs, ?_, fun H e => SqL.of (e _ _ h1), ?_⟩⟩
      · rw [← dps_len a1]
        exact walk_list
      · rintro i d x B2 H2 H3 hd A2 e2 ⟨rfl, hx⟩
        obtain ⟨d', g1, g2⟩ := dps_at a1 hx
        rw [hd] at g1
        cases g1
        exact ⟨B2, A2.same, A2.r, dp_mono e2 g2⟩
theorem ei_tup {ds : List D} (h : Ev c te env (.tuple ds)) : EvI c (iTup c.K te) env ds := fun σ B H A e R q =>
  h σ B H A e _ fun v d B1 H1 x1 r1 t1 p1 => by
    subst p1
    cases t1 with
    | tup h1 a1 =>
      rename_i a xs
      refine ⟨a, rfl, ⟨xs, ex_t x1.s h1⟩, q _ B1 H1 x1 r1 ⟨fun H => SqT c.K H a xs, YAt xs, ?_, fun H e => ex_t e h1, ?_⟩⟩
      · rw [← dps_len a1]
        exact walk_tup
      · rintro i d x B2 H2 H3 hd A2 e2 ⟨rfl, hx⟩
        obtain ⟨d', g1, g2⟩ := dps_at a1 hx
        rw [hd] at g1
        cases g1
        exact ⟨B2, A2.same, A2.r, dp_mono e2 g2⟩
def enumD (ds : List D) : List D := ds.zipIdx.map fun p => .tuple [.int (p.2 : Nat), p.1]
theorem enumD_len (ds : List D) : (enumD ds).length = ds.length := by simp [enumD]
theorem enumD_at (ds : List D) (i : Nat) : (enumD ds)[i]? = ds[i]?.map fun d => .tuple [.int (i : Nat), d] := by
  unfold enumD
  rw [List.getElem?_map, List.getElem?_zipIdx]
  cases ds[i]? with
  | none => rfl
  | some d => simp
theorem src_pair {J : It} {B : Hp} {ds : List D} {xs : List V} {G : Hp → Prop} (t : DtAll c.K B xs ds) (w : Walk J xs.length G (YPair (fun i => some (.int (i : Nat))) fun i => xs[i]?)) (hG : ∀ H, Ex B H → G H) : Src c J B (enumD ds) := by
  refine ⟨G, YPair (fun i => some (.int (i : Nat))) (fun i => xs[i]?), ?_, hG, ?_⟩
  · rw [enumD_len, ← dps_len t]
    exact w
  · rintro i d x B2 H H' hd A e2 ⟨p, y, z, rfl, hp, rfl, hy, hz⟩
    cases hy
    rw [enumD_at] at hd
    obtain ⟨d', g1, g2⟩ := dps_at t hz
    rw [g1] at hd
    cases hd
    obtain ⟨x2, r2⟩ := A.new (o := .tup [.int (i : Nat), z]) hp
    exact ⟨_, x2, r2, .tup (SqT.of upd_same) (.cons (.int _) (.cons (dp_mono (e2.trans x2.b) g2) .nil))⟩
theorem ei_enumL {ds : List D} (h : Ev c te env (.list ds)) : EvI c (iEnum c.K (tCons te tNil)) env (enumD ds) := fun σ B H A e R q =>
  h σ B H A e _ fun v d B1 H1 x1 r1 t1 p1 => by
    subst p1
    cases t1 with
    | lst h1 a1 =>
      rename_i a xs
      exact ⟨a, xs, rfl, SqL.of (x1.s _ _ h1), q _ B1 H1 x1 r1 (src_pair a1 walk_enum fun H e => SqL.of (e _ _ h1))⟩
theorem ei_enumT {ds : List D} (h : Ev c te env (.tuple ds)) : EvI c (iEnumT c.K (tCons te tNil)) env (enumD ds) := fun σ B H A e R q =>
  h σ B H A e _ fun v d B1 H1 x1 r1 t1 p1 => by
    subst p1
    cases t1 with
    | tup h1 a1 =>
      rename_i a xs
      exact ⟨a, xs, rfl, ex_t x1.s h1, q _ B1 H1 x1 r1 (src_pair a1 walk_enumT fun H e => ex_t e h1)⟩
/-- 0, 1, .. below n -/
def rangeD (n : Nat) : List D := (List.range n).map fun (i : Nat) => .int (i : Int)
theorem rangeD_len (n : Nat) : (rangeD n).length = n := by simp [rangeD]
theorem rangeD_at {n i : Nat} {d : D} (h : (rangeD n)[i]? = some d) : d = .int (i : Nat) ∧ i < n := by
  have hl := (List.getElem?_eq_some_iff.mp h).1
  rw [rangeD_len] at hl
  unfold rangeD at h
  rw [List.getElem?_map, List.getElem?_range hl] at h
  exact ⟨(Option.some.inj h).symm, hl⟩
theorem ei_range {n : Nat} (h : Ev c ta env (.int (n : Nat))) (hn : n ≤ 1000000000) : EvI c (iRng1 (tCons ta tNil)) env (rangeD n) := fun σ B H A e R q =>
  h σ B H A e _ fun v d B1 H1 x1 r1 t1 p1 => by
    subst p1
    rw [dp_int_inv t1]
    refine ⟨(n : Int), rfl, by omega, by omega, q _ B1 H1 x1 r1 ⟨fun _ => True, YFn (fun i => .int (0 + (i : Nat))), ?_, fun _ _ => trivial, ?_⟩⟩
    · rw [rangeD_len, Int.toNat_natCast]
      exact walk_range
    · rintro i d x B2 H2 H3 hd A2 e2 ⟨rfl, rfl⟩
      rw [(rangeD_at hd).1]
      refine ⟨B2, A2.same, A2.r, ?_⟩
      show Dt c.K B2 (.int (0 + (i : Nat))) (.int (i : Nat))
      rw [Int.zero_add]
      exact .int _
end

/-! ### targets -/
def HG (c : Cn) (g : TG) (d : D) (env env' : List Sl) (is : List Nat) : Prop := ∀ (v : V) (σ : Sg) (B H : Hp), At c B H → EnvOk c B H σ env → Dt c.K B v d → ∀ k : Sg → Hp → Prop,
  (∀ σ' : Sg, EnvOk c B H σ' env' → σ'.length = σ.length → (∀ j : Nat, j ∉ is → σ'[j]? = σ[j]?) → k σ' H) → g v σ H k
def HGs (c : Cn) (g : TGs) (ds : List D) (env env' : List Sl) (is : List Nat) : Prop := ∀ (vs : List V) (σ : Sg) (B H : Hp), At c B H → EnvOk c B H σ env → DtAll c.K B vs ds → ∀ k : Sg → Hp → Prop,
  (∀ σ' : Sg, EnvOk c B H σ' env' → σ'.length = σ.length → (∀ j : Nat, j ∉ is → σ'[j]? = σ[j]?) → k σ' H) → g vs σ H k
section
variable {c : Cn} {env env' env2 : List Sl} {d : D} {ds : List D} {i : Nat} {is js : List Nat} {g : TG} {gs : TGs}
theorem hg_name : HG c (gName i) d env (env.set i (.dat d)) [i] := fun v σ B H A e t k q => q _ (e.dat t) (by rw [List.length_set]) fun j hj => List.getElem?_set_ne (fun z => hj (by rw [z]; exact List.mem_cons_self))
theorem hgs_nil : HGs c gNil [] env env [] := fun vs σ B H A e t k q => by
  cases t
  exact ⟨rfl, q σ e rfl fun _ _ => rfl⟩
theorem hgs_cons (h1 : HG c g d env env' is) (h2 : HGs c gs ds env' env2 js) : HGs c (gCons g gs) (d :: ds) env env2 (is ++ js) := fun vs σ B H A e t k q => by
  cases t with
  | cons t1 t2 =>
    exact ⟨_, _, rfl, h1 _ σ B H A e t1 _ fun σ1 e1 l1 f1 => h2 _ σ1 B H A e1 t2 _ fun σ2 e2 l2 f2 => q σ2 e2 (l2.trans l1) fun j hj =>
      (f2 j fun z => hj (List.mem_append_right _ z)).trans (f1 j fun z => hj (List.mem_append_left _ z))⟩
theorem hg_tup {n : Nat} (h : HGs c gs ds env env' is) (hn : ds.length = n) : HG c (gTup c.K n gs) (.tuple ds) env env' is := fun v σ B H A e t k q => by
  cases t with
  | tup h1 a1 => exact ⟨_, _, rfl, ex_t A.e.s h1, (dps_len a1).trans hn, h _ σ B H A e a1 k q⟩
end

/-! ### comprehensions -/
def wipeE (env : List Sl) : List Nat → List Sl
  | [] => env
  | v :: vs => (wipeE env vs).set v .no
section
variable {c : Cn} {env : List Sl} {te : TE} {B H B' H' : Hp} {σ σ' : Sg}
theorem EnvOk.no (h : EnvOk c B H σ env) (i : Nat) : EnvOk c B H (σ.set i none) (env.set i .no) where
  len := by rw [List.length_set, List.length_set, h.len]
  at_ := fun j u hu => by
    by_cases e : i = j
    · subst e
      have hl : i < env.length := by
        have := (List.getElem?_eq_some_iff.mp hu).1
        rwa [List.length_set] at this
      rw [List.getElem?_set_self hl] at hu
      cases hu
      exact ⟨none, List.getElem?_set_self (by rw [h.len]; exact hl), trivial⟩
    · rw [List.getElem?_set_ne e] at hu ⊢
      exact h.at_ j u hu
  nd := h.nd.sublist (owns_set_sub fun _ _ z => nomatch z)
theorem EnvOk.wipe (h : EnvOk c B H σ env) : ∀ vs : List Nat, EnvOk c B H (wipe σ vs) (wipeE env vs)
  | [] => h
  | v :: vs => (EnvOk.wipe h vs).no v
theorem wipe_at {σ : Sg} {j : Nat} : ∀ {vs : List Nat}, j ∈ vs → (wipe σ vs)[j]? = if j < σ.length then some none else none
  | v :: vs, h => by
    show ((wipe σ vs).set v none)[j]? = _
    by_cases e : v = j
    · subst e
      by_cases hl : v < σ.length
      · rw [List.getElem?_set_self (by rw [wipe_length]; exact hl), if_pos hl]
      · rw [if_neg hl, List.getElem?_eq_none (by rw [List.length_set, wipe_length]; omega)]
    · rw [List.getElem?_set_ne e]
      rcases List.mem_cons.mp h with z | z
      · exact absurd z.symm e
      · exact wipe_at z
theorem wipe_eq {σ σ' : Sg} {vs : List Nat} (hl : σ'.length = σ.length) (h : ∀ j : Nat, j ∉ vs → σ'[j]? = σ[j]?) : wipe σ' vs = wipe σ vs := by
  refine List.ext_getElem? fun j => ?_
  by_cases hj : j ∈ vs
  · rw [wipe_at hj, wipe_at hj, hl]
  · rw [wipe_out hj, wipe_out hj]
    exact h j hj
theorem wipe_wipe {σ : Sg} {vs : List Nat} : wipe (wipe σ vs) vs = wipe σ vs := wipe_eq (wipe_length σ vs) fun j hj => wipe_out hj
/-- an owned thing that was not there at first may change -/
theorem Ext.setOwn {S : Addr → Prop} {p : Addr} {o : HO} (x : Ext S B H B' H') (h : H p = none) (hb : B' p = none) (hl : H' p ≠ none) : Ext S B H B' (upd H' p o) where
  b := x.b
  s := fun a u z => by
    rw [upd_ne (ne_of_none z hb)]
    exact x.s a u z
  k := fun a u z hs => by
    rw [upd_ne (ne_of_none z h)]
    exact x.k a u z hs
  t := fun a z => by
    by_cases e : a = p
    · subst e
      rw [upd_same]
      exact nofun
    · rw [upd_ne e]
      exact x.t a z
  n := x.n
theorem r_setOwn {p : Addr} {o : HO} (r : c.R B H) (hs : ¬ c.S p) : c.R B (upd H p o) :=
  c.res.stab r (Ex.refl B) (fun a u ha z => by
    rw [upd_ne (fun e => hs (by rw [← e]; exact ha))]
    exact z) fun a ha => (c.res.live r ha).2
/-- [e for target in iter if test]: what the turns give. Kept: which turns give something; W: what -/
theorem en_lc {wi : TI} {g : TG} {tt : TT} {vs : List Nat} {ds : List D} {F : D → Bool} {W : Nat → D → D → Prop} (hi : EvI c wi env ds) (hz : ds.length ≤ 1000000)
    (he : ∀ (i : Nat) (d : D), ds[i]? = some d → ∃ env2 is, HG c g d (wipeE env vs) env2 is ∧ (∀ j ∈ is, j ∈ vs) ∧ EvB c tt env2 (F d) ∧ (F d = true → EvP c te env2 (W i d))) :
    EvN c (tLc wi g tt te vs) env (fun ls => ∃ ws : List (Option D), ls = ws.filterMap id ∧ ws.length = ds.length ∧ ∀ (i : Nat) (d : D) (w : Option D), ds[i]? = some d → ws[i]? = some w → if F d = true then ∃ y, w = some y ∧ W i d y else w = none) := fun σ B H A e Q q =>
  hi σ B H A e _ fun J B1 H1 x1 r1 src => by
    obtain ⟨G, Y, w, hG, hY⟩ := src
    intro Dl hD
    have A1 : At c B1 H1 := A.go x1 r1
    have hB1 : B1 Dl = none := fresh_b x1.s hD
    have hS : ¬ c.S Dl := A1.notS hD
    have h0 : H Dl = none := by
      cases z : H Dl with
      | none => rfl
      | some o => exact absurd hD (x1.t Dl (by rw [z]; exact nofun))
    have hw : ∀ σ2 : Sg, σ2.length = (wipe σ vs).length → (∀ is : List Nat, (∀ j ∈ is, j ∈ vs) → (∀ j : Nat, j ∉ is → σ2[j]? = (wipe σ vs)[j]?) → wipe σ2 vs = wipe σ vs) := fun σ2 hl is hsub hj => by
      have q1 : wipe σ2 vs = wipe (wipe σ vs) vs := wipe_eq hl fun j hjv => hj j fun z => hjv (hsub j z)
      rw [q1, wipe_wipe]
    refine lc_it w (Pv := fun i H2 => ∃ (B2 : Hp) (xs : List V) (ws : List (Option D)), Ext c.S B1 H1 B2 H2 ∧ c.R B2 H2 ∧ B2 Dl = none ∧ H2 Dl = some (.lst xs) ∧ DtAll c.K B2 xs (ws.filterMap id) ∧ ws.length = i ∧
        ∀ (j : Nat) (d : D) (y : Option D), ds[j]? = some d → ws[j]? = some y → if F d = true then ∃ z, y = some z ∧ W j d z else y = none)
      ⟨B1, [], [], (A1.newOwn hD).1, (A1.newOwn hD).2, hB1, upd_same, .nil, rfl, fun j d y _ h => by simp at h⟩ (fun i H2 _ ⟨B2, _, _, x2, _⟩ => hG H2 (x2.b.trans x2.s)) ?_ ?_
    · rintro i x H2 H3 hi' ⟨B2, xs, ws, x2, r2, hb2, hl2, t2, hlen, hW⟩ y
      have hd : ds[i]? = some ds[i] := List.getElem?_eq_getElem hi'
      have A2 : At c B2 H2 := A1.go x2 r2
      obtain ⟨B3, x3, r3, t3⟩ := hY i _ x B2 H2 H3 hd A2 x2.b y
      obtain ⟨env2, is, hg, hsub, ht, hel⟩ := he i _ hd
      have A3 := A2.go x3 r3
      have e3 : EnvOk c B3 H3 (wipe σ vs) (wipeE env vs) := ((e.go x1).go (x2.trans x3)).wipe vs
      refine hg x _ B3 H3 A3 e3 t3 _ fun σ2 e2 l2 f2 => ⟨hw σ2 l2 is hsub f2, ?_⟩
      refine ht σ2 B3 H3 A3 e2 _ fun b B4 H4 x4 r4 hb => ?_
      subst hb
      have A4 := A3.go x4 r4
      have k34 : H4 Dl = some (.lst xs) := x4.k _ _ (x3.k _ _ hl2 hS) hS
      have n34 : B4 Dl = none := (x3.trans x4).n Dl (by rw [hl2]; exact nofun) hb2
      have hacc : xs.length < sizeLine := by
        rw [dps_len t2]
        have := List.length_filterMap_le id ws
        exact szlt (by omega)
      cases hF : F ds[i] with
      | true =>
        rw [if_pos rfl]
        refine hel hF σ2 B4 H4 A4 (e2.go x4) _ fun v d B5 H5 x5 r5 t5 p5 => ?_
        have k5 : H5 Dl = some (.lst xs) := x5.k _ _ k34 hS
        have n5 : B5 Dl = none := x5.n Dl (by rw [k34]; exact nofun) n34
        refine ⟨xs, k5, hacc, B5, xs ++ [v], ws ++ [some d], (((x2.trans x3).trans x4).trans x5).setOwn hD n5 (by rw [k5]; exact nofun), r_setOwn r5 hS, n5, upd_same, ?_, by rw [List.length_append, hlen]; rfl, fun j d' y' hj1 hj2 => ?_⟩
        · rw [List.filterMap_append]
          exact dps_app (dps_mono (x3.b.trans (x4.b.trans x5.b)) t2) (.cons t5 .nil)
        · by_cases hj : j < ws.length
          · rw [List.getElem?_append_left hj] at hj2
            exact hW j d' y' hj1 hj2
          · have ej : j = i := by
              have := (List.getElem?_eq_some_iff.mp hj2).1
              rw [List.length_append] at this
              simp at this
              omega
            subst ej
            rw [hd] at hj1
            cases hj1
            rw [← hlen, List.getElem?_concat_length] at hj2
            cases hj2
            rw [if_pos hF]
            exact ⟨d, rfl, p5⟩
      | false =>
        rw [if_neg Bool.false_ne_true]
        refine ⟨B4, xs, ws ++ [none], (x2.trans x3).trans x4, r4, n34, k34, ?_, by rw [List.length_append, hlen]; rfl, fun j d' y' hj1 hj2 => ?_⟩
        · rw [List.filterMap_append]
          show DtAll c.K B4 xs (ws.filterMap id ++ [])
          rw [List.append_nil]
          exact dps_mono (x3.b.trans x4.b) t2
        · by_cases hj : j < ws.length
          · rw [List.getElem?_append_left hj] at hj2
            exact hW j d' y' hj1 hj2
          · have ej : j = i := by
              have := (List.getElem?_eq_some_iff.mp hj2).1
              rw [List.length_append] at this
              simp at this
              omega
            subst ej
            rw [hd] at hj1
            cases hj1
            rw [← hlen, List.getElem?_concat_length] at hj2
            cases hj2
            rw [if_neg (by rw [hF]; exact Bool.false_ne_true)]
    · rintro H2 ⟨B2, xs, ws, x2, r2, hb2, hl2, t2, hlen, hW⟩
      exact q Dl xs _ B2 H2 (x1.trans x2) r2 h0 hb2 hl2 t2 ⟨ws, rfl, hlen, hW⟩
theorem filterMap_somes {ws : List (Option D)} {ls : List D} (h : ws = ls.map some) : ws.filterMap id = ls := by
  subst h
  induction ls with
  | nil => rfl
  | cons x r ih =>
    show x :: (r.map some).filterMap id = x :: r
    rw [ih]
/-- no test -/
theorem en_lcP {wi : TI} {g : TG} {vs : List Nat} {ds : List D} {W : Nat → D → D → Prop} (hi : EvI c wi env ds) (hz : ds.length ≤ 1000000)
    (he : ∀ (i : Nat) (d : D), ds[i]? = some d → ∃ env2 is, HG c g d (wipeE env vs) env2 is ∧ (∀ j ∈ is, j ∈ vs) ∧ EvP c te env2 (W i d)) :
    EvN c (tLc wi g tYes te vs) env (fun ls => ls.length = ds.length ∧ ∀ (i : Nat) (d y : D), ds[i]? = some d → ls[i]? = some y → W i d y) :=
  (en_lc (F := fun _ => true) hi hz fun i d h => let ⟨env2, is, h1, h2, h3⟩ := he i d h; ⟨env2, is, h1, h2, et_yes, fun _ => h3⟩).imp fun ls ⟨ws, e1, e2, e3⟩ => by
    have key : ws = ls.map some := by
      have h1 : ∃ us : List D, ws = us.map some := by
        refine ⟨ws.filterMap id, ?_⟩
        have : ∀ w ∈ ws, ∃ y, w = some y := by
          intro w hw
          obtain ⟨j, hj⟩ := List.mem_iff_getElem?.mp hw
          have hl := (List.getElem?_eq_some_iff.mp hj).1
          have hd : ds[j]? = some (ds[j]'(by omega)) := List.getElem?_eq_getElem (by omega)
          have := e3 j _ w hd hj
          rw [if_pos rfl] at this
          obtain ⟨y, hy, _⟩ := this
          exact ⟨y, hy⟩
        clear e1 e2 e3
        induction ws with
        | nil => rfl
        | cons w r ih =>
          obtain ⟨y, rfl⟩ := this w List.mem_cons_self
          show some y :: r = some y :: (r.filterMap id).map some
          rw [← ih fun w hw => this w (List.mem_cons_of_mem _ hw)]
      obtain ⟨us, hus⟩ := h1
      rw [e1, filterMap_somes hus, hus]
    refine ⟨by rw [← e2, key, List.length_map], fun i d y h1 h2 => ?_⟩
    have := e3 i d (some y) h1 (by rw [key, List.getElem?_map, h2]; rfl)
    rw [if_pos rfl] at this
    obtain ⟨z, hz, hW⟩ := this
    cases hz
    exact hW
/-- no test, a known item a turn -/
theorem en_lcV {wi : TI} {g : TG} {vs : List Nat} {ds ls : List D} (hi : EvI c wi env ds) (hz : ds.length ≤ 1000000) (hl : ls.length = ds.length)
    (he : ∀ (i : Nat) (d y : D), ds[i]? = some d → ls[i]? = some y → ∃ env2 is, HG c g d (wipeE env vs) env2 is ∧ (∀ j ∈ is, j ∈ vs) ∧ Ev c te env2 y) : EvN c (tLc wi g tYes te vs) env (fun e => e = ls) := by
  refine (en_lcP (W := fun i _ y => ls[i]? = some y) hi hz fun i d h => ?_).imp fun us ⟨h1, h2⟩ => ?_
  · have hi' := (List.getElem?_eq_some_iff.mp h).1
    have hy : ls[i]? = some (ls[i]'(by omega)) := List.getElem?_eq_getElem (by omega)
    obtain ⟨env2, is, g1, g2, g3⟩ := he i d _ h hy
    exact ⟨env2, is, g1, g2, g3.imp fun y e => by rw [e]; exact hy⟩
  · refine List.ext_getElem? fun i => ?_
    by_cases h : i < ds.length
    · have hu : us[i]? = some (us[i]'(by omega)) := List.getElem?_eq_getElem (by omega)
      rw [hu]
      exact (h2 i _ _ (List.getElem?_eq_getElem h) hu).symm
    · rw [List.getElem?_eq_none (by omega), List.getElem?_eq_none (by omega)]
theorem lcF_eq {F : D → Bool} {f : D → D} : ∀ (ds : List D) (ws : List (Option D)), ws.length = ds.length → (∀ (i : Nat) (d : D) (w : Option D), ds[i]? = some d → ws[i]? = some w → if F d = true then ∃ y, w = some y ∧ y = f d else w = none) →
    ws.filterMap id = (ds.filter F).map f
  | [], ws, h, _ => by
    rw [List.length_eq_zero_iff.mp h]
    rfl
  | d :: r, [], h, _ => by simp at h
  | d :: r, w :: ws, h, e3 => by
    have ih := lcF_eq r ws (by simpa using h) fun i d' w' h1 h2 => e3 (i + 1) d' w' (by simpa using h1) (by simpa using h2)
    have h0 := e3 0 d w rfl rfl
    cases hF : F d with
    | true =>
      rw [if_pos hF] at h0
      obtain ⟨y, rfl, rfl⟩ := h0
      rw [List.filter_cons_of_pos hF]
      show f d :: ws.filterMap id = f d :: (r.filter F).map f
      rw [ih]
    | false =>
      rw [if_neg (by rw [hF]; exact Bool.false_ne_true)] at h0
      subst h0
      rw [List.filter_cons_of_neg (by rw [hF]; exact Bool.false_ne_true)]
      exact ih
/-- a test, a known item a turn -/
theorem en_lcF {wi : TI} {g : TG} {tt : TT} {vs : List Nat} {ds : List D} {F : D → Bool} {f : D → D} (hi : EvI c wi env ds) (hz : ds.length ≤ 1000000)
    (he : ∀ (i : Nat) (d : D), ds[i]? = some d → ∃ env2 is, HG c g d (wipeE env vs) env2 is ∧ (∀ j ∈ is, j ∈ vs) ∧ EvB c tt env2 (F d) ∧ (F d = true → Ev c te env2 (f d))) : EvN c (tLc wi g tt te vs) env (fun e => e = (ds.filter F).map f) :=
  (en_lc (W := fun _ d y => y = f d) hi hz he).imp fun ls ⟨ws, e1, e2, e3⟩ => by
    rw [e1]
    exact lcF_eq ds ws e2 e3
end
end DL
/-! Dlf: calls and statements by their data. -/
namespace DL
open PySem PySem.Spec PyProof.Rows L2
open Evl (Ex ex_l ex_t)

/-! ### calls of builtins -/
def rLn (K : PySem.W.Frag) : List V → Hp → VK → Prop := fun xs H Q => ∃ x n, xs = [x] ∧ LenV K x H n ∧ Q (.int n) H
def rTupOf (K : PySem.W.Frag) : List V → Hp → VK → Prop := fun xs H Q => ∃ p ys, xs = [.ref p] ∧ ((SqL K H p ys ∧ ∀ l, H l = none → Q (.ref l) (upd H l (.tup ys))) ∨ (SqT K H p ys ∧ Q (.ref p) H))
def rLstOf (K : PySem.W.Frag) : List V → Hp → VK → Prop := fun xs H Q => ∃ p ys, xs = [.ref p] ∧ (SqL K H p ys ∨ SqT K H p ys) ∧ ∀ l, H l = none → Q (.ref l) (upd H l (.lst ys))
def rAbs : List V → Hp → VK → Prop := fun xs H Q => ∃ i, xs = [.int i] ∧ Q (.int (if i < 0 then -i else i)) H
def rInt : List V → Hp → VK → Prop := fun xs H Q => (∃ i, xs = [.int i] ∧ Q (.int i) H) ∨ ∃ k, xs = [.bl k] ∧ Q (.int (if k then 1 else 0)) H
section
variable {X : Cx}
theorem cr_ln : CallR X (.builtin "len") (rLn X.K) := call_len
theorem cr_tupOf : CallR X (.type "tuple") (rTupOf X.K) := call_tuple_of
theorem cr_lstOf : CallR X (.type "list") (rLstOf X.K) := call_list_of
theorem cr_abs : CallR X (.builtin "abs") rAbs := call_abs
theorem cr_int : CallR X (.type "int") rInt := call_int1
/-- o[i] of a list, ahead of o[i] op= e -/
def rGetL (K : PySem.W.Frag) : V → V → Hp → VK → Prop := fun o i H Q => ∃ p xs n v, o = .ref p ∧ i = .int (n : Nat) ∧ SqL K H p xs ∧ xs[n]? = some v ∧ Q v H
theorem get_list : PGet X (rGetL X.K) := by
  intro pins s σ H o i ov iv Q I ro ri h
  obtain ⟨p, xs, n, v, rfl, rfl, hq, hv, q⟩ := h
  cases ro
  obtain ⟨t, rfl⟩ := ri
  obtain ⟨its, r, pl, hz⟩ := I.list hq
  obtain ⟨u, hu, ru⟩ := r.get hv
  have hn := (List.getElem?_eq_some_iff.mp hv).1
  have hl := r.length
  have hs : sizeLine = 16777216 := sizeLine_eq
  exact wpAny_getItem_list pl.isList (by omega) (by omega) (by rw [Int.toNat_natCast]; simpa using hu) ⟨v, H, I, ru, q⟩
end
section
variable {c : Cn} {env : List Sl} {te ta tb : TE} {P : D → Prop} {d a b : D} {i : Nat}
theorem ev_cb {r : List V → Hp → VK → Prop} {tr : TA} {as : List D} (h : EvA c tr env as) (hr : CaD c r as P) : EvP c (tCB r tr) env P := fun σ B H A e Q q =>
  h σ B H A e _ fun vs ds B1 H1 x1 r1 t1 p1 => by
    subst p1
    exact hr B1 H1 vs (A.go x1 r1) t1 Q fun z d B3 H3 x3 r3 t3 p3 => q z d B3 H3 (x1.trans x3) r3 t3 p3
theorem ev_cbP {r : List V → Hp → VK → Prop} {tr : TA} {Pa : List D → Prop} (h : EvAP c tr env Pa) (hr : ∀ as, Pa as → CaD c r as P) : EvP c (tCB r tr) env P := fun σ B H A e Q q =>
  h σ B H A e _ fun vs ds B1 H1 x1 r1 t1 p1 => hr ds p1 B1 H1 vs (A.go x1 r1) t1 Q fun z d B3 H3 x3 r3 t3 p3 => q z d B3 H3 (x1.trans x3) r3 t3 p3
/-- a builtin of one list that is read -/
theorem ev_cbS {r : List V → Hp → VK → Prop} {ds : List D} (h : EvS c te env ds) (hr : ∀ (B H : Hp) (p : Addr) (xs : List V), At c B H → H p = some (.lst xs) → DtAll c.K B xs ds → ∀ Q : VK, (∀ z d B' H', Ext c.S B H B' H' → c.R B' H' → Dt c.K B' z d → P d → Q z H') → r [.ref p] H Q) : EvP c (tCB r (tCons te tNil)) env P := fun σ B H A e Q q =>
  h σ B H A e _ fun p xs B1 H1 x1 r1 l1 t1 => hr B1 H1 p xs (A.go x1 r1) l1.1 t1 Q fun z d B3 H3 x3 r3 t3 p3 => q z d B3 H3 (x1.trans x3) r3 t3 p3
theorem ev_len {ds : List D} (h : EvS c te env ds) : Ev c (tCB (rLn c.K) (tCons te tNil)) env (.int (ds.length : Nat)) :=
  ev_cbS h fun B H p xs A hp t Q q => ⟨_, xs.length, rfl, .inl ⟨xs, SqL.of hp, rfl⟩, by rw [dps_len t]; exact q _ _ B H A.same A.r (.int _) rfl⟩
theorem ev_lenT {ds : List D} (h : Ev c te env (.tuple ds)) : Ev c (tCB (rLn c.K) (tCons te tNil)) env (.int (ds.length : Nat)) :=
  ev_cb (ea_cons h ea_nil) fun B H xs A t Q q => by
    cases t with
    | cons t1 t2 =>
      cases t2
      cases t1 with
      | tup h1 a1 => exact ⟨_, _, rfl, .inr ⟨_, ex_t A.e.s h1, rfl⟩, by rw [dps_len a1]; exact q _ _ B H A.same A.r (.int _) rfl⟩
theorem ev_lenS {s : Str} (h : Ev c te env (.str s)) (hz : s.length ≤ 1000000) : Ev c (tCB (rLn c.K) (tCons te tNil)) env (.int (s.length : Nat)) :=
  ev_cb (ea_cons h ea_nil) fun B H xs A t Q q => by
    cases t with
    | cons t1 t2 =>
      cases t2
      rw [dp_str_inv t1]
      exact ⟨_, _, rfl, ⟨sz hz, rfl⟩, q _ _ B H A.same A.r (.int _) rfl⟩
theorem ev_tupOf {ds : List D} (h : EvS c te env ds) : Ev c (tCB (rTupOf c.K) (tCons te tNil)) env (.tuple ds) :=
  ev_cbS h fun B H p xs A hp t Q q => ⟨p, xs, rfl, .inl ⟨SqL.of hp, fun l hl => by
    obtain ⟨x2, r2⟩ := A.new (o := .tup xs) hl
    exact q _ _ _ _ x2 r2 (.tup (SqT.of upd_same) (dps_mono x2.b t)) rfl⟩⟩
theorem ev_tupOfP {Pn : List D → Prop} (h : EvN c te env Pn) : EvP c (tCB (rTupOf c.K) (tCons te tNil)) env (fun d => ∃ ds, d = .tuple ds ∧ Pn ds) := fun σ B H A e Q q =>
  h σ B H A e _ fun p xs ds B1 H1 x1 r1 h0 hb h1 t1 p1 => ⟨p, xs, rfl, .inl ⟨SqL.of h1, fun l hl => by
    obtain ⟨x2, r2⟩ := (A.go x1 r1).new (o := .tup xs) hl
    exact q _ _ _ _ (x1.trans x2) r2 (.tup (SqT.of upd_same) (dps_mono x2.b t1)) ⟨ds, rfl, p1⟩⟩⟩
theorem ev_tupOfT {ds : List D} (h : Ev c te env (.tuple ds)) : Ev c (tCB (rTupOf c.K) (tCons te tNil)) env (.tuple ds) :=
  ev_cb (ea_cons h ea_nil) fun B H xs A t Q q => by
    cases t with
    | cons t1 t2 =>
      cases t2
      cases t1 with
      | tup h1 a1 => exact ⟨_, _, rfl, .inr ⟨ex_t A.e.s h1, q _ _ B H A.same A.r (.tup h1 a1) rfl⟩⟩
theorem newOwn_to {B H B1 H1 : Hp} {l : Addr} {xs : List V} {ds : List D} {Pn : List D → Prop} {Q : VK} (A : At c B H) (x1 : Ext c.S B H B1 H1) (r1 : c.R B1 H1) (hl : H1 l = none) (t1 : DtAll c.K B1 xs ds) (p1 : Pn ds)
    (q : ∀ p xs ds B' H', Ext c.S B H B' H' → c.R B' H' → H p = none → B' p = none → H' p = some (.lst xs) → DtAll c.K B' xs ds → Pn ds → Q (.ref p) H') : Q (.ref l) (upd H1 l (.lst xs)) := by
  obtain ⟨x2, r2⟩ := (A.go x1 r1).newOwn (o := .lst xs) hl
  have h0 : H l = none := by
    cases z : H l with
    | none => rfl
    | some o => exact absurd hl (x1.t l (by rw [z]; exact nofun))
  exact q l xs ds B1 _ (x1.trans x2) r2 h0 (fresh_b x1.s hl) upd_same t1 p1
theorem en_lstOf {ds : List D} (h : EvS c te env ds) : EvN c (tCB (rLstOf c.K) (tCons te tNil)) env (fun e => e = ds) := fun σ B H A e Q q =>
  h σ B H A e _ fun p xs B1 H1 x1 r1 l1 t1 => ⟨p, xs, rfl, .inl (SqL.of l1.1), fun l hl => newOwn_to (Pn := fun e => e = ds) A x1 r1 hl t1 rfl q⟩
theorem en_lstOfT {ds : List D} (h : Ev c te env (.tuple ds)) : EvN c (tCB (rLstOf c.K) (tCons te tNil)) env (fun e => e = ds) := fun σ B H A e Q q =>
  h σ B H A e _ fun v d B1 H1 x1 r1 t1 p1 => by
    subst p1
    cases t1 with
    | tup h1 a1 => exact ⟨_, _, rfl, .inr (ex_t x1.s h1), fun l hl => newOwn_to (Pn := fun e => e = ds) A x1 r1 hl a1 rfl q⟩
theorem en_listRg {n : Nat} (h : Ev c te env (.int (n : Nat))) (hn : n ≤ 1000000) : EvN c (tLstRg (tRg1 te)) env (fun e => e = rangeD n) := fun σ B H A e Q q =>
  h σ B H A e _ fun v d B1 H1 x1 r1 t1 p1 => by
    subst p1
    rw [dp_int_inv t1]
    refine ⟨(n : Int), rfl, RgOk.of_le (by omega) (by omega) (by omega) (by omega), fun l hl => newOwn_to (Pn := fun e => e = rangeD n) A x1 r1 hl ?_ rfl q⟩
    have e1 : rgV 0 (n : Int) = (List.range n).map fun (i : Nat) => V.int (i : Int) := by
      unfold rgV
      rw [show ((n : Int) - 0).toNat = n by omega]
      refine List.map_congr_left fun i _ => ?_
      rw [Int.zero_add]
    rw [e1]
    unfold rangeD
    have := dps_ints (K := c.K) (H := B1) ((List.range n).map fun (i : Nat) => (i : Int))
    rw [List.map_map, List.map_map] at this
    exact this
theorem ev_sum {ns : List Int} (h : EvS c te env (ns.map PyData.int)) : Ev c (tCB (rSum c.K) (tCons te tNil)) env (.int ns.sum) :=
  ev_cbS h fun B H p xs A hp t Q q => ⟨p, ns, rfl, by rw [dps_ints_inv t] at hp; exact SqL.of hp, q _ _ B H A.same A.r (.int _) rfl⟩
theorem ev_abs {n : Int} (h : Ev c te env (.int n)) : Ev c (tCB rAbs (tCons te tNil)) env (.int (if n < 0 then -n else n)) :=
  ev_cb (ea_cons h ea_nil) fun B H xs A t Q q => by
    cases t with
    | cons t1 t2 =>
      cases t2
      rw [dp_int_inv t1]
      exact ⟨n, rfl, q _ _ B H A.same A.r (.int _) rfl⟩
theorem ev_intB {k : Bool} (h : Ev c te env (.bool k)) : Ev c (tCB rInt (tCons te tNil)) env (.int (if k then 1 else 0)) :=
  ev_cb (ea_cons h ea_nil) fun B H xs A t Q q => by
    cases t with
    | cons t1 t2 =>
      cases t2
      rw [dp_bool_inv t1]
      exact .inr ⟨k, rfl, q _ _ B H A.same A.r (.int _) rfl⟩
theorem ev_intI {k : Int} (h : Ev c te env (.int k)) : Ev c (tCB rInt (tCons te tNil)) env (.int k) :=
  ev_cb (ea_cons h ea_nil) fun B H xs A t Q q => by
    cases t with
    | cons t1 t2 =>
      cases t2
      rw [dp_int_inv t1]
      exact .inl ⟨k, rfl, q _ _ B H A.same A.r (.int _) rfl⟩
/-- data that repr takes -/
structure Shows (e : D) : Prop where
  s : e.showable = true
  h : e.hasDict = false
  d : e.depth ≤ 60
  l : e.shown.length ≤ sizeLine
  a : ∀ x, e ≠ .str x
  b : ∀ b, e ≠ .bool b
  c : e ≠ .none
theorem ev_repr (h : Ev c te env d) (hd : Shows d) : Ev c (tCB (rRepr c.K) (tCons te tNil)) env (.str d.shown) :=
  ev_cb (ea_cons h ea_nil) fun B H xs A t Q q => by
    cases t with
    | cons t1 t2 =>
      cases t2
      exact ⟨_, d, rfl, (dp_mono A.e.s t1).dp hd.h, hd.s, hd.h, hd.d, hd.l, hd.a, hd.b, hd.c, q _ _ B H A.same A.r (.str _) rfl⟩

/-! slices -/
theorem eo_none : EvO c tNoPart env none := fun σ B H A e Q q => q B H A.same A.r
theorem eo_some {n : Int} (h : Ev c te env (.int n)) : EvO c (tPart te) env (some n) := fun σ B H A e Q q =>
  h σ B H A e _ fun v d B1 H1 x1 r1 t1 p1 => by
    subst p1
    rw [dp_int_inv t1]
    exact ⟨n, rfl, q B1 H1 x1 r1⟩
def cutD (ds : List D) (lo hi : Option Int) : List D := (ds.drop (HT.sIx ds.length 0 lo)).take (HT.sIx ds.length ds.length hi - HT.sIx ds.length 0 lo)
theorem dps_cut {K : PySem.W.Frag} {B : Hp} {xs : List V} {ds : List D} (t : DtAll K B xs ds) (lo hi : Option Int) : DtAll K B (cutV xs lo hi) (cutD ds lo hi) := by
  unfold cutV cutD
  rw [dps_len t]
  exact dps_take _ (dps_drop _ t)
theorem cutD_all {ds : List D} {lo hi : Option Int} (h1 : HT.sIx ds.length 0 lo = 0) (h2 : HT.sIx ds.length ds.length hi = ds.length) : cutD ds lo hi = ds := by
  unfold cutD
  rw [h1, h2]
  simp
theorem ev_slT {ds : List D} {tl th : TO} {lo hi : Option Int} (h : Ev c te env (.tuple ds)) (hl : EvO c tl env lo) (hh : EvO c th env hi) : Ev c (tSl (rSlU c.K) te tl th) env (.tuple (cutD ds lo hi)) := fun σ B H A e Q q =>
  h σ B H A e _ fun v d B1 H1 x1 r1 t1 p1 => hl σ B1 H1 (A.go x1 r1) (e.go x1) _ fun B2 H2 x2 r2 => hh σ B2 H2 ((A.go x1 r1).go x2 r2) ((e.go x1).go x2) _ fun B3 H3 x3 r3 => by
    subst p1
    cases t1 with
    | tup h1 a1 =>
      rename_i a xs
      have x13 := (x1.trans x2).trans x3
      have b13 := x2.b.trans x3.b
      refine .inr ⟨a, xs, rfl, ex_t x13.s (ex_t b13 h1), fun w => ?_, fun _ p hp => ?_⟩
      · rw [dps_len a1] at w
        have key : cutD ds lo hi = ds := cutD_all w.1 w.2
        exact q _ _ B3 H3 x13 r3 (.tup (ex_t b13 h1) (dps_mono b13 a1)) (by rw [key])
      · obtain ⟨x4, r4⟩ := (A.go x13 r3).new (o := .tup (cutV xs lo hi)) hp
        exact q _ _ _ _ (x13.trans x4) r4 (.tup (SqT.of upd_same) (dps_mono (b13.trans x4.b) (dps_cut a1 lo hi))) rfl
theorem en_slL {ds : List D} {tl th : TO} {lo hi : Option Int} (h : EvS c te env ds) (hl : EvO c tl env lo) (hh : EvO c th env hi) : EvN c (tSl (rSlU c.K) te tl th) env (fun e => e = cutD ds lo hi) := fun σ B H A e Q q =>
  h σ B H A e _ fun p xs B1 H1 x1 r1 l1 t1 => hl σ B1 H1 (A.go x1 r1) (e.go x1) _ fun B2 H2 x2 r2 => hh σ B2 H2 ((A.go x1 r1).go x2 r2) ((e.go x1).go x2) _ fun B3 H3 x3 r3 =>
    .inl ⟨p, xs, rfl, SqL.of ((l1.go x2).go x3).1, fun l hl => newOwn_to (Pn := fun e => e = cutD ds lo hi) A ((x1.trans x2).trans x3) r3 hl (dps_mono (x2.b.trans x3.b) (dps_cut t1 lo hi)) rfl q⟩
end

/-! ### promises by data -/
/-- a def that leaves what it was given as it is: arguments a of a type, told as data by enc -/
def PureSp {α : Type} (K : PySem.W.Frag) (enc : α → List D) (pre : α → Prop) (post : α → D → Prop) : Sp := fun vs H Q _ => ∃ (B : Hp) (a : α), Ex B H ∧ DtAll K B vs (enc a) ∧ pre a ∧ ∀ v d B' H', Ext (fun _ => False) B H B' H' → Dt K B' v d → post a d → Q v H'
@[reducible] def pureCn (K : PySem.W.Frag) (B H : Hp) : Cn := ⟨K, fun _ => False, fun _ _ => True, res0, B, H⟩
theorem ev_callP {α : Type} {c : Cn} {env : List Sl} {tr : TA} {enc : α → List D} {pre : α → Prop} {post : α → D → Prop} {Pa : List D → Prop} {P : D → Prop} {E : XK} (h : EvAP c tr env Pa) (k : ∀ ds, Pa ds → ∃ a, ds = enc a ∧ pre a ∧ ∀ d, post a d → P d) :
    EvP c (tCall (PureSp c.K enc pre post) [] E tr) env P := fun σ B H A e Q q =>
  h σ B H A e _ fun vs ds B1 H1 x1 r1 t1 p1 => by
    have A1 := A.go x1 r1
    obtain ⟨a, rfl, hp, hq⟩ := k ds p1
    refine ⟨B1, a, x1.s, by rw [List.append_nil]; exact t1, hp, fun v d B2 H2 x2 t2 p2 => ?_⟩
    exact q v d B2 H2 (x1.trans (x2.wide fun _ z => z.elim)) (A1.stay x2) t2 (hq d p2)
theorem ev_call {α : Type} {c : Cn} {env : List Sl} {tr : TA} {enc : α → List D} {pre : α → Prop} {post : α → D → Prop} {E : XK} (a : α) (h : EvA c tr env (enc a)) (hp : pre a) : EvP c (tCall (PureSp c.K enc pre post) [] E tr) env (post a) :=
  ev_callP h fun ds e => ⟨a, e, hp, fun _ z => z⟩
/-- a drawn heap of numbers: a dict of a list of ints and two ints, by the names of its keys -/
structure DkN where
  f : Str
  m : Str
  t : Str
def DkR (n : DkN) (dk l : Addr) (B H : Hp) : Prop := (∃ (ns : List Int) (m t : Int), H dk = some (.dK [(.inr n.f, .ref l), (.inr n.m, .int m), (.inr n.t, .int t)]) ∧ H l = some (.lst (ns.map V.int)) ∧ ns.length ≤ 63) ∧ B dk = none ∧ B l = none
theorem resDk (n : DkN) (dk l : Addr) : Res (fun a => a = dk ∨ a = l) (DkR n dk l) where
  live := fun {B H a} h s => by
    obtain ⟨⟨ns, m, t, h1, h2, _⟩, h3, h4⟩ := h
    rcases s with rfl | rfl
    · exact ⟨by rw [h1]; exact nofun, h3⟩
    · exact ⟨by rw [h2]; exact nofun, h4⟩
  stab := fun {B H B' H'} h _ k n' => by
    obtain ⟨⟨ns, m, t, h1, h2, h5⟩, h3, h4⟩ := h
    exact ⟨⟨ns, m, t, k _ _ (.inl rfl) h1, k _ _ (.inr rfl) h2, h5⟩, n' _ (.inl rfl), n' _ (.inr rfl)⟩
@[reducible] def dkCn (n : DkN) (K : PySem.W.Frag) (dk l : Addr) (B H : Hp) : Cn := ⟨K, fun a => a = dk ∨ a = l, DkR n dk l, resDk n dk l, B, H⟩
/-- a def whose first argument is such a heap, from which it may draw -/
def DkSp {α : Type} (n : DkN) (K : PySem.W.Frag) (enc : α → List D) (pre : α → Prop) (post : α → D → Prop) : Sp := fun vs H Q _ => ∃ (dk l : Addr) (B : Hp) (us : List V) (a : α), vs = .ref dk :: us ∧ Ex B H ∧ DkR n dk l B H ∧ DtAll K B us (enc a) ∧ pre a ∧
  ∀ v d B' H', Ext (fun a => a = dk ∨ a = l) B H B' H' → DkR n dk l B' H' → Dt K B' v d → post a d → Q v H'
theorem ev_callDP {α : Type} {n : DkN} {K : PySem.W.Frag} {dk l : Addr} {B0 H0 : Hp} {env : List Sl} {i : Nat} {tr : TA} {enc : α → List D} {pre : α → Prop} {post : α → D → Prop} {Pa : List D → Prop} {P : D → Prop} {E : XK} (hi : env[i]? = some (.raw (.ref dk)))
    (h : EvAP (dkCn n K dk l B0 H0) tr env Pa) (k : ∀ ds, Pa ds → ∃ a, ds = enc a ∧ pre a ∧ ∀ d, post a d → P d) : EvP (dkCn n K dk l B0 H0) (tCall (DkSp n K enc pre post) [] E (tCons (tVar i) tr)) env P := fun σ B H A e Q q => by
  obtain ⟨x, g1, g2⟩ := e.at_ i _ hi
  have g2 : x = some (.ref dk) := g2
  subst g2
  refine ⟨.ref dk, g1, ?_⟩
  refine h σ B H A e _ fun vs ds B1 H1 x1 r1 t1 p1 => ?_
  obtain ⟨a, rfl, hp, hq⟩ := k ds p1
  refine ⟨dk, l, B1, vs, a, by rw [List.append_nil], x1.s, r1, t1, hp, fun v d B2 H2 x2 r2 t2 p2 => ?_⟩
  exact q v d B2 H2 (x1.trans x2) r2 t2 (hq d p2)
theorem ev_callD {α : Type} {n : DkN} {K : PySem.W.Frag} {dk l : Addr} {B0 H0 : Hp} {env : List Sl} {i : Nat} {tr : TA} {enc : α → List D} {pre : α → Prop} {post : α → D → Prop} {E : XK} (a : α) (hi : env[i]? = some (.raw (.ref dk)))
    (h : EvA (dkCn n K dk l B0 H0) tr env (enc a)) (hp : pre a) : EvP (dkCn n K dk l B0 H0) (tCall (DkSp n K enc pre post) [] E (tCons (tVar i) tr)) env (post a) :=
  ev_callDP hi h fun ds e => ⟨a, e, hp, fun _ z => z⟩

/-! ### statements -/
structure Po where
  nx : List Sl → Prop := fun _ => False
  rt : D → Prop := fun _ => False
  bk : List Sl → Prop := fun _ => False
  ct : List Sl → Prop := fun _ => False
structure Goes (c : Cn) (o : Po) (X : Ends) (B : Hp) : Prop where
  nx : ∀ (σ : Sg) (B' H : Hp) (env : List Sl), Ex B B' → At c B' H → EnvOk c B' H σ env → o.nx env → X.nx σ H
  rt : ∀ (v : V) (d : D) (B' H : Hp), Ex B B' → At c B' H → Dt c.K B' v d → o.rt d → X.rt v H
  bk : ∀ (σ : Sg) (B' H : Hp) (env : List Sl), Ex B B' → At c B' H → EnvOk c B' H σ env → o.bk env → X.bk σ H
  ct : ∀ (σ : Sg) (B' H : Hp) (env : List Sl), Ex B B' → At c B' H → EnvOk c B' H σ env → o.ct env → X.ct σ H
def HS (c : Cn) (t : TS) (env : List Sl) (o : Po) : Prop := ∀ (X : Ends) (σ : Sg) (B H : Hp), At c B H → EnvOk c B H σ env → Goes c o X B → t X σ H
section
variable {c : Cn} {env : List Sl} {o o' : Po} {t u : TS} {te ta : TE} {P : D → Prop} {d : D} {i j : Nat} {tt : TT}
theorem Goes.later {X : Ends} {B B' : Hp} (g : Goes c o X B) (e : Ex B B') : Goes c o X B' :=
  ⟨fun σ C H env x => g.nx σ C H env (e.trans x), fun v d C H x => g.rt v d C H (e.trans x), fun σ C H env x => g.bk σ C H env (e.trans x), fun σ C H env x => g.ct σ C H env (e.trans x)⟩
theorem HS.imp (h : HS c t env o) (h1 : ∀ e, o.nx e → o'.nx e) (h2 : ∀ d, o.rt d → o'.rt d) (h3 : ∀ e, o.bk e → o'.bk e) (h4 : ∀ e, o.ct e → o'.ct e) : HS c t env o' := fun X σ B H A e g =>
  h X σ B H A e ⟨fun σ C H env x a b p => g.nx σ C H env x a b (h1 _ p), fun v d C H x a b p => g.rt v d C H x a b (h2 _ p), fun σ C H env x a b p => g.bk σ C H env x a b (h3 _ p), fun σ C H env x a b p => g.ct σ C H env x a b (h4 _ p)⟩
theorem hs_next (h : o.nx env) : HS c tNext env o := fun X σ B H A e g => g.nx σ B H env (Ex.refl B) A e h
theorem hs_seq (h : HS c t env { o with nx := fun e => HS c u e o }) : HS c (tSeq t u) env o := fun X σ B H A e g =>
  h { X with nx := u X } σ B H A e ⟨fun σ' B' H' env' x A' e' k => k X σ' B' H' A' e' (g.later x), g.rt, g.bk, g.ct⟩
theorem hs_brk (h : o.bk env) : HS c tBreak env o := fun X σ B H A e g => g.bk σ B H env (Ex.refl B) A e h
theorem hs_cont (h : o.ct env) : HS c tCont env o := fun X σ B H A e g => g.ct σ B H env (Ex.refl B) A e h
theorem hs_ret (h : EvP c te env P) (k : ∀ d, P d → o.rt d) : HS c (tRet te) env o := fun X σ B H A e g =>
  h σ B H A e _ fun v d B1 H1 x1 r1 t1 p1 => g.rt v d B1 H1 x1.b (A.go x1 r1) t1 (k d p1)
theorem hs_retN (h : o.rt .none) : HS c tRetN env o := fun X σ B H A e g => g.rt _ _ B H (Ex.refl B) A .non h
theorem hs_drop (h : EvP c te env P) (k : o.nx env) : HS c (tDrop te) env o := fun X σ B H A e g =>
  h σ B H A e _ fun v d B1 H1 x1 r1 t1 p1 => g.nx σ B1 H1 env x1.b (A.go x1 r1) (e.go x1) k
theorem hs_set (h : EvP c te env P) (k : ∀ d, P d → o.nx (env.set i (.dat d))) : HS c (tAsg te (gName i)) env o := fun X σ B H A e g =>
  h σ B H A e _ fun v d B1 H1 x1 r1 t1 p1 => g.nx _ B1 H1 _ x1.b (A.go x1 r1) ((e.go x1).dat t1) (k d p1)
theorem hs_setV (h : Ev c te env d) (k : o.nx (env.set i (.dat d))) : HS c (tAsg te (gName i)) env o := hs_set h fun _ e => by rw [e]; exact k
/-- an empty or new list that is to change -/
theorem hs_setN {Pn : List D → Prop} (h : EvN c te env Pn) (k : ∀ p ds, Pn ds → o.nx (env.set i (.own p ds))) : HS c (tAsg te (gName i)) env o := fun X σ B H A e g =>
  h σ B H A e _ fun p xs ds B1 H1 x1 r1 h0 hb h1 t1 p1 => by
    have A1 := A.go x1 r1
    have e1 := e.go x1
    have h00 : c.H0 p = none := by
      cases z : c.H0 p with
      | none => rfl
      | some o => exact absurd h0 (A.e.t p (by rw [z]; exact nofun))
    exact g.nx _ B1 H1 _ x1.b A1 (e1.own (fun z => e.live z h0) h1 t1 hb (A.notS h0) h00) (k p ds p1)
theorem hs_asg {g : TG} (h : EvP c te env P) (k : ∀ d, P d → ∃ env' is, HG c g d env env' is ∧ o.nx env') : HS c (tAsg te g) env o := fun X σ B H A e gg =>
  h σ B H A e _ fun v d B1 H1 x1 r1 t1 p1 => by
    obtain ⟨env', is, hg, kk⟩ := k d p1
    exact hg v σ B1 H1 (A.go x1 r1) (e.go x1) t1 _ fun σ' e' _ _ => gg.nx σ' B1 H1 env' x1.b (A.go x1 r1) e' kk
theorem hs_if {b : Bool} (h : EvB c tt env b) (h1 : b = true → HS c t env o) (h2 : b = false → HS c u env o) : HS c (tIfS tt t u) env o := fun X σ B H A e g =>
  h σ B H A e _ fun y B1 H1 x1 r1 p => by
    subst p
    cases y with
    | true => exact h1 rfl X σ B1 H1 (A.go x1 r1) (e.go x1) (g.later x1.b)
    | false => exact h2 rfl X σ B1 H1 (A.go x1 r1) (e.go x1) (g.later x1.b)
theorem hs_aug {f : Int → Int → Int} {a b : Int} (hx : env[i]? = some (.dat (.int a))) (h : Ev c te env (.int b)) (k : o.nx (env.set i (.dat (.int (f a b))))) : HS c (tAug i te (ipI f)) env o := fun X σ B H A e g => by
  obtain ⟨x, h1, v, h2, h3⟩ := e.at_ i _ hx
  subst h2
  refine ⟨v, h1, ?_⟩
  refine h σ B H A e _ fun u d B1 H1 x1 r1 t1 p1 => ?_
  subst p1
  exact ⟨a, b, dp_int_inv h3, dp_int_inv t1, g.nx _ B1 H1 _ x1.b (A.go x1 r1) ((e.go x1).dat (.int _)) k⟩
/-- for target in iter: I what holds ahead of each turn -/
theorem hs_for {wi : TI} {g : TG} {ds : List D} (I : Nat → List Sl → Prop) (h : EvI c wi env ds) (h0 : I 0 env)
    (hs : ∀ (i : Nat) (d : D) (env1 : List Sl), ds[i]? = some d → I i env1 → ∃ env2 is, HG c g d env1 env2 is ∧ HS c t env2 { nx := I (i + 1), ct := I (i + 1), bk := o.nx, rt := o.rt }) (hd : ∀ env1, I ds.length env1 → o.nx env1) : HS c (tFor wi g t) env o := fun X σ B H A e gg =>
  h σ B H A e _ fun J B1 H1 x1 r1 src => by
    obtain ⟨G, Y, w, hG, hY⟩ := src
    refine for_it w (Pv := fun i σ H => ∃ (B2 : Hp) (env1 : List Sl), Ex B1 B2 ∧ At c B2 H ∧ EnvOk c B2 H σ env1 ∧ I i env1) ⟨B1, env, Ex.refl B1, A.go x1 r1, e.go x1, h0⟩ (fun i σ H _ ⟨B2, _, b, a, _⟩ => hG H (b.trans a.e.s)) ?_ ?_
    · rintro i x σ2 H2 H3 hi ⟨B2, env1, b2, A2, e2, hI⟩ y
      have hdi : ds[i]? = some ds[i] := List.getElem?_eq_getElem hi
      obtain ⟨B3, x3, r3, t3⟩ := hY i _ x B2 H2 H3 hdi A2 b2 y
      obtain ⟨env2, is, hg, hb⟩ := hs i _ env1 hdi hI
      have A3 := A2.go x3 r3
      refine hg x σ2 B3 H3 A3 (e2.go x3) t3 _ fun σ' e' _ _ => ?_
      refine hb _ σ' B3 H3 A3 e' ⟨fun σ4 B4 H4 env4 b4 A4 e4 k => ⟨B4, env4, (b2.trans x3.b).trans b4, A4, e4, k⟩, fun v d B4 H4 b4 A4 t4 k => gg.rt v d B4 H4 (((x1.b.trans b2).trans x3.b).trans b4) A4 t4 k,
        fun σ4 B4 H4 env4 b4 A4 e4 k => gg.nx σ4 B4 H4 env4 (((x1.b.trans b2).trans x3.b).trans b4) A4 e4 k, fun σ4 B4 H4 env4 b4 A4 e4 k => ⟨B4, env4, (b2.trans x3.b).trans b4, A4, e4, k⟩⟩
    · rintro σ2 H2 ⟨B2, env1, b2, A2, e2, hI⟩
      exact gg.nx σ2 B2 H2 env1 (x1.b.trans b2) A2 e2 (hd env1 hI)
/-- while test: I what holds ahead of each turn, with a measure -/
theorem hs_while (I : Nat → List Sl → Prop) (m : Nat) (h0 : I m env) (hs : ∀ (m : Nat) (env1 : List Sl), I m env1 → ∃ b, EvB c tt env1 b ∧ (b = true → HS c t env1 { nx := fun e => ∃ m', m' < m ∧ I m' e, ct := fun e => ∃ m', m' < m ∧ I m' e, bk := o.nx, rt := o.rt }) ∧ (b = false → o.nx env1)) :
    HS c (tWhile tt t) env o := fun X σ B H A e gg => by
  refine ⟨fun m σ H => ∃ (B2 : Hp) (env1 : List Sl), Ex B B2 ∧ At c B2 H ∧ EnvOk c B2 H σ env1 ∧ I m env1, ⟨m, B, env, Ex.refl B, A, e, h0⟩, ?_⟩
  rintro m σ2 H2 ⟨B2, env1, b2, A2, e2, hI⟩
  obtain ⟨b, hb, h1, h2⟩ := hs m env1 hI
  refine hb σ2 B2 H2 A2 e2 _ fun y B3 H3 x3 r3 p => ?_
  subst p
  cases y with
  | true =>
    refine ⟨_, fun _ _ z => z, h1 rfl _ σ2 B3 H3 (A2.go x3 r3) (e2.go x3) ⟨fun σ4 B4 H4 env4 b4 A4 e4 k => ?_, fun v d B4 H4 b4 A4 t4 k => gg.rt v d B4 H4 ((b2.trans x3.b).trans b4) A4 t4 k,
        fun σ4 B4 H4 env4 b4 A4 e4 k => gg.nx σ4 B4 H4 env4 ((b2.trans x3.b).trans b4) A4 e4 k, fun σ4 B4 H4 env4 b4 A4 e4 k => ?_⟩⟩
    · obtain ⟨m', hm, k⟩ := k
      exact ⟨m', hm, B4, env4, (b2.trans x3.b).trans b4, A4, e4, k⟩
    · obtain ⟨m', hm, k⟩ := k
      exact ⟨m', hm, B4, env4, (b2.trans x3.b).trans b4, A4, e4, k⟩
  | false => exact gg.nx σ2 B3 H3 env1 (b2.trans x3.b) (A2.go x3 r3) (e2.go x3) (h2 rfl)
/-! owned lists -/
theorem EnvOk.ownAt {B H : Hp} {σ : Sg} {p : Addr} {ds : List D} (e : EnvOk c B H σ env) (h : env[i]? = some (.own p ds)) : σ[i]? = some (some (.ref p)) ∧ ∃ xs, H p = some (.lst xs) ∧ DtAll c.K B xs ds ∧ B p = none ∧ ¬ c.S p ∧ c.H0 p = none := by
  obtain ⟨x, h1, h2, ⟨xs, g1, g2⟩, r⟩ := e.at_ i _ h
  subst h2
  exact ⟨h1, xs, g1, g2, r⟩
/-- an owned thing is not to change any more -/
theorem hs_freezeO {p : Addr} {u : OD} {d : D} {ob : HO → Prop} (h : env[i]? = some (.ow p u)) (hd : ∀ B H, ObIn c.K B H p u → ∃ o, H p = some o ∧ ∀ B', Ex B B' → B' p = some o → Dt c.K B' (.ref p) d) (k : HS c t (env.set i (.dat d)) o) : HS c t env o := fun X σ B H A e g => by
  obtain ⟨x, h1, h2, h3, h4, h5, h6⟩ := e.at_ i _ h
  subst h2
  obtain ⟨w, h7, h8⟩ := hd B H h3
  have A' := A.freeze h6 h7 h4 h5
  have hb : Ex B (upd B p w) := Ex.new h4
  have hl := (List.getElem?_eq_some_iff.mp h).1
  refine k X σ _ H A' ⟨by rw [List.length_set, e.len], fun j s hs => ?_, e.nd.sublist (owns_set_sub fun _ _ z => nomatch z)⟩ (g.later hb)
  by_cases ej : i = j
  · subst ej
    rw [List.getElem?_set_self hl] at hs
    cases hs
    exact ⟨_, h1, _, rfl, h8 _ hb upd_same⟩
  · rw [List.getElem?_set_ne ej] at hs
    obtain ⟨x, g1, g2⟩ := e.at_ j s hs
    refine ⟨x, g1, ?_⟩
    cases s with
    | no => exact trivial
    | dat d =>
      obtain ⟨v, z1, z2⟩ := g2
      exact ⟨v, z1, dp_mono hb z2⟩
    | raw v => exact g2
    | ow q es =>
      obtain ⟨z1, z2, z4, z5, z6⟩ := g2
      have hne : q ≠ p := by
        rintro rfl
        exact ej (owns_two e.nd h hs)
      exact ⟨z1, z2.go hb fun o z => z, by rw [upd_ne hne]; exact z4, z5, z6⟩
theorem hs_freeze {p : Addr} {ds : List D} (h : env[i]? = some (.own p ds)) (k : HS c t (env.set i (.dat (.list ds))) o) : HS c t env o :=
  hs_freezeO (ob := fun _ => True) h (fun B H ⟨xs, h1, h2⟩ => ⟨_, h1, fun B' e z => .lst z (dps_mono e h2)⟩) k
theorem hs_freezeD {p : Addr} {es : List (D × D)} (h : env[i]? = some (.ow p (.idc es))) (k : HS c t (env.set i (.dat (.dict es))) o) : HS c t env o :=
  hs_freezeO (ob := fun _ => True) h (fun B H ⟨xs, h1, h2⟩ => ⟨_, h1, fun B' e z => .dic z (dtkv_mono e h2)⟩) k
/-- what changes an owned list: from xs to ys -/
theorem own_step {B H : Hp} {σ : Sg} {p : Addr} {ds es : List D} {ys : List V} (A : At c B H) (e : EnvOk c B H σ env) (h : env[i]? = some (.own p ds)) (hd : DtAll c.K B ys es) : At c B (upd H p (.lst ys)) ∧ EnvOk c B (upd H p (.lst ys)) σ (env.set i (.own p es)) := by
  obtain ⟨h1, xs, h2, h3, h4, h5, h6⟩ := e.ownAt h
  exact ⟨A.items h4 h5 h6 (by rw [h2]; exact nofun), e.items h hd⟩
/-- xs.append(e) -/
theorem hs_app {p : Addr} {ds : List D} (h : env[i]? = some (.own p ds)) (hz : ds.length < 1000000) (he : EvP c te env P) (k : ∀ d, P d → o.nx (env.set i (.own p (ds ++ [d])))) : HS c (tDrop (tBM c.K "list" rAppend (tVar i) (tCons te tNil))) env o := fun X σ B H A e g => by
  obtain ⟨h1, xs, h2, h3, h4, h5, h6⟩ := e.ownAt h
  refine ⟨_, h1, .inl ⟨rfl, xs, SqL.of h2⟩, ?_⟩
  refine he σ B H A e _ fun v d B1 H1 x1 r1 t1 p1 => ?_
  have A1 := A.go x1 r1
  have e1 := e.go x1
  have l1 : H1 p = some (.lst xs) := x1.k _ _ h2 h5
  refine ⟨p, xs, v, rfl, rfl, l1, szlt (by rw [dps_len h3]; exact hz), ?_⟩
  obtain ⟨A2, e2⟩ := own_step A1 e1 h (dps_app (dps_mono x1.b h3) (.cons t1 .nil))
  exact g.nx σ B1 _ _ x1.b A2 e2 (k d p1)
/-- xs.extend(new list) -/
theorem hs_ext {p : Addr} {ds : List D} {Pn : List D → Prop} (h : env[i]? = some (.own p ds)) (he : EvN c te env Pn) (hz : ∀ es, Pn es → ds.length + es.length ≤ 1000000) (k : ∀ es, Pn es → o.nx (env.set i (.own p (ds ++ es)))) : HS c (tDrop (tBM c.K "list" rExtend (tVar i) (tCons te tNil))) env o := fun X σ B H A e g => by
  obtain ⟨h1, xs, h2, h3, h4, h5, h6⟩ := e.ownAt h
  refine ⟨_, h1, .inl ⟨rfl, xs, SqL.of h2⟩, ?_⟩
  refine he σ B H A e _ fun p2 ys es B1 H1 x1 r1 h0 hb hl t1 p1 => ?_
  have A1 := A.go x1 r1
  have e1 := e.go x1
  have l1 : H1 p = some (.lst xs) := x1.k _ _ h2 h5
  refine ⟨p, p2, xs, ys, rfl, rfl, l1, hl, sz (by rw [dps_len h3, dps_len t1]; exact hz es p1), ?_⟩
  obtain ⟨A2, e2⟩ := own_step A1 e1 h (dps_app (dps_mono x1.b h3) t1)
  exact g.nx σ B1 _ _ x1.b A2 e2 (k es p1)
theorem ixN_nat' {n j : Nat} (hj : j < n) : ixN n (j : Int) = some j := Evl.ixN_nat hj
/-- xs[i] = e -/
theorem hs_setItem {p : Addr} {ds : List D} {n : Nat} {ti : TE} (h : env[i]? = some (.own p ds)) (he : EvP c te env P) (hi : Ev c ti env (.int (n : Nat))) (hn : n < ds.length) (k : ∀ d, P d → o.nx (env.set i (.own p (ds.set n d)))) : HS c (tAsg te (gSub (tVar i) ti rSetL)) env o := fun X σ B H A e g =>
  he σ B H A e _ fun v d B1 H1 x1 r1 t1 p1 => by
    have A1 := A.go x1 r1
    have e1 := e.go x1
    obtain ⟨h1, xs, h2, h3, h4, h5, h6⟩ := e1.ownAt h
    refine ⟨_, h1, ?_⟩
    refine hi σ B1 H1 A1 e1 _ fun u m B2 H2 x2 r2 t2 p2 => ?_
    subst p2
    rw [dp_int_inv t2]
    have A2 := A1.go x2 r2
    have e2 := e1.go x2
    obtain ⟨_, ys, g2, g3, _⟩ := e2.ownAt h
    refine ⟨p, ys, _, n, rfl, rfl, g2, ixN_nat' (by rw [dps_len g3]; exact hn), ?_⟩
    obtain ⟨A3, e3⟩ := own_step A2 e2 h (dps_set (dp_mono x2.b t1) n g3)
    exact g.nx σ B2 _ _ (x1.b.trans x2.b) A3 e3 (k d p1)
/-- xs[i] op= e on ints -/
theorem hs_augItem {p : Addr} {ds : List D} {n : Nat} {ti : TE} {f : Int → Int → Int} {a b : Int} (h : env[i]? = some (.own p ds)) (hi : Ev c ti env (.int (n : Nat))) (hn : ds[n]? = some (.int a)) (he : Ev c te env (.int b)) (k : o.nx (env.set i (.own p (ds.set n (.int (f a b)))))) :
    HS c (tAugS (tVar i) ti te (rGetL c.K) (ipI f) rSetL) env o := fun X σ B H A e g => by
  obtain ⟨h1, xs, h2, h3, h4, h5, h6⟩ := e.ownAt h
  refine ⟨_, h1, ?_⟩
  refine hi σ B H A e _ fun u m B1 H1 x1 r1 t1 p1 => ?_
  subst p1
  rw [dp_int_inv t1]
  have A1 := A.go x1 r1
  have e1 := e.go x1
  obtain ⟨_, ys, g2, g3, _⟩ := e1.ownAt h
  obtain ⟨v, w1, w2⟩ := dps_get g3 hn
  refine ⟨p, ys, n, v, rfl, rfl, SqL.of g2, w1, ?_⟩
  refine he σ B1 H1 A1 e1 _ fun y m B2 H2 x2 r2 t2 p2 => ?_
  subst p2
  refine ⟨a, b, dp_int_inv w2, dp_int_inv t2, ?_⟩
  have A2 := A1.go x2 r2
  have e2 := e1.go x2
  obtain ⟨_, zs, f2, f3, _⟩ := e2.ownAt h
  refine ⟨p, zs, _, n, rfl, rfl, f2, ixN_nat' (by rw [dps_len f3]; exact (List.getElem?_eq_some_iff.mp hn).1), ?_⟩
  obtain ⟨A3, e3⟩ := own_step A2 e2 h (dps_set (.int _) n f3)
  exact g.nx σ B2 _ _ (x1.b.trans x2.b) A3 e3 k
end
end DL
/-! Dlg: several stores at once, what is walked of either kind, defs by their data. -/
namespace DL
open PySem PySem.Spec PyProof.Rows L2
open Evl (Ex ex_l ex_t)

/-! ### a list or a tuple walked -/
def iSeq (K : PySem.W.Frag) (te : TE) : TI := fun σ H R => iList K te σ H R ∨ iTup K te σ H R
def iEnumU (K : PySem.W.Frag) (ta : TA) : TI := fun σ H R => iEnum K ta σ H R ∨ iEnumT K ta σ H R
theorem pi_seq {X : Cx} {tg e : Expr} {te : TE} (h : PE X e te) : PI X tg e (iSeq X.K te) := ⟨fun pins s σ H R I q => by
  rcases q with q | q
  · exact (pi_list h).run pins s σ H R I q
  · exact (pi_tup h).run pins s σ H R I q⟩
theorem pi_enumU {X : Cx} {e : Expr} {ta : TA} {p pos tpos : Pos} {elts : List Expr} {kk : Nat} (hg : Gl X "enumerate") (hm : X.mg "enumerate" = none) (ha : PA X [e] ta) (hs : starEach [e] X.env = [(false, eval e X.env)] := by rfl) :
    PI X (.Tuple elts kk tpos) (.Call (.Name "enumerate" p) [e] [] pos) (iEnumU X.K ta) := ⟨fun pins s σ H R I q => by
  rcases q with q | q
  · exact (pi_enum hg hm ha hs).run pins s σ H R I q
  · exact (pi_enumT hg hm ha hs).run pins s σ H R I q⟩
section
variable {c : Cn} {env : List Sl} {te ta : TE} {ds : List D}
theorem ei_seqL (h : Ev c te env (.list ds)) : EvI c (iSeq c.K te) env ds := fun σ B H A e R q => .inl (ei_list h σ B H A e R q)
theorem ei_seqT (h : Ev c te env (.tuple ds)) : EvI c (iSeq c.K te) env ds := fun σ B H A e R q => .inr (ei_tup h σ B H A e R q)
theorem ei_enL (h : Ev c te env (.list ds)) : EvI c (iEnumU c.K (tCons te tNil)) env (enumD ds) := fun σ B H A e R q => .inl (ei_enumL h σ B H A e R q)
theorem ei_enT (h : Ev c te env (.tuple ds)) : EvI c (iEnumU c.K (tCons te tNil)) env (enumD ds) := fun σ B H A e R q => .inr (ei_enumT h σ B H A e R q)
end

/-! ### several values at once, some of them owned -/
def SlsOk (c : Cn) (B H : Hp) : List V → List Sl → Prop
  | [], [] => True
  | v :: vs, s :: ss => SlOk c B H (some v) s ∧ SlsOk c B H vs ss
  | _, _ => False
theorem SlsOk.go {c : Cn} {B H B' H' : Hp} (x : Ext c.S B H B' H') : ∀ {vs : List V} {ss : List Sl}, SlsOk c B H vs ss → SlsOk c B' H' vs ss
  | [], [], _ => trivial
  | v :: vs, s :: ss, h => ⟨SlOk.go h.1 x, SlsOk.go x h.2⟩
  | [], _ :: _, h => h
  | _ :: _, [], h => h
def EvAS (c : Cn) (ta : TA) (env : List Sl) (P : List Sl → Prop) : Prop := ∀ (σ : Sg) (B H : Hp), At c B H → EnvOk c B H σ env → ∀ Q : List V → Hp → Prop,
  (∀ vs ss B' H', Ext c.S B H B' H' → c.R B' H' → SlsOk c B' H' vs ss → (owns ss).Nodup → (∀ p ∈ owns ss, H p = none ∧ H' p ≠ none) → P ss → Q vs H') → ta σ H Q
section
variable {c : Cn} {env : List Sl} {te : TE} {tr : TA} {o : Po} {i j l : Nat}
theorem eas_nil : EvAS c tNil env (fun s => s = []) := fun σ B H A e Q q => q [] [] B H A.same A.r trivial List.nodup_nil (fun _ z => (List.not_mem_nil z).elim) rfl
theorem eas_dat {P : D → Prop} {Pr : List Sl → Prop} (h : EvP c te env P) (hr : EvAS c tr env Pr) : EvAS c (tCons te tr) env (fun l => ∃ d r, l = .dat d :: r ∧ P d ∧ Pr r) := fun σ B H A e Q q =>
  h σ B H A e _ fun v d B1 H1 x1 r1 t1 p1 => hr σ B1 H1 (A.go x1 r1) (e.go x1) _ fun vs ss B2 H2 x2 r2 s2 n2 f2 p2 =>
    q (v :: vs) (.dat d :: ss) B2 H2 (x1.trans x2) r2 ⟨⟨v, rfl, dp_mono x2.b t1⟩, s2⟩ n2 (fun p hp => ⟨by
      cases z : H p with
      | none => rfl
      | some o => exact absurd (f2 p hp).1 (x1.t p (by rw [z]; exact nofun)), (f2 p hp).2⟩) ⟨d, ss, rfl, p1, p2⟩
theorem eas_own {Pn : List D → Prop} {Pr : List Sl → Prop} (h : EvN c te env Pn) (hr : EvAS c tr env Pr) : EvAS c (tCons te tr) env (fun l => ∃ p ds r, l = .own p ds :: r ∧ Pn ds ∧ Pr r) := fun σ B H A e Q q =>
  h σ B H A e _ fun p xs ds B1 H1 x1 r1 h0 hb h1 t1 p1 => hr σ B1 H1 (A.go x1 r1) (e.go x1) _ fun vs ss B2 H2 x2 r2 s2 n2 f2 p2 => by
    have hs : ¬ c.S p := A.notS h0
    have k2 : H2 p = some (.lst xs) := x2.k _ _ h1 hs
    have h00 : c.H0 p = none := by
      cases z : c.H0 p with
      | none => rfl
      | some o => exact absurd h0 (A.e.t p (by rw [z]; exact nofun))
    refine q (.ref p :: vs) (.own p ds :: ss) B2 H2 (x1.trans x2) r2 ⟨⟨rfl, ⟨xs, k2, dps_mono x2.b t1⟩, x2.n _ (by rw [h1]; exact nofun) hb, hs, h00⟩, s2⟩ (List.nodup_cons.mpr ⟨fun z => ?_, n2⟩) (fun r hr => ?_) ⟨p, ds, ss, rfl, p1, p2⟩
    · have := (f2 p z).1
      rw [h1] at this
      cases this
    · rcases List.mem_cons.mp hr with z | z
      · rw [z]
        exact ⟨h0, by rw [k2]; exact nofun⟩
      · refine ⟨?_, (f2 r z).2⟩
        cases w : H r with
        | none => rfl
        | some o => exact absurd (f2 r z).1 (x1.t r (by rw [w]; exact nofun))
theorem EvAS.imp {ta : TA} {P P' : List Sl → Prop} (h : EvAS c ta env P) (k : ∀ s, P s → P' s) : EvAS c ta env P' := fun σ B H A e Q q => h σ B H A e Q fun vs ss B' H' x r s n f p => q vs ss B' H' x r s n f (k ss p)
theorem owns_one {s : Sl} {r : List Sl} : owns (s :: r) = owns [s] ++ owns r := by cases s <;> rfl
/-- a slot is stored -/
theorem EnvOk.store {B H : Hp} {σ : Sg} {v : V} {s : Sl} (e : EnvOk c B H σ env) (h : SlOk c B H (some v) s) (hf : ∀ p ∈ owns [s], p ∉ owns env) : EnvOk c B H (σ.set i (some v)) (env.set i s) ∧ ∀ q ∈ owns (env.set i s), q ∈ owns [s] ∨ q ∈ owns env := by
  cases s with
  | ow p ds =>
    obtain ⟨h1, h2, h4, h5, h6⟩ := h
    cases h1
    have hp : p ∉ owns env := hf p List.mem_cons_self
    refine ⟨e.owO hp h2 h4 h5 h6, fun q hq => ?_⟩
    rcases (owns_set_own e.nd hp).2 q hq with z | z
    · exact .inl (by rw [z]; exact List.mem_cons_self)
    · exact .inr z
  | no => exact ⟨e.put (s := .no) (fun _ _ z => by cases z) h, fun q hq => .inr ((owns_set_sub (s := .no) fun _ _ z => by cases z).subset hq)⟩
  | dat d => exact ⟨e.put (s := .dat d) (fun _ _ z => by cases z) h, fun q hq => .inr ((owns_set_sub (s := .dat d) fun _ _ z => by cases z).subset hq)⟩
  | raw u => exact ⟨e.put (s := .raw u) (fun _ _ z => by cases z) h, fun q hq => .inr ((owns_set_sub (s := .raw u) fun _ _ z => by cases z).subset hq)⟩
theorem hs_par {ta : TA} {P : List Sl → Prop} (h : EvAS c ta env P) (k : ∀ ss, P ss → ∃ s1 s2, ss = [s1, s2] ∧ o.nx ((env.set i s1).set j s2)) : HS c (tPar i j ta) env o := fun X σ B H A e g =>
  h σ B H A e _ fun vs ss B1 H1 x1 r1 s1 n1 f1 p1 => by
    obtain ⟨a, b, rfl, kk⟩ := k ss p1
    match vs, s1 with
    | [v, w], ⟨g1, g2, _⟩ =>
      have e1 := e.go x1
      have live : ∀ p ∈ owns env, H p ≠ none := fun p hp => e.live hp
      obtain ⟨e2, m2⟩ := e1.store (i := i) g1 fun p hp z => live p z (f1 p (by rw [owns_one]; exact List.mem_append_left _ hp)).1
      have nd := n1
      rw [owns_one] at nd
      obtain ⟨e3, _⟩ := e2.store (i := j) g2 fun p hp z => by
        rcases m2 p z with z | z
        · exact (List.nodup_append.mp nd).2.2 p z p hp rfl
        · exact live p z (f1 p (by rw [owns_one]; exact List.mem_append_right _ hp)).1
      exact ⟨v, w, rfl, g.nx _ B1 H1 _ x1.b (A.go x1 r1) e3 kk⟩
theorem hs_par3 {ta : TA} {P : List Sl → Prop} (h : EvAS c ta env P) (k : ∀ ss, P ss → ∃ s1 s2 s3, ss = [s1, s2, s3] ∧ o.nx (((env.set i s1).set j s2).set l s3)) : HS c (tPar3 i j l ta) env o := fun X σ B H A e g =>
  h σ B H A e _ fun vs ss B1 H1 x1 r1 s1 n1 f1 p1 => by
    obtain ⟨a, b, d, rfl, kk⟩ := k ss p1
    match vs, s1 with
    | [u, v, w], ⟨g1, g2, g3, _⟩ =>
      have e1 := e.go x1
      have live : ∀ p ∈ owns env, H p ≠ none := fun p hp => e.live hp
      have fr : ∀ p, p ∈ owns [a, b, d] → p ∉ owns env := fun p hp z => live p z (f1 p hp).1
      have nd := n1
      rw [owns_one, owns_one (r := [d])] at nd fr
      have n2 := List.nodup_append.mp nd
      obtain ⟨e2, m2⟩ := e1.store (i := i) g1 fun p hp => fr p (List.mem_append_left _ hp)
      obtain ⟨e3, m3⟩ := e2.store (i := j) g2 fun p hp z => by
        rcases m2 p z with z | z
        · exact n2.2.2 p z p (List.mem_append_left _ hp) rfl
        · exact fr p (List.mem_append_right _ (List.mem_append_left _ hp)) z
      obtain ⟨e4, _⟩ := e3.store (i := l) g3 fun p hp z => by
        rcases m3 p z with z | z
        · exact (List.nodup_append.mp n2.2.1).2.2 p z p hp rfl
        · rcases m2 p z with z | z
          · exact n2.2.2 p z p (List.mem_append_right _ hp) rfl
          · exact fr p (List.mem_append_right _ (List.mem_append_right _ hp)) z
      exact ⟨u, v, w, rfl, g.nx _ B1 H1 _ x1.b (A.go x1 r1) e4 kk⟩
end

/-! ### a def by its data -/
theorem env_start {c : Cn} {B H : Hp} {vs : List V} {ss : List Sl} {N : List Str} (h : SlsOk c B H vs ss) (ho : owns ss = []) : EnvOk c B H (start N vs) (ss ++ List.replicate (N.length - ss.length) .no) := by
  have hl : ∀ {vs : List V} {ss : List Sl}, SlsOk c B H vs ss → vs.length = ss.length := by
    intro vs
    induction vs with
    | nil => intro ss h; cases ss with | nil => rfl | cons _ _ => exact h.elim
    | cons v vs ih => intro ss h; cases ss with | nil => exact h.elim | cons s ss => exact congrArg (· + 1) (ih h.2)
  have hg : ∀ {vs : List V} {ss : List Sl} {i : Nat} {s : Sl}, SlsOk c B H vs ss → ss[i]? = some s → ∃ v, vs[i]? = some v ∧ SlOk c B H (some v) s := by
    intro vs
    induction vs with
    | nil => intro ss i s h e; cases ss with | nil => simp at e | cons _ _ => exact h.elim
    | cons v vs ih =>
      intro ss i s h e
      cases ss with
      | nil => exact h.elim
      | cons s' ss =>
        cases i with
        | zero =>
          obtain rfl : s' = s := by simpa using e
          exact ⟨v, rfl, h.1⟩
        | succ i =>
          obtain ⟨u, h1, h2⟩ := ih (i := i) (s := s) h.2 (by simpa using e)
          exact ⟨u, by simpa using h1, h2⟩
  have oapp : ∀ l : List Sl, ∀ n : Nat, owns (l ++ List.replicate n .no) = owns l := by
    intro l n
    induction l with
    | nil =>
      induction n with
      | zero => rfl
      | succ n ih => exact ih
    | cons s r ih =>
      rw [List.cons_append, owns_one, owns_one (r := r), ih]
  refine ⟨?_, fun i s hs => ?_, ?_⟩
  · unfold L2.start
    rw [List.length_append, List.length_append, List.length_map, List.length_replicate, List.length_replicate, hl h]
  · unfold L2.start
    by_cases hi : i < ss.length
    · rw [List.getElem?_append_left hi] at hs
      obtain ⟨v, h1, h2⟩ := hg h hs
      exact ⟨some v, by rw [List.getElem?_append_left (by rw [List.length_map, hl h]; exact hi), List.getElem?_map, h1]; rfl, h2⟩
    · rw [List.getElem?_append_right (by omega), List.getElem?_replicate] at hs
      split at hs
      · cases hs
        refine ⟨none, ?_, trivial⟩
        rw [List.getElem?_append_right (by rw [List.length_map, hl h]; omega), List.getElem?_replicate, List.length_map, hl h, if_pos (by assumption)]
      · cases hs
  · rw [oapp, ho]
    exact List.nodup_nil
theorem sls_dat {c : Cn} {B H : Hp} : ∀ {vs : List V} {ds : List D}, DtAll c.K B vs ds → SlsOk c B H vs (ds.map .dat)
  | _, _, .nil => trivial
  | _, _, .cons h t => ⟨⟨_, rfl, h⟩, sls_dat t⟩
theorem owns_dat : ∀ ds : List D, owns (ds.map .dat) = []
  | [] => rfl
  | _ :: r => owns_dat r
/-- a def of the text, called by its name -/
def Cal (P : Program) (w : World) (K : PySem.W.Frag) (mg : Str → Option Value) (base : Heap) (x : Str) (ps : List Str) (k : Nat) (sp : Sp) : Prop :=
  ∃ (f : Addr) (fd : FuncData), mg x = some (.ref f) ∧ PySem.W.keepIn K (.ref f) = true ∧ FnG P w K mg base CX0 k f fd ps sp ∧ Binds K fd ps []
section
variable {X : Cx} {k : Nat} {ps : List Str} {sp : Sp} {x : Str} {p pos : Pos} {e : Expr} {es : List Expr} {t : TA}
theorem pe_cal (C : Cal X.prog X.w X.K X.mg X.base x ps k sp) (hgu : X.A.guards = some []) (hr : Room k X.A) (hg : Gl X x) (ha : PA X (e :: es) t) (hdb : (x == ("__debug__" : Str)) = false := by decide)
    (he : starEach (e :: es) X.env = (false, eval e X.env) :: starEach es X.env := by rfl) (hpl : (backTo pos (starEach es X.env)).any (·.1) = false := by rfl) : PE X (.Call (.Name x p) (e :: es) [] pos) (tCall sp [] E0 t) := by
  obtain ⟨f, fd, h1, h2, h3, h4⟩ := C
  exact pe_callg h3 hgu hr hg h1 h2 h4 .nil pass0 ha hdb he hpl
theorem pe_cal0 (C : Cal X.prog X.w X.K X.mg X.base x ps k sp) (hgu : X.A.guards = some []) (hr : Room k X.A) (hg : Gl X x) (hdb : (x == ("__debug__" : Str)) = false := by decide) : PE X (.Call (.Name x p) [] [] pos) (tCall sp [] E0 tNil) := by
  obtain ⟨f, fd, h1, h2, h3, h4⟩ := C
  exact pe_callg0 h3 hgu hr hg h1 h2 h4 .nil pass0 hdb
end
section
variable {α : Type} {P : Program} {w : World} {K : PySem.W.Frag} {mg : Str → Option Value} {base : Heap} {k : Nat} {f : Addr} {fd : FuncData} {x qual : Str} {params : Arguments} {body : List Stmt} {scope : Scope} {N ps : List Str} {enc : α → List D} {pre : α → Prop} {post : α → D → Prop}
theorem fn_pure {t : TS} (F : FunD K x qual params body scope [] [] f fd) (S : FnScope N ps scope) (hl : ∀ a, pre a → (enc a).length = ps.length)
    (hb : ∀ (cdv : Value) (A : Around) (outer : List Env) (s : Shared) (H : Hp) (E : XK), (A.deeper (envOfC qual scope s.heap.objs.size f cdv)).guards = some [] → Room k (A.deeper (envOfC qual scope s.heap.objs.size f cdv)) →
      PSs (cxOf CX0 P w K mg base N qual scope f cdv A outer s H E).nox body t)
    (hh : ∀ (B0 H0 : Hp) (a : α), pre a → HS (pureCn K B0 H0) t ((enc a).map .dat ++ List.replicate (N.length - (enc a).length) .no) { nx := fun _ => post a .none, rt := post a }) :
    FnG P w K mg base CX0 (k + 1) f fd ps (PureSp K enc pre post) := by
  refine FunDg F S (fun vs H Q E h => ?_) fun cdv A outer s H vs Q E hg hr h => ?_
  · obtain ⟨B, a, _, t, hp, _⟩ := h
    rw [dps_len t]
    exact hl a hp
  · obtain ⟨B, a, ex, ta, hp, q⟩ := h
    refine ⟨t, PSs.nox (hb cdv A outer s H E hg hr), ?_⟩
    have e0 := env_start (c := pureCn K B H) (N := N) (sls_dat (c := pureCn K B H) (H := H) ta) (owns_dat (enc a))
    rw [List.length_map] at e0
    refine hh B H a hp _ _ B H ⟨Ext.refl ex, trivial⟩ e0 ⟨fun σ' B' H' env _ A' _ q' => ?_, fun v d B' H' _ A' t' q' => ?_, fun _ _ _ _ _ _ _ z => z.elim, fun _ _ _ _ _ _ _ z => z.elim⟩
    · exact q _ _ B' H' A'.e .non q'
    · exact q v d B' H' A'.e t' q'
theorem fn_deck {n : DkN} {t : TS} (F : FunD K x qual params body scope [] [] f fd) (S : FnScope N ps scope) (hl : ∀ a, pre a → (enc a).length + 1 = ps.length)
    (hb : ∀ (cdv : Value) (A : Around) (outer : List Env) (s : Shared) (H : Hp) (E : XK), (A.deeper (envOfC qual scope s.heap.objs.size f cdv)).guards = some [] → Room k (A.deeper (envOfC qual scope s.heap.objs.size f cdv)) →
      PSs (cxOf CX0 P w K mg base N qual scope f cdv A outer s H E).nox body t)
    (hh : ∀ (dk l : Addr) (B0 H0 : Hp) (a : α), pre a → HS (dkCn n K dk l B0 H0) t (.raw (.ref dk) :: ((enc a).map .dat ++ List.replicate (N.length - ((enc a).length + 1)) .no)) { nx := fun _ => post a .none, rt := post a }) :
    FnG P w K mg base CX0 (k + 1) f fd ps (DkSp n K enc pre post) := by
  refine FunDg F S (fun vs H Q E h => ?_) fun cdv A outer s H vs Q E hg hr h => ?_
  · obtain ⟨dk, l, B, us, a, rfl, _, _, t, hp, _⟩ := h
    rw [List.length_cons, dps_len t]
    exact hl a hp
  · obtain ⟨dk, l, B, us, a, rfl, ex, r, ta, hp, q⟩ := h
    refine ⟨t, PSs.nox (hb cdv A outer s H E hg hr), ?_⟩
    have s0 : SlsOk (dkCn n K dk l B H) B H (.ref dk :: us) (.raw (.ref dk) :: (enc a).map .dat) := ⟨rfl, sls_dat ta⟩
    have e0 := env_start (N := N) s0 (owns_dat (enc a))
    rw [List.length_cons, List.length_map] at e0
    refine hh dk l B H a hp _ _ B H ⟨Ext.refl ex, r⟩ e0 ⟨fun σ' B' H' env _ A' _ q' => ?_, fun v d B' H' _ A' t' q' => ?_, fun _ _ _ _ _ _ _ z => z.elim, fun _ _ _ _ _ _ _ z => z.elim⟩
    · exact q _ _ B' H' A'.e A'.r .non q'
    · exact q v d B' H' A'.e A'.r t' q'
end
end DL
/-! Dlh: numbers that are not negative, maps, equalities: what the walks use. -/
namespace DL
open PySem PySem.Spec PyProof.Rows L2
open Evl (Ex ex_l ex_t)
abbrev nt (n : Nat) : D := .int (n : Int)
section
variable {c : Cn} {env : List Sl} {te ta tb : TE} {P : D → Prop} {d a b : D} {i j n : Nat}
theorem ev_nat (n : Nat) : Ev c (tC (.int (n : Int))) env (nt n) := ev_int
theorem opd_addN : OpD c (rAddU c.K) (nt i) (nt j) (fun e => e = nt (i + j)) := by
  have := opd_add (c := c) (i := (i : Int)) (j := (j : Int))
  rw [← Int.natCast_add] at this
  exact this
theorem opd_subN (h : j ≤ i) : OpD c (rI0 fun i j => .int (i - j)) (nt i) (nt j) (fun e => e = nt (i - j)) := by
  have := opd_I0 (c := c) (f := fun i j => i - j) (i := (i : Int)) (j := (j : Int))
  rw [← Int.ofNat_sub h] at this
  exact this
theorem opd_mulN (h : i < 2 ^ 64) : OpD c rMulU (nt i) (nt j) (fun e => e = nt (i * j)) := by
  have := opd_mul (c := c) (i := (i : Int)) (j := (j : Int)) (.inl (by omega))
  rw [← Int.natCast_mul] at this
  exact this
theorem opd_mulN' (h : j < 2 ^ 64) : OpD c rMulU (nt i) (nt j) (fun e => e = nt (i * j)) := by
  have := opd_mul (c := c) (i := (i : Int)) (j := (j : Int)) (.inr (by omega))
  rw [← Int.natCast_mul] at this
  exact this
theorem opd_modN (h : 0 < j) : OpD c (rI (fun _ j => j ≠ 0) fun i j => .int (i.fmod j)) (nt i) (nt j) (fun e => e = nt (i % j)) := by
  have := opd_mod (c := c) (i := (i : Int)) (j := (j : Int)) (by omega)
  rw [← Int.natCast_emod] at this
  exact this
theorem opd_divN (h : 0 < j) (h2 : j < 2 ^ 64) : OpD c (rI CDivW fun i j => .int (i / j)) (nt i) (nt j) (fun e => e = nt (i / j)) := by
  have := opd_div (c := c) (i := (i : Int)) (j := (j : Int)) (by omega) (by omega)
  rw [← Int.natCast_ediv] at this
  exact this
theorem bitAnd_one (n : Nat) : Builtin.bitAnd (n : Int) 1 = ((n % 2 : Nat) : Int) := by
  show ((n &&& 1 : Nat) : Int) = _
  rw [Nat.and_one_is_mod]
theorem opd_and1 : OpD c (rI0 fun i j => .int (Builtin.bitAnd i j)) (nt i) (.int 1) (fun e => e = nt (i % 2)) := by
  have := opd_I0 (c := c) (f := fun i j => Builtin.bitAnd i j) (i := (i : Int)) (j := 1)
  rw [bitAnd_one] at this
  exact this
theorem opd_ltN : OpD c (rI0 fun i j => .bl (decide (i < j))) (nt i) (nt j) (fun e => e = .bool (decide (i < j))) := by
  have := opd_cmp (c := c) (f := fun i j => decide (i < j)) (i := (i : Int)) (j := (j : Int))
  simp only [Int.ofNat_lt] at this
  exact this
theorem opd_leN : OpD c (rI0 fun i j => .bl (decide (i ≤ j))) (nt i) (nt j) (fun e => e = .bool (decide (i ≤ j))) := by
  have := opd_cmp (c := c) (f := fun i j => decide (i ≤ j)) (i := (i : Int)) (j := (j : Int))
  simp only [Int.ofNat_le] at this
  exact this
theorem opd_gtN : OpD c (rI0 fun i j => .bl (decide (j < i))) (nt i) (nt j) (fun e => e = .bool (decide (j < i))) := by
  have := opd_cmp (c := c) (f := fun i j => decide (j < i)) (i := (i : Int)) (j := (j : Int))
  simp only [Int.ofNat_lt] at this
  exact this
theorem opd_geN : OpD c (rI0 fun i j => .bl (decide (j ≤ i))) (nt i) (nt j) (fun e => e = .bool (decide (j ≤ i))) := by
  have := opd_cmp (c := c) (f := fun i j => decide (j ≤ i)) (i := (i : Int)) (j := (j : Int))
  simp only [Int.ofNat_le] at this
  exact this
/-! equality of data: shaped data that are alike -/
theorem shaped_int (z : Int) : SeqAt.shaped (.int z) = true := rfl
theorem shaped_str (z : Str) (h : PyData.strOk z = true) : SeqAt.shaped (.str z) = true := by
  show (PyData.canLay0 (.str z) && decide (PyData.depth (.str z) ≤ 64)) = true
  rw [PyData.canLay0, h]
  rfl
theorem opd_eqI {x y : Int} : OpD c (rEqD c.K) (.int x) (.int y) (fun e => e = .bool (decide (x = y))) := by
  have := opd_eq (c := c) (shaped_int x) (shaped_int y)
  have e : PyData.eqv (.int x) (.int y) = decide (x = y) := by
    rw [PyData.eqv]
    by_cases h : x = y
    · subst h; simp
    · rw [decide_eq_false h]; simpa using h
  rw [e] at this
  exact this
theorem opd_neI {x y : Int} : OpD c (rNeD c.K) (.int x) (.int y) (fun e => e = .bool (!decide (x = y))) := by
  have := opd_ne (c := c) (shaped_int x) (shaped_int y)
  have e : PyData.eqv (.int x) (.int y) = decide (x = y) := by
    rw [PyData.eqv]
    by_cases h : x = y
    · subst h; simp
    · rw [decide_eq_false h]; simpa using h
  rw [e] at this
  exact this
theorem opd_eqN : OpD c (rEqD c.K) (nt i) (nt j) (fun e => e = .bool (decide (i = j))) := by
  have := opd_eqI (c := c) (x := (i : Int)) (y := (j : Int))
  simp only [Int.natCast_inj] at this
  exact this
theorem opd_neN : OpD c (rNeD c.K) (nt i) (nt j) (fun e => e = .bool (!decide (i = j))) := by
  have := opd_neI (c := c) (x := (i : Int)) (y := (j : Int))
  simp only [Int.natCast_inj] at this
  exact this
theorem opd_same (h : SeqAt.shaped d = true) (nd : d.hasDict = false := by rw [PyData.hasDict]) : OpD c (rEqD c.K) d d (fun e => e = .bool true) := by
  have := opd_eq (c := c) h h nd nd
  rw [SeqAt.eqv_refl d (SeqAt.canLay_of_shaped h)] at this
  exact this
theorem opd_nsame (h : SeqAt.shaped d = true) (nd : d.hasDict = false := by rw [PyData.hasDict]) : OpD c (rNeD c.K) d d (fun e => e = .bool false) := by
  have := opd_ne (c := c) h h nd nd
  rw [SeqAt.eqv_refl d (SeqAt.canLay_of_shaped h)] at this
  exact this
/-! items of maps -/
theorem atI_mapN {α : Type} {f : α → D} {xs : List α} {x : α} (h : xs[n]? = some x) : atI (xs.map f) ((n : Nat) : Int) = some (f x) := by
  rw [atI_nat', List.getElem?_map, h]
  rfl
theorem ev_ixTm {α : Type} {f : α → D} {xs : List α} {x : α} (ha : Ev c ta env (.tuple (xs.map f))) (hb : Ev c tb env (nt n)) (h : xs[n]? = some x) : Ev c (tOp (rIx c.K) ta tb) env (f x) := ev_ixT ha hb (atI_mapN h)
theorem ev_ixLm {α : Type} {f : α → D} {xs : List α} {x : α} (ha : EvS c ta env (xs.map f)) (hb : Ev c tb env (nt n)) (h : xs[n]? = some x) : Ev c (tOp (rIx c.K) ta tb) env (f x) := ev_ixL ha hb (atI_mapN h)
theorem enum_at {ds : List D} (h : (enumD ds)[i]? = some d) : ∃ e, ds[i]? = some e ∧ d = .tuple [nt i, e] := by
  rw [enumD_at] at h
  cases e : ds[i]? with
  | none =>
    rw [e] at h
    cases h
  | some x =>
    rw [e] at h
    exact ⟨x, rfl, (Option.some.inj h).symm⟩
theorem map_at {α β : Type} {f : α → β} {xs : List α} {y : β} (h : (xs.map f)[i]? = some y) : ∃ x, xs[i]? = some x ∧ y = f x := by
  rw [List.getElem?_map] at h
  cases e : xs[i]? with
  | none =>
    rw [e] at h
    cases h
  | some x =>
    rw [e] at h
    exact ⟨x, rfl, (Option.some.inj h).symm⟩
end
/-! what repr takes -/
theorem showAll_of {ds : List D} (h : ∀ d ∈ ds, d.showable = true) : PyData.showableAll ds = true := by
  induction ds with
  | nil => rw [PyData.showableAll]
  | cons d r ih => rw [PyData.showableAll, h d List.mem_cons_self, ih fun x hx => h x (List.mem_cons_of_mem _ hx)]; rfl
theorem hasAll_of {ds : List D} (h : ∀ d ∈ ds, d.hasDict = false) : PyData.hasDictAll ds = false := by
  induction ds with
  | nil => rw [PyData.hasDictAll]
  | cons d r ih => rw [PyData.hasDictAll, h d List.mem_cons_self, ih fun x hx => h x (List.mem_cons_of_mem _ hx)]; rfl
theorem depthAll_of {ds : List D} {n : Nat} (h : ∀ d ∈ ds, d.depth ≤ n) : PyData.depthAll ds ≤ n := by
  induction ds with
  | nil => rw [PyData.depthAll]; exact Nat.zero_le _
  | cons d r ih =>
    rw [PyData.depthAll]
    exact Nat.max_le.mpr ⟨h d List.mem_cons_self, ih fun x hx => h x (List.mem_cons_of_mem _ hx)⟩
theorem ok_append {a b : Str} (ha : PyData.strOk a = true) (hb : PyData.strOk b = true) : PyData.strOk (a ++ b) = true := by
  unfold PyData.strOk at ha hb ⊢
  rw [Str.cps_append, Array.all_append, ha, hb]
  rfl
theorem ok_ofString (s : String) : PyData.strOk (Str.ofString s) = true := by
  unfold PyData.strOk
  rw [Array.all_eq_true_iff_forall_mem]
  intro x hx
  have h1 : x ∈ (Str.ofString s).cps.toList := by simpa using hx
  rw [signs_ofString] at h1
  obtain ⟨c, _, rfl⟩ := List.mem_map.mp h1
  have := c.valid
  refine decide_eq_true ?_
  show c.val.toNat < 0x110000
  rcases this with h | h
  · have h : c.val.toNat < 0xd800 := h
    omega
  · exact h.2
theorem ok_join {sep : Str} (hs : PyData.strOk sep = true) : ∀ {ts : List Str}, (∀ t ∈ ts, PyData.strOk t = true) → PyData.strOk (Str.join sep ts) = true
  | [], _ => by
    rw [join_nil]
    decide +kernel
  | [x], h => by
    rw [join_one]
    exact h x List.mem_cons_self
  | x :: y :: r, h => by
    rw [join_cons_cons]
    exact ok_append (ok_append (h x List.mem_cons_self) hs) (ok_join hs fun t ht => h t (List.mem_cons_of_mem _ ht))
theorem ok_textFrom : ∀ {ts : List Str} {k : Nat} {acc : Str}, PyData.strOk acc = true → (∀ t ∈ ts, PyData.strOk t = true) → PyData.strOk (textFrom k acc ts) = true
  | [], _, _, h, _ => h
  | t :: r, k, acc, h, ht => ok_textFrom (ts := r) (k := k + 1) (ok_append (ok_append h (ok_ofString _)) (ht t List.mem_cons_self)) fun u hu => ht u (List.mem_cons_of_mem _ hu)
theorem ok_shownAll : ∀ {ds : List D}, (∀ d ∈ ds, PyData.strOk d.shown = true) → ∀ t ∈ PyData.shownAll ds, PyData.strOk t = true
  | [], _, t, ht => by
    rw [PyData.shownAll] at ht
    cases ht
  | d :: r, h, t, ht => by
    rw [PyData.shownAll] at ht
    rcases List.mem_cons.mp ht with e | ht
    · rw [e]
      exact h d List.mem_cons_self
    · exact ok_shownAll (fun x hx => h x (List.mem_cons_of_mem _ hx)) t ht
/-- data of small ints, so deep at most, with so long a text -/
structure Sm (e : D) (k n : Nat) : Prop where
  s : e.showable = true
  h : e.hasDict = false
  d : e.depth ≤ k
  l : e.shown.length ≤ n
  c : e.canLay0 = true
  k : PyData.strOk e.shown = true
theorem canAll_of {ds : List D} (h : ∀ d ∈ ds, d.canLay0 = true) : PyData.canLayAll0 ds = true := by
  induction ds with
  | nil => rw [PyData.canLayAll0]
  | cons d r ih => rw [PyData.canLayAll0, h d List.mem_cons_self, ih fun x hx => h x (List.mem_cons_of_mem _ hx)]; rfl
theorem piled_le {m : Nat} : ∀ {ts : List Str}, (∀ t ∈ ts, t.length ≤ m) → piled ts ≤ ts.length * (m + 2)
  | [], _ => Nat.zero_le _
  | t :: r, h => by
    rw [piled_cons, List.length_cons, Nat.succ_mul]
    have h1 := h t List.mem_cons_self
    have h2 := piled_le (ts := r) fun x hx => h x (List.mem_cons_of_mem _ hx)
    omega
theorem listText_le (ts : List Str) : (listText ts).length ≤ piled ts + 2 := by
  cases ts with
  | nil => exact (by decide : (listText ([] : List Str)).length ≤ 2)
  | cons t r =>
    have h := textFrom_length_pos r 1 ((("[" : String) : Str) ++ ((if (0 : Nat) > 0 then ", " else "" : String) : Str) ++ t) (by decide)
    have e : (listText (t :: r)).length = (textFrom 1 ((("[" : String) : Str) ++ ((if (0 : Nat) > 0 then ", " else "" : String) : Str) ++ t) r).length + 1 := by
      show (textFrom 1 _ r ++ "]").length = _
      rw [strLen_append]
      rfl
    rw [e, h, strLen_append, strLen_append, piled_cons]
    have h1 : (("[" : String) : Str).length = 1 := by decide
    have h2 : ((if (0 : Nat) > 0 then ", " else "" : String) : Str).length = 0 := by decide
    omega
theorem join_le : ∀ ts : List Str, (Str.join ((", " : String) : Str) ts).length ≤ piled ts
  | [] => by
    rw [join_nil]
    exact Nat.zero_le _
  | [x] => by
    rw [join_one, piled_cons]
    omega
  | x :: y :: r => by
    rw [join_cons_cons, strLen_append, strLen_append, piled_cons]
    have h1 : ((", " : String) : Str).length = 2 := by decide
    have := join_le (y :: r)
    omega
theorem tupleText_le (ts : List Str) : (tupleText ts).length ≤ piled ts + 3 := by
  unfold tupleText
  rw [strLen_append, strLen_append]
  have h1 : (("(" : String) : Str).length = 1 := by decide
  have h2 : ((if ts.length == 1 then ",)" else ")" : String) : Str).length ≤ 2 := by
    split <;> decide
  have := join_le ts
  omega
theorem shownAll_mem {m : Nat} : ∀ {ds : List D}, (∀ d ∈ ds, d.shown.length ≤ m) → ∀ t ∈ PyData.shownAll ds, t.length ≤ m
  | [], _, t, ht => by
    rw [PyData.shownAll] at ht
    cases ht
  | d :: r, h, t, ht => by
    rw [PyData.shownAll] at ht
    rcases List.mem_cons.mp ht with e | ht
    · rw [e]
      exact h d List.mem_cons_self
    · exact shownAll_mem (fun x hx => h x (List.mem_cons_of_mem _ hx)) t ht
theorem shownAll_len : ∀ ds : List D, (PyData.shownAll ds).length = ds.length
  | [] => by rw [PyData.shownAll]; rfl
  | d :: r => by rw [PyData.shownAll, List.length_cons, List.length_cons, shownAll_len r]
theorem sm_tuple {ds : List D} {k m n : Nat} (h : ∀ d ∈ ds, Sm d k m) (hn : ds.length * (m + 2) + 3 ≤ n) : Sm (.tuple ds) (k + 1) n where
  s := by rw [PyData.showable]; exact showAll_of fun d hd => (h d hd).s
  h := by rw [PyData.hasDict]; exact hasAll_of fun d hd => (h d hd).h
  d := by
    rw [PyData.depth]
    have := depthAll_of fun d hd => (h d hd).d
    omega
  l := by
    rw [PyData.shown]
    have h1 := tupleText_le (PyData.shownAll ds)
    have h2 := piled_le (shownAll_mem fun d hd => (h d hd).l)
    rw [shownAll_len] at h2
    omega
  c := by rw [PyData.canLay0]; exact canAll_of fun d hd => (h d hd).c
  k := by
    rw [PyData.shown]
    unfold tupleText
    exact ok_append (ok_append (ok_ofString _) (ok_join (ok_ofString _) (ok_shownAll fun d hd => (h d hd).k))) (ok_ofString _)
theorem sm_list {ds : List D} {k m n : Nat} (h : ∀ d ∈ ds, Sm d k m) (hn : ds.length * (m + 2) + 3 ≤ n) : Sm (.list ds) (k + 1) n where
  s := by rw [PyData.showable]; exact showAll_of fun d hd => (h d hd).s
  h := by rw [PyData.hasDict]; exact hasAll_of fun d hd => (h d hd).h
  d := by
    rw [PyData.depth]
    have := depthAll_of fun d hd => (h d hd).d
    omega
  l := by
    rw [PyData.shown]
    have h1 := listText_le (PyData.shownAll ds)
    have h2 := piled_le (shownAll_mem fun d hd => (h d hd).l)
    rw [shownAll_len] at h2
    omega
  c := by rw [PyData.canLay0]; exact canAll_of fun d hd => (h d hd).c
  k := by
    rw [PyData.shown]
    unfold listText
    exact ok_append (ok_textFrom (ok_ofString _) (ok_shownAll fun d hd => (h d hd).k)) (ok_ofString _)
theorem sm_nat {n : Nat} (h : n < 10 ^ 18) : Sm (nt n) 0 18 where
  s := by
    rw [PyData.showable]
    refine decide_eq_true ?_
    show ((n : Int).natAbs).log2 < 1920
    rw [Int.natAbs_natCast]
    by_cases e : n = 0
    · subst e
      decide
    · have := (Nat.log2_lt (n := n) (k := 64) e).mpr (by omega)
      omega
  h := by rw [PyData.hasDict]
  d := by rw [PyData.depth]; exact Nat.le_refl _
  l := by
    rw [PyData.shown]
    exact toString_length_le (by omega) (by decide) (by omega)
  c := by rw [PyData.canLay0]
  k := by
    rw [PyData.shown]
    exact ok_ofString _
theorem Sm.str {d : D} {k n : Nat} (h : Sm d k n) : SeqAt.shaped (.str d.shown) = true := shaped_str _ h.k
theorem Sm.more {d : D} {k n k' n' : Nat} (h : Sm d k n) (hk : k ≤ k') (hn : n ≤ n') : Sm d k' n' := ⟨h.s, h.h, Nat.le_trans h.d hk, Nat.le_trans h.l hn, h.c, h.k⟩
theorem Sm.shaped {d : D} {k n : Nat} (h : Sm d k n) (hk : k ≤ 64) : SeqAt.shaped d = true := by
  show (d.canLay0 && decide (d.depth ≤ 64)) = true
  rw [h.c, decide_eq_true (Nat.le_trans h.d hk)]
  rfl
theorem Sm.shows_t {ds : List D} {k n : Nat} (h : Sm (.tuple ds) k n) (hk : k ≤ 60) (hn : n ≤ 16000000) : Shows (.tuple ds) :=
  ⟨h.s, h.h, Nat.le_trans h.d hk, Nat.le_trans h.l (Nat.le_trans hn (by decide)), fun _ z => (by cases z), fun _ z => (by cases z), fun z => (by cases z)⟩
theorem Sm.shows_l {ds : List D} {k n : Nat} (h : Sm (.list ds) k n) (hk : k ≤ 60) (hn : n ≤ 16000000) : Shows (.list ds) :=
  ⟨h.s, h.h, Nat.le_trans h.d hk, Nat.le_trans h.l (Nat.le_trans hn (by decide)), fun _ z => (by cases z), fun _ z => (by cases z), fun z => (by cases z)⟩
theorem Sm.shows_i {z : Int} {k n : Nat} (h : Sm (.int z) k n) (hk : k ≤ 60) (hn : n ≤ 16000000) : Shows (.int z) :=
  ⟨h.s, h.h, Nat.le_trans h.d hk, Nat.le_trans h.l (Nat.le_trans hn (by decide)), fun _ z => (by cases z), fun _ z => (by cases z), fun z => (by cases z)⟩
end DL
/-! Dli: what is drawn of a heap of numbers. -/
namespace DL
open PySem PySem.Spec PyProof.Rows L2
open Evl (Ex ex_l ex_t)
structure DkN.Ok (n : DkN) : Prop where
  fm : ¬ n.f = n.m
  ft : ¬ n.f = n.t
  mt : ¬ n.m = n.t
def dkO (n : DkN) (l : Addr) (m t : Int) : List (Key × V) := [(.inr n.f, .ref l), (.inr n.m, .int m), (.inr n.t, .int t)]
section
variable {n : DkN} (hn : n.Ok) {l : Addr} {m t : Int}
include hn
theorem dkO_f : valV (dkO n l m t) (.inr n.f : Key) = some (.ref l) := by
  unfold valV dkO
  simp
theorem dkO_m : valV (dkO n l m t) (.inr n.m : Key) = some (.int m) := by
  unfold valV dkO
  simp [hn.fm]
theorem dkO_t : valV (dkO n l m t) (.inr n.t : Key) = some (.int t) := by
  unfold valV dkO
  simp [hn.ft, hn.mt]
theorem dkO_put (z : Int) : putK (dkO n l m t) (.inr n.t : Key) (.int z) = dkO n l m z := by
  unfold putK dkO
  simp [hn.ft, hn.mt]
end
theorem ints_nodict (ns : List Int) : PyData.hasDictAll (ns.map PyData.int) = false := hasAll_of fun d hd => by
  obtain ⟨z, _, rfl⟩ := List.mem_map.mp hd
  rw [PyData.hasDict]
theorem shaped_ints (ns : List Int) : SeqAt.shaped (.list (ns.map PyData.int)) = true := by
  have h1 : PyData.canLayAll0 (ns.map PyData.int) = true := canAll_of fun d hd => by
    obtain ⟨z, _, rfl⟩ := List.mem_map.mp hd
    rw [PyData.canLay0]
  have h2 : PyData.depthAll (ns.map PyData.int) ≤ 0 := depthAll_of fun d hd => by
    obtain ⟨z, _, rfl⟩ := List.mem_map.mp hd
    rw [PyData.depth]
    exact Nat.le_refl _
  show (PyData.canLay0 (.list _) && decide (PyData.depth (.list _) ≤ 64)) = true
  rw [PyData.canLay0, h1, PyData.depth, decide_eq_true (by omega)]
  rfl
section
variable {n : DkN} {K : PySem.W.Frag} {dk l : Addr} {B0 H0 B H : Hp} {env : List Sl} {σ : Sg} {i j : Nat} {o : Po} {te : TE} {P : D → Prop}
/-- a change of what the resource has -/
theorem EnvOk.res {c : Cn} {a : Addr} {u : HO} (e : EnvOk c B H σ env) (hs : c.S a) : EnvOk c B (upd H a u) σ env :=
  ⟨e.len, fun i s h => by
    obtain ⟨x, h1, h2⟩ := e.at_ i s h
    refine ⟨x, h1, ?_⟩
    cases s with
    | no => exact trivial
    | dat d => exact h2
    | raw v => exact h2
    | ow p ds =>
      obtain ⟨e1, g1, g3, g4, g5⟩ := h2
      exact ⟨e1, g1.go (Ex.refl B) fun o z => by rw [upd_ne (fun z => g4 (by rw [z]; exact hs))]; exact z, g3, g4, g5⟩, e.nd⟩
theorem ext_res {S : Addr → Prop} {B0 H0 B H : Hp} {a : Addr} {u : HO} (x : Ext S B0 H0 B H) (hs : S a) (hb : B a = none) : Ext S B0 H0 B (upd H a u) where
  b := x.b
  s := fun q w z => by
    rw [upd_ne (ne_of_none z hb)]
    exact x.s q w z
  k := fun q w z zs => by
    rw [upd_ne (fun e => zs (by rw [e]; exact hs))]
    exact x.k q w z zs
  t := fun q z => by
    by_cases e : q = a
    · subst e
      rw [upd_same]
      exact nofun
    · rw [upd_ne e]
      exact x.t q z
  n := x.n
/-- an int of the heap, read -/
theorem ev_dkM (hn : n.Ok) (hi : env[i]? = some (.raw (.ref dk))) : EvP (dkCn n K dk l B0 H0) (tDGet (tVar i) (tC (.str n.m))) env (fun d => ∃ z, d = .int z) := fun σ B H A e Q q => by
  obtain ⟨x, g1, (g2 : x = some (.ref dk))⟩ := e.at_ i _ hi
  subst g2
  obtain ⟨⟨ns, m, t, h1, h2, h3⟩, h4, h5⟩ := A.r
  exact ⟨_, g1, dk, .int m, rfl, by
    have := DGet.k (H := H) (a := dk) (kvs := dkO n l m t) (k := .inr n.m) h1
    rw [dkO_m hn] at this
    exact this, q _ (.int m) B H A.same A.r (.int m) ⟨m, rfl⟩⟩
theorem ev_dkT (hn : n.Ok) (hi : env[i]? = some (.raw (.ref dk))) : EvP (dkCn n K dk l B0 H0) (tDGet (tVar i) (tC (.str n.t))) env (fun d => ∃ z, d = .int z) := fun σ B H A e Q q => by
  obtain ⟨x, g1, (g2 : x = some (.ref dk))⟩ := e.at_ i _ hi
  subst g2
  obtain ⟨⟨ns, m, t, h1, h2, h3⟩, h4, h5⟩ := A.r
  exact ⟨_, g1, dk, .int t, rfl, by
    have := DGet.k (H := H) (a := dk) (kvs := dkO n l m t) (k := .inr n.t) h1
    rw [dkO_t hn] at this
    exact this, q _ (.int t) B H A.same A.r (.int t) ⟨t, rfl⟩⟩
/-- the count is stored -/
theorem hs_dkPut (hn : n.Ok) (hi : env[i]? = some (.raw (.ref dk))) (he : EvP (dkCn n K dk l B0 H0) te env (fun d => ∃ z, d = .int z)) (k : o.nx env) : HS (dkCn n K dk l B0 H0) (sDPut (tVar i) (tC (.str n.t)) te) env o := fun X σ B H A e g =>
  he σ B H A e _ fun v d B1 H1 x1 r1 t1 p1 => by
    obtain ⟨z, rfl⟩ := p1
    rw [dp_int_inv t1]
    have A1 := A.go x1 r1
    have e1 := e.go x1
    obtain ⟨x, g1, (g2 : x = some (.ref dk))⟩ := e1.at_ i _ hi
    subst g2
    obtain ⟨⟨ns, m, t, h1, h2, h3⟩, h4, h5⟩ := id A1.r
    have hdl : l ≠ dk := ne_of h2 h1 (by intro z; cases z)
    refine ⟨_, g1, dk, _, rfl, DPut.k (kvs := dkO n l m t) (k := .inr n.t) h1 (by show 3 < sizeLine; decide), ?_⟩
    rw [dkO_put hn]
    refine g.nx σ B1 _ env x1.b ⟨ext_res A1.e (.inl rfl) h4, ⟨⟨ns, m, z, upd_same, by rw [upd_ne hdl]; exact h2, h3⟩, h4, h5⟩⟩ (e1.res (.inl rfl)) k
/-- env without owned lists, in a context without a resource -/
theorem EnvOk.bare {c : Cn} (e : EnvOk c B H σ env) (ho : owns env = []) (hK : c.K = K) : EnvOk (pureCn K B H) B H σ env :=
  ⟨e.len, fun i s h => by
    obtain ⟨x, h1, h2⟩ := e.at_ i s h
    refine ⟨x, h1, ?_⟩
    subst hK
    cases s with
    | no => exact trivial
    | dat d => exact h2
    | raw v => exact h2
    | ow p ds =>
      have : p ∈ owns env := owns_mem.mpr ⟨ds, i, h⟩
      rw [ho] at this
      exact absurd this List.not_mem_nil, e.nd⟩
/-- the great numbers' digits: taken from the list's end, the rest put back -/
theorem hs_dkFar (hn : n.Ok) {tt : TT} {ta : TE} {u : TS} (hi : env[i]? = some (.raw (.ref dk))) (ho : owns env = []) (hij : i ≠ j) (k : o.nx env)
    (hc : ∀ (z : Int) (B H : Hp), ∃ b, EvB (pureCn K B H) tt (env.set j (.dat (.int z))) b) (ha : ∀ (z : Int) (B H : Hp), ∃ y, Ev (pureCn K B H) ta (env.set j (.dat (.int z))) (.int y))
    (hu : ∀ z : Int, HS (dkCn n K dk l B0 H0) u (env.set j (.dat (.int z))) o) :
    HS (dkCn n K dk l B0 H0) (tIfS (tTest (tOp (rNeD K) (tDGet (tVar i) (tC (.str n.f))) (tLst tNil))) (tSeq (tAsg (tBM0 K "list" rPop (tDGet (tVar i) (tC (.str n.f)))) (gName j))
      (tSeq (tIfS tt (tDrop (tBM K "list" rAppend (tDGet (tVar i) (tC (.str n.f))) (tCons ta tNil))) tNext) u)) tNext) env o := fun X σ B H A e g => by
  obtain ⟨x, g1, (g2 : x = some (.ref dk))⟩ := e.at_ i _ hi
  subst g2
  obtain ⟨⟨ns, m, t, h1, h2, h3⟩, h4, h5⟩ := id A.r
  have get : ∀ H' : Hp, H' dk = some (.dK (dkO n l m t)) → DGet H' dk (.str n.f) (some (.ref l)) := fun H' h => by
    have := DGet.k (k := .inr n.f) h
    rw [dkO_f hn] at this
    exact this
  have hdl : l ≠ dk := ne_of h2 h1 (by intro z; cases z)
  refine ⟨_, g1, dk, _, rfl, get H h1, ?_⟩
  refine ⟨Nat.zero_le _, fun p hp => ?_⟩
  obtain ⟨x1, r1⟩ := A.new (o := .lst []) hp
  have A1 := A.go x1 r1
  have e1 := e.go x1
  have npd : dk ≠ p := ne_of_none h1 hp
  have npl : l ≠ p := ne_of_none h2 hp
  have k1 : (upd H p (.lst [])) dk = some (.dK (dkO n l m t)) := by rw [upd_ne npd]; exact h1
  have k2 : (upd H p (.lst [])) l = some (.lst (ns.map V.int)) := by rw [upd_ne npl]; exact h2
  have n1 : (upd B p (.lst [])) dk = none := by rw [upd_ne npd]; exact h4
  have n2 : (upd B p (.lst [])) l = none := by rw [upd_ne npl]; exact h5
  generalize upd H p (.lst []) = H1 at *
  generalize hB1 : upd B p (.lst []) = B1 at *
  have hp1 : H1 p = some (.lst []) := x1.s _ _ (by rw [← hB1]; exact upd_same)
  refine ⟨.list (ns.map PyData.int), .list [], .lst (SqL.of k2) (DtAll.dp (dps_ints ns) (ints_nodict ns)), .lst (SqL.of hp1) .nil, shaped_ints ns, shaped_ints [], _, rfl, ?_⟩
  cases hE : ns with
  | nil =>
    have : (!PyData.eqv (.list (([] : List Int).map PyData.int)) (.list [])) = false := by decide +kernel
    rw [this, if_neg Bool.false_ne_true]
    exact g.nx σ B1 H1 env x1.b A1 e1 k
  | cons a r =>
    have : (!PyData.eqv (.list ((a :: r).map PyData.int)) (.list [])) = true := by
      rw [List.map_cons, PyData.eqv, PyData.eqvAll]
      rfl
    rw [this, if_pos rfl]
    have hne : ns ≠ [] := by rw [hE]; exact List.cons_ne_nil _ _
    have hlen : 0 < ns.length := List.length_pos_iff.mpr hne
    have hlast : ns[ns.length - 1]? = some (ns.getLast hne) := by
      rw [← List.getLast?_eq_getElem?, List.getLast?_eq_some_getLast hne]
    have hz0 : (ns.map V.int)[(ns.map V.int).length - 1]? = some (.int (ns.getLast hne)) := by
      rw [List.length_map, List.getElem?_map, hlast]
      rfl
    generalize ns.getLast hne = z at hz0
    -- own = deck[far].pop()
    refine ⟨_, g1, dk, _, rfl, get H1 k1, .inl ⟨rfl, _, SqL.of k2⟩, l, _, _, rfl, rfl, k2, hz0, ?_⟩
    have hdr : (ns.map V.int).dropLast = ns.dropLast.map V.int := by rw [List.map_dropLast]
    rw [hdr]
    have hdl62 : ns.dropLast.length ≤ 62 := by rw [List.length_dropLast]; omega
    have k1' : (upd H1 l (.lst (ns.dropLast.map V.int))) dk = some (.dK (dkO n l m t)) := by rw [upd_ne hdl.symm]; exact k1
    have A2 : At (dkCn n K dk l B0 H0) B1 (upd H1 l (.lst (ns.dropLast.map V.int))) := ⟨ext_res A1.e (.inr rfl) n2, ⟨⟨ns.dropLast, m, t, k1', upd_same, by omega⟩, n1, n2⟩⟩
    have e2 : EnvOk (dkCn n K dk l B0 H0) B1 (upd H1 l (.lst (ns.dropLast.map V.int))) (σ.set j (some (.int z))) (env.set j (.dat (.int z))) := (e1.res (.inr rfl)).dat (.int z)
    have k2' : (upd H1 l (.lst (ns.dropLast.map V.int))) l = some (.lst (ns.dropLast.map V.int)) := upd_same
    generalize upd H1 l (.lst (ns.dropLast.map V.int)) = H2 at *
    have ho2 : owns (env.set j (.dat (.int z))) = [] := List.sublist_nil.mp (by
      have := owns_set_sub (env := env) (i := j) (s := .dat (.int z)) (fun _ _ q => by cases q)
      rw [ho] at this
      exact this)
    have hi2 : (env.set j (.dat (.int z)))[i]? = some (.raw (.ref dk)) := by
      rw [List.getElem?_set_ne (Ne.symm hij)]
      exact hi
    have g12 : (σ.set j (some (.int z)))[i]? = some (some (.ref dk)) := by
      rw [List.getElem?_set_ne (Ne.symm hij)]
      exact g1
    -- if own >= many
    obtain ⟨b, hb⟩ := hc z B1 H2
    refine hb _ B1 H2 ⟨Ext.refl A2.e.s, trivial⟩ (e2.bare ho2 rfl) _ fun y B3 H3 x3 _ hy => ?_
    subst hy
    have A3 : At (dkCn n K dk l B0 H0) B3 H3 := A2.go (x3.wide fun _ q => q.elim) (A2.stay x3)
    have e3 := e2.go (c := dkCn n K dk l B0 H0) (x3.wide fun _ q => q.elim)
    cases y with
    | false =>
      rw [if_neg Bool.false_ne_true]
      exact hu z _ _ B3 H3 A3 e3 (g.later (x1.b.trans x3.b))
    | true =>
      rw [if_pos rfl]
      have k13 : H3 dk = some (.dK (dkO n l m t)) := x3.k _ _ k1' fun q => q
      have k23 : H3 l = some (.lst (ns.dropLast.map V.int)) := x3.k _ _ k2' fun q => q
      refine ⟨_, g12, dk, _, rfl, get H3 k13, .inl ⟨rfl, _, SqL.of k23⟩, ?_⟩
      obtain ⟨y, hy⟩ := ha z B3 H3
      refine hy _ B3 H3 ⟨Ext.refl A3.e.s, trivial⟩ (e3.bare ho2 rfl) _ fun v d B4 H4 x4 _ t4 p4 => ?_
      subst p4
      rw [dp_int_inv t4]
      have A4 : At (dkCn n K dk l B0 H0) B4 H4 := A3.go (x4.wide fun _ q => q.elim) (A3.stay x4)
      have e4 := e3.go (c := dkCn n K dk l B0 H0) (x4.wide fun _ q => q.elim)
      have k14 : H4 dk = some (.dK (dkO n l m t)) := x4.k _ _ k13 fun q => q
      have k24 : H4 l = some (.lst (ns.dropLast.map V.int)) := x4.k _ _ k23 fun q => q
      refine ⟨l, _, .int y, rfl, rfl, k24, szlt (by rw [List.length_map]; omega), ?_⟩
      have happ : ns.dropLast.map V.int ++ [V.int y] = (ns.dropLast ++ [y]).map V.int := by rw [List.map_append]; rfl
      rw [happ]
      refine hu z _ _ B4 _ ⟨ext_res A4.e (.inr rfl) A4.r.2.2, ⟨⟨ns.dropLast ++ [y], m, t, by rw [upd_ne hdl.symm]; exact k14, upd_same, by rw [List.length_append, List.length_singleton]; omega⟩, A4.r.2.1, A4.r.2.2⟩⟩ (e4.res (.inr rfl)) (g.later ((x1.b.trans x3.b).trans x4.b))
end
end DL
/-! Dlj: lists that are compared, items moved, comprehensions of things of one kind. -/
namespace DL
open PySem PySem.Spec PyProof.Rows L2
open Evl (Ex ex_l ex_t)
section
variable {c : Cn} {env : List Sl} {te ta tb : TE} {P : D → Prop} {d a b : D} {i j n : Nat} {o : Po}
theorem ev_neS {ds es : List D} (ha : EvS c ta env ds) (hb : EvS c tb env es) (h1 : SeqAt.shaped (.list ds) = true) (h2 : SeqAt.shaped (.list es) = true) (n1 : PyData.hasDictAll ds = false) (n2 : PyData.hasDictAll es = false) : Ev c (tOp (rNeD c.K) ta tb) env (.bool (!PyData.eqv (.list ds) (.list es))) := fun σ B H A e Q q =>
  ha σ B H A e _ fun p xs B1 H1 x1 r1 l1 t1 => hb σ B1 H1 (A.go x1 r1) (e.go x1) _ fun p2 ys B2 H2 x2 r2 l2 t2 =>
    ⟨.list ds, .list es, .lst (SqL.of (l1.go x2).1) ((dps_mono (x2.b.trans x2.s) t1).dp n1), .lst (SqL.of l2.1) ((dps_mono x2.s t2).dp n2), h1, h2, q _ _ B2 H2 (x1.trans x2) r2 (.bl _) rfl⟩
theorem ev_eqS {ds es : List D} (ha : EvS c ta env ds) (hb : EvS c tb env es) (h1 : SeqAt.shaped (.list ds) = true) (h2 : SeqAt.shaped (.list es) = true) (n1 : PyData.hasDictAll ds = false) (n2 : PyData.hasDictAll es = false) : Ev c (tOp (rEqD c.K) ta tb) env (.bool (PyData.eqv (.list ds) (.list es))) := fun σ B H A e Q q =>
  ha σ B H A e _ fun p xs B1 H1 x1 r1 l1 t1 => hb σ B1 H1 (A.go x1 r1) (e.go x1) _ fun p2 ys B2 H2 x2 r2 l2 t2 =>
    ⟨.list ds, .list es, .lst (SqL.of (l1.go x2).1) ((dps_mono (x2.b.trans x2.s) t1).dp n1), .lst (SqL.of l2.1) ((dps_mono x2.s t2).dp n2), h1, h2, q _ _ B2 H2 (x1.trans x2) r2 (.bl _) rfl⟩
theorem eqv_nil (ds : List D) : PyData.eqv (.list ds) (.list []) = ds.isEmpty := by
  cases ds with
  | nil => decide +kernel
  | cons a r =>
    rw [PyData.eqv, PyData.eqvAll]
    rfl
/-- xs != [] -/
theorem ev_neNil {ds : List D} (ha : EvS c ta env ds) (h1 : SeqAt.shaped (.list ds) = true) (n1 : PyData.hasDictAll ds = false) : Ev c (tOp (rNeD c.K) ta (tLst tNil)) env (.bool (!ds.isEmpty)) := by
  have := ev_neS ha (es_new (en_lst ea_nil (Nat.zero_le _))) h1 (by decide +kernel) n1 (by rw [PyData.hasDictAll])
  rw [eqv_nil] at this
  exact this
theorem ev_eqNil {ds : List D} (ha : EvS c ta env ds) (h1 : SeqAt.shaped (.list ds) = true) (n1 : PyData.hasDictAll ds = false) : Ev c (tOp (rEqD c.K) ta (tLst tNil)) env (.bool ds.isEmpty) := by
  have := ev_eqS ha (es_new (en_lst ea_nil (Nat.zero_le _))) h1 (by decide +kernel) n1 (by rw [PyData.hasDictAll])
  rw [eqv_nil] at this
  exact this
theorem shaped_nts (ns : List Nat) : SeqAt.shaped (.list (ns.map nt)) = true := by
  have := shaped_ints (ns.map fun (n : Nat) => (n : Int))
  rw [List.map_map] at this
  exact this
theorem seqIx {k n : Nat} (h : k < n) : seqIndex? (k : Int) n = some k := by
  rw [seqIndex_of (by omega) (by omega), Int.toNat_natCast]
/-- found.append(left.pop(e)) -/
theorem hs_appPop {p q : Addr} {ds es : List D} (hi : env[i]? = some (.own p ds)) (hj : env[j]? = some (.own q es)) (hij : i ≠ j) (he : EvP c te env P) (hP : ∀ d, P d → ∃ k : Nat, d = nt k ∧ k < es.length) (hz : ds.length < 1000000) (hz2 : es.length < 1000000)
    (k : ∀ (k : Nat) (x : D), es[k]? = some x → o.nx ((env.set j (.own q (es.eraseIdx k))).set i (.own p (ds ++ [x])))) : HS c (tDrop (tBM c.K "list" rAppend (tVar i) (tCons (tBM c.K "list" rPopAt (tVar j) (tCons te tNil)) tNil))) env o := fun X σ B H A e g => by
  obtain ⟨h1, xs, h2, h3, h4, h5, h6⟩ := e.ownAt hi
  obtain ⟨g1, ys, g2, g3, g4, g5, g6⟩ := e.ownAt hj
  refine ⟨_, h1, .inl ⟨rfl, xs, SqL.of h2⟩, ?_⟩
  refine ⟨_, g1, .inl ⟨rfl, ys, SqL.of g2⟩, ?_⟩
  refine he σ B H A e _ fun v d B1 H1 x1 r1 t1 p1 => ?_
  have A1 := A.go x1 r1
  have e1 := e.go x1
  obtain ⟨n, rfl, hn⟩ := hP d p1
  rw [dp_int_inv t1]
  have k2 : H1 q = some (.lst ys) := x1.k _ _ g2 g5
  have hy : es[n]? = some es[n] := List.getElem?_eq_getElem hn
  obtain ⟨w, w1, w2⟩ := dps_get (dps_mono x1.b g3) hy
  refine ⟨q, ys, _, n, w, rfl, rfl, k2, by omega, by omega, seqIx (by rw [dps_len g3]; exact hn), w1, ?_⟩
  obtain ⟨A2, e2⟩ := own_step A1 e1 hj (dps_erase n (dps_mono x1.b g3))
  have hi2 : (env.set j (.own q (es.eraseIdx n)))[i]? = some (.own p ds) := by
    rw [List.getElem?_set_ne (Ne.symm hij)]
    exact hi
  obtain ⟨_, zs, z2, z3, _⟩ := e2.ownAt hi2
  refine ⟨p, zs, w, rfl, rfl, z2, szlt (by rw [dps_len z3]; exact hz), ?_⟩
  obtain ⟨A3, e3⟩ := own_step A2 e2 hi2 (dps_app z3 (.cons w2 .nil))
  exact g.nx σ B1 _ _ x1.b A3 e3 (k n _ hy)
/-- a comprehension all items of which are of one kind -/
theorem en_lcA {wi : TI} {g : TG} {vs : List Nat} {ds : List D} {W : D → Prop} (hi : EvI c wi env ds) (hz : ds.length ≤ 1000000)
    (he : ∀ (i : Nat) (d : D), ds[i]? = some d → ∃ env2 is, HG c g d (wipeE env vs) env2 is ∧ (∀ j ∈ is, j ∈ vs) ∧ EvP c te env2 W) : EvN c (tLc wi g tYes te vs) env (fun ls => ls.length = ds.length ∧ ∀ y ∈ ls, W y) :=
  (en_lcP (W := fun _ _ => W) hi hz he).imp fun ls ⟨h1, h2⟩ => ⟨h1, fun y hy => by
    obtain ⟨k, hk⟩ := List.mem_iff_getElem?.mp hy
    have hl := (List.getElem?_eq_some_iff.mp hk).1
    exact h2 k _ y (List.getElem?_eq_getElem (by omega)) hk⟩
theorem kinds {α : Type} {f : α → D} {R : α → Prop} : ∀ {ls : List D}, (∀ y ∈ ls, ∃ a, y = f a ∧ R a) → ∃ as : List α, ls = as.map f ∧ (∀ a ∈ as, R a)
  | [], _ => ⟨[], rfl, fun _ h => absurd h List.not_mem_nil⟩
  | y :: r, h => by
    obtain ⟨a, rfl, ha⟩ := h y List.mem_cons_self
    obtain ⟨as, rfl, has⟩ := kinds (ls := r) fun z hz => h z (List.mem_cons_of_mem _ hz)
    refine ⟨a :: as, rfl, fun b hb => ?_⟩
    rcases List.mem_cons.mp hb with e | hb
    · rw [e]; exact ha
    · exact has b hb
theorem rangeD_nt (n : Nat) : rangeD n = (List.range n).map nt := rfl
end
end DL
/-! Dlk: targets that change a list; slices' ends. -/
namespace DL
open PySem PySem.Spec PyProof.Rows L2
open Evl (Ex ex_l ex_t)
def HX (c : Cn) (g : TG) (d : D) (env env' : List Sl) : Prop := ∀ (v : V) (σ : Sg) (B H : Hp), At c B H → EnvOk c B H σ env → Dt c.K B v d → ∀ k : Sg → Hp → Prop,
  (∀ (σ' : Sg) (B' H' : Hp), Ex B B' → At c B' H' → EnvOk c B' H' σ' env' → k σ' H') → g v σ H k
def HXs (c : Cn) (g : TGs) (ds : List D) (env env' : List Sl) : Prop := ∀ (vs : List V) (σ : Sg) (B H : Hp), At c B H → EnvOk c B H σ env → DtAll c.K B vs ds → ∀ k : Sg → Hp → Prop,
  (∀ (σ' : Sg) (B' H' : Hp), Ex B B' → At c B' H' → EnvOk c B' H' σ' env' → k σ' H') → g vs σ H k
section
variable {c : Cn} {env env' env2 : List Sl} {d : D} {ds : List D} {i n : Nat} {g : TG} {gs : TGs} {ti te : TE} {o : Po} {P : D → Prop}
theorem HG.x {is : List Nat} (h : HG c g d env env' is) : HX c g d env env' := fun v σ B H A e t k q => h v σ B H A e t k fun σ' e' _ _ => q σ' B H (Ex.refl B) A e'
theorem hx_sub {p : Addr} {es : List D} (h : env[i]? = some (.own p es)) (hi : Ev c ti env (nt n)) (hn : n < es.length) : HX c (gSub (tVar i) ti rSetL) d env (env.set i (.own p (es.set n d))) := fun v σ B H A e t k q => by
  obtain ⟨h1, _⟩ := e.ownAt h
  refine ⟨_, h1, ?_⟩
  refine hi σ B H A e _ fun u m B2 H2 x2 r2 t2 p2 => ?_
  subst p2
  rw [dp_int_inv t2]
  have A2 := A.go x2 r2
  have e2 := e.go x2
  obtain ⟨_, ys, g2, g3, _⟩ := e2.ownAt h
  refine ⟨p, ys, _, n, rfl, rfl, g2, ixN_nat' (by rw [dps_len g3]; exact hn), ?_⟩
  obtain ⟨A3, e3⟩ := own_step A2 e2 h (dps_set (dp_mono x2.b t) n g3)
  exact q σ B2 _ x2.b A3 e3
theorem hxs_nil : HXs c gNil [] env env := fun vs σ B H A e t k q => by
  cases t
  exact ⟨rfl, q σ B H (Ex.refl B) A e⟩
theorem hxs_cons (h1 : HX c g d env env') (h2 : HXs c gs ds env' env2) : HXs c (gCons g gs) (d :: ds) env env2 := fun vs σ B H A e t k q => by
  cases t with
  | cons t1 t2 =>
    exact ⟨_, _, rfl, h1 _ σ B H A e t1 _ fun σ1 B1 H1 b1 A1 e1 => h2 _ σ1 B1 H1 A1 e1 (dps_mono b1 t2) _ fun σ2 B2 H2 b2 A2 e2 => q σ2 B2 H2 (b1.trans b2) A2 e2⟩
theorem hx_tup {m : Nat} (h : HXs c gs ds env env') (hn : ds.length = m) : HX c (gTup c.K m gs) (.tuple ds) env env' := fun v σ B H A e t k q => by
  cases t with
  | tup h1 a1 => exact ⟨_, _, rfl, ex_t A.e.s h1, (dps_len a1).trans hn, h _ σ B H A e a1 k q⟩
theorem hs_asgX (h : EvP c te env P) (k : ∀ d, P d → ∃ env', HX c g d env env' ∧ o.nx env') : HS c (tAsg te g) env o := fun X σ B H A e gg =>
  h σ B H A e _ fun v d B1 H1 x1 r1 t1 p1 => by
    obtain ⟨env', hg, kk⟩ := k d p1
    exact hg v σ B1 H1 (A.go x1 r1) (e.go x1) t1 _ fun σ' B' H' b' A' e' => gg.nx σ' B' H' env' (x1.b.trans b') A' e' kk
theorem cutD_to {ds : List D} {k : Nat} : cutD ds none (some (k : Int)) = ds.take k := by
  unfold cutD
  rw [HT.sIx_none, HT.sIx_nat, Nat.sub_zero, List.drop_zero]
  by_cases h : k ≤ ds.length
  · rw [Nat.min_eq_left h]
  · rw [Nat.min_eq_right (by omega), List.take_length, List.take_of_length_le (by omega)]
theorem cutD_from {ds : List D} {k : Nat} : cutD ds (some (k : Int)) none = ds.drop k := by
  unfold cutD
  rw [HT.sIx_none, HT.sIx_nat]
  by_cases h : k ≤ ds.length
  · rw [Nat.min_eq_left h, List.take_of_length_le (by rw [List.length_drop]; omega)]
  · rw [Nat.min_eq_right (by omega), Nat.sub_self, List.take_zero, List.drop_of_length_le (by omega)]
/-- script[:n] -/
theorem en_slScript {a : Addr} {ns : List Int} {m : Nat} (hi : env[i]? = some (.raw (.ref a))) (hs : SqL c.K c.B0 a (ns.map V.int)) (hm : ns.length ≤ m) : EvN c (tSl (rSlU c.K) (tVar i) tNoPart (tPart (tC (.int (m : Int))))) env (fun e => e = ns.map PyData.int) := fun σ B H A e Q q => by
  obtain ⟨x, g1, (g2 : x = some (.ref a))⟩ := e.at_ i _ hi
  subst g2
  refine ⟨_, g1, ?_⟩
  refine ⟨(m : Int), rfl, .inl ⟨a, ns.map V.int, rfl, Evl.ex_l (A.e.b.trans A.e.s) hs, fun p hp => ?_⟩⟩
  have hc : cutV (ns.map V.int) none (some (m : Int)) = ns.map V.int := by
    unfold cutV
    rw [HT.sIx_none, HT.sIx_nat, Nat.sub_zero, List.drop_zero, List.length_map, Nat.min_eq_right hm]
    exact List.take_of_length_le (by rw [List.length_map]; exact Nat.le_refl _)
  rw [hc]
  exact newOwn_to (Pn := fun e => e = ns.map PyData.int) A A.same A.r hp (dps_ints ns) rfl q
end
end DL
namespace DL
open PySem PySem.Spec PyProof.Rows L2
section
variable {K : PySem.W.Frag} {c : Cn} {env : List Sl} {n : DkN}
/-- the heap of numbers is made -/
theorem deck_disp (hn : n.Ok) {te tm : TE} {σ : Sg} {B H : Hp} (hf : EvN c te env (fun ds => ∃ js : List Int, ds = js.map PyData.int ∧ js.length ≤ 63)) (hm : EvP c tm env (fun d => ∃ z, d = .int z))
    (A : At c B H) (e : EnvOk c B H σ env) {Q : VK} (q : ∀ dk l H', DkR n dk l (fun _ => none) H' → Q (.ref dk) H') :
    tDisp [(tC (.str n.f), te), (tC (.str n.m), tm), (tC (.str n.t), tC (.int 0))] σ H Q := by
  intro p hp
  obtain ⟨x0, r0⟩ := A.newOwn (o := .dK []) hp
  have A0 := A.go x0 r0
  have hs : ¬ c.S p := A.notS hp
  refine hf σ B _ A0 (e.go x0) _ fun l xs ds B1 H1 x1 r1 hl hb1 h1 t1 ⟨js, e1, e2⟩ => ?_
  have A1 := A0.go x1 r1
  refine hm σ B1 H1 A1 ((e.go x0).go x1) _ fun v d B2 H2 x2 r2 t2 ⟨z, e3⟩ => ?_
  subst e1 e3
  rw [dp_int_inv t2]
  have hpl : ¬ p = l := fun z => by
    subst z
    rw [upd_same] at hl
    cases hl
  have g1 : H1 p = some (.dK []) := x1.k p _ upd_same hs
  have g2 : H2 p = some (.dK []) := x2.k p _ g1 hs
  have hls : ¬ c.S l := A0.notS hl
  have g3 : H2 l = some (.lst (js.map V.int)) := by rw [← dps_ints_inv t1]; exact x2.k l _ h1 hls
  refine ⟨g2, [(.inr n.f, .ref l), (.inr n.m, .int z), (.inr n.t, .int 0)], rfl, by show 3 ≤ 15; decide, ?_⟩
  have hk : mergeK [] [((.inr n.f : Key), V.ref l), (.inr n.m, .int z), (.inr n.t, .int 0)] = dkO n l z 0 := by
    unfold mergeK dkO putK
    simp [hn.fm, hn.ft, hn.mt]
  rw [hk]
  refine q p l _ ⟨⟨js, z, 0, upd_same, ?_, e2⟩, rfl, rfl⟩
  rw [upd_ne (fun z => hpl z.symm)]
  exact g3
end
end DL
/-! Dma: an own exception whose __init__ says super().__init__() and no more: made and raised. -/
namespace DL
open PySem PySem.W PySem.Calls PyProof.Rows PySem.HandSPX
/-! ### its text -/
def uiA (p1 : Pos) : Arguments := { posonlyargs := [], args := [{ arg := "self", annotation := none, pos := p1 }], vararg := none, kwonlyargs := [], kw_defaults := [], kwarg := none, defaults := [] }
def uiB (q1 q2 q3 q4 q5 : Pos) : List Stmt := [.Expr (.Call (.Attribute (.Call (.Name "super" q1) [] [] q2) "__init__" q3) [] [] q4) q5]
def uiS : Scope := { kind := .function, names := [(PySem.Str.ofString "self", .local), (PySem.Str.ofString "__class__", .free), (PySem.Str.ofString "super", .globalImplicit)], isGenerator := false, isCoroutine := false, more := [] }
/-- how the call is evaluated: its places allow it -/
def SupEv (q1 q2 q3 q4 : Pos) : Prop := ∀ env : Env, ∃ pl : Sem Bool, eval (.Call (.Attribute (.Call (.Name "super" q1) [] [] q2) "__init__" q3) [] [] q4) env = (do
  let ov ← attributeBase (.Call (.Name "super" q1) [] [] q2) "__init__" env (eval (.Call (.Name "super" q1) [] [] q2) env)
  standAt q3.atName
  let (f, first) ← holding [ov] (getMethod ov "__init__" pl)
  callWith q4 f first (backTo q4 (starEach [] env)) [])
theorem supEv0 : SupEv ⟨7, 8, 7, 13⟩ ⟨7, 8, 7, 15⟩ ⟨7, 8, 7, 24⟩ ⟨7, 8, 7, 26⟩ := fun env => ⟨_, rfl⟩
/-- what the written part says of the class at C, of its __init__ at fI, the cell cc of __class__, the code object cda -/
structure UnfTxt (prog : Program) (K : Frag) (C fI cc cda : Addr) (qn : Str) : Prop where
  q : excInitIn K C He.veBase "ValueError.__new__" = true
  cd : ∃ cd, clsIn K C = some cd
  iC : findIn K (.ref C) "__init__" = some (some (.ref fI))
  tI : typeIn K (.ref fI) = some (.type "function")
  kC : keepIn K (.ref C) = true
  exC : subIn K (.ref C) (.type "BaseException") = some true
  veC : subIn K (.ref C) (.type "ValueError") = some true
  tyC : typeIn K (.ref C) = some (.type "type")
  sup : ks_superIn K C C "__init__" = some (some (.builtin "ValueError.__init__"))
  own : mroIn K C (.ref C) = some true
  tp : nsIn K cStatics "thirdparty.any" = some none
  cell : ∃ cl cld csl, K.lookup cc = some ⟨cl, cld, .cell (some (.ref C)), csl⟩
  code : ∃ ccl cdd vs ccs file tf, K.lookup cda = some ⟨ccl, cdd, .fields vs, ccs⟩ ∧ vs[2]? = some (.str file tf) ∧ ((prog.main.file : Str) == file) = true
  top : (prog.main.scope.names.lookup ("super" : Str)).isSome = false
  fn : ∃ (oc : Value) (od : Option Addr) (doc pm : Value) (an : Option Addr) (ct : Value) (osl : Array (Option Value)) (p1 q1 q2 q3 q4 q5 : Pos),
    K.lookup fI = some ⟨oc, od, .func (ksFn "__init__" qn (uiA p1) (uiB q1 q2 q3 q4 q5) uiS .none .none doc pm an (.ref cda) ct cc), osl⟩ ∧ codeIn K (.ref cda) qn = true ∧ SupEv q1 q2 q3 q4
section
variable {prog : Program} {w : World} {A : Around} {E : Value → Shared → Prop} {R : Result → Shared → Prop} {s : Shared} {K : Frag} {C fI cc cda : Addr} {qn : Str} {mg mb : Str → Option Value}
theorem clsIn_at {cd : ClassData} (X : K.In s.heap) (h : clsIn K C = some cd) : ∃ oD, s.heap.get? C = some oD ∧ oD.data = .cls cd := by
  unfold clsIn at h
  split at h
  · rename_i c d cd' sl ho
    cases h
    exact ⟨_, X _ _ ho, rfl⟩
  · cases h
/-- super().__init__() of the wrapper -/
theorem wrapper_call {u x t0 : Addr} {Q : Value → Shared → Prop} (X : K.In s.heap) (q : excInitIn K C He.veBase "ValueError.__new__" = true) (he : s.heap.get? x = some (excObj C t0 none .none)) (hu : s.heap.get? u = some (kxs_mw "ValueError.__init__" x))
    (hq : ∀ h' t1, (∀ b o, b ≠ x → s.heap.get? b = some o → h'.get? b = some o) → h'.get? x = some (excObj C t1 none .none) → Q .none { s with heap := h' }) :
    wpAny (model prog w) A (call (.ref u) []) Q E s := by
  obtain ⟨nm, N', qn, bs, bm, hdct, sn, sub, ab, col, dd, k0, k1, k2, k3, k5, hC, hT⟩ := excInit_of X q
  obtain ⟨hh, g, d, tk, os⟩ := s
  refine wpAny_call (codeAny_of_tree ?_)
  show wpAny _ A.in1 (callAny (.ref u) ⟨[], []⟩) _ _ _
  simp only [callAny]
  refine wpAny_bind (wpAny_load hu ?_)
  simp only [kxs_mw, show (Value.type "method-wrapper" == Value.type "method" || Value.type "method-wrapper" == Value.type "builtin_function_or_method" || Value.type "method-wrapper" == Value.type "method-wrapper") = true by decide, if_true]
  refine KFB.if_so (by decide) ?_
  refine wpAny_bind (check_bound_init F.excBase_ValueError.toExcCallFacts hC he rfl ?_)
  refine wpAny_bind (wpAny_pure (wpAny_pure ?_))
  refine ⟨plainId_quiet F.excBase_ValueError.init.plain _, codeAny_builtin F.excBase_ValueError.initEntry ?_⟩
  exact exc_init_tree (cls := .ref C) (t0 := t0) (dv := none) (c2 := .none) (c3 := .none) (b4 := .bool false) he (Nat.zero_le _) fun h' k e' _ => hq h' _ k e'
theorem unf_init (T : UnfTxt prog K C fI cc cda qn) {x t0 : Addr} (X : K.In s.heap) (hlim : s.heap.NoLimit) (hg : s.heap.Ns mainGlobals mg) (hS : mg "super" = none) (hb : s.heap.Ns builtinsNs mb) (hbb : ∀ x : Str, x ≠ "__name__" → mb x = bootBuiltins x)
    (hx : s.heap.get? x = some (excObj C t0 none .none)) (hxC : x ≠ C) (hroom : A.depth < recursionLimit)
    (hq : ∀ h' tk t1, (∀ b o, b ≠ x → s.heap.get? b = some o → h'.get? b = some o) → h'.get? x = some (excObj C t1 none .none) → R (.ok (.ret .none)) { s with heap := h', toks := tk }) :
    codeAny (model prog w) A (.call (.ref fI) ⟨[.ref x], []⟩) R s := by
  obtain ⟨oc, od, doc, pm, an, ct, osl, p1, q1, q2, q3, q4, q5, ho, hcd, hev⟩ := T.fn
  obtain ⟨cl, cld, csl, hcell⟩ := T.cell
  obtain ⟨ccl, cdd, vs, ccs, file, tf, hcode, hvs, hfile⟩ := T.code
  obtain ⟨cd, hcl⟩ := T.cd
  refine ks_codeAny_call_defAt (fd := ksFn "__init__" qn (uiA p1) (uiB q1 q2 q3 q4 q5) uiS .none .none doc pm an (.ref cda) ct cc) (body := uiB q1 q2 q3 q4 q5) (binds := [("self", .ref x)]) hroom (X _ _ ho) rfl hlim (codeRec_of X hcd) rfl
    (BindsTo.of_eq (by first | rfl | with_unfolding_all rfl)) (by show ∀ x ∈ uiS.names, x.2 ≠ .cell; decide) (by first | decide | (show ∀ y ∈ [(("self" : Str), Value.ref x)], uiS.names.lookup y.1 = some .local; intro y hy; rw [List.mem_singleton.mp hy]; rfl)) (fun h₀ hns k => ?_) rfl rfl rfl
  have X0 : K.In h₀ := X.keeps k
  have hx0 := k _ _ hx
  obtain ⟨hp, g, d, t, os⟩ := s
  obtain ⟨pl, hpl⟩ := hev (callEnv (ksFn "__init__" qn (uiA p1) (uiB q1 q2 q3 q4 q5) uiS .none .none doc pm an (.ref cda) ct cc) hp.objs.size fI)
  refine ks_wpAt_execs_cons (ks_wpAt_Expr_any (ks_wpAt_MethodCall ?_ hpl))
  refine ks_wpAt_super_base (env := callEnv (ksFn "__init__" qn (uiA p1) (uiB q1 q2 q3 q4 q5) uiS .none .none doc pm an (.ref cda) ct cc) hp.objs.size fI) (by rfl) (by rfl) (by decide) rfl (X0 _ _ ho) rfl rfl rfl (X0 _ _ hcode) rfl hvs hfile T.top ?_
  refine ks_loadName_global rfl (by rfl) (loadGlobal_builtin (hg.keeps k) hS (hb.keeps k) ((hbb _ (by decide +kernel)).trans (by decide +kernel : bootBuiltins "super" = some (.type "super"))) ⟨rfl, ?_⟩)
  refine wpAny_loadName_free rfl (by rfl) rfl ⟨_, X0 _ _ hcell, rfl⟩ ?_
  refine wpAny_loadName_local rfl (by rfl) hns (by rfl) ?_
  obtain ⟨oD, hD1, hD2⟩ := clsIn_at (s := ⟨h₀, g, d, t, os⟩) X0 hcl
  refine ks_wpAny_isType_cls hD1 hD2 ⟨rfl, ?_⟩
  refine ks_wpAny_call_super hD1 hD2 hx0 rfl (fun c e => by cases e) (looks_mroIn X0 T.own) (fun h' e k' => ?_)
  have X1 : K.In h' := X0.keeps k'
  have hx1 := k' _ _ hx0
  have hm : alongIn K "__init__" ((cd.mro.dropWhile (· != .ref C)).drop 1) = some (some (.builtin "ValueError.__init__")) := by
    have := T.sup
    unfold ks_superIn at this
    rw [hcl] at this
    exact this
  have I1 : InstAt h' x (excObj C t0 none .none) C none := ⟨hx1, rfl, rfl, trivial⟩
  refine kxs_getMethod kxs_ValueError e (looks_opaque X1 T.tp) (l₀ := cd.mro) (fun A Q E s k q => wpAny_bind ((looks_clsIn X1 hcl) A _ E s k (wpAny_pure q))) rfl X1 hm (I1.type.andThen (looks_subIn X1 T.veC)) hxC (by decide) ?_
  have hu : (h'.push (kxs_mw "ValueError.__init__" x)).get? h'.objs.size = some (kxs_mw "ValueError.__init__" x) := Heap.get?_push_at rfl rfl
  have hx2 : (h'.push (kxs_mw "ValueError.__init__" x)).get? x = some (excObj C t0 none .none) := Heap.get?_push_of_some _ hx1
  refine kxs_callWith (i := "ValueError.__init__") (x := x) rfl (evalArgs_empty ⟨hu, ?_⟩)
  refine wrapper_call (X1.keeps fun b o z => Heap.get?_push_of_some _ z) T.q hx2 hu fun h2 t1 k2 e2 => ?_
  show PySem.wpAt _ _ _ (execs [] _) _ _ _
  refine wpAt_of_wpAny (wpAny_execs_nil ?_)
  exact hq h2 _ t1 (fun b o hbx z => k2 b o hbx (Heap.get?_push_of_some _ (k' _ _ (k b o z)))) e2
theorem unf_made (T : UnfTxt prog K C fI cc cda qn) (X : K.In s.heap) (hlim : s.heap.NoLimit) (hg : s.heap.Ns mainGlobals mg) (hS : mg "super" = none) (hb : s.heap.Ns builtinsNs mb) (hbb : ∀ x : Str, x ≠ "__name__" → mb x = bootBuiltins x) (hroom : A.depth + 1 < recursionLimit)
    (hq : ∀ h' tk e t1, (∀ b o, s.heap.get? b = some o → h'.get? b = some o) → s.heap.get? e = none → h'.get? e = some (excObj C t1 none .none) → R (.ok (.ret (.ref e))) { s with heap := h', toks := tk }) :
    codeAny (model prog w) A (.call (.ref C) ⟨[], []⟩) R s := by
  obtain ⟨nm, N', qn', bs, bm, hdct, sn, sub, ab, col, dd, k0, k1, k2, k3, k5, hC, hT⟩ := excInit_of X T.q
  obtain ⟨hp, g, dr, tk, os⟩ := s
  have k : ∀ b o, hp.get? b = some o → ((hp.push (kdv_tup [])).push (excO C hp.objs.size)).get? b = some o := fun b o e => Heap.get?_push_of_some _ (Heap.get?_push_of_some _ e)
  have hget : ((hp.push (kdv_tup [])).push (excO C hp.objs.size)).get? (hp.objs.size + 1) = some (excO C hp.objs.size) := by heap_get
  refine call_own F.excBase_ValueError hT hC (looks_findIn X T.iC) (fun self => bind_fn X self T.tI) (Nat.zero_le _) ?_
  have hlt : C < hp.objs.size := Heap.lt_size hC
  refine unf_init (s := ⟨(hp.push (kdv_tup [])).push (excO C hp.objs.size), g, dr, tk, os⟩) T (X.keeps k) (hlim.keeps k) (hg.keeps k) hS (hb.keeps k) hbb hget (Nat.ne_of_gt (Nat.lt_succ_of_lt hlt)) ?_ fun h' tk' t1 k' hx => ?_
  · show A.depth + 1 < recursionLimit
    exact hroom
  · refine ⟨rfl, hq h' tk' (hp.objs.size + 1) t1 (fun b o e => k' b o (Nat.ne_of_lt (Nat.lt_succ_of_lt (Heap.lt_size e))) (k b o e)) ?_ hx⟩
    cases e : hp.get? (hp.objs.size + 1) with
    | none => rfl
    | some o => exact absurd (Nat.lt_of_succ_lt (Heap.lt_size e)) (Nat.lt_irrefl _)
end
end DL
namespace DL
open PySem PySem.Spec PyProof.Rows L2
section
variable {X : Cx} {C fI cc cda : Addr} {qn : Str}
/-- raise X() of such a class -/
theorem pmk_unf {x : Str} {p pos : Pos} (T : UnfTxt X.prog X.K C fI cc cda qn) (gC : X.mg x = some (.ref C)) (gS : X.mg "super" = none) (hr : Room 1 X.A) (hg : Gl X x) (hdb : (x == ("__debug__" : Str)) = false := by decide) :
    PMk X (.Call (.Name x p) [] [] pos) (fun _ H Q => Q (.ref C) none H) := by
  intro pins s σ H Q I h
  refine wpAny_Call_Name_kw (ld_glob I hg gC ?_ hdb)
  refine PySem.W.callWith_K0 I.kIn T.kC ?_
  obtain ⟨mb, b1, b2⟩ := I.mod.blt
  have hlim := I.nolimit
  have hdp := hr.dp
  refine wpAny_call (unf_made T I.kIn hlim (I.mod.glob.keeps I.bk) gS (b1.keeps I.bk) b2 (by omega) fun h' tk e t1 k hn he => ?_)
  exact ⟨e, _, _, s, H, .ref C, none, rfl, I, k, hn, he, ⟨rfl, rfl⟩, rfl, rfl, I.hok.gone hn, rfl, I.bare, raises_own T.exC T.tyC, h⟩
end
end DL
/-! Dmb: dicts whose keys are nested tuples of ints: made, asked, put to. -/
namespace DL
open PySem PySem.Spec PyProof.Rows L2
open Evl (Ex ex_l ex_t)
mutual
/-- data that a dict takes as a key -/
def hsh : D → Bool
  | .list _ => false
  | .dict _ => false
  | .tuple ds => hshAll ds
  | .none => true
  | .bool _ => true
  | .int _ => true
  | .str _ => true
def hshAll : List D → Bool
  | [] => true
  | d :: ds => hsh d && hshAll ds
end
section
variable {X : Cx} {pins : List (Addr × Obj)} {σ : Sg} {H : Hp} {s : Shared}
mutual
theorem nested_of (I : Inv X pins σ H s) : ∀ (d : D) (v : V) (u : Value), Dt X.K H v d → hsh d = true → RelV v u → NestedIs s.heap (nkOf d) u
  | .none, _, _, h, _, r => by
    cases h
    cases r
    rw [nkOf]
    exact .none
  | .bool b, _, _, h, _, r => by
    cases h
    cases r
    rw [nkOf]
    exact .bool rfl
  | .int i, _, _, h, _, r => by
    cases h
    obtain ⟨t, rfl⟩ := r
    rw [nkOf]
    exact .int i t
  | .str x, _, _, h, _, r => by
    cases h
    obtain ⟨t, rfl⟩ := r
    rw [nkOf]
    exact .text x t
  | .list ds, _, _, h, z, r => by
    rw [hsh] at z
    cases z
  | .dict ds, _, _, h, z, r => by
    rw [hsh] at z
    cases z
  | .tuple ds, _, _, h, z, r => by
    cases h with
    | tup hs ha =>
      cases r
      obtain ⟨its, rv, ⟨o, ho, hc, n, hd⟩, _⟩ := I.tuple hs
      rw [hsh] at z
      rw [nkOf]
      exact .tup ho hc hd (nested_all I ds _ its ha z rv)
theorem nested_all (I : Inv X pins σ H s) : ∀ (ds : List D) (vs : List V) (us : List Value), DtAll X.K H vs ds → hshAll ds = true → Vals vs us → NestedAll s.heap (nkAll ds) us
  | [], _, _, h, _, r => by
    cases h
    cases r
    rw [nkAll]
    exact .nil
  | d :: ds, _, _, h, z, r => by
    cases h with
    | cons h1 h2 =>
      cases r with
      | cons r1 r2 =>
        rw [hshAll, Bool.and_eq_true] at z
        rw [nkAll]
        exact .cons (nested_of I d _ _ h1 z.1 r1) (nested_all I ds _ _ h2 z.2 r2)
end
end
/-- v is the key k, by data -/
def NKey (K : PySem.W.Frag) (H : Hp) (v : V) (k : NestedKey) : Prop := ∃ d, Dt K H v d ∧ nkOf d = k ∧ hsh d = true ∧ k.depth ≤ 8
def valN (ks : List (NestedKey × Addr × V)) (k : NestedKey) : Option V := (ks.find? fun p => decide (p.1 = k)).map (·.2.2)
/-- the dict at a -/
def NDict (P : Program) (w : World) (K : PySem.W.Frag) (H : Hp) (a : Addr) (ks : List (NestedKey × Addr × V)) : Prop := H a = some (NDictO P w a ks) ∧ ∀ p ∈ ks, NKey K H (.ref p.2.1) p.1
abbrev NK3 : List (NestedKey × Addr × V) → List (NestedKey × Addr × Value) → Prop := Paired fun (p : NestedKey × Addr × V) (q : NestedKey × Addr × Value) => p.1 = q.1 ∧ p.2.1 = q.2.1 ∧ RelV p.2.2 q.2.2
theorem NK3.val {k : NestedKey} : ∀ {ks : List (NestedKey × Addr × V)} {xs : List (NestedKey × Addr × Value)}, NK3 ks xs → RelO (valN ks k) (valueAt (pairsH xs) k)
  | _, _, .nil => True.intro
  | _, _, @Paired.cons _ _ _ p q ks xs h t => by
    have ih := NK3.val (k := k) t
    obtain ⟨h1, h2, h3⟩ := h
    by_cases e : p.1 = k
    · have e2 : q.1 = k := h1.symm.trans e
      have g1 : valN (p :: ks) k = some p.2.2 := by
        unfold valN
        rw [List.find?_cons, decide_eq_true e]
        rfl
      have g2 : valueAt (pairsH (q :: xs)) k = some q.2.2 := by
        simp [pairsH, valueAt, e2]
      rw [g1, g2]
      exact h3
    · have e2 : ¬ q.1 = k := fun z => e (h1.trans z)
      have g1 : valN (p :: ks) k = valN ks k := by
        unfold valN
        rw [List.find?_cons, decide_eq_false e]
      have g2 : valueAt (pairsH (q :: xs)) k = valueAt (pairsH xs) k := by
        simp [pairsH, valueAt, e2]
      rw [g1, g2]
      exact ih
theorem NK3.app {ks ks2 : List (NestedKey × Addr × V)} {xs xs2 : List (NestedKey × Addr × Value)} (h : NK3 ks xs) (h2 : NK3 ks2 xs2) : NK3 (ks ++ ks2) (xs ++ xs2) := by
  induction h with
  | nil => exact h2
  | cons a t ih => exact .cons a ih
section
variable {X : Cx} {pins : List (Addr × Obj)} {σ : Sg} {H : Hp} {s : Shared} {a b : Addr} {k : NestedKey} {ks : List (NestedKey × Addr × V)} {A : Around} {E : Value → Shared → Prop}
theorem NDict.at_ (I : Inv X pins σ H s) (h : NDict X.prog X.w X.K H a ks) : ks.length ≤ sizeLine ∧ (a == sysModules) = false ∧ ∃ xs, NK3 ks xs ∧ s.heap.DictOfH (nestedKind X.prog X.w) a xs := by
  obtain ⟨h1, h2⟩ := h
  have z : ObjOk X.prog X.w H s.heap a (.ext fun h => ks.length ≤ sizeLine ∧ (a == sysModules) = false ∧ ∃ xs : List (NestedKey × Addr × Value), NK3 ks xs ∧
    ∃ o es ep, h.get? a = some o ∧ o.ExactDict ∧ o.data = .dict es ep ∧ es.toList = xs.map (entryOfKey (nestedKind X.prog X.w)) ∧ (xs.map (·.1)).Nodup) := I.hok a _ h1
  obtain ⟨⟨l, sm, xs, r, o, es, ep, g1, g2, g3, g4, g5⟩, _⟩ := z
  refine ⟨l, sm, xs, r, o, es, ep, g1, g2, g3, g4, ?_, g5⟩
  have key : ∀ {ks : List (NestedKey × Addr × V)} {xs : List (NestedKey × Addr × Value)}, NK3 ks xs → (∀ p ∈ ks, NKey X.K H (.ref p.2.1) p.1) → ∀ x ∈ xs, (nestedKind X.prog X.w).is s.heap x.1 x.2.1 := by
    intro ks xs r
    induction r with
    | nil => intro _ x hx; cases hx
    | @cons p q ps qs h t ih =>
      intro hk x hx
      rcases List.mem_cons.mp hx with e | hx
      · subst e
        obtain ⟨d, d1, d2, d3, d4⟩ := hk p List.mem_cons_self
        rw [← h.1, ← h.2.1]
        refine ⟨?_, d4⟩
        rw [← d2]
        exact nested_of I d _ _ d1 d3 rfl
      · exact ih (fun p hp => hk p (List.mem_cons_of_mem _ hp)) x hx
  exact key r h2
theorem NKey.is (I : Inv X pins σ H s) (h : NKey X.K H (.ref b) k) : (nestedKind X.prog X.w).is s.heap k b := by
  obtain ⟨d, d1, d2, d3, d4⟩ := h
  refine ⟨?_, d4⟩
  rw [← d2]
  exact nested_of I d _ _ d1 d3 rfl
end
/-! ### readings -/
def tNNotIn (P : Program) (w : World) (K : PySem.W.Frag) (ty td : TE) : TE := fun σ H Q => ty σ H fun y H1 => td σ H1 fun x H2 => ∃ a b k ks, x = .ref a ∧ y = .ref b ∧ NDict P w K H2 a ks ∧ NKey K H2 (.ref b) k ∧ Q (.bl (!(valN ks k).isSome)) H2
def tNGet (P : Program) (w : World) (K : PySem.W.Frag) (td ty : TE) : TE := fun σ H Q => td σ H fun x H1 => ty σ H1 fun y H2 => ∃ a b k ks v, x = .ref a ∧ y = .ref b ∧ NDict P w K H2 a ks ∧ NKey K H2 (.ref b) k ∧ valN ks k = some v ∧ Q v H2
/-- d[y] = v of a key that is not yet there -/
def sNPut (P : Program) (w : World) (K : PySem.W.Frag) (td ty tv : TE) : TS := fun D σ H => tv σ H fun v H1 => td σ H1 fun x H2 => ty σ H2 fun y H3 => ∃ a b k ks, x = .ref a ∧ y = .ref b ∧ NDict P w K H3 a ks ∧ NKey K H3 (.ref b) k ∧ valN ks k = none ∧ ks.length < sizeLine ∧ D.nx σ (upd H3 a (NDictO P w a (ks ++ [(k, b, v)])))
def tNNew (P : Program) (w : World) : TE := fun _ H Q => ∀ p, H p = none → Q (.ref p) (upd H p (NDictO P w p []))
def rLenN (P : Program) (w : World) (K : PySem.W.Frag) : List V → Hp → VK → Prop := fun xs H Q => ∃ a ks, xs = [.ref a] ∧ NDict P w K H a ks ∧ Q (.int (ks.length : Nat)) H
section
variable {X : Cx} {o i e value : Expr} {pos pos' : Pos} {td ty tv : TE}
theorem room8 {A : Around} (hu : A.units + 10 < cLine) : (nestedKind X.prog X.w).room A.in1 := by
  show A.in1.units + 8 < cLine
  show A.units + 1 + 8 < cLine
  omega
theorem pc_nnotin (hu : X.A.units + 10 < cLine) (hi : PE X i ty) (ho : PE X o td) : PC X .NotIn i o (tNNotIn X.prog X.w X.K ty td) := by
  refine ⟨fun pins s σ H Q I h => ?_⟩
  refine thn (hi.run pins s σ H _ I h) fun iv s1 ⟨y, H1, I1, ry, q1⟩ => thn (ho.run pins s1 σ H1 _ I1 q1) fun u s2 ⟨x, H2, I2, rx, a, b, k, ks, ex, ey, nd, nk, q2⟩ => ?_
  subst ex ey
  obtain rfl : u = Value.ref a := rx
  obtain rfl : iv = Value.ref b := ry
  obtain ⟨_, hd, xs, r, dd⟩ := nd.at_ I2
  refine notIn_keyed (room8 hu) (nk.is I2) hd ⟨xs, dd, rfl⟩ ⟨.bl (!(valN ks k).isSome), H2, I2.tok _, ?_, q2⟩
  show _ = Value.bool _
  rw [(r.val (k := k)).isSome_eq]
theorem pe_nget (hu : X.A.units + 10 < cLine) (ho : PE X o td) (hi : PE X i ty) (hs : NoSl i) : PE X (.Subscript o i pos) (tNGet X.prog X.w X.K td ty) := by
  refine ⟨fun pins s σ H Q I h => ?_⟩
  refine subD_of PySem.F.slot_dict_getitem.lookup hs (thn (ho.run pins s σ H _ I h) fun u s1 ⟨x, H1, I1, rx, q1⟩ => thn (hi.run pins s1 σ H1 _ I1 q1) fun iv s2 ⟨y, H2, I2, ry, a, b, k, ks, v, ex, ey, nd, nk, hv, q2⟩ => ?_)
  subst ex ey
  obtain rfl : u = Value.ref a := rx
  obtain rfl : iv = Value.ref b := ry
  obtain ⟨_, hd, xs, r, dd⟩ := nd.at_ I2
  obtain ⟨w', hw, rw'⟩ := RelO.some_of (v := v) (o := valueAt (pairsH xs) k) (by rw [← hv]; exact r.val (k := k))
  exact ⟨dd.typeIs, getItem_keyed (room8 hu) (nk.is I2) ⟨xs, dd, rfl⟩ hw ⟨v, H2, I2.tok _, rw', q2⟩⟩
theorem ps_nput (hu : X.A.units + 10 < cLine) (ho : PE X o td) (hi : PE X i ty) (hv : PE X value tv) (hs : swapsWith value (some (.Subscript o i pos')) pos.line X.env = pure false) :
    PS X (.Assign [.Subscript o i pos'] value pos) (sNPut X.prog X.w X.K td ty tv) := by
  refine ⟨fun pins s σ H D I h => ?_⟩
  refine wpAny_Assign_Subscript (thn (hv.run pins s σ H _ I h) fun r s1 ⟨v, H1, I1, rv, q1⟩ => thn (ho.run pins s1 σ H1 _ I1 q1) fun u s2 ⟨x, H2, I2, rx, q2⟩ => thn (hi.run pins s2 σ H2 _ I2 q2) fun iv s3 ⟨y, H3, I3, ry, a, b, k, ks, ex, ey, nd, nk, hn, hl, q3⟩ => ?_) hs
  subst ex ey
  obtain rfl : u = Value.ref a := rx
  obtain rfl : iv = Value.ref b := ry
  obtain ⟨_, hd, xs, rr, dd⟩ := nd.at_ I3
  have hz : xs.length ≤ sizeLine := by rw [← Paired.length rr]; omega
  refine wpAny_setItem_heap (hsz := hz) (room8 hu) (nk.is I3) dd fun h' dd' hs' => ⟨σ, _, ?_, q3⟩
  have e : H3 a = some (NDictO X.prog X.w a ks) := nd.1
  have hno : storedH xs k b r = xs ++ [(k, b, r)] := by
    have z := (rr.val (k := k)).isSome_eq
    rw [hn, valueAt_pairsH, Option.isSome_map] at z
    have z2 : (atKey xs k).isSome = false := z.symm
    unfold storedH
    rw [if_neg (by rw [z2]; decide)]
  rw [hno] at dd'
  obtain ⟨q, es, ep, hq, h2, h3, h4, _, h5⟩ := dd'
  refine d_write I3 (by rw [e]; exact True.intro) hs' ⟨q, hq⟩ ?_
  refine ⟨⟨by rw [List.length_append, List.length_singleton]; omega, hd, _, NK3.app rr (.cons ⟨rfl, rfl, rv⟩ .nil), q, es, ep, hq, h2, h3, h4, h5⟩, ⟨q, hq⟩, fun h1 h2 z kk => ?_⟩
  obtain ⟨l, sm, xs, r, o, es, ep, g1, g⟩ := z
  exact ⟨l, sm, xs, r, o, es, ep, kk _ g1, g⟩
theorem nd_empty {P : Program} {w : World} {H : Hp} (h : Heap) (hb : sysModules < h.objs.size) : ObjOk P w H (h.push { cls := .type "dict", data := .dict #[] }) h.objs.size (NDictO P w h.objs.size []) := by
  have g : (h.push { cls := .type "dict", data := .dict #[] }).get? h.objs.size = some { cls := .type "dict", data := .dict #[] } := Heap.get?_push_size _ rfl
  refine ⟨⟨Nat.zero_le _, beq_eq_false_iff_ne.mpr (Ne.symm (Nat.ne_of_lt hb)), [], .nil, _, #[], 0, g, ⟨rfl, rfl, rfl⟩, rfl, rfl, List.nodup_nil⟩, ⟨_, g⟩, fun h1 h2 z kk => ?_⟩
  obtain ⟨l, sm, xs, r, o, es, ep, g1, g⟩ := z
  exact ⟨l, sm, xs, r, o, es, ep, kk _ g1, g⟩
theorem pe_dnewN : PE X (.Dict [] [] pos) (tNNew X.prog X.w) := ⟨fun pins s σ H Q I h =>
  wpAny_Dict_empty ⟨.ref s.heap.objs.size, _, I.laid (a := s.heap.objs.size) (o := NDictO X.prog X.w s.heap.objs.size []) (t' := s.toks) (fun _ _ q => Heap.get?_push_of_some _ q) (Nat.le_refl _) (nd_empty s.heap I.big), rfl, h _ (I.hok.fresh (Nat.le_refl _))⟩⟩
theorem cr_lenN : CallR X (.builtin "len") (rLenN X.prog X.w X.K) := by
  intro pins s σ H xs us Q I r h
  obtain ⟨a, ks, rfl, nd, q⟩ := h
  cases r with
  | @cons _ u0 _ ur ra rr =>
    cases rr
    obtain rfl : u0 = Value.ref a := ra
    obtain ⟨l, hd, xs, r, dd⟩ := nd.at_ I
    have hlen : xs.length = ks.length := (Paired.length r).symm
    have hm : s.heap.DictKeyed (nestedKind X.prog X.w) a (pairsH xs) := ⟨xs, dd, rfl⟩
    refine PyProof.Rows.call_len_slot (n := (pairsH xs).length) hm.typeIs F.slot_dict_len (fun Q' hq => len_keyed hd hm hq) (by omega) (by rw [pairsH_length, hlen]; rw [sizeLine_eq] at l; omega) ?_
    rw [pairsH_length, hlen]
    exact ⟨.int (ks.length : Nat), H, I.tok _, ⟨_, rfl⟩, q⟩
end
end DL
/-! Dmc: sorted(d) of a dict of ints, max(d.values()), len(set(t)) of a tuple of ints. -/
namespace DL
open PySem PySem.Spec PyProof.Rows L2
section
variable {X : Cx}
/-- sorted(d), the keys ints -/
def rSortedDI : List V → Hp → VK → Prop := fun xs H Q => ∃ (a : Addr) (kvs : List (Key × V)) (ks : List Int), xs = [.ref a] ∧ Rd H a (.dK kvs) ∧ kvs.map (·.1) = ks.map Sum.inl ∧ ks.length ≤ 1000000 ∧
  ∀ (ys : List Int) p, ys.Perm ks → ys.Pairwise (· ≤ ·) → H p = none → Q (.ref p) (upd H p (.lst (ys.map V.int)))
theorem cr_sortedDI (hcalm : X.calm = true) : CallR X (.builtin "sorted") rSortedDI := fun pins s σ H xs us Q I r ⟨a, kvs, ks, ex, hd, hks, hn, q⟩ => by
  subst ex
  rw [Vals.ref1 r]
  obtain ⟨z, lo, vs, rel, dd⟩ := dk_rd I.hok hd
  obtain ⟨ep, hat⟩ := dd.dictAt
  have hkeys : vs.map (·.1) = ks.map Sum.inl := rel.keys.symm.trans hks
  have hl : vs.length = ks.length := by have e := congrArg List.length hkeys; simpa using e
  refine Calls.call_function_entry PyProof.Rows.kind_sorted PyProof.Rows.plain_sorted PyProof.Rows.entry_sorted (PyProof.Rows.args_sorted1 _) ?_
  unfold Builtin.«sorted»
  refine wpAny_bind (m := checkCount "sorted" 1 1 _) (wpAny_pure (wpAny_bind (PySem.W.kdu_collect (A := X.A.in1) (PySem.W.kdl_dict (knd := mixKind X.prog X.w) (kvs := vs) (ep := ep) lo) (I.ok.hd hcalm) hat (by rw [hl, sizeLine_eq]; omega) fun h' tk acc hk hacc => ?_)))
  have hal : acc.toList.length = vs.length := by rw [Array.length_toList, hacc.1]
  have rv0 : Vals (vs.map fun p => kV p.1) acc.toList := keys_at hal fun j v e => by
    obtain ⟨k, x, e1, e2⟩ := hacc.2 j v (by rw [← Array.getElem?_toList]; exact e)
    exact ⟨k, x, e1, e2⟩
  have ev : (vs.map fun p => kV p.1) = ks.map V.int := by
    have e := congrArg (List.map kV) hkeys
    rw [List.map_map, List.map_map] at e
    exact e
  rw [ev] at rv0
  have hi := rv0.ints
  have I1 : Inv X pins σ H { s with heap := h', toks := tk } := I.kept hk
  refine wpAny_bind (wpAny_newList ?_ (by rw [hal, hl, sizeLine_eq]; omega))
  have hoL : (h'.push (seqObj "list" acc.toList.toArray 0)).get? h'.objs.size = some (seqObj "list" acc.toList.toArray 0) := Heap.get?_push_size _ rfl
  show wpAny _ _ _ _ _ { s with heap := h'.push (seqObj "list" acc.toList.toArray 0), toks := tk }
  refine wpAny_bind (wpAny_holding (wpAny_call_entry PyProof.Rows.slot_list_sort ⟨_, hoL, rfl⟩ PyProof.Rows.entry_list_sort
    (SrtO.list_sort_ord SrtO.swo_int (s := { s with heap := h'.push (seqObj "list" acc.toList.toArray 0), toks := tk }) hoL (by rw [hal, hl, sizeLine_eq]; omega) (fun h2 => SrtO.ints_sortable hi h2) fun out h1 h2 => ⟨.none, rfl, ?_⟩) (PyProof.Rows.args_list_sort _)))
  obtain ⟨k1, k2, k3⟩ := SrtO.ints_out hi h1 h2
  obtain ⟨e', he'⟩ := PyProof.Rows.sortedHeap_at (vs := acc.toList) (out := out.toArray) hoL
  have hlen : ((out.map SrtO.iv).map V.int).length ≤ sizeLine := by rw [List.length_map, k2.length_eq, sizeLine_eq]; omega
  refine wpAny_pure ⟨_, rfl, .ref h'.objs.size, upd H h'.objs.size (.lst ((out.map SrtO.iv).map V.int)), I1.laid (t' := tk) (fun b u e => ?_) (Nat.le_refl _)
    (show ObjOk X.prog X.w _ _ _ (.lst ((out.map SrtO.iv).map V.int)) from ⟨hlen, out, e', vals_of_ints k1, he'⟩), rfl, q _ _ k2 k3 (I1.hok.fresh (Nat.le_refl _))⟩
  have hb : b < h'.objs.size := Heap.lt_size e
  exact (PyProof.Rows.sortedHeap_old (Nat.ne_of_lt hb) (by rw [Heap.size_push]; exact Nat.lt_succ_of_lt hb)).trans (Heap.get?_push_of_some _ e)
end
section
variable {X : Cx} {o : Expr} {p pos apos mpos : Pos} {td : TE}
/-- max(d.values()), the values ints, one at least -/
def tMaxVals (td : TE) : TE := fun σ H Q => td σ H fun x H1 => ∃ (a : Addr) (kvs : List (Key × V)) (ns : List Int), x = V.ref a ∧ Rd H1 a (.dK kvs) ∧ kvs.map (·.2) = ns.map V.int ∧ ns ≠ [] ∧ ∀ m, m ∈ ns → (∀ j ∈ ns, j ≤ m) → Q (.int m) H1
theorem pe_maxVals (hc : X.calm = true) (hg : Gl X "max") (hm : X.mg "max" = none) (hd : PE X o td) (hbase : attributeBase o "values" X.env (eval o X.env) = eval o X.env := by rfl) (hline : (apos.endLine == mpos.line) = true := by rfl)
    (hse : starEach [Expr.Call (.Attribute o "values" apos) [] [] mpos] X.env = [(false, eval (Expr.Call (.Attribute o "values" apos) [] [] mpos) X.env)] := by rfl) :
    PE X (.Call (.Name "max" p) [.Call (.Attribute o "values" apos) [] [] mpos] [] pos) (tMaxVals td) := ⟨fun pins s σ H Q I h => by
  refine wpAny_Call_Name_kw (ld_blt I hg hm (u := .builtin "max") (by first | rfl | decide +kernel) ?_ (by first | decide +kernel | decide) (by first | decide +kernel | decide))
  rw [hse]
  refine PySem.callWith_builtin1 (wpAny_Call_method0_late hbase hline (thn (hd.run pins s σ H _ I h) fun v s1 ⟨x, H1, I1, r1, a, kvs, ns, ex, ha, hv, hne, q⟩ => ?_))
  subst ex
  obtain rfl : v = Value.ref a := r1
  obtain ⟨_, hsys, vs, rel, dof⟩ := dk_rd I1.hok ha
  obtain ⟨ep, dat⟩ := dof.dictAt
  obtain ⟨ob, es, ho, exd, hdat, hko, hpr, hnd⟩ := id dat
  refine ⟨"dict", "dict.values", F.plainAttrs_dict, F.slot_dict_values, F.type_dict_values, ⟨ob, ho, exd.1⟩, fun b e => by cases e; exact ⟨ob, ho, exd.2.1⟩, Calls.callWith_builtin rfl (PySem.evalArgs_none ?_)⟩
  refine call_meetsIn F.slot_dict_values ⟨ob, ho, exd.1⟩ F.entry_dict_values (F.args_dict_values_1 _) (meets_dict_values (mixKind X.prog X.w) a hsys) ⟨⟨vs, dof⟩, ?_⟩
  have k1 : ∀ b u, s1.heap.get? b = some u → (s1.heap.push { cls := .type "dict_values", data := .fields #[.ref a] }).get? b = some u := fun b u e => Heap.get?_push_of_some _ e
  have dat1 := dat.keep k1
  have hlv : vs.length = ns.length := by
    have e1 := congrArg List.length hv
    rw [List.length_map, List.length_map, KV.length rel] at e1
    exact e1
  have hlen : 0 < vs.length := by rw [hlv]; exact List.length_pos_iff.mpr hne
  have hval : ∀ (i : Nat) (v : Value), (∃ k, vs[i]? = some (k, v)) → ∃ t, v = Value.int (ns.getD i 0) t := fun i v ⟨k, hk⟩ => by
    obtain ⟨x, h1, t0⟩ := KV.at' rel hk
    have e1 : (kvs.map (·.2))[i]? = some x := by rw [List.getElem?_map, h1] <;> rfl
    rw [hv, List.getElem?_map] at e1
    obtain ⟨j, hj, e2⟩ := Option.map_eq_some_iff.mp e1
    subst e2
    obtain ⟨t, e3⟩ := t0
    exact ⟨t, by rw [e3, List.getD_eq_getElem?_getD, hj] <;> rfl⟩
  have hlt : a < s1.heap.objs.size := Heap.lt_size ho
  have hsz : (s1.heap.push { cls := .type "dict_values", data := .fields #[.ref a] }).objs.size = s1.heap.objs.size + 1 := Heap.size_push _ _
  refine call_max_walk (wpAny_pyIter_values (v := s1.heap.objs.size) (d := a) ⟨_, Heap.get?_push_size _ rfl, rfl, rfl⟩ dat1 ⟨_, _, _, _, _, _, _, rfl,
    Walks.dictValues (knd := mixKind X.prog X.w) (A := X.A.in1) (I.ok.hd hc) (s1.heap.push { cls := .type "dict_values", data := .fields #[.ref a] }).objs.size a (by rw [hsz]; exact Nat.ne_of_lt (Nat.lt_succ_of_lt hlt)) vs ep,
    ⟨⟨_, Heap.get?_push_size _ rfl, rfl, rfl⟩, dat1.keep fun b u e => Heap.get?_push_of_some _ e⟩, fun b hb => ?_, hlen, CmpOf.ints_gt (fun i => ns.getD i 0) hval, fun v h' tk hP hk => ?_⟩)
  · show b < ((s1.heap.push _).push _).objs.size
    rw [Heap.size_push, Heap.size_push]
    rw [hsz] at hb
    rcases List.mem_cons.mp hb with e | hb
    · exact e ▸ Nat.lt_succ_self _
    · exact (List.mem_singleton.mp hb) ▸ Nat.lt_succ_of_lt (Nat.lt_succ_of_lt hlt)
  · obtain ⟨t, rfl⟩ := hval _ v hP
    obtain ⟨b1, b2⟩ := argBest_gt (fun i => ns.getD i 0) (vs.length - 1)
    refine ⟨.int _, H1, I1.kept (t' := tk) fun b u e => hk b u (fun hmem => ?_) (Heap.get?_push_of_some _ (k1 b u e)), ⟨t, rfl⟩, q _ (PySem.getD_mem (by omega)) fun j hj => ?_⟩
    · have e1 := List.mem_singleton.mp hmem
      have e2 := Heap.lt_size e
      rw [e1, hsz] at e2
      exact absurd e2 (Nat.not_lt.mpr (Nat.le_succ _))
    · obtain ⟨n, hn, e⟩ := List.mem_iff_getElem.mp hj
      have z := b2 n (by omega)
      have e3 : ns.getD n 0 = j := by rw [List.getD_eq_getElem?_getD, List.getElem?_eq_getElem hn, ← e] <;> rfl
      rw [← e3]
      exact z⟩
/-- len(set(t)), t a tuple of ints: how many there are -/
def tLenSetT (K : PySem.W.Frag) (ta : TE) : TE := fun σ H Q => ta σ H fun x H1 => ∃ (l : Addr) (ns : List Int), x = .ref l ∧ SqT K H1 l (ns.map V.int) ∧ ns.length ≤ 4000 ∧ ∀ ks : List Int, ks.Nodup → (∀ k, k ∈ ks ↔ k ∈ ns) → Q (.int (ks.length : Nat)) H1
theorem pe_lenSetT {a : Expr} {ta : TE} {p2 q : Pos} (hg : Gl X "len") (hm : X.mg "len" = none) (hg2 : Gl X "set") (hm2 : X.mg "set" = none) (ha : PE X a ta) (hc : X.calm = true := by rfl)
    (na : starEach [a] X.env = (false, eval a X.env) :: starEach [] X.env := by rfl) : PE X (.Call (.Name "len" p) [.Call (.Name "set" p2) [a] [] q] [] pos) (tLenSetT X.K ta) := ⟨fun pins s σ H Q I h => by
  refine Call_ (ld_blt I hg hm boot_len (PyProof.Rows.callWith_builtin1 (PyProof.Rows.args_cons ?_ rfl) rfl rfl))
  refine Call_ (ld_blt I hg2 hm2 boot_set (PyProof.Rows.callWith_type1 (PyProof.Rows.args_cons (thn (ha.run pins s σ H _ I h) fun v s1 ⟨x, H1, I1, r1, l, ns, ex, hq, hl, q1⟩ => PyProof.Rows.args_nil ?_) na) na rfl))
  subst ex
  cases r1
  obtain ⟨its, r, pl, hz⟩ := I1.tuple hq
  have hi : PyProof.Rows.IntsAre its.toArray.toList ns := by simpa using r.ints
  refine call_set_tupI ns (I1.ok.hd hc) pl hi (by unfold scanBound; omega) fun h' tk c hS hcl hk => PyProof.Rows.args_nil ?_
  obtain ⟨o, es, ep, t, ho, hex, hd, hgood, hnd, hmem, hsb, hf, hn, _⟩ := hS
  have I2 : Inv X pins σ H1 { s1 with heap := h', toks := tk } := I1.kept hk
  have he : es.size = (es.toList.map keyOf).length := by rw [List.length_map, Array.length_toList]
  refine call_len_set ho hex hd hf (by rw [hn] <;> omega) ⟨.int (es.size : Nat), H1, I2.tok _, ⟨_, rfl⟩, ?_⟩
  rw [he]
  exact q1 _ hnd fun k => (hmem k).symm.trans (by simp)⟩
end
end DL
/-! Dmd: dicts as data: by ints (slots that own one, or read one), by tuples (slots that own one). -/
namespace DL
open PySem PySem.Spec PyProof.Rows L2
open Evl (Ex ex_l ex_t)
/-! ### tables by ints -/
abbrev Tb := List (Int × D)
def mkI (m : Tb) : List (D × D) := m.map fun p => (.int p.1, p.2)
def lookI (m : Tb) (i : Int) : Option D := (m.find? fun p => decide (p.1 = i)).map (·.2)
def hasI (m : Tb) (i : Int) : Bool := m.any fun p => decide (p.1 = i)
def putI (m : Tb) (i : Int) (d : D) : Tb := if hasI m i = true then m.map (fun p => if p.1 = i then (p.1, d) else p) else m ++ [(i, d)]
theorem lookI_cons {p : Int × D} {m : Tb} {i : Int} : lookI (p :: m) i = if p.1 = i then some p.2 else lookI m i := by
  unfold lookI
  by_cases e : p.1 = i
  · rw [List.find?_cons, decide_eq_true e, if_pos e] <;> rfl
  · rw [List.find?_cons, decide_eq_false e, if_neg e]
theorem hasI_look (m : Tb) (i : Int) : hasI m i = (lookI m i).isSome := by
  induction m with
  | nil => rfl
  | cons p m ih =>
    rw [lookI_cons]
    unfold hasI at ih ⊢
    rw [List.any_cons, ih]
    by_cases e : p.1 = i
    · rw [decide_eq_true e, if_pos e] <;> rfl
    · rw [decide_eq_false e, if_neg e, Bool.false_or]
theorem lookI_app {m : Tb} {i j : Int} {d : D} : lookI (m ++ [(i, d)]) j = (lookI m j).or (if i = j then some d else none) := by
  induction m with
  | nil => rw [List.nil_append, lookI_cons]; rfl
  | cons p m ih =>
    rw [List.cons_append, lookI_cons, lookI_cons, ih]
    by_cases e : p.1 = j
    · rw [if_pos e, if_pos e]; rfl
    · rw [if_neg e, if_neg e]
theorem lookI_put (m : Tb) (i j : Int) (d : D) : lookI (putI m i d) j = if i = j then some d else lookI m j := by
  unfold putI
  cases h : hasI m i with
  | true =>
    rw [if_pos rfl]
    have h0 := h
    have key : ∀ m : Tb, lookI (m.map fun p => if p.1 = i then (p.1, d) else p) j = if i = j ∧ hasI m i = true then some d else lookI m j := by
      intro m
      induction m with
      | nil => rw [List.map_nil, if_neg (by rintro ⟨_, z⟩; cases z)]
      | cons p m ih =>
        rw [List.map_cons, lookI_cons, ih, lookI_cons]
        by_cases e : p.1 = i
        · rw [if_pos e]
          by_cases f : i = j
          · rw [if_pos (by show p.1 = j; rw [e, f]), if_pos ⟨f, by unfold hasI; rw [List.any_cons, decide_eq_true e]; rfl⟩]
          · rw [if_neg (fun z => f (e.symm.trans z)), if_neg (fun z => f z.1), if_neg (fun z => f z.1), if_neg (fun z => f (e.symm.trans z))]
        · rw [if_neg e]
          have hh : hasI (p :: m) i = hasI m i := by unfold hasI; rw [List.any_cons, decide_eq_false e, Bool.false_or]
          rw [hh]
          by_cases g : p.1 = j
          · rw [if_pos g, if_pos g, if_neg]
            rintro ⟨f, _⟩
            exact e (g.trans f.symm)
          · rw [if_neg g, if_neg g]
    rw [key]
    by_cases f : i = j
    · rw [if_pos ⟨f, h0⟩, if_pos f]
    · rw [if_neg (fun z => f z.1), if_neg f]
  | false =>
    rw [if_neg (by decide), lookI_app]
    by_cases f : i = j
    · subst f
      have : lookI m i = none := by
        rw [hasI_look] at h
        cases z : lookI m i with
        | none => rfl
        | some d => rw [z] at h; cases h
      rw [this, if_pos rfl]
      rfl
    · rw [if_neg f, if_neg f, Option.or_none]
/-! ### tables by tuples -/
abbrev Tn := List (D × D)
def lookN (m : Tn) (k : NestedKey) : Option D := (m.find? fun q => decide (nkOf q.1 = k)).map (·.2)
def HashOk (m : Tn) : Prop := ∀ q ∈ m, hsh q.1 = true ∧ (nkOf q.1).depth ≤ 8
section
variable {K : PySem.W.Frag} {B : Hp}
theorem dtkv_look {i : Int} : ∀ {m : Tb} {ks : List (Key × V)}, DtKv K B ks (mkI m) → (∀ d, lookI m i = some d → ∃ v, valV ks (.inl i) = some v ∧ Dt K B v d) ∧ (lookI m i = none → valV ks (.inl i) = none)
  | [], _, h => by
    cases h
    exact ⟨fun d z => (by cases z), fun _ => rfl⟩
  | p :: m, _, h => by
    have h' : DtKv K B _ ((.int p.1, p.2) :: mkI m) := h
    cases h' with
    | cons hd t =>
      obtain ⟨i1, i2⟩ := dtkv_look (i := i) t
      rw [lookI_cons]
      by_cases e : p.1 = i
      · rw [if_pos e, valV_pos (by rw [e])]
        exact ⟨fun d z => by cases z; exact ⟨_, rfl, hd⟩, fun z => nomatch z⟩
      · rw [if_neg e, valV_neg (fun z => e (Sum.inl.inj z))]
        exact ⟨i1, i2⟩
theorem dtkv_some {i : Int} {m : Tb} {ks : List (Key × V)} (h : DtKv K B ks (mkI m)) : (valV ks (.inl i)).isSome = (lookI m i).isSome := by
  obtain ⟨h1, h2⟩ := dtkv_look (i := i) h
  cases e : lookI m i with
  | none => rw [h2 e]; rfl
  | some d =>
    obtain ⟨v, h3, _⟩ := h1 d e
    rw [h3] <;> rfl
theorem dtkv_any {i : Int} : ∀ {m : Tb} {ks : List (Key × V)}, DtKv K B ks (mkI m) → (ks.any fun kv => decide (kv.1 = (.inl i : Key))) = hasI m i := fun {m ks} h => by
  rw [valV_any, dtkv_some h, hasI_look]
theorem dtkv_app : ∀ {m m2 : Tb} {ks ks2 : List (Key × V)}, DtKv K B ks (mkI m) → DtKv K B ks2 (mkI m2) → DtKv K B (ks ++ ks2) (mkI (m ++ m2))
  | [], _, _, _, h, h2 => by
    cases h
    exact h2
  | p :: m, _, _, _, h, h2 => by
    have h' : DtKv K B _ ((.int p.1, p.2) :: mkI m) := h
    cases h' with
    | cons hd t => exact .cons hd (dtkv_app t h2)
theorem dtkv_upd {i : Int} {v : V} {d : D} (hv : Dt K B v d) : ∀ {m : Tb} {ks : List (Key × V)}, DtKv K B ks (mkI m) → DtKv K B (ks.map fun kv => if kv.1 = (.inl i : Key) then (kv.1, v) else kv) (mkI (m.map fun p => if p.1 = i then (p.1, d) else p))
  | [], _, h => by
    cases h
    exact .nil
  | p :: m, _, h => by
    have h' : DtKv K B _ ((.int p.1, p.2) :: mkI m) := h
    cases h' with
    | cons hd t =>
      rw [List.map_cons, List.map_cons]
      by_cases e : p.1 = i
      · rw [if_pos e, if_pos (by rw [e])]
        exact .cons hv (dtkv_upd hv t)
      · rw [if_neg e, if_neg (fun z => e (Sum.inl.inj z))]
        exact .cons hd (dtkv_upd hv t)
theorem dtkv_put {i : Int} {v : V} {d : D} {m : Tb} {ks : List (Key × V)} (hv : Dt K B v d) (h : DtKv K B ks (mkI m)) : DtKv K B (putK ks (.inl i) v) (mkI (putI m i d)) := by
  unfold putK putI
  rw [dtkv_any h]
  cases hasI m i with
  | true => rw [if_pos rfl, if_pos rfl]; exact dtkv_upd hv h
  | false => rw [if_neg (by decide), if_neg (by decide)]; exact dtkv_app h (.cons hv .nil)
theorem dtkv_len : ∀ {m : Tb} {ks : List (Key × V)}, DtKv K B ks (mkI m) → ks.length = m.length
  | [], _, h => by
    cases h
    rfl
  | p :: m, _, h => by
    have h' : DtKv K B _ ((.int p.1, p.2) :: mkI m) := h
    cases h' with
    | cons hd t => exact congrArg (· + 1) (dtkv_len t)
theorem dtkv_keys : ∀ {m : Tb} {ks : List (Key × V)}, DtKv K B ks (mkI m) → ks.map (·.1) = (m.map (·.1)).map Sum.inl
  | [], _, h => by
    cases h
    rfl
  | p :: m, _, h => by
    have h' : DtKv K B _ ((.int p.1, p.2) :: mkI m) := h
    cases h' with
    | cons hd t =>
      rw [List.map_cons, List.map_cons, List.map_cons, dtkv_keys t]
theorem dtkv_vals : ∀ {m : Tb} {ks : List (Key × V)} {ns : List Int}, DtKv K B ks (mkI m) → m.map (·.2) = ns.map PyData.int → ks.map (·.2) = ns.map V.int
  | [], _, ns, h, e => by
    cases h
    have : ns = [] := by
      cases ns with
      | nil => rfl
      | cons a r => cases e
    subst this
    rfl
  | p :: m, _, ns, h, e => by
    have h' : DtKv K B _ ((.int p.1, p.2) :: mkI m) := h
    cases h' with
    | cons hd t =>
      cases ns with
      | nil => cases e
      | cons a r =>
        rw [List.map_cons, List.map_cons] at e
        injection e with e1 e2
        rw [e1] at hd
        rw [List.map_cons, List.map_cons, dtkv_vals t e2, dp_int_inv hd]
abbrev NkR (K : PySem.W.Frag) (B : Hp) : List (NestedKey × Addr × V) → Tn → Prop := Paired fun (k : NestedKey × Addr × V) (q : D × D) => Dt K B (.ref k.2.1) q.1 ∧ nkOf q.1 = k.1 ∧ Dt K B k.2.2 q.2
theorem nk_look {k : NestedKey} : ∀ {ks : List (NestedKey × Addr × V)} {m : Tn}, NkR K B ks m → (∀ d, lookN m k = some d → ∃ v, valN ks k = some v ∧ Dt K B v d) ∧ (lookN m k = none → valN ks k = none)
  | _, _, .nil => ⟨fun d z => (by cases z), fun _ => rfl⟩
  | _, _, @Paired.cons _ _ _ p q ks m h t => by
    obtain ⟨i1, i2⟩ := nk_look (k := k) t
    obtain ⟨h1, h2, h3⟩ := h
    by_cases e : nkOf q.1 = k
    · have g1 : lookN (q :: m) k = some q.2 := by
        unfold lookN
        rw [List.find?_cons, decide_eq_true e] <;> rfl
      have g2 : valN (p :: ks) k = some p.2.2 := by
        unfold valN
        rw [List.find?_cons, decide_eq_true (h2.symm.trans e)] <;> rfl
      rw [g1, g2]
      exact ⟨fun d z => by cases z; exact ⟨_, rfl, h3⟩, fun z => nomatch z⟩
    · have g1 : lookN (q :: m) k = lookN m k := by
        unfold lookN
        rw [List.find?_cons, decide_eq_false e]
      have g2 : valN (p :: ks) k = valN ks k := by
        unfold valN
        rw [List.find?_cons, decide_eq_false (fun z => e (h2.trans z))]
      rw [g1, g2]
      exact ⟨i1, i2⟩
theorem nk_some {k : NestedKey} {ks : List (NestedKey × Addr × V)} {m : Tn} (h : NkR K B ks m) : (valN ks k).isSome = (lookN m k).isSome := by
  obtain ⟨h1, h2⟩ := nk_look (k := k) h
  cases e : lookN m k with
  | none => rw [h2 e]; rfl
  | some d =>
    obtain ⟨v, h3, _⟩ := h1 d e
    rw [h3] <;> rfl
theorem nk_app : ∀ {ks ks2 : List (NestedKey × Addr × V)} {m m2 : Tn}, NkR K B ks m → NkR K B ks2 m2 → NkR K B (ks ++ ks2) (m ++ m2)
  | _, _, _, _, .nil, h => h
  | _, _, _, _, .cons a t, h => .cons a (nk_app t h)
theorem nk_keys {H : Hp} (e : Ex B H) : ∀ {ks : List (NestedKey × Addr × V)} {m : Tn}, NkR K B ks m → HashOk m → ∀ p ∈ ks, NKey K H (.ref p.2.1) p.1
  | _, _, .nil, _, p, hp => (List.not_mem_nil hp).elim
  | _, _, @Paired.cons _ _ _ a b ks m h t, hk, p, hp => by
    rcases List.mem_cons.mp hp with z | hp
    · subst z
      obtain ⟨g1, g2⟩ := hk b List.mem_cons_self
      exact ⟨b.1, dp_mono e h.1, h.2.1, g1, by rw [← h.2.1]; exact g2⟩
    · exact nk_keys e t (fun q hq => hk q (List.mem_cons_of_mem _ hq)) p hp
end
/-! ### new owned things -/
def EvNO (c : Cn) (te : TE) (env : List Sl) (P : OD → Prop) : Prop := ∀ (σ : Sg) (B H : Hp), At c B H → EnvOk c B H σ env → ∀ Q : VK,
  (∀ p u B' H', Ext c.S B H B' H' → c.R B' H' → H p = none → B' p = none → ObIn c.K B' H' p u → P u → Q (.ref p) H') → te σ H Q
section
variable {c : Cn} {env : List Sl} {i j : Nat} {te tk tv : TE} {o : Po} {P : D → Prop}
theorem EvNO.imp {P P' : OD → Prop} (h : EvNO c te env P) (k : ∀ u, P u → P' u) : EvNO c te env P' := fun σ B H A e Q q => h σ B H A e Q fun p u B' H' x r h0 hb ob pp => q p u B' H' x r h0 hb ob (k u pp)
theorem EvN.obj {Pn : List D → Prop} (h : EvN c te env Pn) : EvNO c te env (fun u => ∃ ds, u = .lst ds ∧ Pn ds) := fun σ B H A e Q q =>
  h σ B H A e Q fun p xs ds B' H' x r h0 hb h1 t pp => q p (.lst ds) B' H' x r h0 hb ⟨xs, h1, t⟩ ⟨ds, rfl, pp⟩
theorem hs_setO {Pn : OD → Prop} (h : EvNO c te env Pn) (k : ∀ p u, Pn u → o.nx (env.set i (.ow p u))) : HS c (tAsg te (gName i)) env o := fun X σ B H A e g =>
  h σ B H A e _ fun p u B1 H1 x1 r1 h0 hb ob pp => by
    have hs : ¬ c.S p := A.notS h0
    have h00 : c.H0 p = none := by
      cases z : c.H0 p with
      | none => rfl
      | some w => exact absurd h0 (A.e.t p (by rw [z]; exact nofun))
    exact g.nx _ B1 H1 _ x1.b (A.go x1 r1) ((e.go x1).owO (fun z => e.live z h0) ob hb hs h00) (k p u pp)
theorem eas_ow {tr : TA} {Pn : OD → Prop} {Pr : List Sl → Prop} (h : EvNO c te env Pn) (hr : EvAS c tr env Pr) : EvAS c (tCons te tr) env (fun l => ∃ p u r, l = .ow p u :: r ∧ Pn u ∧ Pr r) := fun σ B H A e Q q =>
  h σ B H A e _ fun p u B1 H1 x1 r1 h0 hb ob p1 => hr σ B1 H1 (A.go x1 r1) (e.go x1) _ fun vs ss B2 H2 x2 r2 s2 n2 f2 p2 => by
    have hs : ¬ c.S p := A.notS h0
    have h00 : c.H0 p = none := by
      cases z : c.H0 p with
      | none => rfl
      | some w => exact absurd h0 (A.e.t p (by rw [z]; exact nofun))
    have ob2 : ObIn c.K B2 H2 p u := ob.go x2.b fun w z => x2.k _ _ z hs
    refine q (.ref p :: vs) (.ow p u :: ss) B2 H2 (x1.trans x2) r2 ⟨⟨rfl, ob2, x2.n _ ob.live hb, hs, h00⟩, s2⟩ (List.nodup_cons.mpr ⟨fun z => ob.live (f2 p z).1, n2⟩) (fun r hr => ?_) ⟨p, u, ss, rfl, p1, p2⟩
    rcases List.mem_cons.mp hr with z | z
    · rw [z]
      exact ⟨h0, ob2.live⟩
    · refine ⟨?_, (f2 r z).2⟩
      cases w : H r with
      | none => rfl
      | some w' => exact absurd (f2 r z).1 (x1.t r (by rw [w]; exact nofun))
theorem eno_dnewK : EvNO c tDNewK env (fun u => u = .idc (mkI [])) := fun σ B H A e Q q p hp => by
  obtain ⟨x, r⟩ := A.newOwn (o := .dK []) hp
  exact q p (.idc (mkI [])) B _ x r hp (fresh_b A.e.s hp) ⟨[], upd_same, .nil⟩ rfl
theorem eno_dnewN {P : Program} {w : World} : EvNO c (tNNew P w) env (fun u => u = .ndc P w []) := fun σ B H A e Q q p hp => by
  obtain ⟨x, r⟩ := A.newOwn (o := NDictO P w p []) hp
  exact q p (.ndc P w []) B _ x r hp (fresh_b A.e.s hp) ⟨[], upd_same, .nil⟩ rfl
/-- {k: v} -/
theorem eno_disp1 {n : Int} {Pd : D → Prop} (hk : Ev c tk env (.int n)) (hv : EvP c tv env Pd) : EvNO c (tDisp [(tk, tv)]) env (fun u => ∃ d, u = .idc (mkI [(n, d)]) ∧ Pd d) := fun σ B H A e Q q p hp => by
  obtain ⟨x0, r0⟩ := A.newOwn (o := .dK []) hp
  have A0 := A.go x0 r0
  have hs : ¬ c.S p := A.notS hp
  refine hk σ B _ A0 (e.go x0) _ fun v d B1 H1 x1 r1 t1 p1 => ?_
  subst p1
  have A1 := A0.go x1 r1
  refine hv σ B1 H1 A1 ((e.go x0).go x1) _ fun w d B2 H2 x2 r2 t2 p2 => ?_
  have g1 : H1 p = some (.dK []) := x1.k p _ upd_same hs
  have g2 : H2 p = some (.dK []) := x2.k p _ g1 hs
  rw [dp_int_inv t1]
  have b2 : B2 p = none := x2.n p (by rw [g1]; exact nofun) (x1.n p (by rw [upd_same]; exact nofun) (fresh_b A.e.s hp))
  refine ⟨g2, [(.inl n, w)], rfl, by show 1 ≤ 15; decide, ?_⟩
  have hm : mergeK [] [((.inl n : Key), w)] = [(.inl n, w)] := rfl
  rw [hm]
  have x3 := ((x0.trans x1).trans x2).setOwn (o := .dK [(.inl n, w)]) hp b2 (by rw [g2]; exact nofun)
  exact q p (.idc (mkI [(n, d)])) B2 _ x3 (r_setOwn r2 hs) hp b2 ⟨_, upd_same, .cons t2 .nil⟩ ⟨d, rfl, p2⟩
/-! ### dicts by ints, asked and put to -/
def DictIn (env : List Sl) (j : Nat) (m : Tb) : Prop := env[j]? = some (.dat (.dict (mkI m))) ∨ ∃ p, env[j]? = some (.ow p (.idc (mkI m)))
theorem dict_at {m : Tb} {σ : Sg} {B H : Hp} (A : At c B H) (e : EnvOk c B H σ env) (h : DictIn env j m) : ∃ p ks, σ[j]? = some (some (.ref p)) ∧ DtKv c.K B ks (mkI m) ∧ ∀ B' H', Ext c.S B H B' H' → H' p = some (.dK ks) := by
  rcases h with h | ⟨p, h⟩
  · obtain ⟨x, h1, v, h2, h3⟩ := e.at_ j _ h
    subst h2
    cases h3 with
    | dic g1 g2 => exact ⟨_, _, h1, g2, fun B' H' x => x.s _ _ (x.b _ _ g1)⟩
  · obtain ⟨x, h1, h2, ⟨ks, g1, g2⟩, h3, h4, h5⟩ := e.at_ j _ h
    subst h2
    exact ⟨p, ks, h1, g2, fun B' H' x => x.k _ _ g1 h4⟩
theorem ev_dIn {m : Tb} {n : Int} (hd : DictIn env j m) (hk : Ev c tk env (.int n)) : Ev c (tDIn tk (tVar j)) env (.bool (lookI m n).isSome) := fun σ B H A e Q q => by
  obtain ⟨p, ks, h1, h2, h3⟩ := dict_at A e hd
  refine hk σ B H A e _ fun v d B1 H1 x1 r1 t1 p1 => ?_
  subst p1
  rw [dp_int_inv t1]
  refine ⟨.ref p, h1, p, _, rfl, DGet.k (k := .inl n) (h3 B1 H1 x1), ?_⟩
  rw [dtkv_some h2]
  exact q _ _ B1 H1 x1 r1 (.bl _) rfl
theorem ev_dNotIn {m : Tb} {n : Int} (hd : DictIn env j m) (hk : Ev c tk env (.int n)) : Ev c (tDNotIn tk (tVar j)) env (.bool (!(lookI m n).isSome)) := fun σ B H A e Q q => by
  obtain ⟨p, ks, h1, h2, h3⟩ := dict_at A e hd
  refine hk σ B H A e _ fun v d B1 H1 x1 r1 t1 p1 => ?_
  subst p1
  rw [dp_int_inv t1]
  refine ⟨.ref p, h1, p, _, rfl, DGet.k (k := .inl n) (h3 B1 H1 x1), ?_⟩
  rw [dtkv_some h2]
  exact q _ _ B1 H1 x1 r1 (.bl _) rfl
theorem ev_dGet {m : Tb} {n : Int} {d : D} (hd : DictIn env j m) (hk : Ev c tk env (.int n)) (h : lookI m n = some d) : Ev c (tDGet (tVar j) tk) env d := fun σ B H A e Q q => by
  obtain ⟨p, ks, h1, h2, h3⟩ := dict_at A e hd
  refine ⟨.ref p, h1, ?_⟩
  refine hk σ B H A e _ fun v d' B1 H1 x1 r1 t1 p1 => ?_
  subst p1
  rw [dp_int_inv t1]
  obtain ⟨w, g1, g2⟩ := (dtkv_look h2).1 d h
  exact ⟨p, w, rfl, by rw [← g1]; exact DGet.k (k := .inl n) (h3 B1 H1 x1), q _ _ B1 H1 x1 r1 (dp_mono x1.b g2) rfl⟩
/-- what is owned changes -/
theorem ow_step {B H : Hp} {σ : Sg} {p : Addr} {u u' : OD} {ob : HO} (A : At c B H) (e : EnvOk c B H σ env) (h : env[i]? = some (.ow p u)) (hd : ObIn c.K B (upd H p ob) p u') : At c B (upd H p ob) ∧ EnvOk c B (upd H p ob) σ (env.set i (.ow p u')) := by
  obtain ⟨x, h1, h2, h3, h4, h5, h6⟩ := e.at_ i _ h
  exact ⟨A.items h4 h5 h6 h3.live, e.itemsO h hd⟩
theorem hs_dPut {m : Tb} {n : Int} {p : Addr} (h : env[j]? = some (.ow p (.idc (mkI m)))) (hv : EvP c tv env P) (hk : Ev c tk env (.int n)) (hz : m.length < 1000000) (k : ∀ d, P d → o.nx (env.set j (.ow p (.idc (mkI (putI m n d)))))) : HS c (sDPut (tVar j) tk tv) env o := fun X σ B H A e g => by
  refine hv σ B H A e _ fun v d B1 H1 x1 r1 t1 p1 => ?_
  have A1 := A.go x1 r1
  have e1 := e.go x1
  obtain ⟨x, h1, h2, ⟨ks, g1, g2⟩, h3, h4, h5⟩ := e1.at_ j _ h
  subst h2
  refine ⟨.ref p, h1, ?_⟩
  refine hk σ B1 H1 A1 e1 _ fun w d' B2 H2 x2 r2 t2 p2 => ?_
  subst p2
  rw [dp_int_inv t2]
  have hp : H2 p = some (.dK ks) := x2.k _ _ g1 h4
  have hl : ks.length < sizeLine := by rw [dtkv_len g2]; exact szlt hz
  refine ⟨p, _, rfl, DPut.k (k := .inl n) (v := v) hp hl, ?_⟩
  obtain ⟨A3, e3⟩ := ow_step (ob := .dK (putK ks (.inl n) v)) (u' := .idc (mkI (putI m n d))) (A1.go x2 r2) (e1.go x2) h ⟨_, upd_same, dtkv_put (dp_mono x2.b t1) (dtkv_mono x2.b g2)⟩
  exact g.nx σ B2 _ _ (x1.b.trans x2.b) A3 e3 (k d p1)
/-- sorted(d) -/
theorem en_sortedD {m : Tb} (hd : DictIn env j m) (hz : m.length ≤ 1000000) : EvN c (tCB rSortedDI (tCons (tVar j) tNil)) env (fun ds => ∃ ys : List Int, ds = ys.map PyData.int ∧ ys.Perm (m.map (·.1)) ∧ ys.Pairwise (· ≤ ·)) := fun σ B H A e Q q => by
  obtain ⟨p, ks, h1, h2, h3⟩ := dict_at A e hd
  refine ⟨.ref p, h1, ?_⟩
  refine ⟨p, ks, m.map (·.1), rfl, .inl (h3 B H A.same), dtkv_keys h2, by rw [List.length_map]; exact hz, fun ys l hp hs hl => ?_⟩
  exact newOwn_to (Pn := fun ds => ∃ ys : List Int, ds = ys.map PyData.int ∧ ys.Perm (m.map (·.1)) ∧ ys.Pairwise (· ≤ ·)) A A.same A.r hl (dps_ints ys) ⟨ys, rfl, hp, hs⟩ q
/-- max(d.values()) -/
theorem ev_maxVals {m : Tb} {ns : List Int} (hd : DictIn env j m) (hn : m.map (·.2) = ns.map PyData.int) (h0 : ns ≠ []) : EvP c (tMaxVals (tVar j)) env (fun d => ∃ z, d = .int z ∧ z ∈ ns ∧ ∀ y ∈ ns, y ≤ z) := fun σ B H A e Q q => by
  obtain ⟨p, ks, h1, h2, h3⟩ := dict_at A e hd
  refine ⟨.ref p, h1, ?_⟩
  exact ⟨p, ks, ns, rfl, .inl (h3 B H A.same), dtkv_vals h2 hn, h0, fun z hz hle => q _ _ B H A.same A.r (.int z) ⟨z, rfl, hz, hle⟩⟩
/-! ### dicts by tuples -/
theorem ref_of {B : Hp} {v : V} {ds : List D} (h : Dt c.K B v (.tuple ds)) : ∃ b, v = .ref b := by
  cases h with
  | tup h1 h2 => exact ⟨_, rfl⟩
section
variable {P : Program} {w : World} {m : Tn} {p : Addr} {ds : List D}
theorem ndict_at {σ : Sg} {B H : Hp} (A : At c B H) (e : EnvOk c B H σ env) (h : env[j]? = some (.ow p (.ndc P w m))) (hh : HashOk m) : ∃ ks, σ[j]? = some (some (.ref p)) ∧ NkR c.K B ks m ∧ ∀ B' H', Ext c.S B H B' H' → NDict P w c.K H' p ks := by
  obtain ⟨x, h1, h2, ⟨ks, g1, g2⟩, h3, h4, h5⟩ := e.at_ j _ h
  subst h2
  exact ⟨ks, h1, g2, fun B' H' x => ⟨x.k _ _ g1 h4, nk_keys (x.b.trans x.s) g2 hh⟩⟩
theorem ev_nNotIn (h : env[j]? = some (.ow p (.ndc P w m))) (hh : HashOk m) (hk : Ev c tk env (.tuple ds)) (k1 : hsh (.tuple ds) = true) (k2 : (nkOf (.tuple ds)).depth ≤ 8) : Ev c (tNNotIn P w c.K tk (tVar j)) env (.bool (!(lookN m (nkOf (.tuple ds))).isSome)) := fun σ B H A e Q q => by
  obtain ⟨ks, h1, h2, h3⟩ := ndict_at A e h hh
  refine hk σ B H A e _ fun v d B1 H1 x1 r1 t1 p1 => ?_
  subst p1
  obtain ⟨b, rfl⟩ := ref_of t1
  refine ⟨.ref p, h1, p, b, nkOf (.tuple ds), ks, rfl, rfl, h3 B1 H1 x1, ⟨_, dp_mono x1.s t1, rfl, k1, k2⟩, ?_⟩
  rw [nk_some h2]
  exact q _ _ B1 H1 x1 r1 (.bl _) rfl
theorem ev_nGet {d : D} (h : env[j]? = some (.ow p (.ndc P w m))) (hh : HashOk m) (hk : Ev c tk env (.tuple ds)) (k1 : hsh (.tuple ds) = true) (k2 : (nkOf (.tuple ds)).depth ≤ 8) (hl : lookN m (nkOf (.tuple ds)) = some d) : Ev c (tNGet P w c.K (tVar j) tk) env d := fun σ B H A e Q q => by
  obtain ⟨ks, h1, h2, h3⟩ := ndict_at A e h hh
  refine ⟨.ref p, h1, ?_⟩
  refine hk σ B H A e _ fun v d' B1 H1 x1 r1 t1 p1 => ?_
  subst p1
  obtain ⟨b, rfl⟩ := ref_of t1
  obtain ⟨z, g1, g2⟩ := (nk_look h2).1 d hl
  exact ⟨p, b, nkOf (.tuple ds), ks, z, rfl, rfl, h3 B1 H1 x1, ⟨_, dp_mono x1.s t1, rfl, k1, k2⟩, g1, q _ _ B1 H1 x1 r1 (dp_mono x1.b g2) rfl⟩
theorem ev_nLen (h : env[j]? = some (.ow p (.ndc P w m))) (hh : HashOk m) : Ev c (tCB (rLenN P w c.K) (tCons (tVar j) tNil)) env (nt m.length) := fun σ B H A e Q q => by
  obtain ⟨ks, h1, h2, h3⟩ := ndict_at A e h hh
  refine ⟨.ref p, h1, ?_⟩
  refine ⟨p, ks, rfl, h3 B H A.same, ?_⟩
  have : ks.length = m.length := Paired.length h2
  rw [this]
  exact q _ _ B H A.same A.r (.int _) rfl
theorem hs_nPut {Pv : D → Prop} (h : env[j]? = some (.ow p (.ndc P w m))) (hh : HashOk m) (hv : EvP c tv env Pv) (hk : Ev c tk env (.tuple ds)) (k1 : hsh (.tuple ds) = true) (k2 : (nkOf (.tuple ds)).depth ≤ 8) (hn : lookN m (nkOf (.tuple ds)) = none) (hz : m.length < 1000000)
    (k : ∀ d, Pv d → o.nx (env.set j (.ow p (.ndc P w (m ++ [(.tuple ds, d)]))))) : HS c (sNPut P w c.K (tVar j) tk tv) env o := fun X σ B H A e g => by
  refine hv σ B H A e _ fun v d B1 H1 x1 r1 t1 p1 => ?_
  have A1 := A.go x1 r1
  have e1 := e.go x1
  obtain ⟨ks, h1, h2, h3⟩ := ndict_at A1 e1 h hh
  refine ⟨.ref p, h1, ?_⟩
  refine hk σ B1 H1 A1 e1 _ fun y d' B2 H2 x2 r2 t2 p2 => ?_
  subst p2
  obtain ⟨b, rfl⟩ := ref_of t2
  have hl : ks.length < sizeLine := by rw [show ks.length = m.length from Paired.length h2]; exact szlt hz
  refine ⟨p, b, nkOf (.tuple ds), ks, rfl, rfl, h3 B2 H2 x2, ⟨_, dp_mono x2.s t2, rfl, k1, k2⟩, (nk_look h2).2 hn, hl, ?_⟩
  have h2' : NkR c.K B2 ks m := Paired.mapP h2 fun a q z => ⟨dp_mono x2.b z.1, z.2.1, dp_mono x2.b z.2.2⟩
  obtain ⟨A3, e3⟩ := ow_step (ob := NDictO P w p (ks ++ [(nkOf (.tuple ds), b, v)])) (u' := .ndc P w (m ++ [(.tuple ds, d)])) (A1.go x2 r2) (e1.go x2) h ⟨_, upd_same, nk_app h2' (.cons ⟨t2, rfl, dp_mono x2.b t1⟩ .nil)⟩
  exact g.nx σ B2 _ _ (x1.b.trans x2.b) A3 e3 (k d p1)
end
end
end DL
/-! Dme: defs that may raise one kind of exception: their promises, their calls (by place and by name), what a try sees. -/
namespace DL
open PySem PySem.Spec PyProof.Rows L2
open Evl (Ex ex_l ex_t)
/-- a def that raises the class C where bad holds -/
def PureSpX {α : Type} (K : PySem.W.Frag) (C : Addr) (enc : α → List D) (pre : α → Prop) (post : α → D → Prop) (bad : α → Prop) : Sp := fun vs H Q E => ∃ (B : Hp) (a : α), Ex B H ∧ DtAll K B vs (enc a) ∧ pre a ∧
  (∀ v d B' H', Ext (fun _ => False) B H B' H' → Dt K B' v d → post a d → ¬ bad a → Q v H') ∧ (∀ B' H', Ext (fun _ => False) B H B' H' → bad a → E (.ref C) none H')
/-- such a def, called by its name -/
def CalX (P : Program) (w : World) (K : PySem.W.Frag) (mg : Str → Option Value) (base : Heap) (x : Str) (ps : List Str) (k : Nat) (sp : Sp) : Prop :=
  ∃ (f : Addr) (fd : FuncData), mg x = some (.ref f) ∧ PySem.W.keepIn K (.ref f) = true ∧ FnG P w K mg base (L2.CX P w) k f fd ps sp ∧ (∀ (s : Shared) (us : List Value), us.length = ps.length → BindsTo s fd ⟨us, []⟩ (ps.zip us)) ∧
    ∀ (s : Shared) (us : List Value), us.length = ps.length → BindsTo s fd ⟨[], ps.zip us⟩ (ps.zip us)
/-- a def called by names, too -/
def CalN (P : Program) (w : World) (K : PySem.W.Frag) (mg : Str → Option Value) (base : Heap) (x : Str) (ps : List Str) (k : Nat) (sp : Sp) : Prop :=
  ∃ (f : Addr) (fd : FuncData), mg x = some (.ref f) ∧ PySem.W.keepIn K (.ref f) = true ∧ FnG P w K mg base CX0 k f fd ps sp ∧ (∀ (s : Shared) (us : List Value), us.length = ps.length → BindsTo s fd ⟨us, []⟩ (ps.zip us)) ∧
    ∀ (s : Shared) (us : List Value), us.length = ps.length → BindsTo s fd ⟨[], ps.zip us⟩ (ps.zip us)
theorem CalN.cal {P : Program} {w : World} {K : PySem.W.Frag} {mg : Str → Option Value} {base : Heap} {x : Str} {ps : List Str} {k : Nat} {sp : Sp} (C : CalN P w K mg base x ps k sp) : Cal P w K mg base x ps k sp := by
  obtain ⟨f, fd, h1, h2, h3, h4, _⟩ := C
  refine ⟨f, fd, h1, h2, h3, fun s us _ hl => ?_⟩
  rw [List.append_nil] at hl ⊢
  exact h4 s us hl
section
variable {X : Cx} {pins : List (Addr × Obj)} {σ : L2.St} {H : Hp} {s : Shared} {Q : VK} {CX : CXT} {k : Nat} {f : Addr} {fd : FuncData} {ps : List Str} {sp : Sp} {E : XK} {us : List Value} {vs : List V} {args : Args}
/-- a call of such a def, the arguments bound -/
theorem FnG.call (F : FnG X.prog X.w X.K X.mg X.base CX k f fd ps sp) (hg : X.A.guards = some []) (hr : Room k X.A) (hb : BindsTo s fd args (ps.zip us)) (hx : PassesAt CX X σ E) (I : Inv X pins σ H s) (r : Vals vs us) (h : sp vs H Q E) :
    wpAny (model X.prog X.w) X.A (call (.ref f) args.pos args.kw) (EP X pins σ Q) X.xe s := by
  refine wpAny_call (codeAny_mono (F.run X.A X.stack s H args us vs Q E hg hr I.env0 hb r h) ?_)
  rintro (e | fl) s' hq
  · exact hx pins H s e s' I hq
  · cases fl
    case ret u => exact I.after hq
    all_goals exact hq.elim
theorem FnG.names (F : FnG X.prog X.w X.K X.mg X.base CX k f fd ps sp) (r : Vals vs us) (h : sp vs H Q E) : us.length = ps.length := r.length.symm.trans (F.len _ _ _ _ h)
end
section
variable {X : Cx} {k : Nat} {ps : List Str} {sp : Sp} {x : Str} {p pos kpos : Pos} {e : Expr} {es : List Expr} {t : TA} {te : TE} {nm : Str} {E : L2.St → XK}
/-- f(e, ..) of a def that may raise; what it raises is wished for at the caller's slots -/
theorem pe_calX (C : CalX X.prog X.w X.K X.mg X.base x ps k sp) (hx : ∀ σ, PassesAt (L2.CX X.prog X.w) X σ (E σ)) (hgu : X.A.guards = some []) (hr : Room k X.A) (hg : Gl X x) (ha : PA X (e :: es) t) (hdb : (x == ("__debug__" : Str)) = false := by decide)
    (he : starEach (e :: es) X.env = (false, eval e X.env) :: starEach es X.env := by rfl) (hpl : (backTo pos (starEach es X.env)).any (·.1) = false := by rfl) : PE X (.Call (.Name x p) (e :: es) [] pos) (tCallS sp E t) := by
  obtain ⟨f, fd, h1, h2, F, hb, _⟩ := C
  exact ⟨fun pins s σ H Q I hyp => wpAny_Call_Name_kw (ld_glob I hg h1 (PySem.W.callWith_K (h₀ := X.base) I.ok.mod.kin h2 (thn (ha.run pos pins s σ H _ I hyp) fun us s1 ⟨vs, H1, I1, r, q⟩ =>
    ⟨I1.kIn, F.call (args := ⟨us, []⟩) hgu hr (hb s1 us (F.names r q)) (hx σ) I1 r q⟩) he hpl) hdb)⟩
/-- f(p = e) of such a def -/
theorem pe_calXk {pn : Str} (C : CalX X.prog X.w X.K X.mg X.base x [pn] k sp) (hx : ∀ σ, PassesAt (L2.CX X.prog X.w) X σ (E σ)) (hgu : X.A.guards = some []) (hr : Room k X.A) (hg : Gl X x) (ha : PE X e te) (hdb : (x == ("__debug__" : Str)) = false := by decide)
    (hall : (backToKw pos (keywordEach [⟨some pn, e, kpos⟩] X.env)).all (·.1.isSome) = true := by rfl) (hks : (backToKw pos (keywordEach [⟨some pn, e, kpos⟩] X.env)).filterMap (·.1) = [pn] := by rfl)
    (hpl : ((backTo pos (starEach [] X.env)).any (·.1) || (backToKw pos (keywordEach [⟨some pn, e, kpos⟩] X.env)).any (·.1.isNone)) = false := by rfl) : PE X (.Call (.Name x p) [] [⟨some pn, e, kpos⟩] pos) (tCallS sp E (tCons te tNil)) := by
  obtain ⟨f, fd, h1, h2, F, _, hb⟩ := C
  refine ⟨fun pins s σ H Q I hyp => wpAny_Call_Name_kw (ld_glob I hg h1 ?_ hdb)⟩
  refine PySem.W.callWith_KW0 (h₀ := X.base) I.ok.mod.kin h2 hall (thn ((pk_cons ha pk_nil).run pos pins s σ H _ I hyp) fun us s1 ⟨vs, H1, I1, r, q⟩ => ⟨I1.kIn, ?_⟩) hpl
  rw [hks]
  exact F.call (args := ⟨[], [pn].zip us⟩) hgu hr (hb s1 us (F.names r q)) (hx σ) I1 r q
/-- f(p = e) of a def that raises nothing -/
theorem pe_calNk {pn : Str} (C : CalN X.prog X.w X.K X.mg X.base x [pn] k sp) (hgu : X.A.guards = some []) (hr : Room k X.A) (hg : Gl X x) (ha : PE X e te) (hdb : (x == ("__debug__" : Str)) = false := by decide)
    (hall : (backToKw pos (keywordEach [⟨some pn, e, kpos⟩] X.env)).all (·.1.isSome) = true := by rfl) (hks : (backToKw pos (keywordEach [⟨some pn, e, kpos⟩] X.env)).filterMap (·.1) = [pn] := by rfl)
    (hpl : ((backTo pos (starEach [] X.env)).any (·.1) || (backToKw pos (keywordEach [⟨some pn, e, kpos⟩] X.env)).any (·.1.isNone)) = false := by rfl) : PE X (.Call (.Name x p) [] [⟨some pn, e, kpos⟩] pos) (tCall sp [] E0 (tCons te tNil)) := by
  obtain ⟨f, fd, h1, h2, F, _, hb⟩ := C
  refine ⟨fun pins s σ H Q I hyp => wpAny_Call_Name_kw (ld_glob I hg h1 ?_ hdb)⟩
  refine PySem.W.callWith_KW0 (h₀ := X.base) I.ok.mod.kin h2 hall (thn ((pk_cons ha pk_nil).run pos pins s σ H _ I hyp) fun us s1 ⟨vs, H1, I1, r, q⟩ => ⟨I1.kIn, ?_⟩) hpl
  rw [hks]
  have q : sp (vs ++ []) H1 Q E0 := q
  rw [List.append_nil] at q
  exact F.call (args := ⟨[], [pn].zip us⟩) hgu hr (hb s1 us (F.names r q)) (fun pins H s e s' I z => pass0 pins σ H s e s' I z) I1 r q
/-- what is never reached -/
theorem pss_never {sts : List Stmt} : PSs X sts (fun _ _ _ => False) := ⟨fun _ _ _ _ _ _ h => h.elim⟩
theorem ps_never {st : Stmt} : PS X st (fun _ _ _ => False) := ⟨fun _ _ _ _ _ _ h => h.elim⟩
end
/-- raise C() -/
def tRaise (W : WX) (C : Addr) : TS := fun _ σ H => W (.ref C) none σ H
theorem ps_raiseU {X : Cx} {W : WX} {C fI cc cda : Addr} {qn x : Str} {p pos pos2 : Pos} (T : UnfTxt X.prog X.K C fI cc cda qn) (gC : X.mg x = some (.ref C)) (gS : X.mg "super" = none) (hc : X.calm = true) (tk : Takes X W) (hr : Room 1 X.A) (hg : Gl X x) (hdb : (x == ("__debug__" : Str)) = false := by decide) :
    PS X (.Raise (some (.Call (.Name x p) [] [] pos)) none pos2) (tRaise W C) := ps_raise hc tk (pmk_unf T gC gS hr hg hdb)
section
variable {c : Cn} {env : List Sl} {o : Po}
theorem hs_raise {W : WX} {C : Addr} (h : ∀ σ B H, At c B H → W (.ref C) none σ H) : HS c (tRaise W C) env o := fun X σ B H A e g => h σ B H A
end
section
variable {α : Type} {P : Program} {w : World} {K : PySem.W.Frag} {mg : Str → Option Value} {base : Heap} {k : Nat} {f : Addr} {fd : FuncData} {x qual : Str} {params : Arguments} {body : List Stmt} {scope : Scope} {N ps : List Str} {enc : α → List D} {pre : α → Prop} {post : α → D → Prop} {bad : α → Prop} {C : Addr}
abbrev WD (E : XK) : WX := fun cls d _ H => E cls d H
theorem fn_pureX {t : XK → TS} (F : FunD K x qual params body scope [] [] f fd) (S : FnScope N ps scope) (hl : ∀ a, pre a → (enc a).length = ps.length)
    (hb : ∀ (cdv : Value) (A : Around) (outer : List Env) (s : Shared) (H : Hp) (E : XK), (A.deeper (envOfC qual scope s.heap.objs.size f cdv)).guards = some [] → Room k (A.deeper (envOfC qual scope s.heap.objs.size f cdv)) →
      PSs (cxOf (L2.CX P w) P w K mg base N qual scope f cdv A outer s H E) body (t E))
    (hh : ∀ (B0 H0 : Hp) (a : α) (E : XK), pre a → (bad a → ∀ B H, At (pureCn K B0 H0) B H → E (.ref C) none H) → HS (pureCn K B0 H0) (t E) ((enc a).map .dat ++ List.replicate (N.length - (enc a).length) .no) { nx := fun _ => post a .none ∧ ¬ bad a, rt := fun d => post a d ∧ ¬ bad a }) :
    FnG P w K mg base (L2.CX P w) (k + 1) f fd ps (PureSpX K C enc pre post bad) := by
  refine FunDg F S (fun vs H Q E h => ?_) fun cdv A outer s H vs Q E hg hr h => ?_
  · obtain ⟨B, a, _, t, hp, _⟩ := h
    rw [dps_len t]
    exact hl a hp
  · obtain ⟨B, a, ex, ta, hp, q, qe⟩ := h
    refine ⟨t E, hb cdv A outer s H E hg hr, ?_⟩
    have e0 := env_start (c := pureCn K B H) (N := N) (sls_dat (c := pureCn K B H) (H := H) ta) (owns_dat (enc a))
    rw [List.length_map] at e0
    refine hh B H a E hp (fun bd B' H' A' => qe B' H' A'.e bd) _ _ B H ⟨Ext.refl ex, trivial⟩ e0 ⟨fun σ' B' H' env _ A' _ q' => ?_, fun v d B' H' _ A' t' q' => ?_, fun _ _ _ _ _ _ _ z => z.elim, fun _ _ _ _ _ _ _ z => z.elim⟩
    · exact q _ _ B' H' A'.e .non q'.1 q'.2
    · exact q v d B' H' A'.e t' q'.1 q'.2
end
end DL
/-! Dmf: lists: truth, pop, in, index; bit_length; len(set(t)); is None. -/
namespace DL
open PySem PySem.Spec PyProof.Rows L2
open Evl (Ex ex_l ex_t)
/-- a list's truth -/
def tTruD (K : PySem.W.Frag) (ta : TE) : TT := fun σ H Q => ta σ H fun x H' => ∃ k, TruV K x H' k ∧ Q k H'
theorem pt_tru {X : Cx} {a : Expr} {ta : TE} (ha : PE X a ta) (he : ∀ whole, isTrue a X.env whole = (do let v ← whole; standAt a.pos; holding [v] (truthy v)) := by intro _; rfl) : PT X a (tTruD X.K ta) := pt_truth ha he
section
variable {c : Cn} {env : List Sl} {i j : Nat} {te tx tl : TE} {o : Po} {P : D → Prop}
theorem et_truL {ds : List D} (h : EvS c te env ds) : EvB c (tTruD c.K te) env (!ds.isEmpty) := fun σ B H A e Q q =>
  h σ B H A e _ fun p xs B1 H1 x1 r1 l1 t1 => ⟨!xs.isEmpty, .inl ⟨xs, SqL.of l1.1, rfl⟩, by
    have : xs.isEmpty = ds.isEmpty := by cases t1 <;> rfl
    rw [this]
    exact q _ B1 H1 x1 r1 rfl⟩
/-- x = l.pop() -/
theorem hs_popSet {q : Addr} {es : List D} {x : D} (hj : env[j]? = some (.own q es)) (hx : es[es.length - 1]? = some x) (k : o.nx ((env.set j (.own q es.dropLast)).set i (.dat x))) : HS c (tAsg (tBM0 c.K "list" rPop (tVar j)) (gName i)) env o := fun X σ B H A e g => by
  obtain ⟨g1, ys, g2, g3, g4, g5, g6⟩ := e.ownAt hj
  obtain ⟨w, w1, w2⟩ := dps_get g3 hx
  refine ⟨_, g1, .inl ⟨rfl, ys, SqL.of g2⟩, ?_⟩
  have hw : ys[ys.length - 1]? = some w := by rw [dps_len g3]; exact w1
  refine ⟨q, ys, w, rfl, rfl, g2, hw, ?_⟩
  have hd : DtAll c.K B ys.dropLast es.dropLast := by
    rw [List.dropLast_eq_take, List.dropLast_eq_take, dps_len g3]
    exact dps_take _ g3
  obtain ⟨A2, e2⟩ := own_step A e hj hd
  exact g.nx _ B _ _ (Ex.refl B) A2 (e2.dat w2) k
/-! in, index: data of one kind -/
/-- f tells its items apart -/
structure Tells {α : Type} [DecidableEq α] (f : α → D) : Prop where
  eqv : ∀ a b, PyData.eqv (f a) (f b) = decide (a = b)
  lay : ∀ a, (f a).canLay0 = true
  dep : ∀ a, (f a).depth ≤ 60
  nod : ∀ a, (f a).hasDict = false
variable {α : Type} [DecidableEq α] {f : α → D}
theorem Tells.shaped (t : Tells f) (a : α) : SeqAt.shaped (f a) = true := by
  unfold SeqAt.shaped
  rw [t.lay a, decide_eq_true (Nat.le_trans (t.dep a) (by decide))]
  rfl
theorem Tells.shapedL (t : Tells f) (xs : List α) : SeqAt.shaped (.list (xs.map f)) = true := by
  have h1 : PyData.canLayAll0 (xs.map f) = true := canAll_of fun d hd => by
    obtain ⟨z, _, rfl⟩ := List.mem_map.mp hd
    exact t.lay z
  have h2 : PyData.depthAll (xs.map f) ≤ 60 := depthAll_of fun d hd => by
    obtain ⟨z, _, rfl⟩ := List.mem_map.mp hd
    exact t.dep z
  unfold SeqAt.shaped
  rw [PyData.canLay0, PyData.depth, h1, decide_eq_true (by omega)]
  rfl
theorem Tells.shapedT (t : Tells f) (xs : List α) : SeqAt.shaped (.tuple (xs.map f)) = true := by
  have h1 : PyData.canLayAll0 (xs.map f) = true := canAll_of fun d hd => by
    obtain ⟨z, _, rfl⟩ := List.mem_map.mp hd
    exact t.lay z
  have h2 : PyData.depthAll (xs.map f) ≤ 60 := depthAll_of fun d hd => by
    obtain ⟨z, _, rfl⟩ := List.mem_map.mp hd
    exact t.dep z
  unfold SeqAt.shaped
  rw [PyData.canLay0, PyData.depth, h1, decide_eq_true (by omega)]
  rfl
theorem Tells.nodL (t : Tells f) (xs : List α) : PyData.hasDictAll (xs.map f) = false := hasAll_of fun d hd => by
  obtain ⟨z, _, rfl⟩ := List.mem_map.mp hd
  exact t.nod z
theorem Tells.any (t : Tells f) (x : α) : ∀ xs : List α, ((xs.map f).any fun z => PyData.eqv z (f x)) = decide (x ∈ xs)
  | [] => rfl
  | y :: r => by
    rw [List.map_cons, List.any_cons, t.any x r, t.eqv y x]
    by_cases e : y = x
    · subst e
      rw [decide_eq_true rfl, Bool.true_or, decide_eq_true List.mem_cons_self]
    · rw [decide_eq_false e, Bool.false_or]
      refine decide_eq_decide.mpr ⟨List.mem_cons_of_mem _, fun h => ?_⟩
      rcases List.mem_cons.mp h with z | z
      · exact absurd z.symm e
      · exact z
theorem Tells.all (t : Tells f) : ∀ xs ys : List α, PyData.eqvAll (xs.map f) (ys.map f) = decide (xs = ys)
  | [], [] => by rw [List.map_nil, PyData.eqvAll]; rfl
  | [], y :: r => by rw [List.map_nil, List.map_cons, PyData.eqvAll]; rfl
  | x :: r, [] => by rw [List.map_nil, List.map_cons, PyData.eqvAll]; rfl
  | x :: r, y :: s => by
    rw [List.map_cons, List.map_cons, PyData.eqvAll, t.eqv, t.all r s, ← Bool.decide_and]
    exact decide_eq_decide.mpr ⟨fun ⟨a, b⟩ => by rw [a, b], fun h => by cases h; exact ⟨rfl, rfl⟩⟩
theorem tells_tuple (t : Tells f) (h : ∀ a, (f a).depth ≤ 50) : Tells (fun xs : List α => PyData.tuple (xs.map f)) where
  eqv := fun a b => by
    rw [PyData.eqv]
    exact t.all a b
  lay := fun a => SeqAt.canLay_of_shaped (t.shapedT a)
  dep := fun a => by
    rw [PyData.depth]
    have : PyData.depthAll (a.map f) ≤ 50 := depthAll_of fun d hd => by
      obtain ⟨z, _, rfl⟩ := List.mem_map.mp hd
      exact h z
    omega
  nod := fun a => by
    rw [PyData.hasDict]
    exact t.nodL a
theorem tells_nt : Tells nt where
  eqv := fun a b => by
    show PyData.eqv (.int (a : Int)) (.int (b : Int)) = _
    rw [PyData.eqv]
    exact decide_eq_decide.mpr (by omega)
  lay := fun a => by rw [PyData.canLay0]
  dep := fun a => by rw [PyData.depth]; omega
  nod := fun a => by rw [PyData.hasDict]
theorem ev_inM (t : Tells f) {x : α} {xs : List α} (hx : Ev c tx env (f x)) (hl : EvS c tl env (xs.map f)) : Ev c (tOp (rInD c.K) tx tl) env (.bool (decide (x ∈ xs))) := fun σ B H A e Q q =>
  hx σ B H A e _ fun v d B1 H1 x1 r1 t1 p1 => hl σ B1 H1 (A.go x1 r1) (e.go x1) _ fun p ys B2 H2 x2 r2 l2 t2 => by
    subst p1
    refine ⟨f x, xs.map f, (dp_mono (x2.b.trans x2.s) t1).dp (t.nod x), .lst (SqL.of l2.1) ((dps_mono x2.s t2).dp (t.nodL xs)), t.shaped x, t.shapedL xs, ?_⟩
    rw [t.any x xs]
    exact q _ _ B2 H2 (x1.trans x2) r2 (.bl _) rfl
theorem ev_notInM (t : Tells f) {x : α} {xs : List α} (hx : Ev c tx env (f x)) (hl : EvS c tl env (xs.map f)) : Ev c (tOp (rNotInD c.K) tx tl) env (.bool (!decide (x ∈ xs))) := fun σ B H A e Q q =>
  hx σ B H A e _ fun v d B1 H1 x1 r1 t1 p1 => hl σ B1 H1 (A.go x1 r1) (e.go x1) _ fun p ys B2 H2 x2 r2 l2 t2 => by
    subst p1
    refine ⟨f x, xs.map f, (dp_mono (x2.b.trans x2.s) t1).dp (t.nod x), .lst (SqL.of l2.1) ((dps_mono x2.s t2).dp (t.nodL xs)), t.shaped x, t.shapedL xs, ?_⟩
    rw [t.any x xs]
    exact q _ _ B2 H2 (x1.trans x2) r2 (.bl _) rfl
/-- l.index(x) -/
theorem ev_indexM (t : Tells f) {x : α} {xs : List α} {k : Nat} (hl : EvS c tl env (xs.map f)) (hx : Ev c tx env (f x)) (hk : xs[k]? = some x) (hno : ∀ m, m < k → xs[m]? ≠ some x) : Ev c (tBM c.K "list" (rIndexD c.K) tl (tCons tx tNil)) env (nt k) := fun σ B H A e Q q =>
  hl σ B H A e _ fun p ys B1 H1 x1 r1 l1 t1 => ⟨.inl ⟨rfl, ys, SqL.of l1.1⟩, hx σ B1 H1 (A.go x1 r1) (e.go x1) _ fun v d B2 H2 x2 r2 t2 p2 => by
    subst p2
    have l2 := l1.go x2
    refine ⟨p, v, f x, xs.map f, k, f x, rfl, rfl, .lst (SqL.of l2.1) ((dps_mono (x2.b.trans x2.s) t1).dp (t.nodL xs)), (dp_mono x2.s t2).dp (t.nod x), t.shapedL xs, t.shaped x, ?_, ?_, fun m z' hm hz => ?_, ?_⟩
    · rw [List.getElem?_map, hk]; rfl
    · rw [t.eqv, decide_eq_true rfl]
    · rw [List.getElem?_map] at hz
      obtain ⟨y, hy, rfl⟩ := Option.map_eq_some_iff.mp hz
      rw [t.eqv, decide_eq_false]
      rintro rfl
      exact hno m hm hy
    · exact q _ _ B2 H2 (x1.trans x2) r2 (.int _) rfl⟩
/-- n.bit_length() -/
theorem ev_bits {n : Int} (h : Ev c te env (.int n)) : Ev c (tBits te) env (nt (Builtin.Int.intBits n)) := fun σ B H A e Q q =>
  h σ B H A e _ fun v d B1 H1 x1 r1 t1 p1 => by
    subst p1
    rw [dp_int_inv t1]
    exact ⟨n, rfl, q _ _ B1 H1 x1 r1 (.int _) rfl⟩
/-- len(set(t)) -/
theorem ev_lenSetT {ns : List Nat} (h : Ev c te env (.tuple (ns.map nt))) (hz : ns.length ≤ 4000) : EvP c (tLenSetT c.K te) env (fun d => ∃ ks : List Nat, ks.Nodup ∧ (∀ k, k ∈ ks ↔ k ∈ ns) ∧ d = nt ks.length) := fun σ B H A e Q q =>
  h σ B H A e _ fun v d B1 H1 x1 r1 t1 p1 => by
    subst p1
    cases t1 with
    | @tup a xs ds g1 g2 =>
      have e0 : ns.map nt = (ns.map fun (n : Nat) => (n : Int)).map PyData.int := by rw [List.map_map]; rfl
      have ex : xs = (ns.map fun (n : Nat) => (n : Int)).map V.int := dps_ints_inv (by rw [← e0]; exact g2)
      rw [ex] at g1
      refine ⟨a, _, rfl, ex_t x1.s g1, by rw [List.length_map]; exact hz, fun ks hn hm => q _ _ B1 H1 x1 r1 (.int _) ⟨ks.map Int.toNat, ?_, fun k => ?_, by rw [List.length_map]⟩⟩
      · have hpos : ∀ k ∈ ks, 0 ≤ k := fun k hk => by
          obtain ⟨n, _, rfl⟩ := List.mem_map.mp ((hm k).mp hk)
          omega
        clear hm
        induction ks with
        | nil => exact List.nodup_nil
        | cons a r ih =>
          obtain ⟨n1, n2⟩ := List.nodup_cons.mp hn
          rw [List.map_cons]
          refine List.nodup_cons.mpr ⟨fun z => ?_, ih n2 fun k hk => hpos k (List.mem_cons_of_mem _ hk)⟩
          obtain ⟨b, hb, e⟩ := List.mem_map.mp z
          have h1 := hpos a List.mem_cons_self
          have h2 := hpos b (List.mem_cons_of_mem _ hb)
          have : a = b := by omega
          exact n1 (this ▸ hb)
      · constructor
        · intro h
          obtain ⟨z, hz, rfl⟩ := List.mem_map.mp h
          obtain ⟨n, hn', rfl⟩ := List.mem_map.mp ((hm z).mp hz)
          rw [Int.toNat_natCast]
          exact hn'
        · intro h
          exact List.mem_map.mpr ⟨(k : Int), (hm _).mpr (List.mem_map.mpr ⟨k, h, rfl⟩), Int.toNat_natCast k⟩
/-- x is None -/
theorem ev_isN {n : Int} (h : Ev c te env (.int n)) : Ev c (tOp rIsN te (tC .non)) env (.bool false) := ev_op h ev_non (opd_val fun B H x y A tx ty => ⟨.bl false, .bl _, fun Q q => by
  rw [dp_int_inv tx, dp_non_inv ty]
  exact ⟨rfl, q⟩⟩)
theorem ev_isNN (h : Ev c te env .none) : Ev c (tOp rIsN te (tC .non)) env (.bool true) := ev_op h ev_non (opd_val fun B H x y A tx ty => ⟨.bl true, .bl _, fun Q q => by
  rw [dp_non_inv tx, dp_non_inv ty]
  exact ⟨rfl, q⟩⟩)
/-- == and != of data of one kind -/
theorem opd_eqM (t : Tells f) {x y : α} : OpD c (rEqD c.K) (f x) (f y) (fun e => e = .bool (decide (x = y))) := by
  have := opd_eq (c := c) (t.shaped x) (t.shaped y) (t.nod x) (t.nod y)
  rw [t.eqv] at this
  exact this
theorem opd_neM (t : Tells f) {x y : α} : OpD c (rNeD c.K) (f x) (f y) (fun e => e = .bool (!decide (x = y))) := by
  have := opd_ne (c := c) (t.shaped x) (t.shaped y) (t.nod x) (t.nod y)
  rw [t.eqv] at this
  exact this
end
end DL
/-! Dmg: dict comprehensions with int keys. -/
namespace DL
open PySem PySem.Spec PyProof.Rows L2
open Evl (Ex ex_l ex_t)
section
variable {c : Cn} {env : List Sl} {i j : Nat} {te tk tv : TE} {o : Po} {P : D → Prop}
/-- a new dict as data -/
theorem ev_newD {P : List (D × D) → Prop} (h : EvNO c te env (fun u => ∃ es, u = .idc es ∧ P es)) : EvP c te env (fun d => ∃ es, d = .dict es ∧ P es) := fun σ B H A e Q q =>
  h σ B H A e _ fun p u B1 H1 x1 r1 h0 hb ob ⟨es, eu, pp⟩ => by
    subst eu
    obtain ⟨ks, g1, g2⟩ := ob
    have x2 : Ext c.S B H (upd B1 p (.dK ks)) H1 := x1.freeze h0 g1 hb
    have hs : ¬ c.S p := A.notS h0
    have h00 : c.H0 p = none := by
      cases z : c.H0 p with
      | none => rfl
      | some w => exact absurd h0 (A.e.t p (by rw [z]; exact nofun))
    exact q (.ref p) (.dict es) _ H1 x2 ((A.go x1 r1).freeze h00 g1 hb hs).r (.dic upd_same (dtkv_mono (Ex.new hb) g2)) ⟨es, rfl, pp⟩
theorem dc_it {J : It} {n : Nat} {G : Hp → Prop} {Y : Nat → Hp → V → Hp → Prop} (w : Walk J n G Y) {g : TG} {tt : TT} {tk tv : TE} {vs : List Nat} {σ : L2.St} {H1 : Hp} {Da : Addr} {Qd : Hp → Prop} (Pv : Nat → Hp → Prop) (h0 : Pv 0 (upd H1 Da (.dK []))) (hG : ∀ i H, i ≤ n → Pv i H → G H)
    (hs : ∀ i x H H', i < n → Pv i H → Y i H x H' → g x (wipe σ vs) H' fun σ2 H2 => wipe σ2 vs = wipe σ vs ∧ tt σ2 H2 fun b H3 =>
      if b = true then tk σ2 H3 fun y H4 => tv σ2 H4 fun z H5 => ∃ kvs k, y = kV k ∧ H5 Da = some (.dK kvs) ∧ kvs.length < sizeLine ∧ Pv (i + 1) (upd H5 Da (.dK (putK kvs k z))) else Pv (i + 1) H3) (hd : ∀ H, Pv n H → Qd H) :
    ∃ W : Nat → Nat → Hp → Prop, (∃ m, W 0 m (upd H1 Da (.dK []))) ∧ ∀ i m H, W i m H →
      (J.stop i H ∧ Qd H) ∨ (J.go i H ∧ ∃ Nx : Hp → Prop, (∀ H', Nx H' → ∃ m', m' < m ∧ W (i + 1) m' H') ∧ ∀ x H', J.yld i H x H' → g x (wipe σ vs) H' fun σ2 H2 => wipe σ2 vs = wipe σ vs ∧ tt σ2 H2 fun b H3 =>
        if b = true then tk σ2 H3 fun y H4 => tv σ2 H4 fun z H5 => ∃ kvs k, y = kV k ∧ H5 Da = some (.dK kvs) ∧ kvs.length < sizeLine ∧ Nx (upd H5 Da (.dK (putK kvs k z))) else Nx H3) := by
  refine ⟨fun i m H => m = n - i ∧ i ≤ n ∧ Pv i H, ⟨n, by simp, Nat.zero_le _, h0⟩, fun i m H ⟨e, hi, p⟩ => ?_⟩
  subst e
  by_cases hlt : i < n
  · exact .inr ⟨w.goes i H hlt (hG i H hi p), Pv (i + 1), fun H' p' => ⟨n - (i + 1), by omega, rfl, hlt, p'⟩, fun x H' y => hs i x H H' hlt p (w.yields i H x H' hlt (hG i H hi p) y)⟩
  · have e : i = n := by omega
    subst e
    exact .inl ⟨w.stops H (hG i H hi p), hd H p⟩
def tabOf (f : D → Int × D) (ds : List D) : Tb := ds.foldl (fun m d => putI m (f d).1 (f d).2) []
theorem putI_len (m : Tb) (i : Int) (d : D) : (putI m i d).length ≤ m.length + 1 := by
  unfold putI
  split
  · rw [List.length_map]; omega
  · rw [List.length_append]; exact Nat.le_refl _
theorem tabOf_snoc {f : D → Int × D} {ds : List D} {d : D} : tabOf f (ds ++ [d]) = putI (tabOf f ds) (f d).1 (f d).2 := by
  unfold tabOf
  rw [List.foldl_append]
  rfl
theorem tabOf_len (f : D → Int × D) (ds : List D) : (tabOf f ds).length ≤ ds.length := by
  have key : ∀ (ds : List D) (m : Tb), (ds.foldl (fun m d => putI m (f d).1 (f d).2) m).length ≤ m.length + ds.length := by
    intro ds
    induction ds with
    | nil => intro m; exact Nat.le_refl _
    | cons d r ih =>
      intro m
      have := ih (putI m (f d).1 (f d).2)
      have := putI_len m (f d).1 (f d).2
      rw [List.foldl_cons, List.length_cons]
      omega
  have := key ds []
  rw [List.length_nil, Nat.zero_add] at this
  exact this
/-- {k: v for target in iter} -/
theorem eno_dc {wi : TI} {g : TG} {vs : List Nat} {ds : List D} {f : D → Int × D} (hi : EvI c wi env ds) (hz : ds.length < 1000000)
    (he : ∀ (i : Nat) (d : D), ds[i]? = some d → ∃ env2 is, HG c g d (wipeE env vs) env2 is ∧ (∀ j ∈ is, j ∈ vs) ∧ Ev c tk env2 (.int (f d).1) ∧ Ev c tv env2 (f d).2) :
    EvNO c (tDc wi g tYes tk tv vs) env (fun u => u = .idc (mkI (tabOf f ds))) := fun σ B H A e Q q =>
  hi σ B H A e _ fun J B1 H1 x1 r1 src => by
    obtain ⟨G, Y, w, hG, hY⟩ := src
    intro Dl hD
    have A1 : At c B1 H1 := A.go x1 r1
    have hB1 : B1 Dl = none := fresh_b x1.s hD
    have hS : ¬ c.S Dl := A1.notS hD
    have h0 : H Dl = none := by
      cases z : H Dl with
      | none => rfl
      | some o => exact absurd hD (x1.t Dl (by rw [z]; exact nofun))
    refine dc_it w (Pv := fun i H2 => ∃ (B2 : Hp) (ks : List (Key × V)), Ext c.S B1 H1 B2 H2 ∧ c.R B2 H2 ∧ B2 Dl = none ∧ H2 Dl = some (.dK ks) ∧ DtKv c.K B2 ks (mkI (tabOf f (ds.take i))))
      ⟨B1, [], (A1.newOwn hD).1, (A1.newOwn hD).2, hB1, upd_same, .nil⟩ (fun i H2 _ ⟨B2, _, x2, _⟩ => hG H2 (x2.b.trans x2.s)) (fun i x H2 H3 hi' ⟨B2, ks, x2, r2, hb2, hl2, t2⟩ y => ?_) (fun H2 ⟨B2, ks, x2, r2, hb2, hl2, t2⟩ => ?_)
    · have hd : ds[i]? = some ds[i] := List.getElem?_eq_getElem hi'
      have A2 : At c B2 H2 := A1.go x2 r2
      obtain ⟨B3, x3, r3, t3⟩ := hY i _ x B2 H2 H3 hd A2 x2.b y
      obtain ⟨env2, is, hg, hsub, hk, hv⟩ := he i _ hd
      have A3 := A2.go x3 r3
      have e3 : EnvOk c B3 H3 (wipe σ vs) (wipeE env vs) := ((e.go x1).go (x2.trans x3)).wipe vs
      refine hg x _ B3 H3 A3 e3 t3 _ fun σ2 e2 l2 f2 => ⟨?_, ?_⟩
      · have q1 : wipe σ2 vs = wipe (wipe σ vs) vs := wipe_eq l2 fun j hjv => f2 j fun z => hjv (hsub j z)
        rw [q1, wipe_wipe]
      · refine et_yes σ2 B3 H3 A3 e2 _ fun b B4 H4 x4 r4 hb => ?_
        subst hb
        rw [if_pos rfl]
        have A4 := A3.go x4 r4
        refine hk σ2 B4 H4 A4 (e2.go x4) _ fun v d B5 H5 x5 r5 t5 p5 => ?_
        subst p5
        have A5 := A4.go x5 r5
        refine hv σ2 B5 H5 A5 ((e2.go x4).go x5) _ fun u d B6 H6 x6 r6 t6 p6 => ?_
        subst p6
        rw [dp_int_inv t5]
        have xx := ((x3.trans x4).trans x5).trans x6
        have k6 : H6 Dl = some (.dK ks) := xx.k _ _ hl2 hS
        have n6 : B6 Dl = none := xx.n Dl (by rw [hl2]; exact nofun) hb2
        refine ⟨ks, .inl (f ds[i]).1, rfl, k6, ?_, B6, _, ((x2.trans xx).setOwn hD n6 (by rw [k6]; exact nofun)), r_setOwn r6 hS, n6, upd_same, ?_⟩
        · rw [dtkv_len t2]
          refine szlt (Nat.lt_of_le_of_lt (tabOf_len f _) ?_)
          rw [List.length_take]
          omega
        · rw [List.take_add_one, hd]
          show DtKv c.K B6 _ (mkI (tabOf f (ds.take i ++ [ds[i]])))
          rw [tabOf_snoc]
          exact dtkv_put t6 (dtkv_mono xx.b t2)
    · rw [List.take_length] at t2
      exact q Dl (.idc (mkI (tabOf f ds))) B2 H2 (x1.trans x2) r2 h0 hb2 ⟨ks, hl2, t2⟩ rfl
end
end DL
/-! Dmh: repr of any data (bools, None and texts, too); tuple * int. -/
namespace DL
open PySem PySem.Spec PyProof.Rows L2
open Evl (Ex ex_l ex_t)
structure ShowsU (e : D) : Prop where
  s : e.showable = true
  h : e.hasDict = false
  d : e.depth ≤ 60
  l : e.shown.length ≤ sizeLine
def rReprU (K : PySem.W.Frag) : List V → Hp → VK → Prop := fun vs H Q => ∃ v d, vs = [v] ∧ Dp K H v d ∧ ShowsU d ∧ Q (.str d.shown) H
theorem call_reprU {X : Cx} (hg : X.A.guards = some []) (hu : X.A.units + 64 < cLine) : CallR X (.builtin "repr") (rReprU X.K) := by
  intro pins s σ H xs us Q I r hyp
  obtain ⟨v, d, rfl, hd, ⟨h1, h2, h3, h4⟩, q⟩ := hyp
  obtain ⟨u, rfl, ru⟩ := vals1 r
  obtain ⟨as, rd⟩ := Dp.reads I d v u hd ru
  cases hd with
  | non =>
    cases ru
    exact PySem.P.repr_of_none ⟨.str _, H, I.tok _, ⟨_, rfl⟩, q⟩
  | bl b =>
    cases ru
    refine PySem.P.repr_of_bool ⟨.str _, H, I.tok _, ⟨_, rfl⟩, ?_⟩
    rw [PyData.shown] at q
    cases b <;> exact q
  | str x =>
    obtain ⟨t, rfl⟩ := ru
    rw [PyData.shown] at h4
    refine PySem.P.repr_of_str ⟨.str _, H, I.tok _, ⟨_, rfl⟩, ?_⟩ h4
    rw [PyData.shown] at q
    exact q
  | int i =>
    obtain ⟨t, rfl⟩ := ru
    have hz : i.natAbs.log2 < 1920 := by
      rw [PyData.showable] at h1
      exact of_decide_eq_true h1
    refine PySem.P.repr_of_int hz ⟨.str _, H, I.tok _, ⟨_, rfl⟩, ?_⟩
    rw [PyData.shown] at q
    exact q
  | lst hs ha =>
    cases ru
    exact repr_of_reads' rd h1 (fun z => absurd (z.symm.trans h2) (by decide)) hg (by omega) (fun _ _ z => z) (fun h' u tk hk => ⟨.str _, H, I.kept hk, ⟨_, rfl⟩, q⟩) h4
  | tup hs ha =>
    cases ru
    exact repr_of_reads' rd h1 (fun z => absurd (z.symm.trans h2) (by decide)) hg (by omega) (fun _ _ z => z) (fun h' u tk hk => ⟨.str _, H, I.kept hk, ⟨_, rfl⟩, q⟩) h4
section
variable {c : Cn} {env : List Sl} {te ta tb : TE} {d : D} {P : D → Prop}
theorem ev_reprU (h : Ev c te env d) (hd : ShowsU d) : Ev c (tCB (rReprU c.K) (tCons te tNil)) env (.str d.shown) :=
  ev_cb (ea_cons h ea_nil) fun B H xs A t Q q => by
    cases t with
    | cons t1 t2 =>
      cases t2
      exact ⟨_, d, rfl, (dp_mono A.e.s t1).dp hd.h, hd, q _ _ B H A.same A.r (.str _) rfl⟩
theorem Sm.showsU {d : D} {k n : Nat} (h : Sm d k n) (hk : k ≤ 60) (hn : n ≤ 16000000) : ShowsU d := ⟨h.s, h.h, Nat.le_trans h.d hk, Nat.le_trans h.l (Nat.le_trans hn (by decide))⟩
/-- (x, ..) * k, k two at least -/
theorem ev_repT {ds : List D} {k : Nat} (ha : Ev c ta env (.tuple ds)) (hb : Ev c tb env (nt k)) (h0 : ds ≠ []) (h2 : 2 ≤ k) (h3 : k ≤ 1000) (h4 : ds.length ≤ 1000) : Ev c (tOp (rRepT c.K) ta tb) env (.tuple (List.replicate k ds).flatten) :=
  ev_op ha hb fun B H x y A tx ty Q q => by
    cases tx with
    | @tup a xs _ hs hd =>
      rw [dp_int_inv ty]
      refine ⟨a, (k : Int), xs, rfl, rfl, ex_t A.e.s hs, fun z => h0 ?_, by omega, by omega, by rw [dps_len hd]; exact h4, fun p hp => ?_⟩
      · subst z
        cases hd
        rfl
      · rw [Int.toNat_natCast]
        obtain ⟨x2, r2⟩ := A.new (o := .tup (List.replicate k xs).flatten) hp
        exact q _ _ _ _ x2 r2 (.tup (SqT.of upd_same) (dps_mono x2.b (dps_flat hd k))) rfl
/-! x in (a, b, ..), flat items -/
def flatD : D → Bool
  | .none => true
  | .bool _ => true
  | .int _ => true
  | .str _ => true
  | _ => false
def toV : D → V
  | .bool b => .bl b
  | .int i => .int i
  | .str x => .str x
  | _ => .non
theorem flat_v {K : PySem.W.Frag} {H : Hp} {v : V} {d : D} (h : Dt K H v d) (f : flatD d = true) : v = toV d ∧ flatV v = true := by
  cases h with
  | non => exact ⟨rfl, rfl⟩
  | bl b => exact ⟨rfl, rfl⟩
  | int i => exact ⟨rfl, rfl⟩
  | str x => exact ⟨rfl, rfl⟩
  | lst _ _ => cases f
  | tup _ _ => cases f
  | dic _ _ => cases f
theorem flat_vs {K : PySem.W.Frag} {H : Hp} : ∀ {vs : List V} {ds : List D}, DtAll K H vs ds → ds.all flatD = true → vs = ds.map toV ∧ vs.all flatV = true
  | _, _, .nil, _ => ⟨rfl, rfl⟩
  | _, _, .cons h t, f => by
    rw [List.all_cons, Bool.and_eq_true] at f
    obtain ⟨h1, h2⟩ := flat_v h f.1
    obtain ⟨t1, t2⟩ := flat_vs t f.2
    exact ⟨by rw [List.map_cons, ← h1, ← t1], by rw [List.all_cons, h2, t2]; rfl⟩
theorem ev_inF {x : D} {ds : List D} {b : Bool} (hx : Ev c ta env x) (hl : Ev c tb env (.tuple ds)) (fx : flatD x = true) (fs : ds.all flatD = true) (hb : inV (toV x) (ds.map toV) = b) : Ev c (tOp (rIn c.K false) ta tb) env (.bool b) :=
  ev_op hx hl fun B H u v A tx ty Q q => by
    cases ty with
    | @tup a xs _ hs hd =>
      obtain ⟨e1, f1⟩ := flat_v tx fx
      obtain ⟨e2, f2⟩ := flat_vs hd fs
      refine ⟨a, xs, rfl, .inr (ex_t A.e.s hs), f1, f2, ?_⟩
      rw [if_neg (by decide), e1, e2, hb]
      exact q _ _ B H A.same A.r (.bl _) rfl
theorem ev_notInF {x : D} {ds : List D} {b : Bool} (hx : Ev c ta env x) (hl : Ev c tb env (.tuple ds)) (fx : flatD x = true) (fs : ds.all flatD = true) (hb : (!inV (toV x) (ds.map toV)) = b) : Ev c (tOp (rIn c.K true) ta tb) env (.bool b) :=
  ev_op hx hl fun B H u v A tx ty Q q => by
    cases ty with
    | @tup a xs _ hs hd =>
      obtain ⟨e1, f1⟩ := flat_v tx fx
      obtain ⟨e2, f2⟩ := flat_vs hd fs
      refine ⟨a, xs, rfl, .inr (ex_t A.e.s hs), f1, f2, ?_⟩
      rw [if_pos rfl, e1, e2, hb]
      exact q _ _ B H A.same A.r (.bl _) rfl
end
end DL
/-! Dna: a ghost state: what a resource holds changes from step to step. -/
namespace DL
open PySem PySem.Spec PyProof.Rows L2
open Evl (Ex ex_l ex_t)
structure Gc (G : Type) where
  K : PySem.W.Frag
  S : Addr → Prop
  R : G → Hp → Hp → Prop
  res : ∀ g, Res S (R g)
  B0 : Hp
  H0 : Hp
@[reducible] def Gc.at {G : Type} (c : Gc G) (g : G) : Cn := ⟨c.K, c.S, c.R g, c.res g, c.B0, c.H0⟩
section
variable {G : Type} {c : Gc G} {g g' : G} {B H B' H' : Hp} {σ : Sg} {env : List Sl} {x : Option V} {s : Sl}
theorem SlOk.gh (h : SlOk (c.at g) B H x s) : SlOk (c.at g') B H x s := by
  cases s with
  | no => exact trivial
  | dat d => exact h
  | raw v => exact h
  | ow p u => exact h
theorem EnvOk.gh (h : EnvOk (c.at g) B H σ env) : EnvOk (c.at g') B H σ env := ⟨h.len, fun i s hs => let ⟨x, h1, h2⟩ := h.at_ i s hs; ⟨x, h1, h2.gh⟩, h.nd⟩
theorem At.gh (A : At (c.at g) B H) (x : Ext c.S B H B' H') (r : c.R g' B' H') : At (c.at g') B' H' := ⟨A.e.trans x, r⟩
theorem EnvOk.gx (h : EnvOk (c.at g) B H σ env) (x : Ext c.S B H B' H') : EnvOk (c.at g') B' H' σ env := (EnvOk.go (c := c.at g) h x).gh
end
/-! ### judgements -/
def EvW {G : Type} (c : Gc G) (te : TE) (env : List Sl) (g : G) (P : G → D → Prop) : Prop := ∀ (σ : Sg) (B H : Hp), At (c.at g) B H → EnvOk (c.at g) B H σ env → ∀ Q : VK,
  (∀ v d g' B' H', Ext c.S B H B' H' → c.R g' B' H' → Dt c.K B' v d → P g' d → Q v H') → te σ H Q
def EaW {G : Type} (c : Gc G) (ta : TA) (env : List Sl) (g : G) (P : G → List D → Prop) : Prop := ∀ (σ : Sg) (B H : Hp), At (c.at g) B H → EnvOk (c.at g) B H σ env → ∀ Q : List V → Hp → Prop,
  (∀ vs ds g' B' H', Ext c.S B H B' H' → c.R g' B' H' → DtAll c.K B' vs ds → P g' ds → Q vs H') → ta σ H Q
def EnW {G : Type} (c : Gc G) (te : TE) (env : List Sl) (g : G) (P : G → List D → Prop) : Prop := ∀ (σ : Sg) (B H : Hp), At (c.at g) B H → EnvOk (c.at g) B H σ env → ∀ Q : VK,
  (∀ p xs ds g' B' H', Ext c.S B H B' H' → c.R g' B' H' → H p = none → B' p = none → H' p = some (.lst xs) → DtAll c.K B' xs ds → P g' ds → Q (.ref p) H') → te σ H Q
def EbW {G : Type} (c : Gc G) (tt : TT) (env : List Sl) (g : G) (P : G → Bool → Prop) : Prop := ∀ (σ : Sg) (B H : Hp), At (c.at g) B H → EnvOk (c.at g) B H σ env → ∀ Q : Bool → Hp → Prop, (∀ b g' B' H', Ext c.S B H B' H' → c.R g' B' H' → P g' b → Q b H') → tt σ H Q
section
variable {G : Type} {c : Gc G} {env : List Sl} {g : G} {te ta tb : TE} {tr : TA} {P P' : G → D → Prop} {tt tu : TT}
theorem EvW.imp (h : EvW c te env g P) (k : ∀ g d, P g d → P' g d) : EvW c te env g P' := fun σ B H A e Q q => h σ B H A e Q fun v d g' B' H' x r t p => q v d g' B' H' x r t (k g' d p)
theorem ew {P : D → Prop} (h : EvP (c.at g) te env P) : EvW c te env g (fun g' d => g' = g ∧ P d) := fun σ B H A e Q q => h σ B H A e Q fun v d B' H' x r t p => q v d g B' H' x r t ⟨rfl, p⟩
theorem eaw_nil : EaW c tNil env g (fun g' l => g' = g ∧ l = []) := fun σ B H A e Q q => q [] [] g B H A.same A.r .nil ⟨rfl, rfl⟩
theorem eaw_cons {Pa : G → D → Prop} {Pr : G → D → G → List D → Prop} (h : EvW c te env g Pa) (hr : ∀ g1 a, Pa g1 a → EaW c tr env g1 (Pr g1 a)) : EaW c (tCons te tr) env g (fun g' l => ∃ g1 a r, l = a :: r ∧ Pa g1 a ∧ Pr g1 a g' r) := fun σ B H A e Q q =>
  h σ B H A e _ fun v d g1 B1 H1 x1 r1 t1 p1 => hr g1 d p1 σ B1 H1 (A.gh x1 r1) (e.gx x1) _ fun vs ds g2 B2 H2 x2 r2 t2 p2 => q (v :: vs) (d :: ds) g2 B2 H2 (x1.trans x2) r2 (.cons (dp_mono x2.b t1) t2) ⟨g1, d, ds, rfl, p1, p2⟩
theorem EaW.imp {P P' : G → List D → Prop} (h : EaW c tr env g P) (k : ∀ g l, P g l → P' g l) : EaW c tr env g P' := fun σ B H A e Q q => h σ B H A e Q fun v d g' B' H' x r t p => q v d g' B' H' x r t (k g' d p)
theorem eaw {P : List D → Prop} (h : EvAP (c.at g) tr env P) : EaW c tr env g (fun g' l => g' = g ∧ P l) := fun σ B H A e Q q => h σ B H A e Q fun v d B' H' x r t p => q v d g B' H' x r t ⟨rfl, p⟩
theorem ew_tup {P : G → List D → Prop} (h : EaW c tr env g P) (hz : ∀ g l, P g l → l.length ≤ 1000000) : EvW c (tTup tr) env g (fun g' d => ∃ l, d = .tuple l ∧ P g' l) := fun σ B H A e Q q =>
  h σ B H A e _ fun vs ds g1 B1 H1 x1 r1 t1 p1 => ⟨sz (by rw [dps_len t1]; exact hz g1 ds p1), fun p hp => by
    obtain ⟨x2, r2⟩ := (A.gh x1 r1).new (o := .tup vs) hp
    exact q _ _ g1 _ _ (x1.trans x2) r2 (.tup (SqT.of upd_same) (dps_mono x2.b t1)) ⟨ds, rfl, p1⟩⟩
theorem ew_if {x : Bool} (h : EvB (c.at g) tt env x) (h1 : x = true → EvW c ta env g P) (h2 : x = false → EvW c tb env g P) : EvW c (tIf tt ta tb) env g P := fun σ B H A e Q q =>
  h σ B H A e _ fun y B1 H1 x1 r1 p => by
    subst p
    cases y with
    | true =>
      show ta σ H1 Q
      exact h1 rfl σ B1 H1 (A.gh x1 r1) (e.gx x1) Q fun z d g3 B3 H3 x3 r3 t3 p3 => q z d g3 B3 H3 (x1.trans x3) r3 t3 p3
    | false =>
      show tb σ H1 Q
      exact h2 rfl σ B1 H1 (A.gh x1 r1) (e.gx x1) Q fun z d g3 B3 H3 x3 r3 t3 p3 => q z d g3 B3 H3 (x1.trans x3) r3 t3 p3
/-- an operator, its operands one behind the other -/
theorem ew_op {r : R2} {Pa : G → D → Prop} {Pb : G → D → G → D → Prop} (ha : EvW c ta env g Pa) (hb : ∀ g1 a, Pa g1 a → EvW c tb env g1 (Pb g1 a)) (hr : ∀ g1 a g2 b, Pa g1 a → Pb g1 a g2 b → OpD (c.at g2) r a b (P g2)) : EvW c (tOp r ta tb) env g P := fun σ B H A e Q q =>
  ha σ B H A e _ fun v a g1 B1 H1 x1 r1 t1 p1 => hb g1 a p1 σ B1 H1 (A.gh x1 r1) (e.gx x1) _ fun u b g2 B2 H2 x2 r2 t2 p2 =>
    hr g1 a g2 b p1 p2 B2 H2 v u (At.gh (A.gh x1 r1) x2 r2) (dp_mono x2.b t1) t2 Q fun z d B3 H3 x3 r3 t3 p3 => q z d g2 B3 H3 ((x1.trans x2).trans x3) r3 t3 p3
theorem EnW.imp {P P' : G → List D → Prop} (h : EnW c te env g P) (k : ∀ g l, P g l → P' g l) : EnW c te env g P' := fun σ B H A e Q q => h σ B H A e Q fun p xs ds g' B' H' x r h0 hb h1 t pp => q p xs ds g' B' H' x r h0 hb h1 t (k g' ds pp)
theorem enw {P : List D → Prop} (h : EvN (c.at g) te env P) : EnW c te env g (fun g' l => g' = g ∧ P l) := fun σ B H A e Q q => h σ B H A e Q fun p xs ds B' H' x r h0 hb h1 t pp => q p xs ds g B' H' x r h0 hb h1 t ⟨rfl, pp⟩
theorem enw_lst {P : G → List D → Prop} (h : EaW c tr env g P) (hz : ∀ g l, P g l → l.length ≤ 1000000) : EnW c (tLst tr) env g P := fun σ B H A e Q q =>
  h σ B H A e _ fun vs ds g1 B1 H1 x1 r1 t1 p1 => ⟨sz (by rw [dps_len t1]; exact hz g1 ds p1), fun p hp => by
    obtain ⟨x2, r2⟩ := (A.gh x1 r1).newOwn (o := .lst vs) hp
    have h0 : H p = none := by
      cases z : H p with
      | none => rfl
      | some o => exact absurd hp (x1.t p (by rw [z]; exact nofun))
    exact q p vs ds g1 B1 _ (x1.trans x2) r2 h0 (fresh_b x1.s hp) upd_same t1 p1⟩
/-- a new list made stable -/
theorem ew_new {P : G → List D → Prop} (h : EnW c te env g P) : EvW c te env g (fun g' d => ∃ l, d = .list l ∧ P g' l) := fun σ B H A e Q q =>
  h σ B H A e _ fun p xs ds g1 B1 H1 x1 r1 h0 hb h1 t1 p1 => by
    have hs : ¬ c.S p := A.notS h0
    refine q _ _ g1 (upd B1 p (.lst xs)) H1 (x1.freeze h0 h1 hb) ((c.res g1).stab r1 (Ex.new hb) (fun _ _ _ z => z) fun q hq => ?_) (.lst upd_same (dps_mono (Ex.new hb) t1)) ⟨ds, rfl, p1⟩
    rw [upd_ne (fun e => hs (by rw [← e]; exact hq))]
    exact ((c.res g1).live r1 hq).2
theorem ebw {P : Bool → Prop} (h : EvTP (c.at g) tt env P) : EbW c tt env g (fun g' b => g' = g ∧ P b) := fun σ B H A e Q q => h σ B H A e Q fun b B' H' x r p => q b g B' H' x r ⟨rfl, p⟩
theorem ebw_test {P : G → Bool → Prop} (h : EvW c ta env g (fun g' d => ∃ b, d = .bool b ∧ P g' b)) : EbW c (tTest ta) env g P := fun σ B H A e Q q =>
  h σ B H A e _ fun v d g1 B1 H1 x1 r1 t1 ⟨b, p1, p2⟩ => by
    subst p1
    rw [dp_bool_inv t1]
    exact ⟨b, rfl, q b g1 B1 H1 x1 r1 p2⟩
theorem ebw_B {P : G → Bool → Prop} (h : EvW c ta env g (fun g' d => ∃ b, d = .bool b ∧ P g' b)) : EbW c (tB ta) env g P := ebw_test h
theorem ebw_not {P : G → Bool → Prop} (h : EbW c tt env g P) : EbW c (tNot tt) env g (fun g' b => P g' (!b)) := fun σ B H A e Q q =>
  h σ B H A e _ fun b g1 B1 H1 x1 r1 p => q _ g1 B1 H1 x1 r1 (show P g1 (!(!b)) by rw [Bool.not_not]; exact p)
end
/-! ### what is walked, whatever the resource -/
def SrcK (K : PySem.W.Frag) (J : It) (B : Hp) (ds : List D) : Prop := ∃ (Gp : Hp → Prop) (Y : Nat → Hp → V → Hp → Prop), Walk J ds.length Gp Y ∧ (∀ H, Ex B H → Gp H) ∧
  ∀ (i : Nat) (d : D) (x : V) (B2 H H' : Hp), ds[i]? = some d → Ex B2 H → Ex B B2 → Y i H x H' → ∃ B3, Ext (fun _ => False) B2 H B3 H' ∧ Dt K B3 x d
def EiK (c : Cn) (wi : TI) (env : List Sl) (P : List D → Prop) : Prop := ∀ (σ : Sg) (B H : Hp), At c B H → EnvOk c B H σ env → ∀ R : It → Hp → Prop, (∀ J B' H' ds, Ext c.S B H B' H' → c.R B' H' → SrcK c.K J B' ds → P ds → R J H') → wi σ H R
theorem EiK.imp {c : Cn} {wi : TI} {env : List Sl} {P P' : List D → Prop} (h : EiK c wi env P) (k : ∀ ds, P ds → P' ds) : EiK c wi env P' := fun σ B H A e R q => h σ B H A e R fun J B' H' ds x r s p => q J B' H' ds x r s (k ds p)
section
variable {c : Cn} {env : List Sl} {te ta tb : TE}
theorem eik_list {ds : List D} (h : Ev c te env (.list ds)) : EiK c (iList c.K te) env (fun l => l = ds) := fun σ B H A e R q =>
  h σ B H A e _ fun v d B1 H1 x1 r1 t1 p1 => by
    subst p1
    cases t1 with
    | lst h1 a1 =>
      rename_i a xs
      refine ⟨a, rfl, ⟨xs, SqL.of (x1.s _ _ h1)⟩, q _ B1 H1 ds x1 r1 ⟨fun H => SqL c.K H a xs, YAt xs, ?_, fun H e => SqL.of (e _ _ h1), ?_⟩ rfl⟩
      · rw [← dps_len a1]
        exact walk_list
      · rintro i d x B2 H2 H3 hd A2 e2 ⟨rfl, hx⟩
        obtain ⟨d', g1, g2⟩ := dps_at a1 hx
        rw [hd] at g1
        cases g1
        exact ⟨B2, Ext.refl A2, dp_mono e2 g2⟩
theorem eik_tup {ds : List D} (h : Ev c te env (.tuple ds)) : EiK c (iTup c.K te) env (fun l => l = ds) := fun σ B H A e R q =>
  h σ B H A e _ fun v d B1 H1 x1 r1 t1 p1 => by
    subst p1
    cases t1 with
    | tup h1 a1 =>
      rename_i a xs
      refine ⟨a, rfl, ⟨xs, ex_t x1.s h1⟩, q _ B1 H1 ds x1 r1 ⟨fun H => SqT c.K H a xs, YAt xs, ?_, fun H e => ex_t e h1, ?_⟩ rfl⟩
      · rw [← dps_len a1]
        exact walk_tup
      · rintro i d x B2 H2 H3 hd A2 e2 ⟨rfl, hx⟩
        obtain ⟨d', g1, g2⟩ := dps_at a1 hx
        rw [hd] at g1
        cases g1
        exact ⟨B2, Ext.refl A2, dp_mono e2 g2⟩
theorem srck_pair {K : PySem.W.Frag} {J : It} {B : Hp} {ds : List D} {xs : List V} {Gp : Hp → Prop} (t : DtAll K B xs ds) (w : Walk J xs.length Gp (YPair (fun i => some (.int (i : Nat))) fun i => xs[i]?)) (hG : ∀ H, Ex B H → Gp H) : SrcK K J B (enumD ds) := by
  refine ⟨Gp, YPair (fun i => some (.int (i : Nat))) (fun i => xs[i]?), ?_, hG, ?_⟩
  · rw [enumD_len, ← dps_len t]
    exact w
  · rintro i d x B2 H H' hd A e2 ⟨p, y, z, rfl, hp, rfl, hy, hz⟩
    cases hy
    rw [enumD_at] at hd
    obtain ⟨d', g1, g2⟩ := dps_at t hz
    rw [g1] at hd
    cases hd
    have x2 : Ext (fun _ => False) B2 H (upd B2 p (.tup [.int (i : Nat), z])) (upd H p (.tup [.int (i : Nat), z])) := Ext.new A hp
    exact ⟨_, x2, .tup (SqT.of upd_same) (.cons (.int _) (.cons (dp_mono (e2.trans x2.b) g2) .nil))⟩
theorem eik_enL {ds : List D} (h : Ev c te env (.list ds)) : EiK c (iEnumU c.K (tCons te tNil)) env (fun l => l = enumD ds) := fun σ B H A e R q => .inl (h σ B H A e _ fun v d B1 H1 x1 r1 t1 p1 => by
    subst p1
    cases t1 with
    | lst h1 a1 =>
      rename_i a xs
      exact ⟨a, xs, rfl, SqL.of (x1.s _ _ h1), q _ B1 H1 _ x1 r1 (srck_pair a1 walk_enum fun H e => SqL.of (e _ _ h1)) rfl⟩)
theorem eik_enT {ds : List D} (h : Ev c te env (.tuple ds)) : EiK c (iEnumU c.K (tCons te tNil)) env (fun l => l = enumD ds) := fun σ B H A e R q => .inr (h σ B H A e _ fun v d B1 H1 x1 r1 t1 p1 => by
    subst p1
    cases t1 with
    | tup h1 a1 =>
      rename_i a xs
      exact ⟨a, xs, rfl, ex_t x1.s h1, q _ B1 H1 _ x1 r1 (srck_pair a1 walk_enumT fun H e => ex_t e h1) rfl⟩)
theorem eik_seqL {ds : List D} (h : Ev c te env (.list ds)) : EiK c (iSeq c.K te) env (fun l => l = ds) := fun σ B H A e R q => .inl (eik_list h σ B H A e R q)
theorem eik_seqT {ds : List D} (h : Ev c te env (.tuple ds)) : EiK c (iSeq c.K te) env (fun l => l = ds) := fun σ B H A e R q => .inr (eik_tup h σ B H A e R q)
theorem eik_rangeP {P : Nat → Prop} (h : EvP c ta env (fun d => ∃ n, d = nt n ∧ P n)) (hn : ∀ n, P n → n ≤ 1000000000) : EiK c (iRng1 (tCons ta tNil)) env (fun ds => ∃ n, ds = rangeD n ∧ P n) := fun σ B H A e R q =>
  h σ B H A e _ fun v d B1 H1 x1 r1 t1 ⟨n, p1, p2⟩ => by
    subst p1
    have hn := hn n p2
    rw [dp_int_inv t1]
    refine ⟨(n : Int), rfl, by omega, by omega, q _ B1 H1 (rangeD n) x1 r1 ⟨fun _ => True, YFn (fun i => .int (0 + (i : Nat))), ?_, fun _ _ => trivial, ?_⟩ ⟨n, rfl, p2⟩⟩
    · rw [rangeD_len, Int.toNat_natCast]
      exact walk_range
    · rintro i d x B2 H2 H3 hd A2 e2 ⟨rfl, rfl⟩
      rw [(rangeD_at hd).1]
      refine ⟨B2, Ext.refl A2, ?_⟩
      show Dt c.K B2 (.int (0 + (i : Nat))) (.int (i : Nat))
      rw [Int.zero_add]
      exact .int _
theorem eik_range {n : Nat} (h : Ev c ta env (nt n)) (hn : n ≤ 1000000000) : EiK c (iRng1 (tCons ta tNil)) env (fun l => l = rangeD n) :=
  (eik_rangeP (P := fun k => k = n) (h.imp fun d e => ⟨n, e, rfl⟩) (fun k e => by rw [e]; exact hn)).imp fun ds ⟨k, e1, e2⟩ => by rw [e1, e2]
end
section
variable {G : Type} {c : Gc G} {env : List Sl} {g : G} {te ta tb : TE} {tr : TA} {tt tu : TT}
theorem At.wide {B H B' H' : Hp} {g : G} (A : At (c.at g) B H) (x : Ext (fun _ => False) B H B' H') : At (c.at g) B' H' ∧ Ext c.S B H B' H' := ⟨⟨A.e.trans (x.wide fun _ z => z.elim), A.stay x⟩, x.wide fun _ z => z.elim⟩
/-- [e for target in iter], the turns changing the ghost -/
theorem enw_lc {wi : TI} {gt : TG} {vs : List Nat} {P : List D → Prop} {Post : G → List D → Prop} (hi : EiK (c.at g) wi env P) 
    (he : ∀ ds, P ds → ds.length ≤ 1000000 ∧ ∃ I : Nat → G → List D → Prop, I 0 g [] ∧ (∀ i g ls, I i g ls → ls.length ≤ i) ∧ (∀ g ls, I ds.length g ls → Post g ls) ∧
      ∀ (i : Nat) (d : D) (g : G) (ls : List D), ds[i]? = some d → I i g ls → ∃ env2 is b, HG (c.at g) gt d (wipeE env vs) env2 is ∧ (∀ j ∈ is, j ∈ vs) ∧ EvB (c.at g) tt env2 b ∧ (b = true → EvW c te env2 g (fun g' y => I (i + 1) g' (ls ++ [y]))) ∧ (b = false → I (i + 1) g ls)) :
    EnW c (tLc wi gt tt te vs) env g Post := fun σ B H A e Q q =>
  hi σ B H A e _ fun J B1 H1 ds x1 r1 src pd => by
    obtain ⟨hz, I, h0, hl, hP, he⟩ := he ds pd
    obtain ⟨Gp, Y, w, hG, hY⟩ := src
    intro Dl hD
    have A1 : At (c.at g) B1 H1 := A.go x1 r1
    have hB1 : B1 Dl = none := fresh_b x1.s hD
    have hS : ¬ c.S Dl := A1.notS hD
    have h00 : H Dl = none := by
      cases z : H Dl with
      | none => rfl
      | some o => exact absurd hD (x1.t Dl (by rw [z]; exact nofun))
    have hw : ∀ σ2 : Sg, σ2.length = (wipe σ vs).length → (∀ is : List Nat, (∀ j ∈ is, j ∈ vs) → (∀ j : Nat, j ∉ is → σ2[j]? = (wipe σ vs)[j]?) → wipe σ2 vs = wipe σ vs) := fun σ2 hl is hsub hj => by
      have q1 : wipe σ2 vs = wipe (wipe σ vs) vs := wipe_eq hl fun j hjv => hj j fun z => hjv (hsub j z)
      rw [q1, wipe_wipe]
    refine lc_it w (Pv := fun i H2 => ∃ (g2 : G) (B2 : Hp) (xs : List V) (ls : List D), Ext c.S B1 H1 B2 H2 ∧ c.R g2 B2 H2 ∧ B2 Dl = none ∧ H2 Dl = some (.lst xs) ∧ DtAll c.K B2 xs ls ∧ I i g2 ls)
      ⟨g, B1, [], [], (A1.newOwn hD).1, (A1.newOwn hD).2, hB1, upd_same, .nil, h0⟩ (fun i H2 _ ⟨g2, B2, _, _, x2, _⟩ => hG H2 (x2.b.trans x2.s)) ?_ ?_
    · rintro i x H2 H3 hi' ⟨g2, B2, xs, ls, x2, r2, hb2, hl2, t2, hI⟩ y
      have hd : ds[i]? = some ds[i] := List.getElem?_eq_getElem hi'
      have A2 : At (c.at g2) B2 H2 := A1.gh x2 r2
      obtain ⟨B3, x3, t3⟩ := hY i _ x B2 H2 H3 hd A2.e.s x2.b y
      obtain ⟨A3, x3⟩ := A2.wide x3
      obtain ⟨env2, is, b, hg, hsub, ht, hel, hne⟩ := he i _ g2 ls hd hI
      have e3 : EnvOk (c.at g2) B3 H3 (wipe σ vs) (wipeE env vs) := EnvOk.wipe (e.gx ((x1.trans x2).trans x3)) vs
      refine hg x _ B3 H3 A3 e3 t3 _ fun σ2 e2 l2 f2 => ⟨hw σ2 l2 is hsub f2, ?_⟩
      refine ht σ2 B3 H3 A3 e2 _ fun b' B4 H4 x4 r4 hb => ?_
      subst hb
      have A4 : At (c.at g2) B4 H4 := A3.go x4 r4
      have k34 : H4 Dl = some (.lst xs) := x4.k _ _ (x3.k _ _ hl2 hS) hS
      have n34 : B4 Dl = none := (x3.trans x4).n Dl (by rw [hl2]; exact nofun) hb2
      have hacc : xs.length < sizeLine := by
        rw [dps_len t2]
        have := hl i g2 ls hI
        exact szlt (by omega)
      cases b' with
      | true =>
        rw [if_pos rfl]
        refine hel rfl σ2 B4 H4 A4 (e2.gx x4) _ fun v d g5 B5 H5 x5 r5 t5 p5 => ?_
        have k5 : H5 Dl = some (.lst xs) := x5.k _ _ k34 hS
        have n5 : B5 Dl = none := x5.n Dl (by rw [k34]; exact nofun) n34
        have r5' : (c.at g5).R B5 H5 := r5
        refine ⟨xs, k5, hacc, g5, B5, xs ++ [v], ls ++ [d], (((x2.trans x3).trans x4).trans x5).setOwn hD n5 (by rw [k5]; exact nofun), r_setOwn (c := c.at g5) r5' hS, n5, upd_same, dps_app (dps_mono (x3.b.trans (x4.b.trans x5.b)) t2) (.cons t5 .nil), p5⟩
      | false =>
        rw [if_neg Bool.false_ne_true]
        exact ⟨g2, B4, xs, ls, (x2.trans x3).trans x4, r4, n34, k34, dps_mono (x3.b.trans x4.b) t2, hne rfl⟩
    · rintro H2 ⟨g2, B2, xs, ls, x2, r2, hb2, hl2, t2, hI⟩
      exact q Dl xs ls g2 B2 H2 (x1.trans x2) r2 h00 hb2 hl2 t2 (hP g2 ls hI)
end
/-! ### statements -/
structure PoW (G : Type) where
  nx : G → List Sl → Prop := fun _ _ => False
  rt : G → D → Prop := fun _ _ => False
  bk : G → List Sl → Prop := fun _ _ => False
  ct : G → List Sl → Prop := fun _ _ => False
structure GoesW {G : Type} (c : Gc G) (o : PoW G) (X : Ends) (B : Hp) : Prop where
  nx : ∀ (σ : Sg) (g : G) (B' H : Hp) (env : List Sl), Ex B B' → At (c.at g) B' H → EnvOk (c.at g) B' H σ env → o.nx g env → X.nx σ H
  rt : ∀ (v : V) (d : D) (g : G) (B' H : Hp), Ex B B' → At (c.at g) B' H → Dt c.K B' v d → o.rt g d → X.rt v H
  bk : ∀ (σ : Sg) (g : G) (B' H : Hp) (env : List Sl), Ex B B' → At (c.at g) B' H → EnvOk (c.at g) B' H σ env → o.bk g env → X.bk σ H
  ct : ∀ (σ : Sg) (g : G) (B' H : Hp) (env : List Sl), Ex B B' → At (c.at g) B' H → EnvOk (c.at g) B' H σ env → o.ct g env → X.ct σ H
def HSW {G : Type} (c : Gc G) (t : TS) (env : List Sl) (g : G) (o : PoW G) : Prop := ∀ (X : Ends) (σ : Sg) (B H : Hp), At (c.at g) B H → EnvOk (c.at g) B H σ env → GoesW c o X B → t X σ H
section
variable {G : Type} {c : Gc G} {env : List Sl} {g : G} {o o' : PoW G} {t u : TS} {te ta : TE} {i j : Nat} {tt : TT}
theorem GoesW.later {X : Ends} {B B' : Hp} (k : GoesW c o X B) (e : Ex B B') : GoesW c o X B' :=
  ⟨fun σ g C H env x => k.nx σ g C H env (e.trans x), fun v d g C H x => k.rt v d g C H (e.trans x), fun σ g C H env x => k.bk σ g C H env (e.trans x), fun σ g C H env x => k.ct σ g C H env (e.trans x)⟩
theorem HSW.imp (h : HSW c t env g o) (h1 : ∀ g e, o.nx g e → o'.nx g e) (h2 : ∀ g d, o.rt g d → o'.rt g d) (h3 : ∀ g e, o.bk g e → o'.bk g e) (h4 : ∀ g e, o.ct g e → o'.ct g e) : HSW c t env g o' := fun X σ B H A e k =>
  h X σ B H A e ⟨fun σ g C H env x a b p => k.nx σ g C H env x a b (h1 _ _ p), fun v d g C H x a b p => k.rt v d g C H x a b (h2 _ _ p), fun σ g C H env x a b p => k.bk σ g C H env x a b (h3 _ _ p), fun σ g C H env x a b p => k.ct σ g C H env x a b (h4 _ _ p)⟩
/-- what changes no ghost -/
theorem hw (h : HS (c.at g) t env { nx := o.nx g, rt := o.rt g, bk := o.bk g, ct := o.ct g }) : HSW c t env g o := fun X σ B H A e k =>
  h X σ B H A e ⟨fun σ C H env x a b p => k.nx σ g C H env x a b p, fun v d C H x a b p => k.rt v d g C H x a b p, fun σ C H env x a b p => k.bk σ g C H env x a b p, fun σ C H env x a b p => k.ct σ g C H env x a b p⟩
theorem hw_next (h : o.nx g env) : HSW c tNext env g o := fun X σ B H A e k => k.nx σ g B H env (Ex.refl B) A e h
theorem hw_seq (h : HSW c t env g { o with nx := fun g e => HSW c u e g o }) : HSW c (tSeq t u) env g o := fun X σ B H A e k =>
  h { X with nx := u X } σ B H A e ⟨fun σ' g' B' H' env' x A' e' p => p X σ' B' H' A' e' (k.later x), k.rt, k.bk, k.ct⟩
theorem hw_mid {Mid : G → List Sl → Prop} (h : HSW c t env g { nx := Mid }) (k : ∀ g e, Mid g e → HSW c u e g o) : HSW c (tSeq t u) env g o := hw_seq (h.imp k (fun _ _ z => z.elim) (fun _ _ z => z.elim) (fun _ _ z => z.elim))
/-- a step that changes no ghost, then the rest -/
theorem hw_pre (h : HS (c.at g) t env { nx := fun e => HSW c u e g o, rt := o.rt g, bk := o.bk g, ct := o.ct g }) : HSW c (tSeq t u) env g o := hw_seq (hw h)
theorem hw_ret {P : G → D → Prop} (h : EvW c te env g P) (k : ∀ g d, P g d → o.rt g d) : HSW c (tRet te) env g o := fun X σ B H A e gg =>
  h σ B H A e _ fun v d g1 B1 H1 x1 r1 t1 p1 => gg.rt v d g1 B1 H1 x1.b (A.gh x1 r1) t1 (k g1 d p1)
theorem hw_drop {P : G → D → Prop} (h : EvW c te env g P) (k : ∀ g d, P g d → o.nx g env) : HSW c (tDrop te) env g o := fun X σ B H A e gg =>
  h σ B H A e _ fun v d g1 B1 H1 x1 r1 t1 p1 => gg.nx σ g1 B1 H1 env x1.b (A.gh x1 r1) (e.gx x1) (k g1 d p1)
theorem hw_set {P : G → D → Prop} (h : EvW c te env g P) (k : ∀ g d, P g d → o.nx g (env.set i (.dat d))) : HSW c (tAsg te (gName i)) env g o := fun X σ B H A e gg =>
  h σ B H A e _ fun v d g1 B1 H1 x1 r1 t1 p1 => gg.nx _ g1 B1 H1 _ x1.b (A.gh x1 r1) (EnvOk.dat (c := c.at g1) (e.gx x1) t1) (k g1 d p1)
theorem hw_setN {P : G → List D → Prop} (h : EnW c te env g P) (k : ∀ g p ds, P g ds → o.nx g (env.set i (.own p ds))) : HSW c (tAsg te (gName i)) env g o := fun X σ B H A e gg =>
  h σ B H A e _ fun p xs ds g1 B1 H1 x1 r1 h0 hb h1 t1 p1 => by
    have A1 := A.gh x1 r1
    have e1 : EnvOk (c.at g1) B1 H1 σ env := e.gx x1
    have h00 : c.H0 p = none := by
      cases z : c.H0 p with
      | none => rfl
      | some o => exact absurd h0 (A.e.t p (by show c.H0 p ≠ none; rw [z]; exact nofun))
    exact gg.nx _ g1 B1 H1 _ x1.b A1 (EnvOk.own (c := c.at g1) e1 (fun z => e.live z h0) h1 t1 hb (A.notS h0) h00) (k g1 p ds p1)
theorem hw_if {P : G → Bool → Prop} (h : EbW c tt env g P) (h1 : ∀ g, P g true → HSW c t env g o) (h2 : ∀ g, P g false → HSW c u env g o) : HSW c (tIfS tt t u) env g o := fun X σ B H A e gg =>
  h σ B H A e _ fun y g1 B1 H1 x1 r1 p => by
    cases y with
    | true => exact h1 g1 p X σ B1 H1 (A.gh x1 r1) (e.gx x1) (gg.later x1.b)
    | false => exact h2 g1 p X σ B1 H1 (A.gh x1 r1) (e.gx x1) (gg.later x1.b)
theorem hw_ifB {b : Bool} (h : EvB (c.at g) tt env b) (h1 : b = true → HSW c t env g o) (h2 : b = false → HSW c u env g o) : HSW c (tIfS tt t u) env g o := fun X σ B H A e gg =>
  h σ B H A e _ fun y B1 H1 x1 r1 p => by
    subst p
    cases y with
    | true => exact h1 rfl X σ B1 H1 (A.gh x1 r1) (e.gx x1) (gg.later x1.b)
    | false => exact h2 rfl X σ B1 H1 (A.gh x1 r1) (e.gx x1) (gg.later x1.b)
theorem hw_for {wi : TI} {gt : TG} {P : List D → Prop} (h : EiK (c.at g) wi env P)
    (k : ∀ ds, P ds → ∃ I : Nat → G → List Sl → Prop, I 0 g env ∧ (∀ (i : Nat) (d : D) (g1 : G) (env1 : List Sl), ds[i]? = some d → I i g1 env1 → ∃ env2 is, HG (c.at g1) gt d env1 env2 is ∧ HSW c t env2 g1 { nx := I (i + 1), ct := I (i + 1), bk := o.nx, rt := o.rt }) ∧ ∀ g1 env1, I ds.length g1 env1 → o.nx g1 env1) : HSW c (tFor wi gt t) env g o := fun X σ B H A e gg =>
  h σ B H A e _ fun J B1 H1 ds x1 r1 src pd => by
    obtain ⟨I, h0, hs, hd⟩ := k ds pd
    obtain ⟨Gp, Y, w, hG, hY⟩ := src
    refine for_it w (Pv := fun i σ H => ∃ (g1 : G) (B2 : Hp) (env1 : List Sl), Ex B1 B2 ∧ At (c.at g1) B2 H ∧ EnvOk (c.at g1) B2 H σ env1 ∧ I i g1 env1) ⟨g, B1, env, Ex.refl B1, A.go x1 r1, e.gx x1, h0⟩ (fun i σ H _ ⟨_, B2, _, b, a, _⟩ => hG H (b.trans a.e.s)) ?_ ?_
    · rintro i x σ2 H2 H3 hi ⟨g1, B2, env1, b2, A2, e2, hI⟩ y
      have hdi : ds[i]? = some ds[i] := List.getElem?_eq_getElem hi
      obtain ⟨B3, x3, t3⟩ := hY i _ x B2 H2 H3 hdi A2.e.s b2 y
      obtain ⟨A3, x3⟩ := A2.wide x3
      obtain ⟨env2, is, hg, hb⟩ := hs i _ g1 env1 hdi hI
      refine hg x σ2 B3 H3 A3 (e2.gx x3) t3 _ fun σ' e' _ _ => ?_
      refine hb _ σ' B3 H3 A3 e' ⟨fun σ4 g4 B4 H4 env4 b4 A4 e4 k => ⟨g4, B4, env4, (b2.trans x3.b).trans b4, A4, e4, k⟩, fun v d g4 B4 H4 b4 A4 t4 k => gg.rt v d g4 B4 H4 (((x1.b.trans b2).trans x3.b).trans b4) A4 t4 k,
        fun σ4 g4 B4 H4 env4 b4 A4 e4 k => gg.nx σ4 g4 B4 H4 env4 (((x1.b.trans b2).trans x3.b).trans b4) A4 e4 k, fun σ4 g4 B4 H4 env4 b4 A4 e4 k => ⟨g4, B4, env4, (b2.trans x3.b).trans b4, A4, e4, k⟩⟩
    · rintro σ2 H2 ⟨g1, B2, env1, b2, A2, e2, hI⟩
      exact gg.nx σ2 g1 B2 H2 env1 (x1.b.trans b2) A2 e2 (hd g1 env1 hI)
/-- xs.append(e), e changing the ghost -/
theorem hw_app {P : G → D → Prop} {p : Addr} {ds : List D} (h : env[i]? = some (.own p ds)) (hz : ds.length < 1000000) (he : EvW c te env g P) (k : ∀ g d, P g d → o.nx g (env.set i (.own p (ds ++ [d])))) : HSW c (tDrop (tBM c.K "list" rAppend (tVar i) (tCons te tNil))) env g o := fun X σ B H A e gg => by
  obtain ⟨h1, xs, h2, h3, h4, h5, h6⟩ := e.ownAt h
  refine ⟨_, h1, .inl ⟨rfl, xs, SqL.of h2⟩, ?_⟩
  refine he σ B H A e _ fun v d g1 B1 H1 x1 r1 t1 p1 => ?_
  have A1 := A.gh x1 r1
  have e1 : EnvOk (c.at g1) B1 H1 σ env := e.gx x1
  have l1 : H1 p = some (.lst xs) := x1.k _ _ h2 h5
  refine ⟨p, xs, v, rfl, rfl, l1, szlt (by rw [dps_len h3]; exact hz), ?_⟩
  obtain ⟨A2, e2⟩ := own_step A1 e1 h (dps_app (dps_mono x1.b h3) (.cons t1 .nil))
  exact gg.nx σ g1 B1 _ _ x1.b A2 e2 (k g1 d p1)
end
theorem env_freeze {c : Cn} {B H : Hp} {σ : Sg} {env : List Sl} {i : Nat} {p : Addr} {ds : List D} (A : At c B H) (e : EnvOk c B H σ env) (h : env[i]? = some (.own p ds)) : ∃ xs, At c (upd B p (.lst xs)) H ∧ EnvOk c (upd B p (.lst xs)) H σ (env.set i (.dat (.list ds))) ∧ Ex B (upd B p (.lst xs)) := by
  obtain ⟨h1, xs, h2, h3, h4, h5, h6⟩ := e.ownAt h
  have hb : Ex B (upd B p (.lst xs)) := Evl.Ex.new h4
  have hl := (List.getElem?_eq_some_iff.mp h).1
  refine ⟨xs, A.freeze h6 h2 h4 h5, ⟨by rw [List.length_set, e.len], fun j s hs => ?_, e.nd.sublist (owns_set_sub fun _ _ z => nomatch z)⟩, hb⟩
  by_cases ej : i = j
  · subst ej
    rw [List.getElem?_set_self hl] at hs
    cases hs
    exact ⟨_, h1, _, rfl, .lst upd_same (dps_mono hb h3)⟩
  · rw [List.getElem?_set_ne ej] at hs
    obtain ⟨x, g1, g2⟩ := e.at_ j s hs
    refine ⟨x, g1, ?_⟩
    cases s with
    | no => exact trivial
    | dat d =>
      obtain ⟨v, z1, z2⟩ := g2
      exact ⟨v, z1, dp_mono hb z2⟩
    | raw v => exact g2
    | ow q es =>
      obtain ⟨z1, z2, z4, z5, z6⟩ := g2
      have hne : q ≠ p := by
        rintro rfl
        exact ej (owns_two e.nd h hs)
      exact ⟨z1, z2.go hb fun o z => z, by rw [upd_ne hne]; exact z4, z5, z6⟩
section
variable {G : Type} {c : Gc G} {env : List Sl} {g : G} {o o' : PoW G} {t u : TS} {te ta : TE} {i j : Nat} {tt : TT}
/-- an owned list is not to change any more -/
theorem hw_freeze {p : Addr} {ds : List D} (h : env[i]? = some (.own p ds)) (k : HSW c t (env.set i (.dat (.list ds))) g o) : HSW c t env g o := fun X σ B H A e gg => by
  obtain ⟨xs, A', e', hb⟩ := env_freeze A e h
  exact k X σ _ H A' e' (gg.later hb)
end
/-! ### defs and methods over such a resource -/
structure Rs (G : Type) where
  ρ : Type
  S : ρ → Addr → Prop
  R : ρ → G → Hp → Hp → Prop
  res : ∀ p g, Res (S p) (R p g)
  ref : ρ → Addr
@[reducible] def Rs.cn {G : Type} (r : Rs G) (K : PySem.W.Frag) (p : r.ρ) (B H : Hp) : Gc G := ⟨K, r.S p, r.R p, r.res p, B, H⟩
def GSp {G α : Type} (r : Rs G) (K : PySem.W.Frag) (enc : α → List D) (pre : G → α → Prop) (post : G → α → G → D → Prop) : Sp := fun vs H Q _ => ∃ (p : r.ρ) (g : G) (B : Hp) (us : List V) (a : α), vs = .ref (r.ref p) :: us ∧ Ex B H ∧ r.R p g B H ∧ DtAll K B us (enc a) ∧ pre g a ∧
  ∀ v d g' B' H', Ext (r.S p) B H B' H' → r.R p g' B' H' → Dt K B' v d → post g a g' d → Q v H'
section
variable {G α : Type} {r : Rs G} {K : PySem.W.Frag} {p : r.ρ} {B0 H0 : Hp} {env : List Sl} {g : G} {i : Nat} {tr : TA} {enc : α → List D} {pre : G → α → Prop} {post : G → α → G → D → Prop} {Pa : G → List D → Prop} {P : G → D → Prop} {E : XK} {C : Addr} {m : Str}
theorem ew_callP (hi : env[i]? = some (.raw (.ref (r.ref p)))) (h : EaW (r.cn K p B0 H0) tr env g Pa) (k : ∀ g1 ds, Pa g1 ds → ∃ a, ds = enc a ∧ pre g1 a ∧ ∀ g' d, post g1 a g' d → P g' d) : EvW (r.cn K p B0 H0) (tCall (GSp r K enc pre post) [] E (tCons (tVar i) tr)) env g P := fun σ B H A e Q q => by
  obtain ⟨x, g1, g2⟩ := e.at_ i _ hi
  have g2 : x = some (.ref (r.ref p)) := g2
  subst g2
  refine ⟨.ref (r.ref p), g1, ?_⟩
  refine h σ B H A e _ fun vs ds gh B1 H1 x1 r1 t1 p1 => ?_
  obtain ⟨a, rfl, hp, hq⟩ := k gh ds p1
  refine ⟨p, gh, B1, vs, a, by rw [List.append_nil], x1.s, r1, t1, hp, fun v d g' B2 H2 x2 r2 t2 p2 => ?_⟩
  exact q v d g' B2 H2 (x1.trans x2) r2 t2 (hq g' d p2)
theorem ew_call (a : α) (hi : env[i]? = some (.raw (.ref (r.ref p)))) (h : EvA ((r.cn K p B0 H0).at g) tr env (enc a)) (hp : pre g a) : EvW (r.cn K p B0 H0) (tCall (GSp r K enc pre post) [] E (tCons (tVar i) tr)) env g (post g a) :=
  ew_callP hi (eaw h) fun g1 ds ⟨e1, e2⟩ => ⟨a, e2, by rw [e1]; exact hp, fun g' d z => by rw [e1] at z; exact z⟩
theorem ew_methP (hi : env[i]? = some (.raw (.ref (r.ref p)))) (hin : ∀ g B H, r.R p g B H → ∃ dx fs, H (r.ref p) = some (.ins C dx fs) ∧ fs.lookup m = none) (h : EaW (r.cn K p B0 H0) tr env g Pa) (k : ∀ g1 ds, Pa g1 ds → ∃ a, ds = enc a ∧ pre g1 a ∧ ∀ g' d, post g1 a g' d → P g' d) :
    EvW (r.cn K p B0 H0) (tMeth C m (GSp r K enc pre post) [] E (tVar i) tr) env g P := fun σ B H A e Q q => by
  obtain ⟨x, g1, g2⟩ := e.at_ i _ hi
  have g2 : x = some (.ref (r.ref p)) := g2
  subst g2
  obtain ⟨dx, fs, f1, f2⟩ := hin g B H A.r
  refine ⟨.ref (r.ref p), g1, r.ref p, dx, fs, rfl, f1, f2, ?_⟩
  refine h σ B H A e _ fun vs ds gh B1 H1 x1 r1 t1 p1 => ?_
  obtain ⟨a, rfl, hp, hq⟩ := k gh ds p1
  refine ⟨p, gh, B1, vs, a, by rw [List.append_nil], x1.s, r1, t1, hp, fun v d g' B2 H2 x2 r2 t2 p2 => ?_⟩
  exact q v d g' B2 H2 (x1.trans x2) r2 t2 (hq g' d p2)
theorem ew_meth (a : α) (hi : env[i]? = some (.raw (.ref (r.ref p)))) (hin : ∀ g B H, r.R p g B H → ∃ dx fs, H (r.ref p) = some (.ins C dx fs) ∧ fs.lookup m = none) (h : EvA ((r.cn K p B0 H0).at g) tr env (enc a)) (hp : pre g a) :
    EvW (r.cn K p B0 H0) (tMeth C m (GSp r K enc pre post) [] E (tVar i) tr) env g (post g a) :=
  ew_methP hi hin (eaw h) fun g1 ds ⟨e1, e2⟩ => ⟨a, e2, by rw [e1]; exact hp, fun g' d z => by rw [e1] at z; exact z⟩
end
section
variable {G α : Type} {r : Rs G} {P : Program} {w : World} {K : PySem.W.Frag} {mg : Str → Option Value} {base : Heap} {k : Nat} {f : Addr} {fd : FuncData} {x qual : Str} {params : Arguments} {body : List Stmt} {scope : Scope} {N ps : List Str} {enc : α → List D} {pre : G → α → Prop} {post : G → α → G → D → Prop}
theorem fn_ghost {t : TS} (F : FunD K x qual params body scope [] [] f fd) (S : FnScope N ps scope) (hl : ∀ g a, pre g a → (enc a).length + 1 = ps.length)
    (hb : ∀ (cdv : Value) (A : Around) (outer : List Env) (s : Shared) (H : Hp) (E : XK), (A.deeper (envOfC qual scope s.heap.objs.size f cdv)).guards = some [] → Room k (A.deeper (envOfC qual scope s.heap.objs.size f cdv)) →
      PSs (cxOf CX0 P w K mg base N qual scope f cdv A outer s H E).nox body t)
    (hh : ∀ (p : r.ρ) (B0 H0 : Hp) (g : G) (a : α), pre g a → HSW (r.cn K p B0 H0) t (.raw (.ref (r.ref p)) :: ((enc a).map .dat ++ List.replicate (N.length - ((enc a).length + 1)) .no)) g { nx := fun g' _ => post g a g' .none, rt := post g a }) :
    FnG P w K mg base CX0 (k + 1) f fd ps (GSp r K enc pre post) := by
  refine FunDg F S (fun vs H Q E h => ?_) fun cdv A outer s H vs Q E hg hr h => ?_
  · obtain ⟨p, g, B, us, a, rfl, _, _, t, hp, _⟩ := h
    rw [List.length_cons, dps_len t]
    exact hl g a hp
  · obtain ⟨p, g, B, us, a, rfl, ex, rr, ta, hp, q⟩ := h
    refine ⟨t, PSs.nox (hb cdv A outer s H E hg hr), ?_⟩
    have s0 : SlsOk ((r.cn K p B H).at g) B H (.ref (r.ref p) :: us) (.raw (.ref (r.ref p)) :: (enc a).map .dat) := ⟨rfl, sls_dat ta⟩
    have e0 := env_start (N := N) s0 (owns_dat (enc a))
    rw [List.length_cons, List.length_map] at e0
    refine hh p B H g a hp _ _ B H ⟨Ext.refl ex, rr⟩ e0 ⟨fun σ' g' B' H' env _ A' _ q' => ?_, fun v d g' B' H' _ A' t' q' => ?_, fun _ _ _ _ _ _ _ _ z => z.elim, fun _ _ _ _ _ _ _ _ z => z.elim⟩
    · exact q _ _ g' B' H' A'.e A'.r .non q'
    · exact q v d g' B' H' A'.e A'.r t' q'
/-- a method of a class, called by its name -/
def CalM (P : Program) (w : World) (K : PySem.W.Frag) (mg : Str → Option Value) (base : Heap) (C : Addr) (m : Str) (ps : List Str) (k : Nat) (sp : Sp) : Prop :=
  ∃ (f : Addr) (fd : FuncData), Meth K C m f ∧ FnG P w K mg base CX0 k f fd ps sp ∧ Binds K fd ps []
end
section
variable {X : Cx} {k : Nat} {ps : List Str} {sp : Sp} {C : Addr} {m : Str} {p apos pos : Pos} {o e : Expr} {es : List Expr} {ta : TE} {t : TA}
theorem pe_calM {pl : Sem Bool} (c : Cls X.K C) (M : CalM X.prog X.w X.K X.mg X.base C m ps k sp) (hgu : X.A.guards = some []) (hr : Room k X.A) (he : PE X o ta) (ha : PA X (e :: es) t)
    (hst : starEach (e :: es) X.env = (false, eval e X.env) :: starEach es X.env := by rfl) (hpl : (backTo pos (starEach es X.env)).any (·.1) = false := by rfl)
    (ht : eval (.Call (.Attribute o m apos) (e :: es) [] pos) X.env = (do
      let ov ← eval o X.env
      standAt apos.atName
      let (f, first) ← holding [ov] (getMethod ov m pl)
      callWith pos f first (backTo pos (starEach (e :: es) X.env)) (backToKw pos (keywordEach [] X.env))) := by rfl) :
    PE X (.Call (.Attribute o m apos) (e :: es) [] pos) (tMeth C m sp [] E0 ta t) := by
  obtain ⟨f, fd, hm, F, hb⟩ := M
  refine ⟨fun pins s σ H Q I h => ?_⟩
  refine PySem.W.methodCall_KW (pl := pl) (thn (he.run pins s σ H _ I h) fun u s1 ⟨x, H1, I1, rx, a, dx, fs, ex, ea, l, q⟩ => ?_) ht
  subst ex
  obtain rfl : u = Value.ref a := rx
  refine getmeth_ok I1 ea c hm l ?_
  refine PySem.W.callWith_K (first := [.ref a]) (h₀ := X.base) I.ok.mod.kin hm.kp (thn (ha.run pos pins s1 σ H1 _ I1 q) fun us s2 ⟨vs, H2, I2, r, q2⟩ => ⟨I2.kIn, ?_⟩) hst hpl
  exact F.go (us := .ref a :: us) (vs := .ref a :: vs) hgu hr hb .nil pass0 I2 (.cons rfl r) q2
theorem pe_calM0 {pl : Sem Bool} (c : Cls X.K C) (M : CalM X.prog X.w X.K X.mg X.base C m ps k sp) (hgu : X.A.guards = some []) (hr : Room k X.A) (he : PE X o ta)
    (ht : eval (.Call (.Attribute o m apos) [] [] pos) X.env = (do
      let ov ← eval o X.env
      standAt apos.atName
      let (f, first) ← holding [ov] (getMethod ov m pl)
      callWith pos f first (backTo pos (starEach [] X.env)) (backToKw pos (keywordEach [] X.env))) := by rfl) :
    PE X (.Call (.Attribute o m apos) [] [] pos) (tMeth C m sp [] E0 ta tNil) := by
  obtain ⟨f, fd, hm, F, hb⟩ := M
  refine ⟨fun pins s σ H Q I h => ?_⟩
  refine PySem.W.methodCall_KW (pl := pl) (thn (he.run pins s σ H _ I h) fun u s1 ⟨x, H1, I1, rx, a, dx, fs, ex, ea, l, q⟩ => ?_) ht
  subst ex
  obtain rfl : u = Value.ref a := rx
  refine getmeth_ok I1 ea c hm l ?_
  exact PySem.W.callWith_K0 (first := [.ref a]) I1.kIn hm.kp (F.go (us := [.ref a]) (vs := [.ref a]) hgu hr hb .nil pass0 I1 (.cons rfl .nil) q)
/-- a class made by its __init__ -/
def CalI (P : Program) (w : World) (K : PySem.W.Frag) (mg : Str → Option Value) (base : Heap) (C : Addr) (ps : List Str) (k : Nat) (sp : Sp) : Prop :=
  ∃ (f : Addr) (fd : FuncData), Mk K C f ∧ FnG P w K mg base CX0 k f fd ps sp ∧ Binds K fd ps []
theorem run_makeg {f : Addr} {fd : FuncData} {pins : List (Addr × Obj)} {σ : L2.St} {H : Hp} {s : Shared} {Q : VK} {us : List Value} {vs : List V} (M : Mk X.K C f) (F : FnG X.prog X.w X.K X.mg X.base CX0 k f fd ps sp) (hgu : X.A.guards = some []) (hr : Room (k + 1) X.A) (hb : Binds X.K fd ps [])
    (I : Inv X pins σ H s) (r : Vals vs us)
    (h : ∀ x dx, H x = none → H dx = none → dx ≠ x → sp (.ref x :: (vs ++ [])) (upd (upd H dx (.own x)) x (.ins C dx [])) (fun v H2 => v = .non ∧ Q (.ref x) H2) E0) :
    wpAny (model X.prog X.w) X.A (call (.ref C) us) (EP X pins σ Q) X.xe s := by
  have hq := h (s.heap.objs.size + 1) s.heap.objs.size (I.hok.fresh (Nat.le_succ _)) (I.hok.fresh (Nat.le_refl _)) (Nat.ne_of_lt (Nat.lt_succ_self _))
  have I2 := Inv.made (C := C) I
  have r2 : Vals (V.ref (s.heap.objs.size + 1) :: (vs ++ [])) (Value.ref (s.heap.objs.size + 1) :: (us ++ [])) := .cons rfl (r.append .nil)
  have hl : (Value.ref (s.heap.objs.size + 1) :: us ++ []).length = ps.length := by
    have e := r2.length
    rw [F.len _ _ _ _ hq] at e
    exact e.symm
  refine wpAny_call (make_map (f := f) I.kIn M.makes M.init (beq_iff_eq.mp M.fn) (codeAny_mono (F.run _ X.stack _ _ ⟨Value.ref (s.heap.objs.size + 1) :: us, []⟩ (Value.ref (s.heap.objs.size + 1) :: (us ++ [])) _ _ E0 ?_ (hr.make C us [])
    (I2.env0.make C us []) (by
      have q := hb _ (Value.ref (s.heap.objs.size + 1) :: us) I2.kIn hl
      rw [List.cons_append] at q
      exact q) r2 hq) fun r s' hq' => ?_))
  · exact hgu
  cases r with
  | error e => exact pass0 pins σ _ _ e s' I2 hq'
  | ok fl =>
    cases fl with
    | ret u =>
      obtain ⟨v, H', I3, rv, ev, q3⟩ := I2.after hq'
      subst ev
      exact ⟨rv, ⟨V.ref (s.heap.objs.size + 1), H', I3, rfl, q3⟩⟩
    | next => exact False.elim hq'
    | brk => exact False.elim hq'
    | cont => exact False.elim hq'
theorem pe_calI {x : Str} (M : CalI X.prog X.w X.K X.mg X.base C ps k sp) (hgu : X.A.guards = some []) (hr : Room (k + 1) X.A) (hg : Gl X x) (hm : X.mg x = some (.ref C)) (ha : PA X (e :: es) t) (hdb : (x == ("__debug__" : Str)) = false := by decide)
    (he : starEach (e :: es) X.env = (false, eval e X.env) :: starEach es X.env := by rfl) (hpl : (backTo pos (starEach es X.env)).any (·.1) = false := by rfl) :
    PE X (.Call (.Name x p) (e :: es) [] pos) (tMake C sp [] E0 t) := by
  obtain ⟨f, fd, M, F, hb⟩ := M
  refine ⟨fun pins s σ H Q I h => ?_⟩
  refine wpAny_Call_Name_kw (ld_glob I hg hm ?_ hdb)
  refine PySem.W.callWith_K (h₀ := X.base) I.ok.mod.kin M.kp (thn (ha.run pos pins s σ H _ I h) fun us s1 ⟨vs, H1, I1, r, q⟩ => ⟨I1.kIn, ?_⟩) he hpl
  exact run_makeg M F hgu hr hb I1 r q
end
end DL
/-! Dnb: isinstance of data, chains of comparisons, equal tuples. -/
namespace DL
open PySem PySem.Spec PyProof.Rows L2
open Evl (Ex ex_l ex_t)
theorem takes0 {X : Cx} : Takes X (fun _ _ _ _ => False) := fun u s' ⟨_, _, _, _, _, _, _, _, _, _, _, _, _, _, _, _, w⟩ => w.elim
def dTy : D → String
  | .none => "NoneType"
  | .bool _ => "bool"
  | .int _ => "int"
  | .str _ => "str"
  | .list _ => "list"
  | .tuple _ => "tuple"
  | .dict _ => "dict"
theorem tyx_of {K : PySem.W.Frag} {H : Hp} {v : V} {d : D} (h : Dt K H v d) : TyX K H v (.type (dTy d)) := by
  cases h with
  | non => exact .base .non
  | bl b => exact .base (.bl b)
  | int i => exact .base (.int i)
  | str x => exact .base (.str x)
  | lst h _ => exact .base (.lst h)
  | tup h _ =>
    rcases h with (h | ⟨o, h⟩) | ⟨o, its, n, h1, h2, h3, _⟩
    · exact .base (.tup h)
    · exact .fTuple h
    · exact .kTuple h1 h2
  | dic h _ => exact .base (.dK h)
section
variable {c : Cn} {env : List Sl} {te ta tb tc : TE} {d : D}
theorem ev_isi {n : String} {b : Bool} (h : Ev c te env d) (k : kitB (dTy d) n = some b) : Ev c (tCB (rIsi c.K) (tCons te (tCons (tC (.ty n)) tNil))) env (.bool b) := fun σ B H A e Q q =>
  h σ B H A e _ fun v d' B1 H1 x1 r1 t1 p1 => by
    subst p1
    exact ⟨v, .ty n, _, .type n, b, rfl, .ty n, tyx_of (dp_mono x1.s t1), kit_ty k, q _ _ B1 H1 x1 r1 (.bl _) rfl⟩
/-- a op b op c of ints -/
theorem et_chainI {f g : Int → Int → Bool} {i j k : Int} {x : Bool} (ha : Ev c ta env (.int i)) (hb : Ev c tb env (.int j)) (hc : Ev c tc env (.int k)) (hx : (f i j && g j k) = x) : EvB c (tTest (tChain (rI0 fun i j => .bl (f i j)) (rI0 fun i j => .bl (g i j)) ta tb tc)) env x := fun σ B H A e Q q =>
  ha σ B H A e _ fun v d B1 H1 x1 r1 t1 p1 => hb σ B1 H1 (A.go x1 r1) (e.go x1) _ fun u d2 B2 H2 x2 r2 t2 p2 => by
    subst p1 p2
    refine ⟨i, j, dp_int_inv t1, dp_int_inv t2, f i j, rfl, ?_⟩
    cases hf : f i j with
    | true =>
      rw [if_pos rfl]
      refine hc σ B2 H2 ((A.go x1 r1).go x2 r2) ((e.go x1).go x2) _ fun w d3 B3 H3 x3 r3 t3 p3 => ?_
      subst p3
      rw [hf, Bool.true_and] at hx
      exact ⟨j, k, dp_int_inv t2, dp_int_inv t3, g j k, rfl, q _ B3 H3 ((x1.trans x2).trans x3) r3 hx⟩
    | false =>
      rw [if_neg (by decide)]
      rw [hf, Bool.false_and] at hx
      exact ⟨false, rfl, q _ B2 H2 (x1.trans x2) r2 hx⟩
end
end DL
namespace SS
open PySem PySem.Spec PyProof.Rows L2 DL
def top (i : Nat) : Stmt := PySem.Challenge.pw_carryladder_k70_whole_programs_with_the.main.body.getD i (.Pass ⟨0, 0, 0, 0⟩)
/-! ### data -/
abbrev Row := List (Nat × Nat)
def encP (p : Nat × Nat) : D := .tuple [nt p.1, nt p.2]
def encR (r : Row) : D := .tuple (r.map encP)
def encT (rows : List Row) : D := .tuple (rows.map encR)
def encM (m : Nat) (rows : List Row) : D := .tuple [nt m, encT rows]
def encW (ws : List Nat) : D := .tuple (ws.map nt)
def encL (ws : List Nat) : D := .list (ws.map nt)
structure Ok (m : Nat) (rows : List Row) : Prop where
  m2 : m ≤ 2
  pos : 0 < rows.length
  few : rows.length ≤ 24
  len : ∀ r ∈ rows, r.length = 2 ^ m
  st : ∀ r ∈ rows, ∀ p ∈ r, p.1 < rows.length ∧ p.2 < 2
/-! ### machines: where they lead, what they write, which states are alike -/
def stepR (rows : List Row) (q x : Nat) : Nat × Nat := (rows[q]?.getD [])[x]?.getD (0, 0)
abbrev stp (rows : List Row) (q x : Nat) : Nat := (stepR rows q x).1
abbrev out (rows : List Row) (q x : Nat) : Nat := (stepR rows q x).2
inductive Rch (m : Nat) (rows : List Row) : Nat → Prop
  | zero : Rch m rows 0
  | step {q x : Nat} : Rch m rows q → x < 2 ^ m → Rch m rows (stp rows q x)
/-- alike for n letters -/
def Ek (m : Nat) (rows : List Row) : Nat → Nat → Nat → Prop
  | 0, _, _ => True
  | n + 1, p, q => ∀ x, x < 2 ^ m → out rows p x = out rows q x ∧ Ek m rows n (stp rows p x) (stp rows q x)
def Eqv (m : Nat) (rows : List Row) (p q : Nat) : Prop := ∀ n, Ek m rows n p q
/-- alike for n letters, states of two machines -/
def EkX (m : Nat) (r1 r2 : List Row) : Nat → Nat → Nat → Prop
  | 0, _, _ => True
  | n + 1, p, q => ∀ x, x < 2 ^ m → out r1 p x = out r2 q x ∧ EkX m r1 r2 n (stp r1 p x) (stp r2 q x)
def EqX (m : Nat) (r1 r2 : List Row) (p q : Nat) : Prop := ∀ n, EkX m r1 r2 n p q
/-- reps: a state of each kind -/
structure Reps (m : Nat) (rows : List Row) (reps : List Nat) : Prop where
  rch : ∀ q ∈ reps, Rch m rows q
  uni : ∀ i j a b : Nat, reps[i]? = some a → reps[j]? = some b → Eqv m rows a b → i = j
  all : ∀ q, Rch m rows q → ∃ a ∈ reps, Eqv m rows q a
/-- small is a least machine of rows -/
def Least (m : Nat) (rows small : List Row) : Prop := ∃ reps, Reps m rows reps ∧ reps.length = small.length ∧ (∀ r ∈ small, r.length = 2 ^ m) ∧
  ∀ i a x : Nat, reps[i]? = some a → x < 2 ^ m → ∃ b, reps[stp small i x]? = some b ∧ Eqv m rows b (stp rows a x) ∧ out small i x = out rows a x
def Count (m : Nat) (rows : List Row) (n : Nat) : Prop := ∃ reps, Reps m rows reps ∧ reps.length = n
/-- each letter leaves all kinds or sets one -/
def Setter (m : Nat) (rows : List Row) : Prop := ∀ x, x < 2 ^ m → (∀ q, Rch m rows q → Eqv m rows (stp rows q x) q) ∨ ∀ p q, Rch m rows p → Rch m rows q → Eqv m rows (stp rows p x) (stp rows q x)
/-- the numbers of states by their keys -/
structure Numb (states : List Nat) (f : Nat → Nat) (rel : Nat → Nat → Prop) : Prop where
  same : ∀ p q, p ∈ states → q ∈ states → (f p = f q ↔ rel p q)
  full : ∀ q ∈ states, ∀ j, j ≤ f q → ∃ p ∈ states, f p = j
def tabN (states : List Nat) (f : Nat → Nat) : Tb := states.map fun (q : Nat) => ((q : Int), nt (f q))
structure IsSt (m : Nat) (rows : List Row) (states : List Nat) : Prop where
  nd : states.Nodup
  rch : ∀ q, q ∈ states ↔ Rch m rows q
def bits (n : Nat) : Nat := Builtin.Int.intBits ((n - 1 : Nat) : Int)
def rowAt (rows : List Row) (q : Nat) : Row := rows[q]?.getD []
/-- the least machine by kinds -/
def smallOf (rows : List Row) (f : Nat → Nat) (os : List Nat) : List Row := os.map fun q => (rowAt rows q).map fun p => ((os.map f).idxOf (f p.1), p.2)
/-- the search for a state of each kind, from place to place, from letter to letter -/
inductive Scan (m : Nat) (rows : List Row) : List Nat → Nat → Nat → Prop
  | start : Scan m rows [0] 0 0
  | old {os : List Nat} {i k q : Nat} : Scan m rows os i k → os[i]? = some q → k < 2 ^ m → (∃ b ∈ os, Eqv m rows (stp rows q k) b) → Scan m rows os i (k + 1)
  | new {os : List Nat} {i k q : Nat} : Scan m rows os i k → os[i]? = some q → k < 2 ^ m → ¬ (∃ b ∈ os, Eqv m rows (stp rows q k) b) → Scan m rows (os ++ [stp rows q k]) i (k + 1)
  | row {os : List Nat} {i : Nat} : Scan m rows os i (2 ^ m) → i < os.length → Scan m rows os (i + 1) 0
/-- the least machine as all number it -/
def Can (m : Nat) (rows small : List Row) : Prop := ∃ (os L : List Nat) (f : Nat → Nat), IsSt m rows L ∧ Numb L f (Eqv m rows) ∧ Scan m rows os os.length 0 ∧ (∀ a ∈ os, Rch m rows a) ∧ small = smallOf rows f os
/-! ### promises -/
def dn : DkN := ⟨"deep", "seed", "count"⟩
abbrev AM := Nat × List Row
abbrev sp_come_to (K : PySem.W.Frag) : Sp := PureSp (α := AM) K (fun a => [encT a.2]) (fun a => Ok a.1 a.2) (fun a d => ∃ ns, d = encL ns ∧ IsSt a.1 a.2 ns)
structure AK where
  states : List Nat
  m : Tb
  key : Nat → List D
structure OkK (a : AK) : Prop where
  nd : a.states.Nodup
  few : a.states.length ≤ 1000
  look : ∀ q ∈ a.states, lookI a.m (q : Int) = some (.tuple (a.key q))
  hs : ∀ q ∈ a.states, hshAll (a.key q) = true ∧ (nkOf (.tuple (a.key q))).depth ≤ 8
abbrev sp_numbered (K : PySem.W.Frag) : Sp := PureSp (α := AK) K (fun a => [encL a.states, .dict (mkI a.m)]) OkK (fun a d => ∃ f, d = .dict (mkI (tabN a.states f)) ∧ Numb a.states f (fun p q => nkOf (.tuple (a.key p)) = nkOf (.tuple (a.key q))))
structure AC where
  m : Nat
  rows : List Row
  states : List Nat
structure OkC (a : AC) : Prop where
  ok : Ok a.m a.rows
  st : IsSt a.m a.rows a.states
abbrev sp_classes_of (K : PySem.W.Frag) : Sp := PureSp (α := AC) K (fun a => [encT a.rows, encL a.states]) OkC (fun a d => ∃ f, d = .dict (mkI (tabN a.states f)) ∧ Numb a.states f (Eqv a.m a.rows))
abbrev sp_least (K : PySem.W.Frag) : Sp := PureSp (α := AM) K (fun a => [encM a.1 a.2]) (fun a => Ok a.1 a.2) (fun a d => ∃ small, d = encM a.1 small ∧ Ok a.1 small ∧ Least a.1 a.2 small ∧ EqX a.1 small a.2 0 0 ∧ Can a.1 a.2 small)
structure AT where
  m : Nat
  rows : List Row
  x : Nat
structure OkT (a : AT) : Prop where
  ok : Ok a.m a.rows
  x : a.x < 2 ^ a.m
def tgs (rows : List Row) (x : Nat) : List Nat := (List.range rows.length).map fun q => stp rows q x
def isStay (rows : List Row) (x : Nat) : Bool := decide (tgs rows x = List.range rows.length)
def isSet (rows : List Row) (x : Nat) : Bool := decide (tgs rows x = List.replicate rows.length (stp rows 0 x))
abbrev sp_targets_by (K : PySem.W.Frag) : Sp := PureSp (α := AT) K (fun a => [encM a.m a.rows, nt a.x]) OkT (fun a d => d = encL (tgs a.rows a.x))
abbrev sp_stays (K : PySem.W.Frag) : Sp := PureSp (α := AT) K (fun a => [encM a.m a.rows, nt a.x]) OkT (fun a d => d = .bool (isStay a.rows a.x))
abbrev sp_sets_or_stays (K : PySem.W.Frag) : Sp := PureSp (α := AT) K (fun a => [encM a.m a.rows, nt a.x]) OkT (fun a d => d = .bool (isStay a.rows a.x || isSet a.rows a.x))
abbrev sp_setters (K : PySem.W.Frag) : Sp := PureSp (α := AM) K (fun a => [encM a.1 a.2]) (fun a => Ok a.1 a.2) (fun a d => ∃ b, d = .bool b ∧ (b = true ↔ Setter a.1 a.2))
abbrev sp_fewest (K : PySem.W.Frag) (C : Addr) : Sp := PureSpX (α := AM) K C (fun a => [encM a.1 a.2]) (fun a => Ok a.1 a.2) (fun a d => ∃ n, d = nt (bits n) ∧ Count a.1 a.2 n) (fun a => ¬ Setter a.1 a.2)
abbrev sp_law_urn (K : PySem.W.Frag) : Sp := fun vs H Q _ => ∃ (a : Addr) (ns : List Int), vs = [.ref a] ∧ SqL K H a (ns.map V.int) ∧ ns.length ≤ 63 ∧ ∀ (dk l : Addr) (H' : Hp), DkR dn dk l (fun _ => none) H' → Q (.ref dk) H'
abbrev sp_law_draw (K : PySem.W.Frag) : Sp := DkSp (α := Nat) dn K (fun a => [nt a]) (fun a => a ≤ 1000000) (fun a d => ∃ n, d = nt n ∧ n < max a 1)
abbrev sp_law_pick (K : PySem.W.Frag) : Sp := DkSp (α := List D) dn K (fun a => [.list a]) (fun a => a ≠ [] ∧ a.length ≤ 1000000) (fun a d => d ∈ a)
abbrev sp_law_mixed (K : PySem.W.Frag) : Sp := DkSp (α := List Nat) dn K (fun a => [encL a]) (fun a => a.length ≤ 1000) (fun a d => ∃ ns, d = encL ns ∧ ns.Perm a)
abbrev sp_law_small (K : PySem.W.Frag) : Sp := PureSp (α := AM) K (fun a => [encM a.1 a.2]) (fun a => Ok a.1 a.2) (fun a d => ∃ small, d = encM a.1 small ∧ Ok a.1 small ∧ Least a.1 a.2 small ∧ EqX a.1 small a.2 0 0)
structure AR where
  m : Nat
  st : Nat
  steps : List (List Nat)
def cellS (steps : List (List Nat)) (x q : Nat) : Nat := (steps[x]?.getD [])[q]?.getD 0
structure OkR (a : AR) : Prop where
  m2 : a.m ≤ 2
  n : 0 < a.st ∧ a.st ≤ 24
  len : a.steps.length = 2 ^ a.m
  each : ∀ s ∈ a.steps, s.length = a.st ∧ ∀ x ∈ s, x < a.st
abbrev sp_law_rows (K : PySem.W.Frag) : Sp := DkSp (α := AR) dn K (fun a => [nt a.m, .list (a.steps.map encL)]) OkR (fun a d => ∃ rows, d = encM a.m rows ∧ Ok a.m rows ∧ rows.length = a.st ∧ ∀ q x, q < a.st → x < 2 ^ a.m → stp rows q x = cellS a.steps x q)
abbrev sp_law_called (K : PySem.W.Frag) : Sp := DkSp (α := AM) dn K (fun a => [encM a.1 a.2]) (fun a => Ok a.1 a.2 ∧ a.2.length ≤ 20) (fun a d => ∃ rows, d = encM a.1 rows ∧ Ok a.1 rows ∧ EqX a.1 rows a.2 0 0)
abbrev sp_law_setter (K : PySem.W.Frag) : Sp := DkSp (α := Nat × Nat) dn K (fun a => [nt a.1, nt a.2]) (fun a => a.1 ≤ 2 ∧ 0 < a.2 ∧ a.2 ≤ 20) (fun a d => ∃ rows, d = encM a.1 rows ∧ Ok a.1 rows ∧ rows.length ≤ 20 ∧ Setter a.1 rows)
/-! ### programs of sums -/
abbrev Tab := List (Nat × Nat)
abbrev QRow := Str × List Nat
abbrev PRow := Tab × Nat × Nat
def encQ (r : QRow) : D := .tuple (.str r.1 :: r.2.map nt)
def encRec (m : Nat) (rows : List QRow) : D := .tuple [nt m, .tuple (rows.map encQ)]
def encTab (t : Tab) : D := .list (t.map encP)
def encPl (p : PRow) : D := .tuple [encTab p.1, nt p.2.1, nt p.2.2]
def eight : List Nat := List.range 8
def tabs : List (Str × Tab) := [
  ("zero", eight.map fun _ => (0, 0)), ("ones", eight.map fun _ => (1, 0)), ("not", eight.map fun c => (1 - c % 2, 0)), ("and", eight.map fun c => (c % 2 * (c / 2 % 2), 0)), ("or", eight.map fun c => (max (c % 2) (c / 2 % 2), 0)),
  ("xor", eight.map fun c => ((c + c / 2) % 2, 0)), ("twice", eight.map fun c => (c / 4, c % 2)), ("minus", eight.map fun c => ((c + c / 4) % 2, max (c % 2) (c / 4))),
  ("plus", eight.map fun c => ((c + c / 2 + c / 4) % 2, (c % 2 + c / 2 % 2 + c / 4) / 2)), ("less", eight.map fun c => ((c + c / 2 + c / 4) % 2, if c % 2 < c / 2 % 2 + c / 4 then 1 else 0)), ("prefix", eight.map fun c => ((c + c / 4) % 2, (c + c / 4) % 2))]
def mkS (m : List (Str × D)) : List (D × D) := m.map fun p => (.str p.1, p.2)
def tabsD : D := .dict (mkS (tabs.map fun p => (p.1, encTab p.2)))
def tabOf1 (w : Str) : Tab := (tabs.lookup w).getD []
/-- the row of a plan: its table, the places of its operands, a nought standing ahead -/
def planRow (r : QRow) : PRow := (tabOf1 r.1, ((r.2.map (· + 1)) ++ [0, 0])[0]?.getD 0, ((r.2.map (· + 1)) ++ [0, 0])[1]?.getD 0)
def carries (r : QRow) : Bool := decide (r.1 ∈ (["twice", "minus", "plus", "less"] : List Str))
def carry (rows : List QRow) : Nat := (rows.filter carries).length
/-- the rows of sums: known words, their operands -/
def kin : List (Str × Nat) := [("zero", 0), ("ones", 0), ("not", 1), ("and", 2), ("or", 2), ("xor", 2), ("twice", 1), ("minus", 1), ("plus", 2), ("less", 2)]
/-- rows whose operands stand ahead -/
def OkS (n : Nat) (rs : List QRow) : Prop := ∀ (i : Nat) (r : QRow), rs[i]? = some r → (r.1, r.2.length) ∈ kin ∧ ∀ o ∈ r.2, o < n + i
structure OkQ (m : Nat) (rows : List QRow) : Prop where
  m2 : m ≤ 2
  two : 2 ≤ rows.length
  few : rows.length ≤ 1000
  row : OkS m rows
/-- a row's bit and what it keeps, by the bits ahead -/
def ruleAt (p : PRow) (ahead : List Nat) (kept : Nat) : Nat × Nat := p.1[ahead[p.2.1]?.getD 0 + 2 * ahead[p.2.2]?.getD 0 + 4 * kept]?.getD (0, 0)
def beatF : List PRow → List Nat → List Nat → List Nat × List Nat
  | p :: ps, ahead, k :: ks =>
    let b := ruleAt p ahead k
    let r := beatF ps (ahead ++ [b.1]) ks
    (r.1, b.2 :: r.2)
  | _, ahead, _ => (ahead, [])
def beat (plan : List PRow) (bits kept : List Nat) : Nat × List Nat := ((beatF plan (0 :: bits) kept).1.getLastD 0, (beatF plan (0 :: bits) kept).2)
def lbits (m x : Nat) : List Nat := (List.range m).map fun i => x / 2 ^ i % 2
def zeros (n : Nat) : List Nat := List.replicate n 0
abbrev sp_law_tables (K : PySem.W.Frag) : Sp := PureSp (α := Unit) K (fun _ => []) (fun _ => True) (fun _ d => d = tabsD)
abbrev AQ := Nat × List QRow
abbrev sp_law_plan (K : PySem.W.Frag) : Sp := PureSp (α := AQ) K (fun a => [encRec a.1 a.2]) (fun a => OkQ a.1 a.2) (fun a d => d = .list ((a.2.map planRow).map encPl))
structure AB where
  m : Nat
  rows : List QRow
  x : Nat
  kept : List Nat
structure OkB (a : AB) : Prop where
  ok : OkQ a.m a.rows
  x : a.x < 2 ^ a.m
  len : a.kept.length = a.rows.length
  bit : ∀ k ∈ a.kept, k < 2
abbrev sp_law_beat (K : PySem.W.Frag) : Sp := PureSp (α := AB) K (fun a => [.list ((a.rows.map planRow).map encPl), encL (lbits a.m a.x), encW a.kept]) OkB (fun a d => d = .tuple [nt (beat (a.rows.map planRow) (lbits a.m a.x) a.kept).1, encW (beat (a.rows.map planRow) (lbits a.m a.x) a.kept).2])
abbrev sp_law_carrying (K : PySem.W.Frag) : Sp := PureSp (α := AQ) K (fun a => [encRec a.1 a.2]) (fun a => OkQ a.1 a.2) (fun a d => d = nt (carry a.2))

/-! ### sheets -/
structure Sh where
  m : Nat
  rows : List QRow
structure ShOk (g : Sh) : Prop where
  m2 : g.m ≤ 2
  nd : g.rows.Nodup
  ok : OkS g.m g.rows
  few : g.rows.length ≤ 1000
def Sh.put (g : Sh) (r : QRow) : Sh × Nat := if r ∈ g.rows then (g, g.m + g.rows.idxOf r) else (⟨g.m, g.rows ++ [r]⟩, g.m + g.rows.length)
/-- so many rows more -/
def Sh.size (g : Sh) : Nat := g.m + g.rows.length
def foldW (w : Str) : Sh × Nat → List Nat → Sh × Nat
  | p, [] => p
  | p, o :: os => foldW w (p.1.put (w, [p.2, o])) os
def Sh.putAll (g : Sh) (b : Bool) (ops : List Nat) : Sh × Nat := match ops with
  | [] => g.put (if b = true then ("ones", []) else ("zero", []))
  | o :: os => foldW (if b = true then "and" else "or") (g, o) os
def Sh.chosen (g : Sh) (o b : Nat) : Sh × Nat := if b = 1 then (g, o) else g.put ("not", [o])
def accS {α : Type} (f : Sh → α → Sh × Nat) : Sh → List α → Sh × List Nat
  | g, [] => (g, [])
  | g, a :: as => let r := f g a; let t := accS f r.1 as; (t.1, r.2 :: t.2)
def Sh.told (g : Sh) (o : Nat) : Sh := if o = g.m + g.rows.length - 1 then g else (g.put ("or", [o, o])).1
def bitAt (x j : Nat) : Nat := x / 2 ^ j % 2
def Sh.letterNum (g : Sh) (x : Nat) : Sh × Nat := let r := accS (fun g j => g.chosen j (bitAt x j)) g (List.range g.m); r.1.putAll true r.2
def setting (small : List Row) (letters : List Nat) (place : Nat) : List Nat := (letters.zipIdx.filter fun p => !isStay small p.2 && decide (bitAt (stp small 0 p.2) place = 1)).map (·.1)
def keeping (small : List Row) (letters : List Nat) : List Nat := (letters.zipIdx.filter fun p => isStay small p.2).map (·.1)
def Sh.stateBit (g : Sh) (small : List Row) (letters : List Nat) (place : Nat) : Sh × Nat :=
  let l := g.putAll false (setting small letters place)
  let h := l.1.putAll false (setting small letters place ++ keeping small letters)
  let a := h.1.put ("plus", [h.2, l.2])
  let x := a.1.put ("xor", [a.2, h.2])
  x.1.put ("xor", [x.2, l.2])
def Sh.stateNum (g : Sh) (bits : List Nat) (state : Nat) : Sh × Nat := let r := accS (fun g (p : Nat × Nat) => g.chosen p.1 (bitAt state p.2)) g bits.zipIdx; r.1.putAll true r.2
def writing (small : List Row) (letters : List Nat) (state : Nat) : List Nat := (letters.zipIdx.filter fun p => decide (out small state p.2 = 1)).map (·.1)
/-- the words of the states that write -/
def accF (small : List Row) (letters bits : List Nat) : Sh × List Nat → List Nat → Sh × List Nat
  | p, [] => p
  | p, s :: ss => if writing small letters s = [] then accF small letters bits p ss else
    let h := p.1.stateNum bits s
    let w := h.1.putAll false (writing small letters s)
    let n := w.1.put ("and", [h.2, w.2])
    accF small letters bits (n.1, p.2 ++ [n.2]) ss
def madeOf (m : Nat) (small : List Row) (count : Nat) : Sh :=
  let l := accS Sh.letterNum ⟨m, []⟩ (List.range (2 ^ m))
  let b := accS (fun g p => g.stateBit small l.2 p) l.1 (List.range count)
  let f := accF small l.2 b.2 (b.1, []) (List.range small.length)
  let r := f.1.putAll false f.2
  r.1.told r.2
/-! the sheet's heap -/
def numT (m : Nat) (rows : List QRow) : Tn := rows.zipIdx.map fun p => (encQ p.1, nt (m + p.2))
structure ShA where
  sh : Addr
  dx : Addr
  l : Addr
  nd : Addr
def shS (p : ShA) (a : Addr) : Prop := a = p.sh ∨ a = p.dx ∨ a = p.l ∨ a = p.nd
structure ShR (P : Program) (w : World) (K : PySem.W.Frag) (C : Addr) (p : ShA) (g : Sh) (B H : Hp) : Prop where
  ok : ShOk g
  ins : H p.sh = some (.ins C p.dx [("inputs", .int (g.m : Nat)), ("rows", .ref p.l), ("numbers", .ref p.nd)])
  own : H p.dx = some (.own p.sh)
  lst : ∃ xs, H p.l = some (.lst xs) ∧ DtAll K B xs (g.rows.map encQ)
  dic : ∃ ks, H p.nd = some (NDictO P w p.nd ks) ∧ NkR K B ks (numT g.m g.rows)
  bs : B p.sh = none ∧ B p.dx = none ∧ B p.l = none ∧ B p.nd = none
theorem shRes (P : Program) (w : World) (K : PySem.W.Frag) (C : Addr) (p : ShA) (g : Sh) : Res (shS p) (ShR P w K C p g) where
  live := fun {B H a} h s => by
    obtain ⟨xs, hl, _⟩ := h.lst
    obtain ⟨ks, hd, _⟩ := h.dic
    obtain ⟨b1, b2, b3, b4⟩ := h.bs
    rcases s with rfl | rfl | rfl | rfl
    · exact ⟨by rw [h.ins]; exact nofun, b1⟩
    · exact ⟨by rw [h.own]; exact nofun, b2⟩
    · exact ⟨by rw [hl]; exact nofun, b3⟩
    · exact ⟨by rw [hd]; exact nofun, b4⟩
  stab := fun {B H B' H'} h e k n => by
    obtain ⟨xs, hl, hl2⟩ := h.lst
    obtain ⟨ks, hd, hd2⟩ := h.dic
    exact ⟨h.ok, k _ _ (.inl rfl) h.ins, k _ _ (.inr (.inl rfl)) h.own, ⟨xs, k _ _ (.inr (.inr (.inl rfl))) hl, dps_mono e hl2⟩, ⟨ks, k _ _ (.inr (.inr (.inr rfl))) hd, Paired.mapP hd2 fun a b z => ⟨dp_mono e z.1, z.2.1, dp_mono e z.2.2⟩⟩,
      n _ (.inl rfl), n _ (.inr (.inl rfl)), n _ (.inr (.inr (.inl rfl))), n _ (.inr (.inr (.inr rfl)))⟩
def shRs (P : Program) (w : World) (K : PySem.W.Frag) (C : Addr) : Rs Sh := ⟨ShA, shS, ShR P w K C, shRes P w K C, ShA.sh⟩
section
variable (P : Program) (w : World) (K : PySem.W.Frag) (C : Addr)
/-- a sheet is made: its own place, the number of words -/
abbrev sp_Sheet___init__ : Sp := fun vs H Q _ => ∃ (x dx : Addr) (m : Nat), vs = [.ref x, .int (m : Nat)] ∧ H x = some (.ins C dx []) ∧ H dx = some (.own x) ∧ dx ≠ x ∧ m ≤ 2 ∧
  ∀ (l nd : Addr), H l = none → H nd = none → l ≠ nd → Q .non (upd (upd (upd H l (.lst [])) nd (NDictO P w nd [])) x (.ins C dx [("inputs", .int (m : Nat)), ("rows", .ref l), ("numbers", .ref nd)]))
structure PutOk (g : Sh) (r : QRow) : Prop where
  k : (r.1, r.2.length) ∈ kin
  o : ∀ o ∈ r.2, o < g.size
  few : g.rows.length < 1000
abbrev sp_Sheet_put : Sp := GSp (α := QRow) (shRs P w K C) K (fun r => [encQ r]) PutOk (fun g r g' d => g' = (g.put r).1 ∧ d = nt (g.put r).2)
structure OpsOk (g : Sh) (ops : List Nat) : Prop where
  o : ∀ o ∈ ops, o < g.size
  few : g.rows.length + ops.length < 1000
abbrev sp_Sheet_put_all : Sp := GSp (α := Bool × List Nat) (shRs P w K C) K (fun a => [.str (if a.1 = true then "and" else "or"), encL a.2]) (fun g a => OpsOk g a.2) (fun g a g' d => g' = (g.putAll a.1 a.2).1 ∧ d = nt (g.putAll a.1 a.2).2)
abbrev sp_Sheet_chosen : Sp := GSp (α := Nat × Nat) (shRs P w K C) K (fun a => [nt a.1, nt a.2]) (fun g a => a.1 < g.size ∧ g.rows.length < 1000) (fun g a g' d => g' = (g.chosen a.1 a.2).1 ∧ d = nt (g.chosen a.1 a.2).2)
abbrev sp_Sheet_told : Sp := GSp (α := Nat) (shRs P w K C) K (fun a => [nt a]) (fun g a => a < g.size ∧ g.rows.length < 1000) (fun g a g' d => g' = g.told a ∧ d = encRec g.m (g.told a).rows)
abbrev sp_letter_number : Sp := GSp (α := Nat) (shRs P w K C) K (fun a => [nt a]) (fun g a => g.rows.length < 900 - 5) (fun g a g' d => g' = (g.letterNum a).1 ∧ d = nt (g.letterNum a).2)
structure AS where
  m : Nat
  small : List Row
  letters : List Nat
  place : Nat
structure OkSB (g : Sh) (a : AS) : Prop where
  ok : Ok a.m a.small
  len : a.letters.length = 2 ^ a.m
  lt : ∀ o ∈ a.letters, o < g.size
  few : g.rows.length < 900
  pl : a.place < 30
abbrev sp_state_bit : Sp := GSp (α := AS) (shRs P w K C) K (fun a => [encM a.m a.small, encL a.letters, nt a.place]) OkSB (fun g a g' d => g' = (g.stateBit a.small a.letters a.place).1 ∧ d = nt (g.stateBit a.small a.letters a.place).2)
abbrev sp_state_number : Sp := GSp (α := List Nat × Nat) (shRs P w K C) K (fun a => [encL a.1, nt a.2]) (fun g a => (∀ o ∈ a.1, o < g.size) ∧ a.1.length ≤ 30 ∧ g.rows.length < 800) (fun g a g' d => g' = (g.stateNum a.1 a.2).1 ∧ d = nt (g.stateNum a.1 a.2).2)
end
abbrev sp_made_with_fewest (P : Program) (w : World) (K : PySem.W.Frag) (cS C : Addr) : Sp := PureSpX (α := AM) K C (fun a => [encM a.1 a.2]) (fun a => Ok a.1 a.2) (fun a d => ∃ small, Ok a.1 small ∧ Least a.1 a.2 small ∧ EqX a.1 small a.2 0 0 ∧ Can a.1 a.2 small ∧ d = encRec a.1 (madeOf a.1 small (bits small.length)).rows) (fun a => ¬ Setter a.1 a.2)
/-! ### the law's looks -/
def sumsL : List Str := ["zero", "ones", "not", "and", "or", "xor", "twice", "minus", "plus", "less"]
abbrev sp_law_shelf (K : PySem.W.Frag) : Sp := PureSp (α := Unit) K (fun _ => [.str "sums"]) (fun _ => True) (fun _ d => d = .list (sumsL.map PyData.str))
abbrev sp_law_is_recipe (K : PySem.W.Frag) : Sp := PureSp (α := AQ) K (fun a => [encRec a.1 a.2, nt a.1, .str "sums"]) (fun a => OkQ a.1 a.2) (fun _ d => d = .bool true)
/-- the program does what the machine does: kept tells what rows keep in a state -/
structure Does (m : Nat) (small : List Row) (rows : List QRow) (kept : Nat → List Nat) : Prop where
  z : kept 0 = zeros rows.length
  len : ∀ s, s < small.length → (kept s).length = rows.length ∧ ∀ k ∈ kept s, k < 2
  step : ∀ s x, s < small.length → x < 2 ^ m → beat (rows.map planRow) (lbits m x) (kept s) = (out small s x, kept (stp small s x))
structure AD where
  m : Nat
  small : List Row
  rows : List QRow
abbrev sp_law_is_told (K : PySem.W.Frag) : Sp := PureSp (α := AD) K (fun a => [encM a.m a.small, encRec a.m a.rows, nt 6000]) (fun a => Ok a.m a.small ∧ OkQ a.m a.rows ∧ ∃ small kept, Ok a.m small ∧ EqX a.m a.small small 0 0 ∧ Does a.m small a.rows kept) (fun _ d => d = .bool true)
def toldD (m : Nat) (rows : List QRow) : D := .list [.str "told", encRec m rows]
abbrev sp_law_few (K : PySem.W.Frag) : Sp := PureSp (α := AM) K (fun a => [encM a.1 a.2]) (fun a => Ok a.1 a.2 ∧ Setter a.1 a.2) (fun a d => ∃ small, Ok a.1 small ∧ Least a.1 a.2 small ∧ EqX a.1 small a.2 0 0 ∧ Can a.1 a.2 small ∧ d = toldD a.1 (madeOf a.1 small (bits small.length)).rows)
abbrev sp_law (K : PySem.W.Frag) : Sp := fun vs H Q _ => ∃ (a : Addr) (ns : List Int), vs = [.ref a] ∧ SqL K H a (ns.map V.int) ∧ ns.length ≤ 63 ∧ ∀ H', Q (.bl true) H'
/-! ### the text: readings and derivations, by gen2.py -/
structure Fr (mg : Str → Option Value) : Prop where
  abs : mg "abs" = none
  enumerate : mg "enumerate" = none
  int : mg "int" = none
  isinstance : mg "isinstance" = none
  len : mg "len" = none
  list : mg "list" = none
  max : mg "max" = none
  range : mg "range" = none
  repr : mg "repr" = none
  sorted : mg "sorted" = none
  tuple : mg "tuple" = none
theorem hu1 {k : Nat} {A : Around} (r : Room k A) : A.units + 1 < cLine := by
  have := r.un
  omega
theorem hu10 {k : Nat} {A : Around} (r : Room k A) : A.units + 10 < cLine := by
  have := r.un
  omega
theorem hu65 {k : Nat} {A : Around} (r : Room k A) : A.units + 65 < cLine := by
  have := r.un
  omega
abbrev s_come_to : Stmt := top 4
abbrev N_come_to : List Str := ["rows", "found", "going", "state", "step"]
theorem sc_come_to : FnScope N_come_to ["rows"] (defScope s_come_to) := ⟨rfl, rfl, rfl, by decide +kernel, rfl, by decide +kernel, by decide +kernel⟩
def t_come_to (K : PySem.W.Frag) : TS :=
    (tSeq (tAsg (tDisp [((tC (.int 0)), (tC (.bl true)))]) (gName 1))
    (tSeq (tAsg (tLst (tCons (tC (.int 0)) tNil)) (gName 2))
    (tSeq (tWhile (tTruD K (tVar 2))
      (tSeq (tAsg (tBM0 K "list" rPop (tVar 2)) (gName 3))
    (tFor (iSeq K (tOp (rIx K) (tVar 0) (tVar 3))) (gName 4)
      (tIfS (tB (tDNotIn (tOp (rIx K) (tVar 4) (tC (.int 0))) (tVar 1))) (tSeq (sDPut (tVar 1) (tOp (rIx K) (tVar 4) (tC (.int 0))) (tC (.bl true)))
    (tDrop (tBM K "list" rAppend (tVar 2) (tCons (tOp (rIx K) (tVar 4) (tC (.int 0))) tNil)))) tNext))))
    (tRet (tCB rSortedDI (tCons (tVar 1) tNil))))))
theorem d_come_to {P : Program} {w : World} {K : PySem.W.Frag} {mg : Str → Option Value} {base : Heap} {f : Addr} {cdv : Value} {A : Around} {outer : List Env} {s : Shared} {H : Hp} {E : XK} (fr : Fr mg)
    (hg : (A.deeper (envOfC "come_to" (defScope s_come_to) s.heap.objs.size f cdv)).guards = some []) (hr : Room 0 (A.deeper (envOfC "come_to" (defScope s_come_to) s.heap.objs.size f cdv))) :
    PSs (cxOf CX0 P w K mg base N_come_to "come_to" (defScope s_come_to) f cdv A outer s H E).nox (defBody s_come_to) (t_come_to K) :=
  (pss_cons (ps_set (i := 1) sc_come_to.nd rfl (Or.inl rfl) (pe_disp (pps_cons pe_int pe_bl pps_nil) (by rfl) (by rfl) (fun z => by cases z) (by decide)))
    (pss_cons (ps_set (i := 2) sc_come_to.nd rfl (Or.inl rfl) (pe_lst (pa_cons pe_int pa_nil)))
    (pss_cons (ps_while PassesOwn.never (pt_tru (pv 2))
      (pss_cons (ps_set (i := 3) sc_come_to.nd rfl (Or.inl rfl) (pe_bm0 PySem.F.plainAttrs_list PySem.F.slot_list_pop PySem.F.type_list_pop mt_pop (pv 2)))
    (pss_one (ps_for PassesOwn.never rfl (pi_seq (pe_ix ix_seq (pv 0) (pv 3) (fun _ _ => rfl))) (pg_name (i := 4) sc_come_to.nd rfl (Or.inl rfl))
      (pss_one (ps_if (pt_cmp (pc_dnotin (hu1 hr) (pe_ix ix_seq (pv 4) pe_int (fun _ _ => rfl)) (pv 1))) (pss_cons (ps_dput (hu1 hr) (pv 1) (pe_ix ix_seq (pv 4) pe_int (fun _ _ => rfl)) pe_bl rfl)
    (pss_one (ps_expr (pe_bm PySem.F.plainAttrs_list PySem.F.slot_list_append PySem.F.type_list_append mt_append (pv 2) (pa_cons (pe_ix ix_seq (pv 4) pe_int (fun _ _ => rfl)) pa_nil))))) pss_nil))))))
    (pss_one (ps_ret (pe_callB (cr_sortedDI rfl) (by rfl) fr.sorted (by decide +kernel) (pa_cons (pv 1) pa_nil)))))))

abbrev s_numbered : Stmt := top 5
abbrev N_numbered : List Str := ["states", "keys", "known", "found", "state", "key"]
theorem sc_numbered : FnScope N_numbered ["states", "keys"] (defScope s_numbered) := ⟨rfl, rfl, rfl, by decide +kernel, rfl, by decide +kernel, by decide +kernel⟩
def t_numbered (P : Program) (w : World) (K : PySem.W.Frag) : TS :=
    (tSeq (tPar 2 3 (tCons (tNNew P w) (tCons tDNewK tNil)))
    (tSeq (tFor (iSeq K (tVar 0)) (gName 4)
      (tSeq (tAsg (tDGet (tVar 1) (tVar 4)) (gName 5))
    (tSeq (tIfS (tB (tNNotIn P w K (tVar 5) (tVar 2))) (sNPut P w K (tVar 2) (tVar 5) (tCB (rLenN P w K) (tCons (tVar 2) tNil))) tNext)
    (sDPut (tVar 3) (tVar 4) (tNGet P w K (tVar 2) (tVar 5))))))
    (tRet (tVar 3))))
theorem d_numbered {P : Program} {w : World} {K : PySem.W.Frag} {mg : Str → Option Value} {base : Heap} {f : Addr} {cdv : Value} {A : Around} {outer : List Env} {s : Shared} {H : Hp} {E : XK} (fr : Fr mg)
    (hg : (A.deeper (envOfC "numbered" (defScope s_numbered) s.heap.objs.size f cdv)).guards = some []) (hr : Room 0 (A.deeper (envOfC "numbered" (defScope s_numbered) s.heap.objs.size f cdv))) :
    PSs (cxOf CX0 P w K mg base N_numbered "numbered" (defScope s_numbered) f cdv A outer s H E).nox (defBody s_numbered) (t_numbered P w K) :=
  (pss_cons (ps_par (i := 2) (j := 3) (by rfl) sc_numbered.nd rfl rfl (by decide) rfl rfl (pa_cons pe_dnewN (pa_cons pe_dnewK pa_nil)) (by rfl))
    (pss_cons (ps_for PassesOwn.never rfl (pi_seq (pv 0)) (pg_name (i := 4) sc_numbered.nd rfl (Or.inl rfl))
      (pss_cons (ps_set (i := 5) sc_numbered.nd rfl (Or.inl rfl) (pe_dget (hu1 hr) (pv 1) (pv 4) (fun _ _ => rfl)))
    (pss_cons (ps_if (pt_cmp (pc_nnotin (hu10 hr) (pv 5) (pv 2))) (pss_one (ps_nput (hu10 hr) (pv 2) (pv 5) (pe_callB cr_lenN (by rfl) fr.len (by decide +kernel) (pa_cons (pv 2) pa_nil)) rfl)) pss_nil)
    (pss_one (ps_dput (hu1 hr) (pv 3) (pv 4) (pe_nget (hu10 hr) (pv 2) (pv 5) (fun _ _ => rfl)) rfl)))))
    (pss_one (ps_ret (pv 3)))))

abbrev s_classes_of : Stmt := top 6
abbrev N_classes_of : List Str := ["rows", "states", "found", "size", "keys", "state", "step"]
theorem sc_classes_of : FnScope N_classes_of ["rows", "states"] (defScope s_classes_of) := ⟨rfl, rfl, rfl, by decide +kernel, rfl, by decide +kernel, by decide +kernel⟩
def t_classes_of (K : PySem.W.Frag) : TS :=
    (tSeq (tAsg (tCall (sp_numbered K) [] E0 (tCons (tVar 1) (tCons (tDc (iSeq K (tVar 1)) (gName 5) tYes (tVar 5) (tCB (rTupOf K) (tCons (tLc (iSeq K (tOp (rIx K) (tVar 0) (tVar 5))) (gName 6) tYes (tOp (rIx K) (tVar 6) (tC (.int 1))) [6]) tNil)) [5]) tNil))) (gName 2))
    (tSeq (tAsg (tC (.int 0)) (gName 3))
    (tSeq (tWhile (tTest (tOp (rI0 fun i j => .bl (decide (i ≤ j))) (tVar 3) (tMaxVals (tVar 2))))
      (tSeq (tAsg (tOp (rAddU K) (tMaxVals (tVar 2)) (tC (.int 1))) (gName 3))
    (tSeq (tAsg tDNewK (gName 4))
    (tSeq (tFor (iSeq K (tVar 1)) (gName 5)
      (sDPut (tVar 4) (tVar 5) (tTup (tCons (tDGet (tVar 2) (tVar 5)) (tCons (tCB (rTupOf K) (tCons (tLc (iSeq K (tOp (rIx K) (tVar 0) (tVar 5))) (gName 6) tYes (tDGet (tVar 2) (tOp (rIx K) (tVar 6) (tC (.int 0)))) [6]) tNil)) tNil)))))
    (tAsg (tCall (sp_numbered K) [] E0 (tCons (tVar 1) (tCons (tVar 4) tNil))) (gName 2))))))
    (tRet (tVar 2)))))
theorem d_classes_of {P : Program} {w : World} {K : PySem.W.Frag} {mg : Str → Option Value} {base : Heap} {f : Addr} {cdv : Value} {A : Around} {outer : List Env} {s : Shared} {H : Hp} {E : XK} (fr : Fr mg) (C_numbered : Cal P w K mg base "numbered" ["states", "keys"] 1 (sp_numbered K))
    (hg : (A.deeper (envOfC "classes_of" (defScope s_classes_of) s.heap.objs.size f cdv)).guards = some []) (hr : Room 1 (A.deeper (envOfC "classes_of" (defScope s_classes_of) s.heap.objs.size f cdv))) :
    PSs (cxOf CX0 P w K mg base N_classes_of "classes_of" (defScope s_classes_of) f cdv A outer s H E).nox (defBody s_classes_of) (t_classes_of K) :=
  (pss_cons (ps_set (i := 2) sc_classes_of.nd rfl (Or.inr rfl) (pe_cal C_numbered hg (hr.mono (by decide)) (by rfl) (pa_cons (pv 1) (pa_cons (pe_dc (own := [("state", 5)]) rfl sc_classes_of.nd (pi_seq (pv 1)) (blkOk_by (own := [("state", 5)]) (N := N_classes_of) (sc := defScope s_classes_of) (by decide +kernel)) (fun _ _ _ _ _ => (pg_name (i := 5) sc_classes_of.nd rfl (Or.inl rfl))) (fun _ _ _ _ _ => pts_nil) (fun _ _ _ _ _ => (pv 5)) (fun _ _ _ _ _ => (pe_callTy cr_tupOf (by rfl) fr.tuple (by decide +kernel) (pa_cons (pe_lc (own := [("step", 6)]) rfl sc_classes_of.nd (pi_seq (pe_ix ix_seq (pv 0) (pv 5) (fun _ _ => rfl))) (blkOk_by (own := [("step", 6)]) (N := N_classes_of) (sc := relS ({ kind := PySem.ScopeKind.function, names := [ (PySem.Str.ofString ".0", PySem.NameKind.local), (PySem.Str.ofString "state", PySem.NameKind.local), (PySem.Str.ofString "tuple", PySem.NameKind.globalImplicit), (PySem.Str.ofString "rows", PySem.NameKind.free)], isGenerator := false, isCoroutine := false, more := [] : PySem.Scope }) (defScope s_classes_of)) (by decide +kernel)) (fun _ _ _ _ _ => (pg_name (i := 6) sc_classes_of.nd rfl (Or.inl rfl))) (fun _ _ _ _ _ => pts_nil) (fun _ _ _ _ _ => (pe_ix ix_seq (pv 6) pe_int (fun _ _ => rfl)))) pa_nil)))) pa_nil))))
    (pss_cons (ps_set (i := 3) sc_classes_of.nd rfl (Or.inl rfl) pe_int)
    (pss_cons (ps_while PassesOwn.never (pt_cmpR op_le (pv 3) (pe_maxVals rfl (by rfl) fr.max (pv 2)) (nomark _))
      (pss_cons (ps_set (i := 3) sc_classes_of.nd rfl (Or.inl rfl) (pe_op op_addU (pe_maxVals rfl (by rfl) fr.max (pv 2)) pe_int))
    (pss_cons (ps_set (i := 4) sc_classes_of.nd rfl (Or.inl rfl) pe_dnewK)
    (pss_cons (ps_for PassesOwn.never rfl (pi_seq (pv 1)) (pg_name (i := 5) sc_classes_of.nd rfl (Or.inl rfl))
      (pss_one (ps_dput (hu1 hr) (pv 4) (pv 5) (pe_tup (pa_cons (pe_dget (hu1 hr) (pv 2) (pv 5) (fun _ _ => rfl)) (pa_cons (pe_callTy cr_tupOf (by rfl) fr.tuple (by decide +kernel) (pa_cons (pe_lc (own := [("step", 6)]) rfl sc_classes_of.nd (pi_seq (pe_ix ix_seq (pv 0) (pv 5) (fun _ _ => rfl))) (blkOk_by (own := [("step", 6)]) (N := N_classes_of) (sc := defScope s_classes_of) (by decide +kernel)) (fun _ _ _ _ _ => (pg_name (i := 6) sc_classes_of.nd rfl (Or.inl rfl))) (fun _ _ _ _ _ => pts_nil) (fun _ _ _ _ _ => (pe_dget (hu1 hr) (pv 2) (pe_ix ix_seq (pv 6) pe_int (fun _ _ => rfl)) (fun _ _ => rfl)))) pa_nil)) pa_nil))) rfl)))
    (pss_one (ps_set (i := 2) sc_classes_of.nd rfl (Or.inr rfl) (pe_cal C_numbered hg (hr.mono (by decide)) (by rfl) (pa_cons (pv 1) (pa_cons (pv 4) pa_nil)))))))))
    (pss_one (ps_ret (pv 2))))))

abbrev s_least : Stmt := top 7
abbrev N_least : List Str := ["machine", "many", "rows", "kinds", "numbers", "order", "place", "step", "found", "state"]
theorem sc_least : FnScope N_least ["machine"] (defScope s_least) := ⟨rfl, rfl, rfl, by decide +kernel, rfl, by decide +kernel, by decide +kernel⟩
def t_least (K : PySem.W.Frag) : TS :=
    (tSeq (tAsg (tVar 0) (gTup K 2 (gCons (gName 1) (gCons (gName 2) gNil))))
    (tSeq (tAsg (tCall (sp_classes_of K) [] E0 (tCons (tVar 2) (tCons (tCall (sp_come_to K) [] E0 (tCons (tVar 2) tNil)) tNil))) (gName 3))
    (tSeq (tAsg (tTup (tCons (tDisp [((tDGet (tVar 3) (tC (.int 0))), (tC (.int 0)))]) (tCons (tLst (tCons (tC (.int 0)) tNil)) tNil))) (gTup K 2 (gCons (gName 4) (gCons (gName 5) gNil))))
    (tSeq (tAsg (tC (.int 0)) (gName 6))
    (tSeq (tWhile (tTest (tOp (rI0 fun i j => .bl (decide (i < j))) (tVar 6) (tCB (rLn K) (tCons (tVar 5) tNil))))
      (tSeq (tFor (iSeq K (tOp (rIx K) (tVar 2) (tOp (rIx K) (tVar 5) (tVar 6)))) (gName 7)
      (tIfS (tB (tDNotIn (tDGet (tVar 3) (tOp (rIx K) (tVar 7) (tC (.int 0)))) (tVar 4))) (tSeq (sDPut (tVar 4) (tDGet (tVar 3) (tOp (rIx K) (tVar 7) (tC (.int 0)))) (tCB (rLn K) (tCons (tVar 5) tNil)))
    (tDrop (tBM K "list" rAppend (tVar 5) (tCons (tOp (rIx K) (tVar 7) (tC (.int 0))) tNil)))) tNext))
    (tAug 6 (tC (.int 1)) (ipI fun i j => i + j))))
    (tSeq (tAsg (tLst tNil) (gName 8))
    (tSeq (tFor (iSeq K (tVar 5)) (gName 9)
      (tDrop (tBM K "list" rAppend (tVar 8) (tCons (tCB (rTupOf K) (tCons (tLc (iSeq K (tOp (rIx K) (tVar 2) (tVar 9))) (gName 7) tYes (tTup (tCons (tDGet (tVar 4) (tDGet (tVar 3) (tOp (rIx K) (tVar 7) (tC (.int 0))))) (tCons (tOp (rIx K) (tVar 7) (tC (.int 1))) tNil))) [7]) tNil)) tNil))))
    (tRet (tTup (tCons (tVar 1) (tCons (tCB (rTupOf K) (tCons (tVar 8) tNil)) tNil)))))))))))
theorem d_least {P : Program} {w : World} {K : PySem.W.Frag} {mg : Str → Option Value} {base : Heap} {f : Addr} {cdv : Value} {A : Around} {outer : List Env} {s : Shared} {H : Hp} {E : XK} (fr : Fr mg) (C_classes_of : Cal P w K mg base "classes_of" ["rows", "states"] 2 (sp_classes_of K)) (C_come_to : Cal P w K mg base "come_to" ["rows"] 1 (sp_come_to K))
    (hg : (A.deeper (envOfC "least" (defScope s_least) s.heap.objs.size f cdv)).guards = some []) (hr : Room 2 (A.deeper (envOfC "least" (defScope s_least) s.heap.objs.size f cdv))) :
    PSs (cxOf CX0 P w K mg base N_least "least" (defScope s_least) f cdv A outer s H E).nox (defBody s_least) (t_least K) :=
  (pss_cons (ps_asg (pv 0) (pg_tup rfl (pgs_cons (pg_name (i := 1) sc_least.nd rfl (Or.inl rfl)) (pgs_cons (pg_name (i := 2) sc_least.nd rfl (Or.inl rfl)) pgs_nil))))
    (pss_cons (ps_set (i := 3) sc_least.nd rfl (Or.inr rfl) (pe_cal C_classes_of hg (hr.mono (by decide)) (by rfl) (pa_cons (pv 2) (pa_cons (pe_cal C_come_to hg (hr.mono (by decide)) (by rfl) (pa_cons (pv 2) pa_nil)) pa_nil))))
    (pss_cons (ps_asg (pe_tup (pa_cons (pe_disp (pps_cons (pe_dget (hu1 hr) (pv 3) pe_int (fun _ _ => rfl)) pe_int pps_nil) (by rfl) (by rfl) (fun z => by cases z) (by decide)) (pa_cons (pe_lst (pa_cons pe_int pa_nil)) pa_nil))) (pg_tup rfl (pgs_cons (pg_name (i := 4) sc_least.nd rfl (Or.inr rfl)) (pgs_cons (pg_name (i := 5) sc_least.nd rfl (Or.inl rfl)) pgs_nil))))
    (pss_cons (ps_set (i := 6) sc_least.nd rfl (Or.inl rfl) pe_int)
    (pss_cons (ps_while PassesOwn.never (pt_cmpR op_lt (pv 6) (pe_callB cr_ln (by rfl) fr.len (by decide +kernel) (pa_cons (pv 5) pa_nil)) (nomark _))
      (pss_cons (ps_for PassesOwn.never rfl (pi_seq (pe_ix ix_seq (pv 2) (pe_ix ix_seq (pv 5) (pv 6) (fun _ _ => rfl)) (fun _ _ => rfl))) (pg_name (i := 7) sc_least.nd rfl (Or.inl rfl))
      (pss_one (ps_if (pt_cmp (pc_dnotin (hu1 hr) (pe_dget (hu1 hr) (pv 3) (pe_ix ix_seq (pv 7) pe_int (fun _ _ => rfl)) (fun _ _ => rfl)) (pv 4))) (pss_cons (ps_dput (hu1 hr) (pv 4) (pe_dget (hu1 hr) (pv 3) (pe_ix ix_seq (pv 7) pe_int (fun _ _ => rfl)) (fun _ _ => rfl)) (pe_callB cr_ln (by rfl) fr.len (by decide +kernel) (pa_cons (pv 5) pa_nil)) rfl)
    (pss_one (ps_expr (pe_bm PySem.F.plainAttrs_list PySem.F.slot_list_append PySem.F.type_list_append mt_append (pv 5) (pa_cons (pe_ix ix_seq (pv 7) pe_int (fun _ _ => rfl)) pa_nil))))) pss_nil)))
    (pss_one (ps_aug (i := 6) sc_least.nd rfl (Or.inl rfl) pe_int ip_add))))
    (pss_cons (ps_set (i := 8) sc_least.nd rfl (Or.inl rfl) (pe_lst pa_nil))
    (pss_cons (ps_for PassesOwn.never rfl (pi_seq (pv 5)) (pg_name (i := 9) sc_least.nd rfl (Or.inl rfl))
      (pss_one (ps_expr (pe_bm PySem.F.plainAttrs_list PySem.F.slot_list_append PySem.F.type_list_append mt_append (pv 8) (pa_cons (pe_callTy cr_tupOf (by rfl) fr.tuple (by decide +kernel) (pa_cons (pe_lc (own := [("step", 7)]) rfl sc_least.nd (pi_seq (pe_ix ix_seq (pv 2) (pv 9) (fun _ _ => rfl))) (blkOk_by (own := [("step", 7)]) (N := N_least) (sc := defScope s_least) (by decide +kernel)) (fun _ _ _ _ _ => (pg_name (i := 7) sc_least.nd rfl (Or.inl rfl))) (fun _ _ _ _ _ => pts_nil) (fun _ _ _ _ _ => (pe_tup (pa_cons (pe_dget (hu1 hr) (pv 4) (pe_dget (hu1 hr) (pv 3) (pe_ix ix_seq (pv 7) pe_int (fun _ _ => rfl)) (fun _ _ => rfl)) (fun _ _ => rfl)) (pa_cons (pe_ix ix_seq (pv 7) pe_int (fun _ _ => rfl)) pa_nil))))) pa_nil)) pa_nil)))))
    (pss_one (ps_ret (pe_tup (pa_cons (pv 1) (pa_cons (pe_callTy cr_tupOf (by rfl) fr.tuple (by decide +kernel) (pa_cons (pv 8) pa_nil)) pa_nil))))))))))))

abbrev s_targets_by : Stmt := top 10
abbrev N_targets_by : List Str := ["small", "letter", "row"]
theorem sc_targets_by : FnScope N_targets_by ["small", "letter"] (defScope s_targets_by) := ⟨rfl, rfl, rfl, by decide +kernel, rfl, by decide +kernel, by decide +kernel⟩
def t_targets_by (K : PySem.W.Frag) : TS :=
    (tRet (tLc (iSeq K (tOp (rIx K) (tVar 0) (tC (.int 1)))) (gName 2) tYes (tOp (rIx K) (tOp (rIx K) (tVar 2) (tVar 1)) (tC (.int 0))) [2]))
theorem d_targets_by {P : Program} {w : World} {K : PySem.W.Frag} {mg : Str → Option Value} {base : Heap} {f : Addr} {cdv : Value} {A : Around} {outer : List Env} {s : Shared} {H : Hp} {E : XK} (fr : Fr mg)
    (hg : (A.deeper (envOfC "targets_by" (defScope s_targets_by) s.heap.objs.size f cdv)).guards = some []) (hr : Room 0 (A.deeper (envOfC "targets_by" (defScope s_targets_by) s.heap.objs.size f cdv))) :
    PSs (cxOf CX0 P w K mg base N_targets_by "targets_by" (defScope s_targets_by) f cdv A outer s H E).nox (defBody s_targets_by) (t_targets_by K) :=
  (pss_one (ps_ret (pe_lc (own := [("row", 2)]) rfl sc_targets_by.nd (pi_seq (pe_ix ix_seq (pv 0) pe_int (fun _ _ => rfl))) (blkOk_by (own := [("row", 2)]) (N := N_targets_by) (sc := defScope s_targets_by) (by decide +kernel)) (fun _ _ _ _ _ => (pg_name (i := 2) sc_targets_by.nd rfl (Or.inl rfl))) (fun _ _ _ _ _ => pts_nil) (fun _ _ _ _ _ => (pe_ix ix_seq (pe_ix ix_seq (pv 2) (pv 1) (fun _ _ => rfl)) pe_int (fun _ _ => rfl))))))

abbrev s_stays : Stmt := top 11
abbrev N_stays : List Str := ["small", "letter"]
theorem sc_stays : FnScope N_stays ["small", "letter"] (defScope s_stays) := ⟨rfl, rfl, rfl, by decide +kernel, rfl, by decide +kernel, by decide +kernel⟩
def t_stays (K : PySem.W.Frag) : TS :=
    (tRet (tOp (rEqD K) (tCall (sp_targets_by K) [] E0 (tCons (tVar 0) (tCons (tVar 1) tNil))) (tLstRg (tRg1 (tCB (rLn K) (tCons (tOp (rIx K) (tVar 0) (tC (.int 1))) tNil))))))
theorem d_stays {P : Program} {w : World} {K : PySem.W.Frag} {mg : Str → Option Value} {base : Heap} {f : Addr} {cdv : Value} {A : Around} {outer : List Env} {s : Shared} {H : Hp} {E : XK} (fr : Fr mg) (C_targets_by : Cal P w K mg base "targets_by" ["small", "letter"] 1 (sp_targets_by K))
    (hg : (A.deeper (envOfC "stays" (defScope s_stays) s.heap.objs.size f cdv)).guards = some []) (hr : Room 1 (A.deeper (envOfC "stays" (defScope s_stays) s.heap.objs.size f cdv))) :
    PSs (cxOf CX0 P w K mg base N_stays "stays" (defScope s_stays) f cdv A outer s H E).nox (defBody s_stays) (t_stays K) :=
  (pss_one (ps_ret (pe_cmpR (op_eqD hr.units) (pe_cal C_targets_by hg (hr.mono (by decide)) (by rfl) (pa_cons (pv 0) (pa_cons (pv 1) pa_nil))) (pe_listRg rfl (by rfl) fr.list (prg_1 (by rfl) fr.range (pe_callB cr_ln (by rfl) fr.len (by decide +kernel) (pa_cons (pe_ix ix_seq (pv 0) pe_int (fun _ _ => rfl)) pa_nil)))) (nomark _))))

abbrev s_sets_or_stays : Stmt := top 12
abbrev N_sets_or_stays : List Str := ["small", "letter", "targets"]
theorem sc_sets_or_stays : FnScope N_sets_or_stays ["small", "letter"] (defScope s_sets_or_stays) := ⟨rfl, rfl, rfl, by decide +kernel, rfl, by decide +kernel, by decide +kernel⟩
def t_sets_or_stays (K : PySem.W.Frag) : TS :=
    (tSeq (tAsg (tCall (sp_targets_by K) [] E0 (tCons (tVar 0) (tCons (tVar 1) tNil))) (gName 2))
    (tRet (tOrV (tCall (sp_stays K) [] E0 (tCons (tVar 0) (tCons (tVar 1) tNil))) (tOp (rEqD K) (tVar 2) (tOp rMulU (tLst (tCons (tOp (rIx K) (tVar 2) (tC (.int 0))) tNil)) (tCB (rLn K) (tCons (tVar 2) tNil)))))))
theorem d_sets_or_stays {P : Program} {w : World} {K : PySem.W.Frag} {mg : Str → Option Value} {base : Heap} {f : Addr} {cdv : Value} {A : Around} {outer : List Env} {s : Shared} {H : Hp} {E : XK} (fr : Fr mg) (C_targets_by : Cal P w K mg base "targets_by" ["small", "letter"] 1 (sp_targets_by K)) (C_stays : Cal P w K mg base "stays" ["small", "letter"] 2 (sp_stays K))
    (hg : (A.deeper (envOfC "sets_or_stays" (defScope s_sets_or_stays) s.heap.objs.size f cdv)).guards = some []) (hr : Room 2 (A.deeper (envOfC "sets_or_stays" (defScope s_sets_or_stays) s.heap.objs.size f cdv))) :
    PSs (cxOf CX0 P w K mg base N_sets_or_stays "sets_or_stays" (defScope s_sets_or_stays) f cdv A outer s H E).nox (defBody s_sets_or_stays) (t_sets_or_stays K) :=
  (pss_cons (ps_set (i := 2) sc_sets_or_stays.nd rfl (Or.inl rfl) (pe_cal C_targets_by hg (hr.mono (by decide)) (by rfl) (pa_cons (pv 0) (pa_cons (pv 1) pa_nil))))
    (pss_one (ps_ret (pe_or (pe_cal C_stays hg (hr.mono (by decide)) (by rfl) (pa_cons (pv 0) (pa_cons (pv 1) pa_nil))) (pe_one (pe_cmpR (op_eqD hr.units) (pv 2) (pe_op op_mulU (pe_lst (pa_cons (pe_ix ix_seq (pv 2) pe_int (fun _ _ => rfl)) pa_nil)) (pe_callB cr_ln (by rfl) fr.len (by decide +kernel) (pa_cons (pv 2) pa_nil))) (nomark _)))))))

abbrev s_setters : Stmt := top 13
abbrev N_setters : List Str := ["machine", "small", "wild", "letter"]
theorem sc_setters : FnScope N_setters ["machine"] (defScope s_setters) := ⟨rfl, rfl, rfl, by decide +kernel, rfl, by decide +kernel, by decide +kernel⟩
def t_setters (K : PySem.W.Frag) : TS :=
    (tSeq (tAsg (tCall (sp_least K) [] E0 (tCons (tVar 0) tNil)) (gName 1))
    (tSeq (tAsg (tLc (iRng1 (tCons (tOp (rI CPow fun i j => .int (i * 2 ^ j.toNat)) (tC (.int 1)) (tOp (rIx K) (tVar 1) (tC (.int 0)))) tNil)) (gName 3) (tNot (tB (tCall (sp_sets_or_stays K) [] E0 (tCons (tVar 1) (tCons (tVar 3) tNil))))) (tVar 3) [3]) (gName 2))
    (tRet (tOp (rEqD K) (tVar 2) (tLst tNil)))))
theorem d_setters {P : Program} {w : World} {K : PySem.W.Frag} {mg : Str → Option Value} {base : Heap} {f : Addr} {cdv : Value} {A : Around} {outer : List Env} {s : Shared} {H : Hp} {E : XK} (fr : Fr mg) (C_least : Cal P w K mg base "least" ["machine"] 3 (sp_least K)) (C_sets_or_stays : Cal P w K mg base "sets_or_stays" ["small", "letter"] 3 (sp_sets_or_stays K))
    (hg : (A.deeper (envOfC "setters" (defScope s_setters) s.heap.objs.size f cdv)).guards = some []) (hr : Room 3 (A.deeper (envOfC "setters" (defScope s_setters) s.heap.objs.size f cdv))) :
    PSs (cxOf CX0 P w K mg base N_setters "setters" (defScope s_setters) f cdv A outer s H E).nox (defBody s_setters) (t_setters K) :=
  (pss_cons (ps_set (i := 1) sc_setters.nd rfl (Or.inr rfl) (pe_cal C_least hg (hr.mono (by decide)) (by rfl) (pa_cons (pv 0) pa_nil)))
    (pss_cons (ps_setLc (i := 2) (own := [("letter", 3)]) rfl sc_setters.nd rfl rfl (sw_true rfl rfl rfl (by decide +kernel)) (pi_range1 (by rfl) fr.range (pa_cons (pe_op op_shl pe_int (pe_ix ix_seq (pv 1) pe_int (fun _ _ => rfl))) pa_nil)) (blkOk_by (own := [("letter", 3)]) (N := N_setters) (sc := defScope s_setters) (by decide +kernel)) (fun _ _ _ _ _ => (pg_name (i := 3) sc_setters.nd rfl (Or.inl rfl))) (fun _ _ _ _ _ => (pts_one (pt_not (pt_val (pe_cal C_sets_or_stays hg (hr.mono (by decide)) (by rfl) (pa_cons (pv 1) (pa_cons (pv 3) pa_nil))))))) (fun _ _ _ _ _ => (pv 3)))
    (pss_one (ps_ret (pe_cmpR (op_eqD hr.units) (pv 2) (pe_lst pa_nil) (nomark _))))))

abbrev s_fewest : Stmt := top 14
abbrev N_fewest : List Str := ["machine"]
theorem sc_fewest : FnScope N_fewest ["machine"] (defScope s_fewest) := ⟨rfl, rfl, rfl, by decide +kernel, rfl, by decide +kernel, by decide +kernel⟩
def t_fewest (K : PySem.W.Frag) (C : Addr) (E : XK) : TS :=
    (tSeq (tIfS (tNot (tB (tCall (sp_setters K) [] E0 (tCons (tVar 0) tNil)))) (tRaise (WD E) C) tNext)
    (tRet (tBits (tOp (rI0 fun i j => .int (i - j)) (tCB (rLn K) (tCons (tOp (rIx K) (tCall (sp_least K) [] E0 (tCons (tVar 0) tNil)) (tC (.int 1))) tNil)) (tC (.int 1))))))
theorem d_fewest {P : Program} {w : World} {K : PySem.W.Frag} {mg : Str → Option Value} {base : Heap} {f : Addr} {cdv : Value} {A : Around} {outer : List Env} {s : Shared} {H : Hp} {E : XK} (fr : Fr mg) {C fI cc cda : Addr} {qn : Str} (T : UnfTxt P K C fI cc cda qn) (gC : mg "Unfit" = some (.ref C)) (gS : mg "super" = none) (C_setters : CalN P w K mg base "setters" ["machine"] 4 (sp_setters K)) (C_least : Cal P w K mg base "least" ["machine"] 3 (sp_least K))
    (hg : (A.deeper (envOfC "fewest" (defScope s_fewest) s.heap.objs.size f cdv)).guards = some []) (hr : Room 4 (A.deeper (envOfC "fewest" (defScope s_fewest) s.heap.objs.size f cdv))) :
    PSs (cxOf (L2.CX P w) P w K mg base N_fewest "fewest" (defScope s_fewest) f cdv A outer s H E) (defBody s_fewest) (t_fewest K C E) :=
  (pss_cons (ps_if (pt_not (pt_val (pe_cal C_setters.cal hg (hr.mono (by decide)) (by rfl) (pa_cons (pv 0) pa_nil)))) (pss_one (ps_raiseU T gC gS rfl (takes_of rfl rfl rfl rfl) (hr.mono (by decide)) (by rfl))) pss_nil)
    (pss_one (ps_ret (pe_bits (pe_op op_sub (pe_callB cr_ln (by rfl) fr.len (by decide +kernel) (pa_cons (pe_ix ix_seq (pe_cal C_least hg (hr.mono (by decide)) (by rfl) (pa_cons (pv 0) pa_nil)) pe_int (fun _ _ => rfl)) pa_nil)) pe_int)))))

abbrev s_letter_number : Stmt := top 15
abbrev N_letter_number : List Str := ["sheet", "letter", "j"]
theorem sc_letter_number : FnScope N_letter_number ["sheet", "letter"] (defScope s_letter_number) := ⟨rfl, rfl, rfl, by decide +kernel, rfl, by decide +kernel, by decide +kernel⟩
def t_letter_number (P : Program) (w : World) (K : PySem.W.Frag) (cSheet : Addr) : TS :=
    (tRet (tMeth cSheet "put_all" (sp_Sheet_put_all P w K cSheet) [] E0 (tVar 0) (tCons (tC (.str "and")) (tCons (tLc (iRng1 (tCons (tFld K (tVar 0) "inputs") tNil)) (gName 2) tYes (tMeth cSheet "chosen" (sp_Sheet_chosen P w K cSheet) [] E0 (tVar 0) (tCons (tVar 2) (tCons (tOp (rI0 fun i j => .int (Builtin.bitAnd i j)) (tOp (rI (fun _ j => 0 ≤ j) fun i j => .int (i / 2 ^ j.toNat)) (tVar 1) (tVar 2)) (tC (.int 1))) tNil))) [2]) tNil))))
theorem d_letter_number {P : Program} {w : World} {K : PySem.W.Frag} {mg : Str → Option Value} {base : Heap} {f : Addr} {cdv : Value} {A : Around} {outer : List Env} {s : Shared} {H : Hp} {E : XK} (fr : Fr mg) {cSheet : Addr} (cl_Sheet : Cls K cSheet) (g_Sheet : mg "Sheet" = some (.ref cSheet)) (C_Sheet_put_all : CalM P w K mg base cSheet "put_all" ["self", "word", "operands"] 2 (sp_Sheet_put_all P w K cSheet)) (C_Sheet_chosen : CalM P w K mg base cSheet "chosen" ["self", "operand", "bit"] 2 (sp_Sheet_chosen P w K cSheet))
    (hg : (A.deeper (envOfC "letter_number" (defScope s_letter_number) s.heap.objs.size f cdv)).guards = some []) (hr : Room 2 (A.deeper (envOfC "letter_number" (defScope s_letter_number) s.heap.objs.size f cdv))) :
    PSs (cxOf CX0 P w K mg base N_letter_number "letter_number" (defScope s_letter_number) f cdv A outer s H E).nox (defBody s_letter_number) (t_letter_number P w K cSheet) :=
  (pss_one (ps_ret (pe_calM cl_Sheet C_Sheet_put_all hg (hr.mono (by decide)) (pv 0) (pa_cons pe_str (pa_cons (pe_lc (own := [("j", 2)]) rfl sc_letter_number.nd (pi_range1 (by rfl) fr.range (pa_cons (pe_fld (pv 0) rfl) pa_nil)) (blkOk_by (own := [("j", 2)]) (N := N_letter_number) (sc := defScope s_letter_number) (by decide +kernel)) (fun _ _ _ _ _ => (pg_name (i := 2) sc_letter_number.nd rfl (Or.inl rfl))) (fun _ _ _ _ _ => pts_nil) (fun _ _ _ _ _ => (pe_calM cl_Sheet C_Sheet_chosen hg (hr.mono (by decide)) (pv 0) (pa_cons (pv 2) (pa_cons (pe_op op_and (pe_op op_shr (pv 1) (pv 2)) pe_int) pa_nil))))) pa_nil)))))

abbrev s_state_bit : Stmt := top 16
abbrev N_state_bit : List Str := ["sheet", "small", "letters", "place", "setting", "keeping", "letter", "number", "lifted", "held", "added"]
theorem sc_state_bit : FnScope N_state_bit ["sheet", "small", "letters", "place"] (defScope s_state_bit) := ⟨rfl, rfl, rfl, by decide +kernel, rfl, by decide +kernel, by decide +kernel⟩
def t_state_bit (P : Program) (w : World) (K : PySem.W.Frag) (cSheet : Addr) : TS :=
    (tSeq (tPar 4 5 (tCons (tLst tNil) (tCons (tLst tNil) tNil)))
    (tSeq (tFor (iEnumU K (tCons (tVar 2) tNil)) (gTup K 2 (gCons (gName 6) (gCons (gName 7) gNil)))
      (tIfS (tB (tCall (sp_stays K) [] E0 (tCons (tVar 1) (tCons (tVar 6) tNil)))) (tDrop (tBM K "list" rAppend (tVar 5) (tCons (tVar 7) tNil))) (tIfS (tTest (tOp (rEqD K) (tOp (rI0 fun i j => .int (Builtin.bitAnd i j)) (tOp (rI (fun _ j => 0 ≤ j) fun i j => .int (i / 2 ^ j.toNat)) (tOp (rIx K) (tCall (sp_targets_by K) [] E0 (tCons (tVar 1) (tCons (tVar 6) tNil))) (tC (.int 0))) (tVar 3)) (tC (.int 1))) (tC (.int 1)))) (tDrop (tBM K "list" rAppend (tVar 4) (tCons (tVar 7) tNil))) tNext)))
    (tSeq (tAsg (tMeth cSheet "put_all" (sp_Sheet_put_all P w K cSheet) [] E0 (tVar 0) (tCons (tC (.str "or")) (tCons (tVar 4) tNil))) (gName 8))
    (tSeq (tAsg (tMeth cSheet "put_all" (sp_Sheet_put_all P w K cSheet) [] E0 (tVar 0) (tCons (tC (.str "or")) (tCons (tOp (rAddU K) (tVar 4) (tVar 5)) tNil))) (gName 9))
    (tSeq (tAsg (tMeth cSheet "put" (sp_Sheet_put P w K cSheet) [] E0 (tVar 0) (tCons (tTup (tCons (tC (.str "plus")) (tCons (tVar 9) (tCons (tVar 8) tNil)))) tNil)) (gName 10))
    (tRet (tMeth cSheet "put" (sp_Sheet_put P w K cSheet) [] E0 (tVar 0) (tCons (tTup (tCons (tC (.str "xor")) (tCons (tMeth cSheet "put" (sp_Sheet_put P w K cSheet) [] E0 (tVar 0) (tCons (tTup (tCons (tC (.str "xor")) (tCons (tVar 10) (tCons (tVar 9) tNil)))) tNil)) (tCons (tVar 8) tNil)))) tNil))))))))
theorem d_state_bit {P : Program} {w : World} {K : PySem.W.Frag} {mg : Str → Option Value} {base : Heap} {f : Addr} {cdv : Value} {A : Around} {outer : List Env} {s : Shared} {H : Hp} {E : XK} (fr : Fr mg) {cSheet : Addr} (cl_Sheet : Cls K cSheet) (g_Sheet : mg "Sheet" = some (.ref cSheet)) (C_Sheet_put_all : CalM P w K mg base cSheet "put_all" ["self", "word", "operands"] 2 (sp_Sheet_put_all P w K cSheet)) (C_Sheet_put : CalM P w K mg base cSheet "put" ["self", "row"] 1 (sp_Sheet_put P w K cSheet)) (C_stays : Cal P w K mg base "stays" ["small", "letter"] 2 (sp_stays K)) (C_targets_by : Cal P w K mg base "targets_by" ["small", "letter"] 1 (sp_targets_by K))
    (hg : (A.deeper (envOfC "state_bit" (defScope s_state_bit) s.heap.objs.size f cdv)).guards = some []) (hr : Room 2 (A.deeper (envOfC "state_bit" (defScope s_state_bit) s.heap.objs.size f cdv))) :
    PSs (cxOf CX0 P w K mg base N_state_bit "state_bit" (defScope s_state_bit) f cdv A outer s H E).nox (defBody s_state_bit) (t_state_bit P w K cSheet) :=
  (pss_cons (ps_par (i := 4) (j := 5) (by rfl) sc_state_bit.nd rfl rfl (by decide) rfl rfl (pa_cons (pe_lst pa_nil) (pa_cons (pe_lst pa_nil) pa_nil)) (by rfl))
    (pss_cons (ps_for PassesOwn.never rfl (pi_enumU (by rfl) fr.enumerate (pa_cons (pv 2) pa_nil)) (pg_tup rfl (pgs_cons (pg_name (i := 6) sc_state_bit.nd rfl (Or.inl rfl)) (pgs_cons (pg_name (i := 7) sc_state_bit.nd rfl (Or.inl rfl)) pgs_nil)))
      (pss_one (ps_if (pt_val (pe_cal C_stays hg (hr.mono (by decide)) (by rfl) (pa_cons (pv 1) (pa_cons (pv 6) pa_nil)))) (pss_one (ps_expr (pe_bm PySem.F.plainAttrs_list PySem.F.slot_list_append PySem.F.type_list_append mt_append (pv 5) (pa_cons (pv 7) pa_nil)))) (pss_one (ps_if (pt_cmpR (op_eqD hr.units) (pe_op op_and (pe_op op_shr (pe_ix ix_seq (pe_cal C_targets_by hg (hr.mono (by decide)) (by rfl) (pa_cons (pv 1) (pa_cons (pv 6) pa_nil))) pe_int (fun _ _ => rfl)) (pv 3)) pe_int) pe_int (nomark _)) (pss_one (ps_expr (pe_bm PySem.F.plainAttrs_list PySem.F.slot_list_append PySem.F.type_list_append mt_append (pv 4) (pa_cons (pv 7) pa_nil)))) pss_nil)))))
    (pss_cons (ps_set (i := 8) sc_state_bit.nd rfl (Or.inl rfl) (pe_calM cl_Sheet C_Sheet_put_all hg (hr.mono (by decide)) (pv 0) (pa_cons pe_str (pa_cons (pv 4) pa_nil))))
    (pss_cons (ps_set (i := 9) sc_state_bit.nd rfl (Or.inl rfl) (pe_calM cl_Sheet C_Sheet_put_all hg (hr.mono (by decide)) (pv 0) (pa_cons pe_str (pa_cons (pe_op op_addU (pv 4) (pv 5)) pa_nil))))
    (pss_cons (ps_set (i := 10) sc_state_bit.nd rfl (Or.inl rfl) (pe_calM cl_Sheet C_Sheet_put hg (hr.mono (by decide)) (pv 0) (pa_cons (pe_tup (pa_cons pe_str (pa_cons (pv 9) (pa_cons (pv 8) pa_nil)))) pa_nil)))
    (pss_one (ps_ret (pe_calM cl_Sheet C_Sheet_put hg (hr.mono (by decide)) (pv 0) (pa_cons (pe_tup (pa_cons pe_str (pa_cons (pe_calM cl_Sheet C_Sheet_put hg (hr.mono (by decide)) (pv 0) (pa_cons (pe_tup (pa_cons pe_str (pa_cons (pv 10) (pa_cons (pv 9) pa_nil)))) pa_nil)) (pa_cons (pv 8) pa_nil)))) pa_nil)))))))))

abbrev s_state_number : Stmt := top 17
abbrev N_state_number : List Str := ["sheet", "bits", "state", "place", "bit"]
theorem sc_state_number : FnScope N_state_number ["sheet", "bits", "state"] (defScope s_state_number) := ⟨rfl, rfl, rfl, by decide +kernel, rfl, by decide +kernel, by decide +kernel⟩
def t_state_number (P : Program) (w : World) (K : PySem.W.Frag) (cSheet : Addr) : TS :=
    (tRet (tMeth cSheet "put_all" (sp_Sheet_put_all P w K cSheet) [] E0 (tVar 0) (tCons (tC (.str "and")) (tCons (tLc (iEnumU K (tCons (tVar 1) tNil)) (gTup K 2 (gCons (gName 3) (gCons (gName 4) gNil))) tYes (tMeth cSheet "chosen" (sp_Sheet_chosen P w K cSheet) [] E0 (tVar 0) (tCons (tVar 4) (tCons (tOp (rI0 fun i j => .int (Builtin.bitAnd i j)) (tOp (rI (fun _ j => 0 ≤ j) fun i j => .int (i / 2 ^ j.toNat)) (tVar 2) (tVar 3)) (tC (.int 1))) tNil))) [3, 4]) tNil))))
theorem d_state_number {P : Program} {w : World} {K : PySem.W.Frag} {mg : Str → Option Value} {base : Heap} {f : Addr} {cdv : Value} {A : Around} {outer : List Env} {s : Shared} {H : Hp} {E : XK} (fr : Fr mg) {cSheet : Addr} (cl_Sheet : Cls K cSheet) (g_Sheet : mg "Sheet" = some (.ref cSheet)) (C_Sheet_put_all : CalM P w K mg base cSheet "put_all" ["self", "word", "operands"] 2 (sp_Sheet_put_all P w K cSheet)) (C_Sheet_chosen : CalM P w K mg base cSheet "chosen" ["self", "operand", "bit"] 2 (sp_Sheet_chosen P w K cSheet))
    (hg : (A.deeper (envOfC "state_number" (defScope s_state_number) s.heap.objs.size f cdv)).guards = some []) (hr : Room 2 (A.deeper (envOfC "state_number" (defScope s_state_number) s.heap.objs.size f cdv))) :
    PSs (cxOf CX0 P w K mg base N_state_number "state_number" (defScope s_state_number) f cdv A outer s H E).nox (defBody s_state_number) (t_state_number P w K cSheet) :=
  (pss_one (ps_ret (pe_calM cl_Sheet C_Sheet_put_all hg (hr.mono (by decide)) (pv 0) (pa_cons pe_str (pa_cons (pe_lc (own := [("place", 3), ("bit", 4)]) rfl sc_state_number.nd (pi_enumU (by rfl) fr.enumerate (pa_cons (pv 1) pa_nil)) (blkOk_by (own := [("place", 3), ("bit", 4)]) (N := N_state_number) (sc := defScope s_state_number) (by decide +kernel)) (fun _ _ _ _ _ => (pg_tup rfl (pgs_cons (pg_name (i := 3) sc_state_number.nd rfl (Or.inl rfl)) (pgs_cons (pg_name (i := 4) sc_state_number.nd rfl (Or.inl rfl)) pgs_nil)))) (fun _ _ _ _ _ => pts_nil) (fun _ _ _ _ _ => (pe_calM cl_Sheet C_Sheet_chosen hg (hr.mono (by decide)) (pv 0) (pa_cons (pv 4) (pa_cons (pe_op op_and (pe_op op_shr (pv 2) (pv 3)) pe_int) pa_nil))))) pa_nil)))))

abbrev s_made_with_fewest : Stmt := top 18
abbrev N_made_with_fewest : List Str := ["machine", "count", "small", "sheet", "letters", "bits", "found", "state", "row", "writing", "here", "letter", "place", "pair"]
theorem sc_made_with_fewest : FnScope N_made_with_fewest ["machine"] (defScope s_made_with_fewest) := ⟨rfl, rfl, rfl, by decide +kernel, rfl, by decide +kernel, by decide +kernel⟩
def t_made_with_fewest (P : Program) (w : World) (K : PySem.W.Frag) (cSheet : Addr) (C : Addr) (E : XK) : TS :=
    (tSeq (tAsg (tCallS (sp_fewest K C) (WE (WD E)) (tCons (tVar 0) tNil)) (gName 1))
    (tSeq (tAsg (tCall (sp_least K) [] E0 (tCons (tVar 0) tNil)) (gName 2))
    (tSeq (tAsg (tMake cSheet (sp_Sheet___init__ P w cSheet) [] E0 (tCons (tOp (rIx K) (tVar 2) (tC (.int 0))) tNil)) (gName 3))
    (tSeq (tAsg (tLc (iRng1 (tCons (tOp (rI CPow fun i j => .int (i * 2 ^ j.toNat)) (tC (.int 1)) (tOp (rIx K) (tVar 2) (tC (.int 0)))) tNil)) (gName 11) tYes (tCall (sp_letter_number P w K cSheet) [] E0 (tCons (tVar 3) (tCons (tVar 11) tNil))) [11]) (gName 4))
    (tSeq (tAsg (tLc (iRng1 (tCons (tVar 1) tNil)) (gName 12) tYes (tCall (sp_state_bit P w K cSheet) [] E0 (tCons (tVar 3) (tCons (tVar 2) (tCons (tVar 4) (tCons (tVar 12) tNil))))) [12]) (gName 5))
    (tSeq (tAsg (tLst tNil) (gName 6))
    (tSeq (tFor (iEnumU K (tCons (tOp (rIx K) (tVar 2) (tC (.int 1))) tNil)) (gTup K 2 (gCons (gName 7) (gCons (gName 8) gNil)))
      (tSeq (tAsg (tLc (iEnumU K (tCons (tVar 8) tNil)) (gTup K 2 (gCons (gName 11) (gCons (gName 13) gNil))) (tTest (tOp (rEqD K) (tOp (rIx K) (tVar 13) (tC (.int 1))) (tC (.int 1)))) (tOp (rIx K) (tVar 4) (tVar 11)) [11, 13]) (gName 9))
    (tIfS (tTest (tOp (rNeD K) (tVar 9) (tLst tNil))) (tSeq (tAsg (tCall (sp_state_number P w K cSheet) [] E0 (tCons (tVar 3) (tCons (tVar 5) (tCons (tVar 7) tNil)))) (gName 10))
    (tDrop (tBM K "list" rAppend (tVar 6) (tCons (tMeth cSheet "put" (sp_Sheet_put P w K cSheet) [] E0 (tVar 3) (tCons (tTup (tCons (tC (.str "and")) (tCons (tVar 10) (tCons (tMeth cSheet "put_all" (sp_Sheet_put_all P w K cSheet) [] E0 (tVar 3) (tCons (tC (.str "or")) (tCons (tVar 9) tNil))) tNil)))) tNil)) tNil)))) tNext)))
    (tRet (tMeth cSheet "told" (sp_Sheet_told P w K cSheet) [] E0 (tVar 3) (tCons (tMeth cSheet "put_all" (sp_Sheet_put_all P w K cSheet) [] E0 (tVar 3) (tCons (tC (.str "or")) (tCons (tVar 6) tNil))) tNil))))))))))
theorem d_made_with_fewest {P : Program} {w : World} {K : PySem.W.Frag} {mg : Str → Option Value} {base : Heap} {f : Addr} {cdv : Value} {A : Around} {outer : List Env} {s : Shared} {H : Hp} {E : XK} (fr : Fr mg) {cSheet : Addr} (cl_Sheet : Cls K cSheet) (g_Sheet : mg "Sheet" = some (.ref cSheet)) {C fI cc cda : Addr} {qn : Str} (T : UnfTxt P K C fI cc cda qn) (gC : mg "Unfit" = some (.ref C)) (gS : mg "super" = none) (C_fewest : CalX P w K mg base "fewest" ["machine"] 5 (sp_fewest K C)) (C_least : Cal P w K mg base "least" ["machine"] 3 (sp_least K)) (C_Sheet___init__ : CalI P w K mg base cSheet ["self", "many"] 1 (sp_Sheet___init__ P w cSheet)) (C_Sheet_told : CalM P w K mg base cSheet "told" ["self", "operand"] 2 (sp_Sheet_told P w K cSheet)) (C_letter_number : Cal P w K mg base "letter_number" ["sheet", "letter"] 3 (sp_letter_number P w K cSheet)) (C_state_bit : Cal P w K mg base "state_bit" ["sheet", "small", "letters", "place"] 3 (sp_state_bit P w K cSheet)) (C_Sheet_put_all : CalM P w K mg base cSheet "put_all" ["self", "word", "operands"] 2 (sp_Sheet_put_all P w K cSheet)) (C_state_number : Cal P w K mg base "state_number" ["sheet", "bits", "state"] 3 (sp_state_number P w K cSheet)) (C_Sheet_put : CalM P w K mg base cSheet "put" ["self", "row"] 1 (sp_Sheet_put P w K cSheet))
    (hg : (A.deeper (envOfC "made_with_fewest" (defScope s_made_with_fewest) s.heap.objs.size f cdv)).guards = some []) (hr : Room 5 (A.deeper (envOfC "made_with_fewest" (defScope s_made_with_fewest) s.heap.objs.size f cdv))) :
    PSs (cxOf (L2.CX P w) P w K mg base N_made_with_fewest "made_with_fewest" (defScope s_made_with_fewest) f cdv A outer s H E) (defBody s_made_with_fewest) (t_made_with_fewest P w K cSheet C E) :=
  (pss_cons (ps_set (i := 1) sc_made_with_fewest.nd rfl (Or.inl rfl) (pe_calX C_fewest (fun σ => passAt (takes_of rfl rfl rfl rfl) σ) hg (hr.mono (by decide)) (by rfl) (pa_cons (pv 0) pa_nil)))
    (pss_cons (ps_set (i := 2) sc_made_with_fewest.nd rfl (Or.inr rfl) (pe_cal C_least hg (hr.mono (by decide)) (by rfl) (pa_cons (pv 0) pa_nil)))
    (pss_cons (ps_set (i := 3) sc_made_with_fewest.nd rfl (Or.inr rfl) (pe_calI C_Sheet___init__ hg (hr.mono (by decide)) (by rfl) g_Sheet (pa_cons (pe_ix ix_seq (pv 2) pe_int (fun _ _ => rfl)) pa_nil)))
    (pss_cons (ps_set (i := 4) sc_made_with_fewest.nd rfl (Or.inr rfl) (pe_lc (own := [("letter", 11)]) rfl sc_made_with_fewest.nd (pi_range1 (by rfl) fr.range (pa_cons (pe_op op_shl pe_int (pe_ix ix_seq (pv 2) pe_int (fun _ _ => rfl))) pa_nil)) (blkOk_by (own := [("letter", 11)]) (N := N_made_with_fewest) (sc := defScope s_made_with_fewest) (by decide +kernel)) (fun _ _ _ _ _ => (pg_name (i := 11) sc_made_with_fewest.nd rfl (Or.inl rfl))) (fun _ _ _ _ _ => pts_nil) (fun _ _ _ _ _ => (pe_cal C_letter_number hg (hr.mono (by decide)) (by rfl) (pa_cons (pv 3) (pa_cons (pv 11) pa_nil))))))
    (pss_cons (ps_setLc (i := 5) (own := [("place", 12)]) rfl sc_made_with_fewest.nd rfl rfl (sw_true rfl rfl rfl (by decide +kernel)) (pi_range1 (by rfl) fr.range (pa_cons (pv 1) pa_nil)) (blkOk_by (own := [("place", 12)]) (N := N_made_with_fewest) (sc := defScope s_made_with_fewest) (by decide +kernel)) (fun _ _ _ _ _ => (pg_name (i := 12) sc_made_with_fewest.nd rfl (Or.inl rfl))) (fun _ _ _ _ _ => pts_nil) (fun _ _ _ _ _ => (pe_cal C_state_bit hg (hr.mono (by decide)) (by rfl) (pa_cons (pv 3) (pa_cons (pv 2) (pa_cons (pv 4) (pa_cons (pv 12) pa_nil)))))))
    (pss_cons (ps_set (i := 6) sc_made_with_fewest.nd rfl (Or.inl rfl) (pe_lst pa_nil))
    (pss_cons (ps_for (passes_of rfl) rfl (pi_enumU (by rfl) fr.enumerate (pa_cons (pe_ix ix_seq (pv 2) pe_int (fun _ _ => rfl)) pa_nil)) (pg_tup rfl (pgs_cons (pg_name (i := 7) sc_made_with_fewest.nd rfl (Or.inl rfl)) (pgs_cons (pg_name (i := 8) sc_made_with_fewest.nd rfl (Or.inl rfl)) pgs_nil)))
      (pss_cons (ps_setLc (i := 9) (own := [("letter", 11), ("pair", 13)]) rfl sc_made_with_fewest.nd rfl rfl (sw_true rfl rfl rfl (by decide +kernel)) (pi_enumU (by rfl) fr.enumerate (pa_cons (pv 8) pa_nil)) (blkOk_by (own := [("letter", 11), ("pair", 13)]) (N := N_made_with_fewest) (sc := defScope s_made_with_fewest) (by decide +kernel)) (fun _ _ _ _ _ => (pg_tup rfl (pgs_cons (pg_name (i := 11) sc_made_with_fewest.nd rfl (Or.inl rfl)) (pgs_cons (pg_name (i := 13) sc_made_with_fewest.nd rfl (Or.inl rfl)) pgs_nil)))) (fun _ _ _ _ _ => (pts_one (pt_cmpR (op_eqD hr.units) (pe_ix ix_seq (pv 13) pe_int (fun _ _ => rfl)) pe_int (nomark _)))) (fun _ _ _ _ _ => (pe_ix ix_seq (pv 4) (pv 11) (fun _ _ => rfl))))
    (pss_one (ps_if (pt_cmpR (op_neD hr.units) (pv 9) (pe_lst pa_nil) (nomark _)) (pss_cons (ps_set (i := 10) sc_made_with_fewest.nd rfl (Or.inl rfl) (pe_cal C_state_number hg (hr.mono (by decide)) (by rfl) (pa_cons (pv 3) (pa_cons (pv 5) (pa_cons (pv 7) pa_nil)))))
    (pss_one (ps_expr (pe_bm PySem.F.plainAttrs_list PySem.F.slot_list_append PySem.F.type_list_append mt_append (pv 6) (pa_cons (pe_calM cl_Sheet C_Sheet_put hg (hr.mono (by decide)) (pv 3) (pa_cons (pe_tup (pa_cons pe_str (pa_cons (pv 10) (pa_cons (pe_calM cl_Sheet C_Sheet_put_all hg (hr.mono (by decide)) (pv 3) (pa_cons pe_str (pa_cons (pv 9) pa_nil))) pa_nil)))) pa_nil)) pa_nil))))) pss_nil))))
    (pss_one (ps_ret (pe_calM cl_Sheet C_Sheet_told hg (hr.mono (by decide)) (pv 3) (pa_cons (pe_calM cl_Sheet C_Sheet_put_all hg (hr.mono (by decide)) (pv 3) (pa_cons pe_str (pa_cons (pv 6) pa_nil))) pa_nil)))))))))))

abbrev s_law_urn : Stmt := top 20
abbrev N_law_urn : List Str := ["script", "cells", "seed", "cell"]
theorem sc_law_urn : FnScope N_law_urn ["script"] (defScope s_law_urn) := ⟨rfl, rfl, rfl, by decide +kernel, rfl, by decide +kernel, by decide +kernel⟩
def t_law_urn (K : PySem.W.Frag) : TS :=
    (tSeq (tPar 1 2 (tCons (tLc (iSeq K (tSl (rSlU K) (tVar 0) tNoPart (tPart (tC (.int 63))))) (gName 3) tYes (tOp (rAddU K) (tOp rMulU (tC (.int 2)) (tCB rAbs (tCons (tVar 3) tNil))) (tCB rInt (tCons (tOp (rI0 fun i j => .bl (decide (i < j))) (tVar 3) (tC (.int 0))) tNil))) [3]) (tCons (tOp (rAddU K) (tC (.int 70111)) (tCB (rLn K) (tCons (tSl (rSlU K) (tVar 0) tNoPart (tPart (tC (.int 63)))) tNil))) tNil)))
    (tSeq (tFor (iSeq K (tVar 1)) (gName 3)
      (tAsg (tOp (rI (fun _ j => j ≠ 0) fun i j => .int (i.fmod j)) (tCB rInt (tCons (tOp (rAddU K) (tOp (rAddU K) (tOp rMulU (tVar 2) (tC (.int 48271))) (tVar 3)) (tC (.int 17))) tNil)) (tC (.int 2147483647))) (gName 2)))
    (tRet (tDisp [((tC (.str "deep")), (tLc (iSeq K (tVar 1)) (gName 3) (tTest (tOp (rI0 fun i j => .bl (decide (j ≤ i))) (tVar 3) (tOp (rI CPow fun i j => .int (i ^ j.toNat)) (tC (.int 10)) (tC (.int 15))))) (tVar 3) [3])), ((tC (.str "seed")), (tVar 2)), ((tC (.str "count")), (tC (.int 0)))]))))
theorem d_law_urn {P : Program} {w : World} {K : PySem.W.Frag} {mg : Str → Option Value} {base : Heap} {f : Addr} {cdv : Value} {A : Around} {outer : List Env} {s : Shared} {H : Hp} {E : XK} (fr : Fr mg)
    (hg : (A.deeper (envOfC "_law_urn" (defScope s_law_urn) s.heap.objs.size f cdv)).guards = some []) (hr : Room 0 (A.deeper (envOfC "_law_urn" (defScope s_law_urn) s.heap.objs.size f cdv))) :
    PSs (cxOf CX0 P w K mg base N_law_urn "_law_urn" (defScope s_law_urn) f cdv A outer s H E).nox (defBody s_law_urn) (t_law_urn K) :=
  (pss_cons (ps_par (i := 1) (j := 2) (by rfl) sc_law_urn.nd rfl rfl (by decide) rfl rfl (pa_cons (pe_lc (own := [("cell", 3)]) rfl sc_law_urn.nd (pi_seq (pe_slice sl_U (pv 0) po_none (po_some pe_int))) (blkOk_by (own := [("cell", 3)]) (N := N_law_urn) (sc := defScope s_law_urn) (by decide +kernel)) (fun _ _ _ _ _ => (pg_name (i := 3) sc_law_urn.nd rfl (Or.inl rfl))) (fun _ _ _ _ _ => pts_nil) (fun _ _ _ _ _ => (pe_op op_addU (pe_op op_mulU pe_int (pe_callB cr_abs (by rfl) fr.abs (by decide +kernel) (pa_cons (pv 3) pa_nil))) (pe_callTy cr_int (by rfl) fr.int (by decide +kernel) (pa_cons (pe_cmpR op_lt (pv 3) pe_int (nomark _)) pa_nil))))) (pa_cons (pe_op op_addU pe_int (pe_callB cr_ln (by rfl) fr.len (by decide +kernel) (pa_cons (pe_slice sl_U (pv 0) po_none (po_some pe_int)) pa_nil))) pa_nil)) (by rfl))
    (pss_cons (ps_for PassesOwn.never rfl (pi_seq (pv 1)) (pg_name (i := 3) sc_law_urn.nd rfl (Or.inl rfl))
      (pss_one (ps_set (i := 2) sc_law_urn.nd rfl (Or.inl rfl) (pe_op op_modN (pe_callTy cr_int (by rfl) fr.int (by decide +kernel) (pa_cons (pe_op op_addU (pe_op op_addU (pe_op op_mulU (pv 2) pe_int) (pv 3)) pe_int) pa_nil)) pe_int))))
    (pss_one (ps_ret (pe_disp (pps_cons pe_str (pe_lc (own := [("cell", 3)]) rfl sc_law_urn.nd (pi_seq (pv 1)) (blkOk_by (own := [("cell", 3)]) (N := N_law_urn) (sc := defScope s_law_urn) (by decide +kernel)) (fun _ _ _ _ _ => (pg_name (i := 3) sc_law_urn.nd rfl (Or.inl rfl))) (fun _ _ _ _ _ => (pts_one (pt_cmpR op_ge (pv 3) (pe_op op_pow pe_int pe_int) (nomark _)))) (fun _ _ _ _ _ => (pv 3))) (pps_cons pe_str (pv 2) (pps_cons pe_str pe_int pps_nil))) (by rfl) (by rfl) (fun z => by cases z) (by decide))))))

abbrev s_law_draw : Stmt := top 21
abbrev N_law_draw : List Str := ["urn", "many", "cell", "mixed"]
theorem sc_law_draw : FnScope N_law_draw ["urn", "many"] (defScope s_law_draw) := ⟨rfl, rfl, rfl, by decide +kernel, rfl, by decide +kernel, by decide +kernel⟩
def t_law_draw (K : PySem.W.Frag) : TS :=
    (tSeq (tIfS (tTest (tOp (rI0 fun i j => .bl (decide (i < j))) (tVar 1) (tC (.int 2)))) (tRet (tC (.int 0))) tNext)
    (tSeq (tIfS (tTest (tOp (rNeD K) (tDGet (tVar 0) (tC (.str "deep"))) (tLst tNil))) (tSeq (tAsg (tBM0 K "list" rPop (tDGet (tVar 0) (tC (.str "deep")))) (gName 2))
    (tSeq (tIfS (tTest (tOp (rI0 fun i j => .bl (decide (j ≤ i))) (tVar 2) (tVar 1))) (tDrop (tBM K "list" rAppend (tDGet (tVar 0) (tC (.str "deep"))) (tCons (tOp (rI CDivW fun i j => .int (i / j)) (tVar 2) (tVar 1)) tNil))) tNext)
    (tRet (tOp (rI (fun _ j => j ≠ 0) fun i j => .int (i.fmod j)) (tCB rInt (tCons (tVar 2) tNil)) (tVar 1))))) tNext)
    (tSeq (sDPut (tVar 0) (tC (.str "count")) (tOp (rAddU K) (tDGet (tVar 0) (tC (.str "count"))) (tC (.int 1))))
    (tSeq (tAsg (tOp (rI (fun _ j => j ≠ 0) fun i j => .int (i.fmod j)) (tCB rInt (tCons (tOp (rAddU K) (tDGet (tVar 0) (tC (.str "seed"))) (tOp rMulU (tDGet (tVar 0) (tC (.str "count"))) (tC (.int 747796405)))) tNil)) (tC (.int 2147483647))) (gName 3))
    (tSeq (tAsg (tOp (rI (fun _ j => j ≠ 0) fun i j => .int (i.fmod j)) (tCB rInt (tCons (tOp (rAddU K) (tOp rMulU (tVar 3) (tVar 3)) (tOp rMulU (tC (.int 362437)) (tDGet (tVar 0) (tC (.str "count"))))) tNil)) (tC (.int 2147483629))) (gName 3))
    (tRet (tOp (rI (fun _ j => j ≠ 0) fun i j => .int (i.fmod j)) (tOp (rI CDivW fun i j => .int (i / j)) (tOp (rI (fun _ j => j ≠ 0) fun i j => .int (i.fmod j)) (tCB rInt (tCons (tOp (rAddU K) (tOp rMulU (tVar 3) (tVar 3)) (tDGet (tVar 0) (tC (.str "seed")))) tNil)) (tC (.int 2147483587))) (tC (.int 64))) (tVar 1))))))))
theorem d_law_draw {P : Program} {w : World} {K : PySem.W.Frag} {mg : Str → Option Value} {base : Heap} {f : Addr} {cdv : Value} {A : Around} {outer : List Env} {s : Shared} {H : Hp} {E : XK} (fr : Fr mg)
    (hg : (A.deeper (envOfC "_law_draw" (defScope s_law_draw) s.heap.objs.size f cdv)).guards = some []) (hr : Room 0 (A.deeper (envOfC "_law_draw" (defScope s_law_draw) s.heap.objs.size f cdv))) :
    PSs (cxOf CX0 P w K mg base N_law_draw "_law_draw" (defScope s_law_draw) f cdv A outer s H E).nox (defBody s_law_draw) (t_law_draw K) :=
  (pss_cons (ps_if (pt_cmpR op_lt (pv 1) pe_int (nomark _)) (pss_one (ps_ret pe_int)) pss_nil)
    (pss_cons (ps_if (pt_cmpR (op_neD hr.units) (pe_dget (hu1 hr) (pv 0) pe_str (fun _ _ => rfl)) (pe_lst pa_nil) (nomark _)) (pss_cons (ps_set (i := 2) sc_law_draw.nd rfl (Or.inl rfl) (pe_bm0 PySem.F.plainAttrs_list PySem.F.slot_list_pop PySem.F.type_list_pop mt_pop (pe_dget (hu1 hr) (pv 0) pe_str (fun _ _ => rfl))))
    (pss_cons (ps_if (pt_cmpR op_ge (pv 2) (pv 1) (nomark _)) (pss_one (ps_expr (pe_bm PySem.F.plainAttrs_list PySem.F.slot_list_append PySem.F.type_list_append mt_append (pe_dget (hu1 hr) (pv 0) pe_str (fun _ _ => rfl)) (pa_cons (pe_op op_fdivW (pv 2) (pv 1)) pa_nil)))) pss_nil)
    (pss_one (ps_ret (pe_op op_modN (pe_callTy cr_int (by rfl) fr.int (by decide +kernel) (pa_cons (pv 2) pa_nil)) (pv 1)))))) pss_nil)
    (pss_cons (ps_dput (hu1 hr) (pv 0) pe_str (pe_op op_addU (pe_dget (hu1 hr) (pv 0) pe_str (fun _ _ => rfl)) pe_int) rfl)
    (pss_cons (ps_set (i := 3) sc_law_draw.nd rfl (Or.inl rfl) (pe_op op_modN (pe_callTy cr_int (by rfl) fr.int (by decide +kernel) (pa_cons (pe_op op_addU (pe_dget (hu1 hr) (pv 0) pe_str (fun _ _ => rfl)) (pe_op op_mulU (pe_dget (hu1 hr) (pv 0) pe_str (fun _ _ => rfl)) pe_int)) pa_nil)) pe_int))
    (pss_cons (ps_set (i := 3) sc_law_draw.nd rfl (Or.inl rfl) (pe_op op_modN (pe_callTy cr_int (by rfl) fr.int (by decide +kernel) (pa_cons (pe_op op_addU (pe_op op_mulU (pv 3) (pv 3)) (pe_op op_mulU pe_int (pe_dget (hu1 hr) (pv 0) pe_str (fun _ _ => rfl)))) pa_nil)) pe_int))
    (pss_one (ps_ret (pe_op op_modN (pe_op op_fdivW (pe_op op_modN (pe_callTy cr_int (by rfl) fr.int (by decide +kernel) (pa_cons (pe_op op_addU (pe_op op_mulU (pv 3) (pv 3)) (pe_dget (hu1 hr) (pv 0) pe_str (fun _ _ => rfl))) pa_nil)) pe_int) pe_int) (pv 1)))))))))

abbrev s_law_pick : Stmt := top 22
abbrev N_law_pick : List Str := ["urn", "some"]
theorem sc_law_pick : FnScope N_law_pick ["urn", "some"] (defScope s_law_pick) := ⟨rfl, rfl, rfl, by decide +kernel, rfl, by decide +kernel, by decide +kernel⟩
def t_law_pick (K : PySem.W.Frag) : TS :=
    (tRet (tOp (rIx K) (tVar 1) (tCall (sp_law_draw K) [] E0 (tCons (tVar 0) (tCons (tCB (rLn K) (tCons (tVar 1) tNil)) tNil)))))
theorem d_law_pick {P : Program} {w : World} {K : PySem.W.Frag} {mg : Str → Option Value} {base : Heap} {f : Addr} {cdv : Value} {A : Around} {outer : List Env} {s : Shared} {H : Hp} {E : XK} (fr : Fr mg) (C_law_draw : Cal P w K mg base "_law_draw" ["urn", "many"] 1 (sp_law_draw K))
    (hg : (A.deeper (envOfC "_law_pick" (defScope s_law_pick) s.heap.objs.size f cdv)).guards = some []) (hr : Room 1 (A.deeper (envOfC "_law_pick" (defScope s_law_pick) s.heap.objs.size f cdv))) :
    PSs (cxOf CX0 P w K mg base N_law_pick "_law_pick" (defScope s_law_pick) f cdv A outer s H E).nox (defBody s_law_pick) (t_law_pick K) :=
  (pss_one (ps_ret (pe_ix ix_seq (pv 1) (pe_cal C_law_draw hg (hr.mono (by decide)) (by rfl) (pa_cons (pv 0) (pa_cons (pe_callB cr_ln (by rfl) fr.len (by decide +kernel) (pa_cons (pv 1) pa_nil)) pa_nil))) (fun _ _ => rfl))))

abbrev s_law_mixed : Stmt := top 23
abbrev N_law_mixed : List Str := ["urn", "some", "rest", "found"]
theorem sc_law_mixed : FnScope N_law_mixed ["urn", "some"] (defScope s_law_mixed) := ⟨rfl, rfl, rfl, by decide +kernel, rfl, by decide +kernel, by decide +kernel⟩
def t_law_mixed (K : PySem.W.Frag) : TS :=
    (tSeq (tPar 2 3 (tCons (tCB (rLstOf K) (tCons (tVar 1) tNil)) (tCons (tLst tNil) tNil)))
    (tSeq (tWhile (tTest (tOp (rNeD K) (tVar 2) (tLst tNil)))
      (tDrop (tBM K "list" rAppend (tVar 3) (tCons (tBM K "list" rPopAt (tVar 2) (tCons (tCall (sp_law_draw K) [] E0 (tCons (tVar 0) (tCons (tCB (rLn K) (tCons (tVar 2) tNil)) tNil))) tNil)) tNil))))
    (tRet (tVar 3))))
theorem d_law_mixed {P : Program} {w : World} {K : PySem.W.Frag} {mg : Str → Option Value} {base : Heap} {f : Addr} {cdv : Value} {A : Around} {outer : List Env} {s : Shared} {H : Hp} {E : XK} (fr : Fr mg) (C_law_draw : Cal P w K mg base "_law_draw" ["urn", "many"] 1 (sp_law_draw K))
    (hg : (A.deeper (envOfC "_law_mixed" (defScope s_law_mixed) s.heap.objs.size f cdv)).guards = some []) (hr : Room 1 (A.deeper (envOfC "_law_mixed" (defScope s_law_mixed) s.heap.objs.size f cdv))) :
    PSs (cxOf CX0 P w K mg base N_law_mixed "_law_mixed" (defScope s_law_mixed) f cdv A outer s H E).nox (defBody s_law_mixed) (t_law_mixed K) :=
  (pss_cons (ps_par (i := 2) (j := 3) (by rfl) sc_law_mixed.nd rfl rfl (by decide) rfl rfl (pa_cons (pe_callTy cr_lstOf (by rfl) fr.list (by decide +kernel) (pa_cons (pv 1) pa_nil)) (pa_cons (pe_lst pa_nil) pa_nil)) (by rfl))
    (pss_cons (ps_while PassesOwn.never (pt_cmpR (op_neD hr.units) (pv 2) (pe_lst pa_nil) (nomark _))
      (pss_one (ps_expr (pe_bm PySem.F.plainAttrs_list PySem.F.slot_list_append PySem.F.type_list_append mt_append (pv 3) (pa_cons (pe_bm PySem.F.plainAttrs_list PySem.F.slot_list_pop PySem.F.type_list_pop mt_popAt (pv 2) (pa_cons (pe_cal C_law_draw hg (hr.mono (by decide)) (by rfl) (pa_cons (pv 0) (pa_cons (pe_callB cr_ln (by rfl) fr.len (by decide +kernel) (pa_cons (pv 2) pa_nil)) pa_nil))) pa_nil)) pa_nil)))))
    (pss_one (ps_ret (pv 3)))))

abbrev s_law_small : Stmt := top 24
abbrev N_law_small : List Str := ["engine", "many", "rows", "seen", "at", "after", "bit", "marks", "kinds", "before", "fresh", "spot", "sign", "firsts", "kind"]
theorem sc_law_small : FnScope N_law_small ["engine"] (defScope s_law_small) := ⟨rfl, rfl, rfl, by decide +kernel, rfl, by decide +kernel, by decide +kernel⟩
def t_law_small (K : PySem.W.Frag) : TS :=
    (tSeq (tAsg (tVar 0) (gTup K 2 (gCons (gName 1) (gCons (gName 2) gNil))))
    (tSeq (tAsg (tTup (tCons (tLst (tCons (tC (.int 0)) tNil)) (tCons (tC (.int 0)) tNil))) (gTup K 2 (gCons (gName 3) (gCons (gName 4) gNil))))
    (tSeq (tWhile (tTest (tOp (rI0 fun i j => .bl (decide (i < j))) (tVar 4) (tCB (rLn K) (tCons (tVar 3) tNil))))
      (tSeq (tFor (iSeq K (tOp (rIx K) (tVar 2) (tOp (rIx K) (tVar 3) (tVar 4)))) (gTup K 2 (gCons (gName 5) (gCons (gName 6) gNil)))
      (tIfS (tTest (tOp (rNotInD K) (tVar 5) (tVar 3))) (tDrop (tBM K "list" rAppend (tVar 3) (tCons (tVar 5) tNil))) tNext))
    (tAsg (tOp (rAddU K) (tVar 4) (tC (.int 1))) (gName 4))))
    (tSeq (tAsg (tTup (tCons (tOp rMulU (tLst (tCons (tC (.int 0)) tNil)) (tCB (rLn K) (tCons (tVar 2) tNil))) (tCons (tLst (tCons (tC (.int 0)) tNil)) (tCons (tC (.int 0)) tNil)))) (gTup K 3 (gCons (gName 7) (gCons (gName 8) (gCons (gName 9) gNil)))))
    (tSeq (tWhile (tTest (tOp (rNeD K) (tCB (rLn K) (tCons (tVar 8) tNil)) (tVar 9)))
      (tSeq (tPar3 9 8 10 (tCons (tCB (rLn K) (tCons (tVar 8) tNil)) (tCons (tLst tNil) (tCons (tCB (rLstOf K) (tCons (tVar 7) tNil)) tNil))))
    (tSeq (tFor (iSeq K (tVar 3)) (gName 11)
      (tSeq (tAsg (tCB (rTupOf K) (tCons (tOp (rAddU K) (tLst (tCons (tOp (rIx K) (tVar 7) (tVar 11)) tNil)) (tLc (iSeq K (tOp (rIx K) (tVar 2) (tVar 11))) (gTup K 2 (gCons (gName 5) (gCons (gName 6) gNil))) tYes (tTup (tCons (tOp (rIx K) (tVar 7) (tVar 5)) (tCons (tVar 6) tNil))) [5, 6])) tNil)) (gName 12))
    (tSeq (tIfS (tTest (tOp (rNotInD K) (tVar 12) (tVar 8))) (tDrop (tBM K "list" rAppend (tVar 8) (tCons (tVar 12) tNil))) tNext)
    (tAsg (tBM K "list" (rIndexD K) (tVar 8) (tCons (tVar 12) tNil)) (gSub (tVar 10) (tVar 11) rSetL)))))
    (tAsg (tVar 10) (gName 7)))))
    (tSeq (tAsg (tLc (iRng1 (tCons (tCB (rLn K) (tCons (tVar 8) tNil)) tNil)) (gName 14) tYes (tOp (rIx K) (tLc (iSeq K (tVar 3)) (gName 11) (tTest (tOp (rEqD K) (tOp (rIx K) (tVar 7) (tVar 11)) (tVar 14))) (tVar 11) [11]) (tC (.int 0))) [14]) (gName 13))
    (tRet (tTup (tCons (tVar 1) (tCons (tCB (rTupOf K) (tCons (tLc (iSeq K (tVar 13)) (gName 11) tYes (tCB (rTupOf K) (tCons (tLc (iSeq K (tOp (rIx K) (tVar 2) (tVar 11))) (gTup K 2 (gCons (gName 5) (gCons (gName 6) gNil))) tYes (tTup (tCons (tOp (rIx K) (tVar 7) (tVar 5)) (tCons (tVar 6) tNil))) [5, 6]) tNil)) [11]) tNil)) tNil))))))))))
theorem d_law_small {P : Program} {w : World} {K : PySem.W.Frag} {mg : Str → Option Value} {base : Heap} {f : Addr} {cdv : Value} {A : Around} {outer : List Env} {s : Shared} {H : Hp} {E : XK} (fr : Fr mg)
    (hg : (A.deeper (envOfC "_law_small" (defScope s_law_small) s.heap.objs.size f cdv)).guards = some []) (hr : Room 0 (A.deeper (envOfC "_law_small" (defScope s_law_small) s.heap.objs.size f cdv))) :
    PSs (cxOf CX0 P w K mg base N_law_small "_law_small" (defScope s_law_small) f cdv A outer s H E).nox (defBody s_law_small) (t_law_small K) :=
  (pss_cons (ps_asg (pv 0) (pg_tup rfl (pgs_cons (pg_name (i := 1) sc_law_small.nd rfl (Or.inl rfl)) (pgs_cons (pg_name (i := 2) sc_law_small.nd rfl (Or.inr rfl)) pgs_nil))))
    (pss_cons (ps_asg (pe_tup (pa_cons (pe_lst (pa_cons pe_int pa_nil)) (pa_cons pe_int pa_nil))) (pg_tup rfl (pgs_cons (pg_name (i := 3) sc_law_small.nd rfl (Or.inr rfl)) (pgs_cons (pg_name (i := 4) sc_law_small.nd rfl (Or.inl rfl)) pgs_nil))))
    (pss_cons (ps_while PassesOwn.never (pt_cmpR op_lt (pv 4) (pe_callB cr_ln (by rfl) fr.len (by decide +kernel) (pa_cons (pv 3) pa_nil)) (nomark _))
      (pss_cons (ps_for PassesOwn.never rfl (pi_seq (pe_ix ix_seq (pv 2) (pe_ix ix_seq (pv 3) (pv 4) (fun _ _ => rfl)) (fun _ _ => rfl))) (pg_tup rfl (pgs_cons (pg_name (i := 5) sc_law_small.nd rfl (Or.inl rfl)) (pgs_cons (pg_name (i := 6) sc_law_small.nd rfl (Or.inl rfl)) pgs_nil)))
      (pss_one (ps_if (pt_cmpR (op_notInD (hu65 hr)) (pv 5) (pv 3) (by rfl)) (pss_one (ps_expr (pe_bm PySem.F.plainAttrs_list PySem.F.slot_list_append PySem.F.type_list_append mt_append (pv 3) (pa_cons (pv 5) pa_nil)))) pss_nil)))
    (pss_one (ps_set (i := 4) sc_law_small.nd rfl (Or.inl rfl) (pe_op op_addU (pv 4) pe_int)))))
    (pss_cons (ps_asg (pe_tup (pa_cons (pe_op op_mulU (pe_lst (pa_cons pe_int pa_nil)) (pe_callB cr_ln (by rfl) fr.len (by decide +kernel) (pa_cons (pv 2) pa_nil))) (pa_cons (pe_lst (pa_cons pe_int pa_nil)) (pa_cons pe_int pa_nil)))) (pg_tup rfl (pgs_cons (pg_name (i := 7) sc_law_small.nd rfl (Or.inr rfl)) (pgs_cons (pg_name (i := 8) sc_law_small.nd rfl (Or.inl rfl)) (pgs_cons (pg_name (i := 9) sc_law_small.nd rfl (Or.inl rfl)) pgs_nil)))))
    (pss_cons (ps_while PassesOwn.never (pt_cmpR (op_neD hr.units) (pe_callB cr_ln (by rfl) fr.len (by decide +kernel) (pa_cons (pv 8) pa_nil)) (pv 9) (nomark _))
      (pss_cons (ps_par3 (i := 9) (j := 8) (l := 10) (by rfl) sc_law_small.nd rfl rfl rfl (by decide) (by decide) (by decide) rfl rfl rfl (pa_cons (pe_callB cr_ln (by rfl) fr.len (by decide +kernel) (pa_cons (pv 8) pa_nil)) (pa_cons (pe_lst pa_nil) (pa_cons (pe_callTy cr_lstOf (by rfl) fr.list (by decide +kernel) (pa_cons (pv 7) pa_nil)) pa_nil))) (by rfl))
    (pss_cons (ps_for PassesOwn.never rfl (pi_seq (pv 3)) (pg_name (i := 11) sc_law_small.nd rfl (Or.inl rfl))
      (pss_cons (ps_set (i := 12) sc_law_small.nd rfl (Or.inl rfl) (pe_callTy cr_tupOf (by rfl) fr.tuple (by decide +kernel) (pa_cons (pe_op op_addU (pe_lst (pa_cons (pe_ix ix_seq (pv 7) (pv 11) (fun _ _ => rfl)) pa_nil)) (pe_lc (own := [("after", 5), ("bit", 6)]) rfl sc_law_small.nd (pi_seq (pe_ix ix_seq (pv 2) (pv 11) (fun _ _ => rfl))) (blkOk_by (own := [("after", 5), ("bit", 6)]) (N := N_law_small) (sc := defScope s_law_small) (by decide +kernel)) (fun _ _ _ _ _ => (pg_tup rfl (pgs_cons (pg_name (i := 5) sc_law_small.nd rfl (Or.inl rfl)) (pgs_cons (pg_name (i := 6) sc_law_small.nd rfl (Or.inl rfl)) pgs_nil)))) (fun _ _ _ _ _ => pts_nil) (fun _ _ _ _ _ => (pe_tup (pa_cons (pe_ix ix_seq (pv 7) (pv 5) (fun _ _ => rfl)) (pa_cons (pv 6) pa_nil)))))) pa_nil)))
    (pss_cons (ps_if (pt_cmpR (op_notInD (hu65 hr)) (pv 12) (pv 8) (by rfl)) (pss_one (ps_expr (pe_bm PySem.F.plainAttrs_list PySem.F.slot_list_append PySem.F.type_list_append mt_append (pv 8) (pa_cons (pv 12) pa_nil)))) pss_nil)
    (pss_one (ps_asg (pe_bm PySem.F.plainAttrs_list PySem.F.slot_list_index PySem.F.type_list_index (mt_indexD (hu65 hr)) (pv 8) (pa_cons (pv 12) pa_nil)) (pg_sub (pv 10) (pv 11) set_list))))))
    (pss_one (ps_set (i := 7) sc_law_small.nd rfl (Or.inr rfl) (pv 10))))))
    (pss_cons (ps_setLc (i := 13) (own := [("kind", 14)]) rfl sc_law_small.nd rfl rfl (sw_true rfl rfl rfl (by decide +kernel)) (pi_range1 (by rfl) fr.range (pa_cons (pe_callB cr_ln (by rfl) fr.len (by decide +kernel) (pa_cons (pv 8) pa_nil)) pa_nil)) (blkOk_by (own := [("kind", 14)]) (N := N_law_small) (sc := defScope s_law_small) (by decide +kernel)) (fun _ _ _ _ _ => (pg_name (i := 14) sc_law_small.nd rfl (Or.inr rfl))) (fun _ _ _ _ _ => pts_nil) (fun _ _ _ _ _ => (pe_ix ix_seq (pe_lc (own := [("spot", 11)]) rfl sc_law_small.nd (pi_seq (pv 3)) (blkOk_by (own := [("spot", 11)]) (N := N_law_small) (sc := relS ({ kind := PySem.ScopeKind.function, names := [ (PySem.Str.ofString ".0", PySem.NameKind.local), (PySem.Str.ofString "kind", PySem.NameKind.cell), (PySem.Str.ofString "marks", PySem.NameKind.free), (PySem.Str.ofString "seen", PySem.NameKind.free)], isGenerator := false, isCoroutine := false, more := [] : PySem.Scope }) (defScope s_law_small)) (by decide +kernel)) (fun _ _ _ _ _ => (pg_name (i := 11) sc_law_small.nd rfl (Or.inl rfl))) (fun _ _ _ _ _ => (pts_one (pt_cmpR (op_eqD hr.units) (pe_ix ix_seq (pv 7) (pv 11) (fun _ _ => rfl)) (pv 14) (nomark _)))) (fun _ _ _ _ _ => (pv 11))) pe_int (fun _ _ => rfl))))
    (pss_one (ps_ret (pe_tup (pa_cons (pv 1) (pa_cons (pe_callTy cr_tupOf (by rfl) fr.tuple (by decide +kernel) (pa_cons (pe_lc (own := [("spot", 11)]) rfl sc_law_small.nd (pi_seq (pv 13)) (blkOk_by (own := [("spot", 11)]) (N := N_law_small) (sc := defScope s_law_small) (by decide +kernel)) (fun _ _ _ _ _ => (pg_name (i := 11) sc_law_small.nd rfl (Or.inl rfl))) (fun _ _ _ _ _ => pts_nil) (fun _ _ _ _ _ => (pe_callTy cr_tupOf (by rfl) fr.tuple (by decide +kernel) (pa_cons (pe_lc (own := [("after", 5), ("bit", 6)]) rfl sc_law_small.nd (pi_seq (pe_ix ix_seq (pv 2) (pv 11) (fun _ _ => rfl))) (blkOk_by (own := [("after", 5), ("bit", 6)]) (N := N_law_small) (sc := relS ({ kind := PySem.ScopeKind.function, names := [ (PySem.Str.ofString ".0", PySem.NameKind.local), (PySem.Str.ofString "spot", PySem.NameKind.local), (PySem.Str.ofString "tuple", PySem.NameKind.globalImplicit), (PySem.Str.ofString "marks", PySem.NameKind.free), (PySem.Str.ofString "rows", PySem.NameKind.free)], isGenerator := false, isCoroutine := false, more := [] : PySem.Scope }) (defScope s_law_small)) (by decide +kernel)) (fun _ _ _ _ _ => (pg_tup rfl (pgs_cons (pg_name (i := 5) sc_law_small.nd rfl (Or.inl rfl)) (pgs_cons (pg_name (i := 6) sc_law_small.nd rfl (Or.inl rfl)) pgs_nil)))) (fun _ _ _ _ _ => pts_nil) (fun _ _ _ _ _ => (pe_tup (pa_cons (pe_ix ix_seq (pv 7) (pv 5) (fun _ _ => rfl)) (pa_cons (pv 6) pa_nil))))) pa_nil)))) pa_nil)) pa_nil)))))))))))

abbrev s_law_tables : Stmt := top 25
abbrev N_law_tables : List Str := ["found", "eight", "odd", "code"]
theorem sc_law_tables : FnScope N_law_tables [] (defScope s_law_tables) := ⟨rfl, rfl, rfl, by decide +kernel, rfl, by decide +kernel, by decide +kernel⟩
def t_law_tables (K : PySem.W.Frag) : TS :=
    (tSeq (tPar 0 1 (tCons tDNewK (tCons (tLstRg (tRg1 (tC (.int 8)))) tNil)))
    (tSeq (tAsg (tTup (tCons (tOp rMulU (tLst (tCons (tTup (tCons (tC (.int 0)) (tCons (tC (.int 0)) tNil))) tNil)) (tC (.int 8))) (tCons (tOp rMulU (tLst (tCons (tTup (tCons (tC (.int 1)) (tCons (tC (.int 0)) tNil))) tNil)) (tC (.int 8))) tNil))) (gTup K 2 (gCons (gSub (tVar 0) (tC (.str "zero")) rSetD) (gCons (gSub (tVar 0) (tC (.str "ones")) rSetD) gNil))))
    (tSeq (sDPut (tVar 0) (tC (.str "not")) (tLc (iSeq K (tVar 1)) (gName 3) tYes (tTup (tCons (tOp (rI0 fun i j => .int (i - j)) (tC (.int 1)) (tOp (rI (fun _ j => j ≠ 0) fun i j => .int (i.fmod j)) (tVar 3) (tC (.int 2)))) (tCons (tC (.int 0)) tNil))) [3]))
    (tSeq (sDPut (tVar 0) (tC (.str "and")) (tLc (iSeq K (tVar 1)) (gName 3) tYes (tTup (tCons (tOp rMulU (tOp (rI (fun _ j => j ≠ 0) fun i j => .int (i.fmod j)) (tVar 3) (tC (.int 2))) (tOp (rI (fun _ j => j ≠ 0) fun i j => .int (i.fmod j)) (tOp (rI CDivW fun i j => .int (i / j)) (tVar 3) (tC (.int 2))) (tC (.int 2)))) (tCons (tC (.int 0)) tNil))) [3]))
    (tSeq (sDPut (tVar 0) (tC (.str "or")) (tLc (iSeq K (tVar 1)) (gName 3) tYes (tTup (tCons (tCB Evl.rMax2 (tCons (tOp (rI (fun _ j => j ≠ 0) fun i j => .int (i.fmod j)) (tVar 3) (tC (.int 2))) (tCons (tOp (rI (fun _ j => j ≠ 0) fun i j => .int (i.fmod j)) (tOp (rI CDivW fun i j => .int (i / j)) (tVar 3) (tC (.int 2))) (tC (.int 2))) tNil))) (tCons (tC (.int 0)) tNil))) [3]))
    (tSeq (sDPut (tVar 0) (tC (.str "xor")) (tLc (iSeq K (tVar 1)) (gName 3) tYes (tTup (tCons (tOp (rI (fun _ j => j ≠ 0) fun i j => .int (i.fmod j)) (tOp (rAddU K) (tVar 3) (tOp (rI CDivW fun i j => .int (i / j)) (tVar 3) (tC (.int 2)))) (tC (.int 2))) (tCons (tC (.int 0)) tNil))) [3]))
    (tSeq (sDPut (tVar 0) (tC (.str "twice")) (tLc (iSeq K (tVar 1)) (gName 3) tYes (tTup (tCons (tOp (rI CDivW fun i j => .int (i / j)) (tVar 3) (tC (.int 4))) (tCons (tOp (rI (fun _ j => j ≠ 0) fun i j => .int (i.fmod j)) (tVar 3) (tC (.int 2))) tNil))) [3]))
    (tSeq (sDPut (tVar 0) (tC (.str "minus")) (tLc (iSeq K (tVar 1)) (gName 3) tYes (tTup (tCons (tOp (rI (fun _ j => j ≠ 0) fun i j => .int (i.fmod j)) (tOp (rAddU K) (tVar 3) (tOp (rI CDivW fun i j => .int (i / j)) (tVar 3) (tC (.int 4)))) (tC (.int 2))) (tCons (tCB Evl.rMax2 (tCons (tOp (rI (fun _ j => j ≠ 0) fun i j => .int (i.fmod j)) (tVar 3) (tC (.int 2))) (tCons (tOp (rI CDivW fun i j => .int (i / j)) (tVar 3) (tC (.int 4))) tNil))) tNil))) [3]))
    (tSeq (tAsg (tLc (iSeq K (tVar 1)) (gName 3) tYes (tOp (rI (fun _ j => j ≠ 0) fun i j => .int (i.fmod j)) (tOp (rAddU K) (tOp (rAddU K) (tVar 3) (tOp (rI CDivW fun i j => .int (i / j)) (tVar 3) (tC (.int 2)))) (tOp (rI CDivW fun i j => .int (i / j)) (tVar 3) (tC (.int 4)))) (tC (.int 2))) [3]) (gName 2))
    (tSeq (sDPut (tVar 0) (tC (.str "plus")) (tLc (iSeq K (tVar 1)) (gName 3) tYes (tTup (tCons (tOp (rIx K) (tVar 2) (tVar 3)) (tCons (tOp (rI CDivW fun i j => .int (i / j)) (tOp (rAddU K) (tOp (rAddU K) (tOp (rI (fun _ j => j ≠ 0) fun i j => .int (i.fmod j)) (tVar 3) (tC (.int 2))) (tOp (rI (fun _ j => j ≠ 0) fun i j => .int (i.fmod j)) (tOp (rI CDivW fun i j => .int (i / j)) (tVar 3) (tC (.int 2))) (tC (.int 2)))) (tOp (rI CDivW fun i j => .int (i / j)) (tVar 3) (tC (.int 4)))) (tC (.int 2))) tNil))) [3]))
    (tSeq (sDPut (tVar 0) (tC (.str "less")) (tLc (iSeq K (tVar 1)) (gName 3) tYes (tTup (tCons (tOp (rIx K) (tVar 2) (tVar 3)) (tCons (tCB rInt (tCons (tOp (rI0 fun i j => .bl (decide (i < j))) (tOp (rI (fun _ j => j ≠ 0) fun i j => .int (i.fmod j)) (tVar 3) (tC (.int 2))) (tOp (rAddU K) (tOp (rI (fun _ j => j ≠ 0) fun i j => .int (i.fmod j)) (tOp (rI CDivW fun i j => .int (i / j)) (tVar 3) (tC (.int 2))) (tC (.int 2))) (tOp (rI CDivW fun i j => .int (i / j)) (tVar 3) (tC (.int 4))))) tNil)) tNil))) [3]))
    (tSeq (sDPut (tVar 0) (tC (.str "prefix")) (tLc (iSeq K (tVar 1)) (gName 3) tYes (tTup (tCons (tOp (rI (fun _ j => j ≠ 0) fun i j => .int (i.fmod j)) (tOp (rAddU K) (tVar 3) (tOp (rI CDivW fun i j => .int (i / j)) (tVar 3) (tC (.int 4)))) (tC (.int 2))) (tCons (tOp (rI (fun _ j => j ≠ 0) fun i j => .int (i.fmod j)) (tOp (rAddU K) (tVar 3) (tOp (rI CDivW fun i j => .int (i / j)) (tVar 3) (tC (.int 4)))) (tC (.int 2))) tNil))) [3]))
    (tRet (tVar 0))))))))))))))
theorem d_law_tables {P : Program} {w : World} {K : PySem.W.Frag} {mg : Str → Option Value} {base : Heap} {f : Addr} {cdv : Value} {A : Around} {outer : List Env} {s : Shared} {H : Hp} {E : XK} (fr : Fr mg)
    (hg : (A.deeper (envOfC "_law_tables" (defScope s_law_tables) s.heap.objs.size f cdv)).guards = some []) (hr : Room 0 (A.deeper (envOfC "_law_tables" (defScope s_law_tables) s.heap.objs.size f cdv))) :
    PSs (cxOf CX0 P w K mg base N_law_tables "_law_tables" (defScope s_law_tables) f cdv A outer s H E).nox (defBody s_law_tables) (t_law_tables K) :=
  (pss_cons (ps_par (i := 0) (j := 1) (by rfl) sc_law_tables.nd rfl rfl (by decide) rfl rfl (pa_cons pe_dnewK (pa_cons (pe_listRg rfl (by rfl) fr.list (prg_1 (by rfl) fr.range pe_int)) pa_nil)) (by rfl))
    (pss_cons (ps_asg (pe_tup (pa_cons (pe_op op_mulU (pe_lst (pa_cons (pe_tup (pa_cons pe_int (pa_cons pe_int pa_nil))) pa_nil)) pe_int) (pa_cons (pe_op op_mulU (pe_lst (pa_cons (pe_tup (pa_cons pe_int (pa_cons pe_int pa_nil))) pa_nil)) pe_int) pa_nil))) (pg_tup rfl (pgs_cons (pg_sub (pv 0) pe_str (set_dict (hu1 hr))) (pgs_cons (pg_sub (pv 0) pe_str (set_dict (hu1 hr))) pgs_nil))))
    (pss_cons (ps_dput (hu1 hr) (pv 0) pe_str (pe_lc (own := [("code", 3)]) rfl sc_law_tables.nd (pi_seq (pv 1)) (blkOk_by (own := [("code", 3)]) (N := N_law_tables) (sc := defScope s_law_tables) (by decide +kernel)) (fun _ _ _ _ _ => (pg_name (i := 3) sc_law_tables.nd rfl (Or.inl rfl))) (fun _ _ _ _ _ => pts_nil) (fun _ _ _ _ _ => (pe_tup (pa_cons (pe_op op_sub pe_int (pe_op op_modN (pv 3) pe_int)) (pa_cons pe_int pa_nil))))) rfl)
    (pss_cons (ps_dput (hu1 hr) (pv 0) pe_str (pe_lc (own := [("code", 3)]) rfl sc_law_tables.nd (pi_seq (pv 1)) (blkOk_by (own := [("code", 3)]) (N := N_law_tables) (sc := defScope s_law_tables) (by decide +kernel)) (fun _ _ _ _ _ => (pg_name (i := 3) sc_law_tables.nd rfl (Or.inl rfl))) (fun _ _ _ _ _ => pts_nil) (fun _ _ _ _ _ => (pe_tup (pa_cons (pe_op op_mulU (pe_op op_modN (pv 3) pe_int) (pe_op op_modN (pe_op op_fdivW (pv 3) pe_int) pe_int)) (pa_cons pe_int pa_nil))))) rfl)
    (pss_cons (ps_dput (hu1 hr) (pv 0) pe_str (pe_lc (own := [("code", 3)]) rfl sc_law_tables.nd (pi_seq (pv 1)) (blkOk_by (own := [("code", 3)]) (N := N_law_tables) (sc := defScope s_law_tables) (by decide +kernel)) (fun _ _ _ _ _ => (pg_name (i := 3) sc_law_tables.nd rfl (Or.inl rfl))) (fun _ _ _ _ _ => pts_nil) (fun _ _ _ _ _ => (pe_tup (pa_cons (pe_callB (call_max2 rfl) (by rfl) fr.max (by decide +kernel) (pa_cons (pe_op op_modN (pv 3) pe_int) (pa_cons (pe_op op_modN (pe_op op_fdivW (pv 3) pe_int) pe_int) pa_nil))) (pa_cons pe_int pa_nil))))) rfl)
    (pss_cons (ps_dput (hu1 hr) (pv 0) pe_str (pe_lc (own := [("code", 3)]) rfl sc_law_tables.nd (pi_seq (pv 1)) (blkOk_by (own := [("code", 3)]) (N := N_law_tables) (sc := defScope s_law_tables) (by decide +kernel)) (fun _ _ _ _ _ => (pg_name (i := 3) sc_law_tables.nd rfl (Or.inl rfl))) (fun _ _ _ _ _ => pts_nil) (fun _ _ _ _ _ => (pe_tup (pa_cons (pe_op op_modN (pe_op op_addU (pv 3) (pe_op op_fdivW (pv 3) pe_int)) pe_int) (pa_cons pe_int pa_nil))))) rfl)
    (pss_cons (ps_dput (hu1 hr) (pv 0) pe_str (pe_lc (own := [("code", 3)]) rfl sc_law_tables.nd (pi_seq (pv 1)) (blkOk_by (own := [("code", 3)]) (N := N_law_tables) (sc := defScope s_law_tables) (by decide +kernel)) (fun _ _ _ _ _ => (pg_name (i := 3) sc_law_tables.nd rfl (Or.inl rfl))) (fun _ _ _ _ _ => pts_nil) (fun _ _ _ _ _ => (pe_tup (pa_cons (pe_op op_fdivW (pv 3) pe_int) (pa_cons (pe_op op_modN (pv 3) pe_int) pa_nil))))) rfl)
    (pss_cons (ps_dput (hu1 hr) (pv 0) pe_str (pe_lc (own := [("code", 3)]) rfl sc_law_tables.nd (pi_seq (pv 1)) (blkOk_by (own := [("code", 3)]) (N := N_law_tables) (sc := defScope s_law_tables) (by decide +kernel)) (fun _ _ _ _ _ => (pg_name (i := 3) sc_law_tables.nd rfl (Or.inl rfl))) (fun _ _ _ _ _ => pts_nil) (fun _ _ _ _ _ => (pe_tup (pa_cons (pe_op op_modN (pe_op op_addU (pv 3) (pe_op op_fdivW (pv 3) pe_int)) pe_int) (pa_cons (pe_callB (call_max2 rfl) (by rfl) fr.max (by decide +kernel) (pa_cons (pe_op op_modN (pv 3) pe_int) (pa_cons (pe_op op_fdivW (pv 3) pe_int) pa_nil))) pa_nil))))) rfl)
    (pss_cons (ps_set (i := 2) sc_law_tables.nd rfl (Or.inr rfl) (pe_lc (own := [("code", 3)]) rfl sc_law_tables.nd (pi_seq (pv 1)) (blkOk_by (own := [("code", 3)]) (N := N_law_tables) (sc := defScope s_law_tables) (by decide +kernel)) (fun _ _ _ _ _ => (pg_name (i := 3) sc_law_tables.nd rfl (Or.inl rfl))) (fun _ _ _ _ _ => pts_nil) (fun _ _ _ _ _ => (pe_op op_modN (pe_op op_addU (pe_op op_addU (pv 3) (pe_op op_fdivW (pv 3) pe_int)) (pe_op op_fdivW (pv 3) pe_int)) pe_int))))
    (pss_cons (ps_dput (hu1 hr) (pv 0) pe_str (pe_lc (own := [("code", 3)]) rfl sc_law_tables.nd (pi_seq (pv 1)) (blkOk_by (own := [("code", 3)]) (N := N_law_tables) (sc := defScope s_law_tables) (by decide +kernel)) (fun _ _ _ _ _ => (pg_name (i := 3) sc_law_tables.nd rfl (Or.inl rfl))) (fun _ _ _ _ _ => pts_nil) (fun _ _ _ _ _ => (pe_tup (pa_cons (pe_ix ix_seq (pv 2) (pv 3) (fun _ _ => rfl)) (pa_cons (pe_op op_fdivW (pe_op op_addU (pe_op op_addU (pe_op op_modN (pv 3) pe_int) (pe_op op_modN (pe_op op_fdivW (pv 3) pe_int) pe_int)) (pe_op op_fdivW (pv 3) pe_int)) pe_int) pa_nil))))) rfl)
    (pss_cons (ps_dput (hu1 hr) (pv 0) pe_str (pe_lc (own := [("code", 3)]) rfl sc_law_tables.nd (pi_seq (pv 1)) (blkOk_by (own := [("code", 3)]) (N := N_law_tables) (sc := defScope s_law_tables) (by decide +kernel)) (fun _ _ _ _ _ => (pg_name (i := 3) sc_law_tables.nd rfl (Or.inl rfl))) (fun _ _ _ _ _ => pts_nil) (fun _ _ _ _ _ => (pe_tup (pa_cons (pe_ix ix_seq (pv 2) (pv 3) (fun _ _ => rfl)) (pa_cons (pe_callTy cr_int (by rfl) fr.int (by decide +kernel) (pa_cons (pe_cmpR op_lt (pe_op op_modN (pv 3) pe_int) (pe_op op_addU (pe_op op_modN (pe_op op_fdivW (pv 3) pe_int) pe_int) (pe_op op_fdivW (pv 3) pe_int)) (nomark _)) pa_nil)) pa_nil))))) rfl)
    (pss_cons (ps_dput (hu1 hr) (pv 0) pe_str (pe_lc (own := [("code", 3)]) rfl sc_law_tables.nd (pi_seq (pv 1)) (blkOk_by (own := [("code", 3)]) (N := N_law_tables) (sc := defScope s_law_tables) (by decide +kernel)) (fun _ _ _ _ _ => (pg_name (i := 3) sc_law_tables.nd rfl (Or.inl rfl))) (fun _ _ _ _ _ => pts_nil) (fun _ _ _ _ _ => (pe_tup (pa_cons (pe_op op_modN (pe_op op_addU (pv 3) (pe_op op_fdivW (pv 3) pe_int)) pe_int) (pa_cons (pe_op op_modN (pe_op op_addU (pv 3) (pe_op op_fdivW (pv 3) pe_int)) pe_int) pa_nil))))) rfl)
    (pss_one (ps_ret (pv 0)))))))))))))))

abbrev s_law_shelf : Stmt := top 26
abbrev N_law_shelf : List Str := ["shelf", "plain_ones", "sums", "beside"]
theorem sc_law_shelf : FnScope N_law_shelf ["shelf"] (defScope s_law_shelf) := ⟨rfl, rfl, rfl, by decide +kernel, rfl, by decide +kernel, by decide +kernel⟩
def t_law_shelf (K : PySem.W.Frag) : TS :=
    (tSeq (tPar 1 2 (tCons (tLst (tCons (tC (.str "zero")) (tCons (tC (.str "ones")) (tCons (tC (.str "not")) (tCons (tC (.str "and")) (tCons (tC (.str "or")) (tCons (tC (.str "xor")) tNil))))))) (tCons (tLst (tCons (tC (.str "twice")) (tCons (tC (.str "minus")) (tCons (tC (.str "plus")) (tCons (tC (.str "less")) tNil))))) tNil)))
    (tSeq (tAsg (tDisp [((tC (.str "plain")), (tLst tNil)), ((tC (.str "prefix")), (tLst (tCons (tC (.str "prefix")) tNil))), ((tC (.str "twice")), (tLst (tCons (tC (.str "twice")) tNil))), ((tC (.str "minus")), (tLst (tCons (tC (.str "minus")) tNil))), ((tC (.str "sums")), (tVar 2))]) (gName 3))
    (tSeq (tAsg (tTup (tCons (tOp (rAddU K) (tVar 2) (tLst (tCons (tC (.str "mask")) tNil))) (tCons (tOp (rAddU K) (tVar 2) (tLst (tCons (tC (.str "prefix")) tNil))) tNil))) (gTup K 2 (gCons (gSub (tVar 3) (tC (.str "masks")) rSetD) (gCons (gSub (tVar 3) (tC (.str "turns")) rSetD) gNil))))
    (tRet (tOp (rAddU K) (tVar 1) (tDGet (tVar 3) (tVar 0)))))))
theorem d_law_shelf {P : Program} {w : World} {K : PySem.W.Frag} {mg : Str → Option Value} {base : Heap} {f : Addr} {cdv : Value} {A : Around} {outer : List Env} {s : Shared} {H : Hp} {E : XK} (fr : Fr mg)
    (hg : (A.deeper (envOfC "_law_shelf" (defScope s_law_shelf) s.heap.objs.size f cdv)).guards = some []) (hr : Room 0 (A.deeper (envOfC "_law_shelf" (defScope s_law_shelf) s.heap.objs.size f cdv))) :
    PSs (cxOf CX0 P w K mg base N_law_shelf "_law_shelf" (defScope s_law_shelf) f cdv A outer s H E).nox (defBody s_law_shelf) (t_law_shelf K) :=
  (pss_cons (ps_par (i := 1) (j := 2) (by rfl) sc_law_shelf.nd rfl rfl (by decide) rfl rfl (pa_cons (pe_lst (pa_cons pe_str (pa_cons pe_str (pa_cons pe_str (pa_cons pe_str (pa_cons pe_str (pa_cons pe_str pa_nil))))))) (pa_cons (pe_lst (pa_cons pe_str (pa_cons pe_str (pa_cons pe_str (pa_cons pe_str pa_nil))))) pa_nil)) (by rfl))
    (pss_cons (ps_set (i := 3) sc_law_shelf.nd rfl (Or.inl rfl) (pe_disp (pps_cons pe_str (pe_lst pa_nil) (pps_cons pe_str (pe_lst (pa_cons pe_str pa_nil)) (pps_cons pe_str (pe_lst (pa_cons pe_str pa_nil)) (pps_cons pe_str (pe_lst (pa_cons pe_str pa_nil)) (pps_cons pe_str (pv 2) pps_nil))))) (by rfl) (by rfl) (fun z => by cases z) (by decide)))
    (pss_cons (ps_asg (pe_tup (pa_cons (pe_op op_addU (pv 2) (pe_lst (pa_cons pe_str pa_nil))) (pa_cons (pe_op op_addU (pv 2) (pe_lst (pa_cons pe_str pa_nil))) pa_nil))) (pg_tup rfl (pgs_cons (pg_sub (pv 3) pe_str (set_dict (hu1 hr))) (pgs_cons (pg_sub (pv 3) pe_str (set_dict (hu1 hr))) pgs_nil))))
    (pss_one (ps_ret (pe_op op_addU (pv 1) (pe_dget (hu1 hr) (pv 3) (pv 0) (fun _ _ => rfl))))))))

abbrev s_law_is_recipe : Stmt := top 27
abbrev N_law_is_recipe : List Str := ["value", "many", "shelf", "let", "asked", "spot", "row", "bit", "own"]
theorem sc_law_is_recipe : FnScope N_law_is_recipe ["value", "many", "shelf"] (defScope s_law_is_recipe) := ⟨rfl, rfl, rfl, by decide +kernel, rfl, by decide +kernel, by decide +kernel⟩
def t_law_is_recipe (K : PySem.W.Frag) : TS :=
    (tSeq (tIfS (tOr (tNot (tB (tCB (rIsi K) (tCons (tVar 0) (tCons (tC (.ty "tuple")) tNil))))) (tOr (tTest (tOp (rNeD K) (tCB (rLn K) (tCons (tVar 0) tNil)) (tC (.int 2)))) (tOr (tTest (tOp (rNeD K) (tOp (rIx K) (tVar 0) (tC (.int 0))) (tVar 1))) (tNot (tB (tCB (rIsi K) (tCons (tOp (rIx K) (tVar 0) (tC (.int 1))) (tCons (tC (.ty "tuple")) tNil)))))))) (tRet (tC (.bl false))) tNext)
    (tSeq (tIfS (tNot (tTest (tChain (rI0 fun i j => .bl (decide (i < j))) (rI0 fun i j => .bl (decide (i ≤ j))) (tC (.int 0)) (tCB (rLn K) (tCons (tOp (rIx K) (tVar 0) (tC (.int 1))) tNil)) (tC (.int 6000))))) (tRet (tC (.bl false))) tNext)
    (tSeq (tPar 3 4 (tCons (tCall (sp_law_shelf K) [] E0 (tCons (tVar 2) tNil)) (tCons (tDisp [((tC (.str "zero")), (tC (.int 0))), ((tC (.str "ones")), (tC (.int 0))), ((tC (.str "not")), (tC (.int 1))), ((tC (.str "twice")), (tC (.int 1))), ((tC (.str "minus")), (tC (.int 1))), ((tC (.str "prefix")), (tC (.int 1)))]) tNil)))
    (tSeq (tFor (iEnumU K (tCons (tOp (rIx K) (tVar 0) (tC (.int 1))) tNil)) (gTup K 2 (gCons (gName 5) (gCons (gName 6) gNil)))
      (tSeq (tIfS (tOr (tNot (tB (tCB (rIsi K) (tCons (tVar 6) (tCons (tC (.ty "tuple")) tNil))))) (tOr (tTest (tOp (rEqD K) (tVar 6) (tTup tNil))) (tTest (tOp (rNotInD K) (tOp (rIx K) (tVar 6) (tC (.int 0))) (tVar 3))))) (tRet (tC (.bl false))) tNext)
    (tIfS (tTest (tOp (rEqD K) (tOp (rIx K) (tVar 6) (tC (.int 0))) (tC (.str "mask")))) (tIfS (tOr (tTest (tOp (rNeD K) (tCB (rLn K) (tCons (tVar 6) tNil)) (tC (.int 2)))) (tOr (tNot (tTest (tChain (rI0 fun i j => .bl (decide (i < j))) (rI0 fun i j => .bl (decide (i ≤ j))) (tC (.int 0)) (tCB (rLn K) (tCons (tOp (rIx K) (tVar 6) (tC (.int 1))) tNil)) (tC (.int 24))))) (tTest (tOp (rNeD K) (tLc (iSeq K (tOp (rIx K) (tVar 6) (tC (.int 1)))) (gName 7) (tTest (tOp (rIn K true) (tVar 7) (tTup (tCons (tC (.int 0)) (tCons (tC (.int 1)) tNil))))) (tVar 7) [7]) (tLst tNil))))) (tRet (tC (.bl false))) tNext) (tIfS (tOr (tTest (tOp (rNeD K) (tCB (rLn K) (tCons (tVar 6) tNil)) (tOp (rAddU K) (tC (.int 1)) (tDGet2 (tVar 4) (tOp (rIx K) (tVar 6) (tC (.int 0))) (tC (.int 2)))))) (tTest (tOp (rNeD K) (tLc (iSeq K (tSl (rSlU K) (tVar 6) (tPart (tC (.int 1))) tNoPart)) (gName 8) (tNot (tTest (tChain (rI0 fun i j => .bl (decide (i ≤ j))) (rI0 fun i j => .bl (decide (i < j))) (tC (.int 0)) (tVar 8) (tOp (rAddU K) (tVar 1) (tVar 5))))) (tVar 8) [8]) (tLst tNil)))) (tRet (tC (.bl false))) tNext))))
    (tRet (tC (.bl true)))))))
theorem d_law_is_recipe {P : Program} {w : World} {K : PySem.W.Frag} {mg : Str → Option Value} {base : Heap} {f : Addr} {cdv : Value} {A : Around} {outer : List Env} {s : Shared} {H : Hp} {E : XK} (fr : Fr mg) (C_law_shelf : Cal P w K mg base "_law_shelf" ["shelf"] 1 (sp_law_shelf K))
    (hg : (A.deeper (envOfC "_law_is_recipe" (defScope s_law_is_recipe) s.heap.objs.size f cdv)).guards = some []) (hr : Room 1 (A.deeper (envOfC "_law_is_recipe" (defScope s_law_is_recipe) s.heap.objs.size f cdv))) :
    PSs (cxOf CX0 P w K mg base N_law_is_recipe "_law_is_recipe" (defScope s_law_is_recipe) f cdv A outer s H E).nox (defBody s_law_is_recipe) (t_law_is_recipe K) :=
  (pss_cons (ps_if (PW.pt (pw_or (pt_not (pt_val (pe_callB call_isi (by rfl) fr.isinstance (by decide +kernel) (pa_cons (pv 0) (pa_cons (pe_bltn (v := .ty "tuple") (u := .type "tuple") (by rfl) fr.tuple (by decide +kernel) rfl) pa_nil))))) (pw_or (pt_cmpR (op_neD hr.units) (pe_callB cr_ln (by rfl) fr.len (by decide +kernel) (pa_cons (pv 0) pa_nil)) pe_int (nomark _)) (pw_or (pt_cmpR (op_neD hr.units) (pe_ix ix_seq (pv 0) pe_int (fun _ _ => rfl)) (pv 1) (nomark _)) (pw_or1 (pt_not (pt_val (pe_callB call_isi (by rfl) fr.isinstance (by decide +kernel) (pa_cons (pe_ix ix_seq (pv 0) pe_int (fun _ _ => rfl)) (pa_cons (pe_bltn (v := .ty "tuple") (u := .type "tuple") (by rfl) fr.tuple (by decide +kernel) rfl) pa_nil)))))))))) (pss_one (ps_ret pe_bl)) pss_nil)
    (pss_cons (ps_if (pt_not (pt_chain op_lt op_le pe_int (pe_callB cr_ln (by rfl) fr.len (by decide +kernel) (pa_cons (pe_ix ix_seq (pv 0) pe_int (fun _ _ => rfl)) pa_nil)) pe_int)) (pss_one (ps_ret pe_bl)) pss_nil)
    (pss_cons (ps_par (i := 3) (j := 4) (by rfl) sc_law_is_recipe.nd rfl rfl (by decide) rfl rfl (pa_cons (pe_cal C_law_shelf hg (hr.mono (by decide)) (by rfl) (pa_cons (pv 2) pa_nil)) (pa_cons (pe_disp (pps_cons pe_str pe_int (pps_cons pe_str pe_int (pps_cons pe_str pe_int (pps_cons pe_str pe_int (pps_cons pe_str pe_int (pps_cons pe_str pe_int pps_nil)))))) (by rfl) (by rfl) (fun z => by cases z) (by decide)) pa_nil)) (by rfl))
    (pss_cons (ps_for PassesOwn.never rfl (pi_enumU (by rfl) fr.enumerate (pa_cons (pe_ix ix_seq (pv 0) pe_int (fun _ _ => rfl)) pa_nil)) (pg_tup rfl (pgs_cons (pg_name (i := 5) sc_law_is_recipe.nd rfl (Or.inr rfl)) (pgs_cons (pg_name (i := 6) sc_law_is_recipe.nd rfl (Or.inl rfl)) pgs_nil)))
      (pss_cons (ps_if (PW.pt (pw_or (pt_not (pt_val (pe_callB call_isi (by rfl) fr.isinstance (by decide +kernel) (pa_cons (pv 6) (pa_cons (pe_bltn (v := .ty "tuple") (u := .type "tuple") (by rfl) fr.tuple (by decide +kernel) rfl) pa_nil))))) (pw_or (pt_cmpR (op_eqD hr.units) (pv 6) (pe_tup pa_nil) (nomark _)) (pw_or1 (pt_cmpR (op_notInD (hu65 hr)) (pe_ix ix_seq (pv 6) pe_int (fun _ _ => rfl)) (pv 3) (by rfl)))))) (pss_one (ps_ret pe_bl)) pss_nil)
    (pss_one (ps_if (pt_cmpR (op_eqD hr.units) (pe_ix ix_seq (pv 6) pe_int (fun _ _ => rfl)) pe_str (nomark _)) (pss_one (ps_if (PW.pt (pw_or (pt_cmpR (op_neD hr.units) (pe_callB cr_ln (by rfl) fr.len (by decide +kernel) (pa_cons (pv 6) pa_nil)) pe_int (nomark _)) (pw_or (pt_not (pt_chain op_lt op_le pe_int (pe_callB cr_ln (by rfl) fr.len (by decide +kernel) (pa_cons (pe_ix ix_seq (pv 6) pe_int (fun _ _ => rfl)) pa_nil)) pe_int)) (pw_or1 (pt_cmpR (op_neD hr.units) (pe_lc (own := [("bit", 7)]) rfl sc_law_is_recipe.nd (pi_seq (pe_ix ix_seq (pv 6) pe_int (fun _ _ => rfl))) (blkOk_by (own := [("bit", 7)]) (N := N_law_is_recipe) (sc := defScope s_law_is_recipe) (by decide +kernel)) (fun _ _ _ _ _ => (pg_name (i := 7) sc_law_is_recipe.nd rfl (Or.inl rfl))) (fun _ _ _ _ _ => (pts_one (pt_cmpR op_notIn_seq (pv 7) (pe_tup (pa_cons pe_int (pa_cons pe_int pa_nil))) (by rfl)))) (fun _ _ _ _ _ => (pv 7))) (pe_lst pa_nil) (nomark _)))))) (pss_one (ps_ret pe_bl)) pss_nil)) (pss_one (ps_if (PW.pt (pw_or (pt_cmpR (op_neD hr.units) (pe_callB cr_ln (by rfl) fr.len (by decide +kernel) (pa_cons (pv 6) pa_nil)) (pe_op op_addU pe_int (pe_dget2 (hu1 hr) (pv 4) (pe_ix ix_seq (pv 6) pe_int (fun _ _ => rfl)) pe_int ⟨rfl, rfl, rfl, rfl⟩)) (nomark _)) (pw_or1 (pt_cmpR (op_neD hr.units) (pe_lc (own := [("own", 8)]) rfl sc_law_is_recipe.nd (pi_seq (pe_slice sl_U (pv 6) (po_some pe_int) po_none)) (blkOk_by (own := [("own", 8)]) (N := N_law_is_recipe) (sc := defScope s_law_is_recipe) (by decide +kernel)) (fun _ _ _ _ _ => (pg_name (i := 8) sc_law_is_recipe.nd rfl (Or.inl rfl))) (fun _ _ _ _ _ => (pts_one (pt_not (pt_chain op_le op_lt pe_int (pv 8) (pe_op op_addU (pv 1) (pv 5)))))) (fun _ _ _ _ _ => (pv 8))) (pe_lst pa_nil) (nomark _))))) (pss_one (ps_ret pe_bl)) pss_nil))))))
    (pss_one (ps_ret pe_bl))))))

abbrev s_law_plan : Stmt := top 28
abbrev N_law_plan : List Str := ["recipe", "tables", "found", "row", "places_of", "own"]
theorem sc_law_plan : FnScope N_law_plan ["recipe"] (defScope s_law_plan) := ⟨rfl, rfl, rfl, by decide +kernel, rfl, by decide +kernel, by decide +kernel⟩
def t_law_plan (K : PySem.W.Frag) : TS :=
    (tSeq (tPar 1 2 (tCons (tCall (sp_law_tables K) [] E0 tNil) (tCons (tLst tNil) tNil)))
    (tSeq (tFor (iSeq K (tOp (rIx K) (tVar 0) (tC (.int 1)))) (gName 3)
      (tIfS (tTest (tOp (rEqD K) (tOp (rIx K) (tVar 3) (tC (.int 0))) (tC (.str "mask")))) (tDrop (tBM K "list" rAppend (tVar 2) (tCons (tTup (tCons (tC .non) (tCons (tOp (rIx K) (tVar 3) (tC (.int 1))) (tCons (tC (.int 0)) tNil)))) tNil))) (tSeq (tAsg (tOp (rAddU K) (tLc (iSeq K (tSl (rSlU K) (tVar 3) (tPart (tC (.int 1))) tNoPart)) (gName 5) tYes (tOp (rAddU K) (tVar 5) (tC (.int 1))) [5]) (tLst (tCons (tC (.int 0)) (tCons (tC (.int 0)) tNil)))) (gName 4))
    (tDrop (tBM K "list" rAppend (tVar 2) (tCons (tTup (tCons (tDGet (tVar 1) (tOp (rIx K) (tVar 3) (tC (.int 0)))) (tCons (tOp (rIx K) (tVar 4) (tC (.int 0))) (tCons (tOp (rIx K) (tVar 4) (tC (.int 1))) tNil)))) tNil))))))
    (tRet (tVar 2))))
theorem d_law_plan {P : Program} {w : World} {K : PySem.W.Frag} {mg : Str → Option Value} {base : Heap} {f : Addr} {cdv : Value} {A : Around} {outer : List Env} {s : Shared} {H : Hp} {E : XK} (fr : Fr mg) (C_law_tables : Cal P w K mg base "_law_tables" [] 1 (sp_law_tables K))
    (hg : (A.deeper (envOfC "_law_plan" (defScope s_law_plan) s.heap.objs.size f cdv)).guards = some []) (hr : Room 1 (A.deeper (envOfC "_law_plan" (defScope s_law_plan) s.heap.objs.size f cdv))) :
    PSs (cxOf CX0 P w K mg base N_law_plan "_law_plan" (defScope s_law_plan) f cdv A outer s H E).nox (defBody s_law_plan) (t_law_plan K) :=
  (pss_cons (ps_par (i := 1) (j := 2) (by rfl) sc_law_plan.nd rfl rfl (by decide) rfl rfl (pa_cons (pe_cal0 C_law_tables hg (hr.mono (by decide)) (by rfl)) (pa_cons (pe_lst pa_nil) pa_nil)) (by rfl))
    (pss_cons (ps_for PassesOwn.never rfl (pi_seq (pe_ix ix_seq (pv 0) pe_int (fun _ _ => rfl))) (pg_name (i := 3) sc_law_plan.nd rfl (Or.inl rfl))
      (pss_one (ps_if (pt_cmpR (op_eqD hr.units) (pe_ix ix_seq (pv 3) pe_int (fun _ _ => rfl)) pe_str (nomark _)) (pss_one (ps_expr (pe_bm PySem.F.plainAttrs_list PySem.F.slot_list_append PySem.F.type_list_append mt_append (pv 2) (pa_cons (pe_tup (pa_cons pe_non (pa_cons (pe_ix ix_seq (pv 3) pe_int (fun _ _ => rfl)) (pa_cons pe_int pa_nil)))) pa_nil)))) (pss_cons (ps_set (i := 4) sc_law_plan.nd rfl (Or.inl rfl) (pe_op op_addU (pe_lc (own := [("own", 5)]) rfl sc_law_plan.nd (pi_seq (pe_slice sl_U (pv 3) (po_some pe_int) po_none)) (blkOk_by (own := [("own", 5)]) (N := N_law_plan) (sc := defScope s_law_plan) (by decide +kernel)) (fun _ _ _ _ _ => (pg_name (i := 5) sc_law_plan.nd rfl (Or.inl rfl))) (fun _ _ _ _ _ => pts_nil) (fun _ _ _ _ _ => (pe_op op_addU (pv 5) pe_int))) (pe_lst (pa_cons pe_int (pa_cons pe_int pa_nil)))))
    (pss_one (ps_expr (pe_bm PySem.F.plainAttrs_list PySem.F.slot_list_append PySem.F.type_list_append mt_append (pv 2) (pa_cons (pe_tup (pa_cons (pe_dget (hu1 hr) (pv 1) (pe_ix ix_seq (pv 3) pe_int (fun _ _ => rfl)) (fun _ _ => rfl)) (pa_cons (pe_ix ix_seq (pv 4) pe_int (fun _ _ => rfl)) (pa_cons (pe_ix ix_seq (pv 4) pe_int (fun _ _ => rfl)) pa_nil)))) pa_nil))))))))
    (pss_one (ps_ret (pv 2)))))

abbrev s_law_beat : Stmt := top 29
abbrev N_law_beat : List Str := ["plan", "bits", "kept", "row_bits", "later", "spot", "table", "a", "b", "bit", "fresh"]
theorem sc_law_beat : FnScope N_law_beat ["plan", "bits", "kept"] (defScope s_law_beat) := ⟨rfl, rfl, rfl, by decide +kernel, rfl, by decide +kernel, by decide +kernel⟩
def t_law_beat (K : PySem.W.Frag) : TS :=
    (tSeq (tPar 3 4 (tCons (tOp (rAddU K) (tLst (tCons (tC (.int 0)) tNil)) (tVar 1)) (tCons (tLst tNil) tNil)))
    (tSeq (tFor (iEnumU K (tCons (tVar 0) tNil)) (gTup K 2 (gCons (gName 5) (gCons (gTup K 3 (gCons (gName 6) (gCons (gName 7) (gCons (gName 8) gNil)))) gNil)))
      (tIfS (tTest (tOp rIsN (tVar 6) (tC .non))) (tSeq (tDrop (tBM K "list" rAppend (tVar 3) (tCons (tOp (rIx K) (tVar 7) (tOp (rIx K) (tVar 2) (tVar 5))) tNil)))
    (tDrop (tBM K "list" rAppend (tVar 4) (tCons (tOp (rI (fun _ j => j ≠ 0) fun i j => .int (i.fmod j)) (tOp (rAddU K) (tOp (rIx K) (tVar 2) (tVar 5)) (tC (.int 1))) (tCB (rLn K) (tCons (tVar 7) tNil))) tNil)))) (tSeq (tAsg (tOp (rIx K) (tVar 6) (tOp (rAddU K) (tOp (rAddU K) (tOp (rIx K) (tVar 3) (tVar 7)) (tOp rMulU (tC (.int 2)) (tOp (rIx K) (tVar 3) (tVar 8)))) (tOp rMulU (tC (.int 4)) (tOp (rIx K) (tVar 2) (tVar 5))))) (gTup K 2 (gCons (gName 9) (gCons (gName 10) gNil))))
    (tSeq (tDrop (tBM K "list" rAppend (tVar 3) (tCons (tVar 9) tNil)))
    (tDrop (tBM K "list" rAppend (tVar 4) (tCons (tVar 10) tNil)))))))
    (tRet (tTup (tCons (tOp (rIx K) (tVar 3) (tUn (rU fun i => .int (-i)) (tC (.int 1)))) (tCons (tCB (rTupOf K) (tCons (tVar 4) tNil)) tNil))))))
theorem d_law_beat {P : Program} {w : World} {K : PySem.W.Frag} {mg : Str → Option Value} {base : Heap} {f : Addr} {cdv : Value} {A : Around} {outer : List Env} {s : Shared} {H : Hp} {E : XK} (fr : Fr mg)
    (hg : (A.deeper (envOfC "_law_beat" (defScope s_law_beat) s.heap.objs.size f cdv)).guards = some []) (hr : Room 0 (A.deeper (envOfC "_law_beat" (defScope s_law_beat) s.heap.objs.size f cdv))) :
    PSs (cxOf CX0 P w K mg base N_law_beat "_law_beat" (defScope s_law_beat) f cdv A outer s H E).nox (defBody s_law_beat) (t_law_beat K) :=
  (pss_cons (ps_par (i := 3) (j := 4) (by rfl) sc_law_beat.nd rfl rfl (by decide) rfl rfl (pa_cons (pe_op op_addU (pe_lst (pa_cons pe_int pa_nil)) (pv 1)) (pa_cons (pe_lst pa_nil) pa_nil)) (by rfl))
    (pss_cons (ps_for PassesOwn.never rfl (pi_enumU (by rfl) fr.enumerate (pa_cons (pv 0) pa_nil)) (pg_tup rfl (pgs_cons (pg_name (i := 5) sc_law_beat.nd rfl (Or.inl rfl)) (pgs_cons (pg_tup rfl (pgs_cons (pg_name (i := 6) sc_law_beat.nd rfl (Or.inl rfl)) (pgs_cons (pg_name (i := 7) sc_law_beat.nd rfl (Or.inl rfl)) (pgs_cons (pg_name (i := 8) sc_law_beat.nd rfl (Or.inl rfl)) pgs_nil)))) pgs_nil)))
      (pss_one (ps_if (pt_cmpR op_isN1 (pv 6) pe_non (nomark _)) (pss_cons (ps_expr (pe_bm PySem.F.plainAttrs_list PySem.F.slot_list_append PySem.F.type_list_append mt_append (pv 3) (pa_cons (pe_ix ix_seq (pv 7) (pe_ix ix_seq (pv 2) (pv 5) (fun _ _ => rfl)) (fun _ _ => rfl)) pa_nil)))
    (pss_one (ps_expr (pe_bm PySem.F.plainAttrs_list PySem.F.slot_list_append PySem.F.type_list_append mt_append (pv 4) (pa_cons (pe_op op_modN (pe_op op_addU (pe_ix ix_seq (pv 2) (pv 5) (fun _ _ => rfl)) pe_int) (pe_callB cr_ln (by rfl) fr.len (by decide +kernel) (pa_cons (pv 7) pa_nil))) pa_nil))))) (pss_cons (ps_asg (pe_ix ix_seq (pv 6) (pe_op op_addU (pe_op op_addU (pe_ix ix_seq (pv 3) (pv 7) (fun _ _ => rfl)) (pe_op op_mulU pe_int (pe_ix ix_seq (pv 3) (pv 8) (fun _ _ => rfl)))) (pe_op op_mulU pe_int (pe_ix ix_seq (pv 2) (pv 5) (fun _ _ => rfl)))) (fun _ _ => rfl)) (pg_tup rfl (pgs_cons (pg_name (i := 9) sc_law_beat.nd rfl (Or.inl rfl)) (pgs_cons (pg_name (i := 10) sc_law_beat.nd rfl (Or.inl rfl)) pgs_nil))))
    (pss_cons (ps_expr (pe_bm PySem.F.plainAttrs_list PySem.F.slot_list_append PySem.F.type_list_append mt_append (pv 3) (pa_cons (pv 9) pa_nil)))
    (pss_one (ps_expr (pe_bm PySem.F.plainAttrs_list PySem.F.slot_list_append PySem.F.type_list_append mt_append (pv 4) (pa_cons (pv 10) pa_nil)))))))))
    (pss_one (ps_ret (pe_tup (pa_cons (pe_ix ix_seq (pv 3) (pe_un un_neg pe_int) (fun _ _ => rfl)) (pa_cons (pe_callTy cr_tupOf (by rfl) fr.tuple (by decide +kernel) (pa_cons (pv 4) pa_nil)) pa_nil)))))))

abbrev s_law_is_told : Stmt := top 30
abbrev N_law_is_told : List Str := ["engine", "recipe", "bound", "plan", "many", "seen", "at", "spot", "kept", "letter", "bit", "later", "after", "due", "own"]
theorem sc_law_is_told : FnScope N_law_is_told ["engine", "recipe", "bound"] (defScope s_law_is_told) := ⟨rfl, rfl, rfl, by decide +kernel, rfl, by decide +kernel, by decide +kernel⟩
def t_law_is_told (K : PySem.W.Frag) : TS :=
    (tSeq (tPar 3 4 (tCons (tCall (sp_law_plan K) [] E0 (tCons (tVar 1) tNil)) (tCons (tOp (rIx K) (tVar 0) (tC (.int 0))) tNil)))
    (tSeq (tPar 5 6 (tCons (tLst (tCons (tTup (tCons (tC (.int 0)) (tCons (tOp (rRepT K) (tTup (tCons (tC (.int 0)) tNil)) (tCB (rLn K) (tCons (tVar 3) tNil))) tNil))) tNil)) (tCons (tC (.int 0)) tNil)))
    (tSeq (tWhile (tAnd (tTest (tOp (rI0 fun i j => .bl (decide (i < j))) (tVar 6) (tCB (rLn K) (tCons (tVar 5) tNil)))) (tTest (tOp (rI0 fun i j => .bl (decide (i < j))) (tOp (rI CPow fun i j => .int (i * 2 ^ j.toNat)) (tOp rMulU (tVar 6) (tCB (rLn K) (tCons (tVar 3) tNil))) (tVar 4)) (tVar 2))))
      (tSeq (tAsg (tOp (rIx K) (tVar 5) (tVar 6)) (gTup K 2 (gCons (gName 7) (gCons (gName 8) gNil))))
    (tSeq (tFor (iRng1 (tCons (tOp (rI CPow fun i j => .int (i * 2 ^ j.toNat)) (tC (.int 1)) (tVar 4)) tNil)) (gName 9)
      (tSeq (tAsg (tCall (sp_law_beat K) [] E0 (tCons (tVar 3) (tCons (tLc (iRng1 (tCons (tVar 4) tNil)) (gName 14) tYes (tOp (rI0 fun i j => .int (Builtin.bitAnd i j)) (tOp (rI (fun _ j => 0 ≤ j) fun i j => .int (i / 2 ^ j.toNat)) (tVar 9) (tVar 14)) (tC (.int 1))) [14]) (tCons (tVar 8) tNil)))) (gTup K 2 (gCons (gName 10) (gCons (gName 11) gNil))))
    (tSeq (tAsg (tOp (rIx K) (tOp (rIx K) (tOp (rIx K) (tVar 0) (tC (.int 1))) (tVar 7)) (tVar 9)) (gTup K 2 (gCons (gName 12) (gCons (gName 13) gNil))))
    (tSeq (tIfS (tTest (tOp (rNeD K) (tVar 10) (tVar 13))) (tRet (tC (.bl false))) tNext)
    (tIfS (tTest (tOp (rNotInD K) (tTup (tCons (tVar 12) (tCons (tVar 11) tNil))) (tVar 5))) (tDrop (tBM K "list" rAppend (tVar 5) (tCons (tTup (tCons (tVar 12) (tCons (tVar 11) tNil))) tNil))) tNext)))))
    (tAsg (tOp (rAddU K) (tVar 6) (tC (.int 1))) (gName 6)))))
    (tRet (tC (.bl true))))))
theorem d_law_is_told {P : Program} {w : World} {K : PySem.W.Frag} {mg : Str → Option Value} {base : Heap} {f : Addr} {cdv : Value} {A : Around} {outer : List Env} {s : Shared} {H : Hp} {E : XK} (fr : Fr mg) (C_law_plan : Cal P w K mg base "_law_plan" ["recipe"] 2 (sp_law_plan K)) (C_law_beat : Cal P w K mg base "_law_beat" ["plan", "bits", "kept"] 1 (sp_law_beat K))
    (hg : (A.deeper (envOfC "_law_is_told" (defScope s_law_is_told) s.heap.objs.size f cdv)).guards = some []) (hr : Room 2 (A.deeper (envOfC "_law_is_told" (defScope s_law_is_told) s.heap.objs.size f cdv))) :
    PSs (cxOf CX0 P w K mg base N_law_is_told "_law_is_told" (defScope s_law_is_told) f cdv A outer s H E).nox (defBody s_law_is_told) (t_law_is_told K) :=
  (pss_cons (ps_par (i := 3) (j := 4) (by rfl) sc_law_is_told.nd rfl rfl (by decide) rfl rfl (pa_cons (pe_cal C_law_plan hg (hr.mono (by decide)) (by rfl) (pa_cons (pv 1) pa_nil)) (pa_cons (pe_ix ix_seq (pv 0) pe_int (fun _ _ => rfl)) pa_nil)) (by rfl))
    (pss_cons (ps_par (i := 5) (j := 6) (by rfl) sc_law_is_told.nd rfl rfl (by decide) rfl rfl (pa_cons (pe_lst (pa_cons (pe_tup (pa_cons pe_int (pa_cons (pe_op op_repT (pe_tup (pa_cons pe_int pa_nil)) (pe_callB cr_ln (by rfl) fr.len (by decide +kernel) (pa_cons (pv 3) pa_nil))) pa_nil))) pa_nil)) (pa_cons pe_int pa_nil)) (by rfl))
    (pss_cons (ps_while PassesOwn.never (PW.pt (pw_and (pt_cmpR op_lt (pv 6) (pe_callB cr_ln (by rfl) fr.len (by decide +kernel) (pa_cons (pv 5) pa_nil)) (nomark _)) (pw_and1 (pt_cmpR op_lt (pe_op op_shl (pe_op op_mulU (pv 6) (pe_callB cr_ln (by rfl) fr.len (by decide +kernel) (pa_cons (pv 3) pa_nil))) (pv 4)) (pv 2) (nomark _)))))
      (pss_cons (ps_asg (pe_ix ix_seq (pv 5) (pv 6) (fun _ _ => rfl)) (pg_tup rfl (pgs_cons (pg_name (i := 7) sc_law_is_told.nd rfl (Or.inl rfl)) (pgs_cons (pg_name (i := 8) sc_law_is_told.nd rfl (Or.inl rfl)) pgs_nil))))
    (pss_cons (ps_for PassesOwn.never rfl (pi_range1 (by rfl) fr.range (pa_cons (pe_op op_shl pe_int (pv 4)) pa_nil)) (pg_name (i := 9) sc_law_is_told.nd rfl (Or.inr rfl))
      (pss_cons (ps_asg (pe_cal C_law_beat hg (hr.mono (by decide)) (by rfl) (pa_cons (pv 3) (pa_cons (pe_lc (own := [("own", 14)]) rfl sc_law_is_told.nd (pi_range1 (by rfl) fr.range (pa_cons (pv 4) pa_nil)) (blkOk_by (own := [("own", 14)]) (N := N_law_is_told) (sc := defScope s_law_is_told) (by decide +kernel)) (fun _ _ _ _ _ => (pg_name (i := 14) sc_law_is_told.nd rfl (Or.inl rfl))) (fun _ _ _ _ _ => pts_nil) (fun _ _ _ _ _ => (pe_op op_and (pe_op op_shr (pv 9) (pv 14)) pe_int))) (pa_cons (pv 8) pa_nil)))) (pg_tup rfl (pgs_cons (pg_name (i := 10) sc_law_is_told.nd rfl (Or.inl rfl)) (pgs_cons (pg_name (i := 11) sc_law_is_told.nd rfl (Or.inl rfl)) pgs_nil))))
    (pss_cons (ps_asg (pe_ix ix_seq (pe_ix ix_seq (pe_ix ix_seq (pv 0) pe_int (fun _ _ => rfl)) (pv 7) (fun _ _ => rfl)) (pv 9) (fun _ _ => rfl)) (pg_tup rfl (pgs_cons (pg_name (i := 12) sc_law_is_told.nd rfl (Or.inl rfl)) (pgs_cons (pg_name (i := 13) sc_law_is_told.nd rfl (Or.inl rfl)) pgs_nil))))
    (pss_cons (ps_if (pt_cmpR (op_neD hr.units) (pv 10) (pv 13) (nomark _)) (pss_one (ps_ret pe_bl)) pss_nil)
    (pss_one (ps_if (pt_cmpR (op_notInD (hu65 hr)) (pe_tup (pa_cons (pv 12) (pa_cons (pv 11) pa_nil))) (pv 5) (by rfl)) (pss_one (ps_expr (pe_bm PySem.F.plainAttrs_list PySem.F.slot_list_append PySem.F.type_list_append mt_append (pv 5) (pa_cons (pe_tup (pa_cons (pv 12) (pa_cons (pv 11) pa_nil))) pa_nil)))) pss_nil))))))
    (pss_one (ps_set (i := 6) sc_law_is_told.nd rfl (Or.inl rfl) (pe_op op_addU (pv 6) pe_int))))))
    (pss_one (ps_ret pe_bl)))))

abbrev s_law_rows : Stmt := top 31
abbrev N_law_rows : List Str := ["urn", "many", "steps", "states", "rows", "spot", "letter"]
theorem sc_law_rows : FnScope N_law_rows ["urn", "many", "steps"] (defScope s_law_rows) := ⟨rfl, rfl, rfl, by decide +kernel, rfl, by decide +kernel, by decide +kernel⟩
def t_law_rows (K : PySem.W.Frag) : TS :=
    (tSeq (tAsg (tCB (rLn K) (tCons (tOp (rIx K) (tVar 2) (tC (.int 0))) tNil)) (gName 3))
    (tSeq (tAsg (tLst tNil) (gName 4))
    (tSeq (tFor (iRng1 (tCons (tVar 3) tNil)) (gName 5)
      (tDrop (tBM K "list" rAppend (tVar 4) (tCons (tCB (rTupOf K) (tCons (tLc (iRng1 (tCons (tOp (rI CPow fun i j => .int (i * 2 ^ j.toNat)) (tC (.int 1)) (tVar 1)) tNil)) (gName 6) tYes (tTup (tCons (tOp (rIx K) (tOp (rIx K) (tVar 2) (tVar 6)) (tVar 5)) (tCons (tCall (sp_law_draw K) [] E0 (tCons (tVar 0) (tCons (tC (.int 2)) tNil))) tNil))) [6]) tNil)) tNil))))
    (tRet (tTup (tCons (tVar 1) (tCons (tCB (rTupOf K) (tCons (tVar 4) tNil)) tNil)))))))
theorem d_law_rows {P : Program} {w : World} {K : PySem.W.Frag} {mg : Str → Option Value} {base : Heap} {f : Addr} {cdv : Value} {A : Around} {outer : List Env} {s : Shared} {H : Hp} {E : XK} (fr : Fr mg) (C_law_draw : Cal P w K mg base "_law_draw" ["urn", "many"] 1 (sp_law_draw K))
    (hg : (A.deeper (envOfC "_law_rows" (defScope s_law_rows) s.heap.objs.size f cdv)).guards = some []) (hr : Room 1 (A.deeper (envOfC "_law_rows" (defScope s_law_rows) s.heap.objs.size f cdv))) :
    PSs (cxOf CX0 P w K mg base N_law_rows "_law_rows" (defScope s_law_rows) f cdv A outer s H E).nox (defBody s_law_rows) (t_law_rows K) :=
  (pss_cons (ps_set (i := 3) sc_law_rows.nd rfl (Or.inl rfl) (pe_callB cr_ln (by rfl) fr.len (by decide +kernel) (pa_cons (pe_ix ix_seq (pv 2) pe_int (fun _ _ => rfl)) pa_nil)))
    (pss_cons (ps_set (i := 4) sc_law_rows.nd rfl (Or.inl rfl) (pe_lst pa_nil))
    (pss_cons (ps_for PassesOwn.never rfl (pi_range1 (by rfl) fr.range (pa_cons (pv 3) pa_nil)) (pg_name (i := 5) sc_law_rows.nd rfl (Or.inr rfl))
      (pss_one (ps_expr (pe_bm PySem.F.plainAttrs_list PySem.F.slot_list_append PySem.F.type_list_append mt_append (pv 4) (pa_cons (pe_callTy cr_tupOf (by rfl) fr.tuple (by decide +kernel) (pa_cons (pe_lc (own := [("letter", 6)]) rfl sc_law_rows.nd (pi_range1 (by rfl) fr.range (pa_cons (pe_op op_shl pe_int (pv 1)) pa_nil)) (blkOk_by (own := [("letter", 6)]) (N := N_law_rows) (sc := defScope s_law_rows) (by decide +kernel)) (fun _ _ _ _ _ => (pg_name (i := 6) sc_law_rows.nd rfl (Or.inl rfl))) (fun _ _ _ _ _ => pts_nil) (fun _ _ _ _ _ => (pe_tup (pa_cons (pe_ix ix_seq (pe_ix ix_seq (pv 2) (pv 6) (fun _ _ => rfl)) (pv 5) (fun _ _ => rfl)) (pa_cons (pe_cal C_law_draw hg (hr.mono (by decide)) (by rfl) (pa_cons (pv 0) (pa_cons pe_int pa_nil))) pa_nil))))) pa_nil)) pa_nil)))))
    (pss_one (ps_ret (pe_tup (pa_cons (pv 1) (pa_cons (pe_callTy cr_tupOf (by rfl) fr.tuple (by decide +kernel) (pa_cons (pv 4) pa_nil)) pa_nil))))))))

abbrev s_law_called : Stmt := top 32
abbrev N_law_called : List Str := ["urn", "engine", "many", "rows", "states", "names", "double", "found", "spot", "row", "later", "sides", "after", "bit", "letter"]
theorem sc_law_called : FnScope N_law_called ["urn", "engine"] (defScope s_law_called) := ⟨rfl, rfl, rfl, by decide +kernel, rfl, by decide +kernel, by decide +kernel⟩
def t_law_called (K : PySem.W.Frag) : TS :=
    (tSeq (tAsg (tVar 1) (gTup K 2 (gCons (gName 2) (gCons (gName 3) gNil))))
    (tSeq (tAsg (tCB (rLn K) (tCons (tVar 3) tNil)) (gName 4))
    (tSeq (tAsg (tOp (rAddU K) (tLst (tCons (tC (.int 0)) tNil)) (tCall (sp_law_mixed K) [] E0 (tCons (tVar 0) (tCons (tLstRg (tRg2 (tC (.int 1)) (tVar 4))) tNil)))) (gName 5))
    (tSeq (tAsg (tIf (tTest (tOp (rEqD K) (tCall (sp_law_draw K) [] E0 (tCons (tVar 0) (tCons (tC (.int 3)) tNil))) (tC (.int 0)))) (tCall (sp_law_draw K) [] E0 (tCons (tVar 0) (tCons (tVar 4) tNil))) (tC .non)) (gName 6))
    (tSeq (tAsg (tOp rMulU (tLst (tCons (tTup tNil) tNil)) (tVar 4)) (gName 7))
    (tSeq (tFor (iEnumU K (tCons (tVar 3) tNil)) (gTup K 2 (gCons (gName 8) (gCons (gName 9) gNil)))
      (tAsg (tCB (rTupOf K) (tCons (tLc (iSeq K (tVar 9)) (gTup K 2 (gCons (gName 12) (gCons (gName 13) gNil))) tYes (tTup (tCons (tOp (rIx K) (tVar 5) (tVar 12)) (tCons (tVar 13) tNil))) [12, 13]) tNil)) (gSub (tVar 7) (tOp (rIx K) (tVar 5) (tVar 8)) rSetL)))
    (tSeq (tIfS (tTest (tOp rIsN (tVar 6) (tC .non))) (tRet (tTup (tCons (tVar 2) (tCons (tCB (rTupOf K) (tCons (tVar 7) tNil)) tNil)))) tNext)
    (tSeq (tDrop (tBM K "list" rAppend (tVar 7) (tCons (tOp (rIx K) (tVar 7) (tVar 6)) tNil)))
    (tSeq (tAsg (tLst tNil) (gName 10))
    (tSeq (tFor (iSeq K (tVar 7)) (gName 9)
      (tSeq (tAsg (tLc (iSeq K (tVar 9)) (gTup K 2 (gCons (gName 12) (gCons (gName 13) gNil))) tYes (tIf (tAnd (tTest (tOp (rEqD K) (tVar 12) (tVar 6))) (tTest (tOp (rEqD K) (tCall (sp_law_draw K) [] E0 (tCons (tVar 0) (tCons (tC (.int 2)) tNil))) (tC (.int 0))))) (tVar 4) (tVar 12)) [12, 13]) (gName 11))
    (tDrop (tBM K "list" rAppend (tVar 10) (tCons (tCB (rTupOf K) (tCons (tLc (iRng1 (tCons (tCB (rLn K) (tCons (tVar 9) tNil)) tNil)) (gName 14) tYes (tTup (tCons (tOp (rIx K) (tVar 11) (tVar 14)) (tCons (tOp (rIx K) (tOp (rIx K) (tVar 9) (tVar 14)) (tC (.int 1))) tNil))) [14]) tNil)) tNil)))))
    (tRet (tTup (tCons (tVar 2) (tCons (tCB (rTupOf K) (tCons (tVar 10) tNil)) tNil))))))))))))))
theorem d_law_called {P : Program} {w : World} {K : PySem.W.Frag} {mg : Str → Option Value} {base : Heap} {f : Addr} {cdv : Value} {A : Around} {outer : List Env} {s : Shared} {H : Hp} {E : XK} (fr : Fr mg) (C_law_mixed : Cal P w K mg base "_law_mixed" ["urn", "some"] 2 (sp_law_mixed K)) (C_law_draw : Cal P w K mg base "_law_draw" ["urn", "many"] 1 (sp_law_draw K))
    (hg : (A.deeper (envOfC "_law_called" (defScope s_law_called) s.heap.objs.size f cdv)).guards = some []) (hr : Room 2 (A.deeper (envOfC "_law_called" (defScope s_law_called) s.heap.objs.size f cdv))) :
    PSs (cxOf CX0 P w K mg base N_law_called "_law_called" (defScope s_law_called) f cdv A outer s H E).nox (defBody s_law_called) (t_law_called K) :=
  (pss_cons (ps_asg (pv 1) (pg_tup rfl (pgs_cons (pg_name (i := 2) sc_law_called.nd rfl (Or.inl rfl)) (pgs_cons (pg_name (i := 3) sc_law_called.nd rfl (Or.inl rfl)) pgs_nil))))
    (pss_cons (ps_set (i := 4) sc_law_called.nd rfl (Or.inr rfl) (pe_callB cr_ln (by rfl) fr.len (by decide +kernel) (pa_cons (pv 3) pa_nil)))
    (pss_cons (ps_set (i := 5) sc_law_called.nd rfl (Or.inr rfl) (pe_op op_addU (pe_lst (pa_cons pe_int pa_nil)) (pe_cal C_law_mixed hg (hr.mono (by decide)) (by rfl) (pa_cons (pv 0) (pa_cons (pe_listRg rfl (by rfl) fr.list (prg_2 (by rfl) fr.range pe_int (pv 4))) pa_nil)))))
    (pss_cons (ps_set (i := 6) sc_law_called.nd rfl (Or.inr rfl) (pe_ifExp (pt_cmpR (op_eqD hr.units) (pe_cal C_law_draw hg (hr.mono (by decide)) (by rfl) (pa_cons (pv 0) (pa_cons pe_int pa_nil))) pe_int (nomark _)) (pe_cal C_law_draw hg (hr.mono (by decide)) (by rfl) (pa_cons (pv 0) (pa_cons (pv 4) pa_nil))) pe_non))
    (pss_cons (ps_set (i := 7) sc_law_called.nd rfl (Or.inl rfl) (pe_op op_mulU (pe_lst (pa_cons (pe_tup pa_nil) pa_nil)) (pv 4)))
    (pss_cons (ps_for PassesOwn.never rfl (pi_enumU (by rfl) fr.enumerate (pa_cons (pv 3) pa_nil)) (pg_tup rfl (pgs_cons (pg_name (i := 8) sc_law_called.nd rfl (Or.inl rfl)) (pgs_cons (pg_name (i := 9) sc_law_called.nd rfl (Or.inr rfl)) pgs_nil)))
      (pss_one (ps_asg (pe_callTy cr_tupOf (by rfl) fr.tuple (by decide +kernel) (pa_cons (pe_lc (own := [("after", 12), ("bit", 13)]) rfl sc_law_called.nd (pi_seq (pv 9)) (blkOk_by (own := [("after", 12), ("bit", 13)]) (N := N_law_called) (sc := defScope s_law_called) (by decide +kernel)) (fun _ _ _ _ _ => (pg_tup rfl (pgs_cons (pg_name (i := 12) sc_law_called.nd rfl (Or.inl rfl)) (pgs_cons (pg_name (i := 13) sc_law_called.nd rfl (Or.inl rfl)) pgs_nil)))) (fun _ _ _ _ _ => pts_nil) (fun _ _ _ _ _ => (pe_tup (pa_cons (pe_ix ix_seq (pv 5) (pv 12) (fun _ _ => rfl)) (pa_cons (pv 13) pa_nil))))) pa_nil)) (pg_sub (pv 7) (pe_ix ix_seq (pv 5) (pv 8) (fun _ _ => rfl)) set_list))))
    (pss_cons (ps_if (pt_cmpR op_isN1 (pv 6) pe_non (nomark _)) (pss_one (ps_ret (pe_tup (pa_cons (pv 2) (pa_cons (pe_callTy cr_tupOf (by rfl) fr.tuple (by decide +kernel) (pa_cons (pv 7) pa_nil)) pa_nil))))) pss_nil)
    (pss_cons (ps_expr (pe_bm PySem.F.plainAttrs_list PySem.F.slot_list_append PySem.F.type_list_append mt_append (pv 7) (pa_cons (pe_ix ix_seq (pv 7) (pv 6) (fun _ _ => rfl)) pa_nil)))
    (pss_cons (ps_set (i := 10) sc_law_called.nd rfl (Or.inl rfl) (pe_lst pa_nil))
    (pss_cons (ps_for PassesOwn.never rfl (pi_seq (pv 7)) (pg_name (i := 9) sc_law_called.nd rfl (Or.inr rfl))
      (pss_cons (ps_set (i := 11) sc_law_called.nd rfl (Or.inr rfl) (pe_lc (own := [("after", 12), ("bit", 13)]) rfl sc_law_called.nd (pi_seq (pv 9)) (blkOk_by (own := [("after", 12), ("bit", 13)]) (N := N_law_called) (sc := defScope s_law_called) (by decide +kernel)) (fun _ _ _ _ _ => (pg_tup rfl (pgs_cons (pg_name (i := 12) sc_law_called.nd rfl (Or.inl rfl)) (pgs_cons (pg_name (i := 13) sc_law_called.nd rfl (Or.inl rfl)) pgs_nil)))) (fun _ _ _ _ _ => pts_nil) (fun _ _ _ _ _ => (pe_ifExp (PW.pt (pw_and (pt_cmpR (op_eqD hr.units) (pv 12) (pv 6) (nomark _)) (pw_and1 (pt_cmpR (op_eqD hr.units) (pe_cal C_law_draw hg (hr.mono (by decide)) (by rfl) (pa_cons (pv 0) (pa_cons pe_int pa_nil))) pe_int (nomark _))))) (pv 4) (pv 12)))))
    (pss_one (ps_expr (pe_bm PySem.F.plainAttrs_list PySem.F.slot_list_append PySem.F.type_list_append mt_append (pv 10) (pa_cons (pe_callTy cr_tupOf (by rfl) fr.tuple (by decide +kernel) (pa_cons (pe_lc (own := [("letter", 14)]) rfl sc_law_called.nd (pi_range1 (by rfl) fr.range (pa_cons (pe_callB cr_ln (by rfl) fr.len (by decide +kernel) (pa_cons (pv 9) pa_nil)) pa_nil)) (blkOk_by (own := [("letter", 14)]) (N := N_law_called) (sc := defScope s_law_called) (by decide +kernel)) (fun _ _ _ _ _ => (pg_name (i := 14) sc_law_called.nd rfl (Or.inl rfl))) (fun _ _ _ _ _ => pts_nil) (fun _ _ _ _ _ => (pe_tup (pa_cons (pe_ix ix_seq (pv 11) (pv 14) (fun _ _ => rfl)) (pa_cons (pe_ix ix_seq (pe_ix ix_seq (pv 9) (pv 14) (fun _ _ => rfl)) pe_int (fun _ _ => rfl)) pa_nil))))) pa_nil)) pa_nil))))))
    (pss_one (ps_ret (pe_tup (pa_cons (pv 2) (pa_cons (pe_callTy cr_tupOf (by rfl) fr.tuple (by decide +kernel) (pa_cons (pv 10) pa_nil)) pa_nil)))))))))))))))

abbrev s_law_setter : Stmt := top 33
abbrev N_law_setter : List Str := ["urn", "many", "states", "steps", "letter", "own"]
theorem sc_law_setter : FnScope N_law_setter ["urn", "many", "states"] (defScope s_law_setter) := ⟨rfl, rfl, rfl, by decide +kernel, rfl, by decide +kernel, by decide +kernel⟩
def t_law_setter (K : PySem.W.Frag) : TS :=
    (tSeq (tAsg (tLst tNil) (gName 3))
    (tSeq (tFor (iRng1 (tCons (tOp (rI CPow fun i j => .int (i * 2 ^ j.toNat)) (tC (.int 1)) (tVar 1)) tNil)) (gName 4)
      (tSeq (tAsg (tIf (tTest (tOp (rEqD K) (tCall (sp_law_draw K) [] E0 (tCons (tVar 0) (tCons (tC (.int 4)) tNil))) (tC (.int 0)))) (tLstRg (tRg1 (tVar 2))) (tOp rMulU (tLst (tCons (tCall (sp_law_draw K) [] E0 (tCons (tVar 0) (tCons (tVar 2) tNil))) tNil)) (tVar 2))) (gName 5))
    (tDrop (tBM K "list" rAppend (tVar 3) (tCons (tVar 5) tNil)))))
    (tRet (tCall (sp_law_rows K) [] E0 (tCons (tVar 0) (tCons (tVar 1) (tCons (tVar 3) tNil)))))))
theorem d_law_setter {P : Program} {w : World} {K : PySem.W.Frag} {mg : Str → Option Value} {base : Heap} {f : Addr} {cdv : Value} {A : Around} {outer : List Env} {s : Shared} {H : Hp} {E : XK} (fr : Fr mg) (C_law_rows : Cal P w K mg base "_law_rows" ["urn", "many", "steps"] 2 (sp_law_rows K)) (C_law_draw : Cal P w K mg base "_law_draw" ["urn", "many"] 1 (sp_law_draw K))
    (hg : (A.deeper (envOfC "_law_setter" (defScope s_law_setter) s.heap.objs.size f cdv)).guards = some []) (hr : Room 2 (A.deeper (envOfC "_law_setter" (defScope s_law_setter) s.heap.objs.size f cdv))) :
    PSs (cxOf CX0 P w K mg base N_law_setter "_law_setter" (defScope s_law_setter) f cdv A outer s H E).nox (defBody s_law_setter) (t_law_setter K) :=
  (pss_cons (ps_set (i := 3) sc_law_setter.nd rfl (Or.inl rfl) (pe_lst pa_nil))
    (pss_cons (ps_for PassesOwn.never rfl (pi_range1 (by rfl) fr.range (pa_cons (pe_op op_shl pe_int (pv 1)) pa_nil)) (pg_name (i := 4) sc_law_setter.nd rfl (Or.inl rfl))
      (pss_cons (ps_set (i := 5) sc_law_setter.nd rfl (Or.inl rfl) (pe_ifExp (pt_cmpR (op_eqD hr.units) (pe_cal C_law_draw hg (hr.mono (by decide)) (by rfl) (pa_cons (pv 0) (pa_cons pe_int pa_nil))) pe_int (nomark _)) (pe_listRg rfl (by rfl) fr.list (prg_1 (by rfl) fr.range (pv 2))) (pe_op op_mulU (pe_lst (pa_cons (pe_cal C_law_draw hg (hr.mono (by decide)) (by rfl) (pa_cons (pv 0) (pa_cons (pv 2) pa_nil))) pa_nil)) (pv 2))))
    (pss_one (ps_expr (pe_bm PySem.F.plainAttrs_list PySem.F.slot_list_append PySem.F.type_list_append mt_append (pv 3) (pa_cons (pv 5) pa_nil))))))
    (pss_one (ps_ret (pe_cal C_law_rows hg (hr.mono (by decide)) (by rfl) (pa_cons (pv 0) (pa_cons (pv 1) (pa_cons (pv 3) pa_nil))))))))

abbrev s_law_carrying : Stmt := top 35
abbrev N_law_carrying : List Str := ["recipe", "row"]
theorem sc_law_carrying : FnScope N_law_carrying ["recipe"] (defScope s_law_carrying) := ⟨rfl, rfl, rfl, by decide +kernel, rfl, by decide +kernel, by decide +kernel⟩
def t_law_carrying (K : PySem.W.Frag) : TS :=
    (tRet (tCB (rLn K) (tCons (tLc (iSeq K (tOp (rIx K) (tVar 0) (tC (.int 1)))) (gName 1) (tTest (tOp (rIn K false) (tOp (rIx K) (tVar 1) (tC (.int 0))) (tTup (tCons (tC (.str "twice")) (tCons (tC (.str "minus")) (tCons (tC (.str "plus")) (tCons (tC (.str "less")) tNil))))))) (tVar 1) [1]) tNil)))
theorem d_law_carrying {P : Program} {w : World} {K : PySem.W.Frag} {mg : Str → Option Value} {base : Heap} {f : Addr} {cdv : Value} {A : Around} {outer : List Env} {s : Shared} {H : Hp} {E : XK} (fr : Fr mg)
    (hg : (A.deeper (envOfC "_law_carrying" (defScope s_law_carrying) s.heap.objs.size f cdv)).guards = some []) (hr : Room 0 (A.deeper (envOfC "_law_carrying" (defScope s_law_carrying) s.heap.objs.size f cdv))) :
    PSs (cxOf CX0 P w K mg base N_law_carrying "_law_carrying" (defScope s_law_carrying) f cdv A outer s H E).nox (defBody s_law_carrying) (t_law_carrying K) :=
  (pss_one (ps_ret (pe_callB cr_ln (by rfl) fr.len (by decide +kernel) (pa_cons (pe_lc (own := [("row", 1)]) rfl sc_law_carrying.nd (pi_seq (pe_ix ix_seq (pv 0) pe_int (fun _ _ => rfl))) (blkOk_by (own := [("row", 1)]) (N := N_law_carrying) (sc := defScope s_law_carrying) (by decide +kernel)) (fun _ _ _ _ _ => (pg_name (i := 1) sc_law_carrying.nd rfl (Or.inl rfl))) (fun _ _ _ _ _ => (pts_one (pt_cmpR op_in_seq (pe_ix ix_seq (pv 1) pe_int (fun _ _ => rfl)) (pe_tup (pa_cons pe_str (pa_cons pe_str (pa_cons pe_str (pa_cons pe_str pa_nil))))) (by rfl)))) (fun _ _ _ _ _ => (pv 1))) pa_nil))))

abbrev s_law : Stmt := top 36
abbrev N_law : List Str := ["script", "urn", "turn", "many", "engine", "small", "known", "told", "due"]
theorem sc_law : FnScope N_law ["script"] (defScope s_law) := ⟨rfl, rfl, rfl, by decide +kernel, rfl, by decide +kernel, by decide +kernel⟩
def t_law (K : PySem.W.Frag) (C : Addr) : TS :=
    (tSeq (tAsg (tCall (sp_law_urn K) [] E0 (tCons (tVar 0) tNil)) (gName 1))
    (tSeq (tFor (iRng1 (tCons (tC (.int 3)) tNil)) (gName 2)
      (tSeq (tAsg (tCall (sp_law_pick K) [] E0 (tCons (tVar 1) (tCons (tLst (tCons (tC (.int 0)) (tCons (tC (.int 1)) (tCons (tC (.int 1)) (tCons (tC (.int 2)) (tCons (tC (.int 2)) tNil)))))) tNil))) (gName 3))
    (tSeq (tAsg (tCall (sp_law_called K) [] E0 (tCons (tVar 1) (tCons (tCall (sp_law_setter K) [] E0 (tCons (tVar 1) (tCons (tVar 3) (tCons (tOp (rAddU K) (tC (.int 1)) (tCall (sp_law_draw K) [] E0 (tCons (tVar 1) (tCons (tC (.int 5)) tNil)))) tNil)))) tNil))) (gName 4))
    (tSeq (tPar3 5 6 7 (tCons (tCall (sp_law_small K) [] E0 (tCons (tVar 4) tNil)) (tCons (tCB (rReprU K) (tCons (tVar 4) tNil)) (tCons (tCall (sp_law_few K) [] E0 (tCons (tVar 4) tNil)) tNil))))
    (tSeq (tIfS (tOr (tTest (tOp (rNeD K) (tOp (rIx K) (tVar 7) (tC (.int 0))) (tC (.str "told")))) (tNot (tB (tCall (sp_law_is_recipe K) [] E0 (tCons (tOp (rIx K) (tVar 7) (tC (.int 1))) (tCons (tVar 3) (tCons (tC (.str "sums")) tNil))))))) (tRet (tC (.bl false))) tNext)
    (tSeq (tAsg (tBits (tOp (rI0 fun i j => .int (i - j)) (tCB (rLn K) (tCons (tOp (rIx K) (tVar 5) (tC (.int 1))) tNil)) (tC (.int 1)))) (gName 8))
    (tSeq (tIfS (tOr (tTest (tOp (rNeD K) (tCall (sp_law_carrying K) [] E0 (tCons (tOp (rIx K) (tVar 7) (tC (.int 1))) tNil)) (tVar 8))) (tTest (tOp (rNeD K) (tCB (rReprU K) (tCons (tCallS (sp_fewest K C) (WE (fun _ _ _ _ => False)) (tCons (tVar 4) tNil)) tNil)) (tCB (rReprU K) (tCons (tVar 8) tNil))))) (tRet (tC (.bl false))) tNext)
    (tIfS (tOr (tNot (tB (tCall (sp_law_is_told K) [] E0 (tCons (tVar 5) (tCons (tOp (rIx K) (tVar 7) (tC (.int 1))) (tCons (tC (.int 6000)) tNil)))))) (tOr (tTest (tOp (rNeD K) (tCB (rReprU K) (tCons (tCall (sp_law_few K) [] E0 (tCons (tVar 4) tNil)) tNil)) (tCB (rReprU K) (tCons (tVar 7) tNil)))) (tTest (tOp (rNeD K) (tCB (rReprU K) (tCons (tVar 4) tNil)) (tVar 6))))) (tRet (tC (.bl false))) tNext))))))))
    (tRet (tC (.bl true)))))
theorem d_law {P : Program} {w : World} {K : PySem.W.Frag} {mg : Str → Option Value} {base : Heap} {f : Addr} {cdv : Value} {A : Around} {outer : List Env} {s : Shared} {H : Hp} {E : XK} (fr : Fr mg) {C : Addr} (C_law_urn : Cal P w K mg base "_law_urn" ["script"] 1 (sp_law_urn K)) (C_law_pick : Cal P w K mg base "_law_pick" ["urn", "some"] 2 (sp_law_pick K)) (C_law_called : Cal P w K mg base "_law_called" ["urn", "engine"] 3 (sp_law_called K)) (C_law_setter : Cal P w K mg base "_law_setter" ["urn", "many", "states"] 3 (sp_law_setter K)) (C_law_small : Cal P w K mg base "_law_small" ["engine"] 1 (sp_law_small K)) (C_law_few : Cal P w K mg base "_law_few" ["engine"] 7 (sp_law_few K)) (C_law_is_recipe : Cal P w K mg base "_law_is_recipe" ["value", "many", "shelf"] 2 (sp_law_is_recipe K)) (C_law_carrying : Cal P w K mg base "_law_carrying" ["recipe"] 1 (sp_law_carrying K)) (C_law_is_told : Cal P w K mg base "_law_is_told" ["engine", "recipe", "bound"] 3 (sp_law_is_told K)) (C_law_draw : Cal P w K mg base "_law_draw" ["urn", "many"] 1 (sp_law_draw K)) (C_fewest : CalX P w K mg base "fewest" ["machine"] 5 (sp_fewest K C))
    (hg : (A.deeper (envOfC "law" (defScope s_law) s.heap.objs.size f cdv)).guards = some []) (hr : Room 7 (A.deeper (envOfC "law" (defScope s_law) s.heap.objs.size f cdv))) :
    PSs (cxOf CX0 P w K mg base N_law "law" (defScope s_law) f cdv A outer s H E).nox (defBody s_law) (t_law K C) :=
  (pss_cons (ps_set (i := 1) sc_law.nd rfl (Or.inl rfl) (pe_cal C_law_urn hg (hr.mono (by decide)) (by rfl) (pa_cons (pv 0) pa_nil)))
    (pss_cons (ps_for PassesOwn.never rfl (pi_range1 (by rfl) fr.range (pa_cons pe_int pa_nil)) (pg_name (i := 2) sc_law.nd rfl (Or.inl rfl))
      (pss_cons (ps_set (i := 3) sc_law.nd rfl (Or.inl rfl) (pe_cal C_law_pick hg (hr.mono (by decide)) (by rfl) (pa_cons (pv 1) (pa_cons (pe_lst (pa_cons pe_int (pa_cons pe_int (pa_cons pe_int (pa_cons pe_int (pa_cons pe_int pa_nil)))))) pa_nil))))
    (pss_cons (ps_set (i := 4) sc_law.nd rfl (Or.inl rfl) (pe_cal C_law_called hg (hr.mono (by decide)) (by rfl) (pa_cons (pv 1) (pa_cons (pe_cal C_law_setter hg (hr.mono (by decide)) (by rfl) (pa_cons (pv 1) (pa_cons (pv 3) (pa_cons (pe_op op_addU pe_int (pe_cal C_law_draw hg (hr.mono (by decide)) (by rfl) (pa_cons (pv 1) (pa_cons pe_int pa_nil)))) pa_nil)))) pa_nil))))
    (pss_cons (ps_par3 (i := 5) (j := 6) (l := 7) (by rfl) sc_law.nd rfl rfl rfl (by decide) (by decide) (by decide) rfl rfl rfl (pa_cons (pe_cal C_law_small hg (hr.mono (by decide)) (by rfl) (pa_cons (pv 4) pa_nil)) (pa_cons (pe_callB (call_reprU hg hr.units) (by rfl) fr.repr (by decide +kernel) (pa_cons (pv 4) pa_nil)) (pa_cons (pe_cal C_law_few hg (hr.mono (by decide)) (by rfl) (pa_cons (pv 4) pa_nil)) pa_nil))) (by rfl))
    (pss_cons (ps_if (PW.pt (pw_or (pt_cmpR (op_neD hr.units) (pe_ix ix_seq (pv 7) pe_int (fun _ _ => rfl)) pe_str (nomark _)) (pw_or1 (pt_not (pt_val (pe_cal C_law_is_recipe hg (hr.mono (by decide)) (by rfl) (pa_cons (pe_ix ix_seq (pv 7) pe_int (fun _ _ => rfl)) (pa_cons (pv 3) (pa_cons pe_str pa_nil))))))))) (pss_one (ps_ret pe_bl)) pss_nil)
    (pss_cons (ps_set (i := 8) sc_law.nd rfl (Or.inl rfl) (pe_bits (pe_op op_sub (pe_callB cr_ln (by rfl) fr.len (by decide +kernel) (pa_cons (pe_ix ix_seq (pv 5) pe_int (fun _ _ => rfl)) pa_nil)) pe_int)))
    (pss_cons (ps_if (PW.pt (pw_or (pt_cmpR (op_neD hr.units) (pe_cal C_law_carrying hg (hr.mono (by decide)) (by rfl) (pa_cons (pe_ix ix_seq (pv 7) pe_int (fun _ _ => rfl)) pa_nil)) (pv 8) (nomark _)) (pw_or1 (pt_cmpR (op_neD hr.units) (pe_callB (call_reprU hg hr.units) (by rfl) fr.repr (by decide +kernel) (pa_cons (pe_calX C_fewest (fun σ => passAt takes0 σ) hg (hr.mono (by decide)) (by rfl) (pa_cons (pv 4) pa_nil)) pa_nil)) (pe_callB (call_reprU hg hr.units) (by rfl) fr.repr (by decide +kernel) (pa_cons (pv 8) pa_nil)) (nomark _))))) (pss_one (ps_ret pe_bl)) pss_nil)
    (pss_one (ps_if (PW.pt (pw_or (pt_not (pt_val (pe_cal C_law_is_told hg (hr.mono (by decide)) (by rfl) (pa_cons (pv 5) (pa_cons (pe_ix ix_seq (pv 7) pe_int (fun _ _ => rfl)) (pa_cons pe_int pa_nil)))))) (pw_or (pt_cmpR (op_neD hr.units) (pe_callB (call_reprU hg hr.units) (by rfl) fr.repr (by decide +kernel) (pa_cons (pe_cal C_law_few hg (hr.mono (by decide)) (by rfl) (pa_cons (pv 4) pa_nil)) pa_nil)) (pe_callB (call_reprU hg hr.units) (by rfl) fr.repr (by decide +kernel) (pa_cons (pv 7) pa_nil)) (nomark _)) (pw_or1 (pt_cmpR (op_neD hr.units) (pe_callB (call_reprU hg hr.units) (by rfl) fr.repr (by decide +kernel) (pa_cons (pv 4) pa_nil)) (pv 6) (nomark _)))))) (pss_one (ps_ret pe_bl)) pss_nil)))))))))
    (pss_one (ps_ret pe_bl))))

abbrev s_Sheet___init__ : Stmt := inClass (top 9) 0
abbrev N_Sheet___init__ : List Str := ["self", "many"]
theorem sc_Sheet___init__ : FnScope N_Sheet___init__ ["self", "many"] (defScope s_Sheet___init__) := ⟨rfl, rfl, rfl, by decide +kernel, rfl, by decide +kernel, by decide +kernel⟩
def t_Sheet___init__ (P : Program) (w : World) (K : PySem.W.Frag) (cSheet : Addr) : TS :=
    (tSeq (sFld K (tVar 0) (tVar 1) "inputs")
    (tSeq (sFld K (tVar 0) (tLst tNil) "rows")
    (sFld K (tVar 0) (tNNew P w) "numbers")))
theorem d_Sheet___init__ {P : Program} {w : World} {K : PySem.W.Frag} {mg : Str → Option Value} {base : Heap} {f : Addr} {cdv : Value} {A : Around} {outer : List Env} {s : Shared} {H : Hp} {E : XK} (fr : Fr mg) {cSheet : Addr} (cl_Sheet : Cls K cSheet) (g_Sheet : mg "Sheet" = some (.ref cSheet))
    (hg : (A.deeper (envOfC "Sheet.__init__" (defScope s_Sheet___init__) s.heap.objs.size f cdv)).guards = some []) (hr : Room 0 (A.deeper (envOfC "Sheet.__init__" (defScope s_Sheet___init__) s.heap.objs.size f cdv))) :
    PSs (cxOf CX0 P w K mg base N_Sheet___init__ "Sheet.__init__" (defScope s_Sheet___init__) f cdv A outer s H E).nox (defBody s_Sheet___init__) (t_Sheet___init__ P w K cSheet) :=
  (pss_cons (ps_fld (pv 0) (pv 1) rfl)
    (pss_cons (ps_fld (pv 0) (pe_lst pa_nil) rfl)
    (pss_one (ps_fld (pv 0) pe_dnewN rfl))))

abbrev s_Sheet_put : Stmt := inClass (top 9) 1
abbrev N_Sheet_put : List Str := ["self", "row"]
theorem sc_Sheet_put : FnScope N_Sheet_put ["self", "row"] (defScope s_Sheet_put) := ⟨rfl, rfl, rfl, by decide +kernel, rfl, by decide +kernel, by decide +kernel⟩
def t_Sheet_put (P : Program) (w : World) (K : PySem.W.Frag) (cSheet : Addr) : TS :=
    (tSeq (tIfS (tB (tNNotIn P w K (tVar 1) (tFld K (tVar 0) "numbers"))) (tSeq (sNPut P w K (tFld K (tVar 0) "numbers") (tVar 1) (tOp (rAddU K) (tFld K (tVar 0) "inputs") (tCB (rLn K) (tCons (tFld K (tVar 0) "rows") tNil))))
    (tDrop (tBM K "list" rAppend (tFld K (tVar 0) "rows") (tCons (tVar 1) tNil)))) tNext)
    (tRet (tNGet P w K (tFld K (tVar 0) "numbers") (tVar 1))))
theorem d_Sheet_put {P : Program} {w : World} {K : PySem.W.Frag} {mg : Str → Option Value} {base : Heap} {f : Addr} {cdv : Value} {A : Around} {outer : List Env} {s : Shared} {H : Hp} {E : XK} (fr : Fr mg) {cSheet : Addr} (cl_Sheet : Cls K cSheet) (g_Sheet : mg "Sheet" = some (.ref cSheet))
    (hg : (A.deeper (envOfC "Sheet.put" (defScope s_Sheet_put) s.heap.objs.size f cdv)).guards = some []) (hr : Room 0 (A.deeper (envOfC "Sheet.put" (defScope s_Sheet_put) s.heap.objs.size f cdv))) :
    PSs (cxOf CX0 P w K mg base N_Sheet_put "Sheet.put" (defScope s_Sheet_put) f cdv A outer s H E).nox (defBody s_Sheet_put) (t_Sheet_put P w K cSheet) :=
  (pss_cons (ps_if (pt_cmp (pc_nnotin (hu10 hr) (pv 1) (pe_fld (pv 0) rfl))) (pss_cons (ps_nput (hu10 hr) (pe_fld (pv 0) rfl) (pv 1) (pe_op op_addU (pe_fld (pv 0) rfl) (pe_callB cr_ln (by rfl) fr.len (by decide +kernel) (pa_cons (pe_fld (pv 0) rfl) pa_nil))) rfl)
    (pss_one (ps_expr (pe_bm PySem.F.plainAttrs_list PySem.F.slot_list_append PySem.F.type_list_append mt_append (pe_fld (pv 0) rfl) (pa_cons (pv 1) pa_nil))))) pss_nil)
    (pss_one (ps_ret (pe_nget (hu10 hr) (pe_fld (pv 0) rfl) (pv 1) (fun _ _ => rfl)))))

abbrev s_Sheet_put_all : Stmt := inClass (top 9) 2
abbrev N_Sheet_put_all : List Str := ["self", "word", "operands", "found", "operand"]
theorem sc_Sheet_put_all : FnScope N_Sheet_put_all ["self", "word", "operands"] (defScope s_Sheet_put_all) := ⟨rfl, rfl, rfl, by decide +kernel, rfl, by decide +kernel, by decide +kernel⟩
def t_Sheet_put_all (P : Program) (w : World) (K : PySem.W.Frag) (cSheet : Addr) : TS :=
    (tSeq (tIfS (tTest (tOp (rEqD K) (tVar 2) (tLst tNil))) (tRet (tMeth cSheet "put" (sp_Sheet_put P w K cSheet) [] E0 (tVar 0) (tCons (tIf (tTest (tOp (rEqD K) (tVar 1) (tC (.str "and")))) (tTup (tCons (tC (.str "ones")) tNil)) (tTup (tCons (tC (.str "zero")) tNil))) tNil))) tNext)
    (tSeq (tAsg (tOp (rIx K) (tVar 2) (tC (.int 0))) (gName 3))
    (tSeq (tFor (iSeq K (tSl (rSlU K) (tVar 2) (tPart (tC (.int 1))) tNoPart)) (gName 4)
      (tAsg (tMeth cSheet "put" (sp_Sheet_put P w K cSheet) [] E0 (tVar 0) (tCons (tTup (tCons (tVar 1) (tCons (tVar 3) (tCons (tVar 4) tNil)))) tNil)) (gName 3)))
    (tRet (tVar 3)))))
theorem d_Sheet_put_all {P : Program} {w : World} {K : PySem.W.Frag} {mg : Str → Option Value} {base : Heap} {f : Addr} {cdv : Value} {A : Around} {outer : List Env} {s : Shared} {H : Hp} {E : XK} (fr : Fr mg) {cSheet : Addr} (cl_Sheet : Cls K cSheet) (g_Sheet : mg "Sheet" = some (.ref cSheet)) (C_Sheet_put : CalM P w K mg base cSheet "put" ["self", "row"] 1 (sp_Sheet_put P w K cSheet))
    (hg : (A.deeper (envOfC "Sheet.put_all" (defScope s_Sheet_put_all) s.heap.objs.size f cdv)).guards = some []) (hr : Room 1 (A.deeper (envOfC "Sheet.put_all" (defScope s_Sheet_put_all) s.heap.objs.size f cdv))) :
    PSs (cxOf CX0 P w K mg base N_Sheet_put_all "Sheet.put_all" (defScope s_Sheet_put_all) f cdv A outer s H E).nox (defBody s_Sheet_put_all) (t_Sheet_put_all P w K cSheet) :=
  (pss_cons (ps_if (pt_cmpR (op_eqD hr.units) (pv 2) (pe_lst pa_nil) (nomark _)) (pss_one (ps_ret (pe_calM cl_Sheet C_Sheet_put hg (hr.mono (by decide)) (pv 0) (pa_cons (pe_ifExp (pt_cmpR (op_eqD hr.units) (pv 1) pe_str (nomark _)) (pe_tup (pa_cons pe_str pa_nil)) (pe_tup (pa_cons pe_str pa_nil))) pa_nil)))) pss_nil)
    (pss_cons (ps_set (i := 3) sc_Sheet_put_all.nd rfl (Or.inl rfl) (pe_ix ix_seq (pv 2) pe_int (fun _ _ => rfl)))
    (pss_cons (ps_for PassesOwn.never rfl (pi_seq (pe_slice sl_U (pv 2) (po_some pe_int) po_none)) (pg_name (i := 4) sc_Sheet_put_all.nd rfl (Or.inl rfl))
      (pss_one (ps_set (i := 3) sc_Sheet_put_all.nd rfl (Or.inl rfl) (pe_calM cl_Sheet C_Sheet_put hg (hr.mono (by decide)) (pv 0) (pa_cons (pe_tup (pa_cons (pv 1) (pa_cons (pv 3) (pa_cons (pv 4) pa_nil)))) pa_nil)))))
    (pss_one (ps_ret (pv 3))))))

abbrev s_Sheet_chosen : Stmt := inClass (top 9) 3
abbrev N_Sheet_chosen : List Str := ["self", "operand", "bit"]
theorem sc_Sheet_chosen : FnScope N_Sheet_chosen ["self", "operand", "bit"] (defScope s_Sheet_chosen) := ⟨rfl, rfl, rfl, by decide +kernel, rfl, by decide +kernel, by decide +kernel⟩
def t_Sheet_chosen (P : Program) (w : World) (K : PySem.W.Frag) (cSheet : Addr) : TS :=
    (tRet (tIf (tTest (tOp (rEqD K) (tVar 2) (tC (.int 1)))) (tVar 1) (tMeth cSheet "put" (sp_Sheet_put P w K cSheet) [] E0 (tVar 0) (tCons (tTup (tCons (tC (.str "not")) (tCons (tVar 1) tNil))) tNil))))
theorem d_Sheet_chosen {P : Program} {w : World} {K : PySem.W.Frag} {mg : Str → Option Value} {base : Heap} {f : Addr} {cdv : Value} {A : Around} {outer : List Env} {s : Shared} {H : Hp} {E : XK} (fr : Fr mg) {cSheet : Addr} (cl_Sheet : Cls K cSheet) (g_Sheet : mg "Sheet" = some (.ref cSheet)) (C_Sheet_put : CalM P w K mg base cSheet "put" ["self", "row"] 1 (sp_Sheet_put P w K cSheet))
    (hg : (A.deeper (envOfC "Sheet.chosen" (defScope s_Sheet_chosen) s.heap.objs.size f cdv)).guards = some []) (hr : Room 1 (A.deeper (envOfC "Sheet.chosen" (defScope s_Sheet_chosen) s.heap.objs.size f cdv))) :
    PSs (cxOf CX0 P w K mg base N_Sheet_chosen "Sheet.chosen" (defScope s_Sheet_chosen) f cdv A outer s H E).nox (defBody s_Sheet_chosen) (t_Sheet_chosen P w K cSheet) :=
  (pss_one (ps_ret (pe_ifExp (pt_cmpR (op_eqD hr.units) (pv 2) pe_int (nomark _)) (pv 1) (pe_calM cl_Sheet C_Sheet_put hg (hr.mono (by decide)) (pv 0) (pa_cons (pe_tup (pa_cons pe_str (pa_cons (pv 1) pa_nil))) pa_nil)))))

abbrev s_Sheet_told : Stmt := inClass (top 9) 4
abbrev N_Sheet_told : List Str := ["self", "operand"]
theorem sc_Sheet_told : FnScope N_Sheet_told ["self", "operand"] (defScope s_Sheet_told) := ⟨rfl, rfl, rfl, by decide +kernel, rfl, by decide +kernel, by decide +kernel⟩
def t_Sheet_told (P : Program) (w : World) (K : PySem.W.Frag) (cSheet : Addr) : TS :=
    (tSeq (tIfS (tTest (tOp (rNeD K) (tVar 1) (tOp (rI0 fun i j => .int (i - j)) (tOp (rAddU K) (tFld K (tVar 0) "inputs") (tCB (rLn K) (tCons (tFld K (tVar 0) "rows") tNil))) (tC (.int 1))))) (tDrop (tMeth cSheet "put" (sp_Sheet_put P w K cSheet) [] E0 (tVar 0) (tCons (tTup (tCons (tC (.str "or")) (tCons (tVar 1) (tCons (tVar 1) tNil)))) tNil))) tNext)
    (tRet (tTup (tCons (tFld K (tVar 0) "inputs") (tCons (tCB (rTupOf K) (tCons (tFld K (tVar 0) "rows") tNil)) tNil)))))
theorem d_Sheet_told {P : Program} {w : World} {K : PySem.W.Frag} {mg : Str → Option Value} {base : Heap} {f : Addr} {cdv : Value} {A : Around} {outer : List Env} {s : Shared} {H : Hp} {E : XK} (fr : Fr mg) {cSheet : Addr} (cl_Sheet : Cls K cSheet) (g_Sheet : mg "Sheet" = some (.ref cSheet)) (C_Sheet_put : CalM P w K mg base cSheet "put" ["self", "row"] 1 (sp_Sheet_put P w K cSheet))
    (hg : (A.deeper (envOfC "Sheet.told" (defScope s_Sheet_told) s.heap.objs.size f cdv)).guards = some []) (hr : Room 1 (A.deeper (envOfC "Sheet.told" (defScope s_Sheet_told) s.heap.objs.size f cdv))) :
    PSs (cxOf CX0 P w K mg base N_Sheet_told "Sheet.told" (defScope s_Sheet_told) f cdv A outer s H E).nox (defBody s_Sheet_told) (t_Sheet_told P w K cSheet) :=
  (pss_cons (ps_if (pt_cmpR (op_neD hr.units) (pv 1) (pe_op op_sub (pe_op op_addU (pe_fld (pv 0) rfl) (pe_callB cr_ln (by rfl) fr.len (by decide +kernel) (pa_cons (pe_fld (pv 0) rfl) pa_nil))) pe_int) (nomark _)) (pss_one (ps_expr (pe_calM cl_Sheet C_Sheet_put hg (hr.mono (by decide)) (pv 0) (pa_cons (pe_tup (pa_cons pe_str (pa_cons (pv 1) (pa_cons (pv 1) pa_nil)))) pa_nil)))) pss_nil)
    (pss_one (ps_ret (pe_tup (pa_cons (pe_fld (pv 0) rfl) (pa_cons (pe_callTy cr_tupOf (by rfl) fr.tuple (by decide +kernel) (pa_cons (pe_fld (pv 0) rfl) pa_nil)) pa_nil))))))

end SS
namespace SS
open PySem PySem.Spec PyProof.Rows L2 DL
section
variable {K : PySem.W.Frag} {B0 H0 : Hp} {c : Cn} {env : List Sl} {ta tb tx : TE} {m q x : Nat} {rows : List Row}
/-! ### machines read -/
theorem step_at (ok : Ok m rows) (hq : q < rows.length) (hx : x < 2 ^ m) : ∃ r, rows[q]? = some r ∧ r[x]? = some (stepR rows q x) ∧ stp rows q x < rows.length ∧ out rows q x < 2 := by
  have h1 : rows[q]? = some rows[q] := List.getElem?_eq_getElem hq
  have hm : rows[q] ∈ rows := List.getElem_mem hq
  have hl := ok.len _ hm
  have h2 : rows[q][x]? = some (rows[q][x]'(by omega)) := List.getElem?_eq_getElem (by omega)
  have e : stepR rows q x = rows[q][x]'(by omega) := by
    unfold stepR
    rw [h1]
    show (rows[q][x]?).getD (0, 0) = _
    rw [h2] <;> rfl
  refine ⟨_, h1, by rw [h2, e], ?_⟩
  have := ok.st _ hm _ (List.getElem_mem (by omega : x < rows[q].length))
  show (stepR rows q x).1 < _ ∧ (stepR rows q x).2 < 2
  rw [e]
  exact this
theorem stp_lt (ok : Ok m rows) (hq : q < rows.length) (hx : x < 2 ^ m) : stp rows q x < rows.length := by
  obtain ⟨_, _, _, h, _⟩ := step_at ok hq hx
  exact h
theorem rch_lt (ok : Ok m rows) (h : Rch m rows q) : q < rows.length := by
  induction h with
  | zero => exact ok.pos
  | step _ hx ih => exact stp_lt ok ih hx
theorem ev_rows (h : Ev c ta env (encM m rows)) : Ev c (tOp (rIx c.K) ta (tC (.int 1))) env (encT rows) := ev_ixT (ds := [nt m, encT rows]) h ev_int rfl
theorem ev_many (h : Ev c ta env (encM m rows)) : Ev c (tOp (rIx c.K) ta (tC (.int 0))) env (nt m) := ev_ixT (ds := [nt m, encT rows]) h ev_int rfl
theorem ev_fst {p : Nat × Nat} (h : Ev c ta env (encP p)) : Ev c (tOp (rIx c.K) ta (tC (.int 0))) env (nt p.1) := ev_ixT (ds := [nt p.1, nt p.2]) h ev_int rfl
theorem ev_snd {p : Nat × Nat} (h : Ev c ta env (encP p)) : Ev c (tOp (rIx c.K) ta (tC (.int 1))) env (nt p.2) := ev_ixT (ds := [nt p.1, nt p.2]) h ev_int rfl
theorem ev_row {r : Row} (h1 : Ev c ta env (encT rows)) (h2 : Ev c tb env (nt q)) (h : rows[q]? = some r) : Ev c (tOp (rIx c.K) ta tb) env (encR r) := ev_ixTm (f := encR) h1 h2 h
theorem ev_cell {r : Row} {p : Nat × Nat} (h1 : Ev c ta env (encR r)) (h2 : Ev c tb env (nt x)) (h : r[x]? = some p) : Ev c (tOp (rIx c.K) ta tb) env (encP p) := ev_ixTm (f := encP) h1 h2 h
theorem ev_lenT' (h : Ev c ta env (encT rows)) : Ev c (tCB (rLn c.K) (tCons ta tNil)) env (nt rows.length) := by
  have := ev_lenT (ds := rows.map encR) h
  rw [List.length_map] at this
  exact this
/-! ### tables of states that are seen -/
def fsT (fs : List Nat) : Tb := fs.map fun (q : Nat) => ((q : Int), .bool true)
theorem look_fsT (fs : List Nat) (q : Nat) : (lookI (fsT fs) (q : Int)).isSome = decide (q ∈ fs) := by
  induction fs with
  | nil => rfl
  | cons a r ih =>
    show (lookI (((a : Int), .bool true) :: fsT r) (q : Int)).isSome = _
    rw [lookI_cons]
    by_cases e : a = q
    · subst e
      rw [if_pos rfl, decide_eq_true List.mem_cons_self]
      rfl
    · rw [if_neg (by show ¬ (a : Int) = (q : Int); omega), ih]
      refine decide_eq_decide.mpr ⟨List.mem_cons_of_mem _, fun h => ?_⟩
      rcases List.mem_cons.mp h with z | z
      · exact absurd z.symm e
      · exact z
theorem put_fsT {fs : List Nat} {q : Nat} (h : q ∉ fs) : putI (fsT fs) (q : Int) (.bool true) = fsT (fs ++ [q]) := by
  unfold putI
  rw [hasI_look, look_fsT, decide_eq_false h, if_neg (by decide)]
  unfold fsT
  rw [List.map_append]
  rfl
theorem nodup_le : ∀ {n : Nat} {l : List Nat}, l.Nodup → (∀ x ∈ l, x < n) → l.length ≤ n
  | 0, l, _, h => by
    cases l with
    | nil => exact Nat.le_refl _
    | cons a r => exact absurd (h a List.mem_cons_self) (Nat.not_lt_zero _)
  | n + 1, l, hn, h => by
    by_cases hm : n ∈ l
    · have h1 : (l.erase n).length ≤ n := nodup_le (hn.erase n) fun x hx => by
        have h2 := (hn.mem_erase_iff).mp hx
        have := h x h2.2
        have := h2.1
        omega
      rw [List.length_erase_of_mem hm] at h1
      omega
    · have := nodup_le hn fun x hx => by
        have := h x hx
        have : x ≠ n := fun e => hm (by rw [← e]; exact hx)
        show x < n
        omega
      omega
/-- what the search keeps: fs is seen, gs waits -/
structure Srch (m : Nat) (rows : List Row) (fs gs : List Nat) (q : Option Nat) : Prop where
  nd : fs.Nodup
  rch : ∀ a ∈ fs, Rch m rows a
  zero : 0 ∈ fs
  sub : ∀ a ∈ gs, a ∈ fs
  cl : ∀ a ∈ fs, a ∉ gs → some a ≠ q → ∀ x, x < 2 ^ m → stp rows a x ∈ fs
theorem Srch.few {m : Nat} {rows : List Row} {fs gs : List Nat} {q : Option Nat} (ok : Ok m rows) (s : Srch m rows fs gs q) : fs.length ≤ rows.length := nodup_le s.nd fun x hx => rch_lt ok (s.rch x hx)
theorem h_come_to (a : AM) (ok : Ok a.1 a.2) : HS (pureCn K B0 H0) (t_come_to K) [.dat (encT a.2), .no, .no, .no, .no] { rt := fun d => ∃ ns, d = encL ns ∧ IsSt a.1 a.2 ns, nx := fun _ => ∃ ns, (PyData.none : D) = encL ns ∧ IsSt a.1 a.2 ns } := by
  obtain ⟨m, rows⟩ := a
  dsimp only at ok ⊢
  refine hs_seq (hs_setO (eno_disp1 (n := 0) ev_int ev_bl) fun p u ⟨d, eu, ed⟩ => ?_)
  subst eu ed
  refine hs_seq (hs_setN (en_lst (ea_cons (ev_nat 0) ea_nil) (by show 1 ≤ 1000000; decide)) fun p2 ds eds => ?_)
  subst eds
  refine hs_seq (hs_while (fun M env => ∃ fs gs ds x y, env = [.dat (encT rows), .ow p (.idc (mkI (fsT fs))), .own p2 ds, x, y] ∧ ds = gs.map nt ∧ Srch m rows fs gs none ∧ 2 * (rows.length - fs.length) + gs.length = M ∧ M ≤ 2 * rows.length) (2 * (rows.length - 1) + 1)
    ⟨[0], [0], _, _, _, rfl, rfl, ⟨by decide, fun a h => by rw [List.mem_singleton.mp h]; exact .zero, List.mem_singleton.mpr rfl, fun a h => h, fun a h1 h2 => absurd h1 h2⟩, rfl, by have := ok.pos; omega⟩ ?_)
  rintro M env ⟨fs, gs, ds, x, y, rfl, hds, sr, hM, hMM⟩
  refine ⟨!ds.isEmpty, et_truL (es_var (.inr ⟨p2, rfl⟩)), fun hb => ?_, fun hb => ?_⟩
  · -- a turn
    have hne : gs ≠ [] := by
      rintro rfl
      rw [hds] at hb
      cases hb
    obtain ⟨q, hq⟩ : ∃ q, gs[gs.length - 1]? = some q := ⟨gs[gs.length - 1]'(by have := List.length_pos_iff.mpr hne; omega), List.getElem?_eq_getElem (by have := List.length_pos_iff.mpr hne; omega)⟩
    have hqg : q ∈ gs := List.mem_of_getElem? hq
    have hqf := sr.sub q hqg
    have hql := rch_lt ok (sr.rch q hqf)
    have hlast : gs = gs.dropLast ++ [q] := by
      have h1 := List.dropLast_concat_getLast hne
      have h2 : gs.getLast hne = q := by
        rw [List.getLast_eq_getElem]
        exact Option.some.inj ((List.getElem?_eq_getElem _).symm.trans hq)
      rw [h2] at h1
      exact h1.symm
    obtain ⟨r, hr⟩ : ∃ r, rows[q]? = some r := ⟨rows[q], List.getElem?_eq_getElem hql⟩
    have hrm : r ∈ rows := List.mem_of_getElem? hr
    have hrl := ok.len r hrm
    refine hs_seq (hs_popSet (x := nt q) rfl (by rw [hds, List.length_map, List.getElem?_map, hq]; rfl) ?_)
    have hdl : ds.dropLast = gs.dropLast.map nt := by rw [hds, List.map_dropLast]
    have hlen : gs.dropLast.length + 1 = gs.length := by rw [List.length_dropLast]; have := List.length_pos_iff.mpr hne; omega
    refine hs_for (ds := r.map encP) (fun k env => k ≤ r.length ∧ ∃ fs gs ds y, env = [.dat (encT rows), .ow p (.idc (mkI (fsT fs))), .own p2 ds, .dat (nt q), y] ∧ ds = gs.map nt ∧ Srch m rows fs gs (some q) ∧ q ∈ fs ∧ (∀ pr ∈ r.take k, pr.1 ∈ fs) ∧ 2 * (rows.length - fs.length) + gs.length < M)
      (ei_seqT (ev_row (ev_var rfl) (ev_var rfl) hr)) ⟨Nat.zero_le _, fs, gs.dropLast, _, _, rfl, hdl, ⟨sr.nd, sr.rch, sr.zero, fun a h => sr.sub a (List.dropLast_subset _ h), fun a h1 h2 h3 => sr.cl a h1 (fun h => by
        rw [hlast] at h
        rcases List.mem_append.mp h with h | h
        · exact h2 h
        · exact h3 (by rw [List.mem_singleton.mp h])) (by simp)⟩, hqf, fun pr h => by simp at h, by omega⟩ ?_ ?_
    · rintro k d env hd ⟨hk0, fs, gs, ds, y, rfl, hds, sr, hqf, htk, hlt⟩
      obtain ⟨pr, hpr, rfl⟩ := map_at hd
      have hk := (List.getElem?_eq_some_iff.mp hpr).1
      have hst : pr.1 = stp rows q k := by
        unfold stp stepR
        rw [hr]
        show _ = ((r[k]?).getD (0, 0)).1
        rw [hpr]
        rfl
      have hkm : k < 2 ^ m := by omega
      refine ⟨_, _, hg_name, ?_⟩
      refine hs_if (et_B (ev_dNotIn (m := fsT fs) (.inr ⟨p, rfl⟩) (ev_fst (p := pr) (ev_var rfl)))) (fun hb => ?_) (fun hb => ?_)
      · rw [look_fsT, Bool.not_eq_true', decide_eq_false_iff_not] at hb
        have hfew := sr.few ok
        refine hs_seq (hs_dPut (m := fsT fs) rfl ev_bl (ev_fst (p := pr) (ev_var rfl)) (by unfold fsT; rw [List.length_map]; have := ok.few; omega) fun d e => ?_)
        subst e
        rw [put_fsT hb]
        have hnew : Rch m rows pr.1 := by rw [hst]; exact .step (sr.rch q hqf) hkm
        have nd' : (fs ++ [pr.1]).Nodup := List.nodup_append.mpr ⟨sr.nd, by simp, fun a ha b hb' e => hb (by rw [← List.mem_singleton.mp hb', ← e]; exact ha)⟩
        have hlen' : (fs ++ [pr.1]).length ≤ rows.length := nodup_le nd' fun x hx => by
          rcases List.mem_append.mp hx with hx | hx
          · exact rch_lt ok (sr.rch x hx)
          · rw [List.mem_singleton.mp hx]; exact rch_lt ok hnew
        rw [List.length_append, List.length_singleton] at hlen'
        have hgl : ds.length < 1000000 := by
          have := ok.few
          rw [hds, List.length_map]
          omega
        refine hs_app (i := 2) rfl hgl (ev_fst (p := pr) (ev_var rfl)) fun d e => ?_
        subst e
        refine ⟨hk, fs ++ [pr.1], gs ++ [pr.1], _, _, rfl, by rw [hds, List.map_append]; rfl, ⟨nd', fun a ha => ?_, List.mem_append_left _ sr.zero, fun a ha => ?_, fun a h1 h2 h3 x hx => ?_⟩, List.mem_append_left _ hqf, fun pr' h => ?_, ?_⟩
        · rcases List.mem_append.mp ha with ha | ha
          · exact sr.rch a ha
          · rw [List.mem_singleton.mp ha]; exact hnew
        · rcases List.mem_append.mp ha with ha | ha
          · exact List.mem_append_left _ (sr.sub a ha)
          · exact List.mem_append_right _ ha
        · refine List.mem_append_left _ (sr.cl a ?_ (fun h => h2 (List.mem_append_left _ h)) h3 x hx)
          rcases List.mem_append.mp h1 with h1 | h1
          · exact h1
          · exact absurd (List.mem_append_right _ h1) h2
        · rw [List.take_add_one, hpr] at h
          rcases List.mem_append.mp h with h | h
          · exact List.mem_append_left _ (htk _ h)
          · have : pr' = pr := by simpa using h
            rw [this]
            exact List.mem_append_right _ (List.mem_singleton.mpr rfl)
        · rw [List.length_append, List.length_append, List.length_singleton]
          show 2 * (rows.length - (fs.length + 1)) + (gs.length + 1) < M
          omega
      · rw [look_fsT, Bool.not_eq_false', decide_eq_true_eq] at hb
        refine hs_next ⟨hk, fs, gs, ds, _, rfl, hds, sr, hqf, fun pr' h => ?_, hlt⟩
        rw [List.take_add_one, hpr] at h
        rcases List.mem_append.mp h with h | h
        · exact htk _ h
        · have : pr' = pr := by simpa using h
          rw [this]
          exact hb
    · rintro env ⟨_, fs, gs, ds, y, rfl, hds, sr, hqf, htk, hlt⟩
      rw [List.length_map, List.take_length] at htk
      refine ⟨_, hlt, fs, gs, ds, _, _, rfl, hds, ⟨sr.nd, sr.rch, sr.zero, sr.sub, fun a h1 h2 _ x hx => ?_⟩, rfl, by omega⟩
      by_cases e : a = q
      · subst e
        obtain ⟨r', g1, g2, _⟩ := step_at ok hql hx
        rw [hr] at g1
        cases g1
        exact htk _ (List.mem_of_getElem? g2)
      · exact sr.cl a h1 h2 (fun z => e (Option.some.inj z)) x hx
  · have hge : gs = [] := by
      rw [hds] at hb
      cases gs with
      | nil => rfl
      | cons a r => cases hb
    subst hge
    have hfew := sr.few ok
    refine hs_ret (ev_newP (en_sortedD (m := fsT fs) (.inr ⟨p, rfl⟩) (by unfold fsT; rw [List.length_map]; have := ok.few; omega))) fun d ⟨ls, e1, ys, e2, hp, hs⟩ => ?_
    have hk : (fsT fs).map (·.1) = fs.map fun (q : Nat) => (q : Int) := by unfold fsT; rw [List.map_map]; rfl
    rw [hk] at hp
    have hpos : ∀ y ∈ ys, 0 ≤ y := fun y hy => by
      obtain ⟨q, _, rfl⟩ := List.mem_map.mp (hp.mem_iff.mp hy)
      omega
    have hn : (ys.map Int.toNat).Perm fs := by
      have h1 := hp.map Int.toNat
      rw [List.map_map] at h1
      have : (Int.toNat ∘ fun (q : Nat) => (q : Int)) = id := funext fun q => Int.toNat_natCast q
      rw [this, List.map_id] at h1
      exact h1
    refine ⟨ys.map Int.toNat, ?_, hn.nodup_iff.mpr sr.nd, fun q => ?_⟩
    · rw [e1, e2]
      unfold encL
      rw [List.map_map]
      congr 1
      refine List.map_congr_left fun y hy => ?_
      show PyData.int y = PyData.int ((y.toNat : Nat) : Int)
      rw [Int.toNat_of_nonneg (hpos y hy)]
    · rw [hn.mem_iff]
      refine ⟨sr.rch q, fun h => ?_⟩
      induction h with
      | zero => exact sr.zero
      | step _ hx ih => exact sr.cl _ ih (List.not_mem_nil) (by simp) _ hx
end
end SS
namespace SS
open PySem PySem.Spec PyProof.Rows L2 DL
section
variable {K : PySem.W.Frag} {B0 H0 : Hp} {c : Cn} {env : List Sl} {ta tb tx : TE} {m q x : Nat} {rows : List Row}
abbrev nk (d : List D) : NestedKey := nkOf (.tuple d)
def posN : List (List D) → NestedKey → Option Nat
  | [], _ => none
  | d :: r, k => if nk d = k then some 0 else (posN r k).map (· + 1)
theorem posN_some : ∀ {ks : List (List D)} {k : NestedKey} {i : Nat}, posN ks k = some i → ∃ d, ks[i]? = some d ∧ nk d = k
  | [], _, _, h => by cases h
  | d :: r, k, i, h => by
    unfold posN at h
    by_cases e : nk d = k
    · rw [if_pos e] at h
      cases h
      exact ⟨d, rfl, e⟩
    · rw [if_neg e] at h
      obtain ⟨j, hj, rfl⟩ := Option.map_eq_some_iff.mp h
      obtain ⟨d', g1, g2⟩ := posN_some hj
      exact ⟨d', by simpa using g1, g2⟩
theorem posN_none : ∀ {ks : List (List D)} {k : NestedKey}, posN ks k = none → ∀ d ∈ ks, nk d ≠ k
  | [], _, _, _, hd => (List.not_mem_nil hd).elim
  | d :: r, k, h, d', hd => by
    unfold posN at h
    by_cases e : nk d = k
    · rw [if_pos e] at h
      cases h
    · rw [if_neg e] at h
      rcases List.mem_cons.mp hd with z | z
      · rw [z]; exact e
      · exact posN_none (Option.map_eq_none_iff.mp h) d' z
def knF (ks : List (List D)) (n : Nat) : Tn := (ks.zipIdx n).map fun p => (.tuple p.1, nt p.2)
theorem look_kn : ∀ (ks : List (List D)) (n : Nat) (k : NestedKey), lookN (knF ks n) k = (posN ks k).map fun i => nt (n + i)
  | [], _, _ => rfl
  | d :: r, n, k => by
    have h1 : knF (d :: r) n = (.tuple d, nt n) :: knF r (n + 1) := rfl
    rw [h1]
    unfold posN
    by_cases e : nk d = k
    · rw [if_pos e]
      unfold lookN
      rw [List.find?_cons, decide_eq_true e]
      rfl
    · rw [if_neg e]
      have ih := look_kn r (n + 1) k
      have h2 : lookN ((.tuple d, nt n) :: knF r (n + 1)) k = lookN (knF r (n + 1)) k := by
        unfold lookN
        rw [List.find?_cons, decide_eq_false e]
      rw [h2, ih, Option.map_map]
      congr 1
      funext i
      show nt (n + 1 + i) = nt (n + (i + 1))
      congr 1
      omega
theorem knF_app (ks : List (List D)) (d : List D) : knF (ks ++ [d]) 0 = knF ks 0 ++ [(.tuple d, nt ks.length)] := by
  unfold knF
  rw [List.zipIdx_append, List.map_append]
  congr 1
  show [((.tuple d : D), nt (0 + ks.length))] = _
  rw [Nat.zero_add]
theorem knF_len (ks : List (List D)) : (knF ks 0).length = ks.length := by
  unfold knF
  rw [List.length_map, List.length_zipIdx]
theorem knF_ok {ks : List (List D)} (h : ∀ d ∈ ks, hshAll d = true ∧ (nk d).depth ≤ 8) : HashOk (knF ks 0) := fun q hq => by
  obtain ⟨p, hp, rfl⟩ := List.mem_map.mp hq
  have := List.fst_mem_of_mem_zipIdx hp
  obtain ⟨h1, h2⟩ := h _ this
  exact ⟨by show hsh (.tuple p.1) = true; rw [hsh]; exact h1, h2⟩
theorem look_tabN {L : List Nat} {f : Nat → Nat} {q : Nat} (h : q ∈ L) : lookI (tabN L f) (q : Int) = some (nt (f q)) := by
  induction L with
  | nil => cases h
  | cons a r ih =>
    show lookI (((a : Int), nt (f a)) :: tabN r f) (q : Int) = _
    rw [lookI_cons]
    by_cases e : a = q
    · subst e
      rw [if_pos rfl]
    · rw [if_neg (by show ¬ (a : Int) = (q : Int); omega)]
      rcases List.mem_cons.mp h with z | z
      · exact absurd z.symm e
      · exact ih z
theorem look_tabN_none {L : List Nat} {f : Nat → Nat} {q : Nat} (h : q ∉ L) : lookI (tabN L f) (q : Int) = none := by
  induction L with
  | nil => rfl
  | cons a r ih =>
    show lookI (((a : Int), nt (f a)) :: tabN r f) (q : Int) = _
    rw [lookI_cons, if_neg (by show ¬ (a : Int) = (q : Int); intro z; exact h (by rw [show q = a by omega]; exact List.mem_cons_self))]
    exact ih fun z => h (List.mem_cons_of_mem _ z)
theorem put_tabN {L : List Nat} {f f' : Nat → Nat} {q : Nat} (h : q ∉ L) (e : ∀ p ∈ L, f' p = f p) : putI (tabN L f) (q : Int) (nt (f' q)) = tabN (L ++ [q]) f' := by
  unfold putI
  rw [hasI_look, look_tabN_none h, if_neg (by decide)]
  unfold tabN
  rw [List.map_append]
  congr 1
  refine List.map_congr_left fun p hp => ?_
  rw [e p hp]
theorem tabN_len (L : List Nat) (f : Nat → Nat) : (tabN L f).length = L.length := by unfold tabN; rw [List.length_map]
theorem tabN_vals (L : List Nat) (f : Nat → Nat) : (tabN L f).map (·.2) = (L.map fun q => (f q : Int)).map PyData.int := by unfold tabN; rw [List.map_map, List.map_map]; rfl
theorem nodup_inj {α : Type} {a : α} : ∀ {l : List α} {i j : Nat}, l.Nodup → l[i]? = some a → l[j]? = some a → i = j
  | [], i, j, _, h, _ => by simp at h
  | b :: r, 0, 0, _, _, _ => rfl
  | b :: r, 0, j + 1, h, h1, h2 => by
    obtain rfl : b = a := by simpa using h1
    exact absurd (List.mem_of_getElem? (by simpa using h2 : r[j]? = some b)) (List.nodup_cons.mp h).1
  | b :: r, i + 1, 0, h, h1, h2 => by
    obtain rfl : b = a := by simpa using h2
    exact absurd (List.mem_of_getElem? (by simpa using h1 : r[i]? = some b)) (List.nodup_cons.mp h).1
  | b :: r, i + 1, j + 1, h, h1, h2 => congrArg (· + 1) (nodup_inj (List.nodup_cons.mp h).2 (by simpa using h1) (by simpa using h2))
/-- what is kept while states are numbered -/
structure NumI (key : Nat → List D) (L : List Nat) (ks : List (List D)) (f : Nat → Nat) : Prop where
  at_ : ∀ q ∈ L, ∃ d, ks[f q]? = some d ∧ nk d = nk (key q)
  uni : ∀ (i j : Nat) (a b : List D), ks[i]? = some a → ks[j]? = some b → nk a = nk b → i = j
  on : ∀ i, i < ks.length → ∃ q ∈ L, f q = i
  ok : ∀ d ∈ ks, hshAll d = true ∧ (nk d).depth ≤ 8
theorem h_numbered {P : Program} {w : World} (a : AK) (hp : OkK a) : HS (pureCn K B0 H0) (t_numbered P w K) [.dat (encL a.states), .dat (.dict (mkI a.m)), .no, .no, .no, .no]
    { rt := fun d => ∃ f, d = .dict (mkI (tabN a.states f)) ∧ Numb a.states f (fun p q => nkOf (.tuple (a.key p)) = nkOf (.tuple (a.key q))), nx := fun _ => ∃ f, (PyData.none : D) = .dict (mkI (tabN a.states f)) ∧ Numb a.states f (fun p q => nkOf (.tuple (a.key p)) = nkOf (.tuple (a.key q))) } := by
  obtain ⟨states, mt, key⟩ := a
  obtain ⟨hnd, hfew, hlook, hhs⟩ := hp
  dsimp only at hnd hfew hlook hhs ⊢
  refine hs_seq (hs_par (eas_ow (eno_dnewN (P := P) (w := w)) (eas_ow eno_dnewK eas_nil)) fun ss ⟨p1, u1, r, e1, eu1, p2, u2, r2, e2, eu2, e3⟩ => ?_)
  subst e1 eu1 e2 eu2 e3
  refine ⟨_, _, rfl, ?_⟩
  refine hs_seq (hs_for (ds := states.map nt) (fun k env => k ≤ states.length ∧ ∃ kn tb x y, env = [.dat (encL states), .dat (.dict (mkI mt)), .ow p1 (.ndc P w kn), .ow p2 (.idc tb), x, y] ∧ ∃ ks f, kn = knF ks 0 ∧ tb = mkI (tabN (states.take k) f) ∧ NumI key (states.take k) ks f ∧ ks.length ≤ k)
    (ei_seqL (ev_var rfl)) ⟨Nat.zero_le _, [], mkI [], _, _, rfl, [], fun _ => 0, rfl, rfl, ⟨fun q h => by simp at h, fun i j a b h => by simp at h, fun i h => absurd h (Nat.not_lt_zero _), fun d h => (List.not_mem_nil h).elim⟩, Nat.le_refl _⟩ ?_ ?_)
  · rintro k d env hd ⟨_, kn, tb, x, y, rfl, ks, f, rfl, rfl, ni, hkl⟩
    obtain ⟨q, hq, rfl⟩ := map_at hd
    have hk := (List.getElem?_eq_some_iff.mp hq).1
    have hqm := List.mem_of_getElem? hq
    obtain ⟨hs1, hs2⟩ := hhs q hqm
    have hsh1 : hsh (.tuple (key q)) = true := by rw [hsh]; exact hs1
    have hqL : q ∉ states.take k := fun h => by
      obtain ⟨i, hi⟩ := List.mem_iff_getElem?.mp h
      have hi' := (List.getElem?_eq_some_iff.mp hi).1
      rw [List.length_take] at hi'
      rw [List.getElem?_take_of_lt (by omega)] at hi
      have := nodup_inj hnd hi hq
      omega
    have htk : states.take (k + 1) = states.take k ++ [q] := by rw [List.take_add_one, hq]; rfl
    refine ⟨_, _, hg_name, ?_⟩
    refine hs_seq (hs_setV (ev_dGet (m := mt) (.inl rfl) (ev_var rfl) (hlook q hqm)) ?_)
    -- behind the test: the key is known
    have rest : ∀ (ks' : List (List D)) (v : Nat), NumI key (states.take k) ks f → (∃ d, ks'[v]? = some d ∧ nk d = nk (key q)) → (∀ (i j : Nat) (a b : List D), ks'[i]? = some a → ks'[j]? = some b → nk a = nk b → i = j) →
        (∀ d ∈ ks', hshAll d = true ∧ (nk d).depth ≤ 8) → (∀ p ∈ states.take k, ∃ d, ks'[f p]? = some d ∧ nk d = nk (key p)) → (∀ i, i < ks'.length → i = v ∨ ∃ p ∈ states.take k, f p = i) → ks'.length ≤ k + 1 →
        HS (pureCn K B0 H0) (sDPut (tVar 3) (tVar 4) (tNGet P w K (tVar 2) (tVar 5))) [.dat (encL states), .dat (.dict (mkI mt)), .ow p1 (.ndc P w (knF ks' 0)), .ow p2 (.idc (mkI (tabN (states.take k) f))), .dat (nt q), .dat (.tuple (key q))]
          { nx := fun env => k + 1 ≤ states.length ∧ ∃ kn tb x y, env = [.dat (encL states), .dat (.dict (mkI mt)), .ow p1 (.ndc P w kn), .ow p2 (.idc tb), x, y] ∧ ∃ ks f, kn = knF ks 0 ∧ tb = mkI (tabN (states.take (k + 1)) f) ∧ NumI key (states.take (k + 1)) ks f ∧ ks.length ≤ k + 1 } := by
      intro ks' v _ hv huni hok hat hon hl
      have hpos : posN ks' (nk (key q)) = some v := by
        obtain ⟨d, hd1, hd2⟩ := hv
        cases hp : posN ks' (nk (key q)) with
        | none => exact absurd hd2 (posN_none hp d (List.mem_of_getElem? hd1))
        | some i =>
          obtain ⟨d', g1, g2⟩ := posN_some hp
          rw [huni i v d' d g1 hd1 (g2.trans hd2.symm)]
      refine hs_dPut (m := tabN (states.take k) f) (j := 3) rfl (ev_nGet (d := nt v) rfl (knF_ok hok) (ev_var rfl) hsh1 hs2 (by rw [look_kn]; show (posN ks' (nk (key q))).map _ = _; rw [hpos]; show some (nt (0 + v)) = _; rw [Nat.zero_add])) (ev_var rfl) (by rw [tabN_len, List.length_take]; omega) fun d e => ?_
      subst e
      have hf' : putI (tabN (states.take k) f) (q : Int) (nt v) = tabN (states.take (k + 1)) (fun p => if p = q then v else f p) := by
        rw [htk]
        have := put_tabN (f := f) (f' := fun p => if p = q then v else f p) hqL fun p hp => by
          rw [if_neg]
          rintro rfl
          exact hqL hp
        simp only [if_pos] at this
        exact this
      rw [hf']
      refine ⟨hk, _, _, _, _, rfl, ks', _, rfl, rfl, ⟨fun p hp => ?_, huni, fun i hi => ?_, hok⟩, hl⟩
      · rw [htk] at hp
        rcases List.mem_append.mp hp with h | h
        · rw [if_neg (by rintro rfl; exact hqL h)]
          exact hat p h
        · rw [List.mem_singleton.mp h, if_pos rfl]
          exact hv
      · rw [htk]
        rcases hon i hi with h | ⟨p, h1, h2⟩
        · exact ⟨q, List.mem_append_right _ (List.mem_singleton.mpr rfl), by rw [if_pos rfl, h]⟩
        · exact ⟨p, List.mem_append_left _ h1, by rw [if_neg (by rintro rfl; exact hqL h1)]; exact h2⟩
    refine hs_seq (hs_if (et_B (ev_nNotIn (j := 2) rfl (knF_ok ni.ok) (ev_var rfl) hsh1 hs2)) (fun hb => ?_) (fun hb => ?_))
    · rw [look_kn] at hb
      have hpn : posN ks (nk (key q)) = none := by
        cases hp : posN ks (nk (key q)) with
        | none => rfl
        | some i =>
          have hp' : posN ks (nkOf (.tuple (key q))) = some i := hp
          rw [hp'] at hb
          cases hb
      refine hs_nPut (j := 2) rfl (knF_ok ni.ok) (ev_nLen rfl (knF_ok ni.ok)) (ev_var rfl) hsh1 hs2 (by rw [look_kn]; show (posN ks (nk (key q))).map _ = _; rw [hpn]; rfl) (by rw [knF_len]; omega) fun d e => ?_
      subst e
      have hkn : knF ks 0 ++ [((.tuple (key q) : D), nt (knF ks 0).length)] = knF (ks ++ [key q]) 0 := by rw [knF_app, knF_len]
      rw [hkn]
      refine HS.imp (rest (ks ++ [key q]) ks.length ni ⟨key q, List.getElem?_concat_length, rfl⟩ (fun i j a b h1 h2 he => ?_) (fun d hd => ?_) (fun p hp => ?_) (fun i hi => ?_) (by rw [List.length_append, List.length_singleton]; omega)) (fun _ h => h) (fun _ z => z.elim) (fun _ z => z.elim) (fun _ z => z.elim)
      · have key2 : ∀ (i : Nat) (a : List D), (ks ++ [key q])[i]? = some a → (ks[i]? = some a) ∨ (i = ks.length ∧ a = key q) := fun i a h => by
          by_cases hi : i < ks.length
          · rw [List.getElem?_append_left hi] at h
            exact .inl h
          · have h3 := (List.getElem?_eq_some_iff.mp h).1
            rw [List.length_append, List.length_singleton] at h3
            have : i = ks.length := by omega
            subst this
            rw [List.getElem?_concat_length] at h
            exact .inr ⟨rfl, (Option.some.inj h).symm⟩
        rcases key2 i a h1 with h1 | ⟨h1, h1'⟩ <;> rcases key2 j b h2 with h2 | ⟨h2, h2'⟩
        · exact ni.uni i j a b h1 h2 he
        · exact absurd (he.trans (by rw [h2'])) (posN_none hpn a (List.mem_of_getElem? h1))
        · exact absurd (he.symm.trans (by rw [h1'])) (posN_none hpn b (List.mem_of_getElem? h2))
        · rw [h1, h2]
      · rcases List.mem_append.mp hd with h | h
        · exact ni.ok d h
        · rw [List.mem_singleton.mp h]; exact ⟨hs1, hs2⟩
      · obtain ⟨d, g1, g2⟩ := ni.at_ p hp
        exact ⟨d, by rw [List.getElem?_append_left (List.getElem?_eq_some_iff.mp g1).1]; exact g1, g2⟩
      · rw [List.length_append, List.length_singleton] at hi
        by_cases h : i < ks.length
        · exact .inr (ni.on i h)
        · exact .inl (by omega)
    · rw [look_kn] at hb
      obtain ⟨v, hv⟩ : ∃ v, posN ks (nk (key q)) = some v := by
        cases hp : posN ks (nk (key q)) with
        | none =>
          have hp' : posN ks (nkOf (.tuple (key q))) = none := hp
          rw [hp'] at hb
          cases hb
        | some i => exact ⟨i, rfl⟩
      exact hs_next (HS.imp (rest ks v ni (posN_some hv) ni.uni ni.ok ni.at_ (fun i hi => .inr (ni.on i hi)) (by omega)) (fun _ h => h) (fun _ z => z.elim) (fun _ z => z.elim) (fun _ z => z.elim))
  · rintro env ⟨_, kn, tb, x, y, rfl, ks, f, rfl, rfl, ni, _⟩
    rw [List.length_map, List.take_length] at *
    refine hs_freezeD (i := 3) rfl (hs_ret (ev_var rfl) fun d e => ⟨f, e, ⟨fun p q hp hq => ⟨fun h => ?_, fun h => ?_⟩, fun q hq j hj => ?_⟩⟩)
    · obtain ⟨d1, g1, g2⟩ := ni.at_ p hp
      obtain ⟨d2, g3, g4⟩ := ni.at_ q hq
      rw [h, g3] at g1
      cases g1
      exact g2.symm.trans g4
    · obtain ⟨d1, g1, g2⟩ := ni.at_ p hp
      obtain ⟨d2, g3, g4⟩ := ni.at_ q hq
      exact ni.uni _ _ _ _ g1 g3 (g2.trans (h.trans g4.symm))
    · obtain ⟨d1, g1, _⟩ := ni.at_ q hq
      have := (List.getElem?_eq_some_iff.mp g1).1
      exact ni.on j (by omega)
end
end SS
namespace SS
open PySem PySem.Spec PyProof.Rows L2 DL
section
variable {m : Nat} {rows : List Row}
theorem Ek.refl : ∀ (n p : Nat), Ek m rows n p p
  | 0, _ => trivial
  | n + 1, p => fun x _ => ⟨rfl, Ek.refl n _⟩
theorem Ek.symm : ∀ {n p q : Nat}, Ek m rows n p q → Ek m rows n q p
  | 0, _, _, _ => trivial
  | n + 1, _, _, h => fun x hx => ⟨(h x hx).1.symm, Ek.symm (h x hx).2⟩
theorem Ek.trans : ∀ {n p q r : Nat}, Ek m rows n p q → Ek m rows n q r → Ek m rows n p r
  | 0, _, _, _, _, _ => trivial
  | n + 1, _, _, _, h, h' => fun x hx => ⟨(h x hx).1.trans (h' x hx).1, Ek.trans (h x hx).2 (h' x hx).2⟩
theorem Ek.down : ∀ {n p q : Nat}, Ek m rows (n + 1) p q → Ek m rows n p q
  | 0, _, _, _ => trivial
  | n + 1, _, _, h => fun x hx => ⟨(h x hx).1, Ek.down (h x hx).2⟩
theorem Eqv.refl (p : Nat) : Eqv m rows p p := fun n => Ek.refl n p
theorem Eqv.symm {p q : Nat} (h : Eqv m rows p q) : Eqv m rows q p := fun n => (h n).symm
theorem Eqv.trans {p q r : Nat} (h : Eqv m rows p q) (h' : Eqv m rows q r) : Eqv m rows p r := fun n => (h n).trans (h' n)
theorem Eqv.step {p q x : Nat} (h : Eqv m rows p q) (hx : x < 2 ^ m) : Eqv m rows (stp rows p x) (stp rows q x) := fun n => ((h (n + 1)) x hx).2
theorem Eqv.out {p q x : Nat} (h : Eqv m rows p q) (hx : x < 2 ^ m) : out rows p x = out rows q x := ((h 1) x hx).1
/-- where one more letter tells nothing new, all has been told -/
theorem ek_stop {R : Nat → Prop} (cl : ∀ q x, R q → x < 2 ^ m → R (stp rows q x)) {n : Nat} (h : ∀ p q, R p → R q → Ek m rows n p q → Ek m rows (n + 1) p q) {p q : Nat} (hp : R p) (hq : R q) : Ek m rows n p q ↔ Eqv m rows p q := by
  refine ⟨fun e => ?_, fun e => e n⟩
  have up : ∀ k p q, R p → R q → Ek m rows n p q → Ek m rows (n + k) p q := by
    intro k
    induction k with
    | zero => intro p q _ _ e; exact e
    | succ k ih =>
      intro p q hp hq e
      have e1 := h p q hp hq e
      exact fun x hx => ⟨(e1 x hx).1, ih _ _ (cl p x hp hx) (cl q x hq hx) (e1 x hx).2⟩
  intro k
  rcases Nat.le_total k n with hk | hk
  · obtain ⟨j, rfl⟩ := Nat.exists_eq_add_of_le hk
    clear h up cl hk
    induction j with
    | zero => exact e
    | succ j ih => exact ih (Ek.down (by rw [Nat.add_assoc]; exact e))
  · obtain ⟨j, rfl⟩ := Nat.exists_eq_add_of_le hk
    exact up j p q hp hq e
/-! ### finer numbers -/
/-- f numbers the states by 0 .. n - 1 -/
structure Onto (L : List Nat) (f : Nat → Nat) (n : Nat) : Prop where
  lt : ∀ q ∈ L, f q < n
  on : ∀ j, j < n → ∃ p ∈ L, f p = j
theorem pick_list {L : List Nat} {f g : Nat → Nat} (href : ∀ p q, p ∈ L → q ∈ L → g p = g q → f p = f q) : ∀ n, (∀ j, j < n → ∃ p ∈ L, f p = j) →
    ∃ rs : List Nat, rs.length = n ∧ (∀ r ∈ rs, r ∈ L ∧ f r < n) ∧ (rs.map g).Nodup ∧ ∀ j, j < n → ∃ r ∈ rs, f r = j
  | 0, _ => ⟨[], rfl, fun r h => (List.not_mem_nil h).elim, List.nodup_nil, fun j h => absurd h (Nat.not_lt_zero _)⟩
  | n + 1, h => by
    obtain ⟨rs, h1, h2, h3, h4⟩ := pick_list href n fun j hj => h j (by omega)
    obtain ⟨p, hp, e⟩ := h n (Nat.lt_succ_self n)
    refine ⟨p :: rs, by rw [List.length_cons, h1], fun r hr => ?_, ?_, fun j hj => ?_⟩
    · rcases List.mem_cons.mp hr with z | z
      · rw [z]; exact ⟨hp, by omega⟩
      · have := h2 r z; exact ⟨this.1, by omega⟩
    · rw [List.map_cons]
      refine List.nodup_cons.mpr ⟨fun z => ?_, h3⟩
      obtain ⟨r, hr, er⟩ := List.mem_map.mp z
      have := href r p (h2 r hr).1 hp er
      have := (h2 r hr).2
      omega
    · by_cases z : j = n
      · exact ⟨p, List.mem_cons_self, by rw [e, z]⟩
      · obtain ⟨r, hr, er⟩ := h4 j (by omega)
        exact ⟨r, List.mem_cons_of_mem _ hr, er⟩
theorem finer_le {L : List Nat} {f g : Nat → Nat} {n k : Nat} (hf : Onto L f n) (hg : ∀ q ∈ L, g q < k) (href : ∀ p q, p ∈ L → q ∈ L → g p = g q → f p = f q) : n ≤ k := by
  obtain ⟨rs, h1, h2, h3, _⟩ := pick_list href n hf.on
  have := nodup_le h3 fun x hx => by
    obtain ⟨r, hr, rfl⟩ := List.mem_map.mp hx
    exact hg r (h2 r hr).1
  rw [List.length_map, h1] at this
  exact this
theorem finer_same {L : List Nat} {f g : Nat → Nat} {n k : Nat} (hf : Onto L f n) (hg : ∀ q ∈ L, g q < k) (href : ∀ p q, p ∈ L → q ∈ L → g p = g q → f p = f q) (hk : k ≤ n) {p q : Nat} (hp : p ∈ L) (hq : q ∈ L) (e : f p = f q) : g p = g q := by
  obtain ⟨rs, h1, h2, h3, h4⟩ := pick_list href n hf.on
  have key : ∀ a ∈ L, ∃ r ∈ rs, g a = g r := fun a ha => by
    by_cases hm : g a ∈ rs.map g
    · obtain ⟨r, hr, er⟩ := List.mem_map.mp hm
      exact ⟨r, hr, er.symm⟩
    · have := nodup_le (List.nodup_cons.mpr ⟨hm, h3⟩) fun x hx => by
        rcases List.mem_cons.mp hx with z | z
        · rw [z]; exact hg a ha
        · obtain ⟨r, hr, rfl⟩ := List.mem_map.mp z
          exact hg r (h2 r hr).1
      rw [List.length_cons, List.length_map, h1] at this
      omega
  obtain ⟨r1, g1, g2⟩ := key p hp
  obtain ⟨r2, g3, g4⟩ := key q hq
  have e1 := href p r1 hp (h2 r1 g1).1 g2
  have e2 := href q r2 hq (h2 r2 g3).1 g4
  have e3 : f r1 = f r2 := by rw [← e1, ← e2, e]
  -- r1 and r2 stand for one number
  have uni : ∀ (rs : List Nat), (rs.map g).Nodup → (∀ j, j < rs.length → ∃ r ∈ rs, f r = j) → (∀ r ∈ rs, f r < rs.length) → ∀ a ∈ rs, ∀ b ∈ rs, f a = f b → a = b := by
    intro rs hn hon hlt a ha b hb hab
    -- the numbers of rs are as many as rs
    have hperm : ∀ (l : List Nat), (∀ j, j < l.length → j ∈ l) → l.Nodup := by
      intro l hl
      have : ∀ (n : Nat) (l : List Nat), l.length ≤ n → (∀ j, j < n → j ∈ l) → l.Nodup := by
        intro n
        induction n with
        | zero =>
          intro l h _
          cases l with
          | nil => exact List.nodup_nil
          | cons a r => rw [List.length_cons] at h; omega
        | succ n ih =>
          intro l h hj
          have hm := hj n (Nat.lt_succ_self n)
          have hl1 : (l.erase n).length ≤ n := by rw [List.length_erase_of_mem hm]; omega
          have hn1 := ih (l.erase n) hl1 fun j hjn => (List.mem_erase_of_ne (by omega)).mpr (hj j (by omega))
          have hnot : n ∉ l.erase n := fun z => by
            have hl2 : ((l.erase n).erase n).length + 1 ≤ n := by
              rw [List.length_erase_of_mem z]
              have := List.length_pos_of_mem z
              omega
            have h3 : (List.range n).length ≤ ((l.erase n).erase n).length := by
              have hsub : ∀ (a b : List Nat), a.Nodup → (∀ x ∈ a, x ∈ b) → a.length ≤ b.length := by
                intro a
                induction a with
                | nil => intro b _ _; exact Nat.zero_le _
                | cons x r ihr =>
                  intro b hn hs
                  have h1 := ihr (b.erase x) (List.nodup_cons.mp hn).2 fun y hy => (List.mem_erase_of_ne (fun e => (List.nodup_cons.mp hn).1 (by rw [← e]; exact hy))).mpr (hs y (List.mem_cons_of_mem _ hy))
                  rw [List.length_erase_of_mem (hs x List.mem_cons_self)] at h1
                  have := List.length_pos_of_mem (hs x List.mem_cons_self)
                  rw [List.length_cons]
                  omega
              refine hsub _ _ List.nodup_range fun x hx => ?_
              have hx := List.mem_range.mp hx
              exact (List.mem_erase_of_ne (by omega)).mpr ((List.mem_erase_of_ne (by omega)).mpr (hj x (by omega)))
            rw [List.length_range] at h3
            omega
          exact (List.perm_cons_erase hm).nodup_iff.mpr (List.nodup_cons.mpr ⟨hnot, hn1⟩)
      exact this l.length l (Nat.le_refl _) hl
    have hnd := hperm (rs.map f) fun j hj => by
      rw [List.length_map] at hj
      obtain ⟨r, hr, e⟩ := hon j hj
      exact List.mem_map.mpr ⟨r, hr, e⟩
    obtain ⟨i, hi⟩ := List.mem_iff_getElem?.mp ha
    obtain ⟨j, hj⟩ := List.mem_iff_getElem?.mp hb
    have h5 : (rs.map f)[i]? = some (f a) := by rw [List.getElem?_map, hi]; rfl
    have h6 : (rs.map f)[j]? = some (f a) := by rw [List.getElem?_map, hj, hab]; rfl
    have := nodup_inj hnd h5 h6
    subst this
    rw [hi] at hj
    exact Option.some.inj hj
  have := uni rs h3 (by rw [h1]; exact h4) (fun r hr => by rw [h1]; exact (h2 r hr).2) r1 g1 r2 g3 e3
  rw [g2, g4, this]
/-! ### least machines say the same of the letters, and have as many states -/
theorem Reps.le {r1 r2 : List Nat} (h1 : Reps m rows r1) (h2 : Reps m rows r2) : r1.length ≤ r2.length := by
  -- each of r1 is like one of r2
  have key : ∀ l : List Nat, (∀ a ∈ l, Rch m rows a) → (∀ (i j a b : Nat), l[i]? = some a → l[j]? = some b → Eqv m rows a b → i = j) → ∃ js : List Nat, js.length = l.length ∧ js.Nodup ∧ (∀ j ∈ js, j < r2.length) ∧ ∀ j ∈ js, ∃ a ∈ l, ∃ b, r2[j]? = some b ∧ Eqv m rows a b := by
    intro l
    induction l with
    | nil => exact fun _ _ => ⟨[], rfl, List.nodup_nil, fun j h => (List.not_mem_nil h).elim, fun j h => (List.not_mem_nil h).elim⟩
    | cons a r ih =>
      intro hr hu
      obtain ⟨js, e1, e2, e3, e4⟩ := ih (fun a ha => hr a (List.mem_cons_of_mem _ ha)) fun i j a b h h' e => by
        have := hu (i + 1) (j + 1) a b (by simpa using h) (by simpa using h') e
        omega
      obtain ⟨b, hb, hab⟩ := h2.all a (hr a List.mem_cons_self)
      obtain ⟨j, hj⟩ := List.mem_iff_getElem?.mp hb
      refine ⟨j :: js, by rw [List.length_cons, List.length_cons, e1], List.nodup_cons.mpr ⟨fun z => ?_, e2⟩, fun k hk => ?_, fun k hk => ?_⟩
      · obtain ⟨a', ha', b', hb', hab'⟩ := e4 j z
        rw [hj] at hb'
        cases hb'
        obtain ⟨i, hi⟩ := List.mem_iff_getElem?.mp ha'
        have := hu 0 (i + 1) a a' rfl (by simpa using hi) (hab.trans hab'.symm)
        omega
      · rcases List.mem_cons.mp hk with z | z
        · rw [z]; exact (List.getElem?_eq_some_iff.mp hj).1
        · exact e3 k z
      · rcases List.mem_cons.mp hk with z | z
        · rw [z]; exact ⟨a, List.mem_cons_self, b, hj, hab⟩
        · obtain ⟨a', ha', r'⟩ := e4 k z
          exact ⟨a', List.mem_cons_of_mem _ ha', r'⟩
  obtain ⟨js, e1, e2, e3, _⟩ := key r1 h1.rch h1.uni
  have := nodup_le e2 e3
  omega
theorem count_uni {n n' : Nat} (h : Count m rows n) (h' : Count m rows n') : n = n' := by
  obtain ⟨r1, h1, e1⟩ := h
  obtain ⟨r2, h2, e2⟩ := h'
  have := h1.le h2
  have := h2.le h1
  omega
theorem Least.count {small : List Row} (h : Least m rows small) : Count m rows small.length := by
  obtain ⟨reps, h1, h2, _⟩ := h
  exact ⟨reps, h1, h2⟩
theorem tgs_at {small : List Row} {x i : Nat} (h : i < small.length) : (tgs small x)[i]? = some (stp small i x) := by
  unfold tgs
  rw [List.getElem?_map, List.getElem?_range h]
  rfl
theorem tgs_len (small : List Row) (x : Nat) : (tgs small x).length = small.length := by
  unfold tgs
  rw [List.length_map, List.length_range]
theorem isStay_iff {small : List Row} {x : Nat} : isStay small x = true ↔ ∀ i, i < small.length → stp small i x = i := by
  unfold isStay
  rw [decide_eq_true_eq]
  constructor
  · intro h i hi
    have := tgs_at (x := x) hi
    rw [h, List.getElem?_range hi] at this
    exact (Option.some.inj this).symm
  · intro h
    refine List.ext_getElem? fun i => ?_
    by_cases hi : i < small.length
    · rw [tgs_at hi, List.getElem?_range hi, h i hi]
    · rw [List.getElem?_eq_none (by rw [tgs_len]; omega), List.getElem?_eq_none (by rw [List.length_range]; omega)]
theorem isSet_iff {small : List Row} {x : Nat} : isSet small x = true ↔ ∀ i, i < small.length → stp small i x = stp small 0 x := by
  unfold isSet
  rw [decide_eq_true_eq]
  constructor
  · intro h i hi
    have := tgs_at (x := x) hi
    rw [h, List.getElem?_replicate, if_pos hi] at this
    exact (Option.some.inj this).symm
  · intro h
    refine List.ext_getElem? fun i => ?_
    by_cases hi : i < small.length
    · rw [tgs_at hi, List.getElem?_replicate, if_pos hi, h i hi]
    · rw [List.getElem?_eq_none (by rw [tgs_len]; omega), List.getElem?_eq_none (by rw [List.length_replicate]; omega)]
theorem Least.pos {small : List Row} (h : Least m rows small) : 0 < small.length := by
  obtain ⟨reps, h1, h2, _⟩ := h
  obtain ⟨a, ha, _⟩ := h1.all 0 .zero
  have := List.length_pos_of_mem ha
  omega
theorem Least.setter {small : List Row} (h : Least m rows small) : (∀ x, x < 2 ^ m → isStay small x = true ∨ isSet small x = true) ↔ Setter m rows := by
  have h0 := h.pos
  obtain ⟨reps, h1, h2, _, h4⟩ := h
  have at_ : ∀ i, i < small.length → ∃ a, reps[i]? = some a ∧ Rch m rows a := fun i hi => ⟨reps[i]'(by omega), List.getElem?_eq_getElem (by omega), h1.rch _ (List.getElem_mem _)⟩
  have idx : ∀ q, Rch m rows q → ∃ i a, i < small.length ∧ reps[i]? = some a ∧ Eqv m rows q a := fun q hq => by
    obtain ⟨a, ha, e⟩ := h1.all q hq
    obtain ⟨i, hi⟩ := List.mem_iff_getElem?.mp ha
    exact ⟨i, a, by rw [← h2]; exact (List.getElem?_eq_some_iff.mp hi).1, hi, e⟩
  have stay : ∀ x, x < 2 ^ m → (isStay small x = true ↔ ∀ q, Rch m rows q → Eqv m rows (stp rows q x) q) := fun x hx => by
    rw [isStay_iff]
    constructor
    · intro h q hq
      obtain ⟨i, a, hi, ha, e⟩ := idx q hq
      obtain ⟨b, hb, eb, _⟩ := h4 i a x ha hx
      rw [h i hi, ha] at hb
      cases hb
      exact ((e.step hx).trans eb.symm).trans e.symm
    · intro h i hi
      obtain ⟨a, ha, ra⟩ := at_ i hi
      obtain ⟨b, hb, eb, _⟩ := h4 i a x ha hx
      exact h1.uni _ _ _ _ hb ha (eb.trans (h a ra))
  have set_ : ∀ x, x < 2 ^ m → (isSet small x = true ↔ ∀ p q, Rch m rows p → Rch m rows q → Eqv m rows (stp rows p x) (stp rows q x)) := fun x hx => by
    rw [isSet_iff]
    constructor
    · intro h p q hp hq
      obtain ⟨i, a, hi, ha, ea⟩ := idx p hp
      obtain ⟨j, b, hj, hb, eb⟩ := idx q hq
      obtain ⟨a', ha', ea', _⟩ := h4 i a x ha hx
      obtain ⟨b', hb', eb', _⟩ := h4 j b x hb hx
      rw [h i hi] at ha'
      rw [h j hj, ha'] at hb'
      cases hb'
      exact ((ea.step hx).trans ea'.symm).trans (eb'.trans (eb.step hx).symm)
    · intro h i hi
      obtain ⟨a, ha, ra⟩ := at_ i hi
      obtain ⟨b, hb, rb⟩ := at_ 0 h0
      obtain ⟨a', ha', ea', _⟩ := h4 i a x ha hx
      obtain ⟨b', hb', eb', _⟩ := h4 0 b x hb hx
      exact h1.uni _ _ _ _ ha' hb' ((ea'.trans (h a b ra rb)).trans eb'.symm)
  constructor
  · intro h x hx
    rcases h x hx with z | z
    · exact .inl ((stay x hx).mp z)
    · exact .inr ((set_ x hx).mp z)
  · intro h x hx
    rcases h x hx with z | z
    · exact .inl ((stay x hx).mpr z)
    · exact .inr ((set_ x hx).mpr z)
end
/-! ### two machines that do the same -/
section
variable {m : Nat} {r1 r2 r3 : List Row}
theorem EkX.symm : ∀ {n p q : Nat}, EkX m r1 r2 n p q → EkX m r2 r1 n q p
  | 0, _, _, _ => trivial
  | n + 1, _, _, h => fun x hx => ⟨(h x hx).1.symm, EkX.symm (h x hx).2⟩
theorem EkX.trans : ∀ {n p q s : Nat}, EkX m r1 r2 n p q → EkX m r2 r3 n q s → EkX m r1 r3 n p s
  | 0, _, _, _, _, _ => trivial
  | n + 1, _, _, _, h, h' => fun x hx => ⟨(h x hx).1.trans (h' x hx).1, EkX.trans (h x hx).2 (h' x hx).2⟩
theorem Ek.x : ∀ {n p q : Nat}, Ek m r1 n p q → EkX m r1 r1 n p q
  | 0, _, _, _ => trivial
  | n + 1, _, _, h => fun x hx => ⟨(h x hx).1, Ek.x (h x hx).2⟩
theorem EkX.e : ∀ {n p q : Nat}, EkX m r1 r1 n p q → Ek m r1 n p q
  | 0, _, _, _ => trivial
  | n + 1, _, _, h => fun x hx => ⟨(h x hx).1, EkX.e (h x hx).2⟩
theorem EqX.symm {p q : Nat} (h : EqX m r1 r2 p q) : EqX m r2 r1 q p := fun n => (h n).symm
theorem EqX.trans {p q s : Nat} (h : EqX m r1 r2 p q) (h' : EqX m r2 r3 q s) : EqX m r1 r3 p s := fun n => (h n).trans (h' n)
theorem Eqv.x {p q : Nat} (h : Eqv m r1 p q) : EqX m r1 r1 p q := fun n => (h n).x
theorem EqX.e {p q : Nat} (h : EqX m r1 r1 p q) : Eqv m r1 p q := fun n => (h n).e
theorem EqX.step {p q x : Nat} (h : EqX m r1 r2 p q) (hx : x < 2 ^ m) : EqX m r1 r2 (stp r1 p x) (stp r2 q x) := fun n => ((h (n + 1)) x hx).2
theorem EqX.fw (h : EqX m r1 r2 0 0) {p : Nat} (hp : Rch m r1 p) : ∃ q, Rch m r2 q ∧ EqX m r1 r2 p q := by
  induction hp with
  | zero => exact ⟨0, .zero, h⟩
  | @step p x _ hx ih =>
    obtain ⟨q, hq, e⟩ := ih
    exact ⟨stp r2 q x, .step hq hx, e.step hx⟩
theorem EqX.count (h : EqX m r1 r2 0 0) {n : Nat} (hc : Count m r1 n) : Count m r2 n := by
  obtain ⟨reps, R, rfl⟩ := hc
  have hf : ∀ a : Nat, ∃ q, Rch m r1 a → Rch m r2 q ∧ EqX m r1 r2 a q := fun a => by
    by_cases ha : Rch m r1 a
    · obtain ⟨q, h1, h2⟩ := h.fw ha
      exact ⟨q, fun _ => ⟨h1, h2⟩⟩
    · exact ⟨0, fun z => absurd z ha⟩
  obtain ⟨f, hf⟩ := Classical.axiomOfChoice hf
  refine ⟨reps.map f, ⟨fun q hq => ?_, fun i j a b ha hb e => ?_, fun q hq => ?_⟩, by rw [List.length_map]⟩
  · obtain ⟨a, ha, rfl⟩ := List.mem_map.mp hq
    exact (hf a (R.rch a ha)).1
  · rw [List.getElem?_map] at ha hb
    obtain ⟨a', ha', rfl⟩ := Option.map_eq_some_iff.mp ha
    obtain ⟨b', hb', rfl⟩ := Option.map_eq_some_iff.mp hb
    have e1 := (hf a' (R.rch a' (List.mem_of_getElem? ha'))).2
    have e2 := (hf b' (R.rch b' (List.mem_of_getElem? hb'))).2
    exact R.uni i j a' b' ha' hb' ((e1.trans e.x).trans e2.symm).e
  · obtain ⟨p, hp, e⟩ := h.symm.fw hq
    obtain ⟨a, ha, ea⟩ := R.all p hp
    exact ⟨f a, List.mem_map.mpr ⟨a, ha, rfl⟩, ((e.trans ea.x).trans (hf a (R.rch a ha)).2).e⟩
theorem EqX.setter (h : EqX m r1 r2 0 0) (hs : Setter m r1) : Setter m r2 := fun x hx => by
  rcases hs x hx with k | k
  · refine .inl fun q hq => ?_
    obtain ⟨p, hp, e⟩ := h.symm.fw hq
    exact (((e.step hx).trans (k p hp).x).trans e.symm).e
  · refine .inr fun p q hp hq => ?_
    obtain ⟨p', hp', e⟩ := h.symm.fw hp
    obtain ⟨q', hq', e'⟩ := h.symm.fw hq
    exact (((e.step hx).trans (k p' q' hp' hq').x).trans (e'.step hx).symm).e
end
end SS
namespace SS
open PySem PySem.Spec PyProof.Rows L2 DL
section
variable {K : PySem.W.Frag} {B0 H0 : Hp} {c : Cn} {env : List Sl} {ta tb tx : TE} {m q x : Nat} {rows : List Row}
/-! ### tables of states -/
def tabD (L : List Nat) (F : Nat → D) : Tb := L.map fun (q : Nat) => ((q : Int), F q)
theorem look_tabD {L : List Nat} {F : Nat → D} {q : Nat} (h : q ∈ L) : lookI (tabD L F) (q : Int) = some (F q) := by
  induction L with
  | nil => cases h
  | cons a r ih =>
    show lookI (((a : Int), F a) :: tabD r F) (q : Int) = _
    rw [lookI_cons]
    by_cases e : a = q
    · subst e
      rw [if_pos rfl]
    · rw [if_neg (by show ¬ (a : Int) = (q : Int); omega)]
      rcases List.mem_cons.mp h with z | z
      · exact absurd z.symm e
      · exact ih z
theorem look_tabD_none {L : List Nat} {F : Nat → D} {q : Nat} (h : q ∉ L) : lookI (tabD L F) (q : Int) = none := by
  induction L with
  | nil => rfl
  | cons a r ih =>
    show lookI (((a : Int), F a) :: tabD r F) (q : Int) = _
    rw [lookI_cons, if_neg (by show ¬ (a : Int) = (q : Int); intro z; exact h (by rw [show q = a by omega]; exact List.mem_cons_self))]
    exact ih fun z => h (List.mem_cons_of_mem _ z)
theorem put_tabD {L : List Nat} {F : Nat → D} {q : Nat} (h : q ∉ L) : putI (tabD L F) (q : Int) (F q) = tabD (L ++ [q]) F := by
  unfold putI
  rw [hasI_look, look_tabD_none h, if_neg (by decide)]
  unfold tabD
  rw [List.map_append]
  rfl
theorem tabD_len (L : List Nat) (F : Nat → D) : (tabD L F).length = L.length := by unfold tabD; rw [List.length_map]
theorem tabOf_nodup {F : Nat → D} {f : D → Int × D} (hf : ∀ q : Nat, f (nt q) = ((q : Int), F q)) : ∀ {L : List Nat}, L.Nodup → tabOf f (L.map nt) = tabD L F := by
  have key : ∀ (L M : List Nat), (M ++ L).Nodup → (L.map nt).foldl (fun m d => putI m (f d).1 (f d).2) (tabD M F) = tabD (M ++ L) F := by
    intro L
    induction L with
    | nil => intro M _; rw [List.append_nil]; rfl
    | cons q r ih =>
      intro M hn
      have hq : q ∉ M := fun z => (List.nodup_append.mp hn).2.2 q z q List.mem_cons_self rfl
      rw [List.map_cons, List.foldl_cons, hf q]
      show List.foldl _ (putI (tabD M F) (q : Int) (F q)) _ = _
      rw [put_tabD hq, ih (M ++ [q]) (by rw [List.append_assoc]; exact hn), List.append_assoc]
      rfl
  intro L hn
  exact key L [] hn
theorem not_take {L : List Nat} {k q : Nat} (hn : L.Nodup) (hq : L[k]? = some q) : q ∉ L.take k := fun h => by
  obtain ⟨i, hi⟩ := List.mem_iff_getElem?.mp h
  have hi' := (List.getElem?_eq_some_iff.mp hi).1
  rw [List.length_take] at hi'
  rw [List.getElem?_take_of_lt (by omega)] at hi
  have := nodup_inj hn hi hq
  omega
/-! ### keys -/
theorem nkAll_nts : ∀ ns : List Nat, nkAll (ns.map nt) = ns.map fun (n : Nat) => NestedKey.num (n : Int)
  | [] => by rw [List.map_nil, nkAll]; rfl
  | n :: r => by
    have h : nkOf (nt n) = .num (n : Int) := by show nkOf (.int (n : Int)) = _; rw [nkOf]
    rw [List.map_cons, nkAll, nkAll_nts r, List.map_cons, h]
theorem num_inj : ∀ {a b : List Nat}, (a.map fun (n : Nat) => NestedKey.num (n : Int)) = (b.map fun (n : Nat) => NestedKey.num (n : Int)) → a = b
  | [], [], _ => rfl
  | [], _ :: _, h => by cases h
  | _ :: _, [], h => by cases h
  | x :: a, y :: b, h => by
    rw [List.map_cons, List.map_cons] at h
    injection h with h1 h2
    injection h1 with h1
    rw [num_inj h2, show x = y by omega]
theorem nk_nts {a b : List Nat} : nk (a.map nt) = nk (b.map nt) ↔ a = b := by
  unfold nk
  rw [nkOf, nkOf, nkAll_nts, nkAll_nts]
  exact ⟨fun h => num_inj (NestedKey.tup.inj h), fun h => by rw [h]⟩
theorem nk_two {i j : Nat} {a b : List Nat} : nk [nt i, .tuple (a.map nt)] = nk [nt j, .tuple (b.map nt)] ↔ i = j ∧ a = b := by
  have h1 : ∀ (i : Nat) (a : List Nat), nk [nt i, .tuple (a.map nt)] = .tup [.num (i : Int), nk (a.map nt)] := fun i a => by
    have h : nkOf (nt i) = .num (i : Int) := by show nkOf (.int (i : Int)) = _; rw [nkOf]
    unfold nk
    rw [nkOf, nkAll, nkAll, nkAll, h]
  rw [h1, h1]
  constructor
  · intro h
    have h := NestedKey.tup.inj h
    injection h with h2 h3
    injection h2 with h2
    injection h3 with h3
    exact ⟨by omega, nk_nts.mp h3⟩
  · rintro ⟨rfl, rfl⟩
    rfl
theorem hsh_nts (a : List Nat) : hshAll (a.map nt) = true := by
  induction a with
  | nil => rw [List.map_nil, hshAll]
  | cons n r ih =>
    rw [List.map_cons, hshAll, ih]
    show (hsh (.int (n : Int)) && true) = true
    rw [hsh]; rfl
theorem dep_nums : ∀ a : List Nat, NestedKey.depthAll (a.map fun (n : Nat) => NestedKey.num (n : Int)) = 0
  | [] => by rw [List.map_nil, NestedKey.depthAll]
  | n :: r => by rw [List.map_cons, NestedKey.depthAll, dep_nums r, NestedKey.depth]; rfl
theorem dep_nts (a : List Nat) : (nk (a.map nt)).depth = 1 := by
  unfold nk
  rw [nkOf, nkAll_nts, NestedKey.depth, dep_nums]
theorem dep_two (i : Nat) (a : List Nat) : (nk [nt i, .tuple (a.map nt)]).depth = 2 := by
  have h1 : nk [nt i, .tuple (a.map nt)] = .tup [.num (i : Int), nk (a.map nt)] := by
    have h : nkOf (nt i) = .num (i : Int) := by show nkOf (.int (i : Int)) = _; rw [nkOf]
    unfold nk
    rw [nkOf, nkAll, nkAll, nkAll, h]
  rw [h1, NestedKey.depth, NestedKey.depthAll, NestedKey.depthAll, NestedKey.depthAll, dep_nts, NestedKey.depth]
  rfl
theorem hsh_two (i : Nat) (a : List Nat) : hshAll [nt i, .tuple (a.map nt)] = true := by
  rw [hshAll, hshAll, hshAll]
  have : hsh (.tuple (a.map nt)) = true := by rw [hsh]; exact hsh_nts a
  rw [this]
  show (hsh (.int (i : Int)) && _) = true
  rw [hsh]; rfl
/-! ### classes -/
theorem row_at (hq : q < rows.length) : rows[q]? = some (rowAt rows q) := by
  unfold rowAt
  rw [List.getElem?_eq_getElem hq]
  rfl
theorem row_len (ok : Ok m rows) (hq : q < rows.length) : (rowAt rows q).length = 2 ^ m := ok.len _ (List.mem_of_getElem? (row_at hq))
theorem row_cell (ok : Ok m rows) (hq : q < rows.length) (hx : x < 2 ^ m) : (rowAt rows q)[x]? = some (stepR rows q x) := by
  obtain ⟨r, h1, h2, _⟩ := step_at ok hq hx
  rw [row_at hq] at h1
  cases h1
  exact h2
theorem rows_eq {β : Type} (ok : Ok m rows) {p q : Nat} (hp : p < rows.length) (hq : q < rows.length) (g : Nat × Nat → β) : (rowAt rows p).map g = (rowAt rows q).map g ↔ ∀ x, x < 2 ^ m → g (stepR rows p x) = g (stepR rows q x) := by
  constructor
  · intro h x hx
    have h1 : ((rowAt rows p).map g)[x]? = some (g (stepR rows p x)) := by rw [List.getElem?_map, row_cell ok hp hx]; rfl
    rw [h, List.getElem?_map, row_cell ok hq hx] at h1
    exact (Option.some.inj h1).symm
  · intro h
    refine List.ext_getElem? fun x => ?_
    by_cases hx : x < 2 ^ m
    · rw [List.getElem?_map, List.getElem?_map, row_cell ok hp hx, row_cell ok hq hx]
      exact congrArg some (h x hx)
    · rw [List.getElem?_eq_none (by rw [List.length_map, row_len ok hp]; omega), List.getElem?_eq_none (by rw [List.length_map, row_len ok hq]; omega)]
theorem Numb.congr {L : List Nat} {f : Nat → Nat} {r r' : Nat → Nat → Prop} (h : Numb L f r) (e : ∀ p q, p ∈ L → q ∈ L → (r p q ↔ r' p q)) : Numb L f r' :=
  ⟨fun p q hp hq => (h.same p q hp hq).trans (e p q hp hq), h.full⟩
theorem Numb.onto {L : List Nat} {f : Nat → Nat} {r : Nat → Nat → Prop} (h : Numb L f r) {z : Nat} (hz : ∃ q ∈ L, f q = z) (hle : ∀ q ∈ L, f q ≤ z) : Onto L f (z + 1) :=
  ⟨fun q hq => Nat.lt_succ_of_le (hle q hq), fun j hj => by
    obtain ⟨q, hq, rfl⟩ := hz
    exact h.full q hq j (by omega)⟩
theorem ev_maxOf {L : List Nat} {f : Nat → Nat} {j : Nat} (hd : DictIn env j (tabN L f)) (h0 : L ≠ []) : EvP c (tMaxVals (tVar j)) env (fun d => ∃ z : Nat, d = nt z ∧ (∃ q ∈ L, f q = z) ∧ ∀ q ∈ L, f q ≤ z) :=
  (ev_maxVals hd (tabN_vals L f) (by intro z; exact h0 (List.map_eq_nil_iff.mp z))).imp fun d ⟨z, e, hz, hle⟩ => by
    obtain ⟨q, hq, rfl⟩ := List.mem_map.mp hz
    refine ⟨f q, e, ⟨q, hq, rfl⟩, fun p hp => ?_⟩
    have := hle _ (List.mem_map.mpr ⟨p, hp, rfl⟩)
    omega
theorem h_classes_of (a : AC) (hp : OkC a) : HS (pureCn K B0 H0) (t_classes_of K) [.dat (encT a.rows), .dat (encL a.states), .no, .no, .no, .no, .no]
    { rt := fun d => ∃ f, d = .dict (mkI (tabN a.states f)) ∧ Numb a.states f (Eqv a.m a.rows), nx := fun _ => ∃ f, (PyData.none : D) = .dict (mkI (tabN a.states f)) ∧ Numb a.states f (Eqv a.m a.rows) } := by
  obtain ⟨m, rows, L⟩ := a
  obtain ⟨ok, st⟩ := hp
  dsimp only at ok st ⊢
  have hm := ok.m2
  have hf24 := ok.few
  have hlt : ∀ q ∈ L, q < rows.length := fun q hq => rch_lt ok ((st.rch q).mp hq)
  have hL24 : L.length ≤ rows.length := nodup_le st.nd hlt
  have h0 : 0 ∈ L := (st.rch 0).mpr .zero
  have hne : L ≠ [] := fun z => by rw [z] at h0; cases h0
  have hp4 : 2 ^ m ≤ 2 ^ 2 := Nat.pow_le_pow_right (by decide) hm
  -- the first numbers: by what is written
  refine hs_seq (hs_set (P := fun d => ∃ f, d = .dict (mkI (tabN L f)) ∧ Numb L f (Ek m rows 1)) (ev_callP (α := AK) (ea_consP (Pa := fun d => d = encL L) (ev_var rfl) fun _ _ => ea_consP (Pa := fun d => d = .dict (mkI (tabD L fun q => .tuple ((rowAt rows q).map fun p => nt p.2))))
    ((ev_newD (P := fun es => es = mkI (tabD L fun q => .tuple ((rowAt rows q).map fun p => nt p.2))) ((eno_dc (f := fun d => match d with | .int z => (z, .tuple ((rowAt rows z.toNat).map fun p => nt p.2)) | _ => (0, .none)) (ei_seqL (ds := L.map nt) (ev_var rfl)) (by rw [List.length_map]; omega) fun i d hd => ?_).imp fun u e => ⟨mkI (tabD L fun q => .tuple ((rowAt rows q).map fun p => nt p.2)), e.trans (by rw [tabOf_nodup (F := fun q => .tuple ((rowAt rows q).map fun p => nt p.2)) (fun q => by show ((q : Int), _) = _; rw [Int.toNat_natCast]) st.nd]), rfl⟩)).imp fun d ⟨es, e1, e2⟩ => by rw [e1, e2]) fun _ _ => ea_nil)
    fun ds ⟨a, r, e1, e2, b, r2, e3, e4, e5⟩ => ⟨⟨L, tabD L fun q => .tuple ((rowAt rows q).map fun p => nt p.2), fun q => ((rowAt rows q).map (·.2)).map nt⟩, by rw [e1, e2, e3, e4, e5], ⟨st.nd, by show L.length ≤ 1000; omega, fun q hq => by rw [look_tabD hq]; show _ = some (PyData.tuple (((rowAt rows q).map (·.2)).map nt)); rw [List.map_map]; rfl, fun q hq => ⟨hsh_nts _, by show (nk _).depth ≤ 8; rw [dep_nts]; decide⟩⟩, fun d ⟨f, g1, g2⟩ => ⟨f, g1, g2.congr fun p q hp hq => ?_⟩⟩) ?_)
  · obtain ⟨q, hq, rfl⟩ := map_at hd
    have hql := hlt q (List.mem_of_getElem? hq)
    refine ⟨_, _, hg_name, by decide, ev_var rfl, ?_⟩
    show Ev _ _ _ (.tuple ((rowAt rows ((q : Nat) : Int).toNat).map fun p => nt p.2))
    rw [Int.toNat_natCast]
    refine ev_tupOf (es_new (en_lcV (ei_seqT (ds := (rowAt rows q).map encP) (ev_row (ev_var rfl) (ev_var rfl) (row_at hql))) (by rw [List.length_map, row_len ok hql]; omega) (by rw [List.length_map, List.length_map]) fun i d y hd hy => ?_))
    obtain ⟨p, hp, rfl⟩ := map_at hd
    obtain ⟨p', hp', rfl⟩ := map_at hy
    rw [hp] at hp'
    cases hp'
    exact ⟨_, _, hg_name, by decide, ev_snd (ev_var rfl)⟩
  · show nk (((rowAt rows p).map (·.2)).map nt) = nk (((rowAt rows q).map (·.2)).map nt) ↔ _
    rw [nk_nts, rows_eq ok (hlt p hp) (hlt q hq)]
    exact ⟨fun h x hx => ⟨h x hx, trivial⟩, fun h x hx => (h x hx).1⟩
  rintro d ⟨f0, rfl, nf0⟩
  refine hs_seq (hs_setV (ev_nat 0) ?_)
  refine hs_seq (hs_while (fun M env => ∃ s f n x y z, env = [.dat (encT rows), .dat (encL L), .dat (.dict (mkI (tabN L f))), .dat (nt s), x, y, z] ∧ Numb L f (Ek m rows (n + 1)) ∧ (s = 0 ∨ ∃ g, Onto L g s ∧ ∀ p q, p ∈ L → q ∈ L → (g p = g q ↔ Ek m rows n p q)) ∧ s ≤ 24 ∧ M = 24 - s) 24
    ⟨0, f0, 0, _, _, _, rfl, nf0, .inl rfl, by omega, rfl⟩ ?_)
  rintro M env ⟨s, f, n, x, y, z, rfl, nf, hs, hs24, hM⟩
  -- the greatest number
  obtain ⟨zm, hz1, hz2⟩ : ∃ zm, (∃ q ∈ L, f q = zm) ∧ ∀ q ∈ L, f q ≤ zm := by
    have key : ∀ l : List Nat, l ≠ [] → ∃ zm, (∃ q ∈ l, f q = zm) ∧ ∀ q ∈ l, f q ≤ zm := by
      intro l
      induction l with
      | nil => intro h; exact absurd rfl h
      | cons a r ih =>
        intro _
        by_cases hr : r = []
        · subst hr
          exact ⟨f a, ⟨a, List.mem_cons_self, rfl⟩, fun q hq => by rw [List.mem_singleton.mp hq]; exact Nat.le_refl _⟩
        · obtain ⟨z, ⟨q, hq, e⟩, hle⟩ := ih hr
          by_cases h : f a ≤ z
          · exact ⟨z, ⟨q, List.mem_cons_of_mem _ hq, e⟩, fun p hp => by rcases List.mem_cons.mp hp with w | w; · rw [w]; exact h
                                                                        · exact hle p w⟩
          · exact ⟨f a, ⟨a, List.mem_cons_self, rfl⟩, fun p hp => by rcases List.mem_cons.mp hp with w | w; · rw [w]; exact Nat.le_refl _
                                                                     · have := hle p w; omega⟩
    exact key L hne
  have ho := nf.onto hz1 hz2
  have hmax : ∀ {env : List Sl}, env[2]? = some (.dat (.dict (mkI (tabN L f)))) → Ev (pureCn K B0 H0) (tMaxVals (tVar 2)) env (nt zm) := fun {env} h => (ev_maxOf (c := pureCn K B0 H0) (.inl h) hne).imp fun d ⟨z, e, ⟨q, hq, eq⟩, hle⟩ => by
    obtain ⟨q', hq', eq'⟩ := hz1
    have h1 := hz2 q hq
    have h2 := hle q' hq'
    rw [e, show z = zm by omega]
  have hz24 : zm + 1 ≤ 24 := by
    -- as many numbers as states at most
    obtain ⟨rs, h1, h2, h3, _⟩ := pick_list (L := L) (f := f) (g := fun q => q) (fun p q _ _ h => by rw [h]) (zm + 1) ho.on
    have := nodup_le h3 fun x hx => by
      obtain ⟨r, hr, rfl⟩ := List.mem_map.mp hx
      exact hlt r (h2 r hr).1
    rw [List.length_map, h1] at this
    omega
  refine ⟨decide (s ≤ zm), et_test (ev_op (ev_var rfl) (hmax rfl) opd_leN), fun hb => ?_, fun hb => ?_⟩
  · have hle := of_decide_eq_true hb
    refine hs_seq (hs_setV (ev_op (hmax rfl) (ev_nat 1) opd_addN) ?_)
    refine hs_seq (hs_setO eno_dnewK fun p u eu => ?_)
    subst eu
    refine hs_seq (hs_for (ds := L.map nt) (fun k env => k ≤ L.length ∧ ∃ es y z, env = [.dat (encT rows), .dat (encL L), .dat (.dict (mkI (tabN L f))), .dat (nt (zm + 1)), .ow p (.idc es), y, z] ∧ es = mkI (tabD (L.take k) fun q => .tuple [nt (f q), .tuple ((rowAt rows q).map fun p => nt (f p.1))]))
      (ei_seqL (ev_var rfl)) ⟨Nat.zero_le _, _, _, _, rfl, rfl⟩ ?_ ?_)
    · rintro k d env hd ⟨_, es, y, z, rfl, rfl⟩
      obtain ⟨q, hq, rfl⟩ := map_at hd
      have hk := (List.getElem?_eq_some_iff.mp hq).1
      have hqL := List.mem_of_getElem? hq
      have hql := hlt q hqL
      refine ⟨_, _, hg_name, ?_⟩
      refine hs_dPut (m := tabD (L.take k) fun q => .tuple [nt (f q), .tuple ((rowAt rows q).map fun p => nt (f p.1))]) (j := 4) rfl (ev_tup (ea_cons (ev_dGet (m := tabN L f) (.inl rfl) (ev_var rfl) (look_tabN hqL))
        (ea_cons (ev_tupOf (ds := (rowAt rows q).map fun p => nt (f p.1)) (es_new (en_lcV (ei_seqT (ds := (rowAt rows q).map encP) (ev_row (ev_var rfl) (ev_var rfl) (row_at hql))) (by rw [List.length_map, row_len ok hql]; omega) (by rw [List.length_map, List.length_map]) fun i d y hd hy => ?_))) ea_nil)) (by show 2 ≤ 1000000; decide)) (ev_var rfl) (by rw [tabD_len, List.length_take]; omega) fun d e => ?_
      · obtain ⟨pr, hp, rfl⟩ := map_at hd
        obtain ⟨p', hp', rfl⟩ := map_at hy
        rw [hp] at hp'
        cases hp'
        have hi := (List.getElem?_eq_some_iff.mp hp).1
        rw [row_len ok hql] at hi
        rw [row_cell ok hql hi] at hp
        cases hp
        exact ⟨_, _, hg_name, by decide, ev_dGet (m := tabN L f) (.inl rfl) (ev_fst (ev_var rfl)) (look_tabN ((st.rch _).mpr (.step ((st.rch q).mp hqL) hi)))⟩
      · subst e
        refine ⟨hk, _, _, _, rfl, ?_⟩
        have := put_tabD (F := fun q => .tuple [nt (f q), .tuple ((rowAt rows q).map fun p => nt (f p.1))]) (not_take st.nd hq)
        rw [this, List.take_add_one, hq]
        rfl
    · rintro env ⟨_, es, y, z, rfl, rfl⟩
      rw [List.length_map, List.take_length]
      refine hs_freezeD (i := 4) rfl (hs_set (ev_call (α := AK) ⟨L, tabD L fun q => .tuple [nt (f q), .tuple ((rowAt rows q).map fun p => nt (f p.1))], fun q => [nt (f q), .tuple (((rowAt rows q).map fun p => f p.1).map nt)]⟩ (ea_cons (ev_var rfl) (ea_cons (ev_var rfl) ea_nil))
        ⟨st.nd, by show L.length ≤ 1000; omega, fun q hq => by rw [look_tabD hq]; show _ = some (PyData.tuple [nt (f q), .tuple (((rowAt rows q).map fun p => f p.1).map nt)]); rw [List.map_map]; rfl, fun q hq => ⟨hsh_two _ _, by show (nk _).depth ≤ 8; rw [dep_two]; decide⟩⟩) fun d ⟨f', e, nf'⟩ => ?_)
      subst e
      refine ⟨24 - (zm + 1), by omega, zm + 1, f', n + 1, _, _, _, rfl, nf'.congr fun p q hp hq => ?_, .inr ⟨f, ho, nf.same⟩, hz24, rfl⟩
      show nk [nt (f p), .tuple (((rowAt rows p).map fun p => f p.1).map nt)] = nk [nt (f q), .tuple (((rowAt rows q).map fun p => f p.1).map nt)] ↔ _
      rw [nk_two, rows_eq ok (hlt p hp) (hlt q hq), nf.same p q hp hq]
      have hc : ∀ q x, q ∈ L → x < 2 ^ m → stp rows q x ∈ L := fun q x hq hx => (st.rch _).mpr (.step ((st.rch q).mp hq) hx)
      constructor
      · rintro ⟨h1, h2⟩ x hx
        exact ⟨(h1 x hx).1, (nf.same _ _ (hc p x hp hx) (hc q x hq hx)).mp (h2 x hx)⟩
      · intro h
        exact ⟨Ek.down h, fun x hx => (nf.same _ _ (hc p x hp hx) (hc q x hq hx)).mpr (h x hx).2⟩
  · have hgt := of_decide_eq_false hb
    rcases hs with h | ⟨g, og, hg⟩
    · omega
    · refine hs_ret (ev_var rfl) fun d e => ⟨f, e, nf.congr fun p q hp hq => ?_⟩
      have cl : ∀ q x, q ∈ L → x < 2 ^ m → stp rows q x ∈ L := fun q x hq hx => (st.rch _).mpr (.step ((st.rch q).mp hq) hx)
      have hst : ∀ p q, p ∈ L → q ∈ L → Ek m rows n p q → Ek m rows (n + 1) p q := fun p q hp hq h =>
        (nf.same p q hp hq).mp (finer_same og ho.lt (fun p q hp hq e => (hg p q hp hq).mpr (Ek.down ((nf.same p q hp hq).mp e))) (by omega) hp hq ((hg p q hp hq).mpr h))
      have h1 := ek_stop (m := m) (rows := rows) (R := fun q => q ∈ L) cl hst hp hq
      exact ⟨fun h => h1.mp (Ek.down h), fun h => h (n + 1)⟩
end
end SS
namespace DL
open PySem PySem.Spec PyProof.Rows L2
/-- a, b = (x, y) where the tuple itself is made -/
theorem hs_tup2 {c : Cn} {env : List Sl} {o : Po} {i j : Nat} {ta : TA} {P : List Sl → Prop} (h : EvAS c ta env P) (k : ∀ ss, P ss → ∃ s1 s2, ss = [s1, s2] ∧ o.nx ((env.set i s1).set j s2)) : HS c (tAsg (tTup ta) (gTup c.K 2 (gCons (gName i) (gCons (gName j) gNil)))) env o := fun X σ B H A e g =>
  h σ B H A e _ fun vs ss B1 H1 x1 r1 s1 n1 f1 p1 => by
    obtain ⟨a, b, rfl, kk⟩ := k ss p1
    match vs, s1 with
    | [v, w], s1 =>
      refine ⟨by show 2 ≤ sizeLine; decide, fun t ht => ?_⟩
      obtain ⟨x2, r2⟩ := (A.go x1 r1).newOwn (o := .tup [v, w]) ht
      refine ⟨t, [v, w], rfl, SqT.of upd_same, rfl, ?_⟩
      obtain ⟨g1, g2, _⟩ := SlsOk.go x2 s1
      have e1 := (e.go x1).go x2
      have live : ∀ p ∈ owns env, H p ≠ none := fun p hp => e.live hp
      obtain ⟨e2, m2⟩ := e1.store (i := i) g1 fun p hp z => live p z (f1 p (by rw [owns_one]; exact List.mem_append_left _ hp)).1
      have nd := n1
      rw [owns_one] at nd
      obtain ⟨e3, _⟩ := e2.store (i := j) g2 fun p hp z => by
        rcases m2 p z with z | z
        · exact (List.nodup_append.mp nd).2.2 p z p hp rfl
        · exact live p z (f1 p (by rw [owns_one]; exact List.mem_append_right _ hp)).1
      exact ⟨v, [w], rfl, ⟨w, [], rfl, rfl, g.nx _ B1 _ _ (x1.b.trans x2.b) ((A.go x1 r1).go x2 r2) e3 kk⟩⟩
end DL
namespace SS
open PySem PySem.Spec PyProof.Rows L2 DL
section
variable {K : PySem.W.Frag} {B0 H0 : Hp} {c : Cn} {env : List Sl} {ta tb tx : TE} {m q x : Nat} {rows : List Row}
/-- the numbers of kinds: place in os by the kind f -/
def nmF (os : List Nat) (f : Nat → Nat) (n : Nat) : Tb := (os.zipIdx n).map fun p => ((f p.1 : Int), nt p.2)
theorem look_nm (f : Nat → Nat) (k : Nat) : ∀ (os : List Nat) (n : Nat), lookI (nmF os f n) (k : Int) = if k ∈ os.map f then some (nt (n + (os.map f).idxOf k)) else none
  | [], n => by rw [List.map_nil, if_neg (List.not_mem_nil)]; rfl
  | a :: r, n => by
    show lookI (((f a : Int), nt n) :: nmF r f (n + 1)) (k : Int) = _
    rw [lookI_cons, look_nm f k r (n + 1), List.map_cons, List.idxOf_cons]
    by_cases e : f a = k
    · subst e
      rw [if_pos rfl, if_pos List.mem_cons_self, beq_self_eq_true]
      rfl
    · rw [if_neg (by show ¬ (f a : Int) = (k : Int); omega)]
      have hb : (f a == k) = false := by simpa using e
      rw [hb]
      by_cases h : k ∈ r.map f
      · rw [if_pos h, if_pos (List.mem_cons_of_mem _ h)]
        show some (nt _) = some (nt (n + ((r.map f).idxOf k + 1)))
        congr 2
        omega
      · rw [if_neg h, if_neg]
        intro z
        rcases List.mem_cons.mp z with w | w
        · exact e w.symm
        · exact h w
theorem nm_app (os : List Nat) (f : Nat → Nat) (q : Nat) : nmF (os ++ [q]) f 0 = nmF os f 0 ++ [((f q : Int), nt os.length)] := by
  unfold nmF
  rw [List.zipIdx_append, List.map_append]
  congr 1
  show [((f q : Int), nt (0 + os.length))] = _
  rw [Nat.zero_add]
theorem nm_len (os : List Nat) (f : Nat → Nat) : (nmF os f 0).length = os.length := by
  unfold nmF
  rw [List.length_map, List.length_zipIdx]
/-- what the search for kinds keeps: i places are done; of the next, the letters below k -/
structure Ord (m : Nat) (rows : List Row) (f : Nat → Nat) (os : List Nat) (i k : Nat) : Prop where
  rch : ∀ a ∈ os, Rch m rows a
  nd : (os.map f).Nodup
  zero : os[0]? = some 0
  done : ∀ (j a x : Nat), j < i → os[j]? = some a → x < 2 ^ m → f (stp rows a x) ∈ os.map f
  now : ∀ (a x : Nat), os[i]? = some a → x < k → f (stp rows a x) ∈ os.map f
theorem nodup_of_map {f : Nat → Nat} : ∀ {l : List Nat}, (l.map f).Nodup → l.Nodup
  | [], _ => List.nodup_nil
  | a :: r, h => by
    rw [List.map_cons] at h
    exact List.nodup_cons.mpr ⟨fun z => (List.nodup_cons.mp h).1 (List.mem_map.mpr ⟨a, z, rfl⟩), nodup_of_map (List.nodup_cons.mp h).2⟩
theorem Ord.few {f : Nat → Nat} {os : List Nat} {i k : Nat} (ok : Ok m rows) (o : Ord m rows f os i k) : os.length ≤ rows.length := nodup_le (nodup_of_map o.nd) fun x hx => rch_lt ok (o.rch x hx)
theorem mem_f {f : Nat → Nat} {os : List Nat} {k : Nat} (h : k ∈ os.map f) : ∃ b, os[(os.map f).idxOf k]? = some b ∧ f b = k := by
  have hi := List.idxOf_lt_length_of_mem h
  have h1 : (os.map f)[(os.map f).idxOf k]? = some k := by rw [List.getElem?_eq_getElem hi, List.getElem_idxOf hi]
  rw [List.getElem?_map] at h1
  obtain ⟨b, hb, e⟩ := Option.map_eq_some_iff.mp h1
  exact ⟨b, hb, e⟩
theorem small_ok (ok : Ok m rows) {L : List Nat} {f : Nat → Nat} {os : List Nat} {k : Nat} (st : IsSt m rows L) (nf : Numb L f (Eqv m rows)) (o : Ord m rows f os os.length k) : Ok m (smallOf rows f os) ∧ Least m rows (smallOf rows f os) := by
  have hlt : ∀ a ∈ os, a < rows.length := fun a ha => rch_lt ok (o.rch a ha)
  have hL : ∀ a, Rch m rows a → a ∈ L := fun a h => (st.rch a).mpr h
  have cl : ∀ (j a x : Nat), os[j]? = some a → x < 2 ^ m → f (stp rows a x) ∈ os.map f := fun j a x h hx => o.done j a x (List.getElem?_eq_some_iff.mp h).1 h hx
  have hsl : (smallOf rows f os).length = os.length := by unfold smallOf; rw [List.length_map]
  have cell : ∀ (i a x : Nat), os[i]? = some a → x < 2 ^ m → stepR (smallOf rows f os) i x = ((os.map f).idxOf (f (stp rows a x)), out rows a x) := fun i a x h hx => by
    have ha := hlt a (List.mem_of_getElem? h)
    unfold stepR smallOf
    rw [List.getElem?_map, h]
    show (((rowAt rows a).map _)[x]?).getD (0, 0) = _
    rw [List.getElem?_map, row_cell ok ha hx]
    rfl
  refine ⟨⟨ok.m2, ?_, ?_, fun r hr => ?_, fun r hr p hp => ?_⟩, os, ⟨o.rch, fun i j a b ha hb e => ?_, fun q hq => ?_⟩, hsl.symm, fun r hr => ?_, fun i a x ha hx => ?_⟩
  · rw [hsl]
    exact (List.getElem?_eq_some_iff.mp o.zero).1
  · rw [hsl]
    exact Nat.le_trans (o.few ok) ok.few
  · obtain ⟨q, hq, rfl⟩ := List.mem_map.mp hr
    rw [List.length_map, row_len ok (hlt q hq)]
  · obtain ⟨q, hq, rfl⟩ := List.mem_map.mp hr
    obtain ⟨p', hp', rfl⟩ := List.mem_map.mp hp
    obtain ⟨x, hx⟩ := List.mem_iff_getElem?.mp hp'
    have hxl := (List.getElem?_eq_some_iff.mp hx).1
    rw [row_len ok (hlt q hq)] at hxl
    rw [row_cell ok (hlt q hq) hxl] at hx
    cases hx
    obtain ⟨i, hi⟩ := List.mem_iff_getElem?.mp hq
    refine ⟨?_, ?_⟩
    · rw [hsl]
      have := List.idxOf_lt_length_of_mem (cl i q x hi hxl)
      rw [List.length_map] at this
      exact this
    · obtain ⟨_, _, _, _, h⟩ := step_at ok (hlt q hq) hxl
      exact h
  · have h1 : f a = f b := (nf.same a b (hL a (o.rch a (List.mem_of_getElem? ha))) (hL b (o.rch b (List.mem_of_getElem? hb)))).mpr e
    exact nodup_inj (a := f a) o.nd (by rw [List.getElem?_map, ha]; rfl) (by rw [List.getElem?_map, hb, h1]; rfl)
  · induction hq with
    | zero => exact ⟨0, List.mem_of_getElem? o.zero, Eqv.refl 0⟩
    | @step q x hq hx ih =>
      obtain ⟨a, ha, e⟩ := ih
      obtain ⟨j, hj⟩ := List.mem_iff_getElem?.mp ha
      obtain ⟨b, hb, eb⟩ := mem_f (cl j a x hj hx)
      have hbm := List.mem_of_getElem? hb
      exact ⟨b, hbm, (e.step hx).trans ((nf.same _ _ (hL _ (.step (o.rch a ha) hx)) (hL b (o.rch b hbm))).mp eb.symm)⟩
  · obtain ⟨q, hq, rfl⟩ := List.mem_map.mp hr
    rw [List.length_map, row_len ok (hlt q hq)]
  · have hc := cell i a x ha hx
    obtain ⟨b, hb, eb⟩ := mem_f (cl i a x ha hx)
    have hbm := List.mem_of_getElem? hb
    have hra := o.rch a (List.mem_of_getElem? ha)
    refine ⟨b, ?_, (nf.same _ _ (hL b (o.rch b hbm)) (hL _ (.step hra hx))).mp eb, ?_⟩
    · show os[(stepR (smallOf rows f os) i x).1]? = _
      rw [hc]
      exact hb
    · show (stepR (smallOf rows f os) i x).2 = _
      rw [hc]
theorem small_root (ok : Ok m rows) {L : List Nat} {f : Nat → Nat} {os : List Nat} {k : Nat} (st : IsSt m rows L) (nf : Numb L f (Eqv m rows)) (o : Ord m rows f os os.length k) : EqX m (smallOf rows f os) rows 0 0 := by
  have hlt : ∀ a ∈ os, a < rows.length := fun a ha => rch_lt ok (o.rch a ha)
  have hL : ∀ a, Rch m rows a → a ∈ L := fun a h => (st.rch a).mpr h
  have cl : ∀ (j a x : Nat), os[j]? = some a → x < 2 ^ m → f (stp rows a x) ∈ os.map f := fun j a x h hx => o.done j a x (List.getElem?_eq_some_iff.mp h).1 h hx
  have cell : ∀ (i a x : Nat), os[i]? = some a → x < 2 ^ m → stepR (smallOf rows f os) i x = ((os.map f).idxOf (f (stp rows a x)), out rows a x) := fun i a x h hx => by
    have ha := hlt a (List.mem_of_getElem? h)
    unfold stepR smallOf
    rw [List.getElem?_map, h]
    show (((rowAt rows a).map _)[x]?).getD (0, 0) = _
    rw [List.getElem?_map, row_cell ok ha hx]
    rfl
  have key : ∀ (n i a : Nat), os[i]? = some a → EkX m (smallOf rows f os) rows n i a := by
    intro n
    induction n with
    | zero => intro i a _; trivial
    | succ n ih =>
      intro i a ha x hx
      have hc := cell i a x ha hx
      obtain ⟨b, hb, eb⟩ := mem_f (cl i a x ha hx)
      have hbm := List.mem_of_getElem? hb
      have hra := o.rch a (List.mem_of_getElem? ha)
      have e := (nf.same _ _ (hL b (o.rch b hbm)) (hL _ (.step hra hx))).mp eb
      show (stepR (smallOf rows f os) i x).2 = _ ∧ EkX m _ rows n (stepR (smallOf rows f os) i x).1 _
      rw [hc]
      exact ⟨rfl, (ih _ _ hb).trans (e n).x⟩
  exact fun n => key n 0 0 o.zero
/-- and it is the search that all take -/
structure OrdS (m : Nat) (rows : List Row) (f : Nat → Nat) (os : List Nat) (i k : Nat) : Prop extends Ord m rows f os i k where
  scan : Scan m rows os i k
theorem h_least (a : AM) (ok : Ok a.1 a.2) : HS (pureCn K B0 H0) (t_least K) [.dat (encM a.1 a.2), .no, .no, .no, .no, .no, .no, .no, .no, .no]
    { rt := fun d => ∃ small, d = encM a.1 small ∧ Ok a.1 small ∧ Least a.1 a.2 small ∧ EqX a.1 small a.2 0 0 ∧ Can a.1 a.2 small, nx := fun _ => ∃ small, (PyData.none : D) = encM a.1 small ∧ Ok a.1 small ∧ Least a.1 a.2 small ∧ EqX a.1 small a.2 0 0 ∧ Can a.1 a.2 small } := by
  obtain ⟨m, rows⟩ := a
  dsimp only at ok ⊢
  have hm := ok.m2
  have hf24 := ok.few
  refine hs_seq (hs_asg (ev_var (d := encM m rows) rfl) fun d e => ?_)
  subst e
  refine ⟨_, _, hg_tup (hgs_cons hg_name (hgs_cons hg_name hgs_nil)) rfl, ?_⟩
  refine hs_seq (hs_set (P := fun d => ∃ L f, d = .dict (mkI (tabN L f)) ∧ IsSt m rows L ∧ Numb L f (Eqv m rows)) (ev_callP (α := AC) (ea_consP (Pa := fun d => d = encT rows) (ev_var rfl) fun _ _ => ea_consP (ev_call (α := AM) (m, rows) (ea_cons (ev_var rfl) ea_nil) ok) fun _ _ => ea_nil)
    fun ds ⟨a, r, e1, e2, b, r2, e3, ⟨ns, e4, st⟩, e5⟩ => ⟨⟨m, rows, ns⟩, by rw [e1, e2, e3, e4, e5], ⟨ok, st⟩, fun d ⟨f, g1, g2⟩ => ⟨ns, f, g1, st, g2⟩⟩) ?_)
  rintro d ⟨L, f, rfl, st, nf⟩
  have h0 : 0 ∈ L := (st.rch 0).mpr .zero
  have hlk : ∀ {env : List Sl} {te : TE} {q : Nat}, env[3]? = some (.dat (.dict (mkI (tabN L f)))) → Rch m rows q → Ev (pureCn K B0 H0) te env (nt q) → Ev (pureCn K B0 H0) (tDGet (tVar 3) te) env (nt (f q)) := fun {env te q} h hq ht => ev_dGet (m := tabN L f) (.inl h) ht (look_tabN ((st.rch q).mpr hq))
  refine hs_seq (hs_tup2 (eas_ow (eno_disp1 (n := (f 0 : Int)) (hlk rfl .zero (ev_nat 0)) (ev_nat 0)) (eas_own (en_lst (ea_cons (ev_nat 0) ea_nil) (by show 1 ≤ 1000000; decide)) eas_nil)) fun ss ⟨p1, u1, r, e1, ⟨d, eu, ed⟩, p2, ds, r2, e2, e3, e4⟩ => ?_)
  subst e1 eu ed e2 e3 e4
  refine ⟨_, _, rfl, ?_⟩
  refine hs_seq (hs_setV (ev_nat 0) ?_)
  have o0 : OrdS m rows f [0] 0 0 := ⟨⟨fun a h => by rw [List.mem_singleton.mp h]; exact .zero, by simp, rfl, fun j a x h => absurd h (Nat.not_lt_zero _), fun a x _ h => absurd h (Nat.not_lt_zero _)⟩, .start⟩
  refine hs_seq (hs_while (fun M env => ∃ os i tb ds x y z, env = [.dat (encM m rows), .dat (nt m), .dat (encT rows), .dat (.dict (mkI (tabN L f))), .ow p1 (.idc tb), .own p2 ds, .dat (nt i), x, y, z] ∧ tb = mkI (nmF os f 0) ∧ ds = os.map nt ∧ OrdS m rows f os i 0 ∧ i ≤ os.length ∧ M = rows.length - i) rows.length
    ⟨[0], 0, _, _, _, _, _, rfl, rfl, rfl, o0, Nat.zero_le _, rfl⟩ ?_)
  · rintro M env ⟨os, i, tb, ds, x, y, z, rfl, rfl, rfl, o, hi, hM⟩
    have hfew := o.few ok
    have hlen : ∀ {env : List Sl} {os : List Nat}, env[5]? = some (.own p2 (os.map nt)) → Ev (pureCn K B0 H0) (tCB (rLn K) (tCons (tVar 5) tNil)) env (nt os.length) := fun {env os} h => by
      have := ev_len (c := pureCn K B0 H0) (es_var (ds := os.map nt) (.inr ⟨p2, h⟩))
      rw [List.length_map] at this
      exact this
    refine ⟨decide (i < os.length), et_test (ev_op (ev_var rfl) (hlen rfl) opd_ltN), fun hb => ?_, fun hb => ?_⟩
    · have hlt := of_decide_eq_true hb
      obtain ⟨q, hq⟩ : ∃ q, os[i]? = some q := ⟨os[i], List.getElem?_eq_getElem hlt⟩
      have hrq := o.rch q (List.mem_of_getElem? hq)
      have hql := rch_lt ok hrq
      refine hs_seq (hs_for (ds := (rowAt rows q).map encP) (fun k env => k ≤ 2 ^ m ∧ ∃ os tb ds x y z, env = [.dat (encM m rows), .dat (nt m), .dat (encT rows), .dat (.dict (mkI (tabN L f))), .ow p1 (.idc tb), .own p2 ds, .dat (nt i), x, y, z] ∧ tb = mkI (nmF os f 0) ∧ ds = os.map nt ∧ OrdS m rows f os i k ∧ os[i]? = some q)
        (ei_seqT (ev_row (ev_var rfl) (ev_ixLm (f := nt) (xs := os) (n := i) (es_var (.inr ⟨p2, rfl⟩)) (ev_var rfl) hq) (row_at hql))) ⟨Nat.zero_le _, os, _, _, _, _, _, rfl, rfl, rfl, o, hq⟩ ?_ ?_)
      · rintro k d env hd ⟨_, os, tb, ds, x, y, z, rfl, rfl, rfl, o, hq⟩
        obtain ⟨pr, hpr, rfl⟩ := map_at hd
        have hk := (List.getElem?_eq_some_iff.mp hpr).1
        rw [row_len ok hql] at hk
        rw [row_cell ok hql hk] at hpr
        cases hpr
        have hrs : Rch m rows (stp rows q k) := .step hrq hk
        refine ⟨_, _, hg_name, ?_⟩
        refine hs_if (et_B (ev_dNotIn (m := nmF os f 0) (.inr ⟨p1, rfl⟩) (hlk rfl hrs (ev_fst (p := stepR rows q k) (ev_var rfl))))) (fun hb => ?_) (fun hb => ?_)
        · have hnot : f (stp rows q k) ∉ os.map f := fun z => by
            rw [look_nm, if_pos z] at hb
            cases hb
          have hfew := o.few ok
          refine hs_seq (hs_dPut (m := nmF os f 0) rfl (hlen rfl) (hlk rfl hrs (ev_fst (p := stepR rows q k) (ev_var rfl))) (by rw [nm_len]; omega) fun d e => ?_)
          subst e
          have hput : putI (nmF os f 0) (f (stp rows q k) : Int) (nt os.length) = nmF (os ++ [stp rows q k]) f 0 := by
            unfold putI
            rw [hasI_look, look_nm, if_neg hnot, if_neg (by decide), nm_app]
          rw [hput]
          refine hs_app (i := 5) rfl (by rw [List.length_map]; omega) (ev_fst (p := stepR rows q k) (ev_var rfl)) fun d e => ?_
          subst e
          have hsub : ∀ z, z ∈ os.map f → z ∈ (os ++ [stp rows q k]).map f := fun z h => by rw [List.map_append]; exact List.mem_append_left _ h
          have hold : ∀ (j a : Nat), j ≤ i → (os ++ [stp rows q k])[j]? = some a → os[j]? = some a := fun j a hj h => by
            have := (List.getElem?_eq_some_iff.mp hq).1
            rw [List.getElem?_append_left (by omega)] at h
            exact h
          have hq' : (os ++ [stp rows q k])[i]? = some q := by rw [List.getElem?_append_left (List.getElem?_eq_some_iff.mp hq).1]; exact hq
          refine ⟨hk, os ++ [stp rows q k], _, _, _, _, _, rfl, rfl, by rw [List.map_append]; rfl, ⟨⟨fun a ha => ?_, ?_, by rw [List.getElem?_append_left (List.getElem?_eq_some_iff.mp o.zero).1]; exact o.zero, fun j a x hj h hx => hsub _ (o.done j a x hj (hold j a (by omega) h) hx), fun a x h hx => ?_⟩, .new o.scan hq hk fun ⟨b, hb', e⟩ => hnot (List.mem_map.mpr ⟨b, hb', ((nf.same _ _ ((st.rch _).mpr hrs) ((st.rch _).mpr (o.rch b hb'))).mpr e).symm⟩)⟩, hq'⟩
          · rcases List.mem_append.mp ha with ha | ha
            · exact o.rch a ha
            · rw [List.mem_singleton.mp ha]; exact hrs
          · rw [List.map_append]
            exact List.nodup_append.mpr ⟨o.nd, by simp, fun a ha b hb' e => hnot (by
              have : b = f (stp rows q k) := by simpa using hb'
              rw [← this, ← e]; exact ha)⟩
          · have ha := hold i a (Nat.le_refl _) h
            rw [hq] at ha
            cases ha
            by_cases hxk : x = k
            · rw [hxk, List.map_append]
              exact List.mem_append_right _ (by simp)
            · exact hsub _ (o.now q x hq (by omega))
        · have hin : f (stp rows q k) ∈ os.map f := by
            by_cases z : f (stp rows q k) ∈ os.map f
            · exact z
            · rw [look_nm, if_neg z] at hb
              cases hb
          obtain ⟨b, hb1, eb⟩ := mem_f hin
          have hbm := List.mem_of_getElem? hb1
          refine hs_next ⟨hk, os, _, _, _, _, _, rfl, rfl, rfl, ⟨⟨o.rch, o.nd, o.zero, o.done, fun a x h hx => ?_⟩, .old o.scan hq hk ⟨b, hbm, (nf.same _ _ ((st.rch _).mpr hrs) ((st.rch _).mpr (o.rch b hbm))).mp eb.symm⟩⟩, hq⟩
          rw [hq] at h
          cases h
          by_cases hxk : x = k
          · rw [hxk]; exact hin
          · exact o.now q x hq (by omega)
      · rintro env ⟨_, os, tb, ds, x, y, z, rfl, rfl, rfl, o, hq⟩
        rw [List.length_map, row_len ok hql] at o
        have hfew := o.few ok
        have hil := (List.getElem?_eq_some_iff.mp hq).1
        refine hs_aug (f := fun i j => i + j) (a := (i : Int)) (b := 1) rfl ev_int ?_
        refine ⟨rows.length - (i + 1), by omega, os, i + 1, _, _, _, _, _, rfl, rfl, rfl, ⟨⟨o.rch, o.nd, o.zero, fun j a x hj h hx => ?_, fun a x _ h => absurd h (Nat.not_lt_zero _)⟩, .row o.scan hil⟩, hil, rfl⟩
        by_cases hji : j = i
        · subst hji
          exact o.now a x h hx
        · exact o.done j a x (by omega) h hx
    · have hge := of_decide_eq_false hb
      have hio : i = os.length := by omega
      subst hio
      obtain ⟨sok, sl⟩ := small_ok ok st nf o.toOrd
      have sx := small_root ok st nf o.toOrd
      have sc : Can m rows (smallOf rows f os) := ⟨os, L, f, st, nf, o.scan, o.rch, rfl⟩
      refine hs_seq (hs_setN (en_lst ea_nil (Nat.zero_le _)) fun p3 ds e => ?_)
      subst e
      refine hs_freeze (i := 5) rfl (hs_seq (hs_for (ds := os.map nt) (fun k env => k ≤ os.length ∧ ∃ ds x y, env = [.dat (encM m rows), .dat (nt m), .dat (encT rows), .dat (.dict (mkI (tabN L f))), .ow p1 (.idc (mkI (nmF os f 0))), .dat (.list (os.map nt)), .dat (nt os.length), x, .own p3 ds, y] ∧ ds = ((smallOf rows f os).take k).map encR)
        (ei_seqL (ev_var rfl)) ⟨Nat.zero_le _, _, _, _, rfl, rfl⟩ ?_ ?_))
      · rintro k d env hd ⟨_, ds, x, y, rfl, rfl⟩
        obtain ⟨q, hq, rfl⟩ := map_at hd
        have hk := (List.getElem?_eq_some_iff.mp hq).1
        have hrq := o.rch q (List.mem_of_getElem? hq)
        have hql := rch_lt ok hrq
        have hsk : (smallOf rows f os)[k]? = some ((rowAt rows q).map fun p => ((os.map f).idxOf (f p.1), p.2)) := by
          unfold smallOf
          rw [List.getElem?_map, hq]
          rfl
        refine ⟨_, _, hg_name, ?_⟩
        refine hs_app (i := 8) rfl (by rw [List.length_map, List.length_take]; omega) (ev_tupOf (ds := ((rowAt rows q).map fun p => ((os.map f).idxOf (f p.1), p.2)).map encP) (es_new (en_lcV (ei_seqT (ds := (rowAt rows q).map encP) (ev_row (ev_var rfl) (ev_var rfl) (row_at hql))) (by rw [List.length_map, row_len ok hql]; have : 2 ^ m ≤ 2 ^ 2 := Nat.pow_le_pow_right (by decide) hm; omega) (by rw [List.length_map, List.length_map, List.length_map]) fun i d y hd hy => ?_))) fun d e => ?_
        · obtain ⟨pr, hp, rfl⟩ := map_at hd
          obtain ⟨p', hp', rfl⟩ := map_at hy
          rw [List.getElem?_map, hp] at hp'
          cases hp'
          have hi := (List.getElem?_eq_some_iff.mp hp).1
          rw [row_len ok hql] at hi
          rw [row_cell ok hql hi] at hp
          cases hp
          have hin := o.done k q i hk hq hi
          refine ⟨_, _, hg_name, by decide, ev_tup (ea_cons (ev_dGet (m := nmF os f 0) (.inr ⟨p1, rfl⟩) (hlk rfl (.step hrq hi) (ev_fst (p := stepR rows q i) (ev_var rfl))) ?_) (ea_cons (ev_snd (p := stepR rows q i) (ev_var rfl)) ea_nil)) (by show 2 ≤ 1000000; decide)⟩
          rw [look_nm, if_pos hin, Nat.zero_add]
        · subst e
          refine ⟨hk, _, _, _, rfl, ?_⟩
          rw [List.take_add_one, hsk, List.map_append]
          rfl
      · rintro env ⟨_, ds, x, y, rfl, rfl⟩
        have hsl : (smallOf rows f os).length = os.length := by unfold smallOf; rw [List.length_map]
        rw [List.length_map, ← hsl, List.take_length]
        refine hs_ret (ev_tup (ea_cons (ev_var rfl) (ea_cons (ev_tupOf (es_var (.inr ⟨p3, rfl⟩))) ea_nil)) (by show 2 ≤ 1000000; decide)) fun d e => ⟨_, e, sok, sl, sx, sc⟩
end
end SS
namespace SS
open PySem PySem.Spec PyProof.Rows L2 DL
section
variable {K : PySem.W.Frag} {B0 H0 : Hp} {c : Cn} {env : List Sl} {ta tb tx : TE} {m q x : Nat} {rows : List Row}
theorem tells_list {α : Type} [DecidableEq α] {f : α → D} (t : Tells f) (h : ∀ a, (f a).depth ≤ 50) : Tells (fun xs : List α => PyData.list (xs.map f)) where
  eqv := fun a b => by
    rw [PyData.eqv]
    exact t.all a b
  lay := fun a => SeqAt.canLay_of_shaped (t.shapedL a)
  dep := fun a => by
    rw [PyData.depth]
    have : PyData.depthAll (a.map f) ≤ 50 := depthAll_of fun d hd => by
      obtain ⟨z, _, rfl⟩ := List.mem_map.mp hd
      exact h z
    omega
  nod := fun a => by
    rw [PyData.hasDict]
    exact t.nodL a
theorem nt_dep (a : Nat) : (nt a).depth ≤ 50 := by
  show (PyData.int (a : Int)).depth ≤ 50
  rw [PyData.depth]
  omega
theorem tells_L : Tells encL := tells_list tells_nt nt_dep
theorem tells_W : Tells encW := tells_tuple tells_nt nt_dep
theorem tells_P : Tells encP where
  eqv := fun a b => by
    have := tells_W.eqv [a.1, a.2] [b.1, b.2]
    refine this.trans (decide_eq_decide.mpr ⟨fun h => ?_, fun h => by rw [h]⟩)
    obtain ⟨a1, a2⟩ := a
    obtain ⟨b1, b2⟩ := b
    injection h with h1 h2
    injection h2 with h2 h3
    rw [show a1 = b1 from h1, show a2 = b2 from h2]
  lay := fun a => tells_W.lay [a.1, a.2]
  dep := fun a => tells_W.dep [a.1, a.2]
  nod := fun a => tells_W.nod [a.1, a.2]
theorem pow4 (h : m ≤ 2) : 2 ^ m ≤ 4 := Nat.pow_le_pow_right (by decide : 0 < 2) h
theorem ev_shl1 (h : Ev c ta env (nt m)) (hm : m ≤ 2) : Ev c (tOp (rI CPow fun i j => .int (i * 2 ^ j.toNat)) (tC (.int 1)) ta) env (nt (2 ^ m)) := (ev_op (ev_nat 1) h (opd_shl (by omega) (by decide))).imp fun d e => by rw [e, Nat.one_mul]
/-- [row[letter][0] for row in small[1]] -/
theorem en_tgs {i j k : Nat} (ok : Ok m rows) (hx : x < 2 ^ m) (h0 : Ev c (tVar i) env (encM m rows)) (hj : ∀ d, Ev c (tVar j) ((wipeE env [k]).set k (.dat d)) (nt x)) (hk : k < env.length) :
    EvN c (tLc (iSeq c.K (tOp (rIx c.K) (tVar i) (tC (.int 1)))) (gName k) tYes (tOp (rIx c.K) (tOp (rIx c.K) (tVar k) (tVar j)) (tC (.int 0))) [k]) env (fun e => e = (tgs rows x).map nt) :=
  en_lcV (ei_seqT (ds := rows.map encR) (ev_rows h0)) (by rw [List.length_map]; have := ok.few; omega) (by rw [List.length_map, List.length_map, tgs_len]) fun i d y hd hy => by
    obtain ⟨r, hr, rfl⟩ := map_at hd
    obtain ⟨t, ht, rfl⟩ := map_at hy
    have hi := (List.getElem?_eq_some_iff.mp hr).1
    rw [tgs_at hi] at ht
    cases ht
    have hc := row_cell ok hi hx
    rw [row_at hi] at hr
    cases hr
    refine ⟨_, _, hg_name, fun z hz => hz, ?_⟩
    refine ev_fst (p := stepR rows i x) (ev_cell (ev_var ?_) (hj _) hc)
    exact List.getElem?_set_self (by unfold wipeE; unfold wipeE; rw [List.length_set]; exact hk)
theorem h_targets_by (a : AT) (hp : OkT a) : HS (pureCn K B0 H0) (t_targets_by K) [.dat (encM a.m a.rows), .dat (nt a.x), .no] { rt := fun d => d = encL (tgs a.rows a.x), nx := fun _ => (PyData.none : D) = encL (tgs a.rows a.x) } := by
  obtain ⟨m, rows, x⟩ := a
  obtain ⟨ok, hx⟩ := hp
  exact hs_ret (ev_new (en_tgs (m := m) (rows := rows) (x := x) ok hx (ev_var rfl) (fun d => ev_var rfl) (by show 2 < 3; decide))) fun d e => e
theorem h_stays (a : AT) (hp : OkT a) : HS (pureCn K B0 H0) (t_stays K) [.dat (encM a.m a.rows), .dat (nt a.x)] { rt := fun d => d = .bool (isStay a.rows a.x), nx := fun _ => (PyData.none : D) = .bool (isStay a.rows a.x) } := by
  obtain ⟨m, rows, x⟩ := a
  have ok := hp.ok
  dsimp only at ok ⊢
  have hf := ok.few
  refine hs_ret (ev_op (a := encL (tgs rows x)) (b := encL (List.range rows.length)) (ev_call (α := AT) ⟨m, rows, x⟩ (ea_cons (ev_var rfl) (ea_cons (ev_var rfl) ea_nil)) hp) (ev_new (en_listRg (n := rows.length) (ev_lenT' (ev_rows (m := m) (ev_var rfl))) (by omega))) (opd_eqM tells_L)) fun d e => e
theorem h_sets_or_stays (a : AT) (hp : OkT a) : HS (pureCn K B0 H0) (t_sets_or_stays K) [.dat (encM a.m a.rows), .dat (nt a.x), .no] { rt := fun d => d = .bool (isStay a.rows a.x || isSet a.rows a.x), nx := fun _ => (PyData.none : D) = .bool (isStay a.rows a.x || isSet a.rows a.x) } := by
  obtain ⟨m, rows, x⟩ := a
  have ok := hp.ok
  dsimp only at ok ⊢
  have hf := ok.few
  have h0 := ok.pos
  refine hs_seq (hs_set (ev_call (α := AT) ⟨m, rows, x⟩ (ea_cons (ev_var rfl) (ea_cons (ev_var rfl) ea_nil)) hp) fun d e => ?_)
  subst e
  refine hs_ret (ev_orV (x := isStay rows x) (y := isSet rows x) (ev_call (α := AT) ⟨m, rows, x⟩ (ea_cons (ev_var rfl) (ea_cons (ev_var rfl) ea_nil)) hp) fun _ => ?_) fun d e => e
  have hlen : Ev (pureCn K B0 H0) (tCB (rLn K) (tCons (tVar 2) tNil)) [.dat (encM m rows), .dat (nt x), .dat (encL (tgs rows x))] (nt rows.length) := by
    have := ev_len (c := pureCn K B0 H0) (es_of (ds := (tgs rows x).map nt) (ev_var (i := 2) (env := [.dat (encM m rows), .dat (nt x), .dat (encL (tgs rows x))]) rfl))
    rw [List.length_map, tgs_len] at this
    exact this
  refine ev_op (a := encL (tgs rows x)) (b := encL (List.replicate rows.length (stp rows 0 x))) (ev_var rfl) (ev_new (en_repP (k := ((rows.length : Nat) : Int)) (en_lst (ea_cons (ev_ixLm (f := nt) (xs := tgs rows x) (n := 0) (es_of (ev_var rfl)) ev_int (tgs_at h0)) ea_nil) (by show 1 ≤ 1000000; decide)) hlen (by omega) fun y e => ?_)) (opd_eqM tells_L)
  subst e
  refine ⟨by rw [Int.toNat_natCast]; show 1 * _ ≤ _; omega, ?_⟩
  rw [Int.toNat_natCast, List.map_replicate, List.flatten_replicate_singleton]
theorem shaped_sub {F : D → Bool} (n : Nat) : SeqAt.shaped (.list ((rangeD n).filter F)) = true ∧ PyData.hasDictAll ((rangeD n).filter F) = false := by
  obtain ⟨ns, e, _⟩ := kinds (f := nt) (R := fun _ => True) (ls := (rangeD n).filter F) fun y hy => by
    have hy := (List.mem_filter.mp hy).1
    rw [rangeD_nt] at hy
    obtain ⟨k, _, rfl⟩ := List.mem_map.mp hy
    exact ⟨k, rfl, trivial⟩
  rw [e]
  exact ⟨tells_nt.shapedL ns, tells_nt.nodL ns⟩
def toN : D → Nat
  | .int z => z.toNat
  | _ => 0
theorem h_setters (a : AM) (ok : Ok a.1 a.2) : HS (pureCn K B0 H0) (t_setters K) [.dat (encM a.1 a.2), .no, .no, .no] { rt := fun d => ∃ b, d = .bool b ∧ (b = true ↔ Setter a.1 a.2), nx := fun _ => ∃ b, (PyData.none : D) = .bool b ∧ (b = true ↔ Setter a.1 a.2) } := by
  obtain ⟨m, rows⟩ := a
  dsimp only at ok ⊢
  have hm := ok.m2
  refine hs_seq (hs_set (ev_call (α := AM) (m, rows) (ea_cons (ev_var rfl) ea_nil) ok) fun d ⟨small, e, sok, sl, _⟩ => ?_)
  subst e
  refine hs_seq (hs_setV (d := .list ((rangeD (2 ^ m)).filter fun d => !(isStay small (toN d) || isSet small (toN d)))) (ev_new ((en_lcF (F := fun d => !(isStay small (toN d) || isSet small (toN d))) (f := id) (ei_range (n := 2 ^ m) (ev_shl1 (ev_many (rows := small) (ev_var rfl)) hm) (by have := pow4 hm; omega)) (by rw [rangeD_len]; have := pow4 hm; omega) fun i d hd => ?_).imp fun ds e => by rw [e, List.map_id])) ?_)
  · obtain ⟨rfl, hi⟩ := rangeD_at hd
    refine ⟨_, _, hg_name, by decide, (et_not (et_B (ev_call (α := AT) ⟨m, small, i⟩ (ea_cons (ev_var rfl) (ea_cons (ev_var rfl) ea_nil)) ⟨sok, hi⟩))).is ?_, fun _ => ev_var rfl⟩
    show (!(isStay small i || isSet small i)) = !(isStay small ((i : Nat) : Int).toNat || isSet small ((i : Nat) : Int).toNat)
    rw [Int.toNat_natCast]
  · obtain ⟨s1, s2⟩ := shaped_sub (F := fun d => !(isStay small (toN d) || isSet small (toN d))) (2 ^ m)
    refine hs_ret (ev_eqNil (es_of (ev_var rfl)) s1 s2) fun d e => ⟨_, e, ?_⟩
    rw [← sl.setter]
    constructor
    · intro h x hx
      rw [List.isEmpty_iff, List.filter_eq_nil_iff] at h
      have := h (nt x) (by rw [rangeD_nt]; exact List.mem_map.mpr ⟨x, List.mem_range.mpr hx, rfl⟩)
      have h2 : ¬ ((!(isStay small ((x : Nat) : Int).toNat || isSet small ((x : Nat) : Int).toNat)) = true) := this
      rw [Int.toNat_natCast, Bool.not_eq_true', Bool.not_eq_false, Bool.or_eq_true] at h2
      exact h2
    · intro h
      rw [List.isEmpty_iff, List.filter_eq_nil_iff]
      intro d hd
      rw [rangeD_nt] at hd
      obtain ⟨x, hx, rfl⟩ := List.mem_map.mp hd
      show ¬ ((!(isStay small ((x : Nat) : Int).toNat || isSet small ((x : Nat) : Int).toNat)) = true)
      rw [Int.toNat_natCast, Bool.not_eq_true', Bool.not_eq_false, Bool.or_eq_true]
      exact h x (List.mem_range.mp hx)
/-- tuple(range(n)) -/
theorem ev_tupRg {n : Nat} (h : Ev c ta env (nt n)) (hn : n ≤ 1000000) : Ev c (tTupRg (tRg1 ta)) env (.tuple (rangeD n)) := fun σ B H A e Q q =>
  h σ B H A e _ fun v d B1 H1 x1 r1 t1 p1 => by
    subst p1
    rw [dp_int_inv t1]
    refine ⟨(n : Int), rfl, RgOk.of_le (by omega) (by omega) (by omega) (by omega), fun p hp => ?_⟩
    obtain ⟨x2, r2⟩ := (A.go x1 r1).new (o := .tup (rgV 0 (n : Int))) hp
    refine q (.ref p) (.tuple (rangeD n)) _ _ (x1.trans x2) r2 (.tup (SqT.of upd_same) ?_) rfl
    have e1 : rgV 0 (n : Int) = ((List.range n).map fun (k : Nat) => (k : Int)).map V.int := by
      unfold rgV
      rw [List.map_map]
      have : ((n : Int) - 0).toNat = n := by omega
      rw [this]
      refine List.map_congr_left fun k _ => ?_
      show V.int (0 + (k : Int)) = V.int (k : Int)
      rw [Int.zero_add]
    have e2 : rangeD n = ((List.range n).map fun (k : Nat) => (k : Int)).map PyData.int := by unfold rangeD; rw [List.map_map]; rfl
    rw [e1, e2]
    exact dps_ints _
/-! ### the law's own look -/
end
end SS
namespace DL
open PySem PySem.Spec PyProof.Rows L2
/-- a, b, c = (x, y, z) where the tuple itself is made -/
theorem hs_tup3 {c : Cn} {env : List Sl} {o : Po} {i j l : Nat} {ta : TA} {P : List Sl → Prop} (h : EvAS c ta env P) (k : ∀ ss, P ss → ∃ s1 s2 s3, ss = [s1, s2, s3] ∧ o.nx (((env.set i s1).set j s2).set l s3)) : HS c (tAsg (tTup ta) (gTup c.K 3 (gCons (gName i) (gCons (gName j) (gCons (gName l) gNil))))) env o := fun X σ B H A e g =>
  h σ B H A e _ fun vs ss B1 H1 x1 r1 s1 n1 f1 p1 => by
    obtain ⟨a, b, d, rfl, kk⟩ := k ss p1
    match vs, s1 with
    | [v, w, u], s1 =>
      refine ⟨by show 3 ≤ sizeLine; decide, fun t ht => ?_⟩
      obtain ⟨x2, r2⟩ := (A.go x1 r1).newOwn (o := .tup [v, w, u]) ht
      refine ⟨t, [v, w, u], rfl, SqT.of upd_same, rfl, ?_⟩
      obtain ⟨g1, g2, g3, _⟩ := SlsOk.go x2 s1
      have e1 := (e.go x1).go x2
      have live : ∀ p ∈ owns env, H p ≠ none := fun p hp => e.live hp
      have nd := n1
      rw [owns_one, owns_one (s := b)] at nd
      obtain ⟨nd1, nd2, nd3⟩ := List.nodup_append.mp nd
      obtain ⟨nd4, nd5, nd6⟩ := List.nodup_append.mp nd2
      have fr : ∀ p, p ∈ owns [a] ∨ p ∈ owns [b] ∨ p ∈ owns [d] → H p = none := fun p hp => (f1 p (by
        rw [owns_one, owns_one (s := b)]
        rcases hp with h | h | h
        · exact List.mem_append_left _ h
        · exact List.mem_append_right _ (List.mem_append_left _ h)
        · exact List.mem_append_right _ (List.mem_append_right _ h))).1
      obtain ⟨e2, m2⟩ := e1.store (i := i) g1 fun p hp z => live p z (fr p (.inl hp))
      obtain ⟨e3, m3⟩ := e2.store (i := j) g2 fun p hp z => by
        rcases m2 p z with z | z
        · exact nd3 p z p (List.mem_append_left _ hp) rfl
        · exact live p z (fr p (.inr (.inl hp)))
      obtain ⟨e4, _⟩ := e3.store (i := l) g3 fun p hp z => by
        rcases m3 p z with z | z
        · exact nd6 p z p hp rfl
        · rcases m2 p z with z | z
          · exact nd3 p z p (List.mem_append_right _ hp) rfl
          · exact live p z (fr p (.inr (.inr hp)))
      exact ⟨v, [w, u], rfl, w, [u], rfl, u, [], rfl, rfl, g.nx _ B1 _ _ (x1.b.trans x2.b) ((A.go x1 r1).go x2 r2) e4 kk⟩
end DL
namespace SS
open PySem PySem.Spec PyProof.Rows L2 DL
section
variable {K : PySem.W.Frag} {B0 H0 : Hp} {c : Cn} {env : List Sl} {ta tb tx : TE} {m q x : Nat} {rows : List Row}
theorem of_dec {p : Prop} {i : Decidable p} (h : @decide p i = true) : p := of_decide_eq_true h
abbrev Sgn := Nat × List (Nat × Nat)
def encS (s : Sgn) : D := .tuple (nt s.1 :: s.2.map encP)
theorem tells_S : Tells encS where
  eqv := fun a b => by
    show PyData.eqv (.tuple _) (.tuple _) = _
    rw [PyData.eqv, PyData.eqvAll, tells_nt.eqv, tells_P.all, ← Bool.decide_and]
    exact decide_eq_decide.mpr ⟨fun ⟨h1, h2⟩ => Prod.ext h1 h2, fun h => by rw [h]; exact ⟨rfl, rfl⟩⟩
  lay := fun a => by
    show (PyData.tuple _).canLay0 = true
    rw [PyData.canLay0]
    exact canAll_of fun d hd => by
      rcases List.mem_cons.mp hd with e | h
      · rw [e]; exact tells_nt.lay _
      · obtain ⟨p, _, rfl⟩ := List.mem_map.mp h
        exact tells_P.lay p
  dep := fun a => by
    show (PyData.tuple _).depth ≤ 60
    rw [PyData.depth]
    have : PyData.depthAll (nt a.1 :: a.2.map encP) ≤ 59 := depthAll_of fun d hd => by
      rcases List.mem_cons.mp hd with e | h
      · rw [e]; exact Nat.le_trans (nt_dep _) (by decide)
      · obtain ⟨p, _, rfl⟩ := List.mem_map.mp h
        show (PyData.tuple [nt p.1, nt p.2]).depth ≤ 59
        rw [PyData.depth]
        have : PyData.depthAll [nt p.1, nt p.2] ≤ 50 := depthAll_of fun d hd => by
          rcases List.mem_cons.mp hd with e | h
          · rw [e]; exact nt_dep _
          · rw [List.mem_singleton.mp h]; exact nt_dep _
        omega
    omega
  nod := fun a => by
    show (PyData.tuple _).hasDict = false
    rw [PyData.hasDict]
    exact hasAll_of fun d hd => by
      rcases List.mem_cons.mp hd with e | h
      · rw [e]; exact tells_nt.nod _
      · obtain ⟨p, _, rfl⟩ := List.mem_map.mp h
        exact tells_P.nod p
def sgn (rows : List Row) (f : Nat → Nat) (q : Nat) : Sgn := (f q, (rowAt rows q).map fun p => (f p.1, p.2))
/-- a round of the law's refinement: L is done -/
structure Rnd (rows : List Row) (f : Nat → Nat) (L : List Nat) (sg : List Sgn) (fr : List Nat) (f' : Nat → Nat) : Prop where
  len : fr.length = rows.length
  at_ : ∀ q ∈ L, fr[q]? = some (f' q) ∧ sg[f' q]? = some (sgn rows f q)
  nd : sg.Nodup
  on : ∀ i, i < sg.length → ∃ q ∈ L, f' q = i
  z : L[0]? = some 0 → f' 0 = 0
theorem idx_first {α : Type} [BEq α] [LawfulBEq α] {a : α} {l : List α} (h : a ∈ l) (hn : l.Nodup) : l[l.idxOf a]? = some a ∧ ∀ m, m < l.idxOf a → l[m]? ≠ some a := by
  have hi := List.idxOf_lt_length_of_mem h
  have h1 : l[l.idxOf a]? = some a := by rw [List.getElem?_eq_getElem hi, List.getElem_idxOf hi]
  refine ⟨h1, fun m hm e => ?_⟩
  have := nodup_inj hn h1 e
  omega
/-- the law's least machine by marks -/
def repOf (os : List Nat) (f : Nat → Nat) (k : Nat) : Nat := ((os.filter fun q => decide (f q = k))[0]?).getD 0
def lawSmall (rows : List Row) (os : List Nat) (f : Nat → Nat) (n : Nat) : List Row := (List.range n).map fun k => (rowAt rows (repOf os f k)).map fun p => (f p.1, p.2)
theorem rep_ok {os : List Nat} {f : Nat → Nat} {n k : Nat} (o : Onto os f n) (hk : k < n) : (os.filter fun q => decide (f q = k))[0]? = some (repOf os f k) ∧ repOf os f k ∈ os ∧ f (repOf os f k) = k := by
  obtain ⟨p, hp, e⟩ := o.on k hk
  have hm : p ∈ os.filter fun q => decide (f q = k) := List.mem_filter.mpr ⟨hp, decide_eq_true e⟩
  cases hl : os.filter fun q => decide (f q = k) with
  | nil => rw [hl] at hm; cases hm
  | cons a r =>
    have ha : a ∈ os.filter fun q => decide (f q = k) := by rw [hl]; exact List.mem_cons_self
    have hr : repOf os f k = a := by unfold repOf; rw [hl]; rfl
    rw [hr]
    obtain ⟨h1, h2⟩ := List.mem_filter.mp ha
    exact ⟨rfl, h1, of_decide_eq_true h2⟩
theorem lawSmall_ok (ok : Ok m rows) {os : List Nat} {f : Nat → Nat} {n : Nat} (st : IsSt m rows os) (o : Onto os f n) (hn : n ≤ 24) (hf : ∀ p q, p ∈ os → q ∈ os → (f p = f q ↔ Eqv m rows p q)) : Ok m (lawSmall rows os f n) ∧ Least m rows (lawSmall rows os f n) := by
  have hlt : ∀ a ∈ os, a < rows.length := fun a ha => rch_lt ok ((st.rch a).mp ha)
  have hsl : (lawSmall rows os f n).length = n := by unfold lawSmall; rw [List.length_map, List.length_range]
  have cl : ∀ a x, a ∈ os → x < 2 ^ m → stp rows a x ∈ os := fun a x ha hx => (st.rch _).mpr (.step ((st.rch a).mp ha) hx)
  have h0 : 0 ∈ os := (st.rch 0).mpr .zero
  have hr : ∀ i, i < n → ((List.range n).map (repOf os f))[i]? = some (repOf os f i) := fun i hi => by rw [List.getElem?_map, List.getElem?_range hi]; rfl
  have cell : ∀ i x, i < n → x < 2 ^ m → stepR (lawSmall rows os f n) i x = (f (stp rows (repOf os f i) x), out rows (repOf os f i) x) := fun i x hi hx => by
    have ha := hlt _ (rep_ok o hi).2.1
    unfold stepR lawSmall
    rw [List.getElem?_map, List.getElem?_range hi]
    show (((rowAt rows (repOf os f i)).map _)[x]?).getD (0, 0) = _
    rw [List.getElem?_map, row_cell ok ha hx]
    rfl
  refine ⟨⟨ok.m2, ?_, by omega, fun r hr => ?_, fun r hr p hp => ?_⟩, (List.range n).map (repOf os f), ⟨fun q hq => ?_, fun i j a b ha hb e => ?_, fun q hq => ?_⟩, by rw [hsl, List.length_map, List.length_range], fun r hr => ?_, fun i a x ha hx => ?_⟩
  · have := o.lt 0 h0
    omega
  · obtain ⟨k, hk, rfl⟩ := List.mem_map.mp hr
    rw [List.length_map, row_len ok (hlt _ (rep_ok o (List.mem_range.mp hk)).2.1)]
  · obtain ⟨k, hk, rfl⟩ := List.mem_map.mp hr
    have hm := (rep_ok o (List.mem_range.mp hk)).2.1
    obtain ⟨p', hp', rfl⟩ := List.mem_map.mp hp
    obtain ⟨x, hx⟩ := List.mem_iff_getElem?.mp hp'
    have hxl := (List.getElem?_eq_some_iff.mp hx).1
    rw [row_len ok (hlt _ hm)] at hxl
    rw [row_cell ok (hlt _ hm) hxl] at hx
    cases hx
    refine ⟨by rw [hsl]; exact o.lt _ (cl _ x hm hxl), ?_⟩
    obtain ⟨_, _, _, _, h⟩ := step_at ok (hlt _ hm) hxl
    exact h
  · obtain ⟨k, hk, rfl⟩ := List.mem_map.mp hq
    exact (st.rch _).mp (rep_ok o (List.mem_range.mp hk)).2.1
  · have hi := (List.getElem?_eq_some_iff.mp ha).1
    have hj := (List.getElem?_eq_some_iff.mp hb).1
    rw [List.length_map, List.length_range] at hi hj
    rw [hr i hi] at ha
    rw [hr j hj] at hb
    cases ha
    cases hb
    have := (hf _ _ (rep_ok o hi).2.1 (rep_ok o hj).2.1).mpr e
    rw [(rep_ok o hi).2.2, (rep_ok o hj).2.2] at this
    exact this
  · have hq' := (st.rch q).mpr hq
    have hk := o.lt q hq'
    exact ⟨repOf os f (f q), List.mem_map.mpr ⟨f q, List.mem_range.mpr hk, rfl⟩, (hf _ _ hq' (rep_ok o hk).2.1).mp (rep_ok o hk).2.2.symm⟩
  · obtain ⟨k, hk, rfl⟩ := List.mem_map.mp hr
    rw [List.length_map, row_len ok (hlt _ (rep_ok o (List.mem_range.mp hk)).2.1)]
  · have hi := (List.getElem?_eq_some_iff.mp ha).1
    rw [List.length_map, List.length_range] at hi
    rw [hr i hi] at ha
    cases ha
    have hm := (rep_ok o hi).2.1
    have hc := cell i x hi hx
    have hk := o.lt _ (cl _ x hm hx)
    refine ⟨repOf os f (f (stp rows (repOf os f i) x)), ?_, (hf _ _ (rep_ok o hk).2.1 (cl _ x hm hx)).mp (rep_ok o hk).2.2, ?_⟩
    · show _[(stepR (lawSmall rows os f n) i x).1]? = _
      rw [hc]
      exact hr _ hk
    · show (stepR (lawSmall rows os f n) i x).2 = _
      rw [hc]
theorem lawSmall_root (ok : Ok m rows) {os : List Nat} {f : Nat → Nat} {n : Nat} (st : IsSt m rows os) (o : Onto os f n) (hf : ∀ p q, p ∈ os → q ∈ os → (f p = f q ↔ Eqv m rows p q)) (h0 : f 0 = 0) : EqX m (lawSmall rows os f n) rows 0 0 := by
  have hlt : ∀ a ∈ os, a < rows.length := fun a ha => rch_lt ok ((st.rch a).mp ha)
  have cl : ∀ a x, a ∈ os → x < 2 ^ m → stp rows a x ∈ os := fun a x ha hx => (st.rch _).mpr (.step ((st.rch a).mp ha) hx)
  have cell : ∀ i x, i < n → x < 2 ^ m → stepR (lawSmall rows os f n) i x = (f (stp rows (repOf os f i) x), out rows (repOf os f i) x) := fun i x hi hx => by
    have ha := hlt _ (rep_ok o hi).2.1
    unfold stepR lawSmall
    rw [List.getElem?_map, List.getElem?_range hi]
    show (((rowAt rows (repOf os f i)).map _)[x]?).getD (0, 0) = _
    rw [List.getElem?_map, row_cell ok ha hx]
    rfl
  have key : ∀ k q, q ∈ os → EkX m (lawSmall rows os f n) rows k (f q) q := by
    intro k
    induction k with
    | zero => intro q _; trivial
    | succ k ih =>
      intro q hq x hx
      have hi := o.lt q hq
      obtain ⟨_, r2, r3⟩ := rep_ok o hi
      have e := (hf _ _ r2 hq).mp r3
      have hc := cell (f q) x hi hx
      show (stepR (lawSmall rows os f n) (f q) x).2 = _ ∧ EkX m _ rows k (stepR (lawSmall rows os f n) (f q) x).1 _
      rw [hc]
      refine ⟨e.out hx, ?_⟩
      have := (hf _ _ (cl _ x r2 hx) (cl q x hq hx)).mpr (e.step hx)
      show EkX m _ rows k (f (stp rows (repOf os f (f q)) x)) _
      rw [this]
      exact ih _ (cl q x hq hx)
  intro k
  have := key k 0 ((st.rch 0).mpr .zero)
  rw [h0] at this
  exact this
theorem h_law_small (a : AM) (ok : Ok a.1 a.2) : HS (pureCn K B0 H0) (t_law_small K) [.dat (encM a.1 a.2), .no, .no, .no, .no, .no, .no, .no, .no, .no, .no, .no, .no, .no, .no]
    { rt := fun d => ∃ small, d = encM a.1 small ∧ Ok a.1 small ∧ Least a.1 a.2 small ∧ EqX a.1 small a.2 0 0, nx := fun _ => ∃ small, (PyData.none : D) = encM a.1 small ∧ Ok a.1 small ∧ Least a.1 a.2 small ∧ EqX a.1 small a.2 0 0 } := by
  obtain ⟨m, rows⟩ := a
  dsimp only at ok ⊢
  have hm := ok.m2
  have hf24 := ok.few
  have h4 := pow4 hm
  refine hs_seq (hs_asg (ev_var (d := encM m rows) rfl) fun d e => ?_)
  subst e
  refine ⟨_, _, hg_tup (hgs_cons hg_name (hgs_cons hg_name hgs_nil)) rfl, ?_⟩
  refine hs_seq (hs_tup2 (eas_own (en_lst (ea_cons (ev_nat 0) ea_nil) (by show 1 ≤ 1000000; decide)) (eas_dat (ev_nat 0) eas_nil)) fun ss ⟨p1, ds, r, e1, e2, d, r2, e3, e4, e5⟩ => ?_)
  subst e1 e2 e3 e4 e5
  refine ⟨_, _, rfl, ?_⟩
  have idm : ∀ os : List Nat, os.map (fun q => q) = os := fun os => List.map_id' os
  have o0 : Ord m rows (fun q => q) [0] 0 0 := ⟨fun a h => by rw [List.mem_singleton.mp h]; exact .zero, by simp, rfl, fun j a x h => absurd h (Nat.not_lt_zero _), fun a x _ h => absurd h (Nat.not_lt_zero _)⟩
  -- the states that are reached
  refine hs_seq (hs_while (fun M env => ∃ os i ds x y, env = [.dat (encM m rows), .dat (nt m), .dat (encT rows), .own p1 ds, .dat (nt i), x, y, .no, .no, .no, .no, .no, .no, .no, .no] ∧ ds = os.map nt ∧ Ord m rows (fun q => q) os i 0 ∧ i ≤ os.length ∧ M = rows.length - i) rows.length
    ⟨[0], 0, _, _, _, rfl, rfl, o0, Nat.zero_le _, rfl⟩ ?_)
  rintro M env ⟨os, i, ds, x, y, rfl, rfl, o, hi, hM⟩
  have hfew := o.few ok
  have hlen : ∀ {env : List Sl} {os : List Nat}, env[3]? = some (.own p1 (os.map nt)) → Ev (pureCn K B0 H0) (tCB (rLn K) (tCons (tVar 3) tNil)) env (nt os.length) := fun {env os} h => by
    have := ev_len (c := pureCn K B0 H0) (es_var (ds := os.map nt) (.inr ⟨p1, h⟩))
    rw [List.length_map] at this
    exact this
  refine ⟨decide (i < os.length), et_test (ev_op (ev_var rfl) (hlen rfl) opd_ltN), fun hb => ?_, fun hb => ?_⟩
  · have hlt := of_decide_eq_true hb
    obtain ⟨q, hq⟩ : ∃ q, os[i]? = some q := ⟨os[i], List.getElem?_eq_getElem hlt⟩
    have hrq := o.rch q (List.mem_of_getElem? hq)
    have hql := rch_lt ok hrq
    refine hs_seq (hs_for (ds := (rowAt rows q).map encP) (fun k env => k ≤ 2 ^ m ∧ ∃ os ds x y, env = [.dat (encM m rows), .dat (nt m), .dat (encT rows), .own p1 ds, .dat (nt i), x, y, .no, .no, .no, .no, .no, .no, .no, .no] ∧ ds = os.map nt ∧ Ord m rows (fun q => q) os i k ∧ os[i]? = some q)
      (ei_seqT (ev_row (ev_var rfl) (ev_ixLm (f := nt) (xs := os) (n := i) (es_var (.inr ⟨p1, rfl⟩)) (ev_var rfl) hq) (row_at hql))) ⟨Nat.zero_le _, os, _, _, _, rfl, rfl, o, hq⟩ ?_ ?_)
    · rintro k d env hd ⟨_, os, ds, x, y, rfl, rfl, o, hq⟩
      obtain ⟨pr, hpr, rfl⟩ := map_at hd
      have hk := (List.getElem?_eq_some_iff.mp hpr).1
      rw [row_len ok hql] at hk
      rw [row_cell ok hql hk] at hpr
      cases hpr
      have hrs : Rch m rows (stp rows q k) := .step hrq hk
      refine ⟨_, _, hg_tup (n := 2) (hgs_cons hg_name (hgs_cons hg_name hgs_nil)) rfl, ?_⟩
      refine hs_if (et_test (ev_notInM tells_nt (x := stp rows q k) (xs := os) (ev_var rfl) (es_var (.inr ⟨p1, rfl⟩)))) (fun hb => ?_) (fun hb => ?_)
      · rw [Bool.not_eq_true', decide_eq_false_iff_not] at hb
        have hfew := o.few ok
        refine hs_app (i := 3) rfl (by rw [List.length_map]; omega) (ev_var rfl) fun d e => ?_
        subst e
        have hold : ∀ (j a : Nat), j ≤ i → (os ++ [stp rows q k])[j]? = some a → os[j]? = some a := fun j a hj h => by
          have := (List.getElem?_eq_some_iff.mp hq).1
          rw [List.getElem?_append_left (by omega)] at h
          exact h
        have hq' : (os ++ [stp rows q k])[i]? = some q := by rw [List.getElem?_append_left (List.getElem?_eq_some_iff.mp hq).1]; exact hq
        refine ⟨hk, os ++ [stp rows q k], _, _, _, rfl, by rw [List.map_append]; rfl, ⟨fun a ha => ?_, ?_, by rw [List.getElem?_append_left (List.getElem?_eq_some_iff.mp o.zero).1]; exact o.zero, fun j a x hj h hx => ?_, fun a x h hx => ?_⟩, hq'⟩
        · rcases List.mem_append.mp ha with ha | ha
          · exact o.rch a ha
          · rw [List.mem_singleton.mp ha]; exact hrs
        · have := o.nd
          rw [idm] at this ⊢
          exact List.nodup_append.mpr ⟨this, by simp, fun a ha b hb' e => hb (by rw [← List.mem_singleton.mp hb', ← e]; exact ha)⟩
        · have := o.done j a x hj (hold j a (by omega) h) hx
          rw [idm] at this ⊢
          exact List.mem_append_left _ this
        · have ha := hold i a (Nat.le_refl _) h
          rw [hq] at ha
          cases ha
          rw [idm]
          by_cases hxk : x = k
          · rw [hxk]
            exact List.mem_append_right _ (List.mem_singleton.mpr rfl)
          · have := o.now q x hq (by omega)
            rw [idm] at this
            exact List.mem_append_left _ this
      · rw [Bool.not_eq_false', decide_eq_true_eq] at hb
        refine hs_next ⟨hk, os, _, _, _, rfl, rfl, ⟨o.rch, o.nd, o.zero, o.done, fun a x h hx => ?_⟩, hq⟩
        rw [hq] at h
        cases h
        by_cases hxk : x = k
        · rw [hxk, idm]; exact hb
        · exact o.now q x hq (by omega)
    · rintro env ⟨_, os, ds, x, y, rfl, rfl, o, hq⟩
      rw [List.length_map, row_len ok hql] at o
      have hfew := o.few ok
      have hil := (List.getElem?_eq_some_iff.mp hq).1
      refine hs_setV (ev_op (ev_var rfl) (ev_nat 1) opd_addN) ?_
      refine ⟨rows.length - (i + 1), by omega, os, i + 1, _, _, _, rfl, rfl, ⟨o.rch, o.nd, o.zero, fun j a x hj h hx => ?_, fun a x _ h => absurd h (Nat.not_lt_zero _)⟩, hil, rfl⟩
      by_cases hji : j = i
      · subst hji
        exact o.now a x h hx
      · exact o.done j a x (by omega) h hx
  have hge := of_decide_eq_false hb
  have hio : i = os.length := by omega
  subst hio
  have hnd : os.Nodup := by have := o.nd; rw [idm] at this; exact this
  have st : IsSt m rows os := ⟨hnd, fun q => ⟨o.rch q, fun h => by
    induction h with
    | zero => exact List.mem_of_getElem? o.zero
    | @step q x _ hx ih =>
      obtain ⟨j, hj⟩ := List.mem_iff_getElem?.mp ih
      have := o.done j q x (List.getElem?_eq_some_iff.mp hj).1 hj hx
      rw [idm] at this
      exact this⟩⟩
  have hlt : ∀ q ∈ os, q < rows.length := fun q hq => rch_lt ok (o.rch q hq)
  have cl : ∀ q x, q ∈ os → x < 2 ^ m → stp rows q x ∈ os := fun q x hq hx => (st.rch _).mpr (.step ((st.rch q).mp hq) hx)
  have h0 : 0 ∈ os := List.mem_of_getElem? o.zero
  refine hs_freeze (i := 3) rfl ?_
  -- marks, kinds, before
  have hz : EvN (pureCn K B0 H0) (tOp rMulU (tLst (tCons (tC (.int 0)) tNil)) (tCB (rLn K) (tCons (tVar 2) tNil))) [.dat (encM m rows), .dat (nt m), .dat (encT rows), .dat (.list (os.map nt)), .dat (nt os.length), x, y, .no, .no, .no, .no, .no, .no, .no, .no] (fun e => e = (List.replicate rows.length 0).map nt) :=
    en_repP (k := ((rows.length : Nat) : Int)) (en_lst (ea_cons (ev_nat 0) ea_nil) (by show 1 ≤ 1000000; decide)) (ev_lenT' (ev_var rfl)) (by omega) fun y e => by
      subst e
      refine ⟨by rw [Int.toNat_natCast]; show 1 * _ ≤ _; omega, ?_⟩
      rw [Int.toNat_natCast, List.map_replicate, List.flatten_replicate_singleton]
  refine hs_seq (hs_tup3 (eas_dat (ev_new hz) (eas_own (en_lst (ea_cons (ev_nat 0) ea_nil) (by show 1 ≤ 1000000; decide)) (eas_dat (ev_nat 0) eas_nil))) fun ss ⟨d, r, e1, e2, p2, ds, r2, e3, e4, d2, r3, e5, e6, e7⟩ => ?_)
  subst e1 e2 e3 e4 e5 e6 e7
  refine ⟨_, _, _, rfl, ?_⟩
  refine hs_seq (hs_while (fun M env => ∃ mk f n pk ks b x y z u v, env = [.dat (encM m rows), .dat (nt m), .dat (encT rows), .dat (.list (os.map nt)), .dat (nt os.length), x, y, .dat (encL mk), .own pk ks, .dat (nt b), z, u, v, .no, .no] ∧ mk.length = rows.length ∧ (∀ q ∈ os, mk[q]? = some (f q)) ∧
      (∀ p q, p ∈ os → q ∈ os → (f p = f q ↔ Ek m rows n p q)) ∧ Onto os f ks.length ∧ (b = 0 ∨ ∃ g n', n = n' + 1 ∧ Onto os g b ∧ ∀ p q, p ∈ os → q ∈ os → (g p = g q ↔ Ek m rows n' p q)) ∧ b ≤ ks.length ∧ ks.length ≤ 24 ∧ M = 24 - b ∧ f 0 = 0) 24
    ⟨List.replicate rows.length 0, fun _ => 0, 0, p2, _, 0, _, _, _, _, _, rfl, List.length_replicate, fun q hq => by rw [List.getElem?_replicate, if_pos (hlt q hq)], fun p q _ _ => ⟨fun _ => trivial, fun _ => rfl⟩, ⟨fun q _ => Nat.one_pos, fun j hj => ⟨0, h0, by have : j < 1 := hj; omega⟩⟩, .inl rfl, Nat.zero_le _, by show 1 ≤ 24; decide, rfl, rfl⟩ ?_)
  rintro M env ⟨mk, f, n, pk, ks, b, x, y, z, u, v, rfl, hmk, hat, hE, ho, hb0, hbk, hk24, hM, hf0⟩
  have hcnt : ∀ {env : List Sl} {p : Addr} {ks : List D}, env[8]? = some (.own p ks) → Ev (pureCn K B0 H0) (tCB (rLn K) (tCons (tVar 8) tNil)) env (nt ks.length) := fun {env p ks} h => ev_len (c := pureCn K B0 H0) (es_var (ds := ks) (.inr ⟨p, h⟩))
  have hpos : 0 < ks.length := by have := ho.lt 0 h0; omega
  refine ⟨!decide (ks.length = b), et_test (ev_op (hcnt rfl) (ev_var rfl) opd_neN), fun hb => ?_, fun hb => ?_⟩
  · rw [Bool.not_eq_true', decide_eq_false_iff_not] at hb
    refine hs_seq (hs_par3 (eas_dat (hcnt rfl) (eas_own (en_lst ea_nil (Nat.zero_le _)) (eas_own (en_lstOf (ds := mk.map nt) (es_of (ev_var rfl))) eas_nil))) fun ss ⟨d, r, e1, e2, p3, ds, r2, e3, e4, p4, ds2, r3, e5, e6, e7⟩ => ?_)
    subst e1 e2 e3 e4 e5 e6 e7
    refine ⟨_, _, _, rfl, ?_⟩
    have hsl : ∀ (k : Nat) (sg : List Sgn) (fr : List Nat) (f' : Nat → Nat), Rnd rows f (os.take k) sg fr f' → sg.length ≤ 24 := fun k sg fr f' rd => by
      obtain ⟨rs, h1, h2, h3, _⟩ := pick_list (L := os.take k) (f := f') (g := fun q => q) (fun p q _ _ h => by rw [h]) sg.length rd.on
      have := nodup_le h3 fun x hx => by
        obtain ⟨r, hr, rfl⟩ := List.mem_map.mp hx
        exact hlt r (List.mem_of_mem_take (h2 r hr).1)
      rw [List.length_map, h1] at this
      omega
    refine hs_seq (hs_for (ds := os.map nt) (fun k env => k ≤ os.length ∧ ∃ ks' fr' x y u v, env = [.dat (encM m rows), .dat (nt m), .dat (encT rows), .dat (.list (os.map nt)), .dat (nt os.length), x, y, .dat (encL mk), .own p3 ks', .dat (nt ks.length), .own p4 fr', u, v, .no, .no] ∧ ∃ sg fr f', ks' = sg.map encS ∧ fr' = fr.map nt ∧ Rnd rows f (os.take k) sg fr f')
      (ei_seqL (ev_var rfl)) ⟨Nat.zero_le _, _, _, _, _, _, _, rfl, [], mk, fun _ => 0, rfl, rfl, ⟨hmk, fun q h => by simp at h, List.nodup_nil, fun i h => absurd h (Nat.not_lt_zero _), fun h => by simp at h⟩⟩ ?_ ?_)
    · rintro k d env hd ⟨_, ks', fr', x, y, u, v, rfl, sg, fr, f', rfl, rfl, rd⟩
      obtain ⟨q, hq, rfl⟩ := map_at hd
      have hk := (List.getElem?_eq_some_iff.mp hq).1
      have hqo := List.mem_of_getElem? hq
      have hql := hlt q hqo
      have hqn := not_take hnd hq
      have htk : os.take (k + 1) = os.take k ++ [q] := by rw [List.take_add_one, hq]; rfl
      refine ⟨_, _, hg_name, ?_⟩
      -- the sign
      refine hs_seq (hs_set (P := fun d => d = encS (sgn rows f q)) ((ev_tupOfP (Pn := fun ds => ds = nt (f q) :: ((rowAt rows q).map fun p => (f p.1, p.2)).map encP) (en_catP (Pa := fun e => e = [nt (f q)]) (Pb := fun e => e = ((rowAt rows q).map fun p => (f p.1, p.2)).map encP) (en_lst (ea_cons (ev_ixLm (f := nt) (xs := mk) (n := q) (es_of (ev_var rfl)) (ev_var rfl) (hat q hqo)) ea_nil) (by show 1 ≤ 1000000; decide))
        (en_lcV (ei_seqT (ds := (rowAt rows q).map encP) (ev_row (ev_var rfl) (ev_var rfl) (row_at hql))) (by rw [List.length_map, row_len ok hql]; omega) (by rw [List.length_map, List.length_map, List.length_map]) fun i d y hd hy => ?_) fun x y ex ey => ?_)).imp fun d ⟨ds, e1, e2⟩ => by rw [e1, e2]; rfl) fun d e => ?_)
      · obtain ⟨pr, hp, rfl⟩ := map_at hd
        obtain ⟨p', hp', rfl⟩ := map_at hy
        rw [List.getElem?_map, hp] at hp'
        cases hp'
        have hi := (List.getElem?_eq_some_iff.mp hp).1
        rw [row_len ok hql] at hi
        rw [row_cell ok hql hi] at hp
        cases hp
        exact ⟨_, _, hg_tup (n := 2) (hgs_cons hg_name (hgs_cons hg_name hgs_nil)) rfl, by simp, ev_tup (ea_cons (ev_ixLm (f := nt) (xs := mk) (n := stp rows q i) (es_of (ev_var rfl)) (ev_var rfl) (hat _ (cl q i hqo hi))) (ea_cons (ev_var rfl) ea_nil)) (by show 2 ≤ 1000000; decide)⟩
      · subst ex ey
        refine ⟨?_, rfl⟩
        rw [List.length_map, List.length_map, row_len ok hql]
        show 1 + _ ≤ _
        omega
      subst e
      have hs24 := hsl k sg fr f' rd
      -- behind the test the sign is one of the kinds
      have rest : ∀ sg' : List Sgn, sg'.Nodup → sgn rows f q ∈ sg' → (∀ p ∈ os.take k, sg'[f' p]? = some (sgn rows f p)) → (∀ i, i < sg'.length → i = sg'.idxOf (sgn rows f q) ∨ ∃ p ∈ os.take k, f' p = i) →
          HS (pureCn K B0 H0) (tAsg (tBM K "list" (rIndexD K) (tVar 8) (tCons (tVar 12) tNil)) (gSub (tVar 10) (tVar 11) rSetL)) [.dat (encM m rows), .dat (nt m), .dat (encT rows), .dat (.list (os.map nt)), .dat (nt os.length), x, y, .dat (encL mk), .own p3 (sg'.map encS), .dat (nt ks.length), .own p4 (fr.map nt), .dat (nt q), .dat (encS (sgn rows f q)), .no, .no]
            { nx := fun env => k + 1 ≤ os.length ∧ ∃ ks' fr' x y u v, env = [.dat (encM m rows), .dat (nt m), .dat (encT rows), .dat (.list (os.map nt)), .dat (nt os.length), x, y, .dat (encL mk), .own p3 ks', .dat (nt ks.length), .own p4 fr', u, v, .no, .no] ∧ ∃ sg fr f', ks' = sg.map encS ∧ fr' = fr.map nt ∧ Rnd rows f (os.take (k + 1)) sg fr f' } := by
        intro sg' hn hmem hold hon
        obtain ⟨i1, i2⟩ := idx_first hmem hn
        refine hs_setItem (i := 10) (n := q) rfl (ev_indexM tells_S (es_var (.inr ⟨p3, rfl⟩)) (ev_var rfl) i1 i2) (ev_var rfl) (by rw [List.length_map, rd.len]; exact hql) fun d e => ?_
        subst e
        refine ⟨hk, _, _, _, _, _, _, rfl, sg', fr.set q (sg'.idxOf (sgn rows f q)), fun p => if p = q then sg'.idxOf (sgn rows f q) else f' p, rfl, by rw [List.map_set], ⟨by rw [List.length_set]; exact rd.len, fun p hp => ?_, hn, fun i hi => ?_, fun hz => ?_⟩⟩
        · rw [htk] at hp
          rcases List.mem_append.mp hp with h | h
          · have hne : p ≠ q := by rintro rfl; exact hqn h
            rw [if_neg hne, List.getElem?_set_ne (Ne.symm hne)]
            exact ⟨(rd.at_ p h).1, hold p h⟩
          · rw [List.mem_singleton.mp h, if_pos rfl, List.getElem?_set_self (by rw [rd.len]; exact hql)]
            exact ⟨rfl, i1⟩
        · rw [htk]
          rcases hon i hi with h | ⟨p, h1, h2⟩
          · exact ⟨q, List.mem_append_right _ (List.mem_singleton.mpr rfl), by rw [if_pos rfl, h]⟩
          · exact ⟨p, List.mem_append_left _ h1, by rw [if_neg (by rintro rfl; exact hqn h1)]; exact h2⟩
        · by_cases hk0 : k = 0
          · subst hk0
            rw [htk, List.take_zero, List.nil_append] at hz
            obtain rfl : q = 0 := by simpa using hz
            rw [if_pos rfl]
            rcases hon 0 (List.length_pos_of_mem hmem) with h | ⟨p, h1, _⟩
            · exact h.symm
            · rw [List.take_zero] at h1
              exact absurd h1 List.not_mem_nil
          · have hz2 : (os.take k)[0]? = some 0 := by
              rw [htk, List.getElem?_append_left (by rw [List.length_take]; omega)] at hz
              exact hz
            have hne : (0 : Nat) ≠ q := by
              rintro rfl
              exact hqn (List.mem_of_getElem? hz2)
            rw [if_neg hne]
            exact rd.z hz2
      refine hs_seq (hs_if (et_test (ev_notInM tells_S (x := sgn rows f q) (xs := sg) (ev_var rfl) (es_var (.inr ⟨p3, rfl⟩)))) (fun hb => ?_) (fun hb => ?_))
      · rw [Bool.not_eq_true', decide_eq_false_iff_not] at hb
        refine hs_app (i := 8) rfl (by rw [List.length_map]; omega) (ev_var rfl) fun d e => ?_
        subst e
        have e2 : sg.map encS ++ [encS (sgn rows f q)] = (sg ++ [sgn rows f q]).map encS := by rw [List.map_append]; rfl
        rw [e2]
        have hidx : (sg ++ [sgn rows f q]).idxOf (sgn rows f q) = sg.length := by
          have hmem : sgn rows f q ∈ sg ++ [sgn rows f q] := List.mem_append_right _ (List.mem_singleton.mpr rfl)
          have hn' : (sg ++ [sgn rows f q]).Nodup := List.nodup_append.mpr ⟨rd.nd, by simp, fun a ha b hb' e => hb (by rw [← List.mem_singleton.mp hb', ← e]; exact ha)⟩
          exact nodup_inj hn' (idx_first hmem hn').1 List.getElem?_concat_length
        refine HS.imp (rest (sg ++ [sgn rows f q]) (List.nodup_append.mpr ⟨rd.nd, by simp, fun a ha b hb' e => hb (by rw [← List.mem_singleton.mp hb', ← e]; exact ha)⟩) (List.mem_append_right _ (List.mem_singleton.mpr rfl)) (fun p hp => ?_) (fun i hi => ?_)) (fun _ h => h) (fun _ z => z.elim) (fun _ z => z.elim) (fun _ z => z.elim)
        · have := (rd.at_ p hp).2
          rw [List.getElem?_append_left (List.getElem?_eq_some_iff.mp this).1]
          exact this
        · rw [hidx]
          rw [List.length_append, List.length_singleton] at hi
          by_cases h : i < sg.length
          · exact .inr (rd.on i h)
          · exact .inl (by omega)
      · have hb : sgn rows f q ∈ sg := by
          have h1 := (Bool.not_eq_false' (b := _)).mp hb
          exact of_dec h1
        exact hs_next (HS.imp (rest sg rd.nd hb (fun p hp => (rd.at_ p hp).2) (fun i hi => .inr (rd.on i hi))) (fun _ h => h) (fun _ z => z.elim) (fun _ z => z.elim) (fun _ z => z.elim))
    · rintro env ⟨_, ks', fr', x, y, u, v, rfl, sg, fr, f', rfl, rfl, rd⟩
      have hs24 := hsl _ sg fr f' rd
      rw [List.length_map, List.take_length] at rd
      refine hs_freeze (i := 10) rfl (hs_setV (ev_var rfl) ?_)
      have hE' : ∀ p q, p ∈ os → q ∈ os → (f' p = f' q ↔ Ek m rows (n + 1) p q) := fun p q hp hq => by
        have h1 : f' p = f' q ↔ sgn rows f p = sgn rows f q := by
          have hp' := (rd.at_ p hp).2
          have hq' := (rd.at_ q hq).2
          constructor
          · intro h
            rw [h, hq'] at hp'
            exact (Option.some.inj hp').symm
          · intro h
            rw [h] at hp'
            exact nodup_inj rd.nd hp' hq'
        rw [h1]
        have h2 : sgn rows f p = sgn rows f q ↔ f p = f q ∧ (rowAt rows p).map (fun p => (f p.1, p.2)) = (rowAt rows q).map (fun p => (f p.1, p.2)) := ⟨fun h => ⟨congrArg Prod.fst h, congrArg Prod.snd h⟩, fun h => Prod.ext h.1 h.2⟩
        rw [h2, rows_eq ok (hlt p hp) (hlt q hq), hE p q hp hq]
        constructor
        · rintro ⟨_, h⟩ x hx
          have := h x hx
          injection this with a1 a2
          exact ⟨a2, (hE _ _ (cl p x hp hx) (cl q x hq hx)).mp a1⟩
        · intro h
          exact ⟨Ek.down h, fun x hx => Prod.ext ((hE _ _ (cl p x hp hx) (cl q x hq hx)).mpr (h x hx).2) (h x hx).1⟩
      have ho' : Onto os f' sg.length := ⟨fun q hq => (List.getElem?_eq_some_iff.mp (rd.at_ q hq).2).1, rd.on⟩
      have hge := finer_le ho (fun q hq => ho'.lt q hq) fun p q hp hq e => (hE p q hp hq).mpr (Ek.down ((hE' p q hp hq).mp e))
      refine ⟨24 - ks.length, by omega, fr, f', n + 1, p3, _, ks.length, _, _, _, _, _, rfl, rd.len, fun q hq => (rd.at_ q hq).1, hE', by rw [List.length_map]; exact ho', .inr ⟨f, n, rfl, ho, hE⟩, by rw [List.length_map]; exact hge, by rw [List.length_map]; exact hs24, rfl, rd.z o.zero⟩
  · -- no more kinds
    rw [Bool.not_eq_false', decide_eq_true_eq] at hb
    rcases hb0 with h | ⟨g, n', rfl, og, hg⟩
    · omega
    subst hb
    have hst : ∀ p q, p ∈ os → q ∈ os → Ek m rows n' p q → Ek m rows (n' + 1) p q := fun p q hp hq h =>
      (hE p q hp hq).mp (finer_same og ho.lt (fun p q hp hq e => (hg p q hp hq).mpr (Ek.down ((hE p q hp hq).mp e))) (Nat.le_refl _) hp hq ((hg p q hp hq).mpr h))
    have hQ : ∀ p q, p ∈ os → q ∈ os → (f p = f q ↔ Eqv m rows p q) := fun p q hp hq => by
      have h1 := ek_stop (m := m) (rows := rows) (R := fun q => q ∈ os) cl hst hp hq
      rw [hE p q hp hq]
      exact ⟨fun h => h1.mp (Ek.down h), fun h => h (n' + 1)⟩
    obtain ⟨sok, sl⟩ := lawSmall_ok ok st ho hk24 hQ
    have srt := lawSmall_root ok st ho hQ hf0
    refine hs_seq (hs_setV (d := encL ((List.range ks.length).map (repOf os f))) (ev_new (en_lcV (ei_range (n := ks.length) (hcnt rfl) (by omega)) (by rw [rangeD_len]; omega) (by rw [rangeD_len, List.length_map, List.length_map, List.length_range]) fun i d y hd hy => ?_)) ?_)
    · obtain ⟨rfl, hi⟩ := rangeD_at hd
      obtain ⟨t, ht, rfl⟩ := map_at hy
      rw [List.getElem?_map, List.getElem?_range hi] at ht
      cases ht
      obtain ⟨r1, r2, r3⟩ := rep_ok ho hi
      refine ⟨_, _, hg_name, by decide, ?_⟩
      refine ev_ixLm (f := nt) (xs := os.filter fun q => decide (f q = i)) (n := 0) (es_new ((en_lcF (F := fun d => decide (f (toN d) = i)) (f := id) (ei_seqL (ds := os.map nt) (ev_var rfl)) (by rw [List.length_map]; omega) fun j d hd => ?_).imp fun ds e => ?_)) ev_int r1
      · obtain ⟨q, hq, rfl⟩ := map_at hd
        refine ⟨_, _, hg_name, by decide, (et_test (ev_op (ev_ixLm (f := nt) (xs := mk) (n := q) (es_of (ev_var rfl)) (ev_var rfl) (hat q (List.mem_of_getElem? hq))) (ev_var rfl) opd_eqN)).is ?_, fun _ => ev_var rfl⟩
        show decide (f q = i) = decide (f ((q : Nat) : Int).toNat = i)
        rw [Int.toNat_natCast]
      · rw [e, List.map_id, List.filter_map]
        congr 1
    · refine hs_ret (ev_tup (ea_cons (ev_var rfl) (ea_cons (ev_tupOf (ds := (lawSmall rows os f ks.length).map encR) (es_new (en_lcV (ei_seqL (ds := ((List.range ks.length).map (repOf os f)).map nt) (ev_var rfl)) (by rw [List.length_map, List.length_map, List.length_range]; omega) (by unfold lawSmall; rw [List.length_map, List.length_map, List.length_map, List.length_map]) fun i d y hd hy => ?_))) ea_nil)) (by show 2 ≤ 1000000; decide)) fun d e => ⟨_, e, sok, sl, srt⟩
      obtain ⟨t, ht, rfl⟩ := map_at hd
      have hi := (List.getElem?_eq_some_iff.mp ht).1
      rw [List.length_map, List.length_range] at hi
      rw [List.getElem?_map, List.getElem?_range hi] at ht
      cases ht
      obtain ⟨r1, r2, r3⟩ := rep_ok ho hi
      have hql := hlt _ r2
      obtain ⟨w, hw, rfl⟩ := map_at hy
      have hw2 : (lawSmall rows os f ks.length)[i]? = some ((rowAt rows (repOf os f i)).map fun p => (f p.1, p.2)) := by
        unfold lawSmall
        rw [List.getElem?_map, List.getElem?_range hi]
        rfl
      rw [hw2] at hw
      cases hw
      refine ⟨_, _, hg_name, by decide, ev_tupOf (ds := ((rowAt rows (repOf os f i)).map fun p => (f p.1, p.2)).map encP) (es_new (en_lcV (ei_seqT (ds := (rowAt rows (repOf os f i)).map encP) (ev_row (ev_var rfl) (ev_var rfl) (row_at hql))) (by rw [List.length_map, row_len ok hql]; omega) (by rw [List.length_map, List.length_map, List.length_map]) fun j d y hd hy => ?_))⟩
      obtain ⟨pr, hp, rfl⟩ := map_at hd
      obtain ⟨p', hp', rfl⟩ := map_at hy
      rw [List.getElem?_map, hp] at hp'
      cases hp'
      have hj := (List.getElem?_eq_some_iff.mp hp).1
      rw [row_len ok hql] at hj
      rw [row_cell ok hql hj] at hp
      cases hp
      exact ⟨_, _, hg_tup (n := 2) (hgs_cons hg_name (hgs_cons hg_name hgs_nil)) rfl, by simp, ev_tup (ea_cons (ev_ixLm (f := nt) (xs := mk) (n := stp rows (repOf os f i) j) (es_of (ev_var rfl)) (ev_var rfl) (hat _ (cl _ j r2 hj))) (ea_cons (ev_var rfl) ea_nil)) (by show 2 ≤ 1000000; decide)⟩
end
end SS
namespace DL
open PySem PySem.Spec PyProof.Rows L2
section
variable {c : Cn} {env : List Sl} {ta tb te : TE} {tt tu : TT} {P : D → Prop}
/-- a new list and one that is there, joined -/
theorem en_catNP {P Pa : List D → Prop} {Pb : D → Prop} (ha : EvN c ta env Pa) (hb : EvP c tb env Pb) (h : ∀ x d, Pa x → Pb d → ∃ y, d = .list y ∧ x.length + y.length ≤ 1000000 ∧ P (x ++ y)) : EvN c (tOp (rAddU c.K) ta tb) env P := fun σ B H A e Q q =>
  ha σ B H A e _ fun p xs ds B1 H1 x1 r1 h0 hb1 h1 t1 p1 => hb σ B1 H1 (A.go x1 r1) (e.go x1) _ fun v d B2 H2 x2 r2 t2 pp2 => by
    have hs : ¬ c.S p := A.notS h0
    obtain ⟨es, rfl, g1, g2⟩ := h ds d p1 pp2
    cases t2 with
    | @lst b ys es hl ht =>
      refine .inr (.inl ⟨p, b, xs, ys, rfl, rfl, x2.k _ _ h1 hs, x2.s _ _ hl, by rw [dps_len t1, dps_len ht]; exact sz g1, fun z hz => ?_⟩)
      obtain ⟨x3, r3⟩ := ((A.go x1 r1).go x2 r2).newOwn (o := .lst (xs ++ ys)) hz
      have hz0 : H z = none := by
        cases w : H z with
        | none => rfl
        | some o => exact absurd hz ((x1.trans x2).t z (by rw [w]; exact nofun))
      exact q z _ _ B2 _ ((x1.trans x2).trans x3) r3 hz0 (fresh_b x2.s hz) upd_same (dps_app (dps_mono x2.b t1) ht) g2
/-- list(range(i, j)) -/
theorem en_listRg2 {i n : Nat} (h1 : Ev c ta env (nt i)) (h2 : Ev c tb env (nt n)) (hi : i ≤ n) (hn : n ≤ 1000000) : EvN c (tLstRg (tRg2 ta tb)) env (fun e => e = ((List.range (n - i)).map fun k => i + k).map nt) := fun σ B H A e Q q =>
  h1 σ B H A e _ fun v d B1 H1 x1 r1 t1 p1 => h2 σ B1 H1 (A.go x1 r1) (e.go x1) _ fun w d2 B2 H2 x2 r2 t2 p2 => by
    subst p1 p2
    rw [dp_int_inv t1, dp_int_inv t2]
    refine ⟨(i : Int), (n : Int), rfl, rfl, RgOk.of_le (by omega) (by omega) (by omega) (by omega), fun l hl => newOwn_to (Pn := fun e => e = ((List.range (n - i)).map fun k => i + k).map nt) A (x1.trans x2) r2 hl ?_ rfl q⟩
    have e1 : rgV (i : Int) (n : Int) = ((List.range (n - i)).map fun k => ((i + k : Nat) : Int)).map V.int := by
      unfold rgV
      rw [show ((n : Int) - (i : Int)).toNat = n - i by omega, List.map_map]
      refine List.map_congr_left fun k _ => ?_
      show V.int ((i : Int) + (k : Int)) = V.int ((i + k : Nat) : Int)
      rw [Int.natCast_add]
    have e2 : ((List.range (n - i)).map fun k => i + k).map nt = ((List.range (n - i)).map fun k => ((i + k : Nat) : Int)).map PyData.int := by rw [List.map_map, List.map_map]; rfl
    rw [e1, e2]
    exact dps_ints _
theorem ev_ifT (h : EvTP c tt env (fun _ => True)) (h1 : EvP c ta env P) (h2 : EvP c tb env P) : EvP c (tIf tt ta tb) env P := fun σ B H A e Q q =>
  h σ B H A e _ fun y B1 H1 x1 r1 _ => by
    cases y with
    | true =>
      show ta σ H1 Q
      exact h1 σ B1 H1 (A.go x1 r1) (e.go x1) Q fun z d B3 H3 x3 r3 t3 p3 => q z d B3 H3 (x1.trans x3) r3 t3 p3
    | false =>
      show tb σ H1 Q
      exact h2 σ B1 H1 (A.go x1 r1) (e.go x1) Q fun z d B3 H3 x3 r3 t3 p3 => q z d B3 H3 (x1.trans x3) r3 t3 p3
theorem et_P (h : EvP c te env (fun d => ∃ b, d = .bool b)) : EvTP c (tTest te) env (fun _ => True) := fun σ B H A e Q q =>
  h σ B H A e _ fun v d B1 H1 x1 r1 t1 ⟨b, p1⟩ => by
    subst p1
    rw [dp_bool_inv t1]
    exact ⟨b, rfl, q b B1 H1 x1 r1 trivial⟩
theorem et_andT (h1 : EvTP c tt env (fun _ => True)) (h2 : EvTP c tu env (fun _ => True)) : EvTP c (tAnd tt tu) env (fun _ => True) := fun σ B H A e Q q =>
  h1 σ B H A e _ fun y B1 H1 x1 r1 _ => by
    cases y with
    | true => exact h2 σ B1 H1 (A.go x1 r1) (e.go x1) Q fun z B3 H3 x3 r3 p3 => q z B3 H3 (x1.trans x3) r3 p3
    | false => exact q false B1 H1 x1 r1 trivial
/-! ints of any kind -/
abbrev AnyI (d : D) : Prop := ∃ z : Int, d = .int z
theorem opd_any {r : R2} {a b : D} {w : Int} (h : OpD c r a b (fun e => e = .int w)) : OpD c r a b AnyI := fun B H x y A tx ty Q q => h B H x y A tx ty Q fun z d B' H' x' r' t' p' => q z d B' H' x' r' t' ⟨_, p'⟩
theorem ai_add (h1 : EvP c ta env AnyI) (h2 : EvP c tb env AnyI) : EvP c (tOp (rAddU c.K) ta tb) env AnyI := ev_opP h1 (fun _ _ => h2) fun x y ⟨u, eu⟩ ⟨v, ev⟩ => by
  subst eu ev
  exact opd_any opd_add
theorem ai_mulL {n : Int} (hn : -(2 ^ 64) < n ∧ n < 2 ^ 64) (h1 : Ev c ta env (.int n)) (h2 : EvP c tb env AnyI) : EvP c (tOp rMulU ta tb) env AnyI := ev_opP h1 (fun _ _ => h2) fun x y eu ⟨v, ev⟩ => by
  subst eu ev
  exact opd_any (opd_mul (.inl hn))
theorem ai_mulR {n : Int} (hn : -(2 ^ 64) < n ∧ n < 2 ^ 64) (h1 : EvP c ta env AnyI) (h2 : Ev c tb env (.int n)) : EvP c (tOp rMulU ta tb) env AnyI := ev_opP h1 (fun _ _ => h2) fun x y ⟨v, ev⟩ eu => by
  subst eu ev
  exact opd_any (opd_mul (.inr hn))
theorem ai_int (h : EvP c ta env AnyI) : EvP c (tCB rInt (tCons ta tNil)) env AnyI := ev_cbP (ea_consP h fun _ _ => ea_nil) fun as ⟨a, r, e1, ⟨z, e2⟩, e3⟩ B H xs A t Q q => by
  subst e1 e2 e3
  cases t with
  | cons t1 t2 =>
    cases t2
    rw [dp_int_inv t1]
    exact .inl ⟨z, rfl, q _ _ B H A.same A.r (.int z) ⟨z, rfl⟩⟩
theorem ai_mod {n : Nat} (hn : 0 < n) (h : EvP c ta env AnyI) (h2 : Ev c tb env (nt n)) : EvP c (tOp (rI (fun _ j => j ≠ 0) fun i j => .int (i.fmod j)) ta tb) env (fun d => ∃ w : Nat, d = nt w ∧ w < n) := ev_opP h (fun _ _ => h2) fun x y ⟨u, eu⟩ ey => by
  subst eu ey
  intro B H x y A tx ty Q q
  refine opd_mod (by omega) B H x y A tx ty Q fun z d B' H' x' r' t' p' => q z d B' H' x' r' t' ⟨(u % (n : Int)).toNat, ?_, ?_⟩
  · rw [p']
    show PyData.int _ = PyData.int _
    congr 1
    have := Int.emod_nonneg u (b := (n : Int)) (by omega)
    omega
  · have h1 := Int.emod_nonneg u (b := (n : Int)) (by omega)
    have h2 := Int.emod_lt_of_pos u (b := (n : Int)) (by omega)
    omega
theorem ai_nat {n : Nat} (h : Ev c ta env (nt n)) : EvP c ta env AnyI := h.imp fun d e => ⟨_, e⟩
end
end DL
namespace SS
open PySem PySem.Spec PyProof.Rows L2 DL
section
variable {K : PySem.W.Frag} {B0 H0 : Hp} {dk l : Addr}
theorem dn_ok : dn.Ok := ⟨by decide +kernel, by decide +kernel, by decide +kernel⟩
theorem goes0 {c : Cn} {B : Hp} {X : Ends} {nx : List Sl → Prop} {f : Sg → Hp → Prop} (h : ∀ (σ : Sg) (B' H : Hp) (env : List Sl), At c B' H → EnvOk c B' H σ env → nx env → f σ H) : Goes c { nx := nx } { X with nx := f } B :=
  ⟨fun σ B' H env _ A e p => h σ B' H env A e p, fun _ _ _ _ _ _ _ z => z.elim, fun _ _ _ _ _ _ _ z => z.elim, fun _ _ _ _ _ _ _ z => z.elim⟩
theorem abs_nt (z : Int) : (PyData.int (if z < 0 then -z else z) : D) = nt z.natAbs := by
  show PyData.int _ = PyData.int _
  congr 1
  split <;> omega
theorem bool_nt (k : Bool) : (PyData.int (if k then 1 else 0) : D) = nt (if k then 1 else 0) := by cases k <;> rfl
theorem h_law_urn {a : Addr} {ns : List Int} {H : Hp} {X : Ends} (hs : SqL K H a (ns.map V.int)) (hl : ns.length ≤ 63) (q : ∀ dk l H', DkR dn dk l (fun _ => none) H' → X.rt (.ref dk) H') : t_law_urn K X (L2.start N_law_urn [.ref a]) H := by
  have e0 : EnvOk (pureCn K H H) H H (L2.start N_law_urn [.ref a]) [.raw (.ref a), .no, .no, .no] := env_start (N := N_law_urn) (ss := [.raw (.ref a)]) ⟨rfl, trivial⟩ rfl
  have A0 : At (pureCn K H H) H H := ⟨Ext.refl (fun _ _ z => z), trivial⟩
  have h1 : HS (pureCn K H H) (tPar 1 2 (tCons (tLc (iSeq K (tSl (rSlU K) (tVar 0) tNoPart (tPart (tC (.int 63))))) (gName 3) tYes (tOp (rAddU K) (tOp rMulU (tC (.int 2)) (tCB rAbs (tCons (tVar 3) tNil))) (tCB rInt (tCons (tOp (rI0 fun i j => .bl (decide (i < j))) (tVar 3) (tC (.int 0))) tNil))) [3]) (tCons (tOp (rAddU K) (tC (.int 70111)) (tCB (rLn K) (tCons (tSl (rSlU K) (tVar 0) tNoPart (tPart (tC (.int 63)))) tNil))) tNil))) [.raw (.ref a), .no, .no, .no]
      { nx := fun e => ∃ cs : List Nat, ∃ z : Nat, cs.length ≤ 63 ∧ e = [.raw (.ref a), .dat (encL cs), .dat (nt z), .no] } :=
    hs_par (eas_dat (ev_newP (en_lcA (W := fun y => ∃ k, y = nt k ∧ True) (ei_seqL (ev_new (en_slScript (m := 63) rfl hs hl))) (by rw [List.length_map]; omega) fun i d hd => by
      obtain ⟨z, _, rfl⟩ := map_at hd
      refine ⟨_, _, hg_name, by decide, (ev_op (a := nt (2 * z.natAbs)) (b := nt (if decide (z < 0) then 1 else 0)) (ev_op (ev_nat 2) ((ev_abs (ev_var rfl)).imp fun d e => by rw [e, abs_nt]) (opd_mulN (by decide))) ((ev_intB (ev_op (ev_var rfl) ev_int (opd_cmp (f := fun i j => decide (i < j))))).imp fun d e => by rw [e, bool_nt]) opd_addN).imp fun d e => ⟨_, e, trivial⟩⟩))
      (eas_dat (ev_op (ev_nat 70111) (ev_len (es_new (en_slScript (m := 63) rfl hs hl))) opd_addN) eas_nil)) fun ss ⟨d, r, e1, ⟨ds, e2, e3, e4⟩, d2, r2, e5, e6, e7⟩ => by
      obtain ⟨cs, rfl, _⟩ := kinds (f := nt) e4
      rw [List.length_map, List.length_map] at e3
      subst e1 e2 e5 e6 e7
      exact ⟨_, _, rfl, cs, _, by omega, rfl⟩
  refine h1 _ _ H H A0 e0 (goes0 fun σ1 B1 H1 env1 A1 e1 => ?_)
  rintro ⟨cs, z, hc, rfl⟩
  have h3 : HS (pureCn K H H) (tFor (iSeq K (tVar 1)) (gName 3) (tAsg (tOp (rI (fun _ j => j ≠ 0) fun i j => .int (i.fmod j)) (tCB rInt (tCons (tOp (rAddU K) (tOp (rAddU K) (tOp rMulU (tVar 2) (tC (.int 48271))) (tVar 3)) (tC (.int 17))) tNil)) (tC (.int 2147483647))) (gName 2))) [.raw (.ref a), .dat (encL cs), .dat (nt z), .no]
      { nx := fun e => ∃ z : Nat, ∃ y, e = [.raw (.ref a), .dat (encL cs), .dat (nt z), y] } :=
    hs_for (ds := cs.map nt) (fun _ env => ∃ z : Nat, ∃ y, env = [.raw (.ref a), .dat (encL cs), .dat (nt z), y]) (ei_seqL (ev_var rfl)) ⟨_, _, rfl⟩ (by
      rintro i d env hd ⟨z, y, rfl⟩
      obtain ⟨k, _, rfl⟩ := map_at hd
      refine ⟨_, _, hg_name, ?_⟩
      refine hs_set (ai_mod (n := 2147483647) (by decide) (ai_int (ai_add (ai_add (ai_mulR (n := 48271) (by decide) (ai_nat (n := z) (ev_var rfl)) ev_int) (ai_nat (n := k) (ev_var rfl))) (ai_nat (n := 17) (ev_nat 17)))) (ev_nat 2147483647)) fun d ⟨w, e, _⟩ => ?_
      subst e
      exact ⟨_, _, rfl⟩) (by
      rintro env ⟨z, y, rfl⟩
      exact ⟨_, _, rfl⟩)
  refine h3 _ _ B1 H1 A1 e1 (goes0 fun σ3 B3 H3 env3 A3 e3 => ?_)
  rintro ⟨z, y, rfl⟩
  refine deck_disp dn_ok (c := pureCn K H H) ?_ ((ev_var (d := nt z) rfl).imp fun d e => ⟨_, e⟩) A3 e3 q
  refine (en_lcF (F := fun d => match d with | .int i => decide ((10 ^ 15 : Int) ≤ i) | _ => false) (f := id) (ei_seqL (ds := cs.map nt) (ev_var rfl)) (by rw [List.length_map]; omega) fun i d hd => ?_).imp fun ds e => ?_
  · obtain ⟨k, _, rfl⟩ := map_at hd
    refine ⟨_, _, hg_name, by decide, ?_, fun _ => ev_var rfl⟩
    refine (et_test (ev_op (b := nt (10 ^ 15)) (ev_var rfl) (ev_op (ev_nat 10) (ev_nat 15) (opd_pow (by decide) (by decide))) opd_geN)).is ?_
    show decide (10 ^ 15 ≤ k) = decide ((10 ^ 15 : Int) ≤ (k : Int))
    exact decide_eq_decide.mpr (by omega)
  · obtain ⟨js, e2, _⟩ := kinds (f := PyData.int) (R := fun _ => True) (ls := ds) (fun y hy => by
      rw [e, List.map_id, List.mem_filter] at hy
      obtain ⟨k, _, rfl⟩ := List.mem_map.mp hy.1
      exact ⟨_, rfl, trivial⟩)
    refine ⟨js, e2, ?_⟩
    have h5 : ds.length ≤ (cs.map nt).length := by
      rw [e, List.length_map]
      exact List.length_filter_le _ _
    rw [e2, List.length_map, List.length_map] at h5
    omega
theorem h_law_draw (a : Nat) (hp : a ≤ 1000000) : HS (dkCn dn K dk l B0 H0) (t_law_draw K) [.raw (.ref dk), .dat (nt a), .no, .no] { rt := fun d => ∃ n, d = nt n ∧ n < max a 1, nx := fun _ => ∃ n, PyData.none = nt n ∧ n < max a 1 } := by
  refine hs_seq (hs_if (et_test (ev_op (ev_var rfl) (ev_nat 2) opd_ltN)) (fun _ => hs_ret (ev_nat 0) fun d e => ⟨0, e, by omega⟩) fun h2 => hs_next ?_)
  have ha : 2 ≤ a := by
    have := of_decide_eq_false h2
    omega
  have hmax : max a 1 = a := by omega
  rw [hmax]
  refine hs_seq (hs_dkFar (j := 2) dn_ok rfl rfl (by decide) ?_ (fun z B H => ⟨_, et_test (ev_op (ev_var rfl) (ev_var rfl) opd_cmp)⟩) (fun z B H => ⟨_, ev_op (ev_var rfl) (ev_var rfl) (opd_div (by omega) (by omega))⟩) fun z => ?_)
  · refine hs_seq (hs_dkPut dn_ok rfl (ai_add (ev_dkT dn_ok rfl) (ai_nat (n := 1) (ev_nat 1))) ?_)
    refine hs_seq (hs_set (ai_mod (n := 2147483647) (by decide) (ai_int (ai_add (ev_dkM dn_ok rfl) (ai_mulR (n := 747796405) (by decide) (ev_dkT dn_ok rfl) ev_int))) (ev_nat 2147483647)) ?_)
    rintro d ⟨w1, rfl, hw1⟩
    refine hs_seq (hs_set (ai_mod (n := 2147483629) (by decide) (ai_int (ai_add (ai_mulL (n := (w1 : Int)) (by omega) (ev_var rfl) (ai_nat (ev_var rfl))) (ai_mulL (n := 362437) (by decide) ev_int (ev_dkT dn_ok rfl)))) (ev_nat 2147483629)) ?_)
    rintro d ⟨w2, rfl, hw2⟩
    refine hs_ret (ai_mod (n := a) (by omega) ((ev_opP (P := AnyI) (Pb := fun _ e => e = .int 64) (ai_mod (n := 2147483587) (by decide) (ai_int (ai_add (ai_mulL (n := (w2 : Int)) (by omega) (ev_var rfl) (ai_nat (ev_var rfl))) (ev_dkM dn_ok rfl))) (ev_nat 2147483587)) (fun _ _ => ev_int) fun x y ⟨u, eu, _⟩ ey => ?_)) (ev_var rfl)) fun d p => p
    subst eu ey
    exact opd_any (opd_div (by decide) (by decide))
  · refine hs_ret (ai_mod (n := a) (by omega) (ai_int ((ev_var (d := .int z) rfl).imp fun d e => ⟨z, e⟩)) (ev_var rfl)) fun d p => p
theorem ev_drawN {env : List Sl} {ti : TE} {n : Nat} {E : XK} (h0 : env[0]? = some (.raw (.ref dk))) (h : Ev (dkCn dn K dk l B0 H0) ti env (nt n)) (hn : 0 < n) (hn2 : n ≤ 1000000) : EvP (dkCn dn K dk l B0 H0) (tCall (sp_law_draw K) [] E (tCons (tVar 0) (tCons ti tNil))) env (fun d => ∃ k, d = nt k ∧ k < n) :=
  (ev_callD n h0 (ea_cons h ea_nil) hn2).imp fun d ⟨k, e, hk⟩ => ⟨k, e, by omega⟩
theorem h_law_pick (a : List D) (hp : a ≠ [] ∧ a.length ≤ 1000000) : HS (dkCn dn K dk l B0 H0) (t_law_pick K) [.raw (.ref dk), .dat (.list a)] { rt := fun d => d ∈ a, nx := fun _ => (PyData.none : D) ∈ a } := by
  obtain ⟨h0, hz⟩ := hp
  have hpos := List.length_pos_iff.mpr h0
  refine hs_ret (ev_ixLP (Pb := fun d => ∃ k, d = nt k ∧ k < a.length) (es_of (ev_var rfl)) (ev_drawN rfl (ev_len (es_of (ev_var rfl))) hpos hz) fun b ⟨k, e, hk⟩ => ⟨(k : Int), a[k], e, by rw [atI_nat', List.getElem?_eq_getElem hk], List.getElem_mem hk⟩) fun d h => h
theorem map_erase_nt (x : List Nat) (k : Nat) : (x.map nt).eraseIdx k = (x.eraseIdx k).map nt := by
  induction x generalizing k with
  | nil => rfl
  | cons a r ih =>
    cases k with
    | zero => rfl
    | succ k => exact congrArg (nt a :: ·) (ih k)
theorem erase_perm {x : List Nat} {k w : Nat} (h : x[k]? = some w) : (w :: x.eraseIdx k).Perm x := by
  induction x generalizing k with
  | nil => simp at h
  | cons a r ih =>
    cases k with
    | zero =>
      obtain rfl : a = w := by simpa using h
      exact List.Perm.refl _
    | succ k => exact (List.Perm.swap a w _).trans ((ih (by simpa using h)).cons a)
theorem h_law_mixed (a : List Nat) (hp : a.length ≤ 1000) : HS (dkCn dn K dk l B0 H0) (t_law_mixed K) [.raw (.ref dk), .dat (encL a), .no, .no] { rt := fun d => ∃ ns, d = encL ns ∧ ns.Perm a, nx := fun _ => ∃ ns, (PyData.none : D) = encL ns ∧ ns.Perm a } := by
  refine hs_seq (hs_par (eas_own (en_lstOf (ds := a.map nt) (es_of (ev_var rfl))) (eas_own (en_lst ea_nil (Nat.zero_le _)) eas_nil)) ?_)
  rintro ss ⟨p, ds, r, rfl, rfl, q, es, r2, rfl, rfl, rfl⟩
  refine ⟨_, _, rfl, ?_⟩
  refine hs_seq (hs_while (fun m env => ∃ (x y : List Nat), env = [.raw (.ref dk), .dat (encL a), .own p (x.map nt), .own q (y.map nt)] ∧ x.length = m ∧ (x ++ y).Perm a) a.length
    ⟨a, [], rfl, rfl, by rw [List.append_nil]⟩ ?_)
  rintro m env ⟨x, y, rfl, hm, hxy⟩
  have hlen := hxy.length_eq
  rw [List.length_append] at hlen
  refine ⟨_, et_test (ev_neNil (es_var (.inr ⟨p, rfl⟩)) (shaped_nts x) (tells_nt.nodL x)), fun hb => ?_, fun hb => ?_⟩
  · have hl : Ev (dkCn dn K dk l B0 H0) (tCB (rLn K) (tCons (tVar 2) tNil)) [.raw (.ref dk), .dat (encL a), .own p (x.map nt), .own q (y.map nt)] (nt x.length) := by
      have := ev_len (c := dkCn dn K dk l B0 H0) (te := tVar 2) (env := [.raw (.ref dk), .dat (encL a), .own p (x.map nt), .own q (y.map nt)]) (ds := x.map nt) (es_var (.inr ⟨p, rfl⟩))
      rw [List.length_map] at this
      exact this
    have hpos : 0 < x.length := by
      cases x with
      | nil => cases hb
      | cons z r => exact Nat.succ_pos _
    refine hs_appPop (i := 3) (j := 2) rfl rfl (by decide) (ev_drawN rfl hl hpos (by omega)) (fun d ⟨k, e, hk⟩ => ⟨k, e, by rw [List.length_map]; exact hk⟩) (by rw [List.length_map]; omega) (by rw [List.length_map]; omega) fun k z hk => ?_
    obtain ⟨w, hw, rfl⟩ := map_at hk
    have hkl := (List.getElem?_eq_some_iff.mp hw).1
    refine ⟨m - 1, by omega, x.eraseIdx k, y ++ [w], ?_, ?_, ?_⟩
    · rw [List.map_append, ← map_erase_nt]
      rfl
    · rw [List.length_eraseIdx_of_lt hkl]
      omega
    · have h1 := erase_perm hw
      have h2 : (x.eraseIdx k ++ (y ++ [w])).Perm (w :: x.eraseIdx k ++ y) := by
        rw [← List.append_assoc]
        exact List.perm_append_comm (l₂ := [w])
      exact (h2.trans (h1.append_right y)).trans hxy
  · have : x = [] := by
      cases x with
      | nil => rfl
      | cons z r => cases hb
    subst this
    exact hs_freeze (i := 3) rfl (hs_ret (ev_var rfl) fun d e => ⟨y, e, hxy⟩)
end
end SS
namespace SS
open PySem PySem.Spec PyProof.Rows L2 DL
section
variable {K : PySem.W.Frag} {B0 H0 : Hp} {dk l : Addr} {c : Cn} {env : List Sl} {ta tb te : TE}
abbrev AnyB (d : D) : Prop := ∃ b : Bool, d = .bool b
theorem opd_anyB {r : R2} {a b : D} {w : Bool} (h : OpD c r a b (fun e => e = .bool w)) : OpD c r a b AnyB := fun B H x y A tx ty Q q => h B H x y A tx ty Q fun z d B' H' x' r' t' p' => q z d B' H' x' r' t' ⟨_, p'⟩
/-- draw(…) == n -/
theorem ab_eq {P : D → Prop} {n : Nat} (h : EvP c ta env P) (hP : ∀ d, P d → ∃ k : Nat, d = nt k) (h2 : Ev c tb env (nt n)) : EvP c (tOp (rEqD c.K) ta tb) env AnyB := ev_opP h (fun _ _ => h2) fun x y px ey => by
  obtain ⟨k, e⟩ := hP x px
  subst e ey
  exact opd_anyB opd_eqN
def GoodR (n m : Nat) (r : Row) : Prop := r.length = 2 ^ m ∧ ∀ p ∈ r, p.1 < n ∧ p.2 < 2
theorem ok_of {m n : Nat} {rows : List Row} (hm : m ≤ 2) (h0 : 0 < n) (hn : n ≤ 24) (hl : rows.length = n) (h : ∀ r ∈ rows, GoodR n m r) : Ok m rows :=
  ⟨hm, by omega, by omega, fun r hr => (h r hr).1, fun r hr p hp => by
    rw [hl]
    exact (h r hr).2 p hp⟩
theorem pair_of {P Q : Nat → Prop} {t : TA} (h1 : EvP c ta env (fun d => ∃ k, d = nt k ∧ P k)) (h2 : EvP c tb env (fun d => ∃ k, d = nt k ∧ Q k)) : EvP c (tTup (tCons ta (tCons tb tNil))) env (fun d => ∃ p : Nat × Nat, d = encP p ∧ P p.1 ∧ Q p.2) :=
  (ev_tupP (ea_consP h1 fun _ _ => ea_consP h2 fun _ _ => ea_nil) fun ds ⟨a, r, e1, _, b, r2, e2, _, e3⟩ => by subst e1 e2 e3; show 2 ≤ 1000000; omega).imp fun d ⟨ds, e0, a, r, e1, ⟨k, ek, pk⟩, b, r2, e2, ⟨j, ej, pj⟩, e3⟩ => by
    subst e0 e1 e2 e3 ek ej
    exact ⟨(k, j), rfl, pk, pj⟩
theorem row_of {n m : Nat} {wi : TI} {g : TG} {vs : List Nat} {ds : List D} (hi : EvI c wi env ds) (hz : ds.length = 2 ^ m) (hm : m ≤ 2)
    (he : ∀ (i : Nat) (d : D), ds[i]? = some d → ∃ env2 is, HG c g d (wipeE env vs) env2 is ∧ (∀ j ∈ is, j ∈ vs) ∧ EvP c te env2 (fun d => ∃ p : Nat × Nat, d = encP p ∧ p.1 < n ∧ p.2 < 2)) :
    EvP c (tCB (rTupOf c.K) (tCons (tLc wi g tYes te vs) tNil)) env (fun d => ∃ r, d = encR r ∧ GoodR n m r) :=
  (ev_tupOfP (en_lcA hi (by have := pow4 hm; omega) he)).imp fun d ⟨ds', e, h1, h2⟩ => by
    obtain ⟨as, rfl, ha⟩ := kinds (f := encP) h2
    subst e
    rw [List.length_map] at h1
    exact ⟨as, rfl, by rw [h1, hz], ha⟩
theorem kindsI {α : Type} {f : α → D} : ∀ {ls : List D} {R : Nat → α → Prop}, (∀ (i : Nat) (y : D), ls[i]? = some y → ∃ a, y = f a ∧ R i a) → ∃ as : List α, ls = as.map f ∧ (∀ (i : Nat) (a : α), as[i]? = some a → R i a)
  | [], _, _ => ⟨[], rfl, fun i a h => by simp at h⟩
  | y :: r, R, h => by
    obtain ⟨a, rfl, ha⟩ := h 0 y rfl
    obtain ⟨as, rfl, has⟩ := kindsI (ls := r) (R := fun i a => R (i + 1) a) fun i z hz => h (i + 1) z (by simpa using hz)
    refine ⟨a :: as, rfl, fun i b hb => ?_⟩
    cases i with
    | zero => cases hb; exact ha
    | succ i => exact has i b (by simpa using hb)
def GoodW (W : Nat → Nat × Nat → Prop) (m : Nat) (r : Row) : Prop := r.length = 2 ^ m ∧ ∀ (i : Nat) (p : Nat × Nat), r[i]? = some p → W i p
theorem row_ofW {W : Nat → Nat × Nat → Prop} {m : Nat} {wi : TI} {g : TG} {vs : List Nat} {ds : List D} (hi : EvI c wi env ds) (hz : ds.length = 2 ^ m) (hm : m ≤ 2)
    (he : ∀ (i : Nat) (d : D), ds[i]? = some d → ∃ env2 is, HG c g d (wipeE env vs) env2 is ∧ (∀ j ∈ is, j ∈ vs) ∧ EvP c te env2 (fun d => ∃ p : Nat × Nat, d = encP p ∧ W i p)) :
    EvP c (tCB (rTupOf c.K) (tCons (tLc wi g tYes te vs) tNil)) env (fun d => ∃ r, d = encR r ∧ GoodW W m r) :=
  (ev_tupOfP (en_lcP (W := fun i _ y => ∃ p : Nat × Nat, y = encP p ∧ W i p) hi (by have := pow4 hm; omega) he)).imp fun d ⟨ds', e, h1, h2⟩ => by
    obtain ⟨as, rfl, ha⟩ := kindsI (f := encP) (R := W) fun i y hy => by
      have hl := (List.getElem?_eq_some_iff.mp hy).1
      exact h2 i _ y (List.getElem?_eq_getElem (by omega)) hy
    subst e
    rw [List.length_map] at h1
    exact ⟨as, rfl, by rw [h1, hz], ha⟩
theorem pair_W {P Q : Nat → Prop} {W : Nat × Nat → Prop} {t : TA} (h1 : EvP c ta env (fun d => ∃ k, d = nt k ∧ P k)) (h2 : EvP c tb env (fun d => ∃ k, d = nt k ∧ Q k)) (h : ∀ p, P p.1 → Q p.2 → W p) : EvP c (tTup (tCons ta (tCons tb tNil))) env (fun d => ∃ p : Nat × Nat, d = encP p ∧ W p) :=
  (pair_of (t := t) h1 h2).imp fun d ⟨p, e, a, b⟩ => ⟨p, e, h p a b⟩
theorem ev_ifQ {P : D → Prop} {tt : TT} {R : Bool → Prop} (h : EvTP c tt env R) (h1 : R true → EvP c ta env P) (h2 : R false → EvP c tb env P) : EvP c (tIf tt ta tb) env P := fun σ B H A e Q q =>
  h σ B H A e _ fun y B1 H1 x1 r1 p => by
    cases y with
    | true =>
      show ta σ H1 Q
      exact h1 p σ B1 H1 (A.go x1 r1) (e.go x1) Q fun z d B3 H3 x3 r3 t3 p3 => q z d B3 H3 (x1.trans x3) r3 t3 p3
    | false =>
      show tb σ H1 Q
      exact h2 p σ B1 H1 (A.go x1 r1) (e.go x1) Q fun z d B3 H3 x3 r3 t3 p3 => q z d B3 H3 (x1.trans x3) r3 t3 p3
theorem et_andQ {tt tu : TT} {x : Bool} {R : Bool → Prop} (h1 : EvB c tt env x) (h2 : x = true → EvTP c tu env R) : EvTP c (tAnd tt tu) env (fun b => b = true → x = true) := fun σ B H A e Q q =>
  h1 σ B H A e _ fun z B1 H1 x1 r1 p => by
    subst p
    cases z with
    | true => exact h2 rfl σ B1 H1 (A.go x1 r1) (e.go x1) Q fun b B3 H3 x3 r3 p3 => q b B3 H3 (x1.trans x3) r3 fun _ => rfl
    | false => exact q _ B1 H1 x1 r1 fun z => z
theorem sim_eqx {m : Nat} {r1 r2 : List Row} {β : Nat → Nat → Prop} (h : ∀ p q x, β p q → x < 2 ^ m → out r1 p x = out r2 q x ∧ β (stp r1 p x) (stp r2 q x)) {p q : Nat} (hb : β p q) : EqX m r1 r2 p q := fun n => by
  induction n generalizing p q with
  | zero => trivial
  | succ n ih => exact fun x hx => ⟨(h p q x hb hx).1, ih (h p q x hb hx).2⟩
theorem step_of {rows : List Row} {q x : Nat} {r : Row} {p : Nat × Nat} (h : rows[q]? = some r) (h2 : r[x]? = some p) : stepR rows q x = p := by
  unfold stepR
  rw [h]
  show (r[x]?).getD (0, 0) = p
  rw [h2]
  rfl
theorem at_lt {α : Type} {xs : List α} {i : Nat} {x : α} (h : xs[i]? = some x) : i < xs.length := (List.getElem?_eq_some_iff.mp h).1
theorem h_law_rows (a : AR) (hp : OkR a) : HS (dkCn dn K dk l B0 H0) (t_law_rows K) [.raw (.ref dk), .dat (nt a.m), .dat (.list (a.steps.map encL)), .no, .no, .no, .no]
    { rt := fun d => ∃ rows, d = encM a.m rows ∧ Ok a.m rows ∧ rows.length = a.st ∧ ∀ q x, q < a.st → x < 2 ^ a.m → stp rows q x = cellS a.steps x q, nx := fun _ => ∃ rows, (PyData.none : D) = encM a.m rows ∧ Ok a.m rows ∧ rows.length = a.st ∧ ∀ q x, q < a.st → x < 2 ^ a.m → stp rows q x = cellS a.steps x q } := by
  have p1 := Nat.two_pow_pos a.m
  have p4 := pow4 hp.m2
  obtain ⟨s0, hs0⟩ : ∃ s, a.steps[0]? = some s := ⟨_, List.getElem?_eq_getElem (by rw [hp.len]; exact p1)⟩
  have hl0 := (hp.each s0 (List.mem_of_getElem? hs0)).1
  refine hs_seq (hs_setV (d := nt a.st) ((ev_len (es_of (ev_ixLm (f := encL) (es_of (ev_var rfl)) (ev_nat 0) hs0))).is (by rw [List.length_map, hl0])) ?_)
  refine hs_seq (hs_setN (en_lst ea_nil (Nat.zero_le _)) ?_)
  rintro p ds rfl
  refine hs_seq (hs_for (ds := rangeD a.st) (fun k env => ∃ (rows : List Row) (y z : Sl), env = [.raw (.ref dk), .dat (nt a.m), .dat (.list (a.steps.map encL)), .dat (nt a.st), .own p (rows.map encR), y, z] ∧ rows.length = k ∧ ∀ (q : Nat) (r : Row), rows[q]? = some r → GoodW (fun x p => p.1 = cellS a.steps x q ∧ p.1 < a.st ∧ p.2 < 2) a.m r)
    (ei_range (ev_var rfl) (by have := hp.n.2; omega)) ⟨[], _, _, rfl, rfl, fun q r h => by simp at h⟩ ?_ ?_)
  · rintro i d env hd ⟨rows, y, z, rfl, hk, hr⟩
    obtain ⟨rfl, hi⟩ := rangeD_at hd
    have hn := hp.n.2
    refine ⟨_, _, hg_name, ?_⟩
    refine hs_app rfl (by rw [List.length_map]; omega) (row_ofW (W := fun x p => p.1 = cellS a.steps x i ∧ p.1 < a.st ∧ p.2 < 2) (m := a.m) (ds := rangeD (2 ^ a.m)) (ei_range (ev_shl1 (ev_var rfl) hp.m2) (by omega)) (rangeD_len _) hp.m2 fun x d hx => ?_) ?_
    · obtain ⟨rfl, hx2⟩ := rangeD_at hx
      obtain ⟨s, hs⟩ : ∃ s, a.steps[x]? = some s := ⟨_, List.getElem?_eq_getElem (by rw [hp.len]; exact hx2)⟩
      obtain ⟨h1, h2⟩ := hp.each s (List.mem_of_getElem? hs)
      obtain ⟨v, hv⟩ : ∃ v, s[i]? = some v := ⟨_, List.getElem?_eq_getElem (by rw [h1]; exact hi)⟩
      exact ⟨_, _, hg_name, by decide, pair_W (t := tNil) (P := fun k => k = v) (Q := fun k => k < 2) ((ev_ixLm (f := nt) (n := i) (es_of (ev_ixLm (f := encL) (n := x) (es_of (ev_var rfl)) (ev_var rfl) hs)) (ev_var rfl) hv).imp fun d e => ⟨v, e, rfl⟩) (ev_drawN rfl (ev_nat 2) (by decide) (by decide)) fun p e1 e2 => ⟨by rw [e1]; unfold cellS; rw [hs]; show v = (s[i]?).getD 0; rw [hv]; rfl, by rw [e1]; exact h2 v (List.mem_of_getElem? hv), e2⟩⟩
    · rintro d ⟨r, rfl, hg⟩
      refine ⟨rows ++ [r], _, _, by rw [List.map_append]; rfl, by rw [List.length_append, hk]; rfl, fun q r' hr' => ?_⟩
      by_cases h : q < rows.length
      · rw [List.getElem?_append_left h] at hr'
        exact hr q r' hr'
      · have hl := at_lt hr'
        rw [List.length_append, List.length_singleton] at hl
        have e : q = rows.length := by omega
        subst e
        rw [List.getElem?_concat_length] at hr'
        cases hr'
        rw [hk]
        exact hg
  · rintro env ⟨rows, y, z, rfl, hk, hr⟩
    rw [rangeD_len] at hk
    refine hs_ret (ev_tup (ea_cons (ev_var rfl) (ea_cons (ev_tupOf (es_own rfl)) ea_nil)) (by show 2 ≤ 1000000; decide)) fun d e => ⟨rows, e, ok_of hp.m2 hp.n.1 hp.n.2 hk fun r hr' => ?_, hk, fun q x hq hx => ?_⟩
    · obtain ⟨q, hq⟩ := List.mem_iff_getElem?.mp hr'
      obtain ⟨g1, g2⟩ := hr q r hq
      refine ⟨g1, fun p hp' => ?_⟩
      obtain ⟨i, hi⟩ := List.mem_iff_getElem?.mp hp'
      exact (g2 i p hi).2
    · obtain ⟨r, hr'⟩ : ∃ r, rows[q]? = some r := ⟨_, List.getElem?_eq_getElem (by omega)⟩
      obtain ⟨g1, g2⟩ := hr q r hr'
      obtain ⟨pp, hpp⟩ : ∃ pp, r[x]? = some pp := ⟨_, List.getElem?_eq_getElem (by omega)⟩
      show (stepR rows q x).1 = _
      rw [step_of hr' hpp]
      exact (g2 x pp hpp).1
theorem flat_rep {α : Type} (x : α) (n : Nat) : (List.replicate n [x]).flatten = List.replicate n x := by
  induction n with
  | zero => rfl
  | succ n ih => rw [List.replicate_succ, List.replicate_succ, List.flatten_cons, ih]; rfl
def StepOk (n : Nat) (s : List Nat) : Prop := s = List.range n ∨ ∃ v, v < n ∧ s = List.replicate n v
theorem StepOk.ok {n : Nat} {s : List Nat} (h : StepOk n s) : s.length = n ∧ ∀ x ∈ s, x < n := by
  rcases h with rfl | ⟨v, hv, rfl⟩
  · exact ⟨List.length_range, fun x hx => List.mem_range.mp hx⟩
  · exact ⟨List.length_replicate, fun x hx => by rw [List.eq_of_mem_replicate hx]; exact hv⟩
theorem setter_of {m n : Nat} {rows : List Row} {steps : List (List Nat)} (ok : Ok m rows) (hl : rows.length = n) (hk : steps.length = 2 ^ m) (hr : ∀ s ∈ steps, StepOk n s) (hc : ∀ q x, q < n → x < 2 ^ m → stp rows q x = cellS steps x q) : Setter m rows := fun x hx => by
  obtain ⟨s, hs⟩ : ∃ s, steps[x]? = some s := ⟨_, List.getElem?_eq_getElem (by omega)⟩
  have e : ∀ q, q < n → stp rows q x = s[q]?.getD 0 := fun q hq => by
    rw [hc q x hq hx]
    unfold cellS
    rw [hs]
    rfl
  rcases hr s (List.mem_of_getElem? hs) with rfl | ⟨v, hv, rfl⟩
  · refine .inl fun q hq => ?_
    have hql := rch_lt ok hq
    rw [e q (by omega), List.getElem?_range (by omega)]
    exact Eqv.refl _
  · refine .inr fun p q hp hq => ?_
    have h1 := rch_lt ok hp
    have h2 := rch_lt ok hq
    rw [e q (by omega), e p (by omega), List.getElem?_replicate, List.getElem?_replicate, if_pos (by omega), if_pos (by omega)]
    exact Eqv.refl _
theorem h_law_setter (a : Nat × Nat) (hp : a.1 ≤ 2 ∧ 0 < a.2 ∧ a.2 ≤ 20) : HS (dkCn dn K dk l B0 H0) (t_law_setter K) [.raw (.ref dk), .dat (nt a.1), .dat (nt a.2), .no, .no, .no]
    { rt := fun d => ∃ rows, d = encM a.1 rows ∧ Ok a.1 rows ∧ rows.length ≤ 20 ∧ Setter a.1 rows, nx := fun _ => ∃ rows, (PyData.none : D) = encM a.1 rows ∧ Ok a.1 rows ∧ rows.length ≤ 20 ∧ Setter a.1 rows } := by
  obtain ⟨hm, h0, hn⟩ := hp
  have p4 := pow4 hm
  refine hs_seq (hs_setN (en_lst ea_nil (Nat.zero_le _)) ?_)
  rintro p ds rfl
  refine hs_seq (hs_for (ds := rangeD (2 ^ a.1)) (fun k env => ∃ (steps : List (List Nat)) (y z : Sl), env = [.raw (.ref dk), .dat (nt a.1), .dat (nt a.2), .own p (steps.map encL), y, z] ∧ steps.length = k ∧ ∀ s ∈ steps, StepOk a.2 s)
    (ei_range (ev_shl1 (ev_var rfl) hm) (by omega)) ⟨[], _, _, rfl, rfl, fun _ h => absurd h List.not_mem_nil⟩ ?_ ?_)
  · rintro i d env hd ⟨steps, y, z, rfl, hk, hr⟩
    obtain ⟨rfl, hi⟩ := rangeD_at hd
    refine ⟨_, _, hg_name, ?_⟩
    refine hs_seq (hs_set (P := fun d => ∃ s, d = encL s ∧ StepOk a.2 s) (ev_ifT (et_P (ab_eq (ev_drawN rfl (ev_nat 4) (by decide) (by decide)) (fun d ⟨k, e, _⟩ => ⟨k, e⟩) (ev_nat 0)))
      ((ev_new (en_listRg (n := a.2) (ev_var rfl) (by omega))).imp fun d e => ⟨List.range a.2, e, .inl rfl⟩)
      ((ev_newP (en_repP (k := (a.2 : Int)) (P := fun ds => ∃ v, v < a.2 ∧ ds = (List.replicate a.2 v).map nt) (en_lstP (P := fun ds => ∃ v, v < a.2 ∧ ds = [nt v]) ((ea_consP (ev_drawN (n := a.2) rfl (ev_var rfl) h0 (by omega)) fun _ _ => ea_nil).imp fun ds ⟨d, r, e1, ⟨v, e2, hv⟩, e3⟩ => ⟨v, hv, by subst e1 e2 e3; rfl⟩) (fun ds ⟨v, _, e⟩ => by subst e; show 1 ≤ 1000000; decide)) (ev_var rfl) (by omega) fun x ⟨v, hv, e⟩ => ?_)).imp fun d ⟨ds, e1, v, hv, e2⟩ => ?_)) ?_)
    · subst e
      refine ⟨?_, v, hv, ?_⟩
      · rw [Int.toNat_natCast]
        show 1 * a.2 ≤ 1000000
        omega
      · rw [Int.toNat_natCast, List.map_replicate]
        exact flat_rep _ _
    · subst e1 e2
      exact ⟨_, rfl, .inr ⟨v, hv, rfl⟩⟩
    · rintro d ⟨s, rfl, hs⟩
      refine hs_app rfl (by rw [List.length_map]; omega) (ev_var rfl) ?_
      rintro d rfl
      refine ⟨steps ++ [s], _, _, by rw [List.map_append]; rfl, by rw [List.length_append, hk]; rfl, fun r' hr' => ?_⟩
      rcases List.mem_append.mp hr' with h | h
      · exact hr r' h
      · rw [List.mem_singleton.mp h]; exact hs
  · rintro env ⟨steps, y, z, rfl, hk, hr⟩
    rw [rangeD_len] at hk
    refine hs_freeze (i := 3) rfl (hs_ret (ev_callD (α := AR) ⟨a.1, a.2, steps⟩ rfl (ea_cons (ev_var rfl) (ea_cons (ev_var rfl) ea_nil)) ⟨hm, ⟨h0, Nat.le_trans hn (by decide)⟩, hk, fun s hs => (hr s hs).ok⟩) ?_)
    rintro d ⟨rows, e, ok, hl, hc⟩
    exact ⟨rows, e, ok, by rw [hl]; exact hn, setter_of ok hl hk hr hc⟩
end
end SS
namespace SS
open PySem PySem.Spec PyProof.Rows L2 DL
section
variable {K : PySem.W.Frag} {B0 H0 : Hp} {dk l : Addr} {c : Cn} {env : List Sl} {ta tb te : TE}
theorem rep_unit (n : Nat) : (List.replicate n [(PyData.tuple [] : D)]).flatten = (List.replicate n ([] : Row)).map encR := by
  rw [flat_rep, List.map_replicate]
  rfl
theorem goodR_mono {n n' m : Nat} {r : Row} (h : GoodR n m r) (hn : n ≤ n') : GoodR n' m r := ⟨h.1, fun p hp => ⟨by have := (h.2 p hp).1; omega, (h.2 p hp).2⟩⟩
theorem row_lt {n m : Nat} {r : Row} {i : Nat} {p : Nat × Nat} (h : GoodR n m r) (e : r[i]? = some p) : p.1 < n ∧ p.2 < 2 := h.2 p (List.mem_of_getElem? e)
/-- the names of states -/
structure Nm (n : Nat) (names : List Nat) : Prop where
  len : names.length = n
  lt : ∀ x ∈ names, x < n
  all : ∀ x, x < n → x ∈ names
  nd : names.Nodup
  zero : names[0]? = some 0
theorem nm_of {n : Nat} {ns : List Nat} (h0 : 0 < n) (h : ns.Perm ((List.range (n - 1)).map fun k => 1 + k)) : Nm n (0 :: ns) where
  len := by
    rw [List.length_cons, h.length_eq, List.length_map, List.length_range]
    omega
  lt := fun x hx => by
    rcases List.mem_cons.mp hx with e | hx
    · omega
    · obtain ⟨k, hk, rfl⟩ := List.mem_map.mp (h.mem_iff.mp hx)
      have := List.mem_range.mp hk
      omega
  all := fun x hx => by
    cases x with
    | zero => exact List.mem_cons_self
    | succ x => exact List.mem_cons_of_mem _ (h.mem_iff.mpr (List.mem_map.mpr ⟨x, List.mem_range.mpr (by omega), by omega⟩))
  nd := List.nodup_cons.mpr ⟨fun z => by
    obtain ⟨k, _, e⟩ := List.mem_map.mp (h.mem_iff.mp z)
    omega, h.nodup_iff.mpr (List.Pairwise.map _ (fun a b hab e => hab (by omega)) (List.nodup_range (n := n - 1)))⟩
  zero := rfl
theorem ok_row {m : Nat} {rows : List Row} (ok : Ok m rows) {r : Row} (h : r ∈ rows) : GoodR rows.length m r := ⟨ok.len r h, ok.st r h⟩
def NmW (n : Nat) (names : List Nat) (rows : List Row) (j i : Nat) (p : Nat × Nat) : Prop := p.1 < n ∧ p.2 < 2 ∧ names[stp rows j i]? = some p.1 ∧ p.2 = out rows j i
def nbF (n k u : Nat) : Nat := if u = n then k else u
def DbW (n k : Nat) (all : List Row) (q i : Nat) (p : Nat × Nat) : Prop := p.1 < n + 1 ∧ p.2 < 2 ∧ nbF n k p.1 = (stepR all q i).1 ∧ p.2 = (stepR all q i).2
theorem h_law_called (a : AM) (hp : Ok a.1 a.2 ∧ a.2.length ≤ 20) : HS (dkCn dn K dk l B0 H0) (t_law_called K) [.raw (.ref dk), .dat (encM a.1 a.2), .no, .no, .no, .no, .no, .no, .no, .no, .no, .no, .no, .no, .no]
    { rt := fun d => ∃ rows, d = encM a.1 rows ∧ Ok a.1 rows ∧ EqX a.1 rows a.2 0 0, nx := fun _ => ∃ rows, (PyData.none : D) = encM a.1 rows ∧ Ok a.1 rows ∧ EqX a.1 rows a.2 0 0 } := by
  obtain ⟨m, rows⟩ := a
  obtain ⟨ok, hn⟩ := hp
  have h0 := ok.pos
  have hm := ok.m2
  have p4 := pow4 hm
  obtain ⟨n, en⟩ : ∃ n, rows.length = n := ⟨_, rfl⟩
  simp only at hn h0 hm p4 ok ⊢
  refine hs_seq (hs_asg (ev_var rfl) ?_)
  rintro d rfl
  refine ⟨_, _, hg_tup (hgs_cons hg_name (hgs_cons hg_name hgs_nil)) rfl, ?_⟩
  refine hs_seq (hs_setV (d := nt n) ((ev_lenT (ds := rows.map encR) (ev_var rfl)).is (by rw [List.length_map, en])) ?_)
  refine hs_seq (hs_setN (en_catNP (P := fun ds => ∃ names, ds = names.map nt ∧ Nm n names) (en_lst (ea_cons (ev_nat 0) ea_nil) (by show 1 ≤ 1000000; decide)) (ev_callD (α := List Nat) ((List.range (n - 1)).map fun k => 1 + k) rfl (ea_cons (ev_new (en_listRg2 (i := 1) (n := n) (ev_nat 1) (ev_var rfl) (by omega) (by omega))) ea_nil) (by rw [List.length_map, List.length_range]; omega)) ?_) ?_)
  · rintro x d rfl ⟨ns, rfl, hns⟩
    have hl := hns.length_eq
    rw [List.length_map, List.length_range] at hl
    refine ⟨_, rfl, ?_, 0 :: ns, rfl, nm_of (by omega) hns⟩
    rw [List.length_map]
    show 1 + ns.length ≤ 1000000
    omega
  rintro p5 ds ⟨names, rfl, hN⟩
  refine hs_seq (hs_set (P := fun d => d = .none ∨ ∃ k, d = nt k ∧ k < n) (ev_ifT (et_P (ab_eq (ev_drawN rfl (ev_nat 3) (by decide) (by decide)) (fun d ⟨k, e, _⟩ => ⟨k, e⟩) (ev_nat 0)))
    ((ev_drawN (n := n) rfl (ev_var rfl) (by omega) (by omega)).imp fun d h => .inr h) (ev_non.imp fun d h => .inl h)) ?_)
  intro d6 h6
  refine hs_seq (hs_setN (en_repP (k := (n : Int)) (P := fun ds => ds = (List.replicate n ([] : Row)).map encR) (en_lst (ea_cons (ev_tup ea_nil (Nat.zero_le _)) ea_nil) (by show 1 ≤ 1000000; decide)) (ev_var rfl) (by omega) fun x e => ?_) ?_)
  · subst e
    rw [Int.toNat_natCast]
    exact ⟨by show 1 * n ≤ 1000000; omega, rep_unit n⟩
  rintro p7 ds rfl
  refine hs_seq (hs_for (ds := enumD (rows.map encR)) (fun k env => ∃ (found : List Row) (y z : Sl), env = [.raw (.ref dk), .dat (encM m rows), .dat (nt m), .dat (encT rows), .dat (nt n), .own p5 (names.map nt), .dat d6, .own p7 (found.map encR), y, z, .no, .no, .no, .no, .no] ∧ found.length = n ∧ ∀ j x, j < k → names[j]? = some x → ∃ r, found[x]? = some r ∧ GoodW (NmW n names rows j) m r)
    (ei_enT (ev_var rfl)) ⟨_, _, _, rfl, List.length_replicate, fun j x h => absurd h (Nat.not_lt_zero j)⟩ ?_ ?_)
  · rintro i d env hd ⟨found, y, z, rfl, hf, hv⟩
    obtain ⟨e, he, rfl⟩ := enum_at hd
    obtain ⟨r, hr, rfl⟩ := map_at he
    have hi : i < n := by rw [← en]; exact at_lt hr
    have gr : GoodR n m r := by rw [← en]; exact ok_row ok (List.mem_of_getElem? hr)
    obtain ⟨x, hx⟩ : ∃ x, names[i]? = some x := ⟨_, List.getElem?_eq_getElem (by rw [hN.len]; exact hi)⟩
    have hxl := hN.lt x (List.mem_of_getElem? hx)
    refine ⟨_, _, hg_tup (hgs_cons hg_name (hgs_cons hg_name hgs_nil)) rfl, ?_⟩
    refine hs_setItem (n := x) rfl (row_ofW (W := NmW n names rows i) (m := m) (ds := r.map encP) (ei_seqT (ev_var rfl)) (by rw [List.length_map]; exact gr.1) hm fun j d hj => ?_) (ev_ixLm (f := nt) (n := i) (es_own rfl) (ev_var rfl) hx) (by rw [List.length_map, hf]; exact hxl) ?_
    · obtain ⟨p, hp, rfl⟩ := map_at hj
      obtain ⟨g1, g2⟩ := row_lt gr hp
      obtain ⟨u, hu⟩ : ∃ u, names[p.1]? = some u := ⟨_, List.getElem?_eq_getElem (by rw [hN.len]; exact g1)⟩
      exact ⟨_, _, hg_tup (hgs_cons hg_name (hgs_cons hg_name hgs_nil)) rfl, by decide, pair_W (t := tNil) (P := fun k => k = u) (Q := fun k => k = p.2) ((ev_ixLm (f := nt) (n := p.1) (es_own rfl) (ev_var rfl) hu).imp fun d e => ⟨u, e, rfl⟩) ((ev_var rfl).imp fun d e => ⟨p.2, e, rfl⟩) fun pp e1 e2 => ⟨by rw [e1]; exact hN.lt u (List.mem_of_getElem? hu), by rw [e2]; exact g2, by show names[(stepR rows i j).1]? = _; rw [step_of hr hp, e1]; exact hu, by show _ = (stepR rows i j).2; rw [step_of hr hp]; exact e2⟩⟩
    · rintro d ⟨r', rfl, g'⟩
      refine ⟨found.set x r', _, _, by rw [List.map_set]; rfl, by rw [List.length_set, hf], fun j w hj hw => ?_⟩
      by_cases e : w = x
      · subst e
        have hij : j = i := nodup_inj hN.nd hw hx
        subst hij
        exact ⟨r', List.getElem?_set_self (by rw [hf]; exact hxl), g'⟩
      · rw [List.getElem?_set_ne (fun z => e z.symm)]
        refine hv j w ?_ hw
        rcases Nat.lt_succ_iff_lt_or_eq.mp hj with h | h
        · exact h
        · subst h
          rw [hx] at hw
          exact absurd (Option.some.inj hw).symm e
  rintro env ⟨found, y, z, rfl, hf, hv⟩
  have hsim : EqX m found rows 0 0 := sim_eqx (β := fun p q => names[q]? = some p) (fun p q x hb hx => by
    have hq : q < rows.length := by rw [en, ← hN.len]; exact at_lt hb
    obtain ⟨r, h1, h2, h3⟩ := hv q p (by rw [enumD_len, List.length_map]; exact hq) hb
    obtain ⟨pp, hpp⟩ : ∃ pp, r[x]? = some pp := ⟨_, List.getElem?_eq_getElem (by omega)⟩
    obtain ⟨_, _, w3, w4⟩ := h3 x pp hpp
    have es := step_of h1 hpp
    refine ⟨?_, ?_⟩
    · show (stepR found p x).2 = _
      rw [es]
      exact w4
    · show names[stp rows q x]? = some (stepR found p x).1
      rw [es]
      exact w3) hN.zero
  have hG : ∀ r ∈ found, GoodR n m r := fun r hr => by
    obtain ⟨w, hw⟩ := List.mem_iff_getElem?.mp hr
    have hwl := at_lt hw
    obtain ⟨j, hj⟩ := List.mem_iff_getElem?.mp (hN.all w (by omega))
    obtain ⟨r', e1, e2⟩ := hv j w (by rw [enumD_len, List.length_map, en, ← hN.len]; exact at_lt hj) hj
    rw [hw] at e1
    rw [Option.some.inj e1]
    refine ⟨e2.1, fun p hp => ?_⟩
    obtain ⟨i, hi⟩ := List.mem_iff_getElem?.mp hp
    obtain ⟨w1, w2, _⟩ := e2.2 i p hi
    exact ⟨w1, w2⟩
  rcases h6 with rfl | ⟨k, rfl, hk⟩
  · refine hs_seq (hs_if (et_test (ev_isNN (ev_var rfl))) (fun _ => ?_) fun h => nomatch h)
    exact hs_ret (ev_tup (ea_cons (ev_var rfl) (ea_cons (ev_tupOf (es_own rfl)) ea_nil)) (by show 2 ≤ 1000000; decide)) fun d e => ⟨found, e, ok_of hm (by omega) (by omega) hf hG, hsim⟩
  refine hs_seq (hs_if (et_test (ev_isN (ev_var rfl))) (fun h => nomatch h) fun _ => hs_next ?_)
  obtain ⟨rk, hrk⟩ : ∃ r, found[k]? = some r := ⟨_, List.getElem?_eq_getElem (by rw [hf]; exact hk)⟩
  refine hs_seq (hs_app rfl (by rw [List.length_map]; omega) (ev_ixLm (f := encR) (n := k) (es_own rfl) (ev_var rfl) hrk) ?_)
  rintro d rfl
  obtain ⟨all, eall⟩ : ∃ all, found ++ [rk] = all := ⟨_, rfl⟩
  have el : found.map encR ++ [encR rk] = all.map encR := by rw [← eall, List.map_append]; rfl
  have hal : all.length = n + 1 := by rw [← eall, List.length_append, hf]; rfl
  have hag : ∀ r ∈ all, GoodR n m r := fun r hr => by
    rw [← eall] at hr
    rcases List.mem_append.mp hr with h | h
    · exact hG r h
    · rw [List.mem_singleton.mp h]; exact hG rk (List.mem_of_getElem? hrk)
  rw [el]
  refine hs_seq (hs_setN (en_lst ea_nil (Nat.zero_le _)) ?_)
  rintro p10 ds rfl
  refine hs_freeze (i := 7) rfl ?_
  refine hs_seq (hs_for (ds := all.map encR) (fun k' env => ∃ (later : List Row) (y z w : Sl), env = [.raw (.ref dk), .dat (encM m rows), .dat (nt m), .dat (encT rows), .dat (nt n), .own p5 (names.map nt), .dat (nt k), .dat (.list (all.map encR)), y, z, .own p10 (later.map encR), w, .no, .no, .no] ∧ later.length = k' ∧ ∀ (q : Nat) (r : Row), later[q]? = some r → GoodW (DbW n k all q) m r)
    (ei_seqL (ev_var rfl)) ⟨[], _, _, _, rfl, rfl, fun q r h => by simp at h⟩ ?_ ?_)
  · rintro i d env hd ⟨later, y, z, w, rfl, hk', hr⟩
    obtain ⟨r, hri, rfl⟩ := map_at hd
    have gr := hag r (List.mem_of_getElem? hri)
    have hil := at_lt hri
    refine ⟨_, _, hg_name, ?_⟩
    refine hs_seq (hs_set (ev_newP (en_lcP (W := fun j _ d => ∃ u, d = nt u ∧ u < n + 1 ∧ nbF n k u = (stepR all i j).1) (ds := r.map encP) (ei_seqT (ev_var rfl)) (by rw [List.length_map, gr.1]; omega) fun j d hj => ?_)) ?_)
    · obtain ⟨p, hp, rfl⟩ := map_at hj
      obtain ⟨g1, g2⟩ := row_lt gr hp
      have es := step_of hri hp
      refine ⟨_, _, hg_tup (hgs_cons hg_name (hgs_cons hg_name hgs_nil)) rfl, by decide, ev_ifQ (et_andQ (x := decide (p.1 = k)) (et_test (ev_op (ev_var (d := nt p.1) rfl) (ev_var (d := nt k) rfl) opd_eqN)) fun _ => et_P (ab_eq (ev_drawN rfl (ev_nat 2) (by decide) (by decide)) (fun d ⟨k, e, _⟩ => ⟨k, e⟩) (ev_nat 0)))
        (fun hb => (ev_var (d := nt n) rfl).imp fun d e => ⟨n, e, Nat.lt_succ_self n, ?_⟩) (fun _ => (ev_var (d := nt p.1) rfl).imp fun d e => ⟨p.1, e, Nat.lt_succ_of_lt g1, ?_⟩)⟩
      · rw [es, of_decide_eq_true (hb rfl)]
        unfold nbF
        rw [if_pos rfl]
      · rw [es]
        unfold nbF
        rw [if_neg (by omega)]
    rintro d ⟨ds, rfl, h1, h2⟩
    obtain ⟨sides, rfl, hs⟩ := kindsI (f := nt) (R := fun j u => u < n + 1 ∧ nbF n k u = (stepR all i j).1) (ls := ds) fun j y hy => by
      have hl := at_lt hy
      exact h2 j _ y (List.getElem?_eq_getElem (by omega)) hy
    rw [List.length_map, List.length_map, gr.1] at h1
    refine hs_app rfl (by rw [List.length_map]; omega) (row_ofW (W := DbW n k all i) (m := m) (ds := rangeD (2 ^ m)) (ei_range (n := 2 ^ m) ((ev_lenT (ds := r.map encP) (ev_var rfl)).is (by rw [List.length_map, gr.1])) (by omega)) (rangeD_len _) hm fun x d hx => ?_) ?_
    · obtain ⟨rfl, hx2⟩ := rangeD_at hx
      obtain ⟨u, hu⟩ : ∃ u, sides[x]? = some u := ⟨_, List.getElem?_eq_getElem (by rw [h1]; exact hx2)⟩
      obtain ⟨p, hp⟩ : ∃ p, r[x]? = some p := ⟨_, List.getElem?_eq_getElem (by rw [gr.1]; exact hx2)⟩
      obtain ⟨u1, u2⟩ := hs x u hu
      exact ⟨_, _, hg_name, by decide, pair_W (t := tNil) (P := fun k => k = u) (Q := fun k => k = p.2) ((ev_ixLm (f := nt) (n := x) (es_of (ev_var rfl)) (ev_var rfl) hu).imp fun d e => ⟨u, e, rfl⟩)
        ((ev_ixT (j := 1) (d := nt p.2) (ds := [nt p.1, nt p.2]) (ev_ixTm (f := encP) (n := x) (ev_var rfl) (ev_var rfl) hp) ev_int rfl).imp fun d e => ⟨p.2, e, rfl⟩) fun pp e1 e2 => ⟨by rw [e1]; exact u1, by rw [e2]; exact (row_lt gr hp).2, by rw [e1]; exact u2, by rw [step_of hri hp]; exact e2⟩⟩
    · rintro d ⟨r', rfl, g'⟩
      refine ⟨later ++ [r'], _, _, _, by rw [List.map_append]; rfl, by rw [List.length_append, hk']; rfl, fun q r2 hq => ?_⟩
      by_cases h : q < later.length
      · rw [List.getElem?_append_left h] at hq
        exact hr q r2 hq
      · have hl := at_lt hq
        rw [List.length_append, List.length_singleton] at hl
        have e : q = later.length := by omega
        subst e
        rw [List.getElem?_concat_length] at hq
        cases hq
        rw [hk']
        exact g'
  rintro env ⟨later, y, z, w, rfl, hk', hr⟩
  rw [List.length_map, hal] at hk'
  refine hs_ret (ev_tup (ea_cons (ev_var rfl) (ea_cons (ev_tupOf (es_own rfl)) ea_nil)) (by show 2 ≤ 1000000; decide)) fun d e => ⟨later, e, ok_of hm (by omega) (by omega) hk' fun r hrm => ?_, EqX.trans ?_ hsim⟩
  · obtain ⟨q, hq⟩ := List.mem_iff_getElem?.mp hrm
    obtain ⟨g1, g2⟩ := hr q r hq
    refine ⟨g1, fun p hp => ?_⟩
    obtain ⟨i, hi⟩ := List.mem_iff_getElem?.mp hp
    obtain ⟨w1, w2, _⟩ := g2 i p hi
    exact ⟨w1, w2⟩
  · refine sim_eqx (β := fun p q => p < n + 1 ∧ nbF n k p = q) (fun p q x hb hx => ?_) ⟨Nat.succ_pos _, ?_⟩
    · obtain ⟨hp, rfl⟩ := hb
      obtain ⟨r, hrr⟩ : ∃ r, later[p]? = some r := ⟨_, List.getElem?_eq_getElem (by omega)⟩
      obtain ⟨g1, g2⟩ := hr p r hrr
      obtain ⟨pp, hpp⟩ : ∃ pp, r[x]? = some pp := ⟨_, List.getElem?_eq_getElem (by omega)⟩
      obtain ⟨w1, w2, w3, w4⟩ := g2 x pp hpp
      have es := step_of hrr hpp
      have ea : stepR all p x = stepR found (nbF n k p) x := by
        unfold stepR nbF
        rw [← eall]
        by_cases h : p = n
        · rw [if_pos h, h, ← hf, List.getElem?_concat_length, hrk]
        · rw [if_neg h, List.getElem?_append_left (by omega)]
      refine ⟨?_, ?_, ?_⟩
      · show (stepR later p x).2 = (stepR found _ x).2
        rw [es, ← ea]
        exact w4
      · show (stepR later p x).1 < n + 1
        rw [es]
        exact w1
      · show nbF n k (stepR later p x).1 = (stepR found _ x).1
        rw [es, ← ea]
        exact w3
    · unfold nbF
      rw [if_neg (by omega)]
end
end SS
namespace SS
open PySem PySem.Spec PyProof.Rows L2 DL
/-! ### sheets grow -/
structure Gr (g g' : Sh) (k : Nat) : Prop where
  m : g'.m = g.m
  more : ∃ more, g'.rows = g.rows ++ more ∧ more.length ≤ k
  ok : ShOk g'
theorem Gr.refl {g : Sh} (ok : ShOk g) (k : Nat) : Gr g g k := ⟨rfl, ⟨[], by rw [List.append_nil], Nat.zero_le _⟩, ok⟩
theorem Gr.trans {g g1 g2 : Sh} {k l : Nat} (a : Gr g g1 k) (b : Gr g1 g2 l) : Gr g g2 (k + l) := by
  obtain ⟨m1, ⟨x, hx, lx⟩, _⟩ := a
  obtain ⟨m2, ⟨y, hy, ly⟩, ok⟩ := b
  exact ⟨m2.trans m1, ⟨x ++ y, by rw [hy, hx, List.append_assoc], by rw [List.length_append]; omega⟩, ok⟩
theorem Gr.le {g g' : Sh} {k l : Nat} (a : Gr g g' k) (h : k ≤ l) : Gr g g' l := ⟨a.m, let ⟨x, h1, h2⟩ := a.more; ⟨x, h1, Nat.le_trans h2 h⟩, a.ok⟩
theorem Gr.size {g g' : Sh} {k : Nat} (a : Gr g g' k) : g.size ≤ g'.size ∧ g'.rows.length ≤ g.rows.length + k ∧ g.rows.length ≤ g'.rows.length := by
  obtain ⟨m, ⟨x, hx, lx⟩, _⟩ := a
  unfold Sh.size
  rw [m, hx, List.length_append]
  omega
theorem Gr.at_ {g g' : Sh} {k i : Nat} {r : QRow} (a : Gr g g' k) (h : g.rows[i]? = some r) : g'.rows[i]? = some r := by
  obtain ⟨m, ⟨x, hx, lx⟩, _⟩ := a
  rw [hx, List.getElem?_append_left (List.getElem?_eq_some_iff.mp h).1]
  exact h
theorem OkS.app {m : Nat} {rows : List QRow} {r : QRow} (h : OkS m rows) (hk : (r.1, r.2.length) ∈ kin) (ho : ∀ o ∈ r.2, o < m + rows.length) : OkS m (rows ++ [r]) := fun i q hr => by
  by_cases hi : i < rows.length
  · rw [List.getElem?_append_left hi] at hr
    exact h i q hr
  · have hl := (List.getElem?_eq_some_iff.mp hr).1
    rw [List.length_append, List.length_singleton] at hl
    have e : i = rows.length := by omega
    subst e
    rw [List.getElem?_concat_length] at hr
    cases hr
    exact ⟨hk, ho⟩
theorem put_old {g : Sh} {r : QRow} (h : r ∈ g.rows) : g.put r = (g, g.m + g.rows.idxOf r) := if_pos h
theorem put_new {g : Sh} {r : QRow} (h : r ∉ g.rows) : g.put r = (⟨g.m, g.rows ++ [r]⟩, g.m + g.rows.length) := if_neg h
theorem put_gr {g : Sh} {r : QRow} (ok : ShOk g) (h : PutOk g r) : Gr g (g.put r).1 1 ∧ g.m ≤ (g.put r).2 ∧ (g.put r).1.rows[(g.put r).2 - g.m]? = some r ∧ (g.put r).2 < (g.put r).1.size := by
  by_cases hr : r ∈ g.rows
  · rw [put_old hr]
    have hi := List.idxOf_lt_length_of_mem hr
    refine ⟨Gr.refl ok 1, Nat.le_add_right _ _, ?_, ?_⟩
    · rw [Nat.add_sub_cancel_left, List.getElem?_eq_getElem hi, List.getElem_idxOf hi]
    · show g.m + g.rows.idxOf r < g.m + g.rows.length
      omega
  · rw [put_new hr]
    have hf := h.few
    refine ⟨⟨rfl, ⟨[r], rfl, Nat.le_refl _⟩, ⟨ok.m2, ?_, ok.ok.app h.k h.o, ?_⟩⟩, Nat.le_add_right _ _, ?_, ?_⟩
    · refine List.nodup_append.mpr ⟨ok.nd, List.nodup_cons.mpr ⟨List.not_mem_nil, List.nodup_nil⟩, fun a ha b hb => ?_⟩
      rw [List.mem_singleton.mp hb]
      rintro rfl
      exact hr ha
    · show (g.rows ++ [r]).length ≤ 1000
      rw [List.length_append, List.length_singleton]
      omega
    · show (g.rows ++ [r])[g.m + g.rows.length - g.m]? = some r
      rw [Nat.add_sub_cancel_left, List.getElem?_concat_length]
    · show g.m + g.rows.length < g.m + (g.rows ++ [r]).length
      rw [List.length_append, List.length_singleton]
      omega
theorem k_and : ((("and" : Str), 2) : Str × Nat) ∈ kin := by decide +kernel
theorem k_or : ((("or" : Str), 2) : Str × Nat) ∈ kin := by decide +kernel
theorem k_plus : ((("plus" : Str), 2) : Str × Nat) ∈ kin := by decide +kernel
theorem k_xor : ((("xor" : Str), 2) : Str × Nat) ∈ kin := by decide +kernel
theorem k_not : ((("not" : Str), 1) : Str × Nat) ∈ kin := by decide +kernel
theorem k_zero : ((("zero" : Str), 0) : Str × Nat) ∈ kin := by decide +kernel
theorem k_ones : ((("ones" : Str), 0) : Str × Nat) ∈ kin := by decide +kernel
theorem two_lt {a b n : Nat} (h1 : a < n) (h2 : b < n) : ∀ o ∈ [a, b], o < n := fun o ho => by
  rcases List.mem_cons.mp ho with e | ho
  · rw [e]; exact h1
  · rw [List.mem_singleton.mp ho]; exact h2
theorem put2_ok {g : Sh} {w : Str} {a b : Nat} (hk : (w, 2) ∈ kin) (ha : a < g.size) (hb : b < g.size) (hf : g.rows.length < 1000) : PutOk g (w, [a, b]) := ⟨hk, two_lt ha hb, hf⟩
theorem foldW_gr {w : Str} (hk : (w, 2) ∈ kin) : ∀ {ops : List Nat} {g : Sh} {o : Nat}, ShOk g → o < g.size → (∀ x ∈ ops, x < g.size) → g.rows.length + ops.length < 1000 → Gr g (foldW w (g, o) ops).1 ops.length ∧ (foldW w (g, o) ops).2 < (foldW w (g, o) ops).1.size
  | [], g, o, ok, ho, _, _ => ⟨Gr.refl ok 0, ho⟩
  | x :: r, g, o, ok, ho, hx, hf => by
    rw [List.length_cons] at hf
    obtain ⟨h1, h2, h3, h4⟩ := put_gr ok (put2_ok hk ho (hx x List.mem_cons_self) (by omega))
    obtain ⟨s1, s2, s3⟩ := h1.size
    have ih := foldW_gr hk (ops := r) (g := (g.put (w, [o, x])).1) (o := (g.put (w, [o, x])).2) h1.ok h4 (fun y hy => by have := hx y (List.mem_cons_of_mem _ hy); omega) (by omega)
    refine ⟨?_, ih.2⟩
    exact (h1.trans ih.1).le (by rw [List.length_cons]; omega)
theorem putAll_gr {g : Sh} {b : Bool} {ops : List Nat} (ok : ShOk g) (h : OpsOk g ops) : Gr g (g.putAll b ops).1 (ops.length + 1) ∧ (g.putAll b ops).2 < (g.putAll b ops).1.size := by
  cases ops with
  | nil =>
    have hf := h.few
    rw [List.length_nil] at hf
    have : PutOk g (if b = true then (("ones" : Str), []) else (("zero" : Str), [])) := by
      cases b with
      | true => exact ⟨k_ones, fun _ z => absurd z List.not_mem_nil, by omega⟩
      | false => exact ⟨k_zero, fun _ z => absurd z List.not_mem_nil, by omega⟩
    obtain ⟨h1, h2, h3, h4⟩ := put_gr ok this
    exact ⟨h1.le (Nat.le_refl _), h4⟩
  | cons o os =>
    have hf := h.few
    rw [List.length_cons] at hf
    have hk : ((if b = true then "and" else "or" : Str), 2) ∈ kin := by
      cases b with
      | true => exact k_and
      | false => exact k_or
    obtain ⟨h1, h2⟩ := foldW_gr hk ok (h.o o List.mem_cons_self) (fun x hx => h.o x (List.mem_cons_of_mem _ hx)) (by omega)
    exact ⟨h1.le (by rw [List.length_cons]; omega), h2⟩
theorem chosen_gr {g : Sh} {o b : Nat} (ok : ShOk g) (ho : o < g.size) (hf : g.rows.length < 1000) : Gr g (g.chosen o b).1 1 ∧ (g.chosen o b).2 < (g.chosen o b).1.size := by
  unfold Sh.chosen
  by_cases h : b = 1
  · rw [if_pos h]
    exact ⟨Gr.refl ok 1, ho⟩
  · rw [if_neg h]
    obtain ⟨h1, h2, h3, h4⟩ := put_gr ok (r := (("not" : Str), [o])) ⟨k_not, fun x hx => by rw [List.mem_singleton.mp hx]; exact ho, hf⟩
    exact ⟨h1, h4⟩
theorem accS_gr {α : Type} {f : Sh → α → Sh × Nat} {c : Nat} {Pre : Sh → α → Prop} (hf : ∀ g a, ShOk g → Pre g a → g.rows.length + c < 900 → Gr g (f g a).1 c ∧ (f g a).2 < (f g a).1.size) (hp : ∀ g g' a, g.size ≤ g'.size → g'.m = g.m → Pre g a → Pre g' a) :
    ∀ {as : List α} {g : Sh}, ShOk g → (∀ a ∈ as, Pre g a) → g.rows.length + c * as.length < 900 → Gr g (accS f g as).1 (c * as.length) ∧ (accS f g as).2.length = as.length ∧ ∀ x ∈ (accS f g as).2, x < (accS f g as).1.size
  | [], g, ok, _, _ => ⟨Gr.refl ok _, rfl, fun _ z => absurd z List.not_mem_nil⟩
  | a :: as, g, ok, hpre, hl => by
    rw [List.length_cons, Nat.mul_succ] at hl
    obtain ⟨h1, h2⟩ := hf g a ok (hpre a List.mem_cons_self) (by omega)
    obtain ⟨s1, s2, s3⟩ := h1.size
    obtain ⟨i1, i2, i3⟩ := accS_gr hf hp (as := as) (g := (f g a).1) h1.ok (fun b hb => hp g _ b s1 h1.m (hpre b (List.mem_cons_of_mem _ hb))) (by omega)
    have e : accS f g (a :: as) = ((accS f (f g a).1 as).1, (f g a).2 :: (accS f (f g a).1 as).2) := rfl
    rw [e]
    refine ⟨(h1.trans i1).le (by rw [List.length_cons, Nat.mul_succ]; omega), by rw [List.length_cons, i2, List.length_cons], fun x hx => ?_⟩
    rcases List.mem_cons.mp hx with e | hx
    · rw [e]
      have := i1.size.1
      exact Nat.lt_of_lt_of_le h2 this
    · exact i3 x hx
theorem chooses_gr {g : Sh} {ps : List (Nat × Nat)} {v : Nat → Nat} (ok : ShOk g) (h : ∀ p ∈ ps, p.1 < g.size) (hl : g.rows.length + ps.length < 900) : Gr g (accS (fun g (p : Nat × Nat) => g.chosen p.1 (v p.2)) g ps).1 ps.length ∧ (accS (fun g (p : Nat × Nat) => g.chosen p.1 (v p.2)) g ps).2.length = ps.length ∧ ∀ x ∈ (accS (fun g (p : Nat × Nat) => g.chosen p.1 (v p.2)) g ps).2, x < (accS (fun g (p : Nat × Nat) => g.chosen p.1 (v p.2)) g ps).1.size := by
  have := accS_gr (c := 1) (Pre := fun g (p : Nat × Nat) => p.1 < g.size) (f := fun g (p : Nat × Nat) => g.chosen p.1 (v p.2)) (fun g a ok h hl => chosen_gr ok h (by omega)) (fun g g' a h _ hp => by omega) ok h (by omega)
  rw [Nat.one_mul] at this
  exact this
theorem choosesJ_gr {g : Sh} {js : List Nat} {v : Nat → Nat} (ok : ShOk g) (h : ∀ j ∈ js, j < g.size) (hl : g.rows.length + js.length < 900) : Gr g (accS (fun g j => g.chosen j (v j)) g js).1 js.length ∧ (accS (fun g j => g.chosen j (v j)) g js).2.length = js.length ∧ ∀ x ∈ (accS (fun g j => g.chosen j (v j)) g js).2, x < (accS (fun g j => g.chosen j (v j)) g js).1.size := by
  have := accS_gr (c := 1) (Pre := fun g (j : Nat) => j < g.size) (f := fun g j => g.chosen j (v j)) (fun g a ok h hl => chosen_gr ok h (by omega)) (fun g g' a h _ hp => by omega) ok h (by omega)
  rw [Nat.one_mul] at this
  exact this
theorem letterNum_gr {g : Sh} {x : Nat} (ok : ShOk g) (hf : g.rows.length < 900 - 5) : Gr g (g.letterNum x).1 5 ∧ (g.letterNum x).2 < (g.letterNum x).1.size := by
  have hm := ok.m2
  obtain ⟨h1, h2, h3⟩ := choosesJ_gr (v := fun j => bitAt x j) (js := List.range g.m) ok (fun j hj => by have := List.mem_range.mp hj; unfold Sh.size; omega) (by rw [List.length_range]; omega)
  rw [List.length_range] at h1 h2
  obtain ⟨s1, s2, s3⟩ := h1.size
  unfold Sh.letterNum
  obtain ⟨i1, i2⟩ := putAll_gr (b := true) h1.ok ⟨h3, by omega⟩
  exact ⟨(h1.trans i1).le (by omega), i2⟩
theorem setting_sub {small : List Row} {letters : List Nat} {place : Nat} : ∀ o ∈ setting small letters place ++ keeping small letters, o ∈ letters := fun o ho => by
  have key : ∀ (f : Nat × Nat → Bool), o ∈ (letters.zipIdx.filter f).map (·.1) → o ∈ letters := fun f h => by
    obtain ⟨p, hp, rfl⟩ := List.mem_map.mp h
    have := (List.mem_filter.mp hp).1
    obtain ⟨_, _, e⟩ := List.mem_zipIdx this
    rw [e]
    exact List.getElem_mem _
  rcases List.mem_append.mp ho with h | h
  · exact key _ h
  · exact key _ h
theorem filt_len {small : List Row} {letters : List Nat} (f : Nat × Nat → Bool) : ((letters.zipIdx.filter f).map (·.1)).length ≤ letters.length := by
  rw [List.length_map]
  have := List.length_filter_le f letters.zipIdx
  rw [List.length_zipIdx] at this
  exact this
theorem stateBit_gr {g : Sh} {small : List Row} {letters : List Nat} {place : Nat} (ok : ShOk g) (hl : letters.length ≤ 4) (hlt : ∀ o ∈ letters, o < g.size) (hf : g.rows.length < 900) : Gr g (g.stateBit small letters place).1 17 ∧ (g.stateBit small letters place).2 < (g.stateBit small letters place).1.size := by
  have n1 : (setting small letters place).length ≤ 4 := Nat.le_trans (filt_len (small := small) _) hl
  have n2 : (keeping small letters).length ≤ 4 := Nat.le_trans (filt_len (small := small) _) hl
  have n3 : (setting small letters place ++ keeping small letters).length ≤ 8 := by rw [List.length_append]; omega
  obtain ⟨a1, a2⟩ := putAll_gr (b := false) ok (ops := setting small letters place) ⟨fun o ho => hlt o (setting_sub o (List.mem_append_left _ ho)), by omega⟩
  obtain ⟨sa1, sa2, sa3⟩ := a1.size
  unfold Sh.stateBit
  generalize g.putAll false (setting small letters place) = l at a1 a2 sa1 sa2 sa3 ⊢
  obtain ⟨b1, b2⟩ := putAll_gr (b := false) a1.ok (ops := setting small letters place ++ keeping small letters) ⟨fun o ho => by have := hlt o (setting_sub o ho); omega, by omega⟩
  obtain ⟨sb1, sb2, sb3⟩ := b1.size
  simp only
  generalize l.1.putAll false (setting small letters place ++ keeping small letters) = h at b1 b2 sb1 sb2 sb3 ⊢
  obtain ⟨c1, _, _, c2⟩ := put_gr b1.ok (put2_ok k_plus b2 (a := h.2) (b := l.2) (by omega) (by omega))
  obtain ⟨sc1, sc2, sc3⟩ := c1.size
  generalize h.1.put (("plus" : Str), [h.2, l.2]) = a at c1 c2 sc1 sc2 sc3 ⊢
  obtain ⟨d1, _, _, d2⟩ := put_gr c1.ok (put2_ok k_xor c2 (a := a.2) (b := h.2) (by omega) (by omega))
  obtain ⟨sd1, sd2, sd3⟩ := d1.size
  generalize a.1.put (("xor" : Str), [a.2, h.2]) = x at d1 d2 sd1 sd2 sd3 ⊢
  obtain ⟨e1, _, _, e2⟩ := put_gr d1.ok (put2_ok k_xor d2 (a := x.2) (b := l.2) (by omega) (by omega))
  exact ⟨((((a1.trans b1).trans c1).trans d1).trans e1).le (by omega), e2⟩
theorem stateNum_gr {g : Sh} {bits : List Nat} {s : Nat} (ok : ShOk g) (hb : ∀ o ∈ bits, o < g.size) (hf : g.rows.length + 2 * bits.length + 1 < 900) : Gr g (g.stateNum bits s).1 (2 * bits.length + 1) ∧ (g.stateNum bits s).2 < (g.stateNum bits s).1.size := by
  have hz : bits.zipIdx.length = bits.length := List.length_zipIdx
  obtain ⟨h1, h2, h3⟩ := chooses_gr (v := fun p => bitAt s p) (ps := bits.zipIdx) ok (fun p hp => by
    obtain ⟨_, _, e⟩ := List.mem_zipIdx (show (p.1, p.2) ∈ bits.zipIdx 0 from hp)
    rw [e]
    exact hb _ (List.getElem_mem _)) (by omega)
  rw [hz] at h1 h2
  obtain ⟨s1, s2, s3⟩ := h1.size
  unfold Sh.stateNum
  obtain ⟨i1, i2⟩ := putAll_gr (b := true) h1.ok ⟨h3, by omega⟩
  exact ⟨(h1.trans i1).le (by omega), i2⟩
end SS
namespace SS
open PySem PySem.Spec PyProof.Rows L2 DL
open Evl (Ex ex_l ex_t)
/-- the class's facts -/
structure ShC (K : PySem.W.Frag) (C : Addr) : Prop where
  cl : Cls K C
  n1 : NoAttr K C "inputs"
  n2 : NoAttr K C "rows"
  n3 : NoAttr K C "numbers"
/-! ### the numbers of rows -/
theorem nkAll_num : ∀ {a b : List Nat}, nkAll (a.map nt) = nkAll (b.map nt) → a = b
  | [], [], _ => rfl
  | [], _ :: _, h => by rw [List.map_nil, List.map_cons, nkAll, nkAll] at h; cases h
  | _ :: _, [], h => by rw [List.map_nil, List.map_cons, nkAll, nkAll] at h; cases h
  | x :: a, y :: b, h => by
    rw [List.map_cons, List.map_cons, nkAll, nkAll] at h
    injection h with h1 h2
    have e : nkOf (nt x) = NestedKey.num (x : Int) := by show nkOf (.int _) = _; rw [nkOf]
    have e2 : nkOf (nt y) = NestedKey.num (y : Int) := by show nkOf (.int _) = _; rw [nkOf]
    rw [e, e2] at h1
    injection h1 with h1
    have : x = y := by omega
    rw [this, nkAll_num h2]
theorem nkQ_inj {q r : QRow} (h : nkOf (encQ q) = nkOf (encQ r)) : q = r := by
  unfold encQ at h
  rw [nkOf, nkOf, nkAll, nkAll] at h
  injection h with h
  injection h with h1 h2
  rw [nkOf, nkOf] at h1
  injection h1 with h1
  exact Prod.ext h1 (nkAll_num h2)
theorem hshQ (q : QRow) : hsh (encQ q) = true := by
  unfold encQ
  rw [hsh, hshAll, hsh, Bool.true_and]
  exact hsh_nts q.2
theorem depQ (q : QRow) : (nkOf (encQ q)).depth ≤ 8 := by
  unfold encQ
  rw [nkOf, nkAll, nkOf]
  have h := nkAll_nts q.2
  rw [h]
  rw [NestedKey.depth, NestedKey.depthAll, NestedKey.depth, dep_nums]
  decide
theorem look_num (m : Nat) (r : QRow) : ∀ (rows : List QRow) (n : Nat), lookN (rows.zipIdx n |>.map fun p => (encQ p.1, nt (m + p.2))) (nkOf (encQ r)) = if r ∈ rows then some (nt (m + (n + rows.idxOf r))) else none
  | [], n => rfl
  | q :: rows, n => by
    rw [List.zipIdx_cons, List.map_cons]
    unfold lookN
    rw [List.find?_cons]
    by_cases e : q = r
    · subst e
      rw [decide_eq_true rfl, if_pos List.mem_cons_self, List.idxOf_cons_self]
      rfl
    · rw [decide_eq_false (fun z => e (nkQ_inj z))]
      have ih := look_num m r rows (n + 1)
      unfold lookN at ih
      show ((List.find? _ _).map _) = _
      rw [ih]
      by_cases hr : r ∈ rows
      · rw [if_pos hr, if_pos (List.mem_cons_of_mem _ hr), List.idxOf_cons, beq_false_of_ne e]
        show some (nt (m + (n + 1 + rows.idxOf r))) = some (nt (m + (n + (rows.idxOf r + 1))))
        congr 2
        omega
      · rw [if_neg hr, if_neg (fun z => by
          rcases List.mem_cons.mp z with z | z
          · exact e z.symm
          · exact hr z)]
theorem numT_look (m : Nat) (rows : List QRow) (r : QRow) : lookN (numT m rows) (nkOf (encQ r)) = if r ∈ rows then some (nt (m + rows.idxOf r)) else none := by
  have := look_num m r rows 0
  rw [Nat.zero_add] at this
  exact this
theorem numT_ok (m : Nat) (rows : List QRow) : HashOk (numT m rows) := fun q hq => by
  obtain ⟨p, _, rfl⟩ := List.mem_map.mp hq
  exact ⟨hshQ p.1, depQ p.1⟩
theorem numT_snoc (m : Nat) (rows : List QRow) (r : QRow) : numT m (rows ++ [r]) = numT m rows ++ [(encQ r, nt (m + rows.length))] := by
  unfold numT
  rw [List.zipIdx_append, List.map_append]
  congr 1
  show [(encQ r, nt (m + (0 + rows.length)))] = _
  rw [Nat.zero_add]
section
variable {P : Program} {w : World} {K : PySem.W.Frag} {C : Addr} {p : ShA} {B0 H0 : Hp} {env : List Sl} {g : Sh} {ta tb te : TE} {i j : Nat}
abbrev shc (P : Program) (w : World) (K : PySem.W.Frag) (C : Addr) (p : ShA) (B0 H0 : Hp) : Gc Sh := (shRs P w K C).cn K p B0 H0
theorem sh_ok {B H : Hp} (A : At ((shc P w K C p B0 H0).at g) B H) : ShR P w K C p g B H := A.r
theorem sh_in {m : Str} (hm : ∀ v1 v2 v3 : V, ([("inputs", v1), ("rows", v2), ("numbers", v3)] : List (Str × V)).lookup m = none) : ∀ (g : Sh) (B H : Hp), (shRs P w K C).R p g B H → ∃ dx fs, H ((shRs P w K C).ref p) = some (.ins C dx fs) ∧ fs.lookup m = none := fun g B H r =>
  ⟨_, _, (show ShR P w K C p g B H from r).ins, hm _ _ _⟩
/-- the sheet in its slot -/
abbrev shV (p : ShA) : Sl := .raw (.ref p.sh)
theorem at_raw {c : Cn} {σ : Sg} {B H : Hp} {v : V} (e : EnvOk c B H σ env) (h : env[i]? = some (.raw v)) : σ[i]? = some (some v) := by
  obtain ⟨x, g1, (g2 : x = some v)⟩ := e.at_ i _ h
  rw [g1, g2]
theorem ev_inputs (X : ShC K C) (h : env[i]? = some (shV p)) : Ev ((shc P w K C p B0 H0).at g) (tFld K (tVar i) "inputs") env (nt g.m) := fun σ B H A e Q q =>
  ⟨_, at_raw e h, p.sh, C, p.dx, _, _, rfl, (sh_ok A).ins, X.cl, X.n1, rfl, q _ (nt g.m) B H A.same A.r (.int _) rfl⟩
theorem ev_lenRows (X : ShC K C) (h : env[i]? = some (shV p)) : Ev ((shc P w K C p B0 H0).at g) (tCB (rLn K) (tCons (tFld K (tVar i) "rows") tNil)) env (nt g.rows.length) := fun σ B H A e Q q => by
  obtain ⟨xs, hl, hd⟩ := (sh_ok A).lst
  refine ⟨_, at_raw e h, p.sh, C, p.dx, _, _, rfl, (sh_ok A).ins, X.cl, X.n2, rfl, ?_⟩
  refine ⟨.ref p.l, xs.length, rfl, .inl ⟨xs, SqL.of hl, rfl⟩, ?_⟩
  rw [dps_len hd, List.length_map]
  exact q _ (nt g.rows.length) B H A.same A.r (.int _) rfl
theorem ev_tupRows (X : ShC K C) (h : env[i]? = some (shV p)) : Ev ((shc P w K C p B0 H0).at g) (tCB (rTupOf K) (tCons (tFld K (tVar i) "rows") tNil)) env (.tuple (g.rows.map encQ)) := fun σ B H A e Q q => by
  obtain ⟨xs, hl, hd⟩ := (sh_ok A).lst
  refine ⟨_, at_raw e h, p.sh, C, p.dx, _, _, rfl, (sh_ok A).ins, X.cl, X.n2, rfl, ?_⟩
  refine ⟨p.l, xs, rfl, .inl ⟨SqL.of hl, fun t ht => ?_⟩⟩
  obtain ⟨x2, r2⟩ := A.new (o := .tup xs) ht
  exact q _ _ _ _ x2 r2 (.tup (SqT.of upd_same) (dps_mono x2.b hd)) rfl
/-- where its numbers stand -/
theorem num_at {B H : Hp} (A : At ((shc P w K C p B0 H0).at g) B H) : ∃ ks, NkR K B ks (numT g.m g.rows) ∧ NDict P w K H p.nd ks := by
  obtain ⟨ks, h1, h2⟩ := (sh_ok A).dic
  exact ⟨ks, h2, h1, nk_keys A.e.s h2 (numT_ok _ _)⟩
theorem key_of {B H : Hp} {v : V} {r : QRow} (e : Ex B H) (h : Dt K B v (encQ r)) : ∃ b, v = .ref b ∧ NKey K H (.ref b) (nkOf (encQ r)) := by
  unfold encQ at h
  obtain ⟨b, rfl⟩ := ref_of (c := pureCn K B H) h
  exact ⟨b, rfl, encQ r, dp_mono e h, rfl, hshQ r, depQ r⟩
theorem ev_numGet {r : QRow} (X : ShC K C) (h : env[0]? = some (shV p)) (h1 : env[1]? = some (.dat (encQ r))) (hr : r ∈ g.rows) : Ev ((shc P w K C p B0 H0).at g) (tNGet P w K (tFld K (tVar 0) "numbers") (tVar 1)) env (nt (g.m + g.rows.idxOf r)) := fun σ B H A e Q q => by
  obtain ⟨ks, n1, n2⟩ := num_at A
  obtain ⟨x, e1, v, e2, e3⟩ := e.at_ 1 _ h1
  subst e2
  obtain ⟨b, rfl, nk⟩ := key_of A.e.s e3
  refine ⟨_, at_raw e h, p.sh, C, p.dx, _, _, rfl, (sh_ok A).ins, X.cl, X.n3, rfl, ?_⟩
  have hl := numT_look g.m g.rows r
  rw [if_pos hr] at hl
  obtain ⟨z, g1, g2⟩ := (nk_look n1).1 _ hl
  exact ⟨.ref b, e1, p.nd, b, _, ks, z, rfl, rfl, n2, nk, g1, q z _ B H A.same A.r g2 rfl⟩
theorem h_Sheet_put (X : ShC K C) (g : Sh) (r : QRow) (hp : PutOk g r) : HSW (shc P w K C p B0 H0) (t_Sheet_put P w K C) [shV p, .dat (encQ r)] g { rt := fun g' d => g' = (g.put r).1 ∧ d = nt (g.put r).2, nx := fun g' _ => g' = (g.put r).1 ∧ (PyData.none : D) = nt (g.put r).2 } := by
  by_cases hr : r ∈ g.rows
  · rw [put_old hr]
    refine hw_pre (hs_if (b := false) (t := _) ?_ (fun h => nomatch h) fun _ => hs_next ?_)
    · refine et_B fun σ B H A e Q q => ?_
      obtain ⟨ks, n1, n2⟩ := num_at A
      obtain ⟨x, e1, v, e2, e3⟩ := e.at_ 1 _ rfl
      subst e2
      obtain ⟨b, rfl, nk⟩ := key_of A.e.s e3
      refine ⟨_, e1, _, at_raw e rfl, p.sh, C, p.dx, _, _, rfl, (sh_ok A).ins, X.cl, X.n3, rfl, p.nd, b, _, ks, rfl, rfl, n2, nk, ?_⟩
      have hl := numT_look g.m g.rows r
      rw [if_pos hr] at hl
      rw [nk_some n1, hl]
      exact q (.bl false) (.bool false) B H A.same A.r (.bl _) rfl
    · exact hw_ret (ew (ev_numGet X rfl rfl hr)) fun g' d ⟨e1, e2⟩ => ⟨e1, e2⟩
  · rw [put_new hr]
    have hf := hp.few
    have okn : ∀ {ok : ShOk g}, ShOk (g.put r).1 := fun {ok} => (put_gr ok hp).1.ok
    rw [put_new hr] at okn
    refine hw_mid (Mid := fun g' e => g' = ⟨g.m, g.rows ++ [r]⟩ ∧ e = [shV p, .dat (encQ r)]) ?_ ?_
    · refine hw_ifB (b := true) ?_ (fun _ => ?_) (fun h => nomatch h)
      · refine et_B fun σ B H A e Q q => ?_
        obtain ⟨ks, n1, n2⟩ := num_at A
        obtain ⟨x, e1, v, e2, e3⟩ := e.at_ 1 _ rfl
        subst e2
        obtain ⟨b, rfl, nk⟩ := key_of A.e.s e3
        refine ⟨_, e1, _, at_raw e rfl, p.sh, C, p.dx, _, _, rfl, (sh_ok A).ins, X.cl, X.n3, rfl, p.nd, b, _, ks, rfl, rfl, n2, nk, ?_⟩
        have hl := numT_look g.m g.rows r
        rw [if_neg hr] at hl
        rw [nk_some n1, hl]
        exact q (.bl true) (.bool true) B H A.same A.r (.bl _) rfl
      · intro Xe σ B H A e gg
        -- self.numbers[row] = ..
        refine ev_op (ev_inputs X rfl) (ev_lenRows X rfl) opd_addN σ B H A e _ fun v d B1 H1 x1 r1 t1 p1 => ?_
        subst p1
        have A1 : At ((shc P w K C p B0 H0).at g) B1 H1 := A.go x1 r1
        have e1 := e.go x1
        obtain ⟨ks, n1, n2⟩ := num_at A1
        have R := sh_ok A1
        obtain ⟨x, s1, u, s2, s3⟩ := e1.at_ 1 _ rfl
        subst s2
        obtain ⟨b, rfl, nk⟩ := key_of A1.e.s s3
        have hl := numT_look g.m g.rows r
        rw [if_neg hr] at hl
        have hks : ks.length = g.rows.length := by
          rw [show ks.length = (numT g.m g.rows).length from Paired.length n1]
          unfold numT
          rw [List.length_map, List.length_zipIdx]
        refine ⟨_, at_raw e1 rfl, p.sh, C, p.dx, _, _, rfl, R.ins, X.cl, X.n3, rfl, .ref b, s1, p.nd, b, _, ks, rfl, rfl, n2, nk, (nk_look n1).2 hl, szlt (by omega), ?_⟩
        obtain ⟨xs, hl2, hd2⟩ := R.lst
        obtain ⟨b1, b2, b3, b4⟩ := R.bs
        have hx : (.ins C p.dx [("inputs", .int (g.m : Nat)), ("rows", .ref p.l), ("numbers", .ref p.nd)] : HO) ≠ (NDictO P w p.nd ks) := fun z => by cases z
        have ne1 : p.sh ≠ p.nd := ne_of R.ins n2.1 (fun z => by cases z)
        have ne2 : p.l ≠ p.nd := ne_of hl2 n2.1 (fun z => by cases z)
        have ne3 : p.sh ≠ p.l := ne_of R.ins hl2 (fun z => by cases z)
        have ne4 : p.dx ≠ p.nd := ne_of R.own n2.1 (fun z => by cases z)
        have ne5 : p.dx ≠ p.l := ne_of R.own hl2 (fun z => by cases z)
        have k1 : (upd H1 p.nd (NDictO P w p.nd (ks ++ [(nkOf (encQ r), b, v)]))) p.l = some (.lst xs) := by rw [upd_ne ne2]; exact hl2
        have k2 : (upd H1 p.nd (NDictO P w p.nd (ks ++ [(nkOf (encQ r), b, v)]))) p.sh = some (.ins C p.dx [("inputs", .int (g.m : Nat)), ("rows", .ref p.l), ("numbers", .ref p.nd)]) := by rw [upd_ne ne1]; exact R.ins
        -- self.rows.append(row)
        refine ⟨_, at_raw e1 rfl, p.sh, C, p.dx, _, _, rfl, k2, X.cl, X.n2, rfl, .inl ⟨rfl, xs, SqL.of k1⟩, .ref b, s1, p.l, xs, .ref b, rfl, rfl, k1, szlt (by rw [dps_len hd2, List.length_map]; omega), ?_⟩
        have xx := ext_res (u := .lst (xs ++ [.ref b])) (ext_res (u := NDictO P w p.nd (ks ++ [(nkOf (encQ r), b, v)])) A1.e (S := shS p) (.inr (.inr (.inr rfl))) b4) (.inr (.inr (.inl rfl))) b3
        refine gg.nx σ ⟨g.m, g.rows ++ [r]⟩ B1 _ _ x1.b ⟨xx, ⟨okn (ok := R.ok), ?_, ?_, ⟨xs ++ [.ref b], upd_same, ?_⟩, ⟨ks ++ [(nkOf (encQ r), b, v)], ?_, ?_⟩, R.bs⟩⟩ ?_ ⟨rfl, rfl⟩
        · rw [upd_ne ne3]; exact k2
        · rw [upd_ne ne5, upd_ne ne4]; exact R.own
        · show DtAll K B1 _ ((g.rows ++ [r]).map encQ)
          rw [List.map_append]
          exact dps_app hd2 (.cons s3 .nil)
        · rw [upd_ne ne2.symm, upd_same]
        · show NkR K B1 _ (numT g.m (g.rows ++ [r]))
          rw [numT_snoc]
          exact nk_app n1 (.cons ⟨s3, rfl, t1⟩ .nil)
        · have e2 : EnvOk ((shc P w K C p B0 H0).at g) B1 _ σ [shV p, .dat (encQ r)] := (EnvOk.res (u := NDictO P w p.nd (ks ++ [(nkOf (encQ r), b, v)])) e1 (a := p.nd) (.inr (.inr (.inr rfl)))).res (u := .lst (xs ++ [.ref b])) (a := p.l) (.inr (.inr (.inl rfl)))
          exact e2.gh
    · rintro g' env ⟨rfl, rfl⟩
      refine hw_ret (ew (ev_numGet (g := ⟨g.m, g.rows ++ [r]⟩) X rfl rfl (List.mem_append_right _ List.mem_cons_self))) fun g' d ⟨e1, e2⟩ => ⟨e1, ?_⟩
      rw [e2]
      congr 1
      show g.m + (g.rows ++ [r]).idxOf r = g.m + g.rows.length
      rw [List.idxOf_append, if_neg hr, List.idxOf_cons_self]
      omega
end
end SS
namespace DL
open PySem PySem.Spec PyProof.Rows L2
/-- two lists that are read, joined -/
theorem en_catSS {c : Cn} {env : List Sl} {ta tb : TE} {ds es : List D} (ha : EvS c ta env ds) (hb : EvS c tb env es) (h : ds.length + es.length ≤ 1000000) : EvN c (tOp (rAddU c.K) ta tb) env (fun l => l = ds ++ es) := fun σ B H A e Q q =>
  ha σ B H A e _ fun p xs B1 H1 x1 r1 l1 t1 => hb σ B1 H1 (A.go x1 r1) (e.go x1) _ fun p2 ys B2 H2 x2 r2 l2 t2 => by
    refine .inr (.inl ⟨p, p2, xs, ys, rfl, rfl, (l1.go x2).1, l2.1, by rw [dps_len t1, dps_len t2]; exact sz h, fun z hz => ?_⟩)
    obtain ⟨x3, r3⟩ := ((A.go x1 r1).go x2 r2).newOwn (o := .lst (xs ++ ys)) hz
    have hz0 : H z = none := by
      cases w : H z with
      | none => rfl
      | some o => exact absurd hz ((x1.trans x2).t z (by rw [w]; exact nofun))
    exact q z _ _ B2 _ ((x1.trans x2).trans x3) r3 hz0 (fresh_b x2.s hz) upd_same (dps_app (dps_mono x2.b t1) t2) rfl
end DL
namespace SS
open PySem PySem.Spec PyProof.Rows L2 DL
open Evl (Ex ex_l ex_t)
section
variable {P : Program} {w : World} {K : PySem.W.Frag} {C : Addr} {p : ShA} {B0 H0 : Hp} {env : List Sl} {g : Sh} {ta tb te : TE} {i j : Nat} {t : TS} {o : PoW Sh}
theorem hw_ok (k : ShOk g → HSW (shc P w K C p B0 H0) t env g o) : HSW (shc P w K C p B0 H0) t env g o := fun X σ B H A e gg => k (sh_ok A).ok X σ B H A e gg
theorem ew_ok {P' : Sh → D → Prop} (k : ShOk g → EvW (shc P w K C p B0 H0) te env g P') : EvW (shc P w K C p B0 H0) te env g P' := fun σ B H A e Q q => k (sh_ok A).ok σ B H A e Q q
theorem ew_put {tr : TA} {r : QRow} (h0 : env[i]? = some (shV p)) (h : EvA ((shc P w K C p B0 H0).at g) tr env [encQ r]) (hp : PutOk g r) : EvW (shc P w K C p B0 H0) (tMeth C "put" (sp_Sheet_put P w K C) [] E0 (tVar i) tr) env g (fun g' d => g' = (g.put r).1 ∧ d = nt (g.put r).2) :=
  ew_meth (r := shRs P w K C) (p := p) r h0 (sh_in fun _ _ _ => rfl) h hp
theorem ev_t3 {x y z : D} {tc : TE} {c : Cn} (h1 : Ev c ta env x) (h2 : Ev c tb env y) (h3 : Ev c tc env z) : Ev c (tTup (tCons ta (tCons tb (tCons tc tNil)))) env (.tuple [x, y, z]) := ev_tup (ea_cons h1 (ea_cons h2 (ea_cons h3 ea_nil))) (by show 3 ≤ 1000000; decide)
theorem ev_t2 {x y : D} {c : Cn} (h1 : Ev c ta env x) (h2 : Ev c tb env y) : Ev c (tTup (tCons ta (tCons tb tNil))) env (.tuple [x, y]) := ev_tup (ea_cons h1 (ea_cons h2 ea_nil)) (by show 2 ≤ 1000000; decide)
theorem ev_t1 {x : D} {c : Cn} (h1 : Ev c ta env x) : Ev c (tTup (tCons ta tNil)) env (.tuple [x]) := ev_tup (ea_cons h1 ea_nil) (by show 1 ≤ 1000000; decide)
theorem ev_eqSt {c : Cn} {x y : Str} {b : Bool} (h : Ev c ta env (.str x)) (k1 : SeqAt.shaped (.str x) = true) (k2 : SeqAt.shaped (.str y) = true) (k3 : PyData.eqv (.str x) (.str y) = b) : Ev c (tOp (rEqD c.K) ta (tC (.str y))) env (.bool b) :=
  (ev_op h (ev_str (n := y)) (opd_eq k1 k2)).imp fun d e => by rw [e, k3]
theorem foldW_snoc {w : Str} : ∀ (os : List Nat) (p : Sh × Nat) (x : Nat), foldW w p (os ++ [x]) = (foldW w p os).1.put (w, [(foldW w p os).2, x])
  | [], p, x => rfl
  | o :: os, p, x => foldW_snoc os _ x
theorem accS_snoc {α : Type} {f : Sh → α → Sh × Nat} : ∀ (as : List α) (g : Sh) (a : α), accS f g (as ++ [a]) = ((f (accS f g as).1 a).1, (accS f g as).2 ++ [(f (accS f g as).1 a).2])
  | [], g, a => rfl
  | b :: as, g, a => by
    have ih := accS_snoc (f := f) as (f g b).1 a
    show ((accS f (f g b).1 (as ++ [a])).1, (f g b).2 :: (accS f (f g b).1 (as ++ [a])).2) = _
    rw [ih]
    rfl
theorem take_snoc {α : Type} {l : List α} {k : Nat} {x : α} (h : l[k]? = some x) : l.take (k + 1) = l.take k ++ [x] := by rw [List.take_add_one, h]; rfl
theorem encQ2 (w : Str) (x y : Nat) : (.tuple [.str w, nt x, nt y] : D) = encQ (w, [x, y]) := rfl
theorem h_Sheet_put_all (X : ShC K C) (g : Sh) (a : Bool × List Nat) (hp : OpsOk g a.2) : HSW (shc P w K C p B0 H0) (t_Sheet_put_all P w K C) [shV p, .dat (.str (if a.1 = true then "and" else "or")), .dat (encL a.2), .no, .no] g { rt := fun g' d => g' = (g.putAll a.1 a.2).1 ∧ d = nt (g.putAll a.1 a.2).2, nx := fun g' _ => g' = (g.putAll a.1 a.2).1 ∧ (PyData.none : D) = nt (g.putAll a.1 a.2).2 } := hw_ok fun ok => by
  obtain ⟨b, ops⟩ := a
  simp only at hp ⊢
  obtain ⟨wd, hwd⟩ : ∃ wd : Str, (if b = true then "and" else "or" : Str) = wd := ⟨_, rfl⟩
  have hwk : (wd, 2) ∈ kin := by
    rw [← hwd]
    cases b with
    | true => exact k_and
    | false => exact k_or
  have hws : SeqAt.shaped (.str wd) = true ∧ PyData.eqv (.str wd) (.str "and") = b := by
    rw [← hwd]
    cases b <;> exact ⟨by decide +kernel, by decide +kernel⟩
  cases ops with
  | nil =>
    have hf := hp.few
    rw [List.length_nil] at hf
    rw [hwd]
    refine hw_seq (hw_ifB (b := true) (et_test (ev_eqNil (ds := ([] : List Nat).map nt) (es_of (ev_var rfl)) (by decide +kernel) (by decide +kernel))) (fun _ => ?_) fun h => nomatch h)
    cases b with
    | true =>
      exact hw_ret (ew_put (r := (("ones" : Str), [])) rfl (ea_cons (ev_if (et_test (ev_eqSt (ev_var rfl) hws.1 (by decide +kernel) hws.2)) (fun _ => ev_t1 ev_str) fun h => nomatch h) ea_nil) ⟨k_ones, fun _ z => absurd z List.not_mem_nil, by omega⟩) fun g' d h => h
    | false =>
      exact hw_ret (ew_put (r := (("zero" : Str), [])) rfl (ea_cons (ev_if (et_test (ev_eqSt (ev_var rfl) hws.1 (by decide +kernel) hws.2)) (fun h => nomatch h) fun _ => ev_t1 ev_str) ea_nil) ⟨k_zero, fun _ z => absurd z List.not_mem_nil, by omega⟩) fun g' d h => h
  | cons o os =>
    have hf := hp.few
    rw [List.length_cons] at hf
    have hpa : g.putAll b (o :: os) = foldW wd (g, o) os := by rw [← hwd]; rfl
    rw [hpa, hwd]
    refine hw_pre (hs_if (b := false) (et_test (ev_eqNil (ds := (o :: os).map nt) (es_of (ev_var rfl)) (shaped_nts _) (tells_nt.nodL _))) (fun h => nomatch h) fun _ => hs_next ?_)
    refine hw_pre (hs_setV (ev_ixLm (f := nt) (n := 0) (xs := o :: os) (es_of (ev_var rfl)) (ev_nat 0) rfl) ?_)
    refine hw_mid (Mid := fun g' env => ∃ y, (g', env) = ((foldW wd (g, o) os).1, [shV p, .dat (.str wd), .dat (encL (o :: os)), .dat (nt (foldW wd (g, o) os).2), y])) (hw_for (P := fun l => l = os.map nt) (eik_seqL ((ev_new (en_slL (lo := some 1) (hi := none) (ds := (o :: os).map nt) (es_of (ev_var rfl)) (eo_some ev_int) eo_none)).is (by
      rw [show (1 : Int) = ((1 : Nat) : Int) from rfl, cutD_from]
      rfl))) ?_) ?_
    · rintro ds rfl
      refine ⟨fun k g' env => ∃ y, (g', env) = ((foldW wd (g, o) (os.take k)).1, [shV p, .dat (.str wd), .dat (encL (o :: os)), .dat (nt (foldW wd (g, o) (os.take k)).2), y]), ⟨_, rfl⟩, ?_, ?_⟩
      · rintro k d g1 env1 hd ⟨y, e⟩
        obtain ⟨x, hx, rfl⟩ := map_at hd
        injection e with e1 e2
        subst e1 e2
        have hlen := (List.getElem?_eq_some_iff.mp hx).1
        obtain ⟨gr, lt⟩ := foldW_gr (ops := os.take k) hwk ok (hp.o o List.mem_cons_self) (fun y hy => hp.o y (List.mem_cons_of_mem _ (List.mem_of_mem_take hy))) (by rw [List.length_take]; omega)
        obtain ⟨s1, s2, s3⟩ := gr.size
        rw [List.length_take] at s2
        refine ⟨_, _, hg_name, hw_set (ew_put (r := (wd, [(foldW wd (g, o) (os.take k)).2, x])) rfl (ea_cons (ev_t3 (ev_var rfl) (ev_var rfl) (ev_var rfl)) ea_nil) (put2_ok hwk lt (by have := hp.o x (List.mem_cons_of_mem _ (List.mem_of_getElem? hx)); omega) (by omega))) ?_⟩
        rintro g' d ⟨rfl, rfl⟩
        refine ⟨.dat (nt x), ?_⟩
        rw [take_snoc hx, foldW_snoc]
        rfl
      · rintro g1 env1 ⟨y, e⟩
        rw [List.length_map, List.take_length] at e
        exact ⟨y, e⟩
    · rintro g1 env1 ⟨y, e⟩
      injection e with e1 e2
      subst e1 e2
      exact hw_ret (ew (ev_var rfl)) fun g' d h => h
theorem h_Sheet_chosen (X : ShC K C) (g : Sh) (a : Nat × Nat) (hp : a.1 < g.size ∧ g.rows.length < 1000) : HSW (shc P w K C p B0 H0) (t_Sheet_chosen P w K C) [shV p, .dat (nt a.1), .dat (nt a.2)] g { rt := fun g' d => g' = (g.chosen a.1 a.2).1 ∧ d = nt (g.chosen a.1 a.2).2, nx := fun g' _ => g' = (g.chosen a.1 a.2).1 ∧ (PyData.none : D) = nt (g.chosen a.1 a.2).2 } := by
  unfold Sh.chosen
  refine hw_ret (ew_if (et_test (ev_op (ev_var rfl) (ev_nat 1) opd_eqN)) (fun h => ?_) fun h => ?_) fun g' d h => h
  · rw [if_pos (of_decide_eq_true h)]
    exact ew (ev_var rfl)
  · rw [if_neg (of_decide_eq_false h)]
    exact ew_put (r := (("not" : Str), [a.1])) rfl (ea_cons (ev_t2 ev_str (ev_var rfl)) ea_nil) ⟨k_not, fun x hx => by rw [List.mem_singleton.mp hx]; exact hp.1, hp.2⟩
theorem h_Sheet_told (X : ShC K C) (g : Sh) (a : Nat) (hp : a < g.size ∧ g.rows.length < 1000) : HSW (shc P w K C p B0 H0) (t_Sheet_told P w K C) [shV p, .dat (nt a)] g { rt := fun g' d => g' = g.told a ∧ d = encRec g.m (g.told a).rows, nx := fun g' _ => g' = g.told a ∧ (PyData.none : D) = encRec g.m (g.told a).rows } := hw_ok fun ok => by
  have h1 : 1 ≤ g.m + g.rows.length := by have := hp.1; unfold Sh.size at this; omega
  have hm : (g.told a).m = g.m := by
    unfold Sh.told
    split
    · rfl
    · exact (put_gr ok (put2_ok k_or hp.1 hp.1 hp.2)).1.m
  refine hw_mid (Mid := fun g' env => (g', env) = (g.told a, [shV p, .dat (nt a)])) (hw_ifB (et_test (ev_op (ev_var rfl) (ev_op (ev_op (ev_inputs X rfl) (ev_lenRows X rfl) opd_addN) (ev_nat 1) (opd_subN h1)) opd_neN)) (fun h => ?_) fun h => ?_) ?_
  · have hne : ¬ a = g.m + g.rows.length - 1 := by simpa using h
    refine hw_drop (ew_put (r := (("or" : Str), [a, a])) rfl (ea_cons (ev_t3 ev_str (ev_var rfl) (ev_var rfl)) ea_nil) (put2_ok k_or hp.1 hp.1 hp.2)) ?_
    rintro g' d ⟨rfl, rfl⟩
    unfold Sh.told
    rw [if_neg hne]
  · have he : a = g.m + g.rows.length - 1 := by simpa using h
    refine hw_next ?_
    unfold Sh.told
    rw [if_pos he]
  · rintro g' env1 e
    injection e with e1 e2
    subst e1 e2
    refine hw_ret (ew (ev_t2 (ev_inputs X rfl) (ev_tupRows X rfl))) fun g' d ⟨e1, e2⟩ => ⟨e1, ?_⟩
    rw [e2, hm]
    rfl
end
end SS
namespace SS
open PySem PySem.Spec PyProof.Rows L2 DL
open Evl (Ex ex_l ex_t)
section
variable {P : Program} {w : World} {K : PySem.W.Frag} {C : Addr} {p : ShA} {B0 H0 : Hp} {env : List Sl} {g : Sh} {ta tb te : TE} {i j : Nat} {t : TS} {o : PoW Sh}
theorem ew_putAll {tr : TA} {b : Bool} {ops : List Nat} (h0 : env[i]? = some (shV p)) (h : EvA ((shc P w K C p B0 H0).at g) tr env [.str (if b = true then "and" else "or"), encL ops]) (hp : OpsOk g ops) : EvW (shc P w K C p B0 H0) (tMeth C "put_all" (sp_Sheet_put_all P w K C) [] E0 (tVar i) tr) env g (fun g' d => g' = (g.putAll b ops).1 ∧ d = nt (g.putAll b ops).2) :=
  ew_meth (r := shRs P w K C) (p := p) (b, ops) h0 (sh_in fun _ _ _ => rfl) h hp
theorem ew_chosen {tr : TA} {o b : Nat} (h0 : env[i]? = some (shV p)) (h : EvA ((shc P w K C p B0 H0).at g) tr env [nt o, nt b]) (hp : o < g.size ∧ g.rows.length < 1000) : EvW (shc P w K C p B0 H0) (tMeth C "chosen" (sp_Sheet_chosen P w K C) [] E0 (tVar i) tr) env g (fun g' d => g' = (g.chosen o b).1 ∧ d = nt (g.chosen o b).2) :=
  ew_meth (r := shRs P w K C) (p := p) (o, b) h0 (sh_in fun _ _ _ => rfl) h hp
theorem ev_bit {c : Cn} {x j : Nat} (h1 : Ev c ta env (nt x)) (h2 : Ev c tb env (nt j)) : Ev c (tOp (rI0 fun i j => .int (Builtin.bitAnd i j)) (tOp (rI (fun _ j => 0 ≤ j) fun i j => .int (i / 2 ^ j.toNat)) ta tb) (tC (.int 1))) env (nt (bitAt x j)) := ev_op (ev_op h1 h2 opd_shr) ev_int opd_and1
/-- a call of put_all with a list that is made just then -/
theorem ew_putAllN {b : Bool} {wd : Str} {r : Sh × List Nat} (hw : wd = (if b = true then "and" else "or")) (h0 : env[i]? = some (shV p)) (h : EnW (shc P w K C p B0 H0) te env g (fun g' l => g' = r.1 ∧ l = r.2.map nt)) (hp : OpsOk r.1 r.2) : EvW (shc P w K C p B0 H0) (tMeth C "put_all" (sp_Sheet_put_all P w K C) [] E0 (tVar i) (tCons (tC (.str wd)) (tCons te tNil))) env g (fun g' d => g' = (r.1.putAll b r.2).1 ∧ d = nt (r.1.putAll b r.2).2) :=
by
  refine ew_methP (r := shRs P w K C) (p := p) (Pa := fun g' l => g' = r.1 ∧ l = [.str wd, encL r.2]) h0 (sh_in fun _ _ _ => rfl) (EaW.imp (eaw_cons (Pa := fun g' d => g' = g ∧ d = .str wd) (Pr := fun _ _ g' l => g' = r.1 ∧ l = [encL r.2]) (ew ev_str) fun g1 a e => ?_) ?_) ?_
  · obtain ⟨rfl, _⟩ := e
    refine EaW.imp (eaw_cons (Pr := fun g2 _ g' l => g' = g2 ∧ l = []) (ew_new h) fun g2 a2 _ => eaw_nil) ?_
    rintro g3 l ⟨g2, a2, l2, rfl, ⟨ns, rfl, rfl, rfl⟩, rfl, rfl⟩
    exact ⟨rfl, rfl⟩
  · rintro g' l ⟨g1, a, l2, rfl, ⟨_, rfl⟩, rfl, rfl⟩
    exact ⟨rfl, rfl⟩
  · rintro g1 ds ⟨rfl, rfl⟩
    exact ⟨(b, r.2), by rw [hw]; cases b <;> rfl, hp, fun g' d h => h⟩
theorem accS_len {α : Type} {f : Sh → α → Sh × Nat} : ∀ (as : List α) (g : Sh), (accS f g as).2.length = as.length
  | [], _ => rfl
  | a :: as, g => congrArg (· + 1) (accS_len as (f g a).1)
/-- a comprehension whose turns are f's steps -/
theorem enw_acc {α : Type} {f : Sh → α → Sh × Nat} {as : List α} {wi : TI} {gt : TG} {vs : List Nat} {ds : List D} (hi : EiK ((shc P w K C p B0 H0).at g) wi env (fun l => l = ds)) (hl : ds.length = as.length) (hz : as.length ≤ 1000000)
    (he : ∀ (k : Nat) (d : D) (a : α), ds[k]? = some d → as[k]? = some a → ∃ env2 is, HG ((shc P w K C p B0 H0).at (accS f g (as.take k)).1) gt d (wipeE env vs) env2 is ∧ (∀ j ∈ is, j ∈ vs) ∧ EvW (shc P w K C p B0 H0) te env2 (accS f g (as.take k)).1 (fun g' d => g' = (f (accS f g (as.take k)).1 a).1 ∧ d = nt (f (accS f g (as.take k)).1 a).2)) :
    EnW (shc P w K C p B0 H0) (tLc wi gt tYes te vs) env g (fun g' l => g' = (accS f g as).1 ∧ l = (accS f g as).2.map nt) := by
  refine enw_lc hi ?_
  rintro l rfl
  refine ⟨by omega, fun k g' ls => g' = (accS f g (as.take k)).1 ∧ ls = (accS f g (as.take k)).2.map nt, ⟨rfl, rfl⟩, fun k g' ls h => ?_, fun g' ls h => ?_, fun k d g' ls hd h => ?_⟩
  · rw [h.2, List.length_map, accS_len, List.length_take]
    omega
  · rw [hl, List.take_length] at h
    exact h
  · obtain ⟨rfl, rfl⟩ := h
    have hk := (List.getElem?_eq_some_iff.mp hd).1
    have ha : as[k]? = some (as[k]'(by omega)) := List.getElem?_eq_getElem (by omega)
    obtain ⟨env2, is, h1, h2, h3⟩ := he k d _ hd ha
    refine ⟨env2, is, true, h1, h2, et_yes, fun _ => h3.imp fun g' d ⟨e1, e2⟩ => ?_, fun h => nomatch h⟩
    show g' = (accS f g (as.take (k + 1))).1 ∧ _ = (accS f g (as.take (k + 1))).2.map nt
    rw [take_snoc ha, accS_snoc, e1, e2, List.map_append]
    exact ⟨rfl, rfl⟩
theorem h_letter_number (X : ShC K C) (g : Sh) (a : Nat) (hp : g.rows.length < 900 - 5) : HSW (shc P w K C p B0 H0) (t_letter_number P w K C) [shV p, .dat (nt a), .no] g { rt := fun g' d => g' = (g.letterNum a).1 ∧ d = nt (g.letterNum a).2, nx := fun g' _ => g' = (g.letterNum a).1 ∧ (PyData.none : D) = nt (g.letterNum a).2 } := hw_ok fun ok => by
  have hm := ok.m2
  have gr : ∀ k, _ := fun k => choosesJ_gr (v := fun j => bitAt a j) (js := (List.range g.m).take k) ok (fun j hj => by have := List.mem_range.mp (List.mem_of_mem_take hj); unfold Sh.size; omega) (by rw [List.length_take, List.length_range]; omega)
  refine hw_ret (ew_putAllN (b := true) (r := accS (fun g j => g.chosen j (bitAt a j)) g (List.range g.m)) rfl rfl (enw_acc (ds := rangeD g.m) (eik_range (ev_inputs X rfl) (by omega)) (by rw [rangeD_len, List.length_range]) (by rw [List.length_range]; omega) ?_) ?_) fun g' d h => h
  · rintro k d j hd hj
    obtain ⟨rfl, hk⟩ := rangeD_at hd
    rw [List.getElem?_range hk] at hj
    cases hj
    obtain ⟨g1, g2, g3⟩ := gr k
    rw [List.length_take, List.length_range] at g1 g2
    obtain ⟨s1, s2, s3⟩ := g1.size
    exact ⟨_, _, hg_name, by decide, ew_chosen (o := k) (b := bitAt a k) rfl (ea_cons (ev_var rfl) (ea_cons (ev_bit (ev_var rfl) (ev_var rfl)) ea_nil)) ⟨by unfold Sh.size at s1 ⊢; omega, by omega⟩⟩
  · obtain ⟨g1, g2, g3⟩ := gr g.m
    rw [List.take_of_length_le (by rw [List.length_range]; exact Nat.le_refl _)] at g1 g2 g3
    rw [List.length_range] at g1 g2
    obtain ⟨s1, s2, s3⟩ := g1.size
    exact ⟨g3, by omega⟩
theorem zip_lt {bits : List Nat} {n : Nat} (hb : ∀ o ∈ bits, o < n) : ∀ p ∈ bits.zipIdx, p.1 < n := fun p hp => by
  obtain ⟨_, _, e⟩ := List.mem_zipIdx (show (p.1, p.2) ∈ bits.zipIdx 0 from hp)
  rw [e]
  exact hb _ (List.getElem_mem _)
theorem h_state_number (X : ShC K C) (g : Sh) (a : List Nat × Nat) (hp : (∀ o ∈ a.1, o < g.size) ∧ a.1.length ≤ 30 ∧ g.rows.length < 800) : HSW (shc P w K C p B0 H0) (t_state_number P w K C) [shV p, .dat (encL a.1), .dat (nt a.2), .no, .no] g { rt := fun g' d => g' = (g.stateNum a.1 a.2).1 ∧ d = nt (g.stateNum a.1 a.2).2, nx := fun g' _ => g' = (g.stateNum a.1 a.2).1 ∧ (PyData.none : D) = nt (g.stateNum a.1 a.2).2 } := hw_ok fun ok => by
  obtain ⟨bits, s⟩ := a
  obtain ⟨hb, hl, hf⟩ := hp
  simp only at hb hl hf ⊢
  have hz : bits.zipIdx.length = bits.length := List.length_zipIdx
  have gr : ∀ k, _ := fun k => chooses_gr (v := fun j => bitAt s j) (ps := bits.zipIdx.take k) ok (fun q hq => zip_lt hb q (List.mem_of_mem_take hq)) (by rw [List.length_take]; omega)
  refine hw_ret (ew_putAllN (b := true) (r := accS (fun g (q : Nat × Nat) => g.chosen q.1 (bitAt s q.2)) g bits.zipIdx) rfl rfl (enw_acc (ds := enumD (bits.map nt)) (eik_enL (ev_var rfl)) (by rw [enumD_len, List.length_map, hz]) (by omega) ?_) ?_) fun g' d h => h
  · rintro k d q hd hq
    obtain ⟨e, he, rfl⟩ := enum_at hd
    obtain ⟨b, hb1, rfl⟩ := map_at he
    have hq2 : q = (b, k) := by
      rw [List.getElem?_zipIdx, hb1] at hq
      have := Option.some.inj hq
      rw [← this]
      show (b, 0 + k) = (b, k)
      rw [Nat.zero_add]
    subst hq2
    obtain ⟨g1, g2, g3⟩ := gr k
    rw [List.length_take] at g1 g2
    obtain ⟨s1, s2, s3⟩ := g1.size
    have hlt := hb b (List.mem_of_getElem? hb1)
    exact ⟨_, _, hg_tup (hgs_cons hg_name (hgs_cons hg_name hgs_nil)) rfl, by decide, ew_chosen (o := b) (b := bitAt s k) rfl (ea_cons (ev_var rfl) (ea_cons (ev_bit (ev_var rfl) (ev_var rfl)) ea_nil)) ⟨by omega, by omega⟩⟩
  · obtain ⟨g1, g2, g3⟩ := gr bits.zipIdx.length
    rw [List.take_length] at g1 g2 g3
    obtain ⟨s1, s2, s3⟩ := g1.size
    exact ⟨g3, by omega⟩
theorem zipIdx_snoc {letters : List Nat} {k x : Nat} (h : letters[k]? = some x) : (letters.take (k + 1)).zipIdx = (letters.take k).zipIdx ++ [(x, k)] := by
  have hk := (List.getElem?_eq_some_iff.mp h).1
  rw [take_snoc h, List.zipIdx_append, List.length_take, Nat.min_eq_left (by omega)]
  show _ ++ [(x, 0 + k)] = _
  rw [Nat.zero_add]
theorem filt1 (f : Nat × Nat → Bool) (q : Nat × Nat) : ([q].filter f).map (·.1) = if f q = true then [q.1] else [] := by
  cases h : f q with
  | true => rw [List.filter_cons_of_pos h, if_pos rfl]; rfl
  | false => rw [List.filter_cons_of_neg (by rw [h]; decide), if_neg (by decide)]; rfl
theorem setting_snoc {small : List Row} {letters : List Nat} {pl k x : Nat} (h : letters[k]? = some x) : setting small (letters.take (k + 1)) pl = setting small (letters.take k) pl ++ (if (!isStay small k && decide (bitAt (stp small 0 k) pl = 1)) = true then [x] else []) := by
  unfold setting
  rw [zipIdx_snoc h, List.filter_append, List.map_append]
  exact congrArg _ (filt1 (fun p => !isStay small p.2 && decide (bitAt (stp small 0 p.2) pl = 1)) (x, k))
theorem keeping_snoc {small : List Row} {letters : List Nat} {k x : Nat} (h : letters[k]? = some x) : keeping small (letters.take (k + 1)) = keeping small (letters.take k) ++ (if isStay small k = true then [x] else []) := by
  unfold keeping
  rw [zipIdx_snoc h, List.filter_append, List.map_append]
  exact congrArg _ (filt1 (fun p => isStay small p.2) (x, k))
theorem h_state_bit (X : ShC K C) (g : Sh) (a : AS) (hp : OkSB g a) : HSW (shc P w K C p B0 H0) (t_state_bit P w K C) [shV p, .dat (encM a.m a.small), .dat (encL a.letters), .dat (nt a.place), .no, .no, .no, .no, .no, .no, .no] g { rt := fun g' d => g' = (g.stateBit a.small a.letters a.place).1 ∧ d = nt (g.stateBit a.small a.letters a.place).2, nx := fun g' _ => g' = (g.stateBit a.small a.letters a.place).1 ∧ (PyData.none : D) = nt (g.stateBit a.small a.letters a.place).2 } := hw_ok fun ok => by
  obtain ⟨m, small, letters, pl⟩ := a
  obtain ⟨oks, hlen, hlt, hf, hpl⟩ := hp
  simp only at oks hlen hlt hf hpl ⊢
  have p4 := pow4 oks.m2
  have h0 := oks.pos
  refine hw_pre (hs_par (eas_own (en_lst ea_nil (Nat.zero_le _)) (eas_own (en_lst ea_nil (Nat.zero_le _)) eas_nil)) ?_)
  rintro ss ⟨p4', ds, r, rfl, rfl, p5, es, r2, rfl, rfl, rfl⟩
  refine ⟨_, _, rfl, ?_⟩
  refine hw_pre (hs_for (ds := enumD (letters.map nt)) (fun k env => ∃ y6 y7, env = [shV p, .dat (encM m small), .dat (encL letters), .dat (nt pl), .own p4' ((setting small (letters.take k) pl).map nt), .own p5 ((keeping small (letters.take k)).map nt), y6, y7, .no, .no, .no]) (ei_enL (ev_var rfl)) ⟨_, _, rfl⟩ ?_ ?_)
  · rintro k d env1 hd ⟨y6, y7, rfl⟩
    obtain ⟨e, he, rfl⟩ := enum_at hd
    obtain ⟨x, hx, rfl⟩ := map_at he
    have hk := (List.getElem?_eq_some_iff.mp hx).1
    have hk2 : k < 2 ^ m := by omega
    refine ⟨_, _, hg_tup (hgs_cons hg_name (hgs_cons hg_name hgs_nil)) rfl, ?_⟩
    have n1 : (setting small (letters.take k) pl).length ≤ 4 := Nat.le_trans (filt_len (small := small) _) (by rw [List.length_take]; omega)
    have n2 : (keeping small (letters.take k)).length ≤ 4 := Nat.le_trans (filt_len (small := small) _) (by rw [List.length_take]; omega)
    refine hs_if (b := isStay small k) (et_B (ev_call (α := AT) ⟨m, small, k⟩ (ea_cons (ev_var rfl) (ea_cons (ev_var rfl) ea_nil)) ⟨oks, hk2⟩)) (fun h => ?_) fun h => ?_
    · refine hs_app rfl (by rw [List.length_map]; omega) (ev_var rfl) ?_
      rintro d rfl
      refine ⟨.dat (nt k), .dat (nt x), ?_⟩
      rw [setting_snoc hx, keeping_snoc hx, h, if_pos rfl, if_neg (by simp), List.append_nil, List.map_append]
      rfl
    · refine hs_if (b := decide (bitAt (stp small 0 k) pl = 1)) (et_test (ev_op (ev_bit (ev_ixLm (f := nt) (n := 0) (xs := tgs small k) (es_of (ev_call (α := AT) ⟨m, small, k⟩ (ea_cons (ev_var rfl) (ea_cons (ev_var rfl) ea_nil)) ⟨oks, hk2⟩)) (ev_nat 0) (tgs_at h0)) (ev_var rfl)) (ev_nat 1) opd_eqN)) (fun h1 => ?_) fun h1 => hs_next ?_
      · refine hs_app rfl (by rw [List.length_map]; omega) (ev_var rfl) ?_
        rintro d rfl
        refine ⟨.dat (nt k), .dat (nt x), ?_⟩
        rw [setting_snoc hx, keeping_snoc hx, h, h1, if_pos (show (!false && true) = true from rfl), if_neg (show ¬ false = true by decide), List.append_nil, List.map_append]
        rfl
      · refine ⟨.dat (nt k), .dat (nt x), ?_⟩
        rw [setting_snoc hx, keeping_snoc hx, h, h1, if_neg (show ¬ (!false && false) = true by decide), if_neg (show ¬ false = true by decide), List.append_nil, List.append_nil]
        rfl
  · rintro env1 ⟨y6, y7, rfl⟩
    rw [enumD_len, List.length_map, List.take_length]
    refine hw_freeze (i := 4) rfl (hw_freeze (i := 5) rfl ?_)
    have n1 : (setting small letters pl).length ≤ 4 := Nat.le_trans (filt_len (small := small) _) (by omega)
    have n2 : (keeping small letters).length ≤ 4 := Nat.le_trans (filt_len (small := small) _) (by omega)
    have n3 : (setting small letters pl ++ keeping small letters).length ≤ 8 := by rw [List.length_append]; omega
    have o1 : OpsOk g (setting small letters pl) := ⟨fun o ho => hlt o (setting_sub o (List.mem_append_left _ ho)), by omega⟩
    obtain ⟨a1, a2⟩ := putAll_gr (b := false) ok o1
    obtain ⟨sa1, sa2, sa3⟩ := a1.size
    unfold Sh.stateBit
    refine hw_seq (hw_set (ew_putAll (b := false) rfl (ea_cons ev_str (ea_cons (ev_var rfl) ea_nil)) o1) ?_)
    rintro g' d ⟨rfl, rfl⟩
    generalize g.putAll false (setting small letters pl) = l at a1 a2 sa1 sa2 sa3 ⊢
    have o2 : OpsOk l.1 (setting small letters pl ++ keeping small letters) := ⟨fun o ho => by have := hlt o (setting_sub o ho); omega, by omega⟩
    obtain ⟨b1, b2⟩ := putAll_gr (b := false) a1.ok o2
    obtain ⟨sb1, sb2, sb3⟩ := b1.size
    refine hw_seq (hw_set (ew_putAll (b := false) rfl (ea_cons ev_str (ea_cons ((ev_new (en_catSS (ds := (setting small letters pl).map nt) (es := (keeping small letters).map nt) (es_of (ev_var rfl)) (es_of (ev_var rfl)) (by rw [List.length_map, List.length_map]; omega))).is (by rw [← List.map_append]; rfl)) ea_nil)) o2) ?_)
    rintro g' d ⟨rfl, rfl⟩
    simp only
    generalize l.1.putAll false (setting small letters pl ++ keeping small letters) = h at b1 b2 sb1 sb2 sb3 ⊢
    have k1 := put2_ok (g := h.1) k_plus b2 (a := h.2) (b := l.2) (by omega) (by omega)
    obtain ⟨c1, _, _, c2⟩ := put_gr b1.ok k1
    obtain ⟨sc1, sc2, sc3⟩ := c1.size
    refine hw_seq (hw_set (ew_put rfl (ea_cons (ev_t3 ev_str (ev_var rfl) (ev_var rfl)) ea_nil) k1) ?_)
    rintro g' d ⟨rfl, rfl⟩
    generalize h.1.put (("plus" : Str), [h.2, l.2]) = a at c1 c2 sc1 sc2 sc3 ⊢
    have k2 := put2_ok (g := a.1) k_xor c2 (a := a.2) (b := h.2) (by omega) (by omega)
    obtain ⟨d1, _, _, d2⟩ := put_gr c1.ok k2
    obtain ⟨sd1, sd2, sd3⟩ := d1.size
    refine hw_ret (ew_methP (r := shRs P w K C) (p := p) (Pa := fun g' ds => g' = (a.1.put (("xor" : Str), [a.2, h.2])).1 ∧ ds = [encQ (("xor" : Str), [(a.1.put (("xor" : Str), [a.2, h.2])).2, l.2])]) rfl (sh_in fun _ _ _ => rfl) (EaW.imp (eaw_cons (Pr := fun g1 _ g' l => g' = g1 ∧ l = []) (ew_tup (P := fun g' ds => g' = (a.1.put (("xor" : Str), [a.2, h.2])).1 ∧ ds = [.str "xor", nt (a.1.put (("xor" : Str), [a.2, h.2])).2, nt l.2]) ?_ ?_) fun g1 _ _ => eaw_nil) ?_) ?_) fun g' d h => h
    · refine EaW.imp (eaw_cons (Pr := fun _ _ g' ds => g' = (a.1.put (("xor" : Str), [a.2, h.2])).1 ∧ ds = [nt (a.1.put (("xor" : Str), [a.2, h.2])).2, nt l.2]) (ew (ev_str (n := "xor"))) fun g1 x hx => ?_) ?_
      · obtain ⟨rfl, _⟩ := hx
        refine EaW.imp (eaw_cons (Pr := fun g2 _ g' ds => g' = g2 ∧ ds = [nt l.2]) (ew_put rfl (ea_cons (ev_t3 ev_str (ev_var rfl) (ev_var rfl)) ea_nil) k2) fun g2 y _ => eaw (ea_cons (ev_var rfl) ea_nil)) ?_
        rintro g' ds ⟨g2, y, r, rfl, ⟨rfl, rfl⟩, rfl, rfl⟩
        exact ⟨rfl, rfl⟩
      · rintro g' ds ⟨g1, x, r, rfl, ⟨rfl, rfl⟩, rfl, rfl⟩
        exact ⟨rfl, rfl⟩
    · rintro g' ds ⟨_, rfl⟩
      show 3 ≤ 1000000
      decide
    · rintro g' ds ⟨g1, x, r, rfl, ⟨ls, rfl, rfl, rfl⟩, rfl, rfl⟩
      exact ⟨rfl, rfl⟩
    · rintro g1 ds ⟨rfl, rfl⟩
      exact ⟨_, rfl, put2_ok k_xor d2 (by omega) (by omega), fun g' d h => h⟩
end
end SS
namespace SS
open PySem PySem.Spec PyProof.Rows L2 DL
/-! ### what rows say -/
theorem beatF_app : ∀ (ps : List PRow) (qs : List PRow) (A ks ls : List Nat), ks.length = ps.length → beatF (ps ++ qs) A (ks ++ ls) = ((beatF qs (beatF ps A ks).1 ls).1, (beatF ps A ks).2 ++ (beatF qs (beatF ps A ks).1 ls).2)
  | [], qs, A, [], ls, _ => rfl
  | [], _, _, _ :: _, _, h => by simp at h
  | _ :: _, _, _, [], _, h => by simp at h
  | p :: ps, qs, A, k :: ks, ls, h => by
    have ih := beatF_app ps qs (A ++ [(ruleAt p A k).1]) ks ls (by simpa using h)
    show ((beatF (ps ++ qs) (A ++ [(ruleAt p A k).1]) (ks ++ ls)).1, (ruleAt p A k).2 :: (beatF (ps ++ qs) (A ++ [(ruleAt p A k).1]) (ks ++ ls)).2) = _
    rw [ih]
    rfl
theorem beatF_pre : ∀ (ps : List PRow) (A ks : List Nat), ∃ more, (beatF ps A ks).1 = A ++ more ∧ (ks.length = ps.length → more.length = ps.length ∧ (beatF ps A ks).2.length = ps.length)
  | [], A, ks => ⟨[], by rw [List.append_nil]; cases ks <;> rfl, fun h => ⟨rfl, by cases ks <;> rfl⟩⟩
  | p :: ps, A, [] => ⟨[], by rw [List.append_nil]; rfl, fun h => by simp at h⟩
  | p :: ps, A, k :: ks => by
    obtain ⟨more, h1, h2⟩ := beatF_pre ps (A ++ [(ruleAt p A k).1]) ks
    refine ⟨(ruleAt p A k).1 :: more, ?_, fun h => ?_⟩
    · show (beatF ps (A ++ [(ruleAt p A k).1]) ks).1 = _
      rw [h1, List.append_assoc]
      rfl
    · obtain ⟨h3, h4⟩ := h2 (by simpa using h)
      refine ⟨by rw [List.length_cons, List.length_cons, h3], ?_⟩
      show ((ruleAt p A k).2 :: (beatF ps (A ++ [(ruleAt p A k).1]) ks).2).length = _
      rw [List.length_cons, List.length_cons, h4]
theorem kin_tab {w : Str} {n : Nat} (h : (w, n) ∈ kin) : (tabOf1 w).length = 8 ∧ (∀ e ∈ tabOf1 w, e.1 < 2 ∧ e.2 < 2) ∧ n ≤ 2 := by
  have key : ∀ p ∈ kin, (tabOf1 p.1).length = 8 ∧ (∀ e ∈ tabOf1 p.1, e.1 < 2 ∧ e.2 < 2) ∧ p.2 ≤ 2 := by decide +kernel
  exact key _ h
theorem place_lt {os : List Nat} {n k : Nat} (h : ∀ o ∈ os, o < n) : (os.map (· + 1) ++ [0, 0])[k]?.getD 0 < n + 1 := by
  cases e : (os.map (· + 1) ++ [0, 0])[k]? with
  | none => exact Nat.succ_pos _
  | some x =>
    show x < n + 1
    rcases List.mem_append.mp (List.mem_of_getElem? e) with h1 | h1
    · obtain ⟨o, ho, rfl⟩ := List.mem_map.mp h1
      have := h o ho
      omega
    · have : x = 0 := by simpa using h1
      omega
/-- a row's rule where the bits ahead are bits -/
theorem rule_ok {n : Nat} {q : QRow} (hk1 : (q.1, q.2.length) ∈ kin) (ho : ∀ o ∈ q.2, o < n) {ahead : List Nat} {k : Nat} (hl : n + 1 ≤ ahead.length) (hb : ∀ b ∈ ahead, b < 2) (hk : k < 2) :
    ∃ x y, ahead[(planRow q).2.1]? = some x ∧ ahead[(planRow q).2.2]? = some y ∧ (planRow q).1[x + 2 * y + 4 * k]? = some (ruleAt (planRow q) ahead k) ∧ (ruleAt (planRow q) ahead k).1 < 2 ∧ (ruleAt (planRow q) ahead k).2 < 2 := by
  obtain ⟨t1, t2, _⟩ := kin_tab hk1
  have p1 : (planRow q).2.1 < n + 1 := place_lt ho
  have p2 : (planRow q).2.2 < n + 1 := place_lt ho
  have g1 : ahead[(planRow q).2.1]? = some (ahead[(planRow q).2.1]'(by omega)) := List.getElem?_eq_getElem _
  have g2 : ahead[(planRow q).2.2]? = some (ahead[(planRow q).2.2]'(by omega)) := List.getElem?_eq_getElem _
  have b1 := hb _ (List.getElem_mem (l := ahead) (n := (planRow q).2.1) (by omega))
  have b2 := hb _ (List.getElem_mem (l := ahead) (n := (planRow q).2.2) (by omega))
  generalize (ahead[(planRow q).2.1]'(by omega)) = x at g1 b1
  generalize (ahead[(planRow q).2.2]'(by omega)) = y at g2 b2
  have hlt : x + 2 * y + 4 * k < (planRow q).1.length := by
    have : (planRow q).1.length = 8 := t1
    omega
  have e : ruleAt (planRow q) ahead k = (planRow q).1[x + 2 * y + 4 * k] := by
    unfold ruleAt
    rw [g1, g2]
    show ((planRow q).1[x + 2 * y + 4 * k]?).getD (0, 0) = _
    rw [List.getElem?_eq_getElem hlt]
    rfl
  have hm := t2 _ (List.getElem_mem hlt)
  refine ⟨x, y, g1, g2, ?_, ?_, ?_⟩
  · rw [e]; exact List.getElem?_eq_getElem hlt
  · rw [e]; exact hm.1
  · rw [e]; exact hm.2
theorem OkS.tail {n : Nat} {r : QRow} {rs : List QRow} (h : OkS n (r :: rs)) : OkS (n + 1) rs := fun i q hq => by
  obtain ⟨h1, h2⟩ := h (i + 1) q (by simpa using hq)
  exact ⟨h1, fun o ho => by have := h2 o ho; omega⟩
theorem beatF_bits : ∀ {rs : List QRow} {n : Nat} {A v : List Nat}, OkS n rs → A.length = n + 1 → (∀ b ∈ A, b < 2) → v.length = rs.length → (∀ k ∈ v, k < 2) → (∀ b ∈ (beatF (rs.map planRow) A v).1, b < 2) ∧ ∀ b ∈ (beatF (rs.map planRow) A v).2, b < 2
  | [], n, A, [], _, hl, hb, _, _ => ⟨hb, fun _ z => absurd z List.not_mem_nil⟩
  | [], _, _, _ :: _, _, _, _, h, _ => by simp at h
  | _ :: _, _, _, [], _, _, _, h, _ => by simp at h
  | r :: rs, n, A, k :: v, ok, hl, hb, hv, hk => by
    obtain ⟨hk1, ho⟩ := ok 0 r rfl
    obtain ⟨x, y, g1, g2, g3, g4, g5⟩ := rule_ok (n := n) hk1 ho (Nat.le_of_eq hl.symm) hb (hk k List.mem_cons_self)
    obtain ⟨i1, i2⟩ := beatF_bits (rs := rs) (n := n + 1) (A := A ++ [(ruleAt (planRow r) A k).1]) (v := v) ok.tail (by rw [List.length_append, hl]; rfl) (fun b hb' => by
      rcases List.mem_append.mp hb' with h | h
      · exact hb b h
      · rw [List.mem_singleton.mp h]; exact g4) (by simpa using hv) (fun q hq => hk q (List.mem_cons_of_mem _ hq))
    refine ⟨i1, fun b hb' => ?_⟩
    have hb' : b ∈ (ruleAt (planRow r) A k).2 :: (beatF (rs.map planRow) (A ++ [(ruleAt (planRow r) A k).1]) v).2 := hb'
    rcases List.mem_cons.mp hb' with e | h
    · rw [e]; exact g5
    · exact i2 b h
theorem lbits_lt {m x : Nat} : ∀ b ∈ lbits m x, b < 2 := fun b hb => by
  obtain ⟨i, _, rfl⟩ := List.mem_map.mp hb
  exact Nat.mod_lt _ (by decide)
theorem lbits_len (m x : Nat) : (lbits m x).length = m := by
  unfold lbits
  rw [List.length_map, List.length_range]
theorem hd_bits {m x : Nat} : ∀ b ∈ 0 :: lbits m x, b < 2 := fun b hb => by
  rcases List.mem_cons.mp hb with e | h
  · omega
  · exact lbits_lt b h
/-- what places keep -/
def kep (n : Nat) (pl : List Nat) (c : Nat → Nat) : List Nat := (List.range n).map fun i => if i ∈ pl then c (pl.idxOf i) else 0
theorem kep_len (n : Nat) (pl : List Nat) (c : Nat → Nat) : (kep n pl c).length = n := by unfold kep; rw [List.length_map, List.length_range]
theorem kep_at {n i : Nat} {pl : List Nat} {c : Nat → Nat} (h : i < n) : (kep n pl c)[i]? = some (if i ∈ pl then c (pl.idxOf i) else 0) := by
  unfold kep
  rw [List.getElem?_map, List.getElem?_range h]
  rfl
abbrev Bts (c : Nat → Nat) : Prop := ∀ p, c p < 2
theorem kep_bits {n : Nat} {pl : List Nat} {c : Nat → Nat} (h : Bts c) : ∀ k ∈ kep n pl c, k < 2 := fun k hk => by
  obtain ⟨i, _, rfl⟩ := List.mem_map.mp hk
  by_cases e : i ∈ pl
  · rw [if_pos e]; exact h _
  · rw [if_neg e]; decide
def run (g : Sh) (pl : List Nat) (x : Nat) (c : Nat → Nat) : List Nat × List Nat := beatF (g.rows.map planRow) (0 :: lbits g.m x) (kep g.rows.length pl c)
def vl (g : Sh) (pl : List Nat) (n x : Nat) (c : Nat → Nat) : Nat := (run g pl x c).1[n + 1]?.getD 0
theorem run_facts {g : Sh} {pl : List Nat} {x : Nat} {c : Nat → Nat} (ok : OkS g.m g.rows) (hc : Bts c) : (run g pl x c).1.length = g.m + 1 + g.rows.length ∧ (∀ b ∈ (run g pl x c).1, b < 2) ∧ (run g pl x c).2.length = g.rows.length ∧ ∀ b ∈ (run g pl x c).2, b < 2 := by
  obtain ⟨more, h1, h2⟩ := beatF_pre (g.rows.map planRow) (0 :: lbits g.m x) (kep g.rows.length pl c)
  obtain ⟨h3, h4⟩ := h2 (by rw [kep_len, List.length_map])
  obtain ⟨b1, b2⟩ := beatF_bits ok (by rw [List.length_cons, lbits_len]) (hd_bits (x := x)) (kep_len _ pl c) (kep_bits hc)
  refine ⟨?_, b1, ?_, b2⟩
  · unfold run
    rw [h1, List.length_append, List.length_cons, lbits_len, h3, List.length_map]
  · unfold run
    rw [h4, List.length_map]
theorem vl_lt {g : Sh} {pl : List Nat} {n x : Nat} {c : Nat → Nat} (ok : OkS g.m g.rows) (hc : Bts c) : vl g pl n x c < 2 := by
  unfold vl
  cases e : (run g pl x c).1[n + 1]? with
  | none => show 0 < 2; decide
  | some b => exact (run_facts ok hc).2.1 b (List.mem_of_getElem? e)
theorem vl_in {g : Sh} {pl : List Nat} {n x : Nat} {c : Nat → Nat} (h : n < g.m) : vl g pl n x c = bitAt x n := by
  obtain ⟨more, h1, _⟩ := beatF_pre (g.rows.map planRow) (0 :: lbits g.m x) (kep g.rows.length pl c)
  unfold vl run
  rw [h1, List.getElem?_append_left (by rw [List.length_cons, lbits_len]; omega), List.getElem?_cons_succ]
  unfold lbits
  rw [List.getElem?_map, List.getElem?_range h]
  rfl
/-- the value of a row -/
theorem vl_row {g : Sh} {pl : List Nat} {i x : Nat} {c : Nat → Nat} {r : QRow} (ok : OkS g.m g.rows) (hr : g.rows[i]? = some r) : vl g pl (g.m + i) x c = (ruleAt (planRow r) (run g pl x c).1 (if i ∈ pl then c (pl.idxOf i) else 0)).1 ∧ (run g pl x c).2[i]? = some (ruleAt (planRow r) (run g pl x c).1 (if i ∈ pl then c (pl.idxOf i) else 0)).2 := by
  have hi := (List.getElem?_eq_some_iff.mp hr).1
  have e1 : g.rows = g.rows.take i ++ r :: g.rows.drop (i + 1) := by
    rw [← (List.getElem?_eq_some_iff.mp hr).2, List.getElem_cons_drop, List.take_append_drop]
  have hkl := kep_len g.rows.length pl c
  have e2 : kep g.rows.length pl c = (kep g.rows.length pl c).take i ++ (if i ∈ pl then c (pl.idxOf i) else 0) :: (kep g.rows.length pl c).drop (i + 1) := by
    have := kep_at (n := g.rows.length) (pl := pl) (c := c) hi
    have hi2 := (List.getElem?_eq_some_iff.mp this).1
    rw [← (List.getElem?_eq_some_iff.mp this).2, List.getElem_cons_drop, List.take_append_drop]
  generalize (if i ∈ pl then c (pl.idxOf i) else 0) = k at e2 ⊢
  have hl1 : ((kep g.rows.length pl c).take i).length = (g.rows.take i).length := by rw [List.length_take, List.length_take, hkl]
  obtain ⟨m1, p1, q1⟩ := beatF_pre ((g.rows.take i).map planRow) (0 :: lbits g.m x) ((kep g.rows.length pl c).take i)
  obtain ⟨q1, q2⟩ := q1 (by rw [List.length_map, hl1])
  have key : run g pl x c = beatF ((g.rows.take i).map planRow ++ planRow r :: (g.rows.drop (i + 1)).map planRow) (0 :: lbits g.m x) ((kep g.rows.length pl c).take i ++ k :: (kep g.rows.length pl c).drop (i + 1)) := by
    unfold run
    rw [← e2]
    congr 1
    rw [show planRow r :: (g.rows.drop (i + 1)).map planRow = (r :: g.rows.drop (i + 1)).map planRow from rfl, ← List.map_append, ← e1]
  rw [key, beatF_app _ _ _ _ _ (by rw [hl1, List.length_map])]
  generalize hA : (beatF ((g.rows.take i).map planRow) (0 :: lbits g.m x) ((kep g.rows.length pl c).take i)).1 = A at p1
  have hAl : A.length = g.m + 1 + i := by
    rw [p1, List.length_append, List.length_cons, lbits_len, q1, List.length_map, List.length_take, Nat.min_eq_left (by omega)]
  obtain ⟨m2, p2, _⟩ := beatF_pre ((g.rows.drop (i + 1)).map planRow) (A ++ [(ruleAt (planRow r) A k).1]) ((kep g.rows.length pl c).drop (i + 1))
  have c2 : beatF (planRow r :: (g.rows.drop (i + 1)).map planRow) A (k :: (kep g.rows.length pl c).drop (i + 1)) = ((beatF ((g.rows.drop (i + 1)).map planRow) (A ++ [(ruleAt (planRow r) A k).1]) ((kep g.rows.length pl c).drop (i + 1))).1, (ruleAt (planRow r) A k).2 :: (beatF ((g.rows.drop (i + 1)).map planRow) (A ++ [(ruleAt (planRow r) A k).1]) ((kep g.rows.length pl c).drop (i + 1))).2) := rfl
  rw [c2, p2]
  -- the places asked stand in A
  have hru : ruleAt (planRow r) (A ++ [(ruleAt (planRow r) A k).1] ++ m2) k = ruleAt (planRow r) A k := by
    obtain ⟨_, ho⟩ := ok i r hr
    have l1 : (planRow r).2.1 < g.m + i + 1 := place_lt ho
    have l2 : (planRow r).2.2 < g.m + i + 1 := place_lt ho
    unfold ruleAt
    rw [List.append_assoc, List.getElem?_append_left (by omega), List.getElem?_append_left (by omega)]
  refine ⟨?_, ?_⟩
  · unfold vl
    rw [key, beatF_app _ _ _ _ _ (by rw [hl1, List.length_map]), hA, c2, p2]
    show (A ++ [(ruleAt (planRow r) A k).1] ++ m2)[g.m + i + 1]?.getD 0 = _
    rw [hru, List.append_assoc, List.getElem?_append_right (by omega), hAl, show g.m + i + 1 - (g.m + 1 + i) = 0 by omega]
    rfl
  · show ((beatF ((g.rows.take i).map planRow) (0 :: lbits g.m x) ((kep g.rows.length pl c).take i)).2 ++ _)[i]? = _
    rw [List.getElem?_append_right (by rw [q2, List.length_map, List.length_take]; omega), q2, List.length_map, List.length_take, Nat.min_eq_left (by omega), Nat.sub_self, hru]
    rfl
/-- the same things, further on -/
structure Le (g : Sh) (pl : List Nat) (g' : Sh) (pl' : List Nat) : Prop where
  m : g'.m = g.m
  rows : ∃ more, g'.rows = g.rows ++ more
  pl : ∃ more, pl' = pl ++ more ∧ ∀ i ∈ more, g.rows.length ≤ i
theorem Le.refl (g : Sh) (pl : List Nat) : Le g pl g pl := ⟨rfl, ⟨[], (List.append_nil _).symm⟩, [], (List.append_nil _).symm, fun _ z => absurd z List.not_mem_nil⟩
theorem Le.trans {g g1 g2 : Sh} {pl pl1 pl2 : List Nat} (a : Le g pl g1 pl1) (b : Le g1 pl1 g2 pl2) : Le g pl g2 pl2 := by
  obtain ⟨m1, ⟨x, hx⟩, p, hp, hp2⟩ := a
  obtain ⟨m2, ⟨y, hy⟩, q, hq, hq2⟩ := b
  refine ⟨m2.trans m1, ⟨x ++ y, by rw [hy, hx, List.append_assoc]⟩, p ++ q, by rw [hq, hp, List.append_assoc], fun i hi => ?_⟩
  rcases List.mem_append.mp hi with h | h
  · exact hp2 i h
  · have := hq2 i h
    rw [hx, List.length_append] at this
    omega
theorem Le.size {g g' : Sh} {pl pl' : List Nat} (a : Le g pl g' pl') : g.size ≤ g'.size := by
  obtain ⟨m, ⟨x, hx⟩, _⟩ := a
  unfold Sh.size
  rw [m, hx, List.length_append]
  omega
theorem Gr.le' {g g' : Sh} {k : Nat} (a : Gr g g' k) (pl : List Nat) : Le g pl g' pl := ⟨a.m, let ⟨x, h, _⟩ := a.more; ⟨x, h⟩, [], (List.append_nil _).symm, fun _ z => absurd z List.not_mem_nil⟩
theorem vl_le {g g' : Sh} {pl pl' : List Nat} (a : Le g pl g' pl') {n x : Nat} {c : Nat → Nat} (hn : n < g.size) : vl g' pl' n x c = vl g pl n x c := by
  obtain ⟨m, ⟨y, hy⟩, q, hq, hq2⟩ := a
  obtain ⟨rest, hk⟩ : ∃ rest, kep g'.rows.length pl' c = kep g.rows.length pl c ++ rest := by
    have e : (kep g'.rows.length pl' c).take g.rows.length = kep g.rows.length pl c := by
      refine List.ext_getElem? fun i => ?_
      by_cases hi : i < g.rows.length
      · rw [List.getElem?_take, if_pos hi, kep_at (by rw [hy, List.length_append]; omega), kep_at hi, hq]
        by_cases hp : i ∈ pl
        · rw [if_pos hp, if_pos (List.mem_append_left _ hp), List.idxOf_append, if_pos hp]
        · rw [if_neg hp, if_neg fun z => by
            rcases List.mem_append.mp z with z | z
            · exact hp z
            · have := hq2 i z
              omega]
      · rw [List.getElem?_take, if_neg hi, List.getElem?_eq_none (by rw [kep_len]; omega)]
    exact ⟨(kep g'.rows.length pl' c).drop g.rows.length, by rw [← e, List.take_append_drop]⟩
  have hrun : (run g' pl' x c).1 = (beatF (y.map planRow) (run g pl x c).1 rest).1 := by
    unfold run
    rw [hk, hy, List.map_append, m, beatF_app _ _ _ _ _ (by rw [kep_len, List.length_map])]
  obtain ⟨more, h1, _⟩ := beatF_pre (y.map planRow) (run g pl x c).1 rest
  obtain ⟨more0, h2, h3⟩ := beatF_pre (g.rows.map planRow) (0 :: lbits g.m x) (kep g.rows.length pl c)
  obtain ⟨h4, _⟩ := h3 (by rw [kep_len, List.length_map])
  unfold vl
  rw [hrun, h1, List.getElem?_append_left]
  unfold run
  rw [h2, List.length_append, List.length_cons, lbits_len, h4, List.length_map]
  unfold Sh.size at hn
  omega
end SS
namespace SS
open PySem PySem.Spec PyProof.Rows L2 DL
/-! ### what is put says what it should -/
structure Iv (g : Sh) (pl : List Nat) : Prop where
  ok : ShOk g
  pm : ∀ i, i ∈ pl ↔ ∃ r, g.rows[i]? = some r ∧ carries r = true
  cnt : carry g.rows = pl.length
  no : ∀ a, (("or" : Str), [a, a]) ∉ g.rows
abbrev Wh := Nat → (Nat → Nat) → Prop
structure Rz (g : Sh) (pl : List Nat) (p : Sh × Nat) (pl' : List Nat) (φ : Wh) : Prop where
  iv : Iv p.1 pl'
  le : Le g pl p.1 pl'
  lt : p.2 < p.1.size
  val : ∀ x c, x < 2 ^ g.m → Bts c → (vl p.1 pl' p.2 x c = 1 ↔ φ x c)
theorem carries_W (r : QRow) (l : List Nat) : carries r = carries (r.1, l) := rfl
theorem run0 {g : Sh} {pl : List Nat} {x : Nat} {c : Nat → Nat} : (run g pl x c).1[0]?.getD 0 = 0 := by
  obtain ⟨more, h1, _⟩ := beatF_pre (g.rows.map planRow) (0 :: lbits g.m x) (kep g.rows.length pl c)
  unfold run
  rw [h1]
  rfl
theorem carry_app (rows : List QRow) (r : QRow) : carry (rows ++ [r]) = carry rows + if carries r = true then 1 else 0 := by
  unfold carry
  rw [List.filter_append, List.length_append]
  by_cases h : carries r = true
  · rw [if_pos h, List.filter_cons, if_pos h]; rfl
  · rw [if_neg h, List.filter_cons, if_neg h]; rfl
theorem put_raw {g : Sh} {pl : List Nat} {r : QRow} (iv : Iv g pl) (h : PutOk g r) (hc : carries r = false) (hno : ∀ a, r ≠ (("or" : Str), [a, a])) :
    Iv (g.put r).1 pl ∧ Le g pl (g.put r).1 pl ∧ (g.put r).2 < (g.put r).1.size ∧ ∀ x c, Bts c → vl (g.put r).1 pl (g.put r).2 x c = (ruleAt (planRow r) (run (g.put r).1 pl x c).1 0).1 := by
  obtain ⟨gr, h1, h2, h3⟩ := put_gr iv.ok h
  have ivn : Iv (g.put r).1 pl := by
    by_cases hr : r ∈ g.rows
    · rw [put_old hr]; exact iv
    · have ok2 := gr.ok
      rw [put_new hr] at ok2 ⊢
      refine ⟨ok2, fun i => ?_, ?_, fun a ha => ?_⟩
      · rw [iv.pm]
        constructor
        · rintro ⟨q, hq, hq2⟩
          exact ⟨q, by rw [List.getElem?_append_left (List.getElem?_eq_some_iff.mp hq).1]; exact hq, hq2⟩
        · rintro ⟨q, hq, hq2⟩
          by_cases hi : i < g.rows.length
          · exact ⟨q, by rwa [List.getElem?_append_left hi] at hq, hq2⟩
          · have hl := (List.getElem?_eq_some_iff.mp hq).1
            rw [List.length_append, List.length_singleton] at hl
            have e : i = g.rows.length := by omega
            subst e
            rw [List.getElem?_concat_length] at hq
            cases hq
            rw [hc] at hq2
            cases hq2
      · show carry (g.rows ++ [r]) = _
        rw [carry_app, hc, iv.cnt]
        rfl
      · rcases List.mem_append.mp ha with h | h
        · exact iv.no a h
        · exact hno a (List.mem_singleton.mp h).symm
  refine ⟨ivn, gr.le' pl, h3, fun x c hb => ?_⟩
  have hv := (vl_row (pl := pl) (x := x) (c := c) gr.ok.ok h2).1
  rw [if_neg (fun z => by
    obtain ⟨q, hq, hq2⟩ := (ivn.pm _).mp z
    rw [h2] at hq
    cases hq
    rw [hc] at hq2
    cases hq2)] at hv
  rw [← hv]
  congr 1
  rw [gr.m]
  omega
theorem tb_and : ∀ a b : Nat, a < 2 → b < 2 → ((((tabOf1 "and")[a + 2 * b + 4 * 0]?).getD (0, 0)).1 = 1 ↔ a = 1 ∧ b = 1) := by
  have key : ∀ a : Fin 2, ∀ b : Fin 2, ((((tabOf1 "and")[a.1 + 2 * b.1 + 4 * 0]?).getD (0, 0)).1 = 1 ↔ a.1 = 1 ∧ b.1 = 1) := by decide +kernel
  exact fun a b ha hb => key ⟨a, ha⟩ ⟨b, hb⟩
theorem tb_or : ∀ a b : Nat, a < 2 → b < 2 → ((((tabOf1 "or")[a + 2 * b + 4 * 0]?).getD (0, 0)).1 = 1 ↔ a = 1 ∨ b = 1) := by
  have key : ∀ a : Fin 2, ∀ b : Fin 2, ((((tabOf1 "or")[a.1 + 2 * b.1 + 4 * 0]?).getD (0, 0)).1 = 1 ↔ a.1 = 1 ∨ b.1 = 1) := by decide +kernel
  exact fun a b ha hb => key ⟨a, ha⟩ ⟨b, hb⟩
theorem tb_xor : ∀ a b : Nat, a < 2 → b < 2 → (((tabOf1 "xor")[a + 2 * b + 4 * 0]?).getD (0, 0)).1 = (a + b) % 2 := by
  have key : ∀ a : Fin 2, ∀ b : Fin 2, (((tabOf1 "xor")[a.1 + 2 * b.1 + 4 * 0]?).getD (0, 0)).1 = (a.1 + b.1) % 2 := by decide +kernel
  exact fun a b ha hb => key ⟨a, ha⟩ ⟨b, hb⟩
theorem tb_not : ∀ a : Nat, a < 2 → ((((tabOf1 "not")[a + 2 * 0 + 4 * 0]?).getD (0, 0)).1 = 1 ↔ ¬ a = 1) := by
  have key : ∀ a : Fin 2, ((((tabOf1 "not")[a.1 + 2 * 0 + 4 * 0]?).getD (0, 0)).1 = 1 ↔ ¬ a.1 = 1) := by decide +kernel
  exact fun a ha => key ⟨a, ha⟩
theorem tb_plus : ∀ a b k : Nat, a < 2 → b < 2 → k < 2 → ((tabOf1 "plus")[a + 2 * b + 4 * k]?).getD (0, 0) = ((a + b + k) % 2, (a + b + k) / 2) := by
  have key : ∀ a : Fin 2, ∀ b : Fin 2, ∀ k : Fin 2, ((tabOf1 "plus")[a.1 + 2 * b.1 + 4 * k.1]?).getD (0, 0) = ((a.1 + b.1 + k.1) % 2, (a.1 + b.1 + k.1) / 2) := by decide +kernel
  exact fun a b k ha hb hk => key ⟨a, ha⟩ ⟨b, hb⟩ ⟨k, hk⟩
theorem c_and (l) : carries (("and" : Str), l) = false := by show decide (("and" : Str) ∈ (["twice", "minus", "plus", "less"] : List Str)) = false; decide +kernel
theorem c_or (l) : carries (("or" : Str), l) = false := by show decide (("or" : Str) ∈ (["twice", "minus", "plus", "less"] : List Str)) = false; decide +kernel
theorem c_xor (l) : carries (("xor" : Str), l) = false := by show decide (("xor" : Str) ∈ (["twice", "minus", "plus", "less"] : List Str)) = false; decide +kernel
theorem c_not (l) : carries (("not" : Str), l) = false := by show decide (("not" : Str) ∈ (["twice", "minus", "plus", "less"] : List Str)) = false; decide +kernel
theorem c_zero (l) : carries (("zero" : Str), l) = false := by show decide (("zero" : Str) ∈ (["twice", "minus", "plus", "less"] : List Str)) = false; decide +kernel
theorem c_ones (l) : carries (("ones" : Str), l) = false := by show decide (("ones" : Str) ∈ (["twice", "minus", "plus", "less"] : List Str)) = false; decide +kernel
theorem c_plus (l) : carries (("plus" : Str), l) = true := by show decide (("plus" : Str) ∈ (["twice", "minus", "plus", "less"] : List Str)) = true; decide +kernel
theorem w_ne {w u : Str} {k l : List Nat} (h : w ≠ u) : (w, k) ≠ (u, l) := fun e => h (congrArg Prod.fst e)
theorem and_or : (("and" : Str)) ≠ "or" := by decide +kernel
theorem xor_or : (("xor" : Str)) ≠ "or" := by decide +kernel
theorem not_or' : (("not" : Str)) ≠ "or" := by decide +kernel
theorem zero_or : (("zero" : Str)) ≠ "or" := by decide +kernel
theorem ones_or : (("ones" : Str)) ≠ "or" := by decide +kernel
theorem plus_or : (("plus" : Str)) ≠ "or" := by decide +kernel
section
variable {g : Sh} {pl : List Nat} {a b : Nat}
theorem vl_after {g' : Sh} {x : Nat} {c : Nat → Nat} (l : Le g pl g' pl) (ha : a < g.size) : (run g' pl x c).1[a + 1]?.getD 0 = vl g pl a x c := vl_le l ha
theorem put_and (iv : Iv g pl) (ha : a < g.size) (hb : b < g.size) (hf : g.rows.length < 1000) : Rz g pl (g.put (("and" : Str), [a, b])) pl fun x c => vl g pl a x c = 1 ∧ vl g pl b x c = 1 := by
  obtain ⟨h1, h2, h3, h4⟩ := put_raw iv (put2_ok k_and ha hb hf) (c_and _) fun _ => w_ne and_or
  refine ⟨h1, h2, h3, fun x c hx hc => ?_⟩
  rw [h4 x c hc]
  show (((tabOf1 "and")[(run _ pl x c).1[a + 1]?.getD 0 + 2 * (run _ pl x c).1[b + 1]?.getD 0 + 4 * 0]?).getD (0, 0)).1 = 1 ↔ _
  rw [vl_after h2 ha, vl_after h2 hb]
  exact tb_and _ _ (vl_lt iv.ok.ok hc) (vl_lt iv.ok.ok hc)
theorem put_or (iv : Iv g pl) (ha : a < g.size) (hb : b < g.size) (hf : g.rows.length < 1000) (hne : a ≠ b) : Rz g pl (g.put (("or" : Str), [a, b])) pl fun x c => vl g pl a x c = 1 ∨ vl g pl b x c = 1 := by
  obtain ⟨h1, h2, h3, h4⟩ := put_raw iv (put2_ok k_or ha hb hf) (c_or _) fun q e => by
    have := congrArg Prod.snd e
    cases this
    exact hne rfl
  refine ⟨h1, h2, h3, fun x c hx hc => ?_⟩
  rw [h4 x c hc]
  show (((tabOf1 "or")[(run _ pl x c).1[a + 1]?.getD 0 + 2 * (run _ pl x c).1[b + 1]?.getD 0 + 4 * 0]?).getD (0, 0)).1 = 1 ↔ _
  rw [vl_after h2 ha, vl_after h2 hb]
  exact tb_or _ _ (vl_lt iv.ok.ok hc) (vl_lt iv.ok.ok hc)
theorem put_xor (iv : Iv g pl) (ha : a < g.size) (hb : b < g.size) (hf : g.rows.length < 1000) : Rz g pl (g.put (("xor" : Str), [a, b])) pl (fun x c => (vl g pl a x c + vl g pl b x c) % 2 = 1) := by
  obtain ⟨h1, h2, h3, h4⟩ := put_raw iv (put2_ok k_xor ha hb hf) (c_xor _) fun _ => w_ne xor_or
  refine ⟨h1, h2, h3, fun x c hx hc => ?_⟩
  rw [h4 x c hc]
  show (((tabOf1 "xor")[(run _ pl x c).1[a + 1]?.getD 0 + 2 * (run _ pl x c).1[b + 1]?.getD 0 + 4 * 0]?).getD (0, 0)).1 = 1 ↔ _
  rw [vl_after h2 ha, vl_after h2 hb, tb_xor _ _ (vl_lt iv.ok.ok hc) (vl_lt iv.ok.ok hc)]
theorem put_not (iv : Iv g pl) (ha : a < g.size) (hf : g.rows.length < 1000) : Rz g pl (g.put (("not" : Str), [a])) pl fun x c => ¬ vl g pl a x c = 1 := by
  obtain ⟨h1, h2, h3, h4⟩ := put_raw iv (r := (("not" : Str), [a])) ⟨k_not, fun x hx => by rw [List.mem_singleton.mp hx]; exact ha, hf⟩ (c_not _) fun _ => w_ne not_or'
  refine ⟨h1, h2, h3, fun x c hx hc => ?_⟩
  rw [h4 x c hc]
  show (((tabOf1 "not")[(run _ pl x c).1[a + 1]?.getD 0 + 2 * (run _ pl x c).1[0]?.getD 0 + 4 * 0]?).getD (0, 0)).1 = 1 ↔ _
  rw [vl_after h2 ha, run0]
  exact tb_not _ (vl_lt iv.ok.ok hc)
theorem put_ones (iv : Iv g pl) (hf : g.rows.length < 1000) : Rz g pl (g.put (("ones" : Str), [])) pl fun _ _ => True := by
  obtain ⟨h1, h2, h3, h4⟩ := put_raw iv (r := (("ones" : Str), [])) ⟨k_ones, fun x hx => absurd hx List.not_mem_nil, hf⟩ (c_ones _) fun _ => w_ne ones_or
  refine ⟨h1, h2, h3, fun x c hx hc => ?_⟩
  rw [h4 x c hc]
  show (((tabOf1 "ones")[(run _ pl x c).1[0]?.getD 0 + 2 * (run _ pl x c).1[0]?.getD 0 + 4 * 0]?).getD (0, 0)).1 = 1 ↔ _
  rw [run0]
  decide +kernel
theorem put_zero (iv : Iv g pl) (hf : g.rows.length < 1000) : Rz g pl (g.put (("zero" : Str), [])) pl fun _ _ => False := by
  obtain ⟨h1, h2, h3, h4⟩ := put_raw iv (r := (("zero" : Str), [])) ⟨k_zero, fun x hx => absurd hx List.not_mem_nil, hf⟩ (c_zero _) fun _ => w_ne zero_or
  refine ⟨h1, h2, h3, fun x c hx hc => ?_⟩
  rw [h4 x c hc]
  show (((tabOf1 "zero")[(run _ pl x c).1[0]?.getD 0 + 2 * (run _ pl x c).1[0]?.getD 0 + 4 * 0]?).getD (0, 0)).1 = 1 ↔ _
  rw [run0]
  decide +kernel
end
theorem Rz.imp {g : Sh} {pl pl' : List Nat} {p : Sh × Nat} {φ ψ : Wh} (a : Rz g pl p pl' φ) (h : ∀ x c, x < 2 ^ g.m → Bts c → (φ x c ↔ ψ x c)) : Rz g pl p pl' ψ := ⟨a.iv, a.le, a.lt, fun x c hx hc => (a.val x c hx hc).trans (h x c hx hc)⟩
theorem Rz.after {g g1 : Sh} {pl pl1 pl' : List Nat} {p : Sh × Nat} {φ : Wh} (l : Le g pl g1 pl1) (a : Rz g1 pl1 p pl' φ) : Rz g pl p pl' φ := ⟨a.iv, l.trans a.le, a.lt, fun x c hx hc => a.val x c (by rw [l.m]; exact hx) hc⟩
theorem vl_eq {g g' : Sh} {pl pl' : List Nat} (a : Le g pl g' pl') {n : Nat} (hn : n < g.size) (x : Nat) (c : Nat → Nat) : (vl g' pl' n x c = 1) = (vl g pl n x c = 1) := by rw [vl_le a hn]
abbrev vl1 (g : Sh) (pl : List Nat) (o : Nat) : Wh := fun x c => vl g pl o x c = 1
theorem foldW_and : ∀ {ops : List Nat} {g : Sh} {pl : List Nat} {o : Nat}, Iv g pl → o < g.size → (∀ x ∈ ops, x < g.size) → g.rows.length + ops.length < 1000 → Rz g pl (foldW "and" (g, o) ops) pl fun x c => vl g pl o x c = 1 ∧ ∀ y ∈ ops, vl g pl y x c = 1
  | [], g, pl, o, iv, ho, _, _ => ⟨iv, Le.refl _ _, ho, fun x c _ _ => ⟨fun h => ⟨h, fun _ z => absurd z List.not_mem_nil⟩, fun h => h.1⟩⟩
  | y :: r, g, pl, o, iv, ho, hx, hf => by
    rw [List.length_cons] at hf
    have hy := hx y List.mem_cons_self
    have p := put_and iv ho hy (by omega)
    obtain ⟨gr, _, _, _⟩ := put_gr iv.ok (put2_ok k_and ho hy (by omega))
    obtain ⟨s1, s2, s3⟩ := gr.size
    have ih := foldW_and (ops := r) p.iv p.lt (fun z hz => by have := hx z (List.mem_cons_of_mem _ hz); omega) (by omega)
    refine (Rz.after p.le ih).imp fun x c hx' hc => ?_
    rw [p.val x c hx' hc]
    constructor
    · rintro ⟨⟨h1, h2⟩, h3⟩
      refine ⟨h1, fun z hz => ?_⟩
      rcases List.mem_cons.mp hz with e | hz
      · rw [e]; exact h2
      · rw [← vl_le p.le (hx z (List.mem_cons_of_mem _ hz))]
        exact h3 z hz
    · rintro ⟨h1, h2⟩
      refine ⟨⟨h1, h2 y List.mem_cons_self⟩, fun z hz => ?_⟩
      rw [vl_le p.le (hx z (List.mem_cons_of_mem _ hz))]
      exact h2 z (List.mem_cons_of_mem _ hz)
/-- each operand is one somewhere where none ahead is -/
def Sep (m : Nat) (T : Nat → Wh) : Wh → List Nat → Prop
  | _, [] => True
  | φ, o :: os => (∃ x c, x < 2 ^ m ∧ Bts c ∧ T o x c ∧ ¬ φ x c) ∧ Sep m T (fun x c => φ x c ∨ T o x c) os
theorem Sep.imp {m : Nat} {T T' : Nat → Wh} : ∀ {ops : List Nat} {φ φ' : Wh}, (∀ o ∈ ops, ∀ x c, x < 2 ^ m → Bts c → (T o x c ↔ T' o x c)) → (∀ x c, x < 2 ^ m → Bts c → (φ x c ↔ φ' x c)) → Sep m T φ ops → Sep m T' φ' ops
  | [], _, _, _, _, _ => trivial
  | o :: os, φ, φ', h1, h2, h => by
    obtain ⟨⟨x, c, hx, hc, a, b⟩, k⟩ := h
    refine ⟨⟨x, c, hx, hc, (h1 o List.mem_cons_self x c hx hc).mp a, fun z => b ((h2 x c hx hc).mpr z)⟩, Sep.imp (fun y hy => h1 y (List.mem_cons_of_mem _ hy)) (fun x c hx hc => ?_) k⟩
    rw [h2 x c hx hc, h1 o List.mem_cons_self x c hx hc]
theorem foldW_or : ∀ {ops : List Nat} {g : Sh} {pl : List Nat} {o : Nat}, Iv g pl → o < g.size → (∀ x ∈ ops, x < g.size) → g.rows.length + ops.length < 1000 → Sep g.m (vl1 g pl) (vl1 g pl o) ops → Rz g pl (foldW "or" (g, o) ops) pl fun x c => vl g pl o x c = 1 ∨ ∃ y ∈ ops, vl g pl y x c = 1
  | [], g, pl, o, iv, ho, _, _, _ => ⟨iv, Le.refl _ _, ho, fun x c _ _ => ⟨.inl, fun h => h.elim id fun ⟨_, z, _⟩ => absurd z List.not_mem_nil⟩⟩
  | y :: r, g, pl, o, iv, ho, hx, hf, hs => by
    rw [List.length_cons] at hf
    have hy := hx y List.mem_cons_self
    obtain ⟨⟨x0, c0, _, _, t1, t2⟩, hs⟩ := hs
    have p := put_or iv ho hy (by omega) (by rintro rfl; exact t2 t1)
    obtain ⟨gr, _, _, _⟩ := put_gr iv.ok (put2_ok k_or ho hy (by omega))
    obtain ⟨s1, s2, s3⟩ := gr.size
    have ih := foldW_or (ops := r) p.iv p.lt (fun z hz => by have := hx z (List.mem_cons_of_mem _ hz); omega) (by omega) (by
      rw [p.le.m]
      refine Sep.imp (fun z hz x c _ _ => ?_) (fun x c hx' hc => ?_) hs
      · show vl _ _ _ _ _ = 1 ↔ vl _ _ _ _ _ = 1
        rw [vl_le p.le (hx z (List.mem_cons_of_mem _ hz))]
      · exact (p.val x c hx' hc).symm)
    refine (Rz.after p.le ih).imp fun x c hx' hc => ?_
    rw [p.val x c hx' hc]
    constructor
    · rintro ((h1 | h1) | ⟨z, hz, h3⟩)
      · exact .inl h1
      · exact .inr ⟨y, List.mem_cons_self, h1⟩
      · exact .inr ⟨z, List.mem_cons_of_mem _ hz, by rwa [vl_le p.le (hx z (List.mem_cons_of_mem _ hz))] at h3⟩
    · rintro (h1 | ⟨z, hz, h3⟩)
      · exact .inl (.inl h1)
      · rcases List.mem_cons.mp hz with e | hz
        · rw [e] at h3; exact .inl (.inr h3)
        · exact .inr ⟨z, hz, by rwa [vl_le p.le (hx z (List.mem_cons_of_mem _ hz))]⟩
theorem all_of {g : Sh} {pl ops : List Nat} (iv : Iv g pl) (h : OpsOk g ops) : Rz g pl (g.putAll true ops) pl fun x c => ∀ y ∈ ops, vl g pl y x c = 1 := by
  cases ops with
  | nil => exact (put_ones iv (by have := h.few; rw [List.length_nil] at this; omega)).imp fun x c _ _ => ⟨fun _ _ z => absurd z List.not_mem_nil, fun _ => trivial⟩
  | cons o os =>
    have hf := h.few
    rw [List.length_cons] at hf
    exact (foldW_and iv (h.o o List.mem_cons_self) (fun x hx => h.o x (List.mem_cons_of_mem _ hx)) (by omega)).imp fun x c _ _ => by rw [List.forall_mem_cons]
theorem any_of {g : Sh} {pl ops : List Nat} (iv : Iv g pl) (h : OpsOk g ops) (hs : Sep g.m (vl1 g pl) (fun _ _ => False) ops) : Rz g pl (g.putAll false ops) pl fun x c => ∃ y ∈ ops, vl g pl y x c = 1 := by
  cases ops with
  | nil => exact (put_zero iv (by have := h.few; rw [List.length_nil] at this; omega)).imp fun x c _ _ => ⟨fun z => z.elim, fun ⟨_, z, _⟩ => absurd z List.not_mem_nil⟩
  | cons o os =>
    have hf := h.few
    rw [List.length_cons] at hf
    refine (foldW_or iv (h.o o List.mem_cons_self) (fun x hx => h.o x (List.mem_cons_of_mem _ hx)) (by omega) (Sep.imp (fun _ _ _ _ _ _ => Iff.rfl) (fun x c _ _ => ⟨fun z => z.elim (fun z => z.elim) id, .inr⟩) hs.2)).imp fun x c _ _ => ?_
    constructor
    · rintro (h1 | ⟨z, hz, h3⟩)
      · exact ⟨o, List.mem_cons_self, h1⟩
      · exact ⟨z, List.mem_cons_of_mem _ hz, h3⟩
    · rintro ⟨z, hz, h3⟩
      rcases List.mem_cons.mp hz with e | hz
      · rw [e] at h3; exact .inl h3
      · exact .inr ⟨z, hz, h3⟩
theorem sep_of {ι : Type} {m : Nat} {T : Nat → Wh} {f : ι → Nat} {w : ι → Nat × (Nat → Nat)} : ∀ {ks : List ι} {φ : Wh}, ks.Nodup → (∀ k ∈ ks, (w k).1 < 2 ^ m ∧ Bts (w k).2 ∧ T (f k) (w k).1 (w k).2) → (∀ k ∈ ks, ∀ l ∈ ks, k ≠ l → ¬ T (f k) (w l).1 (w l).2) → (∀ k ∈ ks, ¬ φ (w k).1 (w k).2) → Sep m T φ (ks.map f)
  | [], _, _, _, _, _ => trivial
  | k :: ks, φ, nd, h1, h2, h3 => by
    obtain ⟨n1, n2⟩ := List.nodup_cons.mp nd
    obtain ⟨a, b, t⟩ := h1 k List.mem_cons_self
    refine ⟨⟨(w k).1, (w k).2, a, b, t, h3 k List.mem_cons_self⟩, sep_of n2 (fun l hl => h1 l (List.mem_cons_of_mem _ hl)) (fun l hl j hj => h2 l (List.mem_cons_of_mem _ hl) j (List.mem_cons_of_mem _ hj)) fun l hl z => ?_⟩
    rcases z with z | z
    · exact h3 l (List.mem_cons_of_mem _ hl) z
    · exact h2 k List.mem_cons_self l (List.mem_cons_of_mem _ hl) (by rintro rfl; exact n1 hl) z
theorem chosen_of {g : Sh} {pl : List Nat} {o b : Nat} (iv : Iv g pl) (ho : o < g.size) (hf : g.rows.length < 1000) (hb : b < 2) : Rz g pl (g.chosen o b) pl fun x c => vl g pl o x c = b := by
  unfold Sh.chosen
  by_cases h : b = 1
  · rw [if_pos h, h]
    exact ⟨iv, Le.refl _ _, ho, fun _ _ _ _ => Iff.rfl⟩
  · rw [if_neg h]
    refine (put_not iv ho hf).imp fun x c _ hc => ?_
    have := vl_lt (pl := pl) (n := o) (x := x) iv.ok.ok hc
    omega
theorem accS_of {α : Type} {f : Sh → α → Sh × Nat} {φ : α → Wh} {k : Nat} {pl : List Nat} {Pre : Sh → α → Prop} (hf : ∀ g a, Iv g pl → Pre g a → g.rows.length + k < 900 → Rz g pl (f g a) pl (φ a) ∧ Gr g (f g a).1 k) (hp : ∀ g g' a, Le g pl g' pl → Pre g a → Pre g' a) :
    ∀ {as : List α} {g : Sh}, Iv g pl → (∀ a ∈ as, Pre g a) → g.rows.length + k * as.length < 900 →
      Iv (accS f g as).1 pl ∧ Le g pl (accS f g as).1 pl ∧ (accS f g as).2.length = as.length ∧ (accS f g as).1.rows.length ≤ g.rows.length + k * as.length ∧ ∀ (i o : Nat), (accS f g as).2[i]? = some o → ∃ a, as[i]? = some a ∧ o < (accS f g as).1.size ∧ ∀ x c, x < 2 ^ g.m → Bts c → (vl (accS f g as).1 pl o x c = 1 ↔ φ a x c)
  | [], g, iv, _, _ => ⟨iv, Le.refl _ _, rfl, Nat.le_add_right _ _, fun i o h => by simp [accS] at h⟩
  | a :: as, g, iv, hpre, hl => by
    rw [List.length_cons, Nat.mul_succ] at hl
    obtain ⟨h1, h2⟩ := hf g a iv (hpre a List.mem_cons_self) (by omega)
    obtain ⟨s1, s2, s3⟩ := h2.size
    obtain ⟨i1, i2, i3, i5, i4⟩ := accS_of hf hp (as := as) (g := (f g a).1) h1.iv (fun b hb => hp g _ b h1.le (hpre b (List.mem_cons_of_mem _ hb))) (by omega)
    have e : accS f g (a :: as) = ((accS f (f g a).1 as).1, (f g a).2 :: (accS f (f g a).1 as).2) := rfl
    rw [e]
    refine ⟨i1, h1.le.trans i2, by rw [List.length_cons, i3, List.length_cons], by rw [List.length_cons, Nat.mul_succ]; show (accS _ _ _).1.rows.length ≤ _; omega, fun i o hi => ?_⟩
    cases i with
    | zero =>
      cases hi
      exact ⟨a, rfl, Nat.lt_of_lt_of_le h1.lt i2.size, fun x c hx hc => by
        show vl (accS f (f g a).1 as).1 pl (f g a).2 x c = 1 ↔ _
        rw [vl_le i2 h1.lt]
        exact h1.val x c hx hc⟩
    | succ i =>
      obtain ⟨b, hb, hb2, hb3⟩ := i4 i o hi
      exact ⟨b, hb, hb2, fun x c hx hc => hb3 x c (by rw [h1.le.m]; exact hx) hc⟩
end SS
namespace SS
open PySem PySem.Spec PyProof.Rows L2 DL
/-! ### letters, bits of states -/
theorem bitAt_lt (x j : Nat) : bitAt x j < 2 := Nat.mod_lt _ (by decide)
theorem bits_same : ∀ (n x y : Nat), x < 2 ^ n → y < 2 ^ n → (∀ j, j < n → bitAt x j = bitAt y j) → x = y
  | 0, x, y, hx, hy, _ => by simp at hx hy; omega
  | n + 1, x, y, hx, hy, h => by
    rw [Nat.pow_succ] at hx hy
    have h0 := h 0 (Nat.succ_pos _)
    have := bits_same n (x / 2) (y / 2) (by omega) (by omega) fun j hj => by
      have := h (j + 1) (by omega)
      unfold bitAt at this ⊢
      rwa [Nat.pow_succ, Nat.mul_comm, ← Nat.div_div_eq_div_mul, ← Nat.div_div_eq_div_mul] at this
    unfold bitAt at h0
    simp at h0
    omega
def Lt (g : Sh) (pl : List Nat) (letters : List Nat) : Prop := letters.length = 2 ^ g.m ∧ ∀ (i o : Nat), letters[i]? = some o → o < g.size ∧ ∀ x c, x < 2 ^ g.m → Bts c → (vl g pl o x c = 1 ↔ x = i)
theorem Lt.le {g g' : Sh} {pl pl' letters : List Nat} (h : Lt g pl letters) (l : Le g pl g' pl') : Lt g' pl' letters := ⟨by rw [h.1, l.m], fun i o hi => by
  obtain ⟨a, b⟩ := h.2 i o hi
  refine ⟨Nat.lt_of_lt_of_le a l.size, fun x c hx hc => ?_⟩
  rw [vl_le l a]
  exact b x c (by rw [← l.m]; exact hx) hc⟩
theorem letterNum_of {g : Sh} {pl : List Nat} {x0 : Nat} (iv : Iv g pl) (hx0 : x0 < 2 ^ g.m) (hf : g.rows.length < 895) : Rz g pl (g.letterNum x0) pl fun x _ => x = x0 := by
  have hm := iv.ok.m2
  obtain ⟨h1, h2, h3, _, h4⟩ := accS_of (f := fun g j => g.chosen j (bitAt x0 j)) (φ := fun j x _ => bitAt x j = bitAt x0 j) (k := 1) (pl := pl) (Pre := fun g j => j < g.m) (fun g a iv ha hl => ⟨(chosen_of iv (by unfold Sh.size; omega) (by omega) (bitAt_lt _ _)).imp fun x c _ _ => by rw [vl_in ha], (chosen_gr iv.ok (by unfold Sh.size; omega) (by omega)).1⟩) (fun g g' a l h => by rw [l.m]; exact h) (as := List.range g.m) iv (fun a ha => List.mem_range.mp ha) (by rw [List.length_range]; omega)
  obtain ⟨k1, k2, k3⟩ := choosesJ_gr (v := fun j => bitAt x0 j) (js := List.range g.m) iv.ok (fun j hj => by have := List.mem_range.mp hj; unfold Sh.size; omega) (by rw [List.length_range]; omega)
  rw [List.length_range] at k1 k2
  obtain ⟨s1, s2, s3⟩ := k1.size
  unfold Sh.letterNum
  generalize hr : accS (fun g j => g.chosen j (bitAt x0 j)) g (List.range g.m) = r at h1 h2 h3 h4 k1 k2 k3 s1 s2 s3 ⊢
  refine ((all_of h1 ⟨k3, by omega⟩).after h2).imp fun x c hx hc => ?_
  constructor
  · intro h
    refine bits_same g.m x x0 hx hx0 fun j hj => ?_
    have hjl : j < r.2.length := by omega
    obtain ⟨a, ha, _, hv⟩ := h4 j _ (List.getElem?_eq_getElem hjl)
    rw [List.getElem?_range hj] at ha
    cases ha
    exact (hv x c hx hc).mp (h _ (List.getElem_mem hjl))
  · rintro rfl y hy
    obtain ⟨i, hi⟩ := List.mem_iff_getElem?.mp hy
    obtain ⟨a, _, _, hv⟩ := h4 i y hi
    exact (hv x c hx hc).mpr rfl
def Bi (g : Sh) (pl : List Nat) (bs : List Nat) : Prop := ∀ (p b : Nat), bs[p]? = some b → b < g.size ∧ ∀ x c, x < 2 ^ g.m → Bts c → (vl g pl b x c = 1 ↔ c p = 1)
theorem Bi.le {g g' : Sh} {pl pl' bs : List Nat} (h : Bi g pl bs) (l : Le g pl g' pl') : Bi g' pl' bs := fun i o hi => by
  obtain ⟨a, b⟩ := h i o hi
  refine ⟨Nat.lt_of_lt_of_le a l.size, fun x c hx hc => ?_⟩
  rw [vl_le l a]
  exact b x c (by rw [← l.m]; exact hx) hc
theorem stateNum_of {g : Sh} {pl bs : List Nat} {s : Nat} (iv : Iv g pl) (hb : Bi g pl bs) (hf : g.rows.length + 2 * bs.length + 1 < 900) : Rz g pl (g.stateNum bs s) pl fun _ c => ∀ p, p < bs.length → c p = bitAt s p := by
  have hz : bs.zipIdx.length = bs.length := List.length_zipIdx
  have hmem : ∀ p ∈ bs.zipIdx, bs[p.2]? = some p.1 := fun p hp => List.mem_zipIdx_iff_getElem?.mp hp
  obtain ⟨h1, h2, h3, _, h4⟩ := accS_of (f := fun g (p : Nat × Nat) => g.chosen p.1 (bitAt s p.2)) (φ := fun (p : Nat × Nat) _ c => c p.2 = bitAt s p.2) (k := 1) (pl := pl) (Pre := fun g (p : Nat × Nat) => p.1 < g.size ∧ ∀ x c, x < 2 ^ g.m → Bts c → (vl g pl p.1 x c = 1 ↔ c p.2 = 1)) (fun g a iv ha hl => ⟨(chosen_of iv ha.1 (by omega) (bitAt_lt _ _)).imp fun x c hx hc => by
    have h1 := ha.2 x c hx hc
    have h2 := vl_lt (pl := pl) (n := a.1) (x := x) iv.ok.ok hc
    have h3 := hc a.2
    have h4 := bitAt_lt s a.2
    omega, (chosen_gr iv.ok ha.1 (by omega)).1⟩) (fun g g' a l h => ⟨Nat.lt_of_lt_of_le h.1 l.size, fun x c hx hc => by
      rw [vl_le l h.1]
      exact h.2 x c (by rw [← l.m]; exact hx) hc⟩) (as := bs.zipIdx) iv (fun a ha => hb _ _ (hmem a ha)) (by omega)
  obtain ⟨k1, k2, k3⟩ := chooses_gr (v := fun p => bitAt s p) (ps := bs.zipIdx) iv.ok (fun p hp => (hb _ _ (hmem p hp)).1) (by omega)
  rw [hz] at k1 k2
  obtain ⟨s1, s2, s3⟩ := k1.size
  unfold Sh.stateNum
  generalize hr : accS (fun g (p : Nat × Nat) => g.chosen p.1 (bitAt s p.2)) g bs.zipIdx = r at h1 h2 h3 h4 k1 k2 k3 s1 s2 s3 ⊢
  refine ((all_of h1 ⟨k3, by omega⟩).after h2).imp fun x c hx hc => ?_
  constructor
  · intro h p hp
    have hjl : p < r.2.length := by omega
    obtain ⟨a, ha, _, hv⟩ := h4 p _ (List.getElem?_eq_getElem hjl)
    rw [List.getElem?_zipIdx, List.getElem?_eq_getElem hp] at ha
    have ea := Option.some.inj ha
    have := (hv x c hx hc).mp (h _ (List.getElem_mem hjl))
    rw [← ea, Nat.zero_add] at this
    exact this
  · intro h y hy
    obtain ⟨i, hi⟩ := List.mem_iff_getElem?.mp hy
    obtain ⟨a, ha, _, hv⟩ := h4 i y hi
    have := hmem a (List.mem_of_getElem? ha)
    exact (hv x c hx hc).mpr (h _ (List.getElem?_eq_some_iff.mp this).1)
theorem zip_nd (letters : List Nat) : letters.zipIdx.Nodup := by
  have h : (letters.zipIdx.map (·.2)).Nodup := by
    rw [List.zipIdx_map_snd]
    exact List.nodup_range'
  exact List.Pairwise.of_map (S := (· ≠ ·)) (fun p : Nat × Nat => p.2) (fun a b h e => h (congrArg Prod.snd e)) h
theorem any_letters {g : Sh} {pl letters : List Nat} (iv : Iv g pl) (lt : Lt g pl letters) {ks : List (Nat × Nat)} (nd : ks.Nodup) (sub : ∀ k ∈ ks, k ∈ letters.zipIdx) (hf : g.rows.length + ks.length < 1000) : Rz g pl (g.putAll false (ks.map (·.1))) pl fun x _ => ∃ k ∈ ks, k.2 = x := by
  have hmem : ∀ k ∈ ks, letters[k.2]? = some k.1 := fun p hp => List.mem_zipIdx_iff_getElem?.mp (sub p hp)
  have hlt : ∀ k ∈ ks, k.2 < 2 ^ g.m := fun k hk => by
    have := (List.getElem?_eq_some_iff.mp (hmem k hk)).1
    rw [lt.1] at this
    exact this
  have hz : Bts fun _ => 0 := fun _ => Nat.zero_lt_two
  refine (any_of iv ⟨fun o ho => ?_, by rw [List.length_map]; exact hf⟩ (sep_of (w := fun k => (k.2, fun _ => 0)) nd (fun k hk => ⟨hlt k hk, hz, ((lt.2 _ _ (hmem k hk)).2 _ _ (hlt k hk) hz).mpr rfl⟩) (fun k hk l hl hne z => ?_) fun _ _ z => z)).imp fun x c hx hc => ?_
  · obtain ⟨k, hk, rfl⟩ := List.mem_map.mp ho
    exact (lt.2 _ _ (hmem k hk)).1
  · have := ((lt.2 _ _ (hmem k hk)).2 _ _ (hlt l hl) hz).mp z
    have h1 := hmem k hk
    rw [← this, hmem l hl] at h1
    exact hne (Prod.ext (Option.some.inj h1).symm this.symm)
  · constructor
    · rintro ⟨y, hy, h⟩
      obtain ⟨k, hk, rfl⟩ := List.mem_map.mp hy
      exact ⟨k, hk, (((lt.2 _ _ (hmem k hk)).2 x c hx hc).mp h).symm⟩
    · rintro ⟨k, hk, rfl⟩
      exact ⟨k.1, List.mem_map.mpr ⟨k, hk, rfl⟩, ((lt.2 _ _ (hmem k hk)).2 _ c hx hc).mpr rfl⟩
theorem ex_filter {letters : List Nat} {f : Nat × Nat → Bool} {P : Nat → Prop} (h : ∀ k, f k = true ↔ P k.2) {x : Nat} (hx : x < letters.length) : (∃ k ∈ letters.zipIdx.filter f, k.2 = x) ↔ P x := by
  constructor
  · rintro ⟨k, hk, rfl⟩
    exact (h k).mp (List.mem_filter.mp hk).2
  · intro hp
    exact ⟨(letters[x], x), List.mem_filter.mpr ⟨List.mem_zipIdx_iff_getElem?.mpr (List.getElem?_eq_getElem hx), (h _).mpr hp⟩, rfl⟩
def Stg (small : List Row) (p x : Nat) : Prop := isStay small x = false ∧ bitAt (stp small 0 x) p = 1
def Ke (g : Sh) (pl : List Nat) (small : List Row) : Prop := ∀ (p i : Nat), pl[p]? = some i → ∃ h l, g.rows[i]? = some (("plus" : Str), [h, l]) ∧ h < g.size ∧ l < g.size ∧ ∀ x c, x < 2 ^ g.m → Bts c → (vl g pl l x c = 1 ↔ Stg small p x) ∧ (vl g pl h x c = 1 ↔ Stg small p x ∨ isStay small x = true)
theorem Le.at_ {g g' : Sh} {pl pl' : List Nat} {i : Nat} {r : QRow} (l : Le g pl g' pl') (h : g.rows[i]? = some r) : g'.rows[i]? = some r := by
  obtain ⟨y, hy⟩ := l.rows
  rw [hy, List.getElem?_append_left (List.getElem?_eq_some_iff.mp h).1]
  exact h
theorem ke_one {g g' : Sh} {pl pl' : List Nat} {small : List Row} {p i : Nat} (l : Le g pl g' pl') (h : ∃ h l, g.rows[i]? = some (("plus" : Str), [h, l]) ∧ h < g.size ∧ l < g.size ∧ ∀ x c, x < 2 ^ g.m → Bts c → (vl g pl l x c = 1 ↔ Stg small p x) ∧ (vl g pl h x c = 1 ↔ Stg small p x ∨ isStay small x = true)) :
    ∃ h l, g'.rows[i]? = some (("plus" : Str), [h, l]) ∧ h < g'.size ∧ l < g'.size ∧ ∀ x c, x < 2 ^ g'.m → Bts c → (vl g' pl' l x c = 1 ↔ Stg small p x) ∧ (vl g' pl' h x c = 1 ↔ Stg small p x ∨ isStay small x = true) := by
  obtain ⟨a, b, h1, h2, h3, h4⟩ := h
  refine ⟨a, b, l.at_ h1, Nat.lt_of_lt_of_le h2 l.size, Nat.lt_of_lt_of_le h3 l.size, fun x c hx hc => ?_⟩
  rw [vl_le l h2, vl_le l h3]
  exact h4 x c (by rw [← l.m]; exact hx) hc
theorem Ke.le {g g' : Sh} {pl : List Nat} {small : List Row} (h : Ke g pl small) (l : Le g pl g' pl) : Ke g' pl small := fun p i hp => ke_one l (h p i hp)
theorem pow_bit {p q : Nat} (h : p < q) : bitAt (2 ^ q) p = 0 := by
  unfold bitAt
  obtain ⟨d, rfl⟩ : ∃ d, q = p + 1 + d := ⟨q - p - 1, by omega⟩
  rw [Nat.pow_add, Nat.pow_succ, Nat.mul_assoc, Nat.mul_div_cancel_left _ (Nat.pow_pos (by decide)), Nat.mul_mod_right]
theorem pow_bit1 (q : Nat) : bitAt (2 ^ q) q = 1 := by
  unfold bitAt
  rw [Nat.div_self (Nat.pow_pos (by decide))]
theorem stateBit_of {g : Sh} {pl letters : List Nat} {small : List Row} (iv : Iv g pl) (lt : Lt g pl letters) (ke : Ke g pl small) (hx : ∃ x0, x0 < 2 ^ g.m ∧ isStay small x0 = false ∧ stp small 0 x0 = 2 ^ pl.length) (hf : g.rows.length + 17 < 900) :
    ∃ n, Rz g pl (g.stateBit small letters pl.length) (pl ++ [n]) (fun _ c => c pl.length = 1) ∧ Ke (g.stateBit small letters pl.length).1 (pl ++ [n]) small := by
  have hm := iv.ok.m2
  have hl4 : letters.length ≤ 4 := by rw [lt.1]; exact pow4 hm
  have hlt : ∀ o ∈ letters, o < g.size := fun o ho => by
    obtain ⟨i, hi⟩ := List.mem_iff_getElem?.mp ho
    exact (lt.2 i o hi).1
  have e1 : setting small letters pl.length = (letters.zipIdx.filter fun p => !isStay small p.2 && decide (bitAt (stp small 0 p.2) pl.length = 1)).map (·.1) := rfl
  have e2 : setting small letters pl.length ++ keeping small letters = (letters.zipIdx.filter (fun p => !isStay small p.2 && decide (bitAt (stp small 0 p.2) pl.length = 1)) ++ letters.zipIdx.filter fun p => isStay small p.2).map (·.1) := by rw [List.map_append]; rfl
  have n1 : (setting small letters pl.length).length ≤ 4 := Nat.le_trans (filt_len (small := small) _) hl4
  have n2 : (keeping small letters).length ≤ 4 := Nat.le_trans (filt_len (small := small) _) hl4
  have n3 : (setting small letters pl.length ++ keeping small letters).length ≤ 8 := by rw [List.length_append]; omega
  obtain ⟨a1, a2⟩ := putAll_gr (b := false) iv.ok (ops := setting small letters pl.length) ⟨fun o ho => hlt o (setting_sub o (List.mem_append_left _ ho)), by omega⟩
  obtain ⟨sa1, sa2, sa3⟩ := a1.size
  have ra : Rz g pl (g.putAll false (setting small letters pl.length)) pl fun x _ => Stg small pl.length x := by
    rw [e1] at n1 ⊢
    rw [List.length_map] at n1
    refine (any_letters iv lt ((zip_nd _).filter _) (fun k hk => (List.mem_filter.mp hk).1) (by omega)).imp fun x c hx hc => ?_
    exact ex_filter (P := Stg small pl.length) (fun k => by
      unfold Stg
      rw [Bool.and_eq_true, Bool.not_eq_true', decide_eq_true_iff]) (by rw [lt.1]; exact hx)
  unfold Sh.stateBit
  generalize g.putAll false (setting small letters pl.length) = l at a1 a2 sa1 sa2 sa3 ra ⊢
  obtain ⟨b1, b2⟩ := putAll_gr (b := false) a1.ok (ops := setting small letters pl.length ++ keeping small letters) ⟨fun o ho => by have := hlt o (setting_sub o ho); omega, by omega⟩
  obtain ⟨sb1, sb2, sb3⟩ := b1.size
  have rb : Rz l.1 pl (l.1.putAll false (setting small letters pl.length ++ keeping small letters)) pl fun x _ => Stg small pl.length x ∨ isStay small x = true := by
    rw [e2] at n3 ⊢
    rw [List.length_map] at n3
    refine (any_letters ra.iv (lt.le ra.le) ?_ (fun k hk => ?_) (by omega)).imp fun x c hx hc => ?_
    · refine List.nodup_append.mpr ⟨(zip_nd _).filter _, (zip_nd _).filter _, fun a ha b hb => ?_⟩
      rintro rfl
      have h1 := (List.mem_filter.mp ha).2
      have h2 := (List.mem_filter.mp hb).2
      rw [h2] at h1
      cases h1
    · rcases List.mem_append.mp hk with h | h
      · exact (List.mem_filter.mp h).1
      · exact (List.mem_filter.mp h).1
    · rw [ra.le.m] at hx
      rw [← ex_filter (f := fun p => !isStay small p.2 && decide (bitAt (stp small 0 p.2) pl.length = 1)) (P := Stg small pl.length) (fun k => by
        unfold Stg
        rw [Bool.and_eq_true, Bool.not_eq_true', decide_eq_true_iff]) (show x < letters.length by rw [lt.1]; exact hx),
        ← ex_filter (f := fun p => isStay small p.2) (P := fun x => isStay small x = true) (fun k => Iff.rfl) (show x < letters.length by rw [lt.1]; exact hx)]
      constructor
      · rintro ⟨k, hk, e⟩
        rcases List.mem_append.mp hk with h | h
        · exact .inl ⟨k, h, e⟩
        · exact .inr ⟨k, h, e⟩
      · rintro (⟨k, hk, e⟩ | ⟨k, hk, e⟩)
        · exact ⟨k, List.mem_append_left _ hk, e⟩
        · exact ⟨k, List.mem_append_right _ hk, e⟩
  simp only
  generalize l.1.putAll false (setting small letters pl.length ++ keeping small letters) = h at b1 b2 sb1 sb2 sb3 rb ⊢
  have hl2 : l.2 < h.1.size := by omega
  have leh := ra.le.trans rb.le
  -- the words
  have wl : ∀ x c, x < 2 ^ g.m → Bts c → (vl h.1 pl l.2 x c = 1 ↔ Stg small pl.length x) := fun x c hx hc => by
    rw [vl_le rb.le a2]
    exact ra.val x c hx hc
  have wh : ∀ x c, x < 2 ^ g.m → Bts c → (vl h.1 pl h.2 x c = 1 ↔ Stg small pl.length x ∨ isStay small x = true) := fun x c hx hc => rb.val x c (by rw [ra.le.m]; exact hx) hc
  have hnew : (("plus" : Str), [h.2, l.2]) ∉ h.1.rows := fun hin => by
    obtain ⟨i, hi⟩ := List.mem_iff_getElem?.mp hin
    obtain ⟨p, hp⟩ := List.mem_iff_getElem?.mp ((rb.iv.pm i).mpr ⟨_, hi, c_plus _⟩)
    obtain ⟨h', l', k1, k2, k3, k4⟩ := (ke.le leh) p i hp
    rw [hi] at k1
    cases k1
    obtain ⟨x0, hx0, z1, z2⟩ := hx
    have hz : Bts fun _ => 0 := fun _ => Nat.zero_lt_two
    have t := (wl x0 _ hx0 hz).mpr ⟨z1, by rw [z2]; exact pow_bit1 _⟩
    have t2 := ((k4 x0 _ (by rw [leh.m]; exact hx0) hz).1.mp t).2
    rw [z2, pow_bit (List.getElem?_eq_some_iff.mp hp).1] at t2
    cases t2
  obtain ⟨c1, _, c3, c2⟩ := put_gr b1.ok (put2_ok k_plus b2 (a := h.2) (b := l.2) hl2 (by omega))
  obtain ⟨sc1, sc2, sc3⟩ := c1.size
  have ivp : Iv (h.1.put (("plus" : Str), [h.2, l.2])).1 (pl ++ [h.1.rows.length]) ∧ Le h.1 pl (h.1.put (("plus" : Str), [h.2, l.2])).1 (pl ++ [h.1.rows.length]) := by
    have ok2 := c1.ok
    rw [put_new hnew] at ok2 ⊢
    refine ⟨⟨ok2, fun i => ?_, ?_, fun a ha => ?_⟩, rfl, ⟨_, rfl⟩, _, rfl, fun i hi => by rw [List.mem_singleton.mp hi]; exact Nat.le_refl _⟩
    · rw [List.mem_append, rb.iv.pm, List.mem_singleton]
      constructor
      · rintro (⟨q, hq, hq2⟩ | rfl)
        · exact ⟨q, by rw [List.getElem?_append_left (List.getElem?_eq_some_iff.mp hq).1]; exact hq, hq2⟩
        · exact ⟨_, List.getElem?_concat_length, c_plus _⟩
      · rintro ⟨q, hq, hq2⟩
        by_cases hi : i < h.1.rows.length
        · exact .inl ⟨q, by rwa [List.getElem?_append_left hi] at hq, hq2⟩
        · have hl := (List.getElem?_eq_some_iff.mp hq).1
          rw [List.length_append, List.length_singleton] at hl
          exact .inr (by omega)
    · show carry (h.1.rows ++ [_]) = _
      rw [carry_app, c_plus, rb.iv.cnt, List.length_append]
      rfl
    · rcases List.mem_append.mp ha with h | h
      · exact rb.iv.no a h
      · exact w_ne plus_or (List.mem_singleton.mp h).symm
  have hp2 : (h.1.put (("plus" : Str), [h.2, l.2])).2 = h.1.m + h.1.rows.length := by rw [put_new hnew]
  have hpm := c1.m
  have va : ∀ x c, x < 2 ^ g.m → Bts c → vl (h.1.put (("plus" : Str), [h.2, l.2])).1 (pl ++ [h.1.rows.length]) (h.1.put (("plus" : Str), [h.2, l.2])).2 x c = (vl h.1 pl h.2 x c + vl h.1 pl l.2 x c + c pl.length) % 2 := fun x c hx hc => by
    rw [hp2, Nat.add_sub_cancel_left] at c3
    have hv := (vl_row (pl := pl ++ [h.1.rows.length]) (x := x) (c := c) ivp.1.ok.ok c3).1
    rw [if_pos (List.mem_append_right _ List.mem_cons_self), List.idxOf_append, if_neg (fun z => by
      obtain ⟨q, hq, _⟩ := (rb.iv.pm _).mp z
      have := (List.getElem?_eq_some_iff.mp hq).1
      omega)] at hv
    rw [hp2, ← hpm, hv]
    show (((tabOf1 "plus")[(run _ _ x c).1[h.2 + 1]?.getD 0 + 2 * (run _ _ x c).1[l.2 + 1]?.getD 0 + 4 * c _]?).getD (0, 0)).1 = _
    have q1 : (run (h.1.put (("plus" : Str), [h.2, l.2])).1 (pl ++ [h.1.rows.length]) x c).1[h.2 + 1]?.getD 0 = vl h.1 pl h.2 x c := vl_le ivp.2 b2
    have q2 : (run (h.1.put (("plus" : Str), [h.2, l.2])).1 (pl ++ [h.1.rows.length]) x c).1[l.2 + 1]?.getD 0 = vl h.1 pl l.2 x c := vl_le ivp.2 hl2
    rw [q1, q2, tb_plus _ _ _ (vl_lt rb.iv.ok.ok hc) (vl_lt rb.iv.ok.ok hc) (hc _), List.idxOf_cons_self, Nat.zero_add]
  have kep_ : Ke (h.1.put (("plus" : Str), [h.2, l.2])).1 (pl ++ [h.1.rows.length]) small := fun p i hp => by
    by_cases hi : p < pl.length
    · rw [List.getElem?_append_left hi] at hp
      exact ke_one ivp.2 ((ke.le leh) p i hp)
    · have hl' := (List.getElem?_eq_some_iff.mp hp).1
      rw [List.length_append, List.length_singleton] at hl'
      have e : p = pl.length := by omega
      subst e
      rw [List.getElem?_concat_length] at hp
      cases hp
      rw [hp2, Nat.add_sub_cancel_left] at c3
      refine ⟨h.2, l.2, c3, by omega, by omega, fun x c hx hc => ?_⟩
      rw [vl_le ivp.2 b2, vl_le ivp.2 hl2]
      have hx : x < 2 ^ g.m := by rw [hpm, leh.m] at hx; exact hx
      exact ⟨wl x c hx hc, wh x c hx hc⟩
  have ivp1 := ivp.1
  have ivp2 := ivp.2
  clear ivp
  generalize h.1.put (("plus" : Str), [h.2, l.2]) = a at c1 c2 c3 sc1 sc2 sc3 ivp1 ivp2 hp2 hpm va kep_ ⊢
  have hh2 : h.2 < a.1.size := by omega
  have r1 := put_xor ivp1 c2 hh2 (by omega)
  obtain ⟨d1, _, _, d2⟩ := put_gr c1.ok (put2_ok k_xor c2 (a := a.2) (b := h.2) hh2 (by omega))
  obtain ⟨sd1, sd2, sd3⟩ := d1.size
  generalize a.1.put (("xor" : Str), [a.2, h.2]) = u at d1 d2 sd1 sd2 sd3 r1 ⊢
  have hl3 : l.2 < u.1.size := by omega
  have r2 := put_xor r1.iv d2 hl3 (by omega)
  refine ⟨h.1.rows.length, ⟨r2.iv, ((leh.trans ivp2).trans r1.le).trans r2.le, r2.lt, fun x c hx hc => ?_⟩, (kep_.le r1.le).le r2.le⟩
  have hxa : x < 2 ^ a.1.m := by rw [hpm, leh.m]; exact hx
  rw [r2.val x c (by rw [r1.le.m]; exact hxa) hc]
  have v1 := r1.val x c hxa hc
  have v2 := va x c hx hc
  have b0 := vl_lt (pl := pl ++ [h.1.rows.length]) (n := u.2) (x := x) r1.iv.ok.ok hc
  rw [vl_le (ivp2.trans r1.le) hl2]
  rw [vl_le ivp2 b2, v2] at v1
  have b1' := vl_lt (pl := pl) (n := h.2) (x := x) rb.iv.ok.ok hc
  have b2' := vl_lt (pl := pl) (n := l.2) (x := x) rb.iv.ok.ok hc
  have b3' := hc pl.length
  omega
end SS
namespace SS
open PySem PySem.Spec PyProof.Rows L2 DL
/-! ### all states of a least machine are come to -/
theorem Least.reach {m : Nat} {rows small : List Row} (ok : Ok m small) (h : Least m rows small) (ex : EqX m small rows 0 0) : ∀ t, t < small.length → Rch m small t := fun t ht => by
  obtain ⟨reps, R, hl, hw, hs⟩ := h
  have key : ∀ (n i a : Nat), reps[i]? = some a → EkX m small rows n i a := by
    intro n
    induction n with
    | zero => intro i a _; trivial
    | succ n ih =>
      intro i a ha x hx
      obtain ⟨b, hb, e, ho⟩ := hs i a x ha hx
      exact ⟨ho, (ih _ _ hb).trans (e n).x⟩
  have ht' : t < reps.length := by omega
  have ha := List.getElem?_eq_getElem ht'
  obtain ⟨q, hq, e⟩ := ex.symm.fw (R.rch _ (List.mem_of_getElem? ha))
  have hql := rch_lt ok hq
  have hq' : q < reps.length := by omega
  have hb := List.getElem?_eq_getElem hq'
  have e2 : EqX m small rows q reps[q] := fun n => key n q _ hb
  have := R.uni t q _ _ ha hb (e.trans e2).e
  rw [this]
  exact hq
theorem set_letter {m : Nat} {small : List Row} (ok : Ok m small) (hs : ∀ x, x < 2 ^ m → isStay small x = true ∨ isSet small x = true) {t : Nat} (h : Rch m small t) : t ≠ 0 → ∃ x, x < 2 ^ m ∧ isStay small x = false ∧ stp small 0 x = t := by
  induction h with
  | zero => exact fun z => absurd rfl z
  | @step q x hq hx ih =>
    intro hne
    have hql := rch_lt ok hq
    cases hst : isStay small x with
    | true =>
      have := isStay_iff.mp hst q hql
      rw [this] at hne ⊢
      exact ih hne
    | false =>
      rcases hs x hx with k | k
      · rw [hst] at k; cases k
      · exact ⟨x, hx, hst, (isSet_iff.mp k q hql).symm⟩
theorem bits_pow {n : Nat} (h0 : 0 < n) (hn : n ≤ 24) : n ≤ 2 ^ bits n ∧ (∀ p, p < bits n → 2 ^ p < n) ∧ bits n ≤ 5 := by
  have key : ∀ (n : Fin 25), 0 < n.val → n.val ≤ 2 ^ bits n.val ∧ (∀ p : Fin 6, p.val < bits n.val → 2 ^ p.val < n.val) ∧ bits n.val ≤ 5 := by decide +kernel
  obtain ⟨a, b, c⟩ := key ⟨n, by omega⟩ h0
  have c : bits n ≤ 5 := c
  exact ⟨a, fun p hp => b ⟨p, by omega⟩ hp, c⟩
section
variable {small : List Row} {letters : List Nat}
theorem bits_of : ∀ {n k : Nat} {g : Sh} {pl : List Nat}, Iv g pl → Lt g pl letters → Ke g pl small → pl.length = k → (∀ p, k ≤ p → p < k + n → ∃ x0, x0 < 2 ^ g.m ∧ isStay small x0 = false ∧ stp small 0 x0 = 2 ^ p) → g.rows.length + 17 * n < 900 →
    ∃ pl', Iv (accS (fun g p => g.stateBit small letters p) g (List.range' k n)).1 pl' ∧ Le g pl (accS (fun g p => g.stateBit small letters p) g (List.range' k n)).1 pl' ∧ pl'.length = k + n ∧ Ke (accS (fun g p => g.stateBit small letters p) g (List.range' k n)).1 pl' small ∧ (accS (fun g p => g.stateBit small letters p) g (List.range' k n)).2.length = n ∧
      (accS (fun g p => g.stateBit small letters p) g (List.range' k n)).1.rows.length ≤ g.rows.length + 17 * n ∧
      ∀ (j o : Nat), (accS (fun g p => g.stateBit small letters p) g (List.range' k n)).2[j]? = some o → o < (accS (fun g p => g.stateBit small letters p) g (List.range' k n)).1.size ∧ ∀ x c, x < 2 ^ g.m → Bts c → (vl (accS (fun g p => g.stateBit small letters p) g (List.range' k n)).1 pl' o x c = 1 ↔ c (k + j) = 1)
  | 0, k, g, pl, iv, lt, ke, hk, hx, hf => ⟨pl, iv, Le.refl _ _, hk, ke, rfl, Nat.le_refl _, fun j o h => by cases h⟩
  | n + 1, k, g, pl, iv, lt, ke, hk, hx, hf => by
    subst hk
    have hm := iv.ok.m2
    have hl4 : letters.length ≤ 4 := by rw [lt.1]; exact pow4 hm
    obtain ⟨i, r, ke1⟩ := stateBit_of iv lt ke (hx pl.length (Nat.le_refl _) (by omega)) (by omega)
    obtain ⟨gr, _⟩ := stateBit_gr (small := small) (place := pl.length) iv.ok hl4 (fun o ho => by
      obtain ⟨i, hi⟩ := List.mem_iff_getElem?.mp ho
      exact (lt.2 i o hi).1) (by omega)
    obtain ⟨s1, s2, s3⟩ := gr.size
    have e : accS (fun g p => g.stateBit small letters p) g (List.range' pl.length (n + 1)) = ((accS (fun g p => g.stateBit small letters p) (g.stateBit small letters pl.length).1 (List.range' (pl.length + 1) n)).1, (g.stateBit small letters pl.length).2 :: (accS (fun g p => g.stateBit small letters p) (g.stateBit small letters pl.length).1 (List.range' (pl.length + 1) n)).2) := rfl
    rw [e]
    obtain ⟨pl', h1, h2, h3, h4, h5, h6, h7⟩ := bits_of (n := n) (k := pl.length + 1) r.iv (lt.le r.le) ke1 (by rw [List.length_append]; rfl) (fun p h1 h2 => by rw [r.le.m]; exact hx p (by omega) (by omega)) (by omega)
    refine ⟨pl', h1, r.le.trans h2, by omega, h4, by rw [List.length_cons, h5], by show (accS _ _ _).1.rows.length ≤ _; omega, fun j o hj => ?_⟩
    cases j with
    | zero =>
      cases hj
      refine ⟨Nat.lt_of_lt_of_le r.lt h2.size, fun x c hx hc => ?_⟩
      show vl (accS _ _ _).1 pl' _ x c = 1 ↔ _
      rw [vl_le h2 r.lt]
      exact r.val x c hx hc
    | succ j =>
      obtain ⟨a, b⟩ := h7 j o hj
      refine ⟨a, fun x c hx hc => ?_⟩
      rw [show pl.length + (j + 1) = pl.length + 1 + j by omega]
      exact b x c (by rw [r.le.m]; exact hx) hc
def Wr (small : List Row) (count : Nat) (s : Nat) : Wh := fun x c => (∀ p, p < count → c p = bitAt s p) ∧ out small s x = 1
structure Fnd (g : Sh) (pl : List Nat) (small : List Row) (count : Nat) (ks : List (Nat × Nat)) : Prop where
  each : ∀ k ∈ ks, k.1 < g.size ∧ ∀ x c, x < 2 ^ g.m → Bts c → (vl g pl k.1 x c = 1 ↔ Wr small count k.2 x c)
  and_ : ks ≠ [] → ∃ l, (("and" : Str), l) ∈ g.rows
theorem Le.mem {g g' : Sh} {pl pl' : List Nat} {r : QRow} (l : Le g pl g' pl') (h : r ∈ g.rows) : r ∈ g'.rows := by
  obtain ⟨y, hy⟩ := l.rows
  rw [hy]
  exact List.mem_append_left _ h
theorem Fnd.le {g g' : Sh} {pl pl' : List Nat} {count : Nat} {ks : List (Nat × Nat)} (h : Fnd g pl small count ks) (l : Le g pl g' pl') : Fnd g' pl' small count ks := ⟨fun k hk => by
  obtain ⟨a, b⟩ := h.each k hk
  refine ⟨Nat.lt_of_lt_of_le a l.size, fun x c hx hc => ?_⟩
  rw [vl_le l a]
  exact b x c (by rw [← l.m]; exact hx) hc, fun z => by
  obtain ⟨q, hq⟩ := h.and_ z
  exact ⟨q, l.mem hq⟩⟩
theorem writing_sub {s : Nat} : ∀ o ∈ writing small letters s, o ∈ letters := fun o h => by
  obtain ⟨p, hp, rfl⟩ := List.mem_map.mp h
  have := (List.mem_filter.mp hp).1
  exact List.mem_of_getElem? (List.mem_zipIdx_iff_getElem?.mp this)
theorem writing_len {s : Nat} : (writing small letters s).length ≤ letters.length := filt_len (small := small) _
theorem accF_of {bs : List Nat} (hb5 : bs.length ≤ 5) : ∀ {ss : List Nat} {g : Sh} {pl : List Nat} {ks : List (Nat × Nat)}, Iv g pl → Lt g pl letters → Bi g pl bs → Fnd g pl small bs.length ks → g.rows.length + 17 * ss.length < 850 →
    ∃ ks', Iv (accF small letters bs (g, ks.map (·.1)) ss).1 pl ∧ Le g pl (accF small letters bs (g, ks.map (·.1)) ss).1 pl ∧ (accF small letters bs (g, ks.map (·.1)) ss).2 = (ks ++ ks').map (·.1) ∧ ks'.map (·.2) = ss.filter (fun s => decide (writing small letters s ≠ [])) ∧ Fnd (accF small letters bs (g, ks.map (·.1)) ss).1 pl small bs.length (ks ++ ks') ∧
      (accF small letters bs (g, ks.map (·.1)) ss).1.rows.length ≤ g.rows.length + 17 * ss.length ∧ g.size ≤ (accF small letters bs (g, ks.map (·.1)) ss).1.size
  | [], g, pl, ks, iv, lt, bi, fd, hf => ⟨[], iv, Le.refl _ _, by rw [List.append_nil]; rfl, rfl, by rw [List.append_nil]; exact fd, Nat.le_refl _, Nat.le_refl _⟩
  | s :: ss, g, pl, ks, iv, lt, bi, fd, hf => by
    rw [List.length_cons] at hf
    have hm := iv.ok.m2
    have hl4 : letters.length ≤ 4 := by rw [lt.1]; exact pow4 hm
    by_cases hw : writing small letters s = []
    · have e : accF small letters bs (g, ks.map (·.1)) (s :: ss) = accF small letters bs (g, ks.map (·.1)) ss := by
        show (if writing small letters s = [] then _ else _) = _
        rw [if_pos hw]
      rw [e]
      obtain ⟨ks', h1, h2, h3, h4, h5, h6, h7⟩ := accF_of hb5 (ss := ss) iv lt bi fd (by omega)
      refine ⟨ks', h1, h2, h3, ?_, h5, by rw [List.length_cons]; omega, h7⟩
      rw [h4, List.filter_cons, if_neg (by rw [hw]; decide)]
    · have e : accF small letters bs (g, ks.map (·.1)) (s :: ss) = accF small letters bs ((((g.stateNum bs s).1.putAll false (writing small letters s)).1.put (("and" : Str), [(g.stateNum bs s).2, ((g.stateNum bs s).1.putAll false (writing small letters s)).2])).1, ks.map (·.1) ++ [(((g.stateNum bs s).1.putAll false (writing small letters s)).1.put (("and" : Str), [(g.stateNum bs s).2, ((g.stateNum bs s).1.putAll false (writing small letters s)).2])).2]) ss := by
        show (if writing small letters s = [] then _ else _) = _
        rw [if_neg hw]
      rw [e]
      have wl : (writing small letters s).length ≤ 4 := Nat.le_trans writing_len hl4
      have r1 := stateNum_of (s := s) iv bi (by omega)
      obtain ⟨a1, a2⟩ := stateNum_gr (s := s) iv.ok (fun o ho => by
        obtain ⟨i, hi⟩ := List.mem_iff_getElem?.mp ho
        exact (bi i o hi).1) (by omega : g.rows.length + 2 * bs.length + 1 < 900)
      obtain ⟨sa1, sa2, sa3⟩ := a1.size
      generalize g.stateNum bs s = h at r1 a1 a2 sa1 sa2 sa3 ⊢
      have lt1 := lt.le r1.le
      have r2 : Rz h.1 pl (h.1.putAll false (writing small letters s)) pl fun x _ => out small s x = 1 := by
        refine (any_letters r1.iv lt1 ((zip_nd letters).filter fun p => decide (out small s p.2 = 1)) (fun k hk => (List.mem_filter.mp hk).1) (by
          have : (letters.zipIdx.filter fun p => decide (out small s p.2 = 1)).length = (writing small letters s).length := by unfold writing; rw [List.length_map]
          omega)).imp fun x c hx hc => ?_
        exact ex_filter (P := fun x => out small s x = 1) (fun k => decide_eq_true_iff) (by rw [lt1.1]; exact hx)
      obtain ⟨b1, b2⟩ := putAll_gr (b := false) a1.ok (ops := writing small letters s) ⟨fun o ho => by
        obtain ⟨i, hi⟩ := List.mem_iff_getElem?.mp (writing_sub o ho)
        exact (lt1.2 i o hi).1, by omega⟩
      obtain ⟨sb1, sb2, sb3⟩ := b1.size
      generalize h.1.putAll false (writing small letters s) = w at r2 b1 b2 sb1 sb2 sb3 ⊢
      have hh : h.2 < w.1.size := by omega
      have r3 := put_and r2.iv hh b2 (by omega)
      obtain ⟨c1, _, c3, c2⟩ := put_gr b1.ok (put2_ok k_and hh b2 (by omega))
      obtain ⟨sc1, sc2, sc3⟩ := c1.size
      generalize w.1.put (("and" : Str), [h.2, w.2]) = n at r3 c1 c2 c3 sc1 sc2 sc3 ⊢
      have le3 := (r1.le.trans r2.le).trans r3.le
      have fd3 : Fnd n.1 pl small bs.length (ks ++ [(n.2, s)]) := ⟨fun k hk => by
        rcases List.mem_append.mp hk with h' | h'
        · exact (fd.le le3).each k h'
        · rw [List.mem_singleton.mp h']
          refine ⟨c2, fun x c hx hc => ?_⟩
          have hx0 : x < 2 ^ g.m := by rw [← le3.m]; exact hx
          rw [r3.val x c (by rw [← r3.le.m]; exact hx) hc, vl_le r2.le a2, r1.val x c hx0 hc, r2.val x c (by rw [r1.le.m]; exact hx0) hc]
          exact Iff.rfl, fun _ => ⟨_, List.mem_of_getElem? c3⟩⟩
      have hmap : ks.map (·.1) ++ [n.2] = (ks ++ [(n.2, s)]).map (·.1) := by rw [List.map_append]; rfl
      rw [hmap]
      obtain ⟨ks', h1, h2, h3, h4, h5, h6, h7⟩ := accF_of hb5 (ss := ss) r3.iv (lt.le le3) (bi.le le3) fd3 (by omega)
      refine ⟨(n.2, s) :: ks', h1, le3.trans h2, by rw [h3, List.append_assoc]; rfl, ?_, by
        rw [List.append_assoc] at h5
        exact h5, by rw [List.length_cons]; omega, by omega⟩
      rw [List.map_cons, h4, List.filter_cons, if_pos (decide_eq_true hw)]
end
end SS
namespace SS
open PySem PySem.Spec PyProof.Rows L2 DL
/-! ### what is made does what the machine does -/
abbrev letS (m : Nat) : Sh × List Nat := accS Sh.letterNum ⟨m, []⟩ (List.range (2 ^ m))
abbrev bitS (m : Nat) (small : List Row) (count : Nat) : Sh × List Nat := accS (fun g p => g.stateBit small (letS m).2 p) (letS m).1 (List.range count)
abbrev fndS (m : Nat) (small : List Row) (count : Nat) : Sh × List Nat := accF small (letS m).2 (bitS m small count).2 ((bitS m small count).1, []) (List.range small.length)
theorem iv_zero {m : Nat} (hm : m ≤ 2) : Iv ⟨m, []⟩ [] := ⟨⟨hm, List.nodup_nil, fun i r h => by simp at h, Nat.zero_le _⟩, fun i => ⟨fun z => absurd z List.not_mem_nil, fun ⟨r, h, _⟩ => by simp at h⟩, rfl, fun a => List.not_mem_nil⟩
theorem let_of {m : Nat} (hm : m ≤ 2) : Iv (letS m).1 [] ∧ (letS m).1.m = m ∧ Lt (letS m).1 [] (letS m).2 ∧ (letS m).1.rows.length ≤ 20 := by
  have h4 := pow4 hm
  obtain ⟨h1, h2, h3, h5, h4'⟩ := accS_of (f := Sh.letterNum) (φ := fun a x _ => x = a) (k := 5) (pl := []) (Pre := fun g a => a < 2 ^ g.m) (fun g a iv ha hl => ⟨letterNum_of iv ha (by omega), (letterNum_gr iv.ok (by omega)).1⟩) (fun g g' a l h => by rw [l.m]; exact h) (as := List.range (2 ^ m)) (iv_zero hm) (fun a ha => List.mem_range.mp ha) (by rw [List.length_range]; show 0 + _ < _; omega)
  have e : (letS m).1.m = m := h2.m
  rw [List.length_range] at h3 h5
  refine ⟨h1, e, ⟨by rw [h3, e], fun i o hi => ?_⟩, Nat.le_trans h5 (by show 0 + _ ≤ _; omega)⟩
  obtain ⟨a, ha, ho, hv⟩ := h4' i o hi
  have hi2 := (List.getElem?_eq_some_iff.mp hi).1
  rw [h3] at hi2
  rw [List.getElem?_range hi2] at ha
  cases ha
  exact ⟨ho, fun x c hx hc => hv x c (by rw [e] at hx; exact hx) hc⟩
theorem let_row {m : Nat} (hm : m ≤ 2) : ∃ r ∈ (letS m).1.rows, r.1 = "not" ∨ r.1 = "ones" := by
  have key : ∀ m : Fin 3, ((letS m.val).1.rows.any fun r => decide (r.1 = "not") || decide (r.1 = "ones")) = true := by decide +kernel
  have := key ⟨m, by omega⟩
  obtain ⟨r, hr, h⟩ := List.any_eq_true.mp this
  refine ⟨r, hr, ?_⟩
  rw [Bool.or_eq_true, decide_eq_true_iff, decide_eq_true_iff] at h
  exact h
theorem tab0 {w : Str} {n : Nat} (h : (w, n) ∈ kin) (hc : carries (w, []) = false) : ∀ e ∈ tabOf1 w, e.2 = 0 := by
  have key : ∀ p ∈ kin, carries (p.1, []) = false → ∀ e ∈ tabOf1 p.1, e.2 = 0 := by decide +kernel
  exact key _ h hc
theorem rule0 {r : QRow} {A : List Nat} {k : Nat} (h : (r.1, r.2.length) ∈ kin) (hc : carries r = false) : (ruleAt (planRow r) A k).2 = 0 := by
  unfold ruleAt
  cases e : (planRow r).1[A[(planRow r).2.1]?.getD 0 + 2 * A[(planRow r).2.2]?.getD 0 + 4 * k]? with
  | none => rfl
  | some x => exact tab0 h hc x (List.mem_of_getElem? e)
theorem kep_zero (n : Nat) (pl : List Nat) : kep n pl (bitAt 0) = zeros n := by
  refine List.ext_getElem? fun i => ?_
  unfold zeros
  by_cases hi : i < n
  · rw [kep_at hi, List.getElem?_replicate, if_pos hi]
    have : bitAt 0 (pl.idxOf i) = 0 := by unfold bitAt; rw [Nat.zero_div]
    rw [this]
    split <;> rfl
  · rw [List.getElem?_eq_none (by rw [kep_len]; omega), List.getElem?_eq_none (by rw [List.length_replicate]; omega)]
/-- the last sheet -/
structure Fin_ (g : Sh) (pl : List Nat) (small : List Row) (m : Nat) : Prop where
  hm : g.m = m
  ok : OkS m g.rows
  few : g.rows.length ≤ 1000
  two : 2 ≤ g.rows.length
  pm : ∀ i, i ∈ pl ↔ ∃ r, g.rows[i]? = some r ∧ carries r = true
  cnt : carry g.rows = bits small.length
  ke : Ke g pl small
  val : ∀ s x, s < small.length → x < 2 ^ m → vl g pl (g.m + g.rows.length - 1) x (bitAt s) = out small s x
theorem told_new {g : Sh} {o : Nat} (h : ¬ o = g.m + g.rows.length - 1) (hn : (("or" : Str), [o, o]) ∉ g.rows) : g.told o = ⟨g.m, g.rows ++ [(("or" : Str), [o, o])]⟩ := by
  unfold Sh.told
  rw [if_neg h, put_new hn]
theorem told_old {g : Sh} {o : Nat} (h : o = g.m + g.rows.length - 1) : g.told o = g := by
  unfold Sh.told
  rw [if_pos h]
theorem fin_of {m : Nat} {small : List Row} (ok : Ok m small) (hr : ∀ t, t < small.length → Rch m small t) (hs : ∀ x, x < 2 ^ m → isStay small x = true ∨ isSet small x = true) : ∃ pl, Fin_ (madeOf m small (bits small.length)) pl small m := by
  have hm := ok.m2
  obtain ⟨p1, p2, p3⟩ := bits_pow ok.pos ok.few
  obtain ⟨l1, l2, l3, l4⟩ := let_of hm
  obtain ⟨pl, b1, b2, b3, b4, b5, b6, b7⟩ := bits_of (small := small) (n := bits small.length) (k := 0) l1 l3 (fun p i h => by simp at h) rfl (fun p _ hp => by
    rw [l2]
    exact set_letter ok hs (hr _ (p2 p (by omega))) (Nat.pos_iff_ne_zero.mp (Nat.pow_pos (by decide)))) (by omega)
  rw [← List.range_eq_range'] at b1 b2 b4 b5 b6 b7
  have b1 : Iv (bitS m small (bits small.length)).1 pl := b1
  have b2 : Le (letS m).1 [] (bitS m small (bits small.length)).1 pl := b2
  have b4 : Ke (bitS m small (bits small.length)).1 pl small := b4
  have b5 : (bitS m small (bits small.length)).2.length = bits small.length := b5
  have b6 : (bitS m small (bits small.length)).1.rows.length ≤ (letS m).1.rows.length + 17 * bits small.length := b6
  have hbi : Bi (bitS m small (bits small.length)).1 pl (bitS m small (bits small.length)).2 := fun p b hb => by
    obtain ⟨a, c⟩ := b7 p b hb
    refine ⟨a, fun x c' hx hc => ?_⟩
    rw [b2.m] at hx
    have := c x c' hx hc
    rwa [Nat.zero_add] at this
  have hfew := ok.few
  obtain ⟨ks, f1, f2, f3, f4, f5, f6, f7⟩ := accF_of (small := small) (letters := (letS m).2) (bs := (bitS m small (bits small.length)).2) (by omega) (ss := List.range small.length) (ks := []) b1 (l3.le b2) hbi ⟨fun k hk => absurd hk List.not_mem_nil, fun z => absurd rfl z⟩ (by rw [List.length_range]; omega)
  have f1 : Iv (fndS m small (bits small.length)).1 pl := f1
  have f2 : Le (bitS m small (bits small.length)).1 pl (fndS m small (bits small.length)).1 pl := f2
  have f3 : (fndS m small (bits small.length)).2 = ks.map (·.1) := f3
  have f5 : Fnd (fndS m small (bits small.length)).1 pl small (bitS m small (bits small.length)).2.length ks := f5
  have f6 : (fndS m small (bits small.length)).1.rows.length ≤ (bitS m small (bits small.length)).1.rows.length + 17 * (List.range small.length).length := f6
  rw [List.length_range] at f6
  have hF : (fndS m small (bits small.length)).1.rows.length ≤ 600 := by omega
  have fm : (fndS m small (bits small.length)).1.m = m := by rw [f2.m, b2.m, l2]
  have leLF := b2.trans f2
  obtain ⟨r0, hr0, hr0w⟩ := let_row hm
  have hr0 := leLF.mem hr0
  have keF := b4.le f2
  rw [b5] at f5
  clear l1 l3 l4 b1 b2 b4 b6 b7 hbi leLF
  have hkl : ks.length ≤ small.length := by
    have := congrArg List.length f4
    rw [List.length_map] at this
    rw [this]
    exact Nat.le_trans (List.length_filter_le _ _) (Nat.le_of_eq List.length_range)
  have hsm : ∀ k ∈ ks, k.2 < small.length ∧ writing small (letS m).2 k.2 ≠ [] := fun k hk => by
    have : k.2 ∈ ks.map (·.2) := List.mem_map.mpr ⟨k, hk, rfl⟩
    rw [f4] at this
    obtain ⟨a, b⟩ := List.mem_filter.mp this
    exact ⟨List.mem_range.mp a, of_decide_eq_true b⟩
  have hlen4 : (letS m).2.length = 2 ^ m := by rw [accS_len, List.length_range]
  have hwx : ∀ s, (writing small (letS m).2 s ≠ [] ↔ ∃ x, x < 2 ^ m ∧ out small s x = 1) := fun s => by
    unfold writing
    rw [Ne, List.map_eq_nil_iff, List.filter_eq_nil_iff]
    constructor
    · intro h
      by_cases hc : ∃ x, x < 2 ^ m ∧ out small s x = 1
      · exact hc
      · refine absurd (fun p hp => ?_) h
        intro z
        have := (List.getElem?_eq_some_iff.mp (List.mem_zipIdx_iff_getElem?.mp hp)).1
        exact hc ⟨p.2, by omega, of_decide_eq_true z⟩
    · rintro ⟨x, hx, ho⟩ h
      have hx' : x < (letS m).2.length := by omega
      exact h ((letS m).2[x], x) (List.mem_zipIdx_iff_getElem?.mpr (List.getElem?_eq_getElem hx')) (decide_eq_true ho)
  have ndS : ks.Nodup := by
    have h : (ks.map (·.2)).Nodup := by
      rw [f4]
      exact List.nodup_range.filter _
    exact List.Pairwise.of_map (S := (· ≠ ·)) (fun p : Nat × Nat => p.2) (fun a b h e => h (congrArg Prod.snd e)) h
  have hsame : ∀ s t, s < small.length → t < small.length → (∀ p, p < bits small.length → bitAt s p = bitAt t p) → s = t := fun s t h1 h2 h => bits_same _ s t (by omega) (by omega) h
  have hinj : ∀ k ∈ ks, ∀ l ∈ ks, k.2 = l.2 → k = l := fun k hk l hl e => by
    obtain ⟨i, hi⟩ := List.mem_iff_getElem?.mp hk
    obtain ⟨j, hj⟩ := List.mem_iff_getElem?.mp hl
    have h : (ks.map (·.2)).Nodup := by
      rw [f4]
      exact List.nodup_range.filter _
    have : i = j := nodup_inj (a := k.2) h (by rw [List.getElem?_map, hi]; rfl) (by rw [List.getElem?_map, hj, e]; rfl)
    subst this
    rw [hi] at hj
    exact Option.some.inj hj
  have hw : ∀ k : Nat × Nat, ∃ x, k ∈ ks → x < 2 ^ m ∧ out small k.2 x = 1 := fun k => by
    by_cases hk : k ∈ ks
    · obtain ⟨x, hx⟩ := (hwx k.2).mp (hsm k hk).2
      exact ⟨x, fun _ => hx⟩
    · exact ⟨0, fun z => absurd z hk⟩
  obtain ⟨w, hw⟩ := Classical.axiomOfChoice hw
  have hbt : ∀ s, Bts (bitAt s) := fun s p => bitAt_lt s p
  have rr : Rz (fndS m small (bits small.length)).1 pl ((fndS m small (bits small.length)).1.putAll false (fndS m small (bits small.length)).2) pl fun x c => ∃ k ∈ ks, Wr small (bits small.length) k.2 x c := by
    rw [f3]
    refine (any_of f1 ⟨fun o ho => ?_, by rw [List.length_map]; omega⟩ (sep_of (w := fun k => (w k, bitAt k.2)) ndS (fun k hk => ?_) (fun k hk l hl hne z => ?_) fun _ _ z => z)).imp fun x c hx hc => ?_
    · obtain ⟨k, hk, rfl⟩ := List.mem_map.mp ho
      exact (f5.each k hk).1
    · obtain ⟨hx, ho⟩ := hw k hk
      rw [fm]
      exact ⟨hx, hbt _, ((f5.each k hk).2 _ _ (by rw [fm]; exact hx) (hbt _)).mpr ⟨fun _ _ => rfl, ho⟩⟩
    · have := ((f5.each k hk).2 _ _ (by rw [fm]; exact (hw l hl).1) (hbt l.2)).mp z
      exact hne (hinj k hk l hl (hsame _ _ (hsm k hk).1 (hsm l hl).1 fun p hp => (this.1 p hp).symm))
    · constructor
      · rintro ⟨y, hy, h⟩
        obtain ⟨k, hk, rfl⟩ := List.mem_map.mp hy
        exact ⟨k, hk, ((f5.each k hk).2 x c hx hc).mp h⟩
      · rintro ⟨k, hk, h⟩
        exact ⟨k.1, List.mem_map.mpr ⟨k, hk, rfl⟩, ((f5.each k hk).2 x c hx hc).mpr h⟩
  obtain ⟨g1, g2⟩ := putAll_gr (b := false) f1.ok (ops := (fndS m small (bits small.length)).2) ⟨fun o ho => by
    rw [f3] at ho
    obtain ⟨k, hk, rfl⟩ := List.mem_map.mp ho
    exact (f5.each k hk).1, by rw [f3, List.length_map]; omega⟩
  have hfl : (fndS m small (bits small.length)).2.length = ks.length := by rw [f3, List.length_map]
  obtain ⟨sg1, sg2, sg3⟩ := g1.size
  have hzr : ∃ r ∈ ((fndS m small (bits small.length)).1.putAll false (fndS m small (bits small.length)).2).1.rows, r.1 = "zero" ∨ r.1 = "and" := by
    by_cases hk : ks = []
    · rw [f3, hk]
      obtain ⟨_, _, h, _⟩ := put_gr f1.ok (r := (("zero" : Str), [])) ⟨k_zero, fun x hx => absurd hx List.not_mem_nil, by omega⟩
      exact ⟨_, List.mem_of_getElem? h, .inl rfl⟩
    · obtain ⟨l, hl⟩ := f5.and_ hk
      exact ⟨_, rr.le.mem hl, .inr rfl⟩
  have hr0 := rr.le.mem hr0
  have keR := keF.le rr.le
  have valR : ∀ s x, s < small.length → x < 2 ^ m → vl ((fndS m small (bits small.length)).1.putAll false (fndS m small (bits small.length)).2).1 pl ((fndS m small (bits small.length)).1.putAll false (fndS m small (bits small.length)).2).2 x (bitAt s) = out small s x := fun s x hs' hx => by
    have h1 := rr.val x (bitAt s) (by rw [fm]; exact hx) (hbt s)
    have h2 := vl_lt (pl := pl) (n := ((fndS m small (bits small.length)).1.putAll false (fndS m small (bits small.length)).2).2) (x := x) rr.iv.ok.ok (hbt s)
    have h3 : out small s x < 2 := by
      obtain ⟨_, _, _, _, h⟩ := step_at ok hs' hx
      exact h
    have h4 : (∃ k ∈ ks, Wr small (bits small.length) k.2 x (bitAt s)) ↔ out small s x = 1 := by
      constructor
      · rintro ⟨k, hk, a, b⟩
        rw [hsame s k.2 hs' (hsm k hk).1 a]
        exact b
      · intro ho
        have : s ∈ ks.map (·.2) := by
          rw [f4]
          exact List.mem_filter.mpr ⟨List.mem_range.mpr hs', decide_eq_true ((hwx s).mpr ⟨x, hx, ho⟩)⟩
        obtain ⟨k, hk, rfl⟩ := List.mem_map.mp this
        exact ⟨k, hk, fun _ _ => rfl, ho⟩
    rw [h4] at h1
    omega
  have hmr : ((fndS m small (bits small.length)).1.putAll false (fndS m small (bits small.length)).2).1.m = m := by rw [rr.le.m, fm]
  have emade : madeOf m small (bits small.length) = ((fndS m small (bits small.length)).1.putAll false (fndS m small (bits small.length)).2).1.told ((fndS m small (bits small.length)).1.putAll false (fndS m small (bits small.length)).2).2 := rfl
  rw [emade]
  generalize (fndS m small (bits small.length)).1.putAll false (fndS m small (bits small.length)).2 = R at rr g1 g2 sg1 sg2 sg3 hzr hr0 keR valR hmr ⊢
  have h2 : 2 ≤ R.1.rows.length := by
    obtain ⟨r1, hr1, e1⟩ := hzr
    obtain ⟨i, hi⟩ := List.mem_iff_getElem?.mp hr0
    obtain ⟨j, hj⟩ := List.mem_iff_getElem?.mp hr1
    have li := (List.getElem?_eq_some_iff.mp hi).1
    have lj := (List.getElem?_eq_some_iff.mp hj).1
    have hne : i ≠ j := by
      rintro rfl
      rw [hi] at hj
      cases hj
      rcases hr0w with a | a <;> rcases e1 with b | b <;> rw [a] at b <;> exact absurd b (by decide +kernel)
    omega
  have hcar : carry R.1.rows = bits small.length := by
    rw [rr.iv.cnt, b3, Nat.zero_add]
  by_cases ho : R.2 = R.1.m + R.1.rows.length - 1
  · rw [told_old ho]
    exact ⟨pl, hmr, by have := rr.iv.ok.ok; rwa [hmr] at this, rr.iv.ok.few, h2, rr.iv.pm, hcar, keR, fun s x a b => by rw [← ho]; exact valR s x a b⟩
  · have hno := rr.iv.no R.2
    rw [told_new ho hno]
    have okN := rr.iv.ok.ok.app (r := (("or" : Str), [R.2, R.2])) k_or (two_lt g2 g2)
    have leN : Le R.1 pl ⟨R.1.m, R.1.rows ++ [(("or" : Str), [R.2, R.2])]⟩ pl := ⟨rfl, ⟨_, rfl⟩, [], (List.append_nil _).symm, fun _ z => absurd z List.not_mem_nil⟩
    have hpm : ∀ i, i ∈ pl ↔ ∃ r, (R.1.rows ++ [(("or" : Str), [R.2, R.2])])[i]? = some r ∧ carries r = true := fun i => by
      rw [rr.iv.pm]
      constructor
      · rintro ⟨q, hq, hq2⟩
        exact ⟨q, by rw [List.getElem?_append_left (List.getElem?_eq_some_iff.mp hq).1]; exact hq, hq2⟩
      · rintro ⟨q, hq, hq2⟩
        by_cases hi : i < R.1.rows.length
        · exact ⟨q, by rwa [List.getElem?_append_left hi] at hq, hq2⟩
        · have hl := (List.getElem?_eq_some_iff.mp hq).1
          rw [List.length_append, List.length_singleton] at hl
          have e : i = R.1.rows.length := by omega
          subst e
          rw [List.getElem?_concat_length] at hq
          cases hq
          rw [c_or] at hq2
          cases hq2
    refine ⟨pl, hmr, by rwa [hmr] at okN, ?_, ?_, hpm, ?_, keR.le leN, fun s x hs' hx => ?_⟩
    · show (R.1.rows ++ _).length ≤ 1000
      rw [List.length_append, List.length_singleton]
      omega
    · show 2 ≤ (R.1.rows ++ _).length
      rw [List.length_append]
      omega
    · show carry (R.1.rows ++ _) = _
      rw [carry_app, c_or, hcar]
      rfl
    · show vl _ pl (R.1.m + (R.1.rows ++ _).length - 1) x _ = _
      rw [List.length_append, List.length_singleton, ← Nat.add_assoc, Nat.add_sub_cancel]
      have hv := (vl_row (g := ⟨R.1.m, R.1.rows ++ [(("or" : Str), [R.2, R.2])]⟩) (pl := pl) (i := R.1.rows.length) (x := x) (c := bitAt s) okN List.getElem?_concat_length).1
      rw [if_neg (fun z => by
        obtain ⟨q, hq, _⟩ := (rr.iv.pm _).mp z
        have := (List.getElem?_eq_some_iff.mp hq).1
        omega)] at hv
      have hv : vl ⟨R.1.m, R.1.rows ++ [(("or" : Str), [R.2, R.2])]⟩ pl (R.1.m + R.1.rows.length) x (bitAt s) = (((tabOf1 "or")[(run _ pl x (bitAt s)).1[R.2 + 1]?.getD 0 + 2 * (run _ pl x (bitAt s)).1[R.2 + 1]?.getD 0 + 4 * 0]?).getD (0, 0)).1 := hv
      rw [vl_after leN g2, valR s x hs' hx] at hv
      rw [hv]
      have h3 : out small s x < 2 := by
        obtain ⟨_, _, _, _, h⟩ := step_at ok hs' hx
        exact h
      have key : ∀ a : Fin 2, (((tabOf1 "or")[a.val + 2 * a.val + 4 * 0]?).getD (0, 0)).1 = a.val := by decide +kernel
      exact key ⟨_, h3⟩
theorem getLastD_at {l : List Nat} {n : Nat} (h : l.length = n + 1) : l.getLastD 0 = l[n]?.getD 0 := by
  cases l with
  | nil => cases h
  | cons a r =>
    have hn : n = r.length := by simpa using h.symm
    subst hn
    show (a :: r).getLast _ = _
    rw [List.getLast_eq_getElem, List.getElem?_eq_getElem (by rw [List.length_cons]; omega)]
    rfl
theorem fin_does {m : Nat} {small : List Row} {g : Sh} {pl : List Nat} (ok : Ok m small) (hs : ∀ x, x < 2 ^ m → isStay small x = true ∨ isSet small x = true) (f : Fin_ g pl small m) : OkQ m g.rows ∧ ∃ kept, Does m small g.rows kept := by
  have hbt : ∀ s, Bts (bitAt s) := fun s p => bitAt_lt s p
  refine ⟨⟨ok.m2, f.two, f.few, f.ok⟩, fun s => kep g.rows.length pl (bitAt s), kep_zero _ _, fun s _ => ⟨kep_len _ _ _, kep_bits (hbt s)⟩, fun s x hs' hx => ?_⟩
  have hm := f.hm
  have okg : OkS g.m g.rows := by rw [hm]; exact f.ok
  have e : beat (g.rows.map planRow) (lbits m x) (kep g.rows.length pl (bitAt s)) = ((run g pl x (bitAt s)).1.getLastD 0, (run g pl x (bitAt s)).2) := by
    unfold beat run
    rw [hm]
  obtain ⟨r1, r2, r3, r4⟩ := run_facts (pl := pl) (x := x) okg (hbt s)
  have h2 := f.two
  rw [e]
  refine Prod.ext ?_ ?_
  · show (run g pl x (bitAt s)).1.getLastD 0 = _
    rw [getLastD_at (n := g.m + g.rows.length) (by omega), ← f.val s x hs' hx]
    unfold vl
    rw [show g.m + g.rows.length - 1 + 1 = g.m + g.rows.length by omega]
  · show (run g pl x (bitAt s)).2 = kep g.rows.length pl (bitAt (stp small s x))
    refine List.ext_getElem? fun i => ?_
    by_cases hi : i < g.rows.length
    · have hri := List.getElem?_eq_getElem hi
      have hv := (vl_row (pl := pl) (x := x) (c := bitAt s) okg hri).2
      rw [hv, kep_at hi]
      congr 1
      by_cases hp : i ∈ pl
      · rw [if_pos hp, if_pos hp]
        have hidx := List.idxOf_lt_length_of_mem hp
        have hpl : pl[pl.idxOf i]? = some i := by rw [List.getElem?_eq_getElem hidx, List.getElem_idxOf hidx]
        generalize pl.idxOf i = p at hpl ⊢
        obtain ⟨h, l, k1, k2, k3, k4⟩ := f.ke p i hpl
        rw [hri] at k1
        rw [Option.some.inj k1]
        obtain ⟨v1, v2⟩ := k4 x (bitAt s) (by rw [hm]; exact hx) (hbt s)
        have w1 := vl_lt (pl := pl) (n := l) (x := x) okg (hbt s)
        have w2 := vl_lt (pl := pl) (n := h) (x := x) okg (hbt s)
        show (((tabOf1 "plus")[(run g pl x (bitAt s)).1[h + 1]?.getD 0 + 2 * (run g pl x (bitAt s)).1[l + 1]?.getD 0 + 4 * bitAt s p]?).getD (0, 0)).2 = _
        show (((tabOf1 "plus")[vl g pl h x (bitAt s) + 2 * vl g pl l x (bitAt s) + 4 * bitAt s p]?).getD (0, 0)).2 = _
        rw [tb_plus _ _ _ w2 w1 (bitAt_lt _ _)]
        show (_ + _ + _) / 2 = _
        cases hst : isStay small x with
        | true =>
          have hn : ¬ Stg small p x := fun z => by rw [z.1] at hst; cases hst
          have a1 : vl g pl h x (bitAt s) = 1 := v2.mpr (.inr hst)
          have a2 : ¬ vl g pl l x (bitAt s) = 1 := fun z => hn (v1.mp z)
          rw [isStay_iff.mp hst s hs']
          have := bitAt_lt s p
          omega
        | false =>
          have hset : isSet small x = true := by
            rcases hs x hx with k | k
            · rw [hst] at k; cases k
            · exact k
          rw [isSet_iff.mp hset s hs']
          have e1 : Stg small p x ↔ bitAt (stp small 0 x) p = 1 := ⟨fun z => z.2, fun z => ⟨hst, z⟩⟩
          have e2 : Stg small p x ∨ isStay small x = true ↔ bitAt (stp small 0 x) p = 1 := by
            rw [e1, hst]
            exact ⟨fun z => z.elim id (fun z => nomatch z), .inl⟩
          rw [e1] at v1
          rw [e2] at v2
          have := bitAt_lt s p
          have := bitAt_lt (stp small 0 x) p
          omega
      · rw [if_neg hp, if_neg hp]
        have hc : carries g.rows[i] = false := by
          cases hc : carries g.rows[i] with
          | false => rfl
          | true => exact absurd ((f.pm i).mpr ⟨_, hri, hc⟩) hp
        exact rule0 (f.ok i _ hri).1 hc
    · rw [List.getElem?_eq_none (by omega), List.getElem?_eq_none (by rw [kep_len]; omega)]
theorem made_ok {m : Nat} {rows small : List Row} (ok : Ok m small) (sl : Least m rows small) (ex : EqX m small rows 0 0) (st : Setter m rows) : (madeOf m small (bits small.length)).m = m ∧ OkQ m (madeOf m small (bits small.length)).rows ∧ carry (madeOf m small (bits small.length)).rows = bits small.length ∧ ∃ kept, Does m small (madeOf m small (bits small.length)).rows kept := by
  have hs := sl.setter.mpr st
  obtain ⟨pl, f⟩ := fin_of ok (sl.reach ok ex) hs
  obtain ⟨a, b⟩ := fin_does ok hs f
  exact ⟨f.hm, a, f.cnt, b⟩
end SS
namespace DL
open PySem PySem.Spec PyProof.Rows L2
open Evl (Ex ex_l ex_t)
/-- what stood at the entry is not of a new resource -/
theorem Ext.narrow {S : Addr → Prop} {B H B' H' : Hp} (x : Ext S B H B' H') (h : ∀ a, S a → H a = none) : Ext (fun _ => False) B H B' H' :=
  ⟨x.b, x.s, fun a o e _ => x.k a o e (fun z => by rw [h a z] at e; cases e), x.t, x.n⟩
section
variable {env : List Sl} {te ta tb : TE} {P Pa : D → Prop} {i : Nat} {C : Addr} {W : WX} {E : XK}
theorem ev_ixTQ {c : Cn} {j : Int} (ha : EvP c ta env Pa) (hb : Ev c tb env (.int j)) (h : ∀ a, Pa a → ∃ ds d, a = .tuple ds ∧ atI ds j = some d ∧ P d) : EvP c (tOp (rIx c.K) ta tb) env P :=
  ev_opP ha (fun _ _ => hb) fun a b pa eb B H x y A tx ty Q q => by
    obtain ⟨ds, d, e1, e2, e3⟩ := h a pa
    subst e1 eb
    cases tx with
    | tup h1 h2 =>
      rw [dp_int_inv ty]
      obtain ⟨v, h3, h4⟩ := atI_map h2 e2
      exact .inr (.inl ⟨_, _, j, v, rfl, rfl, ex_t A.e.s h1, h3, q v d B H A.same A.r h4 e3⟩)
theorem ev_lenTQ {c : Cn} (h : EvP c te env Pa) (k : ∀ a, Pa a → ∃ ds, a = .tuple ds ∧ P (nt ds.length)) : EvP c (tCB (rLn c.K) (tCons te tNil)) env P :=
  ev_cbP (ea_consP h fun _ _ => ea_nil) fun as ⟨a, r, e1, pa, e2⟩ B H xs A t Q q => by
    obtain ⟨ds, e3, p⟩ := k a pa
    subst e1 e2 e3
    cases t with
    | cons t1 t2 =>
      cases t2
      cases t1 with
      | tup h1 a1 => exact ⟨_, _, rfl, .inr ⟨_, ex_t A.e.s h1, rfl⟩, by rw [dps_len a1]; exact q _ _ B H A.same A.r (.int _) p⟩
theorem ev_bitsQ {c : Cn} (h : EvP c te env Pa) (k : ∀ a, Pa a → ∃ n : Int, a = .int n ∧ P (nt (Builtin.Int.intBits n))) : EvP c (tBits te) env P := fun σ B H A e Q q =>
  h σ B H A e _ fun v d B1 H1 x1 r1 t1 p1 => by
    obtain ⟨n, e, p⟩ := k d p1
    subst e
    rw [dp_int_inv t1]
    exact ⟨n, rfl, q _ _ B1 H1 x1 r1 (.int _) p⟩
/-! ### what ends in an exception -/
abbrev Aft (c : Cn) (C : Addr) (W : WX) (env : List Sl) (σ : Sg) (B : Hp) : Prop := ∀ B' H', Ex B B' → At c B' H' → EnvOk c B' H' σ env → W (.ref C) none σ H'
def Dies (c : Cn) (C : Addr) (W : WX) (te : TE) (env : List Sl) : Prop := ∀ (σ : Sg) (B H : Hp), At c B H → EnvOk c B H σ env → Aft c C W env σ B → ∀ Q : VK, te σ H Q
theorem dies_call {α : Type} {tr : TA} {enc : α → List D} {pre : α → Prop} {post : α → D → Prop} {bad : α → Prop} {K : PySem.W.Frag} {B0 H0 : Hp} (a : α) (h : EvA (pureCn K B0 H0) tr env (enc a)) (hp : pre a) (hb : bad a) : Dies (pureCn K B0 H0) C W (tCallS (PureSpX K C enc pre post bad) (WE W) tr) env := fun σ B H A e k Q =>
  h σ B H A e _ fun vs ds B1 H1 x1 r1 t1 p1 => by
    subst p1
    exact ⟨B1, a, x1.s, t1, hp, fun _ _ _ _ _ _ _ nb => absurd hb nb, fun B' H' x _ => k B' H' (x1.b.trans x.b) ((A.go x1 r1).go x trivial) ((e.go x1).go x)⟩
theorem ev_callX {c : Cn} {α : Type} {tr : TA} {enc : α → List D} {pre : α → Prop} {post : α → D → Prop} {bad : α → Prop} (a : α) (h : EvA c tr env (enc a)) (hp : pre a) (hb : ¬ bad a) : EvP c (tCallS (PureSpX c.K C enc pre post bad) (WE W) tr) env (post a) := fun σ B H A e Q q =>
  h σ B H A e _ fun vs ds B1 H1 x1 r1 t1 p1 => by
    subst p1
    exact ⟨B1, a, x1.s, t1, hp, fun v d B2 H2 x2 t2 p2 _ => q v d B2 H2 (x1.trans (x2.wide fun _ z => z.elim)) ((A.go x1 r1).stay x2) t2 p2, fun _ _ _ z => absurd z hb⟩
/-- x = f(..) where f raises: nothing more is done -/
theorem hs_dies {c : Cn} {u : TS} {o : Po} (h : Dies c C W te env) (k : ∀ σ B H, At c B H → W (.ref C) none σ H) : HS c (tSeq (tAsg te (gName i)) u) env o := fun X σ B H A e gg => h σ B H A e (fun B' H' _ A' _ => k σ B' H' A') _
end
end DL
namespace SS
open PySem PySem.Spec PyProof.Rows L2 DL
open Evl (Ex ex_l ex_t)
section
variable {P : Program} {w : World} {K : PySem.W.Frag} {C U : Addr} {p : ShA} {B0 H0 : Hp} {env : List Sl} {g : Sh} {ta tb te tm : TE} {i j : Nat} {E : XK}
theorem h_Sheet___init__ (X : ShC K C) {vs : List V} {H : Hp} {Q : VK} {E : XK} {D : Ends} (h : sp_Sheet___init__ P w C vs H Q E) (k : ∀ σ H, Q .non H → D.nx σ H) : t_Sheet___init__ P w K C D (L2.start N_Sheet___init__ vs) H := by
  obtain ⟨x, dx, m, rfl, hx, hdx, hne, hm, q⟩ := h
  refine ⟨.int (m : Nat), rfl, .ref x, rfl, x, C, dx, [], rfl, hx, X.cl, X.n1, by decide, ?_⟩
  refine ⟨sz (Nat.zero_le _), fun l hl => ⟨.ref x, rfl, x, C, dx, [("inputs", .int (m : Nat))], rfl, ?_, X.cl, X.n2, (by show 1 < 1000; decide), ?_⟩⟩
  · have : x ≠ l := fun e => by
      rw [← e, upd_same] at hl
      cases hl
    rw [upd_ne this, upd_same]
    rfl
  · have hxl : x ≠ l := fun e => by
      rw [← e, upd_same] at hl
      cases hl
    intro nd hnd
    have hxn : x ≠ nd := fun e => by
      rw [← e, upd_same] at hnd
      cases hnd
    have hln : l ≠ nd := fun e => by
      rw [← e, upd_ne hxl.symm, upd_same] at hnd
      cases hnd
    refine ⟨.ref x, rfl, x, C, dx, [("inputs", .int (m : Nat)), ("rows", .ref l)], rfl, ?_, X.cl, X.n3, (by show 2 < 1000; decide), ?_⟩
    · rw [upd_ne hxn, upd_same]
      rfl
    · have h1 : H l = none := by rwa [upd_ne hxl.symm] at hl
      have h2 : H nd = none := by
        rw [upd_ne hxn.symm, upd_ne hln.symm, upd_ne hxn.symm] at hnd
        exact hnd
      refine k _ _ ?_
      have := q l nd h1 h2 hln
      refine cast (congrArg (Q V.non) (funext fun a => ?_)) this
      unfold upd
      by_cases a1 : a = x
      · subst a1
        rw [if_pos rfl, if_pos rfl]
        rfl
      · by_cases a2 : a = nd
        · subst a2
          simp [a1]
        · by_cases a3 : a = l
          · subst a3
            simp [a1, a2]
          · simp [a1, a2, a3]
/-- a sheet is made, the rest goes with it -/
theorem hs_make {m : Nat} {u : TS} {o : Po} (h : Ev (pureCn K B0 H0) tm env (nt m)) (hm : m ≤ 2) (ho : owns env = []) (k : ∀ (p : ShA) (B1 H1 : Hp), HSW (shc P w K C p B1 H1) u (env.set i (shV p)) ⟨m, []⟩ { rt := fun _ d => o.rt d }) :
    HS (pureCn K B0 H0) (tSeq (tAsg (tMake C (sp_Sheet___init__ P w C) [] E (tCons tm tNil)) (gName i)) u) env o := fun X σ B H A e gg => by
  refine h σ B H A e _ fun v d B1 H1 x1 r1 t1 p1 => ?_
  subst p1
  rw [dp_int_inv t1]
  intro x dx hx hdx hne
  have A1 := A.go x1 r1
  have e1 := e.go x1
  refine ⟨x, dx, m, rfl, upd_same, by rw [upd_ne hne, upd_same], hne, hm, fun l nd hl hnd hln => ⟨rfl, ?_⟩⟩
  have l1 : l ≠ x := fun z => by rw [z, upd_same] at hl; cases hl
  have n1 : nd ≠ x := fun z => by rw [z, upd_same] at hnd; cases hnd
  have l2 : l ≠ dx := fun z => by rw [z, upd_ne hne, upd_same] at hl; cases hl
  have n2 : nd ≠ dx := fun z => by rw [z, upd_ne hne, upd_same] at hnd; cases hnd
  have hl1 : H1 l = none := by rwa [upd_ne l1, upd_ne l2] at hl
  have hn1 : H1 nd = none := by rwa [upd_ne n1, upd_ne n2] at hnd
  have fresh : ∀ a, shS ⟨x, dx, l, nd⟩ a → H1 a = none := fun a s => by
    rcases s with rfl | rfl | rfl | rfl
    · exact hx
    · exact hdx
    · exact hl1
    · exact hn1
  have y1 : Ext (shS ⟨x, dx, l, nd⟩) B1 H1 B1 (upd H1 dx (.own x)) := Ext.newOwn A1.e.s hdx
  have y2 : Ext (shS ⟨x, dx, l, nd⟩) B1 (upd H1 dx (.own x)) B1 (upd (upd H1 dx (.own x)) x (.ins C dx [])) := Ext.newOwn y1.s (by rw [upd_ne hne.symm]; exact hx)
  have y3 : Ext (shS ⟨x, dx, l, nd⟩) B1 (upd (upd H1 dx (.own x)) x (.ins C dx [])) B1 (upd (upd (upd H1 dx (.own x)) x (.ins C dx [])) l (.lst [])) := Ext.newOwn y2.s hl
  have y4 : Ext (shS ⟨x, dx, l, nd⟩) B1 (upd (upd (upd H1 dx (.own x)) x (.ins C dx [])) l (.lst [])) B1 (upd (upd (upd (upd H1 dx (.own x)) x (.ins C dx [])) l (.lst [])) nd (NDictO P w nd [])) := Ext.newOwn y3.s (by rw [upd_ne hln.symm]; exact hnd)
  have y5 := ext_res (u := .ins C dx [("inputs", .int (m : Nat)), ("rows", .ref l), ("numbers", .ref nd)]) (((y1.trans y2).trans y3).trans y4) (S := shS ⟨x, dx, l, nd⟩) (a := x) (.inl rfl) (fresh_b A1.e.s hx)
  have R : ShR P w K C ⟨x, dx, l, nd⟩ ⟨m, []⟩ B1 (upd (upd (upd (upd (upd H1 dx (.own x)) x (.ins C dx [])) l (.lst [])) nd (NDictO P w nd [])) x (.ins C dx [("inputs", .int (m : Nat)), ("rows", .ref l), ("numbers", .ref nd)])) :=
    ⟨(iv_zero hm).ok, upd_same, by rw [upd_ne hne, upd_ne n2.symm, upd_ne l2.symm, upd_ne hne, upd_same], ⟨[], by rw [upd_ne l1, upd_ne hln, upd_same], .nil⟩, ⟨[], by rw [upd_ne n1, upd_same], .nil⟩, fresh_b A1.e.s hx, fresh_b A1.e.s hdx, fresh_b A1.e.s hl1, fresh_b A1.e.s hn1⟩
  have e2 : EnvOk ((shc P w K C ⟨x, dx, l, nd⟩ B1 H1).at ⟨m, []⟩) B1 (upd (upd (upd (upd (upd H1 dx (.own x)) x (.ins C dx [])) l (.lst [])) nd (NDictO P w nd [])) x (.ins C dx [("inputs", .int (m : Nat)), ("rows", .ref l), ("numbers", .ref nd)])) (σ.set i (some (.ref x))) (env.set i (shV ⟨x, dx, l, nd⟩)) := by
    refine EnvOk.put (s := shV ⟨x, dx, l, nd⟩) ⟨e1.len, fun j s hs => ?_, e1.nd⟩ (fun _ _ z => nomatch z) rfl
    obtain ⟨z, z1, z2⟩ := e1.at_ j s hs
    refine ⟨z, z1, ?_⟩
    cases s with
    | no => exact trivial
    | dat d => exact z2
    | raw v => exact z2
    | ow q u =>
      have := owns_mem.mpr ⟨u, j, hs⟩
      rw [ho] at this
      cases this
  refine k ⟨x, dx, l, nd⟩ B1 H1 X _ B1 _ ⟨y5, R⟩ e2 ⟨fun _ _ _ _ _ _ _ _ z => z.elim, fun v d g' B' H' _ A' t' q' => ?_, fun _ _ _ _ _ _ _ _ z => z.elim, fun _ _ _ _ _ _ _ _ z => z.elim⟩
  have n := Ext.narrow (show Ext (shS ⟨x, dx, l, nd⟩) B1 H1 B' H' from A'.e) fresh
  exact gg.rt v d B' H' (x1.b.trans n.b) (A1.go n trivial) t' q'
end
end SS
namespace SS
open PySem PySem.Spec PyProof.Rows L2 DL
open Evl (Ex ex_l ex_t)
section
variable {K : PySem.W.Frag} {B0 H0 : Hp} {C : Addr} {E : XK} {env : List Sl}
theorem setterB (m : Nat) (rows : List Row) : ∃ b : Bool, b = true ↔ Setter m rows := by
  by_cases h : Setter m rows
  · exact ⟨true, ⟨fun _ => h, fun _ => rfl⟩⟩
  · exact ⟨false, ⟨fun z => (by cases z), fun z => absurd z h⟩⟩
theorem h_fewest (a : AM) (ok : Ok a.1 a.2) (he : ¬ Setter a.1 a.2 → ∀ B H, At (pureCn K B0 H0) B H → E (.ref C) none H) : HS (pureCn K B0 H0) (t_fewest K C E) [.dat (encM a.1 a.2)]
    { rt := fun d => (∃ n, d = nt (bits n) ∧ Count a.1 a.2 n) ∧ ¬ ¬ Setter a.1 a.2, nx := fun _ => (∃ n, (PyData.none : D) = nt (bits n) ∧ Count a.1 a.2 n) ∧ ¬ ¬ Setter a.1 a.2 } := by
  obtain ⟨b, hb⟩ := setterB a.1 a.2
  refine hs_seq (hs_if (b := !b) (et_not (et_B ((ev_call (c := pureCn K B0 H0) (α := AM) a (ea_cons (ev_var rfl) ea_nil) ok).imp fun d ⟨b', e, h⟩ => by
    have := h.trans hb.symm
    rw [e]
    cases b <;> cases b' <;> simp_all))) (fun h => hs_raise fun σ B H A => ?_) fun h => hs_next ?_)
  · refine he (fun z => ?_) B H A
    rw [hb.mpr z] at h
    cases h
  · have hs : Setter a.1 a.2 := hb.mp (by cases b <;> simp_all)
    refine hs_ret (P := fun d => ∃ n, d = nt (bits n) ∧ Count a.1 a.2 n) (ev_bitsQ (Pa := fun d => ∃ small : List Row, d = nt (small.length - 1) ∧ Count a.1 a.2 small.length) (ev_opP (Pa := fun d => ∃ small : List Row, d = nt small.length ∧ 0 < small.length ∧ Count a.1 a.2 small.length) (Pb := fun _ d => d = nt 1)
      (ev_lenTQ (Pa := fun d => ∃ small : List Row, d = encT small ∧ 0 < small.length ∧ Count a.1 a.2 small.length) (ev_ixTQ (j := 1) (ev_call (c := pureCn K B0 H0) (α := AM) a (ea_cons (ev_var rfl) ea_nil) ok) ev_int fun d ⟨small, e, oks, hl, _⟩ => ⟨[nt a.1, encT small], encT small, e, rfl, small, rfl, oks.pos, hl.count⟩) fun d ⟨small, e, h0, hc⟩ => ⟨small.map encR, e, small, by rw [List.length_map], h0, hc⟩)
      (fun _ _ => ev_nat 1) fun x y ⟨small, e1, h0, hc⟩ e2 => ?_) fun d ⟨small, e, hc⟩ => ⟨_, e, small.length, rfl, hc⟩) fun d h => ⟨h, fun z => z hs⟩
    subst e1 e2
    exact fun B H x y A tx ty Q q => opd_subN (c := pureCn K B0 H0) (i := small.length) (j := 1) h0 B H x y A tx ty Q fun z d B' H' x' r' t' p' => q z d B' H' x' r' t' ⟨small, p', hc⟩
end
theorem writing_snoc {small : List Row} {letters : List Nat} {s k x : Nat} (h : letters[k]? = some x) : writing small (letters.take (k + 1)) s = writing small (letters.take k) s ++ (if decide (out small s k = 1) = true then [x] else []) := by
  unfold writing
  rw [zipIdx_snoc h, List.filter_append, List.map_append]
  exact congrArg _ (filt1 (fun p => decide (out small s p.2 = 1)) (x, k))
theorem accF_snoc {small : List Row} {letters bs : List Nat} : ∀ (ss : List Nat) (p : Sh × List Nat) (s : Nat), accF small letters bs p (ss ++ [s]) = accF small letters bs (accF small letters bs p ss) [s]
  | [], p, s => rfl
  | t :: ss, p, s => by
    show accF small letters bs p (t :: (ss ++ [s])) = accF small letters bs (accF small letters bs p (t :: ss)) [s]
    have e : ∀ l, accF small letters bs p (t :: l) = if writing small letters t = [] then accF small letters bs p l else accF small letters bs ((((p.1.stateNum bs t).1.putAll false (writing small letters t)).1.put (("and" : Str), [(p.1.stateNum bs t).2, ((p.1.stateNum bs t).1.putAll false (writing small letters t)).2])).1, p.2 ++ [(((p.1.stateNum bs t).1.putAll false (writing small letters t)).1.put (("and" : Str), [(p.1.stateNum bs t).2, ((p.1.stateNum bs t).1.putAll false (writing small letters t)).2])).2]) l := fun l => rfl
    rw [e, e]
    by_cases hw : writing small letters t = []
    · rw [if_pos hw, if_pos hw]
      exact accF_snoc ss _ s
    · rw [if_neg hw, if_neg hw]
      exact accF_snoc ss _ s
theorem accF_one {small : List Row} {letters bs : List Nat} (p : Sh × List Nat) (t : Nat) : accF small letters bs p [t] = if writing small letters t = [] then p else ((((p.1.stateNum bs t).1.putAll false (writing small letters t)).1.put (("and" : Str), [(p.1.stateNum bs t).2, ((p.1.stateNum bs t).1.putAll false (writing small letters t)).2])).1, p.2 ++ [(((p.1.stateNum bs t).1.putAll false (writing small letters t)).1.put (("and" : Str), [(p.1.stateNum bs t).2, ((p.1.stateNum bs t).1.putAll false (writing small letters t)).2])).2]) := rfl
theorem accF_snoc' {small : List Row} {letters bs : List Nat} (ss : List Nat) (p : Sh × List Nat) (s : Nat) : accF small letters bs p (s :: ss) = accF small letters bs (accF small letters bs p [s]) ss := by
  rw [accF_one]
  by_cases hw : writing small letters s = []
  · rw [if_pos hw]
    show (if writing small letters s = [] then _ else _) = _
    rw [if_pos hw]
  · rw [if_neg hw]
    show (if writing small letters s = [] then _ else _) = _
    rw [if_neg hw]
theorem accF_gr {small : List Row} {letters bs : List Nat} (hl : letters.length ≤ 4) (hb5 : bs.length ≤ 5) : ∀ {ss : List Nat} {p : Sh × List Nat}, ShOk p.1 → (∀ o ∈ letters, o < p.1.size) → (∀ o ∈ bs, o < p.1.size) → (∀ o ∈ p.2, o < p.1.size) → p.1.rows.length + 17 * ss.length < 850 →
    Gr p.1 (accF small letters bs p ss).1 (17 * ss.length) ∧ (∀ o ∈ (accF small letters bs p ss).2, o < (accF small letters bs p ss).1.size) ∧ (accF small letters bs p ss).2.length ≤ p.2.length + ss.length
  | [], p, ok, _, _, h3, _ => ⟨Gr.refl ok _, h3, Nat.le_refl _⟩
  | s :: ss, p, ok, h1, h2, h3, hf => by
    rw [List.length_cons] at hf
    have e : accF small letters bs p (s :: ss) = accF small letters bs (accF small letters bs p [s]) ss := accF_snoc' ss p s
    rw [e, accF_one]
    by_cases hw : writing small letters s = []
    · rw [if_pos hw]
      obtain ⟨a, b, c⟩ := accF_gr hl hb5 (ss := ss) ok h1 h2 h3 (by omega)
      exact ⟨a.le (by rw [List.length_cons]; omega), b, by rw [List.length_cons]; omega⟩
    · rw [if_neg hw]
      have wl : (writing small letters s).length ≤ 4 := Nat.le_trans writing_len hl
      obtain ⟨a1, a2⟩ := stateNum_gr (s := s) ok h2 (by omega : p.1.rows.length + 2 * bs.length + 1 < 900)
      obtain ⟨sa1, sa2, sa3⟩ := a1.size
      generalize p.1.stateNum bs s = h at a1 a2 sa1 sa2 sa3 ⊢
      obtain ⟨b1, b2⟩ := putAll_gr (b := false) a1.ok (ops := writing small letters s) ⟨fun o ho => by have := h1 o (writing_sub o ho); omega, by omega⟩
      obtain ⟨sb1, sb2, sb3⟩ := b1.size
      generalize h.1.putAll false (writing small letters s) = w at b1 b2 sb1 sb2 sb3 ⊢
      obtain ⟨c1, _, _, c2⟩ := put_gr b1.ok (put2_ok k_and (a := h.2) (b := w.2) (by omega) b2 (by omega))
      obtain ⟨sc1, sc2, sc3⟩ := c1.size
      generalize w.1.put (("and" : Str), [h.2, w.2]) = n at c1 c2 sc1 sc2 sc3 ⊢
      obtain ⟨a, b, c⟩ := accF_gr hl hb5 (ss := ss) (p := (n.1, p.2 ++ [n.2])) c1.ok (fun o ho => show o < n.1.size by have := h1 o ho; omega) (fun o ho => show o < n.1.size by have := h2 o ho; omega) (fun o ho => show o < n.1.size by
        rcases List.mem_append.mp ho with z | z
        · have := h3 o z
          omega
        · rw [List.mem_singleton.mp z]; exact c2) (by show n.1.rows.length + _ < _; omega)
      refine ⟨(((a1.trans b1).trans c1).trans a).le (by rw [List.length_cons]; omega), b, ?_⟩
      rw [List.length_append, List.length_singleton] at c
      rw [List.length_cons]
      omega
section
variable {P : Program} {w : World} {K : PySem.W.Frag} {C U : Addr} {B0 H0 : Hp} {E : XK}
theorem let_gr {m : Nat} (hm : m ≤ 2) (k : Nat) : Gr ⟨m, []⟩ (accS Sh.letterNum ⟨m, []⟩ ((List.range (2 ^ m)).take k)).1 20 ∧ ∀ x ∈ (accS Sh.letterNum ⟨m, []⟩ ((List.range (2 ^ m)).take k)).2, x < (accS Sh.letterNum ⟨m, []⟩ ((List.range (2 ^ m)).take k)).1.size := by
  have h4 := pow4 hm
  have hl : ((List.range (2 ^ m)).take k).length ≤ 4 := by rw [List.length_take, List.length_range]; omega
  obtain ⟨a, b, c⟩ := accS_gr (f := Sh.letterNum) (c := 5) (Pre := fun _ _ => True) (fun g a ok _ h => letterNum_gr ok (by omega)) (fun _ _ _ _ _ _ => trivial) (as := (List.range (2 ^ m)).take k) (g := ⟨m, []⟩) (iv_zero hm).ok (fun _ _ => trivial) (by show 0 + _ < _; omega)
  exact ⟨a.le (by omega), c⟩
theorem bit_gr {m : Nat} {small : List Row} {g : Sh} {letters : List Nat} (ok : ShOk g) (hl : letters.length ≤ 4) (hlt : ∀ o ∈ letters, o < g.size) (hf : g.rows.length ≤ 20) (ps : List Nat) (hp : ps.length ≤ 5) :
    Gr g (accS (fun g p => g.stateBit small letters p) g ps).1 85 ∧ ∀ x ∈ (accS (fun g p => g.stateBit small letters p) g ps).2, x < (accS (fun g p => g.stateBit small letters p) g ps).1.size := by
  obtain ⟨a, b, c⟩ := accS_gr (f := fun g p => g.stateBit small letters p) (c := 17) (Pre := fun g _ => ∀ o ∈ letters, o < g.size) (fun g a ok h hh => stateBit_gr ok hl h (by omega)) (fun g g' a h1 _ h o ho => Nat.lt_of_lt_of_le (h o ho) h1) (as := ps) (g := g) ok (fun _ _ => hlt) (by omega)
  exact ⟨a.le (by omega), c⟩
theorem told_m (g : Sh) (o : Nat) : (g.told o).m = g.m := by
  unfold Sh.told
  split
  · rfl
  · unfold Sh.put
    split <;> rfl
theorem h_made_with_fewest (X : ShC K C) (a : AM) (ok : Ok a.1 a.2) (he : ¬ Setter a.1 a.2 → ∀ B H, At (pureCn K B0 H0) B H → E (.ref U) none H) : HS (pureCn K B0 H0) (t_made_with_fewest P w K C U E) [.dat (encM a.1 a.2), .no, .no, .no, .no, .no, .no, .no, .no, .no, .no, .no, .no, .no]
    { rt := fun d => (∃ small, Ok a.1 small ∧ Least a.1 a.2 small ∧ EqX a.1 small a.2 0 0 ∧ Can a.1 a.2 small ∧ d = encRec a.1 (madeOf a.1 small (bits small.length)).rows) ∧ ¬ ¬ Setter a.1 a.2, nx := fun _ => (∃ small, Ok a.1 small ∧ Least a.1 a.2 small ∧ EqX a.1 small a.2 0 0 ∧ Can a.1 a.2 small ∧ (PyData.none : D) = encRec a.1 (madeOf a.1 small (bits small.length)).rows) ∧ ¬ ¬ Setter a.1 a.2 } := by
  obtain ⟨m, rows⟩ := a
  simp only at ok he ⊢
  by_cases S : Setter m rows
  · refine hs_seq (hs_set (ev_callX (c := pureCn K B0 H0) (α := AM) (m, rows) (ea_cons (ev_var rfl) ea_nil) ok (fun z => z S)) ?_)
    rintro d ⟨n, rfl, hc⟩
    refine hs_seq (hs_set (ev_call (α := AM) (m, rows) (ea_cons (ev_var rfl) ea_nil) ok) ?_)
    rintro d ⟨small, rfl, oks, sl, ex, ca⟩
    have hn : n = small.length := count_uni hc sl.count
    subst hn
    simp only at oks sl ex ca ⊢
    have hm := oks.m2
    have h4 := pow4 hm
    have hfew := oks.few
    obtain ⟨_, _, hb5⟩ := bits_pow oks.pos oks.few
    refine hs_make (m := m) (ev_many (rows := small) (ev_var rfl)) hm rfl fun p B1 H1 => ?_
    refine HSW.imp (o := { rt := fun _ d => d = encRec m (madeOf m small (bits small.length)).rows }) ?_ (fun _ _ z => z.elim) (fun _ d e => ⟨⟨small, oks, sl, ex, ca, e⟩, fun z => z S⟩) (fun _ _ z => z.elim) (fun _ _ z => z.elim)
    -- the letters
    refine hw_seq (hw_setN (enw_acc (f := Sh.letterNum) (as := List.range (2 ^ m)) (ds := rangeD (2 ^ m)) (eik_range (ev_shl1 (ev_many (rows := small) (ev_var rfl)) hm) (by omega)) (by rw [rangeD_len, List.length_range]) (by rw [List.length_range]; omega) ?_) ?_)
    · rintro k d j hd hj
      obtain ⟨rfl, hk⟩ := rangeD_at hd
      rw [List.getElem?_range hk] at hj
      cases hj
      obtain ⟨s1, s2, s3⟩ := (let_gr hm k).1.size
      exact ⟨_, _, hg_name, by decide, ew_call (r := shRs P w K C) (p := p) k rfl (ea_cons (ev_var rfl) ea_nil) (by have : (accS Sh.letterNum ⟨m, []⟩ ((List.range (2 ^ m)).take k)).1.rows.length ≤ 0 + 20 := s2; omega)⟩
    rintro g' p1 ds ⟨rfl, rfl⟩
    refine hw_freeze (i := 4) rfl ?_
    obtain ⟨lg, ll⟩ := let_gr hm (2 ^ m)
    rw [List.take_of_length_le (by rw [List.length_range]; exact Nat.le_refl _)] at lg ll
    have hL4 : (accS Sh.letterNum ⟨m, []⟩ (List.range (2 ^ m))).2.length = 2 ^ m := by rw [accS_len, List.length_range]
    have lm : (accS Sh.letterNum ⟨m, []⟩ (List.range (2 ^ m))).1.m = m := lg.m
    have ls : (accS Sh.letterNum ⟨m, []⟩ (List.range (2 ^ m))).1.rows.length ≤ 20 := by
      have : _ ≤ 0 + 20 := lg.size.2.1
      omega
    have emade : madeOf m small (bits small.length) = (let l := accS Sh.letterNum ⟨m, []⟩ (List.range (2 ^ m)); let b := accS (fun g p => g.stateBit small l.2 p) l.1 (List.range (bits small.length)); let f := accF small l.2 b.2 (b.1, []) (List.range small.length); let r := f.1.putAll false f.2; r.1.told r.2) := rfl
    rw [emade]
    have lok := lg.ok
    clear emade lg
    generalize accS Sh.letterNum ⟨m, []⟩ (List.range (2 ^ m)) = L at ll hL4 lm ls lok ⊢
    -- the bits
    refine hw_seq (hw_setN (enw_acc (f := fun g p => g.stateBit small L.2 p) (as := List.range (bits small.length)) (ds := rangeD (bits small.length)) (eik_range (ev_var rfl) (by omega)) (by rw [rangeD_len, List.length_range]) (by rw [List.length_range]; omega) ?_) ?_)
    · rintro k d j hd hj
      obtain ⟨rfl, hk⟩ := rangeD_at hd
      rw [List.getElem?_range hk] at hj
      cases hj
      obtain ⟨bg, _⟩ := bit_gr (m := m) (small := small) lok (by omega) ll ls ((List.range (bits small.length)).take k) (by rw [List.length_take, List.length_range]; omega)
      obtain ⟨s1, s2, s3⟩ := bg.size
      exact ⟨_, _, hg_name, by decide, ew_call (r := shRs P w K C) (p := p) (α := AS) ⟨m, small, L.2, k⟩ rfl (ea_cons (ev_var rfl) (ea_cons (ev_var rfl) (ea_cons (ev_var rfl) ea_nil))) ⟨oks, hL4, fun o ho => by have := ll o ho; omega, by omega, by show k < 30; omega⟩⟩
    rintro g' p2 ds ⟨rfl, rfl⟩
    refine hw_freeze (i := 5) rfl ?_
    obtain ⟨bg, bl⟩ := bit_gr (m := m) (small := small) lok (by omega) ll ls (List.range (bits small.length)) (by rw [List.length_range]; omega)
    have hB5 : (accS (fun g p => g.stateBit small L.2 p) L.1 (List.range (bits small.length))).2.length ≤ 5 := by rw [accS_len, List.length_range]; exact hb5
    simp only
    generalize accS (fun g p => g.stateBit small L.2 p) L.1 (List.range (bits small.length)) = Bb at bg bl hB5 ⊢
    obtain ⟨sb1, sb2, sb3⟩ := bg.size
    have bm : Bb.1.m = m := by rw [bg.m, lm]
    have llB : ∀ o ∈ L.2, o < Bb.1.size := fun o ho => by have := ll o ho; omega
    refine hw_pre (hs_setN (en_lst ea_nil (Nat.zero_le _)) ?_)
    rintro p3 ds rfl
    have gF : ∀ k, _ := fun k => accF_gr (small := small) (letters := L.2) (bs := Bb.2) (by omega) hB5 (ss := (List.range small.length).take k) (p := (Bb.1, [])) bg.ok llB bl (fun o ho => absurd ho List.not_mem_nil) (by
      rw [List.length_take, List.length_range]
      show Bb.1.rows.length + _ < _
      omega)
    refine hw_mid (Mid := fun g' e => ∃ x7 x8 x9 x10 x11 x12 x13, (g', e) = ((accF small L.2 Bb.2 (Bb.1, []) (List.range small.length)).1, [.dat (encM m rows), .dat (nt (bits small.length)), .dat (encM m small), shV p, .dat (encL L.2), .dat (encL Bb.2), .own p3 ((accF small L.2 Bb.2 (Bb.1, []) (List.range small.length)).2.map nt), x7, x8, x9, x10, x11, x12, x13])) (hw_for (P := fun l => l = enumD (small.map encR)) (eik_enT (ev_rows (m := m) (rows := small) (ev_var rfl))) ?_) ?_
    · rintro ds rfl
      refine ⟨fun k g' e => k ≤ small.length ∧ ∃ x7 x8 x9 x10 x11 x12 x13, (g', e) = ((accF small L.2 Bb.2 (Bb.1, []) ((List.range small.length).take k)).1, [.dat (encM m rows), .dat (nt (bits small.length)), .dat (encM m small), shV p, .dat (encL L.2), .dat (encL Bb.2), .own p3 ((accF small L.2 Bb.2 (Bb.1, []) ((List.range small.length).take k)).2.map nt), x7, x8, x9, x10, x11, x12, x13]), ⟨Nat.zero_le _, _, _, _, _, _, _, _, rfl⟩, ?_, ?_⟩
      · rintro k d g1 env1 hd ⟨_, x7, x8, x9, x10, x11, x12, x13, e⟩
        obtain ⟨d1, hd1, rfl⟩ := enum_at hd
        obtain ⟨r, hr, rfl⟩ := map_at hd1
        injection e with e1 e2
        subst e1 e2
        have hk := (List.getElem?_eq_some_iff.mp hr).1
        have hrl : r.length = 2 ^ m := oks.len r (List.mem_of_getElem? hr)
        obtain ⟨fg, fl, fn⟩ := gF k
        have hstep : accF small L.2 Bb.2 (Bb.1, []) ((List.range small.length).take (k + 1)) = accF small L.2 Bb.2 (accF small L.2 Bb.2 (Bb.1, []) ((List.range small.length).take k)) [k] := by
          rw [take_snoc (List.getElem?_range hk), accF_snoc]
        refine ⟨_, _, hg_tup (hgs_cons hg_name (hgs_cons hg_name hgs_nil)) rfl, ?_⟩
        refine HSW.imp (o := { nx := fun g' e => k + 1 ≤ small.length ∧ ∃ x7 x8 x9 x10 x11 x12 x13, (g', e) = ((accF small L.2 Bb.2 (Bb.1, []) ((List.range small.length).take (k + 1))).1, [.dat (encM m rows), .dat (nt (bits small.length)), .dat (encM m small), shV p, .dat (encL L.2), .dat (encL Bb.2), .own p3 ((accF small L.2 Bb.2 (Bb.1, []) ((List.range small.length).take (k + 1))).2.map nt), x7, x8, x9, x10, x11, x12, x13]) }) ?_ (fun _ _ z => z) (fun _ _ z => z.elim) (fun _ _ z => z.elim) (fun _ _ z => z.elim)
        rw [hstep]
        have hlk : ((List.range small.length).take k).length = k := by rw [List.length_take, List.length_range]; omega
        rw [hlk] at fg fn
        generalize accF small L.2 Bb.2 (Bb.1, []) ((List.range small.length).take k) = F at fg fl fn ⊢
        obtain ⟨sf1, sf2, sf3⟩ := fg.size
        have sf1 : Bb.1.size ≤ F.1.size := sf1
        have sf2 : F.1.rows.length ≤ Bb.1.rows.length + 17 * k := sf2
        have fn : F.2.length ≤ 0 + k := fn
        rw [accF_one]
        have cell : ∀ j, j < 2 ^ m → r[j]? = some (stepR small k j) := fun j hj => by
          unfold stepR
          rw [hr]
          show r[j]? = some (r[j]?.getD (0, 0))
          rw [List.getElem?_eq_getElem (by omega)]
          rfl
        -- what writes
        refine hw_seq (hw_setN (P := fun g' l => g' = F.1 ∧ l = (writing small L.2 k).map nt) (enw_lc (P := fun l => l = enumD (r.map encP)) (eik_enT (ev_var rfl)) ?_) ?_)
        · rintro ds rfl
          refine ⟨by rw [enumD_len, List.length_map]; omega, fun j g' ls => g' = F.1 ∧ ls = (writing small (L.2.take j) k).map nt, ⟨rfl, rfl⟩, ?_, ?_, ?_⟩
          · rintro j g' ls ⟨_, rfl⟩
            rw [List.length_map]
            exact Nat.le_trans writing_len (by rw [List.length_take]; omega)
          · rintro g' ls ⟨rfl, rfl⟩
            refine ⟨rfl, ?_⟩
            rw [enumD_len, List.length_map, List.take_of_length_le (by omega)]
          · rintro j d g' ls hd ⟨rfl, rfl⟩
            obtain ⟨d2, hd2, rfl⟩ := enum_at hd
            obtain ⟨pr, hpr, rfl⟩ := map_at hd2
            have hj := (List.getElem?_eq_some_iff.mp hpr).1
            rw [hrl] at hj
            rw [cell j hj] at hpr
            cases hpr
            have hLj : L.2[j]? = some (L.2[j]'(by omega)) := List.getElem?_eq_getElem (by omega)
            refine ⟨_, _, decide (out small k j = 1), hg_tup (hgs_cons hg_name (hgs_cons hg_name hgs_nil)) rfl, by decide, et_test (ev_op (ev_snd (p := stepR small k j) (ev_var rfl)) (ev_nat 1) opd_eqN), fun h => ?_, fun h => ?_⟩
            · refine (ew (ev_ixLm (f := nt) (xs := L.2) (n := j) (es_of (ev_var rfl)) (ev_var rfl) hLj)).imp fun g2 y ⟨e1, e2⟩ => ⟨e1, ?_⟩
              rw [writing_snoc hLj, if_pos h, List.map_append, e2]
              rfl
            · refine ⟨rfl, ?_⟩
              rw [writing_snoc hLj, if_neg (by rw [h]; decide), List.append_nil]
        · rintro g' p4 ds ⟨rfl, rfl⟩
          refine hw_freeze (i := 9) rfl ?_
          have wl : (writing small L.2 k).length ≤ 4 := Nat.le_trans writing_len (by omega)
          refine hw_ifB (b := !((writing small L.2 k).map nt).isEmpty) (et_test (ev_neNil (es_of (ev_var rfl)) (shaped_nts _) (tells_nt.nodL _))) (fun h => ?_) fun h => hw_next ?_
          · have hw : ¬ writing small L.2 k = [] := fun z => by rw [z] at h; cases h
            rw [if_neg hw]
            have hbF : ∀ o ∈ Bb.2, o < F.1.size := fun o ho => by have := bl o ho; omega
            obtain ⟨a1, a2⟩ := stateNum_gr (s := k) fg.ok hbF (by omega : F.1.rows.length + 2 * Bb.2.length + 1 < 900)
            obtain ⟨sa1, sa2, sa3⟩ := a1.size
            refine hw_seq (hw_set (ew_call (r := shRs P w K C) (p := p) (α := List Nat × Nat) (Bb.2, k) rfl (ea_cons (ev_var rfl) (ea_cons (ev_var rfl) ea_nil)) ⟨hbF, by show Bb.2.length ≤ 30; omega, by omega⟩) ?_)
            rintro g' d ⟨rfl, rfl⟩
            simp only
            generalize F.1.stateNum Bb.2 k = h' at a1 a2 sa1 sa2 sa3 ⊢
            have o2 : OpsOk h'.1 (writing small L.2 k) := ⟨fun o ho => by have := llB o (writing_sub o ho); omega, by omega⟩
            obtain ⟨b1, b2⟩ := putAll_gr (b := false) a1.ok o2
            obtain ⟨sb1, sb2, sb3⟩ := b1.size
            have o3 : PutOk (h'.1.putAll false (writing small L.2 k)).1 (("and" : Str), [h'.2, (h'.1.putAll false (writing small L.2 k)).2]) := put2_ok k_and (by omega) b2 (by omega)
            refine hw_app (p := p3) (ds := F.2.map nt) (P := fun g' d => g' = ((h'.1.putAll false (writing small L.2 k)).1.put (("and" : Str), [h'.2, (h'.1.putAll false (writing small L.2 k)).2])).1 ∧ d = nt ((h'.1.putAll false (writing small L.2 k)).1.put (("and" : Str), [h'.2, (h'.1.putAll false (writing small L.2 k)).2])).2) rfl (by rw [List.length_map]; omega) (ew_methP (r := shRs P w K C) (p := p) (Pa := fun g' ds => g' = (h'.1.putAll false (writing small L.2 k)).1 ∧ ds = [encQ (("and" : Str), [h'.2, (h'.1.putAll false (writing small L.2 k)).2])]) rfl (sh_in fun _ _ _ => rfl) (EaW.imp (eaw_cons (Pr := fun g1 _ g' l => g' = g1 ∧ l = []) (ew_tup (P := fun g' ds => g' = (h'.1.putAll false (writing small L.2 k)).1 ∧ ds = [.str "and", nt h'.2, nt (h'.1.putAll false (writing small L.2 k)).2]) ?_ ?_) fun g1 _ _ => eaw_nil) ?_) ?_) ?_
            · refine EaW.imp (eaw_cons (Pr := fun _ _ g' ds => g' = (h'.1.putAll false (writing small L.2 k)).1 ∧ ds = [nt h'.2, nt (h'.1.putAll false (writing small L.2 k)).2]) (ew (ev_str (n := "and"))) fun g1 x hx => ?_) ?_
              · obtain ⟨rfl, _⟩ := hx
                refine EaW.imp (eaw_cons (Pr := fun _ _ g' ds => g' = (h'.1.putAll false (writing small L.2 k)).1 ∧ ds = [nt (h'.1.putAll false (writing small L.2 k)).2]) (ew (ev_var (d := nt h'.2) rfl)) fun g2 y hy => ?_) ?_
                · obtain ⟨rfl, _⟩ := hy
                  refine EaW.imp (eaw_cons (Pr := fun g1 _ g' l => g' = g1 ∧ l = []) (ew_putAll (b := false) rfl (ea_cons ev_str (ea_cons (ev_var rfl) ea_nil)) o2) fun g1 _ _ => eaw_nil) ?_
                  rintro g' ds ⟨g2, y, r, rfl, ⟨rfl, rfl⟩, rfl, rfl⟩
                  exact ⟨rfl, rfl⟩
                · rintro g' ds ⟨g2, y, r, rfl, ⟨_, rfl⟩, rfl, rfl⟩
                  exact ⟨rfl, rfl⟩
              · rintro g' ds ⟨g1, x, r, rfl, ⟨_, rfl⟩, rfl, rfl⟩
                exact ⟨rfl, rfl⟩
            · rintro g' ds ⟨_, rfl⟩
              show 3 ≤ 1000000
              decide
            · rintro g' ds ⟨g1, x, r, rfl, ⟨ls, rfl, rfl, rfl⟩, rfl, rfl⟩
              exact ⟨rfl, rfl⟩
            · rintro g1 ds ⟨rfl, rfl⟩
              exact ⟨_, rfl, o3, fun g' d h => h⟩
            · rintro g' d ⟨rfl, rfl⟩
              refine ⟨hk, .dat (nt k), .dat (encR r), .dat (.list ((writing small L.2 k).map nt)), .dat (nt h'.2), x11, x12, x13, ?_⟩
              rw [List.map_append]
              rfl
          · have hw : writing small L.2 k = [] := by
              cases z : writing small L.2 k with
              | nil => rfl
              | cons a b => rw [z] at h; cases h
            rw [if_pos hw]
            exact ⟨hk, .dat (nt k), .dat (encR r), .dat (.list ((writing small L.2 k).map nt)), x10, x11, x12, x13, rfl⟩
      · rintro g1 env1 ⟨_, x7, x8, x9, x10, x11, x12, x13, e⟩
        rw [enumD_len, List.length_map, List.take_of_length_le (by rw [List.length_range]; exact Nat.le_refl _)] at e
        exact ⟨x7, x8, x9, x10, x11, x12, x13, e⟩
    · rintro g1 env1 ⟨x7, x8, x9, x10, x11, x12, x13, e⟩
      injection e with e1 e2
      subst e1 e2
      obtain ⟨fg, fl, fn⟩ := gF small.length
      rw [List.take_of_length_le (by rw [List.length_range]; exact Nat.le_refl _)] at fg fl fn
      rw [List.length_range] at fg fn
      refine hw_freeze (i := 6) rfl ?_
      generalize hF : accF small L.2 Bb.2 (Bb.1, []) (List.range small.length) = F at fg fl fn ⊢
      obtain ⟨sf1, sf2, sf3⟩ := fg.size
      have sf2 : F.1.rows.length ≤ Bb.1.rows.length + 17 * small.length := sf2
      have fn : F.2.length ≤ 0 + small.length := fn
      have o1 : OpsOk F.1 F.2 := ⟨fl, by omega⟩
      obtain ⟨b1, b2⟩ := putAll_gr (b := false) fg.ok o1
      obtain ⟨t1, t2, t3⟩ := b1.size
      refine hw_ret (ew_methP (r := shRs P w K C) (p := p) (P := fun g' d => d = encRec m ((F.1.putAll false F.2).1.told (F.1.putAll false F.2).2).rows) (Pa := fun g' ds => g' = (F.1.putAll false F.2).1 ∧ ds = [nt (F.1.putAll false F.2).2]) rfl (sh_in fun _ _ _ => rfl) (EaW.imp (eaw_cons (Pr := fun g1 _ g' l => g' = g1 ∧ l = []) (ew_putAll (b := false) rfl (ea_cons ev_str (ea_cons (ev_var rfl) ea_nil)) o1) fun g1 _ _ => eaw_nil) ?_) ?_) ?_
      · rintro g' ds ⟨g2, y, r, rfl, ⟨rfl, rfl⟩, rfl, rfl⟩
        exact ⟨rfl, rfl⟩
      · rintro g1 ds ⟨rfl, rfl⟩
        refine ⟨_, rfl, ⟨b2, by omega⟩, fun g' d h => ?_⟩
        have hmm : (F.1.putAll false F.2).1.m = m := by
          rw [b1.m]
          have : F.1.m = Bb.1.m := fg.m
          rw [this, bm]
        rw [h.2, hmm]
      · intro g' d e
        exact e
  · exact hs_dies (dies_call (α := AM) (m, rows) (ea_cons (ev_var rfl) ea_nil) ok S) fun σ B H A => he S B H A
end
end SS
namespace SS
open PySem PySem.Spec PyProof.Rows L2 DL
/-! ### the least machine is one -/
section
variable {m : Nat} {rows : List Row}
theorem Scan.uni {os : List Nat} {i k : Nat} (h : Scan m rows os i k) : ∀ os', Scan m rows os' i k → os = os' := by
  induction h with
  | start =>
    intro os' h'
    cases h'
    rfl
  | old h hq hk hb ih =>
    intro os' h'
    cases h' with
    | old h2 hq2 _ hb2 => exact ih _ h2
    | new h2 hq2 _ hb2 =>
      have := ih _ h2
      subst this
      rw [hq] at hq2
      cases hq2
      exact absurd hb hb2
  | new h hq hk hb ih =>
    intro os' h'
    cases h' with
    | old h2 hq2 _ hb2 =>
      have := ih _ h2
      subst this
      rw [hq] at hq2
      cases hq2
      exact absurd hb2 hb
    | new h2 hq2 _ hb2 =>
      have := ih _ h2
      subst this
      rw [hq] at hq2
      cases hq2
      rfl
  | row h hi ih =>
    intro os' h'
    cases h' with
    | row h2 _ => exact ih _ h2
theorem idx_same {f g : Nat → Nat} {a : Nat} : ∀ {os : List Nat}, (∀ b ∈ os, f b = f a ↔ g b = g a) → (os.map f).idxOf (f a) = (os.map g).idxOf (g a)
  | [], _ => rfl
  | b :: os, h => by
    have ih := idx_same (os := os) fun c hc => h c (List.mem_cons_of_mem _ hc)
    rw [List.map_cons, List.map_cons, List.idxOf_cons, List.idxOf_cons, ih]
    by_cases e : f b = f a
    · have e2 := (h b List.mem_cons_self).mp e
      rw [e, e2]
      simp
    · have e2 : ¬ g b = g a := fun z => e ((h b List.mem_cons_self).mpr z)
      rw [beq_false_of_ne e, beq_false_of_ne e2]
theorem can_uni {s1 s2 : List Row} (ok : Ok m rows) (h1 : Can m rows s1) (h2 : Can m rows s2) (hl : s1.length = s2.length) : s1 = s2 := by
  obtain ⟨os, L, f, st, nf, sc, hr, rfl⟩ := h1
  obtain ⟨os', L', f', st', nf', sc', _, rfl⟩ := h2
  unfold smallOf at hl
  rw [List.length_map, List.length_map] at hl
  rw [← hl] at sc'
  have := sc.uni _ sc'
  subst this
  unfold smallOf
  refine List.map_congr_left fun q hq => List.map_congr_left fun p hp => ?_
  have hrq := hr q hq
  have hql := rch_lt ok hrq
  obtain ⟨x, hx⟩ := List.mem_iff_getElem?.mp hp
  have hxl := (List.getElem?_eq_some_iff.mp hx).1
  rw [row_len ok hql] at hxl
  rw [row_cell ok hql hxl] at hx
  cases hx
  have hrp : Rch m rows (stepR rows q x).1 := .step hrq hxl
  have e : (os.map f).idxOf (f (stepR rows q x).1) = (os.map f').idxOf (f' (stepR rows q x).1) := idx_same fun b hb => by
    rw [nf.same b _ ((st.rch b).mpr (hr b hb)) ((st.rch _).mpr hrp), nf'.same b _ ((st'.rch b).mpr (hr b hb)) ((st'.rch _).mpr hrp)]
  rw [e]
end
end SS
namespace SS
open PySem PySem.Spec PyProof.Rows L2 DL
open Evl (Ex ex_l ex_t)
/-! ### dicts with str keys -/
def lookS : List (Str × D) → Str → Option D
  | [], _ => none
  | p :: m, x => if p.1 = x then some p.2 else lookS m x
section
variable {K : PySem.W.Frag} {B : Hp}
theorem dks_look {x : Str} : ∀ {m : List (Str × D)} {ks : List (Key × V)}, DtKv K B ks (mkS m) → (∀ d, lookS m x = some d → ∃ v, valV ks (.inr x) = some v ∧ Dt K B v d) ∧ (lookS m x = none → valV ks (.inr x) = none)
  | [], _, h => by
    cases h
    exact ⟨fun d z => (by cases z), fun _ => rfl⟩
  | p :: m, _, h => by
    have h' : DtKv K B _ ((.str p.1, p.2) :: mkS m) := h
    cases h' with
    | conS hd t =>
      obtain ⟨i1, i2⟩ := dks_look (x := x) t
      unfold lookS
      by_cases e : p.1 = x
      · rw [if_pos e, valV_pos (by rw [e])]
        exact ⟨fun d z => by cases z; exact ⟨_, rfl, hd⟩, fun z => nomatch z⟩
      · rw [if_neg e, valV_neg (fun z => e (Sum.inr.inj z))]
        exact ⟨i1, i2⟩
theorem dks_app : ∀ {m m2 : List (Str × D)} {ks ks2 : List (Key × V)}, DtKv K B ks (mkS m) → DtKv K B ks2 (mkS m2) → DtKv K B (ks ++ ks2) (mkS (m ++ m2))
  | [], _, _, _, h, h2 => by
    cases h
    exact h2
  | p :: m, _, _, _, h, h2 => by
    have h' : DtKv K B _ ((.str p.1, p.2) :: mkS m) := h
    cases h' with
    | conS hd t => exact .conS hd (dks_app t h2)
theorem dks_len : ∀ {m : List (Str × D)} {ks : List (Key × V)}, DtKv K B ks (mkS m) → ks.length = m.length
  | [], _, h => by
    cases h
    rfl
  | p :: m, _, h => by
    have h' : DtKv K B _ ((.str p.1, p.2) :: mkS m) := h
    cases h' with
    | conS hd t => exact congrArg (· + 1) (dks_len t)
theorem dks_put {x : Str} {v : V} {d : D} {m : List (Str × D)} {ks : List (Key × V)} (hv : Dt K B v d) (h : DtKv K B ks (mkS m)) (hn : lookS m x = none) : DtKv K B (putK ks (.inr x) v) (mkS (m ++ [(x, d)])) := by
  unfold putK
  rw [valV_any, (dks_look h).2 hn, if_neg (by decide)]
  exact dks_app h (.conS hv .nil)
end
section
variable {c : Cn} {env : List Sl} {j : Nat} {tk tv : TE} {o : Po} {P : D → Prop}
theorem ev_sGet {m : List (Str × D)} {x : Str} {d : D} (h0 : env[j]? = some (.dat (.dict (mkS m)))) (hk : Ev c tk env (.str x)) (h : lookS m x = some d) : Ev c (tDGet (tVar j) tk) env d := fun σ B H A e Q q => by
  obtain ⟨y, h1, v, h2, h3⟩ := e.at_ j _ h0
  subst h2
  cases h3 with
  | dic g1 g2 =>
    refine ⟨_, h1, ?_⟩
    refine hk σ B H A e _ fun v d' B1 H1 x1 r1 t1 p1 => ?_
    subst p1
    rw [dp_str_inv t1]
    obtain ⟨w, g3, g4⟩ := (dks_look g2).1 d h
    exact ⟨_, w, rfl, by rw [← g3]; exact DGet.k (k := .inr x) (x1.s _ _ (x1.b _ _ g1)), q _ _ B1 H1 x1 r1 (dp_mono x1.b g4) rfl⟩
theorem hs_sPut {m : List (Str × D)} {x : Str} {p : Addr} (h : env[j]? = some (.ow p (.idc (mkS m)))) (hv : EvP c tv env P) (hk : Ev c tk env (.str x)) (hn : lookS m x = none) (hz : m.length < 1000000) (k : ∀ d, P d → o.nx (env.set j (.ow p (.idc (mkS (m ++ [(x, d)])))))) : HS c (sDPut (tVar j) tk tv) env o := fun X σ B H A e g => by
  refine hv σ B H A e _ fun v d B1 H1 x1 r1 t1 p1 => ?_
  have A1 := A.go x1 r1
  have e1 := e.go x1
  obtain ⟨y, h1, h2, ⟨ks, g1, g2⟩, h3, h4, h5⟩ := e1.at_ j _ h
  subst h2
  refine ⟨.ref p, h1, ?_⟩
  refine hk σ B1 H1 A1 e1 _ fun w d' B2 H2 x2 r2 t2 p2 => ?_
  subst p2
  rw [dp_str_inv t2]
  have hp : H2 p = some (.dK ks) := x2.k _ _ g1 h4
  have hl : ks.length < sizeLine := by rw [dks_len g2]; exact szlt hz
  refine ⟨p, _, rfl, DPut.k (k := .inr x) (v := v) hp hl, ?_⟩
  obtain ⟨A3, e3⟩ := ow_step (ob := .dK (putK ks (.inr x) v)) (u' := .idc (mkS (m ++ [(x, d)]))) (A1.go x2 r2) (e1.go x2) h ⟨_, upd_same, dks_put (dp_mono x2.b t1) (dtkv_mono x2.b g2) hn⟩
  exact g.nx σ B2 _ _ (x1.b.trans x2.b) A3 e3 (k d p1)
end
end SS
namespace SS
open PySem PySem.Spec PyProof.Rows L2 DL
open Evl (Ex ex_l ex_t)
section
variable {c : Cn} {env : List Sl} {i j : Nat} {ta tb te tk tv : TE} {o : Po} {P : D → Prop}
theorem hx_sPut {m : List (Str × D)} {x : Str} {p : Addr} {d : D} (h : env[j]? = some (.ow p (.idc (mkS m)))) (hn : lookS m x = none) (hz : m.length < 1000000) : HX c (gSub (tVar j) (tC (.str x)) rSetD) d env (env.set j (.ow p (.idc (mkS (m ++ [(x, d)]))))) := fun v σ B H A e t k q => by
  obtain ⟨y, h1, h2, ⟨ks, g1, g2⟩, h3, h4, h5⟩ := e.at_ j _ h
  subst h2
  refine ⟨_, h1, p, _, rfl, DPut.k (k := .inr x) (v := v) g1 (by rw [dks_len g2]; exact szlt hz), ?_⟩
  obtain ⟨A3, e3⟩ := ow_step (ob := .dK (putK ks (.inr x) v)) (u' := .idc (mkS (m ++ [(x, d)]))) A e h ⟨_, upd_same, dks_put t g2 hn⟩
  exact q σ B _ (Ex.refl B) A3 e3
theorem ev_max2 {a b : Nat} (ha : Ev c ta env (nt a)) (hb : Ev c tb env (nt b)) : Ev c (tCB Evl.rMax2 (tCons ta (tCons tb tNil))) env (nt (max a b)) := (ev_cb (ea_cons ha (ea_cons hb ea_nil)) fun B H xs A t Q q => by
    cases t with
    | cons t1 t2 =>
      cases t2 with
      | cons t2 t3 =>
        cases t3
        rw [dp_int_inv t1, dp_int_inv t2]
        exact ⟨_, _, rfl, q _ (nt (max a b)) B H A.same A.r (by
          have e : (if (b : Int) > (a : Int) then (b : Int) else (a : Int)) = ((max a b : Nat) : Int) := by
            split <;> omega
          rw [e]
          exact .int _) rfl⟩)
/-- [(f(code), g(code)) for code in eight] -/
theorem en_tab {f g : Nat → Nat} (hw : Ev c (tVar 1) env (encL eight)) (h1 : ∀ k, k < 8 → Ev c ta ((wipeE env [3]).set 3 (.dat (nt k))) (nt (f k))) (h2 : ∀ k, k < 8 → Ev c tb ((wipeE env [3]).set 3 (.dat (nt k))) (nt (g k))) :
    Ev c (tLc (iSeq c.K (tVar 1)) (gName 3) tYes (tTup (tCons ta (tCons tb tNil))) [3]) env (encTab (eight.map fun k => (f k, g k))) := by
  refine ev_new (en_lcV (ds := eight.map nt) (ls := (eight.map fun k => (f k, g k)).map encP) (ei_seqL hw) (by decide) (by rw [List.length_map, List.length_map, List.length_map]) fun i d y hd hy => ?_)
  obtain ⟨k, hk, rfl⟩ := map_at hd
  have hk8 : k < 8 := List.mem_range.mp (List.mem_of_getElem? hk)
  rw [List.getElem?_map, List.getElem?_map, hk] at hy
  obtain rfl : encP (f k, g k) = y := Option.some.inj hy
  exact ⟨_, _, hg_name, by decide, ev_tup (ea_cons (h1 k hk8) (ea_cons (h2 k hk8) ea_nil)) (by show 2 ≤ 1000000; decide)⟩
end
end SS
namespace SS
open PySem PySem.Spec PyProof.Rows L2 DL
open Evl (Ex ex_l ex_t)
section
variable {c : Cn} {env : List Sl} {i j : Nat} {ta tb te tk tv : TE} {K : PySem.W.Frag} {B0 H0 : Hp} {k a b : Nat}
theorem v_m2 (h : Ev c ta env (nt k)) : Ev c (tOp (rI (fun _ j => j ≠ 0) fun i j => .int (i.fmod j)) ta (tC (.int 2))) env (nt (k % 2)) := ev_op h (ev_nat 2) (opd_modN (by decide))
theorem v_d2 (h : Ev c ta env (nt k)) : Ev c (tOp (rI CDivW fun i j => .int (i / j)) ta (tC (.int 2))) env (nt (k / 2)) := ev_op h (ev_nat 2) (opd_divN (by decide) (by decide))
theorem v_d4 (h : Ev c ta env (nt k)) : Ev c (tOp (rI CDivW fun i j => .int (i / j)) ta (tC (.int 4))) env (nt (k / 4)) := ev_op h (ev_nat 4) (opd_divN (by decide) (by decide))
theorem v_add (h : Ev c ta env (nt a)) (h2 : Ev c tb env (nt b)) : Ev c (tOp (rAddU c.K) ta tb) env (nt (a + b)) := ev_op h h2 opd_addN
theorem v_rep {x : Nat × Nat} (h : Ev c ta env (encP x)) : Ev c (tOp rMulU (tLst (tCons ta tNil)) (tC (.int 8))) env (encTab (eight.map fun _ => x)) := by
  refine ev_new ((en_repP (k := 8) (P := fun ds => ds = (eight.map fun _ => x).map encP) (en_lst (ea_cons h ea_nil) (by show 1 ≤ 1000000; decide)) ev_int (by omega) fun y e => ?_))
  subst e
  exact ⟨by show 1 * 8 ≤ 1000000; decide, rfl⟩
theorem v_p {x y : Nat} (h : Ev c ta env (nt x)) (h2 : Ev c tb env (nt y)) : Ev c (tTup (tCons ta (tCons tb tNil))) env (encP (x, y)) := ev_tup (ea_cons h (ea_cons h2 ea_nil)) (by show 2 ≤ 1000000; decide)
def odds : List Nat := eight.map fun c => (c + c / 2 + c / 4) % 2
theorem h_law_tables (a : Unit) (hp : True) : HS (pureCn K B0 H0) (t_law_tables K) [.no, .no, .no, .no] { rt := fun d => d = tabsD, nx := fun _ => (PyData.none : D) = tabsD } := by
  refine hs_seq (hs_par (eas_ow eno_dnewK (eas_dat (ev_new (en_listRg (n := 8) (ev_nat 8) (by decide))) eas_nil)) ?_)
  rintro ss ⟨p, u, r, rfl, rfl, d, r2, rfl, rfl, rfl⟩
  refine ⟨_, _, rfl, ?_⟩
  refine hs_seq (hs_asgX (ev_tup (ea_cons (v_rep (x := (0, 0)) (v_p (ev_nat 0) (ev_nat 0))) (ea_cons (v_rep (x := (1, 0)) (v_p (ev_nat 1) (ev_nat 0))) ea_nil)) (by show 2 ≤ 1000000; decide)) ?_)
  rintro d rfl
  refine ⟨_, hx_tup (hxs_cons (hx_sPut (m := []) rfl rfl (by decide)) (hxs_cons (hx_sPut (p := p) rfl (by rfl) (by show 1 < 1000000; decide)) hxs_nil)) rfl, ?_⟩
  refine hs_seq (hs_sPut rfl (en_tab (f := fun k => 1 - k % 2) (g := fun _ => 0) (ev_var rfl) (fun k hk => (ev_op (ev_nat 1) (v_m2 (ev_var rfl)) (opd_subN (by omega)))) (fun k hk => ev_nat 0)) ev_str (by rfl) (by show 2 < 1000000; decide) ?_)
  rintro d rfl
  refine hs_seq (hs_sPut rfl (en_tab (f := fun k => k % 2 * (k / 2 % 2)) (g := fun k => 0) (ev_var rfl) (fun k hk => ev_op (v_m2 (ev_var rfl)) (v_m2 (v_d2 (ev_var rfl))) (opd_mulN (by omega))) (fun k hk => ev_nat 0)) ev_str (by rfl) (by show 3 < 1000000; decide) ?_)
  rintro d rfl
  refine hs_seq (hs_sPut rfl (en_tab (f := fun k => max (k % 2) (k / 2 % 2)) (g := fun k => 0) (ev_var rfl) (fun k hk => ev_max2 (v_m2 (ev_var rfl)) (v_m2 (v_d2 (ev_var rfl)))) (fun k hk => ev_nat 0)) ev_str (by rfl) (by show 4 < 1000000; decide) ?_)
  rintro d rfl
  refine hs_seq (hs_sPut rfl (en_tab (f := fun k => (k + k / 2) % 2) (g := fun k => 0) (ev_var rfl) (fun k hk => v_m2 (v_add (ev_var rfl) (v_d2 (ev_var rfl)))) (fun k hk => ev_nat 0)) ev_str (by rfl) (by show 5 < 1000000; decide) ?_)
  rintro d rfl
  refine hs_seq (hs_sPut rfl (en_tab (f := fun k => k / 4) (g := fun k => k % 2) (ev_var rfl) (fun k hk => (v_d4 (ev_var rfl))) (fun k hk => (v_m2 (ev_var rfl)))) ev_str (by rfl) (by show 6 < 1000000; decide) ?_)
  rintro d rfl
  refine hs_seq (hs_sPut rfl (en_tab (f := fun k => (k + k / 4) % 2) (g := fun k => max (k % 2) (k / 4)) (ev_var rfl) (fun k hk => (v_m2 (v_add (ev_var rfl) (v_d4 (ev_var rfl))))) (fun k hk => ev_max2 (v_m2 (ev_var rfl)) (v_d4 (ev_var rfl)))) ev_str (by rfl) (by show 7 < 1000000; decide) ?_)
  rintro d rfl
  refine hs_seq (hs_setV (d := encL odds) (ev_new (en_lcV (ds := eight.map nt) (ls := odds.map nt) (ei_seqL (ev_var rfl)) (by decide) (by decide) fun i d y hd hy => ?_)) ?_)
  · obtain ⟨k, hk, rfl⟩ := map_at hd
    unfold odds at hy
    rw [List.getElem?_map, List.getElem?_map, hk] at hy
    obtain rfl : nt ((k + k / 2 + k / 4) % 2) = y := Option.some.inj hy
    exact ⟨_, _, hg_name, by decide, v_m2 (v_add (v_add (ev_var rfl) (v_d2 (ev_var rfl))) (v_d4 (ev_var rfl)))⟩
  refine hs_seq (hs_sPut rfl (en_tab (f := fun k => (k + k / 2 + k / 4) % 2) (g := fun k => (k % 2 + k / 2 % 2 + k / 4) / 2) (ev_var rfl) (fun k hk => (ev_ixLm (f := nt) (n := k) (xs := odds) (es_of (ev_var rfl)) (ev_var rfl) (by unfold odds eight; rw [List.getElem?_map, List.getElem?_range hk]; rfl))) (fun k hk => v_d2 (v_add (v_add (v_m2 (ev_var rfl)) (v_m2 (v_d2 (ev_var rfl)))) (v_d4 (ev_var rfl))))) ev_str (by rfl) (by show 8 < 1000000; decide) ?_)
  rintro d rfl
  refine hs_seq (hs_sPut rfl (en_tab (f := fun k => (k + k / 2 + k / 4) % 2) (g := fun k => if k % 2 < k / 2 % 2 + k / 4 then 1 else 0) (ev_var rfl) (fun k hk => (ev_ixLm (f := nt) (n := k) (xs := odds) (es_of (ev_var rfl)) (ev_var rfl) (by unfold odds eight; rw [List.getElem?_map, List.getElem?_range hk]; rfl))) (fun k hk => (ev_intB (ev_op (v_m2 (ev_var rfl)) (v_add (v_m2 (v_d2 (ev_var rfl))) (v_d4 (ev_var rfl))) opd_ltN)).imp fun d e => by rw [e, bool_nt]; by_cases h : k % 2 < k / 2 % 2 + k / 4 <;> simp [h])) ev_str (by rfl) (by show 9 < 1000000; decide) ?_)
  rintro d rfl
  refine hs_seq (hs_sPut rfl (en_tab (f := fun k => (k + k / 4) % 2) (g := fun k => (k + k / 4) % 2) (ev_var rfl) (fun k hk => (v_m2 (v_add (ev_var rfl) (v_d4 (ev_var rfl))))) (fun k hk => (v_m2 (v_add (ev_var rfl) (v_d4 (ev_var rfl)))))) ev_str (by rfl) (by show 10 < 1000000; decide) ?_)
  rintro d rfl
  refine hs_freezeD (i := 0) rfl (hs_ret (ev_var rfl) fun d e => ?_)
  subst e
  rfl
end
end SS
namespace SS
open PySem PySem.Spec PyProof.Rows L2 DL
open Evl (Ex ex_l ex_t)
section
variable {c : Cn} {env : List Sl} {i j : Nat} {ta tb te tk tv : TE} {K : PySem.W.Frag} {B0 H0 : Hp} {m : Nat} {rows : List QRow}
theorem kin_word {w : Str} {n : Nat} (h : (w, n) ∈ kin) : SeqAt.shaped (.str w) = true ∧ PyData.eqv (.str w) (.str "mask") = false ∧ lookS (tabs.map fun p => (p.1, encTab p.2)) w = some (encTab (tabOf1 w)) ∧ n ≤ 2 := by
  unfold kin at h
  simp only [List.mem_cons, List.not_mem_nil, or_false, Prod.mk.injEq] at h
  rcases h with ⟨rfl, rfl⟩ | ⟨rfl, rfl⟩ | ⟨rfl, rfl⟩ | ⟨rfl, rfl⟩ | ⟨rfl, rfl⟩ | ⟨rfl, rfl⟩ | ⟨rfl, rfl⟩ | ⟨rfl, rfl⟩ | ⟨rfl, rfl⟩ | ⟨rfl, rfl⟩ <;> exact ⟨by decide +kernel, by decide +kernel, rfl, by decide⟩
theorem at0 {x : D} {xs : List D} : atI (x :: xs) 0 = some x := by
  have h : atI (x :: xs) ((0 : Nat) : Int) = (x :: xs)[0]? := atI_nat'
  exact h
theorem ev_eqS1 {w x : Str} {b : Bool} (h : Ev c ta env (.str w)) (k1 : SeqAt.shaped (.str w) = true) (k2 : SeqAt.shaped (.str x) = true) (k3 : PyData.eqv (.str w) (.str x) = b) : Ev c (tOp (rEqD c.K) ta (tC (.str x))) env (.bool b) :=
  (ev_op h (ev_str (n := x)) (opd_eq k1 k2)).imp fun d e => by rw [e, k3]
theorem h_law_plan (a : AQ) (ok : OkQ a.1 a.2) : HS (pureCn K B0 H0) (t_law_plan K) [.dat (encRec a.1 a.2), .no, .no, .no, .no, .no] { rt := fun d => d = .list ((a.2.map planRow).map encPl), nx := fun _ => (PyData.none : D) = .list ((a.2.map planRow).map encPl) } := by
  refine hs_seq (hs_par (eas_dat (ev_call (c := pureCn K B0 H0) (α := Unit) () ea_nil trivial) (eas_own (en_lst ea_nil (Nat.zero_le _)) eas_nil)) ?_)
  rintro ss ⟨d, r, rfl, rfl, p, ds, r2, rfl, rfl, rfl⟩
  refine ⟨_, _, rfl, ?_⟩
  refine hs_seq (hs_for (ds := a.2.map encQ) (fun k env => ∃ y3 y4 y5, env = [.dat (encRec a.1 a.2), .dat tabsD, .own p (((a.2.take k).map planRow).map encPl), y3, y4, y5]) (ei_seqT (ev_ixT (j := 1) (ds := [nt a.1, .tuple (a.2.map encQ)]) (ev_var rfl) ev_int rfl)) ⟨_, _, _, by rw [List.take_zero]; rfl⟩ ?_ ?_)
  · rintro i d env hd ⟨y3, y4, y5, rfl⟩
    obtain ⟨q, hq, rfl⟩ := map_at hd
    obtain ⟨hk, ho⟩ := ok.row i q hq
    obtain ⟨k1, k2, k3, k4⟩ := kin_word hk
    have hf := ok.few
    have hi : i < a.2.length := (List.getElem?_eq_some_iff.mp hq).1
    refine ⟨_, _, hg_name, ?_⟩
    refine hs_if (b := false) (et_test (ev_eqS1 (ev_ixT (j := 0) (ds := .str q.1 :: q.2.map nt) (ev_var rfl) ev_int at0) k1 (by decide +kernel) k2)) (fun h => nomatch h) fun _ => ?_
    refine hs_seq (hs_set (P := fun d => d = encL (q.2.map (· + 1) ++ [0, 0])) ((ev_newP (en_catP (P := fun ds => ds = (q.2.map (· + 1) ++ [0, 0]).map nt) (Pa := fun ds => ds = (q.2.map (· + 1)).map nt) (Pb := fun ds => ds = [nt 0, nt 0])
      (en_lcV (ds := q.2.map nt) (ls := (q.2.map (· + 1)).map nt) (ei_seqT ((ev_slT (lo := some 1) (hi := none) (ds := .str q.1 :: q.2.map nt) (ev_var rfl) (eo_some ev_int) eo_none).is (by
        rw [show (1 : Int) = ((1 : Nat) : Int) from rfl, cutD_from]
        rfl))) (by rw [List.length_map]; omega) (by rw [List.length_map, List.length_map, List.length_map]) fun j d y hd hy => ?_)
      (en_lst (ea_cons (ev_nat 0) (ea_cons (ev_nat 0) ea_nil)) (by show 2 ≤ 1000000; decide)) fun x y e1 e2 => ?_)).imp fun d ⟨ds, e1, e2⟩ => by rw [e1, e2]; rfl) ?_)
    · obtain ⟨k, hk, rfl⟩ := map_at hd
      rw [List.getElem?_map, List.getElem?_map, hk] at hy
      obtain rfl : nt (k + 1) = y := Option.some.inj hy
      exact ⟨_, _, hg_name, by decide, v_add (ev_var rfl) (ev_nat 1)⟩
    · subst e1 e2
      exact ⟨by rw [List.length_map, List.length_map]; show q.2.length + 2 ≤ 1000000; omega, by rw [List.map_append]; rfl⟩
    rintro d rfl
    have g0 : (q.2.map (· + 1) ++ [0, 0])[0]? = some ((q.2.map (· + 1) ++ [0, 0])[0]?.getD 0) := by rw [List.getElem?_eq_getElem (by rw [List.length_append]; show 0 < _ + 2; omega)]; rfl
    have g1 : (q.2.map (· + 1) ++ [0, 0])[1]? = some ((q.2.map (· + 1) ++ [0, 0])[1]?.getD 0) := by rw [List.getElem?_eq_getElem (by rw [List.length_append]; show 1 < _ + 2; omega)]; rfl
    refine hs_app rfl (by rw [List.length_map, List.length_map, List.length_take]; omega) (ev_tup (ea_cons (ev_sGet (m := tabs.map fun p => (p.1, encTab p.2)) rfl (ev_ixT (j := 0) (ds := .str q.1 :: q.2.map nt) (ev_var rfl) ev_int at0) k3) (ea_cons (ev_ixLm (f := nt) (n := 0) (es_of (ev_var rfl)) (ev_nat 0) g0) (ea_cons (ev_ixLm (f := nt) (n := 1) (es_of (ev_var rfl)) (ev_nat 1) g1) ea_nil))) (by show 3 ≤ 1000000; decide)) ?_
    rintro d rfl
    have e : ((a.2.take (i + 1)).map planRow).map encPl = ((a.2.take i).map planRow).map encPl ++ [encPl (planRow q)] := by
      rw [show a.2.take (i + 1) = a.2.take i ++ [q] by rw [List.take_add_one, hq]; rfl, List.map_append, List.map_append]
      rfl
    exact ⟨.dat (encQ q), .dat (encL (q.2.map (· + 1) ++ [0, 0])), y5, by rw [e]; rfl⟩
  · rintro env ⟨y3, y4, y5, rfl⟩
    refine hs_freeze (i := 2) rfl (hs_ret (ev_var rfl) fun d e => ?_)
    rw [e, List.length_map, List.take_length]
end
end SS
namespace SS
open PySem PySem.Spec PyProof.Rows L2 DL
open Evl (Ex ex_l ex_t)
section
variable {c : Cn} {env : List Sl} {i j : Nat} {ta tb te tk tv : TE} {K : PySem.W.Frag} {B0 H0 : Hp} {m : Nat} {rows : List QRow}
theorem ev_isL {ds : List D} (h : Ev c te env (.list ds)) : Ev c (tOp rIsN te (tC .non)) env (.bool false) := ev_op h ev_non (opd_val fun B H x y A tx ty => ⟨.bl false, .bl _, fun Q q => by
  cases tx
  rw [dp_non_inv ty]
  exact ⟨rfl, q⟩⟩)
theorem ev_neg1 : Ev c (tUn (rU fun i => .int (-i)) (tC (.int 1))) env (.int (-1)) := ev_unP (Pa := fun d => d = .int 1) ev_int fun a e B H x A tx Q q => by
  subst e
  rw [dp_int_inv tx]
  exact ⟨1, rfl, q _ (.int (-1)) B H A.same A.r (.int _) rfl⟩
theorem atI_last {ds : List D} {d : D} (h : ds.getLast? = some d) : atI ds (-1) = some d := by
  have hp : 0 < ds.length := by
    cases ds with
    | nil => cases h
    | cons a r => exact Nat.succ_pos _
  unfold atI
  have : ixN ds.length (-1) = some (ds.length - 1) := by
    unfold ixN
    rw [if_neg (by omega), if_pos (by omega)]
    congr 1
    omega
  rw [this]
  show ds[ds.length - 1]? = some d
  rw [← List.getLast?_eq_getElem?, h]
theorem h_law_beat (a : AB) (ok : OkB a) : HS (pureCn K B0 H0) (t_law_beat K) [.dat (.list ((a.rows.map planRow).map encPl)), .dat (encL (lbits a.m a.x)), .dat (encW a.kept), .no, .no, .no, .no, .no, .no, .no, .no]
    { rt := fun d => d = .tuple [nt (beat (a.rows.map planRow) (lbits a.m a.x) a.kept).1, encW (beat (a.rows.map planRow) (lbits a.m a.x) a.kept).2], nx := fun _ => (PyData.none : D) = .tuple [nt (beat (a.rows.map planRow) (lbits a.m a.x) a.kept).1, encW (beat (a.rows.map planRow) (lbits a.m a.x) a.kept).2] } := by
  obtain ⟨m, rows, x, kept⟩ := a
  obtain ⟨ok, hx, hl, hbit⟩ := ok
  simp only at ok hx hl hbit ⊢
  have hfew := ok.few
  have hm2 := ok.m2
  refine hs_seq (hs_par (eas_own (en_catNP (P := fun ds => ds = (0 :: lbits m x).map nt) (Pa := fun ds => ds = [nt 0]) (Pb := fun d => d = encL (lbits m x)) (en_lst (ea_cons (ev_nat 0) ea_nil) (by show 1 ≤ 1000000; decide)) (ev_var rfl) fun y d e1 e2 => ?_) (eas_own (en_lst ea_nil (Nat.zero_le _)) eas_nil)) ?_)
  · subst e1 e2
    exact ⟨(lbits m x).map nt, rfl, by rw [List.length_map, lbits_len]; show 1 + m ≤ 1000000; omega, rfl⟩
  rintro ss ⟨p, ds, r, rfl, rfl, q, es, r2, rfl, rfl, rfl⟩
  refine ⟨_, _, rfl, ?_⟩
  refine hs_seq (hs_for (ds := enumD ((rows.map planRow).map encPl)) (fun k env => ∃ (ahead later : List Nat) (y5 y6 y7 y8 y9 y10 : Sl), env = [.dat (.list ((rows.map planRow).map encPl)), .dat (encL (lbits m x)), .dat (encW kept), .own p (ahead.map nt), .own q (later.map nt), y5, y6, y7, y8, y9, y10] ∧
      ahead.length = m + 1 + k ∧ later.length = k ∧ (∀ b ∈ ahead, b < 2) ∧ beatF (rows.map planRow) (0 :: lbits m x) kept = ((beatF ((rows.map planRow).drop k) ahead (kept.drop k)).1, later ++ (beatF ((rows.map planRow).drop k) ahead (kept.drop k)).2))
    (ei_enL (ev_var rfl)) ⟨0 :: lbits m x, [], _, _, _, _, _, _, rfl, by rw [List.length_cons, lbits_len], rfl, fun b hb => ?_, rfl⟩ ?_ ?_)
  · rcases List.mem_cons.mp hb with e | h
    · omega
    · exact lbits_lt b h
  · rintro i d env hd ⟨ahead, later, y5, y6, y7, y8, y9, y10, rfl, ha, hla, hb, hbeat⟩
    obtain ⟨e, he, rfl⟩ := enum_at hd
    obtain ⟨pr, hpr, rfl⟩ := map_at he
    obtain ⟨qr, hq, rfl⟩ := map_at hpr
    have hi : i < rows.length := (List.getElem?_eq_some_iff.mp hq).1
    obtain ⟨kb, hkb⟩ : ∃ kb, kept[i]? = some kb := ⟨_, List.getElem?_eq_getElem (by omega)⟩
    have kb2 := hbit kb (List.mem_of_getElem? hkb)
    obtain ⟨hk1, ho1⟩ := ok.row i qr hq
    obtain ⟨u, v, g1, g2, g3, g4, g5⟩ := rule_ok (n := m + i) hk1 ho1 (by omega) hb kb2
    refine ⟨_, _, hg_tup (hgs_cons hg_name (hgs_cons (hg_tup (hgs_cons hg_name (hgs_cons hg_name (hgs_cons hg_name hgs_nil))) rfl) hgs_nil)) rfl, ?_⟩
    refine hs_if (b := false) (et_test (ev_isL (ds := (planRow qr).1.map encP) (ev_var rfl))) (fun h => nomatch h) fun _ => ?_
    refine hs_seq (hs_asg (P := fun d => d = encP (ruleAt (planRow qr) ahead kb)) (ev_ixLm (f := encP) (n := u + 2 * v + 4 * kb) (es_of (ev_var rfl)) (v_add (v_add (ev_ixLm (f := nt) (n := (planRow qr).2.1) (xs := ahead) (es_own rfl) (ev_var rfl) g1) (ev_op (ev_nat 2) (ev_ixLm (f := nt) (n := (planRow qr).2.2) (xs := ahead) (es_own rfl) (ev_var rfl) g2) (opd_mulN (by decide)))) (ev_op (ev_nat 4) (ev_ixTm (f := nt) (n := i) (ev_var rfl) (ev_var rfl) hkb) (opd_mulN (by decide)))) g3) ?_)
    rintro d rfl
    refine ⟨_, _, hg_tup (hgs_cons hg_name (hgs_cons hg_name hgs_nil)) rfl, ?_⟩
    refine hs_seq (hs_app rfl (by rw [List.length_map]; omega) (ev_var rfl) ?_)
    rintro d rfl
    refine hs_app rfl (by rw [List.length_map]; omega) (ev_var rfl) ?_
    rintro d rfl
    refine ⟨ahead ++ [(ruleAt (planRow qr) ahead kb).1], later ++ [(ruleAt (planRow qr) ahead kb).2], _, _, _, _, _, _, by rw [List.map_append, List.map_append]; rfl, by rw [List.length_append, ha]; rfl, by rw [List.length_append, hla]; rfl, fun b hb' => ?_, ?_⟩
    · rcases List.mem_append.mp hb' with h | h
      · exact hb b h
      · rw [List.mem_singleton.mp h]; exact g4
    · rw [hbeat]
      have d1 : (rows.map planRow).drop i = planRow qr :: (rows.map planRow).drop (i + 1) := by
        rw [List.drop_eq_getElem_cons (by rw [List.length_map]; exact hi)]
        have := (List.getElem?_eq_some_iff.mp hpr).2
        rw [this]
      have d2 : kept.drop i = kb :: kept.drop (i + 1) := by
        rw [List.drop_eq_getElem_cons (by omega)]
        have := (List.getElem?_eq_some_iff.mp hkb).2
        rw [this]
      rw [d1, d2]
      show ((beatF ((rows.map planRow).drop (i + 1)) (ahead ++ [(ruleAt (planRow qr) ahead kb).1]) (kept.drop (i + 1))).1, later ++ ((ruleAt (planRow qr) ahead kb).2 :: (beatF ((rows.map planRow).drop (i + 1)) (ahead ++ [(ruleAt (planRow qr) ahead kb).1]) (kept.drop (i + 1))).2)) = _
      rw [List.append_assoc]
      rfl
  · rintro env ⟨ahead, later, y5, y6, y7, y8, y9, y10, rfl, ha, hla, hb, hbeat⟩
    rw [enumD_len, List.length_map, List.length_map] at ha hla hbeat
    rw [List.drop_of_length_le (by rw [List.length_map]; exact Nat.le_refl _)] at hbeat
    have hbeat : beatF (rows.map planRow) (0 :: lbits m x) kept = (ahead, later) := by
      rw [hbeat]
      show (ahead, later ++ []) = _
      rw [List.append_nil]
    have h1 : beat (rows.map planRow) (lbits m x) kept = (ahead.getLastD 0, later) := by
      unfold beat
      rw [hbeat]
    rw [h1]
    have hne : ahead ≠ [] := fun z => by rw [z, List.length_nil] at ha; omega
    refine hs_ret (ev_tup (ea_cons (ev_ixL (d := nt (ahead.getLastD 0)) (es_own rfl) ev_neg1 (atI_last ?_)) (ea_cons (ev_tupOf (es_own rfl)) ea_nil)) (by show 2 ≤ 1000000; decide)) fun d e => e
    rw [List.getLast?_map, List.getLastD_eq_getLast?, List.getLast?_eq_some_getLast hne]
    rfl
end
end SS
namespace SS
open PySem PySem.Spec PyProof.Rows L2 DL
open Evl (Ex ex_l ex_t)
section
variable {c : Cn} {env : List Sl} {i j : Nat} {ta tb te tk tv : TE} {K : PySem.W.Frag} {B0 H0 : Hp} {m : Nat} {rows : List QRow}
def keepers : List D := [.str "twice", .str "minus", .str "plus", .str "less"]
theorem kin_carryW {w : Str} {n : Nat} (h : (w, n) ∈ kin) : inV (toV (.str w)) (keepers.map toV) = carries (w, []) := by
  unfold kin at h
  simp only [List.mem_cons, List.not_mem_nil, or_false, Prod.mk.injEq] at h
  rcases h with ⟨rfl, rfl⟩ | ⟨rfl, rfl⟩ | ⟨rfl, rfl⟩ | ⟨rfl, rfl⟩ | ⟨rfl, rfl⟩ | ⟨rfl, rfl⟩ | ⟨rfl, rfl⟩ | ⟨rfl, rfl⟩ | ⟨rfl, rfl⟩ | ⟨rfl, rfl⟩ <;> decide +kernel
theorem kin_carry {w : Str} {n : Nat} (h : (w, n) ∈ kin) (os : List Nat) : inV (toV (.str w)) (keepers.map toV) = carries (w, os) := kin_carryW h
def carD : D → Bool
  | .tuple (.str w :: _) => inV (toV (.str w)) (keepers.map toV)
  | _ => false
theorem h_law_carrying (a : AQ) (ok : OkQ a.1 a.2) : HS (pureCn K B0 H0) (t_law_carrying K) [.dat (encRec a.1 a.2), .no] { rt := fun d => d = nt (carry a.2), nx := fun _ => (PyData.none : D) = nt (carry a.2) } := by
  have hfew := ok.few
  refine hs_ret (ev_len (ds := ((a.2.map encQ).filter carD).map id) (es_new (en_lcF (ds := a.2.map encQ) (F := carD) (f := id) (ei_seqT (ev_ixT (j := 1) (ds := [nt a.1, .tuple (a.2.map encQ)]) (ev_var rfl) ev_int rfl)) (by rw [List.length_map]; omega) fun i d hd => ?_))) fun d e => ?_
  · obtain ⟨q, hq, rfl⟩ := map_at hd
    obtain ⟨hk, ho⟩ := ok.row i q hq
    exact ⟨_, _, hg_name, by decide, et_test (ev_inF (x := .str q.1) (ds := keepers) (ev_ixT (j := 0) (ds := .str q.1 :: q.2.map nt) (ev_var rfl) ev_int at0) (ev_tup (ea_cons ev_str (ea_cons ev_str (ea_cons ev_str (ea_cons ev_str ea_nil)))) (by show 4 ≤ 1000000; decide)) rfl rfl rfl), fun _ => ev_var rfl⟩
  · rw [e, List.map_id]
    have key : ∀ rs : List QRow, (∀ q ∈ rs, (q.1, q.2.length) ∈ kin) → ((rs.map encQ).filter carD).length = carry rs := by
      intro rs
      induction rs with
      | nil => intro _; rfl
      | cons q r ih =>
        intro h
        have hq : carD (encQ q) = carries q := kin_carry (h q List.mem_cons_self) q.2
        have ih := ih fun x hx => h x (List.mem_cons_of_mem _ hx)
        unfold carry at ih ⊢
        rw [List.map_cons]
        cases hc : carries q with
        | true =>
          rw [List.filter_cons_of_pos (by rw [hq, hc]), List.filter_cons_of_pos hc, List.length_cons, List.length_cons, ih]
        | false =>
          rw [List.filter_cons_of_neg (by rw [hq, hc]; decide), List.filter_cons_of_neg (by rw [hc]; decide), ih]
    rw [key a.2 fun q hq => by
      obtain ⟨i, hi⟩ := List.mem_iff_getElem?.mp hq
      exact (ok.row i q hi).1]
end
end SS
namespace SS
open PySem PySem.Spec PyProof.Rows L2 DL
open Evl (Ex ex_l ex_t)
/-! ### displays of dicts by texts -/
section
variable {c : Cn} {env : List Sl} {i j : Nat} {ta tb te tk tv tx : TE} {o : Po} {P : D → Prop}
def PsS (c : Cn) (env : List Sl) : List (TE × TE) → List (Str × D) → Prop
  | [], [] => True
  | (tk, tv) :: ts, (x, d) :: ms => Ev c tk env (.str x) ∧ Ev c tv env d ∧ PsS c env ts ms
  | _, _ => False
theorem pairsS : ∀ {ts : List (TE × TE)} {ms : List (Str × D)}, PsS c env ts ms → ∀ (σ : Sg) (B H : Hp), At c B H → EnvOk c B H σ env → ∀ R : List (V × V) → Hp → Prop,
    (∀ kvs B' H', Ext c.S B H B' H' → c.R B' H' → DtKv c.K B' kvs (mkS ms) → R (kvs.map fun kv => (kV kv.1, kv.2)) H') → tPairs ts σ H R
  | [], [], _, σ, B, H, A, e, R, q => q [] B H A.same A.r .nil
  | [], _ :: _, h, _, _, _, _, _, _, _ => h.elim
  | _ :: _, [], h, _, _, _, _, _, _, _ => by cases h
  | (tk, tv) :: ts, (x, d) :: ms, ⟨h1, h2, h3⟩, σ, B, H, A, e, R, q => by
    refine h1 σ B H A e _ fun v d1 B1 H1 x1 r1 t1 p1 => ?_
    subst p1
    rw [dp_str_inv t1]
    refine h2 σ B1 H1 (A.go x1 r1) (e.go x1) _ fun w d2 B2 H2 x2 r2 t2 p2 => ?_
    subst p2
    refine pairsS h3 σ B2 H2 ((A.go x1 r1).go x2 r2) ((e.go x1).go x2) _ fun kvs B3 H3 x3 r3 t3 => ?_
    exact q ((.inr x, w) :: kvs) B3 H3 ((x1.trans x2).trans x3) r3 (.conS (dp_mono x3.b t2) t3)
theorem lookS_none {x : Str} : ∀ {m : List (Str × D)}, x ∉ m.map (·.1) → lookS m x = none
  | [], _ => rfl
  | p :: m, h => by
    unfold lookS
    rw [if_neg fun e => h (by rw [← e]; exact List.mem_cons_self)]
    exact lookS_none fun z => h (List.mem_cons_of_mem _ z)
theorem merge_S {K : PySem.W.Frag} {B : Hp} : ∀ {ms am : List (Str × D)} {kvs acc : List (Key × V)}, DtKv K B kvs (mkS ms) → DtKv K B acc (mkS am) → ((am ++ ms).map (·.1)).Nodup → DtKv K B (mergeK acc kvs) (mkS (am ++ ms))
  | [], am, kvs, acc, h, ha, _ => by
    cases h
    rw [List.append_nil]
    exact ha
  | p :: ms, am, kvs, acc, h, ha, nd => by
    have h' : DtKv K B _ ((.str p.1, p.2) :: mkS ms) := h
    cases h' with
    | conS hd t =>
      rename_i v ks
      have hn : p.1 ∉ am.map (·.1) := fun z => by
        rw [List.map_append] at nd
        exact (List.nodup_append.mp nd).2.2 p.1 z p.1 List.mem_cons_self rfl
      have := merge_S (ms := ms) (am := am ++ [(p.1, p.2)]) t (dks_put hd ha (lookS_none hn)) (by rw [List.append_assoc]; exact nd)
      rw [List.append_assoc] at this
      exact this
theorem eno_dispS {ts : List (TE × TE)} {ms : List (Str × D)} (h : PsS c env ts ms) (nd : (ms.map (·.1)).Nodup) (h15 : ms.length ≤ 15) : EvNO c (tDisp ts) env (fun u => u = .idc (mkS ms)) := fun σ B H A e Q q p hp => by
  obtain ⟨x0, r0⟩ := A.newOwn (o := .dK []) hp
  have A0 := A.go x0 r0
  have hs : ¬ c.S p := A.notS hp
  refine pairsS h σ B _ A0 (e.go x0) _ fun kvs B1 H1 x1 r1 t1 => ?_
  have g1 : H1 p = some (.dK []) := x1.k p _ upd_same hs
  have b1 : B1 p = none := x1.n p (by rw [upd_same]; exact nofun) (fresh_b A.e.s hp)
  refine ⟨g1, kvs, rfl, by rw [dks_len t1]; exact h15, ?_⟩
  have x3 := (x0.trans x1).setOwn (o := .dK (mergeK [] kvs)) hp b1 (by rw [g1]; exact nofun)
  exact q p (.idc (mkS ms)) B1 _ x3 (r_setOwn r1 hs) hp b1 ⟨_, upd_same, merge_S (am := []) t1 .nil nd⟩ rfl
theorem ev_sGet2 {m : List (Str × D)} {x : Str} {d d2 : D} (h0 : env[j]? = some (.dat (.dict (mkS m)))) (hk : Ev c tk env (.str x)) (hx : Ev c tx env d2) (h : (lookS m x).getD d2 = d) : Ev c (tDGet2 (tVar j) tk tx) env d := fun σ B H A e Q q => by
  obtain ⟨y, h1, v, h2, h3⟩ := e.at_ j _ h0
  subst h2
  cases h3 with
  | dic g1 g2 =>
    rename_i a ks
    refine ⟨_, h1, a, rfl, .inl ⟨_, .inl (A.e.s _ _ g1)⟩, ?_⟩
    refine hk σ B H A e _ fun v d' B1 H1 x1 r1 t1 p1 => ?_
    subst p1
    rw [dp_str_inv t1]
    refine hx σ B1 H1 (A.go x1 r1) (e.go x1) _ fun u d3 B2 H2 x2 r2 t2 p2 => ?_
    subst p2
    have gg : H2 a = some (.dK ks) := x2.s _ _ (x2.b _ _ (x1.b _ _ g1))
    refine ⟨valV ks (.inr x), DGet.k (k := .inr x) gg, ?_⟩
    cases hl : lookS m x with
    | none =>
      rw [hl] at h
      rw [(dks_look g2).2 hl]
      exact q _ _ B2 H2 (x1.trans x2) r2 t2 h
    | some z =>
      rw [hl] at h
      obtain ⟨w, g3, g4⟩ := (dks_look g2).1 z hl
      rw [g3]
      exact q _ _ B2 H2 (x1.trans x2) r2 (dp_mono (x1.b.trans x2.b) g4) h
def encSt (s : Str) : D := .str s
end
end SS
namespace SS
open PySem PySem.Spec PyProof.Rows L2 DL
open Evl (Ex ex_l ex_t)
/-! ### the law's look at a program -/
abbrev strD (s : Str) : D := .str s
def wordF (i : Fin 10) : D := .str (sumsL.getD i.val "")
theorem tells_W10 : Tells wordF where
  eqv := by decide +kernel
  lay := by decide +kernel
  dep := by decide +kernel
  nod := by decide +kernel
theorem kin_ix {w : Str} {n : Nat} (h : (w, n) ∈ kin) : ∃ i : Fin 10, sumsL.getD i.val "" = w := by
  have key : ∀ p ∈ kin, ∃ i : Fin 10, sumsL.getD i.val "" = p.1 := by decide +kernel
  exact key _ h
def askedL : List (Str × D) := [("zero", nt 0), ("ones", nt 0), ("not", nt 1), ("twice", nt 1), ("minus", nt 1), ("prefix", nt 1)]
theorem kin_asked {w : Str} {n : Nat} (h : (w, n) ∈ kin) : (lookS askedL w).getD (nt 2) = nt n := by
  unfold kin at h
  simp only [List.mem_cons, List.not_mem_nil, or_false, Prod.mk.injEq] at h
  rcases h with ⟨rfl, rfl⟩ | ⟨rfl, rfl⟩ | ⟨rfl, rfl⟩ | ⟨rfl, rfl⟩ | ⟨rfl, rfl⟩ | ⟨rfl, rfl⟩ | ⟨rfl, rfl⟩ | ⟨rfl, rfl⟩ | ⟨rfl, rfl⟩ | ⟨rfl, rfl⟩ <;> rfl
section
variable {c : Cn} {env : List Sl} {i j : Nat} {ta tb te tk tv tx : TE} {K : PySem.W.Frag} {B0 H0 : Hp}
theorem ev_str1 {x : Str} : Ev c (tLst (tCons (tC (.str x)) tNil)) env (.list [.str x]) := ev_new (en_lst (ea_cons ev_str ea_nil) (by show 1 ≤ 1000000; decide))
def plainL : List Str := ["zero", "ones", "not", "and", "or", "xor"]
def sums4 : List Str := ["twice", "minus", "plus", "less"]
def besideL : List (Str × D) := [("plain", .list []), ("prefix", .list [strD "prefix"]), ("twice", .list [strD "twice"]), ("minus", .list [strD "minus"]), ("sums", .list (sums4.map strD))]
theorem h_law_shelf (a : Unit) (hp : True) : HS (pureCn K B0 H0) (t_law_shelf K) [.dat (.str "sums"), .no, .no, .no] { rt := fun d => d = .list (sumsL.map PyData.str), nx := fun _ => (PyData.none : D) = .list (sumsL.map PyData.str) } := by
  refine hs_seq (hs_par (eas_dat (ev_new (en_lst (ds := plainL.map strD) (ea_cons ev_str (ea_cons ev_str (ea_cons ev_str (ea_cons ev_str (ea_cons ev_str (ea_cons ev_str ea_nil)))))) (by decide))) (eas_dat (ev_new (en_lst (ds := sums4.map strD) (ea_cons ev_str (ea_cons ev_str (ea_cons ev_str (ea_cons ev_str ea_nil)))) (by decide))) eas_nil)) ?_)
  rintro ss ⟨d, r, rfl, rfl, d2, r2, rfl, rfl, rfl⟩
  refine ⟨_, _, rfl, ?_⟩
  refine hs_seq (hs_setO (eno_dispS (ms := besideL) ⟨ev_str, ev_new (en_lst ea_nil (Nat.zero_le _)), ev_str, ev_str1, ev_str, ev_str1, ev_str, ev_str1, ev_str, ev_var rfl, trivial⟩ (by decide +kernel) (by decide)) ?_)
  rintro p u rfl
  refine hs_seq (hs_asgX (ev_tup (ea_cons (ev_new (en_catSS (ds := sums4.map strD) (es := [strD "mask"]) (es_of (ev_var rfl)) (es_of ev_str1) (by decide))) (ea_cons (ev_new (en_catSS (ds := sums4.map strD) (es := [strD "prefix"]) (es_of (ev_var rfl)) (es_of ev_str1) (by decide))) ea_nil)) (by show 2 ≤ 1000000; decide)) ?_)
  rintro d rfl
  refine ⟨_, hx_tup (hxs_cons (hx_sPut (m := besideL) rfl rfl (by decide)) (hxs_cons (hx_sPut (p := p) rfl (by rfl) (by decide)) hxs_nil)) rfl, ?_⟩
  refine hs_freezeD (i := 3) rfl (hs_ret (ev_new (en_catSS (ds := plainL.map strD) (es := sums4.map strD) (es_of (ev_var rfl)) (es_of (ev_sGet rfl (ev_var rfl) (by rfl))) (by decide))) fun d e => ?_)
  subst e
  rfl
theorem q_lay {q : QRow} (hk : (q.1, q.2.length) ∈ kin) : SeqAt.shaped (encQ q) = true ∧ (encQ q).hasDict = false := by
  have h1 : (PyData.str q.1).canLay0 = true := by
    have key : ∀ p ∈ kin, (PyData.str p.1).canLay0 = true := by decide +kernel
    exact key _ hk
  have hl : (encQ q).canLay0 = true := by
    unfold encQ
    rw [PyData.canLay0]
    exact canAll_of fun d hd => by
      rcases List.mem_cons.mp hd with e | h
      · rw [e]; exact h1
      · obtain ⟨p, _, rfl⟩ := List.mem_map.mp h
        exact tells_nt.lay p
  have hd : (encQ q).depth ≤ 60 := by
    unfold encQ
    rw [PyData.depth]
    have : PyData.depthAll (.str q.1 :: q.2.map nt) ≤ 59 := depthAll_of fun d hd => by
      rcases List.mem_cons.mp hd with e | h
      · rw [e, PyData.depth]; omega
      · obtain ⟨p, _, rfl⟩ := List.mem_map.mp h
        exact Nat.le_trans (nt_dep _) (by decide)
    omega
  refine ⟨?_, ?_⟩
  · unfold SeqAt.shaped
    rw [hl, decide_eq_true (Nat.le_trans hd (by decide))]
    rfl
  · unfold encQ
    rw [PyData.hasDict]
    exact hasAll_of fun d hd => by
      rcases List.mem_cons.mp hd with e | h
      · rw [e, PyData.hasDict]
      · obtain ⟨p, _, rfl⟩ := List.mem_map.mp h
        exact tells_nt.nod p
theorem filt_no {α : Type} (l : List α) : (l.filter fun _ => false).map id = ([] : List α) := by
  rw [List.filter_eq_nil_iff.mpr fun _ _ => Bool.false_ne_true]
  rfl
theorem isi_t (ds : List D) : kitB (dTy (.tuple ds)) "tuple" = some true := rfl
theorem h_law_is_recipe (a : AQ) (ok : OkQ a.1 a.2) : HS (pureCn K B0 H0) (t_law_is_recipe K) [.dat (encRec a.1 a.2), .dat (nt a.1), .dat (.str "sums"), .no, .no, .no, .no, .no, .no] { rt := fun d => d = .bool true, nx := fun _ => (PyData.none : D) = .bool true } := by
  obtain ⟨m, rows⟩ := a
  simp only at ok ⊢
  have hm := ok.m2
  have hfew := ok.few
  have h2 := ok.two
  have rv : ∀ {env : List Sl}, env[0]? = some (.dat (encRec m rows)) → Ev (pureCn K B0 H0) (tOp (rIx K) (tVar 0) (tC (.int 1))) env (.tuple (rows.map encQ)) := fun h => ev_ixT (j := 1) (ds := [nt m, .tuple (rows.map encQ)]) (ev_var h) ev_int rfl
  refine hs_seq (hs_if (b := false) (et_or (x := false) (y := false) (et_not (x := true) (et_B (ev_isi (ev_var rfl) (isi_t _)))) fun _ => et_or (x := false) (y := false) (et_test ((ev_op (ev_lenT (ds := [nt m, .tuple (rows.map encQ)]) (ev_var rfl)) (ev_nat 2) opd_neN).imp fun d e => by rw [e]; rfl)) fun _ => et_or (x := false) (y := false) (et_test ((ev_op (ev_ixT (j := 0) (ds := [nt m, .tuple (rows.map encQ)]) (ev_var rfl) ev_int rfl) (ev_var rfl) opd_neN).imp fun d e => by rw [e]; simp)) fun _ => et_not (x := true) (et_B (ev_isi (rv rfl) (isi_t _)))) (fun h => nomatch h) fun _ => hs_next ?_)
  refine hs_seq (hs_if (b := false) (et_not (x := true) (et_chainI (i := 0) (j := ((rows.map encQ).length : Nat)) (k := 6000) ev_int (ev_lenT (rv rfl)) ev_int (by
    rw [List.length_map, decide_eq_true (by omega), decide_eq_true (by omega)]
    rfl))) (fun h => nomatch h) fun _ => hs_next ?_)
  refine hs_seq (hs_par (eas_dat (ev_call (c := pureCn K B0 H0) (α := Unit) () (ea_cons (ev_var rfl) ea_nil) trivial) (eas_ow (eno_dispS (ms := askedL) ⟨ev_str, ev_int, ev_str, ev_int, ev_str, ev_int, ev_str, ev_int, ev_str, ev_int, ev_str, ev_int, trivial⟩ (by decide +kernel) (by decide)) eas_nil)) ?_)
  rintro ss ⟨d, r, rfl, rfl, p, u, r2, rfl, rfl, rfl⟩
  refine ⟨_, _, rfl, hs_freezeD (i := 4) rfl ?_⟩
  refine hs_seq (hs_for (ds := enumD (rows.map encQ)) (fun _ env => ∃ x5 x6 x7 x8, env = [.dat (encRec m rows), .dat (nt m), .dat (.str "sums"), .dat (.list (sumsL.map PyData.str)), .dat (.dict (mkS askedL)), x5, x6, x7, x8]) (ei_enT (rv rfl)) ⟨_, _, _, _, rfl⟩ ?_ ?_)
  · rintro k d env hd ⟨x5, x6, x7, x8, rfl⟩
    obtain ⟨d1, hd1, rfl⟩ := enum_at hd
    obtain ⟨q, hq, rfl⟩ := map_at hd1
    obtain ⟨hk, ho⟩ := ok.row k q hq
    obtain ⟨k1, k2, k3, k4⟩ := kin_word hk
    obtain ⟨ix, hix⟩ := kin_ix hk
    have hkl := (List.getElem?_eq_some_iff.mp hq).1
    refine ⟨_, _, hg_tup (hgs_cons hg_name (hgs_cons hg_name hgs_nil)) rfl, ?_⟩
    have w0 : ∀ {env : List Sl}, env[6]? = some (.dat (encQ q)) → Ev (pureCn K B0 H0) (tOp (rIx K) (tVar 6) (tC (.int 0))) env (.str q.1) := fun h => ev_ixT (j := 0) (ds := .str q.1 :: q.2.map nt) (ev_var h) ev_int at0
    refine hs_seq (hs_if (b := false) (et_or (x := false) (y := false) (et_not (x := true) (et_B (ev_isi (ev_var (d := encQ q) rfl) (isi_t _)))) fun _ => et_or (x := false) (y := false) (et_test ((ev_op (ev_var (d := encQ q) rfl) (ev_tup ea_nil (Nat.zero_le _)) (opd_eq (q_lay hk).1 (by decide +kernel) (q_lay hk).2 (by decide +kernel))).imp fun d e => by rw [e]; rfl)) fun _ => et_test ((ev_notInM tells_W10 (x := ix) (xs := List.finRange 10) ((w0 rfl).is (by show _ = PyData.str _; rw [hix])) (es_of ((ev_var rfl).is (by rfl)))).imp fun d e => by rw [e, decide_eq_true (List.mem_finRange ix)]; rfl)) (fun h => nomatch h) fun _ => hs_next ?_)
    refine hs_if (b := false) (et_test (ev_eqS1 (w0 rfl) k1 (by decide +kernel) k2)) (fun h => nomatch h) fun _ => ?_
    refine hs_if (b := false) (et_or (x := false) (y := false) (et_test ((ev_op (ev_lenT (ds := .str q.1 :: q.2.map nt) (ev_var rfl)) (v_add (ev_nat 1) (ev_sGet2 (m := askedL) rfl (w0 rfl) (ev_nat 2) (kin_asked hk))) opd_neN).imp fun d e => by
      rw [e, List.length_cons, List.length_map, Nat.add_comm]
      simp)) fun _ => et_test ((ev_neNil (ds := []) (es_new ((en_lcF (ds := q.2.map nt) (F := fun _ => false) (f := id) (ei_seqT ((ev_slT (lo := some 1) (hi := none) (ds := .str q.1 :: q.2.map nt) (ev_var rfl) (eo_some ev_int) eo_none).is (by
        rw [show (1 : Int) = ((1 : Nat) : Int) from rfl, cutD_from]
        rfl))) (by rw [List.length_map]; omega) fun i d hd => ?_).imp fun ls e => by rw [e, filt_no])) (by decide +kernel) (by decide +kernel)).imp fun d e => by rw [e]; rfl)) (fun h => nomatch h) fun _ => hs_next ⟨_, _, _, _, rfl⟩
    obtain ⟨o, hoo, rfl⟩ := map_at hd
    have hlt := ho o (List.mem_of_getElem? hoo)
    refine ⟨_, _, hg_name, by decide, et_not (x := true) (et_chainI (i := 0) (j := (o : Nat)) (k := ((m + k : Nat) : Int)) ev_int (ev_var rfl) (v_add (ev_var rfl) (ev_var rfl)) (by
      rw [decide_eq_true (by omega), decide_eq_true (by omega)]
      rfl)), fun h => nomatch h⟩
  · rintro env ⟨x5, x6, x7, x8, rfl⟩
    exact hs_ret ev_bl fun d e => e
end
end SS
namespace SS
open PySem PySem.Spec PyProof.Rows L2 DL
open Evl (Ex ex_l ex_t)
/-! ### pairs of a state and what rows keep -/
abbrev Pr := Nat × List Nat
def encX (p : Pr) : D := .tuple [nt p.1, encW p.2]
theorem tells_X : Tells encX where
  eqv := fun a b => by
    show PyData.eqv (.tuple _) (.tuple _) = _
    rw [PyData.eqv, PyData.eqvAll, PyData.eqvAll, PyData.eqvAll, tells_nt.eqv, tells_W.eqv, Bool.and_true, ← Bool.decide_and]
    exact decide_eq_decide.mpr ⟨fun ⟨h1, h2⟩ => Prod.ext h1 h2, fun h => by rw [h]; exact ⟨rfl, rfl⟩⟩
  lay := fun a => by
    show (PyData.tuple _).canLay0 = true
    rw [PyData.canLay0]
    exact canAll_of fun d hd => by
      rcases List.mem_cons.mp hd with e | h
      · rw [e]; exact tells_nt.lay _
      · rw [List.mem_singleton.mp h]; exact tells_W.lay _
  dep := fun a => by
    show (PyData.tuple _).depth ≤ 60
    rw [PyData.depth]
    have : PyData.depthAll [nt a.1, encW a.2] ≤ 59 := depthAll_of fun d hd => by
      rcases List.mem_cons.mp hd with e | h
      · rw [e]; exact Nat.le_trans (nt_dep _) (by decide)
      · rw [List.mem_singleton.mp h]
        show (PyData.tuple (a.2.map nt)).depth ≤ 59
        rw [PyData.depth]
        have : PyData.depthAll (a.2.map nt) ≤ 50 := depthAll_of fun d hd => by
          obtain ⟨k, _, rfl⟩ := List.mem_map.mp hd
          exact nt_dep k
        omega
    omega
  nod := fun a => by
    show (PyData.tuple _).hasDict = false
    rw [PyData.hasDict]
    exact hasAll_of fun d hd => by
      rcases List.mem_cons.mp hd with e | h
      · rw [e]; exact tells_nt.nod _
      · rw [List.mem_singleton.mp h]; exact tells_W.nod _
theorem flat_one {α : Type} (x : α) : ∀ n : Nat, (List.replicate n [x]).flatten = List.replicate n x
  | 0 => rfl
  | n + 1 => by rw [List.replicate_succ, List.replicate_succ, List.flatten_cons, flat_one x n]; rfl
theorem EqX.out {m : Nat} {r1 r2 : List Row} {p q x : Nat} (h : EqX m r1 r2 p q) (hx : x < 2 ^ m) : out r1 p x = out r2 q x := ((h 1) x hx).1
section
variable {c : Cn} {env : List Sl} {i j k : Nat} {ta tb te tk tv : TE} {K : PySem.W.Frag} {B0 H0 : Hp} {m : Nat} {rows : List QRow}
theorem hs_mid {t u : TS} {o : Po} {Mid : List Sl → Prop} (h : HS c t env { nx := Mid }) (k : ∀ e, Mid e → HS c u e o) : HS c (tSeq t u) env o := hs_seq (h.imp k (fun _ z => z.elim) (fun _ z => z.elim) (fun _ z => z.elim))
theorem en_lbits2 {x : Nat} (h1 : Ev c (tVar i) env (nt m)) (h2 : env[j]? = some (.dat (nt x))) (hm : m ≤ 2) (hl : k < env.length) (hjk : k ≠ j) : Ev c (tLc (iRng1 (tCons (tVar i) tNil)) (gName k) tYes (tOp (rI0 fun i j => .int (Builtin.bitAnd i j)) (tOp (rI (fun _ j => 0 ≤ j) fun i j => .int (i / 2 ^ j.toNat)) (tVar j) (tVar k)) (tC (.int 1))) [k]) env (encL (lbits m x)) := by
  refine ev_new (en_lcV (ds := rangeD m) (ls := (lbits m x).map nt) (ei_range h1 (by omega)) (by rw [rangeD_len]; omega) (by rw [rangeD_len, List.length_map, lbits_len]) fun n d y hd hy => ?_)
  obtain ⟨rfl, hk⟩ := rangeD_at hd
  unfold lbits at hy
  rw [List.getElem?_map, List.getElem?_map, List.getElem?_range hk] at hy
  obtain rfl : nt (x / 2 ^ n % 2) = y := Option.some.inj hy
  have hw : wipeE env [k] = env.set k .no := rfl
  refine ⟨_, _, hg_name, fun j hj => hj, ev_op (ev_op (ev_var (d := nt x) ?_) (ev_var (d := nt n) ?_) opd_shr) ev_int opd_and1⟩
  · rw [hw, List.getElem?_set_ne hjk, List.getElem?_set_ne hjk]
    exact h2
  · rw [hw, List.getElem?_set_self (by rw [List.length_set]; exact hl)]
structure Told (m : Nat) (small small1 : List Row) (kept : Nat → List Nat) (seen : List Pr) : Prop where
  at_ : ∀ p ∈ seen, p.1 < small.length ∧ ∃ s, s < small1.length ∧ p.2 = kept s ∧ EqX m small small1 p.1 s
theorem h_law_is_told (a : AD) (hp : Ok a.m a.small ∧ OkQ a.m a.rows ∧ ∃ small kept, Ok a.m small ∧ EqX a.m a.small small 0 0 ∧ Does a.m small a.rows kept) :
    HS (pureCn K B0 H0) (t_law_is_told K) [.dat (encM a.m a.small), .dat (encRec a.m a.rows), .dat (nt 6000), .no, .no, .no, .no, .no, .no, .no, .no, .no, .no, .no, .no] { rt := fun d => d = .bool true, nx := fun _ => (PyData.none : D) = .bool true } := by
  obtain ⟨m, small, rows⟩ := a
  obtain ⟨oks, ok, small1, kept, ok1, ex, dz⟩ := hp
  simp only at oks ok ok1 ex dz ⊢
  have hm := ok.m2
  have hfew := ok.few
  have h2 := ok.two
  have p4 := pow4 hm
  refine hs_seq (hs_par (eas_dat (ev_call (c := pureCn K B0 H0) (α := AQ) (m, rows) (ea_cons (ev_var rfl) ea_nil) ok) (eas_dat (ev_many (rows := small) (ev_var rfl)) eas_nil)) ?_)
  rintro ss ⟨d, r, rfl, rfl, d2, r2, rfl, rfl, rfl⟩
  refine ⟨_, _, rfl, ?_⟩
  have hlen : ∀ {env : List Sl}, env[3]? = some (.dat (.list ((rows.map planRow).map encPl))) → Ev (pureCn K B0 H0) (tCB (rLn K) (tCons (tVar 3) tNil)) env (nt rows.length) := fun {env} h => by
    have := ev_len (c := pureCn K B0 H0) (te := tVar 3) (env := env) (es_of (ev_var h))
    rw [List.length_map, List.length_map] at this
    exact this
  refine hs_seq (hs_par (eas_own (en_lst (ds := [encX (0, zeros rows.length)]) (ea_cons ((ev_tup (ea_cons (ev_nat 0) (ea_cons (ev_repT (ds := [nt 0]) (k := rows.length) (ev_tup (ea_cons (ev_nat 0) ea_nil) (by show 1 ≤ 1000000; decide)) (hlen rfl) (by simp) ok.two (by omega) (by show 1 ≤ 1000; decide)) ea_nil)) (by show 2 ≤ 1000000; decide)).imp fun d e => ?_) ea_nil) (by show 1 ≤ 1000000; decide)) (eas_dat (ev_nat 0) eas_nil)) ?_)
  · rw [e, flat_one]
    unfold encX encW zeros
    rw [List.map_replicate]
  rintro ss ⟨p5, ds, r, rfl, rfl, d2, r2, rfl, rfl, rfl⟩
  refine ⟨_, _, rfl, ?_⟩
  refine hs_seq (hs_while (fun M env => ∃ (seen : List Pr) (at_ : Nat) (y7 y8 y9 y10 y11 y12 y13 y14 : Sl), env = [.dat (encM m small), .dat (encRec m rows), .dat (nt 6000), .dat (.list ((rows.map planRow).map encPl)), .dat (nt m), .own p5 (seen.map encX), .dat (nt at_), y7, y8, y9, y10, y11, y12, y13, y14] ∧ Told m small small1 kept seen ∧ seen.length ≤ 1 + 4 * at_ ∧ M + at_ = 6000) 6000
    ⟨[(0, zeros rows.length)], 0, _, _, _, _, _, _, _, _, rfl, ⟨fun p hp => ?_⟩, Nat.le_refl _, rfl⟩ ?_)
  · rw [List.mem_singleton.mp hp]
    exact ⟨oks.pos, 0, ok1.pos, dz.z.symm, ex⟩
  · rintro M env ⟨seen, at_, y7, y8, y9, y10, y11, y12, y13, y14, rfl, ht, hsl, hM⟩
    have l5 : ∀ {e : List Sl} {ll : List Pr}, e[5]? = some (.own p5 (ll.map encX)) → Ev (pureCn K B0 H0) (tCB (rLn K) (tCons (tVar 5) tNil)) e (nt ll.length) := fun {e ll} h => by
      have := ev_len (c := pureCn K B0 H0) (te := tVar 5) (env := e) (es_own h)
      rw [List.length_map] at this
      exact this
    have hprod : at_ * rows.length ≤ 6000 * 1000 := Nat.mul_le_mul (by omega) hfew
    refine ⟨_, et_and (et_test (ev_op (ev_var rfl) (l5 rfl) opd_ltN)) fun _ => et_test (ev_op (ev_op (ev_op (ev_var rfl) (hlen rfl) (opd_mulN (by omega))) (ev_var rfl) (opd_shl (by omega) (by omega))) (ev_var rfl) opd_ltN), fun hb => ?_, fun hb => ?_⟩
    · rw [Bool.and_eq_true] at hb
      have hlt : at_ < seen.length := of_decide_eq_true hb.1
      have hbd : at_ * rows.length * 2 ^ m < 6000 := of_decide_eq_true hb.2
      have h1 : at_ ≤ at_ * rows.length := Nat.le_mul_of_pos_right _ (by omega)
      have h2' : at_ * rows.length ≤ at_ * rows.length * 2 ^ m := Nat.le_mul_of_pos_right _ (Nat.pow_pos (by decide))
      obtain ⟨pr, hpr⟩ : ∃ pr, seen[at_]? = some pr := ⟨_, List.getElem?_eq_getElem hlt⟩
      obtain ⟨spot, kv⟩ := pr
      obtain ⟨hsp, s, hs, hkv, he⟩ := ht.at_ _ (List.mem_of_getElem? hpr)
      simp only at hsp hkv he
      obtain ⟨kl, kb⟩ := dz.len s hs
      refine hs_seq (hs_asg (P := fun d => d = encX (spot, kv)) (ev_ixLm (f := encX) (n := at_) (es_own rfl) (ev_var rfl) hpr) ?_)
      rintro d rfl
      refine ⟨_, _, hg_tup (hgs_cons hg_name (hgs_cons hg_name hgs_nil)) rfl, ?_⟩
      refine hs_seq (hs_for (ds := rangeD (2 ^ m)) (fun k env => k ≤ 2 ^ m ∧ ∃ (seen : List Pr) (y9 y10 y11 y12 y13 y14 : Sl), env = [.dat (encM m small), .dat (encRec m rows), .dat (nt 6000), .dat (.list ((rows.map planRow).map encPl)), .dat (nt m), .own p5 (seen.map encX), .dat (nt at_), .dat (nt spot), .dat (encW kv), y9, y10, y11, y12, y13, y14] ∧ Told m small small1 kept seen ∧ seen.length ≤ 1 + 4 * at_ + k)
        (ei_range (ev_shl1 (ev_var rfl) hm) (by omega)) ⟨Nat.zero_le _, seen, _, _, _, _, _, _, rfl, ht, hsl⟩ ?_ ?_)
      · clear ht hsl hpr hlt hb seen
        rintro x d env hd ⟨_, seen, y9, y10, y11, y12, y13, y14, rfl, ht, hsl⟩
        obtain ⟨rfl, hx⟩ := rangeD_at hd
        obtain ⟨row, g1, g2, g3, g4⟩ := step_at oks hsp hx
        obtain ⟨_, _, _, k3, k4⟩ := step_at ok1 hs hx
        have hst := dz.step s x hs hx
        refine ⟨_, _, hg_name, ?_⟩
        refine hs_seq (hs_asg (ev_call (c := pureCn K B0 H0) (α := AB) ⟨m, rows, x, kv⟩ (ea_cons (ev_var rfl) (ea_cons (en_lbits2 (x := x) (ev_var rfl) rfl hm (by show 14 < 15; decide) (by decide)) (ea_cons (ev_var rfl) ea_nil))) ⟨ok, hx, by rw [hkv]; exact kl, by rw [hkv]; exact kb⟩) ?_)
        rintro d rfl
        simp only
        rw [hkv, hst]
        refine ⟨_, _, hg_tup (hgs_cons hg_name (hgs_cons hg_name hgs_nil)) rfl, ?_⟩
        refine hs_seq (hs_asg (P := fun d => d = encP (stepR small spot x)) (ev_cell (ev_row (ev_rows (m := m) (rows := small) (ev_var rfl)) (ev_var rfl) g1) (ev_var rfl) g2) ?_)
        rintro d rfl
        refine ⟨_, _, hg_tup (hgs_cons hg_name (hgs_cons hg_name hgs_nil)) rfl, ?_⟩
        have ho : out small spot x = out small1 s x := he.out hx
        refine hs_seq (hs_if (b := false) (et_test ((ev_op (ev_var (d := nt (out small1 s x)) rfl) (ev_var (d := nt (out small spot x)) rfl) opd_neN).imp fun d e => by rw [e, ho]; simp)) (fun h => nomatch h) fun _ => hs_next ?_)
        refine hs_if (et_test (ev_notInM tells_X (x := (stp small spot x, kept (stp small1 s x))) (xs := seen) (ev_tup (ea_cons (ev_var (d := nt (stp small spot x)) rfl) (ea_cons (ev_var (d := encW (kept (stp small1 s x))) rfl) ea_nil)) (by show 2 ≤ 1000000; decide)) (es_own rfl))) (fun hb => ?_) fun hb => hs_next ?_
        · refine hs_app rfl (by rw [List.length_map]; omega) (ev_tup (ea_cons (ev_var (d := nt (stp small spot x)) rfl) (ea_cons (ev_var (d := encW (kept (stp small1 s x))) rfl) ea_nil)) (by show 2 ≤ 1000000; decide)) ?_
          rintro d rfl
          refine ⟨hx, seen ++ [(stp small spot x, kept (stp small1 s x))], _, _, _, _, _, _, by rw [List.map_append, ← hkv]; rfl, ⟨fun p hp => ?_⟩, by rw [List.length_append, List.length_singleton]; omega⟩
          rcases List.mem_append.mp hp with h | h
          · exact ht.at_ p h
          · rw [List.mem_singleton.mp h]
            exact ⟨g3, _, k3, rfl, he.step hx⟩
        · refine ⟨hx, seen, _, _, _, _, _, _, by rw [← hkv]; rfl, ht, by omega⟩
      · clear ht hsl hpr hlt hb seen
        rintro env ⟨_, seen, y9, y10, y11, y12, y13, y14, rfl, ht, hsl⟩
        rw [rangeD_len] at hsl
        refine hs_setV (v_add (a := at_) (b := 1) (ev_var rfl) (ev_nat 1)) ?_
        refine ⟨M - 1, by omega, seen, at_ + 1, _, _, _, _, _, _, _, _, rfl, ht, by omega, by omega⟩
    · exact hs_ret ev_bl fun d e => e
end
end SS
namespace SS
open PySem PySem.Spec PyProof.Rows L2 DL
/-! ### what raises, and what takes it: by hand -/
theorem pss_when {X : Cx} {p : Prop} {sts : List Stmt} {t : TS} (h : p → PSs X sts t) : PSs X sts (fun D σ H => p ∧ t D σ H) := ⟨fun pins s σ H D I q => (h q.1).run pins s σ H D I q.2⟩
def tUnf (K : PySem.W.Frag) (C cL : Addr) (i : Nat) (a : Addr) (cls : Value) (d : Option Addr) : TS := fun D σ H => (cls = .ref C ∧ d = none) ∧
  tRet (tLst (tCons (tC (.str "unfit")) (tCons (tCB (rIsE K C a) (tCons (tVar i) (tCons (tC (.ref cL)) tNil))) tNil))) D σ H
abbrev s_law_few : Stmt := top 34
abbrev N_law_few : List Str := ["engine", "slip"]
theorem sc_law_few : FnScope N_law_few ["engine"] (defScope s_law_few) := ⟨rfl, rfl, rfl, by decide +kernel, rfl, by decide +kernel, by decide +kernel⟩
def tbFew (P : Program) (w : World) (K : PySem.W.Frag) (cS C : Addr) (W : WX) : TS := tRet (tLst (tCons (tC (.str "told")) (tCons (tCallS (sp_made_with_fewest P w K cS C) (WE W) (tCons (tVar 0) tNil)) tNil)))
def t_law_few (P : Program) (w : World) (K : PySem.W.Frag) (cS C cL : Addr) : TS := fun D σ H => tbFew P w K cS C (wAs K (.ref C) 1 (tUnf K C cL 1) (fun _ _ _ _ => False) D) D σ H
theorem d_law_few {P : Program} {w : World} {K : PySem.W.Frag} {mg : Str → Option Value} {base : Heap} {f : Addr} {cdv : Value} {A : Around} {outer : List Env} {s : Shared} {H : Hp} {E : XK} {cS C cL : Addr} (gC : mg "Unfit" = some (.ref C)) (gL : mg "LadderError" = some (.ref cL)) (gI : mg "isinstance" = none) (xC : ExcC K C)
    (C_made_with_fewest : CalX P w K mg base "made_with_fewest" ["machine"] 6 (sp_made_with_fewest P w K cS C))
    (hg : (A.deeper (envOfC "_law_few" (defScope s_law_few) s.heap.objs.size f cdv)).guards = some []) (hr : Room 6 (A.deeper (envOfC "_law_few" (defScope s_law_few) s.heap.objs.size f cdv))) :
    PSs (cxOf CX0 P w K mg base N_law_few "_law_few" (defScope s_law_few) f cdv A outer s H E).nox (defBody s_law_few) (t_law_few P w K cS C cL) :=
  pss_one (ps_try_as (i := 1) (tb := tbFew P w K cS C) (ts := tUnf K C cL 1) (Wout := fun _ _ _ _ => False) rfl rfl sc_law_few.nd rfl rfl ⟨rfl, by decide, Or.inl gC⟩ DL.takes0
    (fun W pn xe tk _ => pss_one (ps_ret (pe_lst (pa_cons pe_str (pa_cons (pe_calX C_made_with_fewest (fun σ => passAt tk σ) hg (hr.mono (by decide)) (by rfl) (pa_cons (pv 0) pa_nil)) pa_nil)))))
    (fun a oe cls d pn hz hf => pss_when fun ⟨e1, e2⟩ => by
      subst e1 e2
      exact pss_one (ps_ret (pe_lst (pa_cons pe_str (pa_cons (pe_callB (call_isE xC hz hf) (by rfl) gI (by decide +kernel) (pa_cons (pv 1) (pa_cons (pe_glob (v := .ref cL) (by rfl) gL rfl) pa_nil))) pa_nil))))))
end SS
namespace SS
open PySem PySem.Spec PyProof.Rows L2 DL
open Evl (Ex ex_l ex_t)
section
variable {P : Program} {w : World} {K : PySem.W.Frag} {B0 H0 : Hp} {cS C cL : Addr} {env : List Sl}
theorem h_law_few (a : AM) (hp : Ok a.1 a.2 ∧ Setter a.1 a.2) : HS (pureCn K B0 H0) (t_law_few P w K cS C cL) [.dat (encM a.1 a.2), .no]
    { rt := fun d => ∃ small, Ok a.1 small ∧ Least a.1 a.2 small ∧ EqX a.1 small a.2 0 0 ∧ Can a.1 a.2 small ∧ d = toldD a.1 (madeOf a.1 small (bits small.length)).rows, nx := fun _ => ∃ small, Ok a.1 small ∧ Least a.1 a.2 small ∧ EqX a.1 small a.2 0 0 ∧ Can a.1 a.2 small ∧ (PyData.none : D) = toldD a.1 (madeOf a.1 small (bits small.length)).rows } := fun X σ B H A e g => by
  have key : ∀ W : WX, HS (pureCn K B0 H0) (tbFew P w K cS C W) [.dat (encM a.1 a.2), .no] { rt := fun d => ∃ small, Ok a.1 small ∧ Least a.1 a.2 small ∧ EqX a.1 small a.2 0 0 ∧ Can a.1 a.2 small ∧ d = toldD a.1 (madeOf a.1 small (bits small.length)).rows, nx := fun _ => ∃ small, Ok a.1 small ∧ Least a.1 a.2 small ∧ EqX a.1 small a.2 0 0 ∧ Can a.1 a.2 small ∧ (PyData.none : D) = toldD a.1 (madeOf a.1 small (bits small.length)).rows } := fun W =>
    hs_ret (ev_newP (en_lstP (P := fun ds => ∃ small, Ok a.1 small ∧ Least a.1 a.2 small ∧ EqX a.1 small a.2 0 0 ∧ Can a.1 a.2 small ∧ ds = [.str "told", encRec a.1 (madeOf a.1 small (bits small.length)).rows]) ((ea_consP (Pa := fun d => d = .str "told") ev_str fun _ _ => ea_consP (ev_callX (c := pureCn K B0 H0) (α := AM) a (ea_cons (ev_var rfl) ea_nil) hp.1 (fun z => z hp.2)) fun _ _ => ea_nil).imp fun ds ⟨d1, r1, e1, e2, d2, r2, e3, ⟨small, k1, k2, k3, k4, e4⟩, e5⟩ => ⟨small, k1, k2, k3, k4, by rw [e1, e2, e3, e4, e5]⟩) fun ds ⟨_, _, _, _, _, e⟩ => by rw [e]; show 2 ≤ 1000000; decide)) fun d ⟨ds, e1, small, k1, k2, k3, k4, e2⟩ => ⟨small, k1, k2, k3, k4, by rw [e1, e2]; rfl⟩
  exact key _ X σ B H A e g
end
def lawRest (K : PySem.W.Frag) (C : Addr) : TS :=
    (tSeq (tFor (iRng1 (tCons (tC (.int 3)) tNil)) (gName 2)
      (tSeq (tAsg (tCall (sp_law_pick K) [] E0 (tCons (tVar 1) (tCons (tLst (tCons (tC (.int 0)) (tCons (tC (.int 1)) (tCons (tC (.int 1)) (tCons (tC (.int 2)) (tCons (tC (.int 2)) tNil)))))) tNil))) (gName 3))
    (tSeq (tAsg (tCall (sp_law_called K) [] E0 (tCons (tVar 1) (tCons (tCall (sp_law_setter K) [] E0 (tCons (tVar 1) (tCons (tVar 3) (tCons (tOp (rAddU K) (tC (.int 1)) (tCall (sp_law_draw K) [] E0 (tCons (tVar 1) (tCons (tC (.int 5)) tNil)))) tNil)))) tNil))) (gName 4))
    (tSeq (tPar3 5 6 7 (tCons (tCall (sp_law_small K) [] E0 (tCons (tVar 4) tNil)) (tCons (tCB (rReprU K) (tCons (tVar 4) tNil)) (tCons (tCall (sp_law_few K) [] E0 (tCons (tVar 4) tNil)) tNil))))
    (tSeq (tIfS (tOr (tTest (tOp (rNeD K) (tOp (rIx K) (tVar 7) (tC (.int 0))) (tC (.str "told")))) (tNot (tB (tCall (sp_law_is_recipe K) [] E0 (tCons (tOp (rIx K) (tVar 7) (tC (.int 1))) (tCons (tVar 3) (tCons (tC (.str "sums")) tNil))))))) (tRet (tC (.bl false))) tNext)
    (tSeq (tAsg (tBits (tOp (rI0 fun i j => .int (i - j)) (tCB (rLn K) (tCons (tOp (rIx K) (tVar 5) (tC (.int 1))) tNil)) (tC (.int 1)))) (gName 8))
    (tSeq (tIfS (tOr (tTest (tOp (rNeD K) (tCall (sp_law_carrying K) [] E0 (tCons (tOp (rIx K) (tVar 7) (tC (.int 1))) tNil)) (tVar 8))) (tTest (tOp (rNeD K) (tCB (rReprU K) (tCons (tCallS (sp_fewest K C) (WE (fun _ _ _ _ => False)) (tCons (tVar 4) tNil)) tNil)) (tCB (rReprU K) (tCons (tVar 8) tNil))))) (tRet (tC (.bl false))) tNext)
    (tIfS (tOr (tNot (tB (tCall (sp_law_is_told K) [] E0 (tCons (tVar 5) (tCons (tOp (rIx K) (tVar 7) (tC (.int 1))) (tCons (tC (.int 6000)) tNil)))))) (tOr (tTest (tOp (rNeD K) (tCB (rReprU K) (tCons (tCall (sp_law_few K) [] E0 (tCons (tVar 4) tNil)) tNil)) (tCB (rReprU K) (tCons (tVar 7) tNil)))) (tTest (tOp (rNeD K) (tCB (rReprU K) (tCons (tVar 4) tNil)) (tVar 6))))) (tRet (tC (.bl false))) tNext))))))))
    (tRet (tC (.bl true))))
section
variable {K : PySem.W.Frag} {B0 H0 : Hp} {dk l : Addr} {c : Cn} {env : List Sl} {ta tb te : TE} {C : Addr}
theorem sm_M {m : Nat} {rows : List Row} (ok : Ok m rows) : Sm (encM m rows) 4 9000 := by
  have hm := ok.m2
  have hf := ok.few
  have hp : ∀ r ∈ rows, ∀ p ∈ r, Sm (encP p) 1 43 := fun r hr p hp => by
    obtain ⟨h1, h2⟩ := ok.st r hr p hp
    exact sm_tuple (k := 0) (m := 18) (fun d hd => by
      rcases List.mem_cons.mp hd with e | hd
      · rw [e]; exact sm_nat (by omega)
      · rw [List.mem_singleton.mp hd]; exact sm_nat (by omega)) (by show 2 * (18 + 2) + 3 ≤ 43; decide)
  have hr : ∀ r ∈ rows, Sm (encR r) 2 183 := fun r hr => sm_tuple (k := 1) (m := 43) (fun d hd => by
    obtain ⟨p, h1, rfl⟩ := List.mem_map.mp hd
    exact hp r hr p h1) (by
    rw [List.length_map, ok.len r hr]
    have : 2 ^ m ≤ 2 ^ 2 := Nat.pow_le_pow_right (by decide) hm
    omega)
  have ht : Sm (encT rows) 3 4443 := sm_tuple (k := 2) (m := 183) (fun d hd => by
    obtain ⟨r, h1, rfl⟩ := List.mem_map.mp hd
    exact hr r h1) (by rw [List.length_map]; omega)
  exact sm_tuple (k := 3) (m := 4443) (fun d hd => by
    rcases List.mem_cons.mp hd with e | hd
    · rw [e]; exact (sm_nat (by omega)).more (by decide) (by decide)
    · rw [List.mem_singleton.mp hd]; exact ht) (by show 2 * (4443 + 2) + 3 ≤ 9000; decide)
theorem sm_bool (b : Bool) : Sm (.bool b) 0 18 where
  s := by rw [PyData.showable]
  h := by rw [PyData.hasDict]
  d := by rw [PyData.depth]; exact Nat.le_refl _
  l := by
    rw [PyData.shown]
    cases b <;> decide +kernel
  c := by rw [PyData.canLay0]
  k := by
    rw [PyData.shown]
    cases b <;> decide +kernel
theorem sm_told : Sm (.str "told") 0 18 := by
  refine ⟨by decide +kernel, by rw [PyData.hasDict], by rw [PyData.depth]; exact Nat.le_refl _, by decide +kernel, by decide +kernel, by decide +kernel⟩
theorem sm_unf : Sm (.str "unfit") 0 18 := by
  refine ⟨by decide +kernel, by rw [PyData.hasDict], by rw [PyData.depth]; exact Nat.le_refl _, by decide +kernel, by decide +kernel, by decide +kernel⟩
theorem bits_few : ∀ n, n ≤ 24 → bits n < 10 ^ 18 := by
  intro n hn
  have : ∀ k : Fin 25, bits k.val < 10 ^ 18 := by decide +kernel
  exact this ⟨n, by omega⟩
theorem ev_drawI {i : Nat} {ti : TE} {n : Nat} {E : XK} (h0 : env[i]? = some (.raw (.ref dk))) (h : Ev (dkCn dn K dk l B0 H0) ti env (nt n)) (hn : 0 < n) (hn2 : n ≤ 1000000) : EvP (dkCn dn K dk l B0 H0) (tCall (sp_law_draw K) [] E (tCons (tVar i) (tCons ti tNil))) env (fun d => ∃ k, d = nt k ∧ k < n) :=
  (ev_callD n h0 (ea_cons h ea_nil) hn2).imp fun d ⟨k, e, hk⟩ => ⟨k, e, by omega⟩
theorem ev_one_draw {i : Nat} {ti : TE} {n : Nat} {E : XK} (h0 : env[i]? = some (.raw (.ref dk))) (h : Ev (dkCn dn K dk l B0 H0) ti env (nt n)) (hn : 0 < n) (hn2 : n ≤ 1000000) :
    EvP (dkCn dn K dk l B0 H0) (tOp (rAddU K) (tC (.int 1)) (tCall (sp_law_draw K) [] E (tCons (tVar i) (tCons ti tNil)))) env (fun d => ∃ k, d = nt k ∧ 0 < k ∧ k ≤ n) :=
  ev_opP (Pa := fun d => d = nt 1) (ev_nat 1) (fun _ _ => ev_drawI h0 h hn hn2) fun a b ea ⟨k, eb, hk⟩ B H x y A tx ty Q q => by
    subst ea eb
    exact opd_addN (c := dkCn dn K dk l B0 H0) (i := 1) (j := k) B H x y A tx ty Q fun z d B' H' x' r t p => q z d B' H' x' r t ⟨1 + k, p, by omega, by omega⟩
theorem sm_Rec {m : Nat} {rows : List QRow} (ok : OkQ m rows) : Sm (encRec m rows) 3 130013 := by
  have hm := ok.m2
  have hf := ok.few
  have hq : ∀ q ∈ rows, Sm (encQ q) 1 63 := fun q hq => by
    obtain ⟨i, hi⟩ := List.mem_iff_getElem?.mp hq
    obtain ⟨hk, ho⟩ := ok.row i q hi
    have hil := (List.getElem?_eq_some_iff.mp hi).1
    refine sm_tuple (k := 0) (m := 18) (fun d hd => ?_) ?_
    · rcases List.mem_cons.mp hd with e | hd
      · have key : ∀ p ∈ kin, (PyData.str p.1).showable = true ∧ (PyData.str p.1).shown.length ≤ 18 ∧ (PyData.str p.1).canLay0 = true ∧ PyData.strOk (PyData.str p.1).shown = true := by decide +kernel
        obtain ⟨a1, a2, a3, a4⟩ := key _ hk
        rw [e]
        exact ⟨a1, by rw [PyData.hasDict], by rw [PyData.depth]; exact Nat.le_refl _, a2, a3, a4⟩
      · obtain ⟨o, hoo, rfl⟩ := List.mem_map.mp hd
        have := ho o hoo
        exact sm_nat (by omega)
    · rw [List.length_cons, List.length_map]
      have : q.2.length ≤ 2 := (kin_word hk).2.2.2
      omega
  have ht : Sm (.tuple (rows.map encQ)) 2 65003 := sm_tuple (k := 1) (m := 63) (fun d hd => by
    obtain ⟨q, h1, rfl⟩ := List.mem_map.mp hd
    exact hq q h1) (by rw [List.length_map]; omega)
  exact sm_tuple (k := 2) (m := 65003) (fun d hd => by
    rcases List.mem_cons.mp hd with e | hd
    · rw [e]; exact (sm_nat (by omega)).more (by decide) (by decide)
    · rw [List.mem_singleton.mp hd]; exact ht) (by show 2 * (65003 + 2) + 3 ≤ 130013; decide)
theorem sm_toldD {m : Nat} {rows : List QRow} (ok : OkQ m rows) : Sm (toldD m rows) 4 260033 := sm_list (k := 3) (m := 130013) (fun d hd => by
  rcases List.mem_cons.mp hd with e | hd
  · rw [e]; exact sm_told.more (by decide) (by decide)
  · rw [List.mem_singleton.mp hd]; exact sm_Rec ok) (by show 2 * (130013 + 2) + 3 ≤ 260033; decide)
theorem h_law {a : Addr} {ns : List Int} {H : Hp} {X : Ends} (hs : SqL K H a (ns.map V.int)) (hl : ns.length ≤ 63) (q : ∀ H', X.rt (.bl true) H') : t_law K C X (L2.start N_law [.ref a]) H := by
  refine ⟨.ref a, rfl, ?_⟩
  refine ⟨a, ns, rfl, hs, hl, fun dk l H' r => ?_⟩
  have e0 : EnvOk (dkCn dn K dk l (fun _ => none) H') (fun _ => none) H' (L2.start N_law [.ref a, .ref dk]) [.raw (.ref a), .raw (.ref dk), .no, .no, .no, .no, .no, .no, .no] := env_start (N := N_law) (ss := [.raw (.ref a), .raw (.ref dk)]) ⟨rfl, rfl, trivial⟩ rfl
  have A0 : At (dkCn dn K dk l (fun _ => none) H') (fun _ => none) H' := ⟨Ext.refl (fun _ _ z => by cases z), r⟩
  have key : HS (dkCn dn K dk l (fun _ => none) H') (lawRest K C) [.raw (.ref a), .raw (.ref dk), .no, .no, .no, .no, .no, .no, .no] { rt := fun d => d = .bool true } := by
    refine hs_seq (hs_for (ds := rangeD 3) (fun _ env => ∃ x2 x3 x4 x5 x6 x7 x8, env = [.raw (.ref a), .raw (.ref dk), x2, x3, x4, x5, x6, x7, x8]) (ei_range (n := 3) (ev_nat 3) (by decide)) ⟨_, _, _, _, _, _, _, rfl⟩ ?_ ?_)
    · rintro i d env hd ⟨x2, x3, x4, x5, x6, x7, x8, rfl⟩
      obtain ⟨rfl, hi⟩ := rangeD_at hd
      refine ⟨_, _, hg_name, ?_⟩
      refine hs_seq (hs_set (ev_callD (α := List D) [nt 0, nt 1, nt 1, nt 2, nt 2] (i := 1) rfl (ea_cons (ev_new (en_lst (ea_cons (ev_nat 0) (ea_cons (ev_nat 1) (ea_cons (ev_nat 1) (ea_cons (ev_nat 2) (ea_cons (ev_nat 2) ea_nil))))) (by show 5 ≤ 1000000; decide))) ea_nil) ⟨nofun, by show 5 ≤ 1000000; decide⟩) ?_)
      intro d hd
      have hm : ∃ m : Nat, d = nt m ∧ m ≤ 2 := by
        have hd : d ∈ [nt 0, nt 1, nt 1, nt 2, nt 2] := hd
        simp only [List.mem_cons, List.not_mem_nil, or_false] at hd
        rcases hd with e | e | e | e | e
        · exact ⟨0, e, by decide⟩
        · exact ⟨1, e, by decide⟩
        · exact ⟨1, e, by decide⟩
        · exact ⟨2, e, by decide⟩
        · exact ⟨2, e, by decide⟩
      obtain ⟨m, rfl, hm⟩ := hm
      refine hs_seq (hs_set (P := fun d => ∃ rows, d = encM m rows ∧ Ok m rows ∧ Setter m rows) (ev_callDP (i := 1) rfl (ea_consP (Pa := fun d => ∃ rows, d = encM m rows ∧ Ok m rows ∧ rows.length ≤ 20 ∧ Setter m rows) (ev_callDP (i := 1) rfl (ea_consP (Pa := fun d => d = nt m) (ev_var rfl) fun _ _ => ea_consP (ev_one_draw (i := 1) (n := 5) rfl (ev_nat 5) (by decide) (by decide)) fun _ _ => ea_nil) fun ds ⟨a1, r1, e1, e2, a2, r2, e3, ⟨k, e4, k1, k2⟩, e5⟩ => ⟨(m, k), by rw [e1, e2, e3, e4, e5], ⟨hm, k1, by show k ≤ 20; omega⟩, fun d h => h⟩) fun _ _ => ea_nil)
        fun ds ⟨a1, r1, e1, ⟨rows0, e2, ok0, hl0, st0⟩, e3⟩ => ⟨(m, rows0), by rw [e1, e2, e3], ⟨ok0, hl0⟩, fun d ⟨rows, e, ok, ex⟩ => ⟨rows, e, ok, ex.symm.setter st0⟩⟩) ?_)
      rintro d ⟨rows, rfl, ok, st⟩
      have sM : Sm (encM m rows) 4 9000 := sm_M ok
      have shM : ShowsU (encM m rows) := sM.showsU (by decide) (by decide)
      refine hs_seq (hs_par3 (eas_dat (ev_call (c := dkCn dn K dk l (fun _ => none) H') (α := AM) (m, rows) (ea_cons (ev_var rfl) ea_nil) ok) (eas_dat (ev_reprU (ev_var rfl) shM) (eas_dat (ev_call (c := dkCn dn K dk l (fun _ => none) H') (α := AM) (m, rows) (ea_cons (ev_var rfl) ea_nil) ⟨ok, st⟩) eas_nil))) ?_)
      rintro ss ⟨d, r, rfl, ⟨small, rfl, oks, hls, hroot⟩, d', r', rfl, rfl, d3, r3, rfl, ⟨small1, ok1, sl1, ex1, ca1, rfl⟩, rfl⟩
      refine ⟨_, _, _, rfl, ?_⟩
      simp only at oks hls hroot ok1 sl1 ex1 ca1 ⊢
      obtain ⟨mm, okq, hcar, kept, dz⟩ := made_ok ok1 sl1 ex1 st
      have hn : small1.length = small.length := count_uni sl1.count hls.count
      have hfew : ∀ {env : List Sl} {E : XK}, env[4]? = some (.dat (encM m rows)) → Ev (dkCn dn K dk l (fun _ => none) H') (tCall (sp_law_few K) [] E (tCons (tVar 4) tNil)) env (toldD m (madeOf m small1 (bits small1.length)).rows) := fun {env E} h =>
        (ev_call (c := dkCn dn K dk l (fun _ => none) H') (α := AM) (m, rows) (ea_cons (ev_var h) ea_nil) ⟨ok, st⟩).imp fun d ⟨s2, ok2, sl2, ex2, ca2, e⟩ => by
          have : s2 = small1 := can_uni ok ca2 ca1 (count_uni sl2.count sl1.count)
          rw [e, this]
      have sT := sm_toldD okq
      have shT : ShowsU (toldD m (madeOf m small1 (bits small1.length)).rows) := sT.showsU (by decide) (by decide)
      generalize madeOf m small1 (bits small1.length) = G at okq hcar dz hfew sT shT mm ⊢
      have t1 : ∀ {env : List Sl}, env[7]? = some (.dat (toldD m G.rows)) → Ev (dkCn dn K dk l (fun _ => none) H') (tOp (rIx K) (tVar 7) (tC (.int 1))) env (encRec m G.rows) := fun {env} h => ev_ixL (c := dkCn dn K dk l (fun _ => none) H') (ds := [.str "told", encRec m G.rows]) (es_of (ev_var h)) ev_int rfl
      refine hs_seq (hs_if (b := false) (et_or (x := false) (y := false) (et_test (ev_op (ev_ixL (c := dkCn dn K dk l (fun _ => none) H') (d := .str "told") (ds := [.str "told", encRec m G.rows]) (es_of (ev_var rfl)) ev_int rfl) ev_str (opd_nsame (by decide +kernel)))) fun _ => et_not (x := true) (et_B (ev_call (c := dkCn dn K dk l (fun _ => none) H') (α := AQ) (m, G.rows) (ea_cons (t1 rfl) (ea_cons (ev_var rfl) (ea_cons ev_str ea_nil))) okq))) (fun h => by cases h) fun _ => hs_next ?_)
      refine hs_seq (hs_setV (d := nt (bits small.length)) (ev_bits (n := ((small.length - 1 : Nat) : Int)) ((ev_op (ev_lenT (ds := small.map encR) (ev_ixT (j := 1) (ds := [nt m, encT small]) (ev_var rfl) ev_int rfl)) (ev_nat 1) (opd_subN (i := (small.map encR).length) (j := 1) (by rw [List.length_map]; exact oks.pos))).imp fun d e => by rw [e, List.length_map])) ?_)
      have sB : Sm (nt (bits small.length)) 0 18 := sm_nat (bits_few _ oks.few)
      have shB : ShowsU (nt (bits small.length)) := sB.showsU (by decide) (by decide)
      refine hs_seq (hs_if (b := false) (et_or (x := false) (y := false) (et_test ((ev_op (ev_call (c := dkCn dn K dk l (fun _ => none) H') (α := AQ) (m, G.rows) (ea_cons (t1 rfl) ea_nil) okq) (ev_var (d := nt (bits small.length)) rfl) opd_neN).imp fun d e => by rw [e, hcar, hn]; simp)) fun _ => et_test (ev_op (ev_reprU ((ev_callX (c := dkCn dn K dk l (fun _ => none) H') (α := AM) (m, rows) (ea_cons (ev_var rfl) ea_nil) ok (fun z => z st)).imp fun d ⟨n, e, hc⟩ => by rw [e, count_uni hc hls.count]) shB) (ev_reprU (ev_var rfl) shB) (opd_nsame sB.str))) (fun h => by cases h) fun _ => hs_next ?_)
      refine hs_if (b := false) (et_or (x := false) (y := false) (et_not (x := true) (et_B (ev_call (c := dkCn dn K dk l (fun _ => none) H') (α := AD) ⟨m, small, G.rows⟩ (ea_cons (ev_var rfl) (ea_cons (t1 rfl) (ea_cons (ev_nat 6000) ea_nil))) ⟨oks, okq, small1, kept, ok1, hroot.trans ex1.symm, dz⟩))) fun _ => et_or (x := false) (y := false) (et_test (ev_op (ev_reprU (hfew rfl) shT) (ev_reprU (ev_var rfl) shT) (opd_nsame sT.str))) fun _ => et_test (ev_op (ev_reprU (ev_var rfl) shM) (ev_var rfl) (opd_nsame sM.str))) (fun h => by cases h) fun _ => hs_next ⟨_, _, _, _, _, _, _, rfl⟩
    · rintro env ⟨x2, x3, x4, x5, x6, x7, x8, rfl⟩
      exact hs_ret ev_bl fun d e => e
  refine key X _ _ H' A0 e0 ⟨fun _ _ _ _ _ _ _ z => z.elim, fun v d B' H'' _ A' t p => ?_, fun _ _ _ _ _ _ _ z => z.elim, fun _ _ _ _ _ _ _ z => z.elim⟩
  subst p
  rw [dp_bool_inv t]
  exact q H''
end
end SS
set_option maxHeartbeats 0
namespace SS
open PySem PySem.Spec PyProof.Rows L2 DL
section
variable {P : Program} {w : World} {K : PySem.W.Frag} {mg : Str → Option Value} {base : Heap} {f : Addr} {fd : FuncData} {cS C cL fI cc cda : Addr} {qn : Str}
abbrev FnP (K : PySem.W.Frag) (x q : Str) (st : Stmt) (f : Addr) (fd : FuncData) : Prop := FunD K x q (defArgs st) (defBody st) (defScope st) [] [] f fd
theorem FnP_names {x qual : Str} {params : Arguments} {body : List Stmt} {scope : Scope} {ps : List Str} {args : List Value → Args} (F : FunD K x qual params body scope [] [] f fd)
    (h : ∀ (kV doc pm : Value) (an : Option Addr) (cdv ct : Value) (us : List Value), us.length = ps.length → bindArgs (PySem.W.fnOf x qual params body scope .none kV doc pm an cdv ct) (args us) = pure (ps.zip us)) (s : Shared) (us : List Value) (hl : us.length = ps.length) : BindsTo s fd (args us) (ps.zip us) := by
  obtain ⟨oc, od, dV, kV, doc, pm, an, cdv, ct, osl, rfl, lk, hcd, hD, hK⟩ := F.ex
  rcases hD with ⟨_, rfl⟩ | ⟨e, _⟩
  · exact .of_eq (h kV doc pm an cdv ct us hl)
  · exact absurd rfl e
theorem c_come_to (F : FnP K "come_to" "come_to" s_come_to f fd) (g : mg "come_to" = some (.ref f)) (fr : Fr mg) : Cal P w K mg base "come_to" ["rows"] 1 (sp_come_to K) :=
  ⟨f, fd, g, F.kp, fn_pure F sc_come_to (fun _ _ => rfl) (fun cdv A outer s H E hg hr => d_come_to fr hg hr) (fun _ _ a hp => h_come_to a hp), F.bindsN fun _ _ _ _ _ _ us hl => match us, hl with | [_], _ => rfl⟩
theorem c_numbered (F : FnP K "numbered" "numbered" s_numbered f fd) (g : mg "numbered" = some (.ref f)) (fr : Fr mg) : Cal P w K mg base "numbered" ["states", "keys"] 1 (sp_numbered K) :=
  ⟨f, fd, g, F.kp, fn_pure F sc_numbered (fun _ _ => rfl) (fun cdv A outer s H E hg hr => d_numbered fr hg hr) (fun _ _ a hp => h_numbered a hp), F.bindsN fun _ _ _ _ _ _ us hl => match us, hl with | [_, _], _ => rfl⟩
theorem c_classes_of (F : FnP K "classes_of" "classes_of" s_classes_of f fd) (g : mg "classes_of" = some (.ref f)) (fr : Fr mg) (C_numbered : Cal P w K mg base "numbered" ["states", "keys"] 1 (sp_numbered K)) : Cal P w K mg base "classes_of" ["rows", "states"] 2 (sp_classes_of K) :=
  ⟨f, fd, g, F.kp, fn_pure F sc_classes_of (fun _ _ => rfl) (fun cdv A outer s H E hg hr => d_classes_of fr C_numbered hg hr) (fun _ _ a hp => h_classes_of a hp), F.bindsN fun _ _ _ _ _ _ us hl => match us, hl with | [_, _], _ => rfl⟩
theorem c_least (F : FnP K "least" "least" s_least f fd) (g : mg "least" = some (.ref f)) (fr : Fr mg) (C_classes_of : Cal P w K mg base "classes_of" ["rows", "states"] 2 (sp_classes_of K)) (C_come_to : Cal P w K mg base "come_to" ["rows"] 1 (sp_come_to K)) : Cal P w K mg base "least" ["machine"] 3 (sp_least K) :=
  ⟨f, fd, g, F.kp, fn_pure F sc_least (fun _ _ => rfl) (fun cdv A outer s H E hg hr => d_least fr C_classes_of C_come_to hg hr) (fun _ _ a hp => h_least a hp), F.bindsN fun _ _ _ _ _ _ us hl => match us, hl with | [_], _ => rfl⟩
theorem c_targets_by (F : FnP K "targets_by" "targets_by" s_targets_by f fd) (g : mg "targets_by" = some (.ref f)) (fr : Fr mg) : Cal P w K mg base "targets_by" ["small", "letter"] 1 (sp_targets_by K) :=
  ⟨f, fd, g, F.kp, fn_pure F sc_targets_by (fun _ _ => rfl) (fun cdv A outer s H E hg hr => d_targets_by fr hg hr) (fun _ _ a hp => h_targets_by a hp), F.bindsN fun _ _ _ _ _ _ us hl => match us, hl with | [_, _], _ => rfl⟩
theorem c_stays (F : FnP K "stays" "stays" s_stays f fd) (g : mg "stays" = some (.ref f)) (fr : Fr mg) (C_targets_by : Cal P w K mg base "targets_by" ["small", "letter"] 1 (sp_targets_by K)) : Cal P w K mg base "stays" ["small", "letter"] 2 (sp_stays K) :=
  ⟨f, fd, g, F.kp, fn_pure F sc_stays (fun _ _ => rfl) (fun cdv A outer s H E hg hr => d_stays fr C_targets_by hg hr) (fun _ _ a hp => h_stays a hp), F.bindsN fun _ _ _ _ _ _ us hl => match us, hl with | [_, _], _ => rfl⟩
theorem c_sets_or_stays (F : FnP K "sets_or_stays" "sets_or_stays" s_sets_or_stays f fd) (g : mg "sets_or_stays" = some (.ref f)) (fr : Fr mg) (C_targets_by : Cal P w K mg base "targets_by" ["small", "letter"] 1 (sp_targets_by K)) (C_stays : Cal P w K mg base "stays" ["small", "letter"] 2 (sp_stays K)) : Cal P w K mg base "sets_or_stays" ["small", "letter"] 3 (sp_sets_or_stays K) :=
  ⟨f, fd, g, F.kp, fn_pure F sc_sets_or_stays (fun _ _ => rfl) (fun cdv A outer s H E hg hr => d_sets_or_stays fr C_targets_by C_stays hg hr) (fun _ _ a hp => h_sets_or_stays a hp), F.bindsN fun _ _ _ _ _ _ us hl => match us, hl with | [_, _], _ => rfl⟩
theorem c_setters (F : FnP K "setters" "setters" s_setters f fd) (g : mg "setters" = some (.ref f)) (fr : Fr mg) (C_least : Cal P w K mg base "least" ["machine"] 3 (sp_least K)) (C_sets_or_stays : Cal P w K mg base "sets_or_stays" ["small", "letter"] 3 (sp_sets_or_stays K)) : CalN P w K mg base "setters" ["machine"] 4 (sp_setters K) :=
  ⟨f, fd, g, F.kp, fn_pure F sc_setters (fun _ _ => rfl) (fun cdv A outer s H E hg hr => d_setters fr C_least C_sets_or_stays hg hr) (fun _ _ a hp => h_setters a hp), (FnP_names (ps := ["machine"]) (args := fun us => ⟨us, []⟩) F fun _ _ _ _ _ _ us hl => match us, hl with | [_], _ => rfl), (FnP_names (ps := ["machine"]) (args := fun us => ⟨[], (["machine"] : List Str).zip us⟩) F fun _ _ _ _ _ _ us hl => match us, hl with | [_], _ => rfl)⟩
theorem c_fewest (F : FnP K "fewest" "fewest" s_fewest f fd) (g : mg "fewest" = some (.ref f)) (fr : Fr mg) (T : UnfTxt P K C fI cc cda qn) (gC : mg "Unfit" = some (.ref C)) (gS : mg "super" = none) (C_setters : CalN P w K mg base "setters" ["machine"] 4 (sp_setters K)) (C_least : Cal P w K mg base "least" ["machine"] 3 (sp_least K)) : CalX P w K mg base "fewest" ["machine"] 5 (sp_fewest K C) :=
  ⟨f, fd, g, F.kp, fn_pureX (t := t_fewest K C) F sc_fewest (fun _ _ => rfl) (fun cdv A outer s H E hg hr => d_fewest fr T gC gS C_setters C_least hg hr) (fun _ _ a E hp he => h_fewest a hp he), (FnP_names (ps := ["machine"]) (args := fun us => ⟨us, []⟩) F fun _ _ _ _ _ _ us hl => match us, hl with | [_], _ => rfl), (FnP_names (ps := ["machine"]) (args := fun us => ⟨[], (["machine"] : List Str).zip us⟩) F fun _ _ _ _ _ _ us hl => match us, hl with | [_], _ => rfl)⟩
theorem c_law_urn (F : FnP K "_law_urn" "_law_urn" s_law_urn f fd) (g : mg "_law_urn" = some (.ref f)) (fr : Fr mg) : Cal P w K mg base "_law_urn" ["script"] 1 (sp_law_urn K) :=
  ⟨f, fd, g, F.kp, FunDg F sc_law_urn (fun vs H Q E ⟨_, _, e, _⟩ => by rw [e]; rfl) (fun cdv A outer s H vs Q E hg hr ⟨a, ns, e, h1, h2, h3⟩ => ⟨t_law_urn K, PSs.nox (d_law_urn fr hg hr), by subst e; exact h_law_urn h1 h2 h3⟩), F.bindsN fun _ _ _ _ _ _ us hl => match us, hl with | [_], _ => rfl⟩
theorem c_law_draw (F : FnP K "_law_draw" "_law_draw" s_law_draw f fd) (g : mg "_law_draw" = some (.ref f)) (fr : Fr mg) : Cal P w K mg base "_law_draw" ["urn", "many"] 1 (sp_law_draw K) :=
  ⟨f, fd, g, F.kp, fn_deck F sc_law_draw (fun _ _ => rfl) (fun cdv A outer s H E hg hr => d_law_draw fr hg hr) (fun _ _ _ _ a hp => h_law_draw a hp), F.bindsN fun _ _ _ _ _ _ us hl => match us, hl with | [_, _], _ => rfl⟩
theorem c_law_pick (F : FnP K "_law_pick" "_law_pick" s_law_pick f fd) (g : mg "_law_pick" = some (.ref f)) (fr : Fr mg) (C_law_draw : Cal P w K mg base "_law_draw" ["urn", "many"] 1 (sp_law_draw K)) : Cal P w K mg base "_law_pick" ["urn", "some"] 2 (sp_law_pick K) :=
  ⟨f, fd, g, F.kp, fn_deck F sc_law_pick (fun _ _ => rfl) (fun cdv A outer s H E hg hr => d_law_pick fr C_law_draw hg hr) (fun _ _ _ _ a hp => h_law_pick a hp), F.bindsN fun _ _ _ _ _ _ us hl => match us, hl with | [_, _], _ => rfl⟩
theorem c_law_mixed (F : FnP K "_law_mixed" "_law_mixed" s_law_mixed f fd) (g : mg "_law_mixed" = some (.ref f)) (fr : Fr mg) (C_law_draw : Cal P w K mg base "_law_draw" ["urn", "many"] 1 (sp_law_draw K)) : Cal P w K mg base "_law_mixed" ["urn", "some"] 2 (sp_law_mixed K) :=
  ⟨f, fd, g, F.kp, fn_deck F sc_law_mixed (fun _ _ => rfl) (fun cdv A outer s H E hg hr => d_law_mixed fr C_law_draw hg hr) (fun _ _ _ _ a hp => h_law_mixed a hp), F.bindsN fun _ _ _ _ _ _ us hl => match us, hl with | [_, _], _ => rfl⟩
theorem c_law_small (F : FnP K "_law_small" "_law_small" s_law_small f fd) (g : mg "_law_small" = some (.ref f)) (fr : Fr mg) : Cal P w K mg base "_law_small" ["engine"] 1 (sp_law_small K) :=
  ⟨f, fd, g, F.kp, fn_pure F sc_law_small (fun _ _ => rfl) (fun cdv A outer s H E hg hr => d_law_small fr hg hr) (fun _ _ a hp => h_law_small a hp), F.bindsN fun _ _ _ _ _ _ us hl => match us, hl with | [_], _ => rfl⟩
theorem c_law_tables (F : FnP K "_law_tables" "_law_tables" s_law_tables f fd) (g : mg "_law_tables" = some (.ref f)) (fr : Fr mg) : Cal P w K mg base "_law_tables" [] 1 (sp_law_tables K) :=
  ⟨f, fd, g, F.kp, fn_pure F sc_law_tables (fun _ _ => rfl) (fun cdv A outer s H E hg hr => d_law_tables fr hg hr) (fun _ _ a hp => h_law_tables a hp), F.bindsN fun _ _ _ _ _ _ us hl => match us, hl with | [], _ => rfl⟩
theorem c_law_shelf (F : FnP K "_law_shelf" "_law_shelf" s_law_shelf f fd) (g : mg "_law_shelf" = some (.ref f)) (fr : Fr mg) : Cal P w K mg base "_law_shelf" ["shelf"] 1 (sp_law_shelf K) :=
  ⟨f, fd, g, F.kp, fn_pure F sc_law_shelf (fun _ _ => rfl) (fun cdv A outer s H E hg hr => d_law_shelf fr hg hr) (fun _ _ a hp => h_law_shelf a hp), F.bindsN fun _ _ _ _ _ _ us hl => match us, hl with | [_], _ => rfl⟩
theorem c_law_is_recipe (F : FnP K "_law_is_recipe" "_law_is_recipe" s_law_is_recipe f fd) (g : mg "_law_is_recipe" = some (.ref f)) (fr : Fr mg) (C_law_shelf : Cal P w K mg base "_law_shelf" ["shelf"] 1 (sp_law_shelf K)) : Cal P w K mg base "_law_is_recipe" ["value", "many", "shelf"] 2 (sp_law_is_recipe K) :=
  ⟨f, fd, g, F.kp, fn_pure F sc_law_is_recipe (fun _ _ => rfl) (fun cdv A outer s H E hg hr => d_law_is_recipe fr C_law_shelf hg hr) (fun _ _ a hp => h_law_is_recipe a hp), F.bindsN fun _ _ _ _ _ _ us hl => match us, hl with | [_, _, _], _ => rfl⟩
theorem c_law_plan (F : FnP K "_law_plan" "_law_plan" s_law_plan f fd) (g : mg "_law_plan" = some (.ref f)) (fr : Fr mg) (C_law_tables : Cal P w K mg base "_law_tables" [] 1 (sp_law_tables K)) : Cal P w K mg base "_law_plan" ["recipe"] 2 (sp_law_plan K) :=
  ⟨f, fd, g, F.kp, fn_pure F sc_law_plan (fun _ _ => rfl) (fun cdv A outer s H E hg hr => d_law_plan fr C_law_tables hg hr) (fun _ _ a hp => h_law_plan a hp), F.bindsN fun _ _ _ _ _ _ us hl => match us, hl with | [_], _ => rfl⟩
theorem c_law_beat (F : FnP K "_law_beat" "_law_beat" s_law_beat f fd) (g : mg "_law_beat" = some (.ref f)) (fr : Fr mg) : Cal P w K mg base "_law_beat" ["plan", "bits", "kept"] 1 (sp_law_beat K) :=
  ⟨f, fd, g, F.kp, fn_pure F sc_law_beat (fun _ _ => rfl) (fun cdv A outer s H E hg hr => d_law_beat fr hg hr) (fun _ _ a hp => h_law_beat a hp), F.bindsN fun _ _ _ _ _ _ us hl => match us, hl with | [_, _, _], _ => rfl⟩
theorem c_law_is_told (F : FnP K "_law_is_told" "_law_is_told" s_law_is_told f fd) (g : mg "_law_is_told" = some (.ref f)) (fr : Fr mg) (C_law_plan : Cal P w K mg base "_law_plan" ["recipe"] 2 (sp_law_plan K)) (C_law_beat : Cal P w K mg base "_law_beat" ["plan", "bits", "kept"] 1 (sp_law_beat K)) : Cal P w K mg base "_law_is_told" ["engine", "recipe", "bound"] 3 (sp_law_is_told K) :=
  ⟨f, fd, g, F.kp, fn_pure F sc_law_is_told (fun _ _ => rfl) (fun cdv A outer s H E hg hr => d_law_is_told fr C_law_plan C_law_beat hg hr) (fun _ _ a hp => h_law_is_told a hp), F.bindsN fun _ _ _ _ _ _ us hl => match us, hl with | [_, _, _], _ => rfl⟩
theorem c_law_rows (F : FnP K "_law_rows" "_law_rows" s_law_rows f fd) (g : mg "_law_rows" = some (.ref f)) (fr : Fr mg) (C_law_draw : Cal P w K mg base "_law_draw" ["urn", "many"] 1 (sp_law_draw K)) : Cal P w K mg base "_law_rows" ["urn", "many", "steps"] 2 (sp_law_rows K) :=
  ⟨f, fd, g, F.kp, fn_deck F sc_law_rows (fun _ _ => rfl) (fun cdv A outer s H E hg hr => d_law_rows fr C_law_draw hg hr) (fun _ _ _ _ a hp => h_law_rows a hp), F.bindsN fun _ _ _ _ _ _ us hl => match us, hl with | [_, _, _], _ => rfl⟩
theorem c_law_called (F : FnP K "_law_called" "_law_called" s_law_called f fd) (g : mg "_law_called" = some (.ref f)) (fr : Fr mg) (C_law_mixed : Cal P w K mg base "_law_mixed" ["urn", "some"] 2 (sp_law_mixed K)) (C_law_draw : Cal P w K mg base "_law_draw" ["urn", "many"] 1 (sp_law_draw K)) : Cal P w K mg base "_law_called" ["urn", "engine"] 3 (sp_law_called K) :=
  ⟨f, fd, g, F.kp, fn_deck F sc_law_called (fun _ _ => rfl) (fun cdv A outer s H E hg hr => d_law_called fr C_law_mixed C_law_draw hg hr) (fun _ _ _ _ a hp => h_law_called a hp), F.bindsN fun _ _ _ _ _ _ us hl => match us, hl with | [_, _], _ => rfl⟩
theorem c_law_setter (F : FnP K "_law_setter" "_law_setter" s_law_setter f fd) (g : mg "_law_setter" = some (.ref f)) (fr : Fr mg) (C_law_rows : Cal P w K mg base "_law_rows" ["urn", "many", "steps"] 2 (sp_law_rows K)) (C_law_draw : Cal P w K mg base "_law_draw" ["urn", "many"] 1 (sp_law_draw K)) : Cal P w K mg base "_law_setter" ["urn", "many", "states"] 3 (sp_law_setter K) :=
  ⟨f, fd, g, F.kp, fn_deck F sc_law_setter (fun _ _ => rfl) (fun cdv A outer s H E hg hr => d_law_setter fr C_law_rows C_law_draw hg hr) (fun _ _ _ _ a hp => h_law_setter a hp), F.bindsN fun _ _ _ _ _ _ us hl => match us, hl with | [_, _, _], _ => rfl⟩
theorem c_law_carrying (F : FnP K "_law_carrying" "_law_carrying" s_law_carrying f fd) (g : mg "_law_carrying" = some (.ref f)) (fr : Fr mg) : Cal P w K mg base "_law_carrying" ["recipe"] 1 (sp_law_carrying K) :=
  ⟨f, fd, g, F.kp, fn_pure F sc_law_carrying (fun _ _ => rfl) (fun cdv A outer s H E hg hr => d_law_carrying fr hg hr) (fun _ _ a hp => h_law_carrying a hp), F.bindsN fun _ _ _ _ _ _ us hl => match us, hl with | [_], _ => rfl⟩
theorem c_Sheet___init__ (F : FnP K "__init__" "Sheet.__init__" s_Sheet___init__ f fd) (g : Mk K cS f) (fr : Fr mg) (XS : ShC K cS) (gSh : mg "Sheet" = some (.ref cS)) : CalI P w K mg base cS ["self", "many"] 1 (sp_Sheet___init__ P w cS) :=
  ⟨f, fd, g, FunDg F sc_Sheet___init__ (fun vs H Q E ⟨_, _, _, e, _⟩ => by rw [e]; rfl) (fun cdv A outer s H vs Q E hg hr h => ⟨t_Sheet___init__ P w K cS, PSs.nox (d_Sheet___init__ fr XS.cl gSh hg hr), h_Sheet___init__ XS h fun _ _ q => q⟩), F.bindsN fun _ _ _ _ _ _ us hl => match us, hl with | [_, _], _ => rfl⟩
theorem c_Sheet_put (F : FnP K "put" "Sheet.put" s_Sheet_put f fd) (g : Meth K cS "put" f) (fr : Fr mg) (XS : ShC K cS) (gSh : mg "Sheet" = some (.ref cS)) : CalM P w K mg base cS "put" ["self", "row"] 1 (sp_Sheet_put P w K cS) :=
  ⟨f, fd, g, fn_ghost (r := shRs P w K cS) F sc_Sheet_put (fun _ _ _ => rfl) (fun cdv A outer s H E hg hr => d_Sheet_put fr XS.cl gSh hg hr) (fun _ _ _ g a hp => h_Sheet_put XS g a hp), F.bindsN fun _ _ _ _ _ _ us hl => match us, hl with | [_, _], _ => rfl⟩
theorem c_Sheet_put_all (F : FnP K "put_all" "Sheet.put_all" s_Sheet_put_all f fd) (g : Meth K cS "put_all" f) (fr : Fr mg) (XS : ShC K cS) (gSh : mg "Sheet" = some (.ref cS)) (C_Sheet_put : CalM P w K mg base cS "put" ["self", "row"] 1 (sp_Sheet_put P w K cS)) : CalM P w K mg base cS "put_all" ["self", "word", "operands"] 2 (sp_Sheet_put_all P w K cS) :=
  ⟨f, fd, g, fn_ghost (r := shRs P w K cS) F sc_Sheet_put_all (fun _ _ _ => rfl) (fun cdv A outer s H E hg hr => d_Sheet_put_all fr XS.cl gSh C_Sheet_put hg hr) (fun _ _ _ g a hp => h_Sheet_put_all XS g a hp), F.bindsN fun _ _ _ _ _ _ us hl => match us, hl with | [_, _, _], _ => rfl⟩
theorem c_state_bit (F : FnP K "state_bit" "state_bit" s_state_bit f fd) (g : mg "state_bit" = some (.ref f)) (fr : Fr mg) (XS : ShC K cS) (gSh : mg "Sheet" = some (.ref cS)) (C_Sheet_put_all : CalM P w K mg base cS "put_all" ["self", "word", "operands"] 2 (sp_Sheet_put_all P w K cS)) (C_Sheet_put : CalM P w K mg base cS "put" ["self", "row"] 1 (sp_Sheet_put P w K cS)) (C_stays : Cal P w K mg base "stays" ["small", "letter"] 2 (sp_stays K)) (C_targets_by : Cal P w K mg base "targets_by" ["small", "letter"] 1 (sp_targets_by K)) : Cal P w K mg base "state_bit" ["sheet", "small", "letters", "place"] 3 (sp_state_bit P w K cS) :=
  ⟨f, fd, g, F.kp, fn_ghost (r := shRs P w K cS) F sc_state_bit (fun _ _ _ => rfl) (fun cdv A outer s H E hg hr => d_state_bit fr XS.cl gSh C_Sheet_put_all C_Sheet_put C_stays C_targets_by hg hr) (fun _ _ _ g a hp => h_state_bit XS g a hp), F.bindsN fun _ _ _ _ _ _ us hl => match us, hl with | [_, _, _, _], _ => rfl⟩
theorem c_Sheet_chosen (F : FnP K "chosen" "Sheet.chosen" s_Sheet_chosen f fd) (g : Meth K cS "chosen" f) (fr : Fr mg) (XS : ShC K cS) (gSh : mg "Sheet" = some (.ref cS)) (C_Sheet_put : CalM P w K mg base cS "put" ["self", "row"] 1 (sp_Sheet_put P w K cS)) : CalM P w K mg base cS "chosen" ["self", "operand", "bit"] 2 (sp_Sheet_chosen P w K cS) :=
  ⟨f, fd, g, fn_ghost (r := shRs P w K cS) F sc_Sheet_chosen (fun _ _ _ => rfl) (fun cdv A outer s H E hg hr => d_Sheet_chosen fr XS.cl gSh C_Sheet_put hg hr) (fun _ _ _ g a hp => h_Sheet_chosen XS g a hp), F.bindsN fun _ _ _ _ _ _ us hl => match us, hl with | [_, _, _], _ => rfl⟩
theorem c_letter_number (F : FnP K "letter_number" "letter_number" s_letter_number f fd) (g : mg "letter_number" = some (.ref f)) (fr : Fr mg) (XS : ShC K cS) (gSh : mg "Sheet" = some (.ref cS)) (C_Sheet_put_all : CalM P w K mg base cS "put_all" ["self", "word", "operands"] 2 (sp_Sheet_put_all P w K cS)) (C_Sheet_chosen : CalM P w K mg base cS "chosen" ["self", "operand", "bit"] 2 (sp_Sheet_chosen P w K cS)) : Cal P w K mg base "letter_number" ["sheet", "letter"] 3 (sp_letter_number P w K cS) :=
  ⟨f, fd, g, F.kp, fn_ghost (r := shRs P w K cS) F sc_letter_number (fun _ _ _ => rfl) (fun cdv A outer s H E hg hr => d_letter_number fr XS.cl gSh C_Sheet_put_all C_Sheet_chosen hg hr) (fun _ _ _ g a hp => h_letter_number XS g a hp), F.bindsN fun _ _ _ _ _ _ us hl => match us, hl with | [_, _], _ => rfl⟩
theorem c_state_number (F : FnP K "state_number" "state_number" s_state_number f fd) (g : mg "state_number" = some (.ref f)) (fr : Fr mg) (XS : ShC K cS) (gSh : mg "Sheet" = some (.ref cS)) (C_Sheet_put_all : CalM P w K mg base cS "put_all" ["self", "word", "operands"] 2 (sp_Sheet_put_all P w K cS)) (C_Sheet_chosen : CalM P w K mg base cS "chosen" ["self", "operand", "bit"] 2 (sp_Sheet_chosen P w K cS)) : Cal P w K mg base "state_number" ["sheet", "bits", "state"] 3 (sp_state_number P w K cS) :=
  ⟨f, fd, g, F.kp, fn_ghost (r := shRs P w K cS) F sc_state_number (fun _ _ _ => rfl) (fun cdv A outer s H E hg hr => d_state_number fr XS.cl gSh C_Sheet_put_all C_Sheet_chosen hg hr) (fun _ _ _ g a hp => h_state_number XS g a hp), F.bindsN fun _ _ _ _ _ _ us hl => match us, hl with | [_, _, _], _ => rfl⟩
theorem c_Sheet_told (F : FnP K "told" "Sheet.told" s_Sheet_told f fd) (g : Meth K cS "told" f) (fr : Fr mg) (XS : ShC K cS) (gSh : mg "Sheet" = some (.ref cS)) (C_Sheet_put : CalM P w K mg base cS "put" ["self", "row"] 1 (sp_Sheet_put P w K cS)) : CalM P w K mg base cS "told" ["self", "operand"] 2 (sp_Sheet_told P w K cS) :=
  ⟨f, fd, g, fn_ghost (r := shRs P w K cS) F sc_Sheet_told (fun _ _ _ => rfl) (fun cdv A outer s H E hg hr => d_Sheet_told fr XS.cl gSh C_Sheet_put hg hr) (fun _ _ _ g a hp => h_Sheet_told XS g a hp), F.bindsN fun _ _ _ _ _ _ us hl => match us, hl with | [_, _], _ => rfl⟩
theorem c_made_with_fewest (F : FnP K "made_with_fewest" "made_with_fewest" s_made_with_fewest f fd) (g : mg "made_with_fewest" = some (.ref f)) (fr : Fr mg) (XS : ShC K cS) (gSh : mg "Sheet" = some (.ref cS)) (T : UnfTxt P K C fI cc cda qn) (gC : mg "Unfit" = some (.ref C)) (gS : mg "super" = none) (C_fewest : CalX P w K mg base "fewest" ["machine"] 5 (sp_fewest K C)) (C_least : Cal P w K mg base "least" ["machine"] 3 (sp_least K)) (C_Sheet___init__ : CalI P w K mg base cS ["self", "many"] 1 (sp_Sheet___init__ P w cS)) (C_Sheet_told : CalM P w K mg base cS "told" ["self", "operand"] 2 (sp_Sheet_told P w K cS)) (C_letter_number : Cal P w K mg base "letter_number" ["sheet", "letter"] 3 (sp_letter_number P w K cS)) (C_state_bit : Cal P w K mg base "state_bit" ["sheet", "small", "letters", "place"] 3 (sp_state_bit P w K cS)) (C_Sheet_put_all : CalM P w K mg base cS "put_all" ["self", "word", "operands"] 2 (sp_Sheet_put_all P w K cS)) (C_state_number : Cal P w K mg base "state_number" ["sheet", "bits", "state"] 3 (sp_state_number P w K cS)) (C_Sheet_put : CalM P w K mg base cS "put" ["self", "row"] 1 (sp_Sheet_put P w K cS)) : CalX P w K mg base "made_with_fewest" ["machine"] 6 (sp_made_with_fewest P w K cS C) :=
  ⟨f, fd, g, F.kp, fn_pureX (t := t_made_with_fewest P w K cS C) F sc_made_with_fewest (fun _ _ => rfl) (fun cdv A outer s H E hg hr => d_made_with_fewest fr XS.cl gSh T gC gS C_fewest C_least C_Sheet___init__ C_Sheet_told C_letter_number C_state_bit C_Sheet_put_all C_state_number C_Sheet_put hg hr) (fun _ _ a E hp he => h_made_with_fewest XS a hp he), (FnP_names (ps := ["machine"]) (args := fun us => ⟨us, []⟩) F fun _ _ _ _ _ _ us hl => match us, hl with | [_], _ => rfl), (FnP_names (ps := ["machine"]) (args := fun us => ⟨[], (["machine"] : List Str).zip us⟩) F fun _ _ _ _ _ _ us hl => match us, hl with | [_], _ => rfl)⟩
theorem c_law_few (F : FnP K "_law_few" "_law_few" s_law_few f fd) (g : mg "_law_few" = some (.ref f)) (gC : mg "Unfit" = some (.ref C)) (gL : mg "LadderError" = some (.ref cL)) (gI : mg "isinstance" = none) (xC : ExcC K C) (C_made_with_fewest : CalX P w K mg base "made_with_fewest" ["machine"] 6 (sp_made_with_fewest P w K cS C)) : Cal P w K mg base "_law_few" ["engine"] 7 (sp_law_few K) :=
  ⟨f, fd, g, F.kp, fn_pure F sc_law_few (fun _ _ => rfl) (fun cdv A outer s H E hg hr => d_law_few gC gL gI xC C_made_with_fewest hg hr) (fun _ _ a hp => h_law_few a hp), F.bindsN fun _ _ _ _ _ _ us hl => match us, hl with | [_], _ => rfl⟩
theorem ok_law (F : FnP K "law" "law" s_law f fd) (fr : Fr mg) (C_law_urn : Cal P w K mg base "_law_urn" ["script"] 1 (sp_law_urn K)) (C_law_pick : Cal P w K mg base "_law_pick" ["urn", "some"] 2 (sp_law_pick K)) (C_law_called : Cal P w K mg base "_law_called" ["urn", "engine"] 3 (sp_law_called K)) (C_law_setter : Cal P w K mg base "_law_setter" ["urn", "many", "states"] 3 (sp_law_setter K)) (C_law_small : Cal P w K mg base "_law_small" ["engine"] 1 (sp_law_small K)) (C_law_few : Cal P w K mg base "_law_few" ["engine"] 7 (sp_law_few K)) (C_law_is_recipe : Cal P w K mg base "_law_is_recipe" ["value", "many", "shelf"] 2 (sp_law_is_recipe K)) (C_law_carrying : Cal P w K mg base "_law_carrying" ["recipe"] 1 (sp_law_carrying K)) (C_law_is_told : Cal P w K mg base "_law_is_told" ["engine", "recipe", "bound"] 3 (sp_law_is_told K)) (C_law_draw : Cal P w K mg base "_law_draw" ["urn", "many"] 1 (sp_law_draw K)) (C_fewest : CalX P w K mg base "fewest" ["machine"] 5 (sp_fewest K C)) : FnG P w K mg base CX0 8 f fd ["script"] (sp_law K) :=
  FunDg F sc_law (fun vs H Q E ⟨_, _, e, _⟩ => by rw [e]; rfl) (fun cdv A outer s H vs Q E hg hr ⟨a, ns, e, h1, h2, h3⟩ => ⟨t_law K C, PSs.nox (d_law fr C_law_urn C_law_pick C_law_called C_law_setter C_law_small C_law_few C_law_is_recipe C_law_carrying C_law_is_told C_law_draw C_fewest hg hr), by subst e; exact h_law h1 h2 h3⟩)
end
def df_come_to : He.DefD := ⟨("come_to", none), "come_to", "come_to", defArgs s_come_to, defBody s_come_to, defScope s_come_to, [], []⟩
def df_numbered : He.DefD := ⟨("numbered", none), "numbered", "numbered", defArgs s_numbered, defBody s_numbered, defScope s_numbered, [], []⟩
def df_classes_of : He.DefD := ⟨("classes_of", none), "classes_of", "classes_of", defArgs s_classes_of, defBody s_classes_of, defScope s_classes_of, [], []⟩
def df_least : He.DefD := ⟨("least", none), "least", "least", defArgs s_least, defBody s_least, defScope s_least, [], []⟩
def df_targets_by : He.DefD := ⟨("targets_by", none), "targets_by", "targets_by", defArgs s_targets_by, defBody s_targets_by, defScope s_targets_by, [], []⟩
def df_stays : He.DefD := ⟨("stays", none), "stays", "stays", defArgs s_stays, defBody s_stays, defScope s_stays, [], []⟩
def df_sets_or_stays : He.DefD := ⟨("sets_or_stays", none), "sets_or_stays", "sets_or_stays", defArgs s_sets_or_stays, defBody s_sets_or_stays, defScope s_sets_or_stays, [], []⟩
def df_setters : He.DefD := ⟨("setters", none), "setters", "setters", defArgs s_setters, defBody s_setters, defScope s_setters, [], []⟩
def df_fewest : He.DefD := ⟨("fewest", none), "fewest", "fewest", defArgs s_fewest, defBody s_fewest, defScope s_fewest, [], []⟩
def df_law_urn : He.DefD := ⟨("_law_urn", none), "_law_urn", "_law_urn", defArgs s_law_urn, defBody s_law_urn, defScope s_law_urn, [], []⟩
def df_law_draw : He.DefD := ⟨("_law_draw", none), "_law_draw", "_law_draw", defArgs s_law_draw, defBody s_law_draw, defScope s_law_draw, [], []⟩
def df_law_pick : He.DefD := ⟨("_law_pick", none), "_law_pick", "_law_pick", defArgs s_law_pick, defBody s_law_pick, defScope s_law_pick, [], []⟩
def df_law_mixed : He.DefD := ⟨("_law_mixed", none), "_law_mixed", "_law_mixed", defArgs s_law_mixed, defBody s_law_mixed, defScope s_law_mixed, [], []⟩
def df_law_small : He.DefD := ⟨("_law_small", none), "_law_small", "_law_small", defArgs s_law_small, defBody s_law_small, defScope s_law_small, [], []⟩
def df_law_tables : He.DefD := ⟨("_law_tables", none), "_law_tables", "_law_tables", defArgs s_law_tables, defBody s_law_tables, defScope s_law_tables, [], []⟩
def df_law_shelf : He.DefD := ⟨("_law_shelf", none), "_law_shelf", "_law_shelf", defArgs s_law_shelf, defBody s_law_shelf, defScope s_law_shelf, [], []⟩
def df_law_is_recipe : He.DefD := ⟨("_law_is_recipe", none), "_law_is_recipe", "_law_is_recipe", defArgs s_law_is_recipe, defBody s_law_is_recipe, defScope s_law_is_recipe, [], []⟩
def df_law_plan : He.DefD := ⟨("_law_plan", none), "_law_plan", "_law_plan", defArgs s_law_plan, defBody s_law_plan, defScope s_law_plan, [], []⟩
def df_law_beat : He.DefD := ⟨("_law_beat", none), "_law_beat", "_law_beat", defArgs s_law_beat, defBody s_law_beat, defScope s_law_beat, [], []⟩
def df_law_is_told : He.DefD := ⟨("_law_is_told", none), "_law_is_told", "_law_is_told", defArgs s_law_is_told, defBody s_law_is_told, defScope s_law_is_told, [], []⟩
def df_law_rows : He.DefD := ⟨("_law_rows", none), "_law_rows", "_law_rows", defArgs s_law_rows, defBody s_law_rows, defScope s_law_rows, [], []⟩
def df_law_called : He.DefD := ⟨("_law_called", none), "_law_called", "_law_called", defArgs s_law_called, defBody s_law_called, defScope s_law_called, [], []⟩
def df_law_setter : He.DefD := ⟨("_law_setter", none), "_law_setter", "_law_setter", defArgs s_law_setter, defBody s_law_setter, defScope s_law_setter, [], []⟩
def df_law_carrying : He.DefD := ⟨("_law_carrying", none), "_law_carrying", "_law_carrying", defArgs s_law_carrying, defBody s_law_carrying, defScope s_law_carrying, [], []⟩
def df_Sheet___init__ : He.DefD := ⟨("Sheet", some "__init__"), "__init__", "Sheet.__init__", defArgs s_Sheet___init__, defBody s_Sheet___init__, defScope s_Sheet___init__, [], []⟩
def df_Sheet_put : He.DefD := ⟨("Sheet", some "put"), "put", "Sheet.put", defArgs s_Sheet_put, defBody s_Sheet_put, defScope s_Sheet_put, [], []⟩
def df_Sheet_put_all : He.DefD := ⟨("Sheet", some "put_all"), "put_all", "Sheet.put_all", defArgs s_Sheet_put_all, defBody s_Sheet_put_all, defScope s_Sheet_put_all, [], []⟩
def df_state_bit : He.DefD := ⟨("state_bit", none), "state_bit", "state_bit", defArgs s_state_bit, defBody s_state_bit, defScope s_state_bit, [], []⟩
def df_Sheet_chosen : He.DefD := ⟨("Sheet", some "chosen"), "chosen", "Sheet.chosen", defArgs s_Sheet_chosen, defBody s_Sheet_chosen, defScope s_Sheet_chosen, [], []⟩
def df_letter_number : He.DefD := ⟨("letter_number", none), "letter_number", "letter_number", defArgs s_letter_number, defBody s_letter_number, defScope s_letter_number, [], []⟩
def df_state_number : He.DefD := ⟨("state_number", none), "state_number", "state_number", defArgs s_state_number, defBody s_state_number, defScope s_state_number, [], []⟩
def df_Sheet_told : He.DefD := ⟨("Sheet", some "told"), "told", "Sheet.told", defArgs s_Sheet_told, defBody s_Sheet_told, defScope s_Sheet_told, [], []⟩
def df_made_with_fewest : He.DefD := ⟨("made_with_fewest", none), "made_with_fewest", "made_with_fewest", defArgs s_made_with_fewest, defBody s_made_with_fewest, defScope s_made_with_fewest, [], []⟩
def df_law_few : He.DefD := ⟨("_law_few", none), "_law_few", "_law_few", defArgs s_law_few, defBody s_law_few, defScope s_law_few, [], []⟩
def df_law : He.DefD := ⟨("law", none), "law", "law", defArgs s_law, defBody s_law, defScope s_law, [], []⟩
def fns : List He.DefD := [df_come_to, df_numbered, df_classes_of, df_least, df_targets_by, df_stays, df_sets_or_stays, df_setters, df_fewest, df_law_urn, df_law_draw, df_law_pick, df_law_mixed, df_law_small, df_law_tables, df_law_shelf, df_law_is_recipe, df_law_plan, df_law_beat, df_law_is_told, df_law_rows, df_law_called, df_law_setter, df_law_carrying, df_Sheet___init__, df_Sheet_put, df_Sheet_put_all, df_state_bit, df_Sheet_chosen, df_letter_number, df_state_number, df_Sheet_told, df_made_with_fewest, df_law_few, df_law]
def fas : List He.Fa := [.glo "come_to", .glo "numbered", .glo "classes_of", .glo "least", .glo "targets_by", .glo "stays", .glo "sets_or_stays", .glo "setters", .glo "fewest", .glo "_law_urn", .glo "_law_draw", .glo "_law_pick", .glo "_law_mixed", .glo "_law_small", .glo "_law_tables", .glo "_law_shelf", .glo "_law_is_recipe", .glo "_law_plan", .glo "_law_beat", .glo "_law_is_told", .glo "_law_rows", .glo "_law_called", .glo "_law_setter", .glo "_law_carrying", .mkr "Sheet", .meth "Sheet" "put", .meth "Sheet" "put_all", .glo "state_bit", .meth "Sheet" "chosen", .glo "letter_number", .glo "state_number", .meth "Sheet" "told", .glo "made_with_fewest", .glo "_law_few", .glo "law", .free "abs", .free "enumerate", .free "int", .free "isinstance", .free "len", .free "list", .free "max", .free "range", .free "repr", .free "sorted", .free "tuple", .glo "Unfit", .glo "LadderError", .free "super", .free "isinstance", .glo "Sheet", .cls "Sheet", .noat "Sheet" "inputs", .noat "Sheet" "rows", .noat "Sheet" "numbers"]
abbrev Rw : PySem.W.OpenRow := PySem.W.OpenLaw.row PySem.Challenge.rw_carryladder_k70_whole_programs_with_the
/-! the class Unfit -/
section
open PySem.W
def uC (K : Frag) : Addr := He.ga K "Unfit"
def uL (K : Frag) : Addr := He.ga K "LadderError"
def uI (K : Frag) : Addr := He.ma K (uC K) "__init__"
def uFn (K : Frag) : Option FuncData := match K.lookup (uI K) with
  | some ⟨_, _, .func fd, _⟩ => some fd
  | _ => none
def uCell (K : Frag) : Addr := match uFn K with
  | some fd => (match fd.closure with
    | [(_, a)] => a
    | _ => 0)
  | none => 0
def uCode (K : Frag) : Addr := match uFn K with
  | some fd => (match fd.code with
    | .ref a => a
    | _ => 0)
  | none => 0
abbrev UV : Type := Option (Str × Str × Arguments × FuncBody × Scope × Addr × Addr)
def uVal (K : Frag) : UV := (uFn K).map fun fd => (fd.name, fd.qualname, fd.params, fd.body, fd.scope, fd.globals, fd.builtins)
def uTxt : UV := some ("__init__", "Unfit.__init__", uiA ⟨6, 17, 6, 21⟩, .stmts (uiB ⟨7, 8, 7, 13⟩ ⟨7, 8, 7, 15⟩ ⟨7, 8, 7, 24⟩ ⟨7, 8, 7, 26⟩ ⟨7, 8, 7, 26⟩), uiS, mainGlobals, builtinsNs)
def cellB (K : Frag) : Bool := match K.lookup (uCell K) with
  | some ⟨_, _, .cell (some (.ref a)), _⟩ => decide (a = uC K)
  | _ => false
def codeB (K : Frag) : Bool := match K.lookup (uCode K) with
  | some ⟨_, _, .fields vs, _⟩ => (match (vs[2]? : Option Value) with
    | some (.str file _) => ((Rw.prog.main.file : Str) == file)
    | _ => false)
  | _ => false
def restB (K : Frag) : Bool := match uFn K with
  | some fd => decide (fd.closure = ([(("__class__" : Str), uCell K)] : List (Str × Addr))) && (decide (fd.defaults = .none) && (decide (fd.kwdefaults = .none) && decide (fd.code = .ref (uCode K))))
  | none => false
def uF (K : Frag) : List Bool := [
  excInitIn K (uC K) He.veBase "ValueError.__new__", (clsIn K (uC K)).isSome, He.eqO (findIn K (.ref (uC K)) "__init__") (some (some (.ref (uI K)))), decide (typeIn K (.ref (uI K)) = some (.type "function")), keepIn K (.ref (uC K)),
  decide (subIn K (.ref (uC K)) (.type "BaseException") = some true), decide (subIn K (.ref (uC K)) (.type "ValueError") = some true), decide (typeIn K (.ref (uC K)) = some (.type "type")), He.eqO (ks_superIn K (uC K) (uC K) "__init__") (some (some (.builtin "ValueError.__init__"))),
  decide (mroIn K (uC K) (.ref (uC K)) = some true), He.eqO (nsIn K cStatics "thirdparty.any") (some none), cellB K, codeB K, restB K, codeIn K (.ref (uCode K)) "Unfit.__init__",
  He.eqO (findIn K (.ref (uC K)) "__getattribute__") (some (some (.builtin "BaseException.__getattribute__"))), He.eqO (findIn K (.ref (uC K)) "__getattr__") (some none), hasDictIn K (uC K), He.eqO (findIn K (.ref (uC K)) "__class__") (some (some (.builtin "object.__class__"))),
  He.eqO (specialIn K (.builtin "object.__class__") "__get__") (some (some (.builtin "getset_descriptor.__get__"))), decide (takesIn K (.builtin "object.__class__") = some true), decide (mroIn K (uC K) (.type "object") = some true),
  decide (exmOne K (.ref (uC K)) (.ref (uC K)) = some true), decide (kitOne K (.ref (uC K)) (.ref (uL K)) = some true)]
theorem uF_at {K : Frag} (h : (uF K).all id = true) (i : Nat) {b : Bool} (e : (uF K)[i]? = some b := by rfl) : b = true := List.all_eq_true.mp h b (List.mem_of_getElem? e)
theorem unf_of {K : Frag} (h : (uF K).all id = true) (v : uVal K = uTxt) : UnfTxt Rw.prog K (uC K) (uI K) (uCell K) (uCode K) "Unfit.__init__" where
  q := uF_at h 0
  cd := Option.isSome_iff_exists.mp (uF_at h 1)
  iC := He.eqO_ok (uF_at h 2)
  tI := of_decide_eq_true (uF_at h 3)
  kC := uF_at h 4
  exC := of_decide_eq_true (uF_at h 5)
  veC := of_decide_eq_true (uF_at h 6)
  tyC := of_decide_eq_true (uF_at h 7)
  sup := He.eqO_ok (uF_at h 8)
  own := of_decide_eq_true (uF_at h 9)
  tp := He.eqO_ok (uF_at h 10)
  cell := by
    have c : cellB K = true := uF_at h 11
    unfold cellB at c
    split at c
    · rename_i cl cld a csl ho
      exact ⟨cl, cld, csl, by rw [ho, of_decide_eq_true c]⟩
    · cases c
  code := by
    have c : codeB K = true := uF_at h 12
    unfold codeB at c
    split at c
    · rename_i ccl cdd vs ccs ho
      split at c
      · rename_i file tf hv
        exact ⟨ccl, cdd, vs, ccs, file, tf, ho, hv, c⟩
      · cases c
    · cases c
  top := by decide +kernel
  fn := by
    have c : restB K = true := uF_at h 13
    have c2 : codeIn K (.ref (uCode K)) "Unfit.__init__" = true := uF_at h 14
    obtain ⟨cc, hcc⟩ : ∃ cc, uCell K = cc := ⟨_, rfl⟩
    obtain ⟨cda, hcda⟩ : ∃ cda, uCode K = cda := ⟨_, rfl⟩
    unfold restB at c
    unfold uVal at v
    rw [hcc, hcda] at c
    rw [hcda] at c2
    rw [hcc, hcda]
    unfold uFn at c v
    cases q : K.lookup (uI K) with
    | none =>
      rw [q] at c
      cases c
    | some o =>
      obtain ⟨oc, od, dt, osl⟩ := o
      rw [q] at c v
      cases dt with
      | func fd =>
        obtain ⟨n1, n2, n3, n4, n5, n6, n7, n8, n9, n10, n11, n12, n13, n14, n15⟩ := fd
        have e2 : (some (n1, n2, n3, n4, n5, n6, n15) : UV) = uTxt := v
        unfold uTxt at e2
        simp only [Option.some.injEq, Prod.mk.injEq] at e2
        obtain ⟨h1, h2, h3, h4, h5, h6, h7⟩ := e2
        have c1 : (decide (n7 = ([(("__class__" : Str), cc)] : List (Str × Addr))) && (decide (n8 = .none) && (decide (n9 = .none) && decide (n13 = .ref cda)))) = true := c
        obtain ⟨k1, k2⟩ := He.ba c1
        obtain ⟨k3, k4⟩ := He.ba k2
        obtain ⟨k5, k6⟩ := He.ba k4
        have k1 := of_decide_eq_true k1
        have k3 := of_decide_eq_true k3
        have k5 := of_decide_eq_true k5
        have k6 := of_decide_eq_true k6
        subst h1 h2 h3 h4 h5 h6 h7 k1 k3 k5 k6
        exact ⟨oc, od, n10, n11, n12, n14, osl, _, _, _, _, _, _, rfl, c2, supEv0⟩
      | _ => cases c
theorem exc_of {K : Frag} (h : (uF K).all id = true) : ExcC K (uC K) :=
  ⟨He.eqO_ok (uF_at h 15), He.eqO_ok (uF_at h 16), of_decide_eq_true (uF_at h 5), uF_at h 17, He.eqO_ok (uF_at h 18), He.eqO_ok (uF_at h 19), of_decide_eq_true (uF_at h 20), of_decide_eq_true (uF_at h 21)⟩
end
abbrev UAl : Type := He.AlD × Bool × UV
def kU (g : Addr → Option Obj) : PySem.W.Frag := He.frG g (cStatics :: He.asD g 6)
def obsU (g : Addr → Option Obj) : UAl := (He.obsD fas fns (kU g), (uF (kU g)).all id, uVal (kU g))
def hkk : PySem.W.Hook where
  α := UAl
  obs := fun s => obsU s.heap.get?
  val := fun _ => (He.valD fns, true, uTxt)
  says := fun _ h => ∃ K : PySem.W.Frag, K.In h ∧ He.SaysD fas fns K ∧ (uF K).all id = true ∧ uVal K = uTxt
  of := fun _ s e => ⟨kU s.heap.get?, He.frG_in, congrArg (fun z : UAl => z.1) e, congrArg (fun z : UAl => z.2.1) e, congrArg (fun z : UAl => z.2.2) e⟩
  keeps := fun _ _ _ ⟨K, hK, c⟩ k => ⟨K, PySem.W.Frag.In.keeps hK k, c⟩
def obb (s : PySem.W.SharedT) : UAl := obsU (HandSHeadRun.getT s)
theorem obb_eq (s : PySem.W.SharedT) : obb s = hkk.obs s.abs := by
  have e : HandSHeadRun.getT s = s.abs.heap.get? := funext (HandSHeadRun.getT_eq s)
  unfold obb
  rw [e]
  rfl
def sA (K : PySem.W.Frag) : Addr := He.ga K "Sheet"
abbrev lse : List Str := ["LadderError", "Unfit", "come_to", "numbered", "classes_of", "least", "Sheet", "targets_by", "stays", "sets_or_stays", "setters", "fewest", "letter_number", "state_bit", "state_number", "made_with_fewest", "_law_urn", "_law_draw", "_law_pick", "_law_mixed", "_law_small", "_law_tables", "_law_shelf", "_law_is_recipe", "_law_plan", "_law_beat", "_law_is_told", "_law_rows", "_law_called", "_law_setter", "_law_few", "_law_carrying"]
theorem runs (w : World) : HandSHeadRun.RunEq Rw (PySem.W.view Rw.prog [36]) hkk obb 2000 lse w := by
  intro os
  kernel_rfl
theorem facts {w : World} {K : PySem.W.Frag} {h : Heap} {mg : Str → Option Value} {f : Addr} (X : K.In h) (G : h.Ns mainGlobals mg) (hfa : mg ("law" : Str) = some (.ref f)) (c : He.SaysD fas fns K) (u1 : (uF K).all id = true) (u2 : uVal K = uTxt) :
    ∃ fd : FuncData, (∀ (s : Shared) (v : Value), BindsTo s fd ⟨[v], []⟩ [("script", v)]) ∧ ∀ base : Heap, K.In base → base.Ns mainGlobals mg → FnG Rw.prog w K mg base CX0 8 f fd ["script"] (sp_law K) := by
  obtain ⟨fd_come_to, F_come_to⟩ := c.def_ 0 (d := df_come_to) rfl
  have g_come_to : mg "come_to" = some (.ref (He.ga K "come_to")) := He.glo_ok X G (c.fact 0 (f := .glo "come_to") rfl)
  obtain ⟨fd_numbered, F_numbered⟩ := c.def_ 1 (d := df_numbered) rfl
  have g_numbered : mg "numbered" = some (.ref (He.ga K "numbered")) := He.glo_ok X G (c.fact 1 (f := .glo "numbered") rfl)
  obtain ⟨fd_classes_of, F_classes_of⟩ := c.def_ 2 (d := df_classes_of) rfl
  have g_classes_of : mg "classes_of" = some (.ref (He.ga K "classes_of")) := He.glo_ok X G (c.fact 2 (f := .glo "classes_of") rfl)
  obtain ⟨fd_least, F_least⟩ := c.def_ 3 (d := df_least) rfl
  have g_least : mg "least" = some (.ref (He.ga K "least")) := He.glo_ok X G (c.fact 3 (f := .glo "least") rfl)
  obtain ⟨fd_targets_by, F_targets_by⟩ := c.def_ 4 (d := df_targets_by) rfl
  have g_targets_by : mg "targets_by" = some (.ref (He.ga K "targets_by")) := He.glo_ok X G (c.fact 4 (f := .glo "targets_by") rfl)
  obtain ⟨fd_stays, F_stays⟩ := c.def_ 5 (d := df_stays) rfl
  have g_stays : mg "stays" = some (.ref (He.ga K "stays")) := He.glo_ok X G (c.fact 5 (f := .glo "stays") rfl)
  obtain ⟨fd_sets_or_stays, F_sets_or_stays⟩ := c.def_ 6 (d := df_sets_or_stays) rfl
  have g_sets_or_stays : mg "sets_or_stays" = some (.ref (He.ga K "sets_or_stays")) := He.glo_ok X G (c.fact 6 (f := .glo "sets_or_stays") rfl)
  obtain ⟨fd_setters, F_setters⟩ := c.def_ 7 (d := df_setters) rfl
  have g_setters : mg "setters" = some (.ref (He.ga K "setters")) := He.glo_ok X G (c.fact 7 (f := .glo "setters") rfl)
  obtain ⟨fd_fewest, F_fewest⟩ := c.def_ 8 (d := df_fewest) rfl
  have g_fewest : mg "fewest" = some (.ref (He.ga K "fewest")) := He.glo_ok X G (c.fact 8 (f := .glo "fewest") rfl)
  obtain ⟨fd_law_urn, F_law_urn⟩ := c.def_ 9 (d := df_law_urn) rfl
  have g_law_urn : mg "_law_urn" = some (.ref (He.ga K "_law_urn")) := He.glo_ok X G (c.fact 9 (f := .glo "_law_urn") rfl)
  obtain ⟨fd_law_draw, F_law_draw⟩ := c.def_ 10 (d := df_law_draw) rfl
  have g_law_draw : mg "_law_draw" = some (.ref (He.ga K "_law_draw")) := He.glo_ok X G (c.fact 10 (f := .glo "_law_draw") rfl)
  obtain ⟨fd_law_pick, F_law_pick⟩ := c.def_ 11 (d := df_law_pick) rfl
  have g_law_pick : mg "_law_pick" = some (.ref (He.ga K "_law_pick")) := He.glo_ok X G (c.fact 11 (f := .glo "_law_pick") rfl)
  obtain ⟨fd_law_mixed, F_law_mixed⟩ := c.def_ 12 (d := df_law_mixed) rfl
  have g_law_mixed : mg "_law_mixed" = some (.ref (He.ga K "_law_mixed")) := He.glo_ok X G (c.fact 12 (f := .glo "_law_mixed") rfl)
  obtain ⟨fd_law_small, F_law_small⟩ := c.def_ 13 (d := df_law_small) rfl
  have g_law_small : mg "_law_small" = some (.ref (He.ga K "_law_small")) := He.glo_ok X G (c.fact 13 (f := .glo "_law_small") rfl)
  obtain ⟨fd_law_tables, F_law_tables⟩ := c.def_ 14 (d := df_law_tables) rfl
  have g_law_tables : mg "_law_tables" = some (.ref (He.ga K "_law_tables")) := He.glo_ok X G (c.fact 14 (f := .glo "_law_tables") rfl)
  obtain ⟨fd_law_shelf, F_law_shelf⟩ := c.def_ 15 (d := df_law_shelf) rfl
  have g_law_shelf : mg "_law_shelf" = some (.ref (He.ga K "_law_shelf")) := He.glo_ok X G (c.fact 15 (f := .glo "_law_shelf") rfl)
  obtain ⟨fd_law_is_recipe, F_law_is_recipe⟩ := c.def_ 16 (d := df_law_is_recipe) rfl
  have g_law_is_recipe : mg "_law_is_recipe" = some (.ref (He.ga K "_law_is_recipe")) := He.glo_ok X G (c.fact 16 (f := .glo "_law_is_recipe") rfl)
  obtain ⟨fd_law_plan, F_law_plan⟩ := c.def_ 17 (d := df_law_plan) rfl
  have g_law_plan : mg "_law_plan" = some (.ref (He.ga K "_law_plan")) := He.glo_ok X G (c.fact 17 (f := .glo "_law_plan") rfl)
  obtain ⟨fd_law_beat, F_law_beat⟩ := c.def_ 18 (d := df_law_beat) rfl
  have g_law_beat : mg "_law_beat" = some (.ref (He.ga K "_law_beat")) := He.glo_ok X G (c.fact 18 (f := .glo "_law_beat") rfl)
  obtain ⟨fd_law_is_told, F_law_is_told⟩ := c.def_ 19 (d := df_law_is_told) rfl
  have g_law_is_told : mg "_law_is_told" = some (.ref (He.ga K "_law_is_told")) := He.glo_ok X G (c.fact 19 (f := .glo "_law_is_told") rfl)
  obtain ⟨fd_law_rows, F_law_rows⟩ := c.def_ 20 (d := df_law_rows) rfl
  have g_law_rows : mg "_law_rows" = some (.ref (He.ga K "_law_rows")) := He.glo_ok X G (c.fact 20 (f := .glo "_law_rows") rfl)
  obtain ⟨fd_law_called, F_law_called⟩ := c.def_ 21 (d := df_law_called) rfl
  have g_law_called : mg "_law_called" = some (.ref (He.ga K "_law_called")) := He.glo_ok X G (c.fact 21 (f := .glo "_law_called") rfl)
  obtain ⟨fd_law_setter, F_law_setter⟩ := c.def_ 22 (d := df_law_setter) rfl
  have g_law_setter : mg "_law_setter" = some (.ref (He.ga K "_law_setter")) := He.glo_ok X G (c.fact 22 (f := .glo "_law_setter") rfl)
  obtain ⟨fd_law_carrying, F_law_carrying⟩ := c.def_ 23 (d := df_law_carrying) rfl
  have g_law_carrying : mg "_law_carrying" = some (.ref (He.ga K "_law_carrying")) := He.glo_ok X G (c.fact 23 (f := .glo "_law_carrying") rfl)
  obtain ⟨fd_Sheet___init__, F_Sheet___init__⟩ := c.def_ 24 (d := df_Sheet___init__) rfl
  have g_Sheet___init__ : Mk K (sA K) (He.ma K (sA K) "__init__") := He.mkr_ok (c.fact 24 (f := .mkr "Sheet") rfl)
  obtain ⟨fd_Sheet_put, F_Sheet_put⟩ := c.def_ 25 (d := df_Sheet_put) rfl
  have g_Sheet_put : Meth K (sA K) "put" (He.ma K (sA K) "put") := He.meth_ok (c.fact 25 (f := .meth "Sheet" "put") rfl)
  obtain ⟨fd_Sheet_put_all, F_Sheet_put_all⟩ := c.def_ 26 (d := df_Sheet_put_all) rfl
  have g_Sheet_put_all : Meth K (sA K) "put_all" (He.ma K (sA K) "put_all") := He.meth_ok (c.fact 26 (f := .meth "Sheet" "put_all") rfl)
  obtain ⟨fd_state_bit, F_state_bit⟩ := c.def_ 27 (d := df_state_bit) rfl
  have g_state_bit : mg "state_bit" = some (.ref (He.ga K "state_bit")) := He.glo_ok X G (c.fact 27 (f := .glo "state_bit") rfl)
  obtain ⟨fd_Sheet_chosen, F_Sheet_chosen⟩ := c.def_ 28 (d := df_Sheet_chosen) rfl
  have g_Sheet_chosen : Meth K (sA K) "chosen" (He.ma K (sA K) "chosen") := He.meth_ok (c.fact 28 (f := .meth "Sheet" "chosen") rfl)
  obtain ⟨fd_letter_number, F_letter_number⟩ := c.def_ 29 (d := df_letter_number) rfl
  have g_letter_number : mg "letter_number" = some (.ref (He.ga K "letter_number")) := He.glo_ok X G (c.fact 29 (f := .glo "letter_number") rfl)
  obtain ⟨fd_state_number, F_state_number⟩ := c.def_ 30 (d := df_state_number) rfl
  have g_state_number : mg "state_number" = some (.ref (He.ga K "state_number")) := He.glo_ok X G (c.fact 30 (f := .glo "state_number") rfl)
  obtain ⟨fd_Sheet_told, F_Sheet_told⟩ := c.def_ 31 (d := df_Sheet_told) rfl
  have g_Sheet_told : Meth K (sA K) "told" (He.ma K (sA K) "told") := He.meth_ok (c.fact 31 (f := .meth "Sheet" "told") rfl)
  obtain ⟨fd_made_with_fewest, F_made_with_fewest⟩ := c.def_ 32 (d := df_made_with_fewest) rfl
  have g_made_with_fewest : mg "made_with_fewest" = some (.ref (He.ga K "made_with_fewest")) := He.glo_ok X G (c.fact 32 (f := .glo "made_with_fewest") rfl)
  obtain ⟨fd_law_few, F_law_few⟩ := c.def_ 33 (d := df_law_few) rfl
  have g_law_few : mg "_law_few" = some (.ref (He.ga K "_law_few")) := He.glo_ok X G (c.fact 33 (f := .glo "_law_few") rfl)
  obtain ⟨fd_law, F_law⟩ := c.def_ 34 (d := df_law) rfl
  have e := hfa.symm.trans (He.glo_ok X G (c.fact 34 (f := .glo "law") rfl))
  cases e
  have b := FunD.bindsA (ps := ["script"]) F_law fun _ _ _ _ _ _ us hl => match us, hl with | [_], _ => rfl
  have fr : Fr mg := ⟨He.free_ok X G (c.fact 35 (f := .free "abs") rfl), He.free_ok X G (c.fact 36 (f := .free "enumerate") rfl), He.free_ok X G (c.fact 37 (f := .free "int") rfl), He.free_ok X G (c.fact 38 (f := .free "isinstance") rfl), He.free_ok X G (c.fact 39 (f := .free "len") rfl), He.free_ok X G (c.fact 40 (f := .free "list") rfl), He.free_ok X G (c.fact 41 (f := .free "max") rfl), He.free_ok X G (c.fact 42 (f := .free "range") rfl), He.free_ok X G (c.fact 43 (f := .free "repr") rfl), He.free_ok X G (c.fact 44 (f := .free "sorted") rfl), He.free_ok X G (c.fact 45 (f := .free "tuple") rfl)⟩
  have gC : mg "Unfit" = some (.ref (uC K)) := He.glo_ok X G (c.fact 46 (f := .glo "Unfit") rfl)
  have gL : mg "LadderError" = some (.ref (uL K)) := He.glo_ok X G (c.fact 47 (f := .glo "LadderError") rfl)
  have gS : mg "super" = none := He.free_ok X G (c.fact 48 (f := .free "super") rfl)
  have gI : mg "isinstance" = none := He.free_ok X G (c.fact 49 (f := .free "isinstance") rfl)
  have gSh : mg "Sheet" = some (.ref (sA K)) := He.glo_ok X G (c.fact 50 (f := .glo "Sheet") rfl)
  have XS : ShC K (sA K) := ⟨He.cls_ok (c.fact 51 (f := .cls "Sheet") rfl), He.noat_ok (c.fact 52 (f := .noat "Sheet" "inputs") rfl), He.noat_ok (c.fact 53 (f := .noat "Sheet" "rows") rfl), He.noat_ok (c.fact 54 (f := .noat "Sheet" "numbers") rfl)⟩
  have T := unf_of u1 u2
  have xC := exc_of u1
  refine ⟨fd_law, fun s v => b s [v] rfl, fun base _ _ => ?_⟩
  have C_come_to : Cal Rw.prog w K mg base "come_to" ["rows"] 1 (sp_come_to K) := c_come_to F_come_to g_come_to fr
  have C_numbered : Cal Rw.prog w K mg base "numbered" ["states", "keys"] 1 (sp_numbered K) := c_numbered F_numbered g_numbered fr
  have C_classes_of : Cal Rw.prog w K mg base "classes_of" ["rows", "states"] 2 (sp_classes_of K) := c_classes_of F_classes_of g_classes_of fr C_numbered
  have C_least : Cal Rw.prog w K mg base "least" ["machine"] 3 (sp_least K) := c_least F_least g_least fr C_classes_of C_come_to
  have C_targets_by : Cal Rw.prog w K mg base "targets_by" ["small", "letter"] 1 (sp_targets_by K) := c_targets_by F_targets_by g_targets_by fr
  have C_stays : Cal Rw.prog w K mg base "stays" ["small", "letter"] 2 (sp_stays K) := c_stays F_stays g_stays fr C_targets_by
  have C_sets_or_stays : Cal Rw.prog w K mg base "sets_or_stays" ["small", "letter"] 3 (sp_sets_or_stays K) := c_sets_or_stays F_sets_or_stays g_sets_or_stays fr C_targets_by C_stays
  have C_setters : CalN Rw.prog w K mg base "setters" ["machine"] 4 (sp_setters K) := c_setters F_setters g_setters fr C_least C_sets_or_stays
  have C_fewest : CalX Rw.prog w K mg base "fewest" ["machine"] 5 (sp_fewest K (uC K)) := c_fewest F_fewest g_fewest fr T gC gS C_setters C_least
  have C_law_urn : Cal Rw.prog w K mg base "_law_urn" ["script"] 1 (sp_law_urn K) := c_law_urn F_law_urn g_law_urn fr
  have C_law_draw : Cal Rw.prog w K mg base "_law_draw" ["urn", "many"] 1 (sp_law_draw K) := c_law_draw F_law_draw g_law_draw fr
  have C_law_pick : Cal Rw.prog w K mg base "_law_pick" ["urn", "some"] 2 (sp_law_pick K) := c_law_pick F_law_pick g_law_pick fr C_law_draw
  have C_law_mixed : Cal Rw.prog w K mg base "_law_mixed" ["urn", "some"] 2 (sp_law_mixed K) := c_law_mixed F_law_mixed g_law_mixed fr C_law_draw
  have C_law_small : Cal Rw.prog w K mg base "_law_small" ["engine"] 1 (sp_law_small K) := c_law_small F_law_small g_law_small fr
  have C_law_tables : Cal Rw.prog w K mg base "_law_tables" [] 1 (sp_law_tables K) := c_law_tables F_law_tables g_law_tables fr
  have C_law_shelf : Cal Rw.prog w K mg base "_law_shelf" ["shelf"] 1 (sp_law_shelf K) := c_law_shelf F_law_shelf g_law_shelf fr
  have C_law_is_recipe : Cal Rw.prog w K mg base "_law_is_recipe" ["value", "many", "shelf"] 2 (sp_law_is_recipe K) := c_law_is_recipe F_law_is_recipe g_law_is_recipe fr C_law_shelf
  have C_law_plan : Cal Rw.prog w K mg base "_law_plan" ["recipe"] 2 (sp_law_plan K) := c_law_plan F_law_plan g_law_plan fr C_law_tables
  have C_law_beat : Cal Rw.prog w K mg base "_law_beat" ["plan", "bits", "kept"] 1 (sp_law_beat K) := c_law_beat F_law_beat g_law_beat fr
  have C_law_is_told : Cal Rw.prog w K mg base "_law_is_told" ["engine", "recipe", "bound"] 3 (sp_law_is_told K) := c_law_is_told F_law_is_told g_law_is_told fr C_law_plan C_law_beat
  have C_law_rows : Cal Rw.prog w K mg base "_law_rows" ["urn", "many", "steps"] 2 (sp_law_rows K) := c_law_rows F_law_rows g_law_rows fr C_law_draw
  have C_law_called : Cal Rw.prog w K mg base "_law_called" ["urn", "engine"] 3 (sp_law_called K) := c_law_called F_law_called g_law_called fr C_law_mixed C_law_draw
  have C_law_setter : Cal Rw.prog w K mg base "_law_setter" ["urn", "many", "states"] 3 (sp_law_setter K) := c_law_setter F_law_setter g_law_setter fr C_law_rows C_law_draw
  have C_law_carrying : Cal Rw.prog w K mg base "_law_carrying" ["recipe"] 1 (sp_law_carrying K) := c_law_carrying F_law_carrying g_law_carrying fr
  have C_Sheet___init__ : CalI Rw.prog w K mg base (sA K) ["self", "many"] 1 (sp_Sheet___init__ Rw.prog w (sA K)) := c_Sheet___init__ F_Sheet___init__ g_Sheet___init__ fr XS gSh
  have C_Sheet_put : CalM Rw.prog w K mg base (sA K) "put" ["self", "row"] 1 (sp_Sheet_put Rw.prog w K (sA K)) := c_Sheet_put F_Sheet_put g_Sheet_put fr XS gSh
  have C_Sheet_put_all : CalM Rw.prog w K mg base (sA K) "put_all" ["self", "word", "operands"] 2 (sp_Sheet_put_all Rw.prog w K (sA K)) := c_Sheet_put_all F_Sheet_put_all g_Sheet_put_all fr XS gSh C_Sheet_put
  have C_state_bit : Cal Rw.prog w K mg base "state_bit" ["sheet", "small", "letters", "place"] 3 (sp_state_bit Rw.prog w K (sA K)) := c_state_bit F_state_bit g_state_bit fr XS gSh C_Sheet_put_all C_Sheet_put C_stays C_targets_by
  have C_Sheet_chosen : CalM Rw.prog w K mg base (sA K) "chosen" ["self", "operand", "bit"] 2 (sp_Sheet_chosen Rw.prog w K (sA K)) := c_Sheet_chosen F_Sheet_chosen g_Sheet_chosen fr XS gSh C_Sheet_put
  have C_letter_number : Cal Rw.prog w K mg base "letter_number" ["sheet", "letter"] 3 (sp_letter_number Rw.prog w K (sA K)) := c_letter_number F_letter_number g_letter_number fr XS gSh C_Sheet_put_all C_Sheet_chosen
  have C_state_number : Cal Rw.prog w K mg base "state_number" ["sheet", "bits", "state"] 3 (sp_state_number Rw.prog w K (sA K)) := c_state_number F_state_number g_state_number fr XS gSh C_Sheet_put_all C_Sheet_chosen
  have C_Sheet_told : CalM Rw.prog w K mg base (sA K) "told" ["self", "operand"] 2 (sp_Sheet_told Rw.prog w K (sA K)) := c_Sheet_told F_Sheet_told g_Sheet_told fr XS gSh C_Sheet_put
  have C_made_with_fewest : CalX Rw.prog w K mg base "made_with_fewest" ["machine"] 6 (sp_made_with_fewest Rw.prog w K (sA K) (uC K)) := c_made_with_fewest F_made_with_fewest g_made_with_fewest fr XS gSh T gC gS C_fewest C_least C_Sheet___init__ C_Sheet_told C_letter_number C_state_bit C_Sheet_put_all C_state_number C_Sheet_put
  have C_law_few : Cal Rw.prog w K mg base "_law_few" ["engine"] 7 (sp_law_few K) := c_law_few F_law_few g_law_few gC gL gI xC C_made_with_fewest
  exact ok_law F_law fr C_law_urn C_law_pick C_law_called C_law_setter C_law_small C_law_few C_law_is_recipe C_law_carrying C_law_is_told C_law_draw C_fewest
end SS
open PySem PySem.W PySem.Calls PyProof.Rows
theorem PySem.Challenge.cw_carryladder_k70_whole_programs_with_the_holds : PySem.Challenge.rw_carryladder_k70_whole_programs_with_the.Holds := by
  w_on; o_law
  refine HandSHeadRun.head_any (r := SS.Rw) (q := view SS.Rw.prog [36]) (H := SS.hkk) (ob := SS.obb) (M := 2000) (loose := SS.lse) (d := HandSHeadRun.topDef SS.Rw.prog 36) (kwd := []) SS.obb_eq
    (by kernel_rfl) (fun s => by kernel_rfl) SS.runs (by kernel_rfl) (by kernel_rfl) (by kernel_rfl) (by rfl) (by first | assumption | decide +kernel) (by decide +kernel) ⟨rfl, rfl, rfl, rfl, rfl, by decide +kernel⟩ ?hw ?hc
  case hw => w_witness2
  case hc =>
    refine DL.walk_ofG (l := PySem.Challenge.rw_carryladder_k70_whole_programs_with_the) (n := 63) (k := 8) (x := "script") (CX := L2.CX0) rfl (by decide) (by kernel_rfl) ⟨rfl, by decide, by decide⟩ ?F (fun _ _ _ _ z => z)
    intro w mg fa h Y G hmg0
    obtain ⟨K, KX, c, u1, u2⟩ := Y
    have hmg : mg ("law" : PySem.Str) = some (.ref fa) := by
      have e : (HandSHeadRun.topDef SS.Rw.prog 36).name = ("law" : PySem.Str) := by kernel_rfl
      rw [← e]
      exact hmg0
    obtain ⟨fd, hb, hF⟩ := SS.facts (w := w) KX G hmg c u1 u2
    exact ⟨K, fd, SS.sp_law K, KX, hb, fun H a ns hl _ hS => ⟨a, ns, rfl, hS, hl, fun _ => rfl⟩, hF⟩
