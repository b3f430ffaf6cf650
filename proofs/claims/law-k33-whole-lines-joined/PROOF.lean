import PyProof.Rows.All
import Wide.All
import OpenK.AllK
import Wide.FinOn
import PySem.Challenge.RW_beamheads_k33_whole_lines_joined
import HandS.ForMost
import HandS.Lambda
import KE.GoesEnum
import PyProof.EqAt
import PyProof.EqKinds
import PyProof.TupleCall
import KE.KExcSuper
import HandS.Exc
import KE.KExcIs
import HandS.FStr
import OpenK.KOps
import HandS.Codes
import HandS.IsInst
import HandS.Walk
import HandS.Defaults
import HandS.TupAny
import HandS.WordsExc
import HandS.Star
import HandS.ClsMeth
import PyProof.InstNe
import KE.KOpsOwn
import HandS.TryOnly
import HandS.ExcField
import HandS.TupSets
import HandS.SortRule
import HandS.SortInts
import HandS.Keys
import HandS.SortOrd
import HandS.Style
import HandS.EndTab
section
set_option Elab.async false
set_option linter.all false
set_option maxRecDepth 100000
set_option maxHeartbeats 4000000
/-! KR1: contracts of defs that run while no repr is under way (A.guards = some []). -/
namespace KX
open PySem PySem.Spec PyProof.Rows L2
/-- no repr is under way -/
def Gd (A : Around) : Prop := A.guards = some []
theorem Gd.deeper {A : Around} (g : Gd A) (env : Env) : Gd (A.deeper env) := g
/-- as FnOk, called where no repr is under way -/
structure FnG (P : Program) (w : World) (K : PySem.W.Frag) (mg : Str → Option Value) (base : Heap) (CX : CXT) (k : Nat) (f : Addr) (fd : FuncData) (ps : List Str) (sp : Sp) : Prop where
  len : ∀ vs H Q E, sp vs H Q E → vs.length = ps.length
  run : ∀ (A : Around) (outer : List Env) (s : Shared) (H : Hp) (args : Args) (us : List Value) (vs : List V) (Q : VK) (E : XK), Gd A → Room k A →
    Env0 P w K mg base A outer s H → BindsTo s fd args (ps.zip us) → Vals vs us → sp vs H Q E → codeAny (model P w) A (.call (.ref f) args) (CR CX outer P w H s Q E) s
theorem FnG.mono {P : Program} {w : World} {K : PySem.W.Frag} {mg : Str → Option Value} {base : Heap} {CX : CXT} {j k : Nat} {f : Addr} {fd : FuncData} {ps : List Str} {sp : Sp}
    (F : FnG P w K mg base CX j f fd ps sp) (h : j ≤ k) : FnG P w K mg base CX k f fd ps sp :=
  ⟨F.len, fun A outer s H args us vs Q E g hr => F.run A outer s H args us vs Q E g (hr.mono h)⟩
section
variable {P : Program} {w : World} {K : PySem.W.Frag} {mg : Str → Option Value} {base : Heap}
theorem okG {x qual : Str} {st : Stmt} {f : Addr} {fd : FuncData} {N ps : List Str} {k : Nat} {sp : Sp} (F : Fun K x qual st f fd) (S : FnScope N ps (defScope st))
    (len : ∀ vs H Q E, sp vs H Q E → vs.length = ps.length)
    (hb : ∀ (cdv : Value) (A : Around) (outer : List Env) (s : Shared) (H : Hp) (vs : List V) (Q : VK) (E : XK), Gd A →
      Room k (A.deeper (envOfC qual (defScope st) s.heap.objs.size f cdv)) → sp vs H Q E →
      ∃ t, PSs (cxOf CX0 P w K mg base N qual (defScope st) f cdv A outer s H E).nox (defBody st) t ∧ t { nx := fun _ H' => Q .non H', rt := Q } (L2.start N vs) H) :
    FnG P w K mg base CX0 (k + 1) f fd ps sp := by
  obtain ⟨oc, od, kV, doc, pm, an, cdv, ct, osl, rfl, lk, hcd⟩ := F.ex
  refine ⟨len, fun A outer s H args us vs Q E g hr e0 bt rv hsp => ?_⟩
  refine LamX.run_ofS lk hcd S hr e0 bt rv (len _ _ _ _ hsp) fun hr' => ?_
  obtain ⟨t, h1, h2⟩ := hb cdv A outer s H vs Q E g hr' hsp
  exact ⟨t, h1.nox, h2⟩
end
section
variable {X : Cx} {CX : CXT} {k : Nat} {f : Addr} {fd : FuncData} {ps : List Str} {sp : Sp} {E : XK} {x : Str} {p pos : Pos} {e : Expr} {es : List Expr} {t : TA}
theorem run_g {pins : List (Addr × Obj)} {σ : L2.St} {H : Hp} {s : Shared} {Q : VK} {us : List Value} {vs : List V} (F : FnG X.prog X.w X.K X.mg X.base CX k f fd ps sp)
    (g : Gd X.A) (hr : Room k X.A) (hb : L2.Binds X.K fd ps []) (hx : Passes CX X E) (I : Inv X pins σ H s) (r : Vals vs us) (hsp : sp vs H Q E) :
    wpAny (model X.prog X.w) X.A (call (.ref f) us) (EP X pins σ Q) X.xe s := by
  have hl : us.length = ps.length := r.length.symm.trans (F.len _ _ _ _ hsp)
  have hbt := hb s us I.kIn (by simpa using hl)
  rw [List.append_nil] at hbt
  refine wpAny_call (codeAny_mono (F.run X.A X.stack s H ⟨us, []⟩ us vs Q E g hr I.env0 hbt r hsp) fun res s' hq => ?_)
  match res, hq with
  | .error er, hq => exact hx pins σ H s er s' I hq
  | .ok (.ret u), hq => exact I.after hq
  | .ok .next, hq => exact hq.elim
  | .ok .brk, hq => exact hq.elim
  | .ok .cont, hq => exact hq.elim
/-- x(e, ..) -/
theorem pe_callG (F : FnG X.prog X.w X.K X.mg X.base CX k f fd ps sp) (g : Gd X.A) (hr : Room k X.A) (hg : Gl X x) (hm : X.mg x = some (.ref f)) (hk : PySem.W.keepIn X.K (.ref f) = true)
    (hb : L2.Binds X.K fd ps []) (hx : Passes CX X E) (ha : PA X (e :: es) t) (hdb : (x == ("__debug__" : Str)) = false := by decide)
    (he : starEach (e :: es) X.env = (false, eval e X.env) :: starEach es X.env := by rfl) (hpl : (backTo pos (starEach es X.env)).any (·.1) = false := by rfl) :
    PE X (.Call (.Name x p) (e :: es) [] pos) (tCall sp [] E t) := by
  constructor
  intro pins s σ H Q I hw
  refine wpAny_Call_Name_kw (ld_glob I hg hm ?_ hdb)
  refine PySem.W.callWith_K (h₀ := X.base) I.ok.mod.kin hk (thn (ha.run pos pins s σ H _ I hw) fun us s1 ⟨vs, H1, I1, r, q⟩ => ⟨I1.kIn, ?_⟩) he hpl
  have q2 : sp (vs ++ []) H1 Q E := q
  rw [List.append_nil] at q2
  exact run_g F g hr hb hx I1 r q2
theorem pe_callG0 (F : FnG X.prog X.w X.K X.mg X.base CX k f fd ps sp) (g : Gd X.A) (hr : Room k X.A) (hg : Gl X x) (hm : X.mg x = some (.ref f)) (hk : PySem.W.keepIn X.K (.ref f) = true)
    (hb : L2.Binds X.K fd ps []) (hx : Passes CX X E) (hdb : (x == ("__debug__" : Str)) = false := by decide) :
    PE X (.Call (.Name x p) [] [] pos) (fun _ H Q => sp [] H Q E) := by
  constructor
  intro pins s σ H Q I hw
  refine wpAny_Call_Name_kw (ld_glob I hg hm ?_ hdb)
  exact PySem.W.callWith_K0 I.kIn hk (run_g F g hr hb hx I .nil hw)
end
end KX
end
section
set_option Elab.async false
set_option linter.all false
set_option maxRecDepth 100000
set_option maxHeartbeats 4000000
/-! KR2: for i, x in enumerate(t), t a tuple. -/
namespace KX
open PySem PySem.Spec PyProof.Rows
abbrev tupIt (t : Addr) : Obj := { cls := .type "tuple_iterator", data := .fields #[.ref t, .int 0 0] }
abbrev enumO (it : Addr) : Obj := { cls := .type "enumerate", data := .fields #[.none, .bool false, .ref it, rawInt 0, .none, .none] }
/-- the made enumerate object, told of a tuple -/
theorem enumT_meets (t : Addr) (items : Array Value) :
    Meets (Builtin.«enumerate.__new__» ⟨[.type "enumerate", .ref t], []⟩) (fun _ R s => s.heap.IsTuple t items ∧
      R (.ok (.ret (.ref (s.heap.push (tupIt t)).objs.size))) { s with heap := (s.heap.push (tupIt t)).push (enumO s.heap.objs.size) }) :=
  .of_wp fun prog w A R s h => by
    obtain ⟨hp, g, d, tk, os⟩ := s
    obtain ⟨ht, h⟩ := h
    have hsub := sub_enumerate
    have go : ∀ {A' : Around} {E : Value → Shared → Prop} {Q : Value → Shared → Prop}, Q (.ref hp.objs.size) ⟨hp.push (tupIt t), g, d, tk, os⟩ →
        wpAny (model prog w) A' (pyIter (.ref t)) Q E ⟨hp, g, d, tk, os⟩ := fun q => wpAny_pyIter_tuple ht q
    wp_walk using go
    refine wpAny_stack_any fun st => wpAny_pure ?_
    split
    · rename_i c _ _ _ _ _
      cases (c == Value.type "enumerate") <;> (wp_walk using go; exact ⟨_, rfl, h⟩)
    · wp_walk using go
      exact ⟨_, rfl, h⟩
section
variable {prog : Program} {w : World} {A : Around} {E : Value → Shared → Prop} {s : Shared}
theorem call_enumT {t : Addr} {items : Array Value} {Q : Value → Shared → Prop} (ht : s.heap.IsTuple t items)
    (h : ∀ h', IsEnum h' (s.heap.objs.size + 1) s.heap.objs.size 0 .none → h'.IsTupleIter s.heap.objs.size t 0 →
      (∀ b o, s.heap.get? b = some o → h'.get? b = some o) → Q (.ref (s.heap.objs.size + 1)) { s with heap := h' }) :
    wpAny (model prog w) A (call (.type "enumerate") [.ref t]) Q E s := by
  refine callType_new F.called_enumerate (by decide) (F.typeCall_enumerate_1 _) (F.newCall_enumerate_1 _) (fun obj => F.args_object_init_2 obj _) F.entry_enumerate_new (enumT_meets t items) ⟨ht, ?_⟩
  have hz : (s.heap.push (tupIt t)).objs.size = s.heap.objs.size + 1 := Heap.size_push ..
  have he : IsEnum ((s.heap.push (tupIt t)).push (enumO s.heap.objs.size)) (s.heap.objs.size + 1) s.heap.objs.size 0 .none := by
    have q := Heap.get?_push_size (s.heap.push (tupIt t)) (o := enumO s.heap.objs.size) rfl
    rw [hz] at q
    exact q
  have hi : ((s.heap.push (tupIt t)).push (enumO s.heap.objs.size)).IsTupleIter s.heap.objs.size t 0 := ⟨_, Heap.get?_push_of_some _ (Heap.get?_push_size _ rfl), rfl, rfl⟩
  show _ ∧ _
  rw [hz]
  exact ⟨⟨_, he, rfl⟩, h _ he hi fun b o q => Heap.get?_push_of_some _ (Heap.get?_push_of_some _ q)⟩
end
end KX
namespace KX
open PySem PySem.Spec PyProof.Rows L2
/-- the tuple at a as it stands at each turn, each item in a new pair -/
def Iet (K : PySem.W.Frag) (a : Addr) : It where
  go := fun i H => ∃ (xs : List V) (x : V), SqT K H a xs ∧ xs[i]? = some x
  yld := fun i H v H' => ∃ T x, v = .ref T ∧ H T = none ∧ H' = upd H T (.tup [.int (i : Nat), x]) ∧ ∀ xs, SqT K H a xs → xs[i]? = some x
  stop := fun i H => ∃ xs : List V, SqT K H a xs ∧ xs.length ≤ i
theorem turn_enumT {P : Program} {w : World} {K : PySem.W.Frag} {elts : List Expr} {kk : Nat} {tpos : Pos} (a e it : Addr) :
    Turn P w K (.Tuple elts kk tpos) (Iet K a) [e, it] e (fun i h => (∃ old, IsEnum h e it ((i : Nat) : Int) old) ∧ h.IsTupleIter it a i ∧ e ≠ it) where
  mem := List.mem_cons_self
  obj := fun i h st b hb => by
    obtain ⟨⟨old, he⟩, ⟨o, ho, hc, hd⟩, _⟩ := st
    rcases List.mem_cons.mp hb with z | z
    · subst z
      exact ⟨_, he, fun v q => nomatch q⟩
    · cases List.mem_singleton.mp z
      exact ⟨o, ho, fun v q => by rw [hd] at q; cases q⟩
  keep := fun i h h' st k => by
    obtain ⟨⟨old, he⟩, ⟨o, ho, q⟩, hne⟩ := st
    exact ⟨⟨old, k e (by simp) _ he⟩, ⟨o, k it (by simp) o ho, q⟩, hne⟩
  item := by
    intro X hP hw hK hc i pins s σ H E I hf st hg
    subst hP hw hK
    obtain ⟨⟨old, he⟩, hit, hne⟩ := st
    obtain ⟨xs, x, hq, hx⟩ := hg
    obtain ⟨its, rv, p, hz⟩ := I.tuple hq
    obtain ⟨u, hu, ru⟩ := rv.get hx
    have pt : s.heap.IsTuple a its.toArray := p
    have hel : e < s.heap.objs.size := Heap.lt_size he
    have hil : it < s.heap.objs.size := by obtain ⟨_, q, _⟩ := hit; exact Heap.lt_size q
    have hlt : i < its.toArray.size := by
      have q := (List.getElem?_eq_some_iff.mp hu).1
      simpa using q
    have hai : a ≠ it := fun z => by
      obtain ⟨o, ho, hc', _⟩ := pt
      obtain ⟨o', ho', hc2, _⟩ := hit
      rw [z, ho'] at ho
      cases ho
      rw [hc'] at hc2
      injection hc2 with q
      exact absurd q (by decide)
    have hae : a ≠ e := fun z => by
      obtain ⟨o, ho, hc', _⟩ := pt
      rw [z] at ho
      have q : some o = some _ := ho.symm.trans he
      cases q
      injection hc' with q
      exact absurd q (by decide)
    have D := Draws.tuple (prog := X.prog) (w := X.w) (A := X.A.in1) (I.ok.hd hc) it a hai its.toArray
    refine wpAny_pyNext_enum_itemD D he ⟨hit, pt⟩ hlt hne (by simp [hne, Ne.symm hae]) fun x' h' tk hx' ho hst hT hsz hk => ?_
    have ex : x' = u := by
      have q : its[i]? = some x' := by simpa using hx'
      rw [hu] at q
      exact (Option.some.inj q).symm
    subst ex
    refine ⟨_, rfl, wpAny_letOwnedTupleGo_enum (s := { s with heap := h', toks := tk + 1 }) ho fun h'' he' sb => ?_⟩
    have hT2 : h''.get? s.heap.objs.size = some { cls := .type "tuple", data := .seq #[.int i tk, x'] } := (sb.2 _ (Nat.ne_of_gt hel)).trans hT
    have new : ObjOk X.prog X.w (upd H s.heap.objs.size (.tup [.int (i : Nat), x])) h'' s.heap.objs.size (.tup [.int (i : Nat), x]) :=
      ⟨by show 2 ≤ sizeLine; decide, [.int i tk, x'], .cons ⟨_, rfl⟩ (.cons ru .nil), ⟨_, hT2, rfl, _, rfl⟩⟩
    have I1 : Inv X pins σ (upd H s.heap.objs.size (.tup [.int (i : Nat), x])) { s with heap := h'', toks := tk + 1 } :=
      I.turnedNew (ch := [e, it]) (fun b ob hb q => by
        have nbe : b ≠ e := fun z => hb (by simp [z])
        have nbi : b ≠ it := fun z => hb (by simp [z])
        exact (sb.2 b nbe).trans (hk b ob nbe nbi q)) hf (Nat.le_refl _) new
    have hit2 : h''.IsTupleIter it a (i + 1) := by
      obtain ⟨⟨o, ho1, r1⟩, _⟩ := hst
      exact ⟨o, (sb.2 it (Ne.symm hne)).trans ho1, r1⟩
    refine ⟨.ref s.heap.objs.size, _, I1, rfl, ⟨_, x, rfl, I.hok.fresh (Nat.le_refl _), rfl, fun ys hy => by rw [I.tuple_inj hy hq]; exact hx⟩, ⟨⟨x', ?_⟩, hit2, hne⟩, fun b hb => ?_⟩
    · have e1 : ((i + 1 : Nat) : Int) = (i : Int) + 1 := by omega
      rw [e1]
      exact he'
    · have hb' : b < s.heap.objs.size := by
        rcases List.mem_cons.mp hb with z | z
        · rw [z]; exact hel
        · rw [List.mem_singleton.mp z]; exact hil
      rw [upd_ne (Nat.ne_of_lt hb')]
      exact (hf b hb).1
  done := by
    intro X hP hw hK hc i pins s σ H E I hf st hg
    subst hP hw hK
    obtain ⟨⟨old, he⟩, hit, hne⟩ := st
    obtain ⟨xs, hq, hx⟩ := hg
    obtain ⟨its, rv, p, hz⟩ := I.tuple hq
    have pt : s.heap.IsTuple a its.toArray := p
    obtain ⟨f0, f1, f2, f3, f4, f5⟩ := hf it (by simp)
    have hl := rv.length
    have T : s.TypeIs (.ref e) "enumerate" := ⟨_, he, rfl⟩
    unfold pyNext
    refine wpAny_bind (wpAny_attempt (wpAny_callSpecial?_slot (name := Str.ofString "__next__") T PySem.F.slot_enumerate_next
      (wpAny_call_entry PySem.F.slot_enumerate_next T PySem.F.entry_enumerate_next ?_ (PySem.F.args_enumerate_next_1 _))))
    show wpAny _ _ (field (.ref e) 2 >>= _) _ _ _
    refine wpAny_bind (wpAny_field he rfl (x := .ref it) rfl ?_)
    refine wpAny_bind (wpAny_nextOf_tuple_end (I.ok.hd hc) hit pt (by simp; omega) fun h' ex hb hs => ?_)
    obtain ⟨o, ho, hcl⟩ := hs
    refine wpAny_bind (wpAny_isInstance (T := "StopIteration") (b := true) ⟨o, ho, hcl⟩ isSubtype_stop ?_)
    exact wpAny_pure ⟨rfl, I.turned (t' := s.toks) (fun b o hne' q => hb b o hne' q) f0 f1 f3 f4 f5⟩
  self := fun A i s Q E st h => by
    obtain ⟨⟨_, he⟩, _⟩ := st
    exact wpAny_pyIter_enum he h
def iEnumT (K : PySem.W.Frag) (ta : TA) : TI := fun σ H R => ta σ H fun vs H1 => ∃ a xs, vs = [.ref a] ∧ SqT K H1 a xs ∧ R (Iet K a) H1
theorem pi_enumT {X : Cx} {e : Expr} {ta : TA} {p pos tpos : Pos} {elts : List Expr} {kk : Nat} (hg : Gl X "enumerate") (hm : X.mg "enumerate" = none) (ha : PA X [e] ta)
    (hs : starEach [e] X.env = [(false, eval e X.env)] := by rfl) : PI X (.Tuple elts kk tpos) (.Call (.Name "enumerate" p) [e] [] pos) (iEnumT X.K ta) := by
  constructor
  intro pins s σ H R I hw
  refine Call_ (ld_blt I hg hm boot_enumerate (PyProof.Rows.callWith_type1 (thn (ha.run pos pins s σ H _ I hw) fun us s1 ⟨vs, H1, I1, r1, q1⟩ => ?_) hs rfl))
  obtain ⟨a, xs, rfl, hq, q⟩ := q1
  obtain ⟨u, rfl, ru⟩ := vals1 r1
  cases ru
  obtain ⟨its, rv, p', hz⟩ := I1.tuple hq
  refine call_enumT (items := its.toArray) p' fun h' he hit hk => wpAny_pyIter_enum he ?_
  have I2 : Inv X pins σ H1 { s1 with heap := h' } := I1.kept (t' := s1.toks) hk
  refine ⟨s1.heap.objs.size + 1, [s1.heap.objs.size + 1, s1.heap.objs.size], _, _, H1, rfl, I2, turn_enumT a (s1.heap.objs.size + 1) s1.heap.objs.size, ⟨⟨.none, he⟩, hit, Nat.succ_ne_self _⟩, fun b hb => ?_, q⟩
  have hle : s1.heap.objs.size ≤ b := by
    rcases List.mem_cons.mp hb with z | z
    · rw [z]; exact Nat.le_add_right _ _
    · rw [List.mem_singleton.mp z]; exact Nat.le_refl _
  exact I1.fpOk hle (I1.hok.fresh hle)
end KX
end
section
set_option Elab.async false
set_option linter.all false
set_option maxRecDepth 100000
set_option maxHeartbeats 4000000
/-! KR3: an own exception over an own class over ValueError; its __init__ says super().__init__('..'), then stores one field. -/
namespace SupX
open PySem PySem.W PySem.Calls PyProof.Rows PySem.HandSPX
/-! ### the text of __init__ -/
def iA (f : Str) (p1 p2 : Pos) : Arguments :=
  { posonlyargs := [], args := [{ arg := "self", annotation := none, pos := p1 }, { arg := f, annotation := none, pos := p2 }], vararg := none, kwonlyargs := [], kw_defaults := [], kwarg := none, defaults := [] }
def iCall (msg : Str) (a1 a2 a3 a4 a5 : Pos) : Expr := .Call (.Attribute (.Call (.Name "super" a1) [] [] a2) "__init__" a3) [.Constant (.str msg) 0 a4] [] a5
def iB (f msg : Str) (a1 a2 a3 a4 a5 a6 q1 q2 q3 q4 : Pos) : List Stmt :=
  [.Expr (iCall msg a1 a2 a3 a4 a5) a6, .Assign [.Attribute (.Name "self" q1) f q2] (.Name f q3) q4]
def iS (f : Str) : Scope :=
  { kind := .function, names := [(PySem.Str.ofString "self", .local), (f, .local), (PySem.Str.ofString "__class__", .free), (PySem.Str.ofString "super", .globalImplicit)], isGenerator := false, isCoroutine := false, more := [] }
/-- what the written part says of the class at C, of its __init__ at fI -/
structure SupTxt (prog : Program) (K : Frag) (mg : Str → Option Value) (nm f : Str) (C fI : Addr) : Prop where
  gC : mg nm = some (.ref C)
  cls : ∃ nm q N bs bm sn sub ab col dd k0 k1 k2 k3 k5, K.lookup C = some (excClassObj nm q C N bs bm true sn sub ab col dd k0 k1 k2 k3 k5 "ValueError.__new__") ∧ refsVE bm = true
  sa : findIn K (.ref C) "__setattr__" = some (some (.builtin "object.__setattr__"))
  ga : findIn K (.ref C) "__getattribute__" = some (some (.builtin "BaseException.__getattribute__"))
  gg : findIn K (.ref C) "__getattr__" = some none
  noN : findIn K (.ref C) f = some none
  iC : findIn K (.ref C) "__init__" = some (some (.ref fI))
  tC : typeIn K (.ref fI) = some (.type "function")
  kC : keepIn K (.ref C) = true
  exC : subIn K (.ref C) (.type "BaseException") = some true
  tyC : typeIn K (.ref C) = some (.type "type")
  hdC : hasDictIn K C = true
  vC : subIn K (.ref C) (.type "ValueError") = some true
  cC : mroIn K C (.ref C) = some true
  sup : ks_superIn K C C "__init__" = some (some (.builtin "ValueError.__init__"))
  op : nsIn K cStatics "thirdparty.any" = some none
  gs : mg "super" = none
  top : (prog.main.scope.names.lookup ("super" : Str)).isSome = false
  nof : f = PySem.Str.ofString "position" ∨ f = PySem.Str.ofString "value"
  fn : ∃ (oc : Value) (od : Option Addr) (qual : Str) (doc pm : Value) (an : Option Addr) (cda cc : Addr) (ct : Value) (osl : Array (Option Value)) (msg : Str) (p1 p2 a1 a2 a3 a4 a5 a6 q1 q2 q3 q4 : Pos),
    K.lookup fI = some ⟨oc, od, .func (ksFn "__init__" qual (iA f p1 p2) (iB f msg a1 a2 a3 a4 a5 a6 q1 q2 q3 q4) (iS f) .none .none doc pm an (.ref cda) ct cc), osl⟩ ∧ codeIn K (.ref cda) qual = true ∧
    (∀ env : Env, ∃ pl : Sem Bool, eval (iCall msg a1 a2 a3 a4 a5) env = (do
      let ov ← attributeBase (.Call (.Name "super" a1) [] [] a2) "__init__" env (eval (.Call (.Name "super" a1) [] [] a2) env)
      standAt a3.atName
      let (f, first) ← holding [ov] (getMethod ov "__init__" pl)
      callWith a5 f first (backTo a5 (starEach [.Constant (.str msg) 0 a4] env)) [])) ∧
    (∃ (ccl : Value) (cdd : Option Addr) (vs : Array Value) (ccs : Array (Option Value)) (file : Str) (tf : Tok), K.lookup cda = some ⟨ccl, cdd, .fields vs, ccs⟩ ∧ vs[2]? = some (.str file tf) ∧ ((prog.main.file : Str) == file) = true) ∧
    ∃ (cl : Value) (cld : Option Addr) (csl : Array (Option Value)), K.lookup cc = some ⟨cl, cld, .cell (some (.ref C)), csl⟩
theorem one_fits (v : Value) : [v].length ≤ sizeLine := by
  rw [sizeLine_eq]
  exact (by decide : 1 ≤ 16777216)
/-- what __init__ leaves of a fresh exception at x -/
structure InitEnd (f : Str) (h h' : Heap) (x C dx t1 : Addr) (v : Value) : Prop where
  keep : ∀ b o, b ≠ x → h.get? b = some o → h'.get? b = some o
  obj : h'.get? x = some { cls := .ref C, dict := some dx, data := .fields #[.ref t1, .none, .none, .none, .bool false, .none] }
  dbig : h.objs.size ≤ dx
  dne : dx ≠ x
  ns : h'.Ns1 dx (fun y => if y = f then some v else none)
/-- a made exception -/
structure OwnMade (f : Str) (h h' : Heap) (e C d : Addr) (v : Value) : Prop where
  keep : ∀ b o, h.get? b = some o → h'.get? b = some o
  new : h.objs.size ≤ e
  obj : ∃ t1 : Addr, h'.get? e = some ({ cls := .ref C, dict := some d, data := .fields #[.ref t1, .none, .none, .none, .bool false, .none] } : Obj)
  dbig : h.objs.size ≤ d
  dne : d ≠ e
  ns : h'.Ns1 d (fun y => if y = f then some v else none)
section
variable {prog : Program} {w : World} {A : Around} {E : Value → Shared → Prop} {h : Heap} {g : Array GenState} {d : Drawn} {t : Nat} {os : OsState}
variable {nm q : Str} {C N : Addr} {bs bm : List Value} {hdct : Bool} {sn : List Str} {sub : List Value} {ab : Bool} {col : Option Bool} {dd : Option Addr} {k0 k1 k2 k3 k5 : Option Value}
/-- the bound ValueError.__init__ is called -/
theorem call_mw {u e t0 : Addr} {rest : List Value} {Q : Value → Shared → Prop} (hC : h.get? C = some (excClassObj nm q C N bs bm hdct sn sub ab col dd k0 k1 k2 k3 k5 "ValueError.__new__"))
    (he : h.get? e = some (excO C t0)) (hu : h.get? u = some (kxs_mw "ValueError.__init__" e)) (hz : rest.length ≤ sizeLine)
    (hq : ∀ h' t1, (∀ b o, b ≠ e → h.get? b = some o → h'.get? b = some o) → h'.get? e = some (excO C t1) → Q .none ⟨h', g, d, t, os⟩) :
    wpAny (model prog w) A (call (.ref u) rest) Q E ⟨h, g, d, t, os⟩ := by
  refine wpAny_call (codeAny_of_tree ?_)
  show wpAny _ A.in1 (callAny (.ref u) ⟨rest, []⟩) _ _ _
  simp only [callAny]
  refine wpAny_bind (wpAny_load hu ?_)
  simp only [kxs_mw, show (Value.type "method-wrapper" == Value.type "method" || Value.type "method-wrapper" == Value.type "builtin_function_or_method" || Value.type "method-wrapper" == Value.type "method-wrapper") = true by decide, if_true]
  refine KFB.if_so (by decide) ?_
  refine wpAny_bind (check_bound_init F.excBase_ValueError.toExcCallFacts hC he rfl ?_)
  refine wpAny_bind (wpAny_pure (wpAny_pure ?_))
  refine ⟨plainId_quiet F.excBase_ValueError.init.plain _, codeAny_builtin F.excBase_ValueError.initEntry ?_⟩
  exact exc_init_tree (cls := .ref C) (t0 := t0) (dv := none) (c2 := .none) (c3 := .none) (b4 := .bool false) he hz fun h' k' e' _ => hq h' _ k' e'
end
section
variable {f : Str}
theorem bind_sup (hf : f = PySem.Str.ofString "position" ∨ f = PySem.Str.ofString "value") {qual : Str} {p1 p2 : Pos} {body : List Stmt} {dV kV doc pm cdv ct : Value} {an : Option Addr} {cc : Addr} (x v : Value) :
    bindArgs (ksFn "__init__" qual (iA f p1 p2) body (iS f) .none .none doc pm an cdv ct cc) ⟨[x, v], []⟩ = pure [(PySem.Str.ofString "self", x), (f, v)] := by
  rcases hf with rfl | rfl <;> rfl
theorem look_sup (hf : f = PySem.Str.ofString "position" ∨ f = PySem.Str.ofString "value") :
    (iS f).names.lookup f = some NameKind.local ∧ (iS f).names.lookup (PySem.Str.ofString "self") = some NameKind.local ∧ (iS f).names.lookup (PySem.Str.ofString "super") = some NameKind.globalImplicit ∧
    (iS f).names.lookup (PySem.Str.ofString "__class__") = some NameKind.free ∧ (f == PySem.Str.ofString "__debug__") = false ∧ (PySem.Str.ofString "self" == f) = false := by
  rcases hf with rfl | rfl <;> (refine ⟨rfl, rfl, rfl, rfl, rfl, rfl⟩)
end
section
variable {prog : Program} {w : World} {A : Around} {E : Value → Shared → Prop} {R : Result → Shared → Prop} {s : Shared} {K : Frag} {mg mb : Str → Option Value} {nm f : Str} {C fI : Addr}
theorem sup_init (T : SupTxt prog K mg nm f C fI) {x t0 : Addr} {v : Value} (X : K.In s.heap) (hG : s.heap.Ns mainGlobals mg) (hB : s.heap.Ns builtinsNs mb) (hmb : mb "super" = some (.type "super"))
    (hlim : s.heap.NoLimit) (hx : s.heap.get? x = some (excO C t0)) (hnx : K.lookup x = none) (hroom : A.depth < recursionLimit)
    (hq : ∀ h' tk dx t1, InitEnd f s.heap h' x C dx t1 v → R (.ok (.ret .none)) { s with heap := h', toks := tk }) :
    codeAny (model prog w) A (.call (.ref fI) ⟨[.ref x, v], []⟩) R s := by
  obtain ⟨oc, od, qual, doc, pm, an, cda, cc, ct, osl, msg, p1, p2, a1, a2, a3, a4, a5, a6, q1, q2, q3, q4, ho, hcd, hev, ⟨ccl, cdd, vs, ccs, file, tf, hcode, hvs, hfile⟩, cl, cld, csl, hcell⟩ := T.fn
  obtain ⟨nm', q, N, bs, bm, sn, sub, ab, col, dd, k0, k1, k2, k3, k5, hC, hbm⟩ := T.cls
  obtain ⟨lk1, lk2, lk3, lk4, lk5, lk7⟩ := look_sup T.nof
  have hcl : clsIn K C = some { name := nm', bases := bs, mro := .ref C :: bm, ns := N, qualname := q, hasDict := true, slotNames := sn, subclasses := sub, abstract := ab, collection := col, hasDel := false } := by unfold clsIn; rw [hC] <;> rfl
  have hxC : x ≠ C := fun z => by
    have q1 := X _ _ hC
    rw [← z, hx] at q1
    cases q1
  refine ks_codeAny_call_defAt (fd := ksFn "__init__" qual (iA f p1 p2) (iB f msg a1 a2 a3 a4 a5 a6 q1 q2 q3 q4) (iS f) .none .none doc pm an (.ref cda) ct cc) (body := iB f msg a1 a2 a3 a4 a5 a6 q1 q2 q3 q4) (binds := [("self", .ref x), (f, v)])
    hroom (X _ _ ho) rfl hlim (codeRec_of X hcd) rfl (BindsTo.of_eq (bind_sup (dV := .none) (kV := .none) T.nof _ _)) (fun y hy => ?_) (fun y hy => ?_) (fun h₁ hns hk => ?_)
  · have hy' : y ∈ (iS f).names := hy
    simp only [iS, List.mem_cons, List.not_mem_nil, or_false] at hy'
    rcases hy' with rfl | rfl | rfl | rfl <;> (intro z; cases z)
  · simp only [List.mem_cons, List.not_mem_nil, or_false] at hy
    rcases hy with rfl | rfl
    · exact lk2
    · exact lk1
  have X₁ : K.In h₁ := X.keeps hk
  have hx₁ := hk _ _ hx
  obtain ⟨oD, hD1, hD2⟩ : ∃ oD : Obj, h₁.get? C = some oD ∧ ∃ cd, oD.data = .cls cd := ⟨_, X₁ _ _ hC, _, rfl⟩
  obtain ⟨cdD, hD2⟩ := hD2
  have mself : ([(PySem.Str.ofString "self", Value.ref x), (f, v)] : List (Str × Value)).reverse.lookup (PySem.Str.ofString "self") = some (Value.ref x) := by
    show List.lookup (PySem.Str.ofString "self") [(f, v), (PySem.Str.ofString "self", Value.ref x)] = _
    rw [List.lookup_cons, lk7]
    rfl
  have mf : ([(PySem.Str.ofString "self", Value.ref x), (f, v)] : List (Str × Value)).reverse.lookup f = some v := by
    show List.lookup f [(f, v), (PySem.Str.ofString "self", Value.ref x)] = _
    rw [List.lookup_cons, beq_self_eq_true]
  obtain ⟨hh, g, d, tt, os⟩ := s
  show _root_.PySem.wpAt _ _ (.func _ (ksEnv qual (iS f) hh.objs.size fI (.ref cda) cc)) (execs (iB f msg a1 a2 a3 a4 a5 a6 q1 q2 q3 q4) (ksEnv qual (iS f) hh.objs.size fI (.ref cda) cc)) _ _ _
  obtain ⟨pl, hev⟩ := hev (ksEnv qual (iS f) hh.objs.size fI (.ref cda) cc)
  refine ks_wpAt_execs_cons (ks_wpAt_Expr_any (ks_wpAt_MethodCall (pl := pl) ?_ hev))
  refine ks_wpAt_super_base (env := ksEnv qual (iS f) hh.objs.size fI (.ref cda) cc) lk3 lk4 (by decide) rfl (X₁ _ _ ho) rfl rfl rfl (X₁ _ _ hcode) rfl hvs hfile T.top ?_
  refine ks_loadName_global rfl lk3 (loadGlobal_builtin (env := ksEnv qual (iS f) hh.objs.size fI (.ref cda) cc) (hG.keeps hk) T.gs (hB.keeps hk) hmb ⟨rfl, ?_⟩)
  refine wpAny_loadName_free rfl lk4 rfl ⟨_, X₁ _ _ hcell, rfl⟩ ?_
  refine wpAny_loadName_local rfl lk2 hns mself ?_
  refine ks_wpAny_isType_cls hD1 hD2 ⟨rfl, ?_⟩
  refine ks_wpAny_call_super hD1 hD2 hx₁ rfl (fun c e => by cases e) (looks_mroIn X₁ T.cC) (fun h₂ hso k₂ => ?_)
  have X₂ : K.In h₂ := X₁.keeps k₂
  have hx₂ := k₂ _ _ hx₁
  have I₂ : InstAt h₂ x (excO C t0) C none := ⟨hx₂, rfl, rfl, trivial⟩
  have hsup := T.sup
  unfold ks_superIn at hsup
  rw [hcl] at hsup
  refine kxs_getMethod kxs_ValueError hso (looks_opaque X₂ T.op) (l₀ := .ref C :: bm) (fun A Q E s k q => wpAny_bind ((looks_clsIn X₂ hcl) A _ E s k (wpAny_pure q))) rfl X₂ hsup (I₂.type.andThen (looks_subIn X₂ T.vC)) hxC (by decide) ?_
  have k₃ : ∀ b o, h₂.get? b = some o → (h₂.push (kxs_mw "ValueError.__init__" x)).get? b = some o := fun b o e => Heap.get?_push_of_some _ e
  have hu₃ : (h₂.push (kxs_mw "ValueError.__init__" x)).get? h₂.objs.size = some (kxs_mw "ValueError.__init__" x) := Heap.get?_push_size _ rfl
  refine kxs_callWith (i := "ValueError.__init__") (x := x) rfl ?_
  refine evalArgs_plain (x := eval (Expr.Constant (.str msg) 0 a4) (ksEnv qual (iS f) hh.objs.size fI (.ref cda) cc)) (rest := []) ?_
  refine Calls.spliced_cons (Calls.Constant_str (Calls.spliced_nil ?_))
  refine ⟨hu₃, ?_⟩
  have hx₃ := k₃ _ _ hx₂
  have hC₃ := k₃ _ _ (X₂ _ _ hC)
  refine call_mw hC₃ hx₃ hu₃ (one_fits _) fun h₄ t4 k₄ hx₄ => ?_
  refine wpAt_of_wpAny ?_
  have kk : ∀ b o, b ≠ x → hh.get? b = some o → h₄.get? b = some o := fun b o hb e => k₄ b o hb (k₃ b o (k₂ b o (hk b o e)))
  have X₄ : K.In h₄ := fun a o e => kk a o (fun z => by rw [z, hnx] at e; cases e) (by
    have X0 : K.In hh := X
    exact X0 a o e)
  have hns₄ : h₄.Ns hh.objs.size (fun y => ([(PySem.Str.ofString "self", Value.ref x), (f, v)] : List (Str × Value)).reverse.lookup y) :=
    hns.at fun o e => k₄ _ o (Nat.ne_of_gt (Heap.lt_size (h := hh) hx)) (k₃ _ o (k₂ _ o e))
  show wpAny _ _ (execs _ _) _ _ _
  refine wpAny_execs_cons (plainObj_wpAny_Assign_Attribute ?_)
  refine wpAny_Name (wpAny_loadName_local (env := ksEnv qual (iS f) hh.objs.size fI (.ref cda) cc) rfl lk1 hns₄ mf ?_) lk5
  refine wpAny_Name (wpAny_loadName_local (env := ksEnv qual (iS f) hh.objs.size fI (.ref cda) cc) rfl lk2 hns₄ mself ?_)
  refine set_plain X₄ (ox := excO C t4) (od := none) ⟨hx₄, rfl, rfl, trivial⟩ T.sa ?_
  refine exc_osa X₄ hx₄ hcl (show refsVE (.ref C :: bm) = true from hbm) rfl T.noN (fun h₅ tk₅ dx k₅ dn dne hx₅ hn₅ => ?_)
  have z : hh.objs.size ≤ dx := by
    have q1 : hh.objs.size < h₄.objs.size := hns₄.lt
    exact Nat.le_of_lt (Nat.lt_of_lt_of_le q1 dn)
  exact wpAny_execs_nil (hq h₅ tk₅ dx t4 ⟨fun b o hb e => k₅ b o hb (kk b o hb e), hx₅, z, dne, hn₅⟩)
theorem own_made (T : SupTxt prog K mg nm f C fI) {v : Value} (X : K.In s.heap) (hG : s.heap.Ns mainGlobals mg) (hB : s.heap.Ns builtinsNs mb) (hmb : mb "super" = some (.type "super"))
    (hlim : s.heap.NoLimit) (hroom : A.depth + 1 < recursionLimit)
    (hq : ∀ h' tk e d, OwnMade f s.heap h' e C d v → R (.ok (.ret (.ref e))) { s with heap := h', toks := tk }) :
    codeAny (model prog w) A (.call (.ref C) ⟨[v], []⟩) R s := by
  obtain ⟨nm', q, N, bs, bm, sn, sub, ab, col, dd, k0, k1, k2, k3, k5, hC, hbm⟩ := T.cls
  obtain ⟨hp, g, dr, tk, os⟩ := s
  have k : ∀ b o, hp.get? b = some o → ((hp.push (kdv_tup [v])).push (excO C hp.objs.size)).get? b = some o := fun b o e => Heap.get?_push_of_some _ (Heap.get?_push_of_some _ e)
  have hget : ((hp.push (kdv_tup [v])).push (excO C hp.objs.size)).get? (hp.objs.size + 1) = some (excO C hp.objs.size) := by heap_get
  have hnx : K.lookup (hp.objs.size + 1) = none := by
    cases e : K.lookup (hp.objs.size + 1) with
    | none => rfl
    | some o =>
      have z : hp.get? (hp.objs.size + 1) = some o := X _ _ e
      exact absurd (Nat.lt_of_succ_lt (Heap.lt_size z)) (Nat.lt_irrefl _)
  refine call_own F.excBase_ValueError (fun X => refsVE_contains X bm hbm) (X _ _ hC) (looks_findIn X T.iC) (fun self => bind_fn X self T.tC) (one_fits v) ?_
  refine sup_init (s := ⟨(hp.push (kdv_tup [v])).push (excO C hp.objs.size), g, dr, tk, os⟩) T (X.keeps k) (hG.keeps k) (hB.keeps k) hmb (hlim.keeps k) hget hnx ?_ fun h' tk' dx t1 M => ?_
  · show A.depth + 1 < recursionLimit
    exact hroom
  · have old : ∀ b o, hp.get? b = some o → h'.get? b = some o := fun b o e => M.keep b o (Nat.ne_of_lt (Nat.lt_succ_of_lt (Heap.lt_size e))) (k b o e)
    have z : hp.objs.size + 1 + 1 ≤ dx := by
      have q1 := M.dbig
      simpa only [Heap.size_push] using q1
    exact ⟨rfl, hq h' tk' (hp.objs.size + 1) dx ⟨old, Nat.le_succ _, ⟨t1, M.obj⟩, Nat.le_trans (Nat.le_trans (Nat.le_succ _) (Nat.le_succ _)) z, M.dne, M.ns⟩⟩
end
end SupX
end
section
set_option Elab.async false
set_option linter.all false
set_option maxRecDepth 100000
set_option maxHeartbeats 4000000
/-! KR4: raise X(e) for such an exception; isinstance(e, B) of a caught one. -/
namespace KX
open PySem PySem.Spec PyProof.Rows L2
theorem relO_one {f : Str} {v : V} {v' : Value} (r : RelV v v') (y : Str) : RelO (List.lookup y [(f, v)]) (if y = f then some v' else none) := by
  by_cases hw : y = f
  · rw [if_pos hw, hw, List.lookup_cons, beq_self_eq_true]
    exact r
  · have qw : (y == f) = false := by simpa using hw
    rw [if_neg hw, List.lookup_cons, qw]
    trivial
theorem super_boot : bootBuiltins ("super" : Str) = some (.type "super") := by first | rfl | kernel_rfl | decide +kernel
section
variable {X : Cx} {nm f : Str} {C fI : Addr}
/-- X(e) -/
def tMkS (C : Addr) (f : Str) (ta : TE) : L2.St → Hp → XK → Prop := fun σ H Q => ta σ H fun v H1 => ∀ d, H1 d = none → Q (.ref C) (some d) (upd H1 d (.xd [(f, v)]))
theorem pmk_sup {a : Expr} {ta : TE} {p pos : Pos} {k : Nat} (T : SupX.SupTxt X.prog X.K X.mg nm f C fI) (hr : Room k X.A) (ha : PE X a ta) (hg : Gl X nm) (hdb : (nm == ("__debug__" : Str)) = false := by decide)
    (he : starEach [a] X.env = (false, eval a X.env) :: starEach [] X.env := by rfl) : PMk X (.Call (.Name nm p) [a] [] pos) (tMkS C f ta) := by
  intro pins s σ H Q I h
  refine wpAny_Call_Name_kw (ld_glob I hg T.gC ?_ hdb)
  refine PySem.W.callWith_K (h₀ := X.base) I.ok.mod.kin T.kC ?_ he (by rfl)
  rw [he]
  show wpAny _ _ (spliced ((false, eval a X.env) :: backTo pos (starEach [] X.env))) _ _ s
  refine Calls.spliced_cons (thn (ha.run pins s σ H _ I h) fun v' s1 ⟨v, H1, I1, rv, q1⟩ => ?_)
  refine Calls.spliced_nil ⟨I1.kIn, ?_⟩
  show wpAny _ _ (call (.ref C) [v']) _ _ _
  have hlim := I1.nolimit
  have hG := I1.mod.glob.keeps I1.bk
  obtain ⟨mb, hB, hb⟩ := I1.mod.blt
  have hB2 := hB.keeps I1.bk
  have hmb : mb ("super" : Str) = some (.type "super") := (hb _ (by decide)).trans super_boot
  obtain ⟨hp, g, dr, tk, os⟩ := s1
  refine wpAny_call (SupX.own_made T I1.kIn hG hB2 hmb hlim (by have := hr.dp; omega) fun h' tk' e d M => ?_)
  show MkP X pins σ Q (.ref e) ⟨h', g, dr, tk', os⟩
  obtain ⟨t1, hoe⟩ := M.obj
  obtain ⟨G, g1, g2⟩ := restrict h' fun b => decide (b ≠ e)
  have gk : ∀ b, b ≠ e → G.get? b = h'.get? b := fun b hb => g1 b (decide_eq_true hb)
  have ge : G.get? e = none := g2 e (by simp)
  have old : ∀ b o, hp.get? b = some o → G.get? b = some o := fun b o q => (gk b (Nat.ne_of_lt (Nat.lt_of_lt_of_le (Heap.lt_size q) M.new))).trans (M.keep b o q)
  have ob : ObjOk X.prog X.w (upd H1 d (.xd [(f, v)])) G d (.xd [(f, v)]) := ⟨_, M.ns.at (fun o q => (gk d M.dne).trans q), relO_one rv⟩
  have J : Inv X pins σ (upd H1 d (.xd [(f, v)])) ⟨G, g, dr, tk', os⟩ := I1.laid (t' := tk') old M.dbig ob
  refine ⟨e, _, _, ⟨G, g, dr, tk', os⟩, _, .ref C, some d, rfl, J, fun b o q => ?_, ge, hoe, ⟨rfl, rfl⟩, rfl, rfl, ?_, rfl, I1.bare, raises_own T.exC T.tyC, q1 d (I1.hok.fresh M.dbig)⟩
  · by_cases hb : b = e
    · have q' : G.get? b = some o := q
      rw [hb, ge] at q'
      cases q'
    · exact (gk b hb).symm.trans q
  · rw [upd_ne (Ne.symm M.dne)]
    exact I1.hok.fresh M.new
/-- raise X(e) -/
def tRaiseS (C : Addr) (f : Str) (W : WX) (ta : TE) : TS := fun _ σ H => tMkS C f ta σ H fun cls d H' => W cls d σ H'
theorem ps_raiseS {a : Expr} {ta : TE} {W : WX} {p pos pos2 : Pos} {k : Nat} (hc : X.calm = true) (T : SupX.SupTxt X.prog X.K X.mg nm f C fI) (hr : Room k X.A) (tk : Takes X W) (ha : PE X a ta) (hg : Gl X nm) (hdb : (nm == ("__debug__" : Str)) = false := by decide)
    (he : starEach [a] X.env = (false, eval a X.env) :: starEach [] X.env := by rfl) : PS X (.Raise (some (.Call (.Name nm p) [a] [] pos)) none pos2) (tRaiseS C f W ta) := ps_raise hc tk (pmk_sup T hr ha hg hdb he)
end
/-- what isinstance asks of the class at D -/
structure IsC (K : PySem.W.Frag) (D : Addr) : Prop where
  cl : (PySem.W.clsIn K D).isSome = true
  ga : PySem.W.findIn K (.ref D) "__getattribute__" = some (some (.builtin "BaseException.__getattribute__"))
  gg : PySem.W.findIn K (.ref D) "__getattr__" = some none
  ex : PySem.W.subIn K (.ref D) (.type "BaseException") = some true
  at_ : PySem.W.findIn K (.ref D) "__class__" = some (some (.builtin "object.__class__"))
  gn : PySem.W.specialIn K (.builtin "object.__class__") "__get__" = some (some (.builtin "getset_descriptor.__get__"))
  tk : PySem.W.takesIn K (.builtin "object.__class__") = some true
  ob : PySem.W.mroIn K D (.type "object") = some true
/-- isinstance(e, c), e the exception that the suite holds (its dict at d) -/
def rIsD (K : PySem.W.Frag) (a : Addr) (cls : Value) (d : Option Addr) : List V → Hp → VK → Prop := fun xs H Q => ∃ (D dd : Addr) (fs : List (Str × V)) (c : V) (cv : Value) (b : Bool),
  cls = .ref D ∧ IsC K D ∧ d = some dd ∧ H dd = some (.xd fs) ∧ xs = [.ref a, c] ∧ (∀ u, RelV c u → u = cv) ∧ PySem.W.kitOne K (.ref D) cv = some b ∧ Q (.bl b) H
theorem call_isD {X : Cx} {a : Addr} {oe : Obj} {cls : Value} {d : Option Addr} {pn : List (Addr × Obj)} (hz : Zc cls d oe) (hf : ∃ vs, oe.data = .fields vs) :
    CallR (X.suite a ((a, oe) :: pn)) (.builtin "isinstance") (rIsD X.K a cls d) := by
  intro pins s σ H xs us Q I r h
  obtain ⟨D, dd, fs, c, cv, b, rfl, C, rfl, hdd, rfl, hcv, e, q⟩ := h
  obtain ⟨u1, u2, rfl, r1, r2⟩ := vals2 r
  cases r1
  cases hcv _ r2
  obtain ⟨hget, _⟩ := I.pin (a, oe) (List.mem_append.mpr (.inl List.mem_cons_self))
  obtain ⟨vs, hv⟩ := hf
  obtain ⟨od, hod⟩ : ∃ od, s.heap.get? dd = some od := by
    obtain ⟨mA, ⟨o, es, ep, ho, _⟩, _⟩ := I.hok dd _ hdd
    exact ⟨o, ho⟩
  have J : PySem.W.InstAt s.heap a oe D (some od) := ⟨hget, hz.1, by unfold PySem.W.notCls; rw [hv] <;> rfl, by rw [hz.2]; exact hod⟩
  exact PySem.W.kia_one (PySem.W.kitx_exc C.cl C.ga C.gg C.ex C.at_ C.gn C.tk C.ob) I.kIn J e (fun z => nomatch z) fun tk => ⟨.bl b, H, I.kept (t' := tk) fun _ _ z => z, rfl, q⟩
end KX
end
section
set_option Elab.async false
set_option linter.all false
set_option maxRecDepth 100000
set_option maxHeartbeats 4000000
/-! KB: the text by places; pairs, lists and tuples of pairs, lines, as they stand in the heap. -/
namespace KX
open PySem PySem.Spec PyProof.Rows L2
def top (i : Nat) : Stmt := PySem.Challenge.pw_beamheads_k33_whole_lines_joined.main.body.getD i (.Pass ⟨0, 0, 0, 0⟩)
abbrev P2 := Int × Int
/-- the tuple (p.1, p.2) -/
def Pr (K : PySem.W.Frag) (H : Hp) (v : V) (p : P2) : Prop := ∃ t, v = .ref t ∧ SqT K H t [.int p.1, .int p.2]
abbrev Prs (K : PySem.W.Frag) (H : Hp) : List V → List P2 → Prop := Paired (Pr K H)
/-- a list of pairs, a tuple of pairs -/
def Lst (K : PySem.W.Frag) (H : Hp) (v : V) (ps : List P2) : Prop := ∃ a xs, v = .ref a ∧ SqL K H a xs ∧ Prs K H xs ps
def Tpl (K : PySem.W.Frag) (H : Hp) (v : V) (ps : List P2) : Prop := ∃ a xs, v = .ref a ∧ SqT K H a xs ∧ Prs K H xs ps
theorem Same.seqT {K : PySem.W.Frag} {H H' : Hp} {a : Addr} {xs : List V} (e : Same H H') (h : SqT K H a xs) : SqT K H' a xs := by
  rcases h with (h | ⟨o, h⟩) | h
  · exact .inl (.inl (e _ _ h))
  · exact .inl (.inr ⟨o, e _ _ h⟩)
  · exact .inr h
section
variable {K : PySem.W.Frag} {H H' : Hp} {v : V} {p : P2} {ps qs : List P2} {xs ys : List V}
theorem Pr.same (e : Same H H') (h : Pr K H v p) : Pr K H' v p := let ⟨t, a, b⟩ := h; ⟨t, a, Same.seqT e b⟩
theorem Prs.same (e : Same H H') (h : Prs K H xs ps) : Prs K H' xs ps := L2.Paired.mapP h fun _ _ q => q.same e
theorem Lst.same (e : Same H H') (h : Lst K H v ps) : Lst K H' v ps := let ⟨a, xs, h1, h2, h3⟩ := h; ⟨a, xs, h1, e.seq h2, Prs.same e h3⟩
theorem Tpl.same (e : Same H H') (h : Tpl K H v ps) : Tpl K H' v ps := let ⟨a, xs, h1, h2, h3⟩ := h; ⟨a, xs, h1, Same.seqT e h2, Prs.same e h3⟩
theorem Prs.length (h : Prs K H xs ps) : xs.length = ps.length := Paired.length h
theorem Prs.get : ∀ {xs : List V} {ps : List P2} {i : Nat} {p : P2}, Prs K H xs ps → ps[i]? = some p → ∃ v, xs[i]? = some v ∧ Pr K H v p
  | _, _, _, _, .nil, e => by simp at e
  | _, _, 0, _, .cons r _, e => by simp at e; subst e; exact ⟨_, rfl, r⟩
  | _, _, i + 1, p, .cons _ t, e => by
    obtain ⟨v, h1, h2⟩ := Prs.get (i := i) (p := p) t (by simpa using e)
    exact ⟨v, by simpa using h1, h2⟩
theorem Prs.of : ∀ {xs : List V} {ps : List P2} {i : Nat} {v : V}, Prs K H xs ps → xs[i]? = some v → ∃ p, ps[i]? = some p ∧ Pr K H v p
  | _, _, _, _, .nil, e => by simp at e
  | _, _, 0, _, .cons r _, e => by simp at e; subst e; exact ⟨_, rfl, r⟩
  | _, _, i + 1, v, .cons _ t, e => by
    obtain ⟨p, h1, h2⟩ := Prs.of (i := i) (v := v) t (by simpa using e)
    exact ⟨p, by simpa using h1, h2⟩
theorem Prs.app : ∀ {xs ys : List V} {ps qs : List P2}, Prs K H xs ps → Prs K H ys qs → Prs K H (xs ++ ys) (ps ++ qs)
  | _, _, _, _, .nil, s => s
  | _, _, _, _, .cons r t, s => .cons r (Prs.app t s)
theorem Prs.snoc (h : Prs K H xs ps) (r : Pr K H v p) : Prs K H (xs ++ [v]) (ps ++ [p]) := h.app (.cons r .nil)
theorem Prs.take : ∀ {xs : List V} {ps : List P2} (n : Nat), Prs K H xs ps → Prs K H (xs.take n) (ps.take n)
  | _, _, 0, _ => .nil
  | _, _, _ + 1, .nil => .nil
  | _, _, n + 1, .cons r t => .cons r (Prs.take n t)
theorem Prs.drop : ∀ {xs : List V} {ps : List P2} (n : Nat), Prs K H xs ps → Prs K H (xs.drop n) (ps.drop n)
  | _, _, 0, r => r
  | _, _, _ + 1, .nil => .nil
  | _, _, n + 1, .cons _ t => Prs.drop n t
theorem Prs.set {v : V} {p : P2} (r : Pr K H v p) : ∀ {xs : List V} {ps : List P2} (i : Nat), Prs K H xs ps → Prs K H (xs.set i v) (ps.set i p)
  | _, _, _, .nil => .nil
  | _, _, 0, .cons _ t => .cons r t
  | _, _, i + 1, .cons q t => .cons q (Prs.set r i t)
/-- tuples never change: a list written at l -/
theorem SqT.lst {a l : Addr} {o : HO} {ys zs : List V} (h : SqT K H a ys) (hl : H l = some (.lst zs)) : SqT K (upd H l o) a ys := by
  rcases h with (h | ⟨ob, h⟩) | h
  · exact .inl (.inl (by rw [upd_ne (ne_of h hl (by intro z; cases z))]; exact h))
  · exact .inl (.inr ⟨ob, by rw [upd_ne (ne_of h hl (by intro z; cases z))]; exact h⟩)
  · exact .inr h
theorem Pr.lst {l : Addr} {o : HO} {zs : List V} (h : Pr K H v p) (hl : H l = some (.lst zs)) : Pr K (upd H l o) v p := let ⟨t, a, b⟩ := h; ⟨t, a, SqT.lst b hl⟩
theorem Prs.lst {l : Addr} {o : HO} {zs : List V} (h : Prs K H xs ps) (hl : H l = some (.lst zs)) : Prs K (upd H l o) xs ps := L2.Paired.mapP h fun _ _ q => q.lst hl
/-- a new object is laid -/
theorem Same.new {p : Addr} {o : HO} (h : H p = none) : Same H (upd H p o) := fun b u e => by rw [upd_ne (ne_of_none e h)]; exact e
theorem Same.then {H1 : Hp} {p : Addr} {o : HO} (e : Same H H1) (h : H1 p = none) : Same H (upd H1 p o) := e.trans (Same.new h)
/-- a list of ours (new since H0) is written -/
theorem Same.wr {H0 : Hp} {l : Addr} {o : HO} (e : Same H0 H) (h : H0 l = none) : Same H0 (upd H l o) := fun b u q => by rw [upd_ne (ne_of_none q h)]; exact e _ _ q
theorem Pr.new {t : Addr} {i j : Int} (h : H t = some (.tup [.int i, .int j])) : Pr K H (.ref t) (i, j) := ⟨t, rfl, SqT.of h⟩
end
/-- as data -/
def dP (p : P2) : PyData := .tuple [.int p.1, .int p.2]
section
variable {K : PySem.W.Frag} {H H' : Hp} {v : V} {p : P2} {ps qs : List P2} {xs ys : List V}
theorem Pr.dp (h : Pr K H v p) : Dp K H v (dP p) := by
  obtain ⟨t, rfl, h⟩ := h
  exact .tup h (.cons (.int _) (.cons (.int _) .nil))
theorem Prs.dp : ∀ {xs : List V} {ps : List P2}, Prs K H xs ps → DpAll K H xs (ps.map dP)
  | _, _, .nil => .nil
  | _, _, .cons r t => .cons r.dp (Prs.dp t)
theorem Lst.dp (h : Lst K H v ps) : Dp K H v (.list (ps.map dP)) := by
  obtain ⟨a, xs, rfl, h1, h2⟩ := h
  exact .lst h1 (Prs.dp h2)
theorem Tpl.dp (h : Tpl K H v ps) : Dp K H v (.tuple (ps.map dP)) := by
  obtain ⟨a, xs, rfl, h1, h2⟩ := h
  exact .tup h1 (Prs.dp h2)
end
/-! ### what is seen past the drawn numbers' list at r and the tables of code -/
def Vw (r : Addr) (H : Hp) : Hp := fun b => if b = r then none else match H b with
  | some (.tbl _) => none
  | o => o
section
variable {r p : Addr} {H H' : Hp} {o : HO}
theorem Vw.same (r : Addr) (H : Hp) : Same (Vw r H) H := fun b u e => by
  unfold Vw at e
  split at e
  · cases e
  · split at e
    · cases e
    · exact e
theorem Vw.mono (e : Same H H') : Same (Vw r H) (Vw r H') := fun b u q => by
  have q1 := e b u (Vw.same r H b u q)
  unfold Vw at q ⊢
  by_cases hb : b = r
  · rw [if_pos hb] at q
    cases q
  · rw [if_neg hb] at q ⊢
    rw [q1]
    split at q
    · cases q
    · rename_i h1
      split
      · rename_i ps h2
        have q2 : H b = some u := q
        cases h2
        exact absurd q2 (h1 ps)
      · rfl
theorem Vw.none (h : H p = none) : Vw r H p = none := by
  unfold Vw
  split
  · rfl
  · rw [h]
theorem Vw.of {b : Addr} (h : H b = some o) (hb : b ≠ r) (ht : ∀ ps, o ≠ .tbl ps) : Vw r H b = some o := by
  unfold Vw
  rw [if_neg hb, h]
  split
  · rename_i ps e
    cases e
    exact absurd rfl (ht ps)
  · rfl
theorem Vw.upd (hp : p ≠ r) (ht : ∀ ps, o ≠ .tbl ps) : Vw r (upd H p o) = upd (Vw r H) p o := by
  funext b
  by_cases hb : b = p
  · subst hb
    rw [upd_same, Vw.of upd_same hp ht]
  · rw [upd_ne hb]
    unfold Vw
    rw [upd_ne hb]
theorem Vw.wr {o : HO} : Vw r (L2.upd H r o) = Vw r H := by
  funext b
  unfold Vw
  by_cases hb : b = r
  · rw [if_pos hb, if_pos hb]
  · rw [if_neg hb, if_neg hb, upd_ne hb]
end
end KX
end
section
set_option Elab.async false
set_option linter.all false
set_option maxRecDepth 100000
set_option maxHeartbeats 4000000
/-! KL: a line in the heap. -/
namespace KX
open PySem PySem.Spec PyProof.Rows L2
/-- a line: first tick, first place, legs (ticks, speed) -/
structure LD where
  f : Int
  p : Int
  legs : List P2
def cornersFrom (t p : Int) : List P2 → List P2
  | [] => []
  | (k, s) :: r => (t + k, p + k * s) :: cornersFrom (t + k) (p + k * s) r
def LD.corners (l : LD) : List P2 := (l.f, l.p) :: cornersFrom l.f l.p l.legs
def lnF (f p : Int) (lg cn : V) (la : Int) (mo : Bool) (lo hi : Int) : List (Str × V) :=
  [("first", .int f), ("place", .int p), ("legs", lg), ("own_corners", cn), ("last", .int la), ("is_moment", .bl mo), ("lowest", .int lo), ("highest", .int hi)]
section
variable {f p la lo hi : Int} {lg cn : V} {mo : Bool}
theorem lnF_first : (lnF f p lg cn la mo lo hi).lookup ("first" : Str) = some (.int f) := rfl
theorem lnF_place : (lnF f p lg cn la mo lo hi).lookup ("place" : Str) = some (.int p) := rfl
theorem lnF_legs : (lnF f p lg cn la mo lo hi).lookup ("legs" : Str) = some lg := rfl
theorem lnF_corners : (lnF f p lg cn la mo lo hi).lookup ("own_corners" : Str) = some cn := rfl
theorem lnF_moment : (lnF f p lg cn la mo lo hi).lookup ("is_moment" : Str) = some (.bl mo) := rfl
theorem lnF_add : (lnF f p lg cn la mo lo hi).lookup ("__add__" : Str) = none := rfl
theorem lnF_later : (lnF f p lg cn la mo lo hi).lookup ("later" : Str) = none := rfl
theorem lnF_moved : (lnF f p lg cn la mo lo hi).lookup ("moved" : Str) = none := rfl
theorem lnF_most : (lnF f p lg cn la mo lo hi).lookup ("MOST_LEGS" : Str) = none := rfl
theorem lnF_put : putF "highest" (.int hi) (putF "lowest" (.int lo) (putF "is_moment" (.bl mo) (putF "last" (.int la) (putF "own_corners" cn (putF "legs" lg (putF "place" (.int p) (putF "first" (.int f) []))))))) = lnF f p lg cn la mo lo hi := rfl
end
/-- a line stands at v -/
def Ln (K : PySem.W.Frag) (C : Addr) (H : Hp) (v : V) (l : LD) : Prop := ∃ (a dx : Addr) (lg cn : V) (la lo hi : Int),
  v = .ref a ∧ H a = some (.ins C dx (lnF l.f l.p lg cn la (decide (l.legs.length = 0)) lo hi)) ∧ Tpl K H lg l.legs ∧ Lst K H cn l.corners
theorem Ln.same {K : PySem.W.Frag} {C : Addr} {H H' : Hp} {v : V} {l : LD} (e : Same H H') (h : Ln K C H v l) : Ln K C H' v l := by
  obtain ⟨a, dx, lg, cn, la, lo, hi, h1, h2, h3, h4⟩ := h
  exact ⟨a, dx, lg, cn, la, lo, hi, h1, e _ _ h2, h3.same e, h4.same e⟩
/-! ### texts -/
def legsText (ps : List P2) : Str := (PyData.tuple (ps.map dP)).shown
def LD.text (l : LD) : Str := (((((("Line(" : Str) ++ (toString l.f : Str)) ++ (", " : Str)) ++ (toString l.p : Str)) ++ (", " : Str)) ++ legsText l.legs) ++ (")" : Str)
/-- small numbers: what repr asks -/
def SmI (i : Int) : Prop := i.natAbs < 10 ^ 9
def SmP (p : P2) : Prop := SmI p.1 ∧ SmI p.2
def SmL (ps : List P2) : Prop := ps.length ≤ 8 ∧ ∀ p ∈ ps, SmP p
def LD.small (l : LD) : Prop := SmI l.f ∧ SmI l.p ∧ SmL l.legs
theorem SmI.log {i : Int} (h : SmI i) : i.natAbs.log2 < 1920 := by
  unfold SmI at h
  by_cases h0 : i.natAbs = 0
  · rw [h0]
    decide
  · refine (Nat.log2_lt h0).mpr (Nat.lt_of_lt_of_le h ?_)
    exact Nat.le_trans (by decide : (10 : Nat) ^ 9 ≤ 2 ^ 30) (Nat.pow_le_pow_right (by decide) (by decide))
theorem SmI.len {i : Int} (h : SmI i) : ((toString i : Str)).length ≤ 10 := by
  have e := int_text_length_le10 (k := 9) (by decide) h
  show (Str.ofString (toString i)).length ≤ 10
  rw [PySem.ofString_length]
  omega
theorem SmP.show {p : P2} (h : SmP p) : (dP p).showable = true := by
  have h1 := h.1.log
  have h2 := h.2.log
  simp [dP, PyData.showable, PyData.showableAll, h1, h2]
theorem SmP.len {p : P2} (h : SmP p) : (dP p).shown.length ≤ 24 := by
  have h1 := h.1.len
  have h2 := h.2.len
  show (tupleText [(toString p.1 : Str), (toString p.2 : Str)]).length ≤ 24
  unfold tupleText
  rw [strLen_append, strLen_append]
  show (("(" : String) : Str).length + ((toString p.1 : Str) ++ (", " : Str) ++ (toString p.2 : Str)).length + _ ≤ 24
  rw [strLen_append, strLen_append]
  have e1 : ((("(" : String) : Str)).length = 1 := rfl
  have e2 : (((", " : String) : Str)).length = 2 := rfl
  have e3 : ((((if ([(toString p.1 : Str), (toString p.2 : Str)] : List Str).length == 1 then ",)" else ")" : String)) : Str)).length = 1 := rfl
  omega

theorem join_le (n : Nat) : ∀ ts : List Str, (∀ t ∈ ts, t.length ≤ n) → (Str.join ", " ts).length ≤ ts.length * (n + 2)
  | [], _ => by show 0 ≤ _; exact Nat.zero_le _
  | [x], h => by
    have h1 := h x List.mem_cons_self
    show x.length ≤ 1 * (n + 2)
    omega
  | x :: y :: r, h => by
    have h1 := h x List.mem_cons_self
    have h2 := join_le n (y :: r) fun t ht => h t (List.mem_cons_of_mem _ ht)
    show (x ++ (", " : Str) ++ Str.join ", " (y :: r)).length ≤ (r.length + 1 + 1) * (n + 2)
    rw [strLen_append, strLen_append]
    have e2 : (((", " : String) : Str)).length = 2 := rfl
    have e3 : (y :: r).length = r.length + 1 := rfl
    rw [e3] at h2
    have e4 : (r.length + 1 + 1) * (n + 2) = (r.length + 1) * (n + 2) + (n + 2) := Nat.succ_mul _ _
    omega
theorem shownAll_map (ps : List P2) : PyData.shownAll (ps.map dP) = ps.map fun p => (dP p).shown := by
  induction ps with
  | nil => rfl
  | cons p r ih =>
    show (dP p).shown :: PyData.shownAll (r.map dP) = _
    rw [ih]
    rfl
theorem showAll_map {ps : List P2} (h : ∀ p ∈ ps, SmP p) : PyData.showableAll (ps.map dP) = true := by
  induction ps with
  | nil => rfl
  | cons p r ih =>
    show ((dP p).showable && PyData.showableAll (r.map dP)) = true
    rw [(h p List.mem_cons_self).show, ih fun q hq => h q (List.mem_cons_of_mem _ hq)]
    rfl
theorem tupText_le (n : Nat) (ts : List Str) (h : ∀ t ∈ ts, t.length ≤ n) : (tupleText ts).length ≤ ts.length * (n + 2) + 3 := by
  have h1 := join_le n ts h
  have e1 : ((("(" : String) : Str)).length = 1 := rfl
  have e3 : ((((if ts.length == 1 then ",)" else ")" : String)) : Str)).length ≤ 2 := by split <;> decide +kernel
  unfold tupleText
  rw [strLen_append, strLen_append, e1]
  omega
theorem SmL.len {ps : List P2} (h : SmL ps) : (legsText ps).length ≤ 211 := by
  have h1 := tupText_le 24 (ps.map fun p => (dP p).shown) (fun t ht => by
    obtain ⟨p, hp, rfl⟩ := List.mem_map.mp ht
    exact (h.2 p hp).len)
  rw [List.length_map] at h1
  have h2 := h.1
  have e : legsText ps = tupleText (ps.map fun p => (dP p).shown) := by
    show tupleText (PyData.shownAll (ps.map dP)) = _
    rw [shownAll_map]
  rw [e]
  omega
theorem SmL.show {ps : List P2} (h : SmL ps) : (PyData.tuple (ps.map dP)).showable = true := by
  show PyData.showableAll (ps.map dP) = true
  exact showAll_map h.2
theorem depth_map (ps : List P2) : PyData.depthAll (ps.map dP) ≤ 2 := by
  induction ps with
  | nil => exact Nat.zero_le _
  | cons p r ih =>
    show max (dP p).depth (PyData.depthAll (r.map dP)) ≤ 2
    have e : (dP p).depth ≤ 2 := by
      simp [dP, PyData.depth, PyData.depthAll]
    omega
theorem noDict_map (ps : List P2) : PyData.hasDictAll (ps.map dP) = false := by
  induction ps with
  | nil => rfl
  | cons p r ih =>
    show ((dP p).hasDict || PyData.hasDictAll (r.map dP)) = false
    rw [ih]
    rfl
theorem canLay_map (ps : List P2) : PyData.canLayAll0 (ps.map dP) = true := by
  induction ps with
  | nil => rfl
  | cons p r ih =>
    show ((dP p).canLay0 && PyData.canLayAll0 (r.map dP)) = true
    rw [ih]
    rfl
theorem shaped_list (ps : List P2) : SeqAt.shaped (.list (ps.map dP)) = true := by
  have h := depth_map ps
  have e : (PyData.list (ps.map dP)).depth ≤ 64 := by
    simp only [PyData.depth]
    omega
  show ((PyData.canLayAll0 (ps.map dP)) && decide ((PyData.list (ps.map dP)).depth ≤ 64)) = true
  rw [canLay_map, decide_eq_true e]
  rfl
theorem shaped_tup (ps : List P2) : SeqAt.shaped (.tuple (ps.map dP)) = true := by
  have h := depth_map ps
  have e : (PyData.tuple (ps.map dP)).depth ≤ 64 := by
    simp only [PyData.depth]
    omega
  show ((PyData.canLayAll0 (ps.map dP)) && decide ((PyData.tuple (ps.map dP)).depth ≤ 64)) = true
  rw [canLay_map, decide_eq_true e]
  rfl
theorem LD.small.len {l : LD} (h : l.small) : l.text.length ≤ 250 := by
  have h1 := h.1.len
  have h2 := h.2.1.len
  have h3 := SmL.len h.2.2
  have e1 : ((("Line(" : String) : Str)).length = 5 := rfl
  have e2 : (((", " : String) : Str)).length = 2 := rfl
  have e3 : (((")" : String) : Str)).length = 1 := rfl
  unfold LD.text
  rw [strLen_append, strLen_append, strLen_append, strLen_append, strLen_append, strLen_append]
  omega
end KX
end
section
set_option Elab.async false
set_option linter.all false
set_option maxRecDepth 100000
set_option maxHeartbeats 4000000
/-! KR5: a def called whatever exception is being handled; Line.__repr__; repr. -/
namespace KX
open PySem PySem.Spec PyProof.Rows L2
/-- the context of a def's body that lets nothing out, whatever is handled -/
abbrev cxA (P : Program) (w : World) (K : PySem.W.Frag) (mg : Str → Option Value) (base : Heap) (N : List Str) (qual : Str) (scope : Scope) (f : Addr) (cd : Value) (A : Around) (outer : List Env) (s : Shared) (H : Hp) : Cx :=
  { cxOf CX0 P w K mg base N qual scope f cd A outer s H E0 with calm := false, xe := fun _ _ => False }
theorem inv_any {P : Program} {w : World} {K : PySem.W.Frag} {mg : Str → Option Value} {base : Heap} {N : List Str} {qual : Str} {scope : Scope} {f : Addr} {cd : Value} {A : Around} {outer : List Env} {s s1 : Shared} {H H1 : Hp} {σ : L2.St}
    (I : Inv (cxOf CX0 P w K mg base N qual scope f cd { A with handled := none } outer s H E0) [] σ H1 s1) : Inv (cxA P w K mg base N qual scope f cd A outer s H) [] σ H1 s1 := by
  have ok := I.ok
  exact ⟨⟨ok.mod, ok.kind, ok.glob, ok.blt, ok.above, ok.inj, ok.has, ok.cab, (fun z => Bool.noConfusion (show false = true from z)), ok.frames, ok.stk, ok.exf, ok.bs, ok.bsz, ok.noex, ok.exfs, ok.funs, ok.frf⟩,
    I.os, I.bare, I.base, I.loc, I.cell, I.free, I.freeC, I.pin, I.hok, I.len⟩
section
variable {P : Program} {w : World} {K : PySem.W.Frag} {mg : Str → Option Value} {base : Heap} {f : Addr} {name qual : Str} {params : Arguments} {body : List Stmt} {scope : Scope} {dV kV doc pm cdv ct oc : Value} {an od : Option Addr}
  {osl : Array (Option Value)} {N ps : List Str} {A : Around} {outer : List Env} {s : Shared} {H : Hp} {args : Args} {us : List Value} {vs : List V} {Q : VK} {t : TS}
theorem run_any (lk : K.lookup f = some ⟨oc, od, .func (PySem.W.fnOf name qual params body scope dV kV doc pm an cdv ct), osl⟩) (hcd : PySem.W.codeIn K cdv qual = true) (S : FnScope N ps scope)
    (hd : A.depth < recursionLimit) (e0 : Env0 P w K mg base A outer s H) (hb : BindsTo s (PySem.W.fnOf name qual params body scope dV kV doc pm an cdv ct) args (ps.zip us)) (r : Vals vs us) (hl : vs.length = ps.length)
    (ht : PSs (cxA P w K mg base N qual scope f cdv A outer s H) body t) (hq : t { nx := fun _ H' => Q .non H', rt := Q } (L2.start N vs) H) :
    codeAny (model P w) A (.call (.ref f) args) (fun res s' => ∃ u, res = .ok (.ret u) ∧ CE outer P w H s Q u s') s := by
  have KX' : K.In s.heap := e0.mod.kin.keeps fun b o e => (e0.bs b o e).1
  have lim : s.heap.NoLimit := e0.mod.nolimit.keeps fun b o e => (e0.bs b o e).1
  have e0' : Env0 P w K mg base { A with handled := none } outer s H := ⟨e0.frames, e0.mod, e0.bs, e0.bsz, e0.funs, e0.frf, e0.hok, e0.bare⟩
  have hk : ∀ y ∈ ps.zip us, scope.names.lookup y.1 = some .local ∨ (scope.names.lookup y.1 = some .cell ∧ ((cellsFrom (s.heap.objs.size + 1) scope.names []).lookup y.1).isSome = true) := by
    rintro ⟨n, v⟩ hy
    exact (S.par n (List.of_mem_zip hy).1).elim .inl fun q => .inr ⟨q, PySem.W.cellsFrom_some _ _ _ (.inl q)⟩
  refine codeAny_call_function hd (KX' _ _ lk) rfl S.co S.gen rfl (PySem.W.codeRec_of KX' hcd) (hb _ _ _ _ (wpAny_newFunctionEnv_cells S.kind hk fun env he s1 x => ?_))
  subst he
  refine ⟨lim.keeps x.toInCall.keep, codeAny_func ?_⟩
  have I := inv_any (inv_start (CX := CX0) (E := E0) (cd := cdv) (qual := qual) (f := f) S (A := { A with handled := none }) rfl e0' hl r x)
  refine wpAny_mono (ht.run [] s1 (L2.start N vs) H _ I hq) (fun fl s' hs => ?_) fun _ _ z => z.elim
  have fin : ∀ {σ' : L2.St} {H' : Hp} {v : V} {u : Value}, Inv (cxA P w K mg base N qual scope f cdv A outer s H) [] σ' H' s' → L2.RelV v u → Q v H' → CE outer P w H s Q u s' :=
    fun {σ' H' v u} J rv q => ⟨v, H', J.os, J.bare, J.base, J.hok, rv, q⟩
  match fl, hs with
  | .ret u, ⟨v, σ', H', J, rv, q⟩ => exact ⟨u, rfl, fin J rv q⟩
  | .next, ⟨σ', H', J, q⟩ => exact ⟨.none, rfl, fin (v := V.non) J rfl q⟩
  | .brk, ⟨_, _, _, q⟩ => exact q.elim
  | .cont, ⟨_, _, _, q⟩ => exact q.elim
end

/-! ### what is under way is no data: a list that holds an instance -/
def NoRep (g : List Code) (H : Hp) : Prop := ∀ b, ¬ Clear g b → ∃ (xs : List V) (i : Nat) (c C dx : Addr) (fs : List (Str × V)), H b = some (.lst xs) ∧ xs[i]? = some (.ref c) ∧ H c = some (.ins C dx fs)
theorem NoRep.nil {H : Hp} : NoRep [] H := fun b h => absurd (Clear.nil b) h
theorem readsAll_get {h : Heap} : ∀ {vs : List Value} {ds : List PyData} {as : List Addr} {i : Nat} {v : Value}, ReadsAll h vs ds as → vs[i]? = some v → ∃ d bs, Reads h v d bs
  | _, _, _, i, v, .nil, e => by simp at e
  | _, _, _, 0, v, .cons r _, e => by
    simp at e
    subst e
    exact ⟨_, _, r⟩
  | _, _, _, i + 1, v, .cons _ t, e => readsAll_get (i := i) t (by simpa using e)
theorem no_reads_ins {h : Heap} {c C dx : Addr} {d : PyData} {as : List Addr} (e : h.get? c = some (PySem.W.instObj C dx)) (r : Reads h (.ref c) d as) : False := by
  cases r with
  | list h1 h2 h3 h4 =>
    rw [e] at h1
    cases h1
    cases h2
  | tuple h1 h2 h3 h4 =>
    rw [e] at h1
    cases h1
    cases h2
  | dict h1 h2 h3 h4 h5 =>
    rw [e] at h1
    cases h1
    cases h3
theorem NoRep.clear {X : Cx} {pins : List (Addr × Obj)} {σ : L2.St} {H : Hp} {s : Shared} {g : List Code} (n : NoRep g H) (I : Inv X pins σ H s) {b : Addr} {d : PyData} {as : List Addr} (r : Reads s.heap (.ref b) d as) : Clear g b := by
  by_cases hc : Clear g b
  · exact hc
  · exfalso
    obtain ⟨xs, i, c, C, dx, fs, h1, h2, h3⟩ := n b hc
    obtain ⟨_, its, k, rv, e1⟩ := I.hok b _ h1
    obtain ⟨_, _, _, e2, _⟩ := I.hok c _ h3
    obtain ⟨u, hu, ru⟩ := rv.get h2
    cases ru
    cases r with
    | list q1 q2 q3 q4 =>
      rw [e1] at q1
      cases q1
      injection q3 with q5 q6
      rw [← q5] at q4
      obtain ⟨d', bs, r'⟩ := readsAll_get q4 (i := i) (by simpa using hu)
      exact no_reads_ins e2 r'
    | tuple q1 q2 q3 q4 =>
      rw [e1] at q1
      cases q1
      injection q2 with z
      exact absurd z (by decide)
    | dict q1 q2 q3 q4 q5 =>
      rw [e1] at q1
      cases q1
      cases q3
section
variable {X : Cx} {g : List Code}
/-- {x!r}, x a tuple of pairs -/
def tFmtRT (K : PySem.W.Frag) (g : List Code) (te : TE) : TE := fun σ H Q => te σ H fun x H1 => ∃ ps, Tpl K H1 x ps ∧ SmL ps ∧ NoRep g H1 ∧ Q (.str (legsText ps)) H1
theorem pe_fmtRT {e : Expr} {te : TE} {pos : Pos} (hg : X.A.guards = some g) (hu : X.A.units + 10 < cLine) (he : PE X e te) : PE X (.FormattedValue e 114 none pos) (tFmtRT X.K g te) := by
  constructor
  intro pins s σ H Q I h
  refine wpAny_FormattedValue_repr (thn (he.run pins s σ H _ I h) fun v s1 ⟨x, H1, I1, r1, ps, ht, hs, hn, q⟩ => ?_)
  have hz : (legsText ps).length ≤ sizeLine := Nat.le_trans (SmL.len hs) (by rw [sizeLine_eq]; decide)
  obtain ⟨as, rd⟩ := Dp.reads I1 _ _ v ht.dp r1
  have hdep := depth_map ps
  cases rd with
  | @tuple a o items n _ as2 h1 h2 h3 h4 =>
    have hz' : (tupleText (PyData.shownAll (ps.map dP))).length ≤ sizeLine := hz
    obtain ⟨bs, hb, hk⟩ := ReprAllK.of_readsAll (prog := X.prog) (w := X.w) h4 (showAll_map hs.2) (fun z => by rw [noDict_map] at z; cases z) (fun t ht' => Nat.le_trans (tupleText_mem_le ht') hz')
    have rd2 : Reads s1.heap (.ref a) (.tuple (ps.map dP)) _ := .tuple h1 h2 h3 h4
    have hna : a ∉ bs := not_mem_of_deeper rd2 (by simp only [PyData.depth]; omega) hb
    have hcl : ∀ b ∈ a :: bs, Clear g b := fun b hm => by
      rcases List.mem_cons.mp hm with z | z
      · rw [z]
        exact hn.clear I1 rd2
      · obtain ⟨d', as', r', _⟩ := hb b z
        exact hn.clear I1 r'
    refine wpAny_pyReprObj_tupleK h1 h2 h3 hna hk hg hcl (by omega) (fun _ _ z => z) (fun h' u tk hkeep => ?_) hz'
    have J : Inv X pins σ H1 { s1 with heap := h', toks := tk } := I1.kept hkeep
    exact wpAny_formatField_str ⟨.str (legsText ps), H1, J, ⟨u, rfl⟩, q⟩ ⟨.str (legsText ps), H1, J.tok _, ⟨_, rfl⟩, q⟩ hz
end
/-! ### Line.__repr__ -/
abbrev sRepr : Stmt := inClass (top 23) 14
theorem scRepr : FnScope ["self"] ["self"] (defScope sRepr) := ⟨rfl, rfl, rfl, by decide +kernel, rfl, by decide +kernel, by decide +kernel⟩
/-- what a line's own __repr__ keeps, whatever is handled -/
def RpOk (P : Program) (w : World) (K : PySem.W.Frag) (mg : Str → Option Value) (base : Heap) (C f : Addr) : Prop :=
  ∀ (A : Around) (outer : List Env) (s : Shared) (H : Hp) (a : Addr) (l : LD) (g : List Code), A.guards = some g → NoRep g H → A.depth < recursionLimit → A.units + 40 < cLine → Env0 P w K mg base A outer s H → Ln K C H (.ref a) l → l.small →
    codeAny (model P w) A (.call (.ref f) ⟨[.ref a], []⟩) (fun res s' => ∃ u, res = .ok (.ret u) ∧ CE outer P w H s (fun v H' => v = .str l.text ∧ H' = H) u s') s
/-- what the top has written of Line's fields -/
structure LnTxt (K : PySem.W.Frag) (C : Addr) : Prop where
  cl : Cls K C
  nF : NoAttr K C "first"
  nP : NoAttr K C "place"
  nL : NoAttr K C "legs"
  nO : NoAttr K C "own_corners"
  nA : NoAttr K C "last"
  nM : NoAttr K C "is_moment"
  nW : NoAttr K C "lowest"
  nH : NoAttr K C "highest"
theorem line_le {n : Nat} (h : n ≤ 1000) : n ≤ sizeLine := Nat.le_trans h (by rw [sizeLine_eq]; decide)
theorem js_len {a b : Str} (h : a.length + b.length ≤ 1000) : (a ++ b).length ≤ sizeLine := line_le (by rw [strLen_append]; exact h)
theorem empty_app (x : Str) : Str.empty ++ x = x := by
  obtain ⟨c⟩ := x
  show (⟨#[] ++ c⟩ : Str) = ⟨c⟩
  rw [Array.empty_append]
section
variable {P : Program} {w : World} {K : PySem.W.Frag} {mg : Str → Option Value} {base : Heap}
theorem ok_repr {C f : Addr} {fd : FuncData} (F : Fun K "__repr__" "Line.__repr__" sRepr f fd) (T : LnTxt K C) : RpOk P w K mg base C f := by
  intro A outer s H a l g hg hn hd hu e0 hl hs
  obtain ⟨oc, od, kV, doc, pm, an, cdv, ct, osl, rfl, lk, hcd⟩ := F.ex
  obtain ⟨a', dx, lg, cn, la, lo, hi, ea, h1, h2, h3⟩ := hl
  cases ea
  have hgd : (cxA P w K mg base ["self"] "Line.__repr__" (defScope sRepr) f cdv A outer s H).A.guards = some g := hg
  have hun : (cxA P w K mg base ["self"] "Line.__repr__" (defScope sRepr) f cdv A outer s H).A.units + 10 < cLine := by
    show A.units + 3 + 10 < cLine
    omega
  refine run_any (N := ["self"]) (ps := ["self"]) (us := [.ref a]) (vs := [.ref a]) lk hcd scRepr hd e0 (BindsTo.of_eq rfl) (.cons rfl .nil) rfl
    (pss_one (ps_ret (pe_joined (.cons pe_str (.cons (pe_fmt (pe_fld (pv 0) rfl)) (.cons pe_str (.cons (pe_fmt (pe_fld (pv 0) rfl)) (.cons pe_str (.cons (pe_fmtRT hgd hun (pe_fld (pv 0) rfl)) (.cons pe_str .nil))))))))) ) ?_
  have z1 := hs.1.len
  have z2 := hs.2.1.len
  have z3 := SmL.len hs.2.2
  have e0 : Str.empty.length = 0 := rfl
  have e1 : ((("Line(" : String) : Str)).length = 5 := rfl
  have e2 : (((", " : String) : Str)).length = 2 := rfl
  have e3 : (((")" : String) : Str)).length = 1 := rfl
  have e4 : Str.empty ++ (("Line(" : String) : Str) = (("Line(" : String) : Str) := empty_app _
  refine ⟨_, rfl, js_len (by omega), ?_⟩
  refine ⟨_, rfl, a, C, dx, _, _, rfl, h1, T.cl, T.nF, lnF_first, .inr ⟨l.f, rfl, hs.1.log, _, rfl, js_len (by rw [e4]; omega), ?_⟩⟩
  refine ⟨_, rfl, js_len (by rw [e4, strLen_append]; omega), ?_⟩
  refine ⟨_, rfl, a, C, dx, _, _, rfl, h1, T.cl, T.nP, lnF_place, .inr ⟨l.p, rfl, hs.2.1.log, _, rfl, js_len (by rw [e4, strLen_append, strLen_append]; omega), ?_⟩⟩
  refine ⟨_, rfl, js_len (by rw [e4, strLen_append, strLen_append, strLen_append]; omega), ?_⟩
  refine ⟨_, rfl, a, C, dx, _, _, rfl, h1, T.cl, T.nL, lnF_legs, l.legs, h2, hs.2.2, hn, _, rfl, js_len (by rw [e4, strLen_append, strLen_append, strLen_append, strLen_append]; omega), ?_⟩
  refine ⟨_, rfl, js_len (by rw [e4, strLen_append, strLen_append, strLen_append, strLen_append, strLen_append]; omega), ?_⟩
  refine ⟨?_, rfl⟩
  rw [e4]
  rfl
end
end KX
end
section
set_option Elab.async false
set_option linter.all false
set_option maxRecDepth 100000
set_option maxHeartbeats 4000000
/-! KR6: repr(x) of data, of a line, of a list of two lines. -/
namespace KX
open PySem PySem.Spec PyProof.Rows L2
section
open PySem.W
variable {prog : Program} {w : World} {A : Around} {E : Value → Shared → Prop} {s : Shared} {K : Frag} {x C f : Addr} {ox : Obj} {od : Option Obj}
theorem under_own {n : Nat} {Q : Str → Shared → Prop} (hu : A.units < cLine) (hz : n ≤ sizeLine) (X : K.In s.heap) (I : InstAt s.heap x ox C od) (hs : findIn K (.ref C) "__repr__" = some (some (.ref f))) (hf : isFn K (.ref f) = true)
    (h : wpAny (model prog w) A (call (.ref f) [.ref x]) (fun v s' => ∃ t u, v = .str t u ∧ Q t s') E s) : wpAny (model prog w) A (pyReprUnder n (.ref x)) Q E s := by
  refine wpAny_pyReprUnder_ref hz ?_
  unfold pyReprObjUnder pyReprObjBy
  refine wpAny_bind (wpAny_cRoomFor hu ?_)
  refine wpAny_bind (wpAny_bind (I.type.here ((looks_findIn X hs).here ?_)))
  show wpAny _ _ (if (some (Value.ref f)).isNone = true then _ else _) _ _ _
  rw [if_neg (by simp)]
  refine wpAny_bind (m := callSpecialIfBoundBy? _ (.ref x) (Str.ofString "__repr__")) ?_
  simp only [callSpecialIfBoundBy?, bindSpecialIfBound?]
  refine wpAny_holding (wpAny_bind (wpAny_bind (wpAny_bind (I.type.here ((looks_findIn X hs).here ?_)))))
  refine wpAny_bind (wpAny_askSetting (wpAny_ite ?_))
  have fin : wpAny (model prog w) A (call (.ref f) ([.ref x] ++ []) >>= fun v => pure (some v)) (fun r s' => wpAny (model prog w) A (match r with
      | some r => do if ← isInstance r (.type "str") then pure r else raiseError "TypeError" s!"__repr__ returned non-string (type {← typeNameOf r})"
      | none => unsupported "repr:special-get-raises") (fun v s' => ∃ x u, v = .str x u ∧ Q x s') E s') E s := by
    refine wpAny_bind (wpAny_mono h (fun v s' hv => ?_) fun _ _ z => z)
    obtain ⟨t, u, rfl, hq⟩ := hv
    refine wpAny_pure ?_
    exact wpAny_bind (wpAny_isInstance (T := "str") (b := true) rfl isSubtype_str_str (wpAny_pure ⟨t, u, rfl, hq⟩))
  split
  · exact wpAny_bind ((bind_fn X _ (beq_iff_eq.mp hf)).here (wpAny_pure (by exact fin)))
  · exact wpAny_tryCatch (wpAny_bind ((bind_fn X _ (beq_iff_eq.mp hf)).here (wpAny_pure (by exact fin))))
end
/-- what repr gives of v -/
inductive RpV (K : PySem.W.Frag) (C : Addr) (H : Hp) : V → Str → Prop
  | dat {v : V} {d : PyData} : Dp K H v d → d.showable = true → d.hasDict = false → d.depth ≤ 8 → d.shown.length ≤ 1000 → RpV K C H v d.shown
  | line {v : V} {l : LD} : Ln K C H v l → l.small → RpV K C H v l.text
structure RpF (X : Cx) (C f : Addr) : Prop where
  gd : X.A.guards = some []
  dp : X.A.depth + 5 < recursionLimit
  un : X.A.units + 100 < cLine
  ok : RpOk X.prog X.w X.K X.mg X.base C f
  at_ : PySem.W.findIn X.K (.ref C) "__repr__" = some (some (.ref f))
  fn : PySem.W.isFn X.K (.ref f) = true
section
variable {X : Cx} {C f : Addr} {pins : List (Addr × Obj)} {σ : L2.St} {H : Hp} {s : Shared}
theorem ln_at (I : Inv X pins σ H s) {v : V} {l : LD} (h : Ln X.K C H v l) : ∃ (a : Addr) (ox : Obj) (od : Option Obj), v = .ref a ∧ PySem.W.InstAt s.heap a ox C od := by
  obtain ⟨a, dx, lg, cn, la, lo, hi, rfl, h1, _⟩ := h
  obtain ⟨mA, O, _⟩ := ins_get I.hok h1
  obtain ⟨od, J, _⟩ := O.look
  exact ⟨a, _, _, rfl, J⟩
/-- the line's own __repr__ is called, under what is under way -/
theorem rp_call (F : RpF X C f) (I : Inv X pins σ H s) {A : Around} {g : List Code} (hf : A.frames = X.A.frames) (hg : A.guards = some g) (hn : NoRep g H) (hd : A.depth < recursionLimit) (hu : A.units + 40 < cLine) {a : Addr} {l : LD} (h : Ln X.K C H (.ref a) l) (hs : l.small)
    {Q : Value → Shared → Prop} {E : Value → Shared → Prop} (hq : ∀ u s', Un (frs X.stack) [] H H s.heap s'.heap → Inv X pins σ H s' → Q (.str l.text u) s') : wpAny (model X.prog X.w) A (call (.ref f) [.ref a]) Q E s := by
  have e := I.env0
  have e0 : Env0 X.prog X.w X.K X.mg X.base A X.stack s H := ⟨by rw [hf]; exact e.frames, e.mod, e.bs, e.bsz, e.funs, e.frf, e.hok, e.bare⟩
  refine wpAny_call (codeAny_mono (F.ok A X.stack s H a l g hg hn hd hu e0 h hs) fun res s' hr => ?_)
  obtain ⟨u, rfl, hc⟩ := hr
  obtain ⟨v, H', h1, h2, h3, h4, h5, rfl, rfl⟩ := id hc
  obtain ⟨t, rfl⟩ := h5
  obtain ⟨v2, H2, I2, _, _, rfl⟩ := I.after hc
  exact hq t s' h3 I2
/-- repr(x): data, a line -/
theorem call_rp (F : RpF X C f) : CallR X (.builtin "repr") (fun xs H Q => ∃ v t, xs = [v] ∧ RpV X.K C H v t ∧ Q (.str t) H) := by
  intro pins s σ H xs us Q I r h
  obtain ⟨v, t, rfl, hv, q⟩ := h
  obtain ⟨u, rfl, ru⟩ := vals1 r
  have hun := F.un
  cases hv with
  | @dat d hd hs hn hdep hz =>
    obtain ⟨as, rd⟩ := Dp.reads I d v u hd ru
    have hz' : d.shown.length ≤ sizeLine := line_le hz
    have heap : ∀ {a : Addr} {d : PyData} {as : List Addr}, Reads s.heap (.ref a) d as → d.showable = true → d.hasDict = false → d.depth ≤ 8 → d.shown.length ≤ sizeLine → Q (.str d.shown) H → wpAny (model X.prog X.w) X.A (call (.builtin "repr") [.ref a]) (EP X pins σ Q) X.xe s :=
      fun rd hs hn hdep hz q => repr_of_reads' rd hs (PyData.noDict_hsm hn) F.gd (by omega) (fun _ _ z => z) (fun h' u tk hk => ⟨.str _, H, I.kept hk, ⟨u, rfl⟩, q⟩) hz
    cases rd with
    | none => exact P.repr_of_none ⟨.str "None", H, I.tok _, ⟨_, rfl⟩, q⟩
    | bool b => exact P.repr_of_bool ⟨.str (if b then "True" else "False"), H, I.tok _, ⟨_, rfl⟩, q⟩
    | int i t => exact P.repr_of_int (by simpa [PyData.showable] using hs) ⟨.str (toString i), H, I.tok _, ⟨_, rfl⟩, q⟩
    | str x t => exact P.repr_of_str ⟨.str (reprText x), H, I.tok _, ⟨_, rfl⟩, q⟩ hz'
    | list h1 h2 h3 h4 => exact heap (.list h1 h2 h3 h4) hs hn hdep hz' q
    | tuple h1 h2 h3 h4 => exact heap (.tuple h1 h2 h3 h4) hs hn hdep hz' q
    | dict h1 h2 h3 h4 h5 => exact heap (.dict h1 h2 h3 h4 h5) hs hn hdep hz' q
  | @line l hl hs =>
    obtain ⟨a, ox, od, rfl, J⟩ := ln_at I hl
    cases ru
    obtain ⟨m, fr⟩ := I.fr
    refine PySem.W.repr_K (by show X.A.units + 1 < cLine; omega) fr I.ok.mod.kin J F.at_ F.fn ?_
    refine rp_call F I (A := X.A.in1) rfl F.gd NoRep.nil (by have := F.dp; show X.A.depth < _; omega) (by show X.A.units + 1 + 40 < _; omega) hl hs fun u s' _ J' => ?_
    exact ⟨.str l.text, H, J', ⟨u, rfl⟩, q⟩
end
end KX
end
section
set_option Elab.async false
set_option linter.all false
set_option maxRecDepth 100000
set_option maxHeartbeats 4000000
/-! KR7: repr([x, y]) of two lines. -/
namespace KX
open PySem PySem.Spec PyProof.Rows L2
abbrev lpCode (a : Addr) (i : Nat) (P : Addr) (n : Nat) : Code := .builtin "list.__repr__.loop" ⟨[.ref a, rawInt (i : Nat), .ref P, rawInt ((n : Nat) : Int)], []⟩
section
variable {X : Cx} {C f : Addr} {pins : List (Addr × Obj)} {σ : L2.St} {H : Hp} {s : Shared}
/-- the list of the parts, at P: ours, not tracked -/
structure PartsAt (X : Cx) (pins : List (Addr × Obj)) (H : Hp) (P : Addr) (done : List (Str × Tok)) (s : Shared) : Prop where
  at_ : ∃ c : Nat, s.heap.get? P = some { cls := .type "list", dict := none, data := .seq (strValues done).toArray c, slots := #[] }
  free : H P = none
  nl : P ≠ X.env.locals
  nf : P ∉ X.fs
  big : X.s_0.heap.objs.size ≤ P
  cell : ∀ x c, X.env.cells.lookup x = some c → c ≠ P
  pin : ∀ p ∈ X.pn ++ pins, p.1 ≠ P
theorem clear_loop {a b P : Addr} {i n : Nat} (h : ¬ Clear [lpCode a i P n] b) : b = a := by
  by_cases e : a = b
  · exact e.symm
  · exact absurd (Clear.cons (Clear.nil b) e) h
/-- one part more -/
theorem lp_step (F : RpF X C f) (I : Inv X pins σ H s) {A : Around} (hA : A.frames = X.A.frames) (hg : A.guards = some []) (hd : A.depth + 1 < recursionLimit) (hu : A.units + 42 < cLine) {L P : Addr} {xs : List V} {i n : Nat} {v : V} {l : LD} {done : List (Str × Tok)}
    (hL : H L = some (.lst xs)) (hx : xs[i]? = some v) (hl : Ln X.K C H v l) (hs : l.small) (hP : PartsAt X pins H P done s) (hdn : done.length ≤ 8) (hn : n ≤ 2000) {R : Result → Shared → Prop}
    (h : ∀ s' tk, Inv X pins σ H s' → PartsAt X pins H P (done ++ [(l.text, tk)]) s' → codeAny (model X.prog X.w) A (lpCode L (i + 1) P (n + (l.text.length + 2))) R s') :
    codeAny (model X.prog X.w) A (lpCode L i P n) R s := by
  obtain ⟨_, its, k, rv, eL⟩ := I.hok L _ hL
  obtain ⟨u, hu', ru⟩ := rv.get hx
  obtain ⟨a, ox, od, rfl, J⟩ := ln_at I hl
  cases ru
  have hlen := LD.small.len hs
  obtain ⟨c, eP⟩ := hP.at_
  refine codeAny_builtin PySem.F.entry_list_repr_loop ?_
  show wpAny _ (A.under (lpCode L i P n)) (Builtin.«list.__repr__.loop» ⟨[.ref L, .int (i : Nat) 0, .ref P, .int ((n : Nat) : Int) 0], []⟩) _ _ s
  rw [repr_loop_tree]
  refine wpAny_bind (wpAny_listItems eL rfl ?_)
  have hsome : its.toArray[(i : Int).toNat]? = some (.ref a) := by simpa using hu'
  simp only [hsome]
  rw [Int.toNat_natCast]
  have hug : (A.under (lpCode L i P n)).units = A.units + 1 := units_under_list_loop _ _
  have hgg : (A.under (lpCode L i P n)).guards = some [lpCode L i P n] := guards_under_guard (isGuard_list_loop _) hg
  have hdd : (A.under (lpCode L i P n)).depth = A.depth + 1 := rfl
  have hff : (A.under (lpCode L i P n)).frames = X.A.frames := hA
  obtain ⟨_, dx, lg, cn, la, lo, hi, ea, hins, _⟩ := id hl
  cases ea
  have hnr : NoRep [lpCode L i P n] H := fun b hb => by
    rw [clear_loop hb]
    exact ⟨xs, i, a, C, dx, _, hL, hx, hins⟩
  refine wpAny_bind (wpAny_holding (under_own (by rw [hug]; omega) (by rw [sizeLine_eq]; omega) I.kIn J F.at_ F.fn ?_))
  refine rp_call F I hff hgg hnr (by rw [hdd]; omega) (by rw [hug]; omega) hl hs fun tk s' un I' => ⟨l.text, tk, rfl, ?_⟩
  refine wpAny_bind (wpAny_mkStr ?_ (line_le (by omega)))
  refine wpAny_bind ?_
  show wpAny _ _ (updateSeq P _) _ _ _
  have nfs : P ∉ frs X.stack := fun z => (List.mem_cons.mp (I.stkSub P z)).elim hP.nl hP.nf
  have eP' : s'.heap.get? P = some { cls := .type "list", dict := none, data := .seq (strValues done).toArray c, slots := #[] } := un.keep P _ eP hP.free nfs (by simp)
  have hsz : (strValues done).toArray.size ≤ sizeLine := by
    simp only [strValues, List.size_toArray, List.length_map]
    exact line_le (by omega)
  refine wpAny_updateSeq eP' rfl (wpAny_pure ⟨PySem.F.quiet_list_repr_loop _, ?_⟩) hsz
  have e1 : ((i : Int) + 1) = ((i + 1 : Nat) : Int) := by omega
  rw [e1]
  have e2 : (strValues (done ++ [(l.text, s'.toks)])).toArray = (strValues done).toArray.push (.str l.text s'.toks) := by simp [strValues]
  obtain ⟨c2, e3⟩ : ∃ c2 : Nat, (s'.heap.update P (Obj.mapSeq fun vs => vs.push (.str l.text s'.toks))).get? P = some { cls := .type "list", dict := none, data := .seq ((strValues done).toArray.push (.str l.text s'.toks)) c2, slots := #[] } :=
    ⟨_, Heap.get?_update_self _ eP' rfl⟩
  refine h _ s'.toks (I'.turned (t' := s'.toks + 1) (fun b o hb q => (Heap.get?_update_other _ _ (Ne.symm hb)).trans q) hP.free hP.nl (.inr hP.big) hP.cell hP.pin) ⟨⟨c2, by rw [e2]; exact e3⟩, hP.free, hP.nl, hP.nf, hP.big, hP.cell, hP.pin⟩
/-- the parts are joined -/
theorem lp_end (I : Inv X pins σ H s) {A : Around} {L P : Addr} {xs : List V} {n : Nat} {done : List (Str × Tok)} (hL : H L = some (.lst xs)) (hP : PartsAt X pins H P done s) (hn : (listText (done.map (·.1))).length ≤ 1000) {R : Result → Shared → Prop}
    (h : ∀ u tk, Inv X pins σ H { s with toks := tk } → R (.ok (.ret (.str (listText (done.map (·.1))) u))) { s with toks := tk }) :
    codeAny (model X.prog X.w) A (lpCode L xs.length P n) R s := by
  obtain ⟨_, its, k, rv, eL⟩ := I.hok L _ hL
  obtain ⟨c, eP⟩ := hP.at_
  refine codeAny_builtin PySem.F.entry_list_repr_loop ?_
  show wpAny _ _ (Builtin.«list.__repr__.loop» ⟨[.ref L, .int (xs.length : Nat) 0, .ref P, .int ((n : Nat) : Int) 0], []⟩) _ _ s
  rw [repr_loop_tree]
  refine wpAny_bind (wpAny_listItems eL rfl ?_)
  have hnone : its.toArray[((xs.length : Nat) : Int).toNat]? = none := by
    have := rv.length
    simp
    omega
  simp only [hnone]
  unfold reprEnd
  refine wpAny_bind (wpAny_listItems eP rfl ?_)
  rw [show (strValues done).toArray.toList = strValues done by simp, repr_fold]
  refine wpAny_bind (wpAny_pure ?_)
  refine wpAny_bind (wpAny_mkStr (wpAny_pure ?_) (line_le hn))
  exact h _ _ (I.tok _)
/-- repr([x, y]), x and y lines -/
def rpTwo (l m : LD) : Str := listText [l.text, m.text]
theorem call_rp2 (F : RpF X C f) : CallR X (.builtin "repr") (fun xs H Q => ∃ a v w l m, xs = [.ref a] ∧ H a = some (.lst [v, w]) ∧ Ln X.K C H v l ∧ Ln X.K C H w m ∧ l.small ∧ m.small ∧ (rpTwo l m).length ≤ 1000 ∧ Q (.str (rpTwo l m)) H) := by
  intro pins s σ H xs us Q I r h
  obtain ⟨L, v, w, l, m, rfl, hL, hl, hm, sl, sm, hz, q⟩ := h
  obtain ⟨u, rfl, ru⟩ := vals1 r
  cases ru
  obtain ⟨_, its, k, rv, eL⟩ := I.hok L _ hL
  obtain ⟨u1, u2, rfl, r1, r2⟩ := vals2 rv
  have hun := F.un
  have hdp := F.dp
  have hT : s.TypeIs (.ref L) "list" := ⟨_, eL, rfl⟩
  refine call_repr_slot (by omega) hT PySem.F.slot_list_repr.toG (wpAny_call (codeAny_call_builtin PySem.F.slot_list_repr.plain PySem.F.entry_list_repr (PySem.F.slot_list_repr.check _ _ _ _ _ _ _ _ hT (PySem.F.args_list_repr_1 _) ?_)))
  refine wpAny_list_repr_head (g := []) F.gd (fun _ _ _ z => nomatch z) eL rfl ?_
  refine wpAny_bind (m := newList []) (wpAny_newObj_type ?_)
  refine wpAny_pure ⟨PySem.F.quiet_list_repr_loop _, ?_⟩
  have I1 : Inv X pins σ H { s with heap := s.heap.push { cls := .type "list", data := .seq #[] } } := I.kept (t' := s.toks) fun b o e => Heap.get?_push_of_some _ e
  have fp := I.fpOk (H' := H) (Nat.le_refl _) (I.hok.fresh (Nat.le_refl _))
  have P0 : PartsAt X pins H s.heap.objs.size [] { s with heap := s.heap.push { cls := .type "list", data := .seq #[] } } :=
    ⟨⟨_, Heap.get?_push_size _ rfl⟩, fp.1, fp.2.1, fp.2.2.1, Nat.le_trans I.sz (Nat.le_refl _), fp.2.2.2.2.1, fp.2.2.2.2.2⟩
  refine lp_step (A := X.A.in1) F I1 (i := 0) (n := 0) rfl F.gd (by show X.A.depth + 1 < _; omega) (by show X.A.units + 1 + 42 < _; omega) hL rfl hl sl P0 (by decide) (by decide) fun s1 t1 J1 P1 => ?_
  refine lp_step (A := X.A.in1) F J1 (i := 1) rfl F.gd (by show X.A.depth + 1 < _; omega) (by show X.A.units + 1 + 42 < _; omega) hL rfl hm sm P1 (by simp) (by have := LD.small.len sl; omega) fun s2 t2 J2 P2 => ?_
  refine lp_end (xs := [v, w]) J2 hL P2 hz fun u tk J3 => ?_
  exact ⟨_, _, rfl, .str (rpTwo l m), H, J3, ⟨u, rfl⟩, q⟩
end
end KX
end
section
set_option Elab.async false
set_option linter.all false
set_option maxRecDepth 100000
set_option maxHeartbeats 4000000
/-! D1: values. -/
namespace KX
open PySem PySem.Spec PyProof.Rows L2
/-- the built-in names are what they were -/
structure Bi (mg : Str → Option Value) : Prop where
  isi : mg "isinstance" = none
  int : mg "int" = none
  bool : mg "bool" = none
  list : mg "list" = none
  tuple : mg "tuple" = none
  len : mg "len" = none
  enum : mg "enumerate" = none
  range : mg "range" = none
  min : mg "min" = none
  max : mg "max" = none
  abs : mg "abs" = none
  divmod : mg "divmod" = none
  repr : mg "repr" = none
  sorted : mg "sorted" = none
  set : mg "set" = none
abbrev Cal := C8.Cal
section
variable {P : Program} {w : World} {K : PySem.W.Frag} {mg : Str → Option Value} {base : Heap}
/-- a def of the module: where it stands, what it is, how its arguments bind -/
structure De (K : PySem.W.Frag) (mg : Str → Option Value) (x : Str) (st : Stmt) (ps : List Str) : Prop where
  ex : ∃ (f : Addr) (fd : FuncData), Fun K x x st f fd ∧ mg x = some (.ref f) ∧ L2.Binds K fd ps []
theorem De.cal {x : Str} {st : Stmt} {N ps : List Str} {k : Nat} {sp : Sp} (D : De K mg x st ps) (S : FnScope N ps (defScope st)) (len : ∀ vs H Q E, sp vs H Q E → vs.length = ps.length)
    (hbody : ∀ (f : Addr) (cdv : Value) (A : Around) (outer : List Env) (s : Shared) (H : Hp) (vs : List V) (Q : VK) (E : XK), Room k (A.deeper (envOfC x (defScope st) s.heap.objs.size f cdv)) → sp vs H Q E →
      ∃ t, PSs (cxOf CX0 P w K mg base N x (defScope st) f cdv A outer s H E).nox (defBody st) t ∧ t { nx := fun _ H' => Q .non H', rt := Q } (L2.start N vs) H) : Cal P w K mg base (k + 1) x sp [] := by
  obtain ⟨f, fd, F, hm, b⟩ := D.ex
  exact ⟨f, fd, ps, [], F.ok S len (fun cdv A outer s H vs Q E hr h => hbody f cdv A outer s H vs Q E hr h), hm, F.kp, b, .nil⟩
/-! ### is_integer -/
/-- a plain value: None, a bool, an int, a text -/
inductive Flat : V → Prop
  | non : Flat .non
  | bl (b : Bool) : Flat (.bl b)
  | int (i : Int) : Flat (.int i)
  | str (z : Str) : Flat (.str z)
def isI : V → Bool
  | .int _ => true
  | _ => false
abbrev sIsInt : Stmt := top 9
theorem scIsInt : FnScope ["value"] ["value"] (defScope sIsInt) := ⟨rfl, rfl, rfl, by decide +kernel, rfl, by decide +kernel, by decide +kernel⟩
def spIsInt : Sp := fun vs H Q _ => ∃ v, vs = [v] ∧ Flat v ∧ Q (.bl (isI v)) H
theorem ok_isInt (B : Bi mg) (D : De K mg "is_integer" sIsInt ["value"]) : Cal P w K mg base 1 "is_integer" spIsInt [] := by
  refine D.cal scIsInt (fun vs H Q E h => ?_) (fun f cdv A outer s H vs Q E hr h => ?_)
  · obtain ⟨v, rfl, _⟩ := h
    rfl
  · obtain ⟨v, rfl, hf, q⟩ := h
    refine ⟨_, pss_one (ps_ret (pe_and (pe_callB call_isi (by rfl) B.isi boot_isinstance (pa_cons (pv 0) (pa_cons (pe_bltn (v := .ty "int") (by rfl) B.int (by decide +kernel) rfl) pa_nil)))
      (pe_one (pe_not (pe_callB call_isi (by rfl) B.isi boot_isinstance (pa_cons (pv 0) (pa_cons (pe_bltn (v := .ty "bool") (by rfl) B.bool (by decide +kernel) rfl) pa_nil))))))), ?_⟩
    cases hf with
    | non => exact ⟨_, rfl, _, _, _, _, false, rfl, .ty "int", .base .non, kit_ty (by decide +kernel), false, rfl, q⟩
    | bl b => exact ⟨_, rfl, _, _, _, _, true, rfl, .ty "int", .base (.bl b), kit_ty (by decide +kernel), true, rfl, _, rfl, _, _, _, _, true, rfl, .ty "bool", .base (.bl b), kit_ty (by decide +kernel), true, rfl, q⟩
    | int i => exact ⟨_, rfl, _, _, _, _, true, rfl, .ty "int", .base (.int i), kit_ty (by decide +kernel), true, rfl, _, rfl, _, _, _, _, false, rfl, .ty "bool", .base (.int i), kit_ty (by decide +kernel), false, rfl, q⟩
    | str z => exact ⟨_, rfl, _, _, _, _, false, rfl, .ty "int", .base (.str z), kit_ty (by decide +kernel), false, rfl, q⟩
end
end KX
end
section
set_option Elab.async false
set_option linter.all false
set_option maxRecDepth 100000
set_option maxHeartbeats 4000000
/-! D2: walks over a list or a tuple. -/
namespace KX
open PySem PySem.Spec PyProof.Rows L2
def Sq (K : PySem.W.Frag) (H : Hp) (a : Addr) (xs : List V) : Prop := SqL K H a xs ∨ SqT K H a xs
theorem Sq.same {K : PySem.W.Frag} {H H' : Hp} {a : Addr} {xs : List V} (e : Same H H') (h : Sq K H a xs) : Sq K H' a xs := h.elim (fun q => .inl (e.seq q)) fun q => .inr (Same.seqT e q)
/-- a list or a tuple of pairs -/
def SqP (K : PySem.W.Frag) (H : Hp) (v : V) (ps : List P2) : Prop := ∃ a xs, v = .ref a ∧ Sq K H a xs ∧ Prs K H xs ps
theorem SqP.same {K : PySem.W.Frag} {H H' : Hp} {v : V} {ps : List P2} (e : Same H H') (h : SqP K H v ps) : SqP K H' v ps := let ⟨a, xs, h1, h2, h3⟩ := h; ⟨a, xs, h1, h2.same e, Prs.same e h3⟩
theorem Lst.sq {K : PySem.W.Frag} {H : Hp} {v : V} {ps : List P2} (h : Lst K H v ps) : SqP K H v ps := let ⟨a, xs, h1, h2, h3⟩ := h; ⟨a, xs, h1, .inl h2, h3⟩
theorem Tpl.sq {K : PySem.W.Frag} {H : Hp} {v : V} {ps : List P2} (h : Tpl K H v ps) : SqP K H v ps := let ⟨a, xs, h1, h2, h3⟩ := h; ⟨a, xs, h1, .inr h2, h3⟩
theorem Sq.ty {K : PySem.W.Frag} {H : Hp} {a : Addr} {xs : List V} (h : Sq K H a xs) : TyX K H (.ref a) (.type "list") ∨ TyX K H (.ref a) (.type "tuple") := by
  rcases h with ((h | ⟨o, h⟩) | ⟨o, _, _, h, c, _⟩) | ((h | ⟨o, h⟩) | ⟨o, _, _, h, c, _⟩)
  · exact .inl (.base (.lst h))
  · exact .inl (.base (.frz h))
  · exact .inl (.kList h c)
  · exact .inr (.base (.tup h))
  · exact .inr (.fTuple h)
  · exact .inr (.kTuple h c)
theorem SqT.ty {K : PySem.W.Frag} {H : Hp} {a : Addr} {xs : List V} (h : SqT K H a xs) : TyX K H (.ref a) (.type "tuple") := by
  rcases h with (h | ⟨o, h⟩) | ⟨o, _, _, h, c, _⟩
  · exact .base (.tup h)
  · exact .fTuple h
  · exact .kTuple h c
theorem SqL.ty {K : PySem.W.Frag} {H : Hp} {a : Addr} {xs : List V} (h : SqL K H a xs) : TyX K H (.ref a) (.type "list") := by
  rcases h with (h | ⟨o, h⟩) | ⟨o, _, _, h, c, _⟩
  · exact .base (.lst h)
  · exact .base (.frz h)
  · exact .kList h c
def iSq (K : PySem.W.Frag) (tl : TE) : TI := fun σ H R => tl σ H fun x H1 => ∃ a xs H0, x = .ref a ∧ Sq K H0 a xs ∧ Same H0 H1 ∧ ∀ J G, Walk J xs.length G (YAt xs) → (∀ H, Same H0 H → G H) → R J H1
theorem pi_sq {X : Cx} {tg l : Expr} {tl : TE} (hl : PE X l tl) : PI X tg l (iSq X.K tl) := by
  refine ⟨fun pins s σ H R I h => ?_⟩
  refine thn (hl.run pins s σ H _ I h) fun v s1 ⟨x, H1, I1, r1, a, xs, H0, e, hq, hs, q⟩ => ?_
  subst e
  cases r1
  rcases hq with hq | hq
  · obtain ⟨its, rv, p, hz⟩ := I1.list (hs.seq hq)
    refine wpAny_pyIter_list p.isList ?_
    refine ⟨s1.heap.objs.size, [s1.heap.objs.size], _, _, H1, rfl, I1.kept (t' := s1.toks) fun b o e => Heap.get?_push_of_some _ e, turn_list a _, ⟨_, Heap.get?_push_size _ rfl, rfl, rfl⟩, fun b hb => ?_, q _ _ walk_list fun H z => z.seq hq⟩
    have e : b = s1.heap.objs.size := by simpa using hb
    subst e
    exact I1.fpOk (Nat.le_refl _) (I1.hok.fresh (Nat.le_refl _))
  · obtain ⟨its, rv, p, hz⟩ := I1.tuple (Same.seqT hs hq)
    refine wpAny_pyIter_tuple (show s1.heap.IsTuple a its.toArray from p) ?_
    refine ⟨s1.heap.objs.size, [s1.heap.objs.size], _, _, H1, rfl, I1.kept (t' := s1.toks) fun b o e => Heap.get?_push_of_some _ e, turn_tuple a _, ⟨_, Heap.get?_push_size _ rfl, rfl, rfl⟩, fun b hb => ?_, q _ _ walk_tup fun H z => Same.seqT z hq⟩
    have e : b = s1.heap.objs.size := by simpa using hb
    subst e
    exact I1.fpOk (Nat.le_refl _) (I1.hok.fresh (Nat.le_refl _))
theorem walk_enumT {K : PySem.W.Frag} {a : Addr} {xs : List V} : Walk (Iet K a) xs.length (fun H => SqT K H a xs) (YPair (fun i => some (.int (i : Nat))) (fun i => xs[i]?)) := by
  refine ⟨fun i _ hi q => ⟨xs, xs[i], q, by simp [hi]⟩, fun _ q => ⟨xs, q, Nat.le_refl _⟩, fun i H v H' _ q y => ?_⟩
  obtain ⟨T, x, h1, h2, h3, h4⟩ := y
  exact ⟨T, .int (i : Nat), x, h1, h2, h3, rfl, h4 xs q⟩
def iEnumS (K : PySem.W.Frag) (ta : TA) : TI := fun σ H R => ta σ H fun vs H1 => ∃ a xs H0, vs = [.ref a] ∧ Sq K H0 a xs ∧ Same H0 H1 ∧
  ∀ J G, Walk J xs.length G (YPair (fun i => some (.int (i : Nat))) (fun i => xs[i]?)) → (∀ H, Same H0 H → G H) → R J H1
theorem pi_enumS {X : Cx} {e : Expr} {ta : TA} {p pos tpos : Pos} {elts : List Expr} {kk : Nat} (hg : Gl X "enumerate") (hm : X.mg "enumerate" = none) (ha : PA X [e] ta)
    (hs : starEach [e] X.env = [(false, eval e X.env)] := by rfl) : PI X (.Tuple elts kk tpos) (.Call (.Name "enumerate" p) [e] [] pos) (iEnumS X.K ta) := by
  constructor
  intro pins s σ H R I hw
  refine Call_ (ld_blt I hg hm boot_enumerate (PyProof.Rows.callWith_type1 (thn (ha.run pos pins s σ H _ I hw) fun us s1 ⟨vs, H1, I1, r1, q1⟩ => ?_) hs rfl))
  obtain ⟨a, xs, H0, rfl, hq, hsm, q⟩ := q1
  obtain ⟨u, rfl, ru⟩ := vals1 r1
  cases ru
  have fp : ∀ b ∈ [s1.heap.objs.size + 1, s1.heap.objs.size], _ := fun b hb => by
    have hle : s1.heap.objs.size ≤ b := by
      rcases List.mem_cons.mp hb with z | z
      · rw [z]; exact Nat.le_add_right _ _
      · rw [List.mem_singleton.mp z]; exact Nat.le_refl _
    exact I1.fpOk hle (I1.hok.fresh hle)
  rcases hq with hq | hq
  · obtain ⟨its, rv, p', hz⟩ := I1.list (hsm.seq hq)
    refine call_enumerate_list p'.isList fun h' he hit hsz hk => wpAny_pyIter_enum he ?_
    have I2 : Inv X pins σ H1 { s1 with heap := h' } := I1.kept (t' := s1.toks) hk
    exact ⟨s1.heap.objs.size + 1, [s1.heap.objs.size + 1, s1.heap.objs.size], _, _, H1, rfl, I2, turn_enum a (s1.heap.objs.size + 1) s1.heap.objs.size, ⟨⟨.none, he⟩, hit, Nat.succ_ne_self _⟩, fp, q _ _ walk_enum fun H z => z.seq hq⟩
  · obtain ⟨its, rv, p', hz⟩ := I1.tuple (Same.seqT hsm hq)
    refine call_enumT (items := its.toArray) p' fun h' he hit hk => wpAny_pyIter_enum he ?_
    have I2 : Inv X pins σ H1 { s1 with heap := h' } := I1.kept (t' := s1.toks) hk
    exact ⟨s1.heap.objs.size + 1, [s1.heap.objs.size + 1, s1.heap.objs.size], _, _, H1, rfl, I2, turn_enumT a (s1.heap.objs.size + 1) s1.heap.objs.size, ⟨⟨.none, he⟩, hit, Nat.succ_ne_self _⟩, fp, q _ _ walk_enumT fun H z => Same.seqT z hq⟩
/-- len(x), x a list or a tuple -/
theorem Sq.len {K : PySem.W.Frag} {H : Hp} {a : Addr} {xs : List V} (h : Sq K H a xs) : SqL K H a xs ∨ SqT K H a xs := h
end KX
end
section
set_option Elab.async false
set_option linter.all false
set_option maxRecDepth 100000
set_option maxHeartbeats 4000000
/-! D3: values. -/
namespace KX
open PySem PySem.Spec PyProof.Rows L2
section
variable {P : Program} {w : World} {K : PySem.W.Frag} {mg : Str → Option Value} {base : Heap}
/-! ### is_integer_from -/
def isF : V → Int → Bool
  | .int i, n => decide (i ≥ n)
  | _, _ => false
abbrev sIsFrom : Stmt := top 10
theorem scIsFrom : FnScope ["value", "least"] ["value", "least"] (defScope sIsFrom) := ⟨rfl, rfl, rfl, by decide +kernel, rfl, by decide +kernel, by decide +kernel⟩
def spIsFrom : Sp := fun vs H Q _ => ∃ v n, vs = [v, .int n] ∧ Flat v ∧ Q (.bl (isF v n)) H
theorem ok_isFrom (B : Bi mg) (D : De K mg "is_integer_from" sIsFrom ["value", "least"]) (G : Cal P w K mg base 1 "is_integer" spIsInt []) : Cal P w K mg base 2 "is_integer_from" spIsFrom [] := by
  refine D.cal scIsFrom (fun vs H Q E h => ?_) (fun f cdv A outer s H vs Q E hr h => ?_)
  · obtain ⟨v, n, rfl, _⟩ := h
    rfl
  · obtain ⟨v, n, rfl, hf, q⟩ := h
    refine ⟨_, pss_one (ps_ret (pe_and (C8.pe_c G hr (Nat.le_refl _) rfl (pa_cons (pv 0) pa_nil)) (pe_one (pe_cmpR op_ge (pv 0) (pv 1) (nomark _))))), ?_⟩
    cases hf with
    | non => exact ⟨_, rfl, _, rfl, .non, _, rfl, q⟩
    | bl b => exact ⟨_, rfl, _, rfl, .bl b, _, rfl, q⟩
    | int i => exact ⟨_, rfl, _, rfl, .int i, _, rfl, _, rfl, _, rfl, _, _, rfl, rfl, q⟩
    | str z => exact ⟨_, rfl, _, rfl, .str z, _, rfl, q⟩
/-! ### is_list -/
abbrev sIsList : Stmt := top 11
theorem scIsList : FnScope ["value"] ["value"] (defScope sIsList) := ⟨rfl, rfl, rfl, by decide +kernel, rfl, by decide +kernel, by decide +kernel⟩
def spIsList (K : PySem.W.Frag) : Sp := fun vs H Q _ => ∃ a xs, vs = [.ref a] ∧ Sq K H a xs ∧ ∀ H', Same H H' → Q (.bl true) H'
theorem ok_isList (B : Bi mg) (D : De K mg "is_list" sIsList ["value"]) : Cal P w K mg base 1 "is_list" (spIsList K) [] := by
  refine D.cal scIsList (fun vs H Q E h => ?_) (fun f cdv A outer s H vs Q E hr h => ?_)
  · obtain ⟨a, xs, rfl, _⟩ := h
    rfl
  · obtain ⟨a, xs, rfl, hq, q⟩ := h
    refine ⟨_, pss_one (ps_ret (pe_callB call_isiT (by rfl) B.isi boot_isinstance (pa_cons (pv 0) (pa_cons (pe_tup (pa_cons (pe_bltn (v := .ty "list") (by rfl) B.list (by decide +kernel) rfl) (pa_cons (pe_bltn (v := .ty "tuple") (by rfl) B.tuple (by decide +kernel) rfl) pa_nil))) pa_nil)))), ?_⟩
    refine ⟨_, rfl, (by show 2 ≤ sizeLine; decide), fun t ht => ?_⟩
    rcases (hq.same (Same.new ht)).ty with ty | ty
    · exact ⟨_, t, _, _, _, true, rfl, upd_same, .cons (.ty "list") (.cons (.ty "tuple") .nil), ty, kitAny_cons (b := true) (kit_ty (by decide +kernel)) (fun z => by cases z) (fun _ => rfl), q _ (Same.new ht)⟩
    · exact ⟨_, t, _, _, _, true, rfl, upd_same, .cons (.ty "list") (.cons (.ty "tuple") .nil), ty, kitAny_cons (b := false) (kit_ty (by decide +kernel)) (fun _ => kitAny_cons (b := true) (kit_ty (by decide +kernel)) (fun z => by cases z) (fun _ => rfl)) (fun z => by cases z), q _ (Same.new ht)⟩
/-! ### want_integer, want_integer_from, want_count: they find what they want -/
abbrev sWant : Stmt := top 12
theorem scWant : FnScope ["value"] ["value"] (defScope sWant) := ⟨rfl, rfl, rfl, by decide +kernel, rfl, by decide +kernel, by decide +kernel⟩
def spWant : Sp := fun vs H Q _ => ∃ i, vs = [.int i] ∧ Q .non H
theorem ok_want (B : Bi mg) (D : De K mg "want_integer" sWant ["value"]) (G : Cal P w K mg base 1 "is_integer" spIsInt []) : Cal P w K mg base 2 "want_integer" spWant [] := by
  refine D.cal scWant (fun vs H Q E h => ?_) (fun f cdv A outer s H vs Q E hr h => ?_)
  · obtain ⟨i, rfl, _⟩ := h
    rfl
  · obtain ⟨i, rfl, q⟩ := h
    refine ⟨_, pss_one (ps_if (pt_not (pt_val (C8.pe_c G hr (Nat.le_refl _) rfl (pa_cons (pv 0) pa_nil)))) (pss_one ps_never) pss_nil), ?_⟩
    exact ⟨_, rfl, _, rfl, .int i, true, rfl, q⟩
abbrev sWantF : Stmt := top 13
theorem scWantF : FnScope ["value", "least"] ["value", "least"] (defScope sWantF) := ⟨rfl, rfl, rfl, by decide +kernel, rfl, by decide +kernel, by decide +kernel⟩
def spWantF : Sp := fun vs H Q _ => ∃ i n : Int, vs = [.int i, .int n] ∧ n ≤ i ∧ Q .non H
theorem ok_wantF (B : Bi mg) (D : De K mg "want_integer_from" sWantF ["value", "least"]) (G : Cal P w K mg base 2 "is_integer_from" spIsFrom []) : Cal P w K mg base 3 "want_integer_from" spWantF [] := by
  refine D.cal scWantF (fun vs H Q E h => ?_) (fun f cdv A outer s H vs Q E hr h => ?_)
  · obtain ⟨i, n, rfl, _⟩ := h
    rfl
  · obtain ⟨i, n, rfl, hi, q⟩ := h
    refine ⟨_, pss_one (ps_if (pt_not (pt_val (C8.pe_c G hr (Nat.le_refl _) rfl (pa_cons (pv 0) (pa_cons (pv 1) pa_nil))))) (pss_one ps_never) pss_nil), ?_⟩
    refine ⟨_, rfl, _, rfl, _, _, rfl, .int i, isF (.int i) n, rfl, ?_⟩
    have e : isF (.int i) n = true := decide_eq_true hi
    rw [e]
    exact q
abbrev sCount : Stmt := top 14
theorem scCount : FnScope ["value"] ["value"] (defScope sCount) := ⟨rfl, rfl, rfl, by decide +kernel, rfl, by decide +kernel, by decide +kernel⟩
def spCount : Sp := fun vs H Q _ => ∃ i : Int, vs = [.int i] ∧ 0 ≤ i ∧ Q .non H
theorem ok_count (B : Bi mg) (D : De K mg "want_count" sCount ["value"]) (G : Cal P w K mg base 3 "want_integer_from" spWantF []) : Cal P w K mg base 4 "want_count" spCount [] := by
  refine D.cal scCount (fun vs H Q E h => ?_) (fun f cdv A outer s H vs Q E hr h => ?_)
  · obtain ⟨i, rfl, _⟩ := h
    rfl
  · obtain ⟨i, rfl, hi, q⟩ := h
    refine ⟨_, pss_one (ps_expr (C8.pe_c G hr (Nat.le_refl _) rfl (pa_cons (pv 0) (pa_cons pe_int pa_nil)))), ?_⟩
    exact ⟨_, rfl, _, _, rfl, hi, q⟩
/-! ### is_leg -/
abbrev sIsLeg : Stmt := top 16
theorem scIsLeg : FnScope ["value"] ["value"] (defScope sIsLeg) := ⟨rfl, rfl, rfl, by decide +kernel, rfl, by decide +kernel, by decide +kernel⟩
def spIsLeg (K : PySem.W.Frag) : Sp := fun vs H Q _ => ∃ v p, vs = [v] ∧ Pr K H v p ∧ 1 ≤ p.1 ∧ Q (.bl true) H
theorem ok_isLeg (B : Bi mg) (D : De K mg "is_leg" sIsLeg ["value"]) (G : Cal P w K mg base 1 "is_integer" spIsInt []) (G2 : Cal P w K mg base 2 "is_integer_from" spIsFrom []) : Cal P w K mg base 3 "is_leg" (spIsLeg K) [] := by
  refine D.cal scIsLeg (fun vs H Q E h => ?_) (fun f cdv A outer s H vs Q E hr h => ?_)
  · obtain ⟨v, p, rfl, _⟩ := h
    rfl
  · obtain ⟨v, p, rfl, ⟨t, rfl, hp⟩, h1, q⟩ := h
    refine ⟨_, pss_one (ps_ret (pe_and (pe_callB call_isi (by rfl) B.isi boot_isinstance (pa_cons (pv 0) (pa_cons (pe_bltn (v := .ty "tuple") (by rfl) B.tuple (by decide +kernel) rfl) pa_nil)))
      (pe_and (pe_cmpR op_eq (pe_callB call_len_seq (by rfl) B.len PySem.boot_len (pa_cons (pv 0) pa_nil)) pe_int (nomark _))
      (pe_and (C8.pe_c G2 hr (by decide) rfl (pa_cons (pe_ix ix_tup (pv 0) pe_int (fun _ _ => rfl)) (pa_cons pe_int pa_nil)))
      (pe_one (C8.pe_c G hr (by decide) rfl (pa_cons (pe_ix ix_tup (pv 0) pe_int (fun _ _ => rfl)) pa_nil))))))), ?_⟩
    refine ⟨_, rfl, _, _, _, _, true, rfl, .ty "tuple", SqT.ty hp, kit_ty (by decide +kernel), true, rfl, ?_⟩
    refine ⟨_, rfl, _, _, rfl, .inr hp, rfl, true, rfl, ?_⟩
    refine ⟨_, rfl, _, _, _, _, rfl, rfl, hp, atI_nat (j := 0) rfl, _, _, rfl, .int _, isF (.int p.1) 1, rfl, ?_⟩
    have e : isF (.int p.1) 1 = true := decide_eq_true h1
    rw [e]
    exact ⟨_, rfl, _, _, _, _, rfl, rfl, hp, atI_nat (j := 1) rfl, _, rfl, .int _, q⟩
end
end KX
end
section
set_option Elab.async false
set_option linter.all false
set_option maxRecDepth 100000
set_option maxHeartbeats 4000000
/-! D4: legs and corners. -/
namespace KX
open PySem PySem.Spec PyProof.Rows L2
/-! ### the mathematics' own functions -/
def mstep (acc : List P2) (q : P2) : List P2 := match acc.getLast? with
  | some l => if l.2 = q.2 then acc.dropLast ++ [(l.1 + q.1, q.2)] else acc ++ [q]
  | none => acc ++ [q]
theorem mstep_nil (q : P2) : mstep [] q = [q] := rfl
theorem mstep_snoc (m : List P2) (l q : P2) : mstep (m ++ [l]) q = if l.2 = q.2 then m ++ [(l.1 + q.1, q.2)] else m ++ [l] ++ [q] := by
  unfold mstep
  rw [List.getLast?_concat, List.dropLast_concat]
def merged (ps : List P2) : List P2 := ps.foldl mstep []
theorem mstep_len (acc : List P2) (q : P2) : (mstep acc q).length ≤ acc.length + 1 := by
  unfold mstep
  split
  · split
    · simp
    · simp
  · simp
theorem merged_take {ps : List P2} {i : Nat} {p : P2} (h : ps[i]? = some p) : merged (ps.take (i + 1)) = mstep (merged (ps.take i)) p := by
  have hi := (List.getElem?_eq_some_iff.mp h)
  obtain ⟨hi, e⟩ := hi
  unfold merged
  rw [List.take_add_one, h]
  show List.foldl mstep [] (ps.take i ++ [p]) = _
  rw [List.foldl_append]
  rfl
theorem merged_len (ps : List P2) : (merged ps).length ≤ ps.length := by
  suffices h : ∀ (ps acc : List P2), (ps.foldl mstep acc).length ≤ acc.length + ps.length by
    have := h ps []
    simpa [merged] using this
  intro ps
  induction ps with
  | nil => intro acc; simp
  | cons p r ih =>
    intro acc
    have h1 := ih (mstep acc p)
    have h2 := mstep_len acc p
    rw [List.foldl_cons, List.length_cons]
    omega
/-- a new object -/
def New (H : Hp) (v : V) : Prop := ∃ a, v = .ref a ∧ H a = none
theorem eqv_nil {ds : List PyData} : (!PyData.eqv (.list ds) (.list [])) = !ds.isEmpty := by
  cases ds with
  | nil => rfl
  | cons d r => rfl
theorem snoc_cases {α : Type} (l : List α) : l = [] ∨ ∃ m x, l = m ++ [x] := by
  rcases List.eq_nil_or_concat l with h | ⟨m, x, h⟩
  · exact .inl h
  · exact .inr ⟨m, x, by rw [h]; simp⟩
theorem Prs.split {K : PySem.W.Frag} {H : Hp} {m : List P2} {l : P2} : ∀ {zs : List V}, Prs K H zs (m ++ [l]) → ∃ zs0 z, zs = zs0 ++ [z] ∧ Prs K H zs0 m ∧ Pr K H z l := by
  induction m with
  | nil =>
    intro zs h
    cases h with
    | cons r t =>
      cases t
      exact ⟨[], _, rfl, .nil, r⟩
  | cons p m ih =>
    intro zs h
    cases h with
    | cons r t =>
      obtain ⟨zs0, z, rfl, h1, h2⟩ := ih t
      exact ⟨_ :: zs0, z, rfl, .cons r h1, h2⟩
theorem ixN_last {α : Type} (m : List α) (x : α) : ixN (m ++ [x]).length (-1) = some m.length := by
  unfold ixN
  rw [List.length_append, List.length_singleton, if_neg (by decide), if_pos (by omega)]
  congr 1
  omega
theorem set_last {α : Type} (m : List α) (x y : α) : (m ++ [x]).set m.length y = m ++ [y] := by
  rw [List.set_append_right _ _ (Nat.le_refl _), Nat.sub_self]
  rfl
theorem yat {xs : List V} {i : Nat} {x : V} {H H' : Hp} (y : YAt xs i H x H') : H' = H ∧ xs[i]? = some x := y
section
variable {P : Program} {w : World} {K : PySem.W.Frag} {mg : Str → Option Value} {base : Heap}
/-! ### check_legs: they are legs -/
abbrev sCheck : Stmt := top 17
theorem scCheck : FnScope ["legs", "most", "position", "leg"] ["legs", "most"] (defScope sCheck) := ⟨rfl, rfl, rfl, by decide +kernel, rfl, by decide +kernel, by decide +kernel⟩
def spCheck (K : PySem.W.Frag) : Sp := fun vs H Q _ => ∃ v m ps, vs = [v, .int m] ∧ SqP K H v ps ∧ (∀ p ∈ ps, 1 ≤ p.1) ∧ (ps.length : Int) ≤ m ∧ ∀ H', Same H H' → Q .non H'
theorem ok_check (B : Bi mg) (D : De K mg "check_legs" sCheck ["legs", "most"]) (GL : Cal P w K mg base 1 "is_list" (spIsList K) []) (G : Cal P w K mg base 3 "is_leg" (spIsLeg K) []) : Cal P w K mg base 4 "check_legs" (spCheck K) [] := by
  refine D.cal scCheck (fun vs H Q E h => ?_) (fun f cdv A outer s H vs Q E hr h => ?_)
  · obtain ⟨v, m, ps, rfl, _⟩ := h
    rfl
  · obtain ⟨v, m, ps, rfl, ⟨a, xs, rfl, hq, hp⟩, h1, hm, q⟩ := h
    refine ⟨_, pss_cons (ps_if (PW.pt (pw_or (pt_not (pt_val (C8.pe_c GL hr (by decide) rfl (pa_cons (pv 0) pa_nil)))) (pw_or1 (pt_cmpR op_gt (pe_callB call_len_seq (by rfl) B.len PySem.boot_len (pa_cons (pv 0) pa_nil)) (pv 1) (nomark _))))) (pss_one ps_never) pss_nil)
      (pss_one (ps_for PassesOwn.never rfl (pi_enumS (by rfl) B.enum (pa_cons (pv 0) pa_nil)) (pg_tup rfl (pgs_cons (pg_name (i := 2) scCheck.nd rfl (Or.inl rfl)) (pgs_cons (pg_name (i := 3) scCheck.nd rfl (Or.inl rfl)) pgs_nil)))
        (pss_one (ps_if (pt_not (pt_val (C8.pe_c G hr (by decide) rfl (pa_cons (pv 3) pa_nil)))) (pss_one ps_never) pss_nil)))), ?_⟩
    refine ⟨_, rfl, a, xs, rfl, hq, fun H1 s1 => ⟨true, rfl, ?_⟩⟩
    refine ⟨_, rfl, a, xs, rfl, (hq.same s1), _, rfl, _, _, rfl, rfl, ?_⟩
    have e : decide ((xs.length : Int) > m) = false := decide_eq_false (by have := Prs.length hp; omega)
    refine ⟨_, rfl, ?_⟩
    rw [e]
    refine iteF ⟨_, rfl, a, xs, H, rfl, hq, s1, fun J G' W hG => ?_⟩
    refine for_it W (fun i σ H' => ∃ u1 u2, σ = [some (.ref a), some (.int m), u1, u2] ∧ Same H H') ⟨none, none, rfl, s1⟩ (fun i σ H' _ ⟨_, _, _, z⟩ => hG H' z) ?_ ?_
    · rintro i x σ H1 H2 hi ⟨u1, u2, rfl, s2⟩ ⟨T, y, z, rfl, nT, rfl, e1, e2⟩
      cases e1
      obtain ⟨p, hp1, hp2⟩ := Prs.of hp e2
      have s3 := Same.then s2 nT (o := .tup [.int (i : Nat), z])
      refine ⟨T, [.int (i : Nat), z], rfl, SqT.of upd_same, rfl, _, _, rfl, _, _, rfl, rfl, ?_⟩
      refine ⟨_, rfl, z, p, rfl, hp2.same s3, h1 p (List.mem_of_getElem? hp1), true, rfl, ?_⟩
      exact ⟨_, _, rfl, s3⟩
    · rintro σ H' ⟨u1, u2, rfl, s2⟩
      exact q H' s2
/-! ### joined_legs, _law_merged -/
abbrev sJoined : Stmt := top 18
theorem scJoined : FnScope ["legs", "found", "ticks", "speed"] ["legs"] (defScope sJoined) := ⟨rfl, rfl, rfl, by decide +kernel, rfl, by decide +kernel, by decide +kernel⟩
def spJoined (K : PySem.W.Frag) : Sp := fun vs H Q _ => ∃ v ps, vs = [v] ∧ SqP K H v ps ∧ ps.length ≤ 1000 ∧ ∀ v' H', Same H H' → Tpl K H' v' (merged ps) → Q v' H'
theorem ok_joined (B : Bi mg) (D : De K mg "joined_legs" sJoined ["legs"]) : Cal P w K mg base 1 "joined_legs" (spJoined K) [] := by
  refine D.cal scJoined (fun vs H Q E h => ?_) (fun f cdv A outer s H vs Q E hr h => ?_)
  · obtain ⟨v, ps, rfl, _⟩ := h
    rfl
  · obtain ⟨v, ps, rfl, ⟨a, xs, rfl, hq, hp⟩, hlen, q⟩ := h
    have hxl := Prs.length hp
    refine ⟨_, pss_cons (ps_set (i := 1) scJoined.nd rfl (Or.inl rfl) (pe_lst pa_nil)) (pss_cons (ps_for PassesOwn.never rfl (pi_sq (pv 0)) (pg_tup rfl (pgs_cons (pg_name (i := 2) scJoined.nd rfl (Or.inl rfl)) (pgs_cons (pg_name (i := 3) scJoined.nd rfl (Or.inl rfl)) pgs_nil)))
      (pss_one (ps_if (PW.pt (pw_and (pt_cmpR (op_neD hr.units) (pv 1) (pe_lst pa_nil) (nomark _)) (pw_and1 (pt_cmpR op_eq (pe_ix ix_tup (pe_ix ix_list (pv 1) (pe_un un_neg pe_int) (fun _ _ => rfl)) pe_int (fun _ _ => rfl)) (pv 3) (nomark _)))))
        (pss_one (ps_asg (pe_tup (pa_cons (pe_op op_add (pe_ix ix_tup (pe_ix ix_list (pv 1) (pe_un un_neg pe_int) (fun _ _ => rfl)) pe_int (fun _ _ => rfl)) (pv 2)) (pa_cons (pv 3) pa_nil))) (pg_sub (pv 1) (pe_un un_neg pe_int) set_list)))
        (pss_one (ps_expr (pe_bm PySem.F.plainAttrs_list PySem.F.slot_list_append PySem.F.type_list_append mt_append (pv 1) (pa_cons (pe_tup (pa_cons (pv 2) (pa_cons (pv 3) pa_nil))) pa_nil)))))))
      (pss_one (ps_ret (pe_callTy call_tuple_of (by rfl) B.tuple (by decide +kernel) (pa_cons (pv 1) pa_nil))))), ?_⟩
    refine ⟨Nat.zero_le _, fun l hl => ?_⟩
    refine ⟨_, rfl, a, xs, H, rfl, hq, Same.new hl, fun J G' W hG => ?_⟩
    refine for_it W (fun i σ H' => ∃ u1 u2 zs, σ = [some (.ref a), some (.ref l), u1, u2] ∧ Same H H' ∧ H' l = some (.lst zs) ∧ Prs K H' zs (merged (ps.take i))) ⟨none, none, [], rfl, Same.new hl, upd_same, .nil⟩ (fun i σ H' _ ⟨_, _, _, _, z, _⟩ => hG H' z) ?_ ?_
    · rintro i x σ H1 H2 hi ⟨u1, u2, zs, rfl, s2, hz, pz⟩ ⟨rfl, e2⟩
      obtain ⟨⟨t, v⟩, hp1, ⟨T, rfl, hT⟩⟩ := Prs.of hp e2
      have hT2 := Same.seqT s2 hT
      have hzl := Prs.length pz
      have hml := merged_len (ps.take i)
      have htl : (ps.take i).length ≤ ps.length := by rw [List.length_take]; omega
      refine ⟨T, [.int t, .int v], rfl, hT2, rfl, _, _, rfl, _, _, rfl, rfl, ?_⟩
      refine ⟨_, rfl, Nat.zero_le _, fun p np => ?_⟩
      have s3 : Same H2 (upd H2 p (.lst [])) := Same.new np
      have hz3 := s3 _ _ hz
      refine ⟨_, _, .lst (SqL.of hz3) (Prs.dp (Prs.same s3 pz)), .lst (SqL.of upd_same) .nil, shaped_list _, rfl, _, rfl, ?_⟩
      show if (!PyData.eqv (.list ((merged (ps.take i)).map dP)) (.list [])) = true then _ else _
      rw [eqv_nil]
      rw [merged_take hp1]
      have s4 : Same H (upd H2 p (.lst [])) := Same.trans s2 s3
      have pz3 := Prs.same s3 pz
      have hlz : zs.length + 1 < sizeLine := by rw [sizeLine_eq]; omega
      generalize merged (ps.take i) = m at *
      rcases snoc_cases m with rfl | ⟨m0, l0, rfl⟩
      · refine iteF ?_
        refine ⟨_, rfl, .inl ⟨rfl, _, SqL.of hz3⟩, _, rfl, _, rfl, (by show 2 ≤ sizeLine; decide), fun t2 nt2 => ⟨l, _, _, rfl, rfl, Same.new nt2 _ _ hz3, (by omega), _, _, _, rfl, Same.wr (Same.then s4 nt2) hl, upd_same, ?_⟩⟩
        exact Prs.snoc (ps := []) ((Prs.same (Same.new nt2) pz3).lst (Same.new nt2 _ _ hz3)) ((Pr.new upd_same).lst (Same.new nt2 _ _ hz3))
      · obtain ⟨zs0, z, rfl, pz0, ⟨T0, rfl, hT0⟩⟩ := Prs.split pz3
        have et : (!(List.map dP (m0 ++ [l0])).isEmpty) = true := by simp
        rw [et, mstep_snoc]
        refine iteT ?_
        refine ⟨_, rfl, _, rfl, l, _, _, _, rfl, rfl, SqL.of hz3, atI_last _ _, T0, _, _, _, rfl, rfl, hT0, atI_nat (j := 1) rfl, _, rfl, rfl, _, rfl, ?_⟩
        refine ite2 (fun hc => ?_) (fun hc => ?_)
        · have hc2 : l0.2 = v := by simpa using hc
          rw [if_pos hc2]
          refine ⟨_, rfl, _, rfl, l, _, _, _, rfl, rfl, SqL.of hz3, atI_last _ _, T0, _, _, _, rfl, rfl, hT0, atI_nat (j := 0) rfl, _, rfl, _, _, rfl, rfl, _, rfl, (by show 2 ≤ sizeLine; decide), fun t2 nt2 => ?_⟩
          have hz4 := Same.new (o := .tup [.int (l0.1 + t), .int v]) nt2 _ _ hz3
          refine ⟨_, rfl, _, rfl, l, _, _, _, rfl, rfl, hz4, ixN_last _ _, ?_⟩
          rw [set_last]
          exact ⟨_, _, _, rfl, Same.wr (Same.then s4 nt2) hl, upd_same, Prs.snoc ((Prs.same (Same.new nt2) pz0).lst hz4) ((Pr.new upd_same).lst hz4)⟩
        · have hc2 : ¬ l0.2 = v := by simpa using hc
          rw [if_neg hc2]
          refine ⟨_, rfl, .inl ⟨rfl, _, SqL.of hz3⟩, _, rfl, _, rfl, (by show 2 ≤ sizeLine; decide), fun t2 nt2 => ⟨l, _, _, rfl, rfl, Same.new nt2 _ _ hz3, (by omega), _, _, _, rfl, Same.wr (Same.then s4 nt2) hl, upd_same, ?_⟩⟩
          exact Prs.snoc ((Prs.same (Same.new nt2) pz3).lst (Same.new nt2 _ _ hz3)) ((Pr.new upd_same).lst (Same.new nt2 _ _ hz3))
    · rintro σ H' ⟨u1, u2, zs, rfl, s2, hz, pz⟩
      rw [List.take_of_length_le (by omega)] at pz
      refine ⟨_, rfl, l, zs, rfl, .inl ⟨SqL.of hz, fun T nT => q _ _ (Same.then s2 nT) ⟨T, zs, rfl, SqT.of upd_same, Prs.same (Same.new nT) pz⟩⟩⟩
abbrev sMerged : Stmt := top 30
theorem scMerged : FnScope ["_law_rows", "_law_found", "_law_length", "_law_pace"] ["_law_rows"] (defScope sMerged) := ⟨rfl, rfl, rfl, by decide +kernel, rfl, by decide +kernel, by decide +kernel⟩
theorem ok_merged (B : Bi mg) (D : De K mg "_law_merged" sMerged ["_law_rows"]) : Cal P w K mg base 1 "_law_merged" (spJoined K) [] := by
  refine D.cal scMerged (fun vs H Q E h => ?_) (fun f cdv A outer s H vs Q E hr h => ?_)
  · obtain ⟨v, ps, rfl, _⟩ := h
    rfl
  · obtain ⟨v, ps, rfl, ⟨a, xs, rfl, hq, hp⟩, hlen, q⟩ := h
    have hxl := Prs.length hp
    refine ⟨_, pss_cons (ps_set (i := 1) scMerged.nd rfl (Or.inl rfl) (pe_lst pa_nil)) (pss_cons (ps_for PassesOwn.never rfl (pi_sq (pv 0)) (pg_tup rfl (pgs_cons (pg_name (i := 2) scMerged.nd rfl (Or.inl rfl)) (pgs_cons (pg_name (i := 3) scMerged.nd rfl (Or.inl rfl)) pgs_nil)))
      (pss_one (ps_if (PW.pt (pw_and (pt_cmpR (op_neD hr.units) (pv 1) (pe_lst pa_nil) (nomark _)) (pw_and1 (pt_cmpR op_eq (pe_ix ix_tup (pe_ix ix_list (pv 1) (pe_un un_neg pe_int) (fun _ _ => rfl)) pe_int (fun _ _ => rfl)) (pv 3) (nomark _)))))
        (pss_one (ps_asg (pe_tup (pa_cons (pe_op op_add (pe_ix ix_tup (pe_ix ix_list (pv 1) (pe_un un_neg pe_int) (fun _ _ => rfl)) pe_int (fun _ _ => rfl)) (pv 2)) (pa_cons (pv 3) pa_nil))) (pg_sub (pv 1) (pe_un un_neg pe_int) set_list)))
        (pss_one (ps_expr (pe_bm PySem.F.plainAttrs_list PySem.F.slot_list_append PySem.F.type_list_append mt_append (pv 1) (pa_cons (pe_tup (pa_cons (pv 2) (pa_cons (pv 3) pa_nil))) pa_nil)))))))
      (pss_one (ps_ret (pe_callTy call_tuple_of (by rfl) B.tuple (by decide +kernel) (pa_cons (pv 1) pa_nil))))), ?_⟩
    refine ⟨Nat.zero_le _, fun l hl => ?_⟩
    refine ⟨_, rfl, a, xs, H, rfl, hq, Same.new hl, fun J G' W hG => ?_⟩
    refine for_it W (fun i σ H' => ∃ u1 u2 zs, σ = [some (.ref a), some (.ref l), u1, u2] ∧ Same H H' ∧ H' l = some (.lst zs) ∧ Prs K H' zs (merged (ps.take i))) ⟨none, none, [], rfl, Same.new hl, upd_same, .nil⟩ (fun i σ H' _ ⟨_, _, _, _, z, _⟩ => hG H' z) ?_ ?_
    · rintro i x σ H1 H2 hi ⟨u1, u2, zs, rfl, s2, hz, pz⟩ ⟨rfl, e2⟩
      obtain ⟨⟨t, v⟩, hp1, ⟨T, rfl, hT⟩⟩ := Prs.of hp e2
      have hT2 := Same.seqT s2 hT
      have hzl := Prs.length pz
      have hml := merged_len (ps.take i)
      have htl : (ps.take i).length ≤ ps.length := by rw [List.length_take]; omega
      refine ⟨T, [.int t, .int v], rfl, hT2, rfl, _, _, rfl, _, _, rfl, rfl, ?_⟩
      refine ⟨_, rfl, Nat.zero_le _, fun p np => ?_⟩
      have s3 : Same H2 (upd H2 p (.lst [])) := Same.new np
      have hz3 := s3 _ _ hz
      refine ⟨_, _, .lst (SqL.of hz3) (Prs.dp (Prs.same s3 pz)), .lst (SqL.of upd_same) .nil, shaped_list _, rfl, _, rfl, ?_⟩
      show if (!PyData.eqv (.list ((merged (ps.take i)).map dP)) (.list [])) = true then _ else _
      rw [eqv_nil]
      rw [merged_take hp1]
      have s4 : Same H (upd H2 p (.lst [])) := Same.trans s2 s3
      have pz3 := Prs.same s3 pz
      have hlz : zs.length + 1 < sizeLine := by rw [sizeLine_eq]; omega
      generalize merged (ps.take i) = m at *
      rcases snoc_cases m with rfl | ⟨m0, l0, rfl⟩
      · refine iteF ?_
        refine ⟨_, rfl, .inl ⟨rfl, _, SqL.of hz3⟩, _, rfl, _, rfl, (by show 2 ≤ sizeLine; decide), fun t2 nt2 => ⟨l, _, _, rfl, rfl, Same.new nt2 _ _ hz3, (by omega), _, _, _, rfl, Same.wr (Same.then s4 nt2) hl, upd_same, ?_⟩⟩
        exact Prs.snoc (ps := []) ((Prs.same (Same.new nt2) pz3).lst (Same.new nt2 _ _ hz3)) ((Pr.new upd_same).lst (Same.new nt2 _ _ hz3))
      · obtain ⟨zs0, z, rfl, pz0, ⟨T0, rfl, hT0⟩⟩ := Prs.split pz3
        have et : (!(List.map dP (m0 ++ [l0])).isEmpty) = true := by simp
        rw [et, mstep_snoc]
        refine iteT ?_
        refine ⟨_, rfl, _, rfl, l, _, _, _, rfl, rfl, SqL.of hz3, atI_last _ _, T0, _, _, _, rfl, rfl, hT0, atI_nat (j := 1) rfl, _, rfl, rfl, _, rfl, ?_⟩
        refine ite2 (fun hc => ?_) (fun hc => ?_)
        · have hc2 : l0.2 = v := by simpa using hc
          rw [if_pos hc2]
          refine ⟨_, rfl, _, rfl, l, _, _, _, rfl, rfl, SqL.of hz3, atI_last _ _, T0, _, _, _, rfl, rfl, hT0, atI_nat (j := 0) rfl, _, rfl, _, _, rfl, rfl, _, rfl, (by show 2 ≤ sizeLine; decide), fun t2 nt2 => ?_⟩
          have hz4 := Same.new (o := .tup [.int (l0.1 + t), .int v]) nt2 _ _ hz3
          refine ⟨_, rfl, _, rfl, l, _, _, _, rfl, rfl, hz4, ixN_last _ _, ?_⟩
          rw [set_last]
          exact ⟨_, _, _, rfl, Same.wr (Same.then s4 nt2) hl, upd_same, Prs.snoc ((Prs.same (Same.new nt2) pz0).lst hz4) ((Pr.new upd_same).lst hz4)⟩
        · have hc2 : ¬ l0.2 = v := by simpa using hc
          rw [if_neg hc2]
          refine ⟨_, rfl, .inl ⟨rfl, _, SqL.of hz3⟩, _, rfl, _, rfl, (by show 2 ≤ sizeLine; decide), fun t2 nt2 => ⟨l, _, _, rfl, rfl, Same.new nt2 _ _ hz3, (by omega), _, _, _, rfl, Same.wr (Same.then s4 nt2) hl, upd_same, ?_⟩⟩
          exact Prs.snoc ((Prs.same (Same.new nt2) pz3).lst (Same.new nt2 _ _ hz3)) ((Pr.new upd_same).lst (Same.new nt2 _ _ hz3))
    · rintro σ H' ⟨u1, u2, zs, rfl, s2, hz, pz⟩
      rw [List.take_of_length_le (by omega)] at pz
      refine ⟨_, rfl, l, zs, rfl, .inl ⟨SqL.of hz, fun T nT => q _ _ (Same.then s2 nT) ⟨T, zs, rfl, SqT.of upd_same, Prs.same (Same.new nT) pz⟩⟩⟩
end
end KX
end
section
set_option Elab.async false
set_option linter.all false
set_option maxRecDepth 100000
set_option maxHeartbeats 4000000
/-! D5: corners. -/
namespace KX
open PySem PySem.Spec PyProof.Rows L2
theorem cornersFrom_app (t p : Int) (a b : List P2) : cornersFrom t p (a ++ b) = cornersFrom t p a ++ cornersFrom (((t, p) :: cornersFrom t p a).getLast (by simp)).1 (((t, p) :: cornersFrom t p a).getLast (by simp)).2 b := by
  induction a generalizing t p with
  | nil => rfl
  | cons q r ih =>
    obtain ⟨k, s⟩ := q
    show (t + k, p + k * s) :: cornersFrom (t + k) (p + k * s) (r ++ b) = (t + k, p + k * s) :: (cornersFrom (t + k) (p + k * s) r ++ _)
    rw [ih]
    rfl
theorem cornersFrom_len (t p : Int) (a : List P2) : (cornersFrom t p a).length = a.length := by
  induction a generalizing t p with
  | nil => rfl
  | cons q r ih =>
    obtain ⟨k, s⟩ := q
    show (cornersFrom _ _ r).length + 1 = r.length + 1
    rw [ih]
/-- where one stands behind the first i legs -/
def endAt (t p : Int) (ps : List P2) : P2 := ps.foldl (fun c q => (c.1 + q.1, c.2 + q.1 * q.2)) (t, p)
theorem endAt_snoc (t p : Int) (ps : List P2) (q : P2) : endAt t p (ps ++ [q]) = ((endAt t p ps).1 + q.1, (endAt t p ps).2 + q.1 * q.2) := by
  unfold endAt
  rw [List.foldl_append]
  rfl
theorem corners_snoc (t p : Int) (ps : List P2) (q : P2) : (t, p) :: cornersFrom t p (ps ++ [q]) = ((t, p) :: cornersFrom t p ps) ++ [((endAt t p ps).1 + q.1, (endAt t p ps).2 + q.1 * q.2)] := by
  induction ps generalizing t p with
  | nil => rfl
  | cons a r ih =>
    obtain ⟨k, s⟩ := a
    have := ih (t + k) (p + k * s)
    show (t, p) :: ((t + k, p + k * s) :: cornersFrom (t + k) (p + k * s) (r ++ [q])) = _
    rw [this]
    rfl
theorem corners_last (t p : Int) (ps : List P2) : ∃ cs, (t, p) :: cornersFrom t p ps = cs ++ [endAt t p ps] := by
  rcases snoc_cases ps with rfl | ⟨m, q, rfl⟩
  · exact ⟨[], rfl⟩
  · exact ⟨_, by rw [corners_snoc, endAt_snoc]⟩
section
variable {P : Program} {w : World} {K : PySem.W.Frag} {mg : Str → Option Value} {base : Heap}
/-! ### corners_of -/
abbrev sCorners : Stmt := top 19
theorem scCorners : FnScope ["tick", "place", "legs", "found", "ticks", "speed"] ["tick", "place", "legs"] (defScope sCorners) := ⟨rfl, rfl, rfl, by decide +kernel, rfl, by decide +kernel, by decide +kernel⟩
def spCorners (K : PySem.W.Frag) : Sp := fun vs H Q _ => ∃ t p v ps, vs = [.int t, .int p, v] ∧ SqP K H v ps ∧ ps.length ≤ 1000 ∧ (∀ q ∈ ps, -(2 ^ 64) < q.1 ∧ q.1 < 2 ^ 64) ∧ ∀ v' H', Same H H' → Lst K H' v' ((t, p) :: cornersFrom t p ps) → Q v' H'
theorem ok_corners (B : Bi mg) (D : De K mg "corners_of" sCorners ["tick", "place", "legs"]) : Cal P w K mg base 1 "corners_of" (spCorners K) [] := by
  refine D.cal scCorners (fun vs H Q E h => ?_) (fun f cdv A outer s H vs Q E hr h => ?_)
  · obtain ⟨t, p, v, ps, rfl, _⟩ := h
    rfl
  · obtain ⟨t0, p0, v, ps, rfl, ⟨a, xs, rfl, hq, hp⟩, hlen, hb, q⟩ := h
    have hxl := Prs.length hp
    refine ⟨_, pss_cons (ps_set (i := 3) scCorners.nd rfl (Or.inl rfl) (pe_lst (pa_cons (pe_tup (pa_cons (pv 0) (pa_cons (pv 1) pa_nil))) pa_nil)))
      (pss_cons (ps_for PassesOwn.never rfl (pi_sq (pv 2)) (pg_tup rfl (pgs_cons (pg_name (i := 4) scCorners.nd rfl (Or.inl rfl)) (pgs_cons (pg_name (i := 5) scCorners.nd rfl (Or.inl rfl)) pgs_nil)))
        (pss_cons (ps_par (i := 0) (j := 1) (by rfl) scCorners.nd rfl rfl (by decide) rfl rfl (pa_cons (pe_op op_add (pv 0) (pv 4)) (pa_cons (pe_op op_add (pv 1) (pe_op op_mul (pv 4) (pv 5))) pa_nil)) (by rfl))
        (pss_one (ps_expr (pe_bm PySem.F.plainAttrs_list PySem.F.slot_list_append PySem.F.type_list_append mt_append (pv 3) (pa_cons (pe_tup (pa_cons (pv 0) (pa_cons (pv 1) pa_nil))) pa_nil))))))
      (pss_one (ps_ret (pv 3)))), ?_⟩
    refine ⟨_, rfl, _, rfl, (by show 2 ≤ sizeLine; decide), fun t1 nt1 => ⟨(by show 1 ≤ sizeLine; decide), fun l hl => ?_⟩⟩
    have s1 : Same H (upd H t1 (.tup [.int t0, .int p0])) := Same.new nt1
    have hl0 : H l = none := s1.free hl
    have s2 := Same.then s1 hl (o := .lst [.ref t1])
    refine ⟨_, rfl, a, xs, H, rfl, hq, s2, fun J G' W hG => ?_⟩
    refine for_it W (fun i σ H' => ∃ u1 u2 zs, σ = [some (.int (endAt t0 p0 (ps.take i)).1), some (.int (endAt t0 p0 (ps.take i)).2), some (.ref a), some (.ref l), u1, u2] ∧ Same H H' ∧ H' l = some (.lst zs) ∧ Prs K H' zs ((t0, p0) :: cornersFrom t0 p0 (ps.take i)))
      ⟨none, none, [.ref t1], rfl, s2, upd_same, .cons ((Pr.new upd_same).same (Same.new hl)) .nil⟩ (fun i σ H' _ ⟨_, _, _, _, z, _⟩ => hG H' z) ?_ ?_
    · rintro i x σ H1 H2 hi ⟨u1, u2, zs, rfl, s3, hz, pz⟩ ⟨rfl, e2⟩
      obtain ⟨⟨t, v⟩, hp1, ⟨T, rfl, hT⟩⟩ := Prs.of hp e2
      have hT2 := Same.seqT s3 hT
      have hzl := Prs.length pz
      rw [List.length_cons, cornersFrom_len, List.length_take] at hzl
      have et : ps.take (i + 1) = ps.take i ++ [(t, v)] := by rw [List.take_add_one, hp1]; rfl
      refine ⟨T, [.int t, .int v], rfl, hT2, rfl, _, _, rfl, _, _, rfl, rfl, ?_⟩
      refine ⟨_, rfl, _, rfl, _, _, rfl, rfl, _, rfl, _, rfl, _, rfl, _, _, rfl, rfl, .inl (hb (t, v) (List.mem_of_getElem? hp1)), _, _, rfl, rfl, _, _, rfl, ?_⟩
      refine ⟨_, rfl, .inl ⟨rfl, _, SqL.of hz⟩, _, rfl, _, rfl, (by show 2 ≤ sizeLine; decide), fun t2 nt2 => ⟨l, _, _, rfl, rfl, Same.new nt2 _ _ hz, (by rw [sizeLine_eq]; omega), some (.int t), some (.int v), zs ++ [.ref t2], ?_, Same.wr (Same.then s3 nt2) hl0, upd_same, ?_⟩⟩
      · rw [et, endAt_snoc]
        rfl
      · rw [et, corners_snoc]
        exact Prs.snoc ((Prs.same (Same.new nt2) pz).lst (Same.new nt2 _ _ hz)) ((Pr.new upd_same).lst (Same.new nt2 _ _ hz))
    · rintro σ H' ⟨u1, u2, zs, rfl, s3, hz, pz⟩
      rw [List.take_of_length_le (by omega)] at pz
      exact ⟨_, rfl, q _ _ s3 ⟨l, zs, rfl, SqL.of hz, pz⟩⟩
/-! ### is_corner -/
/-- a value and whether it is a corner -/
inductive CoV (K : PySem.W.Frag) (H : Hp) : V → Bool → Prop
  | flat {v : V} : Flat v → CoV K H v false
  | tup {t : Addr} {xs : List V} : SqT K H t xs → xs.length ≠ 2 → CoV K H (.ref t) false
  | two {t : Addr} {x y : V} : SqT K H t [x, y] → Flat x → Flat y → CoV K H (.ref t) (isI x && isI y)
  | lst {t : Addr} {xs : List V} : SqL K H t xs → CoV K H (.ref t) false
  | dict {t : Addr} {kvs : List (Key × V)} : H t = some (.dK kvs) → CoV K H (.ref t) false
abbrev sIsCorner : Stmt := top 20
theorem scIsCorner : FnScope ["value"] ["value"] (defScope sIsCorner) := ⟨rfl, rfl, rfl, by decide +kernel, rfl, by decide +kernel, by decide +kernel⟩
def spIsCorner (K : PySem.W.Frag) : Sp := fun vs H Q _ => ∃ v b, vs = [v] ∧ CoV K H v b ∧ Q (.bl b) H
theorem ok_isCorner (B : Bi mg) (D : De K mg "is_corner" sIsCorner ["value"]) (G : Cal P w K mg base 1 "is_integer" spIsInt []) : Cal P w K mg base 2 "is_corner" (spIsCorner K) [] := by
  refine D.cal scIsCorner (fun vs H Q E h => ?_) (fun f cdv A outer s H vs Q E hr h => ?_)
  · obtain ⟨v, p, rfl, _⟩ := h
    rfl
  · obtain ⟨v, b, rfl, hv, q⟩ := h
    refine ⟨_, pss_one (ps_ret (pe_and (pe_callB call_isi (by rfl) B.isi boot_isinstance (pa_cons (pv 0) (pa_cons (pe_bltn (v := .ty "tuple") (by rfl) B.tuple (by decide +kernel) rfl) pa_nil)))
      (pe_and (pe_cmpR op_eq (pe_callB call_len_seq (by rfl) B.len PySem.boot_len (pa_cons (pv 0) pa_nil)) pe_int (nomark _))
      (pe_and (C8.pe_c G hr (by decide) rfl (pa_cons (pe_ix ix_tup (pv 0) pe_int (fun _ _ => rfl)) pa_nil))
      (pe_one (C8.pe_c G hr (by decide) rfl (pa_cons (pe_ix ix_tup (pv 0) pe_int (fun _ _ => rfl)) pa_nil))))))), ?_⟩
    cases hv with
    | flat hf =>
      cases hf with
      | non => exact ⟨_, rfl, _, _, _, _, false, rfl, .ty "tuple", (.base .non), kit_ty (by decide +kernel), false, rfl, q⟩
      | bl b => exact ⟨_, rfl, _, _, _, _, false, rfl, .ty "tuple", (.base (.bl b)), kit_ty (by decide +kernel), false, rfl, q⟩
      | int i => exact ⟨_, rfl, _, _, _, _, false, rfl, .ty "tuple", (.base (.int i)), kit_ty (by decide +kernel), false, rfl, q⟩
      | str z => exact ⟨_, rfl, _, _, _, _, false, rfl, .ty "tuple", (.base (.str z)), kit_ty (by decide +kernel), false, rfl, q⟩
    | lst h => exact ⟨_, rfl, _, _, _, _, false, rfl, .ty "tuple", (SqL.ty h), kit_ty (by decide +kernel), false, rfl, q⟩
    | dict h => exact ⟨_, rfl, _, _, _, _, false, rfl, .ty "tuple", (.base (.dK h)), kit_ty (by decide +kernel), false, rfl, q⟩
    | @tup t xs h hl =>
      refine ⟨_, rfl, _, _, _, _, true, rfl, .ty "tuple", SqT.ty h, kit_ty (by decide +kernel), true, rfl, ?_⟩
      refine ⟨_, rfl, _, _, rfl, .inr h, rfl, false, ?_, q⟩
      have e : decide ((V.int (xs.length : Nat)) = V.int 2) = false := decide_eq_false (by intro z; injection z with z; omega)
      exact congrArg V.bl e
    | @two t x y h fx fy =>
      refine ⟨_, rfl, _, _, _, _, true, rfl, .ty "tuple", SqT.ty h, kit_ty (by decide +kernel), true, rfl, ?_⟩
      refine ⟨_, rfl, _, _, rfl, .inr h, rfl, true, rfl, ?_⟩
      refine ⟨_, rfl, _, _, _, _, rfl, rfl, h, atI_nat (j := 0) rfl, _, rfl, fx, isI x, rfl, ?_⟩
      cases hx : isI x with
      | false =>
        rw [hx] at q
        exact q
      | true =>
        rw [hx] at q
        exact ⟨_, rfl, _, _, _, _, rfl, rfl, h, atI_nat (j := 1) rfl, _, rfl, fy, q⟩
end
end KX
end
section
set_option Elab.async false
set_option linter.all false
set_option maxRecDepth 100000
set_option maxHeartbeats 4000000
/-! D6: Line's __init__. -/
namespace KX
open PySem PySem.Spec PyProof.Rows L2
def areJ (p q : P2) : Bool := decide (q.1 - p.1 ≥ 1) && decide ((q.2 - p.2).fmod (q.1 - p.1) = 0)
def legB (p q : P2) : P2 := (q.1 - p.1, (q.2 - p.2).fdiv (q.1 - p.1))
section
variable {K : PySem.W.Frag} {H : Hp} {v : V} {ps : List P2} {p : P2} {x C dx : Addr} {fs : List (Str × V)} {o : HO} {xs : List V} {a : Addr}
theorem SqT.ins (h : SqT K H a xs) (hp : H x = some (.ins C dx fs)) : SqT K (upd H x o) a xs := by
  rcases h with (h | ⟨ob, h⟩) | h
  · exact .inl (.inl (by rw [upd_ne (ne_of h hp (by intro z; cases z))]; exact h))
  · exact .inl (.inr ⟨ob, by rw [upd_ne (ne_of h hp (by intro z; cases z))]; exact h⟩)
  · exact .inr h
theorem SqL.ins (h : SqL K H a xs) (hp : H x = some (.ins C dx fs)) : SqL K (upd H x o) a xs := by
  rcases h with (h | ⟨ob, h⟩) | h
  · exact .inl (.inl (by rw [upd_ne (ne_of h hp (by intro z; cases z))]; exact h))
  · exact .inl (.inr ⟨ob, by rw [upd_ne (ne_of h hp (by intro z; cases z))]; exact h⟩)
  · exact .inr h
theorem Prs.ins (h : Prs K H xs ps) (hp : H x = some (.ins C dx fs)) : Prs K (upd H x o) xs ps := L2.Paired.mapP h fun _ _ ⟨t, e, q⟩ => ⟨t, e, SqT.ins q hp⟩
theorem Tpl.ins (h : Tpl K H v ps) (hp : H x = some (.ins C dx fs)) : Tpl K (upd H x o) v ps := let ⟨a, xs, h1, h2, h3⟩ := h; ⟨a, xs, h1, SqT.ins h2 hp, Prs.ins h3 hp⟩
theorem Lst.ins (h : Lst K H v ps) (hp : H x = some (.ins C dx fs)) : Lst K (upd H x o) v ps := let ⟨a, xs, h1, h2, h3⟩ := h; ⟨a, xs, h1, SqL.ins h2 hp, Prs.ins h3 hp⟩
end
section
variable {P : Program} {w : World} {K : PySem.W.Frag} {mg : Str → Option Value} {base : Heap}
abbrev sAreJ : Stmt := top 21
theorem scAreJ : FnScope ["corner", "following", "ticks"] ["corner", "following"] (defScope sAreJ) := ⟨rfl, rfl, rfl, by decide +kernel, rfl, by decide +kernel, by decide +kernel⟩
def spAreJ (K : PySem.W.Frag) : Sp := fun vs H Q _ => ∃ v u p q, vs = [v, u] ∧ Pr K H v p ∧ Pr K H u q ∧ Q (.bl (areJ p q)) H
theorem ok_areJ (B : Bi mg) (D : De K mg "are_joined" sAreJ ["corner", "following"]) : Cal P w K mg base 1 "are_joined" (spAreJ K) [] := by
  refine D.cal scAreJ (fun vs H Q E h => ?_) (fun f cdv A outer s H vs Q E hr h => ?_)
  · obtain ⟨v, u, p, q, rfl, _⟩ := h
    rfl
  · obtain ⟨v, u, p, q, rfl, ⟨t1, rfl, h1⟩, ⟨t2, rfl, h2⟩, hq⟩ := h
    refine ⟨_, pss_cons (ps_set (i := 2) scAreJ.nd rfl (Or.inl rfl) (pe_op op_sub (pe_ix ix_tup (pv 1) pe_int (fun _ _ => rfl)) (pe_ix ix_tup (pv 0) pe_int (fun _ _ => rfl))))
      (pss_one (ps_ret (pe_and (pe_cmpR op_ge (pv 2) pe_int (nomark _)) (pe_one (pe_cmpR op_eq (pe_op op_modN (pe_op op_sub (pe_ix ix_tup (pv 1) pe_int (fun _ _ => rfl)) (pe_ix ix_tup (pv 0) pe_int (fun _ _ => rfl))) (pv 2)) pe_int (nomark _)))))), ?_⟩
    refine ⟨_, rfl, _, _, _, _, rfl, rfl, h2, atI_nat (j := 0) rfl, _, rfl, _, _, _, _, rfl, rfl, h1, atI_nat (j := 0) rfl, _, _, rfl, rfl, ?_⟩
    refine ⟨_, rfl, _, _, rfl, rfl, _, rfl, ?_⟩
    unfold areJ at hq
    by_cases hc : q.1 - p.1 ≥ 1
    · rw [decide_eq_true hc] at hq ⊢
      refine ⟨_, rfl, _, _, _, _, rfl, rfl, h2, atI_nat (j := 1) rfl, _, rfl, _, _, _, _, rfl, rfl, h1, atI_nat (j := 1) rfl, _, _, rfl, rfl, _, rfl, _, _, rfl, rfl, (by omega), rfl, ?_⟩
      have e : decide (V.int ((q.2 - p.2).fmod (q.1 - p.1)) = V.int 0) = decide ((q.2 - p.2).fmod (q.1 - p.1) = 0) := by
        rw [decide_eq_decide]
        exact ⟨fun z => by injection z, fun z => by rw [z]⟩
      show Q (.bl (decide (V.int ((q.2 - p.2).fmod (q.1 - p.1)) = V.int 0))) _
      rw [e]
      exact hq
    · rw [decide_eq_false hc] at hq ⊢
      exact hq
abbrev sLegB : Stmt := top 22
theorem scLegB : FnScope ["corner", "following", "ticks"] ["corner", "following"] (defScope sLegB) := ⟨rfl, rfl, rfl, by decide +kernel, rfl, by decide +kernel, by decide +kernel⟩
def spLegB (K : PySem.W.Frag) : Sp := fun vs H Q _ => ∃ v u p q, vs = [v, u] ∧ Pr K H v p ∧ Pr K H u q ∧ 1 ≤ q.1 - p.1 ∧ q.1 - p.1 < 1073741824 ∧ ∀ v' H', Same H H' → Pr K H' v' (legB p q) → Q v' H'
theorem ok_legB (B : Bi mg) (D : De K mg "leg_between" sLegB ["corner", "following"]) : Cal P w K mg base 1 "leg_between" (spLegB K) [] := by
  refine D.cal scLegB (fun vs H Q E h => ?_) (fun f cdv A outer s H vs Q E hr h => ?_)
  · obtain ⟨v, u, p, q, rfl, _⟩ := h
    rfl
  · obtain ⟨v, u, p, q, rfl, ⟨t1, rfl, h1⟩, ⟨t2, rfl, h2⟩, hb1, hb2, hq⟩ := h
    refine ⟨_, pss_cons (ps_set (i := 2) scLegB.nd rfl (Or.inl rfl) (pe_op op_sub (pe_ix ix_tup (pv 1) pe_int (fun _ _ => rfl)) (pe_ix ix_tup (pv 0) pe_int (fun _ _ => rfl))))
      (pss_one (ps_ret (pe_tup (pa_cons (pv 2) (pa_cons (pe_op op_fdivN (pe_op op_sub (pe_ix ix_tup (pv 1) pe_int (fun _ _ => rfl)) (pe_ix ix_tup (pv 0) pe_int (fun _ _ => rfl))) (pv 2)) pa_nil))))), ?_⟩
    refine ⟨_, rfl, _, _, _, _, rfl, rfl, h2, atI_nat (j := 0) rfl, _, rfl, _, _, _, _, rfl, rfl, h1, atI_nat (j := 0) rfl, _, _, rfl, rfl, ?_⟩
    refine ⟨_, rfl, _, rfl, _, _, _, _, rfl, rfl, h2, atI_nat (j := 1) rfl, _, rfl, _, _, _, _, rfl, rfl, h1, atI_nat (j := 1) rfl, _, _, rfl, rfl, _, rfl, _, _, rfl, rfl, ⟨by omega, by omega⟩, (by show 2 ≤ sizeLine; decide), fun t nt => ?_⟩
    exact hq _ _ (Same.new nt) (Pr.new upd_same)
/-! ### Line.__init__ -/
abbrev sInit : Stmt := inClass (top 23) 1
abbrev nInit : List Str := ["self", "tick", "place", "legs", "places", "moment", "height"]
abbrev pInit : List Str := ["self", "tick", "place", "legs"]
theorem scInit : FnScope nInit pInit (defScope sInit) := ⟨rfl, rfl, rfl, by decide +kernel, rfl, by decide +kernel, by decide +kernel⟩
def spInit (K : PySem.W.Frag) (C : Addr) : Sp := fun vs H Q _ => ∃ (H0 : Hp) (x dx : Addr) (t p : Int) (v : V) (ps : List P2), vs = [.ref x, .int t, .int p, v] ∧ Same H0 H ∧ H0 x = none ∧ H x = some (.ins C dx []) ∧ SqP K H0 v ps ∧
  ps.length ≤ 3 ∧ (∀ q ∈ ps, 1 ≤ q.1) ∧ (∀ q ∈ merged ps, -(2 ^ 64) < q.1 ∧ q.1 < 2 ^ 64) ∧ ∀ H', Same H0 H' → Ln K C H' (.ref x) ⟨t, p, merged ps⟩ → Q .non H'
theorem putF_len (k : Str) (v : V) : ∀ fs : List (Str × V), (putF k v fs).length ≤ fs.length + 1
  | [] => Nat.le_refl _
  | (k', v') :: r => by
    unfold putF
    split
    · simp
    · have := putF_len k v r
      simp only [List.length_cons]
      omega
theorem few_put {k : Str} {v : V} {fs : List (Str × V)} {n : Nat} (h : fs.length ≤ n) : (putF k v fs).length ≤ n + 1 := Nat.le_trans (putF_len k v fs) (by omega)
structure LnC (K : PySem.W.Frag) (C : Addr) : Prop extends LnTxt K C where
  most : ∃ u, L2.Con K C "MOST_LEGS" (.int 3) u
theorem body_init (B : Bi mg) {C : Addr} (T : LnC K C) (GW : Cal P w K mg base 2 "want_integer" spWant []) (GC : Cal P w K mg base 4 "check_legs" (spCheck K) []) (GJ : Cal P w K mg base 1 "joined_legs" (spJoined K) []) (GO : Cal P w K mg base 1 "corners_of" (spCorners K) [])
    {qual : Str} {f : Addr} {cdv : Value} {A : Around} {outer : List Env} {s : Shared} {H : Hp} {vs : List V} {Q : VK} {E : XK} (hr : Room 4 (A.deeper (envOfC qual (defScope sInit) s.heap.objs.size f cdv))) (h : spInit K C vs H Q E) :
    ∃ t, PSs (cxOf CX0 P w K mg base nInit qual (defScope sInit) f cdv A outer s H E).nox (defBody sInit) t ∧ t { nx := fun _ H' => Q .non H', rt := Q } (L2.start nInit vs) H := by
  obtain ⟨H0, x, dx, t, p, v, ps, rfl, s0, hx0, hx, hv, hl3, h1, hb, q⟩ := h
  refine ⟨_, pss_cons (ps_expr (C8.pe_c GW hr (by decide) rfl (pa_cons (pv 1) pa_nil))) (pss_cons (ps_expr (C8.pe_c GW hr (by decide) rfl (pa_cons (pv 2) pa_nil)))
    (pss_cons (ps_expr (C8.pe_c GC hr (by decide) rfl (pa_cons (pv 3) (pa_cons (pe_con (pv 0) rfl) pa_nil))))
    (pss_cons (ps_fld (pv 0) (pv 1) rfl) (pss_cons (ps_fld (pv 0) (pv 2) rfl)
    (pss_cons (ps_fld (pv 0) (C8.pe_c GJ hr (by decide) rfl (pa_cons (pv 3) pa_nil)) rfl)
    (pss_cons (ps_fld (pv 0) (C8.pe_c GO hr (by decide) rfl (pa_cons (pv 1) (pa_cons (pv 2) (pa_cons (pe_fld (pv 0) rfl) pa_nil)))) rfl)
    (pss_cons (ps_setLc (i := 4) (g := gTup K 2 (gCons (gName 5) (gCons (gName 6) gNil))) (own := [("moment", 5), ("height", 6)]) rfl scInit.nd rfl rfl (sw_true rfl rfl rfl (by decide +kernel)) (pi_list (pe_fld (pv 0) rfl)) (blkOk_by (N := nInit) (sc := defScope sInit) (by decide +kernel))
      (fun _ _ _ _ _ => pg_tup (n := 2) rfl (pgs_cons (pg_name (i := 5) scInit.nd rfl (Or.inl rfl) (.inr rfl)) (pgs_cons (pg_name (i := 6) scInit.nd rfl (Or.inl rfl) (.inr rfl)) pgs_nil))) (fun _ _ _ _ _ => pts_nil) (fun _ _ _ _ _ => pv 6))
    (pss_cons (ps_fld (pv 0) (pe_ix ix_tup (pe_ix ix_list (pe_fld (pv 0) rfl) (pe_un un_neg pe_int) (fun _ _ => rfl)) pe_int (fun _ _ => rfl)) rfl)
    (pss_cons (ps_fld (pv 0) (pe_cmpR op_eq (pe_callB call_len_seq (by rfl) B.len PySem.boot_len (pa_cons (pe_fld (pv 0) rfl) pa_nil)) pe_int (nomark _)) rfl)
    (pss_cons (ps_fld (pv 0) (pe_callB (cr_min rfl) (by rfl) B.min (by decide +kernel) (pa_cons (pv 4) pa_nil)) rfl)
    (pss_one (ps_fld (pv 0) (pe_callB (cr_max rfl) (by rfl) B.max (by decide +kernel) (pa_cons (pv 4) pa_nil)) rfl)))))))))))), ?_⟩
  have sW := s0
  refine ⟨_, rfl, t, rfl, _, rfl, p, rfl, ?_⟩
  obtain ⟨um, hmost⟩ := T.most
  refine ⟨_, rfl, _, rfl, x, C, dx, _, _, _, rfl, hx, T.cl, hmost, rfl, v, 3, ps, rfl, hv.same s0, h1, (by omega), fun H1 e1 => ?_⟩
  have s1 : Same H0 H1 := Same.trans s0 e1
  have hx1 := e1 _ _ hx
  refine ⟨_, rfl, _, rfl, x, C, dx, _, rfl, hx1, T.cl, T.nF, (by decide), ?_⟩
  generalize hf1 : putF "first" (.int t) [] = f1
  have s2 : Same H0 (upd H1 x (.ins C dx f1)) := Same.wr s1 hx0
  have l1 : f1.length ≤ 1 := by rw [← hf1]; exact few_put (Nat.le_refl _)
  refine ⟨_, rfl, _, rfl, x, C, dx, _, rfl, upd_same, T.cl, T.nP, (by omega), ?_⟩
  generalize hf2 : putF "place" (.int p) f1 = f2
  have l2 : f2.length ≤ 2 := by rw [← hf2]; exact few_put l1
  rw [upd_upd]
  have s3 : Same H0 (upd H1 x (.ins C dx f2)) := Same.wr s1 hx0
  refine ⟨_, rfl, v, ps, rfl, hv.same s3, (by omega), fun lg H2 e2 hlg => ?_⟩
  have s4 : Same H0 H2 := Same.trans s3 e2
  have hx2 := e2 _ _ upd_same
  refine ⟨_, rfl, x, C, dx, _, rfl, hx2, T.cl, T.nL, (by omega), ?_⟩
  generalize hf3 : putF "legs" lg f2 = f3
  have l3 : f3.length ≤ 3 := by rw [← hf3]; exact few_put l2
  have s5 : Same H0 (upd H2 x (.ins C dx f3)) := Same.wr s4 hx0
  have lg3 : f3.lookup ("legs" : Str) = some lg := by rw [← hf3, ← hf2, ← hf1]; rfl
  have hlg5 : Tpl K (upd H2 x (.ins C dx f3)) lg (merged ps) := hlg.ins hx2
  have hml := merged_len ps
  refine ⟨_, rfl, _, rfl, _, rfl, x, C, dx, _, _, rfl, upd_same, T.cl, T.nL, lg3, t, p, lg, merged ps, rfl, hlg5.sq, (by omega), hb, fun cn H3 e3 hcn => ?_⟩
  have s6 : Same H0 H3 := Same.trans s5 e3
  have hx3 := e3 _ _ upd_same
  refine ⟨_, rfl, x, C, dx, _, rfl, hx3, T.cl, T.nO, (by omega), ?_⟩
  generalize hf4 : putF "own_corners" cn f3 = f4
  have l4 : f4.length ≤ 4 := by rw [← hf4]; exact few_put l3
  have s7 : Same H0 (upd H3 x (.ins C dx f4)) := Same.wr s6 hx0
  have lg4 : f4.lookup ("legs" : Str) = some lg := by rw [← hf4, ← hf3, ← hf2, ← hf1]; rfl
  have cn4 : f4.lookup ("own_corners" : Str) = some cn := by rw [← hf4, ← hf3, ← hf2, ← hf1]; rfl
  have hlg7 : Tpl K (upd H3 x (.ins C dx f4)) lg (merged ps) := (hlg5.same e3).ins hx3
  have hcn7 : Lst K (upd H3 x (.ins C dx f4)) cn ((t, p) :: cornersFrom t p (merged ps)) := hcn.ins hx3
  obtain ⟨ca, cs, rfl, hcs, pcs⟩ := id hcn7
  have hcl := Prs.length pcs
  rw [List.length_cons, cornersFrom_len] at hcl
  refine ⟨_, rfl, x, C, dx, _, _, rfl, upd_same, T.cl, T.nO, cn4, ca, rfl, ⟨cs, hcs⟩, fun D nD => ?_⟩
  generalize hH7 : upd H3 x (.ins C dx f4) = H7 at *
  have hx7 : H7 x = some (.ins C dx f4) := by rw [← hH7]; exact upd_same
  refine lc_list (K := K) (a := ca) (xs := cs) (fun i H' => Same H7 H' ∧ ∃ ns : List Int, H' D = some (.lst (ns.map V.int)) ∧ ns.length = i) ⟨Same.new nD, [], upd_same, rfl⟩ (fun i H' _ ⟨z, _⟩ => z.seq hcs) ?_ ?_
  · rintro i y H' hi ⟨z, ns, hD, hn⟩
    obtain ⟨⟨c1, c2⟩, _, T1, rfl, hT1⟩ := Prs.of pcs hi
    have hi' := (List.getElem?_eq_some_iff.mp hi).1
    refine ⟨T1, _, rfl, Same.seqT z hT1, rfl, _, _, rfl, _, _, rfl, rfl, rfl, ?_⟩
    refine ⟨_, rfl, _, hD, (by rw [List.length_map, sizeLine_eq]; omega), Same.wr z nD, ns ++ [c2], ?_, (by simp [hn])⟩
    rw [upd_same, List.map_append]
    rfl
  · rintro H8 ⟨z, ns, hD, hn⟩
    have hx8 := z _ _ hx7
    have s8 : Same H0 H8 := Same.trans s7 z
    have hlg8 := hlg7.same z
    have hcn8 := hcn7.same z
    obtain ⟨cl, ecl⟩ := corners_last t p (merged ps)
    rw [ecl] at pcs
    obtain ⟨cs0, cz, rfl, pcs0, ⟨T0, rfl, hT0⟩⟩ := Prs.split pcs
    have hT8 := Same.seqT z hT0
    refine ⟨_, rfl, x, C, dx, _, _, rfl, hx8, T.cl, T.nO, cn4, _, rfl, ca, _, _, _, rfl, rfl, z.seq hcs, atI_last _ _, T0, _, _, _, rfl, rfl, hT8, atI_nat (j := 0) rfl, _, rfl, x, C, dx, _, rfl, hx8, T.cl, T.nA, (by omega), ?_⟩
    generalize hf5 : putF "last" (.int (endAt t p (merged ps)).1) f4 = f5
    have l5 : f5.length ≤ 5 := by rw [← hf5]; exact few_put l4
    have lg5 : f5.lookup ("legs" : Str) = some lg := by rw [← hf5, ← hf4, ← hf3, ← hf2, ← hf1]; rfl
    have hlg9 : Tpl K (upd H8 x (.ins C dx f5)) lg (merged ps) := hlg8.ins hx8
    obtain ⟨la, ls, rfl, hls, pls⟩ := id hlg9
    have hll := Prs.length pls
    refine ⟨_, rfl, x, C, dx, _, _, rfl, upd_same, T.cl, T.nL, lg5, la, _, rfl, .inr hls, rfl, _, rfl, x, C, dx, _, rfl, upd_same, T.cl, T.nM, (by omega), ?_⟩
    rw [upd_upd]
    have em : decide (V.int (ls.length : Nat) = V.int 0) = decide ((merged ps).length = 0) := by
      rw [decide_eq_decide]
      exact ⟨fun z => by injection z with z; omega, fun z => by rw [hll, z]; rfl⟩
    generalize hf6 : putF "is_moment" (.bl (decide (V.int (ls.length : Nat) = V.int 0))) f5 = f6
    rw [em] at hf6
    have l6 : f6.length ≤ 6 := by rw [← hf6]; exact few_put l5
    have hDx : ∀ f : List (Str × V), (upd H8 x (.ins C dx f)) D = some (.lst (ns.map V.int)) := fun f => by rw [upd_ne (ne_of hD hx8 (by intro z; cases z))]; exact hD
    have hn0 : 0 < ns.length := by omega
    refine ⟨_, rfl, D, ns, rfl, SqL.of (hDx _), hn0, fun lo _ _ => ?_⟩
    refine ⟨_, rfl, x, C, dx, _, rfl, upd_same, T.cl, T.nW, (by omega), ?_⟩
    rw [upd_upd]
    generalize hf7 : putF "lowest" (.int lo) f6 = f7
    have l7 : f7.length ≤ 7 := by rw [← hf7]; exact few_put l6
    refine ⟨_, rfl, D, ns, rfl, SqL.of (hDx _), hn0, fun hi _ _ => ?_⟩
    refine ⟨_, rfl, x, C, dx, _, rfl, upd_same, T.cl, T.nH, (by omega), ?_⟩
    rw [upd_upd]
    have e8 : putF "highest" (.int hi) f7 = lnF t p (.ref la) (.ref ca) (endAt t p (merged ps)).1 (decide ((merged ps).length = 0)) lo hi := by
      rw [← hf7, ← hf6, ← hf5, ← hf4, ← hf3, ← hf2, ← hf1]
      rfl
    rw [e8]
    refine q _ (Same.wr s8 hx0) ⟨x, dx, .ref la, .ref ca, _, lo, hi, rfl, upd_same, hlg8.ins hx8, ?_⟩
    exact hcn8.ins hx8
end
end KX
end
section
set_option Elab.async false
set_option linter.all false
set_option maxRecDepth 100000
set_option maxHeartbeats 4000000
/-! D7: lines: later, moved, ==, +. -/
namespace KX
open PySem PySem.Spec PyProof.Rows L2
structure LD.ok (l : LD) : Prop where
  len : l.legs.length ≤ 3
  pos : ∀ q ∈ l.legs, 1 ≤ q.1
  mrg : merged l.legs = l.legs
  sm : l.small
theorem SmI.wide {i : Int} (h : SmI i) : -(2 ^ 64) < i ∧ i < 2 ^ 64 := by
  unfold SmI at h
  omega
theorem LD.ok.wide {l : LD} (h : l.ok) : ∀ q ∈ l.legs, -(2 ^ 64) < q.1 ∧ q.1 < 2 ^ 64 := fun q hq => (h.sm.2.2.2 q hq).1.wide
theorem eqv_dP (p q : P2) : PyData.eqv (dP p) (dP q) = decide (p = q) := by
  obtain ⟨a, b⟩ := p
  obtain ⟨c, d⟩ := q
  by_cases h1 : a = c
  · by_cases h2 : b = d
    · simp [dP, PyData.eqv, PyData.eqvAll, h1, h2]
    · simp [dP, PyData.eqv, PyData.eqvAll, h1, h2]
  · simp [dP, PyData.eqv, PyData.eqvAll, h1]
theorem shaped_dP (p : P2) : SeqAt.shaped (dP p) = true := rfl
section
variable {K : PySem.W.Frag} {C : Addr} {H : Hp} {v : V} {ps : List P2} {t p : Int} {Q : VK} {l : LD}
/-- Line(t, p, legs) makes a line -/
theorem mk_line (hv : SqP K H v ps) (h3 : ps.length ≤ 3) (h1 : ∀ q ∈ ps, 1 ≤ q.1) (hb : ∀ q ∈ merged ps, -(2 ^ 64) < q.1 ∧ q.1 < 2 ^ 64) (q : ∀ v' H', Same H H' → Ln K C H' v' ⟨t, p, merged ps⟩ → Q v' H') :
    ∀ x dx, H x = none → H dx = none → dx ≠ x → spInit K C (.ref x :: ([.int t, .int p, v] ++ [])) (upd (upd H dx (.own x)) x (.ins C dx [])) (fun v H2 => v = .non ∧ Q (.ref x) H2) E0 :=
  fun x dx nx ndx ne => ⟨H, x, dx, t, p, v, ps, rfl, fun b o e => by rw [upd_ne (ne_of_none e nx), upd_ne (ne_of_none e ndx)]; exact e, nx, upd_same, hv, h3, h1, hb, fun H' e L => ⟨rfl, q _ _ e L⟩⟩
end
/-- what isinstance sees of a line -/
structure LnIs (K : PySem.W.Frag) (C : Addr) : Prop where
  ha : PySem.W.findIn K (.ref C) "__class__" = some (some (.builtin "object.__class__"))
  hn : PySem.W.specialIn K (.builtin "object.__class__") "__get__" = some (some (.builtin "getset_descriptor.__get__"))
  tk : PySem.W.takesIn K (.builtin "object.__class__") = some true
  ob : PySem.W.mroIn K C (.type "object") = some true
  own : PySem.W.kitOne K (.ref C) (.ref C) = some true
  non : PySem.W.kitOne K (.type "NoneType") (.ref C) = some false
  int : PySem.W.kitOne K (.type "int") (.ref C) = some false
  bool : PySem.W.kitOne K (.type "bool") (.ref C) = some false
  str : PySem.W.kitOne K (.type "str") (.ref C) = some false
  tuple : PySem.W.kitOne K (.type "tuple") (.ref C) = some false
  list : PySem.W.kitOne K (.type "list") (.ref C) = some false
theorem Ln.ty {K : PySem.W.Frag} {C : Addr} {H : Hp} {v : V} {l : LD} (h : Ln K C H v l) (T : Cls K C) (I : LnIs K C) : TyX K H v (.ref C) := by
  obtain ⟨a, dx, lg, cn, la, lo, hi, rfl, h1, _⟩ := h
  exact .base (.ins h1 T I.ha I.hn I.tk I.ob)
/-- not a line -/
inductive NoLn (K : PySem.W.Frag) (H : Hp) : V → Prop
  | flat {v : V} : Flat v → NoLn K H v
  | tup {a : Addr} {xs : List V} : SqT K H a xs → NoLn K H (.ref a)
  | lst {a : Addr} {xs : List V} : SqL K H a xs → NoLn K H (.ref a)
theorem NoLn.ty {K : PySem.W.Frag} {C : Addr} {H : Hp} {v : V} (h : NoLn K H v) (I : LnIs K C) : ∃ t, TyX K H v t ∧ PySem.W.kitOne K t (.ref C) = some false := by
  cases h with
  | flat f =>
    cases f with
    | non => exact ⟨_, .base .non, I.non⟩
    | bl b => exact ⟨_, .base (.bl b), I.bool⟩
    | int i => exact ⟨_, .base (.int i), I.int⟩
    | str z => exact ⟨_, .base (.str z), I.str⟩
  | tup h => exact ⟨_, SqT.ty h, I.tuple⟩
  | lst h => exact ⟨_, SqL.ty h, I.list⟩
def LD.last (l : LD) : P2 := endAt l.f l.p l.legs
section
variable {P : Program} {w : World} {K : PySem.W.Frag} {mg : Str → Option Value} {base : Heap}
abbrev Mak := C8.Mak
/-! ### later, moved -/
abbrev sLater : Stmt := inClass (top 23) 6
theorem scLater : FnScope ["self", "ticks"] ["self", "ticks"] (defScope sLater) := ⟨rfl, rfl, rfl, by decide +kernel, rfl, by decide +kernel, by decide +kernel⟩
def spLater (K : PySem.W.Frag) (C : Addr) : Sp := fun vs H Q _ => ∃ v n l, vs = [v, .int n] ∧ Ln K C H v l ∧ l.ok ∧ ∀ v' H', Same H H' → Ln K C H' v' ⟨l.f + n, l.p, l.legs⟩ → Q v' H'
theorem ok_later {C f : Addr} {fd : FuncData} (F : Fun K "later" "Line.later" sLater f fd) (B : Bi mg) (T : LnC K C) (GW : Cal P w K mg base 2 "want_integer" spWant []) (M : Mak P w K mg base 5 "Line" C (spInit K C) []) : FnOk P w K mg base CX0 7 f fd ["self", "ticks"] (spLater K C) := by
  refine F.ok scLater (fun vs H Q E h => ?_) (fun cdv A outer s H vs Q E hr h => ?_)
  · obtain ⟨v, n, l, rfl, _⟩ := h
    rfl
  · obtain ⟨v, n, l, rfl, hl, ok, q⟩ := h
    obtain ⟨a, dx, lg, cn, la, lo, hi, rfl, h1, hlg, hcn⟩ := hl
    refine ⟨_, pss_cons (ps_expr (C8.pe_c GW hr (by decide) rfl (pa_cons (pv 1) pa_nil))) (pss_one (ps_ret (C8.pe_mk M hr (by decide) rfl (pa_cons (pe_op op_add (pe_fld (pv 0) rfl) (pv 1)) (pa_cons (pe_fld (pv 0) rfl) (pa_cons (pe_fld (pv 0) rfl) pa_nil)))))), ?_⟩
    refine ⟨_, rfl, n, rfl, ?_⟩
    refine ⟨_, rfl, a, C, dx, _, _, rfl, h1, T.cl, T.nF, lnF_first, _, rfl, _, _, rfl, rfl, _, rfl, a, C, dx, _, _, rfl, h1, T.cl, T.nP, lnF_place, _, rfl, a, C, dx, _, _, rfl, h1, T.cl, T.nL, lnF_legs, ?_⟩
    refine mk_line hlg.sq ok.len ok.pos (by rw [ok.mrg]; exact ok.wide) fun v' H' e L => ?_
    rw [ok.mrg] at L
    exact q v' H' e L
abbrev sMoved : Stmt := inClass (top 23) 7
theorem scMoved : FnScope ["self", "places"] ["self", "places"] (defScope sMoved) := ⟨rfl, rfl, rfl, by decide +kernel, rfl, by decide +kernel, by decide +kernel⟩
def spMoved (K : PySem.W.Frag) (C : Addr) : Sp := fun vs H Q _ => ∃ v n l, vs = [v, .int n] ∧ Ln K C H v l ∧ l.ok ∧ ∀ v' H', Same H H' → Ln K C H' v' ⟨l.f, l.p + n, l.legs⟩ → Q v' H'
theorem ok_moved {C f : Addr} {fd : FuncData} (F : Fun K "moved" "Line.moved" sMoved f fd) (B : Bi mg) (T : LnC K C) (GW : Cal P w K mg base 2 "want_integer" spWant []) (M : Mak P w K mg base 5 "Line" C (spInit K C) []) : FnOk P w K mg base CX0 7 f fd ["self", "places"] (spMoved K C) := by
  refine F.ok scMoved (fun vs H Q E h => ?_) (fun cdv A outer s H vs Q E hr h => ?_)
  · obtain ⟨v, n, l, rfl, _⟩ := h
    rfl
  · obtain ⟨v, n, l, rfl, hl, ok, q⟩ := h
    obtain ⟨a, dx, lg, cn, la, lo, hi, rfl, h1, hlg, hcn⟩ := hl
    refine ⟨_, pss_cons (ps_expr (C8.pe_c GW hr (by decide) rfl (pa_cons (pv 1) pa_nil))) (pss_one (ps_ret (C8.pe_mk M hr (by decide) rfl (pa_cons (pe_fld (pv 0) rfl) (pa_cons (pe_op op_add (pe_fld (pv 0) rfl) (pv 1)) (pa_cons (pe_fld (pv 0) rfl) pa_nil)))))), ?_⟩
    refine ⟨_, rfl, n, rfl, ?_⟩
    refine ⟨_, rfl, a, C, dx, _, _, rfl, h1, T.cl, T.nF, lnF_first, _, rfl, a, C, dx, _, _, rfl, h1, T.cl, T.nP, lnF_place, _, rfl, _, _, rfl, rfl, _, rfl, a, C, dx, _, _, rfl, h1, T.cl, T.nL, lnF_legs, ?_⟩
    refine mk_line hlg.sq ok.len ok.pos (by rw [ok.mrg]; exact ok.wide) fun v' H' e L => ?_
    rw [ok.mrg] at L
    exact q v' H' e L
/-! ### == of equal lines -/
abbrev sEq : Stmt := inClass (top 23) 13
theorem scEq : FnScope ["self", "other"] ["self", "other"] (defScope sEq) := ⟨rfl, rfl, rfl, by decide +kernel, rfl, by decide +kernel, by decide +kernel⟩
def spLnEq (K : PySem.W.Frag) (C : Addr) : Sp := fun vs H Q _ => ∃ v u l, vs = [v, u] ∧ Ln K C H v l ∧ Ln K C H u l ∧ ∀ H', Same H H' → Q (.bl true) H'
theorem ok_eq {C f : Addr} {fd : FuncData} (F : Fun K "__eq__" "Line.__eq__" sEq f fd) (B : Bi mg) (T : LnC K C) (I : LnIs K C) (mgC : mg "Line" = some (.ref C)) : FnOk P w K mg base CX0 1 f fd ["self", "other"] (spLnEq K C) := by
  refine F.ok scEq (fun vs H Q E h => ?_) (fun cdv A outer s H vs Q E hr h => ?_)
  · obtain ⟨v, u, l, rfl, _⟩ := h
    rfl
  · obtain ⟨v, u, l, rfl, hl, hm, q⟩ := h
    have tyu := hm.ty T.cl I
    obtain ⟨a, dx, lg, cn, la, lo, hi, rfl, h1, hlg, hcn⟩ := hl
    obtain ⟨b, dy, mg', cm, ma, mo, mi, rfl, k1, klg, kcn⟩ := hm
    refine ⟨_, pss_cons (ps_if (pt_not (pt_val (pe_callB call_isi (by rfl) B.isi boot_isinstance (pa_cons (pv 1) (pa_cons (pe_glob (v := .ref C) rfl mgC rfl) pa_nil))))) (pss_one (ps_ret pe_bl)) pss_nil)
      (pss_one (ps_ret (pe_cmpR (op_eqD hr.units) (pe_tup (pa_cons (pe_fld (pv 0) rfl) (pa_cons (pe_fld (pv 0) rfl) (pa_cons (pe_fld (pv 0) rfl) pa_nil)))) (pe_tup (pa_cons (pe_fld (pv 1) rfl) (pa_cons (pe_fld (pv 1) rfl) (pa_cons (pe_fld (pv 1) rfl) pa_nil)))) (nomark _)))), ?_⟩
    refine ⟨_, rfl, _, _, _, _, true, rfl, .own C, tyu, I.own, true, rfl, ?_⟩
    refine ⟨_, rfl, a, C, dx, _, _, rfl, h1, T.cl, T.nF, lnF_first, _, rfl, a, C, dx, _, _, rfl, h1, T.cl, T.nP, lnF_place, _, rfl, a, C, dx, _, _, rfl, h1, T.cl, T.nL, lnF_legs, (by show 3 ≤ sizeLine; decide), fun t1 n1 => ?_⟩
    have s1 := Same.new (o := .tup [.int l.f, .int l.p, lg]) n1
    have k1' := s1 _ _ k1
    refine ⟨_, rfl, b, C, dy, _, _, rfl, k1', T.cl, T.nF, lnF_first, _, rfl, b, C, dy, _, _, rfl, k1', T.cl, T.nP, lnF_place, _, rfl, b, C, dy, _, _, rfl, k1', T.cl, T.nL, lnF_legs, (by show 3 ≤ sizeLine; decide), fun t2 n2 => ?_⟩
    have s2 := Same.new (o := .tup [.int l.f, .int l.p, mg']) n2
    have d1 := ((hlg.same s1).same s2).dp
    have d2 := ((klg.same s1).same s2).dp
    have sh : SeqAt.shaped (.tuple [.int l.f, .int l.p, .tuple (l.legs.map dP)]) = true := by
      have h := depth_map l.legs
      have e : (PyData.tuple [.int l.f, .int l.p, .tuple (l.legs.map dP)]).depth ≤ 64 := by
        simp only [PyData.depth, PyData.depthAll]
        omega
      have c : (PyData.tuple [.int l.f, .int l.p, .tuple (l.legs.map dP)]).canLay0 = true := by
        show (true && (true && (PyData.canLayAll0 (l.legs.map dP) && true))) = true
        rw [canLay_map]
        rfl
      unfold SeqAt.shaped
      rw [c, decide_eq_true e]
      rfl
    refine ⟨_, _, .tup (SqT.of (s2 _ _ upd_same)) (.cons (.int _) (.cons (.int _) (.cons d1 .nil))), .tup (SqT.of upd_same) (.cons (.int _) (.cons (.int _) (.cons d2 .nil))), sh, sh, ?_⟩
    rw [SeqAt.eqv_refl _ (SeqAt.canLay_of_shaped sh)]
    exact q _ (Same.trans s1 s2)
end
end KX
end
section
set_option Elab.async false
set_option linter.all false
set_option maxRecDepth 100000
set_option maxHeartbeats 4000000
/-! D8: lines: +. -/
namespace KX
open PySem PySem.Spec PyProof.Rows L2
/-! ### merged legs are merged -/
def Nd : List P2 → Prop
  | [] => True
  | [_] => True
  | p :: q :: r => p.2 ≠ q.2 ∧ Nd (q :: r)
theorem Nd.cons {p : P2} {r : List P2} (h : Nd r) (hp : ∀ q, r.head? = some q → p.2 ≠ q.2) : Nd (p :: r) := by
  cases r with
  | nil => trivial
  | cons q r => exact ⟨hp q rfl, h⟩
theorem Nd.app {a b : List P2} : Nd a → Nd b → (∀ p q, a.getLast? = some p → b.head? = some q → p.2 ≠ q.2) → Nd (a ++ b) := by
  induction a with
  | nil => exact fun _ h _ => h
  | cons x r ih =>
    intro ha hb hj
    cases r with
    | nil => exact hb.cons fun q hq => hj x q rfl hq
    | cons y r => exact ⟨ha.1, ih ha.2 hb fun p q hp hq => hj p q (by rw [List.getLast?_cons_cons]; exact hp) hq⟩
theorem Nd.left {a b : List P2} : Nd (a ++ b) → Nd a := by
  induction a with
  | nil => exact fun _ => trivial
  | cons x r ih =>
    intro h
    cases r with
    | nil => trivial
    | cons y r => exact ⟨h.1, ih h.2⟩
theorem Nd.last {a : List P2} {p q : P2} : Nd (a ++ [p, q]) → p.2 ≠ q.2 := by
  induction a with
  | nil => exact fun h => h.1
  | cons x r ih =>
    intro h
    cases r with
    | nil => exact h.2.1
    | cons y r => exact ih h.2
theorem mstep_nd {acc : List P2} (h : Nd acc) (q : P2) : Nd (mstep acc q) := by
  rcases snoc_cases acc with rfl | ⟨m, l, rfl⟩
  · trivial
  · rw [mstep_snoc]
    split
    · rcases snoc_cases m with rfl | ⟨m', l', rfl⟩
      · trivial
      · refine Nd.app h.left trivial fun p r hp hr => ?_
        rw [List.getLast?_concat] at hp
        cases hp
        cases hr
        rename_i e
        rw [List.append_assoc] at h
        have := h.last
        show l'.2 ≠ q.2
        rw [← e]
        exact this
    · rename_i e
      refine Nd.app h trivial fun p r hp hr => ?_
      rw [List.getLast?_concat] at hp
      cases hp
      cases hr
      exact e
theorem fold_nd {ps : List P2} : ∀ {acc : List P2}, Nd acc → Nd (ps.foldl mstep acc) := by
  induction ps with
  | nil => exact fun h => h
  | cons p r ih => exact fun h => ih (mstep_nd h p)
theorem merged_nd (ps : List P2) : Nd (merged ps) := fold_nd trivial
theorem fold_of_nd {ps : List P2} : ∀ {acc : List P2}, Nd (acc ++ ps) → ps.foldl mstep acc = acc ++ ps := by
  induction ps with
  | nil => exact fun _ => (List.append_nil _).symm
  | cons p r ih =>
    intro acc h
    have e : mstep acc p = acc ++ [p] := by
      rcases snoc_cases acc with rfl | ⟨m, l, rfl⟩
      · rfl
      · rw [mstep_snoc, if_neg]
        rw [show (m ++ [l]) ++ (p :: r) = (m ++ [l, p]) ++ r by simp] at h
        exact h.left.last
    rw [List.foldl_cons, e, ih (by simpa using h)]
    simp
theorem merged_of_nd {ps : List P2} (h : Nd ps) : merged ps = ps := fold_of_nd (acc := []) h
theorem merged_idem (ps : List P2) : merged (merged ps) = merged ps := merged_of_nd (merged_nd ps)
/-- what is raised: cls, its own dict holds f -/
def Rz (H : Hp) (E : XK) (C : Addr) (f : Str) (u : V) : Prop := ∀ d H', Same H H' → H d = none → H' d = some (.xd [(f, u)]) → E (.ref C) (some d) H'
theorem Rz.at {H H1 : Hp} {E : XK} {C : Addr} {f : Str} {u : V} (h : Rz H E C f u) (e : Same H H1) (d : Addr) (nd : H1 d = none) : E (.ref C) (some d) (upd H1 d (.xd [(f, u)])) :=
  h d _ (Same.then e nd) (e.free nd) upd_same
theorem rCatA_of {K : PySem.W.Frag} {H : Hp} {a b : Addr} {xs ys : List V} {Q : VK} (ha : SqT K H a xs) (hb : SqT K H b ys) (hz : xs.length + ys.length ≤ sizeLine) (q : ∀ p H2, Same H H2 → SqT K H2 p (xs ++ ys) → Q (.ref p) H2) : rCatA K (.ref a) (.ref b) H Q :=
  ⟨a, b, xs, ys, rfl, rfl, ha, hb, hz, fun z => by subst z; exact q _ _ (Same.refl _) hb, fun _ z => by subst z; exact q _ _ (Same.refl _) (by rw [List.append_nil]; exact ha), fun _ _ p np => q _ _ (Same.new np) (SqT.of upd_same)⟩
section
variable {P : Program} {w : World} {K : PySem.W.Frag} {mg : Str → Option Value} {base : Heap}
abbrev sAdd : Stmt := inClass (top 23) 12
theorem scAdd : FnScope ["self", "other", "legs"] ["self", "other"] (defScope sAdd) := ⟨rfl, rfl, rfl, by decide +kernel, rfl, by decide +kernel, by decide +kernel⟩
def AddB (l m : LD) : List P2 := merged (l.legs ++ m.legs)
def spAdd (K : PySem.W.Frag) (C CLg CLn : Addr) : Sp := fun vs H Q E => ∃ v u l, vs = [v, u] ∧ Ln K C H v l ∧ l.ok ∧
  (((NoLn K H u ∨ ∃ m, Ln K C H u m ∧ (m.f, m.p) ≠ l.last) ∧ Rz H E CLn "value" u) ∨
   (∃ m, Ln K C H u m ∧ m.ok ∧ (m.f, m.p) = l.last ∧ (3 < (AddB l m).length → Rz H E CLg "position" .non) ∧
     ((AddB l m).length ≤ 3 → (∀ q ∈ AddB l m, 1 ≤ q.1 ∧ SmP q) ∧ ∀ v' H', Same H H' → Ln K C H' v' ⟨l.f, l.p, AddB l m⟩ → Q v' H')))
theorem ok_add {C CLg CLn fLg fLn f : Addr} {fd : FuncData} (F : Fun K "__add__" "Line.__add__" sAdd f fd) (B : Bi mg) (T : LnC K C) (I : LnIs K C) (mgC : mg "Line" = some (.ref C))
    (TG : SupX.SupTxt P K mg "InvalidLegs" "position" CLg fLg) (TN : SupX.SupTxt P K mg "InvalidLine" "value" CLn fLn) (GJ : Cal P w K mg base 1 "joined_legs" (spJoined K) []) (M : Mak P w K mg base 5 "Line" C (spInit K C) []) :
    FnOk P w K mg base (L2.CX P w) 7 f fd ["self", "other"] (spAdd K C CLg CLn) := by
  refine F.okX scAdd (fun vs H Q E h => ?_) (fun cdv A outer s H vs Q E hr h => ?_)
  · obtain ⟨v, u, l, rfl, _⟩ := h
    rfl
  · obtain ⟨v, u, l, rfl, hl, okl, hcase⟩ := h
    obtain ⟨a, dx, lg, cn, la, lo, hi, rfl, h1, hlg, hcn⟩ := id hl
    obtain ⟨um, hmost⟩ := T.most
    refine ⟨_, pss_cons (ps_if (PW.pt (pw_or (pt_not (pt_val (pe_callB call_isi (by rfl) B.isi boot_isinstance (pa_cons (pv 1) (pa_cons (pe_glob (v := .ref C) rfl mgC rfl) pa_nil)))))
        (pw_or1 (pt_cmpR (op_neD hr.units) (pe_tup (pa_cons (pe_fld (pv 1) rfl) (pa_cons (pe_fld (pv 1) rfl) pa_nil))) (pe_ix ix_list (pe_fld (pv 0) rfl) (pe_un un_neg pe_int) (fun _ _ => rfl)) (nomark _)))))
        (pss_one (ps_raiseS rfl TN hr (takes_of rfl rfl rfl rfl) (pv 1) rfl)) pss_nil)
      (pss_cons (ps_set (i := 2) scAdd.nd rfl (Or.inl rfl) (C8.pe_c GJ hr (by decide) rfl (pa_cons (pe_op op_catA (pe_fld (pv 0) rfl) (pe_fld (pv 1) rfl)) pa_nil)))
      (pss_cons (ps_if (pt_cmpR op_gt (pe_callB call_len_seq (by rfl) B.len PySem.boot_len (pa_cons (pv 2) pa_nil)) (pe_con (pv 0) rfl) (nomark _)) (pss_one (ps_raiseS rfl TG hr (takes_of rfl rfl rfl rfl) pe_non rfl)) pss_nil)
      (pss_one (ps_ret (C8.pe_mk M hr (by decide) rfl (pa_cons (pe_fld (pv 0) rfl) (pa_cons (pe_fld (pv 0) rfl) (pa_cons (pv 2) pa_nil)))))))), ?_⟩
    obtain ⟨ca, cs, rfl, hcs, pcs⟩ := id hcn
    obtain ⟨cl, ecl⟩ := corners_last l.f l.p l.legs
    rw [show l.corners = (l.f, l.p) :: cornersFrom l.f l.p l.legs from rfl, ecl] at pcs
    obtain ⟨cs0, cz, rfl, pcs0, hcz⟩ := Prs.split pcs
    have hcase2 : (NoLn K H u ∧ Rz H E CLn "value" u) ∨ ∃ m, Ln K C H u m ∧ (((m.f, m.p) ≠ l.last ∧ Rz H E CLn "value" u) ∨ (m.ok ∧ (m.f, m.p) = l.last ∧ (3 < (AddB l m).length → Rz H E CLg "position" .non) ∧
        ((AddB l m).length ≤ 3 → (∀ q ∈ AddB l m, 1 ≤ q.1 ∧ SmP q) ∧ ∀ v' H', Same H H' → Ln K C H' v' ⟨l.f, l.p, AddB l m⟩ → Q v' H'))) := by
      rcases hcase with ⟨hu | ⟨m, hm, hne⟩, q⟩ | ⟨m, hm, okm, heq, q1, q2⟩
      · exact .inl ⟨hu, q⟩
      · exact .inr ⟨m, hm, .inl ⟨hne, q⟩⟩
      · exact .inr ⟨m, hm, .inr ⟨okm, heq, q1, q2⟩⟩
    rcases hcase2 with ⟨hu, q⟩ | ⟨m, hm, hc⟩
    · obtain ⟨t, ty, kt⟩ := hu.ty I
      refine ⟨_, rfl, _, _, _, _, false, rfl, .own C, ty, kt, false, rfl, ?_⟩
      refine ⟨_, rfl, fun d nd => q.at (Same.refl H) d nd⟩
    · have tyu := hm.ty T.cl I
      obtain ⟨b, dy, mg', cm, ma, mo, mi, rfl, k1, klg, kcn⟩ := hm
      refine ⟨_, rfl, _, _, _, _, true, rfl, .own C, tyu, I.own, true, rfl, ?_⟩
      refine ⟨_, rfl, b, C, dy, _, _, rfl, k1, T.cl, T.nF, lnF_first, _, rfl, b, C, dy, _, _, rfl, k1, T.cl, T.nP, lnF_place, (by show 2 ≤ sizeLine; decide), fun t1 n1 => ?_⟩
      have s1 := Same.new (o := .tup [.int m.f, .int m.p]) n1
      refine ⟨_, rfl, a, C, dx, _, _, rfl, s1 _ _ h1, T.cl, T.nO, lnF_corners, _, rfl, ca, _, _, _, rfl, rfl, s1.seq hcs, atI_last _ _, ?_⟩
      refine ⟨_, _, (Pr.new (i := m.f) (j := m.p) upd_same).dp, (hcz.same s1).dp, shaped_dP _, shaped_dP _, _, rfl, ?_⟩
      rw [eqv_dP]
      rcases hc with ⟨hne, q⟩ | ⟨okm, heq, q1, q2⟩
      · have e : decide ((m.f, m.p) = endAt l.f l.p l.legs) = false := decide_eq_false hne
        rw [e]
        refine iteT ?_
        exact ⟨_, rfl, fun d nd => q.at s1 d nd⟩
      · have e : decide ((m.f, m.p) = endAt l.f l.p l.legs) = true := decide_eq_true heq
        rw [e]
        refine iteF ?_
        have hlg1 := hlg.same s1
        have klg1 := klg.same s1
        obtain ⟨lga, ls, rfl, hls, pls⟩ := id hlg1
        obtain ⟨mga, ms, rfl, hms, pms⟩ := id klg1
        have nl := Prs.length pls
        have nm := Prs.length pms
        have l3 := okl.len
        have m3 := okm.len
        refine ⟨_, rfl, a, C, dx, _, _, rfl, s1 _ _ h1, T.cl, T.nL, lnF_legs, _, rfl, b, C, dy, _, _, rfl, s1 _ _ k1, T.cl, T.nL, lnF_legs, rCatA_of hls hms (by rw [sizeLine_eq]; omega) fun p H2 e2 hp => ?_⟩
        refine ⟨_, _, rfl, ⟨p, _, rfl, .inr hp, Prs.same e2 (Prs.app pls pms)⟩, (by rw [List.length_append]; omega), fun w H3 e3 hw => ?_⟩
        have s3 := Same.trans s1 (Same.trans e2 e3)
        obtain ⟨wa, ws, rfl, hws, pws⟩ := id hw
        have nw := Prs.length pws
        refine ⟨_, rfl, wa, ws, rfl, .inr hws, _, rfl, a, C, dx, _, _, _, rfl, s3 _ _ h1, T.cl, hmost, rfl, _, _, rfl, rfl, _, rfl, ?_⟩
        by_cases h4 : 3 < (AddB l m).length
        · have e4 : decide ((ws.length : Int) > 3) = true := decide_eq_true (by rw [nw]; show (3 : Int) < ((AddB l m).length : Int); omega)
          rw [e4]
          refine iteT ?_
          exact fun d nd => (q1 h4).at s3 d nd
        · have e4 : decide ((ws.length : Int) > 3) = false := decide_eq_false (by rw [nw]; show ¬ (3 : Int) < ((AddB l m).length : Int); omega)
          rw [e4]
          refine iteF ?_
          obtain ⟨hb, q2'⟩ := q2 (by omega)
          refine ⟨_, rfl, a, C, dx, _, _, rfl, s3 _ _ h1, T.cl, T.nF, lnF_first, _, rfl, a, C, dx, _, _, rfl, s3 _ _ h1, T.cl, T.nP, lnF_place, _, rfl, ?_⟩
          refine mk_line hw.sq (by show (AddB l m).length ≤ 3; omega) (fun q hq => (hb q hq).1) (by rw [merged_idem]; exact fun q hq => (hb q hq).2.1.wide) fun v' H' e L => ?_
          rw [merged_idem] at L
          exact q2' v' H' (Same.trans s3 e) L
end
end KX
end
section
set_option Elab.async false
set_option linter.all false
set_option maxRecDepth 100000
set_option maxHeartbeats 4000000
/-! D9: Line.through. -/
namespace KX
open PySem PySem.Spec PyProof.Rows L2
section
variable {X : Cx} {k j i : Nat} {C : Addr} {x y : Str} {sp : Sp} {dvs : List V} {p pos : Pos} {e : Expr} {es : List Expr} {t : TA}
/-- x(..), x a local name that holds the class at C -/
def tMakeV (i : Nat) (C : Addr) (sp : Sp) (dvs : List V) (E : XK) (t : TA) : TE := fun σ H Q => σ[i]? = some (some (.ref C)) ∧ tMake C sp dvs E t σ H Q
theorem pe_makeV (c : C8.Mak X.prog X.w X.K X.mg X.base k y C sp dvs) (hr : Room j X.A) (hk : k + 1 ≤ j) (hN : X.N[i]? = some x) (hv : Vis X.env.scope x) (ha : PA X (e :: es) t)
    (hd : (x == ("__debug__" : Str)) = false := by decide) (hcd : (x == ("__classdict__" : Str)) = false := by decide)
    (he : starEach (e :: es) X.env = (false, eval e X.env) :: starEach es X.env := by rfl) (hpl : (backTo pos (starEach es X.env)).any (·.1) = false := by rfl) :
    PE X (.Call (.Name x p) (e :: es) [] pos) (tMakeV i C sp dvs E0 t) := by
  obtain ⟨f, fd, ps, ds, M, F, hm, b, d⟩ := c.ex
  refine ⟨fun pins s σ H Q I h => ?_⟩
  obtain ⟨hs, ht⟩ := h
  refine wpAny_Call_Name_kw (thn ((pe_var (pos := p) hN hv hd hcd).run pins s σ H (fun v H1 => v = .ref C ∧ H1 = H) I ⟨.ref C, hs, rfl, rfl⟩) fun u s1 ⟨v, H1, I1, r1, q1⟩ => ?_)
  obtain ⟨rfl, rfl⟩ := q1
  cases r1
  refine PySem.W.callWith_K (h₀ := X.base) I.ok.mod.kin M.kp (thn (ha.run pos pins s1 σ _ _ I1 ht) fun us s2 ⟨vs, H2, I2, r, q⟩ => ⟨I2.kIn, ?_⟩) he hpl
  exact run_make M F (hr.mono hk) b d pass0 I2 r q
end
theorem ixT {X : Cx} (K : PySem.W.Frag) (h : X.K = K) : IxR X (rIxT K) := by
  rw [← h]
  exact ix_tup
theorem ixL {X : Cx} (K : PySem.W.Frag) (h : X.K = K) : IxR X (rIxL K) := by
  rw [← h]
  exact ix_list
/-! ### the legs between corners -/
def legsOf : List P2 → List P2
  | [] => []
  | [_] => []
  | p :: q :: r => legB p q :: legsOf (q :: r)
theorem legsOf_len : ∀ ps : List P2, (legsOf ps).length = ps.length - 1
  | [] => rfl
  | [_] => rfl
  | p :: q :: r => by
    show (legsOf (q :: r)).length + 1 = _
    rw [legsOf_len (q :: r)]
    simp
theorem legsOf_get : ∀ {ps : List P2} {i : Nat} {p q : P2}, ps[i]? = some p → ps[i + 1]? = some q → (legsOf ps)[i]? = some (legB p q)
  | [], i, p, q, h, _ => by simp at h
  | [_], i, p, q, _, h => by simp at h
  | a :: b :: r, 0, p, q, h1, h2 => by
    simp at h1 h2
    subst h1 h2
    rfl
  | a :: b :: r, i + 1, p, q, h1, h2 => by
    show (legsOf (b :: r))[i]? = _
    exact legsOf_get (by simpa using h1) (by simpa using h2)
/-- each corner is joined to the next one -/
def Jd (ps : List P2) : Prop := ∀ i p q, ps[i]? = some p → ps[i + 1]? = some q → areJ p q = true
def ThB (ps : List P2) : List P2 := merged (legsOf ps)
theorem Pr.cov {K : PySem.W.Frag} {H : Hp} {v : V} {p : P2} (h : Pr K H v p) : CoV K H v true := by
  obtain ⟨t, rfl, h⟩ := h
  exact .two h (.int _) (.int _)
theorem CoV.same {K : PySem.W.Frag} {H H' : Hp} {v : V} {b : Bool} (e : Same H H') (h : CoV K H v b) : CoV K H' v b := by
  cases h with
  | flat h => exact .flat h
  | tup h q => exact .tup (Same.seqT e h) q
  | two h q r => exact .two (Same.seqT e h) q r
  | lst h => exact .lst (e.seq h)
  | dict h => exact .dict (e _ _ h)
/-- the first i of xs are joined corners ps, the next, x, is none or isn't joined to the last of them -/
def BadAt (K : PySem.W.Frag) (H : Hp) (xs : List V) (i : Nat) : Prop := ∃ ps x, Prs K H (xs.take i) ps ∧ ps.length = i ∧ Jd ps ∧ xs[i]? = some x ∧ (CoV K H x false ∨ ∃ m l q, ps = m ++ [l] ∧ Pr K H x q ∧ areJ l q = false)
section
variable {P : Program} {w : World} {K : PySem.W.Frag} {mg : Str → Option Value} {base : Heap}
abbrev sThru : Stmt := inClass (top 23) 2
abbrev nThru : List Str := ["cls", "corners", "position", "corner", "legs", "at"]
theorem scThru : FnScope nThru ((["cls"] : List Str) ++ [("corners" : Str)]) (defScope sThru) := ⟨rfl, rfl, rfl, by decide +kernel, rfl, by decide +kernel, by decide +kernel⟩
def spThru (K : PySem.W.Frag) (C CLg : Addr) : Sp := fun vs H Q E => ∃ p xs, vs = [.ref C, .ref p] ∧ SqT K H p xs ∧ xs.length ≤ 1000 ∧
  ((xs = [] ∧ Rz H E CLg "position" .non) ∨ (∃ i, BadAt K H xs i ∧ Rz H E CLg "position" (.int (i : Nat))) ∨
   (∃ c ps, Prs K H xs (c :: ps) ∧ Jd (c :: ps) ∧ (∀ q ∈ c :: ps, q.1.natAbs < 100000) ∧ (3 < (ThB (c :: ps)).length → Rz H E CLg "position" .non) ∧
     ((ThB (c :: ps)).length ≤ 3 → (∀ q ∈ ThB (c :: ps), 1 ≤ q.1 ∧ SmP q) ∧ ∀ v' H', Same H H' → Ln K C H' v' ⟨c.1, c.2, ThB (c :: ps)⟩ → Q v' H')))
theorem body_thru {C CLg fLg : Addr} (B : Bi mg) (T : LnC K C) {mc : Value} (CR : ClX.CRead K C mc) (CV : ∃ u, ClX.CVal K C mc "MOST_LEGS" (.int 3) u) (TG : SupX.SupTxt P K mg "InvalidLegs" "position" CLg fLg)
    (GI : Cal P w K mg base 2 "is_corner" (spIsCorner K) []) (GA : Cal P w K mg base 1 "are_joined" (spAreJ K) []) (GL : Cal P w K mg base 1 "leg_between" (spLegB K) []) (GJ : Cal P w K mg base 1 "joined_legs" (spJoined K) []) (M : Mak P w K mg base 5 "Line" C (spInit K C) [])
    {qual : Str} {f : Addr} {cdv : Value} {A : Around} {outer : List Env} {s : Shared} {H : Hp} {vs : List V} {Q : VK} {E : XK} (hr : Room 6 (A.deeper (envOfC qual (defScope sThru) s.heap.objs.size f cdv))) (h : spThru K C CLg vs H Q E) :
    ∃ t, PSs (cxOf (L2.CX P w) P w K mg base nThru qual (defScope sThru) f cdv A outer s H E) (defBody sThru) t ∧ t { nx := fun _ H' => Q .non H', rt := Q } (L2.start nThru vs) H := by
  obtain ⟨p, xs, rfl, hp, hlen, hcase⟩ := h
  obtain ⟨um, hmost⟩ := CV
  refine ⟨_, pss_cons (ps_if (pt_cmpR op_eq (pe_callB call_len_seq (by rfl) B.len PySem.boot_len (pa_cons (pv 1) pa_nil)) pe_int (nomark _)) (pss_one (ps_raiseS rfl TG hr (takes_of rfl rfl rfl rfl) pe_non rfl)) pss_nil)
    (pss_cons (ps_for (passes_of rfl) rfl (pi_enumS (by rfl) B.enum (pa_cons (pv 1) pa_nil)) (pg_tup rfl (pgs_cons (pg_name (i := 2) scThru.nd rfl (Or.inl rfl)) (pgs_cons (pg_name (i := 3) scThru.nd rfl (Or.inl rfl)) pgs_nil)))
      (pss_one (ps_if (PW.pt (pw_or (pt_not (pt_val (C8.pe_c GI hr (by decide) rfl (pa_cons (pv 3) pa_nil))))
          (pw_or1 (PW.pt (pw_and (pt_cmpR op_gt (pv 2) pe_int (nomark _)) (pw_and1 (pt_not (pt_val (C8.pe_c GA hr (by decide) rfl (pa_cons (pe_ix ix_tup (pv 1) (pe_op op_sub (pv 2) pe_int) (fun _ _ => rfl)) (pa_cons (pv 3) pa_nil)))))))))))
        (pss_one (ps_raiseS rfl TG hr (takes_of rfl rfl rfl rfl) (pv 2) rfl)) pss_nil)))
    (pss_cons (ps_set (i := 4) scThru.nd rfl (Or.inl rfl) (C8.pe_c GJ hr (by decide) rfl (pa_cons
      (pe_lc (g := gName 5) (own := [("at", 5)]) rfl scThru.nd (pi_range1 rfl B.range (pa_cons (pe_op op_sub (pe_callB call_len_seq (by rfl) B.len PySem.boot_len (pa_cons (pv 1) pa_nil)) pe_int) pa_nil)) (blkOk_by (N := nThru) (sc := defScope sThru) (by decide +kernel))
        (fun _ _ _ _ _ => pg_name (i := 5) scThru.nd rfl (Or.inl rfl) (.inr rfl)) (fun _ _ _ _ _ => pts_nil) (fun _ _ _ _ _ => C8.pe_c GL hr (by decide) rfl (pa_cons (pe_ix (ixT K rfl) (pv 1) (pv 5) (fun _ _ => rfl)) (pa_cons (pe_ix (ixT K rfl) (pv 1) (pe_op op_add (pv 5) pe_int) (fun _ _ => rfl)) pa_nil)))) pa_nil)))
    (pss_cons (ps_if (pt_cmpR op_gt (pe_callB call_len_seq (by rfl) B.len PySem.boot_len (pa_cons (pv 4) pa_nil)) (ClX.pe_cval (pv 0)) (nomark _)) (pss_one (ps_raiseS rfl TG hr (takes_of rfl rfl rfl rfl) pe_non rfl)) pss_nil)
    (pss_one (ps_ret (pe_makeV (i := 0) M hr (by decide) rfl (.inl rfl) (pa_cons (pe_ix ix_tup (pe_ix ix_tup (pv 1) pe_int (fun _ _ => rfl)) pe_int (fun _ _ => rfl)) (pa_cons (pe_ix ix_tup (pe_ix ix_tup (pv 1) pe_int (fun _ _ => rfl)) pe_int (fun _ _ => rfl)) (pa_cons (pv 4) pa_nil))))))))), ?_⟩
  by_cases hx0 : xs = []
  · have e0 : decide (V.int (xs.length : Nat) = V.int 0) = true := by rw [hx0]; rfl
    have q : Rz H E CLg "position" .non := by
      rcases hcase with ⟨_, q⟩ | ⟨i, ⟨ps, x, _, _, _, h4, _⟩, _⟩ | ⟨c, ps, h1, _⟩
      · exact q
      · rw [hx0] at h4
        simp at h4
      · rw [hx0] at h1
        cases h1
    refine ⟨_, rfl, p, xs, rfl, .inr hp, rfl, _, rfl, ?_⟩
    rw [e0]
    refine iteT ?_
    exact fun d nd => q.at (Same.refl H) d nd
  · have hx1 : 0 < xs.length := List.length_pos_iff.mpr hx0
    have e0 : decide (V.int (xs.length : Nat) = V.int 0) = false := decide_eq_false (by intro z; injection z with z; omega)
    refine ⟨_, rfl, p, xs, rfl, .inr hp, rfl, _, rfl, ?_⟩
    rw [e0]
    refine iteF ?_
    obtain ⟨i, ps, hi, hps, hj, hcase⟩ : ∃ (i : Nat) (ps : List P2), i ≤ xs.length ∧ Prs K H (xs.take i) ps ∧ Jd ps ∧
        ((∃ x, xs[i]? = some x ∧ (CoV K H x false ∨ ∃ m l q, ps = m ++ [l] ∧ Pr K H x q ∧ areJ l q = false) ∧ Rz H E CLg "position" (.int (i : Nat))) ∨
         (i = xs.length ∧ ∃ c cs, ps = c :: cs ∧ (∀ q ∈ c :: cs, q.1.natAbs < 100000) ∧ (3 < (ThB (c :: cs)).length → Rz H E CLg "position" .non) ∧
           ((ThB (c :: cs)).length ≤ 3 → (∀ q ∈ ThB (c :: cs), 1 ≤ q.1 ∧ SmP q) ∧ ∀ v' H', Same H H' → Ln K C H' v' ⟨c.1, c.2, ThB (c :: cs)⟩ → Q v' H'))) := by
      rcases hcase with ⟨h, _⟩ | ⟨i, ⟨ps, x, h1, h2, h3, h4, h5⟩, q⟩ | ⟨c, ps, h1, h2, h3, h4, h5⟩
      · exact absurd h hx0
      · have hi : i < xs.length := (List.getElem?_eq_some_iff.mp h4).1
        exact ⟨i, ps, by omega, h1, h3, .inl ⟨x, h4, h5, q⟩⟩
      · exact ⟨xs.length, _, Nat.le_refl _, by rw [List.take_length]; exact h1, h2, .inr ⟨rfl, c, ps, rfl, h3, h4, h5⟩⟩
    have hpl : ps.length = i := by
      have := Prs.length hps
      rw [List.length_take] at this
      omega
    have at1 : ∀ {j : Nat} {x : V}, j < i → xs[j]? = some x → ∃ q, ps[j]? = some q ∧ Pr K H x q := fun {j x} hj hx => Prs.of hps (by rw [List.getElem?_take_of_lt hj]; exact hx)
    refine ⟨_, rfl, p, xs, H, rfl, .inr hp, Same.refl H, fun J G W hG => ?_⟩
    refine for_it W (fun j σ H' => ∃ u1 u2, σ = [some (.ref C), some (.ref p), u1, u2, none, none] ∧ Same H H' ∧ j ≤ i) ⟨none, none, rfl, Same.refl H, Nat.zero_le _⟩ (fun j σ H' _ ⟨_, _, _, z, _⟩ => hG H' z) ?_ ?_
    · rintro j v σ H1 H2 hjn ⟨u1, u2, rfl, s1, hji⟩ ⟨T1, y, x, rfl, nT, rfl, e1, e2⟩
      cases e1
      have s2 := Same.then s1 nT (o := .tup [.int (j : Nat), x])
      have hp2 := Same.seqT s2 hp
      have e2' : xs[j]? = some x := e2
      refine ⟨T1, [.int (j : Nat), x], rfl, SqT.of upd_same, rfl, _, _, rfl, _, _, rfl, rfl, ?_⟩
      -- the one before
      have prev : 0 < j → ∃ z l, xs[j - 1]? = some z ∧ ps[j - 1]? = some l ∧ Pr K H z l := fun h0 => by
        have hz : xs[j - 1]? = some (xs[j - 1]'(by omega)) := List.getElem?_eq_getElem (by omega)
        obtain ⟨l, h1, h2⟩ := at1 (j := j - 1) (by omega) hz
        exact ⟨_, l, hz, h1, h2⟩
      have cast1 : 0 < j → ((j : Nat) : Int) - 1 = ((j - 1 : Nat) : Int) := fun h => by omega
      by_cases hlt : j < i
      · obtain ⟨q, hq1, hq2⟩ := at1 hlt e2'
        refine ⟨_, rfl, x, true, rfl, hq2.cov.same s2, true, rfl, ?_⟩
        refine ⟨_, rfl, _, _, rfl, rfl, _, rfl, ?_⟩
        by_cases h0 : 0 < j
        · have e : decide (((j : Nat) : Int) > 0) = true := decide_eq_true (by omega)
          rw [e]
          refine iteT ?_
          obtain ⟨z, l, hz, hl, hzl⟩ := prev h0
          refine ⟨_, rfl, _, rfl, _, _, rfl, rfl, p, xs, _, _, rfl, rfl, hp2, (by show atI xs (((j : Nat) : Int) - 1) = some z; rw [cast1 h0]; exact atI_nat hz), _, rfl, ?_⟩
          refine ⟨z, x, l, q, rfl, hzl.same s2, hq2.same s2, ?_⟩
          have ej : areJ l q = true := hj (j - 1) l q hl (by rw [show j - 1 + 1 = j by omega]; exact hq1)
          rw [ej]
          exact ⟨true, rfl, _, _, rfl, s2, by omega⟩
        · have e : decide (((j : Nat) : Int) > 0) = false := decide_eq_false (by omega)
          rw [e]
          refine iteF ?_
          exact ⟨_, _, rfl, s2, by omega⟩
      · have hji2 : j = i := by omega
        subst hji2
        rcases hcase with ⟨x', hx', hb, q⟩ | ⟨hl, _⟩
        · rw [e2'] at hx'
          cases hx'
          rcases hb with hb | ⟨m, l, q', rfl, hq2, ej⟩
          · refine ⟨_, rfl, x, false, rfl, hb.same s2, false, rfl, ?_⟩
            exact ⟨_, rfl, fun d nd => q.at s2 d nd⟩
          · have h0 : 0 < j := by rw [← hpl]; simp
            refine ⟨_, rfl, x, true, rfl, hq2.cov.same s2, true, rfl, ?_⟩
            refine ⟨_, rfl, _, _, rfl, rfl, _, rfl, ?_⟩
            have e : decide (((j : Nat) : Int) > 0) = true := decide_eq_true (by omega)
            rw [e]
            refine iteT ?_
            obtain ⟨z, l', hz, hl, hzl⟩ := prev h0
            have el : l' = l := by
              rw [← hpl] at hl
              simp at hl
              exact hl.symm
            subst el
            refine ⟨_, rfl, _, rfl, _, _, rfl, rfl, p, xs, _, _, rfl, rfl, hp2, (by show atI xs (((j : Nat) : Int) - 1) = some z; rw [cast1 h0]; exact atI_nat hz), _, rfl, ?_⟩
            refine ⟨z, x, l', q', rfl, hzl.same s2, hq2.same s2, ?_⟩
            rw [ej]
            exact ⟨false, rfl, _, rfl, fun d nd => q.at s2 d nd⟩
        · omega
    · rintro σ H' ⟨u1, u2, rfl, s1, hji⟩
      rcases hcase with ⟨x', hx', _⟩ | ⟨rfl, c, cs, rfl, hb, q1, q2⟩
      · have := (List.getElem?_eq_some_iff.mp hx').1
        omega
      · rw [List.take_length] at hps
        have hn : xs.length = cs.length + 1 := by rw [← hpl]; rfl
        have hp1 := Same.seqT s1 hp
        refine ⟨_, rfl, p, xs, rfl, .inr hp1, _, _, rfl, rfl, (xs.length : Int) - 1, rfl, (by omega), (by omega), fun D nD => ?_⟩
        have en : ((xs.length : Int) - 1).toNat = cs.length := by omega
        have sD : Same H (upd H' D (.lst [])) := Same.then s1 nD
        have nDH : H D = none := s1.free nD
        refine lc_range (lo := 0) (n := ((xs.length : Int) - 1).toNat) (fun j H2 => Same H H2 ∧ ∃ zs, H2 D = some (.lst zs) ∧ Prs K H2 zs ((legsOf (c :: cs)).take j)) ⟨sD, [], upd_same, .nil⟩ ?_ ?_
        · rintro j H2 hjn ⟨s2, zs, hD, pz⟩
          rw [en] at hjn
          have g1 : (c :: cs)[j]? = some ((c :: cs)[j]'(by simp; omega)) := List.getElem?_eq_getElem (by simp; omega)
          have g2 : (c :: cs)[j + 1]? = some ((c :: cs)[j + 1]'(by simp; omega)) := List.getElem?_eq_getElem (by simp; omega)
          obtain ⟨v1, hv1, r1⟩ := Prs.get hps g1
          obtain ⟨v2, hv2, r2⟩ := Prs.get hps g2
          generalize (c :: cs)[j]'_ = l1 at *
          generalize (c :: cs)[j + 1]'_ = l2 at *
          have ej := hj j l1 l2 g1 g2
          have ej1 : 1 ≤ l2.1 - l1.1 := by
            unfold areJ at ej
            have := (Bool.and_eq_true_iff.mp ej).1
            have := of_decide_eq_true this
            omega
          have b1 := hb l1 (List.mem_of_getElem? g1)
          have b2 := hb l2 (List.mem_of_getElem? g2)
          have hp2 := Same.seqT s2 hp
          have c0 : (0 : Int) + (j : Nat) = ((j : Nat) : Int) := by omega
          have c1 : (0 : Int) + (j : Nat) + 1 = ((j + 1 : Nat) : Int) := by omega
          refine ⟨rfl, ?_⟩
          refine ⟨_, rfl, _, rfl, p, xs, _, _, rfl, rfl, hp2, (by rw [c0]; exact atI_nat hv1), _, rfl, _, rfl, _, _, rfl, rfl, p, xs, _, _, rfl, rfl, hp2, (by show atI xs ((0 : Int) + (j : Nat) + 1) = some v2; rw [c1]; exact atI_nat hv2), ?_⟩
          refine ⟨v1, v2, l1, l2, rfl, r1.same s2, r2.same s2, ej1, (by omega), fun v3 H3 e3 hv3 => ?_⟩
          have hzl := Prs.length pz
          rw [List.length_take] at hzl
          refine ⟨zs, e3 _ _ hD, (by rw [sizeLine_eq]; omega), Same.wr (Same.trans s2 e3) nDH, _, upd_same, ?_⟩
          have et : (legsOf (c :: cs)).take (j + 1) = (legsOf (c :: cs)).take j ++ [legB l1 l2] := by rw [List.take_add_one, legsOf_get g1 g2]; rfl
          rw [et]
          exact Prs.snoc ((Prs.same e3 pz).lst (e3 _ _ hD)) (hv3.lst (e3 _ _ hD))
        · rintro H2 ⟨s2, zs, hD, pz⟩
          rw [en, List.take_of_length_le (by rw [legsOf_len]; simp)] at pz
          refine ⟨_, legsOf (c :: cs), rfl, ⟨D, zs, rfl, .inl (SqL.of hD), pz⟩, (by rw [legsOf_len]; simp; omega), fun w H3 e3 hw => ?_⟩
          have s3 := Same.trans s2 e3
          have hp3 := Same.seqT s3 hp
          obtain ⟨wa, ws, rfl, hws, pws⟩ := id hw
          have nw := Prs.length pws
          refine ⟨_, rfl, wa, ws, rfl, .inr hws, _, rfl, C, mc, _, _, rfl, CR, hmost, _, _, rfl, rfl, _, rfl, ?_⟩
          by_cases h4 : 3 < (ThB (c :: cs)).length
          · have e4 : decide ((ws.length : Int) > 3) = true := decide_eq_true (by rw [nw]; show (3 : Int) < ((ThB (c :: cs)).length : Int); omega)
            rw [e4]
            refine iteT ?_
            exact fun d nd => (q1 h4).at s3 d nd
          · have e4 : decide ((ws.length : Int) > 3) = false := decide_eq_false (by rw [nw]; show ¬ (3 : Int) < ((ThB (c :: cs)).length : Int); omega)
            rw [e4]
            refine iteF ?_
            obtain ⟨hbb, q2'⟩ := q2 (by omega)
            obtain ⟨v0, hv0, ⟨T0, rfl, hT0⟩⟩ := Prs.get hps (i := 0) (p := c) rfl
            have hT3 := Same.seqT s3 hT0
            refine ⟨rfl, _, rfl, p, xs, _, _, rfl, rfl, hp3, atI_nat (j := 0) hv0, T0, _, _, _, rfl, rfl, hT3, atI_nat (j := 0) rfl, _, rfl, p, xs, _, _, rfl, rfl, hp3, atI_nat (j := 0) hv0, T0, _, _, _, rfl, rfl, hT3, atI_nat (j := 1) rfl, _, rfl, ?_⟩
            refine mk_line hw.sq (by show (ThB (c :: cs)).length ≤ 3; omega) (fun q hq => (hbb q hq).1) (by rw [merged_idem]; exact fun q hq => (hbb q hq).2.1.wide) fun v' H4 e L => ?_
            rw [merged_idem] at L
            exact q2' v' H4 (Same.trans s3 e) L
theorem ok_thru {C CLg fLg f : Addr} {fd : FuncData} (F : Fun K "through" "Line.through" sThru f fd) (B : Bi mg) (T : LnC K C) {mc : Value} (CR : ClX.CRead K C mc) (CV : ∃ u, ClX.CVal K C mc "MOST_LEGS" (.int 3) u) (TG : SupX.SupTxt P K mg "InvalidLegs" "position" CLg fLg)
    (GI : Cal P w K mg base 2 "is_corner" (spIsCorner K) []) (GA : Cal P w K mg base 1 "are_joined" (spAreJ K) []) (GL : Cal P w K mg base 1 "leg_between" (spLegB K) []) (GJ : Cal P w K mg base 1 "joined_legs" (spJoined K) []) (M : Mak P w K mg base 5 "Line" C (spInit K C) []) :
    FnR P w K mg base (L2.CX P w) 7 f (fun vs H Q E => ∃ ws rest, vs = ws ++ rest ∧ ws.length = 1 ∧ rest.length ≤ sizeLine ∧ ∀ p, H p = Option.none → spThru K C CLg (ws ++ [V.ref p]) (upd H p (.tup rest)) Q E) := by
  obtain ⟨oc, od, kV, doc, pm, an, cdv, ct, osl, rfl, lk, hcd⟩ := F.ex
  refine StX.fn_star (ps := ["cls"]) (pv := "corners") lk hcd scThru StX.cxUp (fun us rest hl => ?_) (fun A outer s H vs Q E hr h => body_thru B T CR CV TG GI GA GL GJ M hr h)
  match us, rest, hl with
  | [u], [], _ => rfl
  | [u], r :: rs, _ => rfl
end
end KX
end
section
set_option Elab.async false
set_option linter.all false
set_option maxRecDepth 100000
set_option maxHeartbeats 4000000
/-! D10: Line.stay; static methods. -/
namespace KX
open PySem PySem.Spec PyProof.Rows L2
/-- C.m is a staticmethod: its record at p, its def at f -/
structure SMet (K : PySem.W.Frag) (C : Addr) (mc : Value) (m : Str) (f : Addr) : Prop where
  at_ : ∃ p rest, PySem.W.findCls K (.ref C) mc m = some (.get (.builtin "staticmethod.__get__") (.ref p) .none (.ref C)) ∧ PySem.W.recIn K p "staticmethod" = some (.ref f :: rest)
  kp : PySem.W.keepIn K (.ref f) = true
section
variable {X : Cx} {pins : List (Addr × Obj)} {σ : L2.St} {H : Hp} {s : Shared} {C f : Addr} {mc : Value} {m : Str} {A : Around} {E : Value → Shared → Prop}
theorem getsm_ok {pl : Sem Bool} {Q : Value × List Value → Shared → Prop} (I : Inv X pins σ H s) (r : ClX.CRead X.K C mc) (k : SMet X.K C mc m f)
    (h : ∀ s', Inv X pins σ H s' → Q (.ref f, []) s') : wpAny (model X.prog X.w) A (getMethod (.ref C) m pl) Q E s := by
  obtain ⟨p, rest, h1, h2⟩ := k.at_
  refine PySem.W.method_cls I.kIn r.ga (PySem.W.cls_bind I.kIn r.rd h1 ?_)
  exact wpAny_call (PySem.W.sm_get (s := { s with toks := s.toks + 1 }) I.kIn h2 (PySem.W.handed_on rfl (h _ (I.tok _))))
end
/-- e.m(..), e the class at C, m a staticmethod -/
def tSMeth (C : Addr) (sp : Sp) (dvs : List V) (E : XK) (ta : TE) (t : TA) : TE := fun σ H Q => ta σ H fun x H1 => x = .ref C ∧ t σ H1 fun vs H2 => sp (vs ++ dvs) H2 Q E
def tSMethN (C : Addr) (n m : Nat) (sp : Sp) (gV : List V → List V → List V) (E : XK) (ta : TE) (t tk : TA) : TE := fun σ H Q => ta σ H fun x H1 => x = .ref C ∧ t σ H1 fun vs H2 => tk σ H2 fun zs H3 => vs.length = n ∧ zs.length = m ∧ sp (gV vs zs) H3 Q E
section
variable {X : Cx} {CX : CXT} {k n : Nat} {C f : Addr} {mc : Value} {fd : FuncData} {ps ks : List Str} {ds : List Value} {dvs : List V} {sp : Sp} {E : XK} {o e : Expr} {es : List Expr} {kws : List Keyword} {m : Str} {pos apos : Pos} {ta : TE} {t tk : TA} {pl : Sem Bool} {g : List Value → List Value → List Value} {gV : List V → List V → List V}
theorem pe_smeth (he : PE X o ta) (r : ClX.CRead X.K C mc) (c : SMet X.K C mc m f) (F : FnOk X.prog X.w X.K X.mg X.base CX k f fd ps sp) (hr : Room k X.A) (hb : L2.Binds X.K fd ps ds) (hd : Vals dvs ds) (hx : Passes CX X E) (ha : PA X (e :: es) t)
    (hst : starEach (e :: es) X.env = (false, eval e X.env) :: starEach es X.env := by rfl) (hpl : (backTo pos (starEach es X.env)).any (·.1) = false := by rfl)
    (ht : eval (.Call (.Attribute o m apos) (e :: es) [] pos) X.env = (do
      let ov ← eval o X.env
      standAt apos.atName
      let (f, first) ← holding [ov] (getMethod ov m pl)
      callWith pos f first (backTo pos (starEach (e :: es) X.env)) (backToKw pos (keywordEach [] X.env))) := by rfl) :
    PE X (.Call (.Attribute o m apos) (e :: es) [] pos) (tSMeth C sp dvs E ta t) := by
  refine ⟨fun pins s σ H Q I h => ?_⟩
  refine PySem.W.methodCall_KW (pl := pl) (thn (he.run pins s σ H _ I h) fun u s1 ⟨x, H1, I1, rx, ex, q⟩ => ?_) ht
  subst ex
  obtain rfl : u = Value.ref C := rx
  refine getsm_ok I1 r c fun s2 I2 => ?_
  refine PySem.W.callWith_K (first := []) (h₀ := X.base) I.ok.mod.kin c.kp (thn (ha.run pos pins s2 σ H1 _ I2 q) fun us s3 ⟨vs, H2, I3, rv, q2⟩ => ⟨I3.kIn, ?_⟩) hst hpl
  exact run_fn (us := us) (vs := vs) F hr hb hd hx I3 rv q2
theorem pe_smethN (he : PE X o ta) (r : ClX.CRead X.K C mc) (c : SMet X.K C mc m f) (F : FnOk X.prog X.w X.K X.mg X.base CX k f fd ps sp) (hr : Room k X.A) (hb : KBn X.K fd ps n ks g gV) (hx : Passes CX X E) (ha : PA X (e :: es) t) (hkw : PK X kws tk)
    (hall : (backToKw pos (keywordEach kws X.env)).all (·.1.isSome) = true := by rfl) (hks : (backToKw pos (keywordEach kws X.env)).filterMap (·.1) = ks := by rfl)
    (hst : starEach (e :: es) X.env = (false, eval e X.env) :: starEach es X.env := by rfl)
    (hpl : ((backTo pos (starEach (e :: es) X.env)).any (·.1) || (backToKw pos (keywordEach kws X.env)).any (·.1.isNone)) = false := by rfl)
    (ht : eval (.Call (.Attribute o m apos) (e :: es) kws pos) X.env = (do
      let ov ← eval o X.env
      standAt apos.atName
      let (f, first) ← holding [ov] (getMethod ov m pl)
      callWith pos f first (backTo pos (starEach (e :: es) X.env)) (backToKw pos (keywordEach kws X.env))) := by rfl) :
    PE X (.Call (.Attribute o m apos) (e :: es) kws pos) (tSMethN C n ks.length sp gV E ta t tk) := by
  refine ⟨fun pins s σ H Q I h => ?_⟩
  refine PySem.W.methodCall_KW (pl := pl) (thn (he.run pins s σ H _ I h) fun u s1 ⟨x, H1, I1, rx, ex, q⟩ => ?_) ht
  subst ex
  obtain rfl : u = Value.ref C := rx
  refine getsm_ok I1 r c fun s2 I2 => ?_
  refine PySem.W.callWith_KW (first := []) (h₀ := X.base) I.ok.mod.kin c.kp hall (thn (ha.run pos pins s2 σ H1 _ I2 q) fun us s3 ⟨vs, H2, I3, rv, q2⟩ => ?_) hpl hst
  refine thn (hkw.run pos pins s3 σ H2 _ I3 q2) fun ws s4 ⟨zs, H3, I4, rz, l1, l2, q3⟩ => ⟨I4.kIn, ?_⟩
  rw [hks]
  exact run_fnN F hr hb hx I4 rv rz l1 l2 q3
/-- C.m(), m a classmethod -/
theorem pe_cmeth0 {p g : Addr} (he : PE X o ta) (r : ClX.CRead X.K C mc) (c : ClX.CMet X.K C mc m p g) (F : FnR X.prog X.w X.K X.mg X.base CX k g sp) (hr : Room k X.A) (hx : Passes CX X E)
    (ht : eval (.Call (.Attribute o m apos) [] [] pos) X.env = (do
      let ov ← eval o X.env
      standAt apos.atName
      let (f, first) ← holding [ov] (getMethod ov m pl)
      callWith pos f first (backTo pos (starEach [] X.env)) (backToKw pos (keywordEach [] X.env))) := by rfl) :
    PE X (.Call (.Attribute o m apos) [] [] pos) (ClX.tCMeth C sp E ta tNil) := by
  refine ⟨fun pins s σ H Q I h => ?_⟩
  refine PySem.W.methodCall_KW (pl := pl) (thn (he.run pins s σ H _ I h) fun u s1 ⟨x, H1, I1, rx, ex, q⟩ => ?_) ht
  subst ex
  obtain rfl : u = Value.ref C := rx
  refine ClX.getmethcm_ok I1 r c fun s2 I2 => ?_
  exact PySem.W.callWith_M0 (first := []) ⟨ClX.pin_at I2, I2.kIn⟩ c.fi (ClX.run_cm (us := []) (vs := []) F hr hx I2 .nil q)
end
section
variable {P : Program} {w : World} {K : PySem.W.Frag} {mg : Str → Option Value} {base : Heap}
abbrev sStay : Stmt := inClass (top 23) 3
abbrev pStay : List Str := ["tick", "place", "ticks"]
theorem scStay : FnScope pStay pStay (defScope sStay) := ⟨rfl, rfl, rfl, by decide +kernel, rfl, by decide +kernel, by decide +kernel⟩
def stayLegs (n : Int) : List P2 := if n > 0 then [(n, 0)] else []
def spStay (K : PySem.W.Frag) (C : Addr) : Sp := fun vs H Q _ => ∃ t p n, vs = [.int t, .int p, .int n] ∧ 0 ≤ n ∧ n < 1000 ∧ ∀ v' H', Same H H' → Ln K C H' v' ⟨t, p, stayLegs n⟩ → Q v' H'
theorem ok_stay {C f : Addr} {fd : FuncData} (F : FunD K "stay" "Line.stay" (defArgs sStay) (defBody sStay) (defScope sStay) [] [("ticks", .int 0)] f fd) (B : Bi mg) (GW : Cal P w K mg base 2 "want_integer" spWant []) (GC : Cal P w K mg base 4 "want_count" spCount []) (M : Mak P w K mg base 5 "Line" C (spInit K C) []) :
    FnOk P w K mg base CX0 7 f fd pStay (spStay K C) := by
  refine F.ok scStay (fun vs H Q E h => ?_) (fun cdv A outer s H vs Q E hr h => ?_)
  · obtain ⟨t, p, n, rfl, _⟩ := h
    rfl
  · obtain ⟨t, p, n, rfl, h0, h1, q⟩ := h
    refine ⟨_, pss_cons (ps_expr (C8.pe_c GW hr (by decide) rfl (pa_cons (pv 0) pa_nil))) (pss_cons (ps_expr (C8.pe_c GW hr (by decide) rfl (pa_cons (pv 1) pa_nil))) (pss_cons (ps_expr (C8.pe_c GC hr (by decide) rfl (pa_cons (pv 2) pa_nil)))
      (pss_one (ps_ret (C8.pe_mk M hr (by decide) rfl (pa_cons (pv 0) (pa_cons (pv 1) (pa_cons (pe_ifExp (pt_cmpR op_gt (pv 2) pe_int (nomark _)) (pe_lst (pa_cons (pe_tup (pa_cons (pv 2) (pa_cons pe_int pa_nil))) pa_nil)) (pe_lst pa_nil)) pa_nil)))))))), ?_⟩
    refine ⟨_, rfl, t, rfl, _, rfl, p, rfl, _, rfl, n, rfl, h0, ?_⟩
    refine ⟨_, rfl, _, rfl, _, rfl, _, _, rfl, rfl, _, rfl, ?_⟩
    unfold stayLegs at q
    by_cases hn : n > 0
    · rw [if_pos hn] at q
      have e : decide (n > 0) = true := decide_eq_true hn
      rw [e]
      refine iteT ?_
      refine ⟨_, rfl, (by show 2 ≤ sizeLine; decide), fun t1 n1 => ⟨(by show 1 ≤ sizeLine; decide), fun l nl => ?_⟩⟩
      have s1 := Same.new (o := .tup [.int n, .int 0]) n1
      have s2 := Same.then s1 nl (o := .lst [.ref t1])
      refine mk_line (ps := [(n, 0)]) ⟨l, [.ref t1], rfl, .inl (SqL.of upd_same), .cons ((Pr.new upd_same).same (Same.new nl)) .nil⟩ (by simp) (fun q hq => by rw [List.mem_singleton.mp hq]; show 1 ≤ n; omega) (fun q hq => ?_) fun v' H' e L => ?_
      · have hq' : q ∈ [(n, (0 : Int))] := hq
        rw [List.mem_singleton.mp hq']
        show -(2 ^ 64) < n ∧ n < 2 ^ 64
        omega
      · exact q v' H' (Same.trans s2 e) L
    · rw [if_neg hn] at q
      have e : decide (n > 0) = false := decide_eq_false hn
      rw [e]
      refine iteF ?_
      refine ⟨Nat.zero_le _, fun l nl => ?_⟩
      refine mk_line (ps := []) ⟨l, [], rfl, .inl (SqL.of upd_same), .nil⟩ (by decide) (fun q hq => by cases hq) (fun q hq => by cases hq) fun v' H' e L => ?_
      exact q v' H' (Same.trans (Same.new nl) e) L
theorem stay_binds {f : Addr} {fd : FuncData} (F : FunD K "stay" "Line.stay" (defArgs sStay) (defBody sStay) (defScope sStay) [] [("ticks", .int 0)] f fd) : ∃ ds, Vals [.int 0] ds ∧ L2.Binds K fd pStay ds := by
  refine F.binds0 2 (by simp) rfl fun D doc pm an cdv ct us ks h1 h2 => ?_
  match us, ks, h1, h2 with
  | [a, b], [c], _, _ => exact ⟨_, _, _, _, _, _, rfl, rfl, rfl⟩
theorem stay_kbinds {f : Addr} {fd : FuncData} (F : FunD K "stay" "Line.stay" (defArgs sStay) (defBody sStay) (defScope sStay) [] [("ticks", .int 0)] f fd) : KBn K fd pStay 2 ["ticks"] (fun us ws => us ++ ws) (fun vs zs => vs ++ zs) := by
  obtain ⟨oc, od, dV, kV, doc, pm, an, cdv, ct, osl, rfl, lk, hcd, hD, hK⟩ := F.ex
  refine ⟨fun s us ws X h1 h2 => ?_, fun r1 r2 => r1.append r2⟩
  rcases hD with ⟨_, rfl⟩ | ⟨e, _⟩
  · match us, ws, h1, h2 with
    | [a, b], [c], _, _ => exact .of_eq rfl
  · exact absurd rfl e
end
end KX
end
section
set_option Elab.async false
set_option linter.all false
set_option maxRecDepth 100000
set_option maxHeartbeats 4000000
/-! KR8: operators of lines. -/
namespace KX
open PySem PySem.Spec PyProof.Rows L2
section
open PySem.W
variable {prog : Program} {w : World} {A : Around} {E : Value → Shared → Prop} {s : Shared} {K : Frag} {x C f : Addr} {ox : Obj} {od : Option Obj} {b : Value}
theorem ifBound_B {M : Model} {name : Str} {id T : String} {args : List Value} {Q : Option Value → Shared → Prop} (X : K.In s.heap) (I : InstAt s.heap x ox C od) (hs : findIn K (.ref C) name = some (some (.builtin id))) (S : Slot T name id)
    (h : wpAny M A (call (.builtin id) (.ref x :: args)) (fun v => Q (some v)) E s) : wpAny M A (callSpecialIfBound? (.ref x) name args) Q E s := by
  simp only [callSpecialIfBound?, bindSpecialIfBound?]
  refine wpAny_holding (wpAny_bind (wpAny_bind (wpAny_bind (I.type.here ((looks_findIn X hs).here ?_)))))
  simp only [S.bind]
  refine wpAny_bind (wpAny_askSetting (wpAny_ite ?_))
  have fin : wpAny M A (call (.builtin id) ([.ref x] ++ args) >>= fun v => pure (some v)) Q E s := wpAny_bind (wpAny_mono h (fun v s' h' => wpAny_pure h') fun _ _ h' => h')
  split
  · exact wpAny_bind (wpAny_pure (wpAny_pure fin))
  · exact wpAny_tryCatch (wpAny_bind (wpAny_pure (wpAny_pure fin)))
theorem ne_K {Q : Value → Shared → Prop} (hu : A.units + 1 < cLine) (X : K.In s.heap) (I : InstAt s.heap x ox C od) (hb : Looks (model prog w) s.heap (typeOf b) (.ref C)) (hne : findIn K (.ref C) "__ne__" = some (some (.builtin "object.__ne__")))
    (he : findIn K (.ref C) "__eq__" = some (some (.ref f))) (hf : isFn K (.ref f) = true) (hob : subIn K (.ref C) (.type "object") = some true)
    (hcall : wpAny (model prog w) A.in1 (call (.ref f) [.ref x, b]) (fun v s' => ∃ c, v = .bool c ∧ Q (.bool (!c)) s') E s) : wpAny (model prog w) A (richCompare .NotEq (.ref x) b) Q E s := by
  have S := F.cmp_object.ne
  -- object.__ne__
  have tree : ∀ {Q' : Fin → Shared → Prop}, wpAny (model prog w) A.in1 (call (.ref f) [.ref x, b]) (fun v s' => ∃ c, v = .bool c ∧ Q' (.done (.ret (.bool (!c)))) s') E s →
      wpAny (model prog w) A.in1 (Builtin.«object.__ne__» ⟨[.ref x, b], []⟩) Q' E s := fun {Q'} h => by
    unfold Builtin.«object.__ne__»
    repeat (first
      | with_reducible refine wpAny_cRoomFor hu ?_
      | (refine wpAny_bind (m := callSpecialIfBound? (.ref x) (Str.ofString "__eq__") [b])
          (ifBound_K X I he hf (wpAny_mono h (fun r s' hr => by
            obtain ⟨b, rfl, hq⟩ := hr
            repeat (first | exact hq | exact wpAny_pure hq | exact wpAny_truthy_bool hq | (refine wpAny_bind (m := truthy (.bool _)) (wpAny_truthy_bool ?_)) | wp_step)) fun _ _ e => e)))
      | wp_step)
  have check : ∀ {M : Model} {A : Around} {E : Value → Shared → Prop} {Q' : Unit → Shared → Prop}, Q' () s → wpAny M A (checkBuiltinCall "object.__ne__" ⟨[.ref x, b], []⟩) Q' E s := fun {M A E Q'} hq => by
    have ha := F.cmpArgs_ne (.ref x) b
    simp only [checkBuiltinCall, F.cmpKind_ne, F.cmpSplit_ne]
    refine wpAny_bind ?_
    unfold isInstance
    refine wpAny_bind (I.type.here ((looks_subIn X hob).here ?_))
    rw [if_neg (by decide)]
    cases hsig : Manifest.signature? "object.__ne__" with
    | none => exact wpAny_pure hq
    | some sig =>
      simp only [argsOk, hsig] at ha
      have h2 : Bind.checkArgs "object.__ne__" sig ⟨[.ref x, b], []⟩ = pure () := ha
      show wpAny M A (Bind.checkArgs "object.__ne__" sig ⟨[.ref x, b], []⟩) Q' E _
      rw [h2]; exact wpAny_pure hq
  have one : wpAny (model prog w) A (tryCompare (.ref x) "__ne__" b) (fun r s' => ∃ v, r = some v ∧ Q v s') E s := by
    simp only [tryCompare]
    refine wpAny_bind (ifBound_B X I hne S (wpAny_call (codeAny_call_builtin S.plain F.cmpEntry_ne (check (tree (wpAny_mono hcall (fun v s' hv => ?_) fun _ _ e => e))))))
    obtain ⟨c, rfl, hq⟩ := hv
    first | exact ⟨c, rfl, wpAny_pure ⟨_, rfl, hq⟩⟩ | exact ⟨c, rfl, wpAny_pure (wpAny_pure ⟨_, rfl, hq⟩)⟩
  unfold richCompare
  simp only [oneThing_ref]
  refine wpAny_holding (wpAny_bind (wpAny_cRoomFor (Nat.lt_of_succ_lt hu) ?_))
  rw [cmpInfo_NotEq]
  dsimp only
  refine wpAny_bind (I.type.here (wpAny_bind (hb.here ?_)))
  rw [show (Value.ref C != Value.ref C) = false from by simp]
  simp only [Bool.false_eq_true, if_false]
  refine wpAny_bind (wpAny_pure ?_)
  simp only [Bool.false_eq_true, if_false]
  refine wpAny_bind (wpAny_mono one (fun r s' z => ?_) fun _ _ e => e)
  obtain ⟨v, rfl, hq⟩ := z
  exact wpAny_pure hq
/-- x + b, b of a built-in type -/
theorem add_T {op : Operator} {T : String} {fo ro rc : Option Value} {Q : Value → Shared → Prop} (X : K.In s.heap) (I : InstAt s.heap x ox C od) (hb : Looks (model prog w) s.heap (typeOf b) (.type T)) (hc : selfFirst K C = true)
    (hs : findIn K (.ref C) (PySem.dunder op.info.2) = some (some (.ref f))) (hf : isFn K (.ref f) = true) (hr : findIn K (.ref C) (dunderR op.info.2) = some rc) (hp : rc = none ∨ ∃ g : Addr, rc = some (.ref g))
    (h1 : findIn K (.type T) (PySem.dunder op.info.2) = some fo) (h2 : findIn K (.type T) (dunderR op.info.2) = some ro) (hsub : subIn K (.type T) (.ref C) = some false)
    (h : wpAny (model prog w) A (call (.ref f) [.ref x, b]) (PySem.W.CmpBack Q) E s) : wpAny (model prog w) A (binaryOp op (.ref x) b) Q E s := by
  obtain ⟨cd, rest, hcd, hm⟩ := ksp_first hc
  rcases hi : op.info with ⟨sym, nm'⟩
  rw [hi] at hs hr h1 h2
  dsimp only at hs hr h1 h2
  have one := ksp_try X I hs hf h
  obtain ⟨hh, g, d, tt, os⟩ := s
  have L1 : Looks (model prog w) hh (typeOf (.ref x)) (.ref C) := I.type
  have L2 : Looks (model prog w) hh (typeOf b) (.type T) := hb
  have L3 : Looks (model prog w) hh (fillsNumberSlot (.ref C) nm') true := fills_K X hcd hm hs
  have L4 : Looks (model prog w) hh (fillsNumberSlot (.type T) nm') ((fo.isSome && !isSeqSlot fo) || (ro.isSome && !isSeqSlot ro)) := ksp_fillsT X h1 h2
  have L5 : Looks (model prog w) hh (isSubtype (.type T) (.ref C)) false := looks_subIn X hsub
  have L6 : Looks (model prog w) hh (numberSlotInPython (.ref C) nm') true := ksp_inPy X hs hr hp
  have L7 : Looks (model prog w) hh (numberSlotInPython (.type T) nm') false := Looks.of_pure rfl
  have L8 : Looks (model prog w) hh (typeLookup (.type T) (dunderR nm')) ro := looks_findIn X h2
  generalize ((fo.isSome && !isSeqSlot fo) || (ro.isSome && !isSeqSlot ro)) = right at L4
  have hne : (Value.ref C == Value.type T) = false := Bool.eq_false_iff.mpr fun q => by cases beq_iff_eq.mp q
  simp only [binaryOp, hi]
  refine wpAny_holding (wpAny_bind ?_)
  unfold binaryOp1
  refine wpAny_bind (L1.at (wpAny_bind (L2.at (wpAny_bind (L3.at ?_)))))
  simp only [hne, Bool.false_eq_true, if_false]
  cases right with
  | false =>
    ksp_lk
    refine wpAny_mono one (fun r s' hr' => ?_) fun _ _ e => e
    obtain ⟨v, rfl, hq⟩ := hr'
    ksp_lk
    exact hq
  | true =>
    ksp_lk
    refine wpAny_mono one (fun r s' hr' => ?_) fun _ _ e => e
    obtain ⟨v, rfl, hq⟩ := hr'
    ksp_lk
    exact hq
end
/-! ### the rules -/
structure EqF (K : PySem.W.Frag) (C f : Addr) : Prop where
  eq : PySem.W.findIn K (.ref C) "__eq__" = some (some (.ref f))
  fn : PySem.W.isFn K (.ref f) = true
  ne : PySem.W.findIn K (.ref C) "__ne__" = some (some (.builtin "object.__ne__"))
  ob : PySem.W.subIn K (.ref C) (.type "object") = some true
structure AddT (K : PySem.W.Frag) (C : Addr) (T : String) : Prop where
  fo : ∃ fo, PySem.W.findIn K (.type T) "__add__" = some fo
  ro : ∃ ro, PySem.W.findIn K (.type T) "__radd__" = some ro
  sub : PySem.W.subIn K (.type T) (.ref C) = some false
structure AddF (K : PySem.W.Frag) (C f : Addr) : Prop where
  first : PySem.W.selfFirst K C = true
  at_ : PySem.W.findIn K (.ref C) "__add__" = some (some (.ref f))
  fn : PySem.W.isFn K (.ref f) = true
  radd : PySem.W.findIn K (.ref C) "__radd__" = some none
section
variable {X : Cx} {C f : Addr} {fd : FuncData} {k : Nat} {pins : List (Addr × Obj)} {σ : L2.St} {H : Hp} {s : Shared}
/-- a == b of equal lines -/
def rLnEq (K : PySem.W.Frag) (C : Addr) (b : Bool) : R2 := fun x y H Q => ∃ l, Ln K C H x l ∧ Ln K C H y l ∧ ∀ H', Same H H' → Q (.bl b) H'
theorem op_eqLn (F : EqF X.K C f) (G : FnOk X.prog X.w X.K X.mg X.base CX0 k f fd ["self", "other"] (spLnEq X.K C)) (hb : L2.Binds X.K fd ["self", "other"] []) (hr : Room k X.A) : OpR X (compareOp .Eq) (rLnEq X.K C true) := by
  intro pins s σ H x y v u Q I rx ry h
  obtain ⟨l, hx, hy, q⟩ := h
  obtain ⟨a, ox, od, rfl, J⟩ := ln_at I hx
  obtain ⟨b, oy, od', rfl, J'⟩ := ln_at I hy
  cases rx
  cases ry
  obtain ⟨m, hF⟩ := I.fr
  show wpAny _ _ (richCompare .Eq (.ref a) (.ref b)) _ _ _
  refine PySem.W.cmp_K (op := .Eq) (tb := .ref C) (hu_of hr |> Nat.lt_of_succ_lt) hF I.ok.mod.kin J J'.type (by simp [PySem.W.notFirst]) F.eq F.fn ?_
  refine wpAny_mono (run_fn (us := [.ref a, .ref b]) (vs := [.ref a, .ref b]) (Q := fun v H' => v = .bl true ∧ Same H H') (dvs := []) (E := E0) G hr hb .nil pass0 I (.cons rfl (.cons rfl .nil)) ⟨.ref a, .ref b, l, rfl, hx, hy, fun H' e => ⟨rfl, e⟩⟩) (fun w s' hw => ?_) fun _ _ z => z
  obtain ⟨z, H', I', rz, rfl, e⟩ := hw
  cases rz
  exact ⟨.bl true, H', I', rfl, q H' e⟩
/-- a != b of equal lines -/
theorem op_neLn (F : EqF X.K C f) (G : FnOk X.prog X.w X.K X.mg X.base CX0 k f fd ["self", "other"] (spLnEq X.K C)) (hb : L2.Binds X.K fd ["self", "other"] []) (hr : Room (k + 1) X.A) : OpR X (compareOp .NotEq) (rLnEq X.K C false) := by
  intro pins s σ H x y v u Q I rx ry h
  obtain ⟨l, hx, hy, q⟩ := h
  obtain ⟨a, ox, od, rfl, J⟩ := ln_at I hx
  obtain ⟨b, oy, od', rfl, J'⟩ := ln_at I hy
  cases rx
  cases ry
  show wpAny _ _ (richCompare .NotEq (.ref a) (.ref b)) _ _ _
  refine ne_K (hu_of hr) I.kIn J J'.type F.ne F.eq F.fn F.ob ?_
  have e := I.env0
  have e0 : Env0 X.prog X.w X.K X.mg X.base X.A.in1 X.stack s H := ⟨e.frames, e.mod, e.bs, e.bsz, e.funs, e.frf, e.hok, e.bare⟩
  refine wpAny_call (codeAny_mono (G.run X.A.in1 X.stack s H ⟨[.ref a, .ref b], []⟩ [.ref a, .ref b] [.ref a, .ref b] (fun v H' => v = .bl true ∧ Same H H') E0 hr.in1 e0 (by
    have := hb s [.ref a, .ref b] I.kIn rfl
    simpa using this) (.cons rfl (.cons rfl .nil)) ⟨.ref a, .ref b, l, rfl, hx, hy, fun H' e => ⟨rfl, e⟩⟩) fun r s' hq => ?_)
  match r, hq with
  | .ok (.ret w), hq =>
    obtain ⟨z, H', I', rz, rfl, ex⟩ := I.after hq
    cases rz
    exact ⟨true, rfl, .bl false, H', I', rfl, q H' ex⟩
/-- a + b, a of the class at C -/
def rAddO (K : PySem.W.Frag) (C : Addr) (sp : Sp) (E : XK) : R2 := fun x y H Q => ∃ a dx fs t, x = .ref a ∧ H a = some (.ins C dx fs) ∧ TyX K H y t ∧ (t = .ref C ∨ ∃ T, t = .type T ∧ AddT K C T) ∧ sp [x, y] H (fun v H' => (∃ b, v = .ref b) ∧ Q v H') E
theorem op_addO {CX : CXT} {E : XK} {sp : Sp} (F : AddF X.K C f) (G : FnOk X.prog X.w X.K X.mg X.base CX k f fd ["self", "other"] sp) (hb : L2.Binds X.K fd ["self", "other"] []) (hr : Room k X.A) (hx : Passes CX X E) : OpR X (binaryOp .Add) (rAddO X.K C sp E) := by
  intro pins s σ H x y v u Q I rx ry h
  obtain ⟨a, dx, fs, t, rfl, ha, ty, hT, hsp⟩ := h
  cases rx
  obtain ⟨mA, O, _⟩ := ins_get I.hok ha
  obtain ⟨od, J, _⟩ := O.look
  obtain ⟨P, Z, p, _⟩ := kit_of I ry ty
  have lt := Z.ty (model X.prog X.w) s.heap I.kIn p
  have call : wpAny (model X.prog X.w) X.A (call (.ref f) [.ref a, u]) (PySem.W.CmpBack (EP X pins σ Q)) X.xe s := by
    refine wpAny_mono (run_fn (us := [.ref a, u]) (vs := [.ref a, y]) (dvs := []) G hr hb .nil hx I (.cons rfl (.cons ry .nil)) hsp) (fun w s' hw => ?_) fun _ _ z => z
    obtain ⟨z, H', I', rz, ⟨b, rfl⟩, q⟩ := hw
    cases rz
    exact ⟨.ref b, H', I', rfl, q⟩
  rcases hT with rfl | ⟨T, rfl, A⟩
  · obtain ⟨m, hF⟩ := I.fr
    exact PySem.W.binop_K hF I.ok.mod.kin J lt F.first F.at_ F.fn call
  · obtain ⟨fo, h1⟩ := A.fo
    obtain ⟨ro, h2⟩ := A.ro
    exact add_T I.kIn J lt F.first F.at_ F.fn F.radd (.inl rfl) h1 h2 A.sub call
end
end KX
end
section
set_option Elab.async false
set_option linter.all false
set_option maxRecDepth 100000
set_option maxHeartbeats 4000000
/-! KR9: try with several clauses, each with a name (the walk follows HandS.TryMany and HandS.Exc); _law_told. -/
namespace KX
open PySem PySem.Spec PyProof.Rows L2
def wManyA (K : PySem.W.Frag) (Wout : WX) (D : Ends) : List (Value × Nat × (Addr → Value → Option Addr → TS)) → WX
  | [] => Wout
  | (c, i, ts) :: r => fun cls d σ H => ∃ b, PySem.W.exmOne K cls c = some b ∧ (b = true → ∀ a, H a = none → ts a cls d { nx := fun σ' H' => D.nx (σ'.set i none) H', rt := D.rt, bk := fun σ' H' => D.bk (σ'.set i none) H', ct := fun σ' H' => D.ct (σ'.set i none) H' } (σ.set i (some (.ref a))) H) ∧ (b = false → wManyA K Wout D r cls d σ H)
inductive HdsA (X : Cx) : List ExceptHandler → List (Value × Nat × (Addr → Value → Option Addr → TS)) → Prop
  | nil : HdsA X [] []
  | cons {x n : Str} {i : Nat} {c : Value} {ts : Addr → Value → Option Addr → TS} {b₀ : Stmt} {suite : List Stmt} {np pos' : Pos} {hds : List ExceptHandler} {l : List (Value × Nat × (Addr → Value → Option Addr → TS))} (hi : X.N[i]? = some n) (hln : X.env.kindOf n = some .local) (hc : Names X x c)
      (hsu : ∀ (a : Addr) (oe : Obj) (cls : Value) (d : Option Addr) (pn : List (Addr × Obj)), Zc cls d oe → (∃ vs, oe.data = .fields vs) → PSs (X.suite a ((a, oe) :: pn)) (b₀ :: suite) (ts a cls d)) (r : HdsA X hds l) :
      HdsA X (.ExceptHandler (some (.Name x np)) (some n) (b₀ :: suite) pos' :: hds) ((c, i, ts) :: l)
section
variable {X : Cx} {body : List Stmt} {h₀ : ExceptHandler} {hds : List ExceptHandler} {l : List (Value × Nat × (Addr → Value → Option Addr → TS))} {pos : Pos} {tb : WX → TS} {Wout : WX}
theorem ps_try_manyA (hs : X.stack = X.env :: X.outer) (hf : X.env.frame = some X.env.locals) (hN : X.N.Nodup) (tk : Takes X Wout)
    (hb : ∀ (W : WX) (pn : List (Addr × Obj)) (xe : Value → Shared → Prop), Takes (X.tr pn xe) W → PassesOwn (model X.prog X.w) X.A X.env xe → PSs (X.tr pn xe) body (tb W))
    (hh : HdsA X (h₀ :: hds) l) : PS X (.Try body (h₀ :: hds) [] [] pos) (fun D σ H => tb (wManyA X.K Wout D l) D σ H) := by
  refine ⟨fun pins s σ H D I h => ?_⟩
  have ok := I.ok
  have hfr : X.A.frames = some (X.env :: X.outer) := by rw [ok.frames, hs]
  refine wpAny_Try_except ?_
  refine wpAny_mono ((hb (wManyA X.K Wout D l) (X.pn ++ pins) (fun e s₁ => wpAny (model X.prog X.w) X.A (noteFrame e X.env) (fun _ s₂ => wpAny (model X.prog X.w) X.A (setFlight e none) (fun _ s₃ =>
    wpAny (model X.prog X.w) X.A (handleBy e X.env (h₀ :: hds)) (SP X pins D) X.xe s₃) X.xe s₂) X.xe s₁) (fun u s' xx => ?_) PassesOwn.looking).run [] s σ H D (I.toTry _) h) (fun f s1 hsp => ?_) (fun e s1 he => he)
  · -- the catch
    obtain ⟨a, B, sI, pins', σ', H', cls, d, rfl, J', nb, up, sky, na, os, ag, w⟩ := xx
    have J : Inv X pins σ' H' sI := J'.ofTry ok
    have sky' : Sky B (X.env :: X.outer) a (Zc cls d) X.env.locals s'.heap := by rw [← hs]; exact sky
    show wpAny (model X.prog X.w) X.A (noteFrame (.ref a) X.env) _ _ _
    refine Sky.land Zc.steady hfr hf sky' fun h3 fl3 up3 => ?_
    have J3 : Inv X pins σ' H' { s' with heap := h3 } := J.landed nb fl3.1 (up.trans up3) os ag
    obtain ⟨oe3, vs3, he3, hz3, hd3⟩ := fl3.there
    have notFr : ∀ {h : Heap} {o : Obj} {vs : Array Value}, h.FunFrames B (X.env :: X.outer) → h.get? a = some o → o.data = .fields vs → a ∉ frs (X.env :: X.outer) := fun {h o vs} ff e dd hm => by
      obtain ⟨_, o', e', hnf⟩ := ff.mem hm
      rw [e] at e'; cases e'
      exact hnf _ dd
    have nfr := notFr fl3.2.2.1 he3 hd3
    have nL : a ≠ X.env.locals := fun z => nfr (List.mem_filterMap.mpr ⟨X.env, List.mem_cons_self, by rw [hf, z]⟩)
    have nF : a ∉ X.fs := fun hm => by
      obtain ⟨e, he, q⟩ := List.mem_filterMap.mp hm
      exact nfr (List.mem_filterMap.mpr ⟨e, List.mem_cons_of_mem _ he, q⟩)
    have S3 := J3.suite he3 hd3 na nL nF
    have go : ∀ {hds' : List ExceptHandler} {l' : List (Value × Nat × (Addr → Value → Option Addr → TS))}, HdsA X hds' l' → wManyA X.K Wout D l' cls d σ' H' →
        wpAny (model X.prog X.w) X.A (handleBy (.ref a) X.env hds') (SP X pins D) X.xe { s' with heap := h3 } := by
      intro hds' l' hk
      induction hk with
      | nil =>
        intro w
        refine wpAny_handleBy_nil ?_
        obtain ⟨k1, k2, k3, oe, vs, T, oT, ts', he, hz, hd, h1, hr⟩ := id fl3
        unfold PySem.passOn
        refine wpAny_bind (wpAny_field he hd h1 ?_)
        rw [if_neg (show ¬ ((Value.ref T == Value.none) = true) from by simp)]
        have fin : wpAny (model X.prog X.w) X.A (setFlight (.ref a) X.env.frame) (fun _ s4 => wpAny (model X.prog X.w) X.A (throw (.ref a) : Sem Flow) (SP X pins D) X.xe s4) X.xe { s' with heap := h3 } := by
          rw [hf]
          refine HandSPX.setFlight_upZ fl3 fun h4 hh4 up4 => wpAny_throw (tk _ _ ?_)
          exact ⟨a, B, sI, pins, σ', H', cls, d, rfl, J, nb, (up.trans up3).trans up4, .inr (.inr (by rw [hs]; exact hh4)), na, os, ag, w⟩
        first
          | exact wpAny_bind (wpAny_pure (wpAny_bind fin))
          | exact wpAny_bind fin
      | @cons x n i c ts b₀ suite np pos' hds2 l2 hi hln hc hsu r ih =>
        intro w
        obtain ⟨b, hb1, hyes, hno⟩ := w
        refine wpAny_handleBy_cons (codeAny_handlers_test ?_) (by intro q; cases q)
        have LT : PySem.W.Looks (model X.prog X.w) h3 (typeOf (.ref a)) cls := fun A Q E s k q => wpAny_typeOf_ref (k _ _ he3) (by rw [hz3.1]; exact q)
        have LM := PySem.W.exm_one (M := model X.prog X.w) (J3.kIn) LT hb1
        have test : ∀ {Q : Value → Shared → Prop} {E : Value → Shared → Prop}, Q c { s' with heap := h3 } → wpAny (model X.prog X.w) (X.A.mark (some (.ref a))) (eval (.Name x np) X.env) Q E { s' with heap := h3 } := fun {Q E} q => by
          obtain ⟨hg, hdbg, hm | ⟨hm, hv, hnn⟩⟩ := hc
          · exact ld_glob (X := X.suite a ((a, oe3) :: (X.pn ++ pins))) S3 hg hm q hdbg
          · exact ld_blt (X := X.suite a ((a, oe3) :: (X.pn ++ pins))) S3 hg hm hv q hnn hdbg
        refine test (LM.here ?_)
        cases b with
        | true =>
          have hloc : Loc X.env.scope n := .inl hln
          refine codeAny_handlers_suite_as ?_
          refine HandSPX.lands_againZ fl3 fun h4 fl4 up4 => ?_
          have J4 : Inv X pins σ' H' { s' with heap := h4 } := J.landed nb fl4.1 ((up.trans up3).trans up4) os ag
          obtain ⟨oe4, vs4, he4, hz4, hd4⟩ := fl4.there
          have S4 := J4.suite he4 hd4 na nL nF
          refine store_ok (X := X.suite a ((a, oe4) :: (X.pn ++ pins))) (v := .ref a) S4 hN hi hloc rfl (fun s5 S5 => ?_) (.inr hln)
          refine wpAny_mono ((hsu a oe4 cls d (X.pn ++ pins) hz4 ⟨_, hd4⟩).run [] s5 _ H' _ S5 (hyes rfl a na)) (fun f s6 hsp => ?_) (fun _ _ z => False.elim z)
          have end_ : ∀ {σ6 : L2.St} {H6 : Hp} {Q : Shared → Prop}, Inv (X.suite a ((a, oe4) :: (X.pn ++ pins))) [] σ6 H6 s6 → (∀ s7, Inv X pins (σ6.set i none) H6 s7 → Q s7) →
              wpAny (model X.prog X.w) X.A (do bindName X.env n .none; unbindBehindTheSuite X.env n pos') (fun _ s7 => Q s7) X.xe s6 := fun {σ6 H6 Q} S6 hq => gone_ok (S6.unsuite ok) hN hi hln hq
          cases f with
          | next =>
            obtain ⟨σ6, H6, S6, q6⟩ := hsp
            exact end_ S6 fun s7 J7 => ⟨_, _, J7, q6⟩
          | brk =>
            obtain ⟨σ6, H6, S6, q6⟩ := hsp
            exact end_ S6 fun s7 J7 => ⟨_, _, J7, q6⟩
          | cont =>
            obtain ⟨σ6, H6, S6, q6⟩ := hsp
            exact end_ S6 fun s7 J7 => ⟨_, _, J7, q6⟩
          | ret u =>
            obtain ⟨v6, σ6, H6, S6, r6, q6⟩ := hsp
            exact end_ S6 fun s7 J7 => ⟨_, _, _, J7, r6, q6⟩
        | false =>
          show wpAny _ X.A (handleBy (.ref a) X.env hds2) _ _ _
          exact ih (hno rfl)
    exact go hh w
  · cases f with
    | next =>
      obtain ⟨σ', H', J', q⟩ := hsp
      exact wpAny_execs_nil ⟨σ', H', J'.ofTry ok, q⟩
    | brk =>
      obtain ⟨σ', H', J', q⟩ := hsp
      exact ⟨σ', H', J'.ofTry ok, q⟩
    | cont =>
      obtain ⟨σ', H', J', q⟩ := hsp
      exact ⟨σ', H', J'.ofTry ok, q⟩
    | ret u =>
      obtain ⟨v, σ', H', J', r, q⟩ := hsp
      exact ⟨v, σ', H', J'.ofTry ok, r, q⟩
end
end KX
end
section
set_option Elab.async false
set_option linter.all false
set_option maxRecDepth 100000
set_option maxHeartbeats 4000000
/-! KR10: _law_told. -/
namespace KX
open PySem PySem.Spec PyProof.Rows L2
abbrev sTold : Stmt := top 33
abbrev nTold : List Str := ["_law_call", "e"]
theorem scTold : FnScope nTold ["_law_call"] (defScope sTold) := ⟨rfl, rfl, rfl, by decide +kernel, rfl, by decide +kernel, by decide +kernel⟩
/-- the two exceptions as they are caught -/
structure ExF (K : PySem.W.Frag) (mg : Str → Option Value) (CLg CLn CB : Addr) : Prop where
  gG : mg "InvalidLegs" = some (.ref CLg)
  gN : mg "InvalidLine" = some (.ref CLn)
  gB : mg "BeamError" = some (.ref CB)
  gg : PySem.W.exmOne K (.ref CLg) (.ref CLg) = some true
  ng : PySem.W.exmOne K (.ref CLn) (.ref CLg) = some false
  nn : PySem.W.exmOne K (.ref CLn) (.ref CLn) = some true
  xG : XfC K CLg
  xN : XfC K CLn
  aG : PySem.W.findIn K (.ref CLg) "position" = some none
  aN : PySem.W.findIn K (.ref CLn) "value" = some none
  iG : IsC K CLg
  iN : IsC K CLn
  bG : PySem.W.kitOne K (.ref CLg) (.ref CB) = some true
  bN : PySem.W.kitOne K (.ref CLn) (.ref CB) = some true
def rRp (K : PySem.W.Frag) (C : Addr) : List V → Hp → VK → Prop := fun xs H Q => ∃ v t, xs = [v] ∧ RpV K C H v t ∧ Q (.str t) H
theorem call_rpK {X : Cx} {C f : Addr} (K : PySem.W.Frag) (h : X.K = K) (F : RpF X C f) : CallR X (.builtin "repr") (rRp K C) := by
  rw [← h]
  exact call_rp F
/-- a name just stored in slot i, whatever the other slots hold -/
def tVarS (i : Nat) : TE := fun σ H Q => ∃ (σ0 : L2.St) (v : V), σ = List.set σ0 i (some v) ∧ Q v H
theorem pvS {X : Cx} (i : Nat) {x : Str} {pos : Pos} (hN : X.N[i]? = some x) (hv : Vis X.env.scope x) (hd : (x == ("__debug__" : Str)) = false := by decide) (hcd : (x == ("__classdict__" : Str)) = false := by decide) : PE X (.Name x pos) (tVarS i) := by
  refine ⟨fun pins s σ H Q I h => ?_⟩
  obtain ⟨σ0, v, e, q⟩ := h
  refine (pe_var (i := i) hN hv hd hcd).run pins s σ H Q I ⟨v, ?_, q⟩
  have hl := I.len
  have hi := (List.getElem?_eq_some_iff.mp hN).1
  have h0 : i < σ0.length := by
    rw [e, List.length_set] at hl
    omega
  rw [e]
  simp [h0]
theorem boot_rp : bootBuiltins ("repr" : Str) = some (.builtin "repr") := by decide +kernel
def rIsDK (K : PySem.W.Frag) := rIsD K
theorem call_isDK {X : Cx} {a : Addr} {oe : Obj} {cls : Value} {d : Option Addr} {pn : List (Addr × Obj)} (K : PySem.W.Frag) (h : X.K = K) (hz : Zc cls d oe) (hf : ∃ vs, oe.data = .fields vs) :
    CallR (X.suite a ((a, oe) :: pn)) (.builtin "isinstance") (rIsD K a cls d) := by
  rw [← h]
  exact call_isD hz hf
/-- what told makes of what is raised -/
def ToldE (K : PySem.W.Frag) (C CLg CLn : Addr) (Q : VK) : XK := fun cls d H' => ∃ dd u t, d = some dd ∧ RpV K C H' u t ∧
  ((cls = .ref CLg ∧ H' dd = some (.xd [("position", u)]) ∧ ∀ l, H' l = none → Q (.ref l) (upd H' l (.lst [.str "legs", .str t, .bl true]))) ∨
   (cls = .ref CLn ∧ H' dd = some (.xd [("value", u)]) ∧ ∀ l, H' l = none → Q (.ref l) (upd H' l (.lst [.str "line value", .str t, .bl true]))))
def ToldV (K : PySem.W.Frag) (C : Addr) (Q : VK) : VK := fun v H' => rRp K C [v] H' fun w H2 => ([V.str "line", w] : List V).length ≤ sizeLine ∧ ∀ l, H2 l = none → Q (.ref l) (upd H2 l (.lst [.str "line", w]))
theorem ToldV.mk {K : PySem.W.Frag} {C : Addr} {Q : VK} {v : V} {H : Hp} {t : Str} (h : RpV K C H v t) (q : ∀ l, H l = none → Q (.ref l) (upd H l (.lst [.str "line", .str t]))) : ToldV K C Q v H :=
  ⟨v, t, rfl, h, (by show 2 ≤ sizeLine; decide), q⟩
def TTold (K : PySem.W.Frag) (C CLg CLn : Addr) : (XK → Hp → VK → Prop) → Hp → VK → Prop := fun tl H Q => tl (ToldE K C CLg CLn Q) H (ToldV K C Q)
theorem told_gives {X : Cx} {C CLg CLn CB fR g : Addr} {cdg : Value} {q : Str} {k : Nat} (B : Bi X.mg) (T : ExF X.K X.mg CLg CLn CB) (gd : Gd X.A) (hr : Room (k + 2) X.A) (R : RpOk X.prog X.w X.K X.mg X.base C fR)
    (ra : PySem.W.findIn X.K (.ref C) "__repr__" = some (some (.ref fR))) (rf : PySem.W.isFn X.K (.ref fR) = true) :
    LamX.GivesTo X nTold "_law_told" (defScope sTold) g cdg (defBody sTold) "_law_call" q (TTold X.K C CLg CLn) := by
  intro f c' s H Q tl act hc h
  have rp : ∀ (pn : List (Addr × Obj)) (xe : Value → Shared → Prop), RpF ((cxOf C8.CX0 X.prog X.w X.K X.mg X.base nTold "_law_told" (defScope sTold) g cdg X.A X.stack s H C8.E0).nox.tr pn xe) C fR := fun pn xe =>
    ⟨gd, by have := hr.dp; show X.A.depth + 1 + 5 < _; omega, by have := hr.un; show X.A.units + 3 + 100 < _; omega, R, ra, rf⟩
  have rpS : ∀ (a : Addr) (pn : List (Addr × Obj)), RpF ((cxOf C8.CX0 X.prog X.w X.K X.mg X.base nTold "_law_told" (defScope sTold) g cdg X.A X.stack s H C8.E0).nox.suite a pn) C fR := fun a pn =>
    ⟨gd, by have := hr.dp; show X.A.depth + 1 + 5 < _; omega, by have := hr.un; show X.A.units + 3 + 100 < _; omega, R, ra, rf⟩
  refine ⟨_, pss_one (ps_try_manyA (X := (cxOf C8.CX0 X.prog X.w X.K X.mg X.base nTold "_law_told" (defScope sTold) g cdg X.A X.stack s H C8.E0).nox)
      (tb := fun W D σ H => ∃ Ech : XK, (∀ cls d σ' H', Ech cls d H' → W cls d σ' H') ∧ σ[0]? = some (some (.ref f)) ∧ H c' = some (LamX.CodeO c' q) ∧ tl Ech H (ToldV X.K C D.rt))
      (Wout := fun _ _ _ _ => False) rfl rfl scTold.nd LamX.takes0 (fun W pn xe tk _ => ?_)
      (.cons (i := 1) rfl rfl ⟨rfl, by decide, .inl T.gG⟩ (fun a oe cls d pn hz hf => pss_one (ps_ret (pe_lst (pa_cons pe_str (pa_cons (pe_callB (call_rpK X.K rfl (rpS a _)) (by rfl) B.repr boot_rp (pa_cons (pe_xf T.xG T.aG hz hf (pvS 1 rfl (.inl rfl))) pa_nil))
          (pa_cons (pe_callB (call_isDK X.K rfl hz hf) (by rfl) B.isi boot_isinstance (pa_cons (pvS 1 rfl (.inl rfl)) (pa_cons (pe_glob (v := .ref CB) rfl T.gB rfl) pa_nil))) pa_nil))))))
      (.cons (i := 1) rfl rfl ⟨rfl, by decide, .inl T.gN⟩ (fun a oe cls d pn hz hf => pss_one (ps_ret (pe_lst (pa_cons pe_str (pa_cons (pe_callB (call_rpK X.K rfl (rpS a _)) (by rfl) B.repr boot_rp (pa_cons (pe_xf T.xN T.aN hz hf (pvS 1 rfl (.inl rfl))) pa_nil))
          (pa_cons (pe_callB (call_isDK X.K rfl hz hf) (by rfl) B.isi boot_isinstance (pa_cons (pvS 1 rfl (.inl rfl)) (pa_cons (pe_glob (v := .ref CB) rfl T.gB rfl) pa_nil))) pa_nil))))))
      .nil))), ?_⟩
  · refine ⟨fun pins s' σ H' D I h' => ?_⟩
    obtain ⟨Ech, hW, h1, h2, h3⟩ := h'
    exact PSs.run (X := (cxOf C8.CX0 X.prog X.w X.K X.mg X.base nTold "_law_told" (defScope sTold) g cdg X.A X.stack s H C8.E0).nox.tr pn xe)
      (pss_one (ps_ret (pe_lst (pa_cons pe_str (pa_cons (pe_callB (call_rpK X.K rfl (rp pn xe)) (by rfl) B.repr boot_rp (pa_cons (act W pn xe Ech _ _ tk hW) pa_nil)) pa_nil))))) pins s' σ H' D I ⟨h1, h2, h3⟩
  · refine ⟨ToldE X.K C CLg CLn Q, fun cls d σ' H' z => ?_, rfl, hc, h⟩
    obtain ⟨dd, u, t, rfl, hu, ⟨rfl, hd, q⟩ | ⟨rfl, hd, q⟩⟩ := z
    · refine ⟨true, T.gg, fun _ a na => ?_, fun z => by cases z⟩
      refine ⟨_, _, rfl, rfl, rfl, dd, _, u, rfl, hd, rfl, u, t, rfl, hu, ?_⟩
      exact ⟨_, _, rfl, ⟨CLg, dd, _, .ref CB, .ref CB, true, rfl, T.iG, rfl, hd, rfl, (fun u h => h), T.bG, (by show 3 ≤ sizeLine; decide), q⟩⟩
    · refine ⟨false, T.ng, fun z => (by cases z), fun _ => ⟨true, T.nn, fun _ a na => ?_, fun z => by cases z⟩⟩
      refine ⟨_, _, rfl, rfl, rfl, dd, _, u, rfl, hd, rfl, u, t, rfl, hu, ?_⟩
      exact ⟨_, _, rfl, ⟨CLn, dd, _, .ref CB, .ref CB, true, rfl, T.iN, rfl, hd, rfl, (fun u h => h), T.bN, (by show 3 ≤ sizeLine; decide), q⟩⟩
end KX
end
section
set_option Elab.async false
set_option linter.all false
set_option maxRecDepth 100000
set_option maxHeartbeats 4000000
/-! KR11: sorted(s), s a set of pairs of ints of any sign. -/
namespace KX
open PySem PySem.Spec PyProof.Rows L2
def kOf (ns : List Int) : Int × Int := (ns.getD 0 0, ns.getD 1 0)
section
variable {P : Program} {w : World} {A : Around} {E : Value → Shared → Prop} {s : Shared}
theorem pair_of {h : Heap} {b : Addr} {ns : List Int} (x : IsT P w h ns b) (hl : ns.length = 2) : Srt.IsPair h (.ref b) (kOf ns).1 (kOf ns).2 := by
  obtain ⟨a, xs, e, ⟨o, ho, hc, n, hd⟩, i⟩ := tupInts_of x
  cases e
  match ns, hl with
  | [p, q], _ =>
    obtain ⟨cs⟩ := xs
    cases i with
    | cons p' t i =>
      cases i with
      | cons q' u i =>
        cases i
        exact ⟨_, o, t, u, n, rfl, ho, hc, hd⟩
theorem sorted_setP {a : Addr} {L : List (Addr × List Int)} {es : Array (Int × Value)} {ep : Nat} {t : SetTable} {Q : Value → Shared → Prop} (R : SetTR P w s.heap a L es ep t) (hh : A.handled = none) (h2 : ∀ p ∈ L, p.2.length = 2)
    (hQ : ∀ s' p (out : Array Value) (c : Nat) (L' : List (Addr × List Int)), (∀ b o, s.heap.get? b = some o → s'.heap.get? b = some o) → s'.gens = s.gens → s'.os = s.os → s.heap.objs.size ≤ p →
      s'.heap.get? p = some (seqObj "list" out c) → out.toList = L'.map (fun q => Value.ref q.1) → L'.Perm L → L'.Pairwise (fun q r => SrtO.lexB (kOf r.2) (kOf q.2) = false) → Q (.ref p) s') :
    wpAny (model P w) A (call (.builtin "sorted") [.ref a]) Q E s := by
  obtain ⟨o, ho, hex, hd⟩ := R.ob
  have hsz := R.size
  have hfew := R.few
  refine Calls.call_function_entry kind_sorted plain_sorted entry_sorted (args_sorted1 _) ?_
  unfold Builtin.«sorted»
  refine wpAny_bind (m := checkCount "sorted" 1 1 _) (wpAny_pure ?_)
  refine wpAny_bind (collect_set (A := A.in1) hh ⟨o, ho, hex.1, hd⟩ R.fits (by unfold scanBound; omega) R.tab.ris R.led fun s1 vs k1 hz g1 o1 pm => ?_)
  have hes : es.toList.map (·.2) = L.map fun q => Value.ref q.1 := by
    rw [R.rows]
    unfold rowsOf
    rw [List.map_map] <;> rfl
  rw [hes] at pm
  have hvl : vs.length < 64 := by rw [pm.length_eq, List.length_map]; exact hfew
  refine wpAny_bind (wpAny_newList ?_ (by rw [sizeLine_eq]; omega))
  have hoL : (s1.heap.push (seqObj "list" vs.toArray 0)).get? s1.heap.objs.size = some (seqObj "list" vs.toArray 0) := Heap.get?_push_size _ rfl
  have tk : ∀ q ∈ L, IsT P w (s1.heap.push (seqObj "list" vs.toArray 0)) q.2 q.1 := fun q hq => isT_keep (R.tup q hq) fun b u e => Heap.get?_push_of_some _ (k1 b u e)
  -- the pair at a value
  generalize hk : (fun v : Value => kOf (TS.intsOf (s1.heap.push (seqObj "list" vs.toArray 0)) v)) = k
  have kq : ∀ q ∈ L, k (.ref q.1) = kOf q.2 := fun q hq => by
    rw [← hk]
    show kOf (TS.intsOf _ (.ref q.1)) = _
    rw [(tupInts_of (tk q hq)).ints]
  have hp : ∀ v ∈ vs, Srt.IsPair (s1.heap.push (seqObj "list" vs.toArray 0)) v (k v).1 (k v).2 := fun v hv => by
    obtain ⟨q, hq, e⟩ := List.mem_map.mp (pm.mem_iff.mp hv)
    rw [← e, kq q hq]
    exact pair_of (tk q hq) (h2 q hq)
  refine wpAny_bind (wpAny_holding (wpAny_call_entry slot_list_sort ⟨_, hoL, rfl⟩ entry_list_sort
    (SrtO.list_sort_ord (s := { s1 with heap := s1.heap.push (seqObj "list" vs.toArray 0) }) (SrtO.swo_lex k) hoL (by rw [sizeLine_eq]; omega) (fun hv2 => SrtO.pairs_sortableO (by omega) hp fun o e => ?_) fun out a1 a2 => ⟨_, rfl, ?_⟩) (args_list_sort _)))
  · have e' : some o = some (seqObj "list" vs.toArray 0) := e.symm.trans hoL
    cases e'
    intro c
    exact absurd (Value.type.inj c) (by decide)
  obtain ⟨c, hc⟩ := sortedHeap_at (vs := vs) (out := out.toArray) hoL
  obtain ⟨L', pL, e'⟩ := perm_lift (fun q : Addr × List Int => Value.ref q.1) (a2.perm.trans pm) L rfl
  have pw : L'.Pairwise (fun q r => SrtO.lexB (kOf r.2) (kOf q.2) = false) := by
    have a1' : out.Pairwise fun x y => SrtO.lexB (k y) (k x) = false := a1
    rw [← e'] at a1'
    refine List.Pairwise.imp_of_mem (fun {q r} hq hr hle => ?_) (List.pairwise_map.mp a1')
    rw [kq q (pL.mem_iff.mp hq), kq r (pL.mem_iff.mp hr)] at hle
    exact hle
  refine wpAny_pure ⟨_, rfl, hQ _ s1.heap.objs.size out.toArray c L' (fun b u e => ?_) g1 o1 hz hc (by rw [e']) pL pw⟩
  have q := k1 b u e
  have hlt := Heap.lt_size q
  show (sortedHeap (s1.heap.push (seqObj "list" vs.toArray 0)) s1.heap.objs.size vs out.toArray).get? b = some u
  rw [sortedHeap_old (Nat.ne_of_lt hlt) (by rw [size_push']; exact Nat.lt_succ_of_lt hlt)]
  exact Heap.get?_push_of_some _ q
end
/-- sorted(set), pairs of ints -/
def rSortedSP (K : PySem.W.Frag) (P : Program) (w : World) : List V → Hp → VK → Prop := fun vs H Q => ∃ (a : Addr) (L : List (Addr × List Int)), vs = [V.ref a] ∧ H a = some (SetTO P w a L) ∧ (∀ p ∈ L, SqT K H p.1 (p.2.map V.int) ∧ p.2.length = 2) ∧
  ∀ (L' : List (Addr × List Int)) (p : Addr), L'.Perm L → (L'.map (·.2)).Nodup → L'.Pairwise (fun q r => SrtO.lexB (kOf r.2) (kOf q.2) = false) → H p = none → Q (.ref p) (upd H p (.lst (L'.map fun q => V.ref q.1)))
theorem cr_sortedSP {X : Cx} (hc : X.calm = true) : CallR X (.builtin "sorted") (rSortedSP X.K X.prog X.w) := by
  intro pins s σ H vs us Q I r h
  obtain ⟨a, L, rfl, ha, hk, q⟩ := h
  have R0 : SetT0 X.prog X.w s.heap a L := (I.hok a _ ha).1
  obtain ⟨es, ep, t, R⟩ := R0.full fun p hp => I.isT (hk p hp).1
  rw [Vals.ref1 r]
  refine sorted_setP R (I.ok.hd hc) (fun p hp => (hk p hp).2) fun s' p out c L' k g o hp hg hout pm pw => ?_
  have hfew : L'.length < 64 := by rw [pm.length_eq]; exact R.few
  have hlen : (L'.map fun q => V.ref q.1).length ≤ sizeLine := by rw [List.length_map, sizeLine_eq]; omega
  have hn : H p = none := I.hok.fresh hp
  have hv : Vals (L'.map fun q => V.ref q.1) out.toList := by rw [hout]; exact vals_of_refs L'
  have J : Inv X pins σ (upd H p (.lst (L'.map fun q => V.ref q.1))) { s with heap := s'.heap, gens := s'.gens, drawn := s'.drawn, toks := s'.toks } :=
    I.call (ch := []) (Un.laid k hp hn) (I.hok.laid k hp ⟨hlen, out.toList, c, hv, hg⟩) (by rw [g]; exact I.bare) (fun _ z => nomatch z)
  have e : s' = { s with heap := s'.heap, gens := s'.gens, drawn := s'.drawn, toks := s'.toks } := by
    cases s'
    cases s
    cases o
    rfl
  rw [e]
  exact ⟨.ref p, _, J, rfl, q L' p pm ((pm.map (·.2)).nodup_iff.mpr R.nd) pw hn⟩
end KX
end
section
set_option Elab.async false
set_option linter.all false
set_option maxRecDepth 100000
set_option maxHeartbeats 4000000
/-! E1: the law's drawn numbers. -/
namespace KX
open PySem PySem.Spec PyProof.Rows L2
/-- the state of the drawn numbers at r -/
def St (r : Addr) (H : Hp) : Prop := ∃ a b : Int, H r = some (.lst [.int a, .int b]) ∧ 0 ≤ a ∧ 0 ≤ b ∧ b ≤ 2147483629
/-- all but what stands at r is kept -/
def Off (r : Addr) (H H' : Hp) : Prop := ∀ b o, b ≠ r → H b = some o → H' b = some o
theorem Off.refl (r : Addr) (H : Hp) : Off r H H := fun _ _ _ h => h
theorem Off.trans {r : Addr} {H H1 H2 : Hp} (a : Off r H H1) (b : Off r H1 H2) : Off r H H2 := fun c o h e => b c o h (a c o h e)
theorem Off.of {r : Addr} {H H' : Hp} (e : Same H H') : Off r H H' := fun b o _ h => e b o h
theorem Off.wr {r : Addr} {H H' : Hp} {o : HO} (e : Off r H H') : Off r H (upd H' r o) := fun b u hb h => by rw [upd_ne hb]; exact e b u hb h
theorem Off.new {r p : Addr} {H H' : Hp} {o : HO} (e : Off r H H') (h : H' p = none) : Off r H (upd H' p o) := fun b u hb q => by rw [upd_ne (ne_of_none (e b u hb q) h)]; exact e b u hb q
theorem Off.none {r p : Addr} {H H' : Hp} (e : Off r H H') (hp : p ≠ r) (h : H' p = none) : H p = none := by
  cases q : H p with
  | none => rfl
  | some o =>
    rw [e p o hp q] at h
    cases h
theorem St.same {r : Addr} {H H' : Hp} (e : Same H H') (h : St r H) : St r H' := let ⟨a, b, h1, h2⟩ := h; ⟨a, b, e _ _ h1, h2⟩
theorem fmod_pos {x : Int} : 0 ≤ x.fmod 2147483629 ∧ x.fmod 2147483629 < 2147483629 :=
  ⟨Int.fmod_nonneg_of_pos _ (by decide), Int.fmod_lt_of_pos _ (by decide)⟩
section
variable {P : Program} {w : World} {K : PySem.W.Frag} {mg : Str → Option Value} {base : Heap}
abbrev sRng : Stmt := top 25
abbrev nRng : List Str := ["_law_script", "_law_k", "_law_cell"]
theorem scRng : FnScope nRng ["_law_script", "_law_k"] (defScope sRng) := ⟨rfl, rfl, rfl, by decide +kernel, rfl, by decide +kernel, by decide +kernel⟩
def spRng (K : PySem.W.Frag) : Sp := fun vs H Q _ => ∃ (a : Addr) (ns : List Int) (k : Nat), vs = [.ref a, .int (k : Nat)] ∧ SqL K H a (ns.map V.int) ∧ ns.length ≤ 1000 ∧ k ≤ 10 ∧ ∀ r H', H r = none → Same H H' → St r H' → Q (.ref r) H'
theorem ok_rng (B : Bi mg) (D : De K mg "_law_rng" sRng ["_law_script", "_law_k"]) : Cal P w K mg base 1 "_law_rng" (spRng K) [] := by
  refine D.cal scRng (fun vs H Q E h => ?_) (fun f cdv A outer s H vs Q E hr h => ?_)
  · obtain ⟨a, ns, k, rfl, _⟩ := h
    rfl
  · obtain ⟨a, ns, k, rfl, hs, hlen, hk, q⟩ := h
    refine ⟨_, pss_cons (ps_set (i := 2) scRng.nd rfl (Or.inl rfl) (pe_ifExp (pt_cmpR op_lt (pv 1) (pe_callB call_len_seq (by rfl) B.len PySem.boot_len (pa_cons (pv 0) pa_nil)) (nomark _)) (pe_ix ix_list (pv 0) (pv 1) (fun _ _ => rfl)) (pe_op op_add (pe_op op_mul pe_int (pv 1)) pe_int)))
      (pss_one (ps_ret (pe_lst (pa_cons (pe_callB (call_max2 rfl) (by rfl) B.max (by decide +kernel) (pa_cons pe_int (pa_cons (pe_op op_sub (pe_callB call_abs (by rfl) B.abs (by decide +kernel) (pa_cons (pv 2) pa_nil)) (pe_op op_pow pe_int pe_int)) pa_nil)))
        (pa_cons (pe_op op_add (pe_op op_modN (pe_callTy call_int1 (by rfl) B.int (by decide +kernel) (pa_cons (pe_op op_add (pe_op op_add (pe_op op_mul (pe_op op_modN (pe_callTy call_int1 (by rfl) B.int (by decide +kernel) (pa_cons (pe_callB call_abs (by rfl) B.abs (by decide +kernel) (pa_cons (pv 2) pa_nil)) pa_nil)) pe_int) pe_int) (pe_op op_mul pe_int (pv 1))) pe_int) pa_nil)) pe_int) pe_int) pa_nil))))), ?_⟩
    refine ⟨_, rfl, _, rfl, a, _, rfl, .inl hs, _, _, rfl, rfl, _, rfl, ?_⟩
    by_cases hc : ((k : Nat) : Int) < ((ns.map V.int).length : Nat)
    · rw [decide_eq_true hc]
      refine iteT ?_
      have hk2 : k < ns.length := by rw [List.length_map] at hc; omega
      refine ⟨_, rfl, _, rfl, a, _, _, .int ns[k], rfl, rfl, hs, atI_nat (by simp [hk2]), ?_⟩
      generalize ns[k] = c
      refine ⟨_, rfl, _, rfl, _, _, rfl, rfl, ⟨by decide, by decide, by decide⟩, _, _, rfl, rfl, _, _, rfl, ?_⟩
      refine ⟨_, rfl, _, rfl, .inl ⟨_, rfl, _, _, rfl, rfl, (by show (2147483549 : Int) ≠ 0; decide), _, _, rfl, rfl, .inr ⟨by decide, by decide⟩, _, rfl, _, _, rfl, rfl, .inl ⟨by decide, by decide⟩, _, _, rfl, rfl, _, _, rfl, rfl, .inl ⟨_, rfl, _, _, rfl, rfl, (by show (2147483629 : Int) ≠ 0; decide), _, _, rfl, rfl, (by show 2 ≤ sizeLine; decide), fun l nl => ?_⟩⟩⟩
      refine q l _ nl (Same.new nl) ⟨_, _, upd_same, ?_, ?_, ?_⟩
      · split <;> omega
      · exact Int.add_nonneg fmod_pos.1 (by decide)
      · exact fmod_pos.2
    · rw [decide_eq_false hc]
      refine iteF ?_
      refine ⟨_, rfl, _, _, rfl, rfl, .inl ⟨by decide, by decide⟩, _, _, rfl, rfl, ?_⟩
      refine ⟨_, rfl, _, rfl, _, _, rfl, rfl, ⟨by decide, by decide, by decide⟩, _, _, rfl, rfl, _, _, rfl, ?_⟩
      refine ⟨_, rfl, _, rfl, .inl ⟨_, rfl, _, _, rfl, rfl, (by show (2147483549 : Int) ≠ 0; decide), _, _, rfl, rfl, .inr ⟨by decide, by decide⟩, _, rfl, _, _, rfl, rfl, .inl ⟨by decide, by decide⟩, _, _, rfl, rfl, _, _, rfl, rfl, .inl ⟨_, rfl, _, _, rfl, rfl, (by show (2147483629 : Int) ≠ 0; decide), _, _, rfl, rfl, (by show 2 ≤ sizeLine; decide), fun l nl => ?_⟩⟩⟩
      refine q l _ nl (Same.new nl) ⟨_, _, upd_same, ?_, ?_, ?_⟩
      · split <;> omega
      · exact Int.add_nonneg fmod_pos.1 (by decide)
      · exact fmod_pos.2
/-! ### _law_draw -/
abbrev sDraw : Stmt := top 26
abbrev nDraw : List Str := ["_law_rng_here", "_law_many", "_law_digit"]
theorem scDraw : FnScope nDraw ["_law_rng_here", "_law_many"] (defScope sDraw) := ⟨rfl, rfl, rfl, by decide +kernel, rfl, by decide +kernel, by decide +kernel⟩
def spDraw : Sp := fun vs H Q _ => ∃ (r : Addr) (m : Int), vs = [.ref r, .int m] ∧ St r H ∧ 1 ≤ m ∧ m < 1000 ∧ ∀ (d : Nat) H', (d : Int) < m → Off r H H' → St r H' → Q (.int (d : Nat)) H'
theorem ok_draw (B : Bi mg) (D : De K mg "_law_draw" sDraw ["_law_rng_here", "_law_many"]) : Cal P w K mg base 1 "_law_draw" spDraw [] := by
  refine D.cal scDraw (fun vs H Q E h => ?_) (fun f cdv A outer s H vs Q E hr h => ?_)
  · obtain ⟨r, m, rfl, _⟩ := h
    rfl
  · obtain ⟨r, m, rfl, ⟨a, b, h0, ha, hb1, hb2⟩, hm1, hm2, q⟩ := h
    refine ⟨_, pss_cons (ps_if (pt_cmpR op_gt (pe_ix ix_list (pv 0) pe_int (fun _ _ => rfl)) pe_int (nomark _))
        (pss_cons (ps_asg (pe_callB call_divmod (by rfl) B.divmod (by decide +kernel) (pa_cons (pe_ix ix_list (pv 0) pe_int (fun _ _ => rfl)) (pa_cons (pv 1) pa_nil))) (pg_tup rfl (pgs_cons (pg_sub (pv 0) pe_int set_list) (pgs_cons (pg_name (i := 2) scDraw.nd rfl (Or.inl rfl)) pgs_nil))))
          (pss_one (ps_ret (pv 2)))) pss_nil)
      (pss_cons (ps_asg (pe_op op_modN (pe_callTy call_int1 (by rfl) B.int (by decide +kernel) (pa_cons (pe_op op_add (pe_op op_mul (pe_ix ix_list (pv 0) pe_int (fun _ _ => rfl)) pe_int) pe_int) pa_nil)) pe_int) (pg_sub (pv 0) pe_int set_list))
      (pss_one (ps_ret (pe_op op_modN (pe_callTy call_int1 (by rfl) B.int (by decide +kernel) (pa_cons (pe_op op_fdivN (pe_op op_modN (pe_callTy call_int1 (by rfl) B.int (by decide +kernel) (pa_cons (pe_op op_mul (pe_ix ix_list (pv 0) pe_int (fun _ _ => rfl)) (pe_ix ix_list (pv 0) pe_int (fun _ _ => rfl))) pa_nil)) pe_int) pe_int) pa_nil)) (pv 1))))), ?_⟩
    refine ⟨_, rfl, r, _, _, _, rfl, rfl, SqL.of h0, atI_nat (j := 0) rfl, _, _, rfl, rfl, _, rfl, ?_⟩
    by_cases hc : a > 0
    · rw [decide_eq_true hc]
      refine iteT ?_
      refine ⟨_, rfl, r, _, _, _, rfl, rfl, SqL.of h0, atI_nat (j := 0) rfl, _, rfl, _, _, rfl, ⟨(by omega), (by omega)⟩, fun p np => ?_⟩
      have npr : r ≠ p := ne_of_none h0 np
      refine ⟨p, _, rfl, SqT.of upd_same, rfl, _, _, rfl, ?_⟩
      refine ⟨_, rfl, r, _, _, 0, rfl, rfl, (by rw [upd_ne npr]; exact h0), rfl, ?_⟩
      refine ⟨_, _, rfl, rfl, ?_⟩
      have hd : 0 ≤ a % m := Int.emod_nonneg _ (by omega)
      have hd2 : a % m < m := Int.emod_lt_of_pos _ (by omega)
      refine ⟨_, rfl, ?_⟩
      have e : a % m = (((a % m).toNat : Nat) : Int) := by omega
      show Q (.int (a % m)) _
      rw [e]
      refine q _ _ (by omega) ((Off.refl r H).new np).wr ⟨a / m, b, upd_same, Int.ediv_nonneg ha (by omega), hb1, hb2⟩
    · rw [decide_eq_false hc]
      refine iteF ?_
      refine ⟨_, rfl, r, _, _, _, rfl, rfl, SqL.of h0, atI_nat (j := 1) rfl, _, _, rfl, rfl, .inr ⟨by decide, by decide⟩, _, _, rfl, rfl, .inl ⟨_, rfl, _, _, rfl, rfl, (by show (2147483629 : Int) ≠ 0; decide), ?_⟩⟩
      refine ⟨_, rfl, r, _, _, 1, rfl, rfl, h0, rfl, ?_⟩
      have h1 : upd H r (.lst ([.int a, .int b].set 1 (.int ((b * 39373 + 9973).fmod 2147483629)))) r = some (.lst [.int a, .int ((b * 39373 + 9973).fmod 2147483629)]) := upd_same
      have hb0 : 0 ≤ (b * 39373 + 9973).fmod 2147483629 := fmod_pos.1
      have hb3 : (b * 39373 + 9973).fmod 2147483629 < 2147483629 := fmod_pos.2
      refine ⟨_, rfl, r, _, _, _, rfl, rfl, SqL.of h1, atI_nat (j := 1) rfl, _, rfl, r, _, _, _, rfl, rfl, SqL.of h1, atI_nat (j := 1) rfl, _, _, rfl, rfl, .inl ⟨(Int.lt_of_lt_of_le (by decide) hb0), (Int.lt_trans hb3 (by decide))⟩, .inl ⟨_, rfl, _, _, rfl, rfl, (by show (2147483563 : Int) ≠ 0; decide), _, _, rfl, rfl, ⟨by decide, by decide⟩, .inl ⟨_, rfl, _, rfl, _, _, rfl, rfl, (by show m ≠ 0; omega), ?_⟩⟩⟩
      show Q (.int (Int.fmod _ m)) _
      generalize (Int.fmod (Int.mul _ _) 2147483563).fdiv 13 = z
      have hd : 0 ≤ z.fmod m := Int.fmod_nonneg_of_pos _ (by omega)
      have hd2 : z.fmod m < m := Int.fmod_lt_of_pos _ (by omega)
      have e : z.fmod m = (((z.fmod m).toNat : Nat) : Int) := by omega
      rw [e]
      exact q _ _ (by omega) (Off.refl r H).wr ⟨a, _, upd_same, ha, hb0, Int.le_of_lt hb3⟩
/-! ### _law_choice -/
abbrev sChoice : Stmt := top 27
theorem scChoice : FnScope ["_law_rng_here", "_law_some"] ["_law_rng_here", "_law_some"] (defScope sChoice) := ⟨rfl, rfl, rfl, by decide +kernel, rfl, by decide +kernel, by decide +kernel⟩
def spChoice (K : PySem.W.Frag) : Sp := fun vs H Q _ => ∃ (r l : Addr) (xs : List V), vs = [.ref r, .ref l] ∧ St r H ∧ H l = some (.lst xs) ∧ l ≠ r ∧ 1 ≤ xs.length ∧ xs.length < 1000 ∧ ∀ (d : Nat) v H', xs[d]? = some v → Off r H H' → St r H' → Q v H'
theorem ok_choice (B : Bi mg) (D : De K mg "_law_choice" sChoice ["_law_rng_here", "_law_some"]) (GD : Cal P w K mg base 1 "_law_draw" spDraw []) : Cal P w K mg base 2 "_law_choice" (spChoice K) [] := by
  refine D.cal scChoice (fun vs H Q E h => ?_) (fun f cdv A outer s H vs Q E hr h => ?_)
  · obtain ⟨r, l, xs, rfl, _⟩ := h
    rfl
  · obtain ⟨r, l, xs, rfl, hst, hl, hne, h1, h2, q⟩ := h
    refine ⟨_, pss_one (ps_ret (pe_ix ix_list (pv 1) (C8.pe_c GD hr (by decide) rfl (pa_cons (pv 0) (pa_cons (pe_callB call_len_seq (by rfl) B.len PySem.boot_len (pa_cons (pv 1) pa_nil)) pa_nil))) (fun _ _ => rfl))), ?_⟩
    refine ⟨_, rfl, _, rfl, _, rfl, l, xs, rfl, .inl (SqL.of hl), r, _, rfl, hst, (by omega), (by omega), fun d H' hd off hst' => ?_⟩
    have hd2 : d < xs.length := by omega
    refine ⟨l, xs, _, xs[d], rfl, rfl, SqL.of (off l _ hne hl), atI_nat (by simp [hd2]), ?_⟩
    exact q d _ H' (by simp [hd2]) off hst'
end
end KX
end
section
set_option Elab.async false
set_option linter.all false
set_option maxRecDepth 100000
set_option maxHeartbeats 4000000
/-! M1: the mathematics of legs and points. -/
namespace KX
/-! ### units -/
def units (l : List P2) : List P2 := l.flatMap fun q => List.replicate q.1.toNat (1, q.2)
def Psv (l : List P2) : Prop := ∀ q ∈ l, 1 ≤ q.1
theorem Psv.cons {q : P2} {l : List P2} (h : Psv (q :: l)) : 1 ≤ q.1 ∧ Psv l := ⟨h q List.mem_cons_self, fun p hp => h p (List.mem_cons_of_mem _ hp)⟩
theorem Psv.app {a b : List P2} (h : Psv a) (k : Psv b) : Psv (a ++ b) := fun q hq => (List.mem_append.mp hq).elim (h q) (k q)
theorem units_cons (q : P2) (l : List P2) : units (q :: l) = List.replicate q.1.toNat (1, q.2) ++ units l := rfl
theorem units_app (a b : List P2) : units (a ++ b) = units a ++ units b := by
  unfold units
  rw [List.flatMap_append]
theorem mstep_mstep (acc : List P2) (a b s : Int) : mstep (mstep acc (a, s)) (b, s) = mstep acc (a + b, s) := by
  rcases snoc_cases acc with rfl | ⟨m, l, rfl⟩
  · rw [mstep_nil]
    rw [show ([(a, s)] : List P2) = [] ++ [(a, s)] from rfl, mstep_snoc, if_pos rfl]
    rfl
  · rw [mstep_snoc, mstep_snoc]
    by_cases h : l.2 = s
    · rw [if_pos h, if_pos h, mstep_snoc, if_pos rfl]
      show m ++ [(l.1 + a + b, s)] = m ++ [(l.1 + (a + b), s)]
      rw [Int.add_assoc]
    · rw [if_neg h, if_neg h, mstep_snoc, if_pos rfl]
theorem fold_repl (s : Int) : ∀ (n : Nat) (acc : List P2), (List.replicate (n + 1) ((1, s) : P2)).foldl mstep acc = mstep acc (((n + 1 : Nat) : Int), s)
  | 0, acc => rfl
  | n + 1, acc => by
    rw [List.replicate_succ, List.foldl_cons, fold_repl s n, mstep_mstep]
    congr 2
    omega
theorem fold_units : ∀ (l : List P2), Psv l → ∀ acc, (units l).foldl mstep acc = l.foldl mstep acc
  | [], _, acc => rfl
  | (k, s) :: r, h, acc => by
    obtain ⟨h1, h2⟩ := h.cons
    have h1 : 1 ≤ k := h1
    rw [units_cons, List.foldl_append, List.foldl_cons, ← fold_units r h2]
    congr 1
    obtain ⟨n, hn⟩ : ∃ n : Nat, k.toNat = n + 1 := ⟨k.toNat - 1, by omega⟩
    show List.foldl mstep acc (List.replicate k.toNat (1, s)) = mstep acc (k, s)
    rw [hn, fold_repl]
    congr 2
    omega
theorem merged_units {l : List P2} (h : Psv l) : merged (units l) = merged l := fold_units l h []
theorem repl_toNat_add {a b s : Int} (ha : 0 ≤ a) (hb : 0 ≤ b) : List.replicate (a + b).toNat ((1, s) : P2) = List.replicate a.toNat (1, s) ++ List.replicate b.toNat (1, s) := by
  rw [Int.toNat_add ha hb, List.replicate_append_replicate]
theorem mstep_pos {acc : List P2} {q : P2} (h : Psv acc) (hq : 1 ≤ q.1) : Psv (mstep acc q) := by
  rcases snoc_cases acc with rfl | ⟨m, l, rfl⟩
  · intro p hp
    rw [mstep_nil] at hp
    rw [List.mem_singleton.mp hp]
    exact hq
  · rw [mstep_snoc]
    split
    · intro p hp
      rcases List.mem_append.mp hp with z | z
      · exact h p (List.mem_append_left _ z)
      · rw [List.mem_singleton.mp z]
        have := h l (List.mem_append_right _ List.mem_cons_self)
        show 1 ≤ l.1 + q.1
        omega
    · intro p hp
      rcases List.mem_append.mp hp with z | z
      · exact h p z
      · rw [List.mem_singleton.mp z]
        exact hq
theorem mstep_units {acc : List P2} {q : P2} (h : Psv acc) (hq : 1 ≤ q.1) : units (mstep acc q) = units acc ++ units [q] := by
  rcases snoc_cases acc with rfl | ⟨m, l, rfl⟩
  · rfl
  · rw [mstep_snoc]
    split
    · rename_i e
      have hl := h l (List.mem_append_right _ List.mem_cons_self)
      rw [units_app, units_app, List.append_assoc]
      congr 1
      have one : ∀ x : P2, units [x] = List.replicate x.1.toNat (1, x.2) := fun x => by rw [units_cons]; exact List.append_nil _
      rw [one, one, one]
      show List.replicate (l.1 + q.1).toNat (1, q.2) = _
      rw [repl_toNat_add (by omega) (by omega), e]
    · rw [units_app]
theorem fold_pos : ∀ (l : List P2), Psv l → ∀ acc, Psv acc → Psv (l.foldl mstep acc) ∧ units (l.foldl mstep acc) = units acc ++ units l
  | [], _, acc, ha => ⟨ha, (List.append_nil _).symm⟩
  | q :: r, h, acc, ha => by
    obtain ⟨h1, h2⟩ := h.cons
    obtain ⟨i1, i2⟩ := fold_pos r h2 _ (mstep_pos ha h1)
    refine ⟨i1, ?_⟩
    rw [List.foldl_cons, i2, mstep_units ha h1, List.append_assoc]
    congr 1
    rw [← units_app]
    rfl
theorem merged_pos {l : List P2} (h : Psv l) : Psv (merged l) := (fold_pos l h [] fun _ z => by cases z).1
theorem units_merged {l : List P2} (h : Psv l) : units (merged l) = units l := (fold_pos l h [] fun _ z => by cases z).2
theorem merged_eq {a b : List P2} (ha : Psv a) (hb : Psv b) (e : units a = units b) : merged a = merged b := by rw [← merged_units ha, e, merged_units hb]
/-- all legs of one tick -/
def Ones (l : List P2) : Prop := ∀ q ∈ l, q.1 = 1
theorem Ones.pos {l : List P2} (h : Ones l) : Psv l := fun q hq => by rw [h q hq]; decide
theorem units_ones : ∀ {l : List P2}, Ones l → units l = l
  | [], _ => rfl
  | (k, s) :: r, h => by
    have h1 : k = 1 := h (k, s) List.mem_cons_self
    subst h1
    rw [units_cons, units_ones fun q hq => h q (List.mem_cons_of_mem _ hq)]
    rfl
theorem ones_units (l : List P2) : Ones (units l) := fun q hq => by
  obtain ⟨p, _, h⟩ := List.mem_flatMap.mp hq
  rw [(List.mem_replicate.mp h).2]
/-! ### points -/
/-- the points behind c, along unit legs -/
def ptsU (c : P2) : List P2 → List P2
  | [] => []
  | q :: r => (c.1 + 1, c.2 + q.2) :: ptsU (c.1 + 1, c.2 + q.2) r
def pts (c : P2) (l : List P2) : List P2 := ptsU c (units l)
/-- the unit legs between points -/
def legs1 : List P2 → List P2
  | [] => []
  | [_] => []
  | p :: q :: r => (1, q.2 - p.2) :: legs1 (q :: r)
/-- each point one tick behind the one ahead -/
def UP : List P2 → Prop
  | [] => True
  | [_] => True
  | p :: q :: r => q.1 = p.1 + 1 ∧ UP (q :: r)
theorem legs1_ones : ∀ ps : List P2, Ones (legs1 ps)
  | [], _, h => by cases h
  | [_], _, h => by cases h
  | p :: q :: r, x, h => by
    rcases List.mem_cons.mp h with z | z
    · rw [z]
    · exact legs1_ones (q :: r) x z
theorem legs1_pts (c : P2) : ∀ (l : List P2), Ones l → legs1 (c :: ptsU c l) = l := by
  intro l
  induction l generalizing c with
  | nil => exact fun _ => rfl
  | cons q r ih =>
    intro h
    obtain ⟨k, s⟩ := q
    have h1 : k = 1 := h (k, s) List.mem_cons_self
    subst h1
    show (1, c.2 + s - c.2) :: legs1 ((c.1 + 1, c.2 + s) :: ptsU (c.1 + 1, c.2 + s) r) = _
    rw [ih _ fun q hq => h q (List.mem_cons_of_mem _ hq)]
    congr 2
    omega
theorem pts_legs1 : ∀ (c : P2) (ps : List P2), UP (c :: ps) → ptsU c (legs1 (c :: ps)) = ps
  | _, [], _ => rfl
  | c, q :: r, h => by
    show (c.1 + 1, c.2 + (q.2 - c.2)) :: ptsU (c.1 + 1, c.2 + (q.2 - c.2)) (legs1 (q :: r)) = q :: r
    have e : ((c.1 + 1, c.2 + (q.2 - c.2)) : P2) = q := by
      obtain ⟨a, b⟩ := q
      have := h.1
      have h1 : a = c.1 + 1 := this
      rw [h1]
      congr 1
      show c.2 + (b - c.2) = b
      omega
    rw [e, pts_legs1 q r h.2]
theorem up_pts (c : P2) : ∀ l : List P2, UP (c :: ptsU c l) := by
  intro l
  induction l generalizing c with
  | nil => trivial
  | cons q r ih => exact ⟨rfl, ih _⟩
theorem ptsU_app (c : P2) : ∀ a b : List P2, ptsU c (a ++ b) = ptsU c a ++ ptsU ((c :: ptsU c a).getLast (by simp)) b := by
  intro a b
  induction a generalizing c with
  | nil => rfl
  | cons q r ih =>
    show (c.1 + 1, c.2 + q.2) :: ptsU _ (r ++ b) = _
    rw [ih]
    rfl
theorem ptsU_len (c : P2) : ∀ l : List P2, (ptsU c l).length = l.length := by
  intro l
  induction l generalizing c with
  | nil => rfl
  | cons q r ih =>
    show (ptsU _ r).length + 1 = r.length + 1
    rw [ih]
/-- where unit legs lead -/
def endU (c : P2) (l : List P2) : P2 := l.foldl (fun c q => (c.1 + 1, c.2 + q.2)) c
theorem ptsU_last (c : P2) : ∀ l : List P2, (c :: ptsU c l).getLast (by simp) = endU c l := by
  intro l
  induction l generalizing c with
  | nil => rfl
  | cons q r ih =>
    show ((c.1 + 1, c.2 + q.2) :: ptsU _ r).getLast _ = _
    rw [ih]
    rfl
theorem endU_repl (s : Int) : ∀ (n : Nat) (c : P2), endU c (List.replicate n (1, s)) = (c.1 + (n : Nat), c.2 + (n : Nat) * s)
  | 0, c => by
    show c = (c.1 + 0, c.2 + 0 * s)
    rw [Int.zero_mul, Int.add_zero, Int.add_zero]
  | n + 1, c => by
    show endU (c.1 + 1, c.2 + s) (List.replicate n (1, s)) = _
    rw [endU_repl s n]
    have e1 : c.1 + 1 + (n : Nat) = c.1 + ((n + 1 : Nat) : Int) := by omega
    have e2 : c.2 + s + (n : Nat) * s = c.2 + ((n + 1 : Nat) : Int) * s := by
      rw [show ((n + 1 : Nat) : Int) = (n : Int) + 1 by omega, Int.add_mul]
      omega
    show (c.1 + 1 + (n : Nat), c.2 + s + (n : Nat) * s) = _
    rw [e1, e2]
theorem endU_app (c : P2) (a b : List P2) : endU c (a ++ b) = endU (endU c a) b := by
  unfold endU
  rw [List.foldl_append]
theorem endU_units : ∀ (l : List P2) (t p : Int), Psv l → endU (t, p) (units l) = endAt t p l
  | [], t, p, _ => rfl
  | (k, s) :: r, t, p, h => by
    obtain ⟨h1, h2⟩ := h.cons
    have h1 : 1 ≤ k := h1
    rw [units_cons, endU_app, endU_repl]
    have e : ((k.toNat : Nat) : Int) = k := by omega
    show endU (t + (k.toNat : Nat), p + (k.toNat : Nat) * s) (units r) = endAt t p ((k, s) :: r)
    rw [e, endU_units r _ _ h2]
    rfl
end KX
end
section
set_option Elab.async false
set_option linter.all false
set_option maxRecDepth 100000
set_option maxHeartbeats 4000000
/-! M2: corners of a line, and the legs between them. -/
namespace KX
theorem ptsU_append (c : P2) (a b : List P2) : ptsU c (a ++ b) = ptsU c a ++ ptsU (endU c a) b := by
  rw [ptsU_app, ptsU_last]
theorem mem_ptsU_repl {s : Int} : ∀ {n : Nat} {c z : P2}, z ∈ ptsU c (List.replicate n (1, s)) ↔ ∃ j : Nat, 1 ≤ j ∧ j ≤ n ∧ z = (c.1 + (j : Nat), c.2 + (j : Nat) * s)
  | 0, c, z => by
    constructor
    · intro h
      cases h
    · rintro ⟨j, h1, h2, _⟩
      omega
  | n + 1, c, z => by
    rw [List.replicate_succ]
    show z ∈ (c.1 + 1, c.2 + s) :: ptsU (c.1 + 1, c.2 + s) (List.replicate n (1, s)) ↔ _
    rw [List.mem_cons, mem_ptsU_repl]
    have sh : ∀ j : Nat, ((c.1 + 1 + (j : Nat), c.2 + s + (j : Nat) * s) : P2) = (c.1 + ((j + 1 : Nat) : Int), c.2 + ((j + 1 : Nat) : Int) * s) := fun j => by
      have e1 : c.1 + 1 + (j : Nat) = c.1 + ((j + 1 : Nat) : Int) := by omega
      have e2 : c.2 + s + (j : Nat) * s = c.2 + ((j + 1 : Nat) : Int) * s := by
        rw [show ((j + 1 : Nat) : Int) = (j : Int) + 1 by omega, Int.add_mul]
        omega
      rw [e1, e2]
    constructor
    · rintro (rfl | ⟨j, h1, h2, rfl⟩)
      · refine ⟨1, by omega, by omega, ?_⟩
        have := sh 0
        simpa using this
      · exact ⟨j + 1, by omega, by omega, sh j⟩
    · rintro ⟨j, h1, h2, rfl⟩
      by_cases hj : j = 1
      · subst hj
        left
        have := sh 0
        simpa using this.symm
      · right
        refine ⟨j - 1, by omega, by omega, ?_⟩
        have := sh (j - 1)
        rw [show j - 1 + 1 = j by omega] at this
        exact this.symm
theorem pts_cons {c : P2} {k s : Int} {r : List P2} (hk : 1 ≤ k) : pts c ((k, s) :: r) = ptsU c (List.replicate k.toNat (1, s)) ++ pts (c.1 + k, c.2 + k * s) r := by
  unfold pts
  rw [units_cons, ptsU_append, endU_repl]
  show _ ++ ptsU (c.1 + ((k.toNat : Nat) : Int), c.2 + ((k.toNat : Nat) : Int) * s) (units r) = _
  rw [show ((k.toNat : Nat) : Int) = k by omega]
theorem mem_pts {c z : P2} {k s : Int} {r : List P2} (hk : 1 ≤ k) : z ∈ pts c ((k, s) :: r) ↔ (∃ j : Int, 1 ≤ j ∧ j ≤ k ∧ z = (c.1 + j, c.2 + j * s)) ∨ z ∈ pts (c.1 + k, c.2 + k * s) r := by
  rw [pts_cons hk, List.mem_append, mem_ptsU_repl]
  constructor
  · rintro (⟨j, h1, h2, rfl⟩ | h)
    · exact .inl ⟨j, by omega, by omega, rfl⟩
    · exact .inr h
  · rintro (⟨j, h1, h2, rfl⟩ | h)
    · exact .inl ⟨j.toNat, by omega, by omega, by rw [show ((j.toNat : Nat) : Int) = j by omega]⟩
    · exact .inr h
theorem ptsU_gt : ∀ {l : List P2} {c z : P2}, z ∈ ptsU c l → c.1 < z.1
  | [], c, z, h => by cases h
  | q :: r, c, z, h => by
    rcases List.mem_cons.mp h with rfl | h
    · show c.1 < c.1 + 1
      omega
    · have := ptsU_gt h
      have : c.1 + 1 < z.1 := this
      omega
theorem corners_gt : ∀ {l : List P2} {t p : Int} {z : P2}, Psv l → z ∈ cornersFrom t p l → t < z.1
  | [], t, p, z, _, h => by cases h
  | (k, s) :: r, t, p, z, hl, h => by
    obtain ⟨h1, h2⟩ := hl.cons
    have h1 : 1 ≤ k := h1
    rcases List.mem_cons.mp h with rfl | h
    · show t < t + k
      omega
    · have := corners_gt h2 h
      omega
/-- ticks rise -/
def Rise : List P2 → Prop
  | [] => True
  | [_] => True
  | p :: q :: r => p.1 < q.1 ∧ Rise (q :: r)
theorem Rise.lt : ∀ {r : List P2} {p z : P2}, Rise (p :: r) → z ∈ r → p.1 < z.1
  | [], p, z, _, h => by cases h
  | q :: r, p, z, h, hz => by
    rcases List.mem_cons.mp hz with rfl | hz
    · exact h.1
    · exact Int.lt_trans h.1 (Rise.lt h.2 hz)
theorem legB_seg (c : P2) {j s : Int} (hj : 1 ≤ j) : legB c (c.1 + j, c.2 + j * s) = (j, s) ∧ areJ c (c.1 + j, c.2 + j * s) = true := by
  have e1 : c.1 + j - c.1 = j := by omega
  have e2 : c.2 + j * s - c.2 = j * s := by omega
  constructor
  · unfold legB
    show (c.1 + j - c.1, (c.2 + j * s - c.2).fdiv (c.1 + j - c.1)) = (j, s)
    rw [e1, e2, Int.mul_comm, Int.mul_fdiv_cancel _ (by omega)]
  · unfold areJ
    show (decide (c.1 + j - c.1 ≥ 1) && decide ((c.2 + j * s - c.2).fmod (c.1 + j - c.1) = 0)) = true
    rw [e1, e2, Int.mul_comm, Int.mul_fmod_left]
    simp
    omega
theorem Jd.cons {c y : P2} {r : List P2} (h : areJ c y = true) (k : Jd (y :: r)) : Jd (c :: y :: r) := fun i p q h1 h2 => by
  cases i with
  | zero =>
    simp at h1 h2
    subst h1 h2
    exact h
  | succ i => exact k i p q (by simpa using h1) (by simpa using h2)
theorem legs_between : ∀ (ys : List P2) (c : P2) (l : List P2), Psv l → Rise (c :: ys) → (∀ z ∈ ys, z ∈ pts c l) → (∀ z ∈ cornersFrom c.1 c.2 l, z ∈ ys) →
    units (legsOf (c :: ys)) = units l ∧ Psv (legsOf (c :: ys)) ∧ Jd (c :: ys)
  | [], c, l, hp, _, _, hc => by
    cases l with
    | nil => exact ⟨rfl, (fun q hq => by cases hq), (fun i p q h1 h2 => by simp at h2)⟩
    | cons q r =>
      have := hc _ List.mem_cons_self
      cases this
  | y :: rest, c, [], _, _, hy, _ => by
    have := hy y List.mem_cons_self
    cases this
  | y :: rest, c, (k, s) :: r, hp, hr, hy, hc => by
    obtain ⟨hk, hpr⟩ := hp.cons
    have hk : 1 ≤ k := hk
    -- the leg's own end stands among them
    have he : ((c.1 + k, c.2 + k * s) : P2) ∈ y :: rest := hc _ List.mem_cons_self
    have hc2 : ∀ z ∈ cornersFrom (c.1 + k) (c.2 + k * s) r, z ∈ y :: rest := fun z hz => hc z (List.mem_cons_of_mem _ hz)
    have hle : y.1 ≤ c.1 + k := by
      rcases List.mem_cons.mp he with z | z
      · rw [← z]
        exact Int.le_refl _
      · exact Int.le_of_lt (hr.2.lt z)
    obtain ⟨j, j1, j2, ey⟩ : ∃ j : Int, 1 ≤ j ∧ j ≤ k ∧ y = (c.1 + j, c.2 + j * s) := by
      rcases (mem_pts hk).mp (hy y List.mem_cons_self) with h | h
      · exact h
      · have := ptsU_gt h
        have : c.1 + k < y.1 := this
        omega
    obtain ⟨eB, eJ⟩ := legB_seg c (s := s) j1
    rw [← ey] at eB eJ
    have ey1 : y.1 = c.1 + j := by rw [ey]
    have ey2 : y.2 = c.2 + j * s := by rw [ey]
    have fin : ∀ l', units (legsOf (y :: rest)) = units l' → Psv (legsOf (y :: rest)) → Jd (y :: rest) → units ((k, s) :: r) = List.replicate j.toNat (1, s) ++ units l' →
        units (legsOf (c :: y :: rest)) = units ((k, s) :: r) ∧ Psv (legsOf (c :: y :: rest)) ∧ Jd (c :: y :: rest) := fun l' h1 h2 h3 h4 => by
      refine ⟨?_, ?_, Jd.cons eJ h3⟩
      · show units (legB c y :: legsOf (y :: rest)) = _
        rw [units_cons, eB, h1, h4]
      · intro q hq
        rcases List.mem_cons.mp (show q ∈ legB c y :: legsOf (y :: rest) from hq) with z | z
        · rw [z, eB]
          exact j1
        · exact h2 q z
    by_cases hjk : j = k
    · subst hjk
      have ihr : ∀ z ∈ rest, z ∈ pts y r := fun z hz => by
        have hz1 := hr.2.lt hz
        rcases (mem_pts hk).mp (hy z (List.mem_cons_of_mem _ hz)) with ⟨j', a1, a2, rfl⟩ | h
        · have : y.1 < c.1 + j' := hz1
          omega
        · rw [ey]
          exact h
      have ihc : ∀ z ∈ cornersFrom y.1 y.2 r, z ∈ rest := fun z hz => by
        have hz1 := corners_gt hpr hz
        rw [ey1, ey2] at hz
        rcases List.mem_cons.mp (hc2 z hz) with q | q
        · rw [q] at hz1
          omega
        · exact q
      obtain ⟨h1, h2, h3⟩ := legs_between rest y r hpr hr.2 ihr ihc
      exact fin r h1 h2 h3 rfl
    · have hkj : 1 ≤ k - j := by omega
      have e1 : y.1 + (k - j) = c.1 + k := by omega
      have e2 : y.2 + (k - j) * s = c.2 + k * s := by rw [ey2, Int.sub_mul]; omega
      have hp' : Psv ((k - j, s) :: r) := fun q hq => by
        rcases List.mem_cons.mp hq with z | z
        · rw [z]
          exact hkj
        · exact hpr q z
      have ihr : ∀ z ∈ rest, z ∈ pts y ((k - j, s) :: r) := fun z hz => by
        have hz1 := hr.2.lt hz
        refine (mem_pts hkj).mpr ?_
        rw [e1, e2]
        rcases (mem_pts hk).mp (hy z (List.mem_cons_of_mem _ hz)) with ⟨j', a1, a2, rfl⟩ | h
        · have hz2 : y.1 < c.1 + j' := hz1
          refine .inl ⟨j' - j, by omega, by omega, ?_⟩
          have f1 : c.1 + j' = y.1 + (j' - j) := by omega
          have f2 : c.2 + j' * s = y.2 + (j' - j) * s := by rw [ey2, Int.sub_mul]; omega
          rw [f1, f2]
        · exact .inr h
      have ihc : ∀ z ∈ cornersFrom y.1 y.2 ((k - j, s) :: r), z ∈ rest := fun z hz => by
        have hz1 := corners_gt hp' hz
        have hz' : z ∈ (y.1 + (k - j), y.2 + (k - j) * s) :: cornersFrom (y.1 + (k - j)) (y.2 + (k - j) * s) r := hz
        rw [e1, e2] at hz'
        rcases List.mem_cons.mp (hc z hz') with q | q
        · rw [q] at hz1
          omega
        · exact q
      obtain ⟨h1, h2, h3⟩ := legs_between rest y ((k - j, s) :: r) hp' hr.2 ihr ihc
      refine fin _ h1 h2 h3 ?_
      rw [units_cons, units_cons, ← List.append_assoc]
      congr 1
      show List.replicate k.toNat (1, s) = List.replicate j.toNat (1, s) ++ List.replicate (k - j).toNat (1, s)
      rw [← repl_toNat_add (by omega) (by omega)]
      congr 1
      omega
end KX
end
section
set_option Elab.async false
set_option linter.all false
set_option maxRecDepth 100000
set_option maxHeartbeats 4000000
/-! E2: the law's models and points. -/
namespace KX
open PySem PySem.Spec PyProof.Rows L2
theorem SqT.off {K : PySem.W.Frag} {r : Addr} {H H' : Hp} {a : Addr} {xs zs : List V} (e : Off r H H') (hr : H r = some (.lst zs)) (h : SqT K H a xs) : SqT K H' a xs := by
  rcases h with (h | ⟨o, h⟩) | h
  · exact .inl (.inl (e _ _ (ne_of h hr (by intro z; cases z)) h))
  · exact .inl (.inr ⟨o, e _ _ (ne_of h hr (by intro z; cases z)) h⟩)
  · exact .inr h
theorem Pr.off {K : PySem.W.Frag} {r : Addr} {H H' : Hp} {v : V} {p : P2} (e : Off r H H') (hr : St r H) (h : Pr K H v p) : Pr K H' v p := let ⟨t, a, b⟩ := h; let ⟨_, _, c, _⟩ := hr; ⟨t, a, SqT.off e c b⟩
theorem Prs.off {K : PySem.W.Frag} {r : Addr} {H H' : Hp} {xs : List V} {ps : List P2} (e : Off r H H') (hr : St r H) (h : Prs K H xs ps) : Prs K H' xs ps := L2.Paired.mapP h fun _ _ q => q.off e hr
/-- what _law_model gives: a first point and rows -/
def ModelV (K : PySem.W.Frag) (H : Hp) (v : V) (x y : Int) (rows : List P2) : Prop := ∃ t l xs, v = .ref t ∧ SqT K H t [.int x, .int y, .ref l] ∧ H l = some (.lst xs) ∧ Prs K H xs rows
def RowOk (q : P2) : Prop := 1 ≤ q.1 ∧ q.1 ≤ 4 ∧ -7 ≤ q.2 ∧ q.2 ≤ 7
section
variable {P : Program} {w : World} {K : PySem.W.Frag} {mg : Str → Option Value} {base : Heap}
abbrev sModel : Stmt := top 28
abbrev nModel : List Str := ["_law_rng_here", "_law_most", "_law_rows", "_law_turn"]
theorem scModel : FnScope nModel ["_law_rng_here", "_law_most"] (defScope sModel) := ⟨rfl, rfl, rfl, by decide +kernel, rfl, by decide +kernel, by decide +kernel⟩
def spModel (K : PySem.W.Frag) : Sp := fun vs H Q _ => ∃ (r : Addr) (m : Nat), vs = [.ref r, .int (m : Nat)] ∧ St r H ∧ m ≤ 5 ∧
  ∀ v H' (x y : Int) rows, -10 ≤ x → x ≤ 10 → -20 ≤ y → y ≤ 20 → rows.length ≤ m → (∀ q ∈ rows, RowOk q) → ModelV K H' v x y rows → Off r H H' → St r H' → Q v H'
theorem ok_model (B : Bi mg) (D : De K mg "_law_model" sModel ["_law_rng_here", "_law_most"]) (GD : Cal P w K mg base 1 "_law_draw" spDraw []) (GC : Cal P w K mg base 2 "_law_choice" (spChoice K) []) : Cal P w K mg base 3 "_law_model" (spModel K) [] := by
  refine D.cal scModel (fun vs H Q E h => ?_) (fun f cdv A outer s H vs Q E hr h => ?_)
  · obtain ⟨r, m, rfl, _⟩ := h
    rfl
  · obtain ⟨r, m, rfl, st, hm, q⟩ := h
    refine ⟨_, pss_cons (ps_set (i := 2) scModel.nd rfl (Or.inl rfl) (pe_lst pa_nil))
      (pss_cons (ps_for PassesOwn.never rfl (pi_range1 rfl B.range (pa_cons (C8.pe_c GD hr (by decide) rfl (pa_cons (pv 0) (pa_cons (pe_op op_add (pv 1) pe_int) pa_nil))) pa_nil)) (pg_name (i := 3) scModel.nd rfl (Or.inl rfl))
        (pss_one (ps_expr (pe_bm PySem.F.plainAttrs_list PySem.F.slot_list_append PySem.F.type_list_append mt_append (pv 2) (pa_cons (pe_tup (pa_cons (pe_op op_add pe_int (C8.pe_c GD hr (by decide) rfl (pa_cons (pv 0) (pa_cons pe_int pa_nil))))
          (pa_cons (C8.pe_c GC hr (by decide) rfl (pa_cons (pv 0) (pa_cons (pe_lst (pa_cons pe_int (pa_cons pe_int (pa_cons pe_int (pa_cons (pe_un un_neg pe_int) (pa_cons pe_int (pa_cons (pe_un un_neg pe_int) (pa_cons pe_int pa_nil)))))))) pa_nil))) pa_nil))) pa_nil)))))
      (pss_one (ps_ret (pe_tup (pa_cons (pe_op op_sub (C8.pe_c GD hr (by decide) rfl (pa_cons (pv 0) (pa_cons pe_int pa_nil))) pe_int) (pa_cons (pe_op op_sub (C8.pe_c GD hr (by decide) rfl (pa_cons (pv 0) (pa_cons pe_int pa_nil))) pe_int) (pa_cons (pv 2) pa_nil))))))), ?_⟩
    refine ⟨Nat.zero_le _, fun l hl => ?_⟩
    have hlr : l ≠ r := fun z => by
      obtain ⟨_, _, h, _⟩ := st
      rw [← z, hl] at h
      cases h
    have st0 : St r (upd H l (.lst [])) := st.same (Same.new hl)
    refine ⟨_, rfl, _, rfl, _, _, rfl, rfl, r, _, rfl, st0, (by omega), (by omega), fun n H1 hn o1 st1 => ?_⟩
    have off1 : Off r H H1 := Off.trans (Off.of (Same.new hl)) o1
    have hl1 : H1 l = some (.lst []) := o1 _ _ hlr upd_same
    refine ⟨_, rfl, (by omega), (by omega), ?_⟩
    refine for_range (lo := 0) (n := n) (fun i σ H' => ∃ u xs rows, σ = [some (.ref r), some (.int (m : Nat)), some (.ref l), u] ∧ Off r H H' ∧ St r H' ∧ H' l = some (.lst xs) ∧ Prs K H' xs rows ∧ rows.length = i ∧ ∀ q ∈ rows, RowOk q)
      ⟨none, [], [], rfl, off1, st1, hl1, .nil, rfl, fun q hq => by cases hq⟩ ?_ ?_
    · rintro i σ H2 hi ⟨u, xs, rows, rfl, o2, st2, hx, px, hlen, hok⟩
      have hxl := Prs.length px
      refine ⟨_, rfl, .inl ⟨rfl, _, SqL.of hx⟩, _, rfl, r, _, rfl, st2, (by decide), (by decide), fun d H3 hd o3 st3 => ?_⟩
      refine ⟨_, _, rfl, rfl, _, rfl, _, rfl, _, rfl, (by show 7 ≤ sizeLine; decide), fun l2 nl2 => ?_⟩
      have st4 := st3.same (Same.new (o := .lst [.int 0, .int 0, .int 1, .int (-1), .int 2, .int (-3), .int 7]) nl2)
      have hl2r : l2 ≠ r := fun z => by
        obtain ⟨_, _, h, _⟩ := st3
        rw [← z, nl2] at h
        cases h
      refine ⟨r, l2, _, rfl, st4, upd_same, hl2r, (by show 1 ≤ 7; decide), (by show 7 < 1000; decide), fun d2 v H5 hd2 o5 st5 => ?_⟩
      obtain ⟨z, rfl, z1, z2⟩ : ∃ z : Int, v = .int z ∧ -7 ≤ z ∧ z ≤ 7 := by
        have := List.mem_of_getElem? hd2
        simp only [List.mem_cons, List.not_mem_nil, or_false] at this
        rcases this with rfl | rfl | rfl | rfl | rfl | rfl | rfl <;> exact ⟨_, rfl, by decide, by decide⟩
      have o25 : Off r H2 H5 := Off.trans (Off.trans o3 (Off.of (Same.new nl2))) o5
      have hx5 := o25 _ _ hlr hx
      refine ⟨(by show 2 ≤ sizeLine; decide), fun t nt => ?_⟩
      have hx6 := Same.new (o := .tup [.int (1 + (d : Nat)), .int z]) nt _ _ hx5
      refine ⟨l, _, _, rfl, rfl, hx6, (by rw [sizeLine_eq]; omega), _, _, rows ++ [((1 + (d : Nat) : Int), z)], rfl, ?_, ?_, upd_same, ?_, by simp [hlen], fun q hq => ?_⟩
      · intro b o hb e
        have hbl : b ≠ l := fun q => by rw [q, hl] at e; cases e
        have := Off.trans o2 o25 b o hb e
        rw [upd_ne hbl]
        exact Same.new nt _ _ this
      · obtain ⟨a1, b1, h1, h2⟩ := st5
        exact ⟨a1, b1, by rw [upd_ne (Ne.symm hlr)]; exact Same.new nt _ _ h1, h2⟩
      · exact Prs.snoc ((Prs.same (Same.new nt) (Prs.off o25 st2 px)).lst hx6) ((Pr.new upd_same).lst hx6)
      · rcases List.mem_append.mp hq with h | h
        · exact hok q h
        · rw [List.mem_singleton.mp h]
          exact ⟨by show (1 : Int) ≤ 1 + (d : Nat); omega, by show (1 : Int) + (d : Nat) ≤ 4; omega, z1, z2⟩
    · rintro σ H2 ⟨u, xs, rows, rfl, o2, st2, hx, px, hlen, hok⟩
      refine ⟨_, rfl, r, _, rfl, st2, (by decide), (by decide), fun d1 H3 hd1 o3 st3 => ?_⟩
      refine ⟨_, _, rfl, rfl, _, rfl, r, _, rfl, st3, (by decide), (by decide), fun d2 H4 hd2 o4 st4 => ?_⟩
      refine ⟨_, _, rfl, rfl, _, rfl, (by show 3 ≤ sizeLine; decide), fun t nt => ?_⟩
      have o24 := Off.trans o3 o4
      refine q _ _ ((d1 : Nat) - 10) ((d2 : Nat) - 20) rows (by omega) (by omega) (by omega) (by omega) (by omega) hok ⟨t, l, xs, rfl, SqT.of upd_same, Same.new nt _ _ (o24 _ _ hlr hx), Prs.same (Same.new nt) (Prs.off o24 st2 px)⟩ (Off.new (Off.trans o2 o24) nt) (st4.same (Same.new nt))
/-! ### _law_points -/
abbrev sPts : Stmt := top 29
abbrev nPts : List Str := ["_law_model_here", "_law_now", "_law_spot", "_law_rows", "_law_found", "_law_length", "_law_pace", "_law_turn"]
theorem scPts : FnScope nPts ["_law_model_here"] (defScope sPts) := ⟨rfl, rfl, rfl, by decide +kernel, rfl, by decide +kernel, by decide +kernel⟩
def spPts (K : PySem.W.Frag) : Sp := fun vs H Q _ => ∃ (v : V) (x y : Int) (rows : List P2), vs = [v] ∧ ModelV K H v x y rows ∧ rows.length ≤ 5 ∧ (∀ q ∈ rows, RowOk q) ∧ ∀ fl zs H', Same H H' → H fl = none → H' fl = some (.lst zs) → Prs K H' zs ((x, y) :: pts (x, y) rows) → Q (.ref fl) H'
theorem units_take {rows : List P2} {i : Nat} {q : P2} (h : rows[i]? = some q) : units (rows.take (i + 1)) = units (rows.take i) ++ List.replicate q.1.toNat (1, q.2) := by
  rw [List.take_add_one, h]
  show units (rows.take i ++ [q]) = _
  rw [units_app, units_cons]
  show _ ++ (_ ++ ([] : List P2)) = _
  rw [List.append_nil]
theorem units_len : ∀ rows : List P2, (∀ q ∈ rows, RowOk q) → (units rows).length ≤ 4 * rows.length
  | [], _ => Nat.le_refl _
  | q :: r, h => by
    have h1 := h q List.mem_cons_self
    have h2 := units_len r fun p hp => h p (List.mem_cons_of_mem _ hp)
    rw [units_cons, List.length_append, List.length_replicate, List.length_cons]
    have := h1.2.1
    omega
theorem ptsU_snoc (c : P2) (l : List P2) (q : P2) : c :: ptsU c (l ++ [q]) = (c :: ptsU c l) ++ [((endU c l).1 + 1, (endU c l).2 + q.2)] := by
  rw [ptsU_append]
  rfl
theorem endU_snoc (c : P2) (l : List P2) (q : P2) : endU c (l ++ [q]) = ((endU c l).1 + 1, (endU c l).2 + q.2) := by
  rw [endU_app]
  rfl
theorem ok_pts (B : Bi mg) (D : De K mg "_law_points" sPts ["_law_model_here"]) : Cal P w K mg base 1 "_law_points" (spPts K) [] := by
  refine D.cal scPts (fun vs H Q E h => ?_) (fun f cdv A outer s H vs Q E hr h => ?_)
  · obtain ⟨v, x, y, rows, rfl, _⟩ := h
    rfl
  · obtain ⟨v, x, y, rows, rfl, ⟨t, l, xs, rfl, ht, hl, hp⟩, hlen, hok, q⟩ := h
    have hxl := Prs.length hp
    refine ⟨_, pss_cons (ps_asg (pv 0) (pg_tup rfl (pgs_cons (pg_name (i := 1) scPts.nd rfl (Or.inl rfl)) (pgs_cons (pg_name (i := 2) scPts.nd rfl (Or.inl rfl)) (pgs_cons (pg_name (i := 3) scPts.nd rfl (Or.inl rfl)) pgs_nil)))))
      (pss_cons (ps_set (i := 4) scPts.nd rfl (Or.inl rfl) (pe_lst (pa_cons (pe_tup (pa_cons (pv 1) (pa_cons (pv 2) pa_nil))) pa_nil)))
      (pss_cons (ps_for PassesOwn.never rfl (pi_sq (pv 3)) (pg_tup rfl (pgs_cons (pg_name (i := 5) scPts.nd rfl (Or.inl rfl)) (pgs_cons (pg_name (i := 6) scPts.nd rfl (Or.inl rfl)) pgs_nil)))
        (pss_one (ps_for PassesOwn.never rfl (pi_range1 rfl B.range (pa_cons (pv 5) pa_nil)) (pg_name (i := 7) scPts.nd rfl (Or.inl rfl))
          (pss_cons (ps_par (i := 1) (j := 2) (by rfl) scPts.nd rfl rfl (by decide) rfl rfl (pa_cons (pe_op op_add (pv 1) pe_int) (pa_cons (pe_op op_add (pv 2) (pv 6)) pa_nil)) (by rfl))
          (pss_one (ps_expr (pe_bm PySem.F.plainAttrs_list PySem.F.slot_list_append PySem.F.type_list_append mt_append (pv 4) (pa_cons (pe_tup (pa_cons (pv 1) (pa_cons (pv 2) pa_nil))) pa_nil))))))))
      (pss_one (ps_ret (pv 4))))), ?_⟩
    refine ⟨_, rfl, t, _, rfl, ht, rfl, _, _, rfl, _, _, rfl, _, _, rfl, rfl, ?_⟩
    refine ⟨_, rfl, _, rfl, (by show 2 ≤ sizeLine; decide), fun t1 nt1 => ⟨(by show 1 ≤ sizeLine; decide), fun fl hfl => ?_⟩⟩
    have s1 := Same.new (o := .tup [.int x, .int y]) nt1
    have s2 := Same.then s1 hfl (o := .lst [.ref t1])
    have hf0 : H fl = none := s1.free hfl
    refine ⟨_, rfl, l, xs, H, rfl, .inl (SqL.of hl), s2, fun J G' W hG => ?_⟩
    refine for_it W (fun i σ H' => ∃ u1 u2 u3 zs, σ = [some (.ref t), some (.int (endU (x, y) (units (rows.take i))).1), some (.int (endU (x, y) (units (rows.take i))).2), some (.ref l), some (.ref fl), u1, u2, u3] ∧ Same H H' ∧ H' fl = some (.lst zs) ∧ Prs K H' zs ((x, y) :: ptsU (x, y) (units (rows.take i))))
      ⟨none, none, none, [.ref t1], rfl, s2, upd_same, .cons ((Pr.new upd_same).same (Same.new hfl)) .nil⟩ (fun i σ H' _ ⟨_, _, _, _, _, z, _⟩ => hG H' z) ?_ ?_
    · rintro i xx σ H1 H2 hi ⟨u1, u2, u3, zs, rfl, s3, hz, pz⟩ ⟨rfl, e2⟩
      obtain ⟨⟨k, v⟩, hp1, ⟨T, rfl, hT⟩⟩ := Prs.of hp e2
      have hT2 := Same.seqT s3 hT
      have rk := hok _ (List.mem_of_getElem? hp1)
      have rk1 : 1 ≤ k := rk.1
      have rk2 : k ≤ 4 := rk.2.1
      have hul := units_len (rows.take i) fun q hq => hok q (List.mem_of_mem_take hq)
      rw [List.length_take] at hul
      refine ⟨T, [.int k, .int v], rfl, hT2, rfl, _, _, rfl, _, _, rfl, rfl, ?_⟩
      refine ⟨_, rfl, k, rfl, (by omega), (by omega), ?_⟩
      refine for_range (lo := 0) (n := k.toNat) (fun j σ H' => ∃ u3 zs, σ = [some (.ref t), some (.int (endU (x, y) (units (rows.take i) ++ List.replicate j (1, v))).1), some (.int (endU (x, y) (units (rows.take i) ++ List.replicate j (1, v))).2), some (.ref l), some (.ref fl), some (.int k), some (.int v), u3] ∧ Same H H' ∧ H' fl = some (.lst zs) ∧ Prs K H' zs ((x, y) :: ptsU (x, y) (units (rows.take i) ++ List.replicate j (1, v))))
        ⟨u3, zs, by rw [List.replicate_zero, List.append_nil]; rfl, s3, hz, by rw [List.replicate_zero, List.append_nil]; exact pz⟩ ?_ ?_
      · rintro j σ H3 hj ⟨u4, ws, rfl, s4, hw, pw⟩
        have hwl := Prs.length pw
        rw [List.length_cons, ptsU_len, List.length_append, List.length_replicate] at hwl
        have er : units (rows.take i) ++ List.replicate (j + 1) ((1, v) : P2) = (units (rows.take i) ++ List.replicate j (1, v)) ++ [(1, v)] := by rw [List.replicate_succ', List.append_assoc]
        refine ⟨_, rfl, _, _, rfl, rfl, _, rfl, _, rfl, _, _, rfl, rfl, _, _, rfl, ?_⟩
        refine ⟨_, rfl, .inl ⟨rfl, _, SqL.of hw⟩, _, rfl, _, rfl, (by show 2 ≤ sizeLine; decide), fun t2 nt2 => ⟨fl, _, _, rfl, rfl, Same.new nt2 _ _ hw, (by rw [sizeLine_eq]; omega), some (.int (0 + (j : Nat))), ws ++ [.ref t2], ?_, Same.wr (Same.then s4 nt2) hf0, upd_same, ?_⟩⟩
        · rw [er, endU_snoc]
          rfl
        · rw [er, ptsU_snoc]
          exact Prs.snoc ((Prs.same (Same.new nt2) pw).lst (Same.new nt2 _ _ hw)) ((Pr.new upd_same).lst (Same.new nt2 _ _ hw))
      · rintro σ H3 ⟨u4, ws, rfl, s4, hw, pw⟩
        rw [← units_take (q := (k, v)) hp1] at pw ⊢
        exact ⟨_, _, _, ws, rfl, s4, hw, pw⟩
    · rintro σ H' ⟨u1, u2, u3, zs, rfl, s3, hz, pz⟩
      rw [List.take_of_length_le (by omega)] at pz
      exact ⟨_, rfl, q _ _ _ s3 hf0 hz pz⟩
end
end KX
end
section
set_option Elab.async false
set_option linter.all false
set_option maxRecDepth 100000
set_option maxHeartbeats 4000000
/-! E3: the law's legs, what is due, corners. -/
namespace KX
open PySem PySem.Spec PyProof.Rows L2
theorem legs1_len : ∀ ps : List P2, (legs1 ps).length = ps.length - 1
  | [] => rfl
  | [_] => rfl
  | p :: q :: r => by
    show (legs1 (q :: r)).length + 1 = _
    rw [legs1_len (q :: r)]
    simp
theorem legs1_get : ∀ {ps : List P2} {i : Nat} {p q : P2}, ps[i]? = some p → ps[i + 1]? = some q → (legs1 ps)[i]? = some (1, q.2 - p.2)
  | [], i, p, q, h, _ => by simp at h
  | [_], i, p, q, _, h => by simp at h
  | a :: b :: r, 0, p, q, h1, h2 => by
    simp at h1 h2
    subst h1 h2
    rfl
  | a :: b :: r, i + 1, p, q, h1, h2 => by
    show (legs1 (b :: r))[i]? = _
    exact legs1_get (by simpa using h1) (by simpa using h2)
section
variable {P : Program} {w : World} {K : PySem.W.Frag} {mg : Str → Option Value} {base : Heap}
/-! ### _law_legs -/
abbrev sLegs : Stmt := top 31
abbrev nLegs : List Str := ["_law_points_here", "_law_at"]
theorem scLegs : FnScope nLegs ["_law_points_here"] (defScope sLegs) := ⟨rfl, rfl, rfl, by decide +kernel, rfl, by decide +kernel, by decide +kernel⟩
def spLegs (K : PySem.W.Frag) : Sp := fun vs H Q _ => ∃ v ps, vs = [v] ∧ Lst K H v ps ∧ ps.length ≤ 500 ∧ ∀ v' H', Same H H' → Tpl K H' v' (merged (legs1 ps)) → Q v' H'
theorem ok_legs (B : Bi mg) (D : De K mg "_law_legs" sLegs ["_law_points_here"]) (GM : Cal P w K mg base 1 "_law_merged" (spJoined K) []) : Cal P w K mg base 2 "_law_legs" (spLegs K) [] := by
  refine D.cal scLegs (fun vs H Q E h => ?_) (fun f cdv A outer s H vs Q E hr h => ?_)
  · obtain ⟨v, ps, rfl, _⟩ := h
    rfl
  · obtain ⟨v, ps, rfl, ⟨a, xs, rfl, hs, hp⟩, hlen, q⟩ := h
    have hxl := Prs.length hp
    refine ⟨_, pss_one (ps_ret (C8.pe_c GM hr (by decide) rfl (pa_cons (pe_lc (g := gName 1) (own := [("_law_at", 1)]) rfl scLegs.nd (pi_range1 rfl B.range (pa_cons (pe_op op_sub (pe_callB call_len_seq (by rfl) B.len PySem.boot_len (pa_cons (pv 0) pa_nil)) pe_int) pa_nil)) (blkOk_by (N := nLegs) (sc := defScope sLegs) (by decide +kernel))
        (fun _ _ _ _ _ => pg_name (i := 1) scLegs.nd rfl (Or.inl rfl) (.inr rfl)) (fun _ _ _ _ _ => pts_nil)
        (fun _ _ _ _ _ => pe_tup (pa_cons pe_int (pa_cons (pe_op op_sub (pe_ix (ixT K rfl) (pe_ix (ixL K rfl) (pv 0) (pe_op op_add (pv 1) pe_int) (fun _ _ => rfl)) pe_int (fun _ _ => rfl)) (pe_ix (ixT K rfl) (pe_ix (ixL K rfl) (pv 0) (pv 1) (fun _ _ => rfl)) pe_int (fun _ _ => rfl))) pa_nil)))) pa_nil))), ?_⟩
    refine ⟨_, rfl, a, xs, rfl, .inl hs, _, _, rfl, rfl, (xs.length : Int) - 1, rfl, (by omega), (by omega), fun D nD => ?_⟩
    refine lc_range (lo := 0) (n := ((xs.length : Int) - 1).toNat) (fun j H2 => Same H H2 ∧ ∃ zs, H2 D = some (.lst zs) ∧ Prs K H2 zs ((legs1 ps).take j)) ⟨Same.new nD, [], upd_same, .nil⟩ ?_ ?_
    · rintro j H2 hjn ⟨s2, zs, hD, pz⟩
      have g1 : ps[j]? = some (ps[j]'(by omega)) := List.getElem?_eq_getElem (by omega)
      have g2 : ps[j + 1]? = some (ps[j + 1]'(by omega)) := List.getElem?_eq_getElem (by omega)
      obtain ⟨v1, hv1, ⟨t1, rfl, r1⟩⟩ := Prs.get hp g1
      obtain ⟨v2, hv2, ⟨t2, rfl, r2⟩⟩ := Prs.get hp g2
      generalize ps[j]'_ = l1 at *
      generalize ps[j + 1]'_ = l2 at *
      have c0 : (0 : Int) + (j : Nat) = ((j : Nat) : Int) := by omega
      have c1 : (0 : Int) + (j : Nat) + 1 = ((j + 1 : Nat) : Int) := by omega
      refine ⟨rfl, ?_⟩
      refine ⟨_, rfl, _, rfl, _, _, rfl, rfl, a, xs, _, _, rfl, rfl, s2.seq hs, (by show atI xs ((0 : Int) + (j : Nat) + 1) = some (.ref t2); rw [c1]; exact atI_nat hv2), t2, _, _, _, rfl, rfl, Same.seqT s2 r2, atI_nat (j := 1) rfl, ?_⟩
      refine ⟨_, rfl, _, rfl, a, xs, _, _, rfl, rfl, s2.seq hs, (by rw [c0]; exact atI_nat hv1), t1, _, _, _, rfl, rfl, Same.seqT s2 r1, atI_nat (j := 1) rfl, _, _, rfl, rfl, (by show 2 ≤ sizeLine; decide), fun t nt => ?_⟩
      have hzl := Prs.length pz
      rw [List.length_take] at hzl
      have hD2 := Same.new (o := .tup [.int 1, .int (l2.2 - l1.2)]) nt _ _ hD
      refine ⟨zs, hD2, (by rw [sizeLine_eq]; omega), Same.wr (Same.then s2 nt) nD, _, upd_same, ?_⟩
      have et : (legs1 ps).take (j + 1) = (legs1 ps).take j ++ [(1, l2.2 - l1.2)] := by rw [List.take_add_one, legs1_get g1 g2]; rfl
      rw [et]
      exact Prs.snoc ((Prs.same (Same.new nt) pz).lst hD2) ((Pr.new upd_same).lst hD2)
    · rintro H2 ⟨s2, zs, hD, pz⟩
      rw [List.take_of_length_le (by rw [legs1_len]; omega)] at pz
      exact ⟨_, legs1 ps, rfl, ⟨D, zs, rfl, .inl (SqL.of hD), pz⟩, (by rw [legs1_len]; omega), fun w H3 e3 hw => q w H3 (Same.trans s2 e3) hw⟩
/-! ### _law_due -/
abbrev sDue : Stmt := top 34
abbrev nDue : List Str := ["_law_points_here", "_law_rows"]
theorem scDue : FnScope nDue ["_law_points_here"] (defScope sDue) := ⟨rfl, rfl, rfl, by decide +kernel, rfl, by decide +kernel, by decide +kernel⟩
/-- the line of these points -/
def lnOf (c : P2) (l : List P2) : LD := ⟨c.1, c.2, merged l⟩
/-- what is due of a line -/
def dueV (l : LD) : List V := if 3 < l.legs.length then [.str "legs", .str "None", .bl true] else [.str "line", .str l.text]
def spDue (K : PySem.W.Frag) : Sp := fun vs H Q _ => ∃ v c ps, vs = [v] ∧ Lst K H v (c :: ps) ∧ ps.length ≤ 400 ∧ (lnOf c (legs1 (c :: ps))).small ∧ ∀ l H', Same H H' → H l = none → H' l = some (.lst (dueV (lnOf c (legs1 (c :: ps))))) → Q (.ref l) H'
structure CalG (P : Program) (w : World) (K : PySem.W.Frag) (mg : Str → Option Value) (base : Heap) (k : Nat) (x : Str) (sp : Sp) : Prop where
  ex : ∃ (f : Addr) (fd : FuncData) (ps : List Str), FnG P w K mg base CX0 k f fd ps sp ∧ mg x = some (.ref f) ∧ PySem.W.keepIn K (.ref f) = true ∧ L2.Binds K fd ps []
theorem De.calG {x : Str} {st : Stmt} {N ps : List Str} {k : Nat} {sp : Sp} (D : De K mg x st ps) (S : FnScope N ps (defScope st)) (len : ∀ vs H Q E, sp vs H Q E → vs.length = ps.length)
    (hbody : ∀ (f : Addr) (cdv : Value) (A : Around) (outer : List Env) (s : Shared) (H : Hp) (vs : List V) (Q : VK) (E : XK), Gd A → Room k (A.deeper (envOfC x (defScope st) s.heap.objs.size f cdv)) → sp vs H Q E →
      ∃ t, PSs (cxOf CX0 P w K mg base N x (defScope st) f cdv A outer s H E).nox (defBody st) t ∧ t { nx := fun _ H' => Q .non H', rt := Q } (L2.start N vs) H) : CalG P w K mg base (k + 1) x sp := by
  obtain ⟨f, fd, F, hm, b⟩ := D.ex
  exact ⟨f, fd, ps, okG F S len (fun cdv A outer s H vs Q E gd hr h => hbody f cdv A outer s H vs Q E gd hr h), hm, F.kp, b⟩
end
section
variable {X : Cx} {k j : Nat} {x : Str} {sp : Sp} {p pos : Pos} {e : Expr} {es : List Expr} {t : TA}
theorem pe_cG (c : CalG X.prog X.w X.K X.mg X.base k x sp) (g : Gd X.A) (hr : Room j X.A) (hk : k ≤ j) (hg : Gl X x) (ha : PA X (e :: es) t) (hdb : (x == ("__debug__" : Str)) = false := by decide)
    (he : starEach (e :: es) X.env = (false, eval e X.env) :: starEach es X.env := by rfl) (hpl : (backTo pos (starEach es X.env)).any (·.1) = false := by rfl) : PE X (.Call (.Name x p) (e :: es) [] pos) (tCall sp [] E0 t) := by
  obtain ⟨f, fd, ps, F, hm, kp, b⟩ := c.ex
  exact pe_callG F g (hr.mono hk) hg hm kp b pass0 ha hdb he hpl
theorem pe_cG0 (c : CalG X.prog X.w X.K X.mg X.base k x sp) (g : Gd X.A) (hr : Room j X.A) (hk : k ≤ j) (hg : Gl X x) (hdb : (x == ("__debug__" : Str)) = false := by decide) : PE X (.Call (.Name x p) [] [] pos) (fun _ H Q => sp [] H Q E0) := by
  obtain ⟨f, fd, ps, F, hm, kp, b⟩ := c.ex
  exact pe_callG0 F g (hr.mono hk) hg hm kp b pass0 hdb
end
section
variable {P : Program} {w : World} {K : PySem.W.Frag} {mg : Str → Option Value} {base : Heap}
/-- what repr of a line asks of the top -/
structure ReF (P : Program) (w : World) (K : PySem.W.Frag) (mg : Str → Option Value) (base : Heap) (C : Addr) : Prop where
  ex : ∃ fR, RpOk P w K mg base C fR ∧ PySem.W.findIn K (.ref C) "__repr__" = some (some (.ref fR)) ∧ PySem.W.isFn K (.ref fR) = true
theorem SmI.rpv {C : Addr} {H : Hp} {i : Int} (h : SmI i) : RpV K C H (.int i) (toString i : Str) :=
  RpV.dat (d := .int i) (.int i) (by simp [PyData.showable, h.log]) rfl (by simp [PyData.depth]) (by
    have := h.len
    show ((toString i : Str)).length ≤ 1000
    omega)
theorem Tpl.rpv {C : Addr} {H : Hp} {v : V} {ps : List P2} (h : Tpl K H v ps) (hs : SmL ps) : RpV K C H v (legsText ps) :=
  RpV.dat h.dp hs.show (noDict_map ps) (by have := depth_map ps; simp only [PyData.depth]; omega) (by have := hs.len; show (legsText ps).length ≤ 1000; omega)
theorem ok_due (B : Bi mg) {C : Addr} (R : ReF P w K mg base C) (D : De K mg "_law_due" sDue ["_law_points_here"]) (GL : Cal P w K mg base 2 "_law_legs" (spLegs K) []) : CalG P w K mg base 3 "_law_due" (spDue K) := by
  obtain ⟨fR, rok, ra, rf⟩ := R.ex
  refine D.calG scDue (fun vs H Q E h => ?_) (fun f cdv A outer s H vs Q E gd hr h => ?_)
  · obtain ⟨v, c, ps, rfl, _⟩ := h
    rfl
  · obtain ⟨v, c, ps, rfl, hv, hlen, hsm, q⟩ := h
    have rp : RpF (cxOf CX0 P w K mg base nDue "_law_due" (defScope sDue) f cdv A outer s H E).nox C fR := ⟨gd, by have := hr.dp; show (A.deeper _).depth + 5 < _; omega, by have := hr.un; show (A.deeper _).units + 100 < _; omega, rok, ra, rf⟩
    refine ⟨_, pss_cons (ps_set (i := 1) scDue.nd rfl (Or.inl rfl) (C8.pe_c GL hr (by decide) rfl (pa_cons (pv 0) pa_nil)))
      (pss_cons (ps_if (pt_cmpR op_gt (pe_callB call_len_seq (by rfl) B.len PySem.boot_len (pa_cons (pv 1) pa_nil)) pe_int (nomark _)) (pss_one (ps_ret (pe_lst (pa_cons pe_str (pa_cons pe_str (pa_cons pe_bl pa_nil)))))) pss_nil)
      (pss_one (ps_ret (pe_lst (pa_cons pe_str (pa_cons (pe_op op_add_str (pe_op op_add_str (pe_op op_add_str (pe_op op_add_str (pe_op op_add_str (pe_op op_add_str pe_str (pe_callB (call_rpK K rfl rp) (by rfl) B.repr boot_rp (pa_cons (pe_ix ix_tup (pe_ix ix_list (pv 0) pe_int (fun _ _ => rfl)) pe_int (fun _ _ => rfl)) pa_nil))) pe_str)
        (pe_callB (call_rpK K rfl rp) (by rfl) B.repr boot_rp (pa_cons (pe_ix ix_tup (pe_ix ix_list (pv 0) pe_int (fun _ _ => rfl)) pe_int (fun _ _ => rfl)) pa_nil))) pe_str) (pe_callB (call_rpK K rfl rp) (by rfl) B.repr boot_rp (pa_cons (pv 1) pa_nil))) pe_str) pa_nil)))))), ?_⟩
    refine ⟨_, rfl, v, c :: ps, rfl, hv, (by rw [List.length_cons]; omega), fun w H1 e1 hw => ?_⟩
    have hv1 := hv.same e1
    obtain ⟨a, xs, rfl, hs, hp⟩ := hv1
    obtain ⟨wa, ws, rfl, hws, pws⟩ := id hw
    have nw := Prs.length pws
    refine ⟨_, rfl, wa, ws, rfl, .inr hws, _, _, rfl, rfl, _, rfl, ?_⟩
    have el : (lnOf c (legs1 (c :: ps))).legs = merged (legs1 (c :: ps)) := rfl
    unfold dueV at q
    rw [el] at q
    by_cases h3 : 3 < (merged (legs1 (c :: ps))).length
    · rw [if_pos h3] at q
      have e : decide ((ws.length : Int) > 3) = true := decide_eq_true (by rw [nw]; omega)
      rw [e]
      refine iteT ?_
      exact ⟨(by show 3 ≤ sizeLine; decide), fun l nl => q l _ (Same.then e1 nl) (e1.free nl) upd_same⟩
    · rw [if_neg h3] at q
      have e : decide ((ws.length : Int) > 3) = false := decide_eq_false (by rw [nw]; omega)
      rw [e]
      refine iteF ?_
      obtain ⟨v0, hv0, ⟨T0, rfl, hT0⟩⟩ := Prs.get hp (i := 0) (p := c) rfl
      have z1 := hsm.1.len
      have z2 := hsm.2.1.len
      have z3 := SmL.len hsm.2.2
      have z1' : ((toString c.1 : Str)).length ≤ 10 := z1
      have z2' : ((toString c.2 : Str)).length ≤ 10 := z2
      have z3' : (legsText (merged (legs1 (c :: ps)))).length ≤ 211 := z3
      have e1' : ((("Line(" : String) : Str)).length = 5 := rfl
      have e2' : (((", " : String) : Str)).length = 2 := rfl
      have e3' : (((")" : String) : Str)).length = 1 := rfl
      refine ⟨_, rfl, a, xs, _, _, rfl, rfl, hs, atI_nat (j := 0) hv0, T0, _, _, _, rfl, rfl, hT0, atI_nat (j := 0) rfl, _, _, rfl, SmI.rpv hsm.1, _, _, rfl, rfl, line_le (by omega), ?_⟩
      refine ⟨_, _, rfl, rfl, line_le (by rw [strLen_append]; omega), ?_⟩
      refine ⟨_, rfl, a, xs, _, _, rfl, rfl, hs, atI_nat (j := 0) hv0, T0, _, _, _, rfl, rfl, hT0, atI_nat (j := 1) rfl, _, _, rfl, SmI.rpv hsm.2.1, _, _, rfl, rfl, line_le (by rw [strLen_append, strLen_append]; omega), ?_⟩
      refine ⟨_, _, rfl, rfl, line_le (by rw [strLen_append, strLen_append, strLen_append]; omega), ?_⟩
      refine ⟨_, rfl, _, _, rfl, Tpl.rpv hw hsm.2.2, _, _, rfl, rfl, line_le (by rw [strLen_append, strLen_append, strLen_append, strLen_append]; omega), ?_⟩
      refine ⟨_, _, rfl, rfl, line_le (by rw [strLen_append, strLen_append, strLen_append, strLen_append, strLen_append]; omega), ?_⟩
      exact ⟨(by show 2 ≤ sizeLine; decide), fun l nl => q l _ (Same.then e1 nl) (e1.free nl) upd_same⟩
end
end KX
end
section
set_option Elab.async false
set_option linter.all false
set_option maxRecDepth 100000
set_option maxHeartbeats 4000000
/-! M3: corners drawn among the points. -/
namespace KX
open L2
theorem nodup_le {α : Type} [BEq α] [LawfulBEq α] : ∀ (l D : List α), l.Nodup → (∀ x ∈ l, x ∈ D) → l.length ≤ D.length
  | [], D, _, _ => Nat.zero_le _
  | x :: l, D, h, hs => by
    obtain ⟨h1, h2⟩ := List.nodup_cons.mp h
    have hx := hs x List.mem_cons_self
    have := nodup_le l (D.erase x) h2 fun y hy => (List.mem_erase_of_ne (fun e => h1 (by rw [← e]; exact hy))).mpr (hs y (List.mem_cons_of_mem _ hy))
    rw [List.length_erase_of_mem hx] at this
    have hpos := List.length_pos_of_mem hx
    rw [List.length_cons]
    omega
theorem rise_pw : ∀ {l : List P2}, Rise l → l.Pairwise fun p q => p.1 < q.1
  | [], _ => List.Pairwise.nil
  | [p], _ => List.pairwise_singleton _ _
  | p :: q :: r, h => List.pairwise_cons.mpr ⟨fun z hz => Rise.lt h hz, rise_pw h.2⟩
theorem pw_rise : ∀ {l : List P2}, (l.Pairwise fun p q => p.1 < q.1) → Rise l
  | [], _ => trivial
  | [p], _ => trivial
  | p :: q :: r, h => ⟨(List.pairwise_cons.mp h).1 q List.mem_cons_self, pw_rise (List.pairwise_cons.mp h).2⟩
theorem up_rise : ∀ {l : List P2}, UP l → Rise l
  | [], _ => trivial
  | [p], _ => trivial
  | p :: q :: r, h => ⟨by have := h.1; omega, up_rise h.2⟩
theorem pw_inj : ∀ {l : List P2} {p q : P2}, (l.Pairwise fun p q => p.1 < q.1) → p ∈ l → q ∈ l → p.1 = q.1 → p = q
  | [], p, q, _, h, _, _ => by cases h
  | x :: l, p, q, h, hp, hq, e => by
    obtain ⟨h1, h2⟩ := List.pairwise_cons.mp h
    rcases List.mem_cons.mp hp with z1 | z1
    · rcases List.mem_cons.mp hq with z2 | z2
      · rw [z1, z2]
      · have := h1 q z2
        rw [← z1] at this
        omega
    · rcases List.mem_cons.mp hq with z2 | z2
      · have := h1 p z1
        rw [← z2] at this
        omega
      · exact pw_inj h2 z1 z2 e
theorem sorted_corners {c : P2} {ps ys' fs : List P2} (hu : UP (c :: ps)) (hm : ∀ z, z ∈ ys' ↔ z ∈ fs) (hf : ∀ z ∈ fs, z ∈ c :: ps) (hc : c ∈ fs) (nd : ys'.Nodup) (pw : ys'.Pairwise fun q r => SrtO.lexB r q = false) :
    ∃ ys, ys' = c :: ys ∧ Rise (c :: ys) ∧ (∀ z ∈ ys, z ∈ ps) ∧ ∀ z ∈ fs, c.1 < z.1 → z ∈ ys := by
  have hr := rise_pw (up_rise hu)
  have pl : ys'.Pairwise fun p q => p.1 < q.1 := by
    refine List.Pairwise.imp_of_mem (fun {p q} hp hq ⟨h1, h2⟩ => ?_) (List.Pairwise.and nd pw)
    have n := SrtO.lexB_no.mp h2
    rcases Int.lt_trichotomy p.1 q.1 with h | h | h
    · exact h
    · exact absurd (pw_inj hr (hf p ((hm p).mp hp)) (hf q ((hm q).mp hq)) h) h1
    · exact absurd (Or.inl h) n
  have hcy : c ∈ ys' := (hm c).mpr hc
  cases ys' with
  | nil => cases hcy
  | cons y rest =>
    have hy : y ∈ c :: ps := hf y ((hm y).mp List.mem_cons_self)
    have hge : ∀ z ∈ c :: ps, c.1 ≤ z.1 := fun z hz => by
      rcases List.mem_cons.mp hz with rfl | hz
      · exact Int.le_refl _
      · exact Int.le_of_lt ((List.pairwise_cons.mp hr).1 z hz)
    have ey : y = c := by
      rcases List.mem_cons.mp hcy with h | h
      · exact h.symm
      · have := (List.pairwise_cons.mp pl).1 c h
        have := hge y hy
        omega
    subst ey
    refine ⟨rest, rfl, pw_rise pl, fun z hz => ?_, fun z hz hlt => ?_⟩
    · have h1 := (List.pairwise_cons.mp pl).1 z hz
      rcases List.mem_cons.mp (hf z ((hm z).mp (List.mem_cons_of_mem _ hz))) with rfl | h
      · omega
      · exact h
    · rcases List.mem_cons.mp ((hm z).mpr hz) with rfl | h
      · omega
      · exact h
theorem get_ptsU (c : P2) : ∀ (u : List P2) (n : Nat), n ≤ u.length → (c :: ptsU c u)[n]? = some (endU c (u.take n)) := by
  intro u
  induction u generalizing c with
  | nil =>
    intro n hn
    have : n = 0 := by simpa using hn
    subst this
    rfl
  | cons q r ih =>
    intro n hn
    cases n with
    | zero => rfl
    | succ n =>
      show ((c.1 + 1, c.2 + q.2) :: ptsU (c.1 + 1, c.2 + q.2) r)[n]? = _
      rw [ih _ n (by simpa using hn)]
      rfl
theorem units_take_pre (ms : List P2) (i : Nat) : (units ms).take (units (ms.take i)).length = units (ms.take i) ∧ (units (ms.take i)).length ≤ (units ms).length := by
  have e : units ms = units (ms.take i) ++ units (ms.drop i) := by rw [← units_app, List.take_append_drop]
  constructor
  · rw [e, List.take_left']
    rfl
  · rw [e, List.length_append]
    omega
theorem corner_at {c : P2} {ms : List P2} (h : Psv ms) (i : Nat) : (c :: pts c ms)[(units (ms.take i)).length]? = some (endAt c.1 c.2 (ms.take i)) := by
  obtain ⟨h1, h2⟩ := units_take_pre ms i
  unfold pts
  rw [get_ptsU c _ _ h2, h1]
  rw [show endU c (units (ms.take i)) = endAt c.1 c.2 (ms.take i) from endU_units _ c.1 c.2 fun q hq => h q (List.mem_of_mem_take hq)]
end KX
end
section
set_option Elab.async false
set_option linter.all false
set_option maxRecDepth 100000
set_option maxHeartbeats 4000000
/-! E4: the law's corners. -/
namespace KX
open PySem PySem.Spec PyProof.Rows L2
section
variable {P : Program} {w : World} {K : PySem.W.Frag} {mg : Str → Option Value} {base : Heap}
theorem Prs.keys {H : Hp} : ∀ {zs : List V} {fs : List P2}, Prs K H zs fs → ∃ ks : List (Addr × List Int), zs = ks.map (fun p => V.ref p.1) ∧ (∀ p ∈ ks, SqT K H p.1 (p.2.map V.int) ∧ p.2.length = 2) ∧ ks.map (fun p => kOf p.2) = fs
  | _, _, .nil => ⟨[], rfl, (fun p hp => by cases hp), rfl⟩
  | _, p :: fs, .cons r t => by
    obtain ⟨a, rfl, h⟩ := r
    obtain ⟨ks, h1, h2, h3⟩ := Prs.keys t
    refine ⟨(a, [p.1, p.2]) :: ks, by rw [h1]; rfl, fun q hq => ?_, by rw [List.map_cons, h3]; rfl⟩
    rcases List.mem_cons.mp hq with z | z
    · rw [z]
      exact ⟨h, rfl⟩
    · exact h2 q z
theorem len_two {ns : List Int} (h : ns.length = 2) : ∃ x y, ns = [x, y] := by
  match ns, h with
  | [x, y], _ => exact ⟨x, y, rfl⟩
theorem Prs.ofKeys {H : Hp} {L : List (Addr × List Int)} : (∀ p ∈ L, SqT K H p.1 (p.2.map V.int) ∧ p.2.length = 2) → Prs K H (L.map fun p => V.ref p.1) (L.map fun p => kOf p.2) := by
  induction L with
  | nil => exact fun _ => .nil
  | cons q L ih =>
    intro h
    obtain ⟨a, ns⟩ := q
    obtain ⟨h1, h2⟩ := h (a, ns) List.mem_cons_self
    obtain ⟨x, y, rfl⟩ := len_two h2
    exact .cons ⟨a, rfl, h1⟩ (ih fun p hp => h p (List.mem_cons_of_mem _ hp))
theorem kOf_inj {a b : List Int} (ha : a.length = 2) (hb : b.length = 2) (e : kOf a = kOf b) : a = b := by
  match a, b, ha, hb with
  | [x, y], [x', y'], _, _ =>
    have h1 : x = x' := congrArg Prod.fst e
    have h2 : y = y' := congrArg Prod.snd e
    rw [h1, h2]
abbrev sCs : Stmt := top 35
abbrev nCs : List Str := ["_law_rng_here", "_law_points_here", "_law_found", "_law_at", "_law_length", "_law_pace", "_law_turn"]
theorem scCs : FnScope nCs ["_law_rng_here", "_law_points_here"] (defScope sCs) := ⟨rfl, rfl, rfl, by decide +kernel, rfl, by decide +kernel, by decide +kernel⟩
/-- what the corners are -/
structure CsOk (c : P2) (ps ys : List P2) : Prop where
  rise : Rise (c :: ys)
  sub : ∀ z ∈ ys, z ∈ ps
  cor : ∀ z ∈ cornersFrom c.1 c.2 (merged (legs1 (c :: ps))), z ∈ ys
  len : ys.length ≤ (merged (legs1 (c :: ps))).length + 2
def spCs (K : PySem.W.Frag) : Sp := fun vs H Q _ => ∃ (r a : Addr) (xs : List V) (c : P2) (ps : List P2), vs = [.ref r, .ref a] ∧ St r H ∧ H a = some (.lst xs) ∧ a ≠ r ∧ Prs K H xs (c :: ps) ∧ UP (c :: ps) ∧ ps.length ≤ 40 ∧ (merged (legs1 (c :: ps))).length ≤ 10 ∧
  ∀ (p : Addr) (zs : List V) (ys : List P2) (H' : Hp), Off r H H' → St r H' → H p = none → H' p = some (.lst zs) → Prs K H' zs (c :: ys) → CsOk c ps ys → Q (.ref p) H'
theorem SqT.none {H : Hp} {a p : Addr} {o : HO} {xs : List V} (h : SqT K H a xs) (hp : H p = none) : SqT K (upd H p o) a xs := Same.seqT (Same.new hp) h
/-- H without what stands at l -/
def rm (l : Addr) (H : Hp) : Hp := fun b => if b = l then none else H b
theorem rm_same (l : Addr) (H : Hp) : Same (rm l H) H := fun b u e => by
  unfold rm at e
  split at e
  · cases e
  · exact e
theorem rm_none (l : Addr) (H : Hp) : rm l H l = none := if_pos rfl
theorem SqT.rm {l a : Addr} {H : Hp} {xs zs : List V} (h : SqT K H a xs) (hl : H l = some (.lst zs)) : SqT K (rm l H) a xs := by
  rcases h with (h | ⟨ob, h⟩) | h
  · exact .inl (.inl (by unfold KX.rm; rw [if_neg (ne_of h hl (by intro z; cases z))]; exact h))
  · exact .inl (.inr ⟨ob, by unfold KX.rm; rw [if_neg (ne_of h hl (by intro z; cases z))]; exact h⟩)
  · exact .inr h
theorem corners_sub : ∀ {ms : List P2} {c z : P2}, Psv ms → z ∈ cornersFrom c.1 c.2 ms → z ∈ pts c ms
  | [], c, z, _, h => by cases h
  | (k, v) :: r, c, z, hp, h => by
    obtain ⟨h1, h2⟩ := hp.cons
    have h1 : 1 ≤ k := h1
    rcases List.mem_cons.mp h with e | h
    · rw [e]
      exact (mem_pts h1).mpr (.inl ⟨k, h1, Int.le_refl _, rfl⟩)
    · exact (mem_pts h1).mpr (.inr (corners_sub (c := (c.1 + k, c.2 + k * v)) h2 h))
theorem Off.wrN {r fl : Addr} {H H' : Hp} {o : HO} (e : Off r H H') (h : H fl = Option.none) : Off r H (upd H' fl o) := fun b u hb q => by rw [upd_ne (fun z => by rw [z, h] at q; cases q)]; exact e b u hb q
theorem St.ne {r fl : Addr} {H : Hp} {o : HO} (h : St r H) (hn : fl ≠ r) : St r (upd H fl o) := let ⟨a, b, h1, h2⟩ := h; ⟨a, b, by rw [upd_ne (Ne.symm hn)]; exact h1, h2⟩
theorem ok_cs (B : Bi mg) (D : De K mg "_law_corners" sCs ["_law_rng_here", "_law_points_here"]) (GL : Cal P w K mg base 2 "_law_legs" (spLegs K) []) (GD : Cal P w K mg base 1 "_law_draw" spDraw []) (GC : Cal P w K mg base 2 "_law_choice" (spChoice K) []) :
    Cal P w K mg base 3 "_law_corners" (spCs K) [] := by
  refine D.cal scCs (fun vs H Q E h => ?_) (fun f cdv A outer s H vs Q E hr h => ?_)
  · obtain ⟨r, a, xs, c, ps, rfl, _⟩ := h
    rfl
  · obtain ⟨r, a, xs, c, ps, rfl, st, ha, har, hp, hu, hlen, hml, q⟩ := h
    have hxl := Prs.length hp
    rw [List.length_cons] at hxl
    refine ⟨_, pss_cons (ps_par (i := 2) (j := 3) (by rfl) scCs.nd rfl rfl (by decide) rfl rfl (pa_cons (pe_lst (pa_cons (pe_ix ix_list (pv 1) pe_int (fun _ _ => rfl)) pa_nil)) (pa_cons pe_int pa_nil)) (by rfl))
      (pss_cons (ps_for PassesOwn.never rfl (pi_sq (C8.pe_c GL hr (by decide) rfl (pa_cons (pv 1) pa_nil))) (pg_tup rfl (pgs_cons (pg_name (i := 4) scCs.nd rfl (Or.inl rfl)) (pgs_cons (pg_name (i := 5) scCs.nd rfl (Or.inl rfl)) pgs_nil)))
        (pss_cons (ps_set (i := 3) scCs.nd rfl (Or.inl rfl) (pe_op op_add (pv 3) (pv 4))) (pss_one (ps_expr (pe_bm PySem.F.plainAttrs_list PySem.F.slot_list_append PySem.F.type_list_append mt_append (pv 2) (pa_cons (pe_ix ix_list (pv 1) (pv 3) (fun _ _ => rfl)) pa_nil))))))
      (pss_cons (ps_for PassesOwn.never rfl (pi_range1 rfl B.range (pa_cons (C8.pe_c GD hr (by decide) rfl (pa_cons (pv 0) (pa_cons pe_int pa_nil))) pa_nil)) (pg_name (i := 6) scCs.nd rfl (Or.inl rfl))
        (pss_one (ps_expr (pe_bm PySem.F.plainAttrs_list PySem.F.slot_list_append PySem.F.type_list_append mt_append (pv 2) (pa_cons (C8.pe_c GC hr (by decide) rfl (pa_cons (pv 0) (pa_cons (pv 1) pa_nil))) pa_nil)))))
      (pss_one (ps_ret (pe_callB (cr_sortedSP rfl) (by rfl) B.sorted (by decide +kernel) (pa_cons (pe_callTy (cr_setOfT rfl hr.units) (by rfl) B.set (by decide +kernel) (pa_cons (pv 2) pa_nil)) pa_nil)))))), ?_⟩
    obtain ⟨v0, hv0, hc0⟩ := Prs.get hp (i := 0) (p := c) rfl
    refine ⟨_, rfl, a, xs, _, _, rfl, rfl, SqL.of ha, atI_nat (j := 0) hv0, (by show 1 ≤ sizeLine; decide), fun fl hfl => ?_⟩
    have s1 := Same.new (o := .lst [v0]) hfl
    have hflr : fl ≠ r := fun z => by
      obtain ⟨_, _, h, _⟩ := st
      rw [← z, hfl] at h
      cases h
    refine ⟨_, _, rfl, ?_⟩
    refine ⟨_, rfl, _, c :: ps, rfl, ⟨a, xs, rfl, SqL.of (s1 _ _ ha), Prs.same s1 hp⟩, (by rw [List.length_cons]; omega), fun w H1 e1 hw => ?_⟩
    obtain ⟨wa, ws, rfl, hws, pws⟩ := id hw
    have nw := Prs.length pws
    have s2 := Same.trans s1 e1
    have hms : Psv (merged (legs1 (c :: ps))) := merged_pos (legs1_ones _).pos
    have hpts : c :: pts c (merged (legs1 (c :: ps))) = c :: ps := by
      unfold pts
      rw [units_merged (legs1_ones _).pos, units_ones (legs1_ones _), pts_legs1 c ps hu]
    generalize hM : merged (legs1 (c :: ps)) = ms at *
    have hfl1 : H1 fl = some (.lst [v0]) := e1 _ _ upd_same
    refine ⟨wa, ws, rm fl H1, rfl, .inr (SqT.rm hws hfl1), rm_same _ _, fun J G' W hG => ?_⟩
    refine for_it W (fun i σ H' => ∃ u1 u2 zs, σ = [some (.ref r), some (.ref a), some (.ref fl), some (.int ((units (ms.take i)).length : Nat)), u1, u2, none] ∧ Same (rm fl H1) H' ∧ Same H H' ∧ H' fl = some (.lst zs) ∧ Prs K H' zs (c :: cornersFrom c.1 c.2 (ms.take i)))
      ⟨none, none, [v0], rfl, rm_same _ _, s2, e1 _ _ upd_same, .cons (hc0.same s2) .nil⟩ (fun i σ H' _ ⟨_, _, _, _, z, _⟩ => hG H' z) ?_ ?_
    · rintro i x σ H2 H3 hi ⟨u1, u2, zs, rfl, s13, s3, hz, pz⟩ ⟨rfl, e2⟩
      obtain ⟨⟨k, v⟩, hp1, ⟨T, rfl, hT⟩⟩ := Prs.of pws e2
      have hk : 1 ≤ k := hms (k, v) (List.mem_of_getElem? hp1)
      have hzl := Prs.length pz
      rw [List.length_cons, cornersFrom_len, List.length_take] at hzl
      have et : ms.take (i + 1) = ms.take i ++ [(k, v)] := by rw [List.take_add_one, hp1]; rfl
      have eu : ((units (ms.take (i + 1))).length : Int) = ((units (ms.take i)).length : Nat) + k := by
        rw [units_take hp1, List.length_append, List.length_replicate]
        show (((units (ms.take i)).length + k.toNat : Nat) : Int) = _
        omega
      have hcor := corner_at (c := c) hms (i + 1)
      rw [hpts] at hcor
      obtain ⟨v1, hv1, r1⟩ := Prs.get hp hcor
      refine ⟨T, [.int k, .int v], rfl, Same.seqT s13 (SqT.rm hT hfl1), rfl, _, _, rfl, _, _, rfl, rfl, ?_⟩
      refine ⟨_, rfl, _, rfl, _, _, rfl, rfl, ?_⟩
      refine ⟨_, rfl, .inl ⟨rfl, _, SqL.of hz⟩, _, rfl, _, rfl, a, xs, _, v1, rfl, rfl, SqL.of (s3 _ _ ha), (by show atI xs (((units (ms.take i)).length : Nat) + k) = some v1; rw [← eu]; exact atI_nat hv1), ?_⟩
      refine ⟨fl, _, _, rfl, rfl, hz, (by rw [sizeLine_eq]; omega), some (.int k), some (.int v), zs ++ [v1], ?_, ?_, Same.wr s3 hfl, upd_same, ?_⟩
      · rw [eu]
        rfl
      · exact Same.wr s13 (rm_none _ _)
      · have ec : c :: cornersFrom c.1 c.2 (ms.take (i + 1)) = (c :: cornersFrom c.1 c.2 (ms.take i)) ++ [endAt c.1 c.2 (ms.take (i + 1))] := by
          rw [et, endAt_snoc]
          exact corners_snoc c.1 c.2 (ms.take i) (k, v)
        rw [ec]
        exact Prs.snoc (pz.lst hz) ((r1.same s3).lst hz)
    · rintro σ H2 ⟨u1, u2, zs, rfl, _, s3, hz, pz⟩
      rw [List.take_of_length_le (by omega)] at pz
      have st2 := st.same s3
      refine ⟨_, rfl, r, _, rfl, st2, (by decide), (by decide), fun n H3 hn o3 st3 => ?_⟩
      refine ⟨_, rfl, (by omega), (by omega), ?_⟩
      have o3' := Off.trans (Off.of s3) o3
      refine for_range (lo := 0) (n := n) (fun i σ H' => ∃ u zs ex, σ = [some (.ref r), some (.ref a), some (.ref fl), some (.int ((units (ms.take ws.length)).length : Nat)), u1, u2, u] ∧ Off r H H' ∧ St r H' ∧ H' fl = some (.lst zs) ∧ Prs K H' zs (c :: cornersFrom c.1 c.2 ms ++ ex) ∧ ex.length = i ∧ ∀ q ∈ ex, q ∈ c :: ps)
        ⟨none, zs, [], rfl, o3', st3, o3 _ _ hflr hz, by rw [List.append_nil]; exact Prs.off o3 st2 pz, rfl, fun q hq => by cases hq⟩ ?_ ?_
      · rintro i σ H4 hi ⟨u, zs4, ex, rfl, o4, st4, hz4, pz4, hex, hexm⟩
        have hzl := Prs.length pz4
        rw [List.length_append, List.length_cons, cornersFrom_len] at hzl
        refine ⟨_, rfl, .inl ⟨rfl, _, SqL.of hz4⟩, _, rfl, _, rfl, r, a, xs, rfl, st4, o4 _ _ har ha, har, (by omega), (by omega), fun d v H5 hd o5 st5 => ?_⟩
        obtain ⟨q5, hq5, rq5⟩ := Prs.of hp hd
        have hz5 := o5 _ _ hflr hz4
        refine ⟨fl, _, _, rfl, rfl, hz5, (by rw [sizeLine_eq]; omega), some (.int (0 + (i : Nat))), zs4 ++ [v], ex ++ [q5], rfl, Off.wrN (Off.trans o4 o5) hfl, st5.ne hflr, upd_same, ?_, by simp [hex], fun q hq => ?_⟩
        · rw [← List.append_assoc]
          exact Prs.snoc ((Prs.off o5 st4 pz4).lst hz5) ((Pr.off (Off.trans o4 o5) st rq5).lst hz5)
        · rcases List.mem_append.mp hq with h | h
          · exact hexm q h
          · rw [List.mem_singleton.mp h]
            exact List.mem_of_getElem? hq5
      · rintro σ H4 ⟨u, zs4, ex, rfl, o4, st4, hz4, pz4, hex, hexm⟩
        have hzl := Prs.length pz4
        rw [List.length_append, List.length_cons, cornersFrom_len] at hzl
        obtain ⟨ks, rfl, hk, ek⟩ := Prs.keys pz4
        rw [List.length_map] at hzl
        refine ⟨_, rfl, fl, ks, rfl, SqL.of hz4, (fun p hp => (hk p hp).1), (by omega), fun sa L na hL1 hL2 => ?_⟩
        have s5 := Same.new (o := SetTO P w sa L) na
        refine ⟨sa, L, rfl, upd_same, (fun p hp => ⟨Same.seqT s5 (hk p (hL1 p hp)).1, (hk p (hL1 p hp)).2⟩), fun L' p pm nd pw np => ?_⟩
        have s6 := Same.then s5 np (o := .lst (L'.map fun q => V.ref q.1))
        have hL' : ∀ q ∈ L', SqT K (upd (upd H4 sa (SetTO P w sa L)) p (.lst (L'.map fun q => V.ref q.1))) q.1 (q.2.map V.int) ∧ q.2.length = 2 := fun q hq => by
          have := hk q (hL1 q (pm.mem_iff.mp hq))
          exact ⟨Same.seqT s6 this.1, this.2⟩
        have hm : ∀ z : P2, z ∈ L'.map (fun q => kOf q.2) ↔ z ∈ c :: cornersFrom c.1 c.2 ms ++ ex := fun z => by
          rw [← ek]
          constructor
          · intro hz
            obtain ⟨q, hq, e⟩ := List.mem_map.mp hz
            exact List.mem_map.mpr ⟨q, hL1 q (pm.mem_iff.mp hq), e⟩
          · intro hz
            obtain ⟨q, hq, e⟩ := List.mem_map.mp hz
            obtain ⟨q', hq', e'⟩ := List.mem_map.mp (hL2 q hq)
            exact List.mem_map.mpr ⟨q', pm.mem_iff.mpr hq', by rw [e']; exact e⟩
        have hf : ∀ z ∈ c :: cornersFrom c.1 c.2 ms ++ ex, z ∈ c :: ps := fun z hz => by
          rcases List.mem_append.mp hz with h | h
          · rcases List.mem_cons.mp h with e | h
            · rw [e]
              exact List.mem_cons_self
            · rw [← hpts]
              exact List.mem_cons_of_mem _ (corners_sub hms h)
          · exact hexm z h
        have nd' : (L'.map fun q => kOf q.2).Nodup := by
          have h1 : L'.Pairwise fun q r => q.2 ≠ r.2 := List.pairwise_map.mp nd
          refine List.pairwise_map.mpr (List.Pairwise.imp_of_mem (fun {q r} hq hr hne e => hne ?_) h1)
          exact kOf_inj (hL' q hq).2 (hL' r hr).2 e
        obtain ⟨ys, ey, y1, y2, y3⟩ := sorted_corners hu hm hf (List.mem_append_left _ List.mem_cons_self) nd' (List.pairwise_map.mpr pw)
        have hlen' := nodup_le _ _ nd' fun x hx => (hm x).mp hx
        rw [ey, List.length_append, List.length_cons, List.length_cons, cornersFrom_len] at hlen'
        refine q p _ ys _ (Off.trans o4 (Off.of s6)) (st4.same s6) ?_ upd_same ?_ ⟨y1, y2, fun z hz => ?_, ?_⟩
        · have n1 : H4 p = none := s5.free np
          cases e : H p with
          | none => rfl
          | some ob =>
            by_cases hpr : p = r
            · obtain ⟨_, _, h, _⟩ := st4
              rw [hpr, h] at n1
              cases n1
            · rw [o4 p ob hpr e] at n1
              cases n1
        · have := Prs.ofKeys hL'
          rw [ey] at this
          exact this
        · rw [hM] at hz
          exact y3 z (List.mem_append_left _ (List.mem_cons_of_mem _ hz)) (corners_gt hms hz)
        · rw [hM]
          omega
end
end KX
end
section
set_option Elab.async false
set_option linter.all false
set_option maxRecDepth 100000
set_option maxHeartbeats 4000000
/-! E5: _law_through (its lines were printed by a small program: gen_thr.py). -/
namespace KX
open PySem PySem.Spec PyProof.Rows L2
theorem decV_f {i j : Int} (h : i ≠ j) : decide (V.int i = V.int j) = false := decide_eq_false fun z => by injection z with z; exact h z
theorem decV_t {i j : Int} (h : i = j) : decide (V.int i = V.int j) = true := decide_eq_true (by rw [h])
theorem ite_lenF {i j : Int} {A B : Prop} (h : i ≠ j) (b : B) : if decide (V.int i = V.int j) = true then A else B := by
  rw [decV_f h]
  exact iteF b
theorem ite_lenT {i j : Int} {A B : Prop} (h : i = j) (a : A) : if decide (V.int i = V.int j) = true then A else B := by
  rw [decV_t h]
  exact iteT a
/-- what through makes of these values -/
def ThCase (K : PySem.W.Frag) (C CLg : Addr) (H : Hp) (xs : List V) (Q : VK) (E : XK) : Prop :=
  (xs = [] ∧ Rz H E CLg "position" .non) ∨ (∃ i, BadAt K H xs i ∧ Rz H E CLg "position" (.int (i : Nat))) ∨
   (∃ c ps, Prs K H xs (c :: ps) ∧ Jd (c :: ps) ∧ (∀ q ∈ c :: ps, q.1.natAbs < 100000) ∧ (3 < (ThB (c :: ps)).length → Rz H E CLg "position" .non) ∧
     ((ThB (c :: ps)).length ≤ 3 → (∀ q ∈ ThB (c :: ps), 1 ≤ q.1 ∧ SmP q) ∧ ∀ v' H', Same H H' → Ln K C H' v' ⟨c.1, c.2, ThB (c :: ps)⟩ → Q v' H'))
theorem Rz.mono {H H1 : Hp} {E : XK} {C : Addr} {f : Str} {u : V} (h : Rz H E C f u) (e : Same H H1) : Rz H1 E C f u := fun d H' e' n h' => h d H' (Same.trans e e') (e.free n) h'
theorem ThCase.mono {K : PySem.W.Frag} {C CLg : Addr} {H H1 : Hp} {xs : List V} {Q : VK} {E : XK} (h : ThCase K C CLg H xs Q E) (e : Same H H1) : ThCase K C CLg H1 xs Q E := by
  rcases h with ⟨h1, h2⟩ | ⟨i, ⟨ps, x, h1, h2, h3, h4, h5⟩, q⟩ | ⟨c, ps, h1, h2, h3, h4, h5⟩
  · exact .inl ⟨h1, h2.mono e⟩
  · refine .inr (.inl ⟨i, ⟨ps, x, Prs.same e h1, h2, h3, h4, ?_⟩, q.mono e⟩)
    rcases h5 with h5 | ⟨m, l, q', a, b, c⟩
    · exact .inl (h5.same e)
    · exact .inr ⟨m, l, q', a, b.same e, c⟩
  · exact .inr (.inr ⟨c, ps, Prs.same e h1, h2, h3, fun z => (h4 z).mono e, fun z => ⟨(h5 z).1, fun v' H' e' => (h5 z).2 v' H' (Same.trans e e')⟩⟩)
abbrev sLThr : Stmt := top 32
abbrev nLThr : List Str := ["_law_some", "_law_x", "_law_y"]
theorem scLThr : FnScope nLThr ["_law_some"] (defScope sLThr) := ⟨rfl, rfl, rfl, by decide +kernel, rfl, by decide +kernel, by decide +kernel⟩
def spLThr (K : PySem.W.Frag) (C CLg : Addr) : Sp := fun vs H Q E => ∃ (a : Addr) (xs : List V), vs = [.ref a] ∧ SqL K H a xs ∧ xs.length ≤ 8 ∧ ThCase K C CLg H xs Q E
/-- through, as it stands behind the top -/
def spThrR (K : PySem.W.Frag) (C CLg : Addr) : Sp := fun vs H Q E => ∃ ws rest, vs = ws ++ rest ∧ ws.length = 1 ∧ rest.length ≤ sizeLine ∧ ∀ p, H p = Option.none → spThru K C CLg (ws ++ [V.ref p]) (upd H p (.tup rest)) Q E
theorem thr_use {K : PySem.W.Frag} {C CLg : Addr} {H : Hp} {xs : List V} {Q : VK} {E : XK} (h : ThCase K C CLg H xs Q E) (hl : xs.length ≤ 8) : spThrR K C CLg (.ref C :: xs) H Q E :=
  ⟨[.ref C], xs, rfl, rfl, line_le (by omega), fun p np => ⟨p, xs, rfl, SqT.of upd_same, by omega, h.mono (Same.new np)⟩⟩
section
variable {P : Program} {w : World} {K : PySem.W.Frag} {mg : Str → Option Value} {base : Heap}
theorem ok_lthr {C CLg pT gT f : Addr} {fd : FuncData} {mc : Value} (F : Fun K "_law_through" "_law_through" sLThr f fd) (B : Bi mg) (mgC : mg "Line" = some (.ref C)) (CR : ClX.CRead K C mc) (CM : ClX.CMet K C mc "through" pT gT)
    (FT : FnR P w K mg base (L2.CX P w) 7 gT (spThrR K C CLg)) : FnOk P w K mg base (L2.CX P w) 8 f fd ["_law_some"] (spLThr K C CLg) := by
  refine F.okX scLThr (fun vs H Q E h => ?_) (fun cdv A outer s H vs Q E hr h => ?_)
  · obtain ⟨a, xs, rfl, _⟩ := h
    rfl
  · obtain ⟨a, xs, rfl, hs, hlen, hc⟩ := h
    have ps : Passes (L2.CX P w) (cxOf (L2.CX P w) P w K mg base nLThr "_law_through" (defScope sLThr) f cdv A outer s H E) E := passes_call (takes_of rfl rfl rfl rfl) fun _ _ _ _ z => z
    refine ⟨_, pss_cons (ps_if (pt_cmpR op_eq (pe_callB call_len_seq (by rfl) B.len PySem.boot_len (pa_cons (pv 0) pa_nil)) pe_int (nomark _)) (pss_one (ps_ret (pe_cmeth0 (pe_glob (v := .ref C) rfl mgC rfl) CR CM FT (hr.mono (by decide)) ps))) pss_nil)
      (pss_cons (ps_if (pt_cmpR op_eq (pe_callB call_len_seq (by rfl) B.len PySem.boot_len (pa_cons (pv 0) pa_nil)) pe_int (nomark _)) (pss_one (ps_ret (ClX.pe_cmeth (pe_glob (v := .ref C) rfl mgC rfl) CR CM FT (hr.mono (by decide)) ps (pa_cons (pe_ix ix_list (pv 0) pe_int (fun _ _ => rfl)) pa_nil)))) pss_nil)
      (pss_cons (ps_if (pt_cmpR op_eq (pe_callB call_len_seq (by rfl) B.len PySem.boot_len (pa_cons (pv 0) pa_nil)) pe_int (nomark _)) (pss_one (ps_ret (ClX.pe_cmeth (pe_glob (v := .ref C) rfl mgC rfl) CR CM FT (hr.mono (by decide)) ps (pa_cons (pe_ix ix_list (pv 0) pe_int (fun _ _ => rfl)) (pa_cons (pe_ix ix_list (pv 0) pe_int (fun _ _ => rfl)) pa_nil))))) pss_nil)
      (pss_cons (ps_if (pt_cmpR op_eq (pe_callB call_len_seq (by rfl) B.len PySem.boot_len (pa_cons (pv 0) pa_nil)) pe_int (nomark _)) (pss_one (ps_ret (ClX.pe_cmeth (pe_glob (v := .ref C) rfl mgC rfl) CR CM FT (hr.mono (by decide)) ps (pa_cons (pe_ix ix_list (pv 0) pe_int (fun _ _ => rfl)) (pa_cons (pe_ix ix_list (pv 0) pe_int (fun _ _ => rfl)) (pa_cons (pe_ix ix_list (pv 0) pe_int (fun _ _ => rfl)) pa_nil)))))) pss_nil)
      (pss_cons (ps_if (pt_cmpR op_eq (pe_callB call_len_seq (by rfl) B.len PySem.boot_len (pa_cons (pv 0) pa_nil)) pe_int (nomark _)) (pss_one (ps_ret (ClX.pe_cmeth (pe_glob (v := .ref C) rfl mgC rfl) CR CM FT (hr.mono (by decide)) ps (pa_cons (pe_ix ix_list (pv 0) pe_int (fun _ _ => rfl)) (pa_cons (pe_ix ix_list (pv 0) pe_int (fun _ _ => rfl)) (pa_cons (pe_ix ix_list (pv 0) pe_int (fun _ _ => rfl)) (pa_cons (pe_ix ix_list (pv 0) pe_int (fun _ _ => rfl)) pa_nil))))))) pss_nil)
      (pss_cons (ps_if (pt_cmpR op_eq (pe_callB call_len_seq (by rfl) B.len PySem.boot_len (pa_cons (pv 0) pa_nil)) pe_int (nomark _)) (pss_one (ps_ret (ClX.pe_cmeth (pe_glob (v := .ref C) rfl mgC rfl) CR CM FT (hr.mono (by decide)) ps (pa_cons (pe_ix ix_list (pv 0) pe_int (fun _ _ => rfl)) (pa_cons (pe_ix ix_list (pv 0) pe_int (fun _ _ => rfl)) (pa_cons (pe_ix ix_list (pv 0) pe_int (fun _ _ => rfl)) (pa_cons (pe_ix ix_list (pv 0) pe_int (fun _ _ => rfl)) (pa_cons (pe_ix ix_list (pv 0) pe_int (fun _ _ => rfl)) pa_nil)))))))) pss_nil)
      (pss_cons (ps_if (pt_cmpR op_eq (pe_callB call_len_seq (by rfl) B.len PySem.boot_len (pa_cons (pv 0) pa_nil)) pe_int (nomark _)) (pss_one (ps_ret (ClX.pe_cmeth (pe_glob (v := .ref C) rfl mgC rfl) CR CM FT (hr.mono (by decide)) ps (pa_cons (pe_ix ix_list (pv 0) pe_int (fun _ _ => rfl)) (pa_cons (pe_ix ix_list (pv 0) pe_int (fun _ _ => rfl)) (pa_cons (pe_ix ix_list (pv 0) pe_int (fun _ _ => rfl)) (pa_cons (pe_ix ix_list (pv 0) pe_int (fun _ _ => rfl)) (pa_cons (pe_ix ix_list (pv 0) pe_int (fun _ _ => rfl)) (pa_cons (pe_ix ix_list (pv 0) pe_int (fun _ _ => rfl)) pa_nil))))))))) pss_nil)
      (pss_cons (ps_par (i := 1) (j := 2) (by rfl) scLThr.nd rfl rfl (by decide) rfl rfl (pa_cons (pe_slice sl_list (pv 0) po_none (po_some pe_int)) (pa_cons (pe_ix ix_list (pv 0) (pe_un un_neg pe_int) (fun _ _ => rfl)) pa_nil)) (by rfl))
      (pss_cons (ps_if (pt_cmpR op_eq (pe_callB call_len_seq (by rfl) B.len PySem.boot_len (pa_cons (pv 0) pa_nil)) pe_int (nomark _)) (pss_one (ps_ret (ClX.pe_cmeth (pe_glob (v := .ref C) rfl mgC rfl) CR CM FT (hr.mono (by decide)) ps (pa_cons (pe_ix ix_list (pv 1) pe_int (fun _ _ => rfl)) (pa_cons (pe_ix ix_list (pv 1) pe_int (fun _ _ => rfl)) (pa_cons (pe_ix ix_list (pv 1) pe_int (fun _ _ => rfl)) (pa_cons (pe_ix ix_list (pv 1) pe_int (fun _ _ => rfl)) (pa_cons (pe_ix ix_list (pv 1) pe_int (fun _ _ => rfl)) (pa_cons (pe_ix ix_list (pv 1) pe_int (fun _ _ => rfl)) (pa_cons (pe_ix ix_list (pv 1) pe_int (fun _ _ => rfl)) pa_nil)))))))))) pss_nil)
      (pss_one (ps_ret (ClX.pe_cmeth (pe_glob (v := .ref C) rfl mgC rfl) CR CM FT (hr.mono (by decide)) ps (pa_cons (pe_ix ix_list (pv 1) pe_int (fun _ _ => rfl)) (pa_cons (pe_ix ix_list (pv 1) pe_int (fun _ _ => rfl)) (pa_cons (pe_ix ix_list (pv 1) pe_int (fun _ _ => rfl)) (pa_cons (pe_ix ix_list (pv 1) pe_int (fun _ _ => rfl)) (pa_cons (pe_ix ix_list (pv 1) pe_int (fun _ _ => rfl)) (pa_cons (pe_ix ix_list (pv 1) pe_int (fun _ _ => rfl)) (pa_cons (pe_ix ix_list (pv 1) pe_int (fun _ _ => rfl)) (pa_cons (pv 2) pa_nil))))))))))))))))))), ?_⟩
    -- 0
    rcases xs with _ | ⟨x0, xs⟩
    ·
      refine ⟨_, rfl, a, _, rfl, .inl hs, rfl, _, rfl, ?_⟩
      refine ite_lenT (by rfl) ?_
      exact ⟨rfl, thr_use hc hlen⟩
    -- 1
    rcases xs with _ | ⟨x1, xs⟩
    ·
      refine ⟨_, rfl, a, _, rfl, .inl hs, rfl, _, rfl, ?_⟩
      refine ite_lenF (by show (1 : Int) ≠ 0; decide) ?_
      refine ⟨_, rfl, a, _, rfl, .inl hs, rfl, _, rfl, ?_⟩
      refine ite_lenT (by rfl) ?_
      exact ⟨rfl, _, rfl, a, _, _, _, rfl, rfl, hs, atI_nat (j := 0) rfl, thr_use hc hlen⟩
    -- 2
    rcases xs with _ | ⟨x2, xs⟩
    ·
      refine ⟨_, rfl, a, _, rfl, .inl hs, rfl, _, rfl, ?_⟩
      refine ite_lenF (by show (2 : Int) ≠ 0; decide) ?_
      refine ⟨_, rfl, a, _, rfl, .inl hs, rfl, _, rfl, ?_⟩
      refine ite_lenF (by show (2 : Int) ≠ 1; decide) ?_
      refine ⟨_, rfl, a, _, rfl, .inl hs, rfl, _, rfl, ?_⟩
      refine ite_lenT (by rfl) ?_
      exact ⟨rfl, _, rfl, a, _, _, _, rfl, rfl, hs, atI_nat (j := 0) rfl, _, rfl, a, _, _, _, rfl, rfl, hs, atI_nat (j := 1) rfl, thr_use hc hlen⟩
    -- 3
    rcases xs with _ | ⟨x3, xs⟩
    ·
      refine ⟨_, rfl, a, _, rfl, .inl hs, rfl, _, rfl, ?_⟩
      refine ite_lenF (by show (3 : Int) ≠ 0; decide) ?_
      refine ⟨_, rfl, a, _, rfl, .inl hs, rfl, _, rfl, ?_⟩
      refine ite_lenF (by show (3 : Int) ≠ 1; decide) ?_
      refine ⟨_, rfl, a, _, rfl, .inl hs, rfl, _, rfl, ?_⟩
      refine ite_lenF (by show (3 : Int) ≠ 2; decide) ?_
      refine ⟨_, rfl, a, _, rfl, .inl hs, rfl, _, rfl, ?_⟩
      refine ite_lenT (by rfl) ?_
      exact ⟨rfl, _, rfl, a, _, _, _, rfl, rfl, hs, atI_nat (j := 0) rfl, _, rfl, a, _, _, _, rfl, rfl, hs, atI_nat (j := 1) rfl, _, rfl, a, _, _, _, rfl, rfl, hs, atI_nat (j := 2) rfl, thr_use hc hlen⟩
    -- 4
    rcases xs with _ | ⟨x4, xs⟩
    ·
      refine ⟨_, rfl, a, _, rfl, .inl hs, rfl, _, rfl, ?_⟩
      refine ite_lenF (by show (4 : Int) ≠ 0; decide) ?_
      refine ⟨_, rfl, a, _, rfl, .inl hs, rfl, _, rfl, ?_⟩
      refine ite_lenF (by show (4 : Int) ≠ 1; decide) ?_
      refine ⟨_, rfl, a, _, rfl, .inl hs, rfl, _, rfl, ?_⟩
      refine ite_lenF (by show (4 : Int) ≠ 2; decide) ?_
      refine ⟨_, rfl, a, _, rfl, .inl hs, rfl, _, rfl, ?_⟩
      refine ite_lenF (by show (4 : Int) ≠ 3; decide) ?_
      refine ⟨_, rfl, a, _, rfl, .inl hs, rfl, _, rfl, ?_⟩
      refine ite_lenT (by rfl) ?_
      exact ⟨rfl, _, rfl, a, _, _, _, rfl, rfl, hs, atI_nat (j := 0) rfl, _, rfl, a, _, _, _, rfl, rfl, hs, atI_nat (j := 1) rfl, _, rfl, a, _, _, _, rfl, rfl, hs, atI_nat (j := 2) rfl, _, rfl, a, _, _, _, rfl, rfl, hs, atI_nat (j := 3) rfl, thr_use hc hlen⟩
    -- 5
    rcases xs with _ | ⟨x5, xs⟩
    ·
      refine ⟨_, rfl, a, _, rfl, .inl hs, rfl, _, rfl, ?_⟩
      refine ite_lenF (by show (5 : Int) ≠ 0; decide) ?_
      refine ⟨_, rfl, a, _, rfl, .inl hs, rfl, _, rfl, ?_⟩
      refine ite_lenF (by show (5 : Int) ≠ 1; decide) ?_
      refine ⟨_, rfl, a, _, rfl, .inl hs, rfl, _, rfl, ?_⟩
      refine ite_lenF (by show (5 : Int) ≠ 2; decide) ?_
      refine ⟨_, rfl, a, _, rfl, .inl hs, rfl, _, rfl, ?_⟩
      refine ite_lenF (by show (5 : Int) ≠ 3; decide) ?_
      refine ⟨_, rfl, a, _, rfl, .inl hs, rfl, _, rfl, ?_⟩
      refine ite_lenF (by show (5 : Int) ≠ 4; decide) ?_
      refine ⟨_, rfl, a, _, rfl, .inl hs, rfl, _, rfl, ?_⟩
      refine ite_lenT (by rfl) ?_
      exact ⟨rfl, _, rfl, a, _, _, _, rfl, rfl, hs, atI_nat (j := 0) rfl, _, rfl, a, _, _, _, rfl, rfl, hs, atI_nat (j := 1) rfl, _, rfl, a, _, _, _, rfl, rfl, hs, atI_nat (j := 2) rfl, _, rfl, a, _, _, _, rfl, rfl, hs, atI_nat (j := 3) rfl, _, rfl, a, _, _, _, rfl, rfl, hs, atI_nat (j := 4) rfl, thr_use hc hlen⟩
    -- 6
    rcases xs with _ | ⟨x6, xs⟩
    ·
      refine ⟨_, rfl, a, _, rfl, .inl hs, rfl, _, rfl, ?_⟩
      refine ite_lenF (by show (6 : Int) ≠ 0; decide) ?_
      refine ⟨_, rfl, a, _, rfl, .inl hs, rfl, _, rfl, ?_⟩
      refine ite_lenF (by show (6 : Int) ≠ 1; decide) ?_
      refine ⟨_, rfl, a, _, rfl, .inl hs, rfl, _, rfl, ?_⟩
      refine ite_lenF (by show (6 : Int) ≠ 2; decide) ?_
      refine ⟨_, rfl, a, _, rfl, .inl hs, rfl, _, rfl, ?_⟩
      refine ite_lenF (by show (6 : Int) ≠ 3; decide) ?_
      refine ⟨_, rfl, a, _, rfl, .inl hs, rfl, _, rfl, ?_⟩
      refine ite_lenF (by show (6 : Int) ≠ 4; decide) ?_
      refine ⟨_, rfl, a, _, rfl, .inl hs, rfl, _, rfl, ?_⟩
      refine ite_lenF (by show (6 : Int) ≠ 5; decide) ?_
      refine ⟨_, rfl, a, _, rfl, .inl hs, rfl, _, rfl, ?_⟩
      refine ite_lenT (by rfl) ?_
      exact ⟨rfl, _, rfl, a, _, _, _, rfl, rfl, hs, atI_nat (j := 0) rfl, _, rfl, a, _, _, _, rfl, rfl, hs, atI_nat (j := 1) rfl, _, rfl, a, _, _, _, rfl, rfl, hs, atI_nat (j := 2) rfl, _, rfl, a, _, _, _, rfl, rfl, hs, atI_nat (j := 3) rfl, _, rfl, a, _, _, _, rfl, rfl, hs, atI_nat (j := 4) rfl, _, rfl, a, _, _, _, rfl, rfl, hs, atI_nat (j := 5) rfl, thr_use hc hlen⟩
    -- 7
    rcases xs with _ | ⟨x7, xs⟩
    ·
      refine ⟨_, rfl, a, _, rfl, .inl hs, rfl, _, rfl, ?_⟩
      refine ite_lenF (by show (7 : Int) ≠ 0; decide) ?_
      refine ⟨_, rfl, a, _, rfl, .inl hs, rfl, _, rfl, ?_⟩
      refine ite_lenF (by show (7 : Int) ≠ 1; decide) ?_
      refine ⟨_, rfl, a, _, rfl, .inl hs, rfl, _, rfl, ?_⟩
      refine ite_lenF (by show (7 : Int) ≠ 2; decide) ?_
      refine ⟨_, rfl, a, _, rfl, .inl hs, rfl, _, rfl, ?_⟩
      refine ite_lenF (by show (7 : Int) ≠ 3; decide) ?_
      refine ⟨_, rfl, a, _, rfl, .inl hs, rfl, _, rfl, ?_⟩
      refine ite_lenF (by show (7 : Int) ≠ 4; decide) ?_
      refine ⟨_, rfl, a, _, rfl, .inl hs, rfl, _, rfl, ?_⟩
      refine ite_lenF (by show (7 : Int) ≠ 5; decide) ?_
      refine ⟨_, rfl, a, _, rfl, .inl hs, rfl, _, rfl, ?_⟩
      refine ite_lenF (by show (7 : Int) ≠ 6; decide) ?_
      refine ⟨_, rfl, 7, rfl, a, _, rfl, hs, fun p np => ?_⟩
      have s1 := Same.new (o := .lst [x0, x1, x2, x3, x4, x5, x6]) np
      refine ⟨_, rfl, _, rfl, a, _, _, _, rfl, rfl, s1.seq hs, atI_last [x0, x1, x2, x3, x4, x5] x6, _, _, rfl, ?_⟩
      have hx : upd H p (.lst [x0, x1, x2, x3, x4, x5, x6]) p = some (.lst [x0, x1, x2, x3, x4, x5, x6]) := upd_same
      refine ⟨_, rfl, a, _, rfl, .inl (s1.seq hs), rfl, _, rfl, ?_⟩
      refine ite_lenT (by rfl) ?_
      exact ⟨rfl, _, rfl, p, _, _, _, rfl, rfl, SqL.of hx, atI_nat (j := 0) rfl, _, rfl, p, _, _, _, rfl, rfl, SqL.of hx, atI_nat (j := 1) rfl, _, rfl, p, _, _, _, rfl, rfl, SqL.of hx, atI_nat (j := 2) rfl, _, rfl, p, _, _, _, rfl, rfl, SqL.of hx, atI_nat (j := 3) rfl, _, rfl, p, _, _, _, rfl, rfl, SqL.of hx, atI_nat (j := 4) rfl, _, rfl, p, _, _, _, rfl, rfl, SqL.of hx, atI_nat (j := 5) rfl, _, rfl, p, _, _, _, rfl, rfl, SqL.of hx, atI_nat (j := 6) rfl, thr_use (hc.mono s1) hlen⟩
    -- 8
    rcases xs with _ | ⟨x8, xs⟩
    ·
      refine ⟨_, rfl, a, _, rfl, .inl hs, rfl, _, rfl, ?_⟩
      refine ite_lenF (by show (8 : Int) ≠ 0; decide) ?_
      refine ⟨_, rfl, a, _, rfl, .inl hs, rfl, _, rfl, ?_⟩
      refine ite_lenF (by show (8 : Int) ≠ 1; decide) ?_
      refine ⟨_, rfl, a, _, rfl, .inl hs, rfl, _, rfl, ?_⟩
      refine ite_lenF (by show (8 : Int) ≠ 2; decide) ?_
      refine ⟨_, rfl, a, _, rfl, .inl hs, rfl, _, rfl, ?_⟩
      refine ite_lenF (by show (8 : Int) ≠ 3; decide) ?_
      refine ⟨_, rfl, a, _, rfl, .inl hs, rfl, _, rfl, ?_⟩
      refine ite_lenF (by show (8 : Int) ≠ 4; decide) ?_
      refine ⟨_, rfl, a, _, rfl, .inl hs, rfl, _, rfl, ?_⟩
      refine ite_lenF (by show (8 : Int) ≠ 5; decide) ?_
      refine ⟨_, rfl, a, _, rfl, .inl hs, rfl, _, rfl, ?_⟩
      refine ite_lenF (by show (8 : Int) ≠ 6; decide) ?_
      refine ⟨_, rfl, 7, rfl, a, _, rfl, hs, fun p np => ?_⟩
      have s1 := Same.new (o := .lst [x0, x1, x2, x3, x4, x5, x6]) np
      refine ⟨_, rfl, _, rfl, a, _, _, _, rfl, rfl, s1.seq hs, atI_last [x0, x1, x2, x3, x4, x5, x6] x7, _, _, rfl, ?_⟩
      have hx : upd H p (.lst [x0, x1, x2, x3, x4, x5, x6]) p = some (.lst [x0, x1, x2, x3, x4, x5, x6]) := upd_same
      refine ⟨_, rfl, a, _, rfl, .inl (s1.seq hs), rfl, _, rfl, ?_⟩
      refine ite_lenF (by show (8 : Int) ≠ 7; decide) ?_
      exact ⟨rfl, _, rfl, p, _, _, _, rfl, rfl, SqL.of hx, atI_nat (j := 0) rfl, _, rfl, p, _, _, _, rfl, rfl, SqL.of hx, atI_nat (j := 1) rfl, _, rfl, p, _, _, _, rfl, rfl, SqL.of hx, atI_nat (j := 2) rfl, _, rfl, p, _, _, _, rfl, rfl, SqL.of hx, atI_nat (j := 3) rfl, _, rfl, p, _, _, _, rfl, rfl, SqL.of hx, atI_nat (j := 4) rfl, _, rfl, p, _, _, _, rfl, rfl, SqL.of hx, atI_nat (j := 5) rfl, _, rfl, p, _, _, _, rfl, rfl, SqL.of hx, atI_nat (j := 6) rfl, _, rfl, thr_use (hc.mono s1) hlen⟩
    · simp only [List.length_cons] at hlen
      omega
end
end KX
end
section
set_option Elab.async false
set_option linter.all false
set_option maxRecDepth 100000
set_option maxHeartbeats 4000000
/-! M4: bounds; corners that do not fit. -/
namespace KX
open L2
theorem merged_mem {l : List P2} (hl : Psv l) {q : P2} (hq : q ∈ merged l) : 1 ≤ q.1 ∧ q.1 ≤ ((units l).length : Nat) ∧ ((1, q.2) : P2) ∈ units l := by
  have h1 := merged_pos hl q hq
  obtain ⟨a, b, e⟩ := List.append_of_mem hq
  have eu := units_merged hl
  rw [e, units_app, units_cons] at eu
  refine ⟨h1, ?_, ?_⟩
  · rw [← eu, List.length_append, List.length_append, List.length_replicate]
    omega
  · rw [← eu]
    refine List.mem_append_right _ (List.mem_append_left _ ?_)
    exact List.mem_replicate.mpr ⟨by omega, rfl⟩
theorem units_speed {l : List P2} {s : Int} (h : ((1, s) : P2) ∈ units l) : ∃ p ∈ l, p.2 = s := by
  obtain ⟨p, hp, h⟩ := List.mem_flatMap.mp h
  have := (List.mem_replicate.mp h).2
  exact ⟨p, hp, (congrArg Prod.snd this).symm⟩
theorem ptsU_bd : ∀ {u : List P2} {c z : P2}, (∀ q ∈ u, -7 ≤ q.2 ∧ q.2 ≤ 7) → z ∈ ptsU c u → c.1 < z.1 ∧ z.1 ≤ c.1 + (u.length : Nat) ∧ c.2 - 7 * (u.length : Nat) ≤ z.2 ∧ z.2 ≤ c.2 + 7 * (u.length : Nat)
  | [], c, z, _, h => by cases h
  | q :: r, c, z, hq, h => by
    have h1 := hq q List.mem_cons_self
    rcases List.mem_cons.mp h with e | h
    · rw [e]
      show c.1 < c.1 + 1 ∧ c.1 + 1 ≤ c.1 + ((r.length + 1 : Nat) : Int) ∧ c.2 - 7 * ((r.length + 1 : Nat) : Int) ≤ c.2 + q.2 ∧ c.2 + q.2 ≤ c.2 + 7 * ((r.length + 1 : Nat) : Int)
      omega
    · have h2 := ptsU_bd (fun p hp => hq p (List.mem_cons_of_mem _ hp)) h
      have e1 : (c.1 + 1, c.2 + q.2).1 = c.1 + 1 := rfl
      have e2 : ((c.1 + 1, c.2 + q.2) : P2).2 = c.2 + q.2 := rfl
      rw [List.length_cons]
      simp only at h2
      omega
theorem rows_ok_units {rows : List P2} (h : ∀ q ∈ rows, RowOk q) : Psv rows ∧ (∀ q ∈ units rows, -7 ≤ q.2 ∧ q.2 ≤ 7) := by
  refine ⟨fun q hq => (h q hq).1, fun q hq => ?_⟩
  obtain ⟨p, hp, hm⟩ := List.mem_flatMap.mp hq
  rw [(List.mem_replicate.mp hm).2]
  exact (h p hp).2.2
theorem Jd.take {l : List P2} (h : Jd l) (n : Nat) : Jd (l.take n) := fun i p q h1 h2 => by
  have hi : i + 1 < n := by
    have := (List.getElem?_eq_some_iff.mp h2).1
    rw [List.length_take] at this
    omega
  rw [List.getElem?_take_of_lt (by omega)] at h1
  rw [List.getElem?_take_of_lt hi] at h2
  exact h i p q h1 h2
theorem areJ_bad (a b : Int) : areJ (a, b) (a, b) = false ∧ areJ (a, b) (a - 1, b) = false ∧ areJ (a, b) (a + 2, b + 1) = false ∧ areJ (a, b) (a + 3, b - 4) = false ∧ areJ (a, b) (a, b + 1) = false := by
  have f : ∀ d e : Int, areJ (a, b) (a + d, b + e) = (decide (d ≥ 1) && decide (e.fmod d = 0)) := fun d e => by
    unfold areJ
    show (decide (a + d - a ≥ 1) && decide ((b + e - b).fmod (a + d - a) = 0)) = _
    rw [show a + d - a = d by omega, show b + e - b = e by omega]
  have g : ∀ (d e : Int) (x y : Int), x = a + d → y = b + e → (decide (d ≥ 1) && decide (e.fmod d = 0)) = false → areJ (a, b) (x, y) = false := fun d e x y hx hy h => by rw [hx, hy, f, h]
  exact ⟨g 0 0 _ _ (by omega) (by omega) (by decide), g (-1) 0 _ _ (by omega) (by omega) (by decide), g 2 1 _ _ rfl rfl (by decide), g 3 (-4) _ _ rfl (by omega) (by decide), g 0 1 _ _ (by omega) rfl (by decide)⟩
/-- the line of a model's points -/
structure MdOk (c : P2) (rows : List P2) : Prop where
  up : UP (c :: pts c rows)
  l1 : legs1 (c :: pts c rows) = units rows
  mg : merged (legs1 (c :: pts c rows)) = merged rows
  len : (pts c rows).length ≤ 20
  mlen : (merged rows).length ≤ rows.length
  mok : ∀ q ∈ merged rows, 1 ≤ q.1 ∧ q.1 ≤ 20 ∧ -7 ≤ q.2 ∧ q.2 ≤ 7
  bd : ∀ z ∈ c :: pts c rows, c.1 ≤ z.1 ∧ z.1 ≤ c.1 + 20 ∧ c.2 - 140 ≤ z.2 ∧ z.2 ≤ c.2 + 140
theorem md_ok {c : P2} {rows : List P2} (h : ∀ q ∈ rows, RowOk q) (hl : rows.length ≤ 5) : MdOk c rows := by
  obtain ⟨hp, hu⟩ := rows_ok_units h
  have hul := units_len rows h
  have e1 : legs1 (c :: pts c rows) = units rows := legs1_pts c _ (ones_units rows)
  refine ⟨up_pts c _, e1, by rw [e1, merged_units hp], by unfold pts; rw [ptsU_len]; omega, merged_len rows, fun q hq => ?_, fun z hz => ?_⟩
  · obtain ⟨a1, a2, a3⟩ := merged_mem hp hq
    obtain ⟨p, hp', e⟩ := units_speed a3
    have := h p hp'
    refine ⟨a1, by omega, ?_, ?_⟩
    · rw [← e]
      exact this.2.2.1
    · rw [← e]
      exact this.2.2.2
  · rcases List.mem_cons.mp hz with e | hz
    · rw [e]
      omega
    · have := ptsU_bd hu hz
      omega
theorem MdOk.small {c : P2} {rows : List P2} (m : MdOk c rows) (hl : rows.length ≤ 5) (h1 : c.1.natAbs ≤ 1000) (h2 : c.2.natAbs ≤ 1000) : (⟨c.1, c.2, merged rows⟩ : LD).small := by
  refine ⟨by show c.1.natAbs < _; omega, by show c.2.natAbs < _; omega, ?_, fun q hq => ?_⟩
  · have := m.mlen
    show (merged rows).length ≤ 8
    omega
  · have := m.mok q hq
    exact ⟨by show q.1.natAbs < _; omega, by show q.2.natAbs < _; omega⟩
end KX
end
section
set_option Elab.async false
set_option linter.all false
set_option maxRecDepth 100000
set_option maxHeartbeats 4000000
/-! E6: frames; told, told of through and of +. -/
namespace KX
open PySem PySem.Spec PyProof.Rows L2
/-- all but r and the tables of code is kept -/
def Ex (r : Addr) (H H' : Hp) : Prop := ∀ b o, b ≠ r → (∀ ps, o ≠ .tbl ps) → H b = some o → H' b = some o
theorem Ex.refl (r : Addr) (H : Hp) : Ex r H H := fun _ _ _ _ h => h
theorem Ex.trans {r : Addr} {H H1 H2 : Hp} (a : Ex r H H1) (b : Ex r H1 H2) : Ex r H H2 := fun c o h n e => b c o h n (a c o h n e)
theorem Ex.off {r : Addr} {H H' : Hp} (e : Off r H H') : Ex r H H' := fun b o hb _ h => e b o hb h
theorem Ex.of {r : Addr} {H H' : Hp} (e : Same H H') : Ex r H H' := fun b o _ _ h => e b o h
theorem Ex.lam {r : Addr} {H H' : Hp} (e : LamX.ExtN H H') : Ex r H H' := fun b o _ n h => e b o h n
theorem Ex.new {r p : Addr} {H H' : Hp} {o : HO} (e : Ex r H H') (h : H' p = none) : Ex r H (upd H' p o) := e.trans (Ex.of (Same.new h))
theorem St.lam {r : Addr} {H H' : Hp} (e : LamX.ExtN H H') (h : St r H) : St r H' := let ⟨a, b, h1, h2⟩ := h; ⟨a, b, e r _ h1 (fun ps z => by cases z), h2⟩
section
variable {K : PySem.W.Frag} {r : Addr} {H H' : Hp} {v : V} {p : P2} {ps : List P2} {xs : List V} {a : Addr}
theorem Ex.lst (e : Ex r H H') (h : H a = some (.lst xs)) (ha : a ≠ r) : H' a = some (.lst xs) := e a _ ha (fun ps z => by cases z) h
theorem SqT.ex (e : Ex r H H') (hr : St r H) (h : SqT K H a xs) : SqT K H' a xs := by
  obtain ⟨_, _, h0, _⟩ := hr
  rcases h with (h | ⟨o, h⟩) | h
  · exact .inl (.inl (e _ _ (ne_of h h0 (by intro z; cases z)) (fun ps z => by cases z) h))
  · exact .inl (.inr ⟨o, e _ _ (ne_of h h0 (by intro z; cases z)) (fun ps z => by cases z) h⟩)
  · exact .inr h
theorem Pr.ex (e : Ex r H H') (hr : St r H) (h : Pr K H v p) : Pr K H' v p := let ⟨t, a, b⟩ := h; ⟨t, a, SqT.ex e hr b⟩
theorem Prs.ex (e : Ex r H H') (hr : St r H) (h : Prs K H xs ps) : Prs K H' xs ps := L2.Paired.mapP h fun _ _ q => q.ex e hr
theorem Tpl.ex (e : Ex r H H') (hr : St r H) (h : Tpl K H v ps) : Tpl K H' v ps := let ⟨a, xs, h1, h2, h3⟩ := h; ⟨a, xs, h1, SqT.ex e hr h2, Prs.ex e hr h3⟩
theorem Lst.ex (e : Ex r H H') (hr : St r H) (h : Lst K H v (p :: ps)) : Lst K H' v (p :: ps) := by
  obtain ⟨a, xs, rfl, h2, h3⟩ := h
  refine ⟨a, xs, rfl, ?_, Prs.ex e hr h3⟩
  have hne : ∀ {zs : List V}, H a = some (.lst zs) → zs = xs → a ≠ r := fun {zs} h1 hz z => by
    obtain ⟨i, j, h0, _⟩ := hr
    rw [z, h0] at h1
    cases h1
    rw [← hz] at h3
    cases h3 with
    | cons q _ =>
      obtain ⟨t, e1, _⟩ := q
      cases e1
  rcases h2 with (h | ⟨o, h⟩) | h
  · exact .inl (.inl (e _ _ (hne h rfl) (fun ps z => by cases z) h))
  · obtain ⟨i, j, h0, _⟩ := hr
    exact .inl (.inr ⟨o, e _ _ (fun z => by rw [z, h0] at h; cases h) (fun ps z => by cases z) h⟩)
  · exact .inr h
theorem Ln.ex {C : Addr} {l : LD} (e : Ex r H H') (hr : St r H) (h : Ln K C H v l) : Ln K C H' v l := by
  obtain ⟨a, dx, lg, cn, la, lo, hi, h1, h2, h3, h4⟩ := h
  obtain ⟨i, j, h0, _⟩ := id hr
  exact ⟨a, dx, lg, cn, la, lo, hi, h1, e _ _ (ne_of h2 h0 (by intro z; cases z)) (fun ps z => by cases z) h2, h3.ex e hr, h4.ex e hr⟩
end
/-! ### what told says -/
section
variable {K : PySem.W.Frag} {C CLg CLn : Addr} {H : Hp} {xs : List V} {Q : VK}
def badV (t : Str) : List V := [.str "legs", .str t, .bl true]
def valV' (t : Str) : List V := [.str "line value", .str t, .bl true]
theorem rpv_none : RpV K C H .non "None" := RpV.dat (d := .none) .non rfl rfl (by simp [PyData.depth]) (by decide +kernel)
theorem rpv_nat {i : Nat} (h : i ≤ 1000) : RpV K C H (.int (i : Nat)) (toString ((i : Nat) : Int) : Str) := SmI.rpv (by unfold SmI; omega)
/-- it raised InvalidLegs, its position u -/
theorem toldE_legs {u : V} {t : Str} (hu : ∀ H', Same H H' → RpV K C H' u t) (q : ∀ l H', Same H H' → H l = none → H' l = some (.lst (badV t)) → Q (.ref l) H') : Rz H (ToldE K C CLg CLn Q) CLg "position" u :=
  fun d H' e n h' => ⟨d, u, t, rfl, hu H' e, .inl ⟨rfl, h', fun l nl => q l _ (Same.then e nl) (e.free nl) upd_same⟩⟩
theorem toldE_line {u : V} {t : Str} (hu : ∀ H', Same H H' → RpV K C H' u t) (q : ∀ l H', Same H H' → H l = none → H' l = some (.lst (valV' t)) → Q (.ref l) H') : Rz H (ToldE K C CLg CLn Q) CLn "value" u :=
  fun d H' e n h' => ⟨d, u, t, rfl, hu H' e, .inr ⟨rfl, h', fun l nl => q l _ (Same.then e nl) (e.free nl) upd_same⟩⟩
theorem toldV_line {v : V} {l : LD} {H' : Hp} (e : Same H H') (h : Ln K C H' v l) (hs : l.small) (q : ∀ l' H', Same H H' → H l' = none → H' l' = some (.lst [.str "line", .str l.text]) → Q (.ref l') H') : ToldV K C Q v H' :=
  .mk (.line h hs) fun l' nl => q l' _ (Same.then e nl) (e.free nl) upd_same
theorem dueV_bad {l : LD} (h : 3 < l.legs.length) : dueV l = badV "None" := if_pos h
theorem dueV_line {l : LD} (h : ¬ 3 < l.legs.length) : dueV l = [.str "line", .str l.text] := if_neg h
/-- through of joined corners -/
theorem th_good {c : P2} {ps : List P2} (hp : Prs K H xs (c :: ps)) (hj : Jd (c :: ps)) (hb : ∀ q ∈ c :: ps, q.1.natAbs < 100000) (hl : ∀ q ∈ ThB (c :: ps), 1 ≤ q.1) (hs : (⟨c.1, c.2, ThB (c :: ps)⟩ : LD).small)
    (q : ∀ l H', Same H H' → H l = none → H' l = some (.lst (dueV ⟨c.1, c.2, ThB (c :: ps)⟩)) → Q (.ref l) H') : ThCase K C CLg H xs (ToldV K C Q) (ToldE K C CLg CLn Q) := by
  refine .inr (.inr ⟨c, ps, hp, hj, hb, fun h3 => ?_, fun h3 => ⟨fun p hp => ⟨hl p hp, hs.2.2.2 p hp⟩, fun v' H' e L => ?_⟩⟩)
  · rw [dueV_bad h3] at q
    exact toldE_legs (fun _ _ => rpv_none) q
  · rw [dueV_line (by show ¬ 3 < (ThB (c :: ps)).length; omega)] at q
    exact toldV_line e L hs q
theorem th_bad {i : Nat} (hi : i ≤ 1000) (h : BadAt K H xs i) (q : ∀ l H', Same H H' → H l = none → H' l = some (.lst (badV (toString ((i : Nat) : Int) : Str))) → Q (.ref l) H') : ThCase K C CLg H xs (ToldV K C Q) (ToldE K C CLg CLn Q) :=
  .inr (.inl ⟨i, h, toldE_legs (fun _ _ => rpv_nat hi) q⟩)
theorem th_nil (q : ∀ l H', Same H H' → H l = none → H' l = some (.lst (badV "None")) → Q (.ref l) H') : ThCase K C CLg H [] (ToldV K C Q) (ToldE K C CLg CLn Q) :=
  .inl ⟨rfl, toldE_legs (fun _ _ => rpv_none) q⟩
end
/-! ### texts of signs -/
theorem ok_of (s : String) : PyData.strOk (Str.ofString s) = true := by
  rw [PySem.Str.ofString_eq_toList]
  unfold PyData.strOk
  rw [← Array.all_toList]
  simp only [List.all_map, List.all_eq_true]
  intro c _
  have h := c.valid
  show decide (c.toNat < 0x110000) = true
  have h' : c.toNat < 0xd800 ∨ (0xdfff < c.toNat ∧ c.toNat < 0x110000) := h
  exact decide_eq_true (by omega)
theorem ok_app {a b : Str} (ha : PyData.strOk a = true) (hb : PyData.strOk b = true) : PyData.strOk (a ++ b) = true := by
  obtain ⟨x⟩ := a
  obtain ⟨y⟩ := b
  show (x ++ y).all _ = true
  rw [Array.all_append]
  have h1 : x.all (· < 0x110000) = true := ha
  have h2 : y.all (· < 0x110000) = true := hb
  rw [h1, h2]
  rfl
theorem ok_join : ∀ {ts : List Str}, (∀ t ∈ ts, PyData.strOk t = true) → PyData.strOk (Str.join ", " ts) = true
  | [], _ => by decide +kernel
  | [x], h => h x List.mem_cons_self
  | x :: y :: r, h => ok_app (ok_app (h x List.mem_cons_self) (ok_of _)) (ok_join fun t ht => h t (List.mem_cons_of_mem _ ht))
theorem ok_tup {ts : List Str} (h : ∀ t ∈ ts, PyData.strOk t = true) : PyData.strOk (tupleText ts) = true := ok_app (ok_app (ok_of _) (ok_join h)) (by split <;> exact ok_of _)
theorem ok_legs' (ps : List P2) : PyData.strOk (legsText ps) = true := by
  show PyData.strOk (tupleText (PyData.shownAll (ps.map dP))) = true
  rw [shownAll_map]
  refine ok_tup fun t ht => ?_
  obtain ⟨p, _, rfl⟩ := List.mem_map.mp ht
  refine ok_tup (ts := [(toString p.1 : Str), (toString p.2 : Str)]) fun t ht => ?_
  rcases List.mem_cons.mp ht with z | z
  · rw [z]
    exact ok_of _
  · rw [List.mem_singleton.mp z]
    exact ok_of _
theorem ok_text (l : LD) : PyData.strOk l.text = true := ok_app (ok_app (ok_app (ok_app (ok_app (ok_app (ok_of _) (ok_of _)) (ok_of _)) (ok_of _)) (ok_of _)) (ok_legs' _)) (ok_of _)
/-! ### texts in lists, compared -/
/-- texts and bools as data -/
inductive TB1 : V → PyData → Prop
  | str (z : Str) : TB1 (.str z) (.str z)
  | bl (b : Bool) : TB1 (.bl b) (.bool b)
def tbD : V → PyData
  | .str z => .str z
  | .bl b => .bool b
  | _ => .none
def isTB : V → Bool
  | .str z => PyData.strOk z
  | .bl _ => true
  | _ => false
theorem tb_dp {K : PySem.W.Frag} {H : Hp} : ∀ {xs : List V}, xs.all isTB = true → DpAll K H xs (xs.map tbD)
  | [], _ => .nil
  | x :: r, h => by
    rw [List.all_cons, Bool.and_eq_true] at h
    refine .cons ?_ (tb_dp h.2)
    cases x with
    | str z => exact .str z
    | bl b => exact .bl b
    | _ => exact absurd h.1 (fun z => Bool.noConfusion z)
theorem tb_lay : ∀ {xs : List V}, xs.all isTB = true → PyData.canLayAll0 (xs.map tbD) = true ∧ PyData.depthAll (xs.map tbD) ≤ 1
  | [], _ => ⟨rfl, Nat.zero_le _⟩
  | x :: r, h => by
    rw [List.all_cons, Bool.and_eq_true] at h
    obtain ⟨h1, h2⟩ := tb_lay h.2
    cases x with
    | str z => exact ⟨by simp [tbD, PyData.canLayAll0, PyData.canLay0, h1]; exact h.1, by simp [tbD, PyData.depthAll, PyData.depth]; omega⟩
    | bl b => exact ⟨by simp [tbD, PyData.canLayAll0, PyData.canLay0, h1], by simp [tbD, PyData.depthAll, PyData.depth]; omega⟩
    | _ => exact absurd h.1 (fun z => Bool.noConfusion z)
theorem tb_shaped {xs : List V} (h : xs.all isTB = true) : SeqAt.shaped (.list (xs.map tbD)) = true := by
  obtain ⟨h1, h2⟩ := tb_lay h
  have e : (PyData.list (xs.map tbD)).depth ≤ 64 := by
    simp only [PyData.depth]
    omega
  show ((PyData.canLayAll0 (xs.map tbD)) && decide ((PyData.list (xs.map tbD)).depth ≤ 64)) = true
  rw [h1, decide_eq_true e]
  rfl
/-- a == b, a != b of two equal lists of texts -/
theorem tb_ne {K : PySem.W.Frag} {H : Hp} {a b : Addr} {xs : List V} {Q : VK} (ha : H a = some (.lst xs)) (hb : H b = some (.lst xs)) (h : xs.all isTB = true) (q : Q (.bl false) H) : rNeD K (.ref a) (.ref b) H Q := by
  refine ⟨_, _, .lst (SqL.of ha) (tb_dp h), .lst (SqL.of hb) (tb_dp h), tb_shaped h, tb_shaped h, ?_⟩
  rw [SeqAt.eqv_refl _ (SeqAt.canLay_of_shaped (tb_shaped h))]
  exact q
theorem tb_eq {K : PySem.W.Frag} {H : Hp} {a b : Addr} {xs : List V} {Q : VK} (ha : H a = some (.lst xs)) (hb : H b = some (.lst xs)) (h : xs.all isTB = true) (q : Q (.bl true) H) : rEqD K (.ref a) (.ref b) H Q := by
  refine ⟨_, _, .lst (SqL.of ha) (tb_dp h), .lst (SqL.of hb) (tb_dp h), tb_shaped h, tb_shaped h, ?_⟩
  rw [SeqAt.eqv_refl _ (SeqAt.canLay_of_shaped (tb_shaped h))]
  exact q
theorem due_tb (l : LD) : (dueV l).all isTB = true := by
  unfold dueV
  split
  · show (PyData.strOk (Str.ofString "legs") && (PyData.strOk (Str.ofString "None") && (true && true))) = true
    rw [ok_of, ok_of]
    rfl
  · show (PyData.strOk (Str.ofString "line") && (PyData.strOk l.text && true)) = true
    rw [ok_of, ok_text]
    rfl
theorem bad_tb {t : Str} (h : PyData.strOk t = true) : (badV t).all isTB = true := by
  show (PyData.strOk (Str.ofString "legs") && (PyData.strOk t && (true && true))) = true
  rw [ok_of, h]
  rfl
theorem val_tb {t : Str} (h : PyData.strOk t = true) : (valV' t).all isTB = true := by
  show (PyData.strOk (Str.ofString "line value") && (PyData.strOk t && (true && true))) = true
  rw [ok_of, h]
  rfl
end KX
end
section
set_option Elab.async false
set_option linter.all false
set_option maxRecDepth 100000
set_option maxHeartbeats 4000000
/-! E7: defs that make lambdas; _law_through_right. -/
namespace KX
open PySem PySem.Spec PyProof.Rows L2
/-- a def of the module whose code object stands at c -/
structure DeL (K : PySem.W.Frag) (mg : Str → Option Value) (x : Str) (st : Stmt) (ps : List Str) (c : Addr) : Prop where
  ex : ∃ (f : Addr) (oc : Value) (od : Option Addr) (kV doc pm : Value) (an : Option Addr) (ct : Value) (osl : Array (Option Value)),
    K.lookup f = some ⟨oc, od, .func (PySem.W.fnOf x x (defArgs st) (defBody st) (defScope st) .none kV doc pm an (.ref c) ct), osl⟩ ∧ PySem.W.codeIn K (.ref c) x = true ∧ PySem.W.keepIn K (.ref f) = true ∧ mg x = some (.ref f) ∧
      L2.Binds K (PySem.W.fnOf x x (defArgs st) (defBody st) (defScope st) .none kV doc pm an (.ref c) ct) ps []
section
variable {P : Program} {w : World} {K : PySem.W.Frag} {mg : Str → Option Value} {base : Heap}
theorem DeL.calG {x : Str} {st : Stmt} {N ps : List Str} {c : Addr} {k : Nat} {sp : Sp} (D : DeL K mg x st ps c) (S : FnScope N ps (defScope st)) (len : ∀ vs H Q E, sp vs H Q E → vs.length = ps.length)
    (hbody : ∀ (f : Addr) (A : Around) (outer : List Env) (s : Shared) (H : Hp) (vs : List V) (Q : VK) (E : XK), Gd A → Room k (A.deeper (envOfC x (defScope st) s.heap.objs.size f (.ref c))) → sp vs H Q E →
      ∃ t, PSs (cxOf CX0 P w K mg base N x (defScope st) f (.ref c) A outer s H E).nox (defBody st) t ∧ t { nx := fun _ H' => Q .non H', rt := Q } (L2.start N vs) H) : CalG P w K mg base (k + 1) x sp := by
  obtain ⟨f, oc, od, kV, doc, pm, an, ct, osl, lk, hcd, kp, hm, b⟩ := D.ex
  refine ⟨f, _, ps, ⟨len, fun A outer s H args us vs Q E g hr e0 bt rv hsp => ?_⟩, hm, kp, b⟩
  refine LamX.run_ofS lk hcd S hr e0 bt rv (len _ _ _ _ hsp) fun hr' => ?_
  obtain ⟨t, h1, h2⟩ := hbody f A outer s H vs Q E g hr' hsp
  exact ⟨t, h1.nox, h2⟩
/-- the lambdas of the def x: its code object at c, its table at P -/
structure LamF (base : Heap) (mg : Str → Option Value) (T : List (Addr × Str)) (x : Str) (c P : Addr) : Prop where
  tb : LamX.TabB base mg c P
  mem : (P, ((x ++ ".<locals>.") ++ "<lambda>" : Str)) ∈ T
  uni : ∀ p ∈ T, p.1 = P → p.2 = ((x ++ ".<locals>.") ++ "<lambda>" : Str)
/-- told, as it stands behind the top -/
structure TldF (P : Program) (w : World) (K : PySem.W.Frag) (mg : Str → Option Value) (base : Heap) (C CLg CLn : Addr) : Prop where
  bi : Bi mg
  de : De K mg "_law_told" sTold ["_law_call"]
  xf : ∃ CB, ExF K mg CLg CLn CB
  re : ReF P w K mg base C
end
section
variable {X : Cx}
theorem pe_told {C CLg CLn c P : Addr} {T : List (Addr × Str)} {x : Str} {k : Nat} {params : Arguments} {body : Expr} {scope : Scope} {t : XK → TE} {p lpos pos : Pos} (F : TldF X.prog X.w X.K X.mg X.base C CLg CLn) (gd : Gd X.A) (hr : Room (k + 2) X.A) (hg : Gl X "_law_told")
    (LF : LamF X.base X.mg T x c P) (hq : X.env.qual = x ++ ".<locals>.") (hcode : X.env.code = .ref c) (L : LamX.LamS X.env.scope scope) (hdef : defaultsOf params X.env = ([], []))
    (hbind : ∀ (q : Str) (cl : List (Str × Addr)) (pm cv ctv : Value), bindArgs (PySem.W.kla_fn "<lambda>" q params body scope cl pm cv ctv) ⟨[], []⟩ = pure [])
    (hbody : ∀ (A : Around) (outer : List Env) (s : Shared) (H : Hp) (E : XK) (f c' : Addr), Room k (A.deeper (LamX.lamEnv X scope s.heap.objs.size f c')) → PE (LamX.lamCx X A outer s H E scope f c') body (t E)) :
    PE X (.Call (.Name "_law_told" p) [.Lambda params body scope lpos] [] pos) (LamX.tLam T (TTold X.K C CLg CLn) t) := by
  obtain ⟨g, fd, Fn, hm, b⟩ := F.de.ex
  obtain ⟨oc, od, kV, doc, pm, an, cdv, ct, osl, rfl, lk, hcd⟩ := Fn.ex
  obtain ⟨CB, xf⟩ := F.xf
  obtain ⟨fR, rok, ra, rf⟩ := F.re.ex
  exact LamX.pe_lamcall hg hm Fn.kp lk hcd b scTold rfl (.inl rfl) (told_gives F.bi xf gd hr rok ra rf) LF.tb hcode (by rw [hq]; exact LF.mem) (by rw [hq]; exact LF.uni) hr L hdef hbind hbody
end
section
variable {r : Addr} {H H' : Hp}
theorem Tabs.off {T : List (Addr × Str)} (e : Off r H H') (hr : St r H) (t : LamX.Tabs T H) : LamX.Tabs T H' := fun p hp => by
  obtain ⟨a, b, h0, _⟩ := hr
  obtain ⟨ps, h1, h2, h3⟩ := t p hp
  refine ⟨ps, e _ _ (ne_of h1 h0 (by intro z; cases z)) h1, h2, fun pos cv hc => ?_⟩
  obtain ⟨c, e1, e2⟩ := h3 pos cv hc
  refine ⟨c, e1, e _ _ (ne_of e2 h0 (by intro z; unfold LamX.CodeO at z; cases z)) e2⟩
theorem Tabs.same {T : List (Addr × Str)} (e : Same H H') (t : LamX.Tabs T H) : LamX.Tabs T H' := t.ext e
theorem St.fresh {p : Addr} (h : St r H) (n : H p = none) : p ≠ r := fun z => by
  obtain ⟨_, _, h0, _⟩ := h
  rw [z, h0] at n
  cases n
theorem take_pred {α : Type} {l : List α} {d : Nat} {x : α} (h : l[d - 1]? = some x) (hd : 0 < d) : l.take d = l.take (d - 1) ++ [x] := by
  obtain ⟨e, rfl⟩ : ∃ e, d = e + 1 := ⟨d - 1, by omega⟩
  rw [Nat.add_sub_cancel] at h ⊢
  rw [List.take_add_one, h]
  rfl
theorem slL {X : Cx} (K : PySem.W.Frag) (h : X.K = K) : SlR X (rSlL K) := by
  rw [← h]
  exact sl_list
theorem cut_to (xs : List V) (n : Nat) : cutV xs none (some (n : Int)) = xs.take n := by
  unfold cutV
  rw [HT.sIx_none, HT.sIx_nat, List.drop_zero, Nat.sub_zero]
  by_cases h : n ≤ xs.length
  · rw [Nat.min_eq_left h]
  · rw [Nat.min_eq_right (by omega), List.take_of_length_le (Nat.le_refl _), List.take_of_length_le (by omega)]
theorem cut_from (xs : List V) (n : Nat) : cutV xs (some (n : Int)) none = xs.drop n := by
  unfold cutV
  rw [HT.sIx_none, HT.sIx_nat, List.take_of_length_le (by rw [List.length_drop]; omega)]
  by_cases h : n ≤ xs.length
  · rw [Nat.min_eq_left h]
  · rw [Nat.min_eq_right (by omega), List.drop_length, List.drop_eq_nil_of_le (by omega)]
theorem CoV.ex {K : PySem.W.Frag} {v : V} {b : Bool} (e : Ex r H H') (hr : St r H) (h : CoV K H v b) (hv : v ≠ .ref r) : CoV K H' v b := by
  cases h with
  | flat h => exact .flat h
  | tup h q => exact .tup (SqT.ex e hr h) q
  | two h q s => exact .two (SqT.ex e hr h) q s
  | @lst t xs h =>
    have ht : t ≠ r := fun z => hv (by rw [z])
    obtain ⟨_, _, h0, _⟩ := hr
    rcases h with (h | ⟨o, h⟩) | h
    · exact .lst (.inl (.inl (e _ _ ht (fun ps z => by cases z) h)))
    · exact .lst (.inl (.inr ⟨o, e _ _ ht (fun ps z => by cases z) h⟩))
    · exact .lst (.inr h)
  | @dict t kvs h => exact .dict (e _ _ (fun z => hv (by rw [z])) (fun ps z => by cases z) h)
end
section
variable {P : Program} {w : World} {K : PySem.W.Frag} {mg : Str → Option Value} {base : Heap}
abbrev sTR : Stmt := top 36
abbrev nTR : List Str := ["_law_rng_here", "_law_points_here", "_law_at", "_law_last", "_law_odd", "_law_now", "_law_spot", "_law_some_odd", "_law_some", "_law_wrong"]
theorem scTR : FnScope nTR ["_law_rng_here"] (defScope sTR) := ⟨rfl, rfl, rfl, by decide +kernel, rfl, by decide +kernel, by decide +kernel⟩
def spRt (T : List (Addr × Str)) : Sp := fun vs H Q _ => ∃ r, vs = [.ref r] ∧ St r H ∧ LamX.Tabs T H ∧ ∀ H', Ex r H H' → St r H' → LamX.Tabs T H' → Q (.bl true) H'
/-- _law_through, as it stands behind the top -/
structure LthF (P : Program) (w : World) (K : PySem.W.Frag) (mg : Str → Option Value) (base : Heap) (C CLg : Addr) : Prop where
  ex : ∃ (f : Addr) (fd : FuncData), FnOk P w K mg base (L2.CX P w) 8 f fd ["_law_some"] (spLThr K C CLg) ∧ mg "_law_through" = some (.ref f) ∧ PySem.W.keepIn K (.ref f) = true ∧ L2.Binds K fd ["_law_some"] []
theorem ok_tr {C CLg CLn c PT : Addr} {T : List (Addr × Str)} (B : Bi mg) (D : DeL K mg "_law_through_right" sTR ["_law_rng_here"] c) (LF : LamF base mg T "_law_through_right" c PT) (TF : TldF P w K mg base C CLg CLn) (FT : LthF P w K mg base C CLg)
    (GP : Cal P w K mg base 1 "_law_points" (spPts K) []) (GM : Cal P w K mg base 3 "_law_model" (spModel K) []) (GC : Cal P w K mg base 3 "_law_corners" (spCs K) []) (GD : Cal P w K mg base 1 "_law_draw" spDraw []) (GH : Cal P w K mg base 2 "_law_choice" (spChoice K) []) (GU : CalG P w K mg base 3 "_law_due" (spDue K)) :
    CalG P w K mg base 16 "_law_through_right" (spRt T) := by
  obtain ⟨fT, fdT, FnT, mgT, kT, bT⟩ := FT.ex
  obtain ⟨fR, rok, ra, rf⟩ := TF.re.ex
  refine D.calG scTR (fun vs H Q E h => ?_) (fun f A outer s H vs Q E gd hr h => ?_)
  · obtain ⟨r, rfl, _⟩ := h
    rfl
  · obtain ⟨r, rfl, st, tt, q⟩ := h
    have rp : RpF (cxOf CX0 P w K mg base nTR "_law_through_right" (defScope sTR) f (.ref c) A outer s H E).nox C fR := ⟨gd, by have := hr.dp; show (A.deeper _).depth + 5 < _; omega, by have := hr.un; show (A.deeper _).units + 100 < _; omega, rok, ra, rf⟩
    refine ⟨_, pss_cons (ps_set (i := 1) scTR.nd rfl (Or.inl rfl) (C8.pe_c GP hr (by decide) rfl (pa_cons (C8.pe_c GM hr (by decide) rfl (pa_cons (pv 0) (pa_cons pe_int pa_nil))) pa_nil)))
      (pss_cons (ps_set (i := 8) scTR.nd rfl (Or.inr rfl) (C8.pe_c GC hr (by decide) rfl (pa_cons (pv 0) (pa_cons (pv 1) pa_nil))))
      (pss_cons (ps_if (pt_cmpR (op_neD hr.units)
          (pe_told (k := 9) (t := fun E => tCall (spLThr K C CLg) [] E (tCons (tVar 8) tNil)) TF gd (hr.mono (by decide)) rfl LF rfl rfl (LamX.lamS_by (sc := defScope sTR) (by decide +kernel)) rfl (fun _ _ _ _ _ => rfl)
            (fun A outer s H E f c' hr2 => pe_call FnT (hr2.mono (by decide)) rfl mgT kT bT .nil (passes_call (takes_of rfl rfl rfl rfl) fun _ _ _ _ z => z) (pa_cons (pv 8) pa_nil)))
          (pe_cG GU gd hr (by decide) rfl (pa_cons (pv 1) pa_nil)) (nomark _)) (pss_one (ps_ret pe_bl)) pss_nil)
      (pss_cons (ps_par (i := 2) (j := 3) (by rfl) scTR.nd rfl rfl (by decide) rfl rfl (pa_cons (C8.pe_c GD hr (by decide) rfl (pa_cons (pv 0) (pa_cons (pe_op op_add (pe_callB (call_min2 rfl) (by rfl) B.min (by decide +kernel) (pa_cons pe_int (pa_cons (pe_callB call_len_seq (by rfl) B.len PySem.boot_len (pa_cons (pv 8) pa_nil)) pa_nil))) pe_int) pa_nil))) (pa_cons (pe_ix ix_list (pv 8) (pe_un un_neg pe_int) (fun _ _ => rfl)) pa_nil)) (by rfl))
      (pss_cons (ps_set (i := 4) scTR.nd rfl (Or.inl rfl) (C8.pe_c GH hr (by decide) rfl (pa_cons (pv 0) (pa_cons (pe_lst (pa_cons pe_non (pa_cons pe_int (pa_cons (pe_tup pa_nil) (pa_cons (pe_tup (pa_cons pe_int pa_nil)) (pa_cons (pe_tup (pa_cons pe_int (pa_cons pe_int (pa_cons pe_int pa_nil)))) (pa_cons (pe_lst (pa_cons pe_int (pa_cons pe_int pa_nil))) (pa_cons (pe_tup (pa_cons pe_bl (pa_cons pe_int pa_nil))) (pa_cons (pe_tup (pa_cons pe_int (pa_cons pe_non pa_nil))) (pa_cons (pe_tup (pa_cons pe_str (pa_cons pe_int pa_nil))) (pa_cons pe_dnewK pa_nil))))))))))) pa_nil))))
      (C8.pss_cut (ps_if (PW.pt (pw_and (pt_cmpR op_gt (pv 2) pe_int (nomark _)) (pw_and1 (pt_cmpR op_eq (C8.pe_c GD hr (by decide) rfl (pa_cons (pv 0) (pa_cons pe_int pa_nil))) pe_int (nomark _))))) (pss_cons (ps_asg (pe_ix ix_list (pv 8) (pe_op op_sub (pv 2) pe_int) (fun _ _ => rfl)) (pg_tup rfl (pgs_cons (pg_name (i := 5) scTR.nd rfl (Or.inl rfl)) (pgs_cons (pg_name (i := 6) scTR.nd rfl (Or.inl rfl)) pgs_nil))))
          (pss_cons (ps_set (i := 7) scTR.nd rfl (Or.inl rfl) (pe_lst (pa_cons (pe_tup (pa_cons (pv 5) (pa_cons (pv 6) pa_nil))) (pa_cons (pe_tup (pa_cons (pe_op op_sub (pv 5) pe_int) (pa_cons (pv 6) pa_nil))) (pa_cons (pe_tup (pa_cons (pe_op op_add (pv 5) pe_int) (pa_cons (pe_op op_add (pv 6) pe_int) pa_nil))) pa_nil)))))
          (pss_one (ps_set (i := 4) scTR.nd rfl (Or.inl rfl) (C8.pe_c GH hr (by decide) rfl (pa_cons (pv 0) (pa_cons (pe_op op_cat (pv 7) (pe_lst (pa_cons (pe_tup (pa_cons (pe_op op_add (pv 5) pe_int) (pa_cons (pe_op op_sub (pv 6) pe_int) pa_nil))) (pa_cons (pe_tup (pa_cons (pv 5) (pa_cons (pe_op op_add (pv 6) pe_int) pa_nil))) pa_nil)))) pa_nil))))))) pss_nil)
      (pss_cons (ps_set (i := 9) scTR.nd rfl (Or.inr rfl) (pe_op op_cat (pe_op op_cat (pe_slice sl_list (pv 8) po_none (po_some (pv 2))) (pe_lst (pa_cons (pv 4) pa_nil))) (C8.pe_c GH hr (by decide) rfl (pa_cons (pv 0) (pa_cons (pe_lst (pa_cons (pe_lst pa_nil) (pa_cons (pe_lst (pa_cons pe_non pa_nil)) (pa_cons (pe_lst (pa_cons (pe_tup (pa_cons (pe_op op_add (pe_ix ix_tup (pv 3) pe_int (fun _ _ => rfl)) pe_int) (pa_cons (pe_ix ix_tup (pv 3) pe_int (fun _ _ => rfl)) pa_nil))) pa_nil)) pa_nil)))) pa_nil)))))
      (pss_one (ps_ret (pe_cmpR (op_eqD hr.units)
          (pe_told (k := 9) (t := fun E => tCall (spLThr K C CLg) [] E (tCons (tSl (rSlL K) (tVar 9) tNoPart (tPart (tC (.int 8)))) tNil)) TF gd (hr.mono (by decide)) rfl LF rfl rfl (LamX.lamS_by (sc := defScope sTR) (by decide +kernel)) rfl (fun _ _ _ _ _ => rfl)
            (fun A outer s H E f c' hr2 => pe_call FnT (hr2.mono (by decide)) rfl mgT kT bT .nil (passes_call (takes_of rfl rfl rfl rfl) fun _ _ _ _ z => z) (pa_cons (pe_slice (slL K rfl) (pv 9) po_none (po_some pe_int)) pa_nil)))
          (pe_lst (pa_cons pe_str (pa_cons (pe_callB (call_rpK K rfl rp) (by rfl) B.repr boot_rp (pa_cons (pv 2) pa_nil)) (pa_cons pe_bl pa_nil)))) (nomark _)))))))))), ?_⟩
    -- the points
    refine ⟨_, rfl, r, 5, rfl, st, (by decide), fun v1 H1 x y rows hx1 hx2 hy1 hy2 hrl hrow hm o1 st1 => ?_⟩
    refine ⟨v1, x, y, rows, rfl, hm, hrl, hrow, fun fl zs H2 s2 nfl hfl hz => ?_⟩
    have st2 := st1.same s2
    have hflr : fl ≠ r := fun z => by
      obtain ⟨_, _, h, _⟩ := st1
      rw [z, h] at nfl
      cases nfl
    have md := md_ok (c := (x, y)) hrow hrl
    have hps : Psv rows := (rows_ok_units hrow).1
    have hsm := md.small hrl (by show x.natAbs ≤ 1000; omega) (by show y.natAbs ≤ 1000; omega)
    generalize hc : ((x, y) : P2) = c at *
    have hcx : c.1 = x := by rw [← hc]
    have hcy : c.2 = y := by rw [← hc]
    have mlen := md.mlen
    have mpl := md.len
    -- the corners
    refine ⟨_, rfl, _, rfl, r, fl, zs, c, pts c rows, rfl, st2, hfl, hflr, hz, md.up, (by omega), (by rw [md.mg]; omega), fun p2 ws ys H3 o3 st3 np2 hp2 pws cok => ?_⟩
    have hp2r : p2 ≠ r := fun z => by
      obtain ⟨_, _, h, _⟩ := st2
      rw [z, h] at np2
      cases np2
    have t3 : LamX.Tabs T H3 := Tabs.off o3 st2 (Tabs.same s2 (Tabs.off o1 st tt))
    have ex3 : Ex r H H3 := (Ex.off o1).trans ((Ex.of s2).trans (Ex.off o3))
    have hwl := Prs.length pws
    rw [List.length_cons] at hwl
    have cl := cok.len
    rw [md.mg] at cl
    have hw8 : ws.length ≤ 8 := by omega
    have cor := cok.cor
    rw [md.mg] at cor
    obtain ⟨lb1, lb2, lb3⟩ := legs_between ys c (merged rows) (merged_pos hps) cok.rise (fun z hz => by
      have := cok.sub z hz
      unfold pts at this ⊢
      rw [units_merged hps]
      exact this) cor
    have eTh : ThB (c :: ys) = merged rows := by
      unfold ThB
      rw [merged_eq lb2 (merged_pos hps) lb1, merged_idem]
    have bd : ∀ q ∈ c :: ys, q.1.natAbs < 100000 := fun q hq => by
      have : q ∈ c :: pts c rows := by
        rcases List.mem_cons.mp hq with z | z
        · rw [z]
          exact List.mem_cons_self
        · exact List.mem_cons_of_mem _ (cok.sub q z)
      have := md.bd q this
      omega
    -- told != due
    refine ⟨t3, fun H4 eN4 t4 => ?_⟩
    have st4 := st3.lam eN4
    have pw4 := Prs.ex (Ex.lam eN4) st3 pws
    refine ⟨_, rfl, p2, ws, rfl, SqL.of ((Ex.lam eN4).lst hp2 hp2r), hw8, th_good pw4 lb3 bd (fun q hq => by rw [eTh] at hq; exact (md.mok q hq).1) (by rw [eTh]; exact hsm) fun l1 H5 s5 nl1 hl1 => ?_⟩
    have ex5 : Ex r H3 H5 := (Ex.lam eN4).trans (Ex.of s5)
    have st5 := st4.same s5
    have hz5 : Prs K H5 zs (c :: pts c rows) := Prs.ex ex5 st3 (Prs.off o3 st2 hz)
    have hfl5 : H5 fl = some (.lst zs) := ex5.lst (o3 _ _ hflr hfl) hflr
    refine ⟨_, rfl, .ref fl, c, pts c rows, rfl, ⟨fl, zs, rfl, SqL.of hfl5, hz5⟩, (by omega), (by unfold lnOf; rw [md.mg]; exact hsm), fun l2 H6 s6 nl2 hl2 => ?_⟩
    have e6 : lnOf c (legs1 (c :: pts c rows)) = ⟨c.1, c.2, ThB (c :: ys)⟩ := by unfold lnOf; rw [md.mg, eTh]
    rw [e6] at hl2
    refine tb_ne (s6 _ _ hl1) hl2 (due_tb _) ⟨false, rfl, ?_⟩
    refine iteF ?_
    have ex6 : Ex r H3 H6 := ex5.trans (Ex.of s6)
    have st6 := st5.same s6
    have t6 : LamX.Tabs T H6 := Tabs.same s6 (Tabs.same s5 t4)
    have hp6 : H6 p2 = some (.lst ws) := ex6.lst hp2 hp2r
    have pw6 := Prs.ex ex6 st3 pws
    -- at, last
    refine ⟨_, rfl, _, rfl, p2, ws, rfl, .inl (SqL.of hp6), _, _, rfl, _, _, rfl, rfl, r, _, rfl, st6, (by split <;> omega), (by split <;> omega), fun d H7 hd o7 st7 => ?_⟩
    have hd7 : d ≤ 7 ∧ d ≤ ws.length := by
      have hd' : ((d : Nat) : Int) < (if ((ws.length : Nat) : Int) < 7 then ((ws.length : Nat) : Int) else 7) + 1 := hd
      split at hd' <;> omega
    have hp7 : H7 p2 = some (.lst ws) := o7 _ _ hp2r hp6
    have pw7 := Prs.off o7 st6 pw6
    have tb7 := Tabs.off o7 st6 t6
    have ex7 : Ex r H3 H7 := ex6.trans (Ex.off o7)
    obtain ⟨cm, cl', ecl⟩ : ∃ cm cl', c :: ys = cm ++ [cl'] := by
      rcases snoc_cases (c :: ys) with h | ⟨m, l, h⟩
      · cases h
      · exact ⟨m, l, h⟩
    have pw7' := pw7
    rw [ecl] at pw7'
    obtain ⟨ws0, wz, rfl, pws0, ⟨tl, rfl, htl⟩⟩ := Prs.split pw7'
    have htl0 : SqT K H3 tl [.int cl'.1, .int cl'.2] := by
      have pws' := pws
      rw [ecl] at pws'
      obtain ⟨_, _, e0, _, ⟨tl', e1, h⟩⟩ := Prs.split pws'
      have e2 := List.append_inj_right' e0 rfl
      rw [e1] at e2
      cases e2
      exact h
    refine ⟨_, rfl, _, rfl, p2, _, _, _, rfl, rfl, SqL.of hp7, atI_last _ _, _, _, rfl, ?_⟩
    -- the odd one
    refine ⟨_, rfl, Nat.zero_le _, fun t0 n0 => ?_⟩
    have S0 : Same (H7) (upd (H7) t0 (.tup [])) := Same.new n0
    have r0 : t0 ≠ r := St.fresh st7 n0
    have x0 : St r (upd (H7) t0 (.tup [])) := St.same S0 st7
    have g0 : (upd (H7) t0 (.tup [])) t0 = some (.tup []) := upd_same
    generalize hh0 : upd (H7) t0 (.tup []) = G0 at *
    refine ⟨(by show 1 ≤ sizeLine; decide), fun t1 n1 => ?_⟩
    have S1 : Same (G0) (upd (G0) t1 (.tup [.int 1])) := Same.new n1
    have r1 : t1 ≠ r := St.fresh x0 n1
    have x1 : St r (upd (G0) t1 (.tup [.int 1])) := St.same S1 x0
    have g1 : (upd (G0) t1 (.tup [.int 1])) t1 = some (.tup [.int 1]) := upd_same
    generalize hh1 : upd (G0) t1 (.tup [.int 1]) = G1 at *
    refine ⟨(by show 3 ≤ sizeLine; decide), fun t2 n2 => ?_⟩
    have S2 : Same (G1) (upd (G1) t2 (.tup [.int 1, .int 2, .int 3])) := Same.new n2
    have r2 : t2 ≠ r := St.fresh x1 n2
    have x2 : St r (upd (G1) t2 (.tup [.int 1, .int 2, .int 3])) := St.same S2 x1
    have g2 : (upd (G1) t2 (.tup [.int 1, .int 2, .int 3])) t2 = some (.tup [.int 1, .int 2, .int 3]) := upd_same
    generalize hh2 : upd (G1) t2 (.tup [.int 1, .int 2, .int 3]) = G2 at *
    refine ⟨(by show 2 ≤ sizeLine; decide), fun t3 n3 => ?_⟩
    have S3 : Same (G2) (upd (G2) t3 (.lst [.int 1, .int 2])) := Same.new n3
    have r3 : t3 ≠ r := St.fresh x2 n3
    have x3 : St r (upd (G2) t3 (.lst [.int 1, .int 2])) := St.same S3 x2
    have g3 : (upd (G2) t3 (.lst [.int 1, .int 2])) t3 = some (.lst [.int 1, .int 2]) := upd_same
    generalize hh3 : upd (G2) t3 (.lst [.int 1, .int 2]) = G3 at *
    refine ⟨(by show 2 ≤ sizeLine; decide), fun t4 n4 => ?_⟩
    have S4 : Same (G3) (upd (G3) t4 (.tup [.bl true, .int 1])) := Same.new n4
    have r4 : t4 ≠ r := St.fresh x3 n4
    have x4 : St r (upd (G3) t4 (.tup [.bl true, .int 1])) := St.same S4 x3
    have g4 : (upd (G3) t4 (.tup [.bl true, .int 1])) t4 = some (.tup [.bl true, .int 1]) := upd_same
    generalize hh4 : upd (G3) t4 (.tup [.bl true, .int 1]) = G4 at *
    refine ⟨(by show 2 ≤ sizeLine; decide), fun t5 n5 => ?_⟩
    have S5 : Same (G4) (upd (G4) t5 (.tup [.int 1, .non])) := Same.new n5
    have r5 : t5 ≠ r := St.fresh x4 n5
    have x5 : St r (upd (G4) t5 (.tup [.int 1, .non])) := St.same S5 x4
    have g5 : (upd (G4) t5 (.tup [.int 1, .non])) t5 = some (.tup [.int 1, .non]) := upd_same
    generalize hh5 : upd (G4) t5 (.tup [.int 1, .non]) = G5 at *
    refine ⟨(by show 2 ≤ sizeLine; decide), fun t6 n6 => ?_⟩
    have S6 : Same (G5) (upd (G5) t6 (.tup [.str "1", .int 2])) := Same.new n6
    have r6 : t6 ≠ r := St.fresh x5 n6
    have x6 : St r (upd (G5) t6 (.tup [.str "1", .int 2])) := St.same S6 x5
    have g6 : (upd (G5) t6 (.tup [.str "1", .int 2])) t6 = some (.tup [.str "1", .int 2]) := upd_same
    generalize hh6 : upd (G5) t6 (.tup [.str "1", .int 2]) = G6 at *
    intro t7 n7
    have S7 : Same (G6) (upd (G6) t7 (.dK [])) := Same.new n7
    have r7 : t7 ≠ r := St.fresh x6 n7
    have x7 : St r (upd (G6) t7 (.dK [])) := St.same S7 x6
    have g7 : (upd (G6) t7 (.dK [])) t7 = some (.dK []) := upd_same
    generalize hh7 : upd (G6) t7 (.dK []) = G7 at *
    refine ⟨(by show 10 ≤ sizeLine; decide), fun lo nlo => ?_⟩
    have S8 : Same G7 (upd G7 lo (.lst [.non, .int 5, .ref t0, .ref t1, .ref t2, .ref t3, .ref t4, .ref t5, .ref t6, .ref t7])) := Same.new nlo
    have x8 := x7.same S8
    refine ⟨r, lo, _, rfl, x8, upd_same, St.fresh x7 nlo, (by show 1 ≤ 10; decide), (by show 10 < 1000; decide), fun i v H8 hi o8 st8 => ?_⟩
    have f0 := S8 _ _ (S7 _ _ (S6 _ _ (S5 _ _ (S4 _ _ (S3 _ _ (S2 _ _ (S1 _ _ (g0))))))))
    have f1 := S8 _ _ (S7 _ _ (S6 _ _ (S5 _ _ (S4 _ _ (S3 _ _ (S2 _ _ (g1)))))))
    have f2 := S8 _ _ (S7 _ _ (S6 _ _ (S5 _ _ (S4 _ _ (S3 _ _ (g2))))))
    have f3 := S8 _ _ (S7 _ _ (S6 _ _ (S5 _ _ (S4 _ _ (g3)))))
    have f4 := S8 _ _ (S7 _ _ (S6 _ _ (S5 _ _ (g4))))
    have f5 := S8 _ _ (S7 _ _ (S6 _ _ (g5)))
    have f6 := S8 _ _ (S7 _ _ (g6))
    have f7 := S8 _ _ (g7)
    have S78 : Same H7 (upd G7 lo (.lst [.non, .int 5, .ref t0, .ref t1, .ref t2, .ref t3, .ref t4, .ref t5, .ref t6, .ref t7])) := Same.trans S0 (Same.trans S1 (Same.trans S2 (Same.trans S3 (Same.trans S4 (Same.trans S5 (Same.trans S6 (Same.trans S7 S8)))))))
    have ex8 : Ex r H3 H8 := ex7.trans ((Ex.of S78).trans (Ex.off o8))
    have t8 : LamX.Tabs T H8 := Tabs.off o8 x8 (Tabs.same S78 tb7)
    have hv8 : CoV K H8 v false ∧ v ≠ .ref r := by
      have hm := List.mem_of_getElem? hi
      simp only [List.mem_cons, List.not_mem_nil, or_false] at hm
      have go : ∀ {b : Bool}, b = false → CoV K (upd G7 lo (.lst [.non, .int 5, .ref t0, .ref t1, .ref t2, .ref t3, .ref t4, .ref t5, .ref t6, .ref t7])) v b → v ≠ .ref r → CoV K H8 v false ∧ v ≠ .ref r := fun {b} hb h1 h2 => by
        subst hb
        exact ⟨h1.ex (Ex.off o8) x8 h2, h2⟩
      rcases hm with rfl | rfl | rfl | rfl | rfl | rfl | rfl | rfl | rfl | rfl
      · exact go rfl (.flat .non) (fun z => by cases z)
      · exact go rfl (.flat (.int 5)) (fun z => by cases z)
      · exact go rfl (.tup (SqT.of f0) (by decide)) (fun z => by injection z with z; exact r0 z)
      · exact go rfl (.tup (SqT.of f1) (by decide)) (fun z => by injection z with z; exact r1 z)
      · exact go rfl (.tup (SqT.of f2) (by decide)) (fun z => by injection z with z; exact r2 z)
      · exact go rfl (.lst (SqL.of f3)) (fun z => by injection z with z; exact r3 z)
      · exact go (b := isI (.bl true) && isI (.int 1)) rfl (.two (SqT.of f4) (.bl true) (.int 1)) (fun z => by injection z with z; exact r4 z)
      · exact go (b := isI (.int 1) && isI .non) rfl (.two (SqT.of f5) (.int 1) .non) (fun z => by injection z with z; exact r5 z)
      · exact go (b := isI (.str "1") && isI (.int 2)) rfl (.two (SqT.of f6) (.str "1") (.int 2)) (fun z => by injection z with z; exact r6 z)
      · exact go rfl (.dict f7) (fun z => by injection z with z; exact r7 z)
    refine ⟨fun σ' H' => ∃ u5 u6 u7 v, σ' = [some (.ref r), some (.ref fl), some (.int (d : Nat)), some (.ref tl), some v, u5, u6, u7, some (.ref p2), none] ∧ Ex r H3 H' ∧ St r H' ∧ LamX.Tabs T H' ∧ v ≠ .ref r ∧
      (CoV K H' v false ∨ ∃ m l q, (c :: ys).take d = m ++ [l] ∧ Pr K H' v q ∧ areJ l q = false), ?_, ?_⟩
    · have hp8 : H8 p2 = some (.lst (ws0 ++ [.ref tl])) := ex8.lst hp2 hp2r
      have pw8 : Prs K H8 (ws0 ++ [.ref tl]) (c :: ys) := Prs.ex ex8 st3 pws
      refine ⟨_, rfl, _, _, rfl, rfl, _, rfl, ?_⟩
      by_cases hd0 : ((d : Nat) : Int) > 0
      · rw [decide_eq_true hd0]
        refine iteT ?_
        refine ⟨_, rfl, r, 2, rfl, st8, (by decide), (by decide), fun d2 H9 hd2 o9 st9 => ⟨rfl, _, rfl, ?_⟩⟩
        have tb9 := Tabs.off o9 st8 t8
        have ex9 : Ex r H3 H9 := ex8.trans (Ex.off o9)
        refine ite2 (fun _ => ?_) (fun _ => ?_)
        · have hp9 : H9 p2 = some (.lst (ws0 ++ [.ref tl])) := ex9.lst hp2 hp2r
          have pw9 : Prs K H9 (ws0 ++ [.ref tl]) (c :: ys) := Prs.ex ex9 st3 pws
          have hdl : d - 1 < (c :: ys).length := by rw [List.length_cons]; omega
          obtain ⟨ll, gl⟩ : ∃ ll, (c :: ys)[d - 1]? = some ll := ⟨_, List.getElem?_eq_getElem hdl⟩
          obtain ⟨zv, hzv, ⟨tz, rfl, htz⟩⟩ := Prs.get pw9 gl
          have etk := take_pred gl (by omega)
          obtain ⟨la, lb⟩ := ll
          obtain ⟨b1, b2, b3, b4, b5⟩ := areJ_bad la lb
          have cd : ((d : Nat) : Int) - 1 = ((d - 1 : Nat) : Int) := by omega
          refine ⟨_, rfl, _, rfl, _, _, rfl, rfl, p2, _, _, _, rfl, rfl, SqL.of hp9, (by show atI _ (((d : Nat) : Int) - 1) = some (V.ref tz); rw [cd]; exact atI_nat hzv), tz, _, rfl, htz, rfl, _, _, rfl, _, _, rfl, rfl, ?_⟩
          refine ⟨_, rfl, _, rfl, (by show 2 ≤ sizeLine; decide), fun q1 m1 => ?_⟩
          have S21 : Same H9 (upd H9 q1 (.tup [.int la, .int lb])) := Same.new m1
          have x21 : St r (upd H9 q1 (.tup [.int la, .int lb])) := St.same S21 st9
          have g21 : (upd H9 q1 (.tup [.int la, .int lb])) q1 = some (.tup [.int la, .int lb]) := upd_same
          generalize hh21 : upd H9 q1 (.tup [.int la, .int lb]) = G21 at *
          refine ⟨_, rfl, _, _, rfl, rfl, _, rfl, (by show 2 ≤ sizeLine; decide), fun q2 m2 => ?_⟩
          have S22 : Same G21 (upd G21 q2 (.tup [.int (la - 1), .int lb])) := Same.new m2
          have x22 : St r (upd G21 q2 (.tup [.int (la - 1), .int lb])) := St.same S22 x21
          have g22 : (upd G21 q2 (.tup [.int (la - 1), .int lb])) q2 = some (.tup [.int (la - 1), .int lb]) := upd_same
          generalize hh22 : upd G21 q2 (.tup [.int (la - 1), .int lb]) = G22 at *
          refine ⟨_, rfl, _, _, rfl, rfl, _, rfl, _, _, rfl, rfl, (by show 2 ≤ sizeLine; decide), fun q3 m3 => ?_⟩
          have S23 : Same G22 (upd G22 q3 (.tup [.int (la + 2), .int (lb + 1)])) := Same.new m3
          have x23 : St r (upd G22 q3 (.tup [.int (la + 2), .int (lb + 1)])) := St.same S23 x22
          have g23 : (upd G22 q3 (.tup [.int (la + 2), .int (lb + 1)])) q3 = some (.tup [.int (la + 2), .int (lb + 1)]) := upd_same
          generalize hh23 : upd G22 q3 (.tup [.int (la + 2), .int (lb + 1)]) = G23 at *
          refine ⟨(by show 3 ≤ sizeLine; decide), fun q4 m4 => ?_⟩
          have S24 : Same G23 (upd G23 q4 (.lst [.ref q1, .ref q2, .ref q3])) := Same.new m4
          have x24 : St r (upd G23 q4 (.lst [.ref q1, .ref q2, .ref q3])) := St.same S24 x23
          have g24 : (upd G23 q4 (.lst [.ref q1, .ref q2, .ref q3])) q4 = some (.lst [.ref q1, .ref q2, .ref q3]) := upd_same
          generalize hh24 : upd G23 q4 (.lst [.ref q1, .ref q2, .ref q3]) = G24 at *
          refine ⟨_, rfl, _, rfl, _, rfl, _, _, rfl, rfl, _, rfl, _, _, rfl, rfl, (by show 2 ≤ sizeLine; decide), fun q5 m5 => ?_⟩
          have S25 : Same G24 (upd G24 q5 (.tup [.int (la + 3), .int (lb - 4)])) := Same.new m5
          have x25 : St r (upd G24 q5 (.tup [.int (la + 3), .int (lb - 4)])) := St.same S25 x24
          have g25 : (upd G24 q5 (.tup [.int (la + 3), .int (lb - 4)])) q5 = some (.tup [.int (la + 3), .int (lb - 4)]) := upd_same
          generalize hh25 : upd G24 q5 (.tup [.int (la + 3), .int (lb - 4)]) = G25 at *
          refine ⟨_, rfl, _, rfl, _, _, rfl, rfl, (by show 2 ≤ sizeLine; decide), fun q6 m6 => ?_⟩
          have S26 : Same G25 (upd G25 q6 (.tup [.int la, .int (lb + 1)])) := Same.new m6
          have x26 : St r (upd G25 q6 (.tup [.int la, .int (lb + 1)])) := St.same S26 x25
          have g26 : (upd G25 q6 (.tup [.int la, .int (lb + 1)])) q6 = some (.tup [.int la, .int (lb + 1)]) := upd_same
          generalize hh26 : upd G25 q6 (.tup [.int la, .int (lb + 1)]) = G26 at *
          refine ⟨(by show 2 ≤ sizeLine; decide), fun q7 m7 => ?_⟩
          have S27 : Same G26 (upd G26 q7 (.lst [.ref q5, .ref q6])) := Same.new m7
          have x27 : St r (upd G26 q7 (.lst [.ref q5, .ref q6])) := St.same S27 x26
          have g27 : (upd G26 q7 (.lst [.ref q5, .ref q6])) q7 = some (.lst [.ref q5, .ref q6]) := upd_same
          generalize hh27 : upd G26 q7 (.lst [.ref q5, .ref q6]) = G27 at *
          have L1 : G27 q4 = some (.lst [.ref q1, .ref q2, .ref q3]) := S27 _ _ (S26 _ _ (S25 _ _ g24))
          refine ⟨q4, q7, _, _, rfl, rfl, L1, g27, (by show 5 ≤ sizeLine; decide), fun q8 m8 => ?_⟩
          have S28 : Same G27 (upd G27 q8 (.lst ([.ref q1, .ref q2, .ref q3] ++ [.ref q5, .ref q6]))) := Same.new m8
          have x28 : St r (upd G27 q8 (.lst ([.ref q1, .ref q2, .ref q3] ++ [.ref q5, .ref q6]))) := St.same S28 x27
          have g28 : (upd G27 q8 (.lst ([.ref q1, .ref q2, .ref q3] ++ [.ref q5, .ref q6]))) q8 = some (.lst ([.ref q1, .ref q2, .ref q3] ++ [.ref q5, .ref q6])) := upd_same
          generalize hh28 : upd G27 q8 (.lst ([.ref q1, .ref q2, .ref q3] ++ [.ref q5, .ref q6])) = G28 at *
          have w1 := S28 _ _ (S27 _ _ (S26 _ _ (S25 _ _ (S24 _ _ (S23 _ _ (S22 _ _ (g21)))))))
          have w2 := S28 _ _ (S27 _ _ (S26 _ _ (S25 _ _ (S24 _ _ (S23 _ _ (g22))))))
          have w3 := S28 _ _ (S27 _ _ (S26 _ _ (S25 _ _ (S24 _ _ (g23)))))
          have w5 := S28 _ _ (S27 _ _ (S26 _ _ (g25)))
          have w6 := S28 _ _ (S27 _ _ (g26))
          have S90 : Same H9 G28 := Same.trans S21 (Same.trans S22 (Same.trans S23 (Same.trans S24 (Same.trans S25 (Same.trans S26 (Same.trans S27 S28))))))
          refine ⟨r, q8, _, rfl, x28, g28, St.fresh x27 m8, (by show 1 ≤ 5; decide), (by show 5 < 1000; decide), fun i2 v2 Hx hi2 ox stx => ?_⟩
          have go : ∀ {q : Addr} {i j : Int}, G28 q = some (.tup [.int i, .int j]) → areJ (la, lb) (i, j) = false → v2 = .ref q → v2 ≠ .ref r ∧ (CoV K Hx v2 false ∨ ∃ m l q, (c :: ys).take d = m ++ [l] ∧ Pr K Hx v2 q ∧ areJ l q = false) := fun {q i j} h1 h2 h3 => by
            subst h3
            refine ⟨fun z => ?_, .inr ⟨_, (la, lb), (i, j), etk, Pr.off ox x28 (Pr.new h1), h2⟩⟩
            injection z with z
            obtain ⟨_, _, h0, _⟩ := x28
            rw [z, h0] at h1
            cases h1
          have hv2 : v2 ≠ .ref r ∧ (CoV K Hx v2 false ∨ ∃ m l q, (c :: ys).take d = m ++ [l] ∧ Pr K Hx v2 q ∧ areJ l q = false) := by
            have hm := List.mem_of_getElem? hi2
            simp only [List.cons_append, List.nil_append, List.mem_cons, List.not_mem_nil, or_false] at hm
            rcases hm with e | e | e | e | e
            · exact go w1 b1 e
            · exact go w2 b2 e
            · exact go w3 b3 e
            · exact go w5 b4 e
            · exact go w6 b5 e
          exact ⟨_, _, _, v2, rfl, ex9.trans ((Ex.of S90).trans (Ex.off ox)), stx, Tabs.off ox x28 (Tabs.same S90 tb9), hv2⟩
        · exact ⟨_, _, _, v, rfl, ex9, st9, tb9, hv8.2, .inl (hv8.1.ex (Ex.off o9) st8 hv8.2)⟩
      · rw [decide_eq_false hd0]
        refine iteF ?_
        exact ⟨_, _, _, v, rfl, ex8, st8, t8, hv8.2, .inl hv8.1⟩
    · rintro σ' Hm ⟨u5, u6, u7, v, rfl, exm, stm, tbm, hvr, hv⟩
      have hpm : Hm p2 = some (.lst (ws0 ++ [.ref tl])) := exm.lst hp2 hp2r
      have pwm : Prs K Hm (ws0 ++ [.ref tl]) (c :: ys) := Prs.ex exm st3 pws
      refine ⟨_, rfl, _, rfl, _, rfl, p2, _, rfl, SqL.of hpm, fun s1 n1 => ?_⟩
      rw [cut_to]
      generalize hW : (ws0 ++ [V.ref tl]) = W0 at *
      have U1 : Same Hm (upd Hm s1 (.lst (W0.take d))) := Same.new n1
      have y1 := stm.same U1
      have z1 : upd Hm s1 (.lst (W0.take d)) s1 = some (.lst (W0.take d)) := upd_same
      have w1 : s1 ≠ r := stm.fresh n1
      generalize upd Hm s1 (.lst (W0.take d)) = J1 at *
      refine ⟨_, rfl, (by show 1 ≤ sizeLine; decide), fun s2' n2 => ?_⟩
      have U2 : Same J1 (upd J1 s2' (.lst [v])) := Same.new n2
      have y2 := y1.same U2
      have z2 : upd J1 s2' (.lst [v]) s2' = some (.lst [v]) := upd_same
      generalize upd J1 s2' (.lst [v]) = J2 at *
      have hWl : W0.length = ys.length + 1 := by have := Prs.length pwm; rw [List.length_cons] at this; exact this
      refine ⟨s1, s2', _, _, rfl, rfl, U2 _ _ z1, z2, (by rw [List.length_take, sizeLine_eq, List.length_singleton]; omega), fun s3 n3 => ?_⟩
      have U3 : Same J2 (upd J2 s3 (.lst (W0.take d ++ [v]))) := Same.new n3
      have y3 := y2.same U3
      have z3 : upd J2 s3 (.lst (W0.take d ++ [v])) s3 = some (.lst (W0.take d ++ [v])) := upd_same
      have w3 : s3 ≠ r := y2.fresh n3
      generalize upd J2 s3 (.lst (W0.take d ++ [v])) = J3 at *
      have htl3 : SqT K J3 tl [.int cl'.1, .int cl'.2] := Same.seqT (Same.trans U1 (Same.trans U2 U3)) (SqT.ex exm st3 (SqT.ex (Ex.refl r H3) st3 htl0))
      refine ⟨_, rfl, Nat.zero_le _, fun e1 k1 => ?_⟩
      have U4 : Same J3 (upd J3 e1 (.lst [])) := Same.new k1
      have y4 := y3.same U4
      have z4 : upd J3 e1 (.lst []) e1 = some (.lst []) := upd_same
      have w4 : e1 ≠ r := y3.fresh k1
      generalize upd J3 e1 (.lst []) = J4 at *
      refine ⟨(by show 1 ≤ sizeLine; decide), fun e2 k2 => ?_⟩
      have U5 : Same J4 (upd J4 e2 (.lst [.non])) := Same.new k2
      have y5 := y4.same U5
      have z5 : upd J4 e2 (.lst [.non]) e2 = some (.lst [.non]) := upd_same
      have w5 : e2 ≠ r := y4.fresh k2
      generalize upd J4 e2 (.lst [.non]) = J5 at *
      have htl5 := Same.seqT (Same.trans U4 U5) htl3
      refine ⟨_, rfl, tl, _, _, _, rfl, rfl, htl5, atI_nat (j := 0) rfl, _, _, rfl, rfl, _, rfl, tl, _, _, _, rfl, rfl, htl5, atI_nat (j := 1) rfl, (by show 2 ≤ sizeLine; decide), fun e3 k3 => ?_⟩
      have U6 : Same J5 (upd J5 e3 (.tup [.int (cl'.1 + 9), .int cl'.2])) := Same.new k3
      have y6 := y5.same U6
      generalize upd J5 e3 (.tup [.int (cl'.1 + 9), .int cl'.2]) = J6 at *
      refine ⟨(by show 1 ≤ sizeLine; decide), fun e4 k4 => ?_⟩
      have U7 : Same J6 (upd J6 e4 (.lst [.ref e3])) := Same.new k4
      have y7 := y6.same U7
      have z7 : upd J6 e4 (.lst [.ref e3]) e4 = some (.lst [.ref e3]) := upd_same
      have w7 : e4 ≠ r := y6.fresh k4
      generalize upd J6 e4 (.lst [.ref e3]) = J7 at *
      refine ⟨(by show 3 ≤ sizeLine; decide), fun e5 k5 => ?_⟩
      have U8 : Same J7 (upd J7 e5 (.lst [.ref e1, .ref e2, .ref e4])) := Same.new k5
      have y8 := y7.same U8
      refine ⟨r, e5, _, rfl, y8, upd_same, y7.fresh k5, (by show 1 ≤ 3; decide), (by show 3 < 1000; decide), fun i tv Hy hi oy sty => ?_⟩
      have U38 : Same J3 (upd J7 e5 (.lst [.ref e1, .ref e2, .ref e4])) := Same.trans U4 (Same.trans U5 (Same.trans U6 (Same.trans U7 U8)))
      have Um8 : Same Hm (upd J7 e5 (.lst [.ref e1, .ref e2, .ref e4])) := Same.trans U1 (Same.trans U2 (Same.trans U3 U38))
      obtain ⟨et, tx, rfl, htx, ltx⟩ : ∃ et tx, tv = .ref et ∧ Hy et = some (.lst tx) ∧ tx.length ≤ 1 := by
        have hm := List.mem_of_getElem? hi
        simp only [List.mem_cons, List.not_mem_nil, or_false] at hm
        rcases hm with e | e | e
        · exact ⟨e1, [], e, oy _ _ w4 (U8 _ _ (U7 _ _ (U6 _ _ (U5 _ _ z4)))), by simp⟩
        · exact ⟨e2, [.non], e, oy _ _ w5 (U8 _ _ (U7 _ _ (U6 _ _ z5))), by simp⟩
        · exact ⟨e4, [.ref e3], e, oy _ _ w7 (U8 _ _ z7), by simp⟩
      refine ⟨s3, et, _, _, rfl, rfl, oy _ _ w3 (U38 _ _ z3), htx, (by rw [List.length_append, List.length_take, sizeLine_eq, List.length_singleton]; omega), fun s4 n4 => ?_⟩
      have U9 : Same Hy (upd Hy s4 (.lst (W0.take d ++ [v] ++ tx))) := Same.new n4
      have exy : Ex r Hm Hy := (Ex.of Um8).trans (Ex.off oy)
      have st9 := sty.same U9
      have z9 : upd Hy s4 (.lst (W0.take d ++ [v] ++ tx)) s4 = some (.lst (W0.take d ++ [v] ++ tx)) := upd_same
      have w9 : s4 ≠ r := sty.fresh n4
      have tb9 : LamX.Tabs T (upd Hy s4 (.lst (W0.take d ++ [v] ++ tx))) := Tabs.same U9 (Tabs.off oy y8 (Tabs.same Um8 tbm))
      have ex9 : Ex r Hm (upd Hy s4 (.lst (W0.take d ++ [v] ++ tx))) := exy.trans (Ex.of U9)
      generalize upd Hy s4 (.lst (W0.take d ++ [v] ++ tx)) = J9 at *
      -- told == ..
      refine ⟨tb9, fun Ha eNa ta => ?_⟩
      have sta := st9.lam eNa
      have exa : Ex r Hm Ha := ex9.trans (Ex.lam eNa)
      refine ⟨_, rfl, 8, rfl, s4, _, rfl, SqL.of ((Ex.lam eNa).lst z9 w9), fun s5 n5 => ?_⟩
      rw [show (8 : Int) = ((8 : Nat) : Int) from rfl, cut_to]
      have Ua : Same Ha (upd Ha s5 (.lst ((W0.take d ++ [v] ++ tx).take 8))) := Same.new n5
      have exb := exa.trans (Ex.of Ua)
      have lt0 : (W0.take d).length = d := by rw [List.length_take]; omega
      have hbad : BadAt K (upd Ha s5 (.lst ((W0.take d ++ [v] ++ tx).take 8))) ((W0.take d ++ [v] ++ tx).take 8) d := by
        refine ⟨(c :: ys).take d, v, ?_, by rw [List.length_take, List.length_cons]; omega, lb3.take d, ?_, ?_⟩
        · have etake : ((W0.take d ++ [v] ++ tx).take 8).take d = W0.take d := by
            rw [List.take_take, Nat.min_eq_left (by omega), List.append_assoc, List.take_append_of_le_length (Nat.le_of_eq lt0.symm), List.take_take, Nat.min_self]
          rw [etake]
          exact Prs.ex exb stm (Prs.take d pwm)
        · rw [List.getElem?_take_of_lt (by omega), List.append_assoc, List.getElem?_append_right (by omega), lt0, Nat.sub_self]
          rfl
        · rcases hv with hv | ⟨m, l, q', h1, h2, h3⟩
          · exact .inl (hv.ex exb stm hvr)
          · exact .inr ⟨m, l, q', h1, h2.ex exb stm, h3⟩
      refine ⟨s5, _, rfl, SqL.of upd_same, (by rw [List.length_take]; omega), th_bad (by omega) hbad fun l1 Hb sb nl1 hl1' => ?_⟩
      have dOk : PyData.strOk (toString ((d : Nat) : Int) : Str) = true := ok_of _
      refine ⟨_, rfl, _, _, rfl, rpv_nat (by omega), (by show 3 ≤ sizeLine; decide), fun l2 nl2 => ?_⟩
      have Ub := Same.new (o := .lst [.str "legs", .str (toString ((d : Nat) : Int) : Str), .bl true]) nl2
      refine tb_eq (Ub _ _ hl1') upd_same (bad_tb dOk) ?_
      refine q _ (ex3.trans (exm.trans (exb.trans ((Ex.of sb).trans (Ex.of Ub))))) (((sta.same Ua).same sb).same Ub) (Tabs.same Ub (Tabs.same sb (Tabs.same Ua ta)))
end
end KX
end
section
set_option Elab.async false
set_option linter.all false
set_option maxRecDepth 100000
set_option maxHeartbeats 4000000
/-! E8: _law_stay_right. -/
namespace KX
open PySem PySem.Spec PyProof.Rows L2
/-- all that the law asks of Line, as it stands behind the top -/
structure LiF (P : Program) (w : World) (K : PySem.W.Frag) (mg : Str → Option Value) (base : Heap) (C CLg CLn : Addr) : Prop where
  bi : Bi mg
  tx : LnC K C
  is : LnIs K C
  mgC : mg "Line" = some (.ref C)
  mk3 : Mak P w K mg base 5 "Line" C (spInit K C) []
  mk2 : ∃ T0 : Addr, Mak P w K mg base 5 "Line" C (spInit K C) [.ref T0] ∧ ∀ H, SqT K H T0 []
  eq : ∃ f fd, EqF K C f ∧ FnOk P w K mg base CX0 1 f fd ["self", "other"] (spLnEq K C) ∧ L2.Binds K fd ["self", "other"] []
  add : ∃ f fd, AddF K C f ∧ FnOk P w K mg base (L2.CX P w) 7 f fd ["self", "other"] (spAdd K C CLg CLn) ∧ L2.Binds K fd ["self", "other"] []
  addT : ∀ t ∈ ["NoneType", "int", "bool", "str", "tuple", "list"], AddT K C t
  stay : ∃ mc f fd, ClX.CRead K C mc ∧ SMet K C mc "stay" f ∧ FnOk P w K mg base CX0 7 f fd pStay (spStay K C) ∧ (∃ ds, Vals [.int 0] ds ∧ L2.Binds K fd pStay ds) ∧ KBn K fd pStay 2 ["ticks"] (fun us ws => us ++ ws) (fun vs zs => vs ++ zs)
  thr : ∃ mc pT gT, ClX.CRead K C mc ∧ ClX.CMet K C mc "through" pT gT ∧ FnR P w K mg base (L2.CX P w) 7 gT (spThrR K C CLg)
  later : ∃ f fd, L2.Meth K C "later" f ∧ FnOk P w K mg base CX0 7 f fd ["self", "ticks"] (spLater K C) ∧ L2.Binds K fd ["self", "ticks"] []
  moved : ∃ f fd, L2.Meth K C "moved" f ∧ FnOk P w K mg base CX0 7 f fd ["self", "places"] (spMoved K C) ∧ L2.Binds K fd ["self", "places"] []
  re : ReF P w K mg base C
theorem pass0L {X : Cx} : Passes (L2.CX X.prog X.w) X E0 := passes_call LamX.takes0 fun _ _ _ _ z => z
theorem stay_merged (n : Int) : merged (stayLegs n) = stayLegs n := by
  unfold stayLegs
  split <;> rfl
theorem stay_ok {t p n : Int} (h0 : 0 ≤ n) (h1 : n < 1000) (ht : SmI t) (hp : SmI p) : (⟨t, p, stayLegs n⟩ : LD).ok := by
  have hm : ∀ q ∈ stayLegs n, 1 ≤ q.1 ∧ SmP q := fun q hq => by
    unfold stayLegs at hq
    split at hq
    · rw [List.mem_singleton.mp hq]
      exact ⟨by show 1 ≤ n; omega, by show n.natAbs < _; omega, by show (0 : Int).natAbs < _; decide⟩
    · cases hq
  refine ⟨?_, fun q hq => (hm q hq).1, stay_merged n, ht, hp, ?_, fun q hq => (hm q hq).2⟩
  · show (stayLegs n).length ≤ 3
    unfold stayLegs
    split <;> simp
  · show (stayLegs n).length ≤ 8
    unfold stayLegs
    split <;> simp
theorem stay_add {n : Int} (h0 : 0 ≤ n) : merged (stayLegs n ++ stayLegs 3) = stayLegs (n + 3) := by
  have h3 : stayLegs 3 = [(3, 0)] := rfl
  have h4 : stayLegs (n + 3) = [(n + 3, 0)] := if_pos (by omega)
  rw [h3, h4]
  unfold stayLegs
  split
  · show mstep [(n, 0)] (3, 0) = _
    rw [show ([(n, 0)] : List P2) = [] ++ [(n, 0)] from rfl, mstep_snoc, if_pos rfl]
    rfl
  · have : n = 0 := by omega
    subst this
    rfl
theorem stay_last (t p : Int) {n : Int} (h0 : 0 ≤ n) : endAt t p (stayLegs n) = (t + n, p) := by
  unfold stayLegs
  split
  · show (t + n, p + n * 0) = _
    rw [Int.mul_zero, Int.add_zero]
  · have : n = 0 := by omega
    subst this
    show (t, p) = _
    rw [Int.add_zero]
theorem stay_if {K : PySem.W.Frag} {n : Int} {σ : L2.St} {H : Hp} {k : VK} (h3 : σ[3]? = some (some (.int n))) (q : ∀ v H', Same H H' → SqP K H' v (stayLegs n) → k v H') :
    if decide (n > 0) = true then tLst (tCons (tTup (tCons (tVar 3) (tCons (tC (V.int 0)) tNil))) tNil) σ H k else tLst tNil σ H k := by
  unfold stayLegs at q
  by_cases hn : n > 0
  · rw [if_pos hn] at q
    rw [decide_eq_true hn]
    refine iteT ?_
    refine ⟨_, h3, (by show 2 ≤ sizeLine; decide), fun t1 n1 => ⟨(by show 1 ≤ sizeLine; decide), fun l nl => ?_⟩⟩
    exact q _ _ (Same.then (Same.new n1) nl) ⟨l, [.ref t1], rfl, .inl (SqL.of upd_same), .cons ((Pr.new upd_same).same (Same.new nl)) .nil⟩
  · rw [if_neg hn] at q
    rw [decide_eq_false hn]
    refine iteF ?_
    exact ⟨Nat.zero_le _, fun l nl => q _ _ (Same.new nl) ⟨l, [], rfl, .inl (SqL.of upd_same), .nil⟩⟩
theorem rpv_bl {K : PySem.W.Frag} {C : Addr} {H : Hp} (b : Bool) : RpV K C H (.bl b) (if b then "True" else "False" : Str) := by
  cases b
  · exact RpV.dat (d := .bool false) (.bl false) rfl rfl (by simp [PyData.depth]) (by decide +kernel)
  · exact RpV.dat (d := .bool true) (.bl true) rfl rfl (by simp [PyData.depth]) (by decide +kernel)
theorem Ln.ref {K : PySem.W.Frag} {C : Addr} {H : Hp} {v : V} {l : LD} (h : Ln K C H v l) : ∃ b, v = .ref b := let ⟨a, _, _, _, _, _, _, e, _⟩ := h; ⟨a, e⟩
/-- .. made as the right side of == or != -/
theorem mk_cmp {K : PySem.W.Frag} {C : Addr} {H : Hp} {v u : V} {ps : List P2} {t p : Int} {b : Bool} {k : VK} (hv : SqP K H v ps) (h3 : ps.length ≤ 3) (h1 : ∀ q ∈ ps, 1 ≤ q.1) (hb : ∀ q ∈ merged ps, -(2 ^ 64) < q.1 ∧ q.1 < 2 ^ 64)
    (q : ∀ v' H', Same H H' → Ln K C H' v' ⟨t, p, merged ps⟩ → rLnEq K C b u v' H' k) :
    ∀ x dx, H x = none → H dx = none → dx ≠ x → spInit K C (.ref x :: ([.int t, .int p, v] ++ [])) (upd (upd H dx (.own x)) x (.ins C dx [])) (fun v H2 => v = .non ∧ rLnEq K C b u (.ref x) H2 k) E0 :=
  mk_line (Q := fun y H2 => rLnEq K C b u y H2 k) hv h3 h1 hb q
section
variable {P : Program} {w : World} {K : PySem.W.Frag} {mg : Str → Option Value} {base : Heap}
abbrev sSR : Stmt := top 39
abbrev nSR : List Str := ["_law_rng_here", "_law_now", "_law_spot", "_law_many", "_law_found", "_law_further"]
theorem scSR : FnScope nSR ["_law_rng_here"] (defScope sSR) := ⟨rfl, rfl, rfl, by decide +kernel, rfl, by decide +kernel, by decide +kernel⟩
theorem ok_sr {C CLg CLn : Addr} {T : List (Addr × Str)} (LI : LiF P w K mg base C CLg CLn) (D : De K mg "_law_stay_right" sSR ["_law_rng_here"]) (GD : Cal P w K mg base 1 "_law_draw" spDraw []) : CalG P w K mg base 16 "_law_stay_right" (spRt T) := by
  obtain ⟨fR, rok, ra, rf⟩ := LI.re.ex
  obtain ⟨fE, fdE, EF, FE, bE⟩ := LI.eq
  obtain ⟨fA, fdA, AF, FA, bA⟩ := LI.add
  obtain ⟨mc, fS, fdS, CR, SM, FS, ⟨ds, vd, bS⟩, kS⟩ := LI.stay
  obtain ⟨mc', pT, gT, CR', CM, FTh⟩ := LI.thr
  obtain ⟨T0, M2, hT0⟩ := LI.mk2
  have B := LI.bi
  refine D.calG scSR (fun vs H Q E h => ?_) (fun f cdv A outer s H vs Q E gd hr h => ?_)
  · obtain ⟨r, rfl, _⟩ := h
    rfl
  · obtain ⟨r, rfl, st, tt, q⟩ := h
    have rp : RpF (cxOf CX0 P w K mg base nSR "_law_stay_right" (defScope sSR) f cdv A outer s H E).nox C fR := ⟨gd, by have := hr.dp; show (A.deeper _).depth + 5 < _; omega, by have := hr.un; show (A.deeper _).units + 100 < _; omega, rok, ra, rf⟩
    refine ⟨_, pss_cons (ps_par3 (i := 1) (j := 2) (l := 3) (by rfl) scSR.nd rfl rfl rfl (by decide) (by decide) (by decide) rfl rfl rfl (pa_cons (pe_op op_sub (C8.pe_c GD hr (by decide) rfl (pa_cons (pv 0) (pa_cons pe_int pa_nil))) pe_int) (pa_cons (pe_op op_sub (C8.pe_c GD hr (by decide) rfl (pa_cons (pv 0) (pa_cons pe_int pa_nil))) pe_int) (pa_cons (pe_op op_mul (C8.pe_c GD hr (by decide) rfl (pa_cons (pv 0) (pa_cons pe_int pa_nil))) (C8.pe_c GD hr (by decide) rfl (pa_cons (pv 0) (pa_cons pe_int pa_nil)))) pa_nil))) (by rfl))
      (pss_cons (ps_set (i := 4) scSR.nd rfl (Or.inl rfl) (pe_smethN (pe_glob (v := .ref C) rfl LI.mgC rfl) CR SM FS (hr.mono (by decide)) kS pass0 (pa_cons (pv 1) (pa_cons (pv 2) pa_nil)) (pk_cons (pv 3) pk_nil)))
      (pss_cons (ps_if (PW.pt (pw_or (pt_cmpR (op_neLn EF FE bE (hr.mono (by decide))) (pv 4) (C8.pe_mk LI.mk3 hr (by decide) rfl (pa_cons (pv 1) (pa_cons (pv 2) (pa_cons (pe_ifExp (pt_cmpR op_gt (pv 3) pe_int (nomark _)) (pe_lst (pa_cons (pe_tup (pa_cons (pv 3) (pa_cons pe_int pa_nil))) pa_nil)) (pe_lst pa_nil)) pa_nil)))) (nomark _)) (pw_or1 (pt_cmpR op_ne (pe_callB (call_rpK K rfl rp) (by rfl) B.repr boot_rp (pa_cons (pe_fld (pv 4) rfl) pa_nil)) (pe_callB (call_rpK K rfl rp) (by rfl) B.repr boot_rp (pa_cons (pe_cmpR op_eq (pv 3) pe_int (nomark _)) pa_nil)) (nomark _))))) (pss_one (ps_ret pe_bl)) pss_nil)
      (pss_cons (ps_if (PW.pt (pw_or (pt_cmpR (op_neLn EF FE bE (hr.mono (by decide))) (pe_smeth (pe_glob (v := .ref C) rfl LI.mgC rfl) CR SM FS (hr.mono (by decide)) bS vd pass0 (pa_cons (pv 1) (pa_cons (pv 2) pa_nil))) (C8.pe_mk M2 hr (by decide) rfl (pa_cons (pv 1) (pa_cons (pv 2) pa_nil))) (nomark _)) (pw_or1 (pt_cmpR (op_neLn EF FE bE (hr.mono (by decide))) (ClX.pe_cmeth (pe_glob (v := .ref C) rfl LI.mgC rfl) CR' CM FTh (hr.mono (by decide)) pass0L (pa_cons (pe_tup (pa_cons (pv 1) (pa_cons (pv 2) pa_nil))) pa_nil)) (C8.pe_mk M2 hr (by decide) rfl (pa_cons (pv 1) (pa_cons (pv 2) pa_nil))) (nomark _))))) (pss_one (ps_ret pe_bl)) pss_nil)
      (pss_cons (ps_set (i := 5) scSR.nd rfl (Or.inl rfl) (pe_op (op_addO AF FA bA (hr.mono (by decide)) pass0L) (pv 4) (pe_smethN (pe_glob (v := .ref C) rfl LI.mgC rfl) CR SM FS (hr.mono (by decide)) kS pass0 (pa_cons (pe_op op_add (pv 1) (pv 3)) (pa_cons (pv 2) pa_nil)) (pk_cons pe_int pk_nil))))
      (pss_one (ps_ret (pe_and (pe_cmpR (op_eqLn EF FE bE (hr.mono (by decide))) (pv 5) (pe_smethN (pe_glob (v := .ref C) rfl LI.mgC rfl) CR SM FS (hr.mono (by decide)) kS pass0 (pa_cons (pv 1) (pa_cons (pv 2) pa_nil)) (pk_cons (pe_op op_add (pv 3) pe_int) pk_nil)) (nomark _)) (pe_one (pe_cmpR op_eq (pe_callB (call_rpK K rfl rp) (by rfl) B.repr boot_rp (pa_cons (pe_fld (pv 5) rfl) pa_nil)) (pe_callB (call_rpK K rfl rp) (by rfl) B.repr boot_rp (pa_cons (pe_tup (pa_cons (pe_tup (pa_cons (pe_op op_add (pv 3) pe_int) (pa_cons pe_int pa_nil))) pa_nil)) pa_nil)) (nomark _)))))))))), ?_⟩
    have X0 := LI.tx
    refine ⟨_, rfl, r, 41, rfl, st, (by decide), (by decide), fun d1 H1 h1 o1 st1 => ?_⟩
    refine ⟨_, _, rfl, rfl, _, rfl, r, 41, rfl, st1, (by decide), (by decide), fun d2 H2 h2 o2 st2 => ?_⟩
    refine ⟨_, _, rfl, rfl, _, rfl, r, 4, rfl, st2, (by decide), (by decide), fun d3 H3 h3 o3 st3 => ?_⟩
    refine ⟨_, rfl, r, 4, rfl, st3, (by decide), (by decide), fun d4 H4 h4 o4 st4 => ?_⟩
    refine ⟨_, _, rfl, rfl, .inl ⟨by omega, by omega⟩, .int ((d1 : Int) - 20), .int ((d2 : Int) - 20), .int ((d3 : Int) * (d4 : Int)), rfl, ?_⟩
    have o14 : Off r H H4 := Off.trans o1 (Off.trans o2 (Off.trans o3 o4))
    have t4 : LamX.Tabs T H4 := Tabs.off o14 st tt
    have ht : SmI ((d1 : Int) - 20) := by unfold SmI; omega
    have hp : SmI ((d2 : Int) - 20) := by unfold SmI; omega
    have hn : 0 ≤ (d3 : Int) * (d4 : Int) ∧ (d3 : Int) * (d4 : Int) ≤ 9 := by
      have e : (d3 : Int) * (d4 : Int) = ((d3 * d4 : Nat) : Int) := by simp
      have m : d3 * d4 ≤ 3 * 3 := Nat.mul_le_mul (by omega) (by omega)
      rw [e]
      omega
    generalize (d3 : Int) * (d4 : Int) = n at *
    generalize ht0 : (d1 : Int) - 20 = t at *
    generalize hp0 : (d2 : Int) - 20 = p at *
    -- found
    refine ⟨rfl, _, rfl, _, rfl, _, rfl, rfl, rfl, t, p, n, rfl, hn.1, (by omega), fun v5 H5 e5 L5 => ?_⟩
    have ok5 : (⟨t, p, stayLegs n⟩ : LD).ok := stay_ok hn.1 (by omega) ht hp
    -- found != Line(..)
    refine ⟨_, rfl, _, rfl, _, rfl, _, rfl, _, _, rfl, rfl, _, rfl, ?_⟩
    refine stay_if (K := K) rfl fun w6 H6 e6 s6 => ?_
    refine mk_cmp s6 ok5.len ok5.pos (by rw [ok5.mrg]; exact ok5.wide) fun v7 H7 e7 L7 => ?_
    rw [ok5.mrg] at L7
    have L57 := (L5.same e6).same e7
    refine ⟨_, L57, L7, fun H8 e8 => ⟨false, rfl, ?_⟩⟩
    refine iteF ?_
    have L58 := L57.same e8
    obtain ⟨a5, dx5, lg5, cn5, la5, lo5, hi5, rfl, g5, hlg5, hcn5⟩ := id L58
    refine ⟨_, rfl, a5, C, dx5, _, _, rfl, g5, X0.cl, X0.nM, lnF_moment, _, _, rfl, rpv_bl _, ?_⟩
    refine ⟨_, rfl, rfl, _, _, rfl, rpv_bl _, rfl, _, rfl, ?_⟩
    have em : decide ((stayLegs n).length = 0) = decide (V.int n = V.int 0) := by
      rw [decide_eq_decide]
      unfold stayLegs
      constructor
      · intro z
        split at z
        · cases z
        · rw [show n = 0 by omega]
      · intro z
        injection z with z
        rw [if_neg (by omega)]
        rfl
    refine iteNS (by rw [em]) ?_
    -- stay == Line, through == Line
    refine ⟨rfl, _, rfl, _, rfl, t, p, 0, rfl, (by decide), (by decide), fun v9 H9 e9 L9 => ?_⟩
    refine ⟨_, rfl, _, rfl, ?_⟩
    refine mk_cmp (ps := []) ⟨T0, [], rfl, .inr (hT0 _), .nil⟩ (by decide) (fun q hq => by cases hq) (fun q hq => by cases hq) fun v10 H10 e10 L10 => ?_
    refine ⟨⟨t, p, []⟩, L9.same e10, L10, fun H11 e11 => ⟨false, rfl, ?_⟩⟩
    refine iteF ?_
    refine ⟨rfl, _, rfl, _, rfl, (by show 2 ≤ sizeLine; decide), fun tq nq => ?_⟩
    have Uq := Same.new (o := .tup [.int t, .int p]) nq
    have ht1 : t.natAbs < 100000 := by omega
    refine thr_use (xs := [.ref tq]) (.inr (.inr ⟨(t, p), [], .cons (Pr.new upd_same) .nil, (fun i p q h1 h2 => by simp at h2), (fun q hq => by rw [List.mem_singleton.mp hq]; exact ht1), (fun h => absurd h (by show ¬ (3 < 0); decide)), fun _ => ⟨(fun q hq => by cases hq), fun v12 H12 e12 L12 => ?_⟩⟩)) (by show 1 ≤ 8; decide)
    refine ⟨_, rfl, _, rfl, ?_⟩
    refine mk_cmp (ps := []) ⟨T0, [], rfl, .inr (hT0 _), .nil⟩ (by decide) (fun q hq => by cases hq) (fun q hq => by cases hq) fun v13 H13 e13 L13 => ?_
    refine ⟨⟨t, p, []⟩, L12.same e13, L13, fun H14 e14 => ⟨false, rfl, ?_⟩⟩
    refine iteF ?_
    -- further
    have E14 : Same H4 H14 := Same.trans e5 (Same.trans e6 (Same.trans e7 (Same.trans e8 (Same.trans e9 (Same.trans e10 (Same.trans e11 (Same.trans Uq (Same.trans e12 (Same.trans e13 e14)))))))))
    have E8' : Same H8 H14 := Same.trans e9 (Same.trans e10 (Same.trans e11 (Same.trans Uq (Same.trans e12 (Same.trans e13 e14)))))
    have L14 := L58.same E8'
    have ok3 : (⟨t + n, p, stayLegs 3⟩ : LD).ok := stay_ok (by decide) (by decide) (by unfold SmI; omega) hp
    have okn : (⟨t, p, stayLegs (n + 3)⟩ : LD).ok := stay_ok (by omega) (by omega) ht hp
    refine ⟨_, rfl, rfl, _, rfl, _, rfl, _, _, rfl, rfl, _, rfl, rfl, rfl, t + n, p, 3, rfl, (by decide), (by decide), fun v15 H15 e15 L15 => ?_⟩
    have g15 := (Same.trans E8' e15) _ _ g5
    have eA : AddB ⟨t, p, stayLegs n⟩ ⟨t + n, p, stayLegs 3⟩ = stayLegs (n + 3) := stay_add hn.1
    refine ⟨a5, dx5, _, .ref C, rfl, g15, L15.ty X0.cl LI.is, .inl rfl, .ref a5, v15, ⟨t, p, stayLegs n⟩, rfl, L14.same e15, ok5, .inr ⟨⟨t + n, p, stayLegs 3⟩, L15, ok3, (stay_last t p hn.1).symm, (fun h => by rw [eA] at h; have := okn.len; exact absurd h (by show ¬ 3 < (stayLegs (n + 3)).length; have h' : (stayLegs (n + 3)).length ≤ 3 := this; omega)), fun _ => ⟨(fun q hq => by rw [eA] at hq; exact ⟨okn.pos q hq, okn.sm.2.2.2 q hq⟩), fun v16 H16 e16 L16 => ⟨L16.ref, ?_⟩⟩⟩⟩
    rw [eA] at L16
    -- further == stay(.., many + 3)
    refine ⟨_, rfl, rfl, _, rfl, _, rfl, _, rfl, _, _, rfl, rfl, rfl, rfl, t, p, n + 3, rfl, (by omega), (by omega), fun v17 H17 e17 L17 => ?_⟩
    refine ⟨⟨t, p, stayLegs (n + 3)⟩, L16.same e17, L17, fun H18 e18 => ⟨true, rfl, ?_⟩⟩
    obtain ⟨a6, dx6, lg6, cn6, la6, lo6, hi6, rfl, g6, hlg6, hcn6⟩ := id ((L16.same e17).same e18)
    refine ⟨_, rfl, a6, C, dx6, _, _, rfl, g6, X0.cl, X0.nL, lnF_legs, _, _, rfl, Tpl.rpv hlg6 okn.sm.2.2, ?_⟩
    refine ⟨_, rfl, _, _, rfl, rfl, (by show 2 ≤ sizeLine; decide), fun i1 m1 => ⟨(by show 1 ≤ sizeLine; decide), fun i2 m2 => ?_⟩⟩
    have e33 : stayLegs (n + 3) = [(n + 3, 0)] := if_pos (by omega)
    have V1 := Same.new (o := .tup [.int (n + 3), .int 0]) m1
    have V2 := Same.new (o := .tup [.ref i1]) m2
    have hT : Tpl K (upd (upd H18 i1 (.tup [.int (n + 3), .int 0])) i2 (.tup [.ref i1])) (.ref i2) (stayLegs (n + 3)) := by
      rw [e33]
      exact ⟨i2, [.ref i1], rfl, SqT.of upd_same, .cons ((Pr.new upd_same).same V2) .nil⟩
    refine ⟨_, _, rfl, Tpl.rpv hT okn.sm.2.2, rfl, ?_⟩
    show Q (.bl (decide (V.str (legsText (stayLegs (n + 3))) = V.str (legsText (stayLegs (n + 3)))))) _
    rw [decide_eq_true rfl]
    have Ef : Same H4 (upd (upd H18 i1 (.tup [.int (n + 3), .int 0])) i2 (.tup [.ref i1])) := Same.trans E14 (Same.trans e15 (Same.trans e16 (Same.trans e17 (Same.trans e18 (Same.trans V1 V2)))))
    exact q _ ((Ex.off o14).trans (Ex.of Ef)) (st4.same Ef) (Tabs.same Ef t4)
end
end KX
end
section
set_option Elab.async false
set_option linter.all false
set_option maxRecDepth 100000
set_option maxHeartbeats 4000000
/-! M5: lines cut in two, put together. -/
namespace KX
open L2
theorem mstep_len_ge (acc : List P2) (q : P2) : acc.length ≤ (mstep acc q).length := by
  rcases snoc_cases acc with rfl | ⟨m, l, rfl⟩
  · exact Nat.zero_le _
  · rw [mstep_snoc]
    split
    · simp
    · simp
theorem fold_len_ge : ∀ (b acc : List P2), acc.length ≤ (b.foldl mstep acc).length
  | [], acc => Nat.le_refl _
  | q :: r, acc => Nat.le_trans (mstep_len_ge acc q) (fold_len_ge r _)
theorem merged_pre_len (a b : List P2) : (merged a).length ≤ (merged (a ++ b)).length := by
  unfold merged
  rw [List.foldl_append]
  exact fold_len_ge _ _
/-- the number of legs to come depends on the last speed alone -/
theorem fold_len_diff : ∀ (b m m' : List P2) (l l' : P2), l.2 = l'.2 → (b.foldl mstep (m ++ [l])).length + (m'.length) = (b.foldl mstep (m' ++ [l'])).length + m.length
  | [], m, m', l, l', _ => by
    show (m ++ [l]).length + m'.length = (m' ++ [l']).length + m.length
    simp
    omega
  | q :: r, m, m', l, l', h => by
    rw [List.foldl_cons, List.foldl_cons, mstep_snoc, mstep_snoc]
    by_cases e : l.2 = q.2
    · rw [if_pos e, if_pos (h ▸ e)]
      exact fold_len_diff r m m' _ _ rfl
    · rw [if_neg e, if_neg (fun z => e (h.trans z))]
      have := fold_len_diff r (m ++ [l]) (m' ++ [l']) q q rfl
      simp only [List.length_append, List.length_singleton] at this
      omega
theorem merged_suf_len (a b : List P2) : (merged b).length ≤ (merged (a ++ b)).length := by
  unfold merged
  rw [List.foldl_append]
  cases b with
  | nil => exact Nat.zero_le _
  | cons q r =>
    rw [List.foldl_cons, List.foldl_cons]
    rcases snoc_cases (a.foldl mstep []) with h | ⟨m, l, h⟩
    · rw [h]
      exact Nat.le_refl _
    · rw [h, mstep_snoc, mstep_nil]
      split
      · have := fold_len_diff r m [] (l.1 + q.1, q.2) q rfl
        have e : r.foldl mstep ([] ++ [q]) = r.foldl mstep [q] := rfl
        rw [e] at this
        simp only [List.length_nil] at this
        omega
      · have := fold_len_diff r (m ++ [l]) [] q q rfl
        have e : r.foldl mstep ([] ++ [q]) = r.foldl mstep [q] := rfl
        rw [e] at this
        simp only [List.length_nil, List.length_append, List.length_singleton] at this
        omega
theorem merged_join {a b : List P2} (ha : Psv a) (hb : Psv b) : merged (merged a ++ merged b) = merged (a ++ b) :=
  merged_eq ((merged_pos ha).app (merged_pos hb)) (ha.app hb) (by rw [units_app, units_app, units_merged ha, units_merged hb])
/-- the line along unit legs u from c -/
def lnU (c : P2) (u : List P2) : LD := ⟨c.1, c.2, merged u⟩
theorem lnU_last (c : P2) {u : List P2} (h : Ones u) : (lnU c u).last = endU c u := by
  show endAt c.1 c.2 (merged u) = endU c u
  rw [← endU_units (merged u) c.1 c.2 (merged_pos h.pos), units_merged h.pos, units_ones h]
theorem lnU_add (c d : P2) {a b : List P2} (ha : Ones a) (hb : Ones b) : AddB (lnU c a) (lnU d b) = merged (a ++ b) := merged_join ha.pos hb.pos
theorem Ones.take {u : List P2} (h : Ones u) (n : Nat) : Ones (u.take n) := fun q hq => h q (List.mem_of_mem_take hq)
theorem Ones.drop {u : List P2} (h : Ones u) (n : Nat) : Ones (u.drop n) := fun q hq => h q (List.mem_of_mem_drop hq)
theorem pts_take (c : P2) : ∀ (u : List P2) (n : Nat), (c :: ptsU c u).take (n + 1) = c :: ptsU c (u.take n) := by
  intro u
  induction u generalizing c with
  | nil =>
    intro n
    rw [List.take_nil]
    show c :: ([] : List P2).take n = [c]
    rw [List.take_nil]
  | cons q r ih =>
    intro n
    cases n with
    | zero => rfl
    | succ n =>
      show c :: (((c.1 + 1, c.2 + q.2) :: ptsU (c.1 + 1, c.2 + q.2) r).take (n + 1)) = _
      rw [ih]
      rfl
theorem pts_drop (c : P2) : ∀ (u : List P2) (n : Nat), n ≤ u.length → (c :: ptsU c u).drop n = endU c (u.take n) :: ptsU (endU c (u.take n)) (u.drop n) := by
  intro u
  induction u generalizing c with
  | nil =>
    intro n hn
    have : n = 0 := by simpa using hn
    subst this
    rfl
  | cons q r ih =>
    intro n hn
    cases n with
    | zero => rfl
    | succ n =>
      show ((c.1 + 1, c.2 + q.2) :: ptsU (c.1 + 1, c.2 + q.2) r).drop n = _
      rw [ih _ n (by simpa using hn)]
      rfl
/-- such a line is good: at most three legs, small numbers -/
theorem lnU_ok {c : P2} {u : List P2} (h : Ones u) (hs : ∀ q ∈ u, -7 ≤ q.2 ∧ q.2 ≤ 7) (h3 : (merged u).length ≤ 3) (hl : u.length ≤ 1000) (h1 : c.1.natAbs ≤ 10000) (h2 : c.2.natAbs ≤ 10000) : (lnU c u).ok := by
  have hm : ∀ q ∈ merged u, 1 ≤ q.1 ∧ SmP q := fun q hq => by
    obtain ⟨a1, a2, a3⟩ := merged_mem h.pos hq
    rw [units_ones h] at a2 a3
    have := hs _ a3
    have h1' : -7 ≤ q.2 := this.1
    have h2' : q.2 ≤ 7 := this.2
    exact ⟨a1, by show q.1.natAbs < _; omega, by show q.2.natAbs < _; omega⟩
  exact ⟨h3, fun q hq => (hm q hq).1, merged_idem u, by show c.1.natAbs < _; omega, by show c.2.natAbs < _; omega, by show (merged u).length ≤ 8; omega, fun q hq => (hm q hq).2⟩
end KX
end
section
set_option Elab.async false
set_option linter.all false
set_option maxRecDepth 100000
set_option maxHeartbeats 4000000
/-! E9: _law_cut_right. -/
namespace KX
open PySem PySem.Spec PyProof.Rows L2
section
variable {K : PySem.W.Frag} {C CLg CLn : Addr} {H : Hp} {v u : V} {ps : List P2} {t p : Int} {l m : LD}
/-- a line is made at x -/
theorem mk_at {x dx : Addr} {R : Hp → Prop} (nx : H x = none) (ndx : H dx = none) (ne : dx ≠ x) (hv : SqP K H v ps) (h3 : ps.length ≤ 3) (h1 : ∀ q ∈ ps, 1 ≤ q.1) (hb : ∀ q ∈ merged ps, -(2 ^ 64) < q.1 ∧ q.1 < 2 ^ 64)
    (q : ∀ H', Same H H' → Ln K C H' (.ref x) ⟨t, p, merged ps⟩ → R H') :
    spInit K C (.ref x :: ([.int t, .int p, v] ++ [])) (upd (upd H dx (.own x)) x (.ins C dx [])) (fun v H2 => v = .non ∧ R H2) E0 :=
  ⟨H, x, dx, t, p, v, ps, rfl, fun b o e => by rw [upd_ne (ne_of_none e nx), upd_ne (ne_of_none e ndx)]; exact e, nx, upd_same, hv, h3, h1, hb, fun H' e L => ⟨rfl, q _ e L⟩⟩
theorem mk_at2 {x dx T0 : Addr} {R : Hp → Prop} (nx : H x = none) (ndx : H dx = none) (ne : dx ≠ x) (h0 : ∀ H, SqT K H T0 []) (q : ∀ H', Same H H' → Ln K C H' (.ref x) ⟨t, p, []⟩ → R H') :
    spInit K C (.ref x :: ([.int t, .int p] ++ [.ref T0])) (upd (upd H dx (.own x)) x (.ins C dx [])) (fun v H2 => v = .non ∧ R H2) E0 :=
  mk_at (ps := []) nx ndx ne ⟨T0, [], rfl, .inr (h0 _), .nil⟩ (Nat.zero_le _) (fun q hq => by cases hq) (fun q hq => by cases hq) q
/-- two lines that fit are put together -/
theorem add_good {Q : VK} (T : LnC K C) (I : LnIs K C) (hv : Ln K C H v l) (hl : l.ok) (hu : Ln K C H u m) (hm : m.ok) (hj : (m.f, m.p) = l.last) (h3 : (AddB l m).length ≤ 3) (hb : ∀ q ∈ AddB l m, 1 ≤ q.1 ∧ SmP q)
    (q : ∀ b H', Same H H' → Ln K C H' (.ref b) ⟨l.f, l.p, AddB l m⟩ → Q (.ref b) H') : rAddO K C (spAdd K C CLg CLn) E0 v u H Q := by
  obtain ⟨a, dx, lg, cn, la, lo, hi, rfl, g, _⟩ := id hv
  refine ⟨a, dx, _, .ref C, rfl, g, hu.ty T.cl I, .inl rfl, .ref a, u, l, rfl, hv, hl, .inr ⟨m, hu, hm, hj, (fun h => absurd h3 (by omega)), fun _ => ⟨hb, fun v' H' e L => ⟨L.ref, ?_⟩⟩⟩⟩
  obtain ⟨b, rfl⟩ := L.ref
  exact q b H' e L
end
/-- what is frozen is not in the heap of ours -/
def Frz (K : PySem.W.Frag) (H : Hp) : Prop := ∀ b o, K.lookup b = some o → H b = none
def tFrz (K : PySem.W.Frag) (t : TE) : TE := fun σ H Q => t σ H fun v H' => Frz K H' → Q v H'
theorem pe_frz {X : Cx} {K : PySem.W.Frag} {e : Expr} {t : TE} (hK : X.K = K) (h : PE X e t) : PE X e (tFrz K t) :=
  ⟨fun pins s σ H Q I q => thn (h.run pins s σ H _ I q) fun u s' ⟨v, H', I', r, q⟩ => ⟨v, H', I', r, q fun b o e => (I'.bs b _ (I'.mod.kin b o (by rw [hK]; exact e))).2⟩⟩
section
variable {K : PySem.W.Frag} {C D : Addr} {H : Hp} {v : V} {l : LD} {vs : List V} {o : HO}
theorem Ln.wrL (fz : Frz K H) (hD : H D = some (.lst vs)) (hvs : ∀ z ∈ vs, ∃ b C dx fs, z = .ref b ∧ H b = some (.ins C dx fs)) (h : Ln K C H v l) : Ln K C (upd H D o) v l := by
  obtain ⟨a, dx, lg, cn, la, lo, hi, rfl, g, hl, hc⟩ := h
  refine ⟨a, dx, lg, cn, la, lo, hi, rfl, by rw [upd_ne (ne_of g hD (by intro z; cases z))]; exact g, ?_, ?_⟩
  · obtain ⟨ta, xs, e, h1, h2⟩ := hl
    exact ⟨ta, xs, e, SqT.lst h1 hD, Prs.lst h2 hD⟩
  · obtain ⟨ca, xs, e, h1, h2⟩ := hc
    refine ⟨ca, xs, e, ?_, Prs.lst h2 hD⟩
    rcases h1 with (h | ⟨ob, h⟩) | h
    · refine .inl (.inl ?_)
      by_cases z : ca = D
      · exfalso
        rw [z, hD] at h
        cases h
        obtain ⟨x0, hx0, ⟨t, rfl, ht⟩⟩ := Prs.get h2 (i := 0) (p := (l.f, l.p)) rfl
        obtain ⟨b, C', dx', fs, e1, hb⟩ := hvs _ (List.mem_of_getElem? hx0)
        cases e1
        rcases ht with (h | ⟨ob, h⟩) | ⟨ob, _, _, h, _⟩
        · rw [hb] at h
          cases h
        · rw [hb] at h
          cases h
        · have := fz _ _ h
          rw [hb] at this
          cases this
      · rw [upd_ne z]
        exact h
    · exact .inl (.inr ⟨ob, by rw [upd_ne (ne_of h hD (by intro z; cases z))]; exact h⟩)
    · exact .inr h
theorem Ln.insAt (h : Ln K C H v l) : ∃ b C dx fs, v = .ref b ∧ H b = some (.ins C dx fs) := let ⟨a, dx, _, _, _, _, _, e, g, _⟩ := h; ⟨a, C, dx, _, e, g⟩
theorem Lns.insAt : ∀ {vs : List V} {ls : List LD}, Paired (fun v l => Ln K C H v l) vs ls → ∀ z ∈ vs, ∃ b C dx fs, z = .ref b ∧ H b = some (.ins C dx fs)
  | _, _, .nil => fun z hz => by cases hz
  | _, _, .cons q t => fun z hz => by
    rcases List.mem_cons.mp hz with e | hz
    · subst e
      exact q.insAt
    · exact Lns.insAt t z hz
end
section
variable {P : Program} {w : World} {K : PySem.W.Frag} {mg : Str → Option Value} {base : Heap}
abbrev sCR : Stmt := top 38
abbrev nCR : List Str := ["_law_rng_here", "_law_points_here", "_law_at", "_law_first", "_law_second", "_law_whole", "_law_both", "_law_start", "_law_end", "_law_some"]
theorem scCR : FnScope nCR ["_law_rng_here"] (defScope sCR) := ⟨rfl, rfl, rfl, by decide +kernel, rfl, by decide +kernel, by decide +kernel⟩
theorem ok_cr {C CLg CLn : Addr} {T : List (Addr × Str)} (LI : LiF P w K mg base C CLg CLn) (D : De K mg "_law_cut_right" sCR ["_law_rng_here"]) (GD : Cal P w K mg base 1 "_law_draw" spDraw []) (GP : Cal P w K mg base 1 "_law_points" (spPts K) []) (GM : Cal P w K mg base 3 "_law_model" (spModel K) [])
    (GL : Cal P w K mg base 2 "_law_legs" (spLegs K) []) : CalG P w K mg base 16 "_law_cut_right" (spRt T) := by
  obtain ⟨fE, fdE, EF, FE, bE⟩ := LI.eq
  obtain ⟨fA, fdA, AF, FA, bA⟩ := LI.add
  obtain ⟨T0, M2, hT0⟩ := LI.mk2
  have B := LI.bi
  refine D.calG scCR (fun vs H Q E h => ?_) (fun f cdv A outer s H vs Q E gd hr h => ?_)
  · obtain ⟨r, rfl, _⟩ := h
    rfl
  · obtain ⟨r, rfl, st, tt, q⟩ := h
    refine ⟨_, pss_cons (ps_set (i := 1) scCR.nd rfl (Or.inl rfl) (C8.pe_c GP hr (by decide) rfl (pa_cons (C8.pe_c GM hr (by decide) rfl (pa_cons (pv 0) (pa_cons pe_int pa_nil))) pa_nil)))
      (pss_cons (ps_set (i := 2) scCR.nd rfl (Or.inl rfl) (C8.pe_c GD hr (by decide) rfl (pa_cons (pv 0) (pa_cons (pe_callB call_len_seq (by rfl) B.len PySem.boot_len (pa_cons (pv 1) pa_nil)) pa_nil))))
      (pss_cons (ps_par (i := 3) (j := 4) (by rfl) scCR.nd rfl rfl (by decide) rfl rfl (pa_cons (pe_slice sl_list (pv 1) po_none (po_some (pe_op op_add (pv 2) pe_int))) (pa_cons (pe_slice sl_list (pv 1) (po_some (pv 2)) po_none) pa_nil)) (by rfl))
      (pss_cons (ps_set (i := 5) scCR.nd rfl (Or.inl rfl) (C8.pe_mk LI.mk3 hr (by decide) rfl (pa_cons (pe_ix ix_tup (pe_ix ix_list (pv 1) pe_int (fun _ _ => rfl)) pe_int (fun _ _ => rfl)) (pa_cons (pe_ix ix_tup (pe_ix ix_list (pv 1) pe_int (fun _ _ => rfl)) pe_int (fun _ _ => rfl)) (pa_cons (C8.pe_c GL hr (by decide) rfl (pa_cons (pv 1) pa_nil)) pa_nil)))))
      (pss_cons (ps_setLc (i := 6) (g := gName 9) (own := [("_law_some", 9)]) rfl scCR.nd rfl rfl (sw_true rfl rfl rfl (by decide +kernel)) (pi_tup (pe_tup (pa_cons (pv 3) (pa_cons (pv 4) pa_nil)))) (blkOk_by (N := nCR) (sc := defScope sCR) (by decide +kernel)) (fun _ _ _ _ _ => pg_name (i := 9) scCR.nd rfl (Or.inl rfl) (.inr rfl)) (fun _ _ _ _ _ => pts_nil) (fun _ _ _ _ _ => pe_frz (K := K) rfl (C8.pe_mk LI.mk3 hr (by decide) rfl (pa_cons (pe_ix (ixT K rfl) (pe_ix (ixL K rfl) (pv 9) pe_int (fun _ _ => rfl)) pe_int (fun _ _ => rfl)) (pa_cons (pe_ix (ixT K rfl) (pe_ix (ixL K rfl) (pv 9) pe_int (fun _ _ => rfl)) pe_int (fun _ _ => rfl)) (pa_cons (C8.pe_c GL hr (by decide) rfl (pa_cons (pv 9) pa_nil)) pa_nil))))))
      (pss_cons (ps_par (i := 7) (j := 8) (by rfl) scCR.nd rfl rfl (by decide) rfl rfl (pa_cons (C8.pe_mk M2 hr (by decide) rfl (pa_cons (pe_ix ix_tup (pe_ix ix_list (pv 1) pe_int (fun _ _ => rfl)) pe_int (fun _ _ => rfl)) (pa_cons (pe_ix ix_tup (pe_ix ix_list (pv 1) pe_int (fun _ _ => rfl)) pe_int (fun _ _ => rfl)) pa_nil))) (pa_cons (C8.pe_mk M2 hr (by decide) rfl (pa_cons (pe_ix ix_tup (pe_ix ix_list (pv 1) (pe_un un_neg pe_int) (fun _ _ => rfl)) pe_int (fun _ _ => rfl)) (pa_cons (pe_ix ix_tup (pe_ix ix_list (pv 1) (pe_un un_neg pe_int) (fun _ _ => rfl)) pe_int (fun _ _ => rfl)) pa_nil))) pa_nil)) (by rfl))
      (pss_one (ps_ret (pe_and (pe_cmpR (op_eqLn EF FE bE (hr.mono (by decide))) (pe_op (op_addO AF FA bA (hr.mono (by decide)) pass0L) (pe_ix ix_list (pv 6) pe_int (fun _ _ => rfl)) (pe_ix ix_list (pv 6) pe_int (fun _ _ => rfl))) (pv 5) (nomark _)) (pe_and (pe_cmpR (op_eqLn EF FE bE (hr.mono (by decide))) (pe_op (op_addO AF FA bA (hr.mono (by decide)) pass0L) (pv 7) (pv 5)) (pv 5) (nomark _)) (pe_one (pe_cmpR (op_eqLn EF FE bE (hr.mono (by decide))) (pe_op (op_addO AF FA bA (hr.mono (by decide)) pass0L) (pv 5) (pv 8)) (pv 5) (nomark _)))))))))))), ?_⟩
    -- the points
    refine ⟨_, rfl, r, 3, rfl, st, (by decide), fun v1 H1 x y rows hx1 hx2 hy1 hy2 hrl hrow hm o1 st1 => ?_⟩
    refine ⟨v1, x, y, rows, rfl, hm, (by omega), hrow, fun fl zs H2 s2 nfl hfl hz => ?_⟩
    have st2 := st1.same s2
    have hflr : fl ≠ r := st1.fresh nfl
    have hul := units_len rows hrow
    have hsp := (rows_ok_units hrow).2
    have hps := (rows_ok_units hrow).1
    have hon : Ones (units rows) := ones_units rows
    have m3 : (merged (units rows)).length ≤ 3 := by rw [merged_units hps]; have := merged_len rows; omega
    have hzz : Prs K H2 zs ((x, y) :: ptsU (x, y) (units rows)) := hz
    generalize units rows = u at *
    generalize hc : ((x, y) : P2) = c at *
    have hcx : c.1 = x := by rw [← hc]
    have hcy : c.2 = y := by rw [← hc]
    have hzl := Prs.length hzz
    rw [List.length_cons, ptsU_len] at hzl
    -- at
    refine ⟨_, rfl, _, rfl, fl, zs, rfl, .inl (SqL.of hfl), r, _, rfl, st2, (by omega), (by omega), fun d H3 hd o3 st3 => ?_⟩
    have hdu : d ≤ u.length := by omega
    have hfl3 := o3 _ _ hflr hfl
    have hz3 := Prs.off o3 st2 hzz
    have ex3 : Ex r H H3 := (Ex.off o1).trans ((Ex.of s2).trans (Ex.off o3))
    have t3 : LamX.Tabs T H3 := Tabs.off o3 st2 (Tabs.same s2 (Tabs.off o1 st tt))
    -- first, second
    refine ⟨_, rfl, _, rfl, _, _, rfl, rfl, _, rfl, fl, zs, rfl, SqL.of hfl3, fun f1 n1 => ?_⟩
    rw [show ((d : Nat) : Int) + 1 = ((d + 1 : Nat) : Int) by omega, cut_to]
    have U1 : Same H3 (upd H3 f1 (.lst (zs.take (d + 1)))) := Same.new n1
    have g1 : upd H3 f1 (.lst (zs.take (d + 1))) f1 = some (.lst (zs.take (d + 1))) := upd_same
    generalize upd H3 f1 (.lst (zs.take (d + 1))) = J1 at *
    refine ⟨_, rfl, _, rfl, _, rfl, fl, zs, rfl, SqL.of (U1 _ _ hfl3), fun f2 n2 => ?_⟩
    rw [cut_from]
    have U2 : Same J1 (upd J1 f2 (.lst (zs.drop d))) := Same.new n2
    have g2 : upd J1 f2 (.lst (zs.drop d)) f2 = some (.lst (zs.drop d)) := upd_same
    generalize upd J1 f2 (.lst (zs.drop d)) = J2 at *
    refine ⟨_, _, rfl, ?_⟩
    have E2' : Same H3 J2 := Same.trans U1 U2
    have hfl4 := E2' _ _ hfl3
    have hz4 := Prs.same E2' hz3
    have p1 : Prs K J2 (zs.take (d + 1)) (c :: ptsU c (u.take d)) := by
      rw [← pts_take]
      exact Prs.take _ hz4
    have p2 : Prs K J2 (zs.drop d) (endU c (u.take d) :: ptsU (endU c (u.take d)) (u.drop d)) := by
      rw [← pts_drop c u d hdu]
      exact Prs.drop _ hz4
    have hbd : ∀ z ∈ c :: ptsU c u, z.1.natAbs ≤ 10000 ∧ z.2.natAbs ≤ 10000 := fun z hz => by
      rcases List.mem_cons.mp hz with e | hz
      · rw [e]
        omega
      · have := ptsU_bd hsp hz
        omega
    have he : endU c (u.take d) ∈ c :: ptsU c u := by
      have := get_ptsU c u d hdu
      exact List.mem_of_getElem? this
    have hlz : endU c u ∈ c :: ptsU c u := by
      have := get_ptsU c u u.length (Nat.le_refl _)
      rw [List.take_length] at this
      exact List.mem_of_getElem? this
    have eab : u.take d ++ u.drop d = u := List.take_append_drop d u
    have okw : (lnU c u).ok := lnU_ok hon hsp m3 (by omega) (hbd c List.mem_cons_self).1 (hbd c List.mem_cons_self).2
    have ok1 : (lnU c (u.take d)).ok := lnU_ok (hon.take d) (fun q hq => hsp q (List.mem_of_mem_take hq)) (by have := merged_pre_len (u.take d) (u.drop d); rw [eab] at this; omega) (by rw [List.length_take]; omega) (hbd c List.mem_cons_self).1 (hbd c List.mem_cons_self).2
    have ok2 : (lnU (endU c (u.take d)) (u.drop d)).ok := lnU_ok (hon.drop d) (fun q hq => hsp q (List.mem_of_mem_drop hq)) (by have := merged_suf_len (u.take d) (u.drop d); rw [eab] at this; omega) (by rw [List.length_drop]; omega) (hbd _ he).1 (hbd _ he).2
    generalize hE : endU c (u.take d) = e at *
    -- whole
    obtain ⟨v0, hv0, ⟨c0, rfl, hc0⟩⟩ := Prs.get hz4 (i := 0) (p := c) rfl
    refine ⟨_, rfl, fl, zs, _, _, rfl, rfl, SqL.of hfl4, atI_nat (j := 0) hv0, c0, _, _, _, rfl, rfl, hc0, atI_nat (j := 0) rfl, _, rfl, fl, zs, _, _, rfl, rfl, SqL.of hfl4, atI_nat (j := 0) hv0, c0, _, _, _, rfl, rfl, hc0, atI_nat (j := 1) rfl, ?_⟩
    refine ⟨_, rfl, _, c :: ptsU c u, rfl, ⟨fl, zs, rfl, SqL.of hfl4, hz4⟩, (by rw [List.length_cons, ptsU_len]; omega), fun wl H5 e5 hw => ?_⟩
    rw [legs1_pts c u hon] at hw
    refine fun wx dx nx ndx ne => mk_at nx ndx ne hw.sq okw.len okw.pos (by rw [merged_idem]; exact okw.wide) fun H6 e6 L6 => ?_
    rw [merged_idem] at L6
    have Lw : Ln K C H6 (.ref wx) (lnU c u) := L6
    have E6 : Same J2 H6 := Same.trans e5 e6
    -- both
    refine ⟨_, rfl, _, rfl, (by show 2 ≤ sizeLine; decide), fun tb ntb => ⟨tb, rfl, ⟨_, SqT.of upd_same⟩, fun Dd nD => ?_⟩⟩
    have V1 : Same H6 (upd H6 tb (.tup [.ref f1, .ref f2])) := Same.new ntb
    have gtb : upd H6 tb (.tup [.ref f1, .ref f2]) tb = some (.tup [.ref f1, .ref f2]) := upd_same
    generalize upd H6 tb (.tup [.ref f1, .ref f2]) = J7 at *
    have E7 : Same J2 J7 := Same.trans E6 V1
    refine lc_tup (K := K) (a := tb) (xs := [.ref f1, .ref f2]) (fun i H' => Same J7 H' ∧ ∃ vs, H' Dd = some (.lst vs) ∧ Paired (fun v l => Ln K C H' v l) vs ([lnU c (u.take d), lnU e (u.drop d)].take i)) ⟨Same.new nD, [], upd_same, .nil⟩ (fun i H' _ ⟨z, _⟩ => Same.seqT z (SqT.of gtb)) ?_ ?_
    · rintro i xv H8 hi ⟨s8, vs, hD, pv'⟩
      obtain ⟨fx, xs', c', u', rfl, hfx, hpx, ou, okx, hL, hlx⟩ : ∃ fx xs' c' u', xv = .ref fx ∧ J2 fx = some (.lst xs') ∧ Prs K J2 xs' (c' :: ptsU c' u') ∧ Ones u' ∧ (lnU c' u').ok ∧ [lnU c (u.take d), lnU e (u.drop d)][i]? = some (lnU c' u') ∧ u'.length ≤ 400 := by
        match i, hi with
        | 0, hi =>
          cases hi
          exact ⟨f1, _, c, u.take d, rfl, U2 _ _ g1, p1, hon.take d, ok1, rfl, by rw [List.length_take]; omega⟩
        | 1, hi =>
          cases hi
          exact ⟨f2, _, e, u.drop d, rfl, g2, p2, hon.drop d, ok2, rfl, by rw [List.length_drop]; omega⟩
        | i + 2, hi => simp at hi
      have hfx8 := (Same.trans E7 s8) _ _ hfx
      have hpx8 := Prs.same (Same.trans E7 s8) hpx
      obtain ⟨w0, hw0, ⟨c8, rfl, hc8⟩⟩ := Prs.get hpx8 (i := 0) (p := c') rfl
      refine ⟨rfl, ?_⟩
      refine ⟨_, rfl, fx, xs', _, _, rfl, rfl, SqL.of hfx8, atI_nat (j := 0) hw0, c8, _, _, _, rfl, rfl, hc8, atI_nat (j := 0) rfl, _, rfl, fx, xs', _, _, rfl, rfl, SqL.of hfx8, atI_nat (j := 0) hw0, c8, _, _, _, rfl, rfl, hc8, atI_nat (j := 1) rfl, ?_⟩
      refine ⟨_, rfl, _, c' :: ptsU c' u', rfl, ⟨fx, xs', rfl, SqL.of hfx8, hpx8⟩, (by rw [List.length_cons, ptsU_len]; omega), fun wl2 H9 e9 hw9 => ?_⟩
      rw [legs1_pts c' u' ou] at hw9
      refine fun x2 dx2 nx2 ndx2 ne2 => mk_at nx2 ndx2 ne2 hw9.sq okx.len okx.pos (by rw [merged_idem]; exact okx.wide) fun H10 e10 L10 fz => ?_
      rw [merged_idem] at L10
      have L10' : Ln K C H10 (.ref x2) (lnU c' u') := L10
      have E10 : Same H8 H10 := Same.trans e9 e10
      have hD10 := E10 _ _ hD
      have hvl := Paired.length pv'
      refine ⟨vs, hD10, (by rw [hvl, List.length_take, sizeLine_eq]; exact Nat.lt_of_le_of_lt (Nat.min_le_right _ _) (by show 2 < 16777216; decide)), Same.wr (Same.trans s8 E10) nD, _, upd_same, ?_⟩
      have et : [lnU c (u.take d), lnU e (u.drop d)].take (i + 1) = [lnU c (u.take d), lnU e (u.drop d)].take i ++ [lnU c' u'] := by rw [List.take_add_one, hL]; rfl
      rw [et]
      have hv10 := Lns.insAt (L2.Paired.mapP pv' fun _ _ q => q.same E10)
      exact Paired.snoc (L2.Paired.mapP pv' fun _ _ q => Ln.wrL fz hD10 hv10 (q.same E10)) (Ln.wrL fz hD10 hv10 L10')
    · rintro H8 ⟨s8, vs, hD, pv'⟩
      have hpt : ∀ {vs : List V}, Paired (fun v l => Ln K C H8 v l) vs [lnU c (u.take d), lnU e (u.drop d)] → ∃ y1 y2, vs = [y1, y2] ∧ Ln K C H8 y1 (lnU c (u.take d)) ∧ Ln K C H8 y2 (lnU e (u.drop d)) := fun h => by
        cases h with
        | cons q1 t =>
          cases t with
          | cons q2 t =>
            cases t with
            | nil => exact ⟨_, _, rfl, q1, q2⟩
      obtain ⟨y1, y2, rfl, LA, LB⟩ := hpt pv'
      have E8 : Same J2 H8 := Same.trans E7 s8
      have hbw : ∀ q ∈ merged u, 1 ≤ q.1 ∧ SmP q := fun q hq => ⟨okw.pos q hq, okw.sm.2.2.2 q hq⟩
      have Lw8 := Lw.same (Same.trans V1 s8)
      have hfl8 := E8 _ _ hfl4
      -- start, end
      refine ⟨_, rfl, fl, zs, _, _, rfl, rfl, SqL.of hfl8, atI_nat (j := 0) hv0, c0, _, _, _, rfl, rfl, Same.seqT E8 hc0, atI_nat (j := 0) rfl, _, rfl, fl, zs, _, _, rfl, rfl, SqL.of hfl8, atI_nat (j := 0) hv0, c0, _, _, _, rfl, rfl, Same.seqT E8 hc0, atI_nat (j := 1) rfl, ?_⟩
      refine fun x3 dx3 nx3 ndx3 ne3 => mk_at2 nx3 ndx3 ne3 hT0 fun H9 e9 LS => ?_
      obtain ⟨v1, hv1, ⟨c1, rfl, hc1⟩⟩ := Prs.get hz4 (i := u.length) (p := endU c u) (by rw [get_ptsU c u u.length (Nat.le_refl _), List.take_length])
      have hzd : zs = zs.take u.length ++ [.ref c1] := by
        have h1 := List.take_add_one (l := zs) (i := u.length)
        rw [hv1, List.take_of_length_le (by omega)] at h1
        exact h1
      have hat : atI zs (-1) = some (.ref c1) := by
        rw [hzd]
        exact atI_last _ _
      have E9 : Same J2 H9 := Same.trans E8 e9
      have hfl9 := E9 _ _ hfl4
      refine ⟨_, rfl, _, rfl, fl, zs, _, _, rfl, rfl, SqL.of hfl9, hat, c1, _, _, _, rfl, rfl, Same.seqT E9 hc1, atI_nat (j := 0) rfl, _, rfl, _, rfl, fl, zs, _, _, rfl, rfl, SqL.of hfl9, hat, c1, _, _, _, rfl, rfl, Same.seqT E9 hc1, atI_nat (j := 1) rfl, ?_⟩
      refine fun x4 dx4 nx4 ndx4 ne4 => mk_at2 nx4 ndx4 ne4 hT0 fun H10 e10 LE => ?_
      refine ⟨_, _, rfl, ?_⟩
      have E10 : Same H8 H10 := Same.trans e9 e10
      have okS : (⟨c.1, c.2, []⟩ : LD).ok := lnU_ok (u := []) (fun q hq => by cases hq) (fun q hq => by cases hq) (Nat.zero_le _) (Nat.zero_le _) (hbd c List.mem_cons_self).1 (hbd c List.mem_cons_self).2
      have okE : (⟨(endU c u).1, (endU c u).2, []⟩ : LD).ok := lnU_ok (c := endU c u) (u := []) (fun q hq => by cases hq) (fun q hq => by cases hq) (Nat.zero_le _) (Nat.zero_le _) (hbd _ hlz).1 (hbd _ hlz).2
      have eA : AddB (lnU c (u.take d)) (lnU e (u.drop d)) = merged u := by rw [lnU_add c e (hon.take d) (hon.drop d), eab]
      -- both[0] + both[1] == whole
      refine ⟨_, rfl, Dd, _, _, _, rfl, rfl, SqL.of (E10 _ _ hD), atI_nat (j := 0) rfl, _, rfl, Dd, _, _, _, rfl, rfl, SqL.of (E10 _ _ hD), atI_nat (j := 1) rfl, ?_⟩
      refine add_good LI.tx LI.is (LA.same E10) ok1 (LB.same E10) ok2 (by rw [lnU_last c (hon.take d), hE]; rfl) (by rw [eA]; exact m3) (by rw [eA]; exact hbw) fun b1 H11 e11 M1 => ?_
      rw [eA] at M1
      have M1' : Ln K C H11 (.ref b1) (lnU c u) := M1
      refine ⟨_, rfl, _, M1', Lw8.same (Same.trans E10 e11), fun H12 e12 => ⟨true, rfl, ?_⟩⟩
      -- start + whole == whole
      have E12 : Same H10 H12 := Same.trans e11 e12
      have eB : AddB ⟨c.1, c.2, []⟩ (lnU c u) = merged u := merged_idem u
      refine ⟨_, rfl, _, rfl, ?_⟩
      refine add_good LI.tx LI.is (LS.same (Same.trans e10 E12)) okS (Lw8.same (Same.trans E10 E12)) okw rfl (by rw [eB]; exact m3) (by rw [eB]; exact hbw) fun b2 H13 e13 M2' => ?_
      rw [eB] at M2'
      have M2'' : Ln K C H13 (.ref b2) (lnU c u) := M2'
      have E13 : Same H10 H13 := Same.trans E12 e13
      refine ⟨_, rfl, _, M2'', Lw8.same (Same.trans E10 E13), fun H14 e14 => ⟨true, rfl, ?_⟩⟩
      have E14 : Same H10 H14 := Same.trans E13 e14
      have eC : AddB (lnU c u) ⟨(endU c u).1, (endU c u).2, []⟩ = merged u := by
        show merged (merged u ++ []) = merged u
        rw [List.append_nil]
        exact merged_idem u
      -- whole + end == whole
      refine ⟨_, rfl, _, rfl, ?_⟩
      refine add_good LI.tx LI.is (Lw8.same (Same.trans E10 E14)) okw (LE.same E14) okE (by rw [lnU_last c hon]) (by rw [eC]; exact m3) (by rw [eC]; exact hbw) fun b3 H15 e15 M3 => ?_
      rw [eC] at M3
      have M3' : Ln K C H15 (.ref b3) (lnU c u) := M3
      have E15 : Same H10 H15 := Same.trans E14 e15
      refine ⟨_, rfl, _, M3', Lw8.same (Same.trans E10 E15), fun H16 e16 => ?_⟩
      have Ef : Same H3 H16 := Same.trans E2' (Same.trans E8 (Same.trans E10 (Same.trans E15 e16)))
      exact q _ (ex3.trans (Ex.of Ef)) (st3.same Ef) (Tabs.same Ef t3)
end
end KX
end
section
set_option Elab.async false
set_option linter.all false
set_option maxRecDepth 100000
set_option maxHeartbeats 4000000
/-! M6: points that are moved; short texts. -/
namespace KX
open PySem PySem.Spec PyProof.Rows L2
theorem ptsU_shift (d : P2) : ∀ (u : List P2) (c : P2), (ptsU c u).map (fun z => ((z.1 + d.1, z.2 + d.2) : P2)) = ptsU (c.1 + d.1, c.2 + d.2) u
  | [], _ => rfl
  | q :: r, c => by
    show ((c.1 + 1 + d.1, c.2 + q.2 + d.2) : P2) :: (ptsU (c.1 + 1, c.2 + q.2) r).map _ = (c.1 + d.1 + 1, c.2 + d.2 + q.2) :: ptsU (c.1 + d.1 + 1, c.2 + d.2 + q.2) r
    rw [ptsU_shift d r]
    show ((c.1 + 1 + d.1, c.2 + q.2 + d.2) : P2) :: ptsU (c.1 + 1 + d.1, c.2 + q.2 + d.2) r = _
    rw [show c.1 + 1 + d.1 = c.1 + d.1 + 1 by omega, show c.2 + q.2 + d.2 = c.2 + d.2 + q.2 by omega]
/-- numbers under 10 ^ 5 -/
def TiI (i : Int) : Prop := i.natAbs < 10 ^ 5
theorem TiI.sm {i : Int} (h : TiI i) : SmI i := by
  unfold TiI at h
  unfold SmI
  omega
theorem TiI.len {i : Int} (h : TiI i) : ((toString i : Str)).length ≤ 6 := by
  have e := int_text_length_le10 (k := 5) (by decide) h
  show (Str.ofString (toString i)).length ≤ 6
  rw [PySem.ofString_length]
  omega
theorem TiP.len {p : P2} (h1 : TiI p.1) (h2 : TiI p.2) : (dP p).shown.length ≤ 16 := by
  have h1 := h1.len
  have h2 := h2.len
  show (tupleText [(toString p.1 : Str), (toString p.2 : Str)]).length ≤ 16
  unfold tupleText
  rw [strLen_append, strLen_append]
  show (("(" : String) : Str).length + ((toString p.1 : Str) ++ (", " : Str) ++ (toString p.2 : Str)).length + _ ≤ 16
  rw [strLen_append, strLen_append]
  have e1 : ((("(" : String) : Str)).length = 1 := rfl
  have e2 : (((", " : String) : Str)).length = 2 := rfl
  have e3 : ((((if ([(toString p.1 : Str), (toString p.2 : Str)] : List Str).length == 1 then ",)" else ")" : String)) : Str)).length = 1 := rfl
  omega
theorem TiL.len {ps : List P2} (hl : ps.length ≤ 3) (h : ∀ q ∈ ps, TiI q.1 ∧ TiI q.2) : (legsText ps).length ≤ 57 := by
  have h1 := tupText_le 16 (ps.map fun p => (dP p).shown) (fun t ht => by
    obtain ⟨p, hp, rfl⟩ := List.mem_map.mp ht
    exact TiP.len (h p hp).1 (h p hp).2)
  rw [List.length_map] at h1
  have e : legsText ps = tupleText (ps.map fun p => (dP p).shown) := by
    show tupleText (PyData.shownAll (ps.map dP)) = _
    rw [shownAll_map]
  rw [e]
  omega
theorem LD.tight {l : LD} (hf : TiI l.f) (hp : TiI l.p) (hl : l.legs.length ≤ 3) (h : ∀ q ∈ l.legs, TiI q.1 ∧ TiI q.2) : l.text.length ≤ 80 := by
  have h1 := hf.len
  have h2 := hp.len
  have h3 := TiL.len hl h
  have e1 : ((("Line(" : String) : Str)).length = 5 := rfl
  have e2 : (((", " : String) : Str)).length = 2 := rfl
  have e3 : (((")" : String) : Str)).length = 1 := rfl
  unfold LD.text
  rw [strLen_append, strLen_append, strLen_append, strLen_append, strLen_append, strLen_append]
  omega
/-- the legs of a line along unit legs -/
theorem merged_ti {u : List P2} (h : Ones u) (hs : ∀ q ∈ u, -7 ≤ q.2 ∧ q.2 ≤ 7) (hl : u.length ≤ 1000) : ∀ q ∈ merged u, 1 ≤ q.1 ∧ TiI q.1 ∧ TiI q.2 := fun q hq => by
  obtain ⟨a1, a2, a3⟩ := merged_mem h.pos hq
  rw [units_ones h] at a2 a3
  have := hs _ a3
  have h1' : -7 ≤ q.2 := this.1
  have h2' : q.2 ≤ 7 := this.2
  exact ⟨a1, by show q.1.natAbs < _; omega, by show q.2.natAbs < _; omega⟩
theorem lnU_small {c : P2} {u : List P2} (h : Ones u) (hs : ∀ q ∈ u, -7 ≤ q.2 ∧ q.2 ≤ 7) (h8 : (merged u).length ≤ 8) (hl : u.length ≤ 1000) (h1 : c.1.natAbs ≤ 10000) (h2 : c.2.natAbs ≤ 10000) : (lnU c u).small := by
  have hm := merged_ti h hs hl
  exact ⟨by show c.1.natAbs < _; omega, by show c.2.natAbs < _; omega, h8, fun q hq => ⟨(hm q hq).2.1.sm, (hm q hq).2.2.sm⟩⟩
theorem Ones.app {a b : List P2} (ha : Ones a) (hb : Ones b) : Ones (a ++ b) := fun q hq => by
  rcases List.mem_append.mp hq with z | z
  · exact ha q z
  · exact hb q z
theorem merged_app_len {a b : List P2} (ha : Ones a) (hb : Ones b) : (merged (a ++ b)).length ≤ (merged a).length + (merged b).length := by
  rw [← merged_join ha.pos hb.pos]
  have := merged_len (merged a ++ merged b)
  rw [List.length_append] at this
  exact this
end KX
end
section
set_option Elab.async false
set_option linter.all false
set_option maxRecDepth 100000
set_option maxHeartbeats 4000000
/-! E10: _law_joined_right. -/
namespace KX
open PySem PySem.Spec PyProof.Rows L2
section
variable {K : PySem.W.Frag} {C CLg CLn : Addr} {H : Hp} {v u : V} {l m : LD}
/-- told of a sum of two lines that fit -/
theorem add_told {Q : VK} (T : LnC K C) (I : LnIs K C) (hv : Ln K C H v l) (hl : l.ok) (hu : Ln K C H u m) (hm : m.ok) (hj : (m.f, m.p) = l.last) (hb : ∀ q ∈ AddB l m, 1 ≤ q.1 ∧ SmP q) (hs : (⟨l.f, l.p, AddB l m⟩ : LD).small)
    (q : ∀ l' H', Same H H' → H l' = none → H' l' = some (.lst (dueV ⟨l.f, l.p, AddB l m⟩)) → Q (.ref l') H') : rAddO K C (spAdd K C CLg CLn) (ToldE K C CLg CLn Q) v u H (ToldV K C Q) := by
  obtain ⟨a, dx, lg, cn, la, lo, hi, rfl, g, _⟩ := id hv
  refine ⟨a, dx, _, .ref C, rfl, g, hu.ty T.cl I, .inl rfl, .ref a, u, l, rfl, hv, hl, .inr ⟨m, hu, hm, hj, fun h3 => ?_, fun h3 => ⟨hb, fun v' H' e L => ⟨L.ref, ?_⟩⟩⟩⟩
  · rw [dueV_bad (by show 3 < (AddB l m).length; exact h3)] at q
    exact toldE_legs (fun _ _ => rpv_none) q
  · rw [dueV_line (by show ¬ 3 < (AddB l m).length; omega)] at q
    exact toldV_line e L hs q
theorem NoLn.add (hT : ∀ t ∈ ["NoneType", "int", "bool", "str", "tuple", "list"], AddT K C t) (h : NoLn K H v) : ∃ t, TyX K H v t ∧ ∃ T, t = .type T ∧ AddT K C T := by
  cases h with
  | flat f =>
    cases f with
    | non => exact ⟨_, .base .non, _, rfl, hT _ (by simp)⟩
    | bl b => exact ⟨_, .base (.bl b), _, rfl, hT _ (by simp)⟩
    | int i => exact ⟨_, .base (.int i), _, rfl, hT _ (by simp)⟩
    | str z => exact ⟨_, .base (.str z), _, rfl, hT _ (by simp)⟩
  | tup h => exact ⟨_, SqT.ty h, _, rfl, hT _ (by simp)⟩
  | lst h => exact ⟨_, SqL.ty h, _, rfl, hT _ (by simp)⟩
/-- told of a sum that does not fit -/
theorem add_odd {Q : VK} {t : Str} (T : LnC K C) (I : LnIs K C) (hT : ∀ t ∈ ["NoneType", "int", "bool", "str", "tuple", "list"], AddT K C t) (hv : Ln K C H v l) (hl : l.ok) (hu : NoLn K H u ∨ ∃ m, Ln K C H u m ∧ (m.f, m.p) ≠ l.last) (ht : ∀ H', Same H H' → RpV K C H' u t)
    (q : ∀ l' H', Same H H' → H l' = none → H' l' = some (.lst (valV' t)) → Q (.ref l') H') : rAddO K C (spAdd K C CLg CLn) (ToldE K C CLg CLn Q) v u H (ToldV K C Q) := by
  obtain ⟨a, dx, lg, cn, la, lo, hi, rfl, g, _⟩ := id hv
  obtain ⟨t', h1, h2⟩ : ∃ t, TyX K H u t ∧ (t = .ref C ∨ ∃ T, t = .type T ∧ AddT K C T) := by
    rcases hu with h | ⟨m, h, _⟩
    · obtain ⟨t, h1, h2⟩ := h.add hT
      exact ⟨t, h1, .inr h2⟩
    · exact ⟨_, h.ty T.cl I, .inl rfl⟩
  exact ⟨a, dx, _, t', rfl, g, h1, h2, .ref a, u, l, rfl, hv, hl, .inl ⟨hu, toldE_line ht q⟩⟩
/-- what is added to a line that ends at z, and does not fit -/
inductive FarC (K : PySem.W.Frag) (C r : Addr) (z : P2) (H : Hp) : V → Str → Prop
  | line {v : V} {m : LD} : Ln K C H v m → m.small → (m.f, m.p) ≠ z → FarC K C r z H v m.text
  | non : FarC K C r z H .non "None"
  | zero : FarC K C r z H (.int 0) "0"
  | one : FarC K C r z H (.bl true) "True"
  | str {t : Str} : t.length ≤ 80 → PyData.strOk t = true → FarC K C r z H (.str t) (PyData.str t).shown
  | tup {a : Addr} : SqT K H a [.int 0, .int 0] → FarC K C r z H (.ref a) "(0, 0)"
  | lst {a : Addr} : a ≠ r → H a = some (.lst []) → FarC K C r z H (.ref a) "[]"
theorem FarC.ex {r : Addr} {z : P2} {t : Str} {H' : Hp} (e : Ex r H H') (hr : St r H) (h : FarC K C r z H v t) : FarC K C r z H' v t := by
  cases h with
  | line h1 h2 h3 => exact .line (h1.ex e hr) h2 h3
  | non => exact .non
  | zero => exact .zero
  | one => exact .one
  | str h1 h2 => exact .str h1 h2
  | tup h => exact .tup (SqT.ex e hr h)
  | lst h1 h2 => exact .lst h1 (e.lst h2 h1)
theorem str_shown {t : Str} (h : t.length ≤ 80) (ok : PyData.strOk t = true) : (PyData.str t).shown.length ≤ 1000 := by
  have := StrLaws.reprText_len t (fun c hc => by
    have h2 : t.cps.all (· < 0x110000) = true := ok
    rw [← Array.all_toList, List.all_eq_true] at h2
    have h3 := of_decide_eq_true (h2 c hc)
    exact Nat.lt_of_lt_of_le h3 (by decide))
  show (PySem.reprText t).length ≤ 1000
  omega
theorem FarC.rp {r : Addr} {z : P2} {t : Str} (h : FarC K C r z H v t) : RpV K C H v t := by
  cases h with
  | line h1 h2 h3 => exact .line h1 h2
  | non => exact rpv_none
  | zero => exact rpv_nat (i := 0) (by decide)
  | one => exact RpV.dat (d := .bool true) (.bl true) rfl rfl (by simp [PyData.depth]) (by decide +kernel)
  | str h1 h2 => exact RpV.dat (d := .str _) (.str _) rfl rfl (by simp [PyData.depth]) (str_shown h1 h2)
  | tup h => exact RpV.dat (d := .tuple [.int 0, .int 0]) (.tup h (.cons (.int _) (.cons (.int _) .nil))) (by decide +kernel) rfl (by simp [PyData.depth, PyData.depthAll]) (by decide +kernel)
  | lst h1 h => exact RpV.dat (d := .list []) (.lst (SqL.of h) .nil) rfl rfl (by simp [PyData.depth, PyData.depthAll]) (by decide +kernel)
theorem FarC.no {r : Addr} {z : P2} {t : Str} (hz : z = l.last) (h : FarC K C r z H v t) : NoLn K H v ∨ ∃ m, Ln K C H v m ∧ (m.f, m.p) ≠ l.last := by
  cases h with
  | line h1 h2 h3 => exact .inr ⟨_, h1, hz ▸ h3⟩
  | non => exact .inl (.flat .non)
  | zero => exact .inl (.flat (.int 0))
  | one => exact .inl (.flat (.bl true))
  | str h1 h2 => exact .inl (.flat (.str _))
  | tup h => exact .inl (.tup h)
  | lst h1 h => exact .inl (.lst (SqL.of h))
theorem rpTwo_len {l m : LD} (h1 : l.text.length ≤ 80) (h2 : m.text.length ≤ 80) : (rpTwo l m).length ≤ 1000 := by
  have h3 := textFrom_len_le [l.text, m.text] 0 "["
  have e1 : ((("[" : String) : Str)).length = 1 := rfl
  have e3 : ((("]" : String) : Str)).length = 1 := rfl
  unfold rpTwo listText
  rw [strLen_append, e3]
  have h4 : ([l.text, m.text].map (·.length)).sum = l.text.length + (m.text.length + 0) := rfl
  have h5 : [l.text, m.text].length = 2 := rfl
  rw [h4, h5, e1] at h3
  omega
theorem char_small (c : Char) : c.toNat < 0x110000 := by
  have h := c.valid
  have h' : c.toNat < 0xd800 ∨ (0xdfff < c.toNat ∧ c.toNat < 0x110000) := h
  omega
theorem reprChar_small (q c : Nat) (hc : c < 0x110000) : ∀ d ∈ Builtin.Str.reprChar q c, d < 0x110000 := by
  have hx : ∀ w : Nat, ∀ d ∈ (List.replicate (w - ((Nat.toDigits 16 c).map Char.toNat).length) 48 ++ (Nat.toDigits 16 c).map Char.toNat), d < 0x110000 := fun w d hd => by
    rcases List.mem_append.mp hd with h | h
    · rw [List.eq_of_mem_replicate h]
      decide
    · obtain ⟨k, _, rfl⟩ := List.mem_map.mp h
      exact char_small k
  have h2 : ∀ (a b : Nat) (w : Nat), a < 0x110000 → b < 0x110000 → ∀ d ∈ ([a, b] ++ (List.replicate (w - ((Nat.toDigits 16 c).map Char.toNat).length) 48 ++ (Nat.toDigits 16 c).map Char.toNat)), d < 0x110000 := fun a b w ha hb d hd => by
    rcases List.mem_append.mp hd with h | h
    · simp only [List.mem_cons, List.not_mem_nil, or_false] at h
      rcases h with h | h
      · rw [h]; exact ha
      · rw [h]; exact hb
    · exact hx w d h
  have h1 : ∀ (a b : Nat), a < 0x110000 → b < 0x110000 → ∀ d ∈ [a, b], d < 0x110000 := fun a b ha hb d h => by
    simp only [List.mem_cons, List.not_mem_nil, or_false] at h
    rcases h with h | h
    · rw [h]; exact ha
    · rw [h]; exact hb
  intro d hd
  unfold Builtin.Str.reprChar at hd
  dsimp only at hd
  split at hd
  · exact h1 92 c (by decide) hc d hd
  split at hd
  · exact h1 92 110 (by decide) (by decide) d hd
  split at hd
  · exact h1 92 114 (by decide) (by decide) d hd
  split at hd
  · exact h1 92 116 (by decide) (by decide) d hd
  split at hd
  · rw [List.mem_singleton.mp hd]
    exact hc
  split at hd
  · exact h2 92 120 2 (by decide) (by decide) d hd
  split at hd
  · exact h2 92 117 4 (by decide) (by decide) d hd
  · exact h2 92 85 8 (by decide) (by decide) d hd
theorem repr_fold_small (q : Nat) : ∀ (l : List Nat) (acc : Array Nat), (∀ c ∈ l, c < 0x110000) → (∀ d ∈ acc.toList, d < 0x110000) → ∀ d ∈ (l.foldl (fun out c => out ++ (Builtin.Str.reprChar q c).toArray) acc).toList, d < 0x110000
  | [], _, _, ha => ha
  | c :: r, acc, h, ha => repr_fold_small q r _ (fun x hx => h x (List.mem_cons_of_mem _ hx)) fun d hd => by
    rw [Array.toList_append] at hd
    rcases List.mem_append.mp hd with z | z
    · exact ha d z
    · exact reprChar_small q c (h c List.mem_cons_self) d z
theorem str_tok {t : Str} (ok : PyData.strOk t = true) : PyData.strOk (PyData.str t).shown = true := by
  have h2 : t.cps.all (· < 0x110000) = true := ok
  rw [← Array.all_toList, List.all_eq_true] at h2
  have hq : PySem.reprQuote t < 0x110000 := by
    unfold PySem.reprQuote
    split <;> decide
  show (PySem.reprText t).cps.all (· < 0x110000) = true
  rw [← Array.all_toList, List.all_eq_true]
  intro d hd
  refine decide_eq_true ?_
  unfold PySem.reprText at hd
  rw [Array.toList_push] at hd
  rcases List.mem_append.mp hd with z | z
  · rw [← Array.foldl_toList] at z
    exact repr_fold_small _ _ _ (fun c hc => of_decide_eq_true (h2 c hc)) (fun d hd => by
      rw [List.mem_singleton.mp (show d ∈ [PySem.reprQuote t] from hd)]
      exact hq) d z
  · rw [List.mem_singleton.mp z]
    exact hq
theorem FarC.tok {r : Addr} {z : P2} {t : Str} (h : FarC K C r z H v t) : PyData.strOk t = true := by
  cases h with
  | line h1 h2 h3 => exact ok_text _
  | non => exact ok_of _
  | zero => exact ok_of _
  | one => exact ok_of _
  | str h1 h2 => exact str_tok h2
  | tup h => exact ok_of _
  | lst h1 h => exact ok_of _
end
section
variable {P : Program} {w : World} {K : PySem.W.Frag} {mg : Str → Option Value} {base : Heap}
abbrev sJR : Stmt := top 37
abbrev nJR : List Str := ["_law_rng_here", "_law_first", "_law_second", "_law_shift", "_law_moved", "_law_shown", "_law_turn", "_law_some", "_law_far", "_law_one", "_law_other", "_law_now", "_law_spot"]
theorem scJR : FnScope nJR ["_law_rng_here"] (defScope sJR) := ⟨rfl, rfl, rfl, by decide +kernel, rfl, by decide +kernel, by decide +kernel⟩
theorem ok_jr {C CLg CLn c PT : Addr} {T : List (Addr × Str)} (LI : LiF P w K mg base C CLg CLn) (D : DeL K mg "_law_joined_right" sJR ["_law_rng_here"] c) (LF : LamF base mg T "_law_joined_right" c PT) (TF : TldF P w K mg base C CLg CLn)
    (GP : Cal P w K mg base 1 "_law_points" (spPts K) []) (GM : Cal P w K mg base 3 "_law_model" (spModel K) []) (GL : Cal P w K mg base 2 "_law_legs" (spLegs K) []) (GH : Cal P w K mg base 2 "_law_choice" (spChoice K) []) (GU : CalG P w K mg base 3 "_law_due" (spDue K)) :
    CalG P w K mg base 16 "_law_joined_right" (spRt T) := by
  obtain ⟨fA, fdA, AF, FA, bA⟩ := LI.add
  obtain ⟨fL, fdL, ML, FL, bL⟩ := LI.later
  obtain ⟨fM, fdM, MM, FM, bM⟩ := LI.moved
  obtain ⟨fR, rok, ra, rf⟩ := TF.re.ex
  have B := LI.bi
  have TC := LI.tx.cl
  refine D.calG scJR (fun vs H Q E h => ?_) (fun f A outer s H vs Q E gd hr h => ?_)
  · obtain ⟨r, rfl, _⟩ := h
    rfl
  · obtain ⟨r, rfl, st, tt, q⟩ := h
    have rp : RpF (cxOf CX0 P w K mg base nJR "_law_joined_right" (defScope sJR) f (.ref c) A outer s H E).nox C fR := ⟨gd, by have := hr.dp; show (A.deeper _).depth + 5 < _; omega, by have := hr.un; show (A.deeper _).units + 100 < _; omega, rok, ra, rf⟩
    refine ⟨_, (pss_cons (ps_par (i := 1) (j := 2) (by rfl) scJR.nd rfl rfl (by decide) rfl rfl (pa_cons (C8.pe_c GP hr (by decide) rfl (pa_cons (C8.pe_c GM hr (by decide) rfl (pa_cons (pv 0) (pa_cons pe_int pa_nil))) pa_nil)) (pa_cons (C8.pe_c GP hr (by decide) rfl (pa_cons (C8.pe_c GM hr (by decide) rfl (pa_cons (pv 0) (pa_cons pe_int pa_nil))) pa_nil)) pa_nil)) (by rfl))
      (pss_cons (ps_set (i := 3) scJR.nd rfl (Or.inr rfl) (pe_tup (pa_cons (pe_op op_sub (pe_ix ix_tup (pe_ix ix_list (pv 1) (pe_un un_neg pe_int) (fun _ _ => rfl)) pe_int (fun _ _ => rfl)) (pe_ix ix_tup (pe_ix ix_list (pv 2) pe_int (fun _ _ => rfl)) pe_int (fun _ _ => rfl))) (pa_cons (pe_op op_sub (pe_ix ix_tup (pe_ix ix_list (pv 1) (pe_un un_neg pe_int) (fun _ _ => rfl)) pe_int (fun _ _ => rfl)) (pe_ix ix_tup (pe_ix ix_list (pv 2) pe_int (fun _ _ => rfl)) pe_int (fun _ _ => rfl))) pa_nil))))
      (pss_cons (ps_setLc (i := 4) (g := gTup K 2 (gCons (gName 11) (gCons (gName 12) gNil))) (own := [("_law_now", 11), ("_law_spot", 12)]) rfl scJR.nd rfl rfl (sw_true rfl rfl rfl (by decide +kernel)) (pi_list (pv 2)) (blkOk_by (N := nJR) (sc := defScope sJR) (by decide +kernel)) (fun _ _ _ _ _ => pg_tup (n := 2) rfl (pgs_cons (pg_name (i := 11) scJR.nd rfl (Or.inl rfl) (.inr rfl)) (pgs_cons (pg_name (i := 12) scJR.nd rfl (Or.inl rfl) (.inr rfl)) pgs_nil))) (fun _ _ _ _ _ => pts_nil) (fun _ _ _ _ _ => (pe_tup (pa_cons (pe_op op_add (pv 11) (pe_ix (ixT K rfl) (pv 3) pe_int (fun _ _ => rfl))) (pa_cons (pe_op op_add (pv 12) (pe_ix (ixT K rfl) (pv 3) pe_int (fun _ _ => rfl))) pa_nil)))))
      (pss_cons (ps_asg (pe_tup (pa_cons (C8.pe_mk LI.mk3 hr (by decide) rfl (pa_cons (pe_ix ix_tup (pe_ix ix_list (pv 1) pe_int (fun _ _ => rfl)) pe_int (fun _ _ => rfl)) (pa_cons (pe_ix ix_tup (pe_ix ix_list (pv 1) pe_int (fun _ _ => rfl)) pe_int (fun _ _ => rfl)) (pa_cons (C8.pe_c GL hr (by decide) rfl (pa_cons (pv 1) pa_nil)) pa_nil)))) (pa_cons (C8.pe_mk LI.mk3 hr (by decide) rfl (pa_cons (pe_ix ix_tup (pe_ix ix_list (pv 4) pe_int (fun _ _ => rfl)) pe_int (fun _ _ => rfl)) (pa_cons (pe_ix ix_tup (pe_ix ix_list (pv 4) pe_int (fun _ _ => rfl)) pe_int (fun _ _ => rfl)) (pa_cons (C8.pe_c GL hr (by decide) rfl (pa_cons (pv 4) pa_nil)) pa_nil)))) pa_nil))) (pg_tup rfl (pgs_cons (pg_name (i := 9) scJR.nd rfl (Or.inr rfl)) (pgs_cons (pg_name (i := 10) scJR.nd rfl (Or.inr rfl)) pgs_nil))))
      (pss_cons (ps_set (i := 5) scJR.nd rfl (Or.inl rfl) (pe_callB (call_rp2 rp) (by rfl) B.repr boot_rp (pa_cons (pe_lst (pa_cons (pv 9) (pa_cons (pv 10) pa_nil))) pa_nil)))
      (pss_cons (ps_for PassesOwn.never rfl (pi_range1 rfl B.range (pa_cons pe_int pa_nil)) (pg_name (i := 6) scJR.nd rfl (Or.inl rfl)) (pss_one (ps_if (pt_cmpR (op_neD hr.units) (pe_told (k := 9) (t := fun E => tOp (rAddO K C (spAdd K C CLg CLn) E) (tVar 9) (tVar 10)) TF gd (hr.mono (by decide)) rfl LF rfl rfl (LamX.lamS_by (sc := defScope sJR) (by decide +kernel)) rfl (fun _ _ _ _ _ => rfl) (fun A outer s H E f c' hr2 => pe_op (op_addO AF FA bA (hr2.mono (by decide)) (passes_call (takes_of rfl rfl rfl rfl) fun _ _ _ _ z => z)) (pv 9) (pv 10))) (pe_cG GU gd hr (by decide) rfl (pa_cons (pe_op op_cat (pv 1) (pe_slice sl_list (pv 4) (po_some pe_int) po_none)) pa_nil)) (nomark _)) (pss_one (ps_ret pe_bl)) pss_nil)))
      (pss_cons (ps_set (i := 7) scJR.nd rfl (Or.inl rfl) (pe_lst (pa_cons (pe_meth (pv 10) TC ML FL (hr.mono (by decide)) bL .nil pass0 (pa_cons pe_int pa_nil)) (pa_cons (pe_meth (pv 10) TC MM FM (hr.mono (by decide)) bM .nil pass0 (pa_cons (pe_un un_neg pe_int) pa_nil)) (pa_cons (pe_meth (pv 10) TC ML FL (hr.mono (by decide)) bL .nil pass0 (pa_cons (pe_un un_neg pe_int) pa_nil)) pa_nil)))))
      (pss_cons (ps_set (i := 8) scJR.nd rfl (Or.inr rfl) (C8.pe_c GH hr (by decide) rfl (pa_cons (pv 0) (pa_cons (pe_op op_cat (pv 7) (pe_lst (pa_cons pe_non (pa_cons pe_int (pa_cons (pe_tup (pa_cons pe_int (pa_cons pe_int pa_nil))) (pa_cons (pe_callB (call_rpK K rfl rp) (by rfl) B.repr boot_rp (pa_cons (pv 10) pa_nil)) (pa_cons pe_bl (pa_cons (pe_lst pa_nil) pa_nil)))))))) pa_nil))))
      (pss_cons (ps_if (pt_cmpR (op_neD hr.units) (pe_told (k := 9) (t := fun E => tOp (rAddO K C (spAdd K C CLg CLn) E) (tVar 9) (tVar 8)) TF gd (hr.mono (by decide)) rfl LF rfl rfl (LamX.lamS_by (sc := defScope sJR) (by decide +kernel)) rfl (fun _ _ _ _ _ => rfl) (fun A outer s H E f c' hr2 => pe_op (op_addO AF FA bA (hr2.mono (by decide)) (passes_call (takes_of rfl rfl rfl rfl) fun _ _ _ _ z => z)) (pv 9) (pv 8))) (pe_lst (pa_cons pe_str (pa_cons (pe_callB (call_rpK K rfl rp) (by rfl) B.repr boot_rp (pa_cons (pv 8) pa_nil)) (pa_cons pe_bl pa_nil)))) (nomark _)) (pss_one (ps_ret pe_bl)) pss_nil)
      (pss_one (ps_ret (pe_cmpR op_eq (pe_callB (call_rp2 rp) (by rfl) B.repr boot_rp (pa_cons (pe_lst (pa_cons (pv 9) (pa_cons (pv 10) pa_nil))) pa_nil)) (pv 5) (nomark _))))))))))))), ?_⟩
    -- first
    refine ⟨_, rfl, r, 3, rfl, st, (by decide), fun v1 H1 x y rows hx1 hx2 hy1 hy2 hrl hrow hm o1 st1 => ?_⟩
    refine ⟨v1, x, y, rows, rfl, hm, (by omega), hrow, fun fl zs H2 s2 nfl hfl hz => ?_⟩
    have st2 := st1.same s2
    have hflr : fl ≠ r := st1.fresh nfl
    -- second
    refine ⟨_, rfl, r, 3, rfl, st2, (by decide), fun v3 H3 x' y' rows' hx1' hx2' hy1' hy2' hrl' hrow' hm' o3 st3 => ?_⟩
    refine ⟨v3, x', y', rows', rfl, hm', (by omega), hrow', fun f2 zs' H4 s4 nf2 hf2 hz' => ?_⟩
    have st4 := st3.same s4
    have hf2r : f2 ≠ r := st3.fresh nf2
    refine ⟨_, _, rfl, ?_⟩
    have hfl4 := s4 _ _ (o3 _ _ hflr hfl)
    have hz4 := Prs.same s4 (Prs.off o3 st2 hz)
    have ex4 : Ex r H H4 := (Ex.off o1).trans ((Ex.of s2).trans ((Ex.off o3).trans (Ex.of s4)))
    have t4 : LamX.Tabs T H4 := Tabs.same s4 (Tabs.off o3 st2 (Tabs.same s2 (Tabs.off o1 st tt)))
    have hul := units_len rows hrow
    have hsp := (rows_ok_units hrow).2
    have hps := (rows_ok_units hrow).1
    have hon : Ones (units rows) := ones_units rows
    have m3 : (merged (units rows)).length ≤ 3 := by rw [merged_units hps]; have := merged_len rows; omega
    have hul' := units_len rows' hrow'
    have hsp' := (rows_ok_units hrow').2
    have hps' := (rows_ok_units hrow').1
    have hon' : Ones (units rows') := ones_units rows'
    have m3' : (merged (units rows')).length ≤ 3 := by rw [merged_units hps']; have := merged_len rows'; omega
    have hz5 : Prs K H4 zs ((x, y) :: ptsU (x, y) (units rows)) := hz4
    have hz5' : Prs K H4 zs' ((x', y') :: ptsU (x', y') (units rows')) := hz'
    clear hz hz4 hz' hm hm' hrow hrow'
    generalize units rows = u at *
    generalize units rows' = u' at *
    generalize hc : ((x, y) : P2) = c0 at *
    have hcx : c0.1 = x := by rw [← hc]
    have hcy : c0.2 = y := by rw [← hc]
    have hzl := Prs.length hz5
    have hzl' := Prs.length hz5'
    rw [List.length_cons, ptsU_len] at hzl hzl'
    have hul12 : u.length ≤ 12 := by omega
    have hul12' : u'.length ≤ 12 := by omega
    -- the end of the first
    have hbd : ∀ z ∈ c0 :: ptsU c0 u, z.1.natAbs ≤ 5000 ∧ z.2.natAbs ≤ 5000 := fun z hz => by
      rcases List.mem_cons.mp hz with e | hz
      · rw [e]
        omega
      · have := ptsU_bd hsp hz
        omega
    have he : endU c0 u ∈ c0 :: ptsU c0 u := by
      have := get_ptsU c0 u u.length (Nat.le_refl _)
      rw [List.take_length] at this
      exact List.mem_of_getElem? this
    have hEb := hbd _ he
    obtain ⟨v5, hv5, ⟨te, rfl, hte⟩⟩ := Prs.get hz5 (i := u.length) (p := endU c0 u) (by rw [get_ptsU c0 u u.length (Nat.le_refl _), List.take_length])
    have hzd : zs = zs.take u.length ++ [.ref te] := by
      have h1 := List.take_add_one (l := zs) (i := u.length)
      rw [hv5, List.take_of_length_le (by omega)] at h1
      exact h1
    have hat : atI zs (-1) = some (.ref te) := by
      rw [hzd]
      exact atI_last _ _
    obtain ⟨v6, hv6, ⟨tb, rfl, htb⟩⟩ := Prs.get hz5' (i := 0) (p := (x', y')) rfl
    obtain ⟨v7, hv7, ⟨tc, rfl, htc⟩⟩ := Prs.get hz5 (i := 0) (p := c0) rfl
    generalize hE : endU c0 u = e at *
    -- the shift
    refine ⟨_, rfl, _, rfl, fl, zs, _, _, rfl, rfl, SqL.of hfl4, hat, te, _, _, _, rfl, rfl, hte, atI_nat (j := 0) rfl, _, rfl, f2, zs', _, _, rfl, rfl, SqL.of hf2, atI_nat (j := 0) hv6, tb, _, _, _, rfl, rfl, htb, atI_nat (j := 0) rfl, _, _, rfl, rfl, ?_⟩
    refine ⟨_, rfl, _, rfl, fl, zs, _, _, rfl, rfl, SqL.of hfl4, hat, te, _, _, _, rfl, rfl, hte, atI_nat (j := 1) rfl, _, rfl, f2, zs', _, _, rfl, rfl, SqL.of hf2, atI_nat (j := 0) hv6, tb, _, _, _, rfl, rfl, htb, atI_nat (j := 1) rfl, _, _, rfl, rfl, ?_⟩
    refine ⟨(by show 2 ≤ sizeLine; decide), fun sh nsh => ?_⟩
    have U5 : Same H4 (upd H4 sh (.tup [.int (e.1 - x'), .int (e.2 - y')])) := Same.new nsh
    have g5 : upd H4 sh (.tup [.int (e.1 - x'), .int (e.2 - y')]) sh = some (.tup [.int (e.1 - x'), .int (e.2 - y')]) := upd_same
    have st5 := st4.same U5
    generalize upd H4 sh (.tup [.int (e.1 - x'), .int (e.2 - y')]) = H5 at *
    -- the moved
    have hf25 := U5 _ _ hf2
    have hz55 := Prs.same U5 hz5'
    refine ⟨_, rfl, f2, rfl, ⟨_, SqL.of hf25⟩, fun Dd nD => ?_⟩
    have hDr : Dd ≠ r := st5.fresh nD
    have hmv : ((x', y') :: ptsU (x', y') u').map (fun z => ((z.1 + (e.1 - x'), z.2 + (e.2 - y')) : P2)) = e :: ptsU e u' := by
      rw [List.map_cons, ptsU_shift (e.1 - x', e.2 - y') u' (x', y')]
      show ((x' + (e.1 - x'), y' + (e.2 - y')) : P2) :: ptsU (x' + (e.1 - x'), y' + (e.2 - y')) u' = _
      rw [show x' + (e.1 - x') = e.1 by omega, show y' + (e.2 - y') = e.2 by omega]
    refine lc_list (K := K) (a := f2) (xs := zs') (fun i H' => Same H5 H' ∧ ∃ vs, H' Dd = some (.lst vs) ∧ Prs K H' vs ((e :: ptsU e u').take i)) ⟨Same.new nD, [], upd_same, .nil⟩ (fun i H' _ ⟨z, _⟩ => z.seq (SqL.of hf25)) ?_ ?_
    · rintro i xv H' hi ⟨z, vs, hD, pv'⟩
      obtain ⟨⟨p1, p2⟩, hp, tp, rfl, htp⟩ := Prs.of hz55 hi
      have hi' := (List.getElem?_eq_some_iff.mp hi).1
      have hsh : SqT K H' sh _ := Same.seqT z (SqT.of g5)
      refine ⟨tp, _, rfl, Same.seqT z htp, rfl, _, _, rfl, _, _, rfl, rfl, rfl, ?_⟩
      refine ⟨_, rfl, _, rfl, sh, _, _, _, rfl, rfl, hsh, atI_nat (j := 0) rfl, _, _, rfl, rfl, _, rfl, _, rfl, sh, _, _, _, rfl, rfl, hsh, atI_nat (j := 1) rfl, _, _, rfl, rfl, (by show 2 ≤ sizeLine; decide), fun np nnp => ?_⟩
      have U6 : Same H' (upd H' np (.tup [.int (p1 + (e.1 - x')), .int (p2 + (e.2 - y'))])) := Same.new nnp
      have g6 : upd H' np (.tup [.int (p1 + (e.1 - x')), .int (p2 + (e.2 - y'))]) np = some (.tup [.int (p1 + (e.1 - x')), .int (p2 + (e.2 - y'))]) := upd_same
      generalize upd H' np (.tup [.int (p1 + (e.1 - x')), .int (p2 + (e.2 - y'))]) = H6 at *
      have hD6 := U6 _ _ hD
      have hvl := Prs.length pv'
      refine ⟨vs, hD6, (by rw [hvl, List.length_take, sizeLine_eq, List.length_cons, ptsU_len]; omega), Same.wr (Same.trans z U6) nD, _, upd_same, ?_⟩
      have et : (e :: ptsU e u').take (i + 1) = (e :: ptsU e u').take i ++ [(p1 + (e.1 - x'), p2 + (e.2 - y'))] := by
        rw [← hmv, List.take_add_one, List.getElem?_map, hp]
        rfl
      rw [et]
      exact Prs.snoc (Prs.lst (Prs.same U6 pv') hD6) (Pr.lst (Pr.new g6) hD6)
    · rintro H6 ⟨s6, ws, hD, pw⟩
      rw [List.take_of_length_le (by rw [hzl', List.length_cons, ptsU_len]; omega)] at pw
      have st6 := st5.same s6
      have E46 : Same H4 H6 := Same.trans U5 s6
      have hfl6 := E46 _ _ hfl4
      have hz6 := Prs.same E46 hz5
      have htc6 := Same.seqT E46 htc
      obtain ⟨v8, hv8, ⟨td, rfl, htd⟩⟩ := Prs.get pw (i := 0) (p := e) rfl
      have hwl := Prs.length pw
      rw [List.length_cons, ptsU_len] at hwl
      -- one
      refine ⟨_, rfl, fl, zs, _, _, rfl, rfl, SqL.of hfl6, atI_nat (j := 0) hv7, tc, _, _, _, rfl, rfl, htc6, atI_nat (j := 0) rfl, _, rfl, fl, zs, _, _, rfl, rfl, SqL.of hfl6, atI_nat (j := 0) hv7, tc, _, _, _, rfl, rfl, htc6, atI_nat (j := 1) rfl, ?_⟩
      refine ⟨_, rfl, _, c0 :: ptsU c0 u, rfl, ⟨fl, zs, rfl, SqL.of hfl6, hz6⟩, (by rw [List.length_cons, ptsU_len]; omega), fun wl H7 e7 hw => ?_⟩
      rw [legs1_pts c0 u hon] at hw
      have okA : (lnU c0 u).ok := lnU_ok hon hsp m3 (by omega) (by have := (hbd c0 List.mem_cons_self).1; omega) (by have := (hbd c0 List.mem_cons_self).2; omega)
      have okB : (lnU e u').ok := lnU_ok hon' hsp' m3' (by omega) (by omega) (by omega)
      refine fun ax dx nx ndx ne => mk_at nx ndx ne hw.sq okA.len okA.pos (by rw [merged_idem]; exact okA.wide) fun H8 e8 LA => ?_
      rw [merged_idem] at LA
      have LA' : Ln K C H8 (.ref ax) (lnU c0 u) := LA
      have E68 : Same H6 H8 := Same.trans e7 e8
      have hD8 := E68 _ _ hD
      have pw8 := Prs.same E68 pw
      have htd8 := Same.seqT E68 htd
      -- other
      refine ⟨_, rfl, Dd, ws, _, _, rfl, rfl, SqL.of hD8, atI_nat (j := 0) hv8, td, _, _, _, rfl, rfl, htd8, atI_nat (j := 0) rfl, _, rfl, Dd, ws, _, _, rfl, rfl, SqL.of hD8, atI_nat (j := 0) hv8, td, _, _, _, rfl, rfl, htd8, atI_nat (j := 1) rfl, ?_⟩
      refine ⟨_, rfl, _, e :: ptsU e u', rfl, ⟨Dd, ws, rfl, SqL.of hD8, pw8⟩, (by rw [List.length_cons, ptsU_len]; omega), fun wl2 H9 e9 hw2 => ?_⟩
      rw [legs1_pts e u' hon'] at hw2
      refine fun bx dx2 nx2 ndx2 ne2 => mk_at nx2 ndx2 ne2 hw2.sq okB.len okB.pos (by rw [merged_idem]; exact okB.wide) fun H10 e10 LB => ?_
      rw [merged_idem] at LB
      have LB' : Ln K C H10 (.ref bx) (lnU e u') := LB
      have E8t : Same H8 H10 := Same.trans e9 e10
      have E4t : Same H6 H10 := Same.trans E68 E8t
      have LA10 := LA'.same E8t
      have hfl10 := E4t _ _ hfl6
      have hD10 := E4t _ _ hD
      have hz10 := Prs.same E4t hz6
      have pw10 := Prs.same E4t pw
      have st10 := st6.same E4t
      have ex10 : Ex r H H10 := ex4.trans (Ex.of (Same.trans E46 E4t))
      have t10 : LamX.Tabs T H10 := Tabs.same (Same.trans E46 E4t) t4
      refine ⟨(by show 2 ≤ sizeLine; decide), fun ta nta => ⟨ta, _, rfl, SqT.of upd_same, rfl, _, _, rfl, _, _, rfl, rfl, ?_⟩⟩
      have V1 : Same H10 (upd H10 ta (.tup [.ref ax, .ref bx])) := Same.new nta
      generalize upd H10 ta (.tup [.ref ax, .ref bx]) = J0 at *
      -- shown
      have smA := okA.sm
      have smB := okB.sm
      have tiA := merged_ti hon hsp (by omega)
      have tiB := merged_ti hon' hsp' (by omega)
      have txA : (lnU c0 u).text.length ≤ 80 := LD.tight (by have := (hbd c0 List.mem_cons_self).1; show c0.1.natAbs < _; omega) (by have := (hbd c0 List.mem_cons_self).2; show c0.2.natAbs < _; omega) m3 fun q hq => (tiA q hq).2
      have txB : (lnU e u').text.length ≤ 80 := LD.tight (by show e.1.natAbs < _; omega) (by show e.2.natAbs < _; omega) m3' fun q hq => (tiB q hq).2
      have rl := rpTwo_len txA txB
      refine ⟨_, rfl, _, rfl, (by show 2 ≤ sizeLine; decide), fun lp nlp => ⟨lp, _, _, _, _, rfl, upd_same, (LA10.same V1).same (Same.new nlp), (LB'.same V1).same (Same.new nlp), smA, smB, rl, ?_⟩⟩
      have V2 : Same J0 (upd J0 lp (.lst [.ref ax, .ref bx])) := Same.new nlp
      generalize upd J0 lp (.lst [.ref ax, .ref bx]) = J1 at *
      have V12 : Same H10 J1 := Same.trans V1 V2
      have LAj := LA10.same V12
      have LBj := LB'.same V12
      have hflj := V12 _ _ hfl10
      have hDj := V12 _ _ hD10
      have hzj := Prs.same V12 hz10
      have pwj := Prs.same V12 pw10
      have stj := st10.same V12
      have exj : Ex r H J1 := ex10.trans (Ex.of V12)
      have tj : LamX.Tabs T J1 := Tabs.same V12 t10
      have hlast : (lnU c0 u).last = e := by rw [lnU_last c0 hon, hE]
      have eA : AddB (lnU c0 u) (lnU e u') = merged (u ++ u') := lnU_add c0 e hon hon'
      have honA := hon.app hon'
      have hspA : ∀ q ∈ u ++ u', -7 ≤ q.2 ∧ q.2 ≤ 7 := fun q hq => by
        rcases List.mem_append.mp hq with z | z
        · exact hsp q z
        · exact hsp' q z
      have m6 := merged_app_len hon hon'
      have tiS := merged_ti honA hspA (by rw [List.length_append]; omega)
      have smS : (lnU c0 (u ++ u')).small := lnU_small honA hspA (by omega) (by rw [List.length_append]; omega) (by have := (hbd c0 List.mem_cons_self).1; omega) (by have := (hbd c0 List.mem_cons_self).2; omega)
      -- the two turns
      refine ⟨2, rfl, (by decide), (by decide), ?_⟩
      refine for_range (lo := 0) (n := 2) (fun i σ H' => ∃ u6, σ = [some (.ref r), some (.ref fl), some (.ref f2), some (.ref sh), some (.ref Dd), some (.str (rpTwo (lnU c0 u) (lnU e u'))), u6, none, none, some (.ref ax), some (.ref bx), none, none] ∧ Ex r J1 H' ∧ St r H' ∧ LamX.Tabs T H') ⟨_, rfl, Ex.refl r J1, stj, tj⟩ ?_ ?_
      · rintro i σ Ha hi ⟨u6, rfl, exa, sta, tba⟩
        refine ⟨tba, fun Hb eNb tbb => ?_⟩
        have exb : Ex r J1 Hb := exa.trans (Ex.lam eNb)
        have stb := sta.lam eNb
        refine ⟨_, rfl, _, rfl, add_told LI.tx LI.is (LAj.ex exb stj) okA (LBj.ex exb stj) okB hlast.symm (by rw [eA]; exact fun q hq => ⟨(tiS q hq).1, smS.2.2.2 q hq⟩) (by rw [eA]; exact smS) fun l1 Hc sc nl1 hl1 => ?_⟩
        have exc : Ex r J1 Hc := exb.trans (Ex.of sc)
        have stc := stb.same sc
        refine ⟨_, rfl, _, rfl, 1, rfl, Dd, _, rfl, SqL.of (exc.lst hDj hDr), fun f3 n3 => ?_⟩
        rw [show (1 : Int) = ((1 : Nat) : Int) from rfl, cut_from]
        have W1 : Same Hc (upd Hc f3 (.lst (ws.drop 1))) := Same.new n3
        have g3 : upd Hc f3 (.lst (ws.drop 1)) f3 = some (.lst (ws.drop 1)) := upd_same
        generalize upd Hc f3 (.lst (ws.drop 1)) = Hd at *
        refine ⟨fl, f3, _, _, rfl, rfl, W1 _ _ (exc.lst hflj hflr), g3, (by rw [List.length_drop, sizeLine_eq]; omega), fun l3 nl3 => ?_⟩
        have W2 : Same Hd (upd Hd l3 (.lst (zs ++ ws.drop 1))) := Same.new nl3
        have g4 : upd Hd l3 (.lst (zs ++ ws.drop 1)) l3 = some (.lst (zs ++ ws.drop 1)) := upd_same
        generalize upd Hd l3 (.lst (zs ++ ws.drop 1)) = He at *
        have W12 := Same.trans W1 W2
        have pAll : Prs K He (zs ++ ws.drop 1) (c0 :: ptsU c0 (u ++ u')) := by
          have h1 := Prs.same W12 (Prs.ex exc stj hzj)
          have h2 := Prs.drop 1 (Prs.same W12 (Prs.ex exc stj pwj))
          have h3 := h1.app h2
          rw [ptsU_append, hE]
          exact h3
        refine ⟨.ref l3, c0, ptsU c0 (u ++ u'), rfl, ⟨l3, _, rfl, SqL.of g4, pAll⟩, (by rw [ptsU_len, List.length_append]; omega), (by rw [legs1_pts c0 _ honA]; exact smS), fun l2 Hf sf nl2 hl2 => ?_⟩
        rw [legs1_pts c0 _ honA] at hl2
        rw [eA] at hl1
        refine tb_ne (sf _ _ (W12 _ _ hl1)) hl2 (due_tb _) ⟨false, rfl, ?_⟩
        refine iteF ?_
        have Wf : Same Hc Hf := Same.trans W12 sf
        exact ⟨_, rfl, exc.trans (Ex.of Wf), stc.same Wf, Tabs.same Wf (Tabs.same sc tbb)⟩
      · rintro σ Ha ⟨u6, rfl, exa, sta, tba⟩
        have LBa := LBj.ex exa stj
        -- the odd ones
        obtain ⟨b0, bd0, blg, bcn, bla, blo, bhi, eb, gb, _, _⟩ := id LBa
        cases eb
        refine ⟨_, rfl, bx, bd0, _, rfl, gb, lnF_later, .ref bx, 1, _, rfl, LBa, okB, fun y1 Hb sb L1 => ?_⟩
        refine ⟨_, rfl, bx, bd0, _, rfl, sb _ _ gb, lnF_moved, _, rfl, .ref bx, -1, _, rfl, LBa.same sb, okB, fun y2 Hc sc L2 => ?_⟩
        have sbc := Same.trans sb sc
        refine ⟨_, rfl, bx, bd0, _, rfl, sbc _ _ gb, lnF_later, _, rfl, .ref bx, -1, _, rfl, LBa.same sbc, okB, fun y3 Hd sd L3 => ?_⟩
        have sbd := Same.trans sbc sd
        refine ⟨(by show 3 ≤ sizeLine; decide), fun sl nsl => ?_⟩
        have W1 : Same Hd (upd Hd sl (.lst [y1, y2, y3])) := Same.new nsl
        have g1 : upd Hd sl (.lst [y1, y2, y3]) sl = some (.lst [y1, y2, y3]) := upd_same
        generalize upd Hd sl (.lst [y1, y2, y3]) = G1 at *
        refine ⟨_, rfl, _, rfl, (by show 2 ≤ sizeLine; decide), fun z0 nz0 => ?_⟩
        have W2 : Same G1 (upd G1 z0 (.tup [.int 0, .int 0])) := Same.new nz0
        have g2 : upd G1 z0 (.tup [.int 0, .int 0]) z0 = some (.tup [.int 0, .int 0]) := upd_same
        generalize upd G1 z0 (.tup [.int 0, .int 0]) = G2 at *
        have s02 : Same Ha G2 := Same.trans sbd (Same.trans W1 W2)
        refine ⟨_, rfl, _, _, rfl, .line (LBa.same s02) smB, Nat.zero_le _, fun z1 nz1 => ?_⟩
        have W3 : Same G2 (upd G2 z1 (.lst [])) := Same.new nz1
        have g3 : upd G2 z1 (.lst []) z1 = some (.lst []) := upd_same
        have z1r : z1 ≠ r := (sta.same s02).fresh nz1
        generalize upd G2 z1 (.lst []) = G3 at *
        refine ⟨(by show 6 ≤ sizeLine; decide), fun z2 nz2 => ?_⟩
        have W4 : Same G3 (upd G3 z2 (.lst [.non, .int 0, .ref z0, .str (lnU e u').text, .bl true, .ref z1])) := Same.new nz2
        have g4 : upd G3 z2 (.lst [.non, .int 0, .ref z0, .str (lnU e u').text, .bl true, .ref z1]) z2 = some (.lst [.non, .int 0, .ref z0, .str (lnU e u').text, .bl true, .ref z1]) := upd_same
        generalize upd G3 z2 (.lst [.non, .int 0, .ref z0, .str (lnU e u').text, .bl true, .ref z1]) = G4 at *
        refine ⟨sl, z2, _, _, rfl, rfl, W4 _ _ (W3 _ _ (W2 _ _ g1)), g4, (by show 9 ≤ sizeLine; decide), fun z3 nz3 => ?_⟩
        have W5 : Same G4 (upd G4 z3 (.lst ([y1, y2, y3] ++ [.non, .int 0, .ref z0, .str (lnU e u').text, .bl true, .ref z1]))) := Same.new nz3
        have g5' : upd G4 z3 (.lst ([y1, y2, y3] ++ [.non, .int 0, .ref z0, .str (lnU e u').text, .bl true, .ref z1])) z3 = some (.lst ([y1, y2, y3] ++ [.non, .int 0, .ref z0, .str (lnU e u').text, .bl true, .ref z1])) := upd_same
        generalize upd G4 z3 (.lst ([y1, y2, y3] ++ [.non, .int 0, .ref z0, .str (lnU e u').text, .bl true, .ref z1])) = G5 at *
        have s35 : Same G2 G5 := Same.trans W3 (Same.trans W4 W5)
        have s05 : Same Ha G5 := Same.trans s02 s35
        have st5' := sta.same s05
        have z3r : z3 ≠ r := (sta.same (Same.trans s02 (Same.trans W3 W4))).fresh nz3
        have sdG : Same Hd G5 := Same.trans W1 (Same.trans W2 s35)
        refine ⟨r, z3, _, rfl, st5', g5', z3r, (by show 1 ≤ 9; decide), (by show 9 < 1000; decide), fun i far Hx hi ox stx => ?_⟩
        have exx : Ex r Ha Hx := (Ex.of s05).trans (Ex.off ox)
        obtain ⟨tx, hfar⟩ : ∃ tx, FarC K C r e G5 far tx := by
          have hm := List.mem_of_getElem? hi
          simp only [List.cons_append, List.nil_append, List.mem_cons, List.not_mem_nil, or_false] at hm
          have smL : SmL (lnU e u').legs := smB.2.2
          rcases hm with h | h | h | h | h | h | h | h | h
          · rw [h]
            exact ⟨_, .line (L1.same (Same.trans sc (Same.trans sd sdG))) ⟨by show (e.1 + 1).natAbs < _; omega, by show e.2.natAbs < _; omega, smL⟩ (fun z => by have := congrArg Prod.fst z; have h2 : e.1 + 1 = e.1 := this; omega)⟩
          · rw [h]
            exact ⟨_, .line (L2.same (Same.trans sd sdG)) ⟨by show e.1.natAbs < _; omega, by show (e.2 + -1).natAbs < _; omega, smL⟩ (fun z => by have := congrArg Prod.snd z; have h2 : e.2 + -1 = e.2 := this; omega)⟩
          · rw [h]
            exact ⟨_, .line (L3.same sdG) ⟨by show (e.1 + -1).natAbs < _; omega, by show e.2.natAbs < _; omega, smL⟩ (fun z => by have := congrArg Prod.fst z; have h2 : e.1 + -1 = e.1 := this; omega)⟩
          · rw [h]
            exact ⟨_, .non⟩
          · rw [h]
            exact ⟨_, .zero⟩
          · rw [h]
            exact ⟨_, .tup (Same.seqT s35 (SqT.of g2))⟩
          · rw [h]
            exact ⟨_, .str txB (ok_text _)⟩
          · rw [h]
            exact ⟨_, .one⟩
          · rw [h]
            exact ⟨_, .lst z1r ((Same.trans W4 W5) _ _ g3)⟩
        have tbx : LamX.Tabs T Hx := Tabs.off ox st5' (Tabs.same s05 tba)
        -- told of what does not fit
        refine ⟨tbx, fun Hy eNy tby => ?_⟩
        have exy : Ex r G5 Hy := (Ex.off ox).trans (Ex.lam eNy)
        have sty := stx.lam eNy
        have fary := hfar.ex exy st5'
        have exay : Ex r J1 Hy := exa.trans (exx.trans (Ex.lam eNy))
        refine ⟨_, rfl, _, rfl, add_odd LI.tx LI.is LI.addT (LAj.ex exay stj) okA (FarC.no hlast.symm fary) (fun H' e' => (fary.ex (Ex.of e') sty).rp) fun l1 Hz sz nl1 hl1 => ?_⟩
        refine ⟨_, rfl, _, _, rfl, (fary.ex (Ex.of sz) sty).rp, (by show 3 ≤ sizeLine; decide), fun l2 nl2 => ?_⟩
        have W6 := Same.new (o := .lst [.str "line value", .str tx, .bl true]) nl2
        refine tb_ne (W6 _ _ hl1) upd_same (val_tb fary.tok) ⟨false, rfl, ?_⟩
        refine iteF ?_
        have s6' : Same Hy (upd Hz l2 (.lst [.str "line value", .str tx, .bl true])) := Same.trans sz W6
        have ex6 : Ex r J1 (upd Hz l2 (.lst [.str "line value", .str tx, .bl true])) := exay.trans (Ex.of s6')
        have st6' := sty.same s6'
        have tb6 := Tabs.same s6' tby
        generalize upd Hz l2 (.lst [.str "line value", .str tx, .bl true]) = K6 at *
        refine ⟨_, rfl, _, rfl, (by show 2 ≤ sizeLine; decide), fun lq nlq => ⟨lq, _, _, _, _, rfl, upd_same, (LAj.ex ex6 stj).same (Same.new nlq), (LBj.ex ex6 stj).same (Same.new nlq), smA, smB, rl, ?_⟩⟩
        have W7 := Same.new (o := .lst [.ref ax, .ref bx]) nlq
        refine ⟨_, rfl, rfl, ?_⟩
        show Q (.bl (decide (V.str (rpTwo (lnU c0 u) (lnU e u')) = V.str (rpTwo (lnU c0 u) (lnU e u'))))) _
        rw [decide_eq_true rfl]
        exact q _ (exj.trans (ex6.trans (Ex.of W7))) (st6'.same W7) (Tabs.same W7 tb6)

end
end KX
end
section
set_option Elab.async false
set_option linter.all false
set_option maxRecDepth 100000
set_option maxHeartbeats 4000000
/-! E11: _law_great_right. -/
namespace KX
open PySem PySem.Spec PyProof.Rows L2
section
variable {K : PySem.W.Frag} {H H' : Hp} {v : V} {p : P2} {ps : List P2} {xs : List V} {a : Addr}
theorem lamL (e : LamX.ExtN H H') (h : H a = some (.lst xs)) : H' a = some (.lst xs) := e a _ h (fun ps z => by cases z)
theorem SqT.lam (e : LamX.ExtN H H') (h : SqT K H a xs) : SqT K H' a xs := by
  rcases h with (h | ⟨o, h⟩) | h
  · exact .inl (.inl (e _ _ h (fun ps z => by cases z)))
  · exact .inl (.inr ⟨o, e _ _ h (fun ps z => by cases z)⟩)
  · exact .inr h
theorem SqL.lam (e : LamX.ExtN H H') (h : SqL K H a xs) : SqL K H' a xs := by
  rcases h with (h | ⟨o, h⟩) | h
  · exact .inl (.inl (e _ _ h (fun ps z => by cases z)))
  · exact .inl (.inr ⟨o, e _ _ h (fun ps z => by cases z)⟩)
  · exact .inr h
theorem Prs.lam (e : LamX.ExtN H H') (h : Prs K H xs ps) : Prs K H' xs ps := L2.Paired.mapP h fun _ _ ⟨t, e1, q⟩ => ⟨t, e1, SqT.lam e q⟩
theorem Ln.lam {C : Addr} {l : LD} (e : LamX.ExtN H H') (h : Ln K C H v l) : Ln K C H' v l := by
  obtain ⟨a, dx, lg, cn, la, lo, hi, h1, h2, ⟨ta, ts, e3, h3, h4⟩, ⟨ca, cs, e5, h5, h6⟩⟩ := h
  exact ⟨a, dx, lg, cn, la, lo, hi, h1, e _ _ h2 (fun ps z => by cases z), ⟨ta, ts, e3, SqT.lam e h3, Prs.lam e h4⟩, ⟨ca, cs, e5, SqL.lam e h5, Prs.lam e h6⟩⟩
end
def eight : List P2 := [(0, 0), (1, 2), (2, 4), (3, 6), (4, 8), (5, 10), (6, 12), (7, 14)]
def six : List P2 := [(0, 0), (1, 1), (2, 4), (3, 9), (4, 16), (5, 25)]
theorem eight_take : ∀ i : Nat, i < 8 → eight.take (i + 1) = eight.take i ++ [((0 : Int) + (i : Nat), (2 : Int) * ((0 : Int) + (i : Nat)))] := by decide +kernel
theorem six_take : ∀ i : Nat, i < 6 → six.take (i + 1) = six.take i ++ [((0 : Int) + (i : Nat), ((0 : Int) + (i : Nat)) * ((0 : Int) + (i : Nat)))] := by decide +kernel
section
variable {K : PySem.W.Frag} {H : Hp} {Q : VK} {a b c d : Option V}
theorem lc_eight (K : PySem.W.Frag) (q : ∀ D zs H', Same H H' → H D = none → H' D = some (.lst zs) → Prs K H' zs eight → Q (.ref D) H') :
    tLc (iRng1 (tCons (tC (V.int 8)) tNil)) (gName 3) tYes (tTup (tCons (tVar 3) (tCons (tOp (rI CMul fun i j => V.int (i * j)) (tC (V.int 2)) (tVar 3)) tNil))) [3] [a, b, c, d] H Q := by
  refine ⟨8, rfl, (by decide), (by decide), fun D nD => ?_⟩
  refine lc_range (lo := 0) (n := 8) (fun i H' => Same H H' ∧ ∃ zs, H' D = some (.lst zs) ∧ Prs K H' zs (eight.take i)) ⟨Same.new nD, [], upd_same, .nil⟩ ?_ ?_
  · rintro i H2 hi ⟨s2, zs, hD, pz⟩
    refine ⟨rfl, ?_⟩
    refine ⟨_, rfl, _, rfl, _, _, rfl, rfl, .inl ⟨by decide, by decide⟩, (by show 2 ≤ sizeLine; decide), fun t nt => ?_⟩
    have hzl := Prs.length pz
    rw [List.length_take] at hzl
    have hD2 := Same.new (o := .tup [.int ((0 : Int) + (i : Nat)), .int (2 * ((0 : Int) + (i : Nat)))]) nt _ _ hD
    refine ⟨zs, hD2, (by rw [sizeLine_eq]; omega), Same.wr (Same.then s2 nt) nD, _, upd_same, ?_⟩
    rw [eight_take i hi]
    exact Prs.snoc ((Prs.same (Same.new nt) pz).lst hD2) ((Pr.new upd_same).lst hD2)
  · rintro H2 ⟨s2, zs, hD, pz⟩
    exact q D zs H2 s2 nD hD pz
theorem lc_six (K : PySem.W.Frag) (q : ∀ D zs H', Same H H' → H D = none → H' D = some (.lst zs) → Prs K H' zs six → Q (.ref D) H') :
    tLc (iRng1 (tCons (tC (V.int 6)) tNil)) (gName 3) tYes (tTup (tCons (tVar 3) (tCons (tOp (rI CMul fun i j => V.int (i * j)) (tVar 3) (tVar 3)) tNil))) [3] [a, b, c, d] H Q := by
  refine ⟨6, rfl, (by decide), (by decide), fun D nD => ?_⟩
  refine lc_range (lo := 0) (n := 6) (fun i H' => Same H H' ∧ ∃ zs, H' D = some (.lst zs) ∧ Prs K H' zs (six.take i)) ⟨Same.new nD, [], upd_same, .nil⟩ ?_ ?_
  · rintro i H2 hi ⟨s2, zs, hD, pz⟩
    refine ⟨rfl, ?_⟩
    refine ⟨_, rfl, _, rfl, _, rfl, _, _, rfl, rfl, .inl ⟨by omega, by omega⟩, (by show 2 ≤ sizeLine; decide), fun t nt => ?_⟩
    have hzl := Prs.length pz
    rw [List.length_take] at hzl
    have hD2 := Same.new (o := .tup [.int ((0 : Int) + (i : Nat)), .int (((0 : Int) + (i : Nat)) * ((0 : Int) + (i : Nat)))]) nt _ _ hD
    refine ⟨zs, hD2, (by rw [sizeLine_eq]; omega), Same.wr (Same.then s2 nt) nD, _, upd_same, ?_⟩
    rw [six_take i hi]
    exact Prs.snoc ((Prs.same (Same.new nt) pz).lst hD2) ((Pr.new upd_same).lst hD2)
  · rintro H2 ⟨s2, zs, hD, pz⟩
    exact q D zs H2 s2 nD hD pz
end
theorem thB8 : ThB eight = [(7, 2)] := by decide +kernel
theorem thB6 : ThB six = [(1, 1), (1, 3), (1, 5), (1, 7), (1, 9)] := by decide +kernel
theorem text8 : (⟨0, 0, [(7, 2)]⟩ : LD).text = ("Line(0, 0, ((7, 2),))" : Str) := by decide +kernel
theorem text6 : ((toString ((6 : Nat) : Int) : String) : Str) = ("6" : Str) := by decide +kernel
theorem jd_of : ∀ {ps : List P2}, (ps.zip (ps.drop 1)).all (fun z => areJ z.1 z.2) = true → Jd ps := fun {ps} h i p q h1 h2 => by
  rw [List.all_eq_true] at h
  refine h (p, q) (List.mem_of_getElem? (i := i) ?_)
  rw [List.getElem?_zip_eq_some]
  exact ⟨h1, by rw [List.getElem?_drop, Nat.add_comm]; exact h2⟩
section
variable {P : Program} {w : World} {K : PySem.W.Frag} {mg : Str → Option Value} {base : Heap}
abbrev sGR : Stmt := top 40
abbrev nGR : List Str := ["_law_some", "_law_one", "_law_other", "_law_k"]
abbrev scLam : Scope := { kind := .function, names := [("_law_through", .globalImplicit), ("range", .globalImplicit)], isGenerator := false, isCoroutine := false, more := [("fast", .str "_law_k")] }
theorem scGR : FnScope nGR [] (defScope sGR) := ⟨rfl, rfl, rfl, by decide +kernel, rfl, by decide +kernel, by decide +kernel⟩
def spGR (T : List (Addr × Str)) : Sp := fun vs H Q _ => vs = [] ∧ LamX.Tabs T H ∧ ∀ H', LamX.Tabs T H' → Q (.bl true) H'
theorem ok_gr {C CLg CLn c PT : Addr} {T : List (Addr × Str)} (LI : LiF P w K mg base C CLg CLn) (D : DeL K mg "_law_great_right" sGR [] c) (LF : LamF base mg T "_law_great_right" c PT) (TF : TldF P w K mg base C CLg CLn) (FT : LthF P w K mg base C CLg) :
    CalG P w K mg base 16 "_law_great_right" (spGR T) := by
  obtain ⟨fA, fdA, AF, FA, bA⟩ := LI.add
  obtain ⟨T0, M2, hT0⟩ := LI.mk2
  obtain ⟨fT, fdT, FnT, mgT, kT, bT⟩ := FT.ex
  obtain ⟨fR, rok, ra, rf⟩ := TF.re.ex
  have B := LI.bi
  refine D.calG scGR (fun vs H Q E h => ?_) (fun f A outer s H vs Q E gd hr h => ?_)
  · obtain ⟨rfl, _⟩ := h
    rfl
  · obtain ⟨rfl, tt, q⟩ := h
    have rp : RpF (cxOf CX0 P w K mg base nGR "_law_great_right" (defScope sGR) f (.ref c) A outer s H E).nox C fR := ⟨gd, by have := hr.dp; show (A.deeper _).depth + 5 < _; omega, by have := hr.un; show (A.deeper _).units + 100 < _; omega, rok, ra, rf⟩
    refine ⟨_, (pss_cons (ps_if (pt_cmpR (op_neD hr.units) (pe_told (k := 9) (t := fun E => tCall (spLThr K C CLg) [] E (tCons (tLc _ (gName 3) tYes (tTup (tCons (tVar 3) (tCons (tOp _ (tC (.int 2)) (tVar 3)) tNil))) [3]) tNil)) TF gd (hr.mono (by decide)) rfl LF rfl rfl (LamX.lamS_by (sc := defScope sGR) (by decide +kernel)) rfl (fun _ _ _ _ _ => rfl) (fun A outer s H E f c' hr2 => pe_call FnT (hr2.mono (by decide)) rfl mgT kT bT .nil (passes_call (takes_of rfl rfl rfl rfl) fun _ _ _ _ z => z) (pa_cons (pe_lc (g := gName 3) (own := [("_law_k", 3)]) rfl scGR.nd (pi_range1 rfl B.range (pa_cons pe_int pa_nil)) (blkOk_by (N := nGR) (sc := scLam) (by decide +kernel)) (fun _ _ _ _ _ => pg_name (i := 3) scGR.nd rfl (Or.inl rfl) (.inr rfl)) (fun _ _ _ _ _ => pts_nil) (fun _ _ _ _ _ => (pe_tup (pa_cons (pv 3) (pa_cons (pe_op op_mul pe_int (pv 3)) pa_nil))))) pa_nil))) (pe_lst (pa_cons pe_str (pa_cons pe_str pa_nil))) (nomark _)) (pss_one (ps_ret pe_bl)) pss_nil)
      (pss_cons (ps_set (i := 0) scGR.nd rfl (Or.inr rfl) (pe_lc (g := gName 3) (own := [("_law_k", 3)]) rfl scGR.nd (pi_range1 rfl B.range (pa_cons pe_int pa_nil)) (blkOk_by (N := nGR) (sc := defScope sGR) (by decide +kernel)) (fun _ _ _ _ _ => pg_name (i := 3) scGR.nd rfl (Or.inl rfl) (.inr rfl)) (fun _ _ _ _ _ => pts_nil) (fun _ _ _ _ _ => (pe_tup (pa_cons (pv 3) (pa_cons (pe_op op_mul (pv 3) (pv 3)) pa_nil))))))
      (pss_cons (ps_if (pt_cmpR (op_neD hr.units) (pe_told (k := 9) (t := fun E => tCall (spLThr K C CLg) [] E (tCons (tVar 0) tNil)) TF gd (hr.mono (by decide)) rfl LF rfl rfl (LamX.lamS_by (sc := defScope sGR) (by decide +kernel)) rfl (fun _ _ _ _ _ => rfl) (fun A outer s H E f c' hr2 => pe_call FnT (hr2.mono (by decide)) rfl mgT kT bT .nil (passes_call (takes_of rfl rfl rfl rfl) fun _ _ _ _ z => z) (pa_cons (pv 0) pa_nil))) (pe_lst (pa_cons pe_str (pa_cons pe_str (pa_cons pe_bl pa_nil)))) (nomark _)) (pss_one (ps_ret pe_bl)) pss_nil)
      (pss_cons (ps_if (pt_cmpR (op_neD hr.units) (pe_told (k := 9) (t := fun E => tCall (spLThr K C CLg) [] E (tCons (tOp rCat (tVar 0) (tLst (tCons (tC .non) tNil))) tNil)) TF gd (hr.mono (by decide)) rfl LF rfl rfl (LamX.lamS_by (sc := defScope sGR) (by decide +kernel)) rfl (fun _ _ _ _ _ => rfl) (fun A outer s H E f c' hr2 => pe_call FnT (hr2.mono (by decide)) rfl mgT kT bT .nil (passes_call (takes_of rfl rfl rfl rfl) fun _ _ _ _ z => z) (pa_cons (pe_op op_cat (pv 0) (pe_lst (pa_cons pe_non pa_nil))) pa_nil))) (pe_lst (pa_cons pe_str (pa_cons pe_str (pa_cons pe_bl pa_nil)))) (nomark _)) (pss_one (ps_ret pe_bl)) pss_nil)
      (pss_cons (ps_asg (pe_tup (pa_cons (C8.pe_mk M2 hr (by decide) rfl (pa_cons pe_int (pa_cons pe_int pa_nil))) (pa_cons (C8.pe_mk M2 hr (by decide) rfl (pa_cons pe_int (pa_cons pe_int pa_nil))) pa_nil))) (pg_tup rfl (pgs_cons (pg_name (i := 1) scGR.nd rfl (Or.inr rfl)) (pgs_cons (pg_name (i := 2) scGR.nd rfl (Or.inr rfl)) pgs_nil))))
      (pss_cons (ps_if (pt_cmpR (op_neD hr.units) (pe_told (k := 9) (t := fun E => tOp (rAddO K C (spAdd K C CLg CLn) E) (tVar 1) (tVar 2)) TF gd (hr.mono (by decide)) rfl LF rfl rfl (LamX.lamS_by (sc := defScope sGR) (by decide +kernel)) rfl (fun _ _ _ _ _ => rfl) (fun A outer s H E f c' hr2 => pe_op (op_addO AF FA bA (hr2.mono (by decide)) (passes_call (takes_of rfl rfl rfl rfl) fun _ _ _ _ z => z)) (pv 1) (pv 2))) (pe_lst (pa_cons pe_str (pa_cons (pe_callB (call_rpK K rfl rp) (by rfl) B.repr boot_rp (pa_cons (pv 2) pa_nil)) (pa_cons pe_bl pa_nil)))) (nomark _)) (pss_one (ps_ret pe_bl)) pss_nil)
      (pss_one (ps_ret (pe_cmpR (op_eqD hr.units) (pe_told (k := 9) (t := fun E => tCall (spLThr K C CLg) [] E (tCons (tLst tNil) tNil)) TF gd (hr.mono (by decide)) rfl LF rfl rfl (LamX.lamS_by (sc := defScope sGR) (by decide +kernel)) rfl (fun _ _ _ _ _ => rfl) (fun A outer s H E f c' hr2 => pe_call FnT (hr2.mono (by decide)) rfl mgT kT bT .nil (passes_call (takes_of rfl rfl rfl rfl) fun _ _ _ _ z => z) (pa_cons (pe_lst pa_nil) pa_nil))) (pe_lst (pa_cons pe_str (pa_cons pe_str (pa_cons pe_bl pa_nil)))) (nomark _)))))))))), ?_⟩
    -- eight corners on one leg
    refine ⟨tt, fun H1 e1 t1 => ?_⟩
    unfold TTold
    show tCall _ _ _ _ _ _ _
    show tCons _ _ _ _ _
    show tLc (iRng1 (tCons (tC (V.int 8)) tNil)) (gName 3) tYes (tTup (tCons (tVar 3) (tCons (tOp (rI CMul fun i j => V.int (i * j)) (tC (V.int 2)) (tVar 3)) tNil))) [3] [none, none, none, none] H1 _
    refine lc_eight K fun D zs H2 s2 nD hD pz => ?_
    refine ⟨D, zs, rfl, SqL.of hD, (by rw [Prs.length pz]; decide), th_good (c := (0, 0)) (ps := eight.tail) pz (jd_of (by decide +kernel)) (by decide +kernel) (fun q hq => by rw [show ThB ((0, 0) :: eight.tail) = [(7, 2)] from thB8] at hq; rw [List.mem_singleton.mp hq]; decide) (by
      rw [show ThB ((0, 0) :: eight.tail) = [(7, 2)] from thB8]
      exact ⟨by show (0 : Int).natAbs < _; decide, by show (0 : Int).natAbs < _; decide, by show 1 ≤ 8; decide, fun q hq => by rw [List.mem_singleton.mp hq]; exact ⟨by show (7 : Int).natAbs < _; decide, by show (2 : Int).natAbs < _; decide⟩⟩) fun l1 H3 s3 nl1 hl1 => ?_⟩
    rw [show ThB ((0, 0) :: eight.tail) = [(7, 2)] from thB8, dueV_line (by show ¬ 3 < 1; decide), text8] at hl1
    refine ⟨(by show 2 ≤ sizeLine; decide), fun l2 nl2 => ?_⟩
    have W1 := Same.new (o := .lst [.str "line", .str "Line(0, 0, ((7, 2),))"]) nl2
    refine tb_ne (W1 _ _ hl1) upd_same (by decide +kernel) ⟨false, rfl, ?_⟩
    refine iteF ?_
    have t4 := Tabs.same (Same.trans s2 (Same.trans s3 W1)) t1
    generalize upd H3 l2 (.lst [.str "line", .str "Line(0, 0, ((7, 2),))"]) = H4 at *
    -- six corners, five legs
    unfold tNext
    dsimp only
    unfold tSeq
    dsimp only
    unfold tAsg
    dsimp only
    show tLc (iRng1 (tCons (tC (V.int 6)) tNil)) (gName 3) tYes (tTup (tCons (tVar 3) (tCons (tOp (rI CMul fun i j => V.int (i * j)) (tVar 3) (tVar 3)) tNil))) [3] [none, none, none, none] H4 _
    refine lc_six K fun D2 zs2 H5 s5 nD2 hD2 pz2 => ?_
    have t5 := Tabs.same s5 t4
    have jd6 : Jd six := jd_of (by decide +kernel)
    refine ⟨t5, fun H6 e6 t6 => ?_⟩
    have hD6 := lamL e6 hD2
    have pz6 := Prs.lam e6 pz2
    refine ⟨_, rfl, D2, zs2, rfl, SqL.of hD6, (by rw [Prs.length pz6]; decide), th_good (c := (0, 0)) (ps := six.tail) pz6 jd6 (by decide +kernel) (fun q hq => by rw [show ThB ((0, 0) :: six.tail) = _ from thB6] at hq; revert q; decide) (by
      rw [show ThB ((0, 0) :: six.tail) = _ from thB6]
      exact ⟨by show (0 : Int).natAbs < _; decide, by show (0 : Int).natAbs < _; decide, by show 5 ≤ 8; decide, by show ∀ p ∈ [((1 : Int), (1 : Int)), (1, 3), (1, 5), (1, 7), (1, 9)], p.1.natAbs < 10 ^ 9 ∧ p.2.natAbs < 10 ^ 9; decide⟩) fun l1 H7 s7 nl1 hl1 => ?_⟩
    rw [show ThB ((0, 0) :: six.tail) = _ from thB6, dueV_bad (by show 3 < 5; decide)] at hl1
    refine ⟨(by show 3 ≤ sizeLine; decide), fun l2 nl2 => ?_⟩
    have W2 := Same.new (o := .lst [.str "legs", .str "None", .bl true]) nl2
    refine tb_ne (W2 _ _ hl1) upd_same (by decide +kernel) ⟨false, rfl, ?_⟩
    refine iteF ?_
    have s8 := Same.trans s7 W2
    have t8 := Tabs.same s8 t6
    have hD8 := s8 _ _ hD6
    have pz8 := Prs.same s8 pz6
    clear hl1
    generalize upd H7 l2 (.lst [.str "legs", .str "None", .bl true]) = H8 at *
    -- one that is wrong, behind five legs
    refine ⟨t8, fun H9 e9 t9 => ?_⟩
    refine ⟨_, rfl, (by show 1 ≤ sizeLine; decide), fun m1 nm1 => ?_⟩
    have W3 := Same.new (o := .lst [.non]) nm1
    refine ⟨D2, m1, _, _, rfl, rfl, W3 _ _ (lamL e9 hD8), upd_same, (by rw [Prs.length pz8]; decide), fun m2 nm2 => ?_⟩
    have W4 := Same.new (o := .lst (zs2 ++ [.non])) nm2
    have hz6 : zs2.length = 6 := Prs.length pz8
    have pz9 := Prs.same (Same.trans W3 W4) (Prs.lam e9 pz8)
    refine ⟨m2, zs2 ++ [.non], rfl, SqL.of upd_same, (by rw [List.length_append, hz6]; decide), th_bad (i := 6) (by decide) ⟨six, .non, (by rw [List.take_append_of_le_length (by omega), List.take_of_length_le (by omega)]; exact pz9), rfl, jd6, (by rw [List.getElem?_append_right (by omega), hz6]; rfl), .inl (.flat .non)⟩ fun l1 H10 s10 nl1 hl1 => ?_⟩
    rw [text6] at hl1
    refine ⟨(by show 3 ≤ sizeLine; decide), fun l2 nl2 => ?_⟩
    have W5 := Same.new (o := .lst [.str "legs", .str "6", .bl true]) nl2
    refine tb_ne (W5 _ _ hl1) upd_same (by decide +kernel) ⟨false, rfl, ?_⟩
    refine iteF ?_
    have t11 := Tabs.same (Same.trans W3 (Same.trans W4 (Same.trans s10 W5))) t9
    clear hl1
    generalize upd H10 l2 (.lst [.str "legs", .str "6", .bl true]) = H11 at *
    -- moments
    refine fun x3 dx3 nx3 ndx3 ne3 => mk_at2 nx3 ndx3 ne3 hT0 fun H12 e12 LA => ?_
    refine fun x4 dx4 nx4 ndx4 ne4 => mk_at2 nx4 ndx4 ne4 hT0 fun H13 e13 LB => ?_
    refine ⟨(by show 2 ≤ sizeLine; decide), fun ta nta => ⟨ta, _, rfl, SqT.of upd_same, rfl, _, _, rfl, _, _, rfl, rfl, ?_⟩⟩
    have W6 := Same.new (o := .tup [.ref x3, .ref x4]) nta
    have t14 := Tabs.same (Same.trans e12 (Same.trans e13 W6)) t11
    have LA14 := (LA.same e13).same W6
    have LB14 := LB.same W6
    generalize upd H13 ta (.tup [.ref x3, .ref x4]) = H14 at *
    have ok1 : (⟨1, 2, []⟩ : LD).ok := lnU_ok (c := (1, 2)) (u := []) (fun q hq => by cases hq) (fun q hq => by cases hq) (Nat.zero_le _) (Nat.zero_le _) (by decide) (by decide)
    have ok2 : (⟨2, 2, []⟩ : LD).ok := lnU_ok (c := (2, 2)) (u := []) (fun q hq => by cases hq) (fun q hq => by cases hq) (Nat.zero_le _) (Nat.zero_le _) (by decide) (by decide)
    refine ⟨t14, fun H15 e15 t15 => ?_⟩
    have LB15 := LB14.lam e15
    refine ⟨_, rfl, _, rfl, add_odd LI.tx LI.is LI.addT (LA14.lam e15) ok1 (.inr ⟨_, LB15, by decide⟩) (fun H' e' => .line (LB15.same e') ok2.sm) fun l1 H16 s16 nl1 hl1 => ?_⟩
    refine ⟨_, rfl, _, _, rfl, .line (LB15.same s16) ok2.sm, (by show 3 ≤ sizeLine; decide), fun l2 nl2 => ?_⟩
    have W7 := Same.new (o := .lst [.str "line value", .str (⟨2, 2, []⟩ : LD).text, .bl true]) nl2
    refine tb_ne (W7 _ _ hl1) upd_same (val_tb (ok_text _)) ⟨false, rfl, ?_⟩
    refine iteF ?_
    have t17 := Tabs.same (Same.trans s16 W7) t15
    clear hl1
    generalize upd H16 l2 (.lst [.str "line value", .str (⟨2, 2, []⟩ : LD).text, .bl true]) = H17 at *
    -- none at all
    refine ⟨t17, fun H18 e18 t18 => ?_⟩
    refine ⟨Nat.zero_le _, fun m3 nm3 => ?_⟩
    have W8 := Same.new (o := .lst []) nm3
    refine ⟨m3, [], rfl, SqL.of upd_same, Nat.zero_le _, th_nil fun l1 H19 s19 nl1 hl1 => ?_⟩
    refine ⟨(by show 3 ≤ sizeLine; decide), fun l2 nl2 => ?_⟩
    have W9 := Same.new (o := .lst [.str "legs", .str "None", .bl true]) nl2
    refine tb_eq (W9 _ _ hl1) upd_same (by decide +kernel) ?_
    exact q _ (Tabs.same (Same.trans W8 (Same.trans s19 W9)) t18)

end
end KX
end
section
set_option Elab.async false
set_option linter.all false
set_option maxRecDepth 100000
set_option maxHeartbeats 4000000
/-! E12: law. -/
namespace KX
open PySem PySem.Spec PyProof.Rows L2
section
variable {K : PySem.W.Frag} {H H' : Hp} {a r : Addr} {xs : List V}
theorem scr_new (h : SqL K H a xs) (n : H r = none) : (∀ H, SqL K H a xs) ∨ a ≠ r := by
  rcases h with (h | ⟨o, h⟩) | h
  · exact .inr (ne_of_none h n)
  · exact .inr (ne_of_none h n)
  · exact .inl fun _ => .inr h
theorem scr_ex (e : Ex r H H') (hr : St r H) (c : (∀ H, SqL K H a xs) ∨ a ≠ r) (h : SqL K H a xs) : SqL K H' a xs := by
  rcases c with c | c
  · exact c H'
  · rcases h with (h | ⟨o, h⟩) | h
    · exact .inl (.inl (e.lst h c))
    · exact .inl (.inr ⟨o, e _ _ c (fun ps z => by cases z) h⟩)
    · exact .inr h
end
section
variable {P : Program} {w : World} {K : PySem.W.Frag} {mg : Str → Option Value} {base : Heap}
abbrev sLaw : Stmt := top 41
abbrev nLaw : List Str := ["_law_script", "_law_k", "_law_rng_here", "_law_turn"]
theorem scLaw : FnScope nLaw ["_law_script"] (defScope sLaw) := ⟨rfl, rfl, rfl, by decide +kernel, rfl, by decide +kernel, by decide +kernel⟩
def spLaw (K : PySem.W.Frag) (T : List (Addr × Str)) : Sp := fun vs H Q _ => ∃ (a : Addr) (ns : List Int), vs = [.ref a] ∧ SqL K H a (ns.map V.int) ∧ ns.length ≤ 63 ∧ LamX.Tabs T H ∧ ∀ H', Q (.bl true) H'
theorem ok_law {T : List (Addr × Str)} {f : Addr} {fd : FuncData} (B : Bi mg) (F : Fun K "law" "law" sLaw f fd) (GN : Cal P w K mg base 1 "_law_rng" (spRng K) []) (GT : CalG P w K mg base 16 "_law_through_right" (spRt T)) (GJ : CalG P w K mg base 16 "_law_joined_right" (spRt T))
    (GC : CalG P w K mg base 16 "_law_cut_right" (spRt T)) (GS : CalG P w K mg base 16 "_law_stay_right" (spRt T)) (GG : CalG P w K mg base 16 "_law_great_right" (spGR T)) : FnG P w K mg base CX0 17 f fd ["_law_script"] (spLaw K T) := by
  refine okG F scLaw (fun vs H Q E h => ?_) (fun cdv A outer s H vs Q E gd hr h => ?_)
  · obtain ⟨a, ns, rfl, _⟩ := h
    rfl
  · obtain ⟨a, ns, rfl, hs, hlen, tt, q⟩ := h
    refine ⟨_, (pss_cons (ps_for PassesOwn.never rfl (pi_range1 rfl B.range (pa_cons (pe_callB (call_max2 rfl) (by rfl) B.max (by decide +kernel) (pa_cons pe_int (pa_cons (pe_callB (call_min2 rfl) (by rfl) B.min (by decide +kernel) (pa_cons pe_int (pa_cons (pe_callB call_len_seq (by rfl) B.len PySem.boot_len (pa_cons (pv 0) pa_nil)) pa_nil))) pa_nil))) pa_nil)) (pg_name (i := 1) scLaw.nd rfl (Or.inl rfl)) (pss_cons (ps_set (i := 2) scLaw.nd rfl (Or.inl rfl) (C8.pe_c GN hr (by decide) rfl (pa_cons (pv 0) (pa_cons (pv 1) pa_nil)))) (pss_one (ps_for PassesOwn.never rfl (pi_range1 rfl B.range (pa_cons pe_int pa_nil)) (pg_name (i := 3) scLaw.nd rfl (Or.inl rfl)) (pss_cons (ps_if (PW.pt (pw_or (pt_not (pt_val (pe_cG GT gd hr (by decide) rfl (pa_cons (pv 2) pa_nil)))) (pw_or1 (pt_not (pt_val (pe_cG GJ gd hr (by decide) rfl (pa_cons (pv 2) pa_nil))))))) (pss_one (ps_ret pe_bl)) pss_nil) (pss_one (ps_if (PW.pt (pw_or (pt_not (pt_val (pe_cG GC gd hr (by decide) rfl (pa_cons (pv 2) pa_nil)))) (pw_or1 (pt_not (pt_val (pe_cG GS gd hr (by decide) rfl (pa_cons (pv 2) pa_nil))))))) (pss_one (ps_ret pe_bl)) pss_nil)))))))
      (pss_one (ps_ret (pe_cG0 GG gd hr (by decide) rfl)))), ?_⟩
    refine ⟨_, rfl, a, _, rfl, .inl hs, _, _, rfl, _, _, rfl, _, rfl, ?_, ?_, ?_⟩
    · have h1 : ((ns.map V.int).length : Nat) ≤ 63 := by rw [List.length_map]; exact hlen
      split <;> split <;> omega
    · have h1 : ((ns.map V.int).length : Nat) ≤ 63 := by rw [List.length_map]; exact hlen
      split <;> split <;> omega
    have hN : (if (if ((ns.map V.int).length : Int) < 6 then ((ns.map V.int).length : Int) else 6) > 1 then (if ((ns.map V.int).length : Int) < 6 then ((ns.map V.int).length : Int) else 6) else 1).toNat ≤ 6 := by
      split <;> split <;> omega
    generalize (if (if ((ns.map V.int).length : Int) < 6 then ((ns.map V.int).length : Int) else 6) > 1 then (if ((ns.map V.int).length : Int) < 6 then ((ns.map V.int).length : Int) else 6) else 1).toNat = n at *
    refine for_range (lo := 0) (n := n) (fun i σ H' => ∃ u1 u2 u3, σ = [some (.ref a), u1, u2, u3] ∧ SqL K H' a (ns.map V.int) ∧ LamX.Tabs T H') ⟨_, _, _, rfl, hs, tt⟩ ?_ ?_
    · rintro i σ H1 hi ⟨u1, u2, u3, rfl, hs1, t1⟩
      refine ⟨_, rfl, _, rfl, a, ns, i, (by rw [Int.zero_add]; rfl), hs1, (by omega), (by omega), fun r H2 nr s2 st2 => ?_⟩
      have hc := scr_new hs1 nr
      have hs2 := s2.seq hs1
      have t2 := Tabs.same s2 t1
      refine ⟨3, rfl, (by decide), (by decide), ?_⟩
      refine for_range (lo := 0) (n := 3) (fun j σ H' => ∃ v3, σ = [some (.ref a), some (.int (0 + (i : Nat))), some (.ref r), v3] ∧ Ex r H2 H' ∧ St r H' ∧ LamX.Tabs T H') ⟨_, rfl, Ex.refl r H2, st2, t2⟩ ?_ ?_
      · rintro j σ H3 hj ⟨v3, rfl, ex3, st3, t3⟩
        refine ⟨_, rfl, r, rfl, st3, t3, fun H4 e4 st4 t4 => ⟨true, rfl, ?_⟩⟩
        refine ⟨_, rfl, r, rfl, st4, t4, fun H5 e5 st5 t5 => ⟨true, rfl, ?_⟩⟩
        refine iteF ?_
        refine ⟨_, rfl, r, rfl, st5, t5, fun H6 e6 st6 t6 => ⟨true, rfl, ?_⟩⟩
        refine ⟨_, rfl, r, rfl, st6, t6, fun H7 e7 st7 t7 => ⟨true, rfl, ?_⟩⟩
        refine iteF ?_
        exact ⟨_, rfl, ex3.trans (e4.trans (e5.trans (e6.trans e7))), st7, t7⟩
      · rintro σ H3 ⟨v3, rfl, ex3, st3, t3⟩
        exact ⟨_, _, _, rfl, scr_ex ex3 st2 hc hs2, t3⟩
    · rintro σ H1 ⟨u1, u2, u3, rfl, hs1, t1⟩
      exact ⟨rfl, t1, fun H' _ => q H'⟩

end
end KX
end
section
set_option Elab.async false
set_option linter.all false
set_option maxRecDepth 100000
set_option maxHeartbeats 4000000
/-! E13: the end: law is called by the claim's caller, no repr is under way there. -/
namespace KX
open PySem PySem.Spec PyProof.Rows L2
/-- what is tracked at the entry: the script, where the module does not hold it, and the tables -/
def entryH (K : PySem.W.Frag) (a : Addr) (o : Obj) (xs : List V) (ts : List Addr) : Hp := fun b =>
  if b = a then (if K.lookup a = none then some (.frz o (.lst xs)) else none) else if b ∈ ts then some (.tbl #[]) else none
theorem entryH_some {K : PySem.W.Frag} {a b : Addr} {o : Obj} {xs : List V} {ts : List Addr} {u : HO} (h : entryH K a o xs ts b = some u) :
    (b = a ∧ K.lookup a = none ∧ u = .frz o (.lst xs)) ∨ (b ≠ a ∧ b ∈ ts ∧ u = .tbl #[]) := by
  unfold entryH at h
  split at h
  · rename_i e
    split at h
    · rename_i e2
      exact .inl ⟨e, e2, (Option.some.inj h).symm⟩
    · cases h
  · rename_i e
    split at h
    · rename_i e2
      exact .inr ⟨e, e2, (Option.some.inj h).symm⟩
    · cases h
section
variable {P : Program} {w : World} {K : PySem.W.Frag} {mg mb : Str → Option Value} {k : Nat} {fa a : Addr} {cs : List (Addr × Addr)} {fd : FuncData} {x : Str} {sp : Sp} {s₁ : Shared} {vs : List Value} {ns : List Int}
theorem law_callG (hK : K.In s₁.heap) (hns : s₁.heap.Ns mainGlobals mg) (hb : s₁.heap.Ns builtinsNs mb) (hbb : ∀ x : Str, x ≠ "__name__" → mb x = bootBuiltins x) (hlim : s₁.heap.NoLimit) (hg : s₁.gens = #[])
    (hT : ∀ p ∈ cs, s₁.heap.get? p.2 = some { cls := .none, data := .fields #[] }) (nT : ∀ p ∈ cs, K.lookup p.2 = none) (C : ∀ p ∈ cs, PySem.W.CodeHd s₁.heap p.1 p.2)
    (hbm : ∃ (bm : Addr) (ob : Obj), mg "__builtins__" = some (.ref bm) ∧ bm ≠ builtinsNs ∧ s₁.heap.get? bm = some ob ∧ ob.cls = .type "module" ∧ ob.dict = some builtinsNs ∧ ob.data = .plain)
    (ha : s₁.heap.get? a = some { cls := .type "list", data := .seq vs.toArray }) (hi : IntsAre vs ns) (hl : ns.length ≤ sizeLine) (hr : Room k callerA)
    (F : ∀ base : Heap, K.In base → base.Ns mainGlobals mg → (∀ p ∈ cs, LamX.TabB base mg p.1 p.2) → FnG P w K mg base CX0 k fa fd [x] sp) (hbind : ∀ (s : Shared) (u : Value), BindsTo s fd ⟨[u], []⟩ [(x, u)])
    (hsp : ∀ H : Hp, (∀ p ∈ cs, H p.2 = some (.tbl #[])) → SqL K H a (ns.map V.int) → sp [.ref a] H (fun v _ => v = .bl true) fun _ _ _ => False) :
    codeAny (model P w) callerA (.call (.ref fa) ⟨[.ref a], []⟩) (fun r s' => r = .ok (.ret (.bool true)) ∧ OldK s₁.heap s'.heap ∧ s'.os = s₁.os ∧ AllBare s'.gens) s₁ := by
  have rv := vals_ints hi
  have lenV := hi.length
  generalize hob : ({ cls := .type "list", data := .seq vs.toArray } : Obj) = ob0 at ha
  have tab : ∀ b ∈ cs.map (·.2), s₁.heap.get? b = some { cls := .none, data := .fields #[] } := fun b hm => by
    obtain ⟨p, hp, rfl⟩ := List.mem_map.mp hm
    exact hT p hp
  have aT : ∀ p ∈ cs, p.2 ≠ a := fun p hp z => by
    have q := hT p hp
    rw [z, ha, ← hob] at q
    have z' : Data.seq vs.toArray _ = Data.fields #[] := congrArg Obj.data (Option.some.inj q)
    cases z'
  generalize hH : entryH K a ob0 (ns.map V.int) (cs.map (·.2)) = H
  have some_of : ∀ {b u}, H b = some u → (b = a ∧ K.lookup a = none ∧ u = .frz ob0 (.lst (ns.map V.int))) ∨ (b ≠ a ∧ b ∈ cs.map (·.2) ∧ u = .tbl #[]) := fun {b u} e => by
    rw [← hH] at e
    exact entryH_some e
  have hTab : ∀ p ∈ cs, H p.2 = some (.tbl #[]) := fun p hp => by
    rw [← hH]
    unfold entryH
    rw [if_neg (aT p hp), if_pos (List.mem_map.mpr ⟨p, hp, rfl⟩)]
  have hS : SqL K H a (ns.map V.int) := by
    cases hk : K.lookup a with
    | some o =>
      have e := hK a o hk
      rw [ha] at e
      cases e
      refine .inr ⟨ob0, vs.toArray, 0, hk, ?_, ?_, ?_, ?_, by simpa using rv⟩
      · rw [← hob]
      · rw [← hob]
      · rw [← hob]
      · rw [List.size_toArray, lenV]
        exact hl
    | none =>
      refine .inl (.inr ⟨ob0, ?_⟩)
      rw [← hH]
      unfold entryH
      rw [if_pos rfl, if_pos hk]
  have hok : HOk P w H s₁.heap := fun b u e => by
    rcases some_of e with ⟨rfl, _, rfl⟩ | ⟨_, hm, rfl⟩
    · exact ⟨ha, by rw [List.length_map]; exact hl, vs, _, rv, by rw [ha, ← hob]⟩
    · exact tab b hm
  -- what is neither a list nor an empty table is not tracked
  have free : ∀ {b : Addr} {o : Obj}, s₁.heap.get? b = some o → (∀ vs n, o.data ≠ .seq vs n) → o.data ≠ .fields #[] → H b = none := fun {b o} e h1 h2 => by
    cases q : H b with
    | none => rfl
    | some u =>
      rcases some_of q with ⟨rfl, _, _⟩ | ⟨_, hm, _⟩
      · rw [ha] at e
        cases e
        exact (h1 vs.toArray _ (by rw [← hob])).elim
      · rw [tab b hm] at e
        cases e
        exact (h2 rfl).elim
  have at_ : ∀ {b : Addr} {o : Obj}, s₁.heap.get? b = some o → (∀ vs n, o.data ≠ .seq vs n) → o.data ≠ .fields #[] → (hidT s₁.heap H).get? b = some o := fun e h1 h2 => hidT_get e (free e h1 h2)
  have nsK : ∀ {b : Addr} {m : Str → Option Value}, s₁.heap.Ns b m → (hidT s₁.heap H).Ns b m := fun {b m} ⟨o, es, ep, e, d, r⟩ =>
    ⟨o, es, ep, at_ e (fun vs n z => by rw [d] at z; cases z) (fun z => by rw [d] at z; cases z), d, r⟩
  have hKb : K.In (hidT s₁.heap H) := fun b o e => hidT_get (hK b o e) (by
    cases q : H b with
    | none => rfl
    | some u =>
      rcases some_of q with ⟨rfl, hk, _⟩ | ⟨_, hm, _⟩
      · rw [e] at hk
        cases hk
      · obtain ⟨p, hp, ep⟩ := List.mem_map.mp hm
        rw [← ep, nT p hp] at e
        cases e)
  have hM : L2.Mod K mg (hidT s₁.heap H) := ⟨hKb, nsK hns, ⟨mb, nsK hb, hbb⟩, let ⟨mc, h1, h2⟩ := hlim; ⟨mc, nsK h1, h2⟩⟩
  have TB : ∀ p ∈ cs, LamX.TabB (hidT s₁.heap H) mg p.1 p.2 := fun p hp => by
    have hTp := hT p hp
    have nG : p.2 ≠ mainGlobals := fun z => by
      obtain ⟨o, es, ep, e, hd, _⟩ := hns
      rw [← z, hTp] at e
      cases e
      cases hd
    constructor
    · obtain ⟨o, us, file, tf, flags, tg, inF, text, tt, e1, r1, r2, r3, r⟩ := C p hp
      exact ⟨o, us, file, tf, flags, tg, inF, text, tt, at_ e1 (fun vs n z => by rw [r2] at z; cases z) (fun z => by rw [r2] at z; cases z; simp at r3), r1, r2, r3, r⟩
    · obtain ⟨bm, om, b1, b2, b3, b4, b5, b6⟩ := hbm
      refine ⟨bm, om, b1, b2, fun q => ?_, fun q => ?_, at_ b3 (fun vs n z => by rw [b6] at z; cases z) (fun z => by rw [b6] at z; cases z), b4, b5, b6⟩
      · obtain ⟨o, es, ep, e, hd, _⟩ := hns
        rw [q, e] at b3
        cases b3
        rw [hd] at b6
        cases b6
      · rw [q, hTp] at b3
        cases b3
        cases b6
    · exact fun z => nG z.symm
  have e0 : Env0 P w K mg (hidT s₁.heap H) callerA [] s₁ H := ⟨rfl, hM, fun b o e => of_hidT e, Nat.le_of_eq (hidT_size _ _), trivial, fun b hm => absurd (show b ∈ ([] : List Addr) from hm) (by simp), hok, .of_eq hg⟩
  refine codeAny_mono ((F _ hKb (nsK hns) TB).run callerA [] s₁ H ⟨[.ref a], []⟩ [.ref a] [.ref a] _ _ rfl hr e0 (hbind s₁ (.ref a)) (.cons rfl .nil) (hsp H hTab hS)) fun r s' h => ?_
  match r, h with
  | .error e, h => exact False.elim h
  | .ok .next, h => exact False.elim h
  | .ok .brk, h => exact False.elim h
  | .ok .cont, h => exact False.elim h
  | .ok (.ret u), h =>
    obtain ⟨v, H', os, bare, un, hok', r', q⟩ := h
    have q' : v = .bl true := q
    subst q'
    obtain rfl : u = Value.bool true := r'
    have kept : ∀ b o, b ∉ cs.map (·.2) → s₁.heap.get? b = some o → s'.heap.get? b = some o := fun b o nb e => by
      cases q : H b with
      | none => exact un.keep b o e q (fun z => absurd (show b ∈ ([] : List Addr) from z) (by simp)) (by simp)
      | some u =>
        rcases some_of q with ⟨rfl, _, rfl⟩ | ⟨_, hm, _⟩
        · have e2 := (hok' b _ (un.frzs b ob0 _ q)).1
          rw [ha] at e
          cases e
          exact e2
        · exact absurd hm nb
    have grown : ∀ b ∈ cs.map (·.2), ∃ p ∈ cs, p.2 = b ∧ ∃ more : Array Value, s'.heap.get? b = some { cls := .none, data := .fields more } := fun b hm => by
      obtain ⟨p, hp, rfl⟩ := List.mem_map.mp hm
      obtain ⟨more, z⟩ := un.tbls p.2 #[] (hTab p hp)
      exact ⟨p, hp, rfl, _, hok' p.2 _ z⟩
    refine ⟨rfl, ⟨fun b o e => ?_, fun b o e => ?_⟩, os, bare⟩
    · by_cases hm : b ∈ cs.map (·.2)
      · obtain ⟨p, hp, rfl, more, z⟩ := grown b hm
        rw [hT p hp] at e
        cases e
        exact .inr (.inl ⟨((C p hp).tab (hT p hp)).isCodeTable, rfl, #[], more, rfl, by rw [Array.empty_append]; exact z⟩)
      · exact .inl (kept b o hm e)
    · by_cases hm : b ∈ cs.map (·.2)
      · obtain ⟨p, hp, rfl, more, z⟩ := grown b hm
        exact ⟨_, z⟩
      · exact ⟨o, kept b o hm e⟩
end
/-- what the head gives of law -/
def LawG (l : PySem.W.OpenLaw) (w : World) (K : PySem.W.Frag) (k n : Nat) (x : Str) (mg : Str → Option Value) (fa : Addr) (h : Heap) : Prop :=
  ∃ (fd : FuncData) (cs : List (Addr × Addr)) (sp : Sp), (∀ p ∈ cs, h.get? p.2 = some { cls := .none, data := .fields #[] }) ∧ (∀ p ∈ cs, K.lookup p.2 = none) ∧ (∀ p ∈ cs, PySem.W.CodeHd h p.1 p.2) ∧ (∀ (s : Shared) (u : Value), BindsTo s fd ⟨[u], []⟩ [(x, u)]) ∧
    (∀ (H : Hp) (a : Addr) (ns : List Int), ns.length ≤ n → (∀ p ∈ cs, H p.2 = some (.tbl #[])) → SqL K H a (ns.map V.int) → sp [.ref a] H (fun v _ => v = .bl true) fun _ _ _ => False) ∧
    ∀ base : Heap, K.In base → base.Ns mainGlobals mg → (∀ p ∈ cs, LamX.TabB base mg p.1 p.2) → FnG l.prog w K mg base CX0 k fa fd [x] sp
theorem walk_ofG {l : PySem.W.OpenLaw} {n k : Nat} {q : Program} {loose : List Str} {XP : (Str → Option Value) → Heap → Prop} {YP : World → Heap → Prop} {d : DefRec} {K : Params → PySem.W.Frag} {x : Str}
    (hn : l.most = some n) (hn2 : n ≤ sizeLine) (hdf : d.params.defaults = []) (hr : Room k callerA) (hY : ∀ (w : World) (h : Heap), YP w h → (K w.params).In h)
    (F : ∀ (w : World) (mg : Str → Option Value) (fa : Addr) (h : Heap), YP w h → (K w.params).In h → h.Ns mainGlobals mg → mg d.name = some (.ref fa) → LawG l w (K w.params) k n x mg fa h) :
    PySem.W.WalkO q loose XP YP l.row.toRowW d [] (fun f vs => PySem.call f vs) := by
  refine Att.attach_callB hn hdf fun w s₀ s₁ mg mb fa o pm cd doc a vs ns G Y ho hd hcd hmg hobj hints hlen _ hg => ?_
  have hK := hY w _ Y
  obtain ⟨fd, cs, sp, hT, nT, C, hb, hsp, hF⟩ := F w mg fa _ Y hK G.T.g hmg
  exact law_callG hK G.T.g G.T.b G.T.builtins G.T.nolimit hg hT nT C G.T.bmain hobj hints (Nat.le_trans hlen hn2) hr hF hb fun H hH hS => hsp H a ns hlen hH hS
end KX
end
section
set_option Elab.async false
set_option linter.all false
set_option maxRecDepth 100000
set_option maxHeartbeats 4000000
/-! E14: what the head must give; printed by gen14.py. -/
namespace KX
open PySem PySem.Spec PyProof.Rows L2
section
variable {K : PySem.W.Frag} {t : Value} {S : Addr} {b : Bool}
theorem kitCls_of (h2 : (PySem.W.clsIn K S).isSome = true) (h3 : PySem.W.typeIn K (.ref S) = some (.type "type")) (h4 : PySem.W.subIn K t (.ref S) = some b) : PySem.W.kitCls K t (.ref S) = some b := by
  have e2 : ((PySem.W.clsIn K S).isSome && PySem.W.typeIn K (.ref S) == some (.type "type")) = true := by
    rw [h2, h3] <;> rfl
  show (if ((PySem.W.clsIn K S).isSome && PySem.W.typeIn K (.ref S) == some (.type "type")) = true then PySem.W.subIn K t (.ref S) else none) = some b
  rw [if_pos e2]
  exact h4
theorem kitOne_of (hne : (t == Value.ref S) = false) (h2 : (PySem.W.clsIn K S).isSome = true) (h3 : PySem.W.typeIn K (.ref S) = some (.type "type")) (h4 : PySem.W.subIn K t (.ref S) = some b) : PySem.W.kitOne K t (.ref S) = some b := by
  unfold PySem.W.kitOne
  rw [if_neg (by rw [hne]; exact Bool.false_ne_true)]
  exact kitCls_of h2 h3 h4
theorem kitOne_own : PySem.W.kitOne K (.ref S) (.ref S) = some true := if_pos (beq_self_eq_true _)
theorem exmOne_of (h1 : PySem.W.subIn K (.ref S) (.type "BaseException") = some true) (h2 : (PySem.W.clsIn K S).isSome = true) (h3 : PySem.W.typeIn K (.ref S) = some (.type "type")) (h4 : PySem.W.subIn K t (.ref S) = some b) : PySem.W.exmOne K t (.ref S) = some b := by
  have e1 : (PySem.W.subIn K (.ref S) (.type "BaseException") == some true) = true := by rw [h1] <;> rfl
  show (if (PySem.W.subIn K (.ref S) (.type "BaseException") == some true) = true then PySem.W.kitCls K t (.ref S) else none) = some b
  rw [if_pos e1]
  exact kitCls_of h2 h3 h4
theorem ref_ne {a c : Addr} (h : a ≠ c) : (Value.ref a == Value.ref c) = false := by
  cases e : (Value.ref a == Value.ref c) with
  | false => rfl
  | true => exact absurd (Value.ref.inj (eq_of_beq e)) h
end
theorem fun_of {K : PySem.W.Frag} {x qual : Str} {st : Stmt} {f : Addr} {oc kV dc pm cd ct : Value} {od an : Option Addr} {sl : Array (Option Value)}
    (l : K.lookup f = some ⟨oc, od, .func (PySem.W.fnOf x qual (defArgs st) (defBody st) (defScope st) .none kV dc pm an cd ct), sl⟩) (c : PySem.W.codeIn K cd qual = true) (k : PySem.W.keepIn K (.ref f) = true) :
    Fun K x qual st f (PySem.W.fnOf x qual (defArgs st) (defBody st) (defScope st) .none kV dc pm an cd ct) := ⟨⟨_, _, _, _, _, _, _, _, _, rfl, l, c⟩, k⟩
theorem fin {w : World} {K : PySem.W.Frag} {mg : Str → Option Value} {h : Heap} {fa : Addr} (hK : K.In h) (hG : h.Ns mainGlobals mg) (hfa : mg "law" = some (.ref fa))
    {oc_ii dc_ii pm_ii ct_ii kV_ii : Value} {od_ii an_ii : Option Addr} {sl_ii : Array (Option Value)} {f_ii : Addr}
    {cd_ii : Value}
    {oc_if dc_if pm_if ct_if kV_if : Value} {od_if an_if : Option Addr} {sl_if : Array (Option Value)} {f_if : Addr}
    {cd_if : Value}
    {oc_il dc_il pm_il ct_il kV_il : Value} {od_il an_il : Option Addr} {sl_il : Array (Option Value)} {f_il : Addr}
    {cd_il : Value}
    {oc_wi dc_wi pm_wi ct_wi kV_wi : Value} {od_wi an_wi : Option Addr} {sl_wi : Array (Option Value)} {f_wi : Addr}
    {cd_wi : Value}
    {oc_wf dc_wf pm_wf ct_wf kV_wf : Value} {od_wf an_wf : Option Addr} {sl_wf : Array (Option Value)} {f_wf : Addr}
    {cd_wf : Value}
    {oc_wc dc_wc pm_wc ct_wc kV_wc : Value} {od_wc an_wc : Option Addr} {sl_wc : Array (Option Value)} {f_wc : Addr}
    {cd_wc : Value}
    {oc_ig dc_ig pm_ig ct_ig kV_ig : Value} {od_ig an_ig : Option Addr} {sl_ig : Array (Option Value)} {f_ig : Addr}
    {cd_ig : Value}
    {oc_ck dc_ck pm_ck ct_ck kV_ck : Value} {od_ck an_ck : Option Addr} {sl_ck : Array (Option Value)} {f_ck : Addr}
    {cd_ck : Value}
    {oc_jl dc_jl pm_jl ct_jl kV_jl : Value} {od_jl an_jl : Option Addr} {sl_jl : Array (Option Value)} {f_jl : Addr}
    {cd_jl : Value}
    {oc_co dc_co pm_co ct_co kV_co : Value} {od_co an_co : Option Addr} {sl_co : Array (Option Value)} {f_co : Addr}
    {cd_co : Value}
    {oc_ic dc_ic pm_ic ct_ic kV_ic : Value} {od_ic an_ic : Option Addr} {sl_ic : Array (Option Value)} {f_ic : Addr}
    {cd_ic : Value}
    {oc_aj dc_aj pm_aj ct_aj kV_aj : Value} {od_aj an_aj : Option Addr} {sl_aj : Array (Option Value)} {f_aj : Addr}
    {cd_aj : Value}
    {oc_lb dc_lb pm_lb ct_lb kV_lb : Value} {od_lb an_lb : Option Addr} {sl_lb : Array (Option Value)} {f_lb : Addr}
    {cd_lb : Value}
    {oc_rn dc_rn pm_rn ct_rn kV_rn : Value} {od_rn an_rn : Option Addr} {sl_rn : Array (Option Value)} {f_rn : Addr}
    {cd_rn : Value}
    {oc_dr dc_dr pm_dr ct_dr kV_dr : Value} {od_dr an_dr : Option Addr} {sl_dr : Array (Option Value)} {f_dr : Addr}
    {cd_dr : Value}
    {oc_ch dc_ch pm_ch ct_ch kV_ch : Value} {od_ch an_ch : Option Addr} {sl_ch : Array (Option Value)} {f_ch : Addr}
    {cd_ch : Value}
    {oc_mo dc_mo pm_mo ct_mo kV_mo : Value} {od_mo an_mo : Option Addr} {sl_mo : Array (Option Value)} {f_mo : Addr}
    {cd_mo : Value}
    {oc_pt dc_pt pm_pt ct_pt kV_pt : Value} {od_pt an_pt : Option Addr} {sl_pt : Array (Option Value)} {f_pt : Addr}
    {cd_pt : Value}
    {oc_me dc_me pm_me ct_me kV_me : Value} {od_me an_me : Option Addr} {sl_me : Array (Option Value)} {f_me : Addr}
    {cd_me : Value}
    {oc_le dc_le pm_le ct_le kV_le : Value} {od_le an_le : Option Addr} {sl_le : Array (Option Value)} {f_le : Addr}
    {cd_le : Value}
    {oc_th dc_th pm_th ct_th kV_th : Value} {od_th an_th : Option Addr} {sl_th : Array (Option Value)} {f_th : Addr}
    {cd_th : Value}
    {oc_to dc_to pm_to ct_to kV_to : Value} {od_to an_to : Option Addr} {sl_to : Array (Option Value)} {f_to : Addr}
    {cd_to : Value}
    {oc_du dc_du pm_du ct_du kV_du : Value} {od_du an_du : Option Addr} {sl_du : Array (Option Value)} {f_du : Addr}
    {cd_du : Value}
    {oc_cs dc_cs pm_cs ct_cs kV_cs : Value} {od_cs an_cs : Option Addr} {sl_cs : Array (Option Value)} {f_cs : Addr}
    {cd_cs : Value}
    {oc_tr dc_tr pm_tr ct_tr kV_tr : Value} {od_tr an_tr : Option Addr} {sl_tr : Array (Option Value)} {f_tr : Addr}
    {cd_tr : Addr}
    {oc_jr dc_jr pm_jr ct_jr kV_jr : Value} {od_jr an_jr : Option Addr} {sl_jr : Array (Option Value)} {f_jr : Addr}
    {cd_jr : Addr}
    {oc_cr dc_cr pm_cr ct_cr kV_cr : Value} {od_cr an_cr : Option Addr} {sl_cr : Array (Option Value)} {f_cr : Addr}
    {cd_cr : Value}
    {oc_sr dc_sr pm_sr ct_sr kV_sr : Value} {od_sr an_sr : Option Addr} {sl_sr : Array (Option Value)} {f_sr : Addr}
    {cd_sr : Value}
    {oc_gr dc_gr pm_gr ct_gr kV_gr : Value} {od_gr an_gr : Option Addr} {sl_gr : Array (Option Value)} {f_gr : Addr}
    {cd_gr : Addr}
    {oc_lw dc_lw pm_lw ct_lw kV_lw : Value} {od_lw an_lw : Option Addr} {sl_lw : Array (Option Value)} {f_lw : Addr}
    {cd_lw : Value}
    {C CG CN CB : Addr} {mc : Value}
    {tkM : Tok}
    {oc_in dc_in pm_in ct_in kV_in : Value} {od_in an_in : Option Addr} {sl_in : Array (Option Value)} {f_in : Addr}
    {cd_in : Value}
    {TD T0 : Addr} {ocD : Value} {odD odT : Option Addr} {nD nT : Nat} {slD slT : Array (Option Value)}
    {oc_re dc_re pm_re ct_re kV_re : Value} {od_re an_re : Option Addr} {sl_re : Array (Option Value)} {f_re : Addr}
    {cd_re : Value}
    {oc_eq dc_eq pm_eq ct_eq kV_eq : Value} {od_eq an_eq : Option Addr} {sl_eq : Array (Option Value)} {f_eq : Addr}
    {cd_eq : Value}
    {oc_ad dc_ad pm_ad ct_ad kV_ad : Value} {od_ad an_ad : Option Addr} {sl_ad : Array (Option Value)} {f_ad : Addr}
    {cd_ad : Value}
    {oc_la dc_la pm_la ct_la kV_la : Value} {od_la an_la : Option Addr} {sl_la : Array (Option Value)} {f_la : Addr}
    {cd_la : Value}
    {oc_mv dc_mv pm_mv ct_mv kV_mv : Value} {od_mv an_mv : Option Addr} {sl_mv : Array (Option Value)} {f_mv : Addr}
    {cd_mv : Value}
    {oc_tg dc_tg pm_tg ct_tg kV_tg : Value} {od_tg an_tg : Option Addr} {sl_tg : Array (Option Value)} {f_tg : Addr}
    {cd_tg : Value}
    {p_tg : Addr} {r_tg : List Value}
    {oc_st dc_st pm_st ct_st : Value} {od_st an_st : Option Addr} {sl_st : Array (Option Value)} {f_st : Addr}
    {cd_st : Value}
    {p_st : Addr} {r_st : List Value}
    {KD : Addr} {tkS : Tok}
    {o_NoneType q_NoneType : Option Value}
    {o_int q_int : Option Value}
    {o_bool q_bool : Option Value}
    {o_str q_str : Option Value}
    {o_tuple q_tuple : Option Value}
    {o_list q_list : Option Value}
    {nm_G qn_G : Str} {N_G fI_G cda_G cc_G : Addr} {bs_G bm_G sub_G : List Value} {sn_G : List Str} {ab_G : Bool} {col_G : Option Bool} {dd_G od_G an_G cdd_G cld_G : Option Addr} {m0_G m1_G m2_G m3_G m5_G : Option Value}
    {oc_G doc_G pm_G ct_G ccl_G cl_G : Value} {osl_G ccs_G csl_G : Array (Option Value)} {qual_G msg_G file_G : Str} {p1_G p2_G a1_G a2_G a3_G a4_G a5_G a6_G q1_G q2_G q3_G q4_G : Pos} {vs_G : Array Value} {tf_G : Tok}
    {nm_N qn_N : Str} {N_N fI_N cda_N cc_N : Addr} {bs_N bm_N sub_N : List Value} {sn_N : List Str} {ab_N : Bool} {col_N : Option Bool} {dd_N od_N an_N cdd_N cld_N : Option Addr} {m0_N m1_N m2_N m3_N m5_N : Option Value}
    {oc_N doc_N pm_N ct_N ccl_N cl_N : Value} {osl_N ccs_N csl_N : Array (Option Value)} {qual_N msg_N file_N : Str} {p1_N p2_N a1_N a2_N a3_N a4_N a5_N a6_N q1_N q2_N q3_N q4_N : Pos} {vs_N : Array Value} {tf_N : Tok}
    {P1 P2 P3 : Addr}
    {oy1 : Value} {dy1 : Option Addr} {vy1 : Array Value} {sy1 : Array (Option Value)}
    {oy2 : Value} {dy2 : Option Addr} {vy2 : Array Value} {sy2 : Array (Option Value)}
    {oy3 : Value} {dy3 : Option Addr} {vy3 : Array Value} {sy3 : Array (Option Value)}
    (a_ii : PySem.W.nsIn K mainGlobals "is_integer" = some (some (.ref f_ii)))
    (l_ii : K.lookup f_ii = some ⟨oc_ii, od_ii, .func (PySem.W.fnOf "is_integer" "is_integer" (defArgs sIsInt) (defBody sIsInt) (defScope sIsInt) .none kV_ii dc_ii pm_ii an_ii cd_ii ct_ii), sl_ii⟩)
    (c_ii : PySem.W.codeIn K cd_ii "is_integer" = true)
    (k_ii : PySem.W.keepIn K (.ref f_ii) = true)
    (a_if : PySem.W.nsIn K mainGlobals "is_integer_from" = some (some (.ref f_if)))
    (l_if : K.lookup f_if = some ⟨oc_if, od_if, .func (PySem.W.fnOf "is_integer_from" "is_integer_from" (defArgs sIsFrom) (defBody sIsFrom) (defScope sIsFrom) .none kV_if dc_if pm_if an_if cd_if ct_if), sl_if⟩)
    (c_if : PySem.W.codeIn K cd_if "is_integer_from" = true)
    (k_if : PySem.W.keepIn K (.ref f_if) = true)
    (a_il : PySem.W.nsIn K mainGlobals "is_list" = some (some (.ref f_il)))
    (l_il : K.lookup f_il = some ⟨oc_il, od_il, .func (PySem.W.fnOf "is_list" "is_list" (defArgs sIsList) (defBody sIsList) (defScope sIsList) .none kV_il dc_il pm_il an_il cd_il ct_il), sl_il⟩)
    (c_il : PySem.W.codeIn K cd_il "is_list" = true)
    (k_il : PySem.W.keepIn K (.ref f_il) = true)
    (a_wi : PySem.W.nsIn K mainGlobals "want_integer" = some (some (.ref f_wi)))
    (l_wi : K.lookup f_wi = some ⟨oc_wi, od_wi, .func (PySem.W.fnOf "want_integer" "want_integer" (defArgs sWant) (defBody sWant) (defScope sWant) .none kV_wi dc_wi pm_wi an_wi cd_wi ct_wi), sl_wi⟩)
    (c_wi : PySem.W.codeIn K cd_wi "want_integer" = true)
    (k_wi : PySem.W.keepIn K (.ref f_wi) = true)
    (a_wf : PySem.W.nsIn K mainGlobals "want_integer_from" = some (some (.ref f_wf)))
    (l_wf : K.lookup f_wf = some ⟨oc_wf, od_wf, .func (PySem.W.fnOf "want_integer_from" "want_integer_from" (defArgs sWantF) (defBody sWantF) (defScope sWantF) .none kV_wf dc_wf pm_wf an_wf cd_wf ct_wf), sl_wf⟩)
    (c_wf : PySem.W.codeIn K cd_wf "want_integer_from" = true)
    (k_wf : PySem.W.keepIn K (.ref f_wf) = true)
    (a_wc : PySem.W.nsIn K mainGlobals "want_count" = some (some (.ref f_wc)))
    (l_wc : K.lookup f_wc = some ⟨oc_wc, od_wc, .func (PySem.W.fnOf "want_count" "want_count" (defArgs sCount) (defBody sCount) (defScope sCount) .none kV_wc dc_wc pm_wc an_wc cd_wc ct_wc), sl_wc⟩)
    (c_wc : PySem.W.codeIn K cd_wc "want_count" = true)
    (k_wc : PySem.W.keepIn K (.ref f_wc) = true)
    (a_ig : PySem.W.nsIn K mainGlobals "is_leg" = some (some (.ref f_ig)))
    (l_ig : K.lookup f_ig = some ⟨oc_ig, od_ig, .func (PySem.W.fnOf "is_leg" "is_leg" (defArgs sIsLeg) (defBody sIsLeg) (defScope sIsLeg) .none kV_ig dc_ig pm_ig an_ig cd_ig ct_ig), sl_ig⟩)
    (c_ig : PySem.W.codeIn K cd_ig "is_leg" = true)
    (k_ig : PySem.W.keepIn K (.ref f_ig) = true)
    (a_ck : PySem.W.nsIn K mainGlobals "check_legs" = some (some (.ref f_ck)))
    (l_ck : K.lookup f_ck = some ⟨oc_ck, od_ck, .func (PySem.W.fnOf "check_legs" "check_legs" (defArgs sCheck) (defBody sCheck) (defScope sCheck) .none kV_ck dc_ck pm_ck an_ck cd_ck ct_ck), sl_ck⟩)
    (c_ck : PySem.W.codeIn K cd_ck "check_legs" = true)
    (k_ck : PySem.W.keepIn K (.ref f_ck) = true)
    (a_jl : PySem.W.nsIn K mainGlobals "joined_legs" = some (some (.ref f_jl)))
    (l_jl : K.lookup f_jl = some ⟨oc_jl, od_jl, .func (PySem.W.fnOf "joined_legs" "joined_legs" (defArgs sJoined) (defBody sJoined) (defScope sJoined) .none kV_jl dc_jl pm_jl an_jl cd_jl ct_jl), sl_jl⟩)
    (c_jl : PySem.W.codeIn K cd_jl "joined_legs" = true)
    (k_jl : PySem.W.keepIn K (.ref f_jl) = true)
    (a_co : PySem.W.nsIn K mainGlobals "corners_of" = some (some (.ref f_co)))
    (l_co : K.lookup f_co = some ⟨oc_co, od_co, .func (PySem.W.fnOf "corners_of" "corners_of" (defArgs sCorners) (defBody sCorners) (defScope sCorners) .none kV_co dc_co pm_co an_co cd_co ct_co), sl_co⟩)
    (c_co : PySem.W.codeIn K cd_co "corners_of" = true)
    (k_co : PySem.W.keepIn K (.ref f_co) = true)
    (a_ic : PySem.W.nsIn K mainGlobals "is_corner" = some (some (.ref f_ic)))
    (l_ic : K.lookup f_ic = some ⟨oc_ic, od_ic, .func (PySem.W.fnOf "is_corner" "is_corner" (defArgs sIsCorner) (defBody sIsCorner) (defScope sIsCorner) .none kV_ic dc_ic pm_ic an_ic cd_ic ct_ic), sl_ic⟩)
    (c_ic : PySem.W.codeIn K cd_ic "is_corner" = true)
    (k_ic : PySem.W.keepIn K (.ref f_ic) = true)
    (a_aj : PySem.W.nsIn K mainGlobals "are_joined" = some (some (.ref f_aj)))
    (l_aj : K.lookup f_aj = some ⟨oc_aj, od_aj, .func (PySem.W.fnOf "are_joined" "are_joined" (defArgs sAreJ) (defBody sAreJ) (defScope sAreJ) .none kV_aj dc_aj pm_aj an_aj cd_aj ct_aj), sl_aj⟩)
    (c_aj : PySem.W.codeIn K cd_aj "are_joined" = true)
    (k_aj : PySem.W.keepIn K (.ref f_aj) = true)
    (a_lb : PySem.W.nsIn K mainGlobals "leg_between" = some (some (.ref f_lb)))
    (l_lb : K.lookup f_lb = some ⟨oc_lb, od_lb, .func (PySem.W.fnOf "leg_between" "leg_between" (defArgs sLegB) (defBody sLegB) (defScope sLegB) .none kV_lb dc_lb pm_lb an_lb cd_lb ct_lb), sl_lb⟩)
    (c_lb : PySem.W.codeIn K cd_lb "leg_between" = true)
    (k_lb : PySem.W.keepIn K (.ref f_lb) = true)
    (a_rn : PySem.W.nsIn K mainGlobals "_law_rng" = some (some (.ref f_rn)))
    (l_rn : K.lookup f_rn = some ⟨oc_rn, od_rn, .func (PySem.W.fnOf "_law_rng" "_law_rng" (defArgs sRng) (defBody sRng) (defScope sRng) .none kV_rn dc_rn pm_rn an_rn cd_rn ct_rn), sl_rn⟩)
    (c_rn : PySem.W.codeIn K cd_rn "_law_rng" = true)
    (k_rn : PySem.W.keepIn K (.ref f_rn) = true)
    (a_dr : PySem.W.nsIn K mainGlobals "_law_draw" = some (some (.ref f_dr)))
    (l_dr : K.lookup f_dr = some ⟨oc_dr, od_dr, .func (PySem.W.fnOf "_law_draw" "_law_draw" (defArgs sDraw) (defBody sDraw) (defScope sDraw) .none kV_dr dc_dr pm_dr an_dr cd_dr ct_dr), sl_dr⟩)
    (c_dr : PySem.W.codeIn K cd_dr "_law_draw" = true)
    (k_dr : PySem.W.keepIn K (.ref f_dr) = true)
    (a_ch : PySem.W.nsIn K mainGlobals "_law_choice" = some (some (.ref f_ch)))
    (l_ch : K.lookup f_ch = some ⟨oc_ch, od_ch, .func (PySem.W.fnOf "_law_choice" "_law_choice" (defArgs sChoice) (defBody sChoice) (defScope sChoice) .none kV_ch dc_ch pm_ch an_ch cd_ch ct_ch), sl_ch⟩)
    (c_ch : PySem.W.codeIn K cd_ch "_law_choice" = true)
    (k_ch : PySem.W.keepIn K (.ref f_ch) = true)
    (a_mo : PySem.W.nsIn K mainGlobals "_law_model" = some (some (.ref f_mo)))
    (l_mo : K.lookup f_mo = some ⟨oc_mo, od_mo, .func (PySem.W.fnOf "_law_model" "_law_model" (defArgs sModel) (defBody sModel) (defScope sModel) .none kV_mo dc_mo pm_mo an_mo cd_mo ct_mo), sl_mo⟩)
    (c_mo : PySem.W.codeIn K cd_mo "_law_model" = true)
    (k_mo : PySem.W.keepIn K (.ref f_mo) = true)
    (a_pt : PySem.W.nsIn K mainGlobals "_law_points" = some (some (.ref f_pt)))
    (l_pt : K.lookup f_pt = some ⟨oc_pt, od_pt, .func (PySem.W.fnOf "_law_points" "_law_points" (defArgs sPts) (defBody sPts) (defScope sPts) .none kV_pt dc_pt pm_pt an_pt cd_pt ct_pt), sl_pt⟩)
    (c_pt : PySem.W.codeIn K cd_pt "_law_points" = true)
    (k_pt : PySem.W.keepIn K (.ref f_pt) = true)
    (a_me : PySem.W.nsIn K mainGlobals "_law_merged" = some (some (.ref f_me)))
    (l_me : K.lookup f_me = some ⟨oc_me, od_me, .func (PySem.W.fnOf "_law_merged" "_law_merged" (defArgs sMerged) (defBody sMerged) (defScope sMerged) .none kV_me dc_me pm_me an_me cd_me ct_me), sl_me⟩)
    (c_me : PySem.W.codeIn K cd_me "_law_merged" = true)
    (k_me : PySem.W.keepIn K (.ref f_me) = true)
    (a_le : PySem.W.nsIn K mainGlobals "_law_legs" = some (some (.ref f_le)))
    (l_le : K.lookup f_le = some ⟨oc_le, od_le, .func (PySem.W.fnOf "_law_legs" "_law_legs" (defArgs sLegs) (defBody sLegs) (defScope sLegs) .none kV_le dc_le pm_le an_le cd_le ct_le), sl_le⟩)
    (c_le : PySem.W.codeIn K cd_le "_law_legs" = true)
    (k_le : PySem.W.keepIn K (.ref f_le) = true)
    (a_th : PySem.W.nsIn K mainGlobals "_law_through" = some (some (.ref f_th)))
    (l_th : K.lookup f_th = some ⟨oc_th, od_th, .func (PySem.W.fnOf "_law_through" "_law_through" (defArgs sLThr) (defBody sLThr) (defScope sLThr) .none kV_th dc_th pm_th an_th cd_th ct_th), sl_th⟩)
    (c_th : PySem.W.codeIn K cd_th "_law_through" = true)
    (k_th : PySem.W.keepIn K (.ref f_th) = true)
    (a_to : PySem.W.nsIn K mainGlobals "_law_told" = some (some (.ref f_to)))
    (l_to : K.lookup f_to = some ⟨oc_to, od_to, .func (PySem.W.fnOf "_law_told" "_law_told" (defArgs sTold) (defBody sTold) (defScope sTold) .none kV_to dc_to pm_to an_to cd_to ct_to), sl_to⟩)
    (c_to : PySem.W.codeIn K cd_to "_law_told" = true)
    (k_to : PySem.W.keepIn K (.ref f_to) = true)
    (a_du : PySem.W.nsIn K mainGlobals "_law_due" = some (some (.ref f_du)))
    (l_du : K.lookup f_du = some ⟨oc_du, od_du, .func (PySem.W.fnOf "_law_due" "_law_due" (defArgs sDue) (defBody sDue) (defScope sDue) .none kV_du dc_du pm_du an_du cd_du ct_du), sl_du⟩)
    (c_du : PySem.W.codeIn K cd_du "_law_due" = true)
    (k_du : PySem.W.keepIn K (.ref f_du) = true)
    (a_cs : PySem.W.nsIn K mainGlobals "_law_corners" = some (some (.ref f_cs)))
    (l_cs : K.lookup f_cs = some ⟨oc_cs, od_cs, .func (PySem.W.fnOf "_law_corners" "_law_corners" (defArgs sCs) (defBody sCs) (defScope sCs) .none kV_cs dc_cs pm_cs an_cs cd_cs ct_cs), sl_cs⟩)
    (c_cs : PySem.W.codeIn K cd_cs "_law_corners" = true)
    (k_cs : PySem.W.keepIn K (.ref f_cs) = true)
    (a_tr : PySem.W.nsIn K mainGlobals "_law_through_right" = some (some (.ref f_tr)))
    (l_tr : K.lookup f_tr = some ⟨oc_tr, od_tr, .func (PySem.W.fnOf "_law_through_right" "_law_through_right" (defArgs sTR) (defBody sTR) (defScope sTR) .none kV_tr dc_tr pm_tr an_tr (.ref cd_tr) ct_tr), sl_tr⟩)
    (c_tr : PySem.W.codeIn K (.ref cd_tr) "_law_through_right" = true)
    (k_tr : PySem.W.keepIn K (.ref f_tr) = true)
    (a_jr : PySem.W.nsIn K mainGlobals "_law_joined_right" = some (some (.ref f_jr)))
    (l_jr : K.lookup f_jr = some ⟨oc_jr, od_jr, .func (PySem.W.fnOf "_law_joined_right" "_law_joined_right" (defArgs sJR) (defBody sJR) (defScope sJR) .none kV_jr dc_jr pm_jr an_jr (.ref cd_jr) ct_jr), sl_jr⟩)
    (c_jr : PySem.W.codeIn K (.ref cd_jr) "_law_joined_right" = true)
    (k_jr : PySem.W.keepIn K (.ref f_jr) = true)
    (a_cr : PySem.W.nsIn K mainGlobals "_law_cut_right" = some (some (.ref f_cr)))
    (l_cr : K.lookup f_cr = some ⟨oc_cr, od_cr, .func (PySem.W.fnOf "_law_cut_right" "_law_cut_right" (defArgs sCR) (defBody sCR) (defScope sCR) .none kV_cr dc_cr pm_cr an_cr cd_cr ct_cr), sl_cr⟩)
    (c_cr : PySem.W.codeIn K cd_cr "_law_cut_right" = true)
    (k_cr : PySem.W.keepIn K (.ref f_cr) = true)
    (a_sr : PySem.W.nsIn K mainGlobals "_law_stay_right" = some (some (.ref f_sr)))
    (l_sr : K.lookup f_sr = some ⟨oc_sr, od_sr, .func (PySem.W.fnOf "_law_stay_right" "_law_stay_right" (defArgs sSR) (defBody sSR) (defScope sSR) .none kV_sr dc_sr pm_sr an_sr cd_sr ct_sr), sl_sr⟩)
    (c_sr : PySem.W.codeIn K cd_sr "_law_stay_right" = true)
    (k_sr : PySem.W.keepIn K (.ref f_sr) = true)
    (a_gr : PySem.W.nsIn K mainGlobals "_law_great_right" = some (some (.ref f_gr)))
    (l_gr : K.lookup f_gr = some ⟨oc_gr, od_gr, .func (PySem.W.fnOf "_law_great_right" "_law_great_right" (defArgs sGR) (defBody sGR) (defScope sGR) .none kV_gr dc_gr pm_gr an_gr (.ref cd_gr) ct_gr), sl_gr⟩)
    (c_gr : PySem.W.codeIn K (.ref cd_gr) "_law_great_right" = true)
    (k_gr : PySem.W.keepIn K (.ref f_gr) = true)
    (a_lw : PySem.W.nsIn K mainGlobals "law" = some (some (.ref f_lw)))
    (l_lw : K.lookup f_lw = some ⟨oc_lw, od_lw, .func (PySem.W.fnOf "law" "law" (defArgs sLaw) (defBody sLaw) (defScope sLaw) .none kV_lw dc_lw pm_lw an_lw cd_lw ct_lw), sl_lw⟩)
    (c_lw : PySem.W.codeIn K cd_lw "law" = true)
    (k_lw : PySem.W.keepIn K (.ref f_lw) = true)
    (b_isinstance : PySem.W.nsIn K mainGlobals "isinstance" = some none)
    (b_int : PySem.W.nsIn K mainGlobals "int" = some none)
    (b_bool : PySem.W.nsIn K mainGlobals "bool" = some none)
    (b_list : PySem.W.nsIn K mainGlobals "list" = some none)
    (b_tuple : PySem.W.nsIn K mainGlobals "tuple" = some none)
    (b_len : PySem.W.nsIn K mainGlobals "len" = some none)
    (b_enumerate : PySem.W.nsIn K mainGlobals "enumerate" = some none)
    (b_range : PySem.W.nsIn K mainGlobals "range" = some none)
    (b_min : PySem.W.nsIn K mainGlobals "min" = some none)
    (b_max : PySem.W.nsIn K mainGlobals "max" = some none)
    (b_abs : PySem.W.nsIn K mainGlobals "abs" = some none)
    (b_divmod : PySem.W.nsIn K mainGlobals "divmod" = some none)
    (b_repr : PySem.W.nsIn K mainGlobals "repr" = some none)
    (b_sorted : PySem.W.nsIn K mainGlobals "sorted" = some none)
    (b_set : PySem.W.nsIn K mainGlobals "set" = some none)
    (b_super : PySem.W.nsIn K mainGlobals "super" = some none)
    (aC : PySem.W.nsIn K mainGlobals "Line" = some (some (.ref C)))
    (pg : PySem.W.plainGet K C Str.empty = true)
    (hd : PySem.W.hasDictIn K C = true)
    (po : PySem.W.plainOver K C = true)
    (sa : PySem.W.findIn K (.ref C) "__setattr__" = some (some (.builtin "object.__setattr__")))
    (mk : PySem.W.makesIn K C = true)
    (kC : PySem.W.keepIn K (.ref C) = true)
    (nF : PySem.W.findIn K (.ref C) "first" = some none)
    (nP : PySem.W.findIn K (.ref C) "place" = some none)
    (nL : PySem.W.findIn K (.ref C) "legs" = some none)
    (nO : PySem.W.findIn K (.ref C) "own_corners" = some none)
    (nA : PySem.W.findIn K (.ref C) "last" = some none)
    (nM : PySem.W.findIn K (.ref C) "is_moment" = some none)
    (nW : PySem.W.findIn K (.ref C) "lowest" = some none)
    (nH : PySem.W.findIn K (.ref C) "highest" = some none)
    (mo : PySem.W.findIn K (.ref C) "MOST_LEGS" = some (some (.int 3 tkM)))
    (mg_ : PySem.W.specialIn K (.int 3 tkM) "__get__" = some none)
    (tC : PySem.W.typeIn K (.ref C) = some mc)
    (rd : PySem.W.readsIn K C mc = true)
    (ga : PySem.W.specialIn K (.ref C) "__getattribute__" = some (some (.builtin "type.__getattribute__")))
    (tmc : mc = .type "type")
    (isC : PySem.W.isClsIn K C = true)
    (ml : PySem.W.findCls K (.ref C) mc "MOST_LEGS" = some (.val (.int 3 tkM)))
    (a_in : PySem.W.findIn K (.ref C) "__init__" = some (some (.ref f_in)))
    (i_in : PySem.W.isFn K (.ref f_in) = true)
    (l_in : K.lookup f_in = some ⟨oc_in, od_in, .func (PySem.W.fnOf "__init__" "Line.__init__" (defArgs sInit) (defBody sInit) (defScope sInit) (.ref TD) kV_in dc_in pm_in an_in cd_in ct_in), sl_in⟩)
    (lD : K.lookup TD = some ⟨ocD, odD, .seq #[.ref T0] nD, slD⟩)
    (lT : K.lookup T0 = some ⟨.type "tuple", odT, .seq #[] nT, slT⟩)
    (c_in : PySem.W.codeIn K cd_in "Line.__init__" = true)
    (k_in : PySem.W.keepIn K (.ref f_in) = true)
    (a_re : PySem.W.findIn K (.ref C) "__repr__" = some (some (.ref f_re)))
    (i_re : PySem.W.isFn K (.ref f_re) = true)
    (l_re : K.lookup f_re = some ⟨oc_re, od_re, .func (PySem.W.fnOf "__repr__" "Line.__repr__" (defArgs sRepr) (defBody sRepr) (defScope sRepr) .none kV_re dc_re pm_re an_re cd_re ct_re), sl_re⟩)
    (c_re : PySem.W.codeIn K cd_re "Line.__repr__" = true)
    (k_re : PySem.W.keepIn K (.ref f_re) = true)
    (a_eq : PySem.W.findIn K (.ref C) "__eq__" = some (some (.ref f_eq)))
    (i_eq : PySem.W.isFn K (.ref f_eq) = true)
    (l_eq : K.lookup f_eq = some ⟨oc_eq, od_eq, .func (PySem.W.fnOf "__eq__" "Line.__eq__" (defArgs sEq) (defBody sEq) (defScope sEq) .none kV_eq dc_eq pm_eq an_eq cd_eq ct_eq), sl_eq⟩)
    (c_eq : PySem.W.codeIn K cd_eq "Line.__eq__" = true)
    (k_eq : PySem.W.keepIn K (.ref f_eq) = true)
    (a_ad : PySem.W.findIn K (.ref C) "__add__" = some (some (.ref f_ad)))
    (i_ad : PySem.W.isFn K (.ref f_ad) = true)
    (l_ad : K.lookup f_ad = some ⟨oc_ad, od_ad, .func (PySem.W.fnOf "__add__" "Line.__add__" (defArgs sAdd) (defBody sAdd) (defScope sAdd) .none kV_ad dc_ad pm_ad an_ad cd_ad ct_ad), sl_ad⟩)
    (c_ad : PySem.W.codeIn K cd_ad "Line.__add__" = true)
    (k_ad : PySem.W.keepIn K (.ref f_ad) = true)
    (a_la : PySem.W.findIn K (.ref C) "later" = some (some (.ref f_la)))
    (i_la : PySem.W.isFn K (.ref f_la) = true)
    (l_la : K.lookup f_la = some ⟨oc_la, od_la, .func (PySem.W.fnOf "later" "Line.later" (defArgs sLater) (defBody sLater) (defScope sLater) .none kV_la dc_la pm_la an_la cd_la ct_la), sl_la⟩)
    (c_la : PySem.W.codeIn K cd_la "Line.later" = true)
    (k_la : PySem.W.keepIn K (.ref f_la) = true)
    (a_mv : PySem.W.findIn K (.ref C) "moved" = some (some (.ref f_mv)))
    (i_mv : PySem.W.isFn K (.ref f_mv) = true)
    (l_mv : K.lookup f_mv = some ⟨oc_mv, od_mv, .func (PySem.W.fnOf "moved" "Line.moved" (defArgs sMoved) (defBody sMoved) (defScope sMoved) .none kV_mv dc_mv pm_mv an_mv cd_mv ct_mv), sl_mv⟩)
    (c_mv : PySem.W.codeIn K cd_mv "Line.moved" = true)
    (k_mv : PySem.W.keepIn K (.ref f_mv) = true)
    (neq : PySem.W.findIn K (.ref C) "__ne__" = some (some (.builtin "object.__ne__")))
    (so : PySem.W.subIn K (.ref C) (.type "object") = some true)
    (sf : PySem.W.selfFirst K C = true)
    (ra : PySem.W.findIn K (.ref C) "__radd__" = some none)
    (a_tg : PySem.W.findCls K (.ref C) mc "through" = some (.get (.builtin "classmethod.__get__") (.ref p_tg) .none (.ref C)))
    (r_tg_ : PySem.W.recIn K p_tg "classmethod" = some (.ref f_tg :: r_tg))
    (l_tg : K.lookup f_tg = some ⟨oc_tg, od_tg, .func (PySem.W.fnOf "through" "Line.through" (defArgs sThru) (defBody sThru) (defScope sThru) .none kV_tg dc_tg pm_tg an_tg cd_tg ct_tg), sl_tg⟩)
    (fi_ : PySem.W.fnIn K f_tg = true)
    (c_tg : PySem.W.codeIn K cd_tg "Line.through" = true)
    (k_tg : PySem.W.keepIn K (.ref f_tg) = true)
    (a_st : PySem.W.findCls K (.ref C) mc "stay" = some (.get (.builtin "staticmethod.__get__") (.ref p_st) .none (.ref C)))
    (r_st_ : PySem.W.recIn K p_st "staticmethod" = some (.ref f_st :: r_st))
    (l_st : K.lookup f_st = some ⟨oc_st, od_st, .func (PySem.W.fnOf "stay" "Line.stay" (defArgs sStay) (defBody sStay) (defScope sStay) .none (.ref KD) dc_st pm_st an_st cd_st ct_st), sl_st⟩)
    (kd : PySem.W.nsIn K KD "ticks" = some (some (.int 0 tkS)))
    (c_st : PySem.W.codeIn K cd_st "Line.stay" = true)
    (k_st : PySem.W.keepIn K (.ref f_st) = true)
    (ha : PySem.W.findIn K (.ref C) "__class__" = some (some (.builtin "object.__class__")))
    (hn : PySem.W.specialIn K (.builtin "object.__class__") "__get__" = some (some (.builtin "getset_descriptor.__get__")))
    (tk : PySem.W.takesIn K (.builtin "object.__class__") = some true)
    (ob : PySem.W.mroIn K C (.type "object") = some true)
    (s_NoneType : PySem.W.subIn K (.type "NoneType") (.ref C) = some false)
    (o_NoneType_ : PySem.W.findIn K (.type "NoneType") "__add__" = some o_NoneType)
    (q_NoneType_ : PySem.W.findIn K (.type "NoneType") "__radd__" = some q_NoneType)
    (s_int : PySem.W.subIn K (.type "int") (.ref C) = some false)
    (o_int_ : PySem.W.findIn K (.type "int") "__add__" = some o_int)
    (q_int_ : PySem.W.findIn K (.type "int") "__radd__" = some q_int)
    (s_bool : PySem.W.subIn K (.type "bool") (.ref C) = some false)
    (o_bool_ : PySem.W.findIn K (.type "bool") "__add__" = some o_bool)
    (q_bool_ : PySem.W.findIn K (.type "bool") "__radd__" = some q_bool)
    (s_str : PySem.W.subIn K (.type "str") (.ref C) = some false)
    (o_str_ : PySem.W.findIn K (.type "str") "__add__" = some o_str)
    (q_str_ : PySem.W.findIn K (.type "str") "__radd__" = some q_str)
    (s_tuple : PySem.W.subIn K (.type "tuple") (.ref C) = some false)
    (o_tuple_ : PySem.W.findIn K (.type "tuple") "__add__" = some o_tuple)
    (q_tuple_ : PySem.W.findIn K (.type "tuple") "__radd__" = some q_tuple)
    (s_list : PySem.W.subIn K (.type "list") (.ref C) = some false)
    (o_list_ : PySem.W.findIn K (.type "list") "__add__" = some o_list)
    (q_list_ : PySem.W.findIn K (.type "list") "__radd__" = some q_list)
    (gG : PySem.W.nsIn K mainGlobals "InvalidLegs" = some (some (.ref CG)))
    (xG : K.lookup CG = some (excClassObj nm_G qn_G CG N_G bs_G bm_G true sn_G sub_G ab_G col_G dd_G m0_G m1_G m2_G m3_G m5_G "ValueError.__new__"))
    (rvG : PySem.HandSPX.refsVE bm_G = true)
    (saG : PySem.W.findIn K (.ref CG) "__setattr__" = some (some (.builtin "object.__setattr__")))
    (gaG : PySem.W.findIn K (.ref CG) "__getattribute__" = some (some (.builtin "BaseException.__getattribute__")))
    (ggG : PySem.W.findIn K (.ref CG) "__getattr__" = some none)
    (nnG : PySem.W.findIn K (.ref CG) "position" = some none)
    (iiG : PySem.W.findIn K (.ref CG) "__init__" = some (some (.ref fI_G)))
    (tiG : PySem.W.typeIn K (.ref fI_G) = some (.type "function"))
    (kkG : PySem.W.keepIn K (.ref CG) = true)
    (eeG : PySem.W.subIn K (.ref CG) (.type "BaseException") = some true)
    (tyG : PySem.W.typeIn K (.ref CG) = some (.type "type"))
    (hdG : PySem.W.hasDictIn K CG = true)
    (veG : PySem.W.subIn K (.ref CG) (.type "ValueError") = some true)
    (ccG : PySem.W.mroIn K CG (.ref CG) = some true)
    (suG : PySem.W.ks_superIn K CG CG "__init__" = some (some (.builtin "ValueError.__init__")))
    (liG : K.lookup fI_G = some ⟨oc_G, od_G, .func (PySem.W.ksFn "__init__" qual_G (SupX.iA "position" p1_G p2_G) (SupX.iB "position" msg_G a1_G a2_G a3_G a4_G a5_G a6_G q1_G q2_G q3_G q4_G) (SupX.iS "position") .none .none doc_G pm_G an_G (.ref cda_G) ct_G cc_G), osl_G⟩)
    (ciG : PySem.W.codeIn K (.ref cda_G) qual_G = true)
    (evG : ∀ env : Env, ∃ pl : Sem Bool, eval (SupX.iCall msg_G a1_G a2_G a3_G a4_G a5_G) env = (do
      let ov ← attributeBase (.Call (.Name "super" a1_G) [] [] a2_G) "__init__" env (eval (.Call (.Name "super" a1_G) [] [] a2_G) env)
      standAt a3_G.atName
      let (f, first) ← holding [ov] (getMethod ov "__init__" pl)
      callWith a5_G f first (backTo a5_G (starEach [.Constant (.str msg_G) 0 a4_G] env)) []))
    (lcG : K.lookup cda_G = some ⟨ccl_G, cdd_G, .fields vs_G, ccs_G⟩)
    (v2G : vs_G[2]? = some (.str file_G tf_G))
    (flG : ((PySem.Challenge.pw_beamheads_k33_whole_lines_joined.main.file : Str) == file_G) = true)
    (leG : K.lookup cc_G = some ⟨cl_G, cld_G, .cell (some (.ref CG)), csl_G⟩)
    (isG : PySem.W.isClsIn K CG = true)
    (icG : PySem.W.findIn K (.ref CG) "__class__" = some (some (.builtin "object.__class__")))
    (moG : PySem.W.mroIn K CG (.type "object") = some true)
    (gN : PySem.W.nsIn K mainGlobals "InvalidLine" = some (some (.ref CN)))
    (xN : K.lookup CN = some (excClassObj nm_N qn_N CN N_N bs_N bm_N true sn_N sub_N ab_N col_N dd_N m0_N m1_N m2_N m3_N m5_N "ValueError.__new__"))
    (rvN : PySem.HandSPX.refsVE bm_N = true)
    (saN : PySem.W.findIn K (.ref CN) "__setattr__" = some (some (.builtin "object.__setattr__")))
    (gaN : PySem.W.findIn K (.ref CN) "__getattribute__" = some (some (.builtin "BaseException.__getattribute__")))
    (ggN : PySem.W.findIn K (.ref CN) "__getattr__" = some none)
    (nnN : PySem.W.findIn K (.ref CN) "value" = some none)
    (iiN : PySem.W.findIn K (.ref CN) "__init__" = some (some (.ref fI_N)))
    (tiN : PySem.W.typeIn K (.ref fI_N) = some (.type "function"))
    (kkN : PySem.W.keepIn K (.ref CN) = true)
    (eeN : PySem.W.subIn K (.ref CN) (.type "BaseException") = some true)
    (tyN : PySem.W.typeIn K (.ref CN) = some (.type "type"))
    (hdN : PySem.W.hasDictIn K CN = true)
    (veN : PySem.W.subIn K (.ref CN) (.type "ValueError") = some true)
    (ccN : PySem.W.mroIn K CN (.ref CN) = some true)
    (suN : PySem.W.ks_superIn K CN CN "__init__" = some (some (.builtin "ValueError.__init__")))
    (liN : K.lookup fI_N = some ⟨oc_N, od_N, .func (PySem.W.ksFn "__init__" qual_N (SupX.iA "value" p1_N p2_N) (SupX.iB "value" msg_N a1_N a2_N a3_N a4_N a5_N a6_N q1_N q2_N q3_N q4_N) (SupX.iS "value") .none .none doc_N pm_N an_N (.ref cda_N) ct_N cc_N), osl_N⟩)
    (ciN : PySem.W.codeIn K (.ref cda_N) qual_N = true)
    (evN : ∀ env : Env, ∃ pl : Sem Bool, eval (SupX.iCall msg_N a1_N a2_N a3_N a4_N a5_N) env = (do
      let ov ← attributeBase (.Call (.Name "super" a1_N) [] [] a2_N) "__init__" env (eval (.Call (.Name "super" a1_N) [] [] a2_N) env)
      standAt a3_N.atName
      let (f, first) ← holding [ov] (getMethod ov "__init__" pl)
      callWith a5_N f first (backTo a5_N (starEach [.Constant (.str msg_N) 0 a4_N] env)) []))
    (lcN : K.lookup cda_N = some ⟨ccl_N, cdd_N, .fields vs_N, ccs_N⟩)
    (v2N : vs_N[2]? = some (.str file_N tf_N))
    (flN : ((PySem.Challenge.pw_beamheads_k33_whole_lines_joined.main.file : Str) == file_N) = true)
    (leN : K.lookup cc_N = some ⟨cl_N, cld_N, .cell (some (.ref CN)), csl_N⟩)
    (isN : PySem.W.isClsIn K CN = true)
    (icN : PySem.W.findIn K (.ref CN) "__class__" = some (some (.builtin "object.__class__")))
    (moN : PySem.W.mroIn K CN (.type "object") = some true)
    (op : PySem.W.nsIn K cStatics "thirdparty.any" = some none)
    (top_ : (PySem.Challenge.pw_beamheads_k33_whole_lines_joined.main.scope.names.lookup ("super" : Str)).isSome = false)
    (gB : PySem.W.nsIn K mainGlobals "BeamError" = some (some (.ref CB)))
    (tyB : PySem.W.typeIn K (.ref CB) = some (.type "type"))
    (isB : PySem.W.isClsIn K CB = true)
    (sGG : PySem.W.subIn K (.ref CG) (.ref CG) = some true)
    (sNG : PySem.W.subIn K (.ref CN) (.ref CG) = some false)
    (sNN : PySem.W.subIn K (.ref CN) (.ref CN) = some true)
    (sGB : PySem.W.subIn K (.ref CG) (.ref CB) = some true)
    (sNB : PySem.W.subIn K (.ref CN) (.ref CB) = some true)
    (dGB : CG ≠ CB)
    (dNB : CN ≠ CB)
    (y1 : K.lookup cd_tr = some ⟨oy1, dy1, .fields vy1, sy1⟩)
    (z1 : vy1[11]? = some (.ref P1))
    (h1 : PySem.W.codeHdIn K cd_tr P1 = true)
    (y2 : K.lookup cd_jr = some ⟨oy2, dy2, .fields vy2, sy2⟩)
    (z2 : vy2[11]? = some (.ref P2))
    (h2 : PySem.W.codeHdIn K cd_jr P2 = true)
    (y3 : K.lookup cd_gr = some ⟨oy3, dy3, .fields vy3, sy3⟩)
    (z3 : vy3[11]? = some (.ref P3))
    (h3 : PySem.W.codeHdIn K cd_gr P3 = true)
    (t1 : h.get? P1 = some { cls := .none, data := .fields #[] })
    (n1 : K.lookup P1 = none)
    (t2 : h.get? P2 = some { cls := .none, data := .fields #[] })
    (n2 : K.lookup P2 = none)
    (t3 : h.get? P3 = some { cls := .none, data := .fields #[] })
    (n3 : K.lookup P3 = none)
    (d12 : P1 ≠ P2)
    (d13 : P1 ≠ P3)
    (d23 : P2 ≠ P3)
    : LawG PySem.Challenge.rw_beamheads_k33_whole_lines_joined w K 17 63 "_law_script" mg fa h := by
  have M : ∀ {n : Str} {v : Value}, PySem.W.nsIn K mainGlobals n = some (some v) → mg n = some v := fun e => PySem.W.mg_of hK hG e
  have N : ∀ {n : Str}, PySem.W.nsIn K mainGlobals n = some none → mg n = none := fun e => PySem.W.mg_none_of hK hG e
  subst tmc
  have e := hfa.symm.trans (M a_lw)
  cases e
  have B : Bi mg := ⟨N b_isinstance, N b_int, N b_bool, N b_list, N b_tuple, N b_len, N b_enumerate, N b_range, N b_min, N b_max, N b_abs, N b_divmod, N b_repr, N b_sorted, N b_set⟩
  have F_ii := fun_of (st := sIsInt) l_ii c_ii k_ii
  have D_ii : De K mg "is_integer" sIsInt (["value"] : List Str) := ⟨f_ii, _, F_ii, M a_ii, L2.Binds.all (fun us hl => match us, hl with | [_], _ => rfl)⟩
  have F_if := fun_of (st := sIsFrom) l_if c_if k_if
  have D_if : De K mg "is_integer_from" sIsFrom (["value", "least"] : List Str) := ⟨f_if, _, F_if, M a_if, L2.Binds.all (fun us hl => match us, hl with | [_, _], _ => rfl)⟩
  have F_il := fun_of (st := sIsList) l_il c_il k_il
  have D_il : De K mg "is_list" sIsList (["value"] : List Str) := ⟨f_il, _, F_il, M a_il, L2.Binds.all (fun us hl => match us, hl with | [_], _ => rfl)⟩
  have F_wi := fun_of (st := sWant) l_wi c_wi k_wi
  have D_wi : De K mg "want_integer" sWant (["value"] : List Str) := ⟨f_wi, _, F_wi, M a_wi, L2.Binds.all (fun us hl => match us, hl with | [_], _ => rfl)⟩
  have F_wf := fun_of (st := sWantF) l_wf c_wf k_wf
  have D_wf : De K mg "want_integer_from" sWantF (["value", "least"] : List Str) := ⟨f_wf, _, F_wf, M a_wf, L2.Binds.all (fun us hl => match us, hl with | [_, _], _ => rfl)⟩
  have F_wc := fun_of (st := sCount) l_wc c_wc k_wc
  have D_wc : De K mg "want_count" sCount (["value"] : List Str) := ⟨f_wc, _, F_wc, M a_wc, L2.Binds.all (fun us hl => match us, hl with | [_], _ => rfl)⟩
  have F_ig := fun_of (st := sIsLeg) l_ig c_ig k_ig
  have D_ig : De K mg "is_leg" sIsLeg (["value"] : List Str) := ⟨f_ig, _, F_ig, M a_ig, L2.Binds.all (fun us hl => match us, hl with | [_], _ => rfl)⟩
  have F_ck := fun_of (st := sCheck) l_ck c_ck k_ck
  have D_ck : De K mg "check_legs" sCheck (["legs", "most"] : List Str) := ⟨f_ck, _, F_ck, M a_ck, L2.Binds.all (fun us hl => match us, hl with | [_, _], _ => rfl)⟩
  have F_jl := fun_of (st := sJoined) l_jl c_jl k_jl
  have D_jl : De K mg "joined_legs" sJoined (["legs"] : List Str) := ⟨f_jl, _, F_jl, M a_jl, L2.Binds.all (fun us hl => match us, hl with | [_], _ => rfl)⟩
  have F_co := fun_of (st := sCorners) l_co c_co k_co
  have D_co : De K mg "corners_of" sCorners (["tick", "place", "legs"] : List Str) := ⟨f_co, _, F_co, M a_co, L2.Binds.all (fun us hl => match us, hl with | [_, _, _], _ => rfl)⟩
  have F_ic := fun_of (st := sIsCorner) l_ic c_ic k_ic
  have D_ic : De K mg "is_corner" sIsCorner (["value"] : List Str) := ⟨f_ic, _, F_ic, M a_ic, L2.Binds.all (fun us hl => match us, hl with | [_], _ => rfl)⟩
  have F_aj := fun_of (st := sAreJ) l_aj c_aj k_aj
  have D_aj : De K mg "are_joined" sAreJ (["corner", "following"] : List Str) := ⟨f_aj, _, F_aj, M a_aj, L2.Binds.all (fun us hl => match us, hl with | [_, _], _ => rfl)⟩
  have F_lb := fun_of (st := sLegB) l_lb c_lb k_lb
  have D_lb : De K mg "leg_between" sLegB (["corner", "following"] : List Str) := ⟨f_lb, _, F_lb, M a_lb, L2.Binds.all (fun us hl => match us, hl with | [_, _], _ => rfl)⟩
  have F_rn := fun_of (st := sRng) l_rn c_rn k_rn
  have D_rn : De K mg "_law_rng" sRng (["_law_script", "_law_k"] : List Str) := ⟨f_rn, _, F_rn, M a_rn, L2.Binds.all (fun us hl => match us, hl with | [_, _], _ => rfl)⟩
  have F_dr := fun_of (st := sDraw) l_dr c_dr k_dr
  have D_dr : De K mg "_law_draw" sDraw (["_law_rng_here", "_law_many"] : List Str) := ⟨f_dr, _, F_dr, M a_dr, L2.Binds.all (fun us hl => match us, hl with | [_, _], _ => rfl)⟩
  have F_ch := fun_of (st := sChoice) l_ch c_ch k_ch
  have D_ch : De K mg "_law_choice" sChoice (["_law_rng_here", "_law_some"] : List Str) := ⟨f_ch, _, F_ch, M a_ch, L2.Binds.all (fun us hl => match us, hl with | [_, _], _ => rfl)⟩
  have F_mo := fun_of (st := sModel) l_mo c_mo k_mo
  have D_mo : De K mg "_law_model" sModel (["_law_rng_here", "_law_most"] : List Str) := ⟨f_mo, _, F_mo, M a_mo, L2.Binds.all (fun us hl => match us, hl with | [_, _], _ => rfl)⟩
  have F_pt := fun_of (st := sPts) l_pt c_pt k_pt
  have D_pt : De K mg "_law_points" sPts (["_law_model_here"] : List Str) := ⟨f_pt, _, F_pt, M a_pt, L2.Binds.all (fun us hl => match us, hl with | [_], _ => rfl)⟩
  have F_me := fun_of (st := sMerged) l_me c_me k_me
  have D_me : De K mg "_law_merged" sMerged (["_law_rows"] : List Str) := ⟨f_me, _, F_me, M a_me, L2.Binds.all (fun us hl => match us, hl with | [_], _ => rfl)⟩
  have F_le := fun_of (st := sLegs) l_le c_le k_le
  have D_le : De K mg "_law_legs" sLegs (["_law_points_here"] : List Str) := ⟨f_le, _, F_le, M a_le, L2.Binds.all (fun us hl => match us, hl with | [_], _ => rfl)⟩
  have F_th := fun_of (st := sLThr) l_th c_th k_th
  have D_th : De K mg "_law_through" sLThr (["_law_some"] : List Str) := ⟨f_th, _, F_th, M a_th, L2.Binds.all (fun us hl => match us, hl with | [_], _ => rfl)⟩
  have F_to := fun_of (st := sTold) l_to c_to k_to
  have D_to : De K mg "_law_told" sTold (["_law_call"] : List Str) := ⟨f_to, _, F_to, M a_to, L2.Binds.all (fun us hl => match us, hl with | [_], _ => rfl)⟩
  have F_du := fun_of (st := sDue) l_du c_du k_du
  have D_du : De K mg "_law_due" sDue (["_law_points_here"] : List Str) := ⟨f_du, _, F_du, M a_du, L2.Binds.all (fun us hl => match us, hl with | [_], _ => rfl)⟩
  have F_cs := fun_of (st := sCs) l_cs c_cs k_cs
  have D_cs : De K mg "_law_corners" sCs (["_law_rng_here", "_law_points_here"] : List Str) := ⟨f_cs, _, F_cs, M a_cs, L2.Binds.all (fun us hl => match us, hl with | [_, _], _ => rfl)⟩
  have F_tr := fun_of (st := sTR) l_tr c_tr k_tr
  have D_tr : DeL K mg "_law_through_right" sTR (["_law_rng_here"] : List Str) cd_tr := ⟨f_tr, _, _, _, _, _, _, _, _, l_tr, c_tr, k_tr, M a_tr, L2.Binds.all (fun us hl => match us, hl with | [_], _ => rfl)⟩
  have F_jr := fun_of (st := sJR) l_jr c_jr k_jr
  have D_jr : DeL K mg "_law_joined_right" sJR (["_law_rng_here"] : List Str) cd_jr := ⟨f_jr, _, _, _, _, _, _, _, _, l_jr, c_jr, k_jr, M a_jr, L2.Binds.all (fun us hl => match us, hl with | [_], _ => rfl)⟩
  have F_cr := fun_of (st := sCR) l_cr c_cr k_cr
  have D_cr : De K mg "_law_cut_right" sCR (["_law_rng_here"] : List Str) := ⟨f_cr, _, F_cr, M a_cr, L2.Binds.all (fun us hl => match us, hl with | [_], _ => rfl)⟩
  have F_sr := fun_of (st := sSR) l_sr c_sr k_sr
  have D_sr : De K mg "_law_stay_right" sSR (["_law_rng_here"] : List Str) := ⟨f_sr, _, F_sr, M a_sr, L2.Binds.all (fun us hl => match us, hl with | [_], _ => rfl)⟩
  have F_gr := fun_of (st := sGR) l_gr c_gr k_gr
  have D_gr : DeL K mg "_law_great_right" sGR ([] : List Str) cd_gr := ⟨f_gr, _, _, _, _, _, _, _, _, l_gr, c_gr, k_gr, M a_gr, L2.Binds.all (fun us hl => match us, hl with | [], _ => rfl)⟩
  have F_lw := fun_of (st := sLaw) l_lw c_lw k_lw
  have TL : LnC K C := { cl := ⟨pg, hd, po, sa⟩, nF := nF, nP := nP, nL := nL, nO := nO, nA := nA, nM := nM, nW := nW, nH := nH, most := ⟨_, mo, ⟨_, rfl⟩, mg_, by decide +kernel⟩ }
  have I : LnIs K C := { ha := ha, hn := hn, tk := tk, ob := ob, own := kitOne_own, non := kitOne_of rfl isC tC s_NoneType, int := kitOne_of rfl isC tC s_int, bool := kitOne_of rfl isC tC s_bool, str := kitOne_of rfl isC tC s_str, tuple := kitOne_of rfl isC tC s_tuple, list := kitOne_of rfl isC tC s_list }
  have F_re := fun_of (st := sRepr) l_re c_re k_re
  have F_eq := fun_of (st := sEq) l_eq c_eq k_eq
  have F_ad := fun_of (st := sAdd) l_ad c_ad k_ad
  have F_la := fun_of (st := sLater) l_la c_la k_la
  have F_mv := fun_of (st := sMoved) l_mv c_mv k_mv
  have F_tg := fun_of (st := sThru) l_tg c_tg k_tg
  have F_in : FunD K "__init__" "Line.__init__" (defArgs sInit) (defBody sInit) (defScope sInit) [V.ref T0] [] f_in (PySem.W.fnOf "__init__" "Line.__init__" (defArgs sInit) (defBody sInit) (defScope sInit) (.ref TD) kV_in dc_in pm_in an_in cd_in ct_in) :=
    ⟨⟨_, _, _, _, _, _, _, _, _, _, rfl, l_in, c_in, .inr ⟨by simp, TD, _, [.ref T0], _, rfl, lD, rfl, .cons rfl .nil⟩, .inl rfl⟩, k_in⟩
  have F_st : FunD K "stay" "Line.stay" (defArgs sStay) (defBody sStay) (defScope sStay) [] [("ticks", .int 0)] f_st (PySem.W.fnOf "stay" "Line.stay" (defArgs sStay) (defBody sStay) (defScope sStay) .none (.ref KD) dc_st pm_st an_st cd_st ct_st) :=
    ⟨⟨_, _, _, _, _, _, _, _, _, _, rfl, l_st, c_st, .inl ⟨rfl, rfl⟩, .inr ⟨KD, rfl, fun q hq => by
      rw [List.mem_singleton.mp hq]
      exact ⟨_, kd, ⟨_, rfl⟩⟩⟩⟩, k_st⟩
  have hT0 : ∀ H, SqT K H T0 [] := fun H => .inr ⟨_, #[], nT, lT, rfl, rfl, by decide, .nil⟩
  have CR : ClX.CRead K C (.type "type") := ⟨rd, ga⟩
  have CM : ClX.CMet K C (.type "type") "through" p_tg f_tg := ⟨a_tg, ⟨_, r_tg_⟩, fi_⟩
  have SM : SMet K C (.type "type") "stay" f_st := ⟨⟨_, _, a_st, r_st_⟩, k_st⟩
  have MkC : Mk K C f_in := ⟨mk, a_in, i_in, kC⟩
  have AT : ∀ t ∈ ["NoneType", "int", "bool", "str", "tuple", "list"], AddT K C t := fun t ht => by
    simp only [List.mem_cons, List.not_mem_nil, or_false] at ht
    rcases ht with e | e | e | e | e | e
    · rw [e]; exact ⟨⟨_, o_NoneType_⟩, ⟨_, q_NoneType_⟩, s_NoneType⟩
    · rw [e]; exact ⟨⟨_, o_int_⟩, ⟨_, q_int_⟩, s_int⟩
    · rw [e]; exact ⟨⟨_, o_bool_⟩, ⟨_, q_bool_⟩, s_bool⟩
    · rw [e]; exact ⟨⟨_, o_str_⟩, ⟨_, q_str_⟩, s_str⟩
    · rw [e]; exact ⟨⟨_, o_tuple_⟩, ⟨_, q_tuple_⟩, s_tuple⟩
    · rw [e]; exact ⟨⟨_, o_list_⟩, ⟨_, q_list_⟩, s_list⟩
  have S_G : SupX.SupTxt PySem.Challenge.pw_beamheads_k33_whole_lines_joined K mg "InvalidLegs" "position" CG fI_G := { gC := M gG, cls := ⟨_, _, _, _, _, _, _, _, _, _, _, _, _, _, _, xG, rvG⟩, sa := saG, ga := gaG, gg := ggG, noN := nnG, iC := iiG, tC := tiG, kC := kkG, exC := eeG, tyC := tyG, hdC := hdG, vC := veG, cC := ccG, sup := suG, op := op, gs := N b_super, top := top_, nof := .inl rfl, fn := ⟨_, _, _, _, _, _, _, _, _, _, _, _, _, _, _, _, _, _, _, _, _, _, _, liG, ciG, evG, ⟨_, _, _, _, _, _, lcG, v2G, flG⟩, ⟨_, _, _, leG⟩⟩ }
  have S_N : SupX.SupTxt PySem.Challenge.pw_beamheads_k33_whole_lines_joined K mg "InvalidLine" "value" CN fI_N := { gC := M gN, cls := ⟨_, _, _, _, _, _, _, _, _, _, _, _, _, _, _, xN, rvN⟩, sa := saN, ga := gaN, gg := ggN, noN := nnN, iC := iiN, tC := tiN, kC := kkN, exC := eeN, tyC := tyN, hdC := hdN, vC := veN, cC := ccN, sup := suN, op := op, gs := N b_super, top := top_, nof := .inr rfl, fn := ⟨_, _, _, _, _, _, _, _, _, _, _, _, _, _, _, _, _, _, _, _, _, _, _, liN, ciN, evN, ⟨_, _, _, _, _, _, lcN, v2N, flN⟩, ⟨_, _, _, leN⟩⟩ }
  have X : ExF K mg CG CN CB := { gG := M gG, gN := M gN, gB := M gB, gg := exmOne_of eeG isG tyG sGG, ng := exmOne_of eeG isG tyG sNG, nn := exmOne_of eeN isN tyN sNN, xG := ⟨gaG, ggG, eeG, hdG⟩, xN := ⟨gaN, ggN, eeN, hdN⟩, aG := nnG, aN := nnN, iG := ⟨isG, gaG, ggG, eeG, icG, hn, tk, moG⟩, iN := ⟨isN, gaN, ggN, eeN, icN, hn, tk, moN⟩, bG := kitOne_of (ref_ne dGB) isB tyB sGB, bN := kitOne_of (ref_ne dNB) isB tyB sNB }
  have Q1 : Str := ("_law_through_right" ++ ".<locals>.") ++ "<lambda>"
  refine ⟨PySem.W.fnOf "law" "law" (defArgs sLaw) (defBody sLaw) (defScope sLaw) .none kV_lw dc_lw pm_lw an_lw cd_lw ct_lw, [(cd_tr, P1), (cd_jr, P2), (cd_gr, P3)], spLaw K [(P1, (("_law_through_right" ++ ".<locals>.") ++ "<lambda>" : Str)), (P2, (("_law_joined_right" ++ ".<locals>.") ++ "<lambda>" : Str)), (P3, (("_law_great_right" ++ ".<locals>.") ++ "<lambda>" : Str))], fun p hp => ?_, fun p hp => ?_, fun p hp => ?_, fun s u => .of_eq rfl, fun H a ns hl hH hS => ⟨a, ns, rfl, hS, hl, fun p hp => ?_, fun _ => rfl⟩, fun base hKb hGb TB => ?_⟩
  · simp only [List.mem_cons, List.not_mem_nil, or_false] at hp
    rcases hp with e | e | e
    · rw [e]; exact t1
    · rw [e]; exact t2
    · rw [e]; exact t3
  · simp only [List.mem_cons, List.not_mem_nil, or_false] at hp
    rcases hp with e | e | e
    · rw [e]; exact n1
    · rw [e]; exact n2
    · rw [e]; exact n3
  · simp only [List.mem_cons, List.not_mem_nil, or_false] at hp
    rcases hp with e | e | e
    · rw [e]; exact PySem.W.codeHd_of_K hK h1
    · rw [e]; exact PySem.W.codeHd_of_K hK h2
    · rw [e]; exact PySem.W.codeHd_of_K hK h3
  · simp only [List.mem_cons, List.not_mem_nil, or_false] at hp
    rcases hp with e | e | e
    · rw [e]; exact LamX.TabS.nil (hH (cd_tr, P1) (by simp))
    · rw [e]; exact LamX.TabS.nil (hH (cd_jr, P2) (by simp))
    · rw [e]; exact LamX.TabS.nil (hH (cd_gr, P3) (by simp))
  have L1 : LamF base mg [(P1, (("_law_through_right" ++ ".<locals>.") ++ "<lambda>" : Str)), (P2, (("_law_joined_right" ++ ".<locals>.") ++ "<lambda>" : Str)), (P3, (("_law_great_right" ++ ".<locals>.") ++ "<lambda>" : Str))] "_law_through_right" cd_tr P1 := ⟨TB (cd_tr, P1) (by simp), by simp, fun p hp he => by
    simp only [List.mem_cons, List.not_mem_nil, or_false] at hp
    rcases hp with e | e | e
    · rw [e]
    · rw [e] at he; exact absurd he.symm d12
    · rw [e] at he; exact absurd he.symm d13⟩
  have L2' : LamF base mg [(P1, (("_law_through_right" ++ ".<locals>.") ++ "<lambda>" : Str)), (P2, (("_law_joined_right" ++ ".<locals>.") ++ "<lambda>" : Str)), (P3, (("_law_great_right" ++ ".<locals>.") ++ "<lambda>" : Str))] "_law_joined_right" cd_jr P2 := ⟨TB (cd_jr, P2) (by simp), by simp, fun p hp he => by
    simp only [List.mem_cons, List.not_mem_nil, or_false] at hp
    rcases hp with e | e | e
    · rw [e] at he; exact absurd he d12
    · rw [e]
    · rw [e] at he; exact absurd he.symm d23⟩
  have L3 : LamF base mg [(P1, (("_law_through_right" ++ ".<locals>.") ++ "<lambda>" : Str)), (P2, (("_law_joined_right" ++ ".<locals>.") ++ "<lambda>" : Str)), (P3, (("_law_great_right" ++ ".<locals>.") ++ "<lambda>" : Str))] "_law_great_right" cd_gr P3 := ⟨TB (cd_gr, P3) (by simp), by simp, fun p hp he => by
    simp only [List.mem_cons, List.not_mem_nil, or_false] at hp
    rcases hp with e | e | e
    · rw [e] at he; exact absurd he d13
    · rw [e] at he; exact absurd he d23
    · rw [e]⟩
  show FnG PySem.Challenge.pw_beamheads_k33_whole_lines_joined w K mg base CX0 17 fa _ ["_law_script"] _
  have gII : Cal PySem.Challenge.pw_beamheads_k33_whole_lines_joined w K mg base 1 "is_integer" spIsInt [] := ok_isInt B D_ii
  have gIF := ok_isFrom B D_if gII
  have gIL : Cal PySem.Challenge.pw_beamheads_k33_whole_lines_joined w K mg base 1 "is_list" (spIsList K) [] := ok_isList B D_il
  have gWI := ok_want B D_wi gII
  have gWF := ok_wantF B D_wf gIF
  have gWC := ok_count B D_wc gWF
  have gIG := ok_isLeg B D_ig gII gIF
  have gCK := ok_check B D_ck gIL gIG
  have gJL : Cal PySem.Challenge.pw_beamheads_k33_whole_lines_joined w K mg base 1 "joined_legs" (spJoined K) [] := ok_joined B D_jl
  have gCO : Cal PySem.Challenge.pw_beamheads_k33_whole_lines_joined w K mg base 1 "corners_of" (spCorners K) [] := ok_corners B D_co
  have gIC := ok_isCorner B D_ic gII
  have gAJ : Cal PySem.Challenge.pw_beamheads_k33_whole_lines_joined w K mg base 1 "are_joined" (spAreJ K) [] := ok_areJ B D_aj
  have gLB : Cal PySem.Challenge.pw_beamheads_k33_whole_lines_joined w K mg base 1 "leg_between" (spLegB K) [] := ok_legB B D_lb
  have fIn : FnOk PySem.Challenge.pw_beamheads_k33_whole_lines_joined w K mg base CX0 5 f_in _ pInit (spInit K C) := F_in.ok scInit (fun vs H Q E h => by
    obtain ⟨_, _, _, _, _, _, _, rfl, _⟩ := h
    rfl) (fun cdv A outer s H vs Q E hr h => by
      obtain ⟨t, h1, h2⟩ := body_init B TL gWI gCK gJL gCO hr h
      exact ⟨t, h1.nox, h2⟩)
  have mk3 : Mak PySem.Challenge.pw_beamheads_k33_whole_lines_joined w K mg base 5 "Line" C (spInit K C) [] := by
    obtain ⟨ds, hv, hb⟩ := F_in.binds1 (ps := pInit) 4 1 (by simp) rfl (fun T kV doc pm an cdv ct us its h1 h2 => by
      match us, its, h1, h2 with
      | [a, b, c, d], [z], _, _ => exact ⟨_, rfl, rfl⟩)
    cases hv
    exact ⟨f_in, _, pInit, [], MkC, fIn, M aC, hb, .nil⟩
  have mk2 : ∃ T0 : Addr, Mak PySem.Challenge.pw_beamheads_k33_whole_lines_joined w K mg base 5 "Line" C (spInit K C) [.ref T0] ∧ ∀ H, SqT K H T0 [] := by
    obtain ⟨ds, hv, hb⟩ := F_in.binds1 (ps := pInit) 3 0 (by simp) rfl (fun T kV doc pm an cdv ct us its h1 h2 => by
      match us, its, h1, h2 with
      | [a, b, c], [z], _, _ => exact ⟨_, rfl, rfl⟩)
    exact ⟨T0, ⟨f_in, _, pInit, ds, MkC, fIn, M aC, hb, hv⟩, hT0⟩
  have b2 : ∀ {x : Str} {st : Stmt} , True := fun {_ _} => True.intro
  have fRe : RpOk PySem.Challenge.pw_beamheads_k33_whole_lines_joined w K mg base C f_re := ok_repr F_re TL.toLnTxt
  have RE : ReF PySem.Challenge.pw_beamheads_k33_whole_lines_joined w K mg base C := ⟨f_re, fRe, a_re, i_re⟩
  have fTG := ok_thru F_tg B TL CR ⟨_, ml, ⟨_, rfl⟩⟩ S_G gIC gAJ gLB gJL mk3
  have LI : LiF PySem.Challenge.pw_beamheads_k33_whole_lines_joined w K mg base C CG CN := { bi := B, tx := TL, is := I, mgC := M aC, mk3 := mk3, mk2 := mk2, eq := ⟨f_eq, _, ⟨a_eq, i_eq, neq, so⟩, ok_eq F_eq B TL I (M aC), L2.Binds.all (fun us hl => match us, hl with | [_, _], _ => rfl)⟩, add := ⟨f_ad, _, ⟨sf, a_ad, i_ad, ra⟩, ok_add F_ad B TL I (M aC) S_G S_N gJL mk3, L2.Binds.all (fun us hl => match us, hl with | [_, _], _ => rfl)⟩, addT := AT, stay := ⟨.type "type", f_st, _, CR, SM, ok_stay F_st B gWI gWC mk3, stay_binds F_st, stay_kbinds F_st⟩, thr := ⟨.type "type", p_tg, f_tg, CR, CM, fTG⟩, later := ⟨f_la, _, ⟨a_la, i_la, k_la⟩, ok_later F_la B TL gWI mk3, L2.Binds.all (fun us hl => match us, hl with | [_, _], _ => rfl)⟩, moved := ⟨f_mv, _, ⟨a_mv, i_mv, k_mv⟩, ok_moved F_mv B TL gWI mk3, L2.Binds.all (fun us hl => match us, hl with | [_, _], _ => rfl)⟩, re := RE }
  have gDR : Cal PySem.Challenge.pw_beamheads_k33_whole_lines_joined w K mg base 1 "_law_draw" spDraw [] := ok_draw B D_dr
  have gRN : Cal PySem.Challenge.pw_beamheads_k33_whole_lines_joined w K mg base 1 "_law_rng" (spRng K) [] := ok_rng B D_rn
  have gCH := ok_choice B D_ch gDR
  have gMO := ok_model B D_mo gDR gCH
  have gPT : Cal PySem.Challenge.pw_beamheads_k33_whole_lines_joined w K mg base 1 "_law_points" (spPts K) [] := ok_pts B D_pt
  have gME : Cal PySem.Challenge.pw_beamheads_k33_whole_lines_joined w K mg base 1 "_law_merged" (spJoined K) [] := ok_merged B D_me
  have gLE := ok_legs B D_le gME
  have gCS := ok_cs B D_cs gLE gDR gCH
  have gDU := ok_due B RE D_du gLE
  have TF : TldF PySem.Challenge.pw_beamheads_k33_whole_lines_joined w K mg base C CG CN := ⟨B, D_to, ⟨CB, X⟩, RE⟩
  have FT : LthF PySem.Challenge.pw_beamheads_k33_whole_lines_joined w K mg base C CG := ⟨f_th, _, ok_lthr F_th B (M aC) CR CM fTG, M a_th, k_th, L2.Binds.all (fun us hl => match us, hl with | [_], _ => rfl)⟩
  exact ok_law B F_lw gRN (ok_tr B D_tr L1 TF FT gPT gMO gCS gDR gCH gDU) (ok_jr LI D_jr L2' TF gPT gMO gLE gCH gDU) (ok_cr LI D_cr gDR gPT gMO gLE) (ok_sr LI D_sr gDR) (ok_gr LI D_gr L3 TF FT)
end KX
end
set_option Elab.async false
set_option linter.all false
open PySem PySem.W PyProof.Rows in
set_option maxRecDepth 100000 in
set_option maxHeartbeats 0 in
theorem PySem.Challenge.cw_beamheads_k33_whole_lines_joined_holds : PySem.Challenge.rw_beamheads_k33_whole_lines_joined.Holds := by
  w_on; o_law; k_head; (case hw => w_witness2)
  k_fill
  refine KX.walk_ofG (l := PySem.Challenge.rw_beamheads_k33_whole_lines_joined) (n := 63) (k := 17) (x := "_law_script") rfl (by decide) rfl ⟨rfl, by decide, by decide⟩ (fun w h Y => PySem.W.km_in_of Y) ?F
  case F =>
    intro w mg fa h Y hK G hmg
    refine' KX.fin hK G hmg ?a_ii ?l_ii ?c_ii ?k_ii ?a_if ?l_if ?c_if ?k_if ?a_il ?l_il ?c_il ?k_il ?a_wi ?l_wi ?c_wi ?k_wi ?a_wf ?l_wf ?c_wf ?k_wf ?a_wc ?l_wc ?c_wc ?k_wc ?a_ig ?l_ig ?c_ig ?k_ig ?a_ck ?l_ck ?c_ck ?k_ck ?a_jl ?l_jl ?c_jl ?k_jl ?a_co ?l_co ?c_co ?k_co ?a_ic ?l_ic ?c_ic ?k_ic ?a_aj ?l_aj ?c_aj ?k_aj ?a_lb ?l_lb ?c_lb ?k_lb ?a_rn ?l_rn ?c_rn ?k_rn ?a_dr ?l_dr ?c_dr ?k_dr ?a_ch ?l_ch ?c_ch ?k_ch ?a_mo ?l_mo ?c_mo ?k_mo ?a_pt ?l_pt ?c_pt ?k_pt ?a_me ?l_me ?c_me ?k_me ?a_le ?l_le ?c_le ?k_le ?a_th ?l_th ?c_th ?k_th ?a_to ?l_to ?c_to ?k_to ?a_du ?l_du ?c_du ?k_du ?a_cs ?l_cs ?c_cs ?k_cs ?a_tr ?l_tr ?c_tr ?k_tr ?a_jr ?l_jr ?c_jr ?k_jr ?a_cr ?l_cr ?c_cr ?k_cr ?a_sr ?l_sr ?c_sr ?k_sr ?a_gr ?l_gr ?c_gr ?k_gr ?a_lw ?l_lw ?c_lw ?k_lw ?b_isinstance ?b_int ?b_bool ?b_list ?b_tuple ?b_len ?b_enumerate ?b_range ?b_min ?b_max ?b_abs ?b_divmod ?b_repr ?b_sorted ?b_set ?b_super ?aC ?pg ?hd ?po ?sa ?mk ?kC ?nF ?nP ?nL ?nO ?nA ?nM ?nW ?nH ?mo ?mg_ ?tC ?rd ?ga ?tmc ?isC ?ml ?a_in ?i_in ?l_in ?lD ?lT ?c_in ?k_in ?a_re ?i_re ?l_re ?c_re ?k_re ?a_eq ?i_eq ?l_eq ?c_eq ?k_eq ?a_ad ?i_ad ?l_ad ?c_ad ?k_ad ?a_la ?i_la ?l_la ?c_la ?k_la ?a_mv ?i_mv ?l_mv ?c_mv ?k_mv ?neq ?so ?sf ?ra ?a_tg ?r_tg_ ?l_tg ?fi_ ?c_tg ?k_tg ?a_st ?r_st_ ?l_st ?kd ?c_st ?k_st ?ha ?hn ?tk ?ob ?s_NoneType ?o_NoneType_ ?q_NoneType_ ?s_int ?o_int_ ?q_int_ ?s_bool ?o_bool_ ?q_bool_ ?s_str ?o_str_ ?q_str_ ?s_tuple ?o_tuple_ ?q_tuple_ ?s_list ?o_list_ ?q_list_ ?gG ?xG ?rvG ?saG ?gaG ?ggG ?nnG ?iiG ?tiG ?kkG ?eeG ?tyG ?hdG ?veG ?ccG ?suG ?liG ?ciG ?evG ?lcG ?v2G ?flG ?leG ?isG ?icG ?moG ?gN ?xN ?rvN ?saN ?gaN ?ggN ?nnN ?iiN ?tiN ?kkN ?eeN ?tyN ?hdN ?veN ?ccN ?suN ?liN ?ciN ?evN ?lcN ?v2N ?flN ?leN ?isN ?icN ?moN ?op ?top_ ?gB ?tyB ?isB ?sGG ?sNG ?sNN ?sGB ?sNB ?dGB ?dNB ?y1 ?z1 ?h1 ?y2 ?z2 ?h2 ?y3 ?z3 ?h3 ?t1 ?n1 ?t2 ?n2 ?t3 ?n3 ?d12 ?d13 ?d23
    (case a_ii => k_is)
    (case l_ii => k_is)
    (case c_ii => k_is)
    (case k_ii => k_is)
    (case a_if => k_is)
    (case l_if => k_is)
    (case c_if => k_is)
    (case k_if => k_is)
    (case a_il => k_is)
    (case l_il => k_is)
    (case c_il => k_is)
    (case k_il => k_is)
    (case a_wi => k_is)
    (case l_wi => k_is)
    (case c_wi => k_is)
    (case k_wi => k_is)
    (case a_wf => k_is)
    (case l_wf => k_is)
    (case c_wf => k_is)
    (case k_wf => k_is)
    (case a_wc => k_is)
    (case l_wc => k_is)
    (case c_wc => k_is)
    (case k_wc => k_is)
    (case a_ig => k_is)
    (case l_ig => k_is)
    (case c_ig => k_is)
    (case k_ig => k_is)
    (case a_ck => k_is)
    (case l_ck => k_is)
    (case c_ck => k_is)
    (case k_ck => k_is)
    (case a_jl => k_is)
    (case l_jl => k_is)
    (case c_jl => k_is)
    (case k_jl => k_is)
    (case a_co => k_is)
    (case l_co => k_is)
    (case c_co => k_is)
    (case k_co => k_is)
    (case a_ic => k_is)
    (case l_ic => k_is)
    (case c_ic => k_is)
    (case k_ic => k_is)
    (case a_aj => k_is)
    (case l_aj => k_is)
    (case c_aj => k_is)
    (case k_aj => k_is)
    (case a_lb => k_is)
    (case l_lb => k_is)
    (case c_lb => k_is)
    (case k_lb => k_is)
    (case a_rn => k_is)
    (case l_rn => k_is)
    (case c_rn => k_is)
    (case k_rn => k_is)
    (case a_dr => k_is)
    (case l_dr => k_is)
    (case c_dr => k_is)
    (case k_dr => k_is)
    (case a_ch => k_is)
    (case l_ch => k_is)
    (case c_ch => k_is)
    (case k_ch => k_is)
    (case a_mo => k_is)
    (case l_mo => k_is)
    (case c_mo => k_is)
    (case k_mo => k_is)
    (case a_pt => k_is)
    (case l_pt => k_is)
    (case c_pt => k_is)
    (case k_pt => k_is)
    (case a_me => k_is)
    (case l_me => k_is)
    (case c_me => k_is)
    (case k_me => k_is)
    (case a_le => k_is)
    (case l_le => k_is)
    (case c_le => k_is)
    (case k_le => k_is)
    (case a_th => k_is)
    (case l_th => k_is)
    (case c_th => k_is)
    (case k_th => k_is)
    (case a_to => k_is)
    (case l_to => k_is)
    (case c_to => k_is)
    (case k_to => k_is)
    (case a_du => k_is)
    (case l_du => k_is)
    (case c_du => k_is)
    (case k_du => k_is)
    (case a_cs => k_is)
    (case l_cs => k_is)
    (case c_cs => k_is)
    (case k_cs => k_is)
    (case a_tr => k_is)
    (case l_tr => k_is)
    (case c_tr => k_is)
    (case k_tr => k_is)
    (case a_jr => k_is)
    (case l_jr => k_is)
    (case c_jr => k_is)
    (case k_jr => k_is)
    (case a_cr => k_is)
    (case l_cr => k_is)
    (case c_cr => k_is)
    (case k_cr => k_is)
    (case a_sr => k_is)
    (case l_sr => k_is)
    (case c_sr => k_is)
    (case k_sr => k_is)
    (case a_gr => k_is)
    (case l_gr => k_is)
    (case c_gr => k_is)
    (case k_gr => k_is)
    (case a_lw => k_is)
    (case l_lw => k_is)
    (case c_lw => k_is)
    (case k_lw => k_is)
    (case b_isinstance => k_is)
    (case b_int => k_is)
    (case b_bool => k_is)
    (case b_list => k_is)
    (case b_tuple => k_is)
    (case b_len => k_is)
    (case b_enumerate => k_is)
    (case b_range => k_is)
    (case b_min => k_is)
    (case b_max => k_is)
    (case b_abs => k_is)
    (case b_divmod => k_is)
    (case b_repr => k_is)
    (case b_sorted => k_is)
    (case b_set => k_is)
    (case b_super => k_is)
    (case aC => k_is)
    (case pg => k_is)
    (case hd => k_is)
    (case po => k_is)
    (case sa => k_is)
    (case mk => k_is)
    (case kC => k_is)
    (case nF => k_is)
    (case nP => k_is)
    (case nL => k_is)
    (case nO => k_is)
    (case nA => k_is)
    (case nM => k_is)
    (case nW => k_is)
    (case nH => k_is)
    (case mo => k_is)
    (case mg_ => k_is)
    (case tC => k_is)
    (case rd => k_is)
    (case ga => k_is)
    (case tmc => rfl)
    (case isC => k_is)
    (case ml => k_is)
    (case a_in => k_is)
    (case i_in => k_is)
    (case l_in => k_is)
    (case lD => k_is)
    (case lT => k_is)
    (case c_in => k_is)
    (case k_in => k_is)
    (case a_re => k_is)
    (case i_re => k_is)
    (case l_re => k_is)
    (case c_re => k_is)
    (case k_re => k_is)
    (case a_eq => k_is)
    (case i_eq => k_is)
    (case l_eq => k_is)
    (case c_eq => k_is)
    (case k_eq => k_is)
    (case a_ad => k_is)
    (case i_ad => k_is)
    (case l_ad => k_is)
    (case c_ad => k_is)
    (case k_ad => k_is)
    (case a_la => k_is)
    (case i_la => k_is)
    (case l_la => k_is)
    (case c_la => k_is)
    (case k_la => k_is)
    (case a_mv => k_is)
    (case i_mv => k_is)
    (case l_mv => k_is)
    (case c_mv => k_is)
    (case k_mv => k_is)
    (case neq => k_is)
    (case so => k_is)
    (case sf => k_is)
    (case ra => k_is)
    (case a_tg => k_is)
    (case r_tg_ => k_is)
    (case l_tg => k_is)
    (case fi_ => k_is)
    (case c_tg => k_is)
    (case k_tg => k_is)
    (case a_st => k_is)
    (case r_st_ => k_is)
    (case l_st => k_is)
    (case kd => k_is)
    (case c_st => k_is)
    (case k_st => k_is)
    (case ha => k_is)
    (case hn => k_is)
    (case tk => k_is)
    (case ob => k_is)
    (case s_NoneType => k_is)
    (case o_NoneType_ => k_is)
    (case q_NoneType_ => k_is)
    (case s_int => k_is)
    (case o_int_ => k_is)
    (case q_int_ => k_is)
    (case s_bool => k_is)
    (case o_bool_ => k_is)
    (case q_bool_ => k_is)
    (case s_str => k_is)
    (case o_str_ => k_is)
    (case q_str_ => k_is)
    (case s_tuple => k_is)
    (case o_tuple_ => k_is)
    (case q_tuple_ => k_is)
    (case s_list => k_is)
    (case o_list_ => k_is)
    (case q_list_ => k_is)
    (case gG => k_is)
    (case xG => k_is)
    (case rvG => rfl)
    (case saG => k_is)
    (case gaG => k_is)
    (case ggG => k_is)
    (case nnG => k_is)
    (case iiG => k_is)
    (case tiG => k_is)
    (case kkG => k_is)
    (case eeG => k_is)
    (case tyG => k_is)
    (case hdG => k_is)
    (case veG => k_is)
    (case ccG => k_is)
    (case suG => first | k_is | kernel_rfl)
    (case liG => k_is)
    (case ciG => k_is)
    (case evG => exact fun env => ⟨_, rfl⟩)
    (case lcG => k_is)
    (case v2G => rfl)
    (case flG => decide +kernel)
    (case leG => k_is)
    (case isG => k_is)
    (case icG => k_is)
    (case moG => k_is)
    (case gN => k_is)
    (case xN => k_is)
    (case rvN => rfl)
    (case saN => k_is)
    (case gaN => k_is)
    (case ggN => k_is)
    (case nnN => k_is)
    (case iiN => k_is)
    (case tiN => k_is)
    (case kkN => k_is)
    (case eeN => k_is)
    (case tyN => k_is)
    (case hdN => k_is)
    (case veN => k_is)
    (case ccN => k_is)
    (case suN => first | k_is | kernel_rfl)
    (case liN => k_is)
    (case ciN => k_is)
    (case evN => exact fun env => ⟨_, rfl⟩)
    (case lcN => k_is)
    (case v2N => rfl)
    (case flN => decide +kernel)
    (case leN => k_is)
    (case isN => k_is)
    (case icN => k_is)
    (case moN => k_is)
    (case op => k_is)
    (case top_ => decide +kernel)
    (case gB => k_is)
    (case tyB => k_is)
    (case isB => k_is)
    (case sGG => k_is)
    (case sNG => k_is)
    (case sNN => k_is)
    (case sGB => k_is)
    (case sNB => k_is)
    (case dGB => decide)
    (case dNB => decide)
    (case y1 => k_is)
    (case z1 => rfl)
    (case h1 => first | k_is | kernel_rfl)
    (case y2 => k_is)
    (case z2 => rfl)
    (case h2 => first | k_is | kernel_rfl)
    (case y3 => k_is)
    (case z3 => rfl)
    (case h3 => first | k_is | kernel_rfl)
    (case t1 => exact PySem.W.km_tabs_of Y _ (by decide))
    (case n1 => first | k_is | kernel_rfl)
    (case t2 => exact PySem.W.km_tabs_of Y _ (by decide))
    (case n2 => first | k_is | kernel_rfl)
    (case t3 => exact PySem.W.km_tabs_of Y _ (by decide))
    (case n3 => first | k_is | kernel_rfl)
    (case d12 => decide)
    (case d13 => decide)
    (case d23 => decide)
