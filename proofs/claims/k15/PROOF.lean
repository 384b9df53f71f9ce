import PyProof.Rows.All
import Wide.All
import OpenK.AllK
import Wide.FinOn
import KE.KStateDown
import KE.KExcSuper
import KE.KExcPX
import KE.KExcIs
import HandS.ForMost
import HandS.Exc
import HandS.TryOnly
import HandS.ExcOwn
import HandS.WordsExc
import HandS.ExcInit
import HandS.ExcIs
import HandS.ExcField
import HandS.ExcValue
import HandS.Flow
import HandS.IsInst
import HandS.Conv
import HandS.TupAny
import HandS.TupMul
import HandS.TupLe
import HandS.Wide
import HandS.Star
import HandS.More
import HandS.Codes
import HandS.Property
import HandS.ClsMeth
import HandS.Lambda
import HandS.CallLocal
import HandS.CallSlots
import HandS.MakeKw
import HandS.MakeKwOnly
import HandS.Defaults
import HandS.OwnEq
import HandS.RaiseMore
import HandS.Deep
import HandS.Zip
import HandS.StrMore
import HandS.Evl
import HandS.EndTab
import HandS.Head0
import HandS.Head1
import HandS.Head2
import HandS.HeadEnd
import HandS.HeadHook1
import HandS.HeadHook2
import HandS.HeadHook3
import HandS.HeadHook4
import HandS.HeadWalk
import PySem.Challenge.RW_answerstell_k15_bounds_made_and_asked_an
import HandS.HeadNt
import HandS.Walk
set_option Elab.async false
set_option linter.all false
set_option maxRecDepth 100000
set_option maxHeartbeats 4000000
/-! ### short words for readings -/
local macro_rules | `(tactic| walk_at "nq") => `(tactic| first | assumption | (apply Ne.symm; assumption) | exact L2.ne_of_none (by assumption) (by assumption) | exact (L2.ne_of_none (by assumption) (by assumption)).symm)
local macro_rules | `(tactic| walk_at "hp") => `(tactic| first | assumption | exact L2.upd_same | (refine Eq.trans (L2.upd_ne ?_) ?_; (walk_at "nq"); (walk_at "hp")))
local macro_rules | `(tactic| walk_at "sd") => `(tactic| first | exact rfl | decide | assumption | omega | (constructor <;> omega))
local macro_rules | `(tactic| walk_at "rd1") => `(tactic| first
  | refine ⟨_, rfl, ?_⟩
  | refine ⟨_, _, rfl, rfl, ?_⟩
  | refine ⟨_, _, _, _, rfl, rfl, L2.SqL.of (by walk_at "hp"), rfl, ?_⟩
  | refine ⟨_, _, rfl, .inl (L2.SqL.of (by walk_at "hp")), ?_⟩
  | refine ⟨_, _, rfl, L2.SqT.of (by walk_at "hp"), rfl, ?_⟩
  | refine ⟨_, _, rfl, ?_⟩
  | refine Or.inl ⟨_, rfl, ?_⟩
  | refine Or.inr ⟨_, rfl, ?_⟩
  | refine And.intro (by walk_at "sd") ?_)
local macro_rules | `(tactic| walk_at "rd") => `(tactic| repeat walk_at "rd1")
local macro_rules | `(tactic| walk_at "nm") => `(tactic| dsimp only [L2.start, List.map_cons, List.map_nil, List.length_cons, List.length_nil, Nat.reduceAdd, Nat.reduceSub, List.replicate_succ, List.replicate_zero, List.cons_append, List.nil_append, List.set_cons_zero, List.set_cons_succ, L2.tNext, L2.tSeq, L2.tAsg, L2.gName, L2.tRet, L2.tOp, L2.tUn, L2.tCB, L2.tCons, L2.tNil, L2.tTest, L2.tB, L2.tNot, L2.tAnd, L2.tOr, L2.tIfS, L2.tDrop, L2.tC])
/-! ## Q0. calls by positional promises, data of lists and tuples, relations of heaps -/
namespace Qk
open PySem PySem.Spec PyProof.Rows L2
section
variable {X : Cx} {k : Nat} {f C : Addr} {sp : Sp} {E : L2.St → XK} {x : Str} {p pos : Pos} {e : Expr} {es : List Expr} {t : TA}
theorem run_fnRS {CX : CXT} {pins : List (Addr × Obj)} {σ : L2.St} {H : Hp} {s : Shared} {Q : VK} {us : List Value} {vs : List V} (F : FnR X.prog X.w X.K X.mg X.base CX k f sp) (hr : Room k X.A) (hx : PassesAt CX X σ (E σ))
    (I : Inv X pins σ H s) (r : Vals vs us) (h : sp vs H Q (E σ)) : wpAny (model X.prog X.w) X.A (call (.ref f) us) (EP X pins σ Q) X.xe s := by
  refine wpAny_call (codeAny_mono (F X.A X.stack s H us vs Q (E σ) hr I.env0 r h) fun r s' hq => ?_)
  match r, hq with
  | .error e, hq => exact hx pins H s e s' I hq
  | .ok (.ret u), hq => exact I.after hq
/-- f(e, ..), f a def of the module, by its positional promise; what is raised is wished for at the slots -/
theorem pe_callR {CX : CXT} (F : FnR X.prog X.w X.K X.mg X.base CX k f sp) (hr : Room k X.A) (hg : Gl X x) (hm : X.mg x = some (.ref f)) (hk : PySem.W.keepIn X.K (.ref f) = true) (hx : ∀ σ, PassesAt CX X σ (E σ)) (ha : PA X (e :: es) t)
    (hdb : (x == ("__debug__" : Str)) = false := by decide) (he : starEach (e :: es) X.env = (false, eval e X.env) :: starEach es X.env := by rfl) (hpl : (backTo pos (starEach es X.env)).any (·.1) = false := by rfl) :
    PE X (.Call (.Name x p) (e :: es) [] pos) (fun σ H Q => t σ H fun vs H1 => sp vs H1 Q (E σ)) := by
  constructor
  intro pins s σ H Q I h
  refine wpAny_Call_Name_kw (ld_glob I hg hm ?_ hdb)
  refine PySem.W.callWith_K (h₀ := X.base) I.ok.mod.kin hk ?_ he hpl
  refine thn (ha.run pos pins s σ H _ I h) ?_
  rintro us s1 ⟨vs, H1, I1, r, q⟩
  exact ⟨I1.kIn, run_fnRS F hr (hx σ) I1 r q⟩
/-- nothing is let out here -/
theorem px0 {P : Program} {w : World} : ∀ σ, PassesAt (L2.CX P w) X σ E0 := by
  rintro σ pins H s e s' I ⟨_, _, _, _, _, _, _, _, _, _, _, _, z⟩
  exact z.elim
theorem px00 : ∀ σ, PassesAt CX0 X σ E0 := by
  rintro σ pins H s e s' I z
  exact z.elim
end
section
variable {P : Program} {w : World} {K : PySem.W.Frag} {mg : Str → Option Value} {base : Heap}
/-- the promise of a def without defaults -/
theorem fo_of {x qual : Str} {params : Arguments} {body : List Stmt} {scope : Scope} {f : Addr} {fd : FuncData} {N ps : List Str} {k : Nat} {sp : Sp} {CX : CXT}
    (F : FunD K x qual params body scope [] [] f fd) (S : FnScope N ps scope)
    (hb : ∀ (kV doc pm : Value) (an : Option Addr) (cdv ct : Value) (us : List Value), us.length = ps.length → bindArgs (PySem.W.fnOf x qual params body scope .none kV doc pm an cdv ct) ⟨us, []⟩ = pure (ps.zip us))
    (len : ∀ vs H Q E, sp vs H Q E → vs.length = ps.length)
    (hbody : ∀ (cdv : Value) (A : Around) (outer : List Env) (s : Shared) (H : Hp) (vs : List V) (Q : VK) (E : XK), Room k (A.deeper (envOfC qual scope s.heap.objs.size f cdv)) → sp vs H Q E →
      ∃ t, PSs (cxOf CX P w K mg base N qual scope f cdv A outer s H E) body t ∧ t { nx := fun _ H' => Q .non H', rt := Q } (start N vs) H) : FnR P w K mg base CX (k + 1) f sp := by
  have F1 := F.ok (P := P) (w := w) (mg := mg) (base := base) S len hbody
  have F2 := F1.raw (F.bindsN hb) .nil
  refine F2.imp fun vs H Q E h => ?_
  show sp (vs ++ []) H Q E
  rw [List.append_nil]
  exact h
end
/-! ### data -/
theorem dpAll_ints {K : PySem.W.Frag} {H : Hp} : ∀ (ns : List Int), DpAll K H (ns.map V.int) (ns.map PyData.int)
  | [] => .nil
  | n :: ns => .cons (.int n) (dpAll_ints ns)
theorem lay_ints : ∀ (ns : List Int), PyData.canLayAll0 (ns.map PyData.int) = true ∧ PyData.depthAll (ns.map PyData.int) ≤ 1
  | [] => ⟨by simp [PyData.canLayAll0], by simp [PyData.depthAll]⟩
  | n :: ns => by
    obtain ⟨h1, h2⟩ := lay_ints ns
    constructor
    · simp only [List.map_cons, PyData.canLayAll0, PyData.canLay0, h1, Bool.and_self]
    · simp only [List.map_cons, PyData.depthAll, PyData.depth]
      omega
theorem shaped_ints (ns : List Int) : SeqAt.shaped (.list (ns.map PyData.int)) = true := by
  obtain ⟨h1, h2⟩ := lay_ints ns
  unfold SeqAt.shaped
  rw [Bool.and_eq_true, decide_eq_true_eq]
  refine ⟨by simp only [PyData.canLay0, h1], ?_⟩
  simp only [PyData.depth]
  omega
theorem dp_ints {K : PySem.W.Frag} {H : Hp} {a : Addr} {ns : List Int} (h : H a = some (.lst (ns.map V.int))) : Dp K H (.ref a) (.list (ns.map PyData.int)) := .lst (SqL.of h) (dpAll_ints ns)
theorem dp_nil {K : PySem.W.Frag} {H : Hp} {a : Addr} (h : H a = some (.lst [])) : Dp K H (.ref a) (.list []) := .lst (SqL.of h) .nil
theorem shaped_nil : SeqAt.shaped (.list []) = true := by decide
theorem eqv_nil (ds : List PyData) : PyData.eqv (.list ds) (.list []) = ds.isEmpty := by
  cases ds <;> simp [PyData.eqv, PyData.eqvAll]
/-! ### numbers -/
theorem fmod_in (x m : Int) (h : 1 ≤ m) : 0 ≤ x.fmod m ∧ x.fmod m < m := by
  rw [Int.fmod_eq_emod_of_nonneg x (by omega)]
  exact ⟨Int.emod_nonneg x (by omega), Int.emod_lt_of_pos x (by omega)⟩
theorem fdiv_nonneg {x m : Int} (hx : 0 ≤ x) (h : 1 ≤ m) : 0 ≤ x.fdiv m := by
  rw [Int.fdiv_eq_ediv_of_nonneg x (by omega)]
  exact Int.ediv_nonneg hx (by omega)
theorem mix3 {x a c1 c2 c3 : Int} (x0 : 0 ≤ x) (x1 : x < 2147483648) (a0 : 0 ≤ a) (a1 : a ≤ 1000000) (h1 : 0 ≤ c1 ∧ c1 ≤ 100000) (h2 : 0 ≤ c2 ∧ c2 ≤ 100000) (h3 : 0 ≤ c3 ∧ c3 ≤ 100000) :
    (x * (2 * a + c1) + c2 * a * a + c3).natAbs < 2 ^ 64 := by
  have b1 : 0 ≤ x * (2 * a + c1) := Int.mul_nonneg x0 (by omega)
  have b2 : x * (2 * a + c1) ≤ 2147483648 * 2100000 := Int.mul_le_mul (by omega) (by omega) (by omega) (by decide)
  have b3 : c2 * a ≤ 100000 * 1000000 := Int.mul_le_mul (by omega) a1 a0 (by decide)
  have b4 : 0 ≤ c2 * a := Int.mul_nonneg h2.1 a0
  have b5 : c2 * a * a ≤ 100000 * 1000000 * 1000000 := Int.mul_le_mul b3 a1 a0 (by decide)
  have b6 : 0 ≤ c2 * a * a := Int.mul_nonneg b4 a0
  omega
theorem great_pos {x : Int} {b : Bool} (h : decide ((10 : Int) ^ (18 : Int).toNat ≤ (if x < 0 then -x else x)) = true) : (0 : Int) ≤ 2 * ((if x < 0 then -x else x) - (10 : Int) ^ (18 : Int).toNat) + (if b = true then 1 else 0) := by
  have h' := of_decide_eq_true h
  cases b
  · show 0 ≤ 2 * ((if x < 0 then -x else x) - (10 : Int) ^ (18 : Int).toNat) + 0
    omega
  · show 0 ≤ 2 * ((if x < 0 then -x else x) - (10 : Int) ^ (18 : Int).toNat) + 1
    omega
theorem at_ints {ns : List Int} {i : Int} (h0 : 0 ≤ i) (h1 : i < ns.length) : atI (ns.map V.int) i = some (.int (ns.getD i.toNat 0)) := by
  obtain ⟨n, rfl⟩ := Int.eq_ofNat_of_zero_le h0
  have hn : n < ns.length := by omega
  have e : (ns.map V.int)[n]? = some (.int (ns.getD n 0)) := by
    rw [List.getElem?_map, List.getElem?_eq_getElem hn]
    simp [List.getD, hn]
  exact atI_nat e
/-! ### heaps -/
/-- all that is tracked stays, but p | but p and tables -/
def ExtS (p : Addr) (H H' : Hp) : Prop := ∀ a o, a ≠ p → H a = some o → H' a = some o
def ExtW (p : Addr) (H H' : Hp) : Prop := ∀ a o, a ≠ p → (∀ ps, o ≠ .tbl ps) → H a = some o → H' a = some o
theorem ExtS.refl {p : Addr} {H : Hp} : ExtS p H H := fun _ _ _ h => h
theorem ExtS.trans {p : Addr} {H H1 H2 : Hp} (a : ExtS p H H1) (b : ExtS p H1 H2) : ExtS p H H2 := fun c o n h => b c o n (a c o n h)
theorem ExtS.of {p : Addr} {H H' : Hp} (h : Same H H') : ExtS p H H' := fun a o _ e => h a o e
theorem ExtS.weak {p : Addr} {H H' : Hp} (h : ExtS p H H') : ExtW p H H' := fun a o n _ e => h a o n e
theorem ExtW.refl {p : Addr} {H : Hp} : ExtW p H H := fun _ _ _ _ h => h
theorem ExtW.trans {p : Addr} {H H1 H2 : Hp} (a : ExtW p H H1) (b : ExtW p H1 H2) : ExtW p H H2 := fun c o n z h => b c o n z (a c o n z h)
theorem same_new {H : Hp} {a : Addr} {o : HO} (h : H a = none) : Same H (upd H a o) := fun b u e => by
  rw [upd_ne (ne_of_none e h)]
  exact e
theorem extS_at {p : Addr} {H : Hp} {o : HO} : ExtS p H (upd H p o) := fun b u n e => by
  rw [upd_ne n]
  exact e
/-- a new object, the heap a letter from then on: «intro z hz; generalize hE : upd H z _ = H'; obtain ⟨h, e⟩ := new_ok hE hz» -/
theorem new_ok {H H' : Hp} {z : Addr} {o : HO} (hE : upd H z o = H') (hz : H z = none) : H' z = some o ∧ Same H H' := by
  subst hE
  exact ⟨upd_same, same_new hz⟩
/-- a list changed at a place, the heap a letter from then on -/
theorem set_abs {H : Hp} {Q : Hp → Prop} {p : Addr} {xs : List V} {k : Int} {j : Nat} {v : V} (ys : List V) (hp : H p = some (.lst xs)) (hj : ixN xs.length k = some j) (e : xs.set j v = ys)
    (h : ∀ H', H' p = some (.lst ys) → ExtS p H H' → Q H') : rSetL (.ref p) (.int k) v H Q :=
  ⟨p, xs, k, j, rfl, rfl, hp, hj, by rw [e]; exact h _ upd_same extS_at⟩
end Qk

/-! ## R1. further rules: list == [], repr of a bool, tuple * int, text * int -/
namespace Qk
open PySem PySem.Spec PyProof.Rows L2
section
variable {X : Cx}
theorem plain_list {h : Heap} {a : Addr} {its : Array Value} (p : PlainL h a its) : h.IsList a its := by
  obtain ⟨o, n, e, c, _, d⟩ := p
  exact ⟨o, e, c, n, d⟩
/-- xs == [], whatever stands in xs -/
def rEqN (K : PySem.W.Frag) : R2 := fun x y H Q => ∃ (a b : Addr) (xs : List V), x = .ref a ∧ y = .ref b ∧ SqL K H a xs ∧ SqL K H b [] ∧ Q (.bl xs.isEmpty) H
theorem op_eqN (hu : X.A.units < cLine) : OpR X (compareOp .Eq) (rEqN X.K) := by
  rintro pins s σ H x y v u Q I rx ry ⟨a, b, xs, rfl, rfl, ha, hb, q⟩
  cases rx
  cases ry
  obtain ⟨i1, r1, p1, _⟩ := I.list ha
  obtain ⟨i2, r2, p2, _⟩ := I.list hb
  cases r2
  have l1 := plain_list p1
  have l2 := plain_list p2
  cases xs with
  | nil =>
    cases r1
    exact SeqAt.eq_listAt (e := fun _ => true) l1 l2 rfl hu (fun j h1 _ => absurd h1 (by simp)) ⟨.bl true, H, I, rfl, q⟩
  | cons x xs =>
    cases r1
    exact SeqAt.eq_list_lengthsAt l1 l2 (by simp) hu ⟨.bl false, H, I, rfl, q⟩
def boolText (b : Bool) : Str := if b then "True" else "False"
theorem call_repr_bl : CallR X (.builtin "repr") (fun xs H Q => ∃ b, xs = [.bl b] ∧ Q (.str (boolText b)) H) := by
  rintro pins s σ H xs us Q I r ⟨b, rfl, q⟩
  obtain ⟨u, rfl, rfl⟩ := vals1 r
  exact PySem.P.repr_of_bool ⟨.str (boolText b), H, I.tok _, ⟨_, rfl⟩, q⟩
theorem boolText_inj {a b : Bool} : decide (boolText a = boolText b) = decide (a = b) := by
  cases a <;> cases b <;> decide
/-! ### a for, a comprehension over what is a list or a tuple -/
def Sq (K : PySem.W.Frag) (H : Hp) (a : Addr) (xs : List V) : Prop := SqL K H a xs ∨ SqT K H a xs
def iSeq (K : PySem.W.Frag) (tl : TE) : TI := fun σ H R => tl σ H fun x H1 => ∃ (a : Addr) (xs : List V), x = .ref a ∧ ((SqL K H1 a xs ∧ R (Itl K a) H1) ∨ (SqT K H1 a xs ∧ R (Itt K a) H1))
theorem pi_seq {tg l : Expr} {tl : TE} (hl : PE X l tl) : PI X tg l (iSeq X.K tl) := by
  constructor
  intro pins s σ H R I h
  refine thn (hl.run pins s σ H _ I h) ?_
  rintro v s1 ⟨x, H1, I1, r1, a, xs, rfl, q1⟩
  cases r1
  have fp : ∀ b ∈ [s1.heap.objs.size], FpOk X pins H1 b := fun b hb => by
    rw [List.mem_singleton.mp hb]
    exact I1.fpOk (Nat.le_refl _) (I1.hok.fresh (Nat.le_refl _))
  rcases q1 with ⟨hq, q⟩ | ⟨hq, q⟩
  · obtain ⟨its, rv, p, hz⟩ := I1.list hq
    exact wpAny_pyIter_list p.isList ⟨_, _, _, _, H1, rfl, I1.kept (t' := s1.toks) (fun b o e => Heap.get?_push_of_some _ e), turn_list a _, ⟨_, Heap.get?_push_size _ rfl, rfl, rfl⟩, fp, q⟩
  · obtain ⟨its, rv, p, hz⟩ := I1.tuple hq
    exact wpAny_pyIter_tuple p ⟨_, _, _, _, H1, rfl, I1.kept (t' := s1.toks) (fun b o e => Heap.get?_push_of_some _ e), turn_tuple a _, ⟨_, Heap.get?_push_size _ rfl, rfl, rfl⟩, fp, q⟩
end
/-! ### comprehensions whose turns change nothing that is tracked -/
theorem sq_same {K : PySem.W.Frag} {H H' : Hp} {a : Addr} {xs : List V} (e : Same H H') (h : Sq K H a xs) : Sq K H' a xs := h.elim (fun h => .inl (e.seq h)) fun h => .inr (h.elim (fun h => .inl (h.elim (fun h => .inl (e _ _ h)) fun ⟨o, h⟩ => .inr ⟨o, e _ _ h⟩)) .inr)
theorem sqT_same {K : PySem.W.Frag} {H H' : Hp} {a : Addr} {xs : List V} (e : Same H H') (h : SqT K H a xs) : SqT K H' a xs := h.elim (fun h => .inl (h.elim (fun h => .inl (e _ _ h)) fun ⟨o, h⟩ => .inr ⟨o, e _ _ h⟩)) .inr
theorem fm_snoc {p : V → Bool} {f : V → V} {xs : List V} {i : Nat} {x : V} (hx : xs[i]? = some x) : ((xs.take (i + 1)).filter p).map f = ((xs.take i).filter p).map f ++ (if p x = true then [f x] else []) := by
  have e : xs.take (i + 1) = xs.take i ++ [x] := by
    rw [List.take_add_one, hx]
    rfl
  rw [e, List.filter_append, List.map_append]
  cases hp : p x <;> simp [hp]
theorem small_le {n : Nat} (h : n ≤ 100000) : n < sizeLine := Nat.lt_of_le_of_lt h (by decide)
theorem lc_fm {K : PySem.W.Frag} {a : Addr} {xs : List V} {g : TG} {tt : TT} {te : TE} {vs : List Nat} {σ : L2.St} {H1 : Hp} {Q : VK} {tl : TE} (ha : ∀ Q' : VK, Q' (.ref a) H1 → tl σ H1 Q') (p : V → Bool) (f : V → V) (hs : Sq K H1 a xs) (hl : xs.length ≤ 100000)
    (turn : ∀ x ∈ xs, ∀ H, Same H1 H → ∀ (A : V → Hp → Prop) (B : Hp → Prop), (p x = true → ∀ H', Same H H' → A (f x) H') → (p x = false → ∀ H', Same H H' → B H') →
      g x (wipe σ vs) H fun σ2 H2 => wipe σ2 vs = wipe σ vs ∧ tt σ2 H2 fun b H3 => if b = true then te σ2 H3 A else B H3)
    (hd : ∀ D H', H1 D = none → H' D = some (.lst ((xs.filter p).map f)) → Same H1 H' → Q (.ref D) H') :
    tLc (iSeq K tl) g tt te vs σ H1 Q := by
  refine ha _ ?_
  refine ⟨a, xs, rfl, ?_⟩
  have len : ∀ i, ((xs.take i).filter p).length < sizeLine := fun i => small_le (by
    have h1 := List.length_filter_le p (xs.take i)
    have h2 : (xs.take i).length ≤ xs.length := by rw [List.length_take]; omega
    omega)
  have st : ∀ D, H1 D = none → H1 D = none ∧ (upd H1 D (.lst [])) D = some (.lst (((xs.take 0).filter p).map f)) ∧ Same H1 (upd H1 D (.lst [])) := fun D hD => ⟨hD, by rw [List.take_zero]; exact upd_same, same_new hD⟩
  have tr : ∀ D i x H, xs[i]? = some x → H1 D = none → H D = some (.lst (((xs.take i).filter p).map f)) → Same H1 H → g x (wipe σ vs) H fun σ2 H2 => wipe σ2 vs = wipe σ vs ∧ tt σ2 H2 fun b H3 =>
      if b = true then te σ2 H3 fun y H4 => ∃ acc, H4 D = some (.lst acc) ∧ acc.length < sizeLine ∧ (H1 D = none ∧ (upd H4 D (.lst (acc ++ [y]))) D = some (.lst (((xs.take (i + 1)).filter p).map f)) ∧ Same H1 (upd H4 D (.lst (acc ++ [y]))))
      else (H1 D = none ∧ H3 D = some (.lst (((xs.take (i + 1)).filter p).map f)) ∧ Same H1 H3) := fun D i x H hx hD hH e => by
    refine turn x (List.mem_of_getElem? hx) H e _ _ (fun hp H' e' => ?_) (fun hp H' e' => ?_)
    · refine ⟨_, e' _ _ hH, by rw [List.length_map]; exact len i, hD, ?_, fun b o hb => ?_⟩
      · rw [upd_same, fm_snoc hx, if_pos hp]
      · rw [upd_ne (ne_of_none hb hD)]
        exact e' _ _ (e _ _ hb)
    · refine ⟨hD, ?_, e.trans e'⟩
      rw [fm_snoc hx, if_neg (by rw [hp]; exact Bool.false_ne_true), List.append_nil]
      exact e' _ _ hH
  have en : ∀ D H, H1 D = none ∧ H D = some (.lst (((xs.take xs.length).filter p).map f)) ∧ Same H1 H → Q (.ref D) H := fun D H ⟨h1, h2, h3⟩ => hd D H h1 (by rw [List.take_length] at h2; exact h2) h3
  rcases hs with hs | hs
  · exact .inl ⟨hs, fun D hD => lc_list (xs := xs) (fun i H => H1 D = none ∧ H D = some (.lst (((xs.take i).filter p).map f)) ∧ Same H1 H) (st D hD) (fun i H _ h => h.2.2.seq hs) (fun i x H hx h => tr D i x H hx h.1 h.2.1 h.2.2) (en D)⟩
  · exact .inr ⟨hs, fun D hD => lc_tup (xs := xs) (fun i H => H1 D = none ∧ H D = some (.lst (((xs.take i).filter p).map f)) ∧ Same H1 H) (st D hD) (fun i H _ h => sqT_same h.2.2 hs) (fun i x H hx h => tr D i x H hx h.1 h.2.1 h.2.2) (en D)⟩
/-! ### kinds of values -/
def isIntV : V → Bool
  | .int _ => true
  | _ => false
/-- what isinstance(v, int) and not isinstance(v, bool) says of a value -/
def IntQ (K : PySem.W.Frag) (H : Hp) (v : V) (b : Bool) : Prop := ∃ (t : Value) (b1 b2 : Bool), TyX K H v t ∧ PySem.W.kitOne K t (.type "int") = some b1 ∧ PySem.W.kitOne K t (.type "bool") = some b2 ∧ b = (b1 && !b2)
theorem ki (a b : String) {r : Bool} (h : kitB a b = some r := by decide +kernel) (K : PySem.W.Frag) : PySem.W.kitOne K (.type a) (.type b) = some r := kit_ty h
section
variable {K : PySem.W.Frag} {H H' : Hp}
theorem intQ_int (i : Int) : IntQ K H (.int i) true := ⟨_, true, false, .base (.int i), ki "int" "int" (by decide +kernel) K, ki "int" "bool" (by decide +kernel) K, rfl⟩
theorem intQ_bl (i : Bool) : IntQ K H (.bl i) false := ⟨_, true, true, .base (.bl i), ki "bool" "int" (by decide +kernel) K, ki "bool" "bool" (by decide +kernel) K, rfl⟩
theorem intQ_non : IntQ K H .non false := ⟨_, false, false, .base .non, ki "NoneType" "int" (by decide +kernel) K, ki "NoneType" "bool" (by decide +kernel) K, rfl⟩
theorem intQ_str (x : Str) : IntQ K H (.str x) false := ⟨_, false, false, .base (.str x), ki "str" "int" (by decide +kernel) K, ki "str" "bool" (by decide +kernel) K, rfl⟩
theorem intQ_lst {a : Addr} {xs : List V} (h : H a = some (.lst xs)) : IntQ K H (.ref a) false := ⟨_, false, false, .base (.lst h), ki "list" "int" (by decide +kernel) K, ki "list" "bool" (by decide +kernel) K, rfl⟩
theorem intQ_tup {a : Addr} {xs : List V} (h : H a = some (.tup xs)) : IntQ K H (.ref a) false := ⟨_, false, false, .base (.tup h), ki "tuple" "int" (by decide +kernel) K, ki "tuple" "bool" (by decide +kernel) K, rfl⟩
theorem tyX_same {v : V} {t : Value} (e : Same H H') (h : TyX K H v t) : TyX K H' v t := by
  cases h with
  | base b =>
    refine .base ?_
    cases b with
    | non => exact .non
    | bl x => exact .bl x
    | int i => exact .int i
    | str x => exact .str x
    | flt x => exact .flt x
    | lst h => exact .lst (e _ _ h)
    | frz h => exact .frz (e _ _ h)
    | tup h => exact .tup (e _ _ h)
    | dK h => exact .dK (e _ _ h)
    | dT h => exact .dT (e _ _ h)
    | ins h a b c d f => exact .ins (e _ _ h) a b c d f
  | byt b => exact .byt b
  | set h => exact .set (e _ _ h)
  | kList h c => exact .kList h c
  | kTuple h c => exact .kTuple h c
  | kDict h c => exact .kDict h c
  | fTuple h => exact .fTuple (e _ _ h)
  | fDict h => exact .fDict (e _ _ h)
theorem intQ_same {v : V} {b : Bool} (e : Same H H') (h : IntQ K H v b) : IntQ K H' v b := by
  obtain ⟨t, b1, b2, ty, k1, k2, eb⟩ := h
  exact ⟨t, b1, b2, tyX_same e ty, k1, k2, eb⟩
/-- of each of some values it is known whether it is an integer -/
def Knows (K : PySem.W.Frag) (H : Hp) (xs : List V) : Prop := ∀ v ∈ xs, IntQ K H v (isIntV v)
theorem knows_nil : Knows K H [] := fun _ h => by cases h
theorem knows_cons {v : V} {xs : List V} (h : IntQ K H v (isIntV v)) (r : Knows K H xs) : Knows K H (v :: xs) := fun u hu => by
  rcases List.mem_cons.mp hu with rfl | hu
  · exact h
  · exact r u hu
theorem knows_ints (ns : List Int) : Knows K H (ns.map V.int) := fun v hv => by
  obtain ⟨n, _, rfl⟩ := List.mem_map.mp hv
  exact intQ_int n
theorem Knows.same {xs : List V} (e : Same H H') (h : Knows K H xs) : Knows K H' xs := fun v hv => intQ_same e (h v hv)
theorem filt_none {α : Type} (p : α → Bool) : ∀ xs : List α, (xs.filter fun v => !p v).isEmpty = xs.all p
  | [] => rfl
  | x :: xs => by
    have ih := filt_none p xs
    rw [List.filter_cons, List.all_cons]
    cases hp : p x
    · simp
    · simpa using ih
theorem all_ints (ns : List Int) : (ns.map V.int).all isIntV = true := by
  rw [List.all_eq_true]
  intro v hv
  obtain ⟨n, _, rfl⟩ := List.mem_map.mp hv
  rfl
end
end Qk

/-! ## E1. own exceptions whose __init__ says super().__init__(..) -/
namespace Qk
open PySem PySem.Spec PyProof.Rows L2
/-- an exception that has no dict yet -/
abbrev bareX (C t : Addr) : Obj := { cls := .ref C, dict := none, data := .fields #[.ref t, .none, .none, .none, .bool false, .none] }
theorem call_mw {prog : Program} {w : World} {A : Around} {E : Value → Shared → Prop} {s : Shared} {K : PySem.W.Frag} {C x u t : Addr} {rest : List Value} {Q : Value → Shared → Prop} (T : OexC K C) (X : K.In s.heap)
    (hu : s.heap.get? u = some (PySem.W.kxs_mw "ValueError.__init__" x)) (he : s.heap.get? x = some (bareX C t)) (hz : rest.length ≤ sizeLine)
    (h : ∀ h' t', (∀ b o, b ≠ x → s.heap.get? b = some o → h'.get? b = some o) → h'.get? x = some (bareX C t') → Q .none { s with heap := h' }) : wpAny (model prog w) A (call (.ref u) rest) Q E s := by
  obtain ⟨nm, q, N, bs, bm, sn, sub, ab, col, dd, k0, k1, k2, k3, k5, hC, hbm⟩ := T.cls
  have FB := PySem.F.excBase_ValueError
  obtain ⟨hh, g, d, tk, os⟩ := s
  refine wpAny_call (codeAny_of_tree ?_)
  show wpAny _ A.in1 (callAny (.ref u) ⟨rest, []⟩) _ _ _
  simp only [callAny]
  refine wpAny_bind (wpAny_load hu ?_)
  have tw : (Value.type "method-wrapper" == Value.type "method" || Value.type "method-wrapper" == Value.type "builtin_function_or_method" || Value.type "method-wrapper" == Value.type "method-wrapper") = true := by decide
  simp only [PySem.W.kxs_mw, tw, if_true]
  refine PySem.W.KFB.if_so (by decide) ?_
  refine wpAny_bind (PySem.W.check_bound_init FB.toExcCallFacts (X _ _ hC) he rfl (wpAny_bind (wpAny_pure (wpAny_pure ?_))))
  refine ⟨plainId_quiet FB.init.plain _, codeAny_builtin FB.initEntry ?_⟩
  exact PySem.W.exc_init_tree (cls := .ref C) (t0 := t) (dv := none) (c2 := .none) (c3 := .none) (b4 := .bool false) he hz fun h' k e' _ => h h' _ k e'
/-- what the written part says of an own exception class at C whose __init__, at fI, closes over the class by the cell cc; cda: its code object -/
structure SupC (P : Program) (K : PySem.W.Frag) (C fI cc cda : Addr) : Prop where
  oex : OexC K C
  cell : ∃ cl cld csl, K.lookup cc = some ⟨cl, cld, .cell (some (.ref C)), csl⟩
  code : ∃ ccl cdd vs ccs file tf, K.lookup cda = some ⟨ccl, cdd, .fields vs, ccs⟩ ∧ vs[2]? = some (.str file tf) ∧ ((P.main.file : Str) == file) = true
  sub : PySem.W.mroIn K C (.ref C) = some true
  isV : PySem.W.subIn K (.ref C) (.type "ValueError") = some true
  sup : PySem.W.ks_superIn K C C "__init__" = some (some (.builtin "ValueError.__init__"))
  third : PySem.W.nsIn K cStatics "thirdparty.any" = some none
  top : (P.main.scope.names.lookup ("super" : Str)).isSome = false
theorem oex_cls {K : PySem.W.Frag} {C : Addr} (T : OexC K C) : ∃ cd, PySem.W.clsIn K C = some cd := by
  obtain ⟨nm, q, N, bs, bm, sn, sub, ab, col, dd, k0, k1, k2, k3, k5, hC, hbm⟩ := T.cls
  cases h : PySem.W.clsIn K C with
  | some cd => exact ⟨cd, rfl⟩
  | none =>
    unfold PySem.W.clsIn at h
    rw [hC] at h
    cases h
section
variable {X : Cx} {σ : L2.St} {H : Hp} {s : Shared}
/-- super().__init__(e, ..) as a statement -/
theorem super_stmt {a C fI cc cda : Addr} {fd : FuncData} {ar : Arg} {oc : Value} {od : Option Addr} {osl : Array (Option Value)} {body : List Stmt} {e : Expr} {es : List Expr} {t : TA} {p0 p1 p2 p3 p4 : Pos} {pl : Sem Bool}
    (I : Inv X [] σ H s) (S : SupC X.prog X.K C fI cc cda) (ha : H a = some (exo a C none)) (hms : X.mg "super" = none)
    (hf : X.K.lookup fI = some ⟨oc, od, .func fd, osl⟩) (hp : (fd.params.posonlyargs ++ fd.params.args).head? = some ar) (hN : X.N[0]? = some ar.arg) (hs0 : σ[0]? = some (some (.ref a)))
    (hks : X.env.kindOf "super" = some .globalImplicit) (hkc : X.env.kindOf "__class__" = some .free) (hka : X.env.kindOf ar.arg = some .local)
    (hfu : X.env.func = some fI) (hco : X.env.code = .ref cda) (hcc : X.env.cells.lookup ("__class__" : Str) = some cc) (hargs : PA X (e :: es) t) (htop : t σ H fun vs H1 => H1 = H ∧ vs.length ≤ 1000)
    (he : eval (.Call (.Attribute (.Call (.Name "super" p0) [] [] p1) "__init__" p2) (e :: es) [] p3) X.env = (do
      let ov ← attributeBase (.Call (.Name "super" p0) [] [] p1) "__init__" X.env (eval (.Call (.Name "super" p0) [] [] p1) X.env)
      standAt p2.atName
      let (f, first) ← holding [ov] (getMethod ov "__init__" pl)
      callWith p3 f first (backTo p3 (starEach (e :: es) X.env)) []) := by rfl)
    (hse : starEach (e :: es) X.env = (false, eval e X.env) :: starEach es X.env := by rfl) (hpl : (backTo p3 (starEach es X.env)).any (·.1) = false := by rfl) :
    _root_.PySem.wpAt (model X.prog X.w) X.A (.func body X.env) (exec (.Expr (.Call (.Attribute (.Call (.Name "super" p0) [] [] p1) "__init__" p2) (e :: es) [] p3) p4) X.env) (fun f s' => f = .next ∧ Inv X [] σ H s') X.xe s := by
  obtain ⟨cl, cld, csl, hcell⟩ := S.cell
  obtain ⟨ccl, cdd, vs, ccs, file, tf, hcode, hvs, hfile⟩ := S.code
  obtain ⟨cd, hcd⟩ := oex_cls S.oex
  obtain ⟨t0, hx⟩ := exo_at I.hok ha
  have KX := I.kIn
  obtain ⟨oD, hD1, hD2⟩ : ∃ oD, s.heap.get? C = some oD ∧ oD.data = .cls cd := by
    have z := hcd
    unfold PySem.W.clsIn at z
    split at z
    · rename_i c d cd' sl ho
      cases z
      exact ⟨_, KX _ _ ho, rfl⟩
    · cases z
  have hself : ∃ m, s.heap.Ns X.env.locals m ∧ m ar.arg = some (.ref a) := by
    obtain ⟨m, hn, hl⟩ := I.loc
    obtain ⟨u, ru, lk⟩ := hl 0 ar.arg (.ref a) hN hs0 (.inl hka)
    cases ru
    rcases lk with ⟨_, e1⟩ | ⟨e1 | e1, _⟩
    · exact ⟨m, hn, e1⟩
    · rw [hka] at e1; cases e1
    · rw [hka] at e1; cases e1
  obtain ⟨m, hns, hm⟩ := hself
  obtain ⟨mb, hb, hbb⟩ := I.mod.blt
  refine PySem.ks_wpAt_Expr_any (PySem.ks_wpAt_MethodCall (pl := pl) ?_ he) I.quiet
  refine PySem.ks_wpAt_super_base hks hkc (by decide) hfu (KX _ _ hf) rfl hp hco (KX _ _ hcode) rfl hvs hfile S.top ?_
  refine PySem.W.ks_loadName_global I.ok.kind hks (PySem.Calls.loadGlobal_builtin (by rw [I.ok.glob]; exact I.mod.glob.keeps I.bk) hms (by rw [I.ok.blt]; exact hb.keeps I.bk) ((hbb _ (by decide)).trans (show bootBuiltins "super" = some (.type "super") by decide +kernel)) ⟨rfl, ?_⟩)
  refine wpAny_loadName_free I.ok.kind hkc hcc ⟨_, KX _ _ hcell, rfl⟩ ?_
  refine wpAny_loadName_local I.ok.kind hka hns hm ?_
  obtain ⟨hp0, g, d, tk, os⟩ := s
  refine PySem.ks_wpAny_isType_cls hD1 hD2 ⟨rfl, ?_⟩
  refine PySem.ks_wpAny_call_super hD1 hD2 hx rfl (fun c z => by cases z) (PySem.W.looks_mroIn KX S.sub) fun h1 hso k1 => ?_
  have I1 : Inv X [] σ H ⟨h1, g, d, tk, os⟩ := I.kept (t' := tk) k1
  have hsup := S.sup
  unfold PySem.W.ks_superIn at hsup
  rw [hcd] at hsup
  have KX1 := I1.kIn
  have IA : PySem.W.InstAt h1 a (bareX C t0) C none := ⟨k1 _ _ hx, rfl, rfl, trivial⟩
  refine PySem.W.kxs_getMethod PySem.W.kxs_ValueError hso (PySem.W.looks_opaque KX1 S.third) (l₀ := cd.mro) (fun A Q E s k q => wpAny_bind ((PySem.W.looks_clsIn KX1 hcd) A _ E s k (wpAny_pure q))) rfl KX1 hsup
    (IA.type.andThen (PySem.W.looks_subIn KX1 S.isV)) (PySem.W.ks_ne KX1 IA hcd) (by decide) ?_
  have hu : (h1.push (PySem.W.kxs_mw "ValueError.__init__" a)).get? h1.objs.size = some (PySem.W.kxs_mw "ValueError.__init__" a) := Heap.get?_push_size _ rfl
  have I2 : Inv X [] σ H ⟨h1.push (PySem.W.kxs_mw "ValueError.__init__" a), g, d, tk + 1, os⟩ := I1.kept (t' := tk + 1) fun b o e => Heap.get?_push_of_some _ e
  have fresh := I1.fpOk (H' := H) (Nat.le_refl _) (I1.hok.fresh (Nat.le_refl _))
  obtain ⟨f0, f1, f2, f3, f4, f5⟩ := fresh
  have I3 : Inv X [(h1.objs.size, PySem.W.kxs_mw "ValueError.__init__" a)] σ H ⟨h1.push (PySem.W.kxs_mw "ValueError.__init__" a), g, d, tk + 1, os⟩ := I2.pins_of fun p hp => by
    rw [List.mem_singleton.mp hp]
    exact ⟨hu, f0, f1, f2, fun v z => by cases z⟩
  refine PySem.W.kxs_callWith1 (h₀ := { h1 with objs := #[] }) (L := h1.objs.size + 1) (news := [(h1.objs.size, PySem.W.kxs_mw "ValueError.__init__" a)]) (i := "ValueError.__init__") (x := a) (fun p hp => by
    rw [List.mem_singleton.mp hp]
    exact ⟨hu, Nat.ne_of_lt (Nat.lt_succ_self _), by simp [Heap.get?]⟩) (List.mem_singleton.mpr rfl) ?_ hse hpl
  refine thn (hargs.run p3 _ _ σ H _ I3 htop) ?_
  rintro us s3 ⟨vs, H3, I4, rv, rfl, hl⟩
  have hpin := I4.pin (h1.objs.size, PySem.W.kxs_mw "ValueError.__init__" a) (List.mem_append_right _ (List.mem_singleton.mpr rfl))
  refine ⟨hpin.1, ?_⟩
  obtain ⟨t3, hx3⟩ := exo_at I4.hok ha
  refine call_mw S.oex I4.kIn hpin.1 hx3 (by rw [← rv.length]; exact Nat.le_of_lt (small_le (by omega))) fun h' t' k e' => ⟨rfl, ?_⟩
  obtain ⟨hp3, g3, d3, tk3, os3⟩ := s3
  have I5 : Inv X [] σ H3 ⟨hp3, g3, d3, tk3, os3⟩ := I4.pins_of (pins' := []) fun p hp => by cases hp
  have J := I5.write (t' := tk3) (x := a) (e := a) (o := exo a C none) (by rw [ha]; exact True.intro) (.inl rfl) k ⟨_, e'⟩ (exo_ok e')
  have eu : upd H3 a (exo a C none) = H3 := by
    funext b
    by_cases hb : b = a
    · rw [hb, upd_same, ha]
    · rw [upd_ne hb]
  rw [eu] at J
  exact J
end
/-! ### a def that closes over its class by one cell -/
theorem lookup_nodup : ∀ {l : List (Str × Value)} {x : Str} {u : Value}, (l.map (·.1)).Nodup → (x, u) ∈ l → l.lookup x = some u
  | [], _, _, _, h => by cases h
  | (y, v) :: l, x, u, nd, h => by
    have nd' : y ∉ l.map (·.1) ∧ (l.map (·.1)).Nodup := List.nodup_cons.mp nd
    by_cases e : x = y
    · subst e
      rcases List.mem_cons.mp h with z | z
      · cases z; simp [List.lookup]
      · exact absurd (List.mem_map_of_mem (f := (·.1)) z) nd'.1
    · rcases List.mem_cons.mp h with z | z
      · cases z; exact absurd rfl e
      · have q : (x == y) = false := by simpa using e
        simp only [List.lookup, q]
        exact lookup_nodup nd'.2 z
theorem zip_back {ps : List Str} {us : List Value} {i : Nat} {x : Str} {u : Value} (nd : ps.Nodup) (hl : us.length = ps.length) (hx : ps[i]? = some x) (hu : us[i]? = some u) : (ps.zip us).reverse.lookup x = some u := by
  refine lookup_nodup ?_ (List.mem_reverse.mpr ?_)
  · rw [List.map_reverse, List.map_fst_zip (by omega)]
    exact (List.reverse_perm ps).nodup_iff.mpr nd
  · refine List.mem_of_getElem? (i := i) ?_
    rw [List.getElem?_zip_eq_some]
    exact ⟨hx, hu⟩
/-- its names: parameters alone, and the class's cell -/
structure SupScope (ps : List Str) (sc : Scope) : Prop where
  kind : sc.kind = .function
  co : sc.isCoroutine = false
  gen : sc.isGenerator = false
  nd : ps.Nodup
  par : ∀ x ∈ ps, sc.names.lookup x = some .local
  nocell : ∀ y ∈ sc.names, y.2 ≠ .cell
  free : ∀ y ∈ sc.names, y.2 = .free → y.1 = "__class__"
def cxSup (CX : CXT) (P : Program) (w : World) (K : PySem.W.Frag) (mg : Str → Option Value) (base : Heap) (ps : List Str) (qual : Str) (scope : Scope) (f cc : Addr) (cd : Value) (A : Around) (outer : List Env) (s : Shared) (H : Hp) (E : XK) : Cx where
  prog := P
  w := w
  K := K
  mg := mg
  base := base
  A := A.deeper (PySem.W.ksEnv qual scope s.heap.objs.size f cd cc)
  N := ps
  s_0 := s
  H_0 := H
  env := PySem.W.ksEnv qual scope s.heap.objs.size f cd cc
  outer := outer
  stack := PySem.W.ksEnv qual scope s.heap.objs.size f cd cc :: outer
  ex := []
  calm := true
  fn := fun _ => false
  pn := []
  xe := fun e s' => wpAny (model P w) (A.deeper (PySem.W.ksEnv qual scope s.heap.objs.size f cd cc)) (leaving (PySem.W.ksEnv qual scope s.heap.objs.size f cd cc) e) (fun _ s'' => CX outer H s E e s'') (fun e' s'' => CX outer H s E e' s'') s'
section
variable {P : Program} {w : World} {K : PySem.W.Frag} {mg : Str → Option Value} {base : Heap}
theorem sup_start {CX : CXT} {ps : List Str} {qual : Str} {scope : Scope} {f cc C : Addr} {cd : Value} {A : Around} {outer : List Env} {s : Shared} {H : Hp} {E : XK} {us : List Value} {vs : List V} {h₁ : Heap} {tk : Nat} (S : SupScope ps scope)
    (hcell : ∃ cl cld csl, K.lookup cc = some ⟨cl, cld, .cell (some (.ref C)), csl⟩) (hd : A.handled = none) (e0 : Env0 P w K mg base A outer s H) (hl : vs.length = ps.length) (r : Vals vs us)
    (hns : h₁.Ns s.heap.objs.size fun y => (ps.zip us).reverse.lookup y) (kp : ∀ b o, s.heap.get? b = some o → h₁.get? b = some o) :
    Inv (cxSup CX P w K mg base ps qual scope f cc cd A outer s H E) [] (start ps vs) H { s with heap := h₁, toks := tk } := by
  obtain ⟨cl, cld, csl, hk⟩ := hcell
  have hul : us.length = ps.length := by rw [← r.length]; exact hl
  have ccb := e0.mod.kin _ _ hk
  obtain ⟨ccs, ccn⟩ := e0.bs _ _ ccb
  have one : ∀ {y : Str} {c : Addr}, List.lookup y [(("__class__" : Str), cc)] = some c → y = "__class__" ∧ c = cc := fun {y c} e => by
    by_cases hy : y = "__class__"
    · subst hy
      simp [List.lookup] at e
      exact ⟨rfl, e.symm⟩
    · have q : (y == ("__class__" : Str)) = false := by simpa using hy
      simp [List.lookup, q] at e
  have noA : ∀ b : Addr, b ∉ (cxSup CX P w K mg base ps qual scope f cc cd A outer s H E).ex := fun b z => absurd (show b ∈ ([] : List Addr) from z) (by simp)
  refine ⟨⟨e0.mod, S.kind, rfl, rfl, Nat.le_refl _, fun y z c e1 e2 => ?_, fun y hy => ?_, fun y c z _ => ?_, fun _ => hd, Around.frames_deeper e0.frames, .inr ⟨rfl, rfl⟩, fun b z => absurd z (noA b), e0.bs, e0.bsz, fun b _ _ => noA b,
      fun b z => absurd z (noA b), e0.funs, e0.frf⟩,
    rfl, e0.bare, Un.kept kp, ⟨_, hns, fun i y v e1 e2 e3 => ?_⟩, fun y c e => ?_, e0.hok.fresh (Nat.le_refl _), fun y c e => ?_, fun q hq => absurd (show q ∈ ([] : List (Addr × Obj)) ++ [] from hq) (by simp), e0.hok.kept kp, ?_⟩
  · rw [(one e1).1, (one e2).1]
  · have hy : scope.names.lookup y = some .cell ∨ scope.names.lookup y = some .free := hy
    rcases hy with hy | hy
    · exact absurd rfl (S.nocell _ (PySem.mem_of_lookup hy))
    · have e := S.free _ (PySem.mem_of_lookup hy) rfl
      refine ⟨cc, ?_⟩
      show List.lookup y [(("__class__" : Str), cc)] = some cc
      rw [show y = "__class__" from e]
      simp [List.lookup]
  · have z : false = true := z
    cases z
  · have hi : i < vs.length := by
      unfold L2.start at e2
      by_cases hi : i < vs.length
      · exact hi
      · rw [List.getElem?_append_right (by simpa using hi)] at e2
        rw [List.getElem?_replicate] at e2
        split at e2 <;> cases e2
    have ha : vs[i]? = some v := by
      unfold L2.start at e2
      rw [List.getElem?_append_left (by simpa using hi), List.getElem?_map] at e2
      cases e : vs[i]? with
      | none => rw [e] at e2; cases e2
      | some a => rw [e] at e2; cases e2; rfl
    obtain ⟨u, hu, rv⟩ := r.get ha
    exact ⟨u, rv, .inl ⟨S.par y (List.mem_of_getElem? e1), zip_back S.nd hul e1 hu⟩⟩
  · obtain ⟨_, ec⟩ := one e
    rw [ec]
    exact ⟨_, _, kp _ _ ccs, rfl⟩
  · obtain ⟨_, ec⟩ := one e
    rw [ec]
    exact ccn
  · unfold L2.start
    show _ = ps.length
    rw [List.length_append, List.length_map, List.length_replicate]
    omega
/-- THE RULE: __init__ of an own exception: super().__init__(..), then the rest -/
theorem fn_sup {CX : CXT} {C fI cc cda : Addr} {k : Nat} {name qual : Str} {params : Arguments} {scope : Scope} {kV doc pm ct oc : Value} {an od : Option Addr} {osl : Array (Option Value)} {ps : List Str} {ar : Arg} {e : Expr} {es : List Expr} {rest : List Stmt} {p0 p1 p2 p3 p4 : Pos} {sp : Sp} {pl : Env → Sem Bool}
    (S : SupC P K C fI cc cda) (hms : mg "super" = none)
    (lk : K.lookup fI = some ⟨oc, od, .func (PySem.W.ksFn name qual params (.Expr (.Call (.Attribute (.Call (.Name "super" p0) [] [] p1) "__init__" p2) (e :: es) [] p3) p4 :: rest) scope .none kV doc pm an (.ref cda) ct cc), osl⟩) (hcd : PySem.W.codeIn K (.ref cda) qual = true)
    (Sc : SupScope ps scope) (hks : scope.names.lookup ("super" : Str) = some .globalImplicit) (hkc : scope.names.lookup ("__class__" : Str) = some .free) (hp : (params.posonlyargs ++ params.args).head? = some ar) (hp0 : ps[0]? = some ar.arg)
    (len : ∀ vs H Q E, sp vs H Q E → vs.length = ps.length)
    (hbody : ∀ (A : Around) (outer : List Env) (s : Shared) (H : Hp) (vs : List V) (Q : VK) (E : XK), Room k (A.deeper (PySem.W.ksEnv qual scope s.heap.objs.size fI (.ref cda) cc)) → sp vs H Q E →
      ∃ (a : Addr) (ta : TA) (t : TS), (start ps vs)[0]? = some (some (.ref a)) ∧ H a = some (exo a C none) ∧ PA (cxSup CX P w K mg base ps qual scope fI cc (.ref cda) A outer s H E) (e :: es) ta ∧ (ta (start ps vs) H fun ws H1 => H1 = H ∧ ws.length ≤ 1000) ∧
        PSs (cxSup CX P w K mg base ps qual scope fI cc (.ref cda) A outer s H E) rest t ∧ t { nx := fun _ H' => Q .non H', rt := Q } (start ps vs) H)
    (he : ∀ env : Env, env.kindOf "super" = some .globalImplicit → eval (.Call (.Attribute (.Call (.Name "super" p0) [] [] p1) "__init__" p2) (e :: es) [] p3) env = (do
      let ov ← attributeBase (.Call (.Name "super" p0) [] [] p1) "__init__" env (eval (.Call (.Name "super" p0) [] [] p1) env)
      standAt p2.atName
      let (f, first) ← holding [ov] (getMethod ov "__init__" (pl env))
      callWith p3 f first (backTo p3 (starEach (e :: es) env)) []) := by intro _ _; rfl)
    (hse : ∀ env, starEach (e :: es) env = (false, eval e env) :: starEach es env := by intro _; rfl) (hpl : ∀ env, (backTo p3 (starEach es env)).any (·.1) = false := by intro _; rfl) :
    FnOk P w K mg base CX (k + 1) fI (PySem.W.ksFn name qual params (.Expr (.Call (.Attribute (.Call (.Name "super" p0) [] [] p1) "__init__" p2) (e :: es) [] p3) p4 :: rest) scope .none kV doc pm an (.ref cda) ct cc) ps sp := by
  refine ⟨len, fun A outer s H args us vs Q E hr e0 hb r hsp => ?_⟩
  have hl := len _ _ _ _ hsp
  have hul : us.length = ps.length := by rw [← r.length]; exact hl
  have KX : K.In s.heap := e0.mod.kin.keeps fun b o e => (e0.bs b o e).1
  have lim : s.heap.NoLimit := e0.mod.nolimit.keeps fun b o e => (e0.bs b o e).1
  refine PySem.ks_codeAny_call_defAt hr.depth (KX _ _ lk) rfl lim (PySem.W.codeRec_of KX hcd) rfl hb Sc.nocell (fun y hy => Sc.par y.1 (List.of_mem_zip hy).1) (fun h₁ hns hk₁ => ?_) Sc.co Sc.gen Sc.kind
  obtain ⟨a, ta, t, h0, ha, hA, hta, ht, hq⟩ := hbody A outer s H vs Q E (hr.deeper _) hsp
  have I : Inv (cxSup CX P w K mg base ps qual scope fI cc (.ref cda) A outer s H E) [] (start ps vs) H { s with heap := h₁, toks := s.toks + (ps.zip us).length } := sup_start Sc S.cell hr.hd e0 hl r hns hk₁
  have fin : ∀ {σ' : L2.St} {H' : Hp} {v : V} {u : Value} {s' : Shared}, Inv (cxSup CX P w K mg base ps qual scope fI cc (.ref cda) A outer s H E) [] σ' H' s' → RelV v u → Q v H' → CE outer P w H s Q u s' :=
    fun {σ' H' v u s'} J rv q => ⟨v, H', J.os, J.bare, J.base, J.hok, rv, q⟩
  refine PySem.ks_wpAt_execs_cons (PySem.wpAt_mono (super_stmt (pl := pl _) I S ha hms lk hp hp0 h0 hks hkc (Sc.par _ (List.mem_of_getElem? hp0)) rfl rfl (show List.lookup ("__class__" : Str) [(("__class__" : Str), cc)] = some cc by simp [List.lookup]) hA hta (he _ hks) (hse _) (hpl _)) (fun f s' hf => ?_) fun e s' hx => hx)
  obtain ⟨rfl, J⟩ := hf
  refine PySem.wpAt_of_wpAny (wpAny_mono (ht.run [] s' (start ps vs) H _ J hq) (fun fl s'' hs => ?_) fun e s' hs => hs)
  cases fl with
  | ret u =>
    obtain ⟨v, σ', H', J, rv, q⟩ := hs
    exact fin J rv q
  | next =>
    obtain ⟨σ', H', J, q⟩ := hs
    exact fin (v := V.non) (u := Value.none) J rfl q
  | brk =>
    obtain ⟨_, _, _, q⟩ := hs
    exact False.elim q
  | cont =>
    obtain ⟨_, _, _, q⟩ := hs
    exact False.elim q
end
end Qk

/-! ## E2. errors with one field, with two; raising them -/
namespace Qk
open PySem PySem.Spec PyProof.Rows L2
/-- what the top says of an own error x whose __init__ is st -/
structure SupF (P : Program) (K : PySem.W.Frag) (mg : Str → Option Value) (x qual : Str) (st : Stmt) (fs : List Str) : Prop where
  gC : mg x = some (.ref (He.ga K x))
  sup : mg "super" = none
  ex : ∃ (fI cc cda : Addr) (kV doc pm ct oc : Value) (an od : Option Addr) (osl : Array (Option Value)), SupC P K (He.ga K x) fI cc cda ∧
    K.lookup fI = some ⟨oc, od, .func (PySem.W.ksFn "__init__" qual (defArgs st) (defBody st) (defScope st) .none kV doc pm an (.ref cda) ct cc), osl⟩ ∧ PySem.W.codeIn K (.ref cda) qual = true ∧
    PySem.W.findIn K (.ref (He.ga K x)) "__init__" = some (some (.ref fI)) ∧ PySem.W.typeIn K (.ref fI) = some (.type "function")
  no : ∀ f ∈ fs, PySem.W.findIn K (.ref (He.ga K x)) f = some none
def spX (C : Addr) (fs : List Str) : Sp := fun vs H Q _ => ∃ (a : Addr) (ws : List V), vs = .ref a :: ws ∧ ws.length = fs.length ∧ H a = some (exo a C none) ∧ ∀ d, H d = none → d ≠ a → Q .non (upd (upd H d (exd d (fs.zip ws).reverse)) a (exo a C (some d)))
/-- x(e, ..) can be raised: the fields are laid down -/
structure XErr (P : Program) (w : World) (K : PySem.W.Frag) (mg : Str → Option Value) (base : Heap) (x : Str) (fs : List Str) : Prop where
  oex : OexC K (He.ga K x)
  gC : mg x = some (.ref (He.ga K x))
  fn : ∃ (fI : Addr) (fd : FuncData), PySem.W.findIn K (.ref (He.ga K x)) "__init__" = some (some (.ref fI)) ∧ PySem.W.typeIn K (.ref fI) = some (.type "function") ∧
    FnOk P w K mg base (L2.CX P w) 1 fI fd ("self" :: fs) (spX (He.ga K x) fs) ∧ Binds K fd ("self" :: fs) []
section
variable {P : Program} {w : World} {K : PySem.W.Frag} {mg : Str → Option Value} {base : Heap}
/-- one field -/
theorem xerr1 {x qual f : Str} {st : Stmt} {p0 p1 p2 p3 p4 p5 p6 p7 p8 p9 : Pos} (S : SupF P K mg x qual st [f]) (hb : defBody st = [.Expr (.Call (.Attribute (.Call (.Name "super" p0) [] [] p1) "__init__" p2) [.Name f p5] [] p3) p4, .Assign [.Attribute (.Name "self" p6) f p7] (.Name f p8) p9])
    (Sc : SupScope ["self", f] (defScope st)) (hks : (defScope st).names.lookup ("super" : Str) = some .globalImplicit) (hkc : (defScope st).names.lookup ("__class__" : Str) = some .free)
    {ar : Arg} (hp : ((defArgs st).posonlyargs ++ (defArgs st).args).head? = some ar) (hp0 : ar.arg = "self")
    (hbind : ∀ (body : List Stmt) (kV doc pm : Value) (an : Option Addr) (cdv ct : Value) (cc : Addr) (us : List Value), us.length = 2 → bindArgs (PySem.W.ksFn "__init__" qual (defArgs st) body (defScope st) .none kV doc pm an cdv ct cc) ⟨us, []⟩ = pure ((["self", f] : List Str).zip us))
    (hd1 : (f == ("__debug__" : Str)) = false) (hd2 : (f == ("__classdict__" : Str)) = false) (hN : ∀ L f' cd cc, Vis (PySem.W.ksEnv qual (defScope st) L f' cd cc).scope f ∧ Vis (PySem.W.ksEnv qual (defScope st) L f' cd cc).scope "self")
    {pl : Env → Sem Bool} (he : ∀ env : Env, env.kindOf "super" = some .globalImplicit → eval (.Call (.Attribute (.Call (.Name "super" p0) [] [] p1) "__init__" p2) [.Name f p5] [] p3) env = (do
      let ov ← attributeBase (.Call (.Name "super" p0) [] [] p1) "__init__" env (eval (.Call (.Name "super" p0) [] [] p1) env)
      standAt p2.atName
      let (fx, first) ← holding [ov] (getMethod ov "__init__" (pl env))
      callWith p3 fx first (backTo p3 (starEach [.Name f p5] env)) [])) : XErr P w K mg base x [f] := by
  obtain ⟨fI, cc, cda, kV, doc, pm, ct, oc, an, od, osl, SC, lk, hcd, hi, hty⟩ := S.ex
  rw [hb] at lk
  refine ⟨SC.oex, S.gC, fI, _, hi, hty, fn_sup (pl := pl) (he := he) SC S.sup lk hcd Sc hks hkc hp (by rw [hp0]; rfl) (fun vs H Q E h => ?_) (fun A outer s H vs Q E hr h => ?_), .all (hbind _ _ _ _ _ _ _ _)⟩
  · obtain ⟨a, ws, rfl, hl, _⟩ := h
    simp only [List.length_cons, hl]
  · obtain ⟨a, ws, rfl, hl, ha, q⟩ := h
    obtain ⟨v, rfl⟩ : ∃ v, ws = [v] := by
      match ws, hl with
      | [v], _ => exact ⟨v, rfl⟩
    refine ⟨a, _, _, rfl, ha, pa_cons (pe_var (i := 1) rfl (hN _ _ _ _).1 hd1 hd2) pa_nil, ⟨_, rfl, rfl, by simp⟩, pss_one (ps_ost (pe_var (i := 0) rfl (hN _ _ _ _).2 (by decide) (by decide)) (pe_var (i := 1) rfl (hN _ _ _ _).1 hd1 hd2)), ?_⟩
    refine ⟨_, rfl, _, rfl, a, _, rfl, SC.oex, S.no f (List.mem_singleton.mpr rfl), .inl ⟨ha, fun d hd hn => ?_⟩⟩
    exact q d hd hn
/-- two fields -/
theorem xerr2 {x qual f g : Str} {st : Stmt} {p0 p1 p2 p3 p4 p5 p5' p6 p7 p8 p9 q6 q7 q8 q9 : Pos} (S : SupF P K mg x qual st [f, g]) (hb : defBody st = [.Expr (.Call (.Attribute (.Call (.Name "super" p0) [] [] p1) "__init__" p2) [.Name f p5, .Name g p5'] [] p3) p4, .Assign [.Attribute (.Name "self" p6) f p7] (.Name f p8) p9, .Assign [.Attribute (.Name "self" q6) g q7] (.Name g q8) q9])
    (Sc : SupScope ["self", f, g] (defScope st)) (hks : (defScope st).names.lookup ("super" : Str) = some .globalImplicit) (hkc : (defScope st).names.lookup ("__class__" : Str) = some .free)
    {ar : Arg} (hp : ((defArgs st).posonlyargs ++ (defArgs st).args).head? = some ar) (hp0 : ar.arg = "self")
    (hbind : ∀ (body : List Stmt) (kV doc pm : Value) (an : Option Addr) (cdv ct : Value) (cc : Addr) (us : List Value), us.length = 3 → bindArgs (PySem.W.ksFn "__init__" qual (defArgs st) body (defScope st) .none kV doc pm an cdv ct cc) ⟨us, []⟩ = pure ((["self", f, g] : List Str).zip us))
    (hd1 : (f == ("__debug__" : Str)) = false) (hd2 : (f == ("__classdict__" : Str)) = false) (hd3 : (g == ("__debug__" : Str)) = false) (hd4 : (g == ("__classdict__" : Str)) = false)
    (hN : ∀ L f' cd cc, Vis (PySem.W.ksEnv qual (defScope st) L f' cd cc).scope f ∧ Vis (PySem.W.ksEnv qual (defScope st) L f' cd cc).scope g ∧ Vis (PySem.W.ksEnv qual (defScope st) L f' cd cc).scope "self")
    {pl : Env → Sem Bool} (he : ∀ env : Env, env.kindOf "super" = some .globalImplicit → eval (.Call (.Attribute (.Call (.Name "super" p0) [] [] p1) "__init__" p2) [.Name f p5, .Name g p5'] [] p3) env = (do
      let ov ← attributeBase (.Call (.Name "super" p0) [] [] p1) "__init__" env (eval (.Call (.Name "super" p0) [] [] p1) env)
      standAt p2.atName
      let (fx, first) ← holding [ov] (getMethod ov "__init__" (pl env))
      callWith p3 fx first (backTo p3 (starEach [.Name f p5, .Name g p5'] env)) [])) : XErr P w K mg base x [f, g] := by
  obtain ⟨fI, cc, cda, kV, doc, pm, ct, oc, an, od, osl, SC, lk, hcd, hi, hty⟩ := S.ex
  rw [hb] at lk
  refine ⟨SC.oex, S.gC, fI, _, hi, hty, fn_sup (pl := pl) (he := he) SC S.sup lk hcd Sc hks hkc hp (by rw [hp0]; rfl) (fun vs H Q E h => ?_) (fun A outer s H vs Q E hr h => ?_), .all (hbind _ _ _ _ _ _ _ _)⟩
  · obtain ⟨a, ws, rfl, hl, _⟩ := h
    simp only [List.length_cons, hl]
  · obtain ⟨a, ws, rfl, hl, ha, q⟩ := h
    obtain ⟨v, u, rfl⟩ : ∃ v u, ws = [v, u] := by
      match ws, hl with
      | [v, u], _ => exact ⟨v, u, rfl⟩
    refine ⟨a, _, _, rfl, ha, pa_cons (pe_var (i := 1) rfl (hN _ _ _ _).1 hd1 hd2) (pa_cons (pe_var (i := 2) rfl (hN _ _ _ _).2.1 hd3 hd4) pa_nil), ⟨_, rfl, _, rfl, rfl, by simp⟩,
      pss_cons (ps_ost (pe_var (i := 0) rfl (hN _ _ _ _).2.2 (by decide) (by decide)) (pe_var (i := 1) rfl (hN _ _ _ _).1 hd1 hd2)) (pss_one (ps_ost (pe_var (i := 0) rfl (hN _ _ _ _).2.2 (by decide) (by decide)) (pe_var (i := 2) rfl (hN _ _ _ _).2.1 hd3 hd4))), ?_⟩
    refine ⟨_, rfl, _, rfl, a, _, rfl, SC.oex, S.no f (by simp), .inl ⟨ha, fun d hd hn => ?_⟩⟩
    refine ⟨_, rfl, _, rfl, a, _, rfl, SC.oex, S.no g (by simp), .inr ⟨d, _, upd_same, (upd_ne hn).trans upd_same, by simp, ?_⟩⟩
    have e : upd (upd (upd H d (exd d [(f, v)])) a (exo a (He.ga K x) (some d))) d (exd d ((g, u) :: [(f, v)])) = upd (upd H d (exd d [(g, u), (f, v)])) a (exo a (He.ga K x) (some d)) := by
      funext b
      by_cases h1 : b = d
      · subst h1
        rw [upd_same, upd_ne hn, upd_same]
      · rw [upd_ne h1]
        by_cases h2 : b = a
        · subst h2
          rw [upd_same, upd_same]
        · rw [upd_ne h2, upd_ne h2, upd_ne h1, upd_ne h1]
    rw [e]
    exact q d hd hn
end
/-! ### raise x(e, ..) -/
def tRaiseN (C : Addr) (fs : List Str) (W : WX) (ta : TA) : TS := fun _ σ H => ta σ H fun vs H1 => vs.length = fs.length ∧ vs.length ≤ 1000 ∧ ∀ d H', H1 d = none → Same H1 H' → H' d = some (.xd (fs.zip vs).reverse) → W (.ref C) (some d) σ H'
theorem ps_raiseN {X : Cx} {x : Str} {fs : List Str} {W : WX} {e : Expr} {es : List Expr} {ta : TA} {p pos pos2 : Pos} {k : Nat} (S : XErr X.prog X.w X.K X.mg X.base x fs) (hr : Room (k + 2) X.A) (hc : X.calm = true) (tk : Takes X W) (ha : PA X (e :: es) ta) (hg : Gl X x) (hdb : (x == ("__debug__" : Str)) = false := by decide)
    (he : starEach (e :: es) X.env = (false, eval e X.env) :: starEach es X.env := by rfl) (hpl : (backTo pos (starEach es X.env)).any (·.1) = false := by rfl)
    (mono : ∀ σ H (Q Q' : List V → Hp → Prop), (∀ vs H', Q vs H' → Q' vs H') → ta σ H Q → ta σ H Q' := by intro σ H Q Q' hm h; first | exact hm _ _ h | (obtain ⟨v, e, h⟩ := h; exact ⟨v, e, hm _ _ h⟩)) :
    PS X (.Raise (some (.Call (.Name x p) (e :: es) [] pos)) none pos2) (tRaiseN (He.ga X.K x) fs W ta) := by
  obtain ⟨fI, fd, iC, tI, F1, hb⟩ := S.fn
  have R := ps_raise (pos := pos2) hc tk (pmk_oex (pos := pos) (p := p) S.oex iC tI F1 (hr.mono (by omega)) hb .nil passL hg S.gC ha hdb he hpl)
  constructor
  intro pins s σ H D I h
  refine R.run pins s σ H D I ?_
  refine mono σ H _ _ (fun vs H1 ⟨hl, hl2, q⟩ => ⟨hl2, fun a hn => ?_⟩) h
  rw [List.append_nil]
  refine ⟨a, vs, rfl, hl, upd_same, fun d hd hne => ?_⟩
  refine ⟨rfl, d, (fs.zip vs).reverse, upd_same, ?_, ?_, ?_⟩
  · rw [upd_ne hne]
    exact upd_same
  · rw [upd_ne hne] at hd
    exact hd
  · rw [upd_ne hne] at hd
    refine q d _ hd (fun b o hbo => ?_) upd_same
    have n1 := ne_of_none hbo hd
    have n2 := ne_of_none hbo hn
    rw [upd_ne n1, del_ne n2, upd_ne n2, upd_ne n1, upd_ne n2]
    exact hbo
end Qk

/-! ## O1. own objects: len, str, ==, !=, a call, a property, a classmethod, by positional promises -/
namespace Qk
open PySem PySem.Spec PyProof.Rows L2
section
variable {X : Cx} {CX : CXT} {k : Nat} {C g : Addr} {sp : Sp} {E : L2.St → XK}
theorem inst_at {pins : List (Addr × Obj)} {σ : L2.St} {H : Hp} {s : Shared} {a dx : Addr} {fs : List (Str × V)} (I : Inv X pins σ H s) (h : H a = some (.ins C dx fs)) : ∃ ox od, PySem.W.InstAt s.heap a ox C od ∧ ox.data = .plain := by
  obtain ⟨mA, O, _⟩ := ins_get I.hok h
  obtain ⟨od, J, _⟩ := O.look
  exact ⟨_, _, J, rfl⟩
/-- len(o) -/
def rLenO (C : Addr) (sp : Sp) : List V → Hp → VK → Prop := fun xs H Q => ∃ (a dx : Addr) (fs : List (Str × V)), xs = [.ref a] ∧ H a = some (.ins C dx fs) ∧ sp [.ref a] H (fun v H' => ∃ n : Nat, v = .int n ∧ n ≤ 1000000 ∧ Q v H') E0
theorem call_lenO (hs : PySem.W.findIn X.K (.ref C) "__len__" = some (some (.ref g))) (hf : PySem.W.isFn X.K (.ref g) = true) (F : FnR X.prog X.w X.K X.mg X.base (L2.CX X.prog X.w) k g sp) (hr : Room (k + 1) X.A) : CallR X (.builtin "len") (rLenO C sp) := by
  rintro pins s σ H xs us Q I r ⟨a, dx, fs, rfl, ha, q⟩
  obtain ⟨u, rfl, ru⟩ := vals1 r
  cases ru
  obtain ⟨ox, od, J, _⟩ := inst_at I ha
  obtain ⟨m, hF⟩ := I.fr
  refine PySem.W.len_K hF I.ok.mod.kin J hs hf (wpAny_call (codeAny_mono (F X.A.in1 X.stack s H [.ref a] [.ref a] _ E0 hr.in1 I.env0.in1 (.cons rfl .nil) q) fun r s' hq => ?_))
  match r, hq with
  | .error e, hq => exact ((px0 σ) pins H s e s' I hq)
  | .ok (.ret u), hq =>
    obtain ⟨v, H', I', rv, n, rfl, hn, q'⟩ := I.after hq
    obtain ⟨t, rfl⟩ := rv
    exact ⟨by constructor <;> omega, ⟨.int n, H', I'.tok _, ⟨_, rfl⟩, q'⟩⟩
/-- str(o) -/
def rStrO (C : Addr) (sp : Sp) : List V → Hp → VK → Prop := fun xs H Q => ∃ (a dx : Addr) (fs : List (Str × V)), xs = [.ref a] ∧ H a = some (.ins C dx fs) ∧ sp [.ref a] H (fun v H' => ∃ z : Str, v = .str z ∧ Q v H') E0
theorem call_strO (hs : PySem.W.findIn X.K (.ref C) "__str__" = some (some (.ref g))) (hf : PySem.W.isFn X.K (.ref g) = true) (F : FnR X.prog X.w X.K X.mg X.base (L2.CX X.prog X.w) k g sp) (hr : Room (k + 2) X.A) : CallR X (.type "str") (rStrO C sp) := by
  rintro pins s σ H xs us Q I r ⟨a, dx, fs, rfl, ha, q⟩
  obtain ⟨u, rfl, ru⟩ := vals1 r
  cases ru
  obtain ⟨ox, od, J, _⟩ := inst_at I ha
  refine PySem.W.kso_call hr.in1.in1.units0 I.kIn J hs hf (wpAny_call (codeAny_mono (F X.A.in1.in1 X.stack s H [.ref a] [.ref a] _ E0 hr.in1.in1 I.env0.in1.in1 (.cons rfl .nil) q) fun r s' hq => ?_))
  match r, hq with
  | .error e, hq => exact ((px0 σ) pins H s e s' I hq)
  | .ok (.ret u), hq =>
    obtain ⟨v, H', I', rv, z, rfl, q'⟩ := I.after hq
    obtain ⟨t, rfl⟩ := rv
    exact ⟨.str z, H', I', ⟨_, rfl⟩, q'⟩
theorem typ_of {pins : List (Addr × Obj)} {σ : L2.St} {H : Hp} {s : Shared} {y : V} {u t : Value} (I : Inv X pins σ H s) (ry : RelV y u) (ty : TyX X.K H y t) : PySem.W.Looks (model X.prog X.w) s.heap (typeOf u) t := by
  obtain ⟨P, kx, hp, _⟩ := kit_of I ry ty
  exact kx.ty _ _ I.kIn hp
/-- o == y, o of the class at C with its own __eq__, y of whatever kind that is no class below C -/
def rEqO (K : PySem.W.Frag) (C : Addr) (sp : Sp) : R2 := fun x y H Q => ∃ (a dx : Addr) (fs : List (Str × V)) (t : Value), x = .ref a ∧ H a = some (.ins C dx fs) ∧ TyX K H y t ∧ PySem.W.notFirst K C t = true ∧ sp [x, y] H (fun v H' => ∃ b, v = .bl b ∧ Q v H') E0
theorem op_eqO (hs : PySem.W.findIn X.K (.ref C) "__eq__" = some (some (.ref g))) (hf : PySem.W.isFn X.K (.ref g) = true) (F : FnR X.prog X.w X.K X.mg X.base (L2.CX X.prog X.w) k g sp) (hr : Room k X.A) : OpR X (compareOp .Eq) (rEqO X.K C sp) := by
  rintro pins s σ H x y v u Q I rx ry ⟨a, dx, fs, t, rfl, ha, ty, hn, q⟩
  cases rx
  obtain ⟨ox, od, J, _⟩ := inst_at I ha
  obtain ⟨m, hF⟩ := I.fr
  show wpAny _ _ (richCompare .Eq (.ref a) u) _ _ _
  refine PySem.W.cmp_K (op := .Eq) hr.units0 hF I.ok.mod.kin J (typ_of I ry ty) hn hs hf (wpAny_mono (run_fnRS (E := fun _ => E0) (vs := [.ref a, y]) (us := [.ref a, u]) F hr (px0 σ) I (.cons rfl (.cons ry .nil)) q) (fun v' s' hv => ?_) fun _ _ x => x)
  obtain ⟨w', H', I', rw', b, rfl, q'⟩ := hv
  cases rw'
  exact ⟨.bl b, H', I', rfl, q'⟩
end
section
variable {prog : Program} {w : World} {A : Around} {E : Value → Shared → Prop} {s : Shared} {K : PySem.W.Frag} {x C f : Addr} {ox : Obj} {od : Option Obj} {b t : Value}
theorem slot_ne {args : List Value} {Q : Option Value → Shared → Prop} (Y : K.In s.heap) (J : PySem.W.InstAt s.heap x ox C od) (he : PySem.W.findIn K (.ref C) "__ne__" = some (some (.builtin "object.__ne__")))
    (h : wpAny (model prog w) A (call (.builtin "object.__ne__") (.ref x :: args)) (fun v => Q (some v)) E s) : wpAny (model prog w) A (callSpecialIfBound? (.ref x) "__ne__" args) Q E s := by
  simp only [callSpecialIfBound?, bindSpecialIfBound?]
  refine wpAny_holding (wpAny_bind (wpAny_bind (wpAny_bind (J.type.here ((PySem.W.looks_findIn Y he).here ?_)))))
  refine wpAny_bind (wpAny_askSetting (wpAny_ite ?_))
  have fin : wpAny (model prog w) A (call (.builtin "object.__ne__") ([.ref x] ++ args) >>= fun v => pure (some v)) Q E s := wpAny_bind (wpAny_mono h (fun v s' h' => wpAny_pure h') fun _ _ h' => h')
  have eb : bindSpecial (.builtin "object.__ne__") (.ref x) = pure (.builtin "object.__ne__", [.ref x]) := PySem.F.cmp_object.ne.bind _
  split
  · rw [eb]
    exact wpAny_bind (wpAny_pure (wpAny_pure fin))
  · rw [eb]
    exact wpAny_tryCatch (wpAny_bind (wpAny_pure (wpAny_pure fin)))
theorem ne_K {Q : Value → Shared → Prop} (hu : A.units + 1 < cLine) (Y : K.In s.heap) (J : PySem.W.InstAt s.heap x ox C od) (hb : PySem.W.Looks (model prog w) s.heap (typeOf b) t) (hn : PySem.W.notFirst K C t = true)
    (he : PySem.W.findIn K (.ref C) "__ne__" = some (some (.builtin "object.__ne__"))) (hs : PySem.W.findIn K (.ref C) "__eq__" = some (some (.ref f))) (hf : PySem.W.isFn K (.ref f) = true) (hm : PySem.W.subIn K (.ref C) (.type "object") = some true)
    (h : wpAny (model prog w) A.in1 (call (.ref f) [.ref x, b]) (fun v s' => ∃ c, v = .bool c ∧ Q (.bool (!c)) s') E s) : wpAny (model prog w) A (richCompare .NotEq (.ref x) b) Q E s := by
  have one : wpAny (model prog w) A (tryCompare (.ref x) "__ne__" b) (fun r s' => ∃ v, r = some v ∧ Q v s') E s := by
    unfold tryCompare
    refine wpAny_bind (slot_ne Y J he (wpAny_call (codeAny_call_builtin PySem.F.cmp_object.ne.plain PySem.F.cmpEntry_ne (PySem.W.check_slot PySem.F.cmpKind_ne PySem.F.cmpSplit_ne (J.type.andThen (PySem.W.looks_subIn Y hm)) (PySem.F.cmpArgs_ne _ _) ?_))))
    unfold Builtin.«object.__ne__»
    refine wpAny_bind (wpAny_pure ?_)
    refine wpAny_bind (wpAny_cRoomFor hu ?_)
    refine wpAny_bind (m := callSpecialIfBound? (.ref x) (Str.ofString "__eq__") _) (PySem.W.ifBound_K Y J hs hf (wpAny_mono h (fun v s' hv => ?_) fun _ _ e => e))
    obtain ⟨c, rfl, q⟩ := hv
    repeat (first | exact wpAny_pure ⟨_, rfl, q⟩ | exact ⟨_, rfl, q⟩ | (refine wpAny_bind (m := truthy (.bool _)) (wpAny_truthy_bool ?_)) | wp_step)
  unfold richCompare
  simp only [oneThing_ref]
  refine wpAny_holding (wpAny_bind (wpAny_cRoomFor (Nat.lt_of_succ_lt hu) ?_))
  refine wpAny_bind (J.type.here (wpAny_bind (hb.here ?_)))
  split
  · rename_i q
    have e : PySem.W.subIn K t (.ref C) = some false := by
      rcases Bool.or_eq_true_iff.mp hn with e | e
      · rw [beq_iff_eq.mp e] at q; simp at q
      · exact beq_iff_eq.mp e
    refine wpAny_bind ((PySem.W.looks_subIn Y e).here ?_)
    simp only [Bool.false_eq_true, if_false]
    refine wpAny_bind (wpAny_mono one (fun r s' z => ?_) fun _ _ e => e)
    obtain ⟨v, rfl, hq⟩ := z
    exact wpAny_pure hq
  · refine wpAny_bind (wpAny_pure ?_)
    simp only [Bool.false_eq_true, if_false]
    refine wpAny_bind (wpAny_mono one (fun r s' z => ?_) fun _ _ e => e)
    obtain ⟨v, rfl, hq⟩ := z
    exact wpAny_pure hq
end
section
variable {X : Cx} {k : Nat} {C g : Addr} {sp : Sp}
/-- o != y, by the __eq__ of o's class -/
theorem op_neO (he : PySem.W.findIn X.K (.ref C) "__ne__" = some (some (.builtin "object.__ne__"))) (hs : PySem.W.findIn X.K (.ref C) "__eq__" = some (some (.ref g))) (hf : PySem.W.isFn X.K (.ref g) = true) (hm : PySem.W.subIn X.K (.ref C) (.type "object") = some true)
    (F : FnR X.prog X.w X.K X.mg X.base (L2.CX X.prog X.w) k g sp) (hr : Room (k + 1) X.A) : OpR X (compareOp .NotEq) (fun x y H Q => rEqO X.K C sp x y H fun v H' => ∃ b, v = .bl b ∧ Q (.bl (!b)) H') := by
  rintro pins s σ H x y v u Q I rx ry ⟨a, dx, fs, t, rfl, ha, ty, hn, q⟩
  cases rx
  obtain ⟨ox, od, J, _⟩ := inst_at I ha
  show wpAny _ _ (richCompare .NotEq (.ref a) u) _ _ _
  refine ne_K (by have := hr.un; omega) I.kIn J (typ_of I ry ty) hn he hs hf hm (wpAny_call (codeAny_mono (F X.A.in1 X.stack s H [.ref a, u] [.ref a, y] _ E0 hr.in1 I.env0.in1 (.cons rfl (.cons ry .nil)) q) fun r s' hq => ?_))
  match r, hq with
  | .error e, hq => exact ((px0 σ) pins H s e s' I hq)
  | .ok (.ret u), hq =>
    obtain ⟨v, H', I', rv, b, rfl, b', eb, q'⟩ := I.after hq
    cases eb
    cases rv
    exact ⟨b, rfl, .bl (!b), H', I', rfl, q'⟩
end
end Qk

/-! ## Q2. comprehensions with draws, over a range, a list -/
namespace Qk
open PySem PySem.Spec PyProof.Rows L2
/-- the draws' state: at p a list of the cells' list, the index, the rest -/
structure Pen (H : Hp) (p : Addr) (n : Int) (q : Addr) (cs : List Int) (at_ rest : Int) : Prop where
  hp : H p = some (.lst [.ref q, .int at_, .int rest])
  hq : H q = some (.lst (cs.map V.int))
  pq : p ≠ q
  len : cs.length ≤ 63
  a0 : 0 ≤ at_
  an : at_ ≤ n
  r0 : 0 ≤ rest
def PenAt (H : Hp) (p q : Addr) (n : Int) : Prop := ∃ cs at_ rest, Pen H p n q cs at_ rest
def spDraw : Sp := fun vs H Q _ => ∃ (p q : Addr) (m n : Int), vs = [.ref p, .int m] ∧ 1 ≤ m ∧ m ≤ 1000000 ∧ n ≤ 1000000 ∧ PenAt H p q n ∧
  ∀ (d : Int) (H' : Hp), 0 ≤ d → d < m → PenAt H' p q (n + 1) → ExtS p H H' → Q (.int d) H'

theorem PenAt.same {H H' : Hp} {p q : Addr} {n : Int} (h : PenAt H p q n) (e : Same H H') : PenAt H' p q n := by
  obtain ⟨cs, a, r, hh⟩ := h
  exact ⟨cs, a, r, e _ _ hh.hp, e _ _ hh.hq, hh.pq, hh.len, hh.a0, hh.an, hh.r0⟩
theorem PenAt.mono {H : Hp} {p q : Addr} {n m : Int} (h : PenAt H p q n) (e : n ≤ m) : PenAt H p q m := by
  obtain ⟨cs, a, r, hh⟩ := h
  exact ⟨cs, a, r, hh.hp, hh.hq, hh.pq, hh.len, hh.a0, by have := hh.an; omega, hh.r0⟩
theorem PenAt.get {H : Hp} {p q : Addr} {n : Int} (h : PenAt H p q n) : ∃ xs, H p = some (.lst xs) := by
  obtain ⟨cs, a, r, hh⟩ := h
  exact ⟨_, hh.hp⟩
theorem PenAt.getq {H : Hp} {p q : Addr} {n : Int} (h : PenAt H p q n) : ∃ xs, H q = some (.lst xs) := by
  obtain ⟨cs, a, r, hh⟩ := h
  exact ⟨_, hh.hq⟩
theorem pen_ne {H : Hp} {p q z : Addr} {n : Int} (h : PenAt H p q n) (hz : H z = none) : z ≠ p ∧ z ≠ q := by
  obtain ⟨xs, hh⟩ := h.get
  obtain ⟨ys, hk⟩ := h.getq
  exact ⟨(ne_of_none hh hz).symm, (ne_of_none hk hz).symm⟩
theorem PenAt.upd {H : Hp} {p q z : Addr} {n : Int} {o : HO} (h : PenAt H p q n) (h1 : z ≠ p) (h2 : z ≠ q) : PenAt (L2.upd H z o) p q n := by
  obtain ⟨cs, a, r, hh⟩ := h
  exact ⟨cs, a, r, (upd_ne h1.symm).trans hh.hp, (upd_ne h2.symm).trans hh.hq, hh.pq, hh.len, hh.a0, hh.an, hh.r0⟩
/-- a comprehension over a range, each turn draws at most c numbers and gives a value of which R holds -/
theorem lc_draw {lo : Int} {n : Nat} {g : TG} {tt : TT} {te : TE} {vs : List Nat} {σ : L2.St} {H1 : Hp} {D p q : Addr} {m c : Int} {Q : Hp → Prop} (R : Nat → V → Hp → Prop) (hn : n ≤ 100000) (hD : H1 D = none) (hp : PenAt H1 p q m)
    (mono : ∀ i v H ys, R i v H → R i v (L2.upd H D (.lst ys))) (mono2 : ∀ i v H H', ExtS p H H' → R i v H → R i v H')
    (turn : ∀ (i : Nat) H, i < n → ExtS p H1 H → PenAt H p q (m + c * i) → (∃ xs, H D = some (.lst xs)) → ∀ (A : V → Hp → Prop) (B : Hp → Prop), (∀ v H', ExtS p H H' → PenAt H' p q (m + c * (i + 1 : Nat)) → R i v H' → A v H') →
      g (.int (lo + i)) (wipe σ vs) H fun σ2 H2 => wipe σ2 vs = wipe σ vs ∧ tt σ2 H2 fun b H3 => if b = true then te σ2 H3 A else B H3)
    (hd : ∀ xs H', H' D = some (.lst xs) → ExtS p H1 H' → PenAt H' p q (m + c * n) → xs.length = n → (∀ (i : Nat) v, xs[i]? = some v → R i v H') → Q H') :
    ∃ W : Nat → Nat → Hp → Prop, (∃ m, W 0 m (L2.upd H1 D (.lst []))) ∧ ∀ i m H, W i m H →
      ((Itr lo n).stop i H ∧ Q H) ∨ ((Itr lo n).go i H ∧ ∃ Nx : Hp → Prop, (∀ H', Nx H' → ∃ m', m' < m ∧ W (i + 1) m' H') ∧ ∀ x H', (Itr lo n).yld i H x H' → g x (wipe σ vs) H' fun σ2 H2 => wipe σ2 vs = wipe σ vs ∧ tt σ2 H2 fun b H3 =>
        if b = true then te σ2 H3 fun y H4 => ∃ acc, H4 D = some (.lst acc) ∧ acc.length < sizeLine ∧ Nx (L2.upd H4 D (.lst (acc ++ [y]))) else Nx H3) := by
  obtain ⟨dp, dq⟩ := pen_ne hp hD
  have exD : ∀ {H o}, ExtS p H1 H → ExtS p H1 (L2.upd H D o) := fun {H o} ex b u hb e => by
    rw [upd_ne (ne_of_none e hD)]; exact ex _ _ hb e
  refine lc_range (fun i H => ∃ xs, H D = some (.lst xs) ∧ xs.length = i ∧ ExtS p H1 H ∧ PenAt H p q (m + c * i) ∧ ∀ (j : Nat) v, xs[j]? = some v → R j v H) ⟨[], upd_same, rfl, exD .refl, ?_, fun j v h => by simp at h⟩ (fun i H hi ⟨xs, hl, hlen, ex, hpen, hR⟩ => ?_) (fun H ⟨xs, hl, hlen, ex, hpen, hR⟩ => hd xs H hl ex hpen hlen hR)
  · exact (hp.upd dp dq).mono (by simp)
  · refine turn i H hi ex hpen ⟨xs, hl⟩ _ _ fun v H' e' p' r' => ?_
    refine ⟨xs, e' _ _ dp hl, small_le (by omega), xs ++ [v], upd_same, by simp [hlen], exD (ex.trans e'), p'.upd dp dq, fun j u hj => ?_⟩
    by_cases hji : j < xs.length
    · rw [List.getElem?_append_left hji] at hj
      exact mono _ _ _ _ (mono2 _ _ _ _ e' (hR j u hj))
    · rw [List.getElem?_append_right (by omega)] at hj
      have e0 : j - xs.length = 0 := by
        by_cases h0 : j - xs.length = 0
        · exact h0
        · rw [List.getElem?_eq_none (by simp; omega)] at hj
          cases hj
      rw [e0] at hj
      cases hj
      rw [show j = i by omega]
      exact mono _ _ _ _ r'
theorem tlc_draw {lo : Int} {n : Nat} {g : TG} {tt : TT} {te : TE} {vs : List Nat} {σ : L2.St} {H0 H1 : Hp} {p q : Addr} {m c : Int} {Q : VK} {wi : TI} (hw : ∀ R : It → Hp → Prop, R (Itr lo n) H1 → wi σ H0 R) (R : Addr → Nat → V → Hp → Prop) (hn : n ≤ 100000) (hp : PenAt H1 p q m)
    (mono : ∀ D i v H ys, R D i v H → R D i v (L2.upd H D (.lst ys))) (mono2 : ∀ D i v H H', ExtS p H H' → R D i v H → R D i v H')
    (turn : ∀ (D : Addr) (i : Nat) H, i < n → ExtS p H1 H → PenAt H p q (m + c * i) → (∃ xs, H D = some (.lst xs)) → ∀ (A : V → Hp → Prop) (B : Hp → Prop), (∀ v H', ExtS p H H' → PenAt H' p q (m + c * (i + 1 : Nat)) → R D i v H' → A v H') →
      g (.int (lo + i)) (wipe σ vs) H fun σ2 H2 => wipe σ2 vs = wipe σ vs ∧ tt σ2 H2 fun b H3 => if b = true then te σ2 H3 A else B H3)
    (hd : ∀ D xs H', H1 D = none → H' D = some (.lst xs) → ExtS p H1 H' → PenAt H' p q (m + c * n) → xs.length = n → (∀ (i : Nat) v, xs[i]? = some v → R D i v H') → Q (.ref D) H') : tLc wi g tt te vs σ H0 Q := by
  refine hw _ fun D hD => ?_
  exact lc_draw (Q := Q (.ref D)) (R D) hn hD hp (mono D) (mono2 D) (turn D) (fun xs H' a b c' d e => hd D xs H' hD a b c' d e)
end Qk

/-! ## Z1. zip of what is a list or a tuple, each by itself -/
namespace Qk
open PySem PySem.Spec PyProof.Rows L2
/-- an iterator over the list (b) or the tuple at l -/
def ItB (b : Bool) (h : Heap) (it l : Addr) (k : Nat) : Prop := match b with
  | true => h.IsListIter it l k
  | false => h.IsTupleIter it l k
def SeB (b : Bool) (h : Heap) (l : Addr) (xs : Array Value) : Prop := match b with
  | true => h.IsList l xs
  | false => h.IsTuple l xs
def SqB (b : Bool) (K : PySem.W.Frag) (H : Hp) (a : Addr) (xs : List V) : Prop := match b with
  | true => SqL K H a xs
  | false => SqT K H a xs
section
variable {bb : Bool} {h h' : Heap} {it l c : Addr} {k : Nat} {xs : Array Value}
theorem ItB.ext (x : ItB bb h it l k) (hs : Heap.ExtBut c h h') (n : it ≠ c) : ItB bb h' it l k := by
  cases bb
  · exact Heap.IsTupleIter.extBut (show h.IsTupleIter it l k from x) hs n
  · exact Heap.IsListIter.extBut (show h.IsListIter it l k from x) hs n
theorem ItB.mv (x : ItB bb h it l k) (e : ∀ o, h.get? it = some o → h'.get? it = some o) : ItB bb h' it l k := by
  cases bb
  · exact Heap.IsTupleIter.at (show h.IsTupleIter it l k from x) e
  · exact Heap.IsListIter.at (show h.IsListIter it l k from x) e
theorem SeB.ext (x : SeB bb h l xs) (hs : Heap.ExtBut c h h') (n : l ≠ c) : SeB bb h' l xs := by
  cases bb
  · exact Heap.IsTuple.extBut (show h.IsTuple l xs from x) hs n
  · exact Heap.IsList.extBut (show h.IsList l xs from x) hs n
theorem ItB.obj (x : ItB bb h it l k) : ∃ o, h.get? it = some o ∧ ∀ v, o.data ≠ .cell v := by
  cases bb
  · obtain ⟨o, e, _, d⟩ := (show h.IsTupleIter it l k from x)
    exact ⟨o, e, fun v q => by rw [d] at q; cases q⟩
  · obtain ⟨o, e, _, d⟩ := (show h.IsListIter it l k from x)
    exact ⟨o, e, fun v q => by rw [d] at q; cases q⟩
end
section
variable {prog : Program} {w : World} {A : Around} {E : Value → Shared → Prop} {s : Shared} {bb : Bool} {it l : Addr} {i : Nat} {items : Array Value}
theorem nextB_item {x : Value} {Q : Value → Shared → Prop} (hit : ItB bb s.heap it l i) (hl : SeB bb s.heap l items) (hx : items[i]? = some x)
    (hQ : ∀ h', ItB bb h' it l (i + 1) → Heap.SameBut it s.heap h' → Q x { s with heap := h' }) : wpAny (model prog w) A (Builtin.SmallTypes.nextOf (.ref it)) Q E s := by
  cases bb
  · exact RZ.nextOf_tuple_item hit hl hx hQ
  · exact wpAny_nextOf_list_item hit hl hx hQ
theorem nextB_end {Q : Value → Shared → Prop} (hh : A.handled = none) (hit : ItB bb s.heap it l i) (hl : SeB bb s.heap l items) (hx : items[i]? = none)
    (hE : ∀ h' e, Heap.ExtBut it s.heap h' → (∃ o, h'.get? e = some o ∧ o.cls = .type "StopIteration") → E (.ref e) { s with heap := h' }) : wpAny (model prog w) A (Builtin.SmallTypes.nextOf (.ref it)) Q E s := by
  cases bb
  · exact RZ.nextOf_tuple_end hh hit hl hx hE
  · exact wpAny_nextOf_list_end hh hit hl hx hE
end
section
variable {prog : Program} {w : World} {A : Around} {E : Value → Shared → Prop} {s : Shared} {b1 b2 : Bool} {z TI TO i1 i2 l1 l2 : Addr} {k1 k2 : Nat} {xs ys : Array Value} {a b : Value}
/-- a zip object between two turns -/
structure ZipB (b1 b2 : Bool) (h : Heap) (z TI TO i1 i2 l1 l2 : Addr) (k1 k2 : Nat) (a b : Value) : Prop where
  z : IsZip h z TI TO .none
  ti : IsPair h TI (.ref i1) (.ref i2)
  to : IsPair h TO a b
  it1 : ItB b1 h i1 l1 k1
  it2 : ItB b2 h i2 l2 k2
/-- all but these four stays -/
def Keep4 (z TO i1 i2 : Addr) (h h' : Heap) : Prop := ∀ c o, c ≠ z → c ≠ TO → c ≠ i1 → c ≠ i2 → h.get? c = some o → h'.get? c = some o
theorem zipB_item {x y : Value} {Q : Value → Shared → Prop} (D : ZipApart z TI TO i1 i2 l1 l2) (Z : ZipB b1 b2 s.heap z TI TO i1 i2 l1 l2 k1 k2 a b) (hl1 : SeB b1 s.heap l1 xs) (hl2 : SeB b2 s.heap l2 ys) (hx : xs[k1]? = some x) (hy : ys[k2]? = some y)
    (hQ : ∀ h', IsZip h' z TI TO (rawInt s.heap.objs.size) → IsPair h' TO x y → ItB b1 h' i1 l1 (k1 + 1) → ItB b2 h' i2 l2 (k2 + 1) → IsPair h' s.heap.objs.size x y → h'.objs.size = s.heap.objs.size + 1 → Keep4 z TO i1 i2 s.heap h' → Q (.ref s.heap.objs.size) { s with heap := h' }) :
    wpAny (model prog w) A (Builtin.«zip.__next__» ⟨[.ref z], []⟩) (fun fin s' => ∃ v, fin = .done (.ret v) ∧ Q v s') E s := by
  obtain ⟨hz, hTI, hTO, h1, h2⟩ := Z
  show wpAny _ _ (field (.ref z) 2 >>= _) _ _ _
  refine wpAny_bind (wpAny_field hz rfl (x := .bool false) rfl ?_)
  show wpAny _ _ (field (.ref z) 3 >>= _) _ _ _
  refine wpAny_bind (wpAny_field hz rfl (x := .ref TI) rfl (wpAny_bind (wpAny_seqItems hTI rfl ?_)))
  show wpAny _ _ (Builtin.SmallTypes.ownedTupleIsFree (.ref z) >>= _) _ _ _
  refine wpAny_bind ?_
  unfold Builtin.SmallTypes.ownedTupleIsFree
  refine wpAny_bind (wpAny_field hz rfl (x := .none) rfl (wpAny_pure ?_))
  simp only [if_true]
  refine wpAny_bind (wpAny_rule (wpAny_bind (wpAny_field hz rfl (x := .ref TO) rfl (wpAny_bind (wpAny_setField_rec hz (by simp) fun g1 z1 e1 => ?_)))))
  replace z1 : IsZip g1 z TI TO .ellipsis := z1
  refine wpAny_bind ?_
  simp only [List.zipIdx_cons, List.zipIdx_nil, List.forIn_cons, List.forIn_nil]
  -- the first
  refine wpAny_bind (wpAny_bind (wpAny_onRaise ?_))
  show wpAny _ _ (Builtin.SmallTypes.nextOf (.ref i1) >>= _) _ _ _
  refine wpAny_bind (nextB_item (h1.ext e1.extBut D.i1z) (hl1.ext e1.extBut D.l1z) hx fun g2 n1 e2 => wpAny_pure ?_)
  have o2 : IsPair g2 TO a b := e2.extBut _ _ D.TOi1 (e1.extBut _ _ D.TOz hTO)
  refine wpAny_bind (wpAny_seqItems o2 rfl (wpAny_bind (wpAny_updateSeq_pair o2 fun g3 o3 e3 => ?_)))
  replace o3 : IsPair g3 TO x b := o3
  refine wpAny_bind (wpAny_letGo (wpAny_pure ?_))
  -- the second
  refine wpAny_bind (wpAny_bind (wpAny_onRaise ?_))
  show wpAny _ _ (Builtin.SmallTypes.nextOf (.ref i2) >>= _) _ _ _
  refine wpAny_bind (nextB_item (((h2.ext e1.extBut D.i2z).ext e2.extBut D.i12.symm).ext e3.extBut D.TOi2.symm) (((hl2.ext e1.extBut D.l2z).ext e2.extBut D.l2i1).ext e3.extBut D.l2TO) hy fun g4 n2 e4 => wpAny_pure ?_)
  have o4 : IsPair g4 TO x b := e4.extBut _ _ D.TOi2 o3
  refine wpAny_bind (wpAny_seqItems o4 rfl (wpAny_bind (wpAny_updateSeq_pair o4 fun g5 o5 e5 => ?_)))
  replace o5 : IsPair g5 TO x y := o5
  refine wpAny_bind (wpAny_letGo (wpAny_pure (wpAny_pure ?_)))
  -- the pair
  refine wpAny_bind (wpAny_seqItems o5 rfl (wpAny_bind (wpAny_newTuple ?_)))
  have sz : g5.objs.size = s.heap.objs.size := by rw [e5.1, e4.1, e3.1, e2.1, e1.1]
  have z5 : IsZip g5 z TI TO .ellipsis := e5.extBut _ _ D.TOz.symm (e4.extBut _ _ D.i2z.symm (e3.extBut _ _ D.TOz.symm (e2.extBut _ _ D.i1z.symm z1)))
  have kp : Keep4 z TO i1 i2 s.heap g5 := fun c o c1 c2 c3 c4 e => e5.extBut _ _ c2 (e4.extBut _ _ c4 (e3.extBut _ _ c2 (e2.extBut _ _ c3 (e1.extBut _ _ c1 e))))
  have m1 : ItB b1 g5 i1 l1 (k1 + 1) := ((n1.ext e3.extBut D.TOi1.symm).ext e4.extBut D.i12).ext e5.extBut D.TOi1.symm
  have m2 : ItB b2 g5 i2 l2 (k2 + 1) := n2.ext e5.extBut D.TOi2.symm
  have zl : z < g5.objs.size := Heap.lt_size z5
  show wpAny _ _ (Builtin.SmallTypes.ownedTupleHandOut (.ref z) (.ref g5.objs.size) >>= _) _ _ _
  refine wpAny_bind ?_
  unfold Builtin.SmallTypes.ownedTupleHandOut
  have z6 : IsZip (g5.push { cls := .type "tuple", data := .seq #[x, y] }) z TI TO .ellipsis := Heap.get?_push_of_some _ z5
  refine wpAny_bind (wpAny_setField_rec z6 (by simp) fun g7 z7 e7 => ?_)
  replace z7 : IsZip g7 z TI TO (rawInt g5.objs.size) := z7
  refine wpAny_setField_rec z7 (by simp) fun g8 z8 e8 => ?_
  replace z8 : IsZip g8 z TI TO (rawInt g5.objs.size) := z8
  have up : ∀ c o, c ≠ z → g5.get? c = some o → g8.get? c = some o := fun c o c1 e => e8.extBut _ _ c1 (e7.extBut _ _ c1 (Heap.get?_push_of_some _ e))
  have t8 : IsPair g8 g5.objs.size x y := e8.extBut _ _ (Nat.ne_of_gt zl) (e7.extBut _ _ (Nat.ne_of_gt zl) (Heap.get?_push_size _ rfl))
  have s8 : g8.objs.size = g5.objs.size + 1 := by rw [e8.1, e7.1, Heap.size_push]
  rw [sz] at z8 t8 s8
  refine wpAny_pure ⟨_, rfl, ?_⟩
  show Q (.ref g5.objs.size) _
  rw [sz]
  exact hQ g8 z8 (up _ _ D.TOz o5) (m1.mv fun o e => up _ o D.i1z e) (m2.mv fun o e => up _ o D.i2z e) t8 s8 fun c o c1 c2 c3 c4 e => up c o c1 (kp c o c1 c2 c3 c4 e)
theorem zipB_end {Q : Fin → Shared → Prop} (hh : A.handled = none) (D : ZipApart z TI TO i1 i2 l1 l2) (Z : ZipB b1 b2 s.heap z TI TO i1 i2 l1 l2 k1 k2 a b) (hl1 : SeB b1 s.heap l1 xs) (hl2 : SeB b2 s.heap l2 ys) (hend : xs[k1]? = none ∨ ys[k2]? = none)
    (hE : ∀ h' e, Keep4 z TO i1 i2 s.heap h' → (∃ o, h'.get? e = some o ∧ o.cls = .type "StopIteration") → E (.ref e) { s with heap := h' }) :
    wpAny (model prog w) A (Builtin.«zip.__next__» ⟨[.ref z], []⟩) Q E s := by
  obtain ⟨hz, hTI, hTO, h1, h2⟩ := Z
  show wpAny _ _ (field (.ref z) 2 >>= _) _ _ _
  refine wpAny_bind (wpAny_field hz rfl (x := .bool false) rfl ?_)
  show wpAny _ _ (field (.ref z) 3 >>= _) _ _ _
  refine wpAny_bind (wpAny_field hz rfl (x := .ref TI) rfl (wpAny_bind (wpAny_seqItems hTI rfl ?_)))
  show wpAny _ _ (Builtin.SmallTypes.ownedTupleIsFree (.ref z) >>= _) _ _ _
  refine wpAny_bind ?_
  unfold Builtin.SmallTypes.ownedTupleIsFree
  refine wpAny_bind (wpAny_field hz rfl (x := .none) rfl (wpAny_pure ?_))
  simp only [if_true]
  refine wpAny_bind (wpAny_rule (wpAny_bind (wpAny_field hz rfl (x := .ref TO) rfl (wpAny_bind (wpAny_setField_rec hz (by simp) fun g1 z1 e1 => ?_)))))
  replace z1 : IsZip g1 z TI TO .ellipsis := z1
  refine wpAny_bind ?_
  simp only [List.zipIdx_cons, List.zipIdx_nil, List.forIn_cons, List.forIn_nil]
  refine wpAny_bind (wpAny_bind (wpAny_onRaise ?_))
  show wpAny _ _ (Builtin.SmallTypes.nextOf (.ref i1) >>= _) _ _ _
  cases hx : xs[k1]? with
  | none =>
    refine wpAny_bind (nextB_end hh (h1.ext e1.extBut D.i1z) (hl1.ext e1.extBut D.l1z) hx fun g2 e e2 he => ?_)
    obtain ⟨oe, hoe, hce⟩ := he
    have z2 : IsZip g2 z TI TO .ellipsis := e2 _ _ D.i1z.symm z1
    have ne : e ≠ z := fun q => by subst q; rw [z2] at hoe; cases hoe; simp at hce
    refine wpAny_setField_rec z2 (by simp) fun g3 _ e3 => hE g3 e (fun c o c1 _ c3 _ q => e3.extBut _ _ c1 (e2 _ _ c3 (e1.extBut _ _ c1 q))) ⟨oe, e3.extBut _ _ ne hoe, hce⟩
  | some x =>
    have hy : ys[k2]? = none := by rcases hend with q | q; rw [hx] at q; cases q; exact q
    refine wpAny_bind (nextB_item (h1.ext e1.extBut D.i1z) (hl1.ext e1.extBut D.l1z) hx fun g2 n1 e2 => wpAny_pure ?_)
    have o2 : IsPair g2 TO a b := e2.extBut _ _ D.TOi1 (e1.extBut _ _ D.TOz hTO)
    refine wpAny_bind (wpAny_seqItems o2 rfl (wpAny_bind (wpAny_updateSeq_pair o2 fun g3 o3 e3 => ?_)))
    refine wpAny_bind (wpAny_letGo (wpAny_pure ?_))
    refine wpAny_bind (wpAny_bind (wpAny_onRaise ?_))
    show wpAny _ _ (Builtin.SmallTypes.nextOf (.ref i2) >>= _) _ _ _
    refine wpAny_bind (nextB_end hh (((h2.ext e1.extBut D.i2z).ext e2.extBut D.i12.symm).ext e3.extBut D.TOi2.symm) (((hl2.ext e1.extBut D.l2z).ext e2.extBut D.l2i1).ext e3.extBut D.l2TO) hy fun g4 e e4 he => ?_)
    obtain ⟨oe, hoe, hce⟩ := he
    have z4 : IsZip g4 z TI TO .ellipsis := e4 _ _ D.i2z.symm (e3.extBut _ _ D.TOz.symm (e2.extBut _ _ D.i1z.symm z1))
    have ne : e ≠ z := fun q => by subst q; rw [z4] at hoe; cases hoe; simp at hce
    refine wpAny_setField_rec z4 (by simp) fun g5 _ e5 => hE g5 e (fun c o c1 c2 c3 c4 q => e5.extBut _ _ c1 (e4 _ _ c4 (e3.extBut _ _ c2 (e2.extBut _ _ c3 (e1.extBut _ _ c1 q))))) ⟨oe, e5.extBut _ _ ne hoe, hce⟩
theorem pyZipB_item {x y : Value} {Q : Option Value → Shared → Prop} (D : ZipApart z TI TO i1 i2 l1 l2) (Z : ZipB b1 b2 s.heap z TI TO i1 i2 l1 l2 k1 k2 a b) (hl1 : SeB b1 s.heap l1 xs) (hl2 : SeB b2 s.heap l2 ys) (hx : xs[k1]? = some x) (hy : ys[k2]? = some y)
    (hQ : ∀ h', IsZip h' z TI TO (rawInt s.heap.objs.size) → IsPair h' TO x y → ItB b1 h' i1 l1 (k1 + 1) → ItB b2 h' i2 l2 (k2 + 1) → IsPair h' s.heap.objs.size x y → h'.objs.size = s.heap.objs.size + 1 → Keep4 z TO i1 i2 s.heap h' → Q (some (.ref s.heap.objs.size)) { s with heap := h' }) :
    wpAny (model prog w) A (pyNext (.ref z)) Q E s := by
  have hT : s.TypeIs (.ref z) "zip" := ⟨_, Z.z, rfl⟩
  unfold pyNext
  exact wpAny_bind (wpAny_attempt (wpAny_callSpecial?_slot (name := Str.ofString "__next__") hT F.slot_zip_next
    (wpAny_call_entry F.slot_zip_next hT F.entry_zip_next (zipB_item D Z hl1 hl2 hx hy fun h' q1 q2 q3 q4 q5 q6 q7 => wpAny_pure (hQ h' q1 q2 q3 q4 q5 q6 q7)) (F.args_zip_next_1 _))))
theorem pyZipB_end {Q : Option Value → Shared → Prop} (hh : A.handled = none) (D : ZipApart z TI TO i1 i2 l1 l2) (Z : ZipB b1 b2 s.heap z TI TO i1 i2 l1 l2 k1 k2 a b) (hl1 : SeB b1 s.heap l1 xs) (hl2 : SeB b2 s.heap l2 ys) (hend : xs[k1]? = none ∨ ys[k2]? = none)
    (hQ : ∀ h', Keep4 z TO i1 i2 s.heap h' → Q none { s with heap := h' }) : wpAny (model prog w) A (pyNext (.ref z)) Q E s := by
  have hT : s.TypeIs (.ref z) "zip" := ⟨_, Z.z, rfl⟩
  unfold pyNext
  refine wpAny_bind (wpAny_attempt (wpAny_callSpecial?_slot (name := Str.ofString "__next__") hT F.slot_zip_next
    (wpAny_call_entry F.slot_zip_next hT F.entry_zip_next (zipB_end hh D Z hl1 hl2 hend fun h' e hk he => ?_) (F.args_zip_next_1 _))))
  obtain ⟨o, ho, hc⟩ := he
  exact wpAny_bind (wpAny_isInstance (T := "StopIteration") (b := true) ⟨o, ho, hc⟩ isSubtype_stop (wpAny_pure (hQ _ hk)))
end
end Qk

/-! ## Z2. for .. in zip(..), as a rule -/
namespace Qk
open PySem PySem.Spec PyProof.Rows L2
def itObj (b : Bool) (l : Addr) : Obj := match b with
  | true => { cls := .type "list_iterator", data := .fields #[.ref l, .int 0 0] }
  | false => { cls := .type "tuple_iterator", data := .fields #[.ref l, .int 0 0] }
theorem itObj_at {b : Bool} {l c : Addr} {h : Heap} (e : h.get? c = some (itObj b l)) : ItB b h c l 0 := by
  cases b
  · exact ⟨_, e, rfl, rfl⟩
  · exact ⟨_, e, rfl, rfl⟩
def zb1 (b1 : Bool) (h : Heap) (l1 : Addr) : Heap := h.push (itObj b1 l1)
def zb2 (b1 b2 : Bool) (h : Heap) (l1 l2 : Addr) : Heap := (zb1 b1 h l1).push (itObj b2 l2)
def zb3 (b1 b2 : Bool) (h : Heap) (l1 l2 : Addr) : Heap := (zb2 b1 b2 h l1 l2).push { cls := .type "tuple", data := .seq #[.ref h.objs.size, .ref (zb1 b1 h l1).objs.size] }
def zb4 (b1 b2 : Bool) (h : Heap) (l1 l2 : Addr) : Heap := (zb3 b1 b2 h l1 l2).push { cls := .type "tuple", data := .seq #[.none, .none] }
def zb5 (b1 b2 : Bool) (h : Heap) (l1 l2 : Addr) : Heap := (zb4 b1 b2 h l1 l2).push { cls := .type "zip", data := .fields #[.none, .bool false, .bool false, .ref (zb2 b1 b2 h l1 l2).objs.size, .ref (zb3 b1 b2 h l1 l2).objs.size] }
theorem meets_zb (b1 b2 : Bool) (l1 l2 : Addr) (xs ys : Array Value) :
    Meets (Builtin.«zip.__new__» ⟨[.type "zip", .ref l1, .ref l2], []⟩) (fun _ R s => SeB b1 s.heap l1 xs ∧ SeB b2 s.heap l2 ys ∧
      R (.ok (.ret (.ref (zb4 b1 b2 s.heap l1 l2).objs.size))) { s with heap := zb5 b1 b2 s.heap l1 l2 }) :=
  .of_wp fun prog w A R s h => by
    obtain ⟨hp, g, d, tk, os⟩ := s; obtain ⟨hl1, hl2, h⟩ := h
    have hsub := (show isSubtype (.type "zip") (.type "zip") = pure true by rw [isSubtype_type]; kernel_rfl)
    cases b1 <;> cases b2
    · have hL1 : Heap.IsTuple (Shared.heap ⟨hp, g, d, tk, os⟩) l1 xs := hl1
      have hL2 : Heap.IsTuple (Shared.heap ⟨hp.push { cls := .type "tuple_iterator", data := .fields #[.ref l1, .int 0 0] }, g, d, tk, os⟩) l2 ys := Heap.IsTuple.push hl2 _
      wp_walk using wpAny_pyIter_tuple hL1, wpAny_pyIter_tuple hL2
      exact ⟨_, rfl, h⟩
    · have hL1 : Heap.IsTuple (Shared.heap ⟨hp, g, d, tk, os⟩) l1 xs := hl1
      have hL2 : Heap.IsList (Shared.heap ⟨hp.push { cls := .type "tuple_iterator", data := .fields #[.ref l1, .int 0 0] }, g, d, tk, os⟩) l2 ys := Heap.IsList.push hl2 _
      wp_walk using wpAny_pyIter_tuple hL1, wpAny_pyIter_list hL2
      exact ⟨_, rfl, h⟩
    · have hL1 : Heap.IsList (Shared.heap ⟨hp, g, d, tk, os⟩) l1 xs := hl1
      have hL2 : Heap.IsTuple (Shared.heap ⟨hp.push { cls := .type "list_iterator", data := .fields #[.ref l1, .int 0 0] }, g, d, tk, os⟩) l2 ys := Heap.IsTuple.push hl2 _
      wp_walk using wpAny_pyIter_list hL1, wpAny_pyIter_tuple hL2
      exact ⟨_, rfl, h⟩
    · have hL1 : Heap.IsList (Shared.heap ⟨hp, g, d, tk, os⟩) l1 xs := hl1
      have hL2 : Heap.IsList (Shared.heap ⟨hp.push { cls := .type "list_iterator", data := .fields #[.ref l1, .int 0 0] }, g, d, tk, os⟩) l2 ys := Heap.IsList.push hl2 _
      wp_walk using wpAny_pyIter_list hL1, wpAny_pyIter_list hL2
      exact ⟨_, rfl, h⟩
section
variable {prog : Program} {w : World} {A : Around} {E : Value → Shared → Prop} {s : Shared} {b1 b2 : Bool}
theorem call_zb {l1 l2 : Addr} {xs ys : Array Value} {Q : Value → Shared → Prop} (hl1 : SeB b1 s.heap l1 xs) (hl2 : SeB b2 s.heap l2 ys)
    (h : ∀ h', ZipB b1 b2 h' (s.heap.objs.size + 4) (s.heap.objs.size + 2) (s.heap.objs.size + 3) s.heap.objs.size (s.heap.objs.size + 1) l1 l2 0 0 .none .none → (∀ c o, s.heap.get? c = some o → h'.get? c = some o) → Q (.ref (s.heap.objs.size + 4)) { s with heap := h' }) :
    wpAny (model prog w) A (call (.type "zip") [.ref l1, .ref l2]) Q E s := by
  refine callType_new F.called_zip (by decide) (F.typeCall_zip_2 _ _) (F.newCall_zip_2 _ _) (fun obj => F.args_object_init_3 obj _ _) F.entry_zip_new (meets_zb b1 b2 l1 l2 xs ys) ⟨hl1, hl2, ?_⟩
  have s1 : (zb1 b1 s.heap l1).objs.size = s.heap.objs.size + 1 := Heap.size_push ..
  have s2 : (zb2 b1 b2 s.heap l1 l2).objs.size = s.heap.objs.size + 2 := by unfold zb2; rw [Heap.size_push, s1]
  have s3 : (zb3 b1 b2 s.heap l1 l2).objs.size = s.heap.objs.size + 3 := by unfold zb3; rw [Heap.size_push, s2]
  have s4 : (zb4 b1 b2 s.heap l1 l2).objs.size = s.heap.objs.size + 4 := by unfold zb4; rw [Heap.size_push, s3]
  have u4 : ∀ c o, (zb4 b1 b2 s.heap l1 l2).get? c = some o → (zb5 b1 b2 s.heap l1 l2).get? c = some o := fun c o e => Heap.get?_push_of_some _ e
  have u3 : ∀ c o, (zb3 b1 b2 s.heap l1 l2).get? c = some o → (zb5 b1 b2 s.heap l1 l2).get? c = some o := fun c o e => u4 c o (Heap.get?_push_of_some _ e)
  have u2 : ∀ c o, (zb2 b1 b2 s.heap l1 l2).get? c = some o → (zb5 b1 b2 s.heap l1 l2).get? c = some o := fun c o e => u3 c o (Heap.get?_push_of_some _ e)
  have u1 : ∀ c o, (zb1 b1 s.heap l1).get? c = some o → (zb5 b1 b2 s.heap l1 l2).get? c = some o := fun c o e => u2 c o (Heap.get?_push_of_some _ e)
  have g5 : (zb5 b1 b2 s.heap l1 l2).get? (zb4 b1 b2 s.heap l1 l2).objs.size = some { cls := .type "zip", data := .fields #[.none, .bool false, .bool false, .ref (zb2 b1 b2 s.heap l1 l2).objs.size, .ref (zb3 b1 b2 s.heap l1 l2).objs.size] } := Heap.get?_push_size _ rfl
  have g4 : (zb5 b1 b2 s.heap l1 l2).get? (zb3 b1 b2 s.heap l1 l2).objs.size = some { cls := .type "tuple", data := .seq #[.none, .none] } := u4 _ _ (Heap.get?_push_size _ rfl)
  have g3 : (zb5 b1 b2 s.heap l1 l2).get? (zb2 b1 b2 s.heap l1 l2).objs.size = some { cls := .type "tuple", data := .seq #[.ref s.heap.objs.size, .ref (zb1 b1 s.heap l1).objs.size] } := u3 _ _ (Heap.get?_push_size _ rfl)
  have g2 : (zb5 b1 b2 s.heap l1 l2).get? (zb1 b1 s.heap l1).objs.size = some (itObj b2 l2) := u2 _ _ (Heap.get?_push_size _ (by cases b2 <;> rfl))
  have g1 : (zb5 b1 b2 s.heap l1 l2).get? s.heap.objs.size = some (itObj b1 l1) := u1 _ _ (Heap.get?_push_size _ (by cases b1 <;> rfl))
  show _ ∧ _
  rw [s2, s3, s4] at g5
  rw [s1, s2] at g3
  rw [s3] at g4
  rw [s1] at g2
  rw [s4]
  exact ⟨⟨_, g5, rfl⟩, h _ ⟨g5, g3, g4, itObj_at g1, itObj_at g2⟩ fun c o x => u1 _ _ (Heap.get?_push_of_some _ x)⟩
end
/-- the two as they stand at each turn, the items in new pairs -/
def ItzB (b1 b2 : Bool) (K : PySem.W.Frag) (a b : Addr) : It :=
  ⟨fun i H => ∃ (xs ys : List V) (x y : V), SqB b1 K H a xs ∧ SqB b2 K H b ys ∧ xs[i]? = some x ∧ ys[i]? = some y,
    fun i H v H' => ∃ T x y, v = .ref T ∧ H T = none ∧ H' = upd H T (.tup [x, y]) ∧ (∀ xs, SqB b1 K H a xs → xs[i]? = some x) ∧ ∀ ys, SqB b2 K H b ys → ys[i]? = some y,
    fun i H => ∃ xs ys : List V, SqB b1 K H a xs ∧ SqB b2 K H b ys ∧ (xs.length ≤ i ∨ ys.length ≤ i)⟩
section
variable {X : Cx} {pins : List (Addr × Obj)} {σ : L2.St} {H : Hp} {s : Shared}
theorem seB_of {bb : Bool} {a : Addr} {xs : List V} (I : Inv X pins σ H s) (h : SqB bb X.K H a xs) : ∃ its : List Value, Vals xs its ∧ SeB bb s.heap a its.toArray ∧ a < s.heap.objs.size := by
  cases bb
  · obtain ⟨its, rv, p, _⟩ := I.tuple (show SqT X.K H a xs from h)
    obtain ⟨o, ho, _⟩ := id p
    exact ⟨its, rv, p, Heap.lt_size ho⟩
  · obtain ⟨its, rv, p, _⟩ := I.list (show SqL X.K H a xs from h)
    obtain ⟨hl, o⟩ := p
    exact ⟨its, rv, plain_list ⟨hl, o⟩, PlainL.lt ⟨hl, o⟩⟩
theorem sqB_inj {bb : Bool} {a : Addr} {xs ys : List V} (I : Inv X pins σ H s) (h : SqB bb X.K H a xs) (g : SqB bb X.K H a ys) : ys = xs := by
  cases bb
  · exact I.tuple_inj (show SqT X.K H a ys from g) h
  · exact I.list_inj (show SqL X.K H a ys from g) h
end
theorem turn_zb {b1 b2 : Bool} {P : Program} {w : World} {K : PySem.W.Frag} {elts : List Expr} {kk : Nat} {tpos : Pos} {a b z TI TO i1 i2 : Addr} (D : ZipApart z TI TO i1 i2 a b) :
    Turn P w K (.Tuple elts kk tpos) (ItzB b1 b2 K a b) [z, TI, TO, i1, i2] z (fun i h => ∃ x y, ZipB b1 b2 h z TI TO i1 i2 a b i i x y) where
  mem := by simp
  obj := fun i h st c hc => by
    obtain ⟨x, y, hz, hTI, hTO, m1, m2⟩ := st
    have e' : c = z ∨ c = TI ∨ c = TO ∨ c = i1 ∨ c = i2 := by simpa using hc
    rcases e' with rfl | rfl | rfl | rfl | rfl
    · exact ⟨_, hz, fun v q => nomatch q⟩
    · exact ⟨_, hTI, fun v q => nomatch q⟩
    · exact ⟨_, hTO, fun v q => nomatch q⟩
    · exact m1.obj
    · exact m2.obj
  keep := fun i h h' st k => by
    obtain ⟨x, y, hz, hTI, hTO, m1, m2⟩ := st
    exact ⟨x, y, k z (by simp) _ hz, k TI (by simp) _ hTI, k TO (by simp) _ hTO, m1.mv fun o q => k i1 (by simp) o q, m2.mv fun o q => k i2 (by simp) o q⟩
  item := by
    intro X hP hw hK hc i pins s σ H E I hf st hg
    subst hP hw hK
    obtain ⟨x0, y0, Z⟩ := st
    obtain ⟨xs, ys, x, y, hqx, hqy, hx, hy⟩ := hg
    obtain ⟨its, rv, p, _⟩ := seB_of I hqx
    obtain ⟨its2, rv2, p2, _⟩ := seB_of I hqy
    obtain ⟨u, hu, ru⟩ := rv.get hx
    obtain ⟨u2, hu2, ru2⟩ := rv2.get hy
    have hzl : z < s.heap.objs.size := Heap.lt_size Z.z
    refine pyZipB_item D Z p p2 (x := u) (y := u2) (by simpa using hu) (by simpa using hu2) fun h' z' TO' h1' h2' hT hsz hk => ?_
    refine ⟨_, rfl, wpAny_letOwnedTupleGo_zip (s := { s with heap := h' }) z' fun h'' z'' sb => ?_⟩
    have hT2 : h''.get? s.heap.objs.size = some { cls := .type "tuple", data := .seq #[u, u2] } := (sb.2 _ (Nat.ne_of_gt hzl)).trans hT
    have new : ObjOk X.prog X.w (upd H s.heap.objs.size (.tup [x, y])) h'' s.heap.objs.size (.tup [x, y]) := ⟨by show 2 ≤ sizeLine; decide, [u, u2], .cons ru (.cons ru2 .nil), ⟨_, hT2, rfl, _, rfl⟩⟩
    have I1 : Inv X pins σ (upd H s.heap.objs.size (.tup [x, y])) { s with heap := h'' } :=
      I.turnedNew (t' := s.toks) (ch := [z, TI, TO, i1, i2]) (fun c o hb q => (sb.2 c (fun q' => hb (by simp [q']))).trans (hk c o (fun q' => hb (by simp [q'])) (fun q' => hb (by simp [q'])) (fun q' => hb (by simp [q'])) (fun q' => hb (by simp [q'])) q)) hf (Nat.le_refl _) new
    refine ⟨.ref s.heap.objs.size, _, I1, rfl, ⟨_, x, y, rfl, I.hok.fresh (Nat.le_refl _), rfl, fun l hl => by rw [sqB_inj I hqx hl]; exact hx, fun l hl => by rw [sqB_inj I hqy hl]; exact hy⟩, ⟨u, u2, z'', ?_, ?_, ?_, ?_⟩, fun c hcm => ?_⟩
    · exact (sb.2 _ D.TIz).trans (hk _ _ D.TIz D.TITO D.TIi1 D.TIi2 Z.ti)
    · exact (sb.2 _ D.TOz).trans TO'
    · exact h1'.mv fun o q => (sb.2 _ D.i1z).trans q
    · exact h2'.mv fun o q => (sb.2 _ D.i2z).trans q
    · have hlt : c < s.heap.objs.size := by
        have e' : c = z ∨ c = TI ∨ c = TO ∨ c = i1 ∨ c = i2 := by simpa using hcm
        rcases e' with rfl | rfl | rfl | rfl | rfl
        · exact hzl
        · exact Heap.lt_size Z.ti
        · exact Heap.lt_size Z.to
        · obtain ⟨_, e1, _⟩ := Z.it1.obj; exact Heap.lt_size e1
        · obtain ⟨_, e2, _⟩ := Z.it2.obj; exact Heap.lt_size e2
      rw [upd_ne (Nat.ne_of_lt hlt)]
      exact (hf c hcm).1
  done := by
    intro X hP hw hK hc i pins s σ H E I hf st hg
    subst hP hw hK
    obtain ⟨x0, y0, Z⟩ := st
    obtain ⟨xs, ys, hqx, hqy, hend⟩ := hg
    obtain ⟨its, rv, p, _⟩ := seB_of I hqx
    obtain ⟨its2, rv2, p2, _⟩ := seB_of I hqy
    have l1 := rv.length
    have l2 := rv2.length
    have he : its.toArray[i]? = none ∨ its2.toArray[i]? = none := by
      rcases hend with q | q
      · exact .inl (by simp; omega)
      · exact .inr (by simp; omega)
    exact pyZipB_end (I.ok.hd hc) D Z p p2 he fun h' hk => ⟨rfl, I.turnedL (t' := s.toks) (ch := [z, TI, TO, i1, i2]) (fun c o hb q =>
      hk c o (fun q' => hb (by simp [q'])) (fun q' => hb (by simp [q'])) (fun q' => hb (by simp [q'])) (fun q' => hb (by simp [q'])) q) hf⟩
  self := fun A i s Q E st h => by
    obtain ⟨x0, y0, Z⟩ := st
    exact wpAny_pyIter_zip Z.z h
def iZipB (b1 b2 : Bool) (K : PySem.W.Frag) (ta : TA) : TI := fun σ H R => ta σ H fun vs H1 => ∃ a b xs ys, vs = [.ref a, .ref b] ∧ SqB b1 K H1 a xs ∧ SqB b2 K H1 b ys ∧ R (ItzB b1 b2 K a b) H1
/-- which kinds the two are is told by the reading -/
def iZipS (K : PySem.W.Frag) (ta : TA) : TI := fun σ H R => ∃ b1 b2, iZipB b1 b2 K ta σ H R
theorem pi_zipS {X : Cx} {e e2 : Expr} {ta : TA} {p pos tpos : Pos} {elts : List Expr} {kk : Nat} (hg : Gl X "zip") (hm : X.mg "zip" = none) (ha : PA X [e, e2] ta)
    (hs : starEach [e, e2] X.env = (false, eval e X.env) :: starEach [e2] X.env := by rfl) (hpl : (backTo pos (starEach [e2] X.env)).any (·.1) = false := by rfl) :
    PI X (.Tuple elts kk tpos) (.Call (.Name "zip" p) [e, e2] [] pos) (iZipS X.K ta) := by
  refine ⟨fun pins s σ H R I h => ?_⟩
  obtain ⟨b1, b2, h⟩ := h
  refine Call_ (ld_blt I hg hm PyProof.Rows.boot_zip (PyProof.Rows.callWith_type1 (thn (ha.run pos pins s σ H _ I h) fun us s1 ⟨vs, H1, I1, r1, q1⟩ => ?_) hs hpl))
  obtain ⟨a, b, xs, ys, rfl, hqx, hqy, q⟩ := q1
  cases r1 with
  | cons r rr =>
    cases rr with
    | cons r' rr =>
      cases rr
      cases r
      cases r'
      obtain ⟨its, rv, p1, lt1⟩ := seB_of I1 hqx
      obtain ⟨its2, rv2, p2, lt2⟩ := seB_of I1 hqy
      refine call_zb p1 p2 fun h' Z hk => wpAny_pyIter_zip Z.z ?_
      have I2 : Inv X pins σ H1 { s1 with heap := h' } := I1.kept (t' := s1.toks) hk
      refine ⟨s1.heap.objs.size + 4, [s1.heap.objs.size + 4, s1.heap.objs.size + 2, s1.heap.objs.size + 3, s1.heap.objs.size, s1.heap.objs.size + 1], _, _, H1, rfl, I2, turn_zb (PySem.W.ktu_apart s1.heap.objs.size a b lt1 lt2), ⟨_, _, Z⟩, fun c hcm => ?_, q⟩
      have hle : s1.heap.objs.size ≤ c := by
        have e' : c = s1.heap.objs.size + 4 ∨ c = s1.heap.objs.size + 2 ∨ c = s1.heap.objs.size + 3 ∨ c = s1.heap.objs.size ∨ c = s1.heap.objs.size + 1 := by simpa using hcm
        rcases e' with rfl | rfl | rfl | rfl | rfl <;> omega
      exact I1.fpOk hle (I1.hok.fresh hle)
end Qk

/-! ## Q3. ints of lists; comprehensions over a zip of two rows of numbers -/
namespace Qk
open PySem PySem.Spec PyProof.Rows L2
theorem ints_of {xs : List V} {G : Int → Prop} (h : ∀ (i : Nat) v, xs[i]? = some v → ∃ k : Int, v = .int k ∧ G k) : ∃ ns : List Int, xs = ns.map V.int ∧ ∀ k ∈ ns, G k := by
  induction xs with
  | nil => exact ⟨[], rfl, fun _ h => by cases h⟩
  | cons x xs ih =>
    obtain ⟨k, rfl, hk⟩ := h 0 x rfl
    obtain ⟨ns, rfl, hn⟩ := ih fun i v hi => h (i + 1) v hi
    exact ⟨k :: ns, rfl, fun j hj => by rcases List.mem_cons.mp hj with rfl | hj; exact hk; exact hn j hj⟩
theorem sqB_same {b : Bool} {K : PySem.W.Frag} {H H' : Hp} {a : Addr} {xs : List V} (e : Same H H') (h : SqB b K H a xs) : SqB b K H' a xs := by
  cases b
  · exact sqT_same e h
  · exact e.seq h
/-- a comprehension over zip of two rows of integers, its turns change nothing that is tracked -/
theorem lc_zipI {K : PySem.W.Frag} {b1 b2 : Bool} {a b : Addr} {ns ms : List Int} {g : TG} {tt : TT} {te : TE} {vs : List Nat} {σ : L2.St} {H0 H1 : Hp} {Q : VK} {ta : TA} (ha : ∀ Q' : List V → Hp → Prop, Q' [.ref a, .ref b] H1 → ta σ H0 Q') (f : Int → Int → Int)
    (h1 : SqB b1 K H1 a (ns.map V.int)) (h2 : SqB b2 K H1 b (ms.map V.int)) (hl : ns.length ≤ 100000)
    (turn : ∀ (T : Addr) x y, x ∈ ns → y ∈ ms → ∀ H, Same H1 H → H T = some (.tup [.int x, .int y]) → ∀ (A : V → Hp → Prop) (B : Hp → Prop), (∀ H', Same H H' → A (.int (f x y)) H') →
      g (.ref T) (wipe σ vs) H fun σ2 H2 => wipe σ2 vs = wipe σ vs ∧ tt σ2 H2 fun b H3 => if b = true then te σ2 H3 A else B H3)
    (hd : ∀ D H', H1 D = none → H' D = some (.lst ((List.zipWith f ns ms).map V.int)) → Same H1 H' → Q (.ref D) H') :
    tLc (iZipS K ta) g tt te vs σ H0 Q := by
  refine ⟨b1, b2, ha _ ⟨a, b, _, _, rfl, h1, h2, fun D hD => ?_⟩⟩
  refine ⟨fun i m H => m = ns.length + 1 - i ∧ i ≤ ns.length ∧ i ≤ ms.length ∧ Same H1 H ∧ H D = some (.lst (((List.zipWith f ns ms).take i).map V.int)), ⟨_, rfl, Nat.zero_le _, Nat.zero_le _, same_new hD, by rw [List.take_zero]; exact upd_same⟩, ?_⟩
  rintro i m H ⟨rfl, hi, hj, e, hl2⟩
  have q1 := sqB_same e h1
  have q2 := sqB_same e h2
  by_cases lt : i < ns.length ∧ i < ms.length
  · have x1 : (ns.map V.int)[i]? = some (.int ns[i]) := by rw [List.getElem?_map, List.getElem?_eq_getElem lt.1]; rfl
    have x2 : (ms.map V.int)[i]? = some (.int ms[i]) := by rw [List.getElem?_map, List.getElem?_eq_getElem lt.2]; rfl
    refine .inr ⟨⟨_, _, _, _, q1, q2, x1, x2⟩, fun H' => i + 1 ≤ ns.length ∧ i + 1 ≤ ms.length ∧ Same H1 H' ∧ H' D = some (.lst (((List.zipWith f ns ms).take (i + 1)).map V.int)), fun H' h => ⟨_, by omega, rfl, h⟩, ?_⟩
    rintro v H' ⟨T, x, y, rfl, hT, rfl, f1, f2⟩
    have y1 := f1 _ q1
    have y2 := f2 _ q2
    rw [x1] at y1
    rw [x2] at y2
    cases y1
    cases y2
    have eT : Same H (upd H T (.tup [.int ns[i], .int ms[i]])) := same_new hT
    refine turn T _ _ (List.getElem_mem _) (List.getElem_mem _) _ (e.trans eT) upd_same _ _ fun H' e' => ?_
    refine ⟨_, e' _ _ (eT _ _ hl2), small_le ?_, lt.1, lt.2, fun c o hc => ?_, ?_⟩
    · rw [List.length_map, List.length_take]; omega
    · rw [upd_ne (ne_of_none hc hD)]
      exact e' _ _ (eT _ _ (e _ _ hc))
    · rw [upd_same, List.take_add_one, List.map_append]
      have z : (List.zipWith f ns ms)[i]? = some (f ns[i] ms[i]) := by
        rw [List.getElem?_zipWith, List.getElem?_eq_getElem lt.1, List.getElem?_eq_getElem lt.2]
      rw [z]
      rfl
  · refine .inl ⟨⟨_, _, q1, q2, ?_⟩, hd D H hD ?_ e⟩
    · rw [List.length_map, List.length_map]; omega
    · rw [List.take_of_length_le (by rw [List.length_zipWith]; omega)] at hl2
      exact hl2
/-- the sum of the products -/
def dot (ns ms : List Int) : Int := (List.zipWith (fun x y => x * y) ns ms).sum
end Qk

/-! ## Q4. a value asked for a list or a tuple of so many integers -/
namespace Qk
open PySem PySem.Spec PyProof.Rows L2
/-- the items, where the value is a list or a tuple -/
inductive SeqQ (K : PySem.W.Frag) (H : Hp) : V → Option (List V) → Prop
  | lst {a : Addr} {xs : List V} (h : H a = some (.lst xs)) : SeqQ K H (.ref a) (some xs)
  | tup {a : Addr} {xs : List V} (h : H a = some (.tup xs)) : SeqQ K H (.ref a) (some xs)
  | no {v : V} {t : Value} (h : TyX K H v t) (n : PySem.W.kitAny K t [.type "list", .type "tuple"] = some false) : SeqQ K H v none
theorem SeqQ.ty {K : PySem.W.Frag} {H : Hp} {v : V} {o : Option (List V)} (h : SeqQ K H v o) : ∃ t, TyX K H v t ∧ PySem.W.kitAny K t [.type "list", .type "tuple"] = some o.isSome := by
  cases h with
  | lst h => exact ⟨_, .base (.lst h), by have := ki "list" "list" (r := true) (by decide +kernel) K; simp only [PySem.W.kitAny, this]; rfl⟩
  | tup h => exact ⟨_, .base (.tup h), by have h1 := ki "tuple" "list" (r := false) (by decide +kernel) K; have h2 := ki "tuple" "tuple" (r := true) (by decide +kernel) K; simp only [PySem.W.kitAny, h1, h2]; rfl⟩
  | no h n => exact ⟨_, h, n⟩
theorem SeqQ.same {K : PySem.W.Frag} {H H' : Hp} {v : V} {o : Option (List V)} (e : Same H H') (h : SeqQ K H v o) : SeqQ K H' v o := by
  cases h with
  | lst h => exact .lst (e _ _ h)
  | tup h => exact .tup (e _ _ h)
  | no h n => exact .no (tyX_same e h) n
def okSeq (o : Option (List V)) (m : Int) : Bool := match o with
  | some xs => decide ((xs.length : Int) = m) && xs.all isIntV
  | none => false
end Qk

/-! ## T1. try: body / except x as n: suite, the error known behind the suite -/
namespace Qk
open PySem PySem.Spec PyProof.Rows L2
/-- a caught error at a: its class, its own dict -/
def caughtO (a : Addr) (cls : Value) (d : Option Addr) : HO := .ext fun h => ∃ (oe : Obj) (vs : Array Value), h.get? a = some oe ∧ Zc cls d oe ∧ oe.data = .fields vs
theorem caughtO_ok {P : Program} {w : World} {H : Hp} {h : Heap} {a : Addr} {cls : Value} {d : Option Addr} {oe : Obj} {vs : Array Value} (e : h.get? a = some oe) (z : Zc cls d oe) (dt : oe.data = .fields vs) : ObjOk P w H h a (caughtO a cls d) :=
  ⟨⟨oe, vs, e, z, dt⟩, ⟨oe, e⟩, fun _ _ ⟨o, v, q, r⟩ k => ⟨o, v, k o q, r⟩⟩
section
variable {X : Cx} {pins : List (Addr × Obj)} {σ : L2.St} {H : Hp} {sI s' : Shared} {B : Heap}
/-- back on the ground, the error known -/
theorem landedX {a : Addr} {cls : Value} {d : Option Addr} {oe : Obj} {vs : Array Value} (I : Inv X pins σ H sI) (nb : ∀ b o, sI.heap.get? b = some o → b ∉ frs X.stack → B.get? b = some o) (st : B.StaysIn s'.heap) (up : sI.heap.UpToSlots s'.heap) (os : s'.os = sI.os) (ag : AllBare s'.gens)
    (na : H a = none) (ba : B.get? a = none) (nf : a ∉ frs X.stack) (he : s'.heap.get? a = some oe) (hz : Zc cls d oe) (hd : oe.data = .fields vs) : Inv X pins σ (upd H a (caughtO a cls d)) s' := by
  have ga : sI.heap.get? a = none := by
    cases q : sI.heap.get? a with
    | none => rfl
    | some o => rw [nb a o q nf] at ba; cases ba
  have nfr : ∀ b ∈ frs X.stack, ∀ o, sI.heap.get? b = some o → ∃ sl, s'.heap.get? b = some { o with slots := sl } := fun b hb o e => by
    obtain ⟨_, o', e', hd⟩ := I.stack.mem hb
    rw [e] at e'; cases e'
    exact up b o e hd
  have ne : ∀ b o, sI.heap.get? b = some o → b ≠ a := fun b o e z => by rw [z, ga] at e; cases e
  have nh : ∀ b u, H b = some u → b ≠ a := fun b u e => ne_of_none e na
  have J := I.call (ch := []) (h' := s'.heap) (g' := s'.gens) (t' := s'.toks) (d' := s'.drawn) (H' := upd H a (caughtO a cls d))
    ⟨fun b o e _ hb _ => st b o (nb b o e hb), fun b o e _ hb _ => nfr b hb o e, fun b o e n _ => by rw [upd_ne (ne b o e)]; exact n, fun b o e _ => by
      by_cases hb : b ∈ frs X.stack
      · obtain ⟨sl, q⟩ := nfr b hb o e
        exact ⟨_, q⟩
      · exact ⟨o, st b o (nb b o e hb)⟩, fun b _ e => by rw [upd_ne (nh b _ e)]; exact e, fun b _ _ e => by rw [upd_ne (nh b _ e)]; exact e, fun b ps e => ⟨#[], by rw [upd_ne (nh b _ e), e]; simp⟩⟩
    ((I.inGround nb).laidN st na (caughtO_ok he hz hd)) ag (fun _ z => nomatch z)
  obtain ⟨a1, a2, a3, a4, a5⟩ := s'
  have e5 : a5 = sI.os := os
  subst e5
  exact J
/-- the context of such a suite -/
abbrev sui (X : Cx) (a : Addr) : Cx := { X with A := X.A.mark (some (.ref a)), calm := false, xe := fun _ _ => False }
theorem okSui (ok : X.Ok) (a : Addr) : (sui X a).Ok :=
  ⟨ok.mod, ok.kind, ok.glob, ok.blt, ok.above, ok.inj, ok.has, ok.cab, (fun z => absurd (show false = true from z) Bool.false_ne_true), ok.frames, ok.stk, ok.exf, ok.bs, ok.bsz, ok.noex, ok.exfs, ok.funs, ok.frf⟩
theorem toSui (I : Inv X pins σ H s') (a : Addr) : Inv (sui X a) pins σ H s' := ⟨okSui I.ok a, I.os, I.bare, I.base, I.loc, I.cell, I.free, I.freeC, I.pin, I.hok, I.len⟩
theorem ofSui {a : Addr} (I : Inv (sui X a) pins σ H s') (ok : X.Ok) : Inv X pins σ H s' := ⟨ok, I.os, I.bare, I.base, I.loc, I.cell, I.free, I.freeC, I.pin, I.hok, I.len⟩
end
/-- what the clause wishes of an error of the body -/
def wKept (K : PySem.W.Frag) (c : Value) (i : Nat) (ts : Addr → TS) (Wout : WX) (D : Ends) : WX := fun cls d σ H =>
  ∃ b, PySem.W.exmOne K cls c = some b ∧ (b = true → ∀ a, H a = none → ts a { nx := fun σ' H' => D.nx (σ'.set i none) H', rt := D.rt, bk := fun σ' H' => D.bk (σ'.set i none) H', ct := fun σ' H' => D.ct (σ'.set i none) H' } (σ.set i (some (.ref a))) (upd H a (caughtO a cls d))) ∧
    (b = false → Wout cls d σ H)
section
variable {X : Cx} {x n : Str} {c : Value} {i : Nat} {body suite : List Stmt} {b₀ : Stmt} {np pos pos' : Pos} {tb : WX → TS} {ts : Addr → TS} {Wout : WX}
theorem ps_try_kept (hs : X.stack = X.env :: X.outer) (hf : X.env.frame = some X.env.locals) (hN : X.N.Nodup) (hi : X.N[i]? = some n) (hln : X.env.kindOf n = some .local) (hc : Names X x c) (tk : Takes X Wout)
    (hb : ∀ W pn xe, Takes (X.tr pn xe) W → PassesOwn (model X.prog X.w) X.A X.env xe → PSs (X.tr pn xe) body (tb W)) (hsu : ∀ a, PSs (sui X a) (b₀ :: suite) (ts a)) :
    PS X (.Try body [.ExceptHandler (some (.Name x np)) (some n) (b₀ :: suite) pos'] [] [] pos) (fun D σ H => tb (wKept X.K c i ts Wout D) D σ H) := by
  refine ⟨fun pins s σ H D I h => wpAny_Try_except ?_⟩
  -- what the body's errors meet
  have catch_ : Takes (X.tr (X.pn ++ pins) fun e s1 => wpAny (model X.prog X.w) X.A (noteFrame e X.env) (fun _ s2 => wpAny (model X.prog X.w) X.A (setFlight e none) (fun _ s3 =>
      wpAny (model X.prog X.w) X.A (handleBy e X.env [.ExceptHandler (some (.Name x np)) (some n) (b₀ :: suite) pos']) (SP X pins D) X.xe s3) X.xe s2) X.xe s1) (wKept X.K c i ts Wout D) := by
    rintro _ t ⟨a, B, g, ps, τ, G, cls, d, rfl, J, nb, up, sky, na, os, ag, b, hk, yes, no⟩
    have Jx := J.ofTry I.ok
    refine Sky.land (A := X.A) Zc.steady (by rw [I.ok.frames, hs]) hf (show Sky B (X.env :: X.outer) a (Zc cls d) X.env.locals t.heap by rw [← hs]; exact sky) fun h1 fl u1 => ?_
    have down := Jx.landed (s' := { t with heap := h1 }) nb fl.1 (up.trans u1) os ag
    have off : a ∉ frs X.stack := fun hm => by
      obtain ⟨oe, vs, he, _, hd⟩ := fl.there
      rw [hs] at hm
      obtain ⟨_, o, e, nf⟩ := fl.2.2.1.mem hm
      rw [he] at e
      cases e
      exact nf _ hd
    have ask : ∀ {Q : Value → Shared → Prop} {E : Value → Shared → Prop}, Q c { t with heap := h1 } → wpAny (model X.prog X.w) (X.A.mark (some (.ref a))) (eval (.Name x np) X.env) Q E { t with heap := h1 } := fun {Q E} q =>
      hc.2.2.elim (fun hm => ld_glob (X := sui X a) (toSui down a) hc.1 hm q hc.2.1) fun hm => ld_blt (X := sui X a) (toSui down a) hc.1 hm.1 hm.2.1 q hm.2.2 hc.2.1
    cases b with
    | false =>
      exact PX.clause_passZ (Z := Zc cls d) down.kIn (fun _ z => z.1) fl hk ask (PX.no_clauseZ (Z := Zc cls d) hf fl fun h2 held u2 => tk _ _
        ⟨a, B, g, pins, τ, G, cls, d, rfl, Jx, nb, (up.trans u1).trans u2, .inr (.inr (by rw [hs]; exact held)), na, os, ag, no rfl⟩)
    | true =>
      refine PX.clause_asZ (Z := Zc cls d) down.kIn (fun _ z => z.1) fl hk ask fun h2 f2 u2 => ?_
      obtain ⟨oe, vs, he, hz, hd⟩ := (show HandSPX.FlyingZ B (X.env :: X.outer) a (Zc cls d) h2 from f2).there
      have known := landedX (s' := { t with heap := h2 }) Jx nb f2.1 ((up.trans u1).trans u2) os ag na f2.2.1 off he hz hd
      refine store_ok (X := sui X a) (v := .ref a) (toSui known a) hN hi (.inl hln) rfl (fun s5 S => ?_) (.inr hln)
      refine wpAny_mono ((hsu a).run pins s5 _ _ _ S (yes rfl a na)) (fun f s6 out => ?_) fun _ _ z => z
      have gone : ∀ {σ6 : L2.St} {H6 : Hp} {R : Shared → Prop}, Inv (sui X a) pins σ6 H6 s6 → (∀ s7, Inv X pins (σ6.set i none) H6 s7 → R s7) →
          wpAny (model X.prog X.w) X.A (do bindName X.env n .none; unbindBehindTheSuite X.env n pos') (fun _ s7 => R s7) X.xe s6 := fun S6 r => gone_ok (ofSui S6 I.ok) hN hi hln r
      match f, out with
      | .ret u, ⟨v, σ6, H6, S6, r6, q6⟩ => exact gone S6 fun s7 L => ⟨v, _, H6, L, r6, q6⟩
      | .next, ⟨σ6, H6, S6, q6⟩ => exact gone S6 fun s7 L => ⟨_, H6, L, q6⟩
      | .brk, ⟨σ6, H6, S6, q6⟩ => exact gone S6 fun s7 L => ⟨_, H6, L, q6⟩
      | .cont, ⟨σ6, H6, S6, q6⟩ => exact gone S6 fun s7 L => ⟨_, H6, L, q6⟩
  refine wpAny_mono ((hb _ _ _ catch_ PassesOwn.looking).run [] s σ H D (I.toTry _) h) (fun f s1 out => ?_) fun _ _ z => z
  match f, out with
  | .ret u, ⟨v, σ', H', L, r, q⟩ => exact ⟨v, σ', H', L.ofTry I.ok, r, q⟩
  | .next, ⟨σ', H', L, q⟩ => exact wpAny_execs_nil ⟨σ', H', L.ofTry I.ok, q⟩
  | .brk, ⟨σ', H', L, q⟩ => exact ⟨σ', H', L.ofTry I.ok, q⟩
  | .cont, ⟨σ', H', L, q⟩ => exact ⟨σ', H', L.ofTry I.ok, q⟩
end
end Qk

/-! ## X1. a caught error asked: isinstance, a field -/
namespace Qk
open PySem PySem.Spec PyProof.Rows L2
/-- a class of errors whose instances are asked -/
structure AskC (K : PySem.W.Frag) (D : Addr) : Prop where
  cl : (PySem.W.clsIn K D).isSome = true
  hg : PySem.W.findIn K (.ref D) "__getattribute__" = some (some (.builtin "BaseException.__getattribute__"))
  hk : PySem.W.findIn K (.ref D) "__getattr__" = some none
  hs : PySem.W.subIn K (.ref D) (.type "BaseException") = some true
  hd : PySem.W.hasDictIn K D = true
  ha : PySem.W.findIn K (.ref D) "__class__" = some (some (.builtin "object.__class__"))
  hn : PySem.W.specialIn K (.builtin "object.__class__") "__get__" = some (some (.builtin "getset_descriptor.__get__"))
  ht : PySem.W.takesIn K (.builtin "object.__class__") = some true
  hm : PySem.W.mroIn K D (.type "object") = some true
def askB (K : PySem.W.Frag) (D : Addr) : Bool := (PySem.W.clsIn K D).isSome && decide (PySem.W.findIn K (.ref D) "__getattribute__" = some (some (.builtin "BaseException.__getattribute__"))) && decide (PySem.W.findIn K (.ref D) "__getattr__" = some none) &&
  decide (PySem.W.subIn K (.ref D) (.type "BaseException") = some true) && PySem.W.hasDictIn K D && decide (PySem.W.findIn K (.ref D) "__class__" = some (some (.builtin "object.__class__"))) &&
  decide (PySem.W.specialIn K (.builtin "object.__class__") "__get__" = some (some (.builtin "getset_descriptor.__get__"))) && decide (PySem.W.takesIn K (.builtin "object.__class__") = some true) && decide (PySem.W.mroIn K D (.type "object") = some true)
theorem askB_ok {K : PySem.W.Frag} {D : Addr} (h : askB K D = true) : AskC K D := by
  unfold askB at h
  simp only [Bool.and_eq_true, decide_eq_true_eq] at h
  obtain ⟨⟨⟨⟨⟨⟨⟨⟨h1, h2⟩, h3⟩, h4⟩, h5⟩, h6⟩, h7⟩, h8⟩, h9⟩ := h
  exact ⟨h1, h2, h3, h4, h5, h6, h7, h8, h9⟩
section
variable {X : Cx}
theorem caught_at {pins : List (Addr × Obj)} {σ : L2.St} {H : Hp} {s : Shared} {a d D : Addr} {fs : List (Str × V)} (I : Inv X pins σ H s) (ha : H a = some (caughtO a (.ref D) (some d))) (hd : H d = some (.xd fs)) :
    ∃ oe od mA, PySem.W.InstAt s.heap a oe D (some od) ∧ s.heap.Ns1 d mA ∧ (∀ nm, PySem.W.lookIn nm od = some (mA nm)) ∧ ∀ nm, RelO (fs.lookup nm) (mA nm) := by
  obtain ⟨⟨oe, vs, e, z, dt⟩, _⟩ := I.hok a _ ha
  obtain ⟨mA, ns, rel⟩ := (show ObjOk X.prog X.w H s.heap d (.xd fs) from I.hok d _ hd)
  obtain ⟨od, ho, hl⟩ := lookIn_ns ns
  exact ⟨oe, od, mA, ⟨e, z.1, by unfold PySem.W.notCls; rw [dt] <;> rfl, by rw [z.2]; exact ho⟩, ns, hl, rel⟩
/-- isinstance(e, c), e a caught error of the class at D -/
def rIsX (K : PySem.W.Frag) : List V → Hp → VK → Prop := fun xs H Q => ∃ (a d D : Addr) (fs : List (Str × V)) (c : V) (u : Value) (b : Bool), xs = [.ref a, c] ∧ H a = some (caughtO a (.ref D) (some d)) ∧ H d = some (.xd fs) ∧ AskC K D ∧ ClsV c u ∧ PySem.W.kitOne K (.ref D) u = some b ∧ Q (.bl b) H
theorem call_isX : CallR X (.builtin "isinstance") (rIsX X.K) := by
  rintro pins s σ H xs us Q I r ⟨a, d, D, fs, c, u, b, rfl, ha, hd, C, cv, e, q⟩
  obtain ⟨u1, u2, rfl, r1, r2⟩ := vals2 r
  obtain rfl := cv.eq r2
  cases r1
  obtain ⟨oe, od, mA, J, _⟩ := caught_at I ha hd
  exact PySem.W.kia_one (PySem.W.kitx_exc C.cl C.hg C.hk C.hs C.ha C.hn C.ht C.hm) I.kIn J e (fun z => nomatch z) fun tk => ⟨.bl b, H, I.kept (t' := tk) fun _ _ z => z, rfl, q⟩
/-- e.f -/
def tXd (K : PySem.W.Frag) (f : Str) (te : TE) : TE := fun σ H Q => te σ H fun x H1 => ∃ (a d D : Addr) (fs : List (Str × V)) (v : V), x = .ref a ∧ H1 a = some (caughtO a (.ref D) (some d)) ∧ H1 d = some (.xd fs) ∧ AskC K D ∧ PySem.W.findIn K (.ref D) f = some none ∧ fs.lookup f = some v ∧ Q v H1
theorem pe_xd {e : Expr} {te : TE} {pos : Pos} {f : Str} (he : PE X e te) (hb : attributeBase e f X.env (eval e X.env) = eval e X.env := by rfl) : PE X (.Attribute e f pos) (tXd X.K f te) := by
  refine ⟨fun pins s σ H Q I h => attr_of hb (thn (he.run pins s σ H _ I h) ?_)⟩
  rintro u s1 ⟨x, H1, I1, rx, a, d, D, fs, v, rfl, ha, hd, C, no, l, q⟩
  cases rx
  obtain ⟨oe, od, mA, J, ns, hl, rel⟩ := caught_at I1 ha hd
  obtain ⟨u, hu, ru⟩ := RelO.some_of (v := v) (o := mA f) (by rw [← l]; exact rel f)
  exact HandSPX.exc_get I1.kIn J C.hg C.hk C.hs (PySem.W.findObj_own C.hd no rfl (by rw [hl, hu])) (handed_of ru) ⟨v, H1, I1.tok _, ru, q⟩
end
end Qk

/-! ## Q5. an instance called, by place and by name; K-free forms of rules -/
namespace Qk
open PySem PySem.Spec PyProof.Rows L2
theorem callI_of {M : Model} {A : Around} {E : Value → Shared → Prop} {s : Shared} {a : Addr} {pos : Pos} {Q : Value → Shared → Prop} {args : List (Bool × Sem Value)} {kws : List (Option Str × Sem Value)} (hp : (args.any (·.1) || kws.any (·.1.isNone)) = false)
    (h : wpAny M A (evalArgs (.ref a) true args kws) (fun z s1 => (∃ C ox od, PySem.W.InstAt s1.heap a ox C od ∧ ox.data = .plain) ∧ wpAny M A (call (.ref a) z.pos z.kw) Q E s1) E s) : wpAny M A (callWith pos (.ref a) [] args kws) Q E s := by
  unfold callWith
  refine wpAny_bind (wpAny_holding (wpAny_mono h (fun z s1 hz => wpAny_bind (wpAny_standAt ?_)) fun _ _ y => y))
  obtain ⟨⟨C, ox, od, J, hd⟩, hc⟩ := hz
  simp only [hp]
  refine wpAny_bind ((PySem.W.kco_keeper (M := M) J hd).here ?_)
  exact wpAny_bind (wpAny_mono (wpAny_operateT hc) (fun r s2 hr => wpAny_bind (wpAny_holding (wpAny_point (wpAny_pure hr)))) fun _ _ y => y)
section
variable {X : Cx} {CX : CXT} {k : Nat} {C g : Addr} {sp : Sp} {E : L2.St → XK} {fe e : Expr} {es : List Expr} {tf : TE} {t tk : TA} {pos : Pos} {kws : List Keyword} {ks ps : List Str} {fd : FuncData} {gv : List Value → List Value → List Value} {gV : List V → List V → List V}
theorem ins_at {pins : List (Addr × Obj)} {σ : L2.St} {H : Hp} {s : Shared} {a : Addr} (I : Inv X pins σ H s) (h : ∃ dx fs, H a = some (.ins C dx fs)) : ∃ ox od, PySem.W.InstAt s.heap a ox C od ∧ ox.data = .plain := by
  obtain ⟨dx, fs, h⟩ := h
  exact inst_at I h
/-- o(e, ..), o an instance of the class at C -/
theorem pe_callI (hf : PE X fe tf) (c : StX.CallO X.K C g) (F : FnR X.prog X.w X.K X.mg X.base CX k g sp) (hr : Room k X.A) (hx : ∀ σ, PassesAt CX X σ (E σ)) (ha : PA X (e :: es) t)
    (ht : eval (.Call fe (e :: es) [] pos) X.env = (do callWith pos (← eval fe X.env) [] (backTo pos (starEach (e :: es) X.env)) (backToKw pos (keywordEach [] X.env))) := by rfl)
    (he : starEach (e :: es) X.env = (false, eval e X.env) :: starEach es X.env := by rfl) (hpl : (backTo pos (starEach es X.env)).any (·.1) = false := by rfl) :
    PE X (.Call fe (e :: es) [] pos) (fun σ H Q => tf σ H fun y H1 => ∃ a, y = V.ref a ∧ t σ H1 fun vs H2 => (∃ dx fs, H2 a = some (.ins C dx fs)) ∧ sp (V.ref a :: vs) H2 Q (E σ)) := by
  refine ⟨fun pins s σ H Q I h => Call_ (thn (hf.run pins s σ H _ I h) ?_) ht⟩
  rintro u s1 ⟨y, H1, I1, ry, a, rfl, q⟩
  cases ry
  refine StX.callO_with (thn (ha.run pos pins s1 σ H1 _ I1 q) ?_) he hpl
  rintro us s2 ⟨vs, H2, I2, r, hi, q2⟩
  obtain ⟨ox, od, J, hd⟩ := ins_at I2 hi
  refine ⟨⟨C, ox, od, J, hd⟩, wpAny_call (PySem.W.kco_code I2.kIn J hd c.at_ c.fn c.fi (codeAny_mono (F X.A X.stack s2 H2 (.ref a :: us) (.ref a :: vs) Q (E σ) hr I2.env0 (.cons rfl r) q2) fun r s' hq => ?_))⟩
  match r, hq with
  | .error e, hq => exact hx σ pins H2 s2 e s' I2 hq
  | .ok (.ret u), hq => exact I2.after hq
/-- o(k = v, ..) -/
theorem pe_callIK (hf : PE X fe tf) (c : StX.CallO X.K C g) (F : FnOk X.prog X.w X.K X.mg X.base CX k g fd ps sp) (hr : Room k X.A) (hb : KBn X.K fd ps 1 ks gv gV) (hx : ∀ σ, PassesAt CX X σ (E σ)) (hkw : PK X kws tk)
    (hall : (backToKw pos (keywordEach kws X.env)).all (·.1.isSome) = true := by rfl) (hks : (backToKw pos (keywordEach kws X.env)).filterMap (·.1) = ks := by rfl)
    (ht : eval (.Call fe [] kws pos) X.env = (do callWith pos (← eval fe X.env) [] (backTo pos (starEach [] X.env)) (backToKw pos (keywordEach kws X.env))) := by rfl)
    (hpl : ((backTo pos (starEach [] X.env)).any (·.1) || (backToKw pos (keywordEach kws X.env)).any (·.1.isNone)) = false := by rfl) :
    PE X (.Call fe [] kws pos) (fun σ H Q => tf σ H fun y H1 => ∃ a, y = V.ref a ∧ tk σ H1 fun zs H2 => zs.length = ks.length ∧ (∃ dx fs, H2 a = some (.ins C dx fs)) ∧ sp (gV [V.ref a] zs) H2 Q (E σ)) := by
  refine ⟨fun pins s σ H Q I h => ?_⟩
  rw [ht]
  refine wpAny_bind (thn (hf.run pins s σ H _ I h) ?_)
  rintro u s1 ⟨y, H1, I1, ry, a, rfl, q⟩
  cases ry
  refine callI_of hpl (PyProof.Rows.evalArgs_kw2_nil hall (thn (hkw.run pos pins s1 σ H1 _ I1 q) ?_))
  rintro ws s2 ⟨zs, H2, I2, rz, hl, hi, q2⟩
  obtain ⟨ox, od, J, hd⟩ := ins_at I2 hi
  refine ⟨⟨C, ox, od, J, hd⟩, ?_⟩
  rw [hks]
  refine wpAny_call (PySem.W.kco_code I2.kIn J hd c.at_ c.fn c.fi (codeAny_mono (F.run X.A X.stack s2 H2 ⟨[.ref a], ks.zip ws⟩ (gv [.ref a] ws) (gV [.ref a] zs) Q (E σ) hr I2.env0 (hb.to _ [.ref a] ws I2.kIn rfl (rz.length.symm.trans hl)) (hb.rel (.cons rfl .nil) rz) q2) fun r s' hq => ?_))
  match r, hq with
  | .error e, hq => exact hx σ pins H2 s2 e s' I2 hq
  | .ok (.ret u), hq => exact I2.after hq
end
section
variable {X : Cx} {K : PySem.W.Frag}
theorem op_catK (hK : X.K = K := by rfl) : OpR X (binaryOp .Add) (rCatA K) := by subst hK; exact op_catA
theorem call_tupK (hK : X.K = K := by rfl) : CallR X (.type "tuple") (fun xs H Q => ∃ p ys, xs = [.ref p] ∧ ((SqL K H p ys ∧ ∀ l, H l = none → Q (.ref l) (upd H l (.tup ys))) ∨ (SqT K H p ys ∧ Q (.ref p) H))) := by subst hK; exact call_tuple_of
end
/-- keywords on a def without defaults -/
theorem kbindsN {K : PySem.W.Frag} {x qual : Str} {params : Arguments} {body : List Stmt} {scope : Scope} {f : Addr} {fd : FuncData} {ps : List Str} (F : FunD K x qual params body scope [] [] f fd) (n : Nat) (ks : List Str) (g : {α : Type} → List α → List α → List α)
    (hrel : ∀ {vs zs : List V} {us ws : List Value}, Vals vs us → Vals zs ws → Vals (g vs zs) (g us ws))
    (h : ∀ (kV doc pm : Value) (an : Option Addr) (cdv ct : Value) (us ws : List Value), us.length = n → ws.length = ks.length → bindArgs (PySem.W.fnOf x qual params body scope .none kV doc pm an cdv ct) ⟨us, ks.zip ws⟩ = pure (ps.zip (g us ws))) :
    KBn K fd ps n ks (fun us ws => g us ws) (fun vs zs => g vs zs) := by
  obtain ⟨oc, od, dV, kV, doc, pm, an, cdv, ct, osl, rfl, lk, hcd, hD, hK⟩ := F.ex
  rcases hD with ⟨_, rfl⟩ | ⟨e, _⟩
  · exact ⟨fun s us ws _ l1 l2 => .of_eq (h kV doc pm an cdv ct us ws l1 l2), fun r1 r2 => hrel r1 r2⟩
  · exact absurd rfl e
section
variable {X : Cx} {K : PySem.W.Frag} {k : Nat} {C g : Addr} {sp : Sp}
theorem op_eqK (hs : PySem.W.findIn K (.ref C) "__eq__" = some (some (.ref g))) (hf : PySem.W.isFn K (.ref g) = true) (F : FnR X.prog X.w K X.mg X.base (L2.CX X.prog X.w) k g sp) (hr : Room k X.A) (hK : X.K = K := by rfl) : OpR X (compareOp .Eq) (rEqO K C sp) := by
  subst hK
  exact op_eqO hs hf F hr
theorem op_neK (he : PySem.W.findIn K (.ref C) "__ne__" = some (some (.builtin "object.__ne__"))) (hs : PySem.W.findIn K (.ref C) "__eq__" = some (some (.ref g))) (hf : PySem.W.isFn K (.ref g) = true) (hm : PySem.W.subIn K (.ref C) (.type "object") = some true)
    (F : FnR X.prog X.w K X.mg X.base (L2.CX X.prog X.w) k g sp) (hr : Room (k + 1) X.A) (hK : X.K = K := by rfl) : OpR X (compareOp .NotEq) (fun x y H Q => rEqO K C sp x y H fun v H' => ∃ b, v = .bl b ∧ Q (.bl (!b)) H') := by
  subst hK
  exact op_neO he hs hf hm F hr
end
end Qk

/-! ## the text by places, what the top says -/
namespace K15
open PySem PySem.Spec PyProof.Rows L2 Qk
def top (i : Nat) : Stmt := PySem.Challenge.pw_answerstell_k15_bounds_made_and_asked_an.main.body.getD i (.Pass ⟨0, 0, 0, 0⟩)
abbrev s_is_int : Stmt := (top 15)
theorem sc_is_int : FnScope ["value"] ["value"] (defScope s_is_int) := ⟨rfl, rfl, rfl, by decide +kernel, rfl, by decide +kernel, by decide +kernel⟩
abbrev s_are_ints : Stmt := (top 20)
theorem sc_are_ints : FnScope ["some", "one"] ["some"] (defScope s_are_ints) := ⟨rfl, rfl, rfl, by decide +kernel, rfl, by decide +kernel, by decide +kernel⟩
abbrev s_need_numbers : Stmt := (top 21)
theorem sc_need_numbers : FnScope ["value", "many"] ["value", "many"] (defScope s_need_numbers) := ⟨rfl, rfl, rfl, by decide +kernel, rfl, by decide +kernel, by decide +kernel⟩
abbrev s_value_at : Stmt := (top 23)
theorem sc_value_at : FnScope ["form", "numbers", "factor", "number"] ["form", "numbers"] (defScope s_value_at) := ⟨rfl, rfl, rfl, by decide +kernel, rfl, by decide +kernel, by decide +kernel⟩
abbrev s_is_zero : Stmt := (top 24)
theorem sc_is_zero : FnScope ["form", "factor"] ["form"] (defScope s_is_zero) := ⟨rfl, rfl, rfl, by decide +kernel, rfl, by decide +kernel, by decide +kernel⟩
abbrev s__law_pen : Stmt := (top 28)
theorem sc__law_pen : FnScope ["script"] ["script"] (defScope s__law_pen) := ⟨rfl, rfl, rfl, by decide +kernel, rfl, by decide +kernel, by decide +kernel⟩
abbrev s__law_draw : Stmt := (top 29)
theorem sc__law_draw : FnScope ["pen", "many", "digit", "at", "cell", "great", "mixed"] ["pen", "many"] (defScope s__law_draw) := ⟨rfl, rfl, rfl, by decide +kernel, rfl, by decide +kernel, by decide +kernel⟩
abbrev s__law_pick : Stmt := (top 30)
theorem sc__law_pick : FnScope ["pen", "some"] ["pen", "some"] (defScope s__law_pick) := ⟨rfl, rfl, rfl, by decide +kernel, rfl, by decide +kernel, by decide +kernel⟩
abbrev s__law_factor : Stmt := (top 31)
theorem sc__law_factor : FnScope ["pen"] ["pen"] (defScope s__law_factor) := ⟨rfl, rfl, rfl, by decide +kernel, rfl, by decide +kernel, by decide +kernel⟩
abbrev s__law_form : Stmt := (top 32)
theorem sc__law_form : FnScope ["pen", "many", "k"] ["pen", "many"] (defScope s__law_form) := ⟨rfl, rfl, rfl, by decide +kernel, rfl, by decide +kernel, by decide +kernel⟩
abbrev s__law_value : Stmt := (top 33)
theorem sc__law_value : FnScope ["form", "spots", "one", "other"] ["form", "spots"] (defScope s__law_value) := ⟨rfl, rfl, rfl, by decide +kernel, rfl, by decide +kernel, by decide +kernel⟩
abbrev s__law_heard : Stmt := (top 34)
theorem sc__law_heard : FnScope ["call_so", "caught", "found", "error"] ["call_so"] (defScope s__law_heard) := ⟨rfl, rfl, rfl, by decide +kernel, rfl, by decide +kernel, by decide +kernel⟩
abbrev s_Bound_init : Stmt := (inClass (top 25) 0)
theorem sc_Bound_init : FnScope ["self", "form", "is_strict"] ["self", "form", "is_strict"] (defScope s_Bound_init) := ⟨rfl, rfl, rfl, by decide +kernel, rfl, by decide +kernel, by decide +kernel⟩
abbrev s_Bound_call : Stmt := (inClass (top 25) 3)
theorem sc_Bound_call : FnScope ["self", "numbers", "value"] ["self", "numbers"] (defScope s_Bound_call) := ⟨rfl, rfl, rfl, by decide +kernel, rfl, by decide +kernel, by decide +kernel⟩
abbrev s_Bound_len : Stmt := (inClass (top 25) 4)
theorem sc_Bound_len : FnScope ["self"] ["self"] (defScope s_Bound_len) := ⟨rfl, rfl, rfl, by decide +kernel, rfl, by decide +kernel, by decide +kernel⟩
abbrev s_Bound_eq : Stmt := (inClass (top 25) 9)
theorem sc_Bound_eq : FnScope ["self", "other"] ["self", "other"] (defScope s_Bound_eq) := ⟨rfl, rfl, rfl, by decide +kernel, rfl, by decide +kernel, by decide +kernel⟩
abbrev s_Bound_str : Stmt := (inClass (top 25) 10)
theorem sc_Bound_str : FnScope ["self", "factor"] ["self"] (defScope s_Bound_str) := ⟨rfl, rfl, rfl, by decide +kernel, rfl, by decide +kernel, by decide +kernel⟩
abbrev s_Bound_is_false : Stmt := (inClass (top 25) 2)
theorem sc_Bound_is_false : FnScope ["self"] ["self"] (defScope s_Bound_is_false) := ⟨rfl, rfl, rfl, by decide +kernel, rfl, by decide +kernel, by decide +kernel⟩
abbrev s_Bound_read : Stmt := (inClass (top 25) 1)
theorem sc_Bound_read : FnScope ["cls", "text", "words", "factors", "at"] ["cls", "text"] (defScope s_Bound_read) := ⟨rfl, rfl, rfl, by decide +kernel, rfl, by decide +kernel, by decide +kernel⟩
abbrev s_number_of : Stmt := (top 16)
theorem sc_number_of : FnScope ["word", "least", "most", "digits", "number", "sign"] ["word", "least", "most"] (defScope s_number_of) := ⟨rfl, rfl, rfl, by decide +kernel, rfl, by decide +kernel, by decide +kernel⟩
abbrev s_factors_of : Stmt := (top 26)
theorem sc_factors_of : FnScope ["words", "found", "word", "factor"] ["words"] (defScope s_factors_of) := ⟨rfl, rfl, rfl, by decide +kernel, rfl, by decide +kernel, by decide +kernel⟩
abbrev s__law_refused_right : Stmt := (top 35)
theorem sc__law_refused_right : FnScope ["pen", "bound", "many", "odd", "bad", "heard"] ["pen", "bound", "many"] (defScope s__law_refused_right) := ⟨rfl, rfl, rfl, by decide +kernel, rfl, by decide +kernel, by decide +kernel⟩
abbrev s__law_part_one : Stmt := (top 36)
theorem sc__law_part_one : FnScope ["script", "pen", "lap", "many", "is_so", "form", "bound", "turn_so", "spots", "value", "due", "near", "k", "one"] ["script"] (defScope s__law_part_one) := ⟨rfl, rfl, rfl, by decide +kernel, rfl, by decide +kernel, by decide +kernel⟩
abbrev s__law_draw_b : Stmt := (top 37)
theorem sc__law_draw_b : FnScope ["pen", "many", "digit", "at", "cell", "great", "mixed"] ["pen", "many"] (defScope s__law_draw_b) := ⟨rfl, rfl, rfl, by decide +kernel, rfl, by decide +kernel, by decide +kernel⟩
abbrev s__law_pick_b : Stmt := (top 38)
theorem sc__law_pick_b : FnScope ["pen", "some"] ["pen", "some"] (defScope s__law_pick_b) := ⟨rfl, rfl, rfl, by decide +kernel, rfl, by decide +kernel, by decide +kernel⟩
abbrev s__law_factor_b : Stmt := (top 39)
theorem sc__law_factor_b : FnScope ["pen"] ["pen"] (defScope s__law_factor_b) := ⟨rfl, rfl, rfl, by decide +kernel, rfl, by decide +kernel, by decide +kernel⟩
abbrev s__law_spot : Stmt := (top 40)
theorem sc__law_spot : FnScope ["text", "caught", "error"] ["text"] (defScope s__law_spot) := ⟨rfl, rfl, rfl, by decide +kernel, rfl, by decide +kernel, by decide +kernel⟩
abbrev s__law_words_right : Stmt := (top 41)
theorem sc__law_words_right : FnScope ["pen", "words", "many", "great", "at", "odd", "wrong", "last", "some", "one", "spot"] ["pen", "words"] (defScope s__law_words_right) := ⟨rfl, rfl, rfl, by decide +kernel, rfl, by decide +kernel, by decide +kernel⟩
abbrev s__law_part_two : Stmt := (top 42)
theorem sc__law_part_two : FnScope ["script", "pen", "lap", "many", "form", "bound", "words", "odd", "k", "factor"] ["script"] (defScope s__law_part_two) := ⟨rfl, rfl, rfl, by decide +kernel, rfl, by decide +kernel, by decide +kernel⟩
abbrev s_law : Stmt := (top 43)
theorem sc_law : FnScope ["script"] ["script"] (defScope s_law) := ⟨rfl, rfl, rfl, by decide +kernel, rfl, by decide +kernel, by decide +kernel⟩
abbrev s_BadForm_init : Stmt := inClass (top 5) 0
abbrev s_BadText_init : Stmt := inClass (top 10) 0
structure Txt (P : Program) (K : PySem.W.Frag) (mg : Str → Option Value) : Prop where
  n_all : mg "all" = none
  n_list : mg "list" = none
  n_len : mg "len" = none
  n_int : mg "int" = none
  n_abs : mg "abs" = none
  n_isinstance : mg "isinstance" = none
  n_bool : mg "bool" = none
  n_tuple : mg "tuple" = none
  n_range : mg "range" = none
  n_sum : mg "sum" = none
  n_zip : mg "zip" = none
  g_is_int : mg "is_int" = some (.ref (He.ga K "is_int"))
  k_is_int : PySem.W.keepIn K (.ref (He.ga K "is_int")) = true
  d_is_int : ∃ fd, FunD K "is_int" "is_int" (defArgs s_is_int) (defBody s_is_int) (defScope s_is_int) [] [] (He.ga K "is_int") fd
  g_are_ints : mg "are_ints" = some (.ref (He.ga K "are_ints"))
  k_are_ints : PySem.W.keepIn K (.ref (He.ga K "are_ints")) = true
  d_are_ints : ∃ fd, FunD K "are_ints" "are_ints" (defArgs s_are_ints) (defBody s_are_ints) (defScope s_are_ints) [] [] (He.ga K "are_ints") fd
  g_need_numbers : mg "need_numbers" = some (.ref (He.ga K "need_numbers"))
  k_need_numbers : PySem.W.keepIn K (.ref (He.ga K "need_numbers")) = true
  d_need_numbers : ∃ fd, FunD K "need_numbers" "need_numbers" (defArgs s_need_numbers) (defBody s_need_numbers) (defScope s_need_numbers) [] [] (He.ga K "need_numbers") fd
  g_value_at : mg "value_at" = some (.ref (He.ga K "value_at"))
  k_value_at : PySem.W.keepIn K (.ref (He.ga K "value_at")) = true
  d_value_at : ∃ fd, FunD K "value_at" "value_at" (defArgs s_value_at) (defBody s_value_at) (defScope s_value_at) [] [] (He.ga K "value_at") fd
  g_is_zero : mg "is_zero" = some (.ref (He.ga K "is_zero"))
  k_is_zero : PySem.W.keepIn K (.ref (He.ga K "is_zero")) = true
  d_is_zero : ∃ fd, FunD K "is_zero" "is_zero" (defArgs s_is_zero) (defBody s_is_zero) (defScope s_is_zero) [] [] (He.ga K "is_zero") fd
  g__law_pen : mg "_law_pen" = some (.ref (He.ga K "_law_pen"))
  k__law_pen : PySem.W.keepIn K (.ref (He.ga K "_law_pen")) = true
  d__law_pen : ∃ fd, FunD K "_law_pen" "_law_pen" (defArgs s__law_pen) (defBody s__law_pen) (defScope s__law_pen) [] [] (He.ga K "_law_pen") fd
  g__law_draw : mg "_law_draw" = some (.ref (He.ga K "_law_draw"))
  k__law_draw : PySem.W.keepIn K (.ref (He.ga K "_law_draw")) = true
  d__law_draw : ∃ fd, FunD K "_law_draw" "_law_draw" (defArgs s__law_draw) (defBody s__law_draw) (defScope s__law_draw) [] [] (He.ga K "_law_draw") fd
  g__law_pick : mg "_law_pick" = some (.ref (He.ga K "_law_pick"))
  k__law_pick : PySem.W.keepIn K (.ref (He.ga K "_law_pick")) = true
  d__law_pick : ∃ fd, FunD K "_law_pick" "_law_pick" (defArgs s__law_pick) (defBody s__law_pick) (defScope s__law_pick) [] [] (He.ga K "_law_pick") fd
  g__law_factor : mg "_law_factor" = some (.ref (He.ga K "_law_factor"))
  k__law_factor : PySem.W.keepIn K (.ref (He.ga K "_law_factor")) = true
  d__law_factor : ∃ fd, FunD K "_law_factor" "_law_factor" (defArgs s__law_factor) (defBody s__law_factor) (defScope s__law_factor) [] [] (He.ga K "_law_factor") fd
  g__law_form : mg "_law_form" = some (.ref (He.ga K "_law_form"))
  k__law_form : PySem.W.keepIn K (.ref (He.ga K "_law_form")) = true
  d__law_form : ∃ fd, FunD K "_law_form" "_law_form" (defArgs s__law_form) (defBody s__law_form) (defScope s__law_form) [] [] (He.ga K "_law_form") fd
  g__law_value : mg "_law_value" = some (.ref (He.ga K "_law_value"))
  k__law_value : PySem.W.keepIn K (.ref (He.ga K "_law_value")) = true
  d__law_value : ∃ fd, FunD K "_law_value" "_law_value" (defArgs s__law_value) (defBody s__law_value) (defScope s__law_value) [] [] (He.ga K "_law_value") fd
  g__law_heard : mg "_law_heard" = some (.ref (He.ga K "_law_heard"))
  k__law_heard : PySem.W.keepIn K (.ref (He.ga K "_law_heard")) = true
  d__law_heard : ∃ fd, FunD K "_law_heard" "_law_heard" (defArgs s__law_heard) (defBody s__law_heard) (defScope s__law_heard) [] [] (He.ga K "_law_heard") fd
  d_Bound_init : ∃ fd, FunD K "__init__" "Bound.__init__" (defArgs s_Bound_init) (defBody s_Bound_init) (defScope s_Bound_init) [.bl false] [] (He.fAd K ("Bound", some "__init__")) fd
  d_Bound_call : ∃ fd, FunD K "__call__" "Bound.__call__" (defArgs s_Bound_call) (defBody s_Bound_call) (defScope s_Bound_call) [] [] (He.fAd K ("Bound", some "__call__")) fd
  d_Bound_len : ∃ fd, FunD K "__len__" "Bound.__len__" (defArgs s_Bound_len) (defBody s_Bound_len) (defScope s_Bound_len) [] [] (He.fAd K ("Bound", some "__len__")) fd
  d_Bound_eq : ∃ fd, FunD K "__eq__" "Bound.__eq__" (defArgs s_Bound_eq) (defBody s_Bound_eq) (defScope s_Bound_eq) [] [] (He.fAd K ("Bound", some "__eq__")) fd
  d_Bound_str : ∃ fd, FunD K "__str__" "Bound.__str__" (defArgs s_Bound_str) (defBody s_Bound_str) (defScope s_Bound_str) [] [] (He.fAd K ("Bound", some "__str__")) fd
  g_number_of : mg "number_of" = some (.ref (He.ga K "number_of"))
  k_number_of : PySem.W.keepIn K (.ref (He.ga K "number_of")) = true
  d_number_of : ∃ fd, FunD K "number_of" "number_of" (defArgs s_number_of) (defBody s_number_of) (defScope s_number_of) [] [] (He.ga K "number_of") fd
  g_factors_of : mg "factors_of" = some (.ref (He.ga K "factors_of"))
  k_factors_of : PySem.W.keepIn K (.ref (He.ga K "factors_of")) = true
  d_factors_of : ∃ fd, FunD K "factors_of" "factors_of" (defArgs s_factors_of) (defBody s_factors_of) (defScope s_factors_of) [] [] (He.ga K "factors_of") fd
  g__law_refused_right : mg "_law_refused_right" = some (.ref (He.ga K "_law_refused_right"))
  k__law_refused_right : PySem.W.keepIn K (.ref (He.ga K "_law_refused_right")) = true
  d__law_refused_right : ∃ fd, FunD K "_law_refused_right" "_law_refused_right" (defArgs s__law_refused_right) (defBody s__law_refused_right) (defScope s__law_refused_right) [] [] (He.ga K "_law_refused_right") fd
  g__law_part_one : mg "_law_part_one" = some (.ref (He.ga K "_law_part_one"))
  k__law_part_one : PySem.W.keepIn K (.ref (He.ga K "_law_part_one")) = true
  d__law_part_one : ∃ fd, FunD K "_law_part_one" "_law_part_one" (defArgs s__law_part_one) (defBody s__law_part_one) (defScope s__law_part_one) [] [] (He.ga K "_law_part_one") fd
  g__law_draw_b : mg "_law_draw_b" = some (.ref (He.ga K "_law_draw_b"))
  k__law_draw_b : PySem.W.keepIn K (.ref (He.ga K "_law_draw_b")) = true
  d__law_draw_b : ∃ fd, FunD K "_law_draw_b" "_law_draw_b" (defArgs s__law_draw_b) (defBody s__law_draw_b) (defScope s__law_draw_b) [] [] (He.ga K "_law_draw_b") fd
  g__law_pick_b : mg "_law_pick_b" = some (.ref (He.ga K "_law_pick_b"))
  k__law_pick_b : PySem.W.keepIn K (.ref (He.ga K "_law_pick_b")) = true
  d__law_pick_b : ∃ fd, FunD K "_law_pick_b" "_law_pick_b" (defArgs s__law_pick_b) (defBody s__law_pick_b) (defScope s__law_pick_b) [] [] (He.ga K "_law_pick_b") fd
  g__law_factor_b : mg "_law_factor_b" = some (.ref (He.ga K "_law_factor_b"))
  k__law_factor_b : PySem.W.keepIn K (.ref (He.ga K "_law_factor_b")) = true
  d__law_factor_b : ∃ fd, FunD K "_law_factor_b" "_law_factor_b" (defArgs s__law_factor_b) (defBody s__law_factor_b) (defScope s__law_factor_b) [] [] (He.ga K "_law_factor_b") fd
  g__law_spot : mg "_law_spot" = some (.ref (He.ga K "_law_spot"))
  k__law_spot : PySem.W.keepIn K (.ref (He.ga K "_law_spot")) = true
  d__law_spot : ∃ fd, FunD K "_law_spot" "_law_spot" (defArgs s__law_spot) (defBody s__law_spot) (defScope s__law_spot) [] [] (He.ga K "_law_spot") fd
  g__law_words_right : mg "_law_words_right" = some (.ref (He.ga K "_law_words_right"))
  k__law_words_right : PySem.W.keepIn K (.ref (He.ga K "_law_words_right")) = true
  d__law_words_right : ∃ fd, FunD K "_law_words_right" "_law_words_right" (defArgs s__law_words_right) (defBody s__law_words_right) (defScope s__law_words_right) [] [] (He.ga K "_law_words_right") fd
  g__law_part_two : mg "_law_part_two" = some (.ref (He.ga K "_law_part_two"))
  k__law_part_two : PySem.W.keepIn K (.ref (He.ga K "_law_part_two")) = true
  d__law_part_two : ∃ fd, FunD K "_law_part_two" "_law_part_two" (defArgs s__law_part_two) (defBody s__law_part_two) (defScope s__law_part_two) [] [] (He.ga K "_law_part_two") fd
  g_law : mg "law" = some (.ref (He.ga K "law"))
  k_law : PySem.W.keepIn K (.ref (He.ga K "law")) = true
  d_law : ∃ fd, FunD K "law" "law" (defArgs s_law) (defBody s_law) (defScope s_law) [] [] (He.ga K "law") fd

  e_BadForm : SupF P K mg "BadForm" "BadForm.__init__" s_BadForm_init ["part"]
  e_BadText : SupF P K mg "BadText" "BadText.__init__" s_BadText_init ["line", "word"]

  g_CountError : mg "CountError" = some (.ref (He.ga K "CountError"))
  g_BadBounds : mg "BadBounds" = some (.ref (He.ga K "BadBounds"))
  g_BadNumber : mg "BadNumber" = some (.ref (He.ga K "BadNumber"))
  g_BadQuestion : mg "BadQuestion" = some (.ref (He.ga K "BadQuestion"))
  g_BadTest : mg "BadTest" = some (.ref (He.ga K "BadTest"))
  g_BadRule : mg "BadRule" = some (.ref (He.ga K "BadRule"))
  g_NoTable : mg "NoTable" = some (.ref (He.ga K "NoTable"))
  g_TooMany : mg "TooMany" = some (.ref (He.ga K "TooMany"))
  n_str : mg "str" = none
  n_repr : mg "repr" = none
  a_BadForm : AskC K (He.ga K "BadForm")
  k_BadForm : PySem.W.kitOne K (.ref (He.ga K "BadForm")) (.ref (He.ga K "BadForm")) = some true
  m_BadForm : PySem.W.exmOne K (.ref (He.ga K "BadForm")) (.ref (He.ga K "CountError")) = some true
  g_Bound : mg "Bound" = some (.ref (He.ga K "Bound"))
  mk_Bound : Mk K (He.ga K "Bound") (He.fAd K ("Bound", some "__init__"))
  cl_Bound : Cls K (He.ga K "Bound")
  in_Bound : C8.InsC K (He.ga K "Bound")
  co_Bound : StX.CallO K (He.ga K "Bound") (He.fAd K ("Bound", some "__call__"))
  h_len : PySem.W.findIn K (.ref (He.ga K "Bound")) "__len__" = some (some (.ref (He.fAd K ("Bound", some "__len__"))))
  i_len : PySem.W.isFn K (.ref (He.fAd K ("Bound", some "__len__"))) = true
  h_eq : PySem.W.findIn K (.ref (He.ga K "Bound")) "__eq__" = some (some (.ref (He.fAd K ("Bound", some "__eq__"))))
  i_eq : PySem.W.isFn K (.ref (He.fAd K ("Bound", some "__eq__"))) = true
  h_str : PySem.W.findIn K (.ref (He.ga K "Bound")) "__str__" = some (some (.ref (He.fAd K ("Bound", some "__str__"))))
  i_str : PySem.W.isFn K (.ref (He.fAd K ("Bound", some "__str__"))) = true
  h_ne : PySem.W.findIn K (.ref (He.ga K "Bound")) "__ne__" = some (some (.builtin "object.__ne__"))
  o_sub : PySem.W.subIn K (.ref (He.ga K "Bound")) (.type "object") = some true
  na_form : NoAttr K (He.ga K "Bound") "form"
  na_strict : NoAttr K (He.ga K "Bound") "is_strict"
  c_MOST_NUMBERS : ∃ u, mg "MOST_NUMBERS" = some u ∧ RelV (.int 8) u
  c_MOST_FIGURES : ∃ u, mg "MOST_FIGURES" = some u ∧ RelV (.int 60) u
  c_MOST_DIGITS : ∃ u, mg "MOST_DIGITS" = some u ∧ RelV (.int (10 ^ 60)) u
  r_read : ∃ p g fd, ClX.CMet K (He.ga K "Bound") (.type "type") "read" p g ∧ ClX.CRead K (He.ga K "Bound") (.type "type") ∧ FunD K "read" "Bound.read" (defArgs s_Bound_read) (defBody s_Bound_read) (defScope s_Bound_read) [] [] g fd
  r_is_false : ∃ p g fd, PropOf K (He.ga K "Bound") "is_false" p g ∧ FunD K "is_false" "Bound.is_false" (defArgs s_Bound_is_false) (defBody s_Bound_is_false) (defScope s_Bound_is_false) [] [] g fd
  kt_Bound : PySem.W.kitOne K (.type "tuple") (.ref (He.ga K "Bound")) = some false
  kn_Bound : PySem.W.kitOne K (.type "NoneType") (.ref (He.ga K "Bound")) = some false
  st_Bound : PySem.W.subIn K (.type "tuple") (.ref (He.ga K "Bound")) = some false
  sn_Bound : PySem.W.subIn K (.type "NoneType") (.ref (He.ga K "Bound")) = some false
  ks_Bound : PySem.W.kitOne K (.ref (He.ga K "Bound")) (.type "str") = some false
  a_BadText : AskC K (He.ga K "BadText")
  m_BadText : PySem.W.exmOne K (.ref (He.ga K "BadText")) (.ref (He.ga K "BadText")) = some true
  f_line : PySem.W.findIn K (.ref (He.ga K "BadText")) "line" = some none
  f_word : PySem.W.findIn K (.ref (He.ga K "BadText")) "word" = some none
  f_BadForm : PySem.W.findIn K (.ref (He.ga K "BadForm")) "part" = some none
section
variable {P : Program} {w : World} {K : PySem.W.Frag} {mg : Str → Option Value} {base : Heap}
theorem x_BadForm (T : Txt P K mg) : XErr P w K mg base "BadForm" ["part"] := xerr1 T.e_BadForm rfl ⟨rfl, rfl, rfl, by decide +kernel, by decide +kernel, by decide +kernel, by decide +kernel⟩ rfl rfl rfl rfl (fun _ _ _ _ _ _ _ _ us hl => match us, hl with | [_, _], _ => rfl) (by decide) (by decide) (fun _ _ _ _ => ⟨Or.inl rfl, Or.inl rfl⟩) (by intro _ _; rfl)
theorem x_BadText (T : Txt P K mg) : XErr P w K mg base "BadText" ["line", "word"] := xerr2 T.e_BadText rfl ⟨rfl, rfl, rfl, by decide +kernel, by decide +kernel, by decide +kernel, by decide +kernel⟩ rfl rfl rfl rfl (fun _ _ _ _ _ _ _ _ us hl => match us, hl with | [_, _, _], _ => rfl) (by decide) (by decide) (by decide) (by decide) (fun _ _ _ _ => ⟨Or.inl rfl, Or.inl rfl, Or.inl rfl⟩) (by intro _ _; rfl)
def spIsInt (K : PySem.W.Frag) : Sp := fun vs H Q _ => ∃ (v : V) (b : Bool), vs = [v] ∧ IntQ K H v b ∧ Q (.bl b) H
theorem ok_is_int (T : Txt P K mg) : FnR P w K mg base (L2.CX P w) 1 (He.ga K "is_int") (spIsInt K) := by
  obtain ⟨fd, F⟩ := T.d_is_int
  refine fo_of F sc_is_int (fun _ _ _ _ _ _ us hl => match us, hl with | [_], _ => rfl) (fun vs H Q E h => ?_) (fun cdv A outer s H vs Q E hr h => ?_)
  · obtain ⟨v, b, rfl, _⟩ := h; rfl
  · refine ⟨_, (pss_one (ps_ret (pe_and (pe_callB call_isi rfl T.n_isinstance (by decide +kernel) (pa_cons (pv 0) (pa_cons (pe_bltn (v := .ty "int") (u := .type "int") rfl T.n_int (by decide +kernel) rfl) pa_nil))) (pe_one (pe_not (pe_callB call_isi rfl T.n_isinstance (by decide +kernel) (pa_cons (pv 0) (pa_cons (pe_bltn (v := .ty "bool") (u := .type "bool") rfl T.n_bool (by decide +kernel) rfl) pa_nil)))))))), ?_⟩
    obtain ⟨v, b, rfl, ⟨t, b1, b2, ty, k1, k2, rfl⟩, q⟩ := h
    refine ⟨_, rfl, _, _, _, _, b1, rfl, .ty _, ty, k1, _, rfl, ?_⟩
    cases b1 with
    | false => exact iteF q
    | true => exact iteT ⟨_, rfl, _, _, _, _, b2, rfl, .ty _, ty, k2, _, rfl, q⟩
def spAreInts (K : PySem.W.Frag) : Sp := fun vs H Q _ => ∃ (a : Addr) (xs : List V), vs = [.ref a] ∧ Sq K H a xs ∧ xs.length ≤ 100000 ∧ Knows K H xs ∧ ∀ H', Same H H' → Q (.bl (xs.all isIntV)) H'
theorem ok_are_ints (T : Txt P K mg) : FnR P w K mg base (L2.CX P w) 2 (He.ga K "are_ints") (spAreInts K) := by
  obtain ⟨fd, F⟩ := T.d_are_ints
  refine fo_of F sc_are_ints (fun _ _ _ _ _ _ us hl => match us, hl with | [_], _ => rfl) (fun vs H Q E h => ?_) (fun cdv A outer s H vs Q E hr h => ?_)
  · obtain ⟨a, xs, rfl, _⟩ := h; rfl
  · refine ⟨_, (pss_one (ps_ret (pe_cmpR (op_eqN hr.units0) (pe_lc (own := [("one", 1)]) (g := gName 1) (tt := _) rfl sc_are_ints.nd (pi_seq (pv 0)) (blkOk_by (own := [("one", 1)]) (N := ["some", "one"]) (sc := defScope s_are_ints) (by decide +kernel)) (fun _ _ _ _ _ => (pg_name (i := 1) sc_are_ints.nd rfl (Or.inl rfl))) (fun _ _ _ _ _ => (pts_one (pt_not (pt_val (pe_callR (ok_is_int T) (hr.mono (by decide)) rfl T.g_is_int T.k_is_int px0 (pa_cons (pv 1) pa_nil)))))) (fun _ _ _ _ _ => (pv 1))) (pe_lst pa_nil) (nomark _)))), ?_⟩
    obtain ⟨a, xs, rfl, hs, hl, kn, q⟩ := h
    walk_at "nm"
    refine lc_fm (fun Q' h => ⟨_, rfl, h⟩) (fun v => !isIntV v) (fun v => v) hs hl (fun x hx H1 e A B hA hB => ?_) (fun D H1 hD hl e => ?_)
    · refine ⟨rfl, _, rfl, _, _, rfl, intQ_same e (kn x hx), _, rfl, ?_⟩
      refine ite2 (fun c => ⟨x, rfl, hA c H1 (Same.refl H1)⟩) (fun c => hB (by simpa using c) H1 (Same.refl H1))
    · refine ⟨by decide, ?_⟩
      intro z hz
      generalize hE : upd H1 z _ = H2
      obtain ⟨h2, e2⟩ := new_ok hE hz
      refine ⟨_, _, _, rfl, rfl, .of (e2 _ _ hl), .of h2, ?_⟩
      rw [List.map_id', filt_none]
      exact q H2 (e.trans e2)
theorem ok__law_draw (T : Txt P K mg) : FnR P w K mg base (L2.CX P w) 1 (He.ga K "_law_draw") spDraw := by
  obtain ⟨fd, F⟩ := T.d__law_draw
  refine fo_of F sc__law_draw (fun _ _ _ _ _ _ us hl => match us, hl with | [_, _], _ => rfl) (fun vs H Q E h => ?_) (fun cdv A outer s H vs Q E hr h => ?_)
  · obtain ⟨p, q, m, n, rfl, _⟩ := h; rfl
  · refine ⟨_, (pss_cons (ps_if (pt_cmpR op_gt (pe_ix ix_list (pv 0) pe_int (fun _ _ => rfl)) pe_int (nomark _)) (pss_cons (ps_set (i := 2) sc__law_draw.nd rfl (Or.inl rfl) (pe_op op_modN (pe_callTy call_int1 rfl T.n_int (by decide +kernel) (pa_cons (pe_ix ix_list (pv 0) pe_int (fun _ _ => rfl)) pa_nil)) (pv 1))) (pss_cons (ps_asg (pe_op op_fdivN (pe_callTy call_int1 rfl T.n_int (by decide +kernel) (pa_cons (pe_ix ix_list (pv 0) pe_int (fun _ _ => rfl)) pa_nil)) (pv 1)) (pg_sub (pv 0) pe_int set_list)) (pss_one (ps_ret (pv 2))))) pss_nil) (pss_cons (ps_set (i := 3) sc__law_draw.nd rfl (Or.inl rfl) (pe_ix ix_list (pv 0) pe_int (fun _ _ => rfl))) (pss_cons (ps_asg (pe_op op_add (pv 3) pe_int) (pg_sub (pv 0) pe_int set_list)) (pss_cons (ps_set (i := 4) sc__law_draw.nd rfl (Or.inl rfl) (pe_op op_add (pe_op op_mul pe_int (pv 3)) pe_int)) (pss_cons (ps_if (pt_cmpR (op_neD hr.units) (pe_ix ix_list (pv 0) pe_int (fun _ _ => rfl)) (pe_lst pa_nil) (nomark _)) (pss_one (ps_set (i := 4) sc__law_draw.nd rfl (Or.inl rfl) (pe_ix ix_list (pe_ix ix_list (pv 0) pe_int (fun _ _ => rfl)) (pe_op op_modN (pe_callTy call_int1 rfl T.n_int (by decide +kernel) (pa_cons (pv 3) pa_nil)) (pe_callB call_len_seq rfl T.n_len (by decide +kernel) (pa_cons (pe_ix ix_list (pv 0) pe_int (fun _ _ => rfl)) pa_nil))) (fun _ _ => rfl)))) pss_nil) (pss_cons (ps_if (PW.pt (pw_and (pt_cmpR op_lt (pv 3) (pe_callB call_len_seq rfl T.n_len (by decide +kernel) (pa_cons (pe_ix ix_list (pv 0) pe_int (fun _ _ => rfl)) pa_nil)) (nomark _)) (pw_and1 (pt_cmpR op_ge (pe_callB call_abs rfl T.n_abs (by decide +kernel) (pa_cons (pv 4) pa_nil)) (pe_op op_pow pe_int pe_int) (nomark _))))) (pss_cons (ps_set (i := 5) sc__law_draw.nd rfl (Or.inl rfl) (pe_op op_add (pe_op op_mul pe_int (pe_op op_sub (pe_callB call_abs rfl T.n_abs (by decide +kernel) (pa_cons (pv 4) pa_nil)) (pe_op op_pow pe_int pe_int))) (pe_callTy call_int1 rfl T.n_int (by decide +kernel) (pa_cons (pe_cmpR op_lt (pv 4) pe_int (nomark _)) pa_nil)))) (pss_cons (ps_asg (pe_op op_fdivN (pe_callTy call_int1 rfl T.n_int (by decide +kernel) (pa_cons (pv 5) pa_nil)) (pv 1)) (pg_sub (pv 0) pe_int set_list)) (pss_one (ps_ret (pe_op op_modN (pe_callTy call_int1 rfl T.n_int (by decide +kernel) (pa_cons (pv 5) pa_nil)) (pv 1)))))) pss_nil) (pss_cons (ps_set (i := 6) sc__law_draw.nd rfl (Or.inl rfl) (pe_op op_modN (pe_callTy call_int1 rfl T.n_int (by decide +kernel) (pa_cons (pe_op op_pow (pe_op op_add (pe_op op_add (pe_op op_modN (pe_callTy call_int1 rfl T.n_int (by decide +kernel) (pa_cons (pv 4) pa_nil)) pe_int) (pe_op op_mul pe_int (pv 3))) pe_int) pe_int) pa_nil)) pe_int)) (pss_cons (ps_set (i := 6) sc__law_draw.nd rfl (Or.inl rfl) (pe_op op_modN (pe_callTy call_int1 rfl T.n_int (by decide +kernel) (pa_cons (pe_op op_pow (pe_op op_add (pe_op op_add (pe_op op_mul (pv 6) (pe_op op_add (pe_op op_mul pe_int (pv 3)) pe_int)) (pe_op op_mul (pe_op op_mul pe_int (pv 3)) (pv 3))) pe_int) pe_int) pa_nil)) pe_int)) (pss_one (ps_ret (pe_op op_modN (pe_callTy call_int1 rfl T.n_int (by decide +kernel) (pa_cons (pe_op op_fdivN (pv 6) pe_int) pa_nil)) (pv 1)))))))))))), ?_⟩
    obtain ⟨p, q, m, n, rfl, m1, m2, hn, ⟨cs, a, r, hpp, hqq, pq, hl, a0, an, r0⟩, k⟩ := h
    rw [show L2.start ["pen", "many", "digit", "at", "cell", "great", "mixed"] [V.ref p, V.int m] = [some (.ref p), some (.int m), none, none, none, none, none] from rfl]
    walk_at "rd"
    refine ite2 (fun c => ?_) (fun c => ?_)
    · walk_at "rd"
      refine set_abs [.ref q, .int a, .int (r.fdiv m)] hpp rfl rfl (fun H1 h1 e1 => ?_)
      walk_at "rd"
      exact k _ _ (fmod_in r m m1).1 (fmod_in r m m1).2 ⟨cs, a, _, h1, e1 _ _ pq.symm hqq, pq, hl, a0, by omega, fdiv_nonneg r0 m1⟩ e1
    · walk_at "rd"
      refine set_abs [.ref q, .int (a + 1), .int r] hpp rfl rfl (fun H1 h1 e1 => ?_)
      have q1 := e1 _ _ pq.symm hqq
      walk_at "rd"
      intro z hz
      generalize hE : upd H1 z _ = H2
      obtain ⟨h2, e2⟩ := new_ok hE hz
      have q2 := e2 _ _ q1
      have p2 := e2 _ _ h1
      refine ⟨_, _, dp_ints q2, dp_nil h2, shaped_ints _, shaped_nil, ?_⟩
      have ex := e1.trans (.of e2)
      -- the cell
      refine ⟨_, rfl, ?_⟩
      refine ite2 (fun c2 => ?_) (fun c2 => ?_)
      · have c3 : 1 ≤ ((cs.map V.int).length : Int) := by
          cases cs with
          | nil => rw [List.map_nil, eqv_nil] at c2; simp at c2
          | cons x r => simp only [List.map_cons, List.length_cons]; omega
        have i2 := fmod_in a _ c3
        have i3 : atI (cs.map V.int) (a.fmod ((cs.map V.int).length : Int)) = some (.int (cs.getD (a.fmod ((cs.map V.int).length : Int)).toNat 0)) := at_ints i2.1 (by have := i2.2; rw [List.length_map] at this ⊢; exact this)
        walk_at "rd"
        refine ⟨_, _, _, _, rfl, rfl, SqL.of q2, i3, ?_⟩
        walk_at "nm"
        generalize cs.getD _ 0 = cell
        walk_at "rd"
        refine ite2 (fun c4 => ?_) (fun c4 => ?_)
        · walk_at "rd"
          refine ite2 (fun c5 => ?_) (fun c5 => ?_)
          · walk_at "rd"
            refine set_abs _ p2 rfl rfl (fun H3 h3 e3 => ?_)
            walk_at "rd"
            exact k _ _ (fmod_in _ m m1).1 (fmod_in _ m m1).2 ⟨cs, a + 1, _, h3, e3 _ _ pq.symm q2, pq, hl, by omega, by omega, fdiv_nonneg (great_pos c5) m1⟩ (ex.trans e3)
          · walk_at "rd"
            refine ⟨⟨by decide, by decide, ?_⟩, ?_⟩
            · have f1 := fmod_in cell 2147483629 (by decide)
              omega
            walk_at "rd"
            walk_at "nm"
            generalize hm : Int.fmod _ 2147483563 = mixed
            have f2 : 0 ≤ mixed ∧ mixed < 2147483563 := by rw [← hm]; exact fmod_in _ _ (by decide)
            refine ⟨Or.inl ⟨by omega, by omega⟩, ?_⟩
            walk_at "rd"
            refine ⟨⟨by decide, by decide, mix3 f2.1 (by omega) (by omega) (by omega) (by decide) (by decide) (by decide)⟩, ?_⟩
            walk_at "rd"
            exact k _ _ (fmod_in _ m m1).1 (fmod_in _ m m1).2 ⟨cs, a + 1, r, p2, q2, pq, hl, by omega, by omega, r0⟩ ex
        · walk_at "rd"
          refine ⟨⟨by decide, by decide, ?_⟩, ?_⟩
          · have f1 := fmod_in cell 2147483629 (by decide)
            omega
          walk_at "rd"
          walk_at "nm"
          generalize hm : Int.fmod _ 2147483563 = mixed
          have f2 : 0 ≤ mixed ∧ mixed < 2147483563 := by rw [← hm]; exact fmod_in _ _ (by decide)
          refine ⟨Or.inl ⟨by omega, by omega⟩, ?_⟩
          walk_at "rd"
          refine ⟨⟨by decide, by decide, mix3 f2.1 (by omega) (by omega) (by omega) (by decide) (by decide) (by decide)⟩, ?_⟩
          walk_at "rd"
          exact k _ _ (fmod_in _ m m1).1 (fmod_in _ m m1).2 ⟨cs, a + 1, r, p2, q2, pq, hl, by omega, by omega, r0⟩ ex
      · walk_at "nm"
        generalize (57977 * a + 1303) = cell
        walk_at "rd"
        refine ite2 (fun c4 => ?_) (fun c4 => ?_)
        · walk_at "rd"
          refine ite2 (fun c5 => ?_) (fun c5 => ?_)
          · walk_at "rd"
            refine set_abs _ p2 rfl rfl (fun H3 h3 e3 => ?_)
            walk_at "rd"
            exact k _ _ (fmod_in _ m m1).1 (fmod_in _ m m1).2 ⟨cs, a + 1, _, h3, e3 _ _ pq.symm q2, pq, hl, by omega, by omega, fdiv_nonneg (great_pos c5) m1⟩ (ex.trans e3)
          · walk_at "rd"
            refine ⟨⟨by decide, by decide, ?_⟩, ?_⟩
            · have f1 := fmod_in cell 2147483629 (by decide)
              omega
            walk_at "rd"
            walk_at "nm"
            generalize hm : Int.fmod _ 2147483563 = mixed
            have f2 : 0 ≤ mixed ∧ mixed < 2147483563 := by rw [← hm]; exact fmod_in _ _ (by decide)
            refine ⟨Or.inl ⟨by omega, by omega⟩, ?_⟩
            walk_at "rd"
            refine ⟨⟨by decide, by decide, mix3 f2.1 (by omega) (by omega) (by omega) (by decide) (by decide) (by decide)⟩, ?_⟩
            walk_at "rd"
            exact k _ _ (fmod_in _ m m1).1 (fmod_in _ m m1).2 ⟨cs, a + 1, r, p2, q2, pq, hl, by omega, by omega, r0⟩ ex
        · walk_at "rd"
          refine ⟨⟨by decide, by decide, ?_⟩, ?_⟩
          · have f1 := fmod_in cell 2147483629 (by decide)
            omega
          walk_at "rd"
          walk_at "nm"
          generalize hm : Int.fmod _ 2147483563 = mixed
          have f2 : 0 ≤ mixed ∧ mixed < 2147483563 := by rw [← hm]; exact fmod_in _ _ (by decide)
          refine ⟨Or.inl ⟨by omega, by omega⟩, ?_⟩
          walk_at "rd"
          refine ⟨⟨by decide, by decide, mix3 f2.1 (by omega) (by omega) (by omega) (by decide) (by decide) (by decide)⟩, ?_⟩
          walk_at "rd"
          exact k _ _ (fmod_in _ m m1).1 (fmod_in _ m m1).2 ⟨cs, a + 1, r, p2, q2, pq, hl, by omega, by omega, r0⟩ ex

end
end K15

namespace K15
open PySem PySem.Spec PyProof.Rows L2 Qk
section
variable {P : Program} {w : World} {K : PySem.W.Frag} {mg : Str → Option Value} {base : Heap}
def spPick : Sp := fun vs H Q _ => ∃ (p q a : Addr) (xs : List V) (n : Int), vs = [.ref p, .ref a] ∧ a ≠ p ∧ H a = some (.lst xs) ∧ xs ≠ [] ∧ xs.length ≤ 1000000 ∧ n ≤ 1000000 ∧ PenAt H p q n ∧
  ∀ x H', x ∈ xs → PenAt H' p q (n + 1) → ExtS p H H' → Q x H'
theorem pick_at {xs : List V} {d : Int} (h0 : 0 ≤ d) (h1 : d < xs.length) : ∃ x ∈ xs, atI xs d = some x := by
  obtain ⟨k, rfl⟩ := Int.eq_ofNat_of_zero_le h0
  have hk : k < xs.length := by omega
  exact ⟨xs[k], List.getElem_mem hk, atI_nat (List.getElem?_eq_getElem hk)⟩
theorem ok__law_pick (T : Txt P K mg) : FnR P w K mg base (L2.CX P w) 2 (He.ga K "_law_pick") spPick := by
  obtain ⟨fd, F⟩ := T.d__law_pick
  refine fo_of F sc__law_pick (fun _ _ _ _ _ _ us hl => match us, hl with | [_, _], _ => rfl) (fun vs H Q E h => ?_) (fun cdv A outer s H vs Q E hr h => ?_)
  · obtain ⟨p, q, a, xs, n, rfl, _⟩ := h; rfl
  · refine ⟨_, (pss_one (ps_ret (pe_ix ix_list (pv 1) (pe_callR (ok__law_draw T) (hr.mono (by decide)) rfl T.g__law_draw T.k__law_draw px0 (pa_cons (pv 0) (pa_cons (pe_callB call_len_seq rfl T.n_len (by decide +kernel) (pa_cons (pv 1) pa_nil)) pa_nil))) (fun _ _ => rfl)))), ?_⟩
    obtain ⟨p, q, a, xs, n, rfl, ap, ha, hne, hl, hn, hp, k⟩ := h
    rw [show L2.start ["pen", "some"] [V.ref p, V.ref a] = [some (.ref p), some (.ref a)] from rfl]
    walk_at "rd"
    have hl1 : 1 ≤ xs.length := by
      cases xs with
      | nil => exact absurd rfl hne
      | cons x xs => simp
    refine ⟨p, q, _, n, rfl, by omega, by omega, hn, hp, fun d H' d0 d1 hp' e => ?_⟩
    obtain ⟨x, hx, hat⟩ := pick_at d0 d1
    exact ⟨_, _, _, _, rfl, rfl, .of (e _ _ ap ha), hat, k x H' hx hp' e⟩
def spFactor : Sp := fun vs H Q _ => ∃ (p q : Addr) (n : Int), vs = [.ref p] ∧ n ≤ 999998 ∧ PenAt H p q n ∧ ∀ (i : Int) H', -20 ≤ i → i ≤ 19 → PenAt H' p q (n + 2) → ExtS p H H' → Q (.int i) H'
theorem ok__law_factor (T : Txt P K mg) : FnR P w K mg base (L2.CX P w) 3 (He.ga K "_law_factor") spFactor := by
  obtain ⟨fd, F⟩ := T.d__law_factor
  refine fo_of F sc__law_factor (fun _ _ _ _ _ _ us hl => match us, hl with | [_], _ => rfl) (fun vs H Q E h => ?_) (fun cdv A outer s H vs Q E hr h => ?_)
  · obtain ⟨p, q, n, rfl, _⟩ := h; rfl
  · refine ⟨_, (pss_one (ps_ret (pe_callR (ok__law_pick T) (hr.mono (by decide)) rfl T.g__law_pick T.k__law_pick px0 (pa_cons (pv 0) (pa_cons (pe_lst (pa_cons pe_int (pa_cons pe_int (pa_cons pe_int (pa_cons (pe_un un_neg pe_int) (pa_cons pe_int (pa_cons (pe_un un_neg pe_int) (pa_cons pe_int (pa_cons (pe_un un_neg pe_int) (pa_cons (pe_op op_sub (pe_callR (ok__law_draw T) (hr.mono (by decide)) rfl T.g__law_draw T.k__law_draw px0 (pa_cons (pv 0) (pa_cons pe_int pa_nil))) pe_int) pa_nil)))))))))) pa_nil))))), ?_⟩
    obtain ⟨p, q, n, rfl, hn, hp, k⟩ := h
    rw [show L2.start ["pen"] [V.ref p] = [some (.ref p)] from rfl]
    walk_at "rd"
    walk_at "nm"
    walk_at "rd"
    refine ⟨p, q, 40, n, rfl, by decide, by decide, by omega, hp, fun d H' d0 d1 hp' e => ?_⟩
    walk_at "nm"
    walk_at "rd"
    intro z hz
    generalize hE : upd H' z _ = H2
    obtain ⟨h2, e2⟩ := new_ok hE hz
    obtain ⟨zp, zq⟩ := pen_ne hp' hz
    refine ⟨p, q, z, _, n + 1, rfl, zp, h2, by simp, by simp, by omega, hp'.same e2, fun x H3 hx hp3 e3 => ?_⟩
    have key : ∃ i : Int, x = .int i ∧ -20 ≤ i ∧ i ≤ 19 := by
      simp only [List.mem_cons, List.not_mem_nil, or_false] at hx
      rcases hx with rfl | rfl | rfl | rfl | rfl | rfl | rfl | rfl | rfl <;> exact ⟨_, rfl, by omega, by omega⟩
    obtain ⟨i, rfl, i0, i1⟩ := key
    exact k i H3 i0 i1 (hp3.mono (by omega)) (e.trans ((ExtS.of e2).trans e3))
end
end K15

namespace K15
open PySem PySem.Spec PyProof.Rows L2 Qk
section
variable {P : Program} {w : World} {K : PySem.W.Frag} {mg : Str → Option Value} {base : Heap}
def spForm : Sp := fun vs H Q _ => ∃ (p q : Addr) (m n : Int), vs = [.ref p, .int m] ∧ 0 ≤ m ∧ m ≤ 9 ∧ n ≤ 900000 ∧ PenAt H p q n ∧ ∀ (a : Addr) (ns : List Int) H', H a = none → H' a = some (.tup (ns.map V.int)) → ns.length = m.toNat → (∀ i ∈ ns, -20 ≤ i ∧ i ≤ 19) → PenAt H' p q (n + 18) → ExtS p H H' → Q (.ref a) H'
theorem ok__law_form (T : Txt P K mg) : FnR P w K mg base (L2.CX P w) 4 (He.ga K "_law_form") spForm := by
  obtain ⟨fd, F⟩ := T.d__law_form
  refine fo_of F sc__law_form (fun _ _ _ _ _ _ us hl => match us, hl with | [_, _], _ => rfl) (fun vs H Q E h => ?_) (fun cdv A outer s H vs Q E hr h => ?_)
  · obtain ⟨p, q, m, n, rfl, _⟩ := h; rfl
  · refine ⟨_, (pss_one (ps_ret (pe_callTy call_tuple_of rfl T.n_tuple (by decide +kernel) (pa_cons (pe_lc (own := [("k", 2)]) (g := gName 2) (tt := tYes) rfl sc__law_form.nd (pi_range1 rfl T.n_range (pa_cons (pv 1) pa_nil)) (blkOk_by (own := [("k", 2)]) (N := ["pen", "many", "k"]) (sc := defScope s__law_form) (by decide +kernel)) (fun _ _ _ _ _ => (pg_name (i := 2) sc__law_form.nd rfl (Or.inl rfl))) (fun _ _ _ _ _ => pts_nil) (fun _ _ _ _ _ => (pe_callR (ok__law_factor T) (hr.mono (by decide)) rfl T.g__law_factor T.k__law_factor px0 (pa_cons (pv 0) pa_nil)))) pa_nil)))), ?_⟩
    obtain ⟨p, q, m, n, rfl, m0, m1, hn, hp, k⟩ := h
    rw [show L2.start ["pen", "many", "k"] [V.ref p, V.int m] = [some (.ref p), some (.int m), none] from rfl]
    walk_at "nm"
    refine tlc_draw (c := 2) (fun R h => ⟨_, rfl, _, rfl, by omega, by omega, h⟩) (fun _ _ v _ => ∃ i : Int, v = .int i ∧ -20 ≤ i ∧ i ≤ 19) (by omega) hp (fun _ _ _ _ _ h => h) (fun _ _ _ _ _ _ h => h) (fun D i H1 hi e1 hp1 _ A B hA => ?_) (fun D xs H1 hD hl e1 hp1 hlen hR => ?_)
    · walk_at "rd"
      refine ⟨p, q, _, rfl, by omega, hp1, fun v H2 v0 v1 hp2 e2 => hA _ H2 e2 (hp2.mono (by push_cast; omega)) ⟨v, rfl, v0, v1⟩⟩
    · obtain ⟨ns, rfl, hG⟩ := ints_of hR
      obtain ⟨dp, dq⟩ := pen_ne hp hD
      refine ⟨_, _, rfl, .inl ⟨.of hl, fun z hz => ?_⟩⟩
      generalize hE : upd H1 z _ = H2
      obtain ⟨h2, e2⟩ := new_ok hE hz
      obtain ⟨zp, zq⟩ := pen_ne hp1 hz
      refine k z ns H2 ?_ h2 (by rw [← hlen, List.length_map]) hG ((hp1.same e2).mono (by omega)) (e1.trans (.of e2))
      cases hh : H z with
      | none => rfl
      | some o => rw [e1 _ _ zp hh] at hz; cases hz
def spDot (K : PySem.W.Frag) : Sp := fun vs H Q _ => ∃ (a b : Addr) (b1 b2 : Bool) (ns ms : List Int), vs = [.ref a, .ref b] ∧ SqB b1 K H a (ns.map V.int) ∧ SqB b2 K H b (ms.map V.int) ∧ ns.length ≤ 100000 ∧ (∀ x ∈ ns, -(2 ^ 64) < x ∧ x < 2 ^ 64) ∧ ∀ H', Same H H' → Q (.int (dot ns ms)) H'
theorem ok__law_value (T : Txt P K mg) : FnR P w K mg base (L2.CX P w) 1 (He.ga K "_law_value") (spDot K) := by
  obtain ⟨fd, F⟩ := T.d__law_value
  refine fo_of F sc__law_value (fun _ _ _ _ _ _ us hl => match us, hl with | [_, _], _ => rfl) (fun vs H Q E h => ?_) (fun cdv A outer s H vs Q E hr h => ?_)
  · obtain ⟨a, b, b1, b2, ns, ms, rfl, _⟩ := h; rfl
  · refine ⟨_, (pss_one (ps_ret (pe_callB (cr_sum (by rfl)) rfl T.n_sum (by decide +kernel) (pa_cons (pe_lc (own := [("one", 2), ("other", 3)]) (g := gTup K 2 (gCons (gName 2) (gCons (gName 3) gNil))) (tt := tYes) rfl sc__law_value.nd (pi_zipS rfl T.n_zip (pa_cons (pv 0) (pa_cons (pv 1) pa_nil))) (blkOk_by (own := [("one", 2), ("other", 3)]) (N := ["form", "spots", "one", "other"]) (sc := defScope s__law_value) (by decide +kernel)) (fun _ _ _ _ _ => (pg_tup (by rfl) (pgs_cons (pg_name (i := 2) sc__law_value.nd rfl (Or.inl rfl)) (pgs_cons (pg_name (i := 3) sc__law_value.nd rfl (Or.inl rfl)) pgs_nil)))) (fun _ _ _ _ _ => pts_nil) (fun _ _ _ _ _ => (pe_callTy call_int1 rfl T.n_int (by decide +kernel) (pa_cons (pe_op op_mul (pv 2) (pv 3)) pa_nil)))) pa_nil)))), ?_⟩
    obtain ⟨a, b, b1, b2, ns, ms, rfl, ha, hb, hl, hsm, k⟩ := h
    rw [show L2.start ["form", "spots", "one", "other"] [V.ref a, V.ref b] = [some (.ref a), some (.ref b), none, none] from rfl]
    walk_at "nm"
    refine lc_zipI (fun Q' h => ⟨_, rfl, _, rfl, h⟩) (fun x y => x * y) ha hb hl (fun T x y hx hy H1 e hT A B hA => ?_) (fun D H1 hD hl1 e => ?_)
    · walk_at "rd"
      refine ⟨.inl (hsm x hx), ?_⟩
      walk_at "rd"
      exact hA H1 (Same.refl H1)
    · exact ⟨_, _, rfl, .of hl1, k H1 e⟩
theorem ok_value_at (T : Txt P K mg) : FnR P w K mg base (L2.CX P w) 1 (He.ga K "value_at") (spDot K) := by
  obtain ⟨fd, F⟩ := T.d_value_at
  refine fo_of F sc_value_at (fun _ _ _ _ _ _ us hl => match us, hl with | [_, _], _ => rfl) (fun vs H Q E h => ?_) (fun cdv A outer s H vs Q E hr h => ?_)
  · obtain ⟨a, b, b1, b2, ns, ms, rfl, _⟩ := h; rfl
  · refine ⟨_, (pss_one (ps_ret (pe_callB (cr_sum (by rfl)) rfl T.n_sum (by decide +kernel) (pa_cons (pe_lc (own := [("factor", 2), ("number", 3)]) (g := gTup K 2 (gCons (gName 2) (gCons (gName 3) gNil))) (tt := tYes) rfl sc_value_at.nd (pi_zipS rfl T.n_zip (pa_cons (pv 0) (pa_cons (pv 1) pa_nil))) (blkOk_by (own := [("factor", 2), ("number", 3)]) (N := ["form", "numbers", "factor", "number"]) (sc := defScope s_value_at) (by decide +kernel)) (fun _ _ _ _ _ => (pg_tup (by rfl) (pgs_cons (pg_name (i := 2) sc_value_at.nd rfl (Or.inl rfl)) (pgs_cons (pg_name (i := 3) sc_value_at.nd rfl (Or.inl rfl)) pgs_nil)))) (fun _ _ _ _ _ => pts_nil) (fun _ _ _ _ _ => (pe_op op_mul (pv 2) (pv 3)))) pa_nil)))), ?_⟩
    obtain ⟨a, b, b1, b2, ns, ms, rfl, ha, hb, hl, hsm, k⟩ := h
    rw [show L2.start ["form", "numbers", "factor", "number"] [V.ref a, V.ref b] = [some (.ref a), some (.ref b), none, none] from rfl]
    walk_at "nm"
    refine lc_zipI (fun Q' h => ⟨_, rfl, _, rfl, h⟩) (fun x y => x * y) ha hb hl (fun T x y hx hy H1 e hT A B hA => ?_) (fun D H1 hD hl1 e => ?_)
    · walk_at "rd"
      refine ⟨.inl (hsm x hx), ?_⟩
      walk_at "rd"
      exact hA H1 (Same.refl H1)
    · exact ⟨_, _, rfl, .of hl1, k H1 e⟩
end
end K15

namespace K15
open PySem PySem.Spec PyProof.Rows L2 Qk
section
variable {P : Program} {w : World} {K : PySem.W.Frag} {mg : Str → Option Value} {base : Heap}
def nzV (v : V) : Bool := !decide (v = V.int 0)
def allZ (ns : List Int) : Bool := ns.all fun i => decide (i = 0)
theorem filt_nz : ∀ ns : List Int, ((ns.map V.int).filter nzV).isEmpty = allZ ns
  | [] => rfl
  | n :: ns => by
    have ih := filt_nz ns
    unfold allZ at ih ⊢
    rw [List.map_cons, List.filter_cons, List.all_cons, ← ih]
    by_cases h : n = 0 <;> simp [nzV, h]
def spIsZero (K : PySem.W.Frag) : Sp := fun vs H Q _ => ∃ (a : Addr) (ns : List Int), vs = [.ref a] ∧ SqT K H a (ns.map V.int) ∧ ns.length ≤ 100000 ∧ ∀ H', Same H H' → Q (.bl (allZ ns)) H'
theorem ok_is_zero (T : Txt P K mg) : FnR P w K mg base (L2.CX P w) 1 (He.ga K "is_zero") (spIsZero K) := by
  obtain ⟨fd, F⟩ := T.d_is_zero
  refine fo_of F sc_is_zero (fun _ _ _ _ _ _ us hl => match us, hl with | [_], _ => rfl) (fun vs H Q E h => ?_) (fun cdv A outer s H vs Q E hr h => ?_)
  · obtain ⟨a, ns, rfl, _⟩ := h; rfl
  · refine ⟨_, (pss_one (ps_ret (pe_cmpR (op_eqN hr.units0) (pe_lc (own := [("factor", 1)]) (g := gName 1) (tt := _) rfl sc_is_zero.nd (pi_seq (pv 0)) (blkOk_by (own := [("factor", 1)]) (N := ["form", "factor"]) (sc := defScope s_is_zero) (by decide +kernel)) (fun _ _ _ _ _ => (pg_name (i := 1) sc_is_zero.nd rfl (Or.inl rfl))) (fun _ _ _ _ _ => (pts_one (pt_cmpR op_ne (pv 1) pe_int (nomark _)))) (fun _ _ _ _ _ => (pv 1))) (pe_lst pa_nil) (nomark _)))), ?_⟩
    obtain ⟨a, ns, rfl, hs, hl, q⟩ := h
    rw [show L2.start ["form", "factor"] [V.ref a] = [some (.ref a), none] from rfl]
    walk_at "nm"
    refine lc_fm (fun Q' h => ⟨_, rfl, h⟩) nzV (fun v => v) (.inr hs) (by rw [List.length_map]; exact hl) (fun x hx H1 e A B hA hB => ?_) (fun D H1 hD hl e => ?_)
    · obtain ⟨i, hi, rfl⟩ := List.mem_map.mp hx
      walk_at "rd"
      refine ite2 (fun c => ?_) (fun c => ?_)
      · walk_at "rd"
        exact hA c H1 (Same.refl H1)
      · exact hB (Bool.eq_false_iff.mpr c) H1 (Same.refl H1)
    · refine ⟨by decide, ?_⟩
      intro z hz
      generalize hE : upd H1 z _ = H2
      obtain ⟨h2, e2⟩ := new_ok hE hz
      refine ⟨_, _, _, rfl, rfl, .of (e2 _ _ hl), .of h2, ?_⟩
      rw [List.map_id', filt_nz]
      exact q H2 (e.trans e2)
end
end K15

namespace K15
open PySem PySem.Spec PyProof.Rows L2 Qk
section
variable {P : Program} {w : World} {K : PySem.W.Frag} {mg : Str → Option Value} {base : Heap}
theorem none_of {H H' : Hp} {d : Addr} (e : Same H H') (h : H' d = none) : H d = none := by
  cases hh : H d with
  | none => rfl
  | some o => rw [e _ _ hh] at h; cases h
/-- an error x with these fields is let out -/
def bad (K : PySem.W.Frag) (x : String) (H : Hp) (E : XK) (fs : List (Str × V)) : Prop := ∀ d H', Same H H' → H d = none → H' d = some (.xd fs) → E (.ref (He.ga K x)) (some d) H'
def spNeed (K : PySem.W.Frag) : Sp := fun vs H Q E => ∃ (v : V) (m : Int) (o : Option (List V)), vs = [v, .int m] ∧ SeqQ K H v o ∧ (∀ xs, o = some xs → xs.length ≤ 100000 ∧ Knows K H xs) ∧
  (okSeq o m = true → ∀ H', Same H H' → Q .non H') ∧ (okSeq o m = false → bad K "BadForm" H E [("part", .str "numbers")])
theorem ok_need_numbers (T : Txt P K mg) : FnR P w K mg base (L2.CX P w) 3 (He.ga K "need_numbers") (spNeed K) := by
  obtain ⟨fd, F⟩ := T.d_need_numbers
  refine fo_of F sc_need_numbers (fun _ _ _ _ _ _ us hl => match us, hl with | [_, _], _ => rfl) (fun vs H Q E h => ?_) (fun cdv A outer s H vs Q E hr h => ?_)
  · obtain ⟨v, m, o, rfl, _⟩ := h; rfl
  · refine ⟨_, (pss_one (ps_if (PW.pt (pw_or (pt_not (pt_val (pe_callB call_isiT rfl T.n_isinstance (by decide +kernel) (pa_cons (pv 0) (pa_cons (pe_tup (pa_cons (pe_bltn (v := .ty "list") (u := .type "list") rfl T.n_list (by decide +kernel) rfl) (pa_cons (pe_bltn (v := .ty "tuple") (u := .type "tuple") rfl T.n_tuple (by decide +kernel) rfl) pa_nil))) pa_nil))))) (pw_or (pt_cmpR op_ne (pe_callB call_len_seq rfl T.n_len (by decide +kernel) (pa_cons (pv 0) pa_nil)) (pv 1) (nomark _)) (pw_or1 (pt_not (pt_val (pe_callR (ok_are_ints T) (hr.mono (by decide)) rfl T.g_are_ints T.k_are_ints px0 (pa_cons (pv 0) pa_nil)))))))) (pss_one (ps_raiseN (k := 0) (x_BadForm T) (hr.mono (by decide)) rfl (takes_of rfl rfl rfl rfl) (pa_cons pe_str pa_nil) rfl)) pss_nil)), ?_⟩
    obtain ⟨v, m, o, rfl, sq, kn, qy, qn⟩ := h
    rw [show L2.start ["value", "many"] [v, V.int m] = [some v, some (.int m)] from rfl]
    walk_at "rd"
    intro z hz
    generalize hE : upd H z _ = H1
    obtain ⟨h1, e1⟩ := new_ok hE hz
    obtain ⟨t, ty, kt⟩ := sq.ty
    refine ⟨v, z, _, t, _, o.isSome, rfl, h1, .cons (.ty _) (.cons (.ty _) .nil), tyX_same e1 ty, kt, ?_⟩
    have R : okSeq o m = false → ∀ H2, Same H H2 → ∀ d H', H2 d = none → Same H2 H' → H' d = some (.xd [("part", .str "numbers")]) → E (.ref (He.ga K "BadForm")) (some d) H' := fun hb H2 e2 d H' hd e3 hx => qn hb d H' (e2.trans e3) (none_of e2 hd) hx
    cases o with
    | none =>
      refine ⟨_, rfl, iteT ?_⟩
      exact ⟨rfl, by decide, R rfl H1 e1⟩
    | some xs =>
      obtain ⟨hl, kn⟩ := kn xs rfl
      obtain ⟨a, rfl, hs⟩ : ∃ a, v = .ref a ∧ Sq K H1 a xs := by
        cases sq with
        | lst h => exact ⟨_, rfl, .inl (.of (e1 _ _ h))⟩
        | tup h => exact ⟨_, rfl, .inr (.of (e1 _ _ h))⟩
      refine ⟨_, rfl, iteF ?_⟩
      refine ⟨_, rfl, _, _, rfl, hs, _, rfl, ?_⟩
      walk_at "rd"
      refine ite2 (fun c => ?_) (fun c => ?_)
      · have c' : ¬ ((xs.length : Int) = m) := by simpa using c
        exact ⟨rfl, by decide, R (by simp [okSeq, c']) H1 e1⟩
      · have c' : (xs.length : Int) = m := by simpa using c
        refine ⟨_, rfl, a, xs, rfl, hs, hl, kn.same e1, fun H2 e2 => ⟨_, rfl, ?_⟩⟩
        refine ite2 (fun c => ?_) (fun c => ?_)
        · have c2 : xs.all isIntV = false := by simpa using c
          exact ⟨rfl, by decide, R (by simp [okSeq, c2]) H2 (e1.trans e2)⟩
        · have c2 : xs.all isIntV = true := by simpa using c
          exact qy (by simp [okSeq, c', c2]) H2 (e1.trans e2)
end
end K15

namespace K15
open PySem PySem.Spec PyProof.Rows L2 Qk
section
variable {P : Program} {w : World} {K : PySem.W.Frag} {mg : Str → Option Value} {base : Heap}
/-- what _law_heard makes of what it calls: the found thing in a list, a BadForm's part -/
def THeard (K : PySem.W.Frag) : (XK → Hp → VK → Prop) → Hp → VK → Prop := fun tl H Q => ∀ (H1 : Hp) (Ech : XK) (Qc : VK), Same H H1 →
  (∀ d part H', H' d = some (.xd [("part", .str part)]) → (∀ z H'', Same H' H'' → H'' z = some (.tup [.str "form", .str part]) → Q (.ref z) H'') → Ech (.ref (He.ga K "BadForm")) (some d) H') →
  (∀ v H', (∀ z H'', Same H' H'' → H'' z = some (.lst [v]) → Q (.ref z) H'') → Qc v H') → tl Ech H1 Qc
theorem takesLen {X : Cx} {W : WX} (t : Takes X W) : Takes X (fun cls d σ H => σ.length = X.N.length → W cls d σ H) := fun u s' ⟨a, B, sI, pins, σ, H, cls, d, e, I, nb, up, sky, na, os, ag, h⟩ => t u s' ⟨a, B, sI, pins, σ, H, cls, d, e, I, nb, up, sky, na, os, ag, h I.len⟩
theorem heard_gives {X : Cx} {g : Addr} {cdg : Value} {q : Str} (T : Txt X.prog X.K X.mg) : LamX.GivesTo X ["call_so", "caught", "found", "error"] "_law_heard" (defScope s__law_heard) g cdg (defBody s__law_heard) "call_so" q (THeard X.K) := by
  intro f c' s H Q tl act hc h
  have hTry : ∀ {p1 p2 p3 p4 p5 p6 p7 p8 p9 p10}, PS (cxOf C8.CX0 X.prog X.w X.K X.mg X.base ["call_so", "caught", "found", "error"] "_law_heard" (defScope s__law_heard) g cdg X.A X.stack s H C8.E0).nox
      (.Try [.Assign [.Name "found" p1] (.Call (.Name "call_so" p2) [] [] p3) p4] [.ExceptHandler (some (.Name "CountError" p5)) (some "error") [.Assign [.Name "caught" p6] (.Name "error" p7) p8] p9] [] [] p10)
      (fun D σ H => (fun (W : WX) (D : Ends) σ H => ∃ Ech : XK, (∀ cls d σ' H', Ech cls d H' → σ'.length = 4 → W cls d σ' H') ∧ σ[0]? = some (some (.ref f)) ∧ H c' = some (LamX.CodeO c' q) ∧ tl Ech H fun v H' => D.nx (σ.set 2 (some v)) H')
        (wKept X.K (.ref (He.ga X.K "CountError")) 3 (fun _ => tAsg (tVar 3) (gName 1)) (fun _ _ _ _ => False) D) D σ H) := by
    intro p1 p2 p3 p4 p5 p6 p7 p8 p9 p10
    refine ps_try_kept (X := (cxOf C8.CX0 X.prog X.w X.K X.mg X.base ["call_so", "caught", "found", "error"] "_law_heard" (defScope s__law_heard) g cdg X.A X.stack s H C8.E0).nox) (i := 3) (x := "CountError") (n := "error") (c := .ref (He.ga X.K "CountError")) (Wout := fun _ _ _ _ => False) (ts := fun _ => tAsg (tVar 3) (gName 1))
      (tb := fun W D σ H => ∃ Ech : XK, (∀ cls d σ' H', Ech cls d H' → σ'.length = 4 → W cls d σ' H') ∧ σ[0]? = some (some (.ref f)) ∧ H c' = some (LamX.CodeO c' q) ∧ tl Ech H fun v H' => D.nx (σ.set 2 (some v)) H')
      rfl rfl sc__law_heard.nd rfl rfl ⟨rfl, by decide, .inl T.g_CountError⟩ LamX.takes0 (fun W pn xe tk _ => ?_) (fun a => pss_one (ps_set (i := 1) sc__law_heard.nd rfl (Or.inl rfl) (pv 3)))
    refine ⟨fun pins s' σ H' D I h' => ?_⟩
    obtain ⟨Ech, hW, h1, h2, h3⟩ := h'
    have hp := act _ pn xe Ech p2 p3 (takesLen tk) (fun cls d σ' H' e => hW cls d σ' H' e)
    exact (pss_one (ps_set (i := 2) sc__law_heard.nd rfl (Or.inl rfl) hp)).run pins s' σ H' D I ⟨h1, h2, h3⟩
  refine ⟨_, (pss_cons (ps_asg (pe_tup (pa_cons pe_non (pa_cons pe_non pa_nil))) (pg_tup (by rfl) (pgs_cons (pg_name (i := 1) sc__law_heard.nd rfl (Or.inl rfl)) (pgs_cons (pg_name (i := 2) sc__law_heard.nd rfl (Or.inl rfl)) pgs_nil)))) (pss_cons (hTry) (pss_cons (ps_if (pt_cmpR op_isN (pv 1) pe_non (nomark _)) (pss_one (ps_ret (pe_lst (pa_cons (pv 2) pa_nil)))) pss_nil) (pss_cons (ps_if (pt_val (pe_callB call_isX rfl T.n_isinstance (by decide +kernel) (pa_cons (pv 1) (pa_cons (C8.pe_gc (v := .ref _) rfl ⟨_, T.e_BadForm.gC, rfl⟩) pa_nil)))) (pss_one (ps_ret (pe_tup (pa_cons pe_str (pa_cons (pe_xd (pv 1)) pa_nil))))) pss_nil) (pss_cons (ps_if (pt_val (pe_callB call_isX rfl T.n_isinstance (by decide +kernel) (pa_cons (pv 1) (pa_cons (C8.pe_gc (v := .ref _) rfl ⟨_, T.g_BadBounds, rfl⟩) pa_nil)))) (pss_one (ps_ret (pe_tup (pa_cons pe_str (pa_cons (pe_callB call_repr_bl rfl T.n_repr (by decide +kernel) (pa_cons (pe_xd (pv 1)) pa_nil)) pa_nil))))) pss_nil) (pss_cons (ps_if (pt_val (pe_callB call_isX rfl T.n_isinstance (by decide +kernel) (pa_cons (pv 1) (pa_cons (C8.pe_gc (v := .ref _) rfl ⟨_, T.g_BadNumber, rfl⟩) pa_nil)))) (pss_one (ps_ret (pe_tup (pa_cons pe_str (pa_cons (pe_callB call_repr_bl rfl T.n_repr (by decide +kernel) (pa_cons (pe_xd (pv 1)) pa_nil)) pa_nil))))) pss_nil) (pss_cons (ps_if (pt_val (pe_callB call_isX rfl T.n_isinstance (by decide +kernel) (pa_cons (pv 1) (pa_cons (C8.pe_gc (v := .ref _) rfl ⟨_, T.g_BadQuestion, rfl⟩) pa_nil)))) (pss_one (ps_ret (pe_tup (pa_cons pe_str (pa_cons (pe_xd (pv 1)) pa_nil))))) pss_nil) (pss_cons (ps_if (pt_val (pe_callB call_isX rfl T.n_isinstance (by decide +kernel) (pa_cons (pv 1) (pa_cons (C8.pe_gc (v := .ref _) rfl ⟨_, T.g_BadTest, rfl⟩) pa_nil)))) (pss_one (ps_ret (pe_tup (pa_cons pe_str (pa_cons (pe_xd (pv 1)) pa_nil))))) pss_nil) (pss_cons (ps_if (pt_val (pe_callB call_isX rfl T.n_isinstance (by decide +kernel) (pa_cons (pv 1) (pa_cons (C8.pe_gc (v := .ref _) rfl ⟨_, T.g_BadRule, rfl⟩) pa_nil)))) (pss_one (ps_ret (pe_tup (pa_cons pe_str (pa_cons (pe_callB call_repr_bl rfl T.n_repr (by decide +kernel) (pa_cons (pe_xd (pv 1)) pa_nil)) pa_nil))))) pss_nil) (pss_cons (ps_if (pt_val (pe_callB call_isX rfl T.n_isinstance (by decide +kernel) (pa_cons (pv 1) (pa_cons (C8.pe_gc (v := .ref _) rfl ⟨_, T.g_NoTable, rfl⟩) pa_nil)))) (pss_one (ps_ret (pe_tup (pa_cons pe_str (pa_cons (pe_xd (pv 1)) pa_nil))))) pss_nil) (pss_one (ps_ret (pe_ifExp (pt_val (pe_callB call_isX rfl T.n_isinstance (by decide +kernel) (pa_cons (pv 1) (pa_cons (C8.pe_gc (v := .ref _) rfl ⟨_, T.g_TooMany, rfl⟩) pa_nil)))) (pe_tup (pa_cons pe_str (pa_cons (pe_xd (pv 1)) (pa_cons (pe_xd (pv 1)) pa_nil)))) (pe_tup (pa_cons pe_str pa_nil))))))))))))))), ?_⟩
  rw [show L2.start ["call_so", "caught", "found", "error"] [V.ref f] = [some (.ref f), none, none, none] from rfl]
  walk_at "rd"
  intro z hz
  generalize hE : upd H z _ = H1
  obtain ⟨h1, e1⟩ := new_ok hE hz
  walk_at "rd"
  walk_at "nm"
  refine ⟨fun cls d H' => ∀ σ' : L2.St, σ'.length = 4 → wKept X.K _ 3 _ _ _ cls d σ' H', fun cls d σ' H' hE hl => hE σ' hl, rfl, e1 _ _ hc, h H1 _ _ e1 (fun d part H2 hd k => ?_) (fun v H2 k => ?_)⟩
  · rintro σ' hl
    match σ', hl with
    | [x0, x1, x2, x3], _ =>
    refine ⟨true, T.m_BadForm, fun _ a na => ?_, fun z => by cases z⟩
    refine ⟨_, rfl, ?_⟩
    walk_at "nm"
    generalize hE2 : upd H2 a _ = H3
    obtain ⟨h3, e3⟩ := new_ok hE2 na
    refine ⟨_, rfl, rfl, _, rfl, iteF ?_⟩
    refine ⟨_, rfl, a, d, _, _, _, _, true, rfl, h3, e3 _ _ hd, T.a_BadForm, .own _, T.k_BadForm, _, rfl, iteT ?_⟩
    refine ⟨_, rfl, a, d, _, _, _, rfl, h3, e3 _ _ hd, T.a_BadForm, T.f_BadForm, rfl, ?_⟩
    walk_at "nm"
    refine ⟨by decide, fun y hy => ?_⟩
    generalize hE4 : upd H3 y _ = H4
    obtain ⟨h4, e4⟩ := new_ok hE4 hy
    exact k y H4 (e3.trans e4) h4
  · refine ⟨_, rfl, rfl, _, rfl, iteT ?_⟩
    refine ⟨_, rfl, ?_⟩
    walk_at "nm"
    refine ⟨by decide, fun y hy => ?_⟩
    generalize hE4 : upd H2 y _ = H4
    obtain ⟨h4, e4⟩ := new_ok hE4 hy
    exact k y H4 e4 h4
end
end K15

namespace K15
open PySem PySem.Spec PyProof.Rows L2 Qk
section
variable {P : Program} {w : World} {K : PySem.W.Frag} {mg : Str → Option Value} {base : Heap}
/-- the items, where the value is a tuple -/
inductive TupQ (K : PySem.W.Frag) (H : Hp) : V → Option (List V) → Prop
  | tup {a : Addr} {xs : List V} (h : H a = some (.tup xs)) : TupQ K H (.ref a) (some xs)
  | no {v : V} {t : Value} (h : TyX K H v t) (n : PySem.W.kitOne K t (.type "tuple") = some false) : TupQ K H v none
inductive BoolQ (K : PySem.W.Frag) (H : Hp) : V → Option Bool → Prop
  | bl (b : Bool) : BoolQ K H (.bl b) (some b)
  | no {v : V} {t : Value} (h : TyX K H v t) (n : PySem.W.kitOne K t (.type "bool") = some false) : BoolQ K H v none
theorem TupQ.ty {H : Hp} {v : V} {o : Option (List V)} (h : TupQ K H v o) : ∃ t, TyX K H v t ∧ PySem.W.kitOne K t (.type "tuple") = some o.isSome := by
  cases h with
  | tup h => exact ⟨_, .base (.tup h), ki "tuple" "tuple" (r := true) (by decide +kernel) K⟩
  | no h n => exact ⟨_, h, n⟩
theorem BoolQ.ty {H : Hp} {v : V} {o : Option Bool} (h : BoolQ K H v o) : ∃ t, TyX K H v t ∧ PySem.W.kitOne K t (.type "bool") = some o.isSome := by
  cases h with
  | bl b => exact ⟨_, .base (.bl b), ki "bool" "bool" (r := true) (by decide +kernel) K⟩
  | no h n => exact ⟨_, h, n⟩
def okForm (o : Option (List V)) : Bool := match o with
  | some xs => decide (xs.length ≤ 8) && xs.all isIntV
  | none => false
def spInit (K : PySem.W.Frag) : Sp := fun vs H Q E => ∃ (x dx : Addr) (v u : V) (o : Option (List V)) (ob : Option Bool), vs = [.ref x, v, u] ∧ H x = some (.ins (He.ga K "Bound") dx []) ∧ TupQ K H v o ∧ (∀ xs, o = some xs → xs.length ≤ 100000 ∧ Knows K H xs) ∧ BoolQ K H u ob ∧
  (okForm o = true → ∀ b, ob = some b → ∀ H', ExtS x H H' → H' x = some (.ins (He.ga K "Bound") dx [("form", v), ("is_strict", .bl b)]) → Q .non H') ∧
  (okForm o = false → bad K "BadForm" H E [("part", .str "form")]) ∧ (okForm o = true → ob = none → bad K "BadForm" H E [("part", .str "strict")])
theorem fn_init (T : Txt P K mg) : ∃ fd, FunD K "__init__" "Bound.__init__" (defArgs s_Bound_init) (defBody s_Bound_init) (defScope s_Bound_init) [.bl false] [] (He.fAd K ("Bound", some "__init__")) fd ∧ FnOk P w K mg base (L2.CX P w) 4 (He.fAd K ("Bound", some "__init__")) fd ["self", "form", "is_strict"] (spInit K) := by
  obtain ⟨fd, F⟩ := T.d_Bound_init
  refine ⟨fd, F, F.ok sc_Bound_init (fun vs H Q E h => ?_) (fun cdv A outer s H vs Q E hr h => ?_)⟩
  · obtain ⟨x, dx, v, u, o, ob, rfl, _⟩ := h; rfl
  · refine ⟨_, (pss_cons (ps_if (PW.pt (pw_or (pt_not (pt_val (pe_callB call_isi rfl T.n_isinstance (by decide +kernel) (pa_cons (pv 1) (pa_cons (pe_bltn (v := .ty "tuple") (u := .type "tuple") rfl T.n_tuple (by decide +kernel) rfl) pa_nil))))) (pw_or (pt_cmpR op_gt (pe_callB call_len_seq rfl T.n_len (by decide +kernel) (pa_cons (pv 1) pa_nil)) (C8.pe_gc rfl T.c_MOST_NUMBERS) (nomark _)) (pw_or1 (pt_not (pt_val (pe_callR (ok_are_ints T) (hr.mono (by decide)) rfl T.g_are_ints T.k_are_ints px0 (pa_cons (pv 1) pa_nil)))))))) (pss_one (ps_raiseN (k := 0) (x_BadForm T) (hr.mono (by decide)) rfl (takes_of rfl rfl rfl rfl) (pa_cons pe_str pa_nil) rfl)) pss_nil) (pss_cons (ps_if (pt_not (pt_val (pe_callB call_isi rfl T.n_isinstance (by decide +kernel) (pa_cons (pv 2) (pa_cons (pe_bltn (v := .ty "bool") (u := .type "bool") rfl T.n_bool (by decide +kernel) rfl) pa_nil))))) (pss_one (ps_raiseN (k := 0) (x_BadForm T) (hr.mono (by decide)) rfl (takes_of rfl rfl rfl rfl) (pa_cons pe_str pa_nil) rfl)) pss_nil) (pss_cons (ps_fld (pv 0) (pv 1) rfl) (pss_one (ps_fld (pv 0) (pv 2) rfl))))), ?_⟩
    obtain ⟨x, dx, v, u, o, ob, rfl, hx, tq, kn, bq, qy, q1, q2⟩ := h
    rw [show L2.start ["self", "form", "is_strict"] [V.ref x, v, u] = [some (.ref x), some v, some u] from rfl]
    obtain ⟨t, ty, kt⟩ := tq.ty
    obtain ⟨t2, ty2, kt2⟩ := bq.ty
    have raise_ : ∀ {z : Str}, bad K "BadForm" H E [("part", .str z)] → ∀ H2, Same H H2 → ∀ d H', H2 d = none → Same H2 H' → H' d = some (.xd [("part", .str z)]) → E (.ref (He.ga K "BadForm")) (some d) H' := fun hb H2 e2 d H' hd e3 hx => hb d H' (e2.trans e3) (none_of e2 hd) hx
    walk_at "rd"
    refine ⟨_, _, _, _, o.isSome, rfl, .ty _, ty, kt, ?_⟩
    cases o with
    | none =>
      refine ⟨_, rfl, iteT ?_⟩
      exact ⟨rfl, by decide, raise_ (q1 rfl) H (Same.refl H)⟩
    | some xs =>
      obtain ⟨hl, kn⟩ := kn xs rfl
      cases tq with
      | @tup a _ ha =>
      refine ⟨_, rfl, iteF ?_⟩
      refine ⟨_, rfl, _, _, rfl, .inr (.of ha), ?_⟩
      walk_at "rd"
      refine ite2 (fun c => ?_) (fun c => ?_)
      · have c' : ¬ (xs.length ≤ 8) := by have := of_decide_eq_true c; omega
        exact ⟨rfl, by decide, raise_ (q1 (by simp [okForm, c'])) H (Same.refl H)⟩
      · have c' : xs.length ≤ 8 := by have := of_decide_eq_false (Bool.eq_false_iff.mpr c); omega
        refine ⟨_, rfl, a, xs, rfl, .inr (.of ha), hl, kn, fun H2 e2 => ⟨_, rfl, ?_⟩⟩
        refine ite2 (fun c => ?_) (fun c => ?_)
        · have c2 : xs.all isIntV = false := by simpa using c
          exact ⟨rfl, by decide, raise_ (q1 (by simp [okForm, c2])) H2 e2⟩
        · have c2 : xs.all isIntV = true := by simpa using c
          have okf : okForm (some xs) = true := by simp [okForm, c', c2]
          walk_at "rd"
          refine ⟨_, _, _, _, ob.isSome, rfl, .ty _, tyX_same e2 ty2, kt2, ?_⟩
          cases ob with
          | none =>
            refine ⟨_, rfl, iteT ?_⟩
            exact ⟨rfl, by decide, raise_ (q2 okf rfl) H2 e2⟩
          | some b =>
            cases bq
            refine ⟨_, rfl, iteF ?_⟩
            walk_at "rd"
            refine ⟨_, _, _, _, rfl, e2 _ _ hx, T.cl_Bound, T.na_form, by decide, ?_⟩
            walk_at "rd"
            refine ⟨_, _, _, _, rfl, upd_same, T.cl_Bound, T.na_strict, by simp [putF], ?_⟩
            refine qy okf b rfl _ (fun y o ny hy => ?_) upd_same
            rw [upd_ne ny, upd_ne ny]
            exact e2 _ _ hy
end
end K15

namespace K15
open PySem PySem.Spec PyProof.Rows L2 Qk
section
variable {P : Program} {w : World} {K : PySem.W.Frag} {mg : Str → Option Value} {base : Heap}
/-- a Bound: its form at t -/
structure BndT (K : PySem.W.Frag) (H : Hp) (b dx t : Addr) (ns : List Int) (st : Bool) : Prop where
  o : H b = some (.ins (He.ga K "Bound") dx [("form", .ref t), ("is_strict", .bl st)])
  f : H t = some (.tup (ns.map V.int))
theorem BndT.same {H H' : Hp} {b dx t : Addr} {ns : List Int} {st : Bool} (h : BndT K H b dx t ns st) (e : Same H H') : BndT K H' b dx t ns st := ⟨e _ _ h.o, e _ _ h.f⟩
def spLenB (K : PySem.W.Frag) : Sp := fun vs H Q _ => ∃ b dx t ns st, vs = [.ref b] ∧ BndT K H b dx t ns st ∧ Q (.int (ns.length : Nat)) H
theorem ok_Bound_len (T : Txt P K mg) : FnR P w K mg base (L2.CX P w) 1 (He.fAd K ("Bound", some "__len__")) (spLenB K) := by
  obtain ⟨fd, F⟩ := T.d_Bound_len
  refine fo_of F sc_Bound_len (fun _ _ _ _ _ _ us hl => match us, hl with | [_], _ => rfl) (fun vs H Q E h => ?_) (fun cdv A outer s H vs Q E hr h => ?_)
  · obtain ⟨b, dx, t, ns, st, rfl, _⟩ := h; rfl
  · refine ⟨_, (pss_one (ps_ret (pe_callB call_len_seq rfl T.n_len (by decide +kernel) (pa_cons (pe_fld (pv 0) rfl) pa_nil)))), ?_⟩
    obtain ⟨b, dx, t, ns, st, rfl, hb, q⟩ := h
    rw [show L2.start ["self"] [V.ref b] = [some (.ref b)] from rfl]
    walk_at "rd"
    refine ⟨b, _, dx, _, _, rfl, hb.o, T.cl_Bound, T.na_form, rfl, ?_⟩
    refine ⟨t, _, rfl, .inr (.of hb.f), ?_⟩
    rw [List.length_map]
    exact q
def holds (st : Bool) (v : Int) : Bool := if st then decide (v > 0) else decide (v ≥ 0)
theorem allInt : ∀ {xs : List V}, xs.all isIntV = true → ∃ ms : List Int, xs = ms.map V.int
  | [], _ => ⟨[], rfl⟩
  | x :: xs, h => by
    rw [List.all_cons, Bool.and_eq_true] at h
    obtain ⟨ms, rfl⟩ := allInt h.2
    cases x with
    | int i => exact ⟨i :: ms, rfl⟩
    | _ => exact absurd h.1 (by simp [isIntV])
def spCall (K : PySem.W.Frag) : Sp := fun vs H Q E => ∃ (b dx t : Addr) (ns : List Int) (st : Bool) (v : V) (o : Option (List V)), vs = [.ref b, v] ∧ BndT K H b dx t ns st ∧ ns.length ≤ 100000 ∧ (∀ x ∈ ns, -(2 ^ 64) < x ∧ x < 2 ^ 64) ∧ SeqQ K H v o ∧ (∀ xs, o = some xs → xs.length ≤ 100000 ∧ Knows K H xs) ∧
  (∀ ms : List Int, o = some (ms.map V.int) → ms.length = ns.length → ∀ H', Same H H' → Q (.bl (holds st (dot ns ms))) H') ∧ (okSeq o (ns.length : Nat) = false → bad K "BadForm" H E [("part", .str "numbers")])
theorem fk_Bound_call (T : Txt P K mg) : ∃ fd, FunD K "__call__" "Bound.__call__" (defArgs s_Bound_call) (defBody s_Bound_call) (defScope s_Bound_call) [] [] (He.fAd K ("Bound", some "__call__")) fd ∧ FnOk P w K mg base (L2.CX P w) 4 (He.fAd K ("Bound", some "__call__")) fd ["self", "numbers"] (spCall K) := by
  obtain ⟨fd, F⟩ := T.d_Bound_call
  refine ⟨fd, F, F.ok sc_Bound_call (fun vs H Q E h => ?_) (fun cdv A outer s H vs Q E hr h => ?_)⟩
  · obtain ⟨b, dx, t, ns, st, v, o, rfl, _⟩ := h; rfl
  · refine ⟨_, (pss_cons (ps_expr (pe_callR (ok_need_numbers T) (hr.mono (by decide)) rfl T.g_need_numbers T.k_need_numbers (fun σ => passAt (takes_of rfl rfl rfl rfl) σ) (pa_cons (pv 1) (pa_cons (pe_callB call_len_seq rfl T.n_len (by decide +kernel) (pa_cons (pe_fld (pv 0) rfl) pa_nil)) pa_nil)))) (pss_cons (ps_set (i := 2) sc_Bound_call.nd rfl (Or.inl rfl) (pe_callR (ok_value_at T) (hr.mono (by decide)) rfl T.g_value_at T.k_value_at px0 (pa_cons (pe_fld (pv 0) rfl) (pa_cons (pv 1) pa_nil)))) (pss_one (ps_ret (pe_ifExp (pt_val (pe_fld (pv 0) rfl)) (pe_cmpR op_gt (pv 2) pe_int (nomark _)) (pe_cmpR op_ge (pv 2) pe_int (nomark _))))))), ?_⟩
    obtain ⟨b, dx, t, ns, st, v, o, rfl, hb, hl, hsm, sq, kn, qy, qn⟩ := h
    rw [show L2.start ["self", "numbers", "value"] [V.ref b, v] = [some (.ref b), some v, none] from rfl]
    walk_at "rd"
    refine ⟨b, _, dx, _, _, rfl, hb.o, T.cl_Bound, T.na_form, rfl, ?_⟩
    refine ⟨t, _, rfl, .inr (.of hb.f), ?_⟩
    rw [List.length_map]
    refine ⟨v, _, o, rfl, sq, kn, fun ok H1 e1 => ?_, fun no => qn no⟩
    obtain ⟨ms, rfl, hm⟩ : ∃ ms : List Int, o = some (ms.map V.int) ∧ ms.length = ns.length := by
      cases o with
      | none => cases ok
      | some xs =>
        simp only [okSeq, Bool.and_eq_true, decide_eq_true_eq] at ok
        obtain ⟨ms, rfl⟩ := allInt ok.2
        refine ⟨ms, rfl, ?_⟩
        have := ok.1
        rw [List.length_map] at this
        omega
    obtain ⟨a, rfl, b2, h2⟩ : ∃ a, v = .ref a ∧ ∃ b2, SqB b2 K H1 a (ms.map V.int) := by
      cases sq with
      | lst h => exact ⟨_, rfl, true, .of (e1 _ _ h)⟩
      | tup h => exact ⟨_, rfl, false, .of (e1 _ _ h)⟩
    have hb1 := hb.same e1
    walk_at "rd"
    refine ⟨b, _, dx, _, _, rfl, hb1.o, T.cl_Bound, T.na_form, rfl, ?_⟩
    walk_at "rd"
    refine ⟨t, a, false, b2, ns, ms, rfl, .of hb1.f, h2, hl, hsm, fun H2 e2 => ?_⟩
    have hb2 := hb1.same e2
    have q := qy ms rfl hm H2 (e1.trans e2)
    walk_at "rd"
    refine ⟨b, _, dx, _, _, rfl, hb2.o, T.cl_Bound, T.na_strict, rfl, ?_⟩
    refine ⟨_, rfl, ?_⟩
    cases st with
    | true =>
      refine iteT ?_
      walk_at "rd"
      exact q
    | false =>
      refine iteF ?_
      walk_at "rd"
      exact q
theorem ok_Bound_call (T : Txt P K mg) : FnR P w K mg base (L2.CX P w) 4 (He.fAd K ("Bound", some "__call__")) (spCall K) := by
  obtain ⟨fd, F, G⟩ := fk_Bound_call (P := P) (w := w) (base := base) T
  refine (G.raw (F.bindsN fun _ _ _ _ _ _ us hl => match us, hl with | [_, _], _ => rfl) .nil).imp fun vs H Q E h => ?_
  rw [List.append_nil]
  exact h
/-- the other side of == -/
inductive OthQ (K : PySem.W.Frag) (H : Hp) : V → Option (List Int × Bool) → Prop
  | bnd {b dx t : Addr} {ns : List Int} {st : Bool} (h : BndT K H b dx t ns st) : OthQ K H (.ref b) (some (ns, st))
  | no {v : V} {t : Value} (h : TyX K H v t) (n : PySem.W.kitOne K t (.ref (He.ga K "Bound")) = some false) : OthQ K H v none
def eqB (ns : List Int) (st : Bool) : Option (List Int × Bool) → Bool
  | some (ms, su) => decide (ns = ms) && decide (st = su)
  | none => false
theorem eqv_ints (ns ms : List Int) : PyData.eqv (.tuple (ns.map PyData.int)) (.tuple (ms.map PyData.int)) = decide (ns = ms) := by
  have : ∀ (ns ms : List Int), PyData.eqvAll (ns.map PyData.int) (ms.map PyData.int) = decide (ns = ms) := by
    intro ns
    induction ns with
    | nil => intro ms; cases ms <;> simp [PyData.eqvAll]
    | cons n ns ih =>
      intro ms
      cases ms with
      | nil => simp [PyData.eqvAll]
      | cons m ms => by_cases h : n = m <;> simp [PyData.eqvAll, PyData.eqv, ih, h]
  simp [PyData.eqv, this]
theorem shaped_tup (ns : List Int) : SeqAt.shaped (.tuple (ns.map PyData.int)) = true := by
  obtain ⟨h1, h2⟩ := lay_ints ns
  unfold SeqAt.shaped
  rw [Bool.and_eq_true, decide_eq_true_eq]
  refine ⟨by simp only [PyData.canLay0, h1], ?_⟩
  simp only [PyData.depth]
  omega
theorem dp_tup {H : Hp} {a : Addr} {ns : List Int} (h : H a = some (.tup (ns.map V.int))) : Dp K H (.ref a) (.tuple (ns.map PyData.int)) := .tup (.of h) (dpAll_ints ns)
def spEqB (K : PySem.W.Frag) : Sp := fun vs H Q _ => ∃ (b dx t : Addr) (ns : List Int) (st : Bool) (v : V) (o : Option (List Int × Bool)), vs = [.ref b, v] ∧ BndT K H b dx t ns st ∧ OthQ K H v o ∧ Q (.bl (eqB ns st o)) H
theorem ok_Bound_eq (T : Txt P K mg) : FnR P w K mg base (L2.CX P w) 1 (He.fAd K ("Bound", some "__eq__")) (spEqB K) := by
  obtain ⟨fd, F⟩ := T.d_Bound_eq
  refine fo_of F sc_Bound_eq (fun _ _ _ _ _ _ us hl => match us, hl with | [_, _], _ => rfl) (fun vs H Q E h => ?_) (fun cdv A outer s H vs Q E hr h => ?_)
  · obtain ⟨b, dx, t, ns, st, v, o, rfl, _⟩ := h; rfl
  · refine ⟨_, (pss_one (ps_ret (pe_and (pe_callB call_isi rfl T.n_isinstance (by decide +kernel) (pa_cons (pv 1) (pa_cons (C8.pe_gc (v := .ref _) rfl ⟨_, T.g_Bound, rfl⟩) pa_nil))) (pe_and (pe_cmpR (op_eqD hr.units) (pe_fld (pv 0) rfl) (pe_fld (pv 1) rfl) (nomark _)) (pe_one (pe_cmpR op_eq (pe_fld (pv 0) rfl) (pe_fld (pv 1) rfl) (nomark _))))))), ?_⟩
    obtain ⟨b, dx, t, ns, st, v, o, rfl, hb, oq, q⟩ := h
    rw [show L2.start ["self", "other"] [V.ref b, v] = [some (.ref b), some v] from rfl]
    walk_at "rd"
    cases oq with
    | no ty kt =>
      refine ⟨_, _, _, _, false, rfl, .own _, ty, kt, ?_⟩
      exact ⟨_, rfl, iteF q⟩
    | @bnd b2 dx2 t2 ms su h2 =>
      refine ⟨_, _, _, _, true, rfl, .own _, .base (.ins h2.o T.in_Bound.cl T.in_Bound.ha T.in_Bound.hn T.in_Bound.htk T.in_Bound.hm), T.in_Bound.me, ?_⟩
      refine ⟨_, rfl, iteT ?_⟩
      walk_at "rd"
      refine ⟨b, _, dx, _, _, rfl, hb.o, T.cl_Bound, T.na_form, rfl, ?_⟩
      walk_at "rd"
      refine ⟨b2, _, dx2, _, _, rfl, h2.o, T.cl_Bound, T.na_form, rfl, ?_⟩
      refine ⟨_, _, dp_tup hb.f, dp_tup h2.f, shaped_tup _, shaped_tup _, ?_⟩
      rw [eqv_ints]
      refine ⟨_, rfl, ?_⟩
      by_cases e : ns = ms
      · have q' : Q (.bl (decide (st = su))) H := by simpa [eqB, e] using q
        rw [decide_eq_true e]
        refine iteT ?_
        walk_at "rd"
        refine ⟨b, _, dx, _, _, rfl, hb.o, T.cl_Bound, T.na_strict, rfl, ?_⟩
        walk_at "rd"
        refine ⟨b2, _, dx2, _, _, rfl, h2.o, T.cl_Bound, T.na_strict, rfl, ?_⟩
        refine ⟨rfl, ?_⟩
        have e2 : decide (V.bl st = V.bl su) = decide (st = su) := by cases st <;> cases su <;> decide
        rw [e2]
        exact q'
      · have q' : Q (.bl false) H := by simpa [eqB, e] using q
        rw [decide_eq_false e]
        exact iteF q'
end
end K15

namespace K15
open PySem PySem.Spec PyProof.Rows L2 Qk
section
variable {P : Program} {w : World} {K : PySem.W.Frag} {mg : Str → Option Value} {base : Heap}
def spIsF (K : PySem.W.Frag) : Sp := fun vs H Q _ => ∃ (b dx t : Addr) (ns : List Int) (st : Bool), vs = [.ref b] ∧ BndT K H b dx t ns st ∧ ns.length ≤ 100000 ∧ ∀ H', Same H H' → Q (.bl (st && allZ ns)) H'
theorem fn_isf (T : Txt P K mg) {g : Addr} {fd : FuncData} (F : FunD K "is_false" "Bound.is_false" (defArgs s_Bound_is_false) (defBody s_Bound_is_false) (defScope s_Bound_is_false) [] [] g fd) : FnOk P w K mg base (L2.CX P w) 2 g fd ["self"] (spIsF K) := by
  refine F.ok sc_Bound_is_false (fun vs H Q E h => ?_) (fun cdv A outer s H vs Q E hr h => ?_)
  · obtain ⟨b, dx, t, ns, st, rfl, _⟩ := h; rfl
  · refine ⟨_, (pss_one (ps_ret (pe_and (pe_fld (pv 0) rfl) (pe_one (pe_callR (ok_is_zero T) (hr.mono (by decide)) rfl T.g_is_zero T.k_is_zero px0 (pa_cons (pe_fld (pv 0) rfl) pa_nil)))))), ?_⟩
    obtain ⟨b, dx, t, ns, st, rfl, hb, hl, q⟩ := h
    rw [show L2.start ["self"] [V.ref b] = [some (.ref b)] from rfl]
    walk_at "rd"
    refine ⟨b, _, dx, _, _, rfl, hb.o, T.cl_Bound, T.na_strict, rfl, ?_⟩
    refine ⟨_, rfl, ?_⟩
    cases st with
    | false => exact iteF (q H (Same.refl H))
    | true =>
      refine iteT ?_
      walk_at "rd"
      refine ⟨b, _, dx, _, _, rfl, hb.o, T.cl_Bound, T.na_form, rfl, ?_⟩
      walk_at "rd"
      exact ⟨t, ns, rfl, .of hb.f, hl, fun H' e => q H' e⟩
def txI : V → V
  | .int i => .str (toString i)
  | v => v
def opS (st : Bool) : Str := if st then ">" else ">="
/-- a bound's words -/
def wordsB (ns : List Int) (st : Bool) : List Str := ns.map (fun i => (toString i : Str)) ++ [opS st, "0"]
theorem filt_all (xs : List V) : xs.filter (fun _ => true) = xs := by simp
theorem map_txI (ns : List Int) : (ns.map V.int).map txI = (ns.map fun i => (toString i : Str)).map V.str := by
  rw [List.map_map, List.map_map]
  rfl
def small (ns : List Int) : Prop := ns.length ≤ 8 ∧ ∀ i ∈ ns, i.natAbs ≤ 10 ^ 60
theorem log_small {i : Int} (h : i.natAbs ≤ 10 ^ 60) : i.natAbs.log2 < 1920 := by
  by_cases h0 : i.natAbs = 0
  · rw [h0]; decide
  · have : i.natAbs.log2 < 200 := (Nat.log2_lt h0).mpr (Nat.lt_of_le_of_lt h (by decide))
    omega
theorem len_words {ns : List Int} {st : Bool} (h : small ns) : ((wordsB ns st).map (·.length)).sum + (wordsB ns st).length * (" " : Str).length ≤ 16777216 := by
  have h1 : ∀ l : List Int, (∀ i ∈ l, i.natAbs ≤ 10 ^ 60) → ((l.map fun i => (toString i : Str)).map (·.length)).sum ≤ l.length * 1921 := by
    intro l
    induction l with
    | nil => intro _; simp
    | cons i l ih =>
      intro hl
      have a := ih fun j hj => hl j (List.mem_cons_of_mem _ hj)
      have b : ((toString i : Str)).length ≤ 1921 := PyProof.Rows.int_text_len_1921 (log_small (hl i (List.mem_cons_self ..)))
      simp only [List.map_cons, List.sum_cons, List.length_cons] at a ⊢
      omega
  have a := h1 ns h.2
  have b := h.1
  have c : (opS st).length ≤ 2 := by cases st <;> decide
  have d : ("0" : Str).length = 1 := by decide
  have e : (" " : Str).length = 1 := by decide
  unfold wordsB
  simp only [List.map_append, List.sum_append, List.map_cons, List.map_nil, List.sum_cons, List.sum_nil, List.length_append, List.length_map, List.length_cons, List.length_nil, d, e]
  omega
def spStr (K : PySem.W.Frag) : Sp := fun vs H Q _ => ∃ (b dx t : Addr) (ns : List Int) (st : Bool), vs = [.ref b] ∧ BndT K H b dx t ns st ∧ small ns ∧ ∀ H', Same H H' → Q (.str (Txt.join " " (wordsB ns st))) H'
theorem ok_Bound_str (T : Txt P K mg) : FnR P w K mg base (L2.CX P w) 1 (He.fAd K ("Bound", some "__str__")) (spStr K) := by
  obtain ⟨fd, F⟩ := T.d_Bound_str
  refine fo_of F sc_Bound_str (fun _ _ _ _ _ _ us hl => match us, hl with | [_], _ => rfl) (fun vs H Q E h => ?_) (fun cdv A outer s H vs Q E hr h => ?_)
  · obtain ⟨b, dx, t, ns, st, rfl, _⟩ := h; rfl
  · refine ⟨_, (pss_one (ps_ret (pe_join pe_str (pe_lst (StX.pa_star (pe_lc (own := [("factor", 1)]) (g := gName 1) (tt := tYes) rfl sc_Bound_str.nd (pi_seq (pe_fld (pv 0) rfl)) (blkOk_by (own := [("factor", 1)]) (N := ["self", "factor"]) (sc := defScope s_Bound_str) (by decide +kernel)) (fun _ _ _ _ _ => (pg_name (i := 1) sc_Bound_str.nd rfl (Or.inl rfl))) (fun _ _ _ _ _ => pts_nil) (fun _ _ _ _ _ => (pe_callTy call_str_int rfl T.n_str (by decide +kernel) (pa_cons (pv 1) pa_nil)))) (pa_cons (pe_ifExp (pt_val (pe_fld (pv 0) rfl)) pe_str pe_str) (pa_cons pe_str pa_nil))))))), ?_⟩
    obtain ⟨b, dx, t, ns, st, rfl, hb, hs, q⟩ := h
    rw [show L2.start ["self", "factor"] [V.ref b] = [some (.ref b), none] from rfl]
    refine ⟨⟨_, rfl⟩, ?_⟩
    dsimp only [L2.tLst, StX.tStar]
    refine lc_fm (xs := ns.map V.int) (fun Q' h => ⟨_, rfl, b, _, dx, _, _, rfl, hb.o, T.cl_Bound, T.na_form, rfl, h⟩) (fun _ => true) txI (.inr (.of hb.f)) (by rw [List.length_map]; have := hs.1; omega) (fun x hx H1 e A B hA hB => ?_) (fun D H1 hD hl e => ?_)
    · obtain ⟨i, hi, rfl⟩ := List.mem_map.mp hx
      walk_at "rd"
      exact ⟨log_small (hs.2 i hi), hA rfl H1 (Same.refl H1)⟩
    · refine ⟨_, _, rfl, .inr (.of hl), ?_⟩
      have hb1 := hb.same e
      rw [filt_all, map_txI]
      refine ⟨_, rfl, b, _, dx, _, _, rfl, hb1.o, T.cl_Bound, T.na_strict, rfl, _, rfl, ?_⟩
      have fin : ∀ ws : List V, ws = (wordsB ns st).map V.str → ws.length ≤ sizeLine ∧ ∀ l, H1 l = none → ∃ (a : Str) (p : Addr) (ys : List Str), V.str " " = .str a ∧ [V.ref l] = [.ref p] ∧ (SqL K (upd H1 l (.lst ws)) p (ys.map V.str) ∨ SqT K (upd H1 l (.lst ws)) p (ys.map V.str)) ∧
          (ys.map (·.length)).sum + ys.length * a.length ≤ 16777216 ∧ Q (.str (Txt.join a ys)) (upd H1 l (.lst ws)) := by
        rintro ws rfl
        refine ⟨?_, fun z hz => ?_⟩
        · have := hs.1
          rw [List.length_map]
          unfold wordsB
          rw [List.length_append, List.length_map]
          exact Nat.le_of_lt (small_le (by simp; omega))
        · generalize hE : upd H1 z _ = H2
          obtain ⟨h2, e2⟩ := new_ok hE hz
          exact ⟨_, z, wordsB ns st, rfl, rfl, .inl (.of h2), len_words hs, q H2 (e.trans e2)⟩
      cases st with
      | true =>
        refine iteT ?_
        exact fin _ (by unfold wordsB; rw [List.map_append]; rfl)
      | false =>
        refine iteF ?_
        exact fin _ (by unfold wordsB; rw [List.map_append]; rfl)
end
end K15

namespace K15
open PySem PySem.Spec PyProof.Rows L2 Qk
section
variable {P : Program} {w : World} {K : PySem.W.Frag} {mg : Str → Option Value} {base : Heap}
/-- Bound(form, strict), Bound(form), Bound(form, is_strict=..), Bound(is_strict=.., form=..) -/
structure InitB (P : Program) (w : World) (K : PySem.W.Frag) (mg : Str → Option Value) (base : Heap) (fd : FuncData) : Prop where
  ok : FnOk P w K mg base (L2.CX P w) 4 (He.fAd K ("Bound", some "__init__")) fd ["self", "form", "is_strict"] (spInit K)
  r3 : FnR P w K mg base (L2.CX P w) 4 (He.fAd K ("Bound", some "__init__")) (spInit K)
  r2 : FnR P w K mg base (L2.CX P w) 4 (He.fAd K ("Bound", some "__init__")) (fun vs H Q E => spInit K (vs ++ [.bl false]) H Q E)
  k1 : ∃ gv, KBn K fd ["self", "form", "is_strict"] 2 ["is_strict"] gv (fun vs zs => vs ++ zs)
  k2 : ∃ gv, KBn K fd ["self", "form", "is_strict"] 1 ["is_strict", "form"] gv (fun vs zs => vs ++ zs.reverse)
theorem vals_rev {xs : List V} {us : List Value} (h : Vals xs us) : Vals xs.reverse us.reverse := by
  induction h with
  | nil => exact .nil
  | cons r _ ih =>
    rw [List.reverse_cons, List.reverse_cons]
    exact ih.append (.cons r .nil)
theorem init_b (T : Txt P K mg) : ∃ fd, InitB P w K mg base fd := by
  obtain ⟨fd, F, G⟩ := fn_init (P := P) (w := w) (base := base) T
  refine ⟨fd, G, ?_, ?_, ?_, ?_⟩
  · obtain ⟨ds, hd, hb⟩ := F.binds1 (ps := ["self", "form", "is_strict"]) 3 1 (by simp) rfl (fun T kV doc pm an cdv ct us its h1 h2 => match us, its, h1, h2 with | [_, _, _], [_], _, _ => ⟨_, rfl, rfl⟩)
    have R := G.raw hb hd
    refine R.imp fun vs H Q E h => ?_
    show spInit K (vs ++ []) H Q E
    rw [List.append_nil]
    exact h
  · obtain ⟨ds, hd, hb⟩ := F.binds1 (ps := ["self", "form", "is_strict"]) 2 0 (by simp) rfl (fun T kV doc pm an cdv ct us its h1 h2 => match us, its, h1, h2 with | [_, _], [_], _, _ => ⟨_, rfl, rfl⟩)
    exact G.raw hb hd
  · obtain ⟨its, hb⟩ := F.kbindsD (ps := ["self", "form", "is_strict"]) 2 ["is_strict"] (fun us _ ws => us ++ ws) (by simp) (fun r1 _ r3 => r1.append r3) (fun T kV doc pm an cdv ct us its ws h1 h2 h3 => match us, its, ws, h1, h2, h3 with | [_, _], [_], [_], _, _, _ => ⟨_, rfl, rfl⟩)
    exact ⟨_, hb⟩
  · obtain ⟨its, hb⟩ := F.kbindsD (ps := ["self", "form", "is_strict"]) 1 ["is_strict", "form"] (fun us _ ws => us ++ ws.reverse) (by simp) (fun r1 _ r3 => r1.append (vals_rev r3)) (fun T kV doc pm an cdv ct us its ws h1 h2 h3 => match us, its, ws, h1, h2, h3 with | [_], [_], [_, _], _, _, _ => ⟨_, rfl, rfl⟩)
    exact ⟨_, hb⟩
theorem pxP : Passes (L2.CX P w) X E0 := fun pins σ H s e s' I h => px0 σ pins H s e s' I h
/-- what stays across tables: all but p and the tables -/
theorem tabs_ext {TT : List (Addr × Str)} {H H' : Hp} {p : Addr} (t : LamX.Tabs TT H) (hp : ∃ xs, H p = some (.lst xs)) (e : ExtS p H H') : LamX.Tabs TT H' := fun r hr => by
  obtain ⟨ps, h1, h2, h3⟩ := t r hr
  obtain ⟨xs, hp⟩ := hp
  have np : r.1 ≠ p := fun z => by rw [z, hp] at h1; cases h1
  refine ⟨ps, e _ _ np h1, h2, fun pos cv hc => ?_⟩
  obtain ⟨c, e1, e2⟩ := h3 pos cv hc
  refine ⟨c, e1, e _ _ (fun z => ?_) e2⟩
  rw [z, hp] at e2
  unfold LamX.CodeO at e2
  cases e2
theorem extW_of {p : Addr} {H H' : Hp} (e : LamX.ExtN H H') : ExtW p H H' := fun a o _ n h => e a o h n
end
end K15

namespace K15
open PySem PySem.Spec PyProof.Rows L2 Qk
section
variable {K : PySem.W.Frag} {H : Hp}
/-- a value no form: what is said of it -/
def NoForm (K : PySem.W.Frag) (H : Hp) (x : V) : Prop := ∃ o, TupQ K H x o ∧ okForm o = false ∧ ∀ xs, o = some xs → xs.length ≤ 100000 ∧ Knows K H xs
def NoNums (K : PySem.W.Frag) (H : Hp) (x : V) : Prop := ∃ o, SeqQ K H x o ∧ (∀ m, okSeq o m = false) ∧ ∀ xs, o = some xs → xs.length ≤ 100000 ∧ Knows K H xs
theorem noForm_no {x : V} {n : String} (h : TyX K H x (.type n)) (k : kitB n "tuple" = some false) : NoForm K H x := ⟨none, .no h (kit_ty k), rfl, fun _ h => by cases h⟩
theorem noForm_tup {a : Addr} {xs : List V} (h : H a = some (.tup xs)) (k : okForm (some xs) = false) (hl : xs.length ≤ 100000) (kn : Knows K H xs) : NoForm K H (.ref a) := ⟨_, .tup h, k, fun ys e => by cases e; exact ⟨hl, kn⟩⟩
theorem knows_two {x y : V} (a : IntQ K H x (isIntV x)) (b : IntQ K H y (isIntV y)) : Knows K H [x, y] := knows_cons a (knows_cons b knows_nil)
theorem odd_ok {a1 a2 a3 a4 a5 a7 a8 a9 : Addr} (h1 : H a1 = some (.lst [.int 1])) (h2 : H a2 = some (.tup [.int 1, .bl true])) (h3 : H a3 = some (.tup [.non])) (h4 : H a4 = some (.tup [.str "1"])) (h5 : H a5 = some (.dK [])) (h7 : H a7 = some (.tup (List.replicate (9 : Int).toNat [V.int 1]).flatten)) (h8 : H a8 = some (.tup [.int 1])) (h9 : H a9 = some (.tup [.ref a8])) :
    ∀ x ∈ [V.non, .int 0, .str "1", .ref a1, .ref a2, .ref a3, .ref a4, .ref a5, .ref a7, .ref a9], NoForm K H x := by
  intro x hx
  simp only [List.mem_cons, List.not_mem_nil, or_false] at hx
  rcases hx with rfl | rfl | rfl | rfl | rfl | rfl | rfl | rfl | rfl | rfl
  · exact noForm_no (.base .non) (by decide +kernel)
  · exact noForm_no (.base (.int 0)) (by decide +kernel)
  · exact noForm_no (.base (.str _)) (by decide +kernel)
  · exact noForm_no (.base (.lst h1)) (by decide +kernel)
  · exact noForm_tup h2 rfl (by decide) (knows_two (intQ_int 1) (intQ_bl true))
  · exact noForm_tup h3 rfl (by decide) (knows_cons intQ_non knows_nil)
  · exact noForm_tup h4 rfl (by decide) (knows_cons (intQ_str _) knows_nil)
  · exact noForm_no (.base (.dK h5)) (by decide +kernel)
  · exact noForm_tup h7 rfl (by decide) (knows_ints (List.replicate 9 1))
  · exact noForm_tup h9 rfl (by simp) (knows_cons (intQ_tup h8) knows_nil)
theorem noNums_no {x : V} {n : String} (h : TyX K H x (.type n)) (k1 : kitB n "list" = some false) (k2 : kitB n "tuple" = some false) : NoNums K H x := ⟨none, .no h (by have h1 := kit_ty (K := K) k1; have h2 := kit_ty (K := K) k2; simp only [PySem.W.kitAny, h1, h2]), fun _ => rfl, fun _ h => by cases h⟩
theorem noNums_one {a : Addr} {x : V} (h : H a = some (.lst [x]) ∨ H a = some (.tup [x])) (k : isIntV x = false) (kn : IntQ K H x (isIntV x)) : NoNums K H (.ref a) :=
  ⟨some [x], h.elim .lst .tup, fun m => by simp [okSeq, k], fun ys e => by cases e; exact ⟨by simp, knows_cons kn knows_nil⟩⟩
theorem bad_ok {a1 a2 a3 a4 : Addr} {i : Int} (h1 : H a1 = some (.dK [])) (h2 : H a2 = some (.lst [.str "a"])) (h3 : H a3 = some (.tup [.non])) (h4 : H a4 = some (.lst [.bl true])) :
    ∀ x ∈ [V.non, .int 0, .str "a", .ref a1, .ref a2, .ref a3, .ref a4, .int i], NoNums K H x := by
  intro x hx
  simp only [List.mem_cons, List.not_mem_nil, or_false] at hx
  rcases hx with rfl | rfl | rfl | rfl | rfl | rfl | rfl | rfl
  · exact noNums_no (.base .non) (by decide +kernel) (by decide +kernel)
  · exact noNums_no (.base (.int 0)) (by decide +kernel) (by decide +kernel)
  · exact noNums_no (.base (.str _)) (by decide +kernel) (by decide +kernel)
  · exact noNums_no (.base (.dK h1)) (by decide +kernel) (by decide +kernel)
  · exact noNums_one (.inl h2) rfl (intQ_str _)
  · exact noNums_one (.inr h3) rfl intQ_non
  · exact noNums_one (.inl h4) rfl (intQ_bl true)
  · exact noNums_no (.base (.int i)) (by decide +kernel) (by decide +kernel)
/-- what is no bool -/
def NoBool (K : PySem.W.Frag) (H : Hp) (x : V) : Prop := BoolQ K H x none
theorem nob_ok {a1 : Addr} (h1 : H a1 = some (.tup [])) : ∀ x ∈ [V.non, .int 0, .int 1, .str "True", .ref a1], NoBool K H x := by
  intro x hx
  simp only [List.mem_cons, List.not_mem_nil, or_false] at hx
  rcases hx with rfl | rfl | rfl | rfl | rfl
  · exact .no (.base .non) (kit_ty (by decide +kernel))
  · exact .no (.base (.int 0)) (kit_ty (by decide +kernel))
  · exact .no (.base (.int 1)) (kit_ty (by decide +kernel))
  · exact .no (.base (.str _)) (kit_ty (by decide +kernel))
  · exact .no (.base (.tup h1)) (kit_ty (by decide +kernel))
theorem NoForm.same {H' : Hp} {x : V} (h : NoForm K H x) (e : Same H H') : NoForm K H' x := by
  obtain ⟨o, h1, h2, h3⟩ := h
  refine ⟨o, ?_, h2, fun xs hx => ⟨(h3 xs hx).1, (h3 xs hx).2.same e⟩⟩
  cases h1 with
  | tup h => exact .tup (e _ _ h)
  | no h n => exact .no (tyX_same e h) n
theorem NoNums.same {H' : Hp} {x : V} (h : NoNums K H x) (e : Same H H') : NoNums K H' x := by
  obtain ⟨o, h1, h2, h3⟩ := h
  exact ⟨o, h1.same e, h2, fun xs hx => ⟨(h3 xs hx).1, (h3 xs hx).2.same e⟩⟩
theorem wk {H' : Hp} {p q a : Addr} {n : Int} {o : HO} (W : ExtW p H H') (hp : PenAt H p q n) (h : H a = some o) (h1 : ∀ q x r, o ≠ .lst [.ref q, .int x, .int r] := by intros; simp) (h2 : ∀ ps, o ≠ .tbl ps := by intros; simp) : H' a = some o := by
  obtain ⟨cs, x, r, hh⟩ := hp
  refine W _ _ (fun e => ?_) h2 h
  rw [e, hh.hp] at h
  exact h1 _ _ _ (Option.some.inj h).symm
theorem wkB {H' : Hp} {p q b dx t : Addr} {n : Int} {ns : List Int} {st : Bool} (W : ExtW p H H') (hp : PenAt H p q n) (h : BndT K H b dx t ns st) : BndT K H' b dx t ns st := ⟨wk W hp h.o, wk W hp h.f⟩
theorem penN {H' : Hp} {p q : Addr} {n : Int} (h : PenAt H p q n) (e : LamX.ExtN H H') : PenAt H' p q n := by
  obtain ⟨cs, x, r, hh⟩ := h
  exact ⟨cs, x, r, e _ _ hh.hp (by intro ps z; cases z), e _ _ hh.hq (by intro ps z; cases z), hh.pq, hh.len, hh.a0, hh.an, hh.r0⟩
theorem new2 {H' : Hp} {x dx : Addr} {o1 o2 : HO} (zx : H x = none) (zd : H dx = none) (ne : dx ≠ x) (hE : upd (upd H dx o1) x o2 = H') : H' x = some o2 ∧ Same H H' := by
  subst hE
  refine ⟨upd_same, fun a o h => ?_⟩
  rw [upd_ne (ne_of_none h zx), upd_ne (ne_of_none h zd)]
  exact h
theorem upd_keep {a l : Addr} {o o' x : HO} (h : H a = some o) (hl : H l = some o') (ne : o ≠ o') : (upd H l x) a = some o := by
  rw [upd_ne (fun e => ne (by rw [e, hl] at h; exact (Option.some.inj h).symm))]
  exact h
def cR (K : PySem.W.Frag) : Addr × Addr := He.cT K ("_law_refused_right", none)
def qLam : Str := (envOfC "_law_refused_right" (defScope s__law_refused_right) 0 0 .none).qual ++ "<lambda>"
def TTl (K : PySem.W.Frag) : List (Addr × Str) := [((cR K).2, qLam)]
/-- the list of what was heard, and what is still asked -/
structure Hd (K : PySem.W.Frag) (R : Hp) (p q hl : Addr) (n : Int) (zs : List (Addr × Str)) (b dx t : Addr) (ns : List Int) (st : Bool) (d1 d2 d3 d4 : Addr) : Prop where
  pen : PenAt R p q n
  tab : LamX.Tabs (TTl K) R
  l : R hl = some (.lst (zs.map fun z => V.ref z.1))
  z : ∀ z ∈ zs, R z.1 = some (.tup [.str "form", .str z.2])
  bnd : BndT K R b dx t ns st
  d1 : R d1 = some (.dK [])
  d2 : R d2 = some (.lst [.str "a"])
  d3 : R d3 = some (.tup [.non])
  d4 : R d4 = some (.lst [.bl true])
theorem refs_ne {zs : List (Addr × Str)} {y : Addr × Str} {x : V} {xs : List V} (hx : ∀ a, x ≠ .ref a) (k : Nat) (h : xs[k]? = some x) : HO.lst xs ≠ HO.lst ((y :: zs).map fun z => V.ref z.1) := fun e => by
  have e' : xs = (y :: zs).map fun z => V.ref z.1 := by cases e; rfl
  rw [e', List.getElem?_map] at h
  cases q : (y :: zs)[k]? with
  | none => rw [q] at h; cases h
  | some r => rw [q] at h; exact hx r.1 (Option.some.inj h).symm
theorem Hd.step {R R' : Hp} {p q hl b dx t d1 d2 d3 d4 : Addr} {n n' : Int} {y : Addr × Str} {zs : List (Addr × Str)} {ns : List Int} {st : Bool} (h : Hd K R p q hl n (y :: zs) b dx t ns st d1 d2 d3 d4) (W : ExtW p R R') (pen : PenAt R' p q n') (tab : LamX.Tabs (TTl K) R') :
    Hd K R' p q hl n' (y :: zs) b dx t ns st d1 d2 d3 d4 :=
  ⟨pen, tab, wk W h.pen h.l (fun q x r => (refs_ne (x := V.int x) (by intro a z; cases z) 1 rfl).symm), fun z hz => wk W h.pen (h.z z hz), wkB W h.pen h.bnd, wk W h.pen h.d1, wk W h.pen h.d2, wk W h.pen h.d3, wk W h.pen h.d4⟩
theorem Hd.app {R : Hp} {p q hl z b dx t d1 d2 d3 d4 : Addr} {n : Int} {y : Addr × Str} {zs : List (Addr × Str)} {ns : List Int} {st : Bool} {part : Str} (h : Hd K R p q hl n (y :: zs) b dx t ns st d1 d2 d3 d4) (hz : R z = some (.tup [.str "form", .str part])) :
    Hd K (upd R hl (.lst ((y :: zs).map (fun z => V.ref z.1) ++ [.ref z]))) p q hl n (y :: (zs ++ [(z, part)])) b dx t ns st d1 d2 d3 d4 := by
  have nt : ∀ {a xs}, R a = some (.tup xs) → (upd R hl (.lst ((y :: zs).map (fun z => V.ref z.1) ++ [.ref z]))) a = some (.tup xs) := fun h1 => upd_keep h1 h.l (by simp)
  obtain ⟨cs, x, r, hh⟩ := h.pen
  have np : p ≠ hl := fun e => by
    have a := hh.hp
    rw [e, h.l] at a
    exact (refs_ne (y := y) (zs := zs) (x := V.int x) (xs := [.ref q, .int x, .int r]) (by intro a z; cases z) 1 rfl) (Option.some.inj a).symm
  have nq : ∀ cs : List Int, R q = some (.lst (cs.map V.int)) → q ≠ hl := fun cs a e => by
    rw [e, h.l] at a
    have e' := Option.some.inj a
    cases cs with
    | nil => simp at e'
    | cons c cs => simp at e'
  refine ⟨⟨cs, x, r, (upd_ne np).trans hh.hp, (upd_ne (nq _ hh.hq)).trans hh.hq, hh.pq, hh.len, hh.a0, hh.an, hh.r0⟩, fun r hr => ?_, upd_same.trans (by simp), fun u hu => ?_, ⟨upd_keep h.bnd.o h.l (by simp), nt h.bnd.f⟩, upd_keep h.d1 h.l (by simp), upd_keep h.d2 h.l (refs_ne (x := .str "a") (by intro a z; cases z) 0 rfl), nt h.d3, upd_keep h.d4 h.l (refs_ne (x := .bl true) (by intro a z; cases z) 0 rfl)⟩
  · obtain ⟨ps, h1, h2, h3⟩ := h.tab r hr
    refine ⟨ps, upd_keep h1 h.l (by simp), h2, fun pos cv hc => ?_⟩
    obtain ⟨c, e1, e2⟩ := h3 pos cv hc
    exact ⟨c, e1, upd_keep e2 h.l (by unfold LamX.CodeO; simp)⟩
  · rcases List.mem_cons.mp hu with rfl | hu
    · exact nt (h.z _ (List.mem_cons_self ..))
    · rcases List.mem_append.mp hu with hu | hu
      · exact nt (h.z _ (List.mem_cons_of_mem _ hu))
      · rw [List.mem_singleton.mp hu]
        exact nt hz
theorem rep_flat {α : Type} (x : α) : ∀ n : Nat, (List.replicate n [x]).flatten = List.replicate n x
  | 0 => rfl
  | n + 1 => by
    rw [List.replicate_succ, List.replicate_succ, List.flatten_cons, rep_flat x n]
    rfl
end
end K15

namespace K15
open PySem PySem.Spec PyProof.Rows L2 Qk
section
variable {P : Program} {w : World} {K : PySem.W.Frag} {mg : Str → Option Value} {base : Heap}
def spRef (K : PySem.W.Frag) : Sp := fun vs H Q _ => ∃ (p q b dx t : Addr) (ns : List Int) (st : Bool) (m n : Int), vs = [.ref p, .ref b, .int m] ∧ n ≤ 900000 ∧ PenAt H p q n ∧ BndT K H b dx t ns st ∧ ((ns.length : Nat) : Int) = m ∧ 1 ≤ m ∧ m ≤ 8 ∧ (∀ x ∈ ns, -(2 ^ 64) < x ∧ x < 2 ^ 64) ∧ LamX.Tabs (TTl K) H ∧
  ∀ H', ExtW p H H' → PenAt H' p q (n + 3) → LamX.Tabs (TTl K) H' → Q (.bl true) H'
theorem ok__law_refused_right (T : Txt P K mg) (TB : LamX.TabB base mg (cR K).1 (cR K).2) : FnR P w K mg base (L2.CX P w) 8 (He.ga K "_law_refused_right") (spRef K) := by
  obtain ⟨fd, F⟩ := T.d__law_refused_right
  have hb := F.bindsN (ps := ["pen", "bound", "many"]) fun _ _ _ _ _ _ us hl => match us, hl with | [_, _, _], _ => rfl
  obtain ⟨oc, od, dV, kV, doc, pm, an, cdv, ct, osl, rfl, lk, hcd, _, _⟩ := F.ex
  obtain ⟨c, rfl⟩ := He.codeIn_ref hcd
  have ec : (cR K).1 = c := He.codeOf_eq lk rfl
  rw [ec] at TB
  obtain ⟨fdH, FH⟩ := T.d__law_heard
  have bH := FH.bindsN (ps := ["call_so"]) fun _ _ _ _ _ _ us hl => match us, hl with | [_], _ => rfl
  obtain ⟨_, _, _, _, _, _, _, _, _, _, rfl, lkH, hcH, _, _⟩ := FH.ex
  obtain ⟨fdB, IB⟩ := init_b (P := P) (w := w) (base := base) T
  obtain ⟨gv1, kb1⟩ := IB.k1
  have hmT : ((cR K).2, qLam) ∈ TTl K := List.mem_singleton.mpr rfl
  have huT : ∀ r ∈ TTl K, r.1 = (cR K).2 → r.2 = qLam := fun r hr _ => by rw [List.mem_singleton.mp hr]
  have F1 : FnOk P w K mg base (L2.CX P w) 8 (He.ga K "_law_refused_right") _ ["pen", "bound", "many"] (spRef K) := fn_of lk hcd sc__law_refused_right (fun vs H Q E h => by obtain ⟨p, q, b, dx, t, ns, st, m, n, rfl, _⟩ := h; rfl) (fun A outer s H vs Q E hr h => by
    refine ⟨_, (pss_cons (ps_set (i := 3) sc__law_refused_right.nd rfl (Or.inr rfl) (pe_callR (ok__law_pick T) (hr.mono (by decide)) rfl T.g__law_pick T.k__law_pick px0 (pa_cons (pv 0) (pa_cons (pe_lst (pa_cons pe_non (pa_cons pe_int (pa_cons pe_str (pa_cons (pe_lst (pa_cons pe_int pa_nil)) (pa_cons (pe_tup (pa_cons pe_int (pa_cons pe_bl pa_nil))) (pa_cons (pe_tup (pa_cons pe_non pa_nil)) (pa_cons (pe_tup (pa_cons pe_str pa_nil)) (pa_cons pe_dnewK (pa_cons (pe_op op_repT (pe_tup (pa_cons pe_int pa_nil)) pe_int) (pa_cons (pe_tup (pa_cons (pe_tup (pa_cons pe_int pa_nil)) pa_nil)) pa_nil))))))))))) pa_nil)))) (pss_cons (ps_set (i := 4) sc__law_refused_right.nd rfl (Or.inr rfl) (pe_callR (ok__law_pick T) (hr.mono (by decide)) rfl T.g__law_pick T.k__law_pick px0 (pa_cons (pv 0) (pa_cons (pe_lst (pa_cons pe_non (pa_cons pe_int (pa_cons pe_str (pa_cons pe_dnewK (pa_cons (pe_lst (pa_cons pe_str pa_nil)) (pa_cons (pe_tup (pa_cons pe_non pa_nil)) (pa_cons (pe_lst (pa_cons pe_bl pa_nil)) (pa_cons (pe_op op_pow pe_int pe_int) pa_nil))))))))) pa_nil)))) (pss_cons (ps_set (i := 5) sc__law_refused_right.nd rfl (Or.inl rfl) (pe_lst (pa_cons (LamX.pe_lamcall (k := 5) (T := TTl K) rfl T.g__law_heard T.k__law_heard lkH hcH bH sc__law_heard rfl (Or.inl rfl) (heard_gives T) TB rfl hmT huT (hr.mono (by decide)) (LamX.lamS_by (sc := defScope s__law_refused_right) (by decide +kernel)) rfl (fun _ _ _ _ _ => rfl) (fun A outer s H E f c hr => (StX.pe_makeR T.mk_Bound IB.r3 (hr.mono (by decide)) rfl T.g_Bound (passes_call (takes_of rfl rfl rfl rfl) (fun _ _ _ _ h => h)) (pa_cons (pv 3) (pa_cons pe_str pa_nil))))) pa_nil))) (pss_cons (ps_expr (pe_bm PySem.F.plainAttrs_list PySem.F.slot_list_append PySem.F.type_list_append mt_append (pv 5) (pa_cons (LamX.pe_lamcall (k := 5) (T := TTl K) rfl T.g__law_heard T.k__law_heard lkH hcH bH sc__law_heard rfl (Or.inl rfl) (heard_gives T) TB rfl hmT huT (hr.mono (by decide)) (LamX.lamS_by (sc := defScope s__law_refused_right) (by decide +kernel)) rfl (fun _ _ _ _ _ => rfl) (fun A outer s H E f c hr => (pe_makeN T.mk_Bound IB.ok (hr.mono (by decide)) rfl T.g_Bound kb1 (passes_call (takes_of rfl rfl rfl rfl) (fun _ _ _ _ h => h)) (pa_cons (pe_tup (pa_cons pe_int (pa_cons pe_int pa_nil))) pa_nil) (pk_cons (pe_callR (ok__law_pick T) (hr.mono (by decide)) rfl T.g__law_pick T.k__law_pick px0 (pa_cons (pv 0) (pa_cons (pe_lst (pa_cons pe_non (pa_cons pe_int (pa_cons pe_int (pa_cons pe_str (pa_cons (pe_tup pa_nil) pa_nil)))))) pa_nil))) pk_nil)))) pa_nil))) (pss_cons (ps_expr (pe_bm PySem.F.plainAttrs_list PySem.F.slot_list_append PySem.F.type_list_append mt_append (pv 5) (pa_cons (LamX.pe_lamcall (k := 5) (T := TTl K) rfl T.g__law_heard T.k__law_heard lkH hcH bH sc__law_heard rfl (Or.inl rfl) (heard_gives T) TB rfl hmT huT (hr.mono (by decide)) (LamX.lamS_by (sc := defScope s__law_refused_right) (by decide +kernel)) rfl (fun _ _ _ _ _ => rfl) (fun A outer s H E f c hr => (pe_callI (pv 1) T.co_Bound (ok_Bound_call T) (hr.mono (by decide)) (fun σ => passAt (takes_of rfl rfl rfl rfl) σ) (pa_cons (pv 4) pa_nil)))) pa_nil))) (pss_cons (ps_expr (pe_bm PySem.F.plainAttrs_list PySem.F.slot_list_append PySem.F.type_list_append mt_append (pv 5) (pa_cons (LamX.pe_lamcall (k := 5) (T := TTl K) rfl T.g__law_heard T.k__law_heard lkH hcH bH sc__law_heard rfl (Or.inl rfl) (heard_gives T) TB rfl hmT huT (hr.mono (by decide)) (LamX.lamS_by (sc := defScope s__law_refused_right) (by decide +kernel)) rfl (fun _ _ _ _ _ => rfl) (fun A outer s H E f c hr => (pe_callI (pv 1) T.co_Bound (ok_Bound_call T) (hr.mono (by decide)) (fun σ => passAt (takes_of rfl rfl rfl rfl) σ) (pa_cons (pe_op op_rep (pe_lst (pa_cons pe_int pa_nil)) (pe_op op_add (pv 2) pe_int)) pa_nil)))) pa_nil))) (pss_cons (ps_expr (pe_bm PySem.F.plainAttrs_list PySem.F.slot_list_append PySem.F.type_list_append mt_append (pv 5) (pa_cons (LamX.pe_lamcall (k := 5) (T := TTl K) rfl T.g__law_heard T.k__law_heard lkH hcH bH sc__law_heard rfl (Or.inl rfl) (heard_gives T) TB rfl hmT huT (hr.mono (by decide)) (LamX.lamS_by (sc := defScope s__law_refused_right) (by decide +kernel)) rfl (fun _ _ _ _ _ => rfl) (fun A outer s H E f c hr => (pe_callI (pv 1) T.co_Bound (ok_Bound_call T) (hr.mono (by decide)) (fun σ => passAt (takes_of rfl rfl rfl rfl) σ) (pa_cons (pe_op (op_catK (K := K)) (pe_callTy (call_tupK (K := K)) rfl T.n_tuple (by decide +kernel) (pa_cons (pe_op op_rep (pe_lst (pa_cons pe_bl pa_nil)) (pv 2)) pa_nil)) (pe_tup (pa_cons pe_non pa_nil))) pa_nil)))) pa_nil))) (pss_one (ps_ret (pe_cmpR (op_eqD hr.units) (pv 5) (pe_op op_cat (pe_lst (pa_cons (pe_tup (pa_cons pe_str (pa_cons pe_str pa_nil))) (pa_cons (pe_tup (pa_cons pe_str (pa_cons pe_str pa_nil))) pa_nil))) (pe_op op_rep (pe_lst (pa_cons (pe_tup (pa_cons pe_str (pa_cons pe_str pa_nil))) pa_nil)) pe_int)) (nomark _))))))))))), ?_⟩
    obtain ⟨p, q, b, dx, t, ns, st, m, n, rfl, hn, hp, hB, hm, m1, m8, hsm, hT, k⟩ := h
    rw [show L2.start ["pen", "bound", "many", "odd", "bad", "heard"] [V.ref p, V.ref b, V.int m] = [some (.ref p), some (.ref b), some (.int m), none, none, none] from rfl]
    walk_at "rd"
    try walk_at "nm"
    intro a1 z1
    generalize hE1 : upd H a1 _ = H1
    obtain ⟨h1, e1⟩ := new_ok hE1 z1
    walk_at "rd"
    try walk_at "nm"
    intro a2 z2
    generalize hE2 : upd H1 a2 _ = H2
    obtain ⟨h2, e2⟩ := new_ok hE2 z2
    walk_at "rd"
    try walk_at "nm"
    intro a3 z3
    generalize hE3 : upd H2 a3 _ = H3
    obtain ⟨h3, e3⟩ := new_ok hE3 z3
    walk_at "rd"
    try walk_at "nm"
    intro a4 z4
    generalize hE4 : upd H3 a4 _ = H4
    obtain ⟨h4, e4⟩ := new_ok hE4 z4
    walk_at "rd"
    try walk_at "nm"
    intro a5 z5
    generalize hE5 : upd H4 a5 _ = H5
    obtain ⟨h5, e5⟩ := new_ok hE5 z5
    walk_at "rd"
    try walk_at "nm"
    intro a6 z6
    generalize hE6 : upd H5 a6 _ = H6
    obtain ⟨h6, e6⟩ := new_ok hE6 z6
    refine ⟨a6, 9, _, rfl, rfl, .of h6, by simp, by decide, by decide, by decide, ?_⟩
    walk_at "rd"
    try walk_at "nm"
    intro a7 z7
    generalize hE7 : upd H6 a7 _ = H7
    obtain ⟨h7, e7⟩ := new_ok hE7 z7
    walk_at "rd"
    try walk_at "nm"
    intro a8 z8
    generalize hE8 : upd H7 a8 _ = H8
    obtain ⟨h8, e8⟩ := new_ok hE8 z8
    walk_at "rd"
    try walk_at "nm"
    intro a9 z9
    generalize hE9 : upd H8 a9 _ = H9
    obtain ⟨h9, e9⟩ := new_ok hE9 z9
    walk_at "rd"
    try walk_at "nm"
    intro a10 z10
    generalize hE10 : upd H9 a10 _ = H10
    obtain ⟨h10, e10⟩ := new_ok hE10 z10
    walk_at "rd"
    try walk_at "nm"
    have S1 : Same H H10 := e1.trans (e2.trans (e3.trans (e4.trans (e5.trans (e6.trans (e7.trans (e8.trans (e9.trans e10))))))))
    have hp10 := hp.same S1
    have g1 := (e2.trans (e3.trans (e4.trans (e5.trans (e6.trans (e7.trans (e8.trans (e9.trans e10)))))))) _ _ h1
    have g2 := (e3.trans (e4.trans (e5.trans (e6.trans (e7.trans (e8.trans (e9.trans e10))))))) _ _ h2
    have g3 := (e4.trans (e5.trans (e6.trans (e7.trans (e8.trans (e9.trans e10)))))) _ _ h3
    have g4 := (e5.trans (e6.trans (e7.trans (e8.trans (e9.trans e10))))) _ _ h4
    have g5 := (e6.trans (e7.trans (e8.trans (e9.trans e10)))) _ _ h5
    have g7 := (e8.trans (e9.trans e10)) _ _ h7
    have g8 := (e9.trans e10) _ _ h8
    have g9 := e10 _ _ h9
    have odds : ∀ H', ExtW p H10 H' → ∀ x ∈ [V.non, .int 0, .str "1", .ref a1, .ref a2, .ref a3, .ref a4, .ref a5, .ref a7, .ref a9], NoForm K H' x := fun H' W => odd_ok (wk W hp10 g1) (wk W hp10 g2) (wk W hp10 g3) (wk W hp10 g4) (wk W hp10 g5) (wk W hp10 g7) (wk W hp10 g8) (wk W hp10 g9)
    have hT10 := hT.ext S1
    have B10 := hB.same S1
    have ne10 : a10 ≠ p := (pen_ne (((((((((hp.same e1).same e2).same e3).same e4).same e5).same e6).same e7).same e8).same e9) z10).1
    clear hE1 hE2 hE3 hE4 hE5 hE6 hE7 hE8 hE9 hE10 e1 e2 e3 e4 e5 e6 e7 e8 e9 e10 h1 h2 h3 h4 h5 h6 h7 h8 h9 g1 g2 g3 g4 g5 g7 g8 g9
    refine ⟨p, q, a10, _, n, rfl, ne10, h10, by simp, by simp, by omega, hp10, fun odd J0 hodd pJ0 f0 => ?_⟩
    have W0 : ExtW p H10 J0 := f0.weak
    have tJ0 := tabs_ext hT10 hp10.get f0
    have bJ0 := wkB W0 hp10 B10
    walk_at "rd"
    try walk_at "nm"
    intro d1 y1
    generalize hF1 : upd J0 d1 _ = J1
    obtain ⟨u1, v1⟩ := new_ok hF1 y1
    walk_at "rd"
    try walk_at "nm"
    intro d2 y2
    generalize hF2 : upd J1 d2 _ = J2
    obtain ⟨u2, v2⟩ := new_ok hF2 y2
    walk_at "rd"
    try walk_at "nm"
    intro d3 y3
    generalize hF3 : upd J2 d3 _ = J3
    obtain ⟨u3, v3⟩ := new_ok hF3 y3
    walk_at "rd"
    try walk_at "nm"
    intro d4 y4
    generalize hF4 : upd J3 d4 _ = J4
    obtain ⟨u4, v4⟩ := new_ok hF4 y4
    walk_at "rd"
    try walk_at "nm"
    intro d5 y5
    generalize hF5 : upd J4 d5 _ = J5
    obtain ⟨u5, v5⟩ := new_ok hF5 y5
    walk_at "rd"
    try walk_at "nm"
    have S2 : Same J0 J5 := v1.trans (v2.trans (v3.trans (v4.trans v5)))
    have pJ5 := pJ0.same S2
    have w1 := (v2.trans (v3.trans (v4.trans v5))) _ _ u1
    have w2 := (v3.trans (v4.trans v5)) _ _ u2
    have w3 := (v4.trans v5) _ _ u3
    have w4 := v5 _ _ u4
    have ne5 : d5 ≠ p := (pen_ne ((((pJ0.same v1).same v2).same v3).same v4) y5).1
    have tJ5 := tJ0.ext S2
    have bJ5 := bJ0.same S2
    have W2 : ExtW p H10 J5 := W0.trans ((ExtS.of S2).weak)
    clear hF1 hF2 hF3 hF4 hF5 v1 v2 v3 v4 v5 u1 u2 u3 u4
    refine ⟨p, q, d5, _, n + 1, rfl, ne5, u5, by simp, by simp, by omega, pJ5, fun badv L0 hbad pL0 f1 => ?_⟩
    have X0 : ExtW p J5 L0 := f1.weak
    have tL0 := tabs_ext tJ5 pJ5.get f1
    have bL0 := wkB X0 pJ5 bJ5
    have w1 := wk X0 pJ5 w1
    have w2 := wk X0 pJ5 w2
    have w3 := wk X0 pJ5 w3
    have w4 := wk X0 pJ5 w4
    have W3 := W2.trans X0
    try walk_at "nm"
    refine ⟨tL0, fun L1 x1 tL1 M1 Ech Qc em hE hQ => ?_⟩
    have X1 : ExtW p L0 M1 := (extW_of x1).trans ((ExtS.of em).weak)
    try walk_at "rd"
    try walk_at "nm"
    intro bx bd z1 z2 z3
    generalize hG : upd (upd M1 bd _) bx _ = M2
    obtain ⟨o1, s1⟩ := new2 z1 z2 z3 hG
    obtain ⟨o, to, ko, kno⟩ := odds M2 (W3.trans (X1.trans ((ExtS.of s1).weak))) odd hodd
    have nb : BoolQ K M2 (.str "odd") none := .no (.base (.str _)) (kit_ty (by decide +kernel))
    have ko2 : okForm o = true → False := fun h => by rw [ko] at h; cases h
    refine ⟨bx, bd, odd, .str "odd", o, none, rfl, o1, to, kno, nb, fun h => (ko2 h).elim, fun _ d H' e hd hx => ?_, fun h => (ko2 h).elim⟩
    refine hE d "form" H' hx fun z H'' e2 hz => ?_
    have E1 : Same M1 H'' := s1.trans (e.trans e2)
    have Y1 : ExtW p L0 H'' := X1.trans ((ExtS.of E1).weak)
    have pz := (penN pL0 x1).same (em.trans E1)
    have tz := tL1.ext (em.trans E1)
    try walk_at "nm"
    refine ⟨by decide, fun hl y6 => ?_⟩
    generalize hL : upd H'' hl _ = R1
    obtain ⟨l1, r1⟩ := new_ok hL y6
    have D1 : Hd K R1 p q hl (n + 1 + 1) [(z, "form")] b dx t ns st d1 d2 d3 d4 := ⟨pz.same r1, tz.ext r1, l1, fun u hu => by rw [List.mem_singleton.mp hu]; exact r1 _ _ hz, (wkB Y1 pL0 bL0).same r1, r1 _ _ (wk Y1 pL0 w1), r1 _ _ (wk Y1 pL0 w2), r1 _ _ (wk Y1 pL0 w3), r1 _ _ (wk Y1 pL0 w4)⟩
    have V1 : ExtW p H R1 := ((ExtS.of S1).weak).trans (W3.trans (Y1.trans ((ExtS.of r1).weak)))
    have V0 : ExtW p H H'' := ((ExtS.of S1).weak).trans (W3.trans Y1)
    have U : ∀ (R' : Hp) (x : HO), ExtW p H R' → ExtW p H (upd R' hl x) := fun R' x W a o na nt ha => by
      rw [upd_ne (fun e => by have h := V0 a o na nt ha; rw [e, y6] at h; cases h)]
      exact W a o na nt ha
    clear V0 hL l1 r1 hz e2 hx hd e hE hQ pz tz Y1 E1 nb ko2 kno ko to s1 o1 hG X1 em x1 tL1 W3 w1 w2 w3 w4 bL0 tL0 X0 f1 W2 bJ5 tJ5 ne5 pJ5 S2 bJ0 tJ0 W0 f0 pJ0 odds hT10 B10 hp10 ne10 h10 u5 S1
    try walk_at "rd"
    try walk_at "nm"
    clear y6 z1 z2 z3 w1 w2 w3 w4 y1 y2 y3 y4 y5 pL0 hp
    refine ⟨.inl ⟨rfl, _, .of D1.l⟩, D1.tab, fun L1 x1 tL1 M1 Ech Qc em hE hQ => ?_⟩
    have X1 : ExtW p R1 M1 := (extW_of x1).trans ((ExtS.of em).weak)
    have pM := (penN D1.pen x1).same em
    have tM := tL1.ext em
    try walk_at "rd"
    try walk_at "nm"
    intro g1 y1
    generalize hF1 : upd M1 g1 _ = N1
    obtain ⟨u1, v1⟩ := new_ok hF1 y1
    try walk_at "rd"
    try walk_at "nm"
    intro g2 y2
    generalize hF2 : upd N1 g2 _ = N2
    obtain ⟨u2, v2⟩ := new_ok hF2 y2
    try walk_at "rd"
    try walk_at "nm"
    intro g3 y3
    generalize hF3 : upd N2 g3 _ = N3
    obtain ⟨u3, v3⟩ := new_ok hF3 y3
    try walk_at "rd"
    try walk_at "nm"
    have S3 : Same M1 N3 := v1.trans (v2.trans v3)
    have pN3 := pM.same S3
    have ne3 : g3 ≠ p := (pen_ne ((pM.same v1).same v2) y3).1
    refine ⟨p, q, g3, _, n + 1 + 1, rfl, ne3, u3, by simp, by simp, by omega, pN3, fun sv K0 hsv pK0 f2 => ?_⟩
    have G1 := wk f2.weak pN3 ((v2.trans v3) _ _ u1)
    have G2 := wk f2.weak pN3 (v3 _ _ u2)
    have tK0 := tabs_ext (tM.ext S3) pN3.get f2
    have X2 : ExtW p R1 K0 := X1.trans (((ExtS.of S3).weak).trans f2.weak)
    clear hF1 hF2 hF3 u1 u2 u3 v1 v2 v3
    refine ⟨rfl, rfl, fun bx bd z1 z2 z3 => ?_⟩
    generalize hG : upd (upd K0 bd _) bx _ = M2
    obtain ⟨o1, s1⟩ := new2 z1 z2 z3 hG
    have nb : BoolQ K M2 sv none := nob_ok (s1 _ _ G2) sv hsv
    have okn : okForm (some [V.int 1, V.int 2]) = false → False := fun h => by cases h
    have nn : ∀ b : Bool, (none : Option Bool) = some b → False := fun b h => by cases h
    have kn2 : ∀ xs, some [V.int 1, V.int 2] = some xs → xs.length ≤ 100000 ∧ Knows K M2 xs := fun xs e => by cases e; exact ⟨by simp, knows_ints [1, 2]⟩
    refine ⟨bx, bd, .ref g1, sv, some [V.int 1, V.int 2], none, rfl, o1, .tup (s1 _ _ G1), kn2, nb, fun _ b hb => (nn b hb).elim, fun h => (okn h).elim, fun _ _ d H' e hd hx => ?_⟩
    refine hE d "strict" H' hx fun z2 H'' e2 hz => ?_
    have E1 : Same K0 H'' := s1.trans (e.trans e2)
    have D2 := D1.step (X2.trans ((ExtS.of E1).weak)) (pK0.same E1) (tK0.ext E1)
    have D3 := D2.app hz
    simp only [List.map_cons, List.map_nil, List.cons_append, List.nil_append] at D3
    have V2 : ExtW p H H'' := V1.trans (X2.trans ((ExtS.of E1).weak))
    refine ⟨hl, _, _, rfl, rfl, D2.l, by simp; decide, ?_⟩
    simp only [List.map_cons, List.map_nil, List.cons_append, List.nil_append]
    have V3 := U _ (.lst [.ref z, .ref z2]) V2
    clear V2 D2 E1 hz e2 hx hd kn2 nn okn nb s1 o1 hG X2 tK0 G1 G2 f2 hsv pN3 ne3 S3 tM pM X1 hE hQ em x1 tL1 y1 y2 y3 pK0 D1 V1
    revert D3 V3
    generalize upd H'' hl _ = R3
    intro D3 V3
    try walk_at "rd"
    try walk_at "nm"
    -- bound(bad)
    refine ⟨.inl ⟨rfl, _, .of D3.l⟩, D3.tab, fun L1 x1 tL1 M1 Ech Qc em hE hQ => ?_⟩
    have X1 : ExtW p R3 M1 := (extW_of x1).trans ((ExtS.of em).weak)
    have pM := (penN D3.pen x1).same em
    have tM := tL1.ext em
    have D4 := D3.step X1 pM tM
    obtain ⟨o, so, ko, kno⟩ := bad_ok (K := K) D4.d1 D4.d2 D4.d3 D4.d4 badv hbad
    have koF : ∀ ms : List Int, o = some (ms.map V.int) → ms.length = ns.length → False := fun ms e hl => by
      have h := ko ((ns.length : Nat) : Int)
      rw [e] at h
      simp [okSeq, hl] at h
      obtain ⟨y, _, hy⟩ := h
      cases hy
    try walk_at "rd"
    refine ⟨⟨_, _, D4.bnd.o⟩, b, dx, t, ns, st, badv, o, rfl, D4.bnd, by omega, hsm, so, kno, fun ms e hl => (koF ms e hl).elim, fun _ d H' e hd hx => ?_⟩
    refine hE d "numbers" H' hx fun z3 H'' e2 hz => ?_
    have E1 : Same M1 H'' := e.trans e2
    have D5 := D4.step ((ExtS.of E1).weak) (pM.same E1) (tM.ext E1)
    have D6 := D5.app hz
    simp only [List.map_cons, List.map_nil, List.cons_append, List.nil_append] at D6
    have V4 := U _ (.lst [.ref z, .ref z2, .ref z3]) (V3.trans (X1.trans ((ExtS.of E1).weak)))
    refine ⟨hl, _, _, rfl, rfl, D5.l, by simp; decide, ?_⟩
    simp only [List.map_cons, List.map_nil, List.cons_append, List.nil_append]
    clear D5 E1 hz e2 hx hd koF kno ko so D4 tM pM X1 hE hQ em x1 tL1 D3 V3
    revert D6 V4
    generalize upd H'' hl _ = R4
    intro D6 V4
    try walk_at "rd"
    try walk_at "nm"
    -- bound([1] * (many + 1))
    refine ⟨.inl ⟨rfl, _, .of D6.l⟩, D6.tab, fun L1 x1 tL1 M1 Ech Qc em hE hQ => ?_⟩
    have X1 : ExtW p R4 M1 := (extW_of x1).trans ((ExtS.of em).weak)
    have pM := (penN D6.pen x1).same em
    have tM := tL1.ext em
    have D7 := D6.step X1 pM tM
    try walk_at "rd"
    try walk_at "nm"
    intro g1 y1
    generalize hF1 : upd M1 g1 _ = N1
    obtain ⟨u1, v1⟩ := new_ok hF1 y1
    try walk_at "rd"
    try walk_at "nm"
    refine ⟨g1, m + 1, _, rfl, rfl, u1, by omega, by omega, ?_, fun g2 y2 => ?_⟩
    · have : (m + 1).toNat ≤ 9 := by omega
      exact Nat.le_of_lt (small_le (by simp; omega))
    generalize hF2 : upd N1 g2 _ = N2
    obtain ⟨u2, v2⟩ := new_ok hF2 y2
    have S4 : Same M1 N2 := v1.trans v2
    have lenR : (List.replicate (m + 1).toNat [V.int 1]).flatten = (List.replicate (m + 1).toNat (1 : Int)).map V.int := by rw [rep_flat, List.map_replicate]
    rw [lenR] at u2
    have ko : okSeq (some ((List.replicate (m + 1).toNat (1 : Int)).map V.int)) ((ns.length : Nat) : Int) = false := by
      have : ¬ (((((List.replicate (m + 1).toNat (1 : Int)).map V.int).length : Nat) : Int) = ((ns.length : Nat) : Int)) := by rw [List.length_map, List.length_replicate]; omega
      simp only [okSeq, decide_eq_false this, Bool.false_and]
    have kn : ∀ xs, some ((List.replicate (m + 1).toNat (1 : Int)).map V.int) = some xs → xs.length ≤ 100000 ∧ Knows K N2 xs := fun xs e => by
      cases e
      exact ⟨by simp; omega, knows_ints _⟩
    have koF : ∀ ms : List Int, some ((List.replicate (m + 1).toNat (1 : Int)).map V.int) = some (ms.map V.int) → ms.length = ns.length → False := fun ms e hl => by
      have h := congrArg List.length (Option.some.inj e)
      simp at h
      omega
    have B8 := D7.bnd.same S4
    refine ⟨⟨_, _, B8.o⟩, b, dx, t, ns, st, .ref g2, _, rfl, B8, by omega, hsm, .lst u2, kn, fun ms e hl => (koF ms e hl).elim, fun _ d H' e hd hx => ?_⟩
    refine hE d "numbers" H' hx fun z4 H'' e2 hz => ?_
    have E1 : Same M1 H'' := S4.trans (e.trans e2)
    have D8 := D7.step ((ExtS.of E1).weak) (pM.same E1) (tM.ext E1)
    have D9 := D8.app hz
    simp only [List.map_cons, List.map_nil, List.cons_append, List.nil_append] at D9
    have V5 := U _ (.lst [.ref z, .ref z2, .ref z3, .ref z4]) (V4.trans (X1.trans ((ExtS.of E1).weak)))
    refine ⟨hl, _, _, rfl, rfl, D8.l, by simp; decide, ?_⟩
    simp only [List.map_cons, List.map_nil, List.cons_append, List.nil_append]
    clear D8 E1 hz e2 hx hd B8 koF kn ko lenR S4 u2 v2 hF2 y2 u1 v1 hF1 y1 D7 tM pM X1 hE hQ em x1 tL1 D6 V4
    revert D9 V5
    generalize upd H'' hl _ = R5
    intro D9 V5
    try walk_at "rd"
    try walk_at "nm"
    -- bound(tuple([True] * many) + (None,))
    refine ⟨.inl ⟨rfl, _, .of D9.l⟩, D9.tab, fun L1 x1 tL1 M1 Ech Qc em hE hQ => ?_⟩
    have X1 : ExtW p R5 M1 := (extW_of x1).trans ((ExtS.of em).weak)
    have pM := (penN D9.pen x1).same em
    have tM := tL1.ext em
    have D10 := D9.step X1 pM tM
    try walk_at "rd"
    try walk_at "nm"
    intro g1 y1
    generalize hF1 : upd M1 g1 _ = N1
    obtain ⟨u1, v1⟩ := new_ok hF1 y1
    try walk_at "rd"
    try walk_at "nm"
    refine ⟨g1, m, _, rfl, rfl, u1, by omega, by omega, ?_, fun g2 y2 => ?_⟩
    · have : m.toNat ≤ 8 := by omega
      exact Nat.le_of_lt (small_le (by simp; omega))
    generalize hF2 : upd N1 g2 _ = N2
    obtain ⟨u2, v2⟩ := new_ok hF2 y2
    rw [rep_flat] at u2
    try walk_at "rd"
    try walk_at "nm"
    refine ⟨g2, _, rfl, .inl ⟨.of u2, fun g3 y3 => ?_⟩⟩
    generalize hF3 : upd N2 g3 _ = N3
    obtain ⟨u3, v3⟩ := new_ok hF3 y3
    try walk_at "rd"
    try walk_at "nm"
    intro g4 y4
    generalize hF4 : upd N3 g4 _ = N4
    obtain ⟨u4, v4⟩ := new_ok hF4 y4
    try walk_at "rd"
    try walk_at "nm"
    have ne1 : List.replicate m.toNat (V.bl true) ≠ [] := by
      have : m.toNat ≠ 0 := by omega
      simp [this]
    refine ⟨g3, g4, _, _, rfl, rfl, .of (v4 _ _ u3), .of u4, ?_, (fun e => (ne1 e).elim), (fun _ e => by cases e), fun _ _ g5 y5 => ?_⟩
    · have : m.toNat ≤ 8 := by omega
      exact Nat.le_of_lt (small_le (by simp; omega))
    generalize hF5 : upd N4 g5 _ = N5
    obtain ⟨u5, v5⟩ := new_ok hF5 y5
    have S4 : Same M1 N5 := v1.trans (v2.trans (v3.trans (v4.trans v5)))
    have hlen : (List.replicate m.toNat (V.bl true) ++ [V.non]).length = m.toNat + 1 := by simp
    have ko : okSeq (some (List.replicate m.toNat (V.bl true) ++ [V.non])) ((ns.length : Nat) : Int) = false := by
      have : ¬ ((((List.replicate m.toNat (V.bl true) ++ [V.non]).length : Nat) : Int) = ((ns.length : Nat) : Int)) := by rw [hlen]; omega
      simp only [okSeq, decide_eq_false this, Bool.false_and]
    have kn : ∀ xs, some (List.replicate m.toNat (V.bl true) ++ [V.non]) = some xs → xs.length ≤ 100000 ∧ Knows K N5 xs := fun xs e => by
      cases e
      refine ⟨by rw [hlen]; omega, fun v hv => ?_⟩
      rcases List.mem_append.mp hv with hv | hv
      · rw [List.eq_of_mem_replicate hv]
        exact intQ_bl true
      · rw [List.mem_singleton.mp hv]
        exact intQ_non
    have koF : ∀ ms : List Int, some (List.replicate m.toNat (V.bl true) ++ [V.non]) = some (ms.map V.int) → ms.length = ns.length → False := fun ms e hl => by
      have h := congrArg List.length (Option.some.inj e)
      rw [hlen, List.length_map] at h
      omega
    have B8 := D10.bnd.same S4
    refine ⟨⟨_, _, B8.o⟩, b, dx, t, ns, st, .ref g5, _, rfl, B8, by omega, hsm, .tup u5, kn, fun ms e hl => (koF ms e hl).elim, fun _ d H' e hd hx => ?_⟩
    refine hE d "numbers" H' hx fun z5 H'' e2 hz => ?_
    have E1 : Same M1 H'' := S4.trans (e.trans e2)
    have D11 := D10.step ((ExtS.of E1).weak) (pM.same E1) (tM.ext E1)
    have D12 := D11.app hz
    simp only [List.map_cons, List.map_nil, List.cons_append, List.nil_append] at D12
    have V6 := U _ (.lst [.ref z, .ref z2, .ref z3, .ref z4, .ref z5]) (V5.trans (X1.trans ((ExtS.of E1).weak)))
    refine ⟨hl, _, _, rfl, rfl, D11.l, by simp; decide, ?_⟩
    simp only [List.map_cons, List.map_nil, List.cons_append, List.nil_append]
    clear D11 E1 hz e2 hx hd B8 koF kn ko hlen S4 u5 v5 hF5 y5 ne1 u4 v4 hF4 y4 u3 v3 hF3 y3 u2 v2 hF2 y2 u1 v1 hF1 y1 D10 tM pM X1 hE hQ em x1 tL1 D9 V5
    revert D12 V6
    generalize upd H'' hl _ = R6
    intro D12 V6
    try walk_at "rd"
    try walk_at "nm"
    -- the due list
    intro g1 y1
    generalize hF1 : upd R6 g1 _ = N1
    obtain ⟨u1, v1⟩ := new_ok hF1 y1
    try walk_at "rd"
    try walk_at "nm"
    intro g2 y2
    generalize hF2 : upd N1 g2 _ = N2
    obtain ⟨u2, v2⟩ := new_ok hF2 y2
    try walk_at "rd"
    try walk_at "nm"
    intro g3 y3
    generalize hF3 : upd N2 g3 _ = N3
    obtain ⟨u3, v3⟩ := new_ok hF3 y3
    try walk_at "rd"
    try walk_at "nm"
    intro g4 y4
    generalize hF4 : upd N3 g4 _ = N4
    obtain ⟨u4, v4⟩ := new_ok hF4 y4
    try walk_at "rd"
    try walk_at "nm"
    intro g5 y5
    generalize hF5 : upd N4 g5 _ = N5
    obtain ⟨u5, v5⟩ := new_ok hF5 y5
    try walk_at "rd"
    try walk_at "nm"
    refine ⟨g5, 3, _, rfl, rfl, u5, by decide, by decide, (by show (3 : Nat) ≤ sizeLine; decide), fun g6 y6 => ?_⟩
    generalize hF6 : upd N5 g6 _ = N6
    obtain ⟨u6, v6⟩ := new_ok hF6 y6
    rw [rep_flat] at u6
    refine ⟨g3, g6, _, _, rfl, rfl, (v4.trans (v5.trans v6)) _ _ u3, u6, (by rw [List.length_replicate]; show 2 + 3 ≤ sizeLine; decide), fun g7 y7 => ?_⟩
    generalize hF7 : upd N6 g7 _ = N7
    obtain ⟨u7, v7⟩ := new_ok hF7 y7
    have S4 : Same R6 N7 := v1.trans (v2.trans (v3.trans (v4.trans (v5.trans (v6.trans v7)))))
    have z_ : ∀ {a : Addr} {s : Str}, (a, s) ∈ [(z, ("form" : Str)), (z2, "strict"), (z3, "numbers"), (z4, "numbers"), (z5, "numbers")] → Dp K N7 (.ref a) (.tuple [.str "form", .str s]) := fun h => .tup (.of (S4 _ _ (D12.z _ h))) (.cons (.str _) (.cons (.str _) .nil))
    have w1 : Dp K N7 (.ref g1) (.tuple [.str "form", .str "form"]) := .tup (.of ((v2.trans (v3.trans (v4.trans (v5.trans (v6.trans v7))))) _ _ u1)) (.cons (.str _) (.cons (.str _) .nil))
    have w2 : Dp K N7 (.ref g2) (.tuple [.str "form", .str "strict"]) := .tup (.of ((v3.trans (v4.trans (v5.trans (v6.trans v7)))) _ _ u2)) (.cons (.str _) (.cons (.str _) .nil))
    have w4 : Dp K N7 (.ref g4) (.tuple [.str "form", .str "numbers"]) := .tup (.of ((v5.trans (v6.trans v7)) _ _ u4)) (.cons (.str _) (.cons (.str _) .nil))
    have dl : Dp K N7 (.ref hl) (.list [.tuple [.str "form", .str "form"], .tuple [.str "form", .str "strict"], .tuple [.str "form", .str "numbers"], .tuple [.str "form", .str "numbers"], .tuple [.str "form", .str "numbers"]]) :=
      .lst (.of (S4 _ _ D12.l)) (.cons (z_ (by simp)) (.cons (z_ (by simp)) (.cons (z_ (by simp)) (.cons (z_ (by simp)) (.cons (z_ (by simp)) .nil)))))
    have dr : Dp K N7 (.ref g7) (.list [.tuple [.str "form", .str "form"], .tuple [.str "form", .str "strict"], .tuple [.str "form", .str "numbers"], .tuple [.str "form", .str "numbers"], .tuple [.str "form", .str "numbers"]]) :=
      .lst (.of u7) (.cons w1 (.cons w2 (.cons w4 (.cons w4 (.cons w4 .nil)))))
    have sh : SeqAt.shaped (.list [.tuple [.str "form", .str "form"], .tuple [.str "form", .str "strict"], .tuple [.str "form", .str "numbers"], .tuple [.str "form", .str "numbers"], .tuple [.str "form", .str "numbers"]]) = true := by decide +kernel
    have ev : PyData.eqv (.list [.tuple [.str "form", .str "form"], .tuple [.str "form", .str "strict"], .tuple [.str "form", .str "numbers"], .tuple [.str "form", .str "numbers"], .tuple [.str "form", .str "numbers"]]) (.list [.tuple [.str "form", .str "form"], .tuple [.str "form", .str "strict"], .tuple [.str "form", .str "numbers"], .tuple [.str "form", .str "numbers"], .tuple [.str "form", .str "numbers"]]) = true := by decide +kernel
    refine ⟨_, _, dl, dr, sh, sh, ?_⟩
    rw [ev]
    exact k N7 (V6.trans ((ExtS.of S4).weak)) ((D12.pen.same S4).mono (by omega)) (D12.tab.ext S4))
  refine (F1.raw hb .nil).imp fun vs H Q E h => ?_
  rw [List.append_nil]
  exact h
end
end K15

/-! ## Q6. a tuple so many times, nought and once too -/
namespace Qk
open PySem PySem.Spec PyProof.Rows L2
theorem tup_once (l : Addr) (items : Array Value) (n : Nat) (dd : Option Addr) (sl : Array (Option Value)) (u : Tok) :
    Meets (Builtin.«tuple.__mul__» ⟨[.ref l, .int 1 u], []⟩) (fun _ R s => s.heap.get? l = some { cls := .type "tuple", dict := dd, data := .seq items n, slots := sl } ∧ R (.ok (.ret (.ref l))) s) :=
  .of_wp fun prog w A R s h => by
    obtain ⟨hp, g, d, tk, os⟩ := s
    obtain ⟨hl, h⟩ := h
    have f1 := AutoSeq1.idx_int
    wp_walk using wpAny_loadPart' hl
    repeat (first
      | (refine wpAny_ite_true (decide_eq_true (by simp)) ?_; wp_walk using wpAny_loadPart' hl)
      | (refine wpAny_ite_false (decide_eq_false (by decide)) ?_; wp_walk using wpAny_loadPart' hl))
    exact ⟨_, rfl, h⟩
theorem tup_nought (l : Addr) (items : Array Value) (n : Nat) (dd : Option Addr) (sl : Array (Option Value)) (u : Tok) (he : items.isEmpty = false) :
    Meets (Builtin.«tuple.__mul__» ⟨[.ref l, .int 0 u], []⟩) (fun _ R s => s.heap.get? l = some { cls := .type "tuple", dict := dd, data := .seq items n, slots := sl } ∧
      R (.ok (.ret (Value.ref s.heap.objs.size))) { s with heap := s.heap.push { cls := Value.type "tuple", data := Data.seq #[] }, toks := s.toks }) :=
  .of_wp fun prog w A R s h => by
    obtain ⟨hp, g, d, tk, os⟩ := s
    obtain ⟨hl, h⟩ := h
    have f1 := AutoSeq1.idx_int
    wp_walk using wpAny_loadPart' hl
    repeat (first
      | (refine wpAny_ite_false (decide_eq_false (by decide)) ?_; wp_walk using wpAny_loadPart' hl)
      | (refine wpAny_ite_false (decide_eq_false (by rw [he]; decide)) ?_; wp_walk using wpAny_loadPart' hl)
      | (refine wpAny_ite_true (decide_eq_true (by rw [he]; decide)) ?_; wp_walk using wpAny_loadPart' hl))
    exact ⟨_, rfl, h⟩
def rRepU (K : PySem.W.Frag) : R2 := fun x y H Q => ∃ (l : Addr) (k : Int) (xs : List V), x = .ref l ∧ y = .int k ∧ SqT K H l xs ∧ xs ≠ [] ∧ 0 ≤ k ∧ k ≤ 1000 ∧ xs.length ≤ 1000 ∧ ∀ p H', Same H H' → SqT K H' p (List.replicate k.toNat xs).flatten → Q (.ref p) H'
theorem op_repU {X : Cx} : OpR X (binaryOp .Mult) (rRepU X.K) := by
  rintro pins s σ H x y v u Q I rx ry ⟨l, k, xs, rfl, rfl, hT, hne, h0, h2, hz, q⟩
  by_cases hk : 2 ≤ k
  · refine op_repT pins s σ H _ _ v u Q I rx ry ⟨l, k, xs, rfl, rfl, hT, hne, hk, h2, hz, fun p hp => ?_⟩
    exact q p _ (same_new hp) (.of upd_same)
  · cases rx
    obtain ⟨t, rfl⟩ := ry
    obtain ⟨its, r, ⟨⟨cls, dd, data, sl⟩, ho, hc, n, hd⟩, hs⟩ := I.tuple hT
    simp only at hc hd
    subst hc hd
    have hi : its.toArray.isEmpty = false := by
      cases its with
      | nil =>
        have e := r.length
        exact absurd (List.eq_nil_of_length_eq_zero e) hne
      | cons a b => rfl
    rcases (show k = 0 ∨ k = 1 by omega) with rfl | rfl
    · refine wpAny_binaryOp_repeat_ref (T := "tuple") (U := "int") (by decide) ⟨_, ho, rfl⟩ (fun s' => typeIs_int s' 0 t) noFill_tuple_mul F.fills_int_mul F.slot_int_rmul repeat_tuple F.slot_int_index.lookup
        (call_meets F.slot_int_rmul (typeIs_int s 0 t) F.entry_int_rmul (F.args_int_rmul_2 _ _) (int_rmul_tuple 0 t l its.toArray n dd sl)
          ⟨ho, rfl, ⟨_, ho, rfl⟩, call_meets F.slot_tuple_mul ⟨_, ho, rfl⟩ F.entry_tuple_mul (F.args_tuple_mul_2 _ _) (tup_nought l its.toArray n dd sl t hi) ⟨ho, ?_⟩⟩)
      refine ⟨.ref s.heap.objs.size, _, I.laid (t' := s.toks) (o := .tup []) (fun b ob q => Heap.get?_push_of_some _ q) (Nat.le_refl _) ⟨by show 0 ≤ sizeLine; decide, _, .nil, IsTup.new _ _⟩, rfl, q _ _ (same_new (I.hok.fresh (Nat.le_refl _))) (.of upd_same)⟩
    · refine wpAny_binaryOp_repeat_ref (T := "tuple") (U := "int") (by decide) ⟨_, ho, rfl⟩ (fun s' => typeIs_int s' 1 t) noFill_tuple_mul F.fills_int_mul F.slot_int_rmul repeat_tuple F.slot_int_index.lookup
        (call_meets F.slot_int_rmul (typeIs_int s 1 t) F.entry_int_rmul (F.args_int_rmul_2 _ _) (int_rmul_tuple 1 t l its.toArray n dd sl)
          ⟨ho, rfl, ⟨_, ho, rfl⟩, call_meets F.slot_tuple_mul ⟨_, ho, rfl⟩ F.entry_tuple_mul (F.args_tuple_mul_2 _ _) (tup_once l its.toArray n dd sl t) ⟨ho, ?_⟩⟩)
      exact ⟨.ref l, H, I, rfl, q _ _ (Same.refl H) (by simpa using hT)⟩
end Qk

/-! ## Q7. classmethods within a try and by keyword, an instance made by a class in a slot, a text sign by sign -/
namespace Qk
open PySem PySem.Spec PyProof.Rows L2
section
variable {X : Cx} {CX : CXT} {k : Nat} {C f p g : Addr} {mc : Value} {sp : Sp} {o e fe : Expr} {es : List Expr} {m : Str} {pos apos : Pos} {ta tf : TE} {t tk : TA} {pl : Sem Bool} {E : L2.St → XK} {kws : List Keyword} {ks ps : List Str} {fd : FuncData} {gv : List Value → List Value → List Value} {gV : List V → List V → List V}
theorem run_cmS {pins : List (Addr × Obj)} {σ : L2.St} {H : Hp} {s : Shared} {q : Addr} {Q : VK} {us : List Value} {vs : List V} (F : FnR X.prog X.w X.K X.mg X.base CX k g sp) (hr : Room k X.A) (hx : PassesAt CX X σ (E σ)) (I : Inv X ((q, PySem.W.methodObj (.ref g) (.ref C)) :: pins) σ H s)
    (r : Vals vs us) (h : sp (.ref C :: vs) H Q (E σ)) : wpAny (model X.prog X.w) X.A (call (.ref q) us) (EP X pins σ Q) X.xe s := by
  have z : wpAny (model X.prog X.w) X.A (call (.ref q) us) (EP X ((q, PySem.W.methodObj (.ref g) (.ref C)) :: pins) σ Q) X.xe s := by
    refine wpAny_call (PySem.W.method_call (ClX.pin_at I) (codeAny_mono (F X.A X.stack s H (.ref C :: us) (.ref C :: vs) Q (E σ) hr I.env0 (.cons rfl r) h) fun r s' hq => ?_))
    match r, hq with
    | .error e, hq => exact hx _ H s e s' I hq
    | .ok (.ret u), hq => exact I.after hq
  exact thn z fun _ _ y => ClX.unpinE y
/-- C.m(e, ..), m a classmethod; what is raised is wished for at the slots -/
theorem pe_cmethS (he : PE X o ta) (r : ClX.CRead X.K C mc) (c : ClX.CMet X.K C mc m p g) (F : FnR X.prog X.w X.K X.mg X.base CX k g sp) (hr : Room k X.A) (hx : ∀ σ, PassesAt CX X σ (E σ)) (ha : PA X (e :: es) t)
    (hst : starEach (e :: es) X.env = (false, eval e X.env) :: starEach es X.env := by rfl) (hpl : (backTo pos (starEach es X.env)).any (·.1) = false := by rfl)
    (ht : eval (.Call (.Attribute o m apos) (e :: es) [] pos) X.env = (do
      let ov ← eval o X.env
      standAt apos.atName
      let (f, first) ← holding [ov] (getMethod ov m pl)
      callWith pos f first (backTo pos (starEach (e :: es) X.env)) (backToKw pos (keywordEach [] X.env))) := by rfl) :
    PE X (.Call (.Attribute o m apos) (e :: es) [] pos) (fun σ H Q => ta σ H fun x H1 => x = .ref C ∧ t σ H1 fun vs H2 => sp (.ref C :: vs) H2 Q (E σ)) := by
  refine ⟨fun pins s σ H Q I h => ?_⟩
  refine PySem.W.methodCall_KW (pl := pl) (thn (he.run pins s σ H _ I h) fun u s1 ⟨x, H1, I1, rx, ex, q⟩ => ?_) ht
  subst ex
  obtain rfl : u = Value.ref C := rx
  refine ClX.getmethcm_ok I1 r c fun s2 I2 => ?_
  refine ClX.callwith_cm I2 (ClX.base_none I1 (Nat.le_refl _)) c.fi (thn (ha.run pos _ s2 σ H1 _ I2 q) fun us s3 ⟨vs, H2, I3, rv, q2⟩ => ⟨⟨ClX.pin_at I3, I3.kIn⟩, ?_⟩) hst hpl
  exact run_cmS F hr (hx σ) I3 rv q2
/-- C.m(k = v, ..) -/
theorem pe_cmethK (he : PE X o ta) (r : ClX.CRead X.K C mc) (c : ClX.CMet X.K C mc m p g) (F : FnOk X.prog X.w X.K X.mg X.base CX k g fd ps sp) (hr : Room k X.A) (hb : KBn X.K fd ps 1 ks gv gV) (hx : ∀ σ, PassesAt CX X σ (E σ)) (hkw : PK X kws tk)
    (hall : (backToKw pos (keywordEach kws X.env)).all (·.1.isSome) = true := by rfl) (hks : (backToKw pos (keywordEach kws X.env)).filterMap (·.1) = ks := by rfl)
    (hpl : ((backTo pos (starEach [] X.env)).any (·.1) || (backToKw pos (keywordEach kws X.env)).any (·.1.isNone)) = false := by rfl)
    (ht : eval (.Call (.Attribute o m apos) [] kws pos) X.env = (do
      let ov ← eval o X.env
      standAt apos.atName
      let (f, first) ← holding [ov] (getMethod ov m pl)
      callWith pos f first (backTo pos (starEach [] X.env)) (backToKw pos (keywordEach kws X.env))) := by rfl) :
    PE X (.Call (.Attribute o m apos) [] kws pos) (fun σ H Q => ta σ H fun x H1 => x = .ref C ∧ tk σ H1 fun zs H2 => zs.length = ks.length ∧ sp (gV [V.ref C] zs) H2 Q (E σ)) := by
  refine ⟨fun pins s σ H Q I h => ?_⟩
  refine PySem.W.methodCall_KW (pl := pl) (thn (he.run pins s σ H _ I h) fun u s1 ⟨x, H1, I1, rx, ex, q⟩ => ?_) ht
  subst ex
  obtain rfl : u = Value.ref C := rx
  refine ClX.getmethcm_ok I1 r c fun s2 I2 => ?_
  show wpAny _ _ (callWith pos (.ref _) [] _ _) _ _ _
  refine PySem.W.callWith_of (P := PySem.W.MethP X.K s1.heap.objs.size g (.ref C)) hpl (PySem.W.keeps_M c.fi) (PyProof.Rows.evalArgs_kw2_nil hall (thn (hkw.run pos _ s2 σ H1 _ I2 q) ?_))
  rintro ws s3 ⟨zs, H2, I3, rz, hl, q2⟩
  refine ⟨⟨ClX.pin_at I3, I3.kIn⟩, ?_⟩
  rw [hks]
  have z : wpAny (model X.prog X.w) X.A (call (.ref s1.heap.objs.size) [] (ks.zip ws)) (EP X ((s1.heap.objs.size, PySem.W.methodObj (.ref g) (.ref C)) :: pins) σ Q) X.xe s3 := by
    refine wpAny_call (PySem.W.method_call (ClX.pin_at I3) (codeAny_mono (F.run X.A X.stack s3 H2 ⟨[.ref C], ks.zip ws⟩ (gv [.ref C] ws) (gV [.ref C] zs) Q (E σ) hr I3.env0 (hb.to _ [.ref C] ws I3.kIn rfl (rz.length.symm.trans hl)) (hb.rel (.cons rfl .nil) rz) q2) fun r s' hq => ?_))
    match r, hq with
    | .error e, hq => exact hx σ _ H2 s3 e s' I3 hq
    | .ok (.ret u), hq => exact I3.after hq
  exact thn z fun _ _ y => ClX.unpinE y
/-- c(e, ..), c a slot that holds the class at C -/
theorem pe_makeL {E : XK} (M : Mk X.K C f) (F : FnR X.prog X.w X.K X.mg X.base CX k f sp) (hr : Room (k + 1) X.A) (hf : PE X fe tf) (hx : Passes CX X E) (ha : PA X (e :: es) t)
    (ht : eval (.Call fe (e :: es) [] pos) X.env = (do callWith pos (← eval fe X.env) [] (backTo pos (starEach (e :: es) X.env)) (backToKw pos (keywordEach [] X.env))) := by rfl)
    (he : starEach (e :: es) X.env = (false, eval e X.env) :: starEach es X.env := by rfl) (hpl : (backTo pos (starEach es X.env)).any (·.1) = false := by rfl) :
    PE X (.Call fe (e :: es) [] pos) (fun σ H Q => tf σ H fun y H1 => y = .ref C ∧ StX.tMakeR C sp E t σ H1 Q) := by
  refine ⟨fun pins s σ H Q I h => Call_ (thn (hf.run pins s σ H _ I h) ?_) ht⟩
  rintro u s1 ⟨y, H1, I1, ry, rfl, q⟩
  cases ry
  refine PySem.W.callWith_K (h₀ := X.base) I1.ok.mod.kin M.kp (thn (ha.run pos pins s1 σ H1 _ I1 q) ?_) he hpl
  rintro us s2 ⟨vs, H2, I2, r, q2⟩
  exact ⟨I2.kIn, StX.run_makeR M F hr hx I2 r q2⟩
end
/-- a comprehension over a text's signs -/
theorem lc_signs {z : Str} {g : TG} {tt : TT} {te : TE} {vs : List Nat} {σ : L2.St} {H1 : Hp} {Q : VK} {tl : TE} (ha : ∀ Q' : VK, Q' (.str z) H1 → tl σ H1 Q') (f : Nat → V) (hl : z.length ≤ 100000)
    (turn : ∀ c ∈ z.cps.toList, ∀ H, Same H1 H → ∀ (A : V → Hp → Prop) (B : Hp → Prop), (∀ H', Same H H' → A (f c) H') →
      g (.str ⟨#[c]⟩) (wipe σ vs) H fun σ2 H2 => wipe σ2 vs = wipe σ vs ∧ tt σ2 H2 fun b H3 => if b = true then te σ2 H3 A else B H3)
    (hd : ∀ D H', H1 D = none → H' D = some (.lst (z.cps.toList.map f)) → Same H1 H' → Q (.ref D) H') :
    tLc (iStr tl) g tt te vs σ H1 Q := by
  refine ha _ ⟨z, rfl, fun D hD => ?_⟩
  have hz : z.cps.size = z.cps.toList.length := by simp
  have hl' : z.cps.toList.length ≤ 100000 := by rw [← hz]; exact hl
  refine lc_it walk_str (fun i H => H D = some (.lst ((z.cps.toList.take i).map f)) ∧ Same H1 H) ⟨by rw [List.take_zero]; exact upd_same, same_new hD⟩ (fun _ _ _ _ => True.intro) (fun i x H H' hi p y => ?_) (fun H p => ?_)
  · obtain ⟨rfl, c, hc, rfl⟩ := y
    obtain ⟨p1, p2⟩ := p
    have hc' : z.cps.toList[i]? = some c := by rw [← hc]; exact Array.getElem?_toList
    have len : ((z.cps.toList.take i).map f).length < sizeLine := small_le (by rw [List.length_map, List.length_take]; omega)
    refine turn c (List.mem_of_getElem? hc') _ p2 _ _ fun H3 e3 => ?_
    refine ⟨_, e3 _ _ p1, len, ?_, fun b u hb => ?_⟩
    · rw [upd_same, List.take_add_one, hc', List.map_append]
      rfl
    · rw [upd_ne (ne_of_none hb hD)]
      exact e3 _ _ (p2 _ _ hb)
  · obtain ⟨p1, p2⟩ := p
    refine hd D H hD ?_ p2
    rw [hz, List.take_length] at p1
    exact p1
/-- text * number -/
theorem op_mulTxt {X : Cx} : OpR X (binaryOp .Mult) (fun x y H Q => ∃ (z : Str) (n : Int), x = .str z ∧ y = .int n ∧ z.length ≤ 16 ∧ 0 ≤ n ∧ n ≤ 100000 ∧ Q (.str (Txt.mul z n)) H) := by
  rintro pins s σ H x y v u Q I rx ry ⟨z, n, rfl, rfl, h1, h2, h3, q⟩
  obtain ⟨t, rfl⟩ := rx
  obtain ⟨t', rfl⟩ := ry
  exact SB.mul (mulOk_of 16 1048576 h1 (by omega) (by omega) (by decide) (by decide)) fun t2 k => ⟨.str _, H, I.tok k, ⟨t2, rfl⟩, q⟩
end Qk

namespace K15
open PySem PySem.Spec PyProof.Rows L2 Qk
section
variable {K : PySem.W.Frag} {H : Hp}
/-- a right Bound made -/
theorem init_ok {x dx t : Addr} {fs : List Int} {st : Bool} {Q : VK} {E : XK} (z1 : H x = none) (z2 : H dx = none) (z3 : dx ≠ x) (ht : H t = some (.tup (fs.map V.int))) (hl : fs.length ≤ 8) (k : ∀ H', Same H H' → BndT K H' x dx t fs st → Q .non H') :
    spInit K [.ref x, .ref t, .bl st] (upd (upd H dx (.own x)) x (.ins (He.ga K "Bound") dx [])) Q E := by
  generalize hG : upd (upd H dx _) x _ = M
  obtain ⟨o1, s1⟩ := new2 z1 z2 z3 hG
  have okf : okForm (some (fs.map V.int)) = true := by simp only [okForm, List.length_map, all_ints, Bool.and_true, decide_eq_true_eq]; exact hl
  have kn : ∀ xs, some (fs.map V.int) = some xs → xs.length ≤ 100000 ∧ Knows K M xs := fun xs e => by
    cases e
    exact ⟨by rw [List.length_map]; omega, knows_ints _⟩
  have no : okForm (some (fs.map V.int)) = false → False := fun h => by rw [okf] at h; cases h
  have no2 : (some st : Option Bool) = none → False := fun h => by cases h
  refine ⟨x, dx, .ref t, .bl st, _, _, rfl, o1, .tup (s1 _ _ ht), kn, .bl st, fun _ b hb H' e h => ?_, fun h => (no h).elim, fun _ h => (no2 h).elim⟩
  cases hb
  exact k H' (fun a o ha => e a o (ne_of_none ha z1) (s1 a o ha)) ⟨h, e _ _ (ne_of_none ht z1) (s1 _ _ ht)⟩
theorem allZ_rep : ∀ fs : List Int, decide (fs = List.replicate fs.length 0) = allZ fs
  | [] => rfl
  | f :: fs => by
    have ih := allZ_rep fs
    unfold allZ at ih ⊢
    rw [List.length_cons, List.replicate_succ, List.all_cons, ← ih]
    by_cases h : f = 0 <;> simp [h]
/-- both branches go on to the same -/
theorem if_join {c : Bool} {A B : Prop} (M R : Hp → Prop) (hA : c = true → (∀ J, M J → R J) → A) (hB : c = false → (∀ J, M J → R J) → B) (h : ∀ J, M J → R J) : if c = true then A else B := by
  cases c with
  | true => exact iteT (hA rfl h)
  | false => exact iteF (hB rfl h)
/-- the state within a lap -/
structure Lap (K : PySem.W.Frag) (H2 J : Hp) (p q bx bd t : Addr) (n : Int) (fs : List Int) (st : Bool) : Prop where
  f : ExtS p H2 J
  b : BndT K J bx bd t fs st
  t : LamX.Tabs (TTl K) J
  p : PenAt J p q n
theorem Lap.same {H2 J J' : Hp} {p q bx bd t : Addr} {n : Int} {fs : List Int} {st : Bool} (h : Lap K H2 J p q bx bd t n fs st) (e : Same J J') : Lap K H2 J' p q bx bd t n fs st := ⟨h.f.trans (.of e), h.b.same e, h.t.ext e, h.p.same e⟩
theorem if_due {c : Bool} {A B : Prop} {v : Int} (R : Bool → Prop) (hA : c = true → (∀ b, b = holds c v → R b) → A) (hB : c = false → (∀ b, b = holds c v → R b) → B) (h : R (holds c v)) : if c = true then A else B := by
  have h' : ∀ b, b = holds c v → R b := fun b e => by rw [e]; exact h
  cases c with
  | true => exact iteT (hA rfl h')
  | false => exact iteF (hB rfl h')
theorem ints_inj : ∀ {ms ns : List Int}, ms.map V.int = ns.map V.int → ms = ns
  | [], [], _ => rfl
  | [], _ :: _, h => by simp at h
  | _ :: _, [], h => by simp at h
  | m :: ms, n :: ns, h => by
    rw [List.map_cons, List.map_cons] at h
    injection h with h1 h2
    injection h1 with h1
    rw [h1, ints_inj h2]
theorem okS_ints {ms : List Int} {n : Nat} (h : ms.length = n) : okSeq (some (ms.map V.int)) ((n : Nat) : Int) = true := by
  simp only [okSeq, List.length_map, all_ints, Bool.and_true, decide_eq_true_eq]
  omega
/-- a right call of a Bound -/
theorem call_ok {b dx t a : Addr} {fs ms : List Int} {st : Bool} {Q : VK} {E : XK} (hb : BndT K H b dx t fs st) (h8 : fs.length ≤ 8) (sm : ∀ x ∈ fs, -(2 ^ 64) < x ∧ x < 2 ^ 64) (ha : H a = some (.lst (ms.map V.int)) ∨ H a = some (.tup (ms.map V.int))) (hl : ms.length = fs.length)
    (k : ∀ H', Same H H' → Q (.bl (holds st (dot fs ms))) H') : spCall K [.ref b, .ref a] H Q E := by
  have kn : ∀ xs, some (ms.map V.int) = some xs → xs.length ≤ 100000 ∧ Knows K H xs := fun xs e => by
    cases e
    exact ⟨by rw [List.length_map]; omega, knows_ints _⟩
  have no : okSeq (some (ms.map V.int)) ((fs.length : Nat) : Int) = false → False := fun h => by rw [okS_ints hl] at h; cases h
  refine ⟨b, dx, t, fs, st, .ref a, some (ms.map V.int), rfl, hb, by omega, sm, ha.elim .lst .tup, kn, fun ms' e _ H' e' => ?_, fun h => (no h).elim⟩
  rw [← ints_inj (Option.some.inj e)]
  exact k H' e'
theorem bnd_upd {nl b dx t : Addr} {fs : List Int} {st : Bool} {xs ys : List V} (hn : H nl = some (.lst xs)) (h : BndT K H b dx t fs st) : BndT K (upd H nl (.lst ys)) b dx t fs st := ⟨upd_keep h.o hn (by simp), upd_keep h.f hn (by simp)⟩
/-- other than the Bound of fs and st, in either order of == -/
def FarQ (K : PySem.W.Frag) (H : Hp) (fs : List Int) (st : Bool) (x : V) : Prop := ∃ o t, OthQ K H x o ∧ TyX K H x t ∧ PySem.W.notFirst K (He.ga K "Bound") t = true ∧ eqB fs st o = false
theorem OthQ.same {H H' : Hp} {v : V} {o : Option (List Int × Bool)} (e : Same H H') (h : OthQ K H v o) : OthQ K H' v o := by
  cases h with
  | bnd h => exact .bnd (h.same e)
  | no h n => exact .no (tyX_same e h) n
theorem FarQ.same {H H' : Hp} {fs : List Int} {st : Bool} {x : V} (e : Same H H') (h : FarQ K H fs st x) : FarQ K H' fs st x := by
  obtain ⟨o, t, h1, h2, h3, h4⟩ := h
  exact ⟨o, t, h1.same e, tyX_same e h2, h3, h4⟩
theorem nf_Bound : PySem.W.notFirst K (He.ga K "Bound") (.ref (He.ga K "Bound")) = true := by unfold PySem.W.notFirst; simp
theorem ty_Bound {P : Program} {mg : Str → Option Value} (T : Txt P K mg) {b dx t : Addr} {ns : List Int} {su : Bool} (h : BndT K H b dx t ns su) : TyX K H (.ref b) (.ref (He.ga K "Bound")) := .base (.ins h.o T.in_Bound.cl T.in_Bound.ha T.in_Bound.hn T.in_Bound.htk T.in_Bound.hm)
theorem far_bnd {P : Program} {mg : Str → Option Value} (T : Txt P K mg) {b dx t : Addr} {ns fs : List Int} {su st : Bool} (h : BndT K H b dx t ns su) (ne : eqB fs st (some (ns, su)) = false) : FarQ K H fs st (.ref b) := ⟨_, _, .bnd h, ty_Bound T h, nf_Bound, ne⟩
theorem far_tup {P : Program} {mg : Str → Option Value} (T : Txt P K mg) {a : Addr} {xs : List V} {fs : List Int} {st : Bool} (h : H a = some (.tup xs)) : FarQ K H fs st (.ref a) := ⟨none, _, .no (.base (.tup h)) T.kt_Bound, .base (.tup h), by unfold PySem.W.notFirst; rw [T.st_Bound]; rfl, rfl⟩
theorem far_non {P : Program} {mg : Str → Option Value} (T : Txt P K mg) {fs : List Int} {st : Bool} : FarQ K H fs st .non := ⟨none, _, .no (.base .non) T.kn_Bound, .base .non, by unfold PySem.W.notFirst; rw [T.sn_Bound]; rfl, rfl⟩
theorem far4 {P : Program} {mg : Str → Option Value} (T : Txt P K mg) {nl cx cd t ex ed r : Addr} {fs : List Int} {st : Bool} {xs ys : List V} (hn : H nl = some (.lst xs)) (C : BndT K H cx cd t fs (!st)) (D : BndT K H ex ed r (fs ++ [1]) st) :
    ∀ x ∈ [V.ref cx, .ref t, .non, .ref ex], FarQ K (upd H nl (.lst ys)) fs st x := by
  intro x hx
  simp only [List.mem_cons, List.not_mem_nil, or_false] at hx
  rcases hx with rfl | rfl | rfl | rfl
  · exact far_bnd T (bnd_upd hn C) (by cases st <;> simp [eqB])
  · exact far_tup T (bnd_upd hn C).f
  · exact far_non T
  · exact far_bnd T (bnd_upd hn D) (by simp [eqB])
theorem tab_upd {nl : Addr} {xs ys : List V} (h : LamX.Tabs (TTl K) H) (hn : H nl = some (.lst xs)) : LamX.Tabs (TTl K) (upd H nl (.lst ys)) := fun r hr => by
  obtain ⟨ps, h1, h2, h3⟩ := h r hr
  refine ⟨ps, upd_keep h1 hn (by simp), h2, fun pos cv hc => ?_⟩
  obtain ⟨c, e1, e2⟩ := h3 pos cv hc
  exact ⟨c, e1, upd_keep e2 hn (by unfold LamX.CodeO; simp)⟩
/-- the list at nl is none of the draws' -/
theorem pen_upd {nl p q cx t : Addr} {n : Int} {ys : List V} (h : PenAt H p q n) (hn : H nl = some (.lst [.ref cx, .ref t, .non])) : PenAt (upd H nl (.lst ys)) p q n := by
  obtain ⟨cs, x, r, hh⟩ := h
  have np : p ≠ nl := fun e => by
    have a := hh.hp
    rw [e, hn] at a
    simp at a
  have nq : q ≠ nl := fun e => by
    have a := hh.hq
    rw [e, hn] at a
    have e' := Option.some.inj a
    cases cs with
    | nil => simp at e'
    | cons c cs => simp at e'
  exact ⟨cs, x, r, (upd_ne np).trans hh.hp, (upd_ne nq).trans hh.hq, hh.pq, hh.len, hh.a0, hh.an, hh.r0⟩
end
end K15

namespace K15
open PySem PySem.Spec PyProof.Rows L2 Qk
section
variable {P : Program} {w : World} {K : PySem.W.Frag} {mg : Str → Option Value} {base : Heap}
def spOne (K : PySem.W.Frag) : Sp := fun vs H Q _ => ∃ (a : Addr) (ns : List Int), vs = [.ref a] ∧ SqL K H a (ns.map V.int) ∧ ns.length ≤ 63 ∧ LamX.Tabs (TTl K) H ∧ ∀ H', LamX.ExtN H H' → LamX.Tabs (TTl K) H' → Q (.bl true) H'
def spPen (K : PySem.W.Frag) : Sp := fun vs H Q _ => ∃ (a : Addr) (ns : List Int), vs = [.ref a] ∧ SqL K H a (ns.map V.int) ∧ ns.length ≤ 63 ∧ ∀ p q H', Same H H' → H p = none → PenAt H' p q 0 → Q (.ref p) H'
theorem cut_ints (ns : List Int) (lo hi : Option Int) : ∃ ms : List Int, cutV (ns.map V.int) lo hi = ms.map V.int ∧ ms.length ≤ ns.length := by
  refine ⟨(ns.drop (HT.sIx ns.length 0 lo)).take (HT.sIx ns.length ns.length hi - HT.sIx ns.length 0 lo), ?_, ?_⟩
  · unfold cutV
    rw [List.length_map, List.map_take, List.map_drop]
  · rw [List.length_take, List.length_drop]
    omega
theorem ok__law_pen (T : Txt P K mg) : FnR P w K mg base (L2.CX P w) 1 (He.ga K "_law_pen") (spPen K) := by
  obtain ⟨fd, F⟩ := T.d__law_pen
  refine fo_of F sc__law_pen (fun _ _ _ _ _ _ us hl => match us, hl with | [_], _ => rfl) (fun vs H Q E h => ?_) (fun cdv A outer s H vs Q E hr h => ?_)
  · obtain ⟨a, ns, rfl, _⟩ := h; rfl
  · refine ⟨_, (pss_one (ps_ret (pe_lst (pa_cons (pe_callTy call_list_of rfl T.n_list (by decide +kernel) (pa_cons (pe_slice sl_list (pv 0) po_none (po_some pe_int)) pa_nil)) (pa_cons pe_int (pa_cons pe_int pa_nil)))))), ?_⟩
    obtain ⟨a, ns, rfl, ha, hl, q⟩ := h
    rw [show L2.start ["script"] [V.ref a] = [some (.ref a)] from rfl]
    walk_at "rd"
    obtain ⟨ms, em, lm⟩ := cut_ints ns none (some 63)
    refine ⟨a, _, rfl, ha, fun b z1 => ?_⟩
    generalize hE1 : upd H b _ = H1
    obtain ⟨h1, e1⟩ := new_ok hE1 z1
    rw [em] at h1
    walk_at "rd"
    intro c z2
    generalize hE2 : upd H1 c _ = H2
    obtain ⟨h2, e2⟩ := new_ok hE2 z2
    walk_at "rd"
    try walk_at "nm"
    refine ⟨by decide, fun p z3 => ?_⟩
    generalize hE3 : upd H2 p _ = H3
    obtain ⟨h3, e3⟩ := new_ok hE3 z3
    refine q p c H3 (e1.trans (e2.trans e3)) (none_of (e1.trans e2) z3) ⟨ms, 0, 0, h3, e3 _ _ h2, ne_of_none h2 z3 |>.symm, by omega, by omega, by omega, by omega⟩
def spOneB (K : PySem.W.Frag) : Sp := spOne K
theorem ok__law_part_one (T : Txt P K mg) (TB : LamX.TabB base mg (cR K).1 (cR K).2) : FnR P w K mg base (L2.CX P w) 9 (He.ga K "_law_part_one") (spOne K) := by
  obtain ⟨fd, F⟩ := T.d__law_part_one
  have RR := ok__law_refused_right (P := P) (w := w) T TB
  obtain ⟨fdB, IB⟩ := init_b (P := P) (w := w) (base := base) T
  obtain ⟨gv2, kb2⟩ := IB.k2
  obtain ⟨pF, gF, fdF, hpF, FF⟩ := T.r_is_false
  have bF := FF.bindsN (ps := ["self"]) fun _ _ _ _ _ _ us hl => match us, hl with | [_], _ => rfl
  obtain ⟨fdC, FC, GC⟩ := fk_Bound_call (P := P) (w := w) (base := base) T
  have kbc := kbindsN FC (ps := ["self", "numbers"]) 1 ["numbers"] (fun us ws => us ++ ws) (fun a b => a.append b) (fun kV doc pm an cdv ct us ws h1 h2 => match us, ws, h1, h2 with | [_], [_], _, _ => rfl)
  refine fo_of F sc__law_part_one (fun _ _ _ _ _ _ us hl => match us, hl with | [_], _ => rfl) (fun vs H Q E h => ?_) (fun cdv A outer s H vs Q E hr h => ?_)
  · obtain ⟨a, ns, rfl, _⟩ := h; rfl
  · refine ⟨_, (pss_cons (ps_set (i := 1) sc__law_part_one.nd rfl (Or.inr rfl) (pe_callR (ok__law_pen T) (hr.mono (by decide)) rfl T.g__law_pen T.k__law_pen px0 (pa_cons (pv 0) pa_nil))) (pss_cons (ps_for (passes_of rfl) rfl (pi_range1 rfl T.n_range (pa_cons pe_int pa_nil)) (pg_name (i := 2) sc__law_part_one.nd rfl (Or.inl rfl)) (pss_cons (ps_par (i := 3) (j := 4) (by rfl) sc__law_part_one.nd rfl rfl (by decide) rfl rfl (pa_cons (pe_callR (ok__law_draw T) (hr.mono (by decide)) rfl T.g__law_draw T.k__law_draw px0 (pa_cons (pv 1) (pa_cons pe_int pa_nil))) (pa_cons (pe_callR (ok__law_pick T) (hr.mono (by decide)) rfl T.g__law_pick T.k__law_pick px0 (pa_cons (pv 1) (pa_cons (pe_lst (pa_cons pe_bl (pa_cons pe_bl pa_nil))) pa_nil))) pa_nil)) (by rfl)) (pss_cons (ps_set (i := 5) sc__law_part_one.nd rfl (Or.inl rfl) (pe_callR (ok__law_form T) (hr.mono (by decide)) rfl T.g__law_form T.k__law_form px0 (pa_cons (pv 1) (pa_cons (pv 3) pa_nil)))) (pss_cons (ps_set (i := 6) sc__law_part_one.nd rfl (Or.inr rfl) (StX.pe_makeR T.mk_Bound IB.r3 (hr.mono (by decide)) rfl T.g_Bound pxP (pa_cons (pv 5) (pa_cons (pv 4) pa_nil)))) (pss_cons (ps_if (PW.pt (pw_or (pt_cmpR (op_neD hr.units) (pe_fld (pv 6) rfl) (pv 5) (nomark _)) (pw_or (pt_cmpR op_ne (pe_callB call_repr_bl rfl T.n_repr (by decide +kernel) (pa_cons (pe_fld (pv 6) rfl) pa_nil)) (pe_callB call_repr_bl rfl T.n_repr (by decide +kernel) (pa_cons (pv 4) pa_nil)) (nomark _)) (pw_or1 (pt_cmpR op_ne (pe_callB SkE.call_repr_int rfl T.n_repr (by decide +kernel) (pa_cons (pe_callB (call_lenO T.h_len T.i_len (ok_Bound_len T) (hr.mono (by decide))) rfl T.n_len (by decide +kernel) (pa_cons (pv 6) pa_nil)) pa_nil)) (pe_callB SkE.call_repr_int rfl T.n_repr (by decide +kernel) (pa_cons (pv 3) pa_nil)) (nomark _)))))) (pss_one (ps_ret pe_bl)) pss_nil) (pss_cons (ps_if (pt_cmpR op_ne (pe_callB call_repr_bl rfl T.n_repr (by decide +kernel) (pa_cons (pe_prop (pv 6) T.cl_Bound hpF (fn_isf T FF) (hr.mono (by decide)) bF .nil (fun pins σ H s e s' I h => px0 σ pins H s e s' I h) rfl) pa_nil)) (pe_callB call_repr_bl rfl T.n_repr (by decide +kernel) (pa_cons (pe_and (pv 4) (pe_one (pe_cmpR (op_eqD hr.units) (pv 5) (pe_op op_repU (pe_tup (pa_cons pe_int pa_nil)) (pv 3)) (nomark _)))) pa_nil)) (nomark _)) (pss_one (ps_ret pe_bl)) pss_nil) (pss_cons (ps_for (passes_of rfl) rfl (pi_range1 rfl T.n_range (pa_cons pe_int pa_nil)) (pg_name (i := 7) sc__law_part_one.nd rfl (Or.inl rfl)) (pss_cons (ps_setLc (i := 8) (own := [("k", 12)]) (g := gName 12) (tt := tYes) rfl sc__law_part_one.nd rfl rfl (sw_true rfl rfl rfl (by decide +kernel)) (pi_range1 rfl T.n_range (pa_cons (pv 3) pa_nil)) (blkOk_by (own := [("k", 12)]) (N := ["script", "pen", "lap", "many", "is_so", "form", "bound", "turn_so", "spots", "value", "due", "near", "k", "one"]) (sc := defScope s__law_part_one) (by decide +kernel)) (fun _ _ _ _ _ => (pg_name (i := 12) sc__law_part_one.nd rfl (Or.inl rfl))) (fun _ _ _ _ _ => pts_nil) (fun _ _ _ _ _ => (pe_callR (ok__law_pick T) (hr.mono (by decide)) rfl T.g__law_pick T.k__law_pick px0 (pa_cons (pv 1) (pa_cons (pe_lst (pa_cons pe_int (pa_cons pe_int (pa_cons (pe_un un_neg pe_int) (pa_cons pe_int (pa_cons (pe_op op_pow pe_int pe_int) (pa_cons (pe_callR (ok__law_draw T) (hr.mono (by decide)) rfl T.g__law_draw T.k__law_draw px0 (pa_cons (pv 1) (pa_cons pe_int pa_nil))) pa_nil))))))) pa_nil))))) (pss_cons (ps_set (i := 9) sc__law_part_one.nd rfl (Or.inl rfl) (pe_callR (ok__law_value T) (hr.mono (by decide)) rfl T.g__law_value T.k__law_value px0 (pa_cons (pv 5) (pa_cons (pv 8) pa_nil)))) (pss_cons (ps_set (i := 10) sc__law_part_one.nd rfl (Or.inl rfl) (pe_ifExp (pt_val (pv 4)) (pe_cmpR op_gt (pv 9) pe_int (nomark _)) (pe_cmpR op_ge (pv 9) pe_int (nomark _)))) (pss_one (ps_if (PW.pt (pw_or (pt_cmpR op_ne (pe_callB call_repr_bl rfl T.n_repr (by decide +kernel) (pa_cons (pe_callI (pv 6) T.co_Bound (ok_Bound_call T) (hr.mono (by decide)) px0 (pa_cons (pv 8) pa_nil)) pa_nil)) (pe_callB call_repr_bl rfl T.n_repr (by decide +kernel) (pa_cons (pv 10) pa_nil)) (nomark _)) (pw_or1 (pt_cmpR op_ne (pe_callB call_repr_bl rfl T.n_repr (by decide +kernel) (pa_cons (pe_callIK (pv 6) T.co_Bound GC (hr.mono (by decide)) kbc px0 (pk_cons (pe_callTy call_tuple_of rfl T.n_tuple (by decide +kernel) (pa_cons (pv 8) pa_nil)) pk_nil)) pa_nil)) (pe_callB call_repr_bl rfl T.n_repr (by decide +kernel) (pa_cons (pv 10) pa_nil)) (nomark _))))) (pss_one (ps_ret pe_bl)) pss_nil)))))) (pss_cons (ps_set (i := 11) sc__law_part_one.nd rfl (Or.inl rfl) (pe_lst (pa_cons (StX.pe_makeR T.mk_Bound IB.r3 (hr.mono (by decide)) rfl T.g_Bound pxP (pa_cons (pv 5) (pa_cons (pe_not (pv 4)) pa_nil))) (pa_cons (pv 5) (pa_cons pe_non pa_nil))))) (pss_cons (ps_if (pt_cmpR op_lt (pv 3) pe_int (nomark _)) (pss_one (ps_expr (pe_bm PySem.F.plainAttrs_list PySem.F.slot_list_append PySem.F.type_list_append mt_append (pv 11) (pa_cons (StX.pe_makeR T.mk_Bound IB.r3 (hr.mono (by decide)) rfl T.g_Bound pxP (pa_cons (pe_op op_catA (pv 5) (pe_tup (pa_cons pe_int pa_nil))) (pa_cons (pv 4) pa_nil))) pa_nil)))) pss_nil) (pss_cons (ps_if (pt_cmpR (op_neK (K := K) T.h_ne T.h_eq T.i_eq T.o_sub (ok_Bound_eq T) (hr.mono (by decide))) (pv 6) (pe_makeK0 T.mk_Bound IB.ok (hr.mono (by decide)) rfl T.g_Bound kb2 pxP (pk_cons (pv 4) (pk_cons (pv 5) pk_nil))) (nomark _)) (pss_one (ps_ret pe_bl)) pss_nil) (pss_cons (ps_if (pt_cmpR (op_neD hr.units) (pe_lc (own := [("one", 13)]) (g := gName 13) (tt := _) rfl sc__law_part_one.nd (pi_seq (pv 11)) (blkOk_by (own := [("one", 13)]) (N := ["script", "pen", "lap", "many", "is_so", "form", "bound", "turn_so", "spots", "value", "due", "near", "k", "one"]) (sc := defScope s__law_part_one) (by decide +kernel)) (fun _ _ _ _ _ => (pg_name (i := 13) sc__law_part_one.nd rfl (Or.inl rfl))) (fun _ _ _ _ _ => (pts_one (PW.pt (pw_or (pt_cmpR (op_eqK (K := K) T.h_eq T.i_eq (ok_Bound_eq T) (hr.mono (by decide))) (pv 6) (pv 13) (nomark _)) (pw_or1 (pt_not (pt_cmpR (op_neK (K := K) T.h_ne T.h_eq T.i_eq T.o_sub (ok_Bound_eq T) (hr.mono (by decide))) (pv 6) (pv 13) (nomark _)))))))) (fun _ _ _ _ _ => (pv 13))) (pe_lst pa_nil) (nomark _)) (pss_one (ps_ret pe_bl)) pss_nil) (pss_one (ps_if (PW.pt (pw_or (pt_cmpR (op_neK (K := K) T.h_ne T.h_eq T.i_eq T.o_sub (ok_Bound_eq T) (hr.mono (by decide))) (StX.pe_makeR T.mk_Bound IB.r2 (hr.mono (by decide)) rfl T.g_Bound pxP (pa_cons (pv 5) pa_nil)) (StX.pe_makeR T.mk_Bound IB.r3 (hr.mono (by decide)) rfl T.g_Bound pxP (pa_cons (pv 5) (pa_cons pe_bl pa_nil))) (nomark _)) (pw_or1 (PW.pt (pw_and (pt_cmpR op_gt (pv 3) pe_int (nomark _)) (pw_and1 (pt_not (pt_val (pe_callR RR (hr.mono (by decide)) rfl T.g__law_refused_right T.k__law_refused_right px0 (pa_cons (pv 1) (pa_cons (pv 6) (pa_cons (pv 3) pa_nil)))))))))))) (pss_one (ps_ret pe_bl)) pss_nil))))))))))))) (pss_one (ps_ret pe_bl)))), ?_⟩
    obtain ⟨a, ns, rfl, ha, hl, hT, k⟩ := h
    rw [show L2.start ["script", "pen", "lap", "many", "is_so", "form", "bound", "turn_so", "spots", "value", "due", "near", "k", "one"] [V.ref a] = [some (.ref a), none, none, none, none, none, none, none, none, none, none, none, none, none] from rfl]
    walk_at "rd"
    refine ⟨a, ns, rfl, ha, hl, fun p q H1 e1 hpn hp1 => ?_⟩
    try walk_at "nm"
    refine ⟨_, rfl, by decide, by decide, ?_⟩
    refine for_range (fun i σ H' => ∃ x : List (Option V), x.length = 12 ∧ σ = some (.ref a) :: some (.ref p) :: x ∧ PenAt H' p q (100 * i) ∧ LamX.Tabs (TTl K) H' ∧ ExtW p H1 H') ⟨List.replicate 12 none, rfl, rfl, hp1.mono (by simp), hT.ext e1, .refl⟩ (fun i σ H2 hi h => ?_) (fun σ H2 h => ?_)
    rotate_left
    · obtain ⟨x, hx, rfl, hp2, hT2, W⟩ := h
      refine k H2 (fun b o hb nt => W b o (fun e => ?_) nt (e1 _ _ hb)) hT2
      rw [e, hpn] at hb
      cases hb
    · obtain ⟨x, hx, rfl, hp2, hT2, W⟩ := h
      match x, hx with
      | [x2, x3, x4, x5, x6, x7, x8, x9, x10, x11, x12, x13], _ =>
      clear hx
      walk_at "rd"
      refine ⟨p, q, 9, 100 * (i : Int), rfl, by decide, by decide, by omega, hp2, fun many J1 m0 m9 p1 f1 => ?_⟩
      try walk_at "rd"
      try walk_at "nm"
      intro g1 y1
      generalize hF1 : upd J1 g1 _ = J2
      obtain ⟨u1, v1⟩ := new_ok hF1 y1
      try walk_at "rd"
      try walk_at "nm"
      have p2 := p1.same v1
      refine ⟨p, q, g1, _, 100 * (i : Int) + 1, rfl, (pen_ne p1 y1).1, u1, by simp, by simp, by omega, p2, fun sv J3 hsv p3 f3 => ?_⟩
      obtain ⟨st, rfl⟩ : ∃ st : Bool, sv = .bl st := by
        simp only [List.mem_cons, List.not_mem_nil, or_false] at hsv
        rcases hsv with rfl | rfl
        · exact ⟨_, rfl⟩
        · exact ⟨_, rfl⟩
      have F3 : ExtS p H2 J3 := f1.trans ((ExtS.of v1).trans f3)
      have T3 := tabs_ext hT2 hp2.get F3
      clear hF1 hsv u1 y1 v1 p2 f1 f3 p1
      try walk_at "rd"
      try walk_at "nm"
      refine ⟨p, q, many, _, rfl, m0, by omega, by omega, p3, fun t fs J4 y2 u2 lf sm p4 f4 => ?_⟩
      have F4 : ExtS p H2 J4 := F3.trans f4
      have T4 := tabs_ext T3 p3.get f4
      try walk_at "rd"
      try walk_at "nm"
      intro bx bd z1 z2 z3
      refine init_ok z1 z2 z3 u2 (by omega) fun J5 s5 B5 => ⟨rfl, ?_⟩
      have F5 : ExtS p H2 J5 := F4.trans (.of s5)
      have T5 := T4.ext s5
      have p5 := p4.same s5
      clear z1 z2 z3 y2 u2 f4 F4 T4 s5 p4 F3 T3 p3
      try walk_at "rd"
      refine ⟨bx, _, bd, _, _, rfl, B5.o, T.cl_Bound, T.na_form, rfl, ?_⟩
      try walk_at "rd"
      refine ⟨_, _, dp_tup B5.f, dp_tup B5.f, shaped_tup _, shaped_tup _, ?_⟩
      rw [eqv_ints, decide_eq_true rfl]
      try walk_at "rd"
      try walk_at "nm"
      have ln : ((fs.length : Nat) : Int) = many := by omega
      refine ⟨bx, _, bd, _, _, rfl, B5.o, T.cl_Bound, T.na_strict, rfl, ?_⟩
      try walk_at "rd"
      try walk_at "nm"
      rw [decide_eq_true rfl]
      try walk_at "rd"
      refine ⟨bx, bd, _, rfl, B5.o, bx, bd, t, fs, st, rfl, B5, fs.length, rfl, by omega, ?_⟩
      try walk_at "rd"
      try walk_at "nm"
      have sm1 : ∀ {i : Int}, -20 ≤ i → i ≤ 19 → i.natAbs.log2 < 1920 := fun h1 h2 => log_small (Nat.le_trans (show _ ≤ 20 by omega) (by decide))
      have lg : ∀ {i : Int}, 0 ≤ i → i ≤ 8 → i.natAbs.log2 < 1920 := fun h1 h2 => sm1 (by omega) (by omega)
      refine ⟨lg (by omega) (by omega), ?_⟩
      try walk_at "rd"
      refine ⟨lg m0 (by omega), ?_⟩
      rw [ln]
      try walk_at "rd"
      try walk_at "nm"
      rw [decide_eq_true rfl]
      try walk_at "rd"
      try walk_at "nm"
      refine ⟨bx, bd, _, rfl, B5.o, bx, bd, t, fs, st, rfl, B5, by omega, fun J6 s6 => ?_⟩
      have B6 := B5.same s6
      have F6 := F5.trans (.of s6)
      have T6 := T5.ext s6
      have p6 := p5.same s6
      clear s6 p5 T5 F5 B5
      try walk_at "rd"
      try walk_at "nm"
      have L6 : Lap K H2 J6 p q bx bd t (100 * (i : Int) + 1 + 1 + 18) fs st := ⟨F6, B6, T6, p6⟩
      clear F6 B6 T6 p6
      apply if_join (fun J => Lap K H2 J p q bx bd t (100 * (i : Int) + 1 + 1 + 18) fs st)
      · intro est k'
        have e0 : decide (V.str (boolText (st && allZ fs)) = V.str (boolText (allZ fs))) = true := by rw [est]; exact decide_eq_true rfl
        try walk_at "rd"
        try walk_at "nm"
        intro r0 y0
        generalize hF0 : upd J6 r0 _ = J8
        obtain ⟨u0, v0⟩ := new_ok hF0 y0
        try walk_at "rd"
        refine ⟨r0, many, _, rfl, rfl, .of u0, by simp, m0, by omega, by simp, fun r J9 v9 hr9 => ?_⟩
        have L9 := L6.same (v0.trans v9)
        rw [rep_flat] at hr9
        have hr9' : SqT K J9 r ((List.replicate many.toNat (0 : Int)).map V.int) := by rw [List.map_replicate]; exact hr9
        refine ⟨_, _, dp_tup L9.b.f, .tup hr9' (dpAll_ints _), shaped_tup _, shaped_tup _, ?_⟩
        rw [eqv_ints, ← lf, allZ_rep]
        try walk_at "rd"
        rw [e0]
        exact iteF (k' J9 L9)
      · intro est k'
        have e0 : decide (V.str (boolText (st && allZ fs)) = V.str (boolText false)) = true := by rw [est]; exact decide_eq_true rfl
        refine ⟨_, rfl, ?_⟩
        try walk_at "rd"
        rw [e0]
        exact iteF (k' J6 L6)
      · intro J7 L7
        refine ⟨_, rfl, by decide, by decide, ?_⟩
        refine for_range (fun u σ J => ∃ y : List (Option V), y.length = 7 ∧ σ = some (.ref a) :: some (.ref p) :: some (.int (0 + (i : Int))) :: some (.int many) :: some (.bl st) :: some (.ref t) :: some (.ref bx) :: y ∧ Lap K H2 J p q bx bd t (100 * (i : Int) + 20 + 16 * u) fs st)
          ⟨_, rfl, rfl, L7.f, L7.b, L7.t, L7.p.mono (by omega)⟩ (fun u σ J8 hu h => ?_) (fun σ J8 h => ?_)
        · obtain ⟨y, hy, rfl, L8⟩ := h
          match y, hy with
          | [y7, y8, y9, y10, y11, y12, y13], _ =>
          clear hy
          try walk_at "nm"
          refine tlc_draw (c := 2) (n := many.toNat) (fun R h => ⟨_, rfl, _, rfl, by omega, by omega, h⟩) (fun _ _ v _ => ∃ i : Int, v = .int i) (by omega) L8.p (fun _ _ _ _ _ h => h) (fun _ _ _ _ _ _ h => h) (fun D v J9 hv e9 p9 _ A B hA => ?_) (fun D xs J9 hD hl9 e9 p9 hlen hR => ?_)
          · try walk_at "rd"
            try walk_at "nm"
            refine ⟨p, q, 9, _, rfl, by decide, by decide, by omega, p9, fun d J10 d0 d1 p10 f10 => ⟨by decide, fun g y => ?_⟩⟩
            generalize hF : upd J10 g _ = J11
            obtain ⟨u11, v11⟩ := new_ok hF y
            try walk_at "rd"
            try walk_at "nm"
            refine ⟨p, q, g, _, _, rfl, (pen_ne p10 y).1, u11, by simp, by simp, by omega, p10.same v11, fun x J12 hx p12 f12 => hA x J12 (f10.trans ((ExtS.of v11).trans f12)) (p12.mono (by push_cast; omega)) ?_⟩
            simp only [List.mem_cons, List.not_mem_nil, or_false] at hx
            rcases hx with rfl | rfl | rfl | rfl | rfl | rfl <;> exact ⟨_, rfl⟩
          · try walk_at "nm"
            obtain ⟨ms, rfl, _⟩ := ints_of (G := fun _ => True) (fun i v h => by obtain ⟨k, e⟩ := hR i v h; exact ⟨k, e, True.intro⟩)
            have lm : ms.length = fs.length := by rw [List.length_map] at hlen; omega
            have L9 : Lap K H2 J9 p q bx bd t (100 * (i : Int) + 20 + 16 * (u : Int) + 2 * (many.toNat : Int)) fs st := ⟨L8.f.trans e9, ⟨e9 _ _ (fun e => by have h := L8.b.o; obtain ⟨xs, hh⟩ := L8.p.get; rw [e, hh] at h; cases h) L8.b.o, e9 _ _ (fun e => by have h := L8.b.f; obtain ⟨xs, hh⟩ := L8.p.get; rw [e, hh] at h; cases h) L8.b.f⟩, tabs_ext L8.t L8.p.get e9, p9⟩
            have small64 : ∀ x ∈ fs, -(2 ^ 64) < x ∧ x < 2 ^ 64 := fun x hx => by have := sm x hx; omega
            try walk_at "rd"
            refine ⟨t, D, false, true, fs, ms, rfl, .of L9.b.f, .of hl9, by omega, small64, fun J10 e10 => ?_⟩
            have L10 := L9.same e10
            have hl10 := e10 _ _ hl9
            clear e10 hl9 L9 hlen hR p9 e9 hD
            try walk_at "rd"
            try walk_at "nm"
            apply if_due (v := dot fs ms)
            · intro est k'
              try walk_at "rd"
              try walk_at "nm"
              generalize hb : decide (dot fs ms > 0) = b
              exact k' b (by rw [← hb, est]; rfl)
            · intro est k'
              try walk_at "rd"
              try walk_at "nm"
              generalize hb : decide (dot fs ms ≥ 0) = b
              exact k' b (by rw [← hb, est]; rfl)
            try walk_at "rd"
            try walk_at "nm"
            refine ⟨⟨_, _, L10.b.o⟩, call_ok L10.b (by omega) small64 (.inl hl10) lm fun J11 e11 => ?_⟩
            have L11 := L10.same e11
            have hl11 := e11 _ _ hl10
            clear e11 hl10 L10
            try walk_at "rd"
            try walk_at "nm"
            rw [decide_eq_true rfl]
            try walk_at "rd"
            try walk_at "nm"
            refine ⟨D, _, rfl, .inl ⟨.of hl11, fun g y => ?_⟩⟩
            generalize hF : upd J11 g _ = J12
            obtain ⟨u12, v12⟩ := new_ok hF y
            have L12 := L11.same v12
            clear hF y v12 hl11 L11
            try walk_at "rd"
            try walk_at "nm"
            refine ⟨⟨_, _, L12.b.o⟩, call_ok L12.b (by omega) small64 (.inr u12) lm fun J13 e13 => ?_⟩
            have L13 := L12.same e13
            clear e13 u12 L12
            try walk_at "rd"
            try walk_at "nm"
            rw [decide_eq_true rfl]
            try walk_at "rd"
            try walk_at "nm"
            exact iteF ⟨[_, _, _, _, _, _, _], rfl, rfl, L13.f, L13.b, L13.t, L13.p.mono (by push_cast; omega)⟩
        · obtain ⟨y, hy, rfl, L8⟩ := h
          match y, hy with
          | [y7, y8, y9, y10, y11, y12, y13], _ =>
          clear hy
          have L8 : Lap K H2 J8 p q bx bd t (100 * (i : Int) + 84) fs st := ⟨L8.f, L8.b, L8.t, L8.p.mono (by have : (Int.toNat 4 : Nat) = 4 := rfl; omega)⟩
          try walk_at "rd"
          try walk_at "nm"
          intro cx cd z1 z2 z3
          refine init_ok z1 z2 z3 L8.b.f (by omega) fun J9 s9 C9 => ⟨rfl, ?_⟩
          have L9 := L8.same s9
          clear s9 z1 z2 z3 L8
          try walk_at "rd"
          try walk_at "nm"
          intro nl y1
          generalize hF : upd J9 nl _ = J10
          obtain ⟨u10, v10⟩ := new_ok hF y1
          have L10 := L9.same v10
          have C10 := C9.same v10
          have nlH : ∀ (J : Hp) (x : HO), ExtS p H2 J → ExtS p H2 (upd J nl x) := fun J x e b o hb ho => by
            rw [upd_ne (fun q => by have h := L9.f b o hb ho; rw [q, y1] at h; cases h)]
            exact e b o hb ho
          clear hF y1 v10 C9 L9
          try walk_at "rd"
          try walk_at "nm"
          have ox : eqB fs st (some (fs, !st)) = false := by cases st <;> simp [eqB]
          have far : ∀ x ∈ [V.ref cx, .ref t, .non], FarQ K J10 fs st x := fun x hx => by
            simp only [List.mem_cons, List.not_mem_nil, or_false] at hx
            rcases hx with rfl | rfl | rfl
            · exact far_bnd T C10 ox
            · exact far_tup T L10.b.f
            · exact far_non T
          apply if_join (fun J => ∃ xs : List V, Lap K H2 J p q bx bd t (100 * (i : Int) + 84) fs st ∧ J nl = some (.lst xs) ∧ xs.length ≤ 4 ∧ ∀ x ∈ xs, FarQ K J fs st x)
          · intro em k'
            have m8 : many < 8 := of_decide_eq_true em
            refine ⟨_, rfl, .inl ⟨rfl, _, .of u10⟩, ?_⟩
            refine ⟨_, rfl, ?_⟩
            try walk_at "nm"
            refine ⟨by decide, fun g y2 => ?_⟩
            generalize hF2 : upd J10 g _ = J11
            obtain ⟨u11, v11⟩ := new_ok hF2 y2
            have L11 := L10.same v11
            have n11 := v11 _ _ u10
            have go : ∀ (J : Hp) (r : Addr), Same J11 J → J r = some (.tup ((fs ++ [1]).map V.int)) → True := fun _ _ _ _ => True.intro
            refine ⟨t, g, _, _, rfl, rfl, .of L11.b.f, .of u11, ?_, fun e0 => ?_, fun e0 e2 => ?_, fun e0 _ r y3 => ?_⟩
            · rw [List.length_map]; exact Nat.le_of_lt (small_le (by simp; omega))
            · have fe : fs = [] := List.map_eq_nil_iff.mp e0
              refine ⟨_, rfl, fun ex ed z1 z2 z3 => init_ok (fs := fs ++ [1]) z1 z2 z3 (by rw [fe]; exact u11) (by simp; omega) fun J12 s12 D12 => ⟨rfl, ?_⟩⟩
              have L12 := (L11).same s12
              have n12 := s12 _ _ (n11)
              have C12 := (C10.same v11).same s12
              refine ⟨nl, _, _, rfl, rfl, n12, by simp; decide, ?_⟩
              simp only [List.cons_append, List.nil_append]
              have fin : ∃ xs : List V, Lap K H2 (upd J12 nl (.lst [.ref cx, .ref t, .non, .ref ex])) p q bx bd t (100 * (i : Int) + 84) fs st ∧ (upd J12 nl (.lst [.ref cx, .ref t, .non, .ref ex])) nl = some (.lst xs) ∧ xs.length ≤ 4 ∧ ∀ x ∈ xs, FarQ K (upd J12 nl (.lst [.ref cx, .ref t, .non, .ref ex])) fs st x :=
                ⟨_, ⟨nlH _ _ L12.f, bnd_upd n12 L12.b, tab_upd L12.t n12, pen_upd L12.p n12⟩, upd_same, by simp, far4 T n12 C12 D12⟩
              revert fin
              generalize upd J12 nl _ = J14
              intro fin
              exact k' J14 fin
            · cases e2
            · generalize hF3 : upd J11 r _ = J13
              obtain ⟨u13, v13⟩ := new_ok hF3 y3
              refine ⟨_, rfl, fun ex ed z1 z2 z3 => init_ok (fs := fs ++ [1]) z1 z2 z3 (by rw [List.map_append]; exact u13) (by simp; omega) fun J12 s12 D12 => ⟨rfl, ?_⟩⟩
              have L12 := (L11.same v13).same s12
              have n12 := s12 _ _ (v13 _ _ n11)
              have C12 := ((C10.same v11).same v13).same s12
              refine ⟨nl, _, _, rfl, rfl, n12, by simp; decide, ?_⟩
              simp only [List.cons_append, List.nil_append]
              have fin : ∃ xs : List V, Lap K H2 (upd J12 nl (.lst [.ref cx, .ref t, .non, .ref ex])) p q bx bd t (100 * (i : Int) + 84) fs st ∧ (upd J12 nl (.lst [.ref cx, .ref t, .non, .ref ex])) nl = some (.lst xs) ∧ xs.length ≤ 4 ∧ ∀ x ∈ xs, FarQ K (upd J12 nl (.lst [.ref cx, .ref t, .non, .ref ex])) fs st x :=
                ⟨_, ⟨nlH _ _ L12.f, bnd_upd n12 L12.b, tab_upd L12.t n12, pen_upd L12.p n12⟩, upd_same, by simp, far4 T n12 C12 D12⟩
              revert fin
              generalize upd J12 nl _ = J14
              intro fin
              exact k' J14 fin
          · intro em k'
            exact k' J10 ⟨_, L10, u10, by simp, far⟩
          · rintro J11 ⟨xs, L11, n11, l11, far11⟩
            refine ⟨_, rfl, _, rfl, _, rfl, rfl, rfl, fun ex ed z1 z2 z3 => ?_⟩
            refine init_ok z1 z2 z3 L11.b.f (by omega) fun J12 s12 D12 => ⟨rfl, ?_⟩
            have L12 := L11.same s12
            have n12 := s12 _ _ n11
            refine ⟨bx, bd, _, _, rfl, L12.b.o, ty_Bound T D12, nf_Bound, bx, bd, t, fs, st, .ref ex, some (fs, st), rfl, L12.b, .bnd D12, _, rfl, ?_⟩
            have et : eqB fs st (some (fs, st)) = true := by simp [eqB]
            rw [et]
            refine ⟨_, rfl, _, rfl, iteF ?_⟩
            refine lc_fm (xs := xs) (fun Q' h => ⟨_, rfl, h⟩) (fun _ => false) (fun v => v) (.inl (.of n12)) (by omega) (fun x hx J13 e13 A B hA hB => ?_) (fun D J13 hD hl13 e13 => ?_)
            · obtain ⟨o, ty, oq, tyx, nf, ne⟩ := (far11 x hx).same (s12.trans e13)
              have L13 := L12.same e13
              try walk_at "nm"
              refine ⟨rfl, ?_⟩
              refine ⟨_, rfl, ?_⟩
              refine ⟨_, rfl, bx, bd, _, ty, rfl, L13.b.o, tyx, nf, bx, bd, t, fs, st, x, o, rfl, L13.b, oq, _, rfl, ?_⟩
              rw [ne]
              refine ⟨_, rfl, iteF ?_⟩
              refine ⟨_, rfl, _, rfl, bx, bd, _, ty, rfl, L13.b.o, tyx, nf, bx, bd, t, fs, st, x, o, rfl, L13.b, oq, _, rfl, ?_⟩
              rw [ne]
              exact ⟨_, rfl, _, rfl, iteF (hB rfl J13 (Same.refl J13))⟩
            · try walk_at "nm"
              refine ⟨by decide, fun zl yz => ?_⟩
              generalize hF : upd J13 zl _ = J14
              obtain ⟨u14, v14⟩ := new_ok hF yz
              have L14 := (L12.same e13).same v14
              have hl14 := v14 _ _ hl13
              clear hF yz v14 hl13 e13 hD
              refine ⟨_, _, dp_nil (by rw [hl14]; simp), dp_nil u14, shaped_nil, shaped_nil, ?_⟩
              refine ⟨_, rfl, iteF ?_⟩
              refine ⟨_, rfl, fun ux ud w1 w2 w3 => ?_⟩
              refine init_ok w1 w2 w3 L14.b.f (by omega) fun J15 s15 U15 => ⟨rfl, ?_⟩
              have L15 := L14.same s15
              clear w1 w2 w3 s15
              try walk_at "nm"
              refine ⟨_, rfl, fun vx vd w1 w2 w3 => ?_⟩
              refine init_ok w1 w2 w3 L15.b.f (by omega) fun J16 s16 V16 => ⟨rfl, ?_⟩
              have L16 := L15.same s16
              have U16 := U15.same s16
              clear w1 w2 w3 s16
              refine ⟨ux, ud, _, _, rfl, U16.o, ty_Bound T V16, nf_Bound, ux, ud, t, fs, false, .ref vx, some (fs, false), rfl, U16, .bnd V16, _, rfl, ?_⟩
              have et2 : eqB fs false (some (fs, false)) = true := by simp [eqB]
              rw [et2]
              refine ⟨_, rfl, _, rfl, iteF ?_⟩
              refine ⟨_, rfl, _, _, rfl, rfl, ?_⟩
              refine ⟨_, rfl, ?_⟩
              have small64 : ∀ x ∈ fs, -(2 ^ 64) < x ∧ x < 2 ^ 64 := fun x hx => by have := sm x hx; omega
              refine ite2 (fun c => ?_) (fun c => ?_)
              · have m1 : 1 ≤ many := by have := of_decide_eq_true c; omega
                refine ⟨_, rfl, _, rfl, _, rfl, ?_⟩
                refine ⟨p, q, bx, bd, t, fs, st, many, _, rfl, by omega, L16.p, L16.b, ln, m1, by omega, small64, L16.t, fun J17 W17 p17 T17 => ?_⟩
                refine ⟨_, rfl, iteF ?_⟩
                exact ⟨[_, _, _, _, _, _, _, _, _, _, _, _], rfl, rfl, p17.mono (by push_cast; omega), T17, W.trans (L16.f.weak.trans W17)⟩
              · exact iteF ⟨[_, _, _, _, _, _, _, _, _, _, _, _], rfl, rfl, L16.p.mono (by push_cast; omega), L16.t, W.trans L16.f.weak⟩
end
end K15

namespace K15
open PySem PySem.Spec PyProof.Rows L2 Qk
section
variable {P : Program} {w : World} {K : PySem.W.Frag} {mg : Str → Option Value} {base : Heap}
theorem ok__law_draw_b (T : Txt P K mg) : FnR P w K mg base (L2.CX P w) 1 (He.ga K "_law_draw_b") spDraw := by
  obtain ⟨fd, F⟩ := T.d__law_draw_b
  refine fo_of F sc__law_draw_b (fun _ _ _ _ _ _ us hl => match us, hl with | [_, _], _ => rfl) (fun vs H Q E h => ?_) (fun cdv A outer s H vs Q E hr h => ?_)
  · obtain ⟨p, q, m, n, rfl, _⟩ := h; rfl
  · refine ⟨_, (pss_cons (ps_if (pt_cmpR op_gt (pe_ix ix_list (pv 0) pe_int (fun _ _ => rfl)) pe_int (nomark _)) (pss_cons (ps_set (i := 2) sc__law_draw_b.nd rfl (Or.inl rfl) (pe_op op_modN (pe_callTy call_int1 rfl T.n_int (by decide +kernel) (pa_cons (pe_ix ix_list (pv 0) pe_int (fun _ _ => rfl)) pa_nil)) (pv 1))) (pss_cons (ps_asg (pe_op op_fdivN (pe_callTy call_int1 rfl T.n_int (by decide +kernel) (pa_cons (pe_ix ix_list (pv 0) pe_int (fun _ _ => rfl)) pa_nil)) (pv 1)) (pg_sub (pv 0) pe_int set_list)) (pss_one (ps_ret (pv 2))))) pss_nil) (pss_cons (ps_set (i := 3) sc__law_draw_b.nd rfl (Or.inl rfl) (pe_ix ix_list (pv 0) pe_int (fun _ _ => rfl))) (pss_cons (ps_asg (pe_op op_add (pv 3) pe_int) (pg_sub (pv 0) pe_int set_list)) (pss_cons (ps_set (i := 4) sc__law_draw_b.nd rfl (Or.inl rfl) (pe_op op_add (pe_op op_mul pe_int (pv 3)) pe_int)) (pss_cons (ps_if (pt_cmpR (op_neD hr.units) (pe_ix ix_list (pv 0) pe_int (fun _ _ => rfl)) (pe_lst pa_nil) (nomark _)) (pss_one (ps_set (i := 4) sc__law_draw_b.nd rfl (Or.inl rfl) (pe_ix ix_list (pe_ix ix_list (pv 0) pe_int (fun _ _ => rfl)) (pe_op op_modN (pe_callTy call_int1 rfl T.n_int (by decide +kernel) (pa_cons (pv 3) pa_nil)) (pe_callB call_len_seq rfl T.n_len (by decide +kernel) (pa_cons (pe_ix ix_list (pv 0) pe_int (fun _ _ => rfl)) pa_nil))) (fun _ _ => rfl)))) pss_nil) (pss_cons (ps_if (PW.pt (pw_and (pt_cmpR op_lt (pv 3) (pe_callB call_len_seq rfl T.n_len (by decide +kernel) (pa_cons (pe_ix ix_list (pv 0) pe_int (fun _ _ => rfl)) pa_nil)) (nomark _)) (pw_and1 (pt_cmpR op_ge (pe_callB call_abs rfl T.n_abs (by decide +kernel) (pa_cons (pv 4) pa_nil)) (pe_op op_pow pe_int pe_int) (nomark _))))) (pss_cons (ps_set (i := 5) sc__law_draw_b.nd rfl (Or.inl rfl) (pe_op op_add (pe_op op_mul pe_int (pe_op op_sub (pe_callB call_abs rfl T.n_abs (by decide +kernel) (pa_cons (pv 4) pa_nil)) (pe_op op_pow pe_int pe_int))) (pe_callTy call_int1 rfl T.n_int (by decide +kernel) (pa_cons (pe_cmpR op_lt (pv 4) pe_int (nomark _)) pa_nil)))) (pss_cons (ps_asg (pe_op op_fdivN (pe_callTy call_int1 rfl T.n_int (by decide +kernel) (pa_cons (pv 5) pa_nil)) (pv 1)) (pg_sub (pv 0) pe_int set_list)) (pss_one (ps_ret (pe_op op_modN (pe_callTy call_int1 rfl T.n_int (by decide +kernel) (pa_cons (pv 5) pa_nil)) (pv 1)))))) pss_nil) (pss_cons (ps_set (i := 6) sc__law_draw_b.nd rfl (Or.inl rfl) (pe_op op_modN (pe_callTy call_int1 rfl T.n_int (by decide +kernel) (pa_cons (pe_op op_pow (pe_op op_add (pe_op op_add (pe_op op_modN (pe_callTy call_int1 rfl T.n_int (by decide +kernel) (pa_cons (pv 4) pa_nil)) pe_int) (pe_op op_mul pe_int (pv 3))) pe_int) pe_int) pa_nil)) pe_int)) (pss_cons (ps_set (i := 6) sc__law_draw_b.nd rfl (Or.inl rfl) (pe_op op_modN (pe_callTy call_int1 rfl T.n_int (by decide +kernel) (pa_cons (pe_op op_pow (pe_op op_add (pe_op op_add (pe_op op_mul (pv 6) (pe_op op_add (pe_op op_mul pe_int (pv 3)) pe_int)) (pe_op op_mul (pe_op op_mul pe_int (pv 3)) (pv 3))) pe_int) pe_int) pa_nil)) pe_int)) (pss_one (ps_ret (pe_op op_modN (pe_callTy call_int1 rfl T.n_int (by decide +kernel) (pa_cons (pe_op op_fdivN (pv 6) pe_int) pa_nil)) (pv 1)))))))))))), ?_⟩
    obtain ⟨p, q, m, n, rfl, m1, m2, hn, ⟨cs, a, r, hpp, hqq, pq, hl, a0, an, r0⟩, k⟩ := h
    rw [show L2.start ["pen", "many", "digit", "at", "cell", "great", "mixed"] [V.ref p, V.int m] = [some (.ref p), some (.int m), none, none, none, none, none] from rfl]
    walk_at "rd"
    refine ite2 (fun c => ?_) (fun c => ?_)
    · walk_at "rd"
      refine set_abs [.ref q, .int a, .int (r.fdiv m)] hpp rfl rfl (fun H1 h1 e1 => ?_)
      walk_at "rd"
      exact k _ _ (fmod_in r m m1).1 (fmod_in r m m1).2 ⟨cs, a, _, h1, e1 _ _ pq.symm hqq, pq, hl, a0, by omega, fdiv_nonneg r0 m1⟩ e1
    · walk_at "rd"
      refine set_abs [.ref q, .int (a + 1), .int r] hpp rfl rfl (fun H1 h1 e1 => ?_)
      have q1 := e1 _ _ pq.symm hqq
      walk_at "rd"
      intro z hz
      generalize hE : upd H1 z _ = H2
      obtain ⟨h2, e2⟩ := new_ok hE hz
      have q2 := e2 _ _ q1
      have p2 := e2 _ _ h1
      refine ⟨_, _, dp_ints q2, dp_nil h2, shaped_ints _, shaped_nil, ?_⟩
      have ex := e1.trans (.of e2)
      -- the cell
      refine ⟨_, rfl, ?_⟩
      refine ite2 (fun c2 => ?_) (fun c2 => ?_)
      · have c3 : 1 ≤ ((cs.map V.int).length : Int) := by
          cases cs with
          | nil => rw [List.map_nil, eqv_nil] at c2; simp at c2
          | cons x r => simp only [List.map_cons, List.length_cons]; omega
        have i2 := fmod_in a _ c3
        have i3 : atI (cs.map V.int) (a.fmod ((cs.map V.int).length : Int)) = some (.int (cs.getD (a.fmod ((cs.map V.int).length : Int)).toNat 0)) := at_ints i2.1 (by have := i2.2; rw [List.length_map] at this ⊢; exact this)
        walk_at "rd"
        refine ⟨_, _, _, _, rfl, rfl, SqL.of q2, i3, ?_⟩
        walk_at "nm"
        generalize cs.getD _ 0 = cell
        walk_at "rd"
        refine ite2 (fun c4 => ?_) (fun c4 => ?_)
        · walk_at "rd"
          refine ite2 (fun c5 => ?_) (fun c5 => ?_)
          · walk_at "rd"
            refine set_abs _ p2 rfl rfl (fun H3 h3 e3 => ?_)
            walk_at "rd"
            exact k _ _ (fmod_in _ m m1).1 (fmod_in _ m m1).2 ⟨cs, a + 1, _, h3, e3 _ _ pq.symm q2, pq, hl, by omega, by omega, fdiv_nonneg (great_pos c5) m1⟩ (ex.trans e3)
          · walk_at "rd"
            refine ⟨⟨by decide, by decide, ?_⟩, ?_⟩
            · have f1 := fmod_in cell 2147483579 (by decide)
              omega
            walk_at "rd"
            walk_at "nm"
            generalize hm : Int.fmod _ 2147483543 = mixed
            have f2 : 0 ≤ mixed ∧ mixed < 2147483543 := by rw [← hm]; exact fmod_in _ _ (by decide)
            refine ⟨Or.inl ⟨by omega, by omega⟩, ?_⟩
            walk_at "rd"
            refine ⟨⟨by decide, by decide, mix3 f2.1 (by omega) (by omega) (by omega) (by decide) (by decide) (by decide)⟩, ?_⟩
            walk_at "rd"
            exact k _ _ (fmod_in _ m m1).1 (fmod_in _ m m1).2 ⟨cs, a + 1, r, p2, q2, pq, hl, by omega, by omega, r0⟩ ex
        · walk_at "rd"
          refine ⟨⟨by decide, by decide, ?_⟩, ?_⟩
          · have f1 := fmod_in cell 2147483579 (by decide)
            omega
          walk_at "rd"
          walk_at "nm"
          generalize hm : Int.fmod _ 2147483543 = mixed
          have f2 : 0 ≤ mixed ∧ mixed < 2147483543 := by rw [← hm]; exact fmod_in _ _ (by decide)
          refine ⟨Or.inl ⟨by omega, by omega⟩, ?_⟩
          walk_at "rd"
          refine ⟨⟨by decide, by decide, mix3 f2.1 (by omega) (by omega) (by omega) (by decide) (by decide) (by decide)⟩, ?_⟩
          walk_at "rd"
          exact k _ _ (fmod_in _ m m1).1 (fmod_in _ m m1).2 ⟨cs, a + 1, r, p2, q2, pq, hl, by omega, by omega, r0⟩ ex
      · walk_at "nm"
        generalize (58291 * a + 1337) = cell
        walk_at "rd"
        refine ite2 (fun c4 => ?_) (fun c4 => ?_)
        · walk_at "rd"
          refine ite2 (fun c5 => ?_) (fun c5 => ?_)
          · walk_at "rd"
            refine set_abs _ p2 rfl rfl (fun H3 h3 e3 => ?_)
            walk_at "rd"
            exact k _ _ (fmod_in _ m m1).1 (fmod_in _ m m1).2 ⟨cs, a + 1, _, h3, e3 _ _ pq.symm q2, pq, hl, by omega, by omega, fdiv_nonneg (great_pos c5) m1⟩ (ex.trans e3)
          · walk_at "rd"
            refine ⟨⟨by decide, by decide, ?_⟩, ?_⟩
            · have f1 := fmod_in cell 2147483579 (by decide)
              omega
            walk_at "rd"
            walk_at "nm"
            generalize hm : Int.fmod _ 2147483543 = mixed
            have f2 : 0 ≤ mixed ∧ mixed < 2147483543 := by rw [← hm]; exact fmod_in _ _ (by decide)
            refine ⟨Or.inl ⟨by omega, by omega⟩, ?_⟩
            walk_at "rd"
            refine ⟨⟨by decide, by decide, mix3 f2.1 (by omega) (by omega) (by omega) (by decide) (by decide) (by decide)⟩, ?_⟩
            walk_at "rd"
            exact k _ _ (fmod_in _ m m1).1 (fmod_in _ m m1).2 ⟨cs, a + 1, r, p2, q2, pq, hl, by omega, by omega, r0⟩ ex
        · walk_at "rd"
          refine ⟨⟨by decide, by decide, ?_⟩, ?_⟩
          · have f1 := fmod_in cell 2147483579 (by decide)
            omega
          walk_at "rd"
          walk_at "nm"
          generalize hm : Int.fmod _ 2147483543 = mixed
          have f2 : 0 ≤ mixed ∧ mixed < 2147483543 := by rw [← hm]; exact fmod_in _ _ (by decide)
          refine ⟨Or.inl ⟨by omega, by omega⟩, ?_⟩
          walk_at "rd"
          refine ⟨⟨by decide, by decide, mix3 f2.1 (by omega) (by omega) (by omega) (by decide) (by decide) (by decide)⟩, ?_⟩
          walk_at "rd"
          exact k _ _ (fmod_in _ m m1).1 (fmod_in _ m m1).2 ⟨cs, a + 1, r, p2, q2, pq, hl, by omega, by omega, r0⟩ ex

theorem ok__law_pick_b (T : Txt P K mg) : FnR P w K mg base (L2.CX P w) 2 (He.ga K "_law_pick_b") spPick := by
  obtain ⟨fd, F⟩ := T.d__law_pick_b
  refine fo_of F sc__law_pick_b (fun _ _ _ _ _ _ us hl => match us, hl with | [_, _], _ => rfl) (fun vs H Q E h => ?_) (fun cdv A outer s H vs Q E hr h => ?_)
  · obtain ⟨p, q, a, xs, n, rfl, _⟩ := h; rfl
  · refine ⟨_, (pss_one (ps_ret (pe_ix ix_list (pv 1) (pe_callR (ok__law_draw_b T) (hr.mono (by decide)) rfl T.g__law_draw_b T.k__law_draw_b px0 (pa_cons (pv 0) (pa_cons (pe_callB call_len_seq rfl T.n_len (by decide +kernel) (pa_cons (pv 1) pa_nil)) pa_nil))) (fun _ _ => rfl)))), ?_⟩
    obtain ⟨p, q, a, xs, n, rfl, ap, ha, hne, hl, hn, hp, k⟩ := h
    rw [show L2.start ["pen", "some"] [V.ref p, V.ref a] = [some (.ref p), some (.ref a)] from rfl]
    walk_at "rd"
    have hl1 : 1 ≤ xs.length := by
      cases xs with
      | nil => exact absurd rfl hne
      | cons x xs => simp
    refine ⟨p, q, _, n, rfl, by omega, by omega, hn, hp, fun d H' d0 d1 hp' e => ?_⟩
    obtain ⟨x, hx, hat⟩ := pick_at d0 d1
    exact ⟨_, _, _, _, rfl, rfl, .of (e _ _ ap ha), hat, k x H' hx hp' e⟩
theorem ok__law_factor_b (T : Txt P K mg) : FnR P w K mg base (L2.CX P w) 3 (He.ga K "_law_factor_b") spFactor := by
  obtain ⟨fd, F⟩ := T.d__law_factor_b
  refine fo_of F sc__law_factor_b (fun _ _ _ _ _ _ us hl => match us, hl with | [_], _ => rfl) (fun vs H Q E h => ?_) (fun cdv A outer s H vs Q E hr h => ?_)
  · obtain ⟨p, q, n, rfl, _⟩ := h; rfl
  · refine ⟨_, (pss_one (ps_ret (pe_callR (ok__law_pick_b T) (hr.mono (by decide)) rfl T.g__law_pick_b T.k__law_pick_b px0 (pa_cons (pv 0) (pa_cons (pe_lst (pa_cons pe_int (pa_cons pe_int (pa_cons pe_int (pa_cons (pe_un un_neg pe_int) (pa_cons pe_int (pa_cons (pe_un un_neg pe_int) (pa_cons pe_int (pa_cons (pe_un un_neg pe_int) (pa_cons (pe_op op_sub (pe_callR (ok__law_draw_b T) (hr.mono (by decide)) rfl T.g__law_draw_b T.k__law_draw_b px0 (pa_cons (pv 0) (pa_cons pe_int pa_nil))) pe_int) pa_nil)))))))))) pa_nil))))), ?_⟩
    obtain ⟨p, q, n, rfl, hn, hp, k⟩ := h
    rw [show L2.start ["pen"] [V.ref p] = [some (.ref p)] from rfl]
    walk_at "rd"
    walk_at "nm"
    walk_at "rd"
    refine ⟨p, q, 40, n, rfl, by decide, by decide, by omega, hp, fun d H' d0 d1 hp' e => ?_⟩
    walk_at "nm"
    walk_at "rd"
    intro z hz
    generalize hE : upd H' z _ = H2
    obtain ⟨h2, e2⟩ := new_ok hE hz
    obtain ⟨zp, zq⟩ := pen_ne hp' hz
    refine ⟨p, q, z, _, n + 1, rfl, zp, h2, by simp, by simp, by omega, hp'.same e2, fun x H3 hx hp3 e3 => ?_⟩
    have key : ∃ i : Int, x = .int i ∧ -20 ≤ i ∧ i ≤ 19 := by
      simp only [List.mem_cons, List.not_mem_nil, or_false] at hx
      rcases hx with rfl | rfl | rfl | rfl | rfl | rfl | rfl | rfl | rfl <;> exact ⟨_, rfl, by omega, by omega⟩
    obtain ⟨i, rfl, i0, i1⟩ := key
    exact k i H3 i0 i1 (hp3.mono (by omega)) (e.trans ((ExtS.of e2).trans e3))
end
end K15

/-! ## words and numbers, plainly -/
namespace K15
open PySem PySem.Spec PyProof.Rows L2 Qk
def isDig (c : Nat) : Bool := decide (c ∈ ("0123456789" : Str).cps.toList)
def digs (w : Str) : Str := if Txt.slice w none (some 1) = "-" then Txt.slice w (some 1) none else w
def badW (w : Str) : Bool := decide (digs w = "") || (decide (((digs w).length : Int) > 60) || !(digs w).cps.toList.all isDig)
def numW (w : Str) : Option Int := if badW w = true then none else match intText? w with
  | some v => if (toString v : Str) = w ∧ -(10 ^ 60) ≤ v ∧ v ≤ 10 ^ 60 then some v else none
  | none => none
/-- a word of which the model's int(..) is known -/
def Known (w : Str) : Prop := w.length ≤ 100 ∧ w.cps.all (· < 0x110000) = true ∧ (badW w = true ∨ ∃ v, intText? w = some v ∧ v.natAbs ≤ 10 ^ 60)
theorem digs_S (a : List Nat) : digs (SX.S a) = if a.take 1 = [45] then SX.S (a.drop 1) else SX.S a := by
  unfold digs
  rw [SX.slice_to (by decide), SX.slice_from (by decide)]
  have e : ("-" : Str) = SX.S [45] := by decide +kernel
  rw [e]
  show (if SX.S (a.take 1) = SX.S [45] then SX.S (a.drop 1) else SX.S a) = _
  by_cases h : a.take 1 = [45]
  · rw [if_pos h, if_pos (by rw [h])]
  · rw [if_neg h, if_neg (fun z => h (SX.S_inj z))]
theorem isDig_of {c : Nat} (h : 48 ≤ c ∧ c ≤ 57) : isDig c = true := by
  have : ∀ k : Nat, k < 58 → 48 ≤ k → isDig k = true := by decide +kernel
  exact this c (by omega) h.1
theorem str_nat (n : Nat) : (toString ((n : Nat) : Int) : Str) = SX.S (TL.numL n) := SX.num_S n
theorem str_neg (k : Nat) : (toString (Int.negSucc k) : Str) = SX.S (45 :: TL.numL (k + 1)) := by
  refine TL.ext_tl ?_
  have e : (toString (Int.negSucc k) : String) = "-" ++ toString (((k + 1 : Nat) : Int)) := rfl
  show TL.tl (Str.ofString (toString (Int.negSucc k))) = _
  rw [e, TL.tl_ofString, String.toList_append, List.map_append, ← TL.tl_ofString (toString ((k + 1 : Nat) : Int)), TL.tl_num]
  rfl
theorem badW_digs {w : Str} {a : List Nat} (e : digs w = SX.S a) (ha : NumText.AllDigits a) (hn : a ≠ []) (hl : a.length ≤ 60) : badW w = false := by
  unfold badW
  rw [e]
  have e0 : ("" : Str) = SX.S [] := by decide +kernel
  have h1 : decide (SX.S a = ("" : Str)) = false := decide_eq_false fun z => hn (SX.S_inj (z.trans e0))
  have h2 : decide (((SX.S a).length : Int) > 60) = false := decide_eq_false (by rw [SX.S_len]; omega)
  have h3 : (SX.S a).cps.toList.all isDig = true := List.all_eq_true.mpr fun c hc => isDig_of (ha c hc)
  rw [h1, h2, h3]
  rfl
theorem all_lt {l : List Nat} (h : ∀ c ∈ l, c < 0x110000) : (SX.S l).cps.all (· < 0x110000) = true := by
  rw [← Array.all_toList, List.all_eq_true]
  exact fun c hc => decide_eq_true (h c hc)
theorem word_int {i : Int} (h : i.natAbs < 10 ^ 60) : badW (toString i : Str) = false ∧ intText? (toString i : Str) = some i ∧ (toString i : Str).length ≤ 61 ∧ 32 ∉ TL.tl (toString i : Str) ∧ (toString i : Str).cps.all (· < 0x110000) = true := by
  cases i with
  | ofNat n =>
    have hn : n < 10 ^ 60 := h
    have hl := TL.numL_len (k := 60) (by decide) hn
    have hd := TL.numL_digits n
    show badW (toString ((n : Nat) : Int) : Str) = false ∧ intText? (toString ((n : Nat) : Int) : Str) = some ((n : Nat) : Int) ∧ (toString ((n : Nat) : Int) : Str).length ≤ 61 ∧ 32 ∉ TL.tl (toString ((n : Nat) : Int) : Str) ∧ (toString ((n : Nat) : Int) : Str).cps.all (· < 0x110000) = true
    refine ⟨?_, TL.int_num (by omega), ?_, ?_, ?_⟩
    · refine badW_digs (a := TL.numL n) ?_ hd (TL.numL_ne n) hl
      rw [str_nat, digs_S, if_neg]
      intro z
      have hm : 45 ∈ TL.numL n := List.mem_of_mem_take (by rw [z]; simp)
      have := hd _ hm
      omega
    · rw [str_nat, SX.S_len]; omega
    · rw [str_nat]; exact TL.numL_free (by omega)
    · rw [str_nat]; exact all_lt fun c hc => by have := hd c hc; omega
  | negSucc k =>
    have hk : k + 1 < 10 ^ 60 := h
    have hl := TL.numL_len (k := 60) (by decide) hk
    have hd := TL.numL_digits (k + 1)
    refine ⟨?_, ?_, ?_, ?_, ?_⟩
    · refine badW_digs (a := TL.numL (k + 1)) ?_ hd (TL.numL_ne _) hl
      rw [str_neg, digs_S, if_pos (by simp)]
      rfl
    · rw [str_neg]
      rw [intText_neg (x := SX.S (45 :: TL.numL (k + 1))) (cs := TL.numL (k + 1)) rfl hd (TL.numL_ne _) (by rw [SX.S_len, List.length_cons]; omega), TL.numL_val]
      rfl
    · rw [str_neg, SX.S_len, List.length_cons]; omega
    · rw [str_neg]
      show 32 ∉ 45 :: TL.numL (k + 1)
      intro hm
      rcases List.mem_cons.mp hm with e | hm
      · cases e
      · exact TL.numL_free (by omega) hm
    · rw [str_neg]
      refine all_lt fun c hc => ?_
      rcases List.mem_cons.mp hc with rfl | hc
      · decide
      · have := hd c hc; omega
theorem known_int {i : Int} (h : i.natAbs < 10 ^ 60) : Known (toString i : Str) := by
  obtain ⟨_, h2, h3, _, h5⟩ := word_int h
  exact ⟨by omega, h5, .inr ⟨i, h2, by omega⟩⟩
theorem numW_int {i : Int} (h : i.natAbs < 10 ^ 60) : numW (toString i : Str) = some i := by
  obtain ⟨h1, h2, _, _⟩ := word_int h
  unfold numW
  rw [h1, h2]
  have : (10 : Nat) ^ 60 = 1000000000000000000000000000000000000000000000000000000000000 := by decide
  rw [if_neg (by decide)]
  exact if_pos ⟨rfl, by omega, by omega⟩
theorem numW_bad {w : Str} (h : badW w = true) : numW w = none := if_pos h
theorem known_bad {w : Str} (hl : w.length ≤ 100) (ha : w.cps.all (· < 0x110000) = true) (h : badW w = true) : Known w := ⟨hl, ha, .inl h⟩
def lead : List Str → List Int
  | [] => []
  | w :: ws => (numW w).elim [] fun i => i :: lead ws
theorem lead_cons (w : Str) (ws : List Str) : lead (w :: ws) = (numW w).elim [] fun i => i :: lead ws := rfl
theorem lead_le : ∀ ws : List Str, (lead ws).length ≤ ws.length
  | [] => Nat.le_refl _
  | w :: ws => by
    rw [lead_cons]
    cases numW w with
    | none => exact Nat.zero_le _
    | some i => exact Nat.succ_le_succ (lead_le ws)
def strsN (ns : List Int) : List Str := ns.map fun i => (toString i : Str)
def smallN (ns : List Int) : Prop := ∀ i ∈ ns, i.natAbs < 10 ^ 60
theorem lead_app : ∀ {ns : List Int} (r : List Str), smallN ns → lead (strsN ns ++ r) = ns ++ lead r
  | [], _, _ => rfl
  | n :: ns, r, h => by
    have h1 := numW_int (h n (List.mem_cons_self ..))
    have ih := lead_app (ns := ns) r fun i hi => h i (List.mem_cons_of_mem _ hi)
    show lead ((toString n : Str) :: (strsN ns ++ r)) = n :: (ns ++ lead r)
    rw [lead_cons, h1, ← ih]
    rfl
theorem strs_len (ns : List Int) : (strsN ns).length = ns.length := List.length_map _
/-- what stops the reading of numbers -/
def Stop : List Str → Prop
  | [] => True
  | x :: _ => numW x = none
theorem lead_pre {ns : List Int} {r : List Str} (h : smallN ns) (hl : ns.length ≤ 8) (hr : ns.length = 8 ∨ Stop r) : lead ((strsN ns ++ r).take 8) = ns := by
  rw [List.take_append, List.take_of_length_le (by rw [strs_len]; exact hl), lead_app _ h, strs_len]
  have : lead (r.take (8 - ns.length)) = [] := by
    rcases hr with hr | hr
    · rw [hr]; rfl
    · cases r with
      | nil => rw [List.take_nil]; rfl
      | cons x r =>
        cases 8 - ns.length with
        | zero => rfl
        | succ k =>
          rw [List.take_succ_cons, lead_cons, show numW x = none from hr]
          rfl
  rw [this, List.append_nil]
/-- Bound.read of words: the word at which it fails, or the bound -/
def readF (fs : List Int) (ws : List Str) : Nat ⊕ (List Int × Bool) :=
  if ws.length = fs.length ∨ ¬ (ws.getD fs.length "" = ">=" ∨ ws.getD fs.length "" = ">") then .inl fs.length
  else if (ws.drop (fs.length + 1)).take 1 ≠ [("0" : Str)] then .inl (fs.length + 1)
  else if ws.length > fs.length + 2 then .inl (fs.length + 2)
  else .inr (fs, decide (ws.getD fs.length "" = ">"))
def readW (ws : List Str) : Nat ⊕ (List Int × Bool) := readF (lead (ws.take 8)) ws
section
variable {ns : List Int} {x : Str} {r : List Str}
theorem getD_app : ∀ (ns : List Int) (x : Str) (r : List Str), (strsN ns ++ x :: r).getD ns.length "" = x
  | [], _, _ => rfl
  | _ :: ns, x, r => getD_app ns x r
theorem drop_app (ns : List Int) (x : Str) (r : List Str) : (strsN ns ++ x :: r).drop (ns.length + 1) = r := by
  rw [List.drop_append, strs_len, List.drop_of_length_le (by rw [strs_len]; omega), Nat.add_sub_cancel_left]
  rfl
theorem read_nil (h : smallN ns) (hl : ns.length ≤ 8) : readW (strsN ns) = .inl ns.length := by
  have e := lead_pre (r := []) h hl (.inr True.intro)
  rw [List.append_nil] at e
  unfold readW
  rw [e]
  unfold readF
  exact if_pos (.inl (strs_len ns))
theorem read_bad (h : smallN ns) (hl : ns.length ≤ 8) (hr : ns.length = 8 ∨ Stop (x :: r)) (h1 : x ≠ ">=") (h2 : x ≠ ">") : readW (strsN ns ++ x :: r) = .inl ns.length := by
  unfold readW
  rw [lead_pre h hl hr]
  unfold readF
  rw [getD_app]
  exact if_pos (.inr fun z => z.elim h1 h2)
theorem op_stop (st : Bool) : numW (opS st) = none := numW_bad (by cases st <;> decide +kernel)
theorem read_op (h : smallN ns) (hl : ns.length ≤ 8) (st : Bool) : readW (strsN ns ++ opS st :: r) =
    if r.take 1 ≠ [("0" : Str)] then .inl (ns.length + 1) else if r.length > 1 then .inl (ns.length + 2) else .inr (ns, st) := by
  unfold readW
  rw [lead_pre h hl (.inr (show Stop (opS st :: r) from op_stop st))]
  unfold readF
  rw [getD_app, drop_app]
  have h1 : ¬ ((strsN ns ++ opS st :: r).length = ns.length ∨ ¬ (opS st = ">=" ∨ opS st = ">")) := by
    rintro (e | e)
    · rw [List.length_append, strs_len, List.length_cons] at e; omega
    · exact e (by cases st <;> simp [opS])
  have h2 : decide (opS st = ">") = st := by cases st <;> decide +kernel
  have h3 : (strsN ns ++ opS st :: r).length = ns.length + 1 + r.length := by rw [List.length_append, strs_len, List.length_cons]; omega
  rw [if_neg h1, h2, h3]
  by_cases h4 : r.take 1 = [("0" : Str)]
  · by_cases h5 : r.length > 1
    · rw [if_neg (not_not_intro h4), if_neg (not_not_intro h4), if_pos h5, if_pos (show ns.length + 1 + r.length > ns.length + 2 by omega)]
    · rw [if_neg (not_not_intro h4), if_neg (not_not_intro h4), if_neg h5, if_neg (show ¬ ns.length + 1 + r.length > ns.length + 2 by omega)]
  · rw [if_pos h4, if_pos h4]
end
/-! ### lists of texts as data -/
theorem dpAll_strs {K : PySem.W.Frag} {H : Hp} : ∀ l : List Str, DpAll K H (l.map V.str) (l.map PyData.str)
  | [] => .nil
  | x :: l => .cons (.str x) (dpAll_strs l)
theorem dp_strs {K : PySem.W.Frag} {H : Hp} {a : Addr} {l : List Str} (h : H a = some (.lst (l.map V.str))) : Dp K H (.ref a) (.list (l.map PyData.str)) := .lst (.of h) (dpAll_strs l)
theorem lay_strs : ∀ l : List Str, (∀ x ∈ l, x.cps.all (· < 0x110000) = true) → PyData.canLayAll0 (l.map PyData.str) = true ∧ PyData.depthAll (l.map PyData.str) ≤ 1
  | [], _ => ⟨by simp [PyData.canLayAll0], by simp [PyData.depthAll]⟩
  | x :: l, h => by
    obtain ⟨h1, h2⟩ := lay_strs l fun y hy => h y (List.mem_cons_of_mem _ hy)
    have hx : PyData.strOk x = true := h x (List.mem_cons_self ..)
    constructor
    · simp only [List.map_cons, PyData.canLayAll0, PyData.canLay0, h1, hx, Bool.and_self]
    · simp only [List.map_cons, PyData.depthAll, PyData.depth]
      omega
theorem shaped_strs {l : List Str} (h : ∀ x ∈ l, x.cps.all (· < 0x110000) = true) : SeqAt.shaped (.list (l.map PyData.str)) = true := by
  obtain ⟨h1, h2⟩ := lay_strs l h
  unfold SeqAt.shaped
  rw [Bool.and_eq_true, decide_eq_true_eq]
  refine ⟨by simp only [PyData.canLay0, h1], ?_⟩
  simp only [PyData.depth]
  omega
theorem eqv_strs (l m : List Str) : PyData.eqv (.list (l.map PyData.str)) (.list (m.map PyData.str)) = decide (l = m) := by
  have : ∀ (l m : List Str), PyData.eqvAll (l.map PyData.str) (m.map PyData.str) = decide (l = m) := by
    intro l
    induction l with
    | nil => intro m; cases m <;> simp [PyData.eqvAll]
    | cons x l ih =>
      intro m
      cases m with
      | nil => simp [PyData.eqvAll]
      | cons y m => by_cases h : x = y <;> simp [PyData.eqvAll, PyData.eqv, ih, h]
  simp [PyData.eqv, this]
end K15

namespace K15
open PySem PySem.Spec PyProof.Rows L2 Qk
section
variable {P : Program} {w : World} {K : PySem.W.Frag} {mg : Str → Option Value} {base : Heap}
def optV : Option Int → V
  | some i => .int i
  | none => .non
theorem if_cut {c : Bool} {A B C : Prop} (h1 : c = true → C → A) (h2 : c = false → C → B) (h : C) : if c = true then A else B := by
  cases c with
  | true => exact h1 rfl h
  | false => exact h2 rfl h
theorem str_eq {a b : Str} : decide (V.str a = V.str b) = decide (a = b) := by
  by_cases h : a = b
  · rw [h, decide_eq_true rfl, decide_eq_true rfl]
  · rw [decide_eq_false h, decide_eq_false fun z => h (V.str.inj z)]
def spNum : Sp := fun vs H Q _ => ∃ (z : Str), vs = [.str z, .int (-(10 ^ 60)), .int (10 ^ 60)] ∧ Known z ∧ ∀ H', Same H H' → Q (optV (numW z)) H'
theorem ok_number_of (T : Txt P K mg) : FnR P w K mg base (L2.CX P w) 1 (He.ga K "number_of") spNum := by
  obtain ⟨fd, F⟩ := T.d_number_of
  refine fo_of F sc_number_of (fun _ _ _ _ _ _ us hl => match us, hl with | [_, _, _], _ => rfl) (fun vs H Q E h => ?_) (fun cdv A outer s H vs Q E hr h => ?_)
  · obtain ⟨z, rfl, _⟩ := h; rfl
  · refine ⟨_, (pss_cons (ps_set (i := 3) sc_number_of.nd rfl (Or.inl rfl) (pe_ifExp (pt_cmpR op_eq (pe_slice C8.sl_txt (pv 0) po_none (po_some pe_int)) pe_str (nomark _)) (pe_slice C8.sl_txt (pv 0) (po_some pe_int) po_none) (pv 0))) (pss_cons (ps_if (PW.pt (pw_or (pt_cmpR op_eq (pv 3) pe_str (nomark _)) (pw_or (pt_cmpR op_gt (pe_callB call_len_str rfl T.n_len (by decide +kernel) (pa_cons (pv 3) pa_nil)) (C8.pe_gc rfl T.c_MOST_FIGURES) (nomark _)) (pw_or1 (pt_not (pt_val (pe_callB (cr_all (by rfl)) rfl T.n_all (by decide +kernel) (pa_cons (pe_lc (own := [("sign", 5)]) (g := gName 5) (tt := tYes) rfl sc_number_of.nd (pi_str (pv 3)) (blkOk_by (own := [("sign", 5)]) (N := ["word", "least", "most", "digits", "number", "sign"]) (sc := defScope s_number_of) (by decide +kernel)) (fun _ _ _ _ _ => (pg_name (i := 5) sc_number_of.nd rfl (Or.inl rfl))) (fun _ _ _ _ _ => pts_nil) (fun _ _ _ _ _ => (pe_cmpR op_in_sign (pv 5) pe_str (by rfl)))) pa_nil)))))))) (pss_one (ps_ret pe_non)) pss_nil) (pss_cons (ps_set (i := 4) sc_number_of.nd rfl (Or.inl rfl) (pe_callTy call_int_str rfl T.n_int (by decide +kernel) (pa_cons (pv 0) pa_nil))) (pss_cons (ps_if (PW.pt (pw_or (pt_cmpR op_ne (pe_callTy call_str_int rfl T.n_str (by decide +kernel) (pa_cons (pv 4) pa_nil)) (pv 0) (nomark _)) (pw_or (PW.pt (pw_and (pt_cmpR op_notN (pv 1) pe_non (nomark _)) (pw_and1 (pt_cmpR op_lt (pv 4) (pv 1) (nomark _))))) (pw_or1 (PW.pt (pw_and (pt_cmpR op_notN (pv 2) pe_non (nomark _)) (pw_and1 (pt_cmpR op_gt (pv 4) (pv 2) (nomark _))))))))) (pss_one (ps_ret pe_non)) pss_nil) (pss_one (ps_ret (pv 4))))))), ?_⟩
    obtain ⟨z, rfl, hk, q⟩ := h
    rw [show L2.start ["word", "least", "most", "digits", "number", "sign"] [V.str z, V.int (-(10 ^ 60)), V.int (10 ^ 60)] = [some (.str z), some (.int (-(10 ^ 60))), some (.int (10 ^ 60)), none, none, none] from rfl]
    have sz : z.length ≤ sizeLine := Nat.le_of_lt (small_le (by have := hk.1; omega))
    refine ⟨_, rfl, _, rfl, ?_⟩
    refine ⟨z, rfl, sz, rfl, _, rfl, ?_⟩
    rw [str_eq]
    apply if_cut
    · intro c k
      have ed : digs z = Txt.slice z (some 1) none := if_pos (of_decide_eq_true c)
      refine ⟨_, rfl, _, rfl, ?_⟩
      refine ⟨z, rfl, sz, ?_⟩
      rw [← ed]
      exact k
    · intro c k
      have ed : digs z = z := if_neg (of_decide_eq_false c)
      refine ⟨_, rfl, ?_⟩
      rw [ed] at k
      exact k
    have ld : (digs z).length ≤ 100 := by
      have h1 := hk.1
      unfold digs
      split
      · rw [← C8.cutS_slice]
        exact Nat.le_trans (cutS_length z _ _) h1
      · exact h1
    generalize hd : digs z = d at ld
    try walk_at "nm"
    refine ⟨_, rfl, rfl, _, rfl, ?_⟩
    rw [str_eq]
    have bw : badW z = (decide (d = "") || (decide ((d.length : Int) > 60) || !d.cps.toList.all isDig)) := by unfold badW; rw [hd]
    have no : badW z = true → ∀ H', Same H H' → Q V.non H' := fun e H' e' => by
      have := q H' e'
      rw [numW_bad e] at this
      exact this
    refine ite2 (fun c => iteT (no (by rw [bw, c]; rfl) H (Same.refl H))) (fun c1 => ?_)
    have sd : d.length ≤ sizeLine := Nat.le_of_lt (small_le (by omega))
    refine ⟨_, rfl, d, rfl, sd, ?_⟩
    refine ⟨_, _, rfl, rfl, ?_⟩
    refine ⟨_, rfl, ?_⟩
    refine ite2 (fun c => iteT (no (by rw [bw, c]; simp) H (Same.refl H))) (fun c2 => ?_)
    try walk_at "nm"
    refine lc_signs (fun Q' h => ⟨_, rfl, h⟩) (fun c => V.bl (isDig c)) (by omega) (fun c hc H1 e1 A B hA => ?_) (fun D H1 hD hl e1 => ?_)
    · refine ⟨rfl, ?_⟩
      unfold tYes
      refine iteT ?_
      exact ⟨_, rfl, c, _, rfl, rfl, hA H1 (Same.refl H1)⟩
    · refine ⟨D, d.cps.toList.map isDig, rfl, .of (by rw [List.map_map]; exact hl), ?_⟩
      rw [List.all_map]
      refine ⟨_, rfl, ?_⟩
      have ec : (d.cps.toList.all (id ∘ isDig)) = d.cps.toList.all isDig := rfl
      rw [ec]
      refine ite2 (fun c => no (by rw [bw, c]; simp) H1 e1) (fun c3 => ?_)
      have nb : badW z = false := by
        rw [bw, Bool.eq_false_iff.mpr c1, Bool.eq_false_iff.mpr c2, Bool.eq_false_iff.mpr c3]
        rfl
      obtain ⟨v, hv, hb⟩ : ∃ v, intText? z = some v ∧ v.natAbs ≤ 10 ^ 60 := hk.2.2.resolve_left (by rw [nb]; exact Bool.false_ne_true)
      refine ⟨_, rfl, z, v, rfl, hv, by have := hk.1; omega, ?_⟩
      try walk_at "nm"
      refine ⟨_, rfl, v, rfl, log_small hb, ?_⟩
      have nv : numW z = if (toString v : Str) = z ∧ -(10 ^ 60) ≤ v ∧ v ≤ 10 ^ 60 then some v else none := by
        unfold numW
        rw [nb, hv]
        rfl
      have nn : ¬ ((toString v : Str) = z ∧ -(10 ^ 60) ≤ v ∧ v ≤ 10 ^ 60) → Q V.non H1 := fun e => by
        have := q H1 e1
        rw [nv, if_neg e] at this
        exact this
      refine ⟨_, rfl, rfl, _, rfl, ?_⟩
      rw [str_eq]
      refine ite2 (fun c => nn fun h => by rw [decide_eq_true h.1] at c; cases c) (fun c4 => ?_)
      have e4 : (toString v : Str) = z := by simpa using c4
      refine ⟨_, rfl, rfl, _, rfl, ?_⟩
      refine iteT ?_
      refine ⟨_, rfl, _, rfl, _, _, rfl, rfl, _, rfl, ?_⟩
      refine ite2 (fun c => nn fun h => by have := of_decide_eq_true c; omega) (fun c5 => ?_)
      have e5 : -(10 ^ 60) ≤ v := by have := of_decide_eq_false (Bool.eq_false_iff.mpr c5); omega
      refine ⟨_, rfl, rfl, _, rfl, ?_⟩
      refine iteT ?_
      refine ⟨_, rfl, _, rfl, _, _, rfl, rfl, _, rfl, ?_⟩
      refine ite2 (fun c => nn fun h => by have := of_decide_eq_true c; omega) (fun c6 => ?_)
      have e6 : v ≤ 10 ^ 60 := by have := of_decide_eq_false (Bool.eq_false_iff.mpr c6); omega
      refine ⟨_, rfl, ?_⟩
      have := q H1 e1
      rw [nv, if_pos ⟨e4, e5, e6⟩] at this
      exact this
end
end K15

namespace K15
open PySem PySem.Spec PyProof.Rows L2 Qk
section
variable {P : Program} {w : World} {K : PySem.W.Frag} {mg : Str → Option Value} {base : Heap}
theorem cut_to (xs : List V) (k : Nat) : cutV xs none (some (k : Int)) = xs.take k := by
  show (xs.drop 0).take ((if (k : Int) < 0 then ((k : Int) + xs.length).toNat else min (k : Int).toNat xs.length) - 0) = xs.take k
  rw [if_neg (by omega), Int.toNat_natCast, List.drop_zero, Nat.sub_zero]
  by_cases h : k ≤ xs.length
  · rw [Nat.min_eq_left h]
  · rw [Nat.min_eq_right (by omega), List.take_of_length_le (Nat.le_refl _), List.take_of_length_le (by omega)]
def spFac (K : PySem.W.Frag) : Sp := fun vs H Q _ => ∃ (a : Addr) (ws : List Str), vs = [.ref a] ∧ H a = some (.lst (ws.map V.str)) ∧ ws.length ≤ 100 ∧ (∀ z ∈ ws, Known z) ∧ ∀ b H', Same H H' → H b = none → H' b = some (.lst ((lead (ws.take 8)).map V.int)) → Q (.ref b) H'
theorem ok_factors_of (T : Txt P K mg) : FnR P w K mg base (L2.CX P w) 2 (He.ga K "factors_of") (spFac K) := by
  obtain ⟨fd, F⟩ := T.d_factors_of
  refine fo_of F sc_factors_of (fun _ _ _ _ _ _ us hl => match us, hl with | [_], _ => rfl) (fun vs H Q E h => ?_) (fun cdv A outer s H vs Q E hr h => ?_)
  · obtain ⟨a, ws, rfl, _⟩ := h; rfl
  · refine ⟨_, (pss_cons (ps_set (i := 1) sc_factors_of.nd rfl (Or.inl rfl) (pe_lst pa_nil)) (pss_cons (ps_for (passes_of rfl) rfl (pi_seq (pe_slice sl_list (pv 0) po_none (po_some (C8.pe_gc rfl T.c_MOST_NUMBERS)))) (pg_name (i := 2) sc_factors_of.nd rfl (Or.inl rfl)) (pss_cons (ps_set (i := 3) sc_factors_of.nd rfl (Or.inl rfl) (pe_callR (ok_number_of T) (hr.mono (by decide)) rfl T.g_number_of T.k_number_of px0 (pa_cons (pv 2) (pa_cons (pe_un un_neg (C8.pe_gc rfl T.c_MOST_DIGITS)) (pa_cons (C8.pe_gc rfl T.c_MOST_DIGITS) pa_nil))))) (pss_cons (ps_if (pt_cmpR op_isN (pv 3) pe_non (nomark _)) (pss_one (ps_ret (pv 1))) pss_nil) (pss_one (ps_expr (pe_bm PySem.F.plainAttrs_list PySem.F.slot_list_append PySem.F.type_list_append mt_append (pv 1) (pa_cons (pv 3) pa_nil))))))) (pss_one (ps_ret (pv 1))))), ?_⟩
    obtain ⟨a, ws, rfl, ha, hl, hk, q⟩ := h
    rw [show L2.start ["words", "found", "word", "factor"] [V.ref a] = [some (.ref a), none, none, none] from rfl]
    try walk_at "nm"
    refine ⟨by decide, fun b y1 => ?_⟩
    generalize hF1 : upd H b _ = H1
    obtain ⟨u1, v1⟩ := new_ok hF1 y1
    refine ⟨_, rfl, _, rfl, a, _, rfl, .of (v1 _ _ ha), fun c y2 => ?_⟩
    rw [show cutV (ws.map V.str) none (some 8) = (ws.take 8).map V.str from by rw [List.map_take]; exact cut_to _ 8]
    generalize hF2 : upd H1 c _ = H2
    obtain ⟨u2, v2⟩ := new_ok hF2 y2
    have bc : b ≠ c := ne_of_none u1 y2
    have kn : ∀ z ∈ ws.take 8, Known z := fun z hz => hk z (List.mem_of_mem_take hz)
    have le8 : (ws.take 8).length ≤ 8 := by rw [List.length_take]; omega
    generalize ws.take 8 = us at kn q u2 hF2 le8
    refine ⟨c, _, rfl, .inl ⟨.of u2, ?_⟩⟩
    refine for_it (walk_list (K := K) (a := c) (xs := us.map V.str)) (fun i σ H' => ∃ x : List (Option V), x.length = 2 ∧ σ = some (.ref a) :: some (.ref b) :: x ∧ ∃ fs : List Int, fs.length = i ∧ lead us = fs ++ lead (us.drop i) ∧ H' b = some (.lst (fs.map V.int)) ∧ H' c = some (.lst (us.map V.str)) ∧ Same H H')
      ⟨_, rfl, rfl, [], rfl, rfl, v2 _ _ u1, u2, v1.trans v2⟩ (fun i σ H' hi h => ?_) (fun i v σ H3 H4 hi h y => ?_) (fun σ H3 h => ?_)
    · obtain ⟨_, _, _, _, _, _, _, h, _⟩ := h
      exact .of h
    · obtain ⟨x, hx, rfl, fs, lf, el, hb, hc, e⟩ := h
      obtain ⟨rfl, ev⟩ := y
      rw [List.length_map] at hi
      rw [List.getElem?_map, List.getElem?_eq_getElem hi] at ev
      obtain rfl : V.str us[i] = v := Option.some.inj ev
      have kz := kn us[i] (List.getElem_mem hi)
      rw [List.drop_eq_getElem_cons hi, lead_cons] at el
      generalize us[i] = z at kz el
      match x, hx with
      | [x1, x2], _ =>
      clear hx ev
      try walk_at "nm"
      refine ⟨_, rfl, ?_⟩
      refine ⟨_, rfl, ?_⟩
      refine ⟨z, rfl, kz, fun H5 e5 => ?_⟩
      cases hn : numW z with
      | none =>
        rw [hn] at el
        refine ⟨_, rfl, rfl, _, rfl, ?_⟩
        refine iteT ⟨_, rfl, q b H5 (e.trans e5) y1 ?_⟩
        rw [el]
        show H5 b = some (.lst ((fs ++ []).map V.int))
        rw [List.append_nil]
        exact e5 _ _ hb
      | some v =>
        rw [hn] at el
        refine ⟨_, rfl, rfl, _, rfl, ?_⟩
        refine iteF ?_
        have hb5 := e5 _ _ hb
        refine ⟨_, rfl, .inl ⟨rfl, _, .of hb5⟩, ?_⟩
        refine ⟨_, rfl, b, _, _, rfl, rfl, hb5, ?_, ?_⟩
        · have : fs.length < us.length := by omega
          exact small_le (by rw [List.length_map]; omega)
        · refine ⟨[_, _], rfl, rfl, fs ++ [v], by simp [lf], ?_, ?_, ?_, ?_⟩
          · rw [el, List.append_assoc]; rfl
          · rw [upd_same, List.map_append]; rfl
          · rw [upd_ne bc.symm]; exact e5 _ _ hc
          · intro k o hk
            rw [upd_ne (ne_of_none hk y1)]
            exact e5 _ _ (e _ _ hk)
    · obtain ⟨x, hx, rfl, fs, lf, el, hb, hc, e⟩ := h
      rw [List.length_map] at lf el
      rw [List.drop_length] at el
      refine ⟨_, rfl, ?_⟩
      refine q b H3 e y1 ?_
      rw [el, show lead [] = [] from rfl, List.append_nil]
      exact hb
end
end K15

namespace K15
open PySem PySem.Spec PyProof.Rows L2 Qk
section
variable {P : Program} {w : World} {K : PySem.W.Frag} {mg : Str → Option Value} {base : Heap}
/-- the words of a text; no text -/
inductive TextQ (K : PySem.W.Frag) (H : Hp) : V → Option (List Str) → Prop
  | txt {ws : List Str} (hne : ws ≠ []) (hl : ws.length ≤ 20) (hf : ∀ z ∈ ws, 32 ∉ TL.tl z) (hk : ∀ z ∈ ws, Known z) : TextQ K H (.str (Txt.join " " ws)) (some ws)
  | no {v : V} {t : Value} (h : TyX K H v t) (n : PySem.W.kitOne K t (.type "str") = some false) : TextQ K H v none
theorem joinL_len : ∀ l : List (List Nat), (∀ p ∈ l, p.length ≤ 100) → (TL.joinL [32] l).length ≤ 101 * l.length
  | [], _ => Nat.le_refl _
  | [p], h => by
    have := h p (List.mem_cons_self ..)
    show p.length ≤ 101 * 1
    omega
  | p :: q :: r, h => by
    have h1 := h p (List.mem_cons_self ..)
    have h2 := joinL_len (q :: r) fun z hz => h z (List.mem_cons_of_mem _ hz)
    show (p ++ ([32] ++ TL.joinL [32] (q :: r))).length ≤ 101 * (q :: r).length + 101
    rw [List.length_append, List.length_append]
    simp only [List.length_cons, List.length_nil] at h2 ⊢
    omega
theorem sp_tl : TL.tl (" " : Str) = [32] := by decide +kernel
theorem join_len {ws : List Str} (hl : ws.length ≤ 20) (hk : ∀ z ∈ ws, Known z) : (Txt.join " " ws).length ≤ 3000 := by
  rw [TL.join_eq, TL.len_tl, TL.tl_join, sp_tl]
  have := joinL_len (ws.map TL.tl) fun p hp => by
    obtain ⟨z, hz, rfl⟩ := List.mem_map.mp hp
    rw [← TL.len_tl]
    exact (hk z hz).1
  rw [List.length_map] at this
  omega
theorem split_words {ws : List Str} (hne : ws ≠ []) (hf : ∀ z ∈ ws, 32 ∉ TL.tl z) : Txt.split (Txt.join " " ws) " " = ws := TL.split_join sp_tl (by decide +kernel) hne hf
theorem cut_mid (xs : List V) (i j : Nat) (h : i ≤ j) : cutV xs (some (i : Int)) (some (j : Int)) = (xs.drop i).take (j - i) := by
  show (xs.drop (if (i : Int) < 0 then ((i : Int) + xs.length).toNat else min (i : Int).toNat xs.length)).take ((if (j : Int) < 0 then ((j : Int) + xs.length).toNat else min (j : Int).toNat xs.length) - (if (i : Int) < 0 then ((i : Int) + xs.length).toNat else min (i : Int).toNat xs.length)) = _
  rw [if_neg (by omega), if_neg (by omega), Int.toNat_natCast, Int.toNat_natCast]
  by_cases hi : i ≤ xs.length
  · rw [Nat.min_eq_left hi]
    by_cases hj : j ≤ xs.length
    · rw [Nat.min_eq_left hj]
    · rw [Nat.min_eq_right (by omega), List.take_of_length_le (by rw [List.length_drop]; exact Nat.le_refl _), List.take_of_length_le (by rw [List.length_drop]; omega)]
  · rw [Nat.min_eq_right (show xs.length ≤ j by omega), Nat.min_eq_right (show xs.length ≤ i by omega), Nat.sub_self, List.take_zero, List.drop_of_length_le (show xs.length ≤ i by omega), List.take_nil]
theorem inV_ops (op : Str) : inV (.str op) [.str ">=", .str ">"] = decide (op = ">=" ∨ op = ">") := by
  by_cases h1 : op = ">="
  · subst h1; decide +kernel
  · by_cases h2 : op = ">"
    · subst h2; decide +kernel
    · rw [decide_eq_false (fun z => z.elim h1 h2)]
      simp only [inV, List.any_cons, List.any_nil, eqV, Bool.or_false, Bool.or_eq_false_iff]
      constructor <;> first | exact decide_eq_false (fun z => by first | exact h1 z.symm | exact h2 z.symm) | (rw [beq_eq_false_iff_ne]; exact fun z => by first | exact h1 z.symm | exact h2 z.symm)
def spRead (K : PySem.W.Frag) : Sp := fun vs H Q E => ∃ (v : V) (o : Option (List Str)), vs = [.ref (He.ga K "Bound"), v] ∧ TextQ K H v o ∧ (o = none → bad K "BadText" H E [("word", .int 0), ("line", .int 0)]) ∧
  ∀ ws, o = some ws → (∀ n : Nat, readW ws = .inl n → bad K "BadText" H E [("word", .int n), ("line", .int 0)]) ∧ ∀ fs st, readW ws = .inr (fs, st) → ∀ b dx t H', Same H H' → BndT K H' b dx t fs st → Q (.ref b) H'
theorem fn_read (T : Txt P K mg) {g : Addr} {fd : FuncData} (F : FunD K "read" "Bound.read" (defArgs s_Bound_read) (defBody s_Bound_read) (defScope s_Bound_read) [] [] g fd) : FnOk P w K mg base (L2.CX P w) 6 g fd ["cls", "text"] (spRead K) := by
  obtain ⟨fdB, IB⟩ := init_b (P := P) (w := w) (base := base) T
  refine F.ok sc_Bound_read (fun vs H Q E h => ?_) (fun cdv A outer s H vs Q E hr h => ?_)
  · obtain ⟨v, o, rfl, _⟩ := h; rfl
  · refine ⟨_, (pss_cons (ps_if (pt_not (pt_val (pe_callB call_isi rfl T.n_isinstance (by decide +kernel) (pa_cons (pv 1) (pa_cons (pe_bltn (v := .ty "str") (u := .type "str") rfl T.n_str (by decide +kernel) rfl) pa_nil))))) (pss_one (ps_raiseN (k := 0) (x_BadText T) (hr.mono (by decide)) rfl (takes_of rfl rfl rfl rfl) (pa_cons pe_int (pa_cons pe_int pa_nil)) rfl)) pss_nil) (pss_cons (ps_set (i := 2) sc_Bound_read.nd rfl (Or.inl rfl) (pe_split (pv 1) pe_str)) (pss_cons (ps_set (i := 3) sc_Bound_read.nd rfl (Or.inl rfl) (pe_callR (ok_factors_of T) (hr.mono (by decide)) rfl T.g_factors_of T.k_factors_of px0 (pa_cons (pv 2) pa_nil))) (pss_cons (ps_set (i := 4) sc_Bound_read.nd rfl (Or.inl rfl) (pe_callB call_len_seq rfl T.n_len (by decide +kernel) (pa_cons (pv 3) pa_nil))) (pss_cons (ps_if (PW.pt (pw_or (pt_cmpR op_eq (pv 4) (pe_callB call_len_seq rfl T.n_len (by decide +kernel) (pa_cons (pv 2) pa_nil)) (nomark _)) (pw_or1 (pt_cmpR op_notIn_seq (pe_ix ix_list (pv 2) (pv 4) (fun _ _ => rfl)) (pe_tup (pa_cons pe_str (pa_cons pe_str pa_nil))) (by rfl))))) (pss_one (ps_raiseN (k := 0) (x_BadText T) (hr.mono (by decide)) rfl (takes_of rfl rfl rfl rfl) (pa_cons pe_int (pa_cons (pv 4) pa_nil)) rfl)) pss_nil) (pss_cons (ps_if (pt_cmpR (op_neD hr.units) (pe_slice sl_list (pv 2) (po_some (pe_op op_add (pv 4) pe_int)) (po_some (pe_op op_add (pv 4) pe_int))) (pe_lst (pa_cons pe_str pa_nil)) (nomark _)) (pss_one (ps_raiseN (k := 0) (x_BadText T) (hr.mono (by decide)) rfl (takes_of rfl rfl rfl rfl) (pa_cons pe_int (pa_cons (pe_op op_add (pv 4) pe_int) pa_nil)) rfl (mono := by intro σ H Q Q' hm h; obtain ⟨v, e, i, j, e1, e2, h⟩ := h; exact ⟨v, e, i, j, e1, e2, hm _ _ h⟩))) pss_nil) (pss_cons (ps_if (pt_cmpR op_gt (pe_callB call_len_seq rfl T.n_len (by decide +kernel) (pa_cons (pv 2) pa_nil)) (pe_op op_add (pv 4) pe_int) (nomark _)) (pss_one (ps_raiseN (k := 0) (x_BadText T) (hr.mono (by decide)) rfl (takes_of rfl rfl rfl rfl) (pa_cons pe_int (pa_cons (pe_op op_add (pv 4) pe_int) pa_nil)) rfl (mono := by intro σ H Q Q' hm h; obtain ⟨v, e, i, j, e1, e2, h⟩ := h; exact ⟨v, e, i, j, e1, e2, hm _ _ h⟩))) pss_nil) (pss_one (ps_ret (pe_makeL T.mk_Bound IB.r3 (hr.mono (by decide)) (pv 0) pxP (pa_cons (pe_callTy call_tuple_of rfl T.n_tuple (by decide +kernel) (pa_cons (pv 3) pa_nil)) (pa_cons (pe_cmpR op_eq (pe_ix ix_list (pv 2) (pv 4) (fun _ _ => rfl)) pe_str (nomark _)) pa_nil)))))))))))), ?_⟩
    obtain ⟨v, o, rfl, tq, q0, q1⟩ := h
    rw [show L2.start ["cls", "text", "words", "factors", "at"] [V.ref (He.ga K "Bound"), v] = [some (.ref (He.ga K "Bound")), some v, none, none, none] from rfl]
    have ty : ∃ ty, TyX K H v ty ∧ PySem.W.kitOne K ty (.type "str") = some o.isSome := by
      cases tq with
      | txt hne hl hf hk => exact ⟨_, .base (.str _), ki "str" "str" (r := true) (by decide +kernel) K⟩
      | no h n => exact ⟨_, h, n⟩
    obtain ⟨ty, tyx, kt⟩ := ty
    refine ⟨_, rfl, _, _, _, _, o.isSome, rfl, .ty _, tyx, kt, ?_⟩
    have raise_ : ∀ {n : Int}, bad K "BadText" H E [("word", .int n), ("line", .int 0)] → ∀ H2, Same H H2 → ∀ d H', H2 d = none → Same H2 H' → H' d = some (.xd [("word", .int n), ("line", .int 0)]) → E (.ref (He.ga K "BadText")) (some d) H' := fun hb H2 e2 d H' hd e3 hx => hb d H' (e2.trans e3) (none_of e2 hd) hx
    cases o with
    | none =>
      refine ⟨_, rfl, iteT ?_⟩
      exact ⟨rfl, by decide, raise_ (q0 rfl) H (Same.refl H)⟩
    | some ws =>
      refine ⟨_, rfl, iteF ?_⟩
      cases tq with
      | txt hne hl hf hk =>
      have jl := join_len hl hk
      refine ⟨_, rfl, ⟨_, rfl⟩, _, _, rfl, rfl, by decide +kernel, Nat.le_of_lt (small_le (by omega)), fun a y1 => ?_⟩
      rw [split_words hne hf]
      generalize hF1 : upd H a _ = H1
      obtain ⟨u1, v1⟩ := new_ok hF1 y1
      try walk_at "nm"
      refine ⟨_, rfl, a, ws, rfl, u1, by omega, hk, fun b H2 v2 y2 u2 => ?_⟩
      have w2 := v2 _ _ u1
      have le : (lead (ws.take 8)).length ≤ ws.length := Nat.le_trans (lead_le _) (by rw [List.length_take]; omega)
      have l8 : (lead (ws.take 8)).length ≤ 8 := Nat.le_trans (lead_le _) (by rw [List.length_take]; omega)
      have er : readW ws = readF (lead (ws.take 8)) ws := rfl
      generalize lead (ws.take 8) = fs at u2 le l8 er
      refine ⟨_, rfl, b, _, rfl, .inl (.of u2), ?_⟩
      rw [List.length_map]
      try walk_at "nm"
      refine ⟨_, rfl, ?_⟩
      refine ⟨_, rfl, a, _, rfl, .inl (.of w2), rfl, _, rfl, ?_⟩
      rw [List.length_map]
      have S2 := v1.trans v2
      have stop1 : ws.length = fs.length ∨ ¬ (ws.getD fs.length "" = ">=" ∨ ws.getD fs.length "" = ">") → bad K "BadText" H E [("word", .int (fs.length : Nat)), ("line", .int 0)] := fun h => (q1 ws rfl).1 _ (by rw [er]; exact if_pos h)
      refine ite2 (fun c => ?_) (fun c1 => ?_)
      · have ce : ((fs.length : Nat) : Int) = ((ws.length : Nat) : Int) := V.int.inj (of_decide_eq_true c)
        refine iteT ?_
        exact ⟨_, rfl, rfl, by simp, raise_ (stop1 (.inl (by omega))) H2 S2⟩
      · have hlt : fs.length < ws.length := by
          by_cases h : fs.length = ws.length
          · exact absurd (decide_eq_true (by rw [h])) c1
          · omega
        have hat : atI (ws.map V.str) ((fs.length : Nat) : Int) = some (.str (ws.getD fs.length "")) := atI_nat (by rw [List.getElem?_map, List.getElem?_eq_getElem hlt, List.getD_eq_getElem?_getD, List.getElem?_eq_getElem hlt]; rfl)
        generalize hop : ws.getD fs.length "" = op at stop1 hat
        refine ⟨_, rfl, _, rfl, _, _, _, _, rfl, rfl, .of w2, hat, ?_⟩
        try walk_at "nm"
        refine ⟨by decide, fun z y3 => ?_⟩
        generalize hF3 : upd H2 z _ = H3
        obtain ⟨u3, v3⟩ := new_ok hF3 y3
        have S3 := S2.trans v3
        have w3 := v3 _ _ w2
        refine ⟨z, _, rfl, .inr (.of u3), rfl, rfl, ?_⟩
        rw [if_pos rfl, inV_ops]
        refine ⟨_, rfl, ?_⟩
        refine ite2 (fun c => ?_) (fun c2 => ?_)
        · refine ⟨_, rfl, rfl, by simp, raise_ (stop1 (.inr fun h => ?_)) H3 S3⟩
          rw [decide_eq_true h] at c
          cases c
        · have hops : op = ">=" ∨ op = ">" := by
            by_cases h : op = ">=" ∨ op = ">"
            · exact h
            · rw [decide_eq_false h] at c2
              exact absurd rfl c2
          try walk_at "nm"
          have ne1 : ¬ (ws.length = fs.length ∨ ¬ (op = ">=" ∨ op = ">")) := by
            rintro (h | h)
            · omega
            · exact h hops
          have er2 : readW ws = if (ws.drop (fs.length + 1)).take 1 ≠ [("0" : Str)] then .inl (fs.length + 1) else if ws.length > fs.length + 2 then .inl (fs.length + 2) else .inr (fs, decide (op = ">")) := by
            rw [er]
            unfold readF
            rw [hop]
            exact if_neg ne1
          have ka : ∀ x ∈ (ws.drop (fs.length + 1)).take 1, x.cps.all (· < 0x110000) = true := fun x hx => (hk x (List.mem_of_mem_drop (List.mem_of_mem_take hx))).2.1
          refine ⟨_, rfl, _, rfl, _, _, rfl, rfl, _, rfl, _, rfl, _, _, rfl, rfl, _, rfl, a, _, rfl, .of w3, fun y y4 => ?_⟩
          have ec : cutV (ws.map V.str) (some (((fs.length : Nat) : Int) + 1)) (some (((fs.length : Nat) : Int) + 2)) = ((ws.drop (fs.length + 1)).take 1).map V.str := by
            have := cut_mid (ws.map V.str) (fs.length + 1) (fs.length + 2) (by omega)
            rw [← List.map_drop, ← List.map_take, show fs.length + 2 - (fs.length + 1) = 1 by omega] at this
            exact this
          rw [ec]
          generalize hF4 : upd H3 y _ = H4
          obtain ⟨u4, v4⟩ := new_ok hF4 y4
          have S4 := S3.trans v4
          have w4 := v4 _ _ w3
          refine ⟨by decide, fun z2 y5 => ?_⟩
          generalize hF5 : upd H4 z2 _ = H5
          obtain ⟨u5, v5⟩ := new_ok hF5 y5
          have S5 := S4.trans v5
          have w5 := v5 _ _ w4
          have x5 := (v3.trans (v4.trans v5)) _ _ u2
          refine ⟨_, _, dp_strs (v5 _ _ u4), dp_strs (l := ["0"]) u5, shaped_strs ka, shaped_strs (by decide +kernel), ?_⟩
          rw [eqv_strs]
          refine ⟨_, rfl, ?_⟩
          refine ite2 (fun c => ?_) (fun c3 => ?_)
          · have ne : (ws.drop (fs.length + 1)).take 1 ≠ [("0" : Str)] := fun h => by rw [decide_eq_true h] at c; cases c
            have rr := (q1 ws rfl).1 (fs.length + 1) (by rw [er2]; exact if_pos ne)
            exact ⟨_, rfl, _, _, rfl, rfl, rfl, by simp, raise_ rr H5 S5⟩
          · have eq0 : (ws.drop (fs.length + 1)).take 1 = [("0" : Str)] := by
              by_cases h : (ws.drop (fs.length + 1)).take 1 = [("0" : Str)]
              · exact h
              · rw [decide_eq_false h] at c3
                exact absurd rfl c3
            rw [if_neg (not_not_intro eq0)] at er2
            refine ⟨_, rfl, a, _, rfl, .inl (.of w5), ?_⟩
            rw [List.length_map]
            refine ⟨_, rfl, _, _, rfl, rfl, _, _, rfl, rfl, _, rfl, ?_⟩
            refine ite2 (fun c => ?_) (fun c4 => ?_)
            · have gt : ws.length > fs.length + 2 := by have := of_decide_eq_true c; omega
              have rr := (q1 ws rfl).1 (fs.length + 2) (by rw [er2]; exact if_pos gt)
              exact ⟨_, rfl, _, _, rfl, rfl, rfl, by simp, raise_ rr H5 S5⟩
            · have gt : ¬ ws.length > fs.length + 2 := by have := of_decide_eq_false (Bool.eq_false_iff.mpr c4); omega
              rw [if_neg gt] at er2
              refine ⟨_, rfl, rfl, _, rfl, b, _, rfl, .inl ⟨.of x5, fun tt y6 => ?_⟩⟩
              generalize hF6 : upd H5 tt _ = H6
              obtain ⟨u6, v6⟩ := new_ok hF6 y6
              refine ⟨_, rfl, _, rfl, _, _, _, _, rfl, rfl, .of (v6 _ _ w5), hat, rfl, ?_⟩
              rw [str_eq]
              refine fun bx bd z1 z2 z3 => init_ok z1 z2 z3 u6 l8 fun H7 s7 B7 => ⟨rfl, ?_⟩
              exact (q1 ws rfl).2 fs _ er2 bx bd tt H7 (S5.trans (v6.trans s7)) B7
end
end K15

namespace K15
open PySem PySem.Spec PyProof.Rows L2 Qk
section
variable {P : Program} {w : World} {K : PySem.W.Frag} {mg : Str → Option Value} {base : Heap}
/-- what _law_spot tells -/
def spotOf : Option (List Str) → Option Nat
  | none => some 0
  | some ws => match readW ws with
    | .inl n => some n
    | .inr _ => none
def spSpot (K : PySem.W.Frag) : Sp := fun vs H Q _ => ∃ (v : V) (o : Option (List Str)), vs = [v] ∧ TextQ K H v o ∧ (∀ n, spotOf o = some n → ∀ z H', Same H H' → H' z = some (.tup [.int 0, .int (n : Nat)]) → Q (.ref z) H') ∧ (spotOf o = none → ∀ H', Same H H' → Q .non H')
theorem ok__law_spot (T : Txt P K mg) : FnR P w K mg base (L2.CX P w) 7 (He.ga K "_law_spot") (spSpot K) := by
  obtain ⟨fd, F⟩ := T.d__law_spot
  refine fo_of F sc__law_spot (fun _ _ _ _ _ _ us hl => match us, hl with | [_], _ => rfl) (fun vs H Q E h => ?_) (fun cdv A outer s H vs Q E hr h => ?_)
  · obtain ⟨v, o, rfl, _⟩ := h; rfl
  · obtain ⟨pR, gR, fdR, cM0, cR0, FFR⟩ := T.r_read
    have FR : FnR P w K mg base (L2.CX P w) 6 gR (spRead K) := ((fn_read T FFR).raw (FFR.bindsN fun _ _ _ _ _ _ us hl => match us, hl with | [_, _], _ => rfl) .nil).imp fun vs H Q E h => by
      rw [List.append_nil]
      exact h
    refine ⟨_, (pss_cons (ps_set (i := 1) sc__law_spot.nd rfl (Or.inl rfl) pe_non) (pss_cons (ps_try_kept (i := 2) (x := "BadText") (n := "error") (c := .ref (He.ga K "BadText")) (Wout := fun _ _ _ _ => False) rfl rfl sc__law_spot.nd rfl rfl ⟨rfl, by decide, .inl T.e_BadText.gC⟩ LamX.takes0 (fun W pn xe tk _ => pss_one (ps_expr (pe_cmethS (E := WE W) (C8.pe_gc (v := .ref _) rfl ⟨_, T.g_Bound, rfl⟩) cR0 cM0 FR (hr.mono (by decide)) (fun σ => passAt tk σ) (pa_cons (pv 0) pa_nil)))) (fun a => pss_one (ps_set (i := 1) sc__law_spot.nd rfl (Or.inl rfl) (pv 2)))) (pss_one (ps_ret (pe_ifExp (pt_cmpR op_isN (pv 1) pe_non (nomark _)) pe_non (pe_tup (pa_cons (pe_xd (pv 1)) (pa_cons (pe_xd (pv 1)) pa_nil)))))))), ?_⟩
    obtain ⟨v, o, rfl, tq, q1, q2⟩ := h
    rw [show L2.start ["text", "caught", "error"] [v] = [some v, none, none] from rfl]
    try walk_at "nm"
    refine ⟨rfl, _, rfl, v, o, rfl, tq, fun h0 => ?_, fun ws e => ⟨fun n hn => ?_, fun fs st hrd b dx t H' e' B => ?_⟩⟩
    · intro d H2 e2 hd hx
      refine ⟨true, T.m_BadText, fun _ a na => ?_, fun z => by cases z⟩
      refine ⟨_, rfl, ?_⟩
      try walk_at "nm"
      generalize hE2 : upd H2 a _ = H3
      obtain ⟨h3, e3⟩ := new_ok hE2 na
      refine ⟨_, rfl, rfl, _, rfl, iteF ?_⟩
      refine ⟨_, rfl, a, d, _, _, _, rfl, h3, e3 _ _ hx, T.a_BadText, T.f_line, rfl, ?_⟩
      refine ⟨_, rfl, a, d, _, _, _, rfl, h3, e3 _ _ hx, T.a_BadText, T.f_word, rfl, ?_⟩
      try walk_at "nm"
      refine ⟨by decide, fun y hy => ?_⟩
      generalize hE4 : upd H3 y _ = H4
      obtain ⟨h4, e4⟩ := new_ok hE4 hy
      exact q1 0 (by rw [h0]; rfl) y H4 (e2.trans (e3.trans e4)) h4
    · intro d H2 e2 hd hx
      refine ⟨true, T.m_BadText, fun _ a na => ?_, fun z => by cases z⟩
      refine ⟨_, rfl, ?_⟩
      try walk_at "nm"
      generalize hE2 : upd H2 a _ = H3
      obtain ⟨h3, e3⟩ := new_ok hE2 na
      refine ⟨_, rfl, rfl, _, rfl, iteF ?_⟩
      refine ⟨_, rfl, a, d, _, _, _, rfl, h3, e3 _ _ hx, T.a_BadText, T.f_line, rfl, ?_⟩
      refine ⟨_, rfl, a, d, _, _, _, rfl, h3, e3 _ _ hx, T.a_BadText, T.f_word, rfl, ?_⟩
      try walk_at "nm"
      refine ⟨by decide, fun y hy => ?_⟩
      generalize hE4 : upd H3 y _ = H4
      obtain ⟨h4, e4⟩ := new_ok hE4 hy
      exact q1 n (by rw [e]; show (match readW ws with | .inl n => some n | .inr _ => none) = some n; rw [hn]) y H4 (e2.trans (e3.trans e4)) h4
    · exact ⟨_, rfl, rfl, _, rfl, iteT (q2 (by rw [e]; show (match readW ws with | .inl n => some n | .inr _ => none) = none; rw [hrd]) H' e')⟩
end
end K15

namespace K15
open PySem PySem.Spec PyProof.Rows L2 Qk
/-- a word without blanks of which the model's int(..) is known -/
def Good (z : Str) : Prop := Known z ∧ 32 ∉ TL.tl z
structure Words (ws : List Str) : Prop where
  ne : ws ≠ []
  le : ws.length ≤ 20
  ok : ∀ z ∈ ws, Good z
theorem good_int {i : Int} (h : i.natAbs < 10 ^ 60) : Good (toString i : Str) := ⟨known_int h, (word_int h).2.2.2.1⟩
theorem good_op (st : Bool) : Good (opS st) := by
  cases st <;> exact ⟨known_bad (by decide +kernel) (by decide +kernel) (by decide +kernel), by decide +kernel⟩
theorem good_0 : Good "0" := good_int (i := 0) (by decide)
theorem good_1 : Good "1" := good_int (i := 1) (by decide)
theorem good_e : Good "" := ⟨known_bad (by decide +kernel) (by decide +kernel) (by decide +kernel), by decide +kernel⟩
theorem good_words {ns : List Int} (h : smallN ns) (st : Bool) : ∀ z ∈ wordsB ns st, Good z := fun z hz => by
  rcases List.mem_append.mp hz with hz | hz
  · obtain ⟨i, hi, rfl⟩ := List.mem_map.mp hz
    exact good_int (h i hi)
  · simp only [List.mem_cons, List.not_mem_nil, or_false] at hz
    rcases hz with rfl | rfl
    · exact good_op st
    · exact good_0
section
variable {ns : List Int} {st : Bool} {d : Nat} {z : Str}
theorem wB (ns : List Int) (st : Bool) : wordsB ns st = strsN ns ++ [opS st, "0"] := rfl
theorem len_wB (ns : List Int) (st : Bool) : (wordsB ns st).length = ns.length + 2 := by rw [wB, List.length_append, strs_len]; rfl
theorem take_wB (hd : d ≤ ns.length) : (wordsB ns st).take d = strsN (ns.take d) := by
  rw [wB, List.take_append_of_le_length (by rw [strs_len]; exact hd)]
  unfold strsN
  rw [List.map_take]
theorem take_wB1 : (wordsB ns st).take (ns.length + 1) = strsN ns ++ [opS st] := by
  rw [wB, List.take_append, strs_len, List.take_of_length_le (by rw [strs_len]; omega), Nat.add_sub_cancel_left]
  rfl
theorem drop_wB : (wordsB ns st).drop ns.length = [opS st, "0"] := by
  rw [wB, List.drop_append, strs_len, List.drop_of_length_le (by rw [strs_len]; exact Nat.le_refl _), Nat.sub_self]
  rfl
theorem small_take (h : smallN ns) (d : Nat) : smallN (ns.take d) := fun i hi => h i (List.mem_of_mem_take hi)
theorem fail1 (h : smallN ns) (h8 : ns.length ≤ 8) (hd : d ≤ ns.length) (gz : Good z) (nz : numW z = none) (z1 : z ≠ ">=") (z2 : z ≠ ">") :
    Words ((wordsB ns st).take d ++ [z] ++ (wordsB ns st).drop (d + 1)) ∧ readW ((wordsB ns st).take d ++ [z] ++ (wordsB ns st).drop (d + 1)) = .inl d := by
  have gw := good_words h st
  constructor
  · refine ⟨by simp, by simp only [List.length_append, List.length_take, List.length_drop, len_wB, List.length_cons, List.length_nil]; omega, fun y hy => ?_⟩
    simp only [List.mem_append, List.mem_cons, List.not_mem_nil, or_false] at hy
    rcases hy with (hy | rfl) | hy
    · exact gw y (List.mem_of_mem_take hy)
    · exact gz
    · exact gw y (List.mem_of_mem_drop hy)
  · rw [take_wB hd, List.append_assoc]
    have lt : (ns.take d).length = d := by rw [List.length_take]; omega
    have := read_bad (ns := ns.take d) (x := z) (r := (wordsB ns st).drop (d + 1)) (small_take h d) (by omega) (.inr nz) z1 z2
    rw [lt] at this
    exact this
theorem fail2 (h : smallN ns) (h8 : ns.length ≤ 8) (gz : Good z) (nz : z ≠ "0") :
    Words ((wordsB ns st).take (ns.length + 1) ++ [z]) ∧ readW ((wordsB ns st).take (ns.length + 1) ++ [z]) = .inl (ns.length + 1) := by
  have gw := good_words h st
  constructor
  · refine ⟨by simp, by simp only [List.length_append, List.length_take, len_wB, List.length_cons, List.length_nil]; omega, fun y hy => ?_⟩
    simp only [List.mem_append, List.mem_cons, List.not_mem_nil, or_false] at hy
    rcases hy with hy | rfl
    · exact gw y (List.mem_of_mem_take hy)
    · exact gz
  · rw [take_wB1, List.append_assoc]
    have := read_op (r := [z]) h h8 st
    rw [if_pos (show ([z] : List Str).take 1 ≠ [("0" : Str)] from fun e => nz (List.cons.inj e).1)] at this
    exact this
theorem fail3 (h : smallN ns) (h8 : ns.length ≤ 8) (gz : Good z) : Words (wordsB ns st ++ [z]) ∧ readW (wordsB ns st ++ [z]) = .inl (ns.length + 2) := by
  have gw := good_words h st
  constructor
  · refine ⟨by simp, by simp only [List.length_append, len_wB, List.length_cons, List.length_nil]; omega, fun y hy => ?_⟩
    simp only [List.mem_append, List.mem_cons, List.not_mem_nil, or_false] at hy
    rcases hy with hy | rfl
    · exact gw y hy
    · exact gz
  · rw [wB, List.append_assoc]
    have := read_op (r := ["0", z]) h h8 st
    rw [if_neg (by simp), if_pos (by simp)] at this
    exact this
theorem fail5 (h : smallN ns) (h8 : ns.length ≤ 8) : Words ((wordsB ns st).take (ns.length + 1)) ∧ readW ((wordsB ns st).take (ns.length + 1)) = .inl (ns.length + 1) := by
  have gw := good_words h st
  constructor
  · refine ⟨by rw [take_wB1]; simp, by simp only [List.length_take, len_wB]; omega, fun y hy => gw y (List.mem_of_mem_take hy)⟩
  · rw [take_wB1]
    have := read_op (r := []) h h8 st
    rw [if_pos (by simp)] at this
    exact this
theorem fail6 (h : smallN ns) (h8 : ns.length ≤ 8) (h0 : 0 < ns.length) : Words ((wordsB ns st).take ns.length) ∧ readW ((wordsB ns st).take ns.length) = .inl ns.length := by
  have gw := good_words h st
  constructor
  · refine ⟨fun e => ?_, by simp only [List.length_take, len_wB]; omega, fun y hy => gw y (List.mem_of_mem_take hy)⟩
    have := congrArg List.length e
    rw [List.length_take, len_wB, List.length_nil] at this
    omega
  · rw [take_wB (Nat.le_refl _), List.take_length]
    exact read_nil h h8
theorem fail6b : Words [("" : Str)] ∧ readW [("" : Str)] = .inl 0 := by
  refine ⟨⟨by simp, by simp, fun y hy => by rw [List.mem_singleton.mp hy]; exact good_e⟩, ?_⟩
  exact read_bad (ns := []) (x := "") (r := []) (fun i hi => by cases hi) (by simp) (.inr (show numW "" = none from numW_bad (by decide +kernel))) (by decide +kernel) (by decide +kernel)
theorem fail7 (h : smallN ns) (h8 : ns.length ≤ 8) : Words (List.replicate 9 ("1" : Str) ++ (wordsB ns st).drop ns.length) ∧ readW (List.replicate 9 ("1" : Str) ++ (wordsB ns st).drop ns.length) = .inl 8 := by
  have gw := good_words h st
  constructor
  · refine ⟨by simp, by simp only [List.length_append, List.length_replicate, List.length_drop, len_wB]; omega, fun y hy => ?_⟩
    rcases List.mem_append.mp hy with hy | hy
    · rw [List.eq_of_mem_replicate hy]; exact good_1
    · exact gw y (List.mem_of_mem_drop hy)
  · have e : List.replicate 9 ("1" : Str) ++ (wordsB ns st).drop ns.length = strsN (List.replicate 8 1) ++ ("1" : Str) :: (wordsB ns st).drop ns.length := rfl
    rw [e]
    exact read_bad (ns := List.replicate 8 1) (fun i hi => by rw [List.eq_of_mem_replicate hi]; decide) (by decide) (.inl rfl) (by decide +kernel) (by decide +kernel)
theorem fail8 (h : smallN ns) (h8 : ns.length ≤ 8) : Words (("" : Str) :: wordsB ns st) ∧ readW (("" : Str) :: wordsB ns st) = .inl 0 := by
  have gw := good_words h st
  constructor
  · refine ⟨by simp, by simp only [List.length_cons, len_wB]; omega, fun y hy => ?_⟩
    rcases List.mem_cons.mp hy with rfl | hy
    · exact good_e
    · exact gw y hy
  · exact read_bad (ns := []) (x := "") (r := wordsB ns st) (fun i hi => by cases hi) (by simp) (.inr (show numW "" = none from numW_bad (by decide +kernel))) (by decide +kernel) (by decide +kernel)
theorem read_right (h : smallN ns) (h8 : ns.length ≤ 8) : readW (wordsB ns st) = .inr (ns, st) := by
  have := read_op (r := ["0"]) h h8 st
  rw [if_neg (by simp), if_neg (by simp)] at this
  exact this
theorem words_right (h : smallN ns) (h8 : ns.length ≤ 8) : Words (wordsB ns st) := ⟨by rw [wB]; simp, by rw [len_wB]; omega, good_words h st⟩
end
end K15

namespace Qk
open PySem PySem.Spec PyProof.Rows L2
section
variable {X : Cx} {K : PySem.W.Frag} {o e : Expr} {to te : TE}
theorem op_neDK (hu : X.A.units + 64 < cLine) (hK : X.K = K := by rfl) : OpR X (compareOp .NotEq) (rNeD K) := by subst hK; exact op_neD hu
def rJoin (K : PySem.W.Frag) : V → List V → Hp → VK → Prop := fun x xs H Q => ∃ (a : Str) (p : Addr) (ys : List Str), x = .str a ∧ xs = [.ref p] ∧ H p = some (.lst (ys.map V.str)) ∧ (ys.map (·.length)).sum + ys.length * a.length ≤ 16777216 ∧ Q (.str (Txt.join a ys)) H
theorem pe_joinK {apos pos : Pos} (ho : PE X o to) (he : PE X e te) (hK : X.K = K := by rfl) (hs : starEach [e] X.env = [(false, eval e X.env)] := by rfl) (hbase : attributeBase o "join" X.env (eval o X.env) = eval o X.env := by rfl) (hline : (apos.endLine == pos.line) = true := by rfl) :
    PE X (.Call (.Attribute o "join" apos) [e] [] pos) (tM1 (rJoin K) to te) := by
  refine pe_m1 F.slot_str_join F.type_str_join (fun pins s σ H x xs v us Q I rx rs h => ?_) ho he hs hbase hline
  obtain ⟨a, p, ys, rfl, rfl, hp, hz, q⟩ := h
  exact mt_join pins s σ H _ _ v us Q I rx rs ⟨a, p, ys, rfl, rfl, .inl (.of hp), hz, q⟩
end
end Qk
namespace K15
open PySem PySem.Spec PyProof.Rows L2 Qk
section
variable {P : Program} {w : World} {K : PySem.W.Frag} {mg : Str → Option Value} {base : Heap}
theorem join_size : ∀ {ws : List Str}, (∀ z ∈ ws, Good z) → (ws.map (·.length)).sum ≤ 100 * ws.length
  | [], _ => Nat.zero_le _
  | z :: ws, h => by
    have h1 := (h z (List.mem_cons_self ..)).1.1
    have h2 := join_size (ws := ws) fun y hy => h y (List.mem_cons_of_mem _ hy)
    rw [List.map_cons, List.sum_cons, List.length_cons]
    omega
theorem szl {α : Type} {l : List α} (h : l.length ≤ 100000) : l.length ≤ sizeLine := Nat.le_of_lt (small_le h)
theorem if_joinV {c : Bool} {A B : Prop} (M R : V → Hp → Prop) (hA : c = true → (∀ v J, M v J → R v J) → A) (hB : c = false → (∀ v J, M v J → R v J) → B) (h : ∀ v J, M v J → R v J) : if c = true then A else B := by
  cases c with
  | true => exact hA rfl h
  | false => exact hB rfl h
/-- a pair (words, where the reading fails) -/
def PairQ (H : Hp) (x : V) : Prop := ∃ (T L : Addr) (ws : List Str) (n : Nat), x = .ref T ∧ H T = some (.tup [.ref L, .int (n : Nat)]) ∧ H L = some (.lst (ws.map V.str)) ∧ Words ws ∧ readW ws = .inl n
theorem PairQ.same {H H' : Hp} {x : V} (e : Same H H') (h : PairQ H x) : PairQ H' x := by
  obtain ⟨T, L, ws, n, rfl, h1, h2, h3, h4⟩ := h
  exact ⟨T, L, ws, n, rfl, e _ _ h1, e _ _ h2, h3, h4⟩
theorem cut_from (xs : List V) (i : Nat) : cutV xs (some (i : Int)) none = xs.drop i := by
  show (xs.drop (if (i : Int) < 0 then ((i : Int) + xs.length).toNat else min (i : Int).toNat xs.length)).take (xs.length - (if (i : Int) < 0 then ((i : Int) + xs.length).toNat else min (i : Int).toNat xs.length)) = _
  rw [if_neg (by omega), Int.toNat_natCast]
  by_cases hi : i ≤ xs.length
  · rw [Nat.min_eq_left hi, List.take_of_length_le (by rw [List.length_drop]; exact Nat.le_refl _)]
  · rw [Nat.min_eq_right (by omega), Nat.sub_self, List.take_zero, List.drop_of_length_le (by omega)]
theorem cut_but (xs : List V) (k : Nat) (h0 : 0 < k) (hk : k ≤ xs.length) : cutV xs none (some (-(k : Int))) = xs.take (xs.length - k) := by
  show (xs.drop 0).take ((if -(k : Int) < 0 then (-(k : Int) + xs.length).toNat else min (-(k : Int)).toNat xs.length) - 0) = _
  rw [if_pos (by omega), List.drop_zero, Nat.sub_zero, show (-(k : Int) + xs.length).toNat = xs.length - k by omega]
theorem cut_last (xs : List V) (k : Nat) (h0 : 0 < k) (hk : k ≤ xs.length) : cutV xs (some (-(k : Int))) none = xs.drop (xs.length - k) := by
  show (xs.drop (if -(k : Int) < 0 then (-(k : Int) + xs.length).toNat else min (-(k : Int)).toNat xs.length)).take (xs.length - (if -(k : Int) < 0 then (-(k : Int) + xs.length).toNat else min (-(k : Int)).toNat xs.length)) = _
  rw [if_pos (by omega), show (-(k : Int) + xs.length).toNat = xs.length - k by omega, List.take_of_length_le (by rw [List.length_drop]; exact Nat.le_refl _)]
/-- a word that Bound.read lets nowhere but behind the bound's end -/
def OddQ (x : V) : Prop := ∃ z : Str, x = .str z ∧ Good z ∧ numW z = none ∧ z ≠ ">=" ∧ z ≠ ">"
def goodB (z : Str) : Bool := decide (z.length ≤ 100) && (z.cps.all (· < 0x110000) && ((badW z || (intText? z).any fun v => decide (v.natAbs ≤ 10 ^ 60)) && !(TL.tl z).contains 32))
theorem goodB_ok {z : Str} (h : goodB z = true) : Good z := by
  unfold goodB at h
  simp only [Bool.and_eq_true, decide_eq_true_eq, Bool.or_eq_true] at h
  obtain ⟨h1, h2, h3, h4⟩ := h
  refine ⟨⟨h1, h2, h3.imp id fun h => ?_⟩, fun hm => ?_⟩
  · cases e : intText? z with
    | none => rw [e] at h; cases h
    | some v => rw [e] at h; exact ⟨v, rfl, of_decide_eq_true h⟩
  · rw [List.contains_iff_mem.mpr hm] at h4
    cases h4
theorem odd_of {z : Str} (h : (goodB z && (decide (numW z = none) && (decide (z ≠ ">=") && decide (z ≠ ">")))) = true) : OddQ (.str z) := by
  simp only [Bool.and_eq_true, decide_eq_true_eq] at h
  exact ⟨z, rfl, goodB_ok h.1, h.2.1, h.2.2.1, h.2.2.2⟩
theorem odds_ok {nine great minus : Str} (h1 : Txt.mul "9" 61 = nine) (h2 : ("1" : Str) ++ Txt.mul "0" 60 = great) (h3 : "-" ++ great = minus) :
    ∀ x ∈ [V.str "", .str "+1", .str "01", .str "1.0", .str "a", .str "-", .str "-0", .str "=", .str "<", .str nine, .str great, .str minus], OddQ x := by
  subst h1 h2 h3
  intro x hx
  simp only [List.mem_cons, List.not_mem_nil, or_false] at hx
  rcases hx with rfl | rfl | rfl | rfl | rfl | rfl | rfl | rfl | rfl | rfl | rfl | rfl <;> exact odd_of (by decide +kernel)
theorem len_great : ("1" : Str).length + (Txt.mul "0" 60).length ≤ sizeLine := by decide +kernel
theorem len_minus {great : Str} (h2 : ("1" : Str) ++ Txt.mul "0" 60 = great) : ("-" : Str).length + great.length ≤ sizeLine := by
  subst h2
  decide +kernel
def LastQ (x : V) : Prop := ∃ z : Str, x = .str z ∧ Good z ∧ z ≠ "0"
theorem lasts_ok : ∀ x ∈ [V.str "", .str "1", .str "00", .str "-0", .str "0.0", .str ">"], LastQ x := by
  intro x hx
  simp only [List.mem_cons, List.not_mem_nil, or_false] at hx
  rcases hx with rfl | rfl | rfl | rfl | rfl | rfl <;> exact ⟨_, rfl, goodB_ok (by decide +kernel), by decide +kernel⟩
def spWords (K : PySem.W.Frag) : Sp := fun vs H Q _ => ∃ (p q a : Addr) (ns : List Int) (st : Bool) (n : Int), vs = [.ref p, .ref a] ∧ a ≠ p ∧ H a = some (.lst ((wordsB ns st).map V.str)) ∧ PenAt H p q n ∧ n ≤ 900000 ∧ ns.length ≤ 8 ∧ smallN ns ∧
  ∀ H', ExtS p H H' → PenAt H' p q (n + 3) → Q (.bl true) H'
theorem ok__law_words_right (T : Txt P K mg) : FnR P w K mg base (L2.CX P w) 8 (He.ga K "_law_words_right") (spWords K) := by
  obtain ⟨fd, F⟩ := T.d__law_words_right
  refine fo_of F sc__law_words_right (fun _ _ _ _ _ _ us hl => match us, hl with | [_, _], _ => rfl) (fun vs H Q E h => ?_) (fun cdv A outer s H vs Q E hr h => ?_)
  · obtain ⟨p, q, a, ns, st, n, rfl, _⟩ := h; rfl
  · refine ⟨_, (pss_cons (ps_par (i := 2) (j := 3) (by rfl) sc__law_words_right.nd rfl rfl (by decide) rfl rfl (pa_cons (pe_op op_sub (pe_callB call_len_seq rfl T.n_len (by decide +kernel) (pa_cons (pv 1) pa_nil)) pe_int) (pa_cons (pe_op op_add_str pe_str (pe_op op_mulTxt pe_str pe_int)) pa_nil)) (by rfl)) (pss_cons (ps_set (i := 4) sc__law_words_right.nd rfl (Or.inl rfl) (pe_callR (ok__law_draw_b T) (hr.mono (by decide)) rfl T.g__law_draw_b T.k__law_draw_b px0 (pa_cons (pv 0) (pa_cons (pe_op op_add (pv 2) pe_int) pa_nil)))) (pss_cons (ps_set (i := 5) sc__law_words_right.nd rfl (Or.inl rfl) (pe_lst (pa_cons pe_str (pa_cons pe_str (pa_cons pe_str (pa_cons pe_str (pa_cons pe_str (pa_cons pe_str (pa_cons pe_str (pa_cons pe_str (pa_cons pe_str (pa_cons (pe_op op_mulTxt pe_str pe_int) (pa_cons (pv 3) (pa_cons (pe_op op_add_str pe_str (pv 3)) pa_nil)))))))))))))) (pss_cons (ps_set (i := 6) sc__law_words_right.nd rfl (Or.inl rfl) (pe_op op_cat (pe_op op_cat (pe_slice sl_list (pv 1) po_none (po_some (pv 4))) (pe_lst (pa_cons (pe_callR (ok__law_pick_b T) (hr.mono (by decide)) rfl T.g__law_pick_b T.k__law_pick_b px0 (pa_cons (pv 0) (pa_cons (pv 5) pa_nil))) pa_nil))) (pe_slice sl_list (pv 1) (po_some (pe_op op_add (pv 4) pe_int)) po_none))) (pss_cons (ps_set (i := 7) sc__law_words_right.nd rfl (Or.inl rfl) (pe_op op_cat (pe_slice sl_list (pv 1) po_none (po_some (pe_un un_neg pe_int))) (pe_lst (pa_cons (pe_callR (ok__law_pick_b T) (hr.mono (by decide)) rfl T.g__law_pick_b T.k__law_pick_b px0 (pa_cons (pv 0) (pa_cons (pe_lst (pa_cons pe_str (pa_cons pe_str (pa_cons pe_str (pa_cons pe_str (pa_cons pe_str (pa_cons pe_str pa_nil))))))) pa_nil))) pa_nil)))) (pss_cons (ps_set (i := 8) sc__law_words_right.nd rfl (Or.inl rfl) (pe_lst (pa_cons (pe_tup (pa_cons (pv 6) (pa_cons (pv 4) pa_nil))) (pa_cons (pe_tup (pa_cons (pv 7) (pa_cons (pe_op op_add (pv 2) pe_int) pa_nil))) (pa_cons (pe_tup (pa_cons (pe_op op_cat (pv 1) (pe_lst (pa_cons pe_str pa_nil))) (pa_cons (pe_op op_add (pv 2) pe_int) pa_nil))) (pa_cons (pe_tup (pa_cons (pe_op op_cat (pv 1) (pe_lst (pa_cons pe_str pa_nil))) (pa_cons (pe_op op_add (pv 2) pe_int) pa_nil))) (pa_cons (pe_tup (pa_cons (pe_slice sl_list (pv 1) po_none (po_some (pe_un un_neg pe_int))) (pa_cons (pe_op op_add (pv 2) pe_int) pa_nil))) pa_nil))))))) (pss_cons (ps_set (i := 8) sc__law_words_right.nd rfl (Or.inl rfl) (pe_op op_cat (pv 8) (pe_lst (pa_cons (pe_ifExp (pt_cmpR op_gt (pv 2) pe_int (nomark _)) (pe_tup (pa_cons (pe_slice sl_list (pv 1) po_none (po_some (pe_un un_neg pe_int))) (pa_cons (pv 2) pa_nil))) (pe_tup (pa_cons (pe_lst (pa_cons pe_str pa_nil)) (pa_cons pe_int pa_nil)))) (pa_cons (pe_tup (pa_cons (pe_op op_cat (pe_op op_rep (pe_lst (pa_cons pe_str pa_nil)) pe_int) (pe_slice sl_list (pv 1) (po_some (pe_un un_neg pe_int)) po_none)) (pa_cons pe_int pa_nil))) (pa_cons (pe_tup (pa_cons (pe_op op_cat (pe_lst (pa_cons pe_str pa_nil)) (pv 1)) (pa_cons pe_int pa_nil))) pa_nil)))))) (pss_one (ps_ret (pe_cmpR (op_eqN hr.units0) (pe_lc (own := [("one", 9), ("spot", 10)]) (g := gTup K 2 (gCons (gName 9) (gCons (gName 10) gNil))) (tt := _) rfl sc__law_words_right.nd (pi_seq (pv 8)) (blkOk_by (own := [("one", 9), ("spot", 10)]) (N := ["pen", "words", "many", "great", "at", "odd", "wrong", "last", "some", "one", "spot"]) (sc := defScope s__law_words_right) (by decide +kernel)) (fun _ _ _ _ _ => (pg_tup (by rfl) (pgs_cons (pg_name (i := 9) sc__law_words_right.nd rfl (Or.inl rfl)) (pgs_cons (pg_name (i := 10) sc__law_words_right.nd rfl (Or.inl rfl)) pgs_nil)))) (fun _ _ _ _ _ => (pts_one (pt_cmpR (op_neDK (K := K) hr.units) (pe_callR (ok__law_spot T) (hr.mono (by decide)) rfl T.g__law_spot T.k__law_spot px0 (pa_cons (pe_joinK (K := K) pe_str (pv 9)) pa_nil)) (pe_tup (pa_cons pe_int (pa_cons (pv 10) pa_nil))) (nomark _)))) (fun _ _ _ _ _ => (pv 9))) (pe_lst pa_nil) (nomark _))))))))))), ?_⟩
    obtain ⟨p, q, a, ns, st, n, rfl, ap, ha, hp, hn, h8, hs, k⟩ := h
    rw [show L2.start ["pen", "words", "many", "great", "at", "odd", "wrong", "last", "some", "one", "spot"] [V.ref p, V.ref a] = [some (.ref p), some (.ref a), none, none, none, none, none, none, none, none, none] from rfl]
    have lw := len_wB ns st
    have gw := good_words hs st
    refine ⟨_, rfl, a, _, rfl, .inl (.of ha), ?_⟩
    rw [List.length_map, lw]
    refine ⟨_, _, rfl, rfl, ?_⟩
    try dsimp only
    rw [show (((ns.length + 2 : Nat) : Int) - 2) = ((ns.length : Nat) : Int) by omega]
    refine ⟨"0", 60, rfl, rfl, by decide, by decide, by decide, ?_⟩
    refine ⟨"1", _, rfl, rfl, len_great, ?_⟩
    generalize hgr : ("1" : Str) ++ Txt.mul "0" 60 = great
    try dsimp only
    refine ⟨_, _, rfl, ?_⟩
    try dsimp only
    refine ⟨_, rfl, _, rfl, _, _, rfl, rfl, p, q, _, n, rfl, by omega, by omega, by omega, hp, fun d J1 d0 d1 p1 f1 => ?_⟩
    try dsimp only
    have a1 := f1 _ _ ap ha
    refine ⟨"9", 61, rfl, rfl, by decide, by decide, by decide, ?_⟩
    generalize hni : Txt.mul "9" 61 = nine
    refine ⟨_, rfl, _, rfl, "-", _, rfl, rfl, len_minus hgr, ?_⟩
    generalize hmi : ("-" : Str) ++ great = minus
    refine ⟨szl (by simp), fun ol y1 => ?_⟩
    generalize hF1 : upd J1 ol _ = J2
    obtain ⟨u1, v1⟩ := new_ok hF1 y1
    have p2 := p1.same v1
    have op : ol ≠ p := (pen_ne p1 y1).1
    have a2 := v1 _ _ a1
    have F2 := f1.trans (.of v1)
    try dsimp only
    obtain ⟨dn, rfl⟩ := Int.eq_ofNat_of_zero_le d0
    refine ⟨_, rfl, _, rfl, _, rfl, a, _, rfl, .of a2, fun w1 y2 => ?_⟩
    rw [cut_to, ← List.map_take]
    obtain ⟨ws, hW⟩ : ∃ ws, wordsB ns st = ws := ⟨_, rfl⟩
    rw [hW] at ha a1 a2 lw gw ⊢
    clear hF1
    generalize hF2 : upd J2 w1 _ = J3
    obtain ⟨u2, v2⟩ := new_ok hF2 y2
    refine ⟨_, rfl, _, rfl, p, q, ol, _, n + 1, rfl, op, v2 _ _ u1, by simp, by simp, by omega, p2.same v2, fun x J4 hx p4 f4 => ?_⟩
    obtain ⟨z, rfl, gz, nz, z1, z2⟩ := odds_ok hni hgr hmi x hx
    have F4 := (F2.trans (.of v2)).trans f4
    have a4 := f4 _ _ ap (v2 _ _ a2)
    have u4 := f4 _ _ (pen_ne p2 y2).1 u2
    refine ⟨Nat.le_of_lt (small_le (by simp)), fun w2 y3 => ?_⟩
    generalize hF3 : upd J4 w2 _ = J5
    obtain ⟨u5, v5⟩ := new_ok hF3 y3
    have tk : (ws.take dn).length ≤ 10 := by rw [List.length_take]; omega
    refine ⟨w1, w2, _, ([z] : List Str).map V.str, rfl, rfl, v5 _ _ u4, u5, Nat.le_of_lt (small_le (by simp only [List.length_map, List.length_cons, List.length_nil]; omega)), fun w3 y4 => ?_⟩
    rw [← List.map_append]
    generalize hF4 : upd J5 w3 _ = J6
    obtain ⟨u6, v6⟩ := new_ok hF4 y4
    have a6 := v6 _ _ (v5 _ _ a4)
    refine ⟨_, rfl, _, rfl, _, _, rfl, rfl, _, rfl, a, _, rfl, .of a6, fun w4 y5 => ?_⟩
    rw [show cutV (ws.map V.str) (some ((dn : Int) + 1)) none = (ws.drop (dn + 1)).map V.str from by rw [List.map_drop]; exact cut_from (ws.map V.str) (dn + 1)]
    generalize hF5 : upd J6 w4 _ = J7
    obtain ⟨u7, v7⟩ := new_ok hF5 y5
    have dk : (ws.drop (dn + 1)).length ≤ 10 := by rw [List.length_drop]; omega
    refine ⟨w3, w4, _, _, rfl, rfl, v7 _ _ u6, u7, Nat.le_of_lt (small_le (by simp only [List.length_map, List.length_append, List.length_cons, List.length_nil]; omega)), fun lw1 y6 => ?_⟩
    rw [← List.map_append]
    generalize hF6 : upd J7 lw1 _ = J8
    obtain ⟨u8, v8⟩ := new_ok hF6 y6
    have p8 := (((p4.same v5).same v6).same v7).same v8
    have a8 := v8 _ _ (v7 _ _ a6)
    have F8 : ExtS p H J8 := (((F4.trans (.of v5)).trans (.of v6)).trans (.of v7)).trans (.of v8)
    have l1p : lw1 ≠ p := (pen_ne (((p4.same v5).same v6).same v7) y6).1
    clear hF2 hF3 hF4 hF5 hF6 hx y1 y2 y3 y4 y5 y6 v1 v2 v5 v6 v7 v8 u1 u2 u4 u5 u6 u7 a1 a2 a4 a6 p1 p2 p4 f1 f4 F2 F4
    try dsimp only
    refine ⟨_, rfl, _, rfl, _, rfl, a, _, rfl, .of a8, fun w1 y1 => ?_⟩
    have cb1 : cutV (ws.map V.str) none (some (-1)) = (ws.take (ns.length + 1)).map V.str := by
      rw [List.map_take]
      have := cut_but (ws.map V.str) 1 (by decide) (by rw [List.length_map]; omega)
      rw [List.length_map, lw] at this
      exact this
    rw [cb1]
    generalize hF1 : upd J8 w1 _ = J9
    obtain ⟨u1, v1⟩ := new_ok hF1 y1
    refine ⟨_, rfl, ?_⟩
    refine ⟨by decide, fun l6 y2 => ?_⟩
    generalize hF2 : upd J9 l6 _ = J10
    obtain ⟨u2, v2⟩ := new_ok hF2 y2
    have p10 := (p8.same v1).same v2
    refine ⟨p, q, l6, _, n + 1 + 1, rfl, (pen_ne (p8.same v1) y2).1, u2, by simp, by simp, by omega, p10, fun x J11 hx p11 f11 => ?_⟩
    obtain ⟨z', rfl, gz', nz'⟩ := lasts_ok x hx
    have u11 := f11 _ _ (pen_ne p8 y1).1 (v2 _ _ u1)
    have a11 := f11 _ _ ap (v2 _ _ (v1 _ _ a8))
    have r11 := f11 _ _ l1p (v2 _ _ (v1 _ _ u8))
    have F11 : ExtS p H J11 := ((F8.trans (.of v1)).trans (.of v2)).trans f11
    refine ⟨Nat.le_of_lt (small_le (by simp)), fun w2 y3 => ?_⟩
    generalize hF3 : upd J11 w2 _ = J12
    obtain ⟨u3, v3⟩ := new_ok hF3 y3
    have tk1 : (ws.take (ns.length + 1)).length ≤ 10 := by rw [List.length_take]; omega
    refine ⟨w1, w2, _, ([z'] : List Str).map V.str, rfl, rfl, v3 _ _ u11, u3, Nat.le_of_lt (small_le (by simp only [List.length_map, List.length_cons, List.length_nil]; omega)), fun lw2 y4 => ?_⟩
    rw [← List.map_append]
    generalize hF4 : upd J12 lw2 _ = J13
    obtain ⟨u4, v4⟩ := new_ok hF4 y4
    have p13 := (p11.same v3).same v4
    have a13 := v4 _ _ (v3 _ _ a11)
    have r13 := v4 _ _ (v3 _ _ r11)
    have F13 : ExtS p H J13 := (F11.trans (.of v3)).trans (.of v4)
    clear hF1 hF2 hF3 hF4 hx y1 y2 y3 y4 v1 v2 v3 v4 u1 u2 u3 u8 u11 a8 a11 r11 p8 p10 p11 F8 F11 f11
    try dsimp only
    have f1 := fail1 (st := st) hs h8 (d := dn) (by omega) gz nz z1 z2
    have f2 := fail2 (st := st) hs h8 gz' nz'
    have f3 := fail3 (st := st) hs h8 good_0
    have f4 := fail3 (st := st) hs h8 good_e
    have f5 := fail5 (st := st) hs h8
    have f7 := fail7 (st := st) hs h8
    have f8 := fail8 (st := st) hs h8
    rw [hW] at f1 f2 f3 f4 f5 f7 f8
    have wl : ws.length ≤ 10 := by omega
    refine ⟨_, rfl, _, rfl, szl (by simp), fun t1 y => ?_⟩
    generalize hF : upd J13 t1 _ = J14
    obtain ⟨u14, v14⟩ := new_ok hF y
    clear hF y
    have q1 : PairQ J14 (.ref t1) := ⟨t1, lw1, _, dn, rfl, u14, v14 _ _ r13, f1⟩
    refine ⟨_, rfl, _, rfl, _, _, rfl, rfl, szl (by simp), fun t2 y => ?_⟩
    generalize hF : upd J14 t2 _ = J15
    obtain ⟨u15, v15⟩ := new_ok hF y
    clear hF y
    have q2 : PairQ J15 (.ref t2) := ⟨t2, lw2, _, ns.length + 1, rfl, u15, v15 _ _ (v14 _ _ u4), f2⟩
    have a15 := v15 _ _ (v14 _ _ a13)
    refine ⟨_, rfl, ?_⟩
    refine ⟨by decide, fun b3 y => ?_⟩
    generalize hF : upd J15 b3 _ = J16
    obtain ⟨u16, v16⟩ := new_ok hF y
    clear hF y
    refine ⟨a, b3, _, [("0" : Str)].map V.str, rfl, rfl, v16 _ _ a15, u16, Nat.le_of_lt (small_le (by simp only [List.length_map, List.length_cons, List.length_nil]; omega)), fun c3 y => ?_⟩
    rw [← List.map_append]
    generalize hF : upd J16 c3 _ = J17
    obtain ⟨u17, v17⟩ := new_ok hF y
    clear hF y
    refine ⟨_, rfl, _, _, rfl, rfl, szl (by simp), fun t3 y => ?_⟩
    generalize hF : upd J17 t3 _ = J18
    obtain ⟨u18, v18⟩ := new_ok hF y
    clear hF y
    have q3 : PairQ J18 (.ref t3) := ⟨t3, c3, _, ns.length + 2, rfl, u18, v18 _ _ u17, f3⟩
    have a18 := v18 _ _ (v17 _ _ (v16 _ _ a15))
    refine ⟨_, rfl, ?_⟩
    refine ⟨by decide, fun b4 y => ?_⟩
    generalize hF : upd J18 b4 _ = J19
    obtain ⟨u19, v19⟩ := new_ok hF y
    clear hF y
    refine ⟨a, b4, _, [("" : Str)].map V.str, rfl, rfl, v19 _ _ a18, u19, Nat.le_of_lt (small_le (by simp only [List.length_map, List.length_cons, List.length_nil]; omega)), fun c4 y => ?_⟩
    rw [← List.map_append]
    generalize hF : upd J19 c4 _ = J20
    obtain ⟨u20, v20⟩ := new_ok hF y
    clear hF y
    refine ⟨_, rfl, _, _, rfl, rfl, szl (by simp), fun t4 y => ?_⟩
    generalize hF : upd J20 t4 _ = J21
    obtain ⟨u21, v21⟩ := new_ok hF y
    clear hF y
    have q4 : PairQ J21 (.ref t4) := ⟨t4, c4, _, ns.length + 2, rfl, u21, v21 _ _ u20, f4⟩
    have a21 := v21 _ _ (v20 _ _ (v19 _ _ a18))
    refine ⟨_, rfl, _, rfl, _, rfl, a, _, rfl, .of a21, fun c5 y => ?_⟩
    rw [cb1]
    generalize hF : upd J21 c5 _ = J22
    obtain ⟨u22, v22⟩ := new_ok hF y
    clear hF y
    refine ⟨_, rfl, _, _, rfl, rfl, szl (by simp), fun t5 y => ?_⟩
    generalize hF : upd J22 t5 _ = J23
    obtain ⟨u23, v23⟩ := new_ok hF y
    clear hF y
    have q5 : PairQ J23 (.ref t5) := ⟨t5, c5, _, ns.length + 1, rfl, u23, v23 _ _ u22, f5⟩
    refine ⟨szl (by simp), fun s1 y => ?_⟩
    generalize hF : upd J23 s1 _ = J24
    obtain ⟨u24, v24⟩ := new_ok hF y
    clear hF y
    have e24 : Same J14 J24 := v15.trans (v16.trans (v17.trans (v18.trans (v19.trans (v20.trans (v21.trans (v22.trans (v23.trans v24))))))))
    have q1 := q1.same e24
    have q2 := q2.same (v16.trans (v17.trans (v18.trans (v19.trans (v20.trans (v21.trans (v22.trans (v23.trans v24))))))))
    have q3 := q3.same (v19.trans (v20.trans (v21.trans (v22.trans (v23.trans v24)))))
    have q4 := q4.same (v22.trans (v23.trans v24))
    have q5 := q5.same v24
    have a24 := (v22.trans (v23.trans v24)) _ _ a21
    have p24 := p13.same (v14.trans e24)
    have F24 : ExtS p H J24 := F13.trans (.of (v14.trans e24))
    clear e24 v14 v15 v16 v17 v18 v19 v20 v21 v22 v23 v24 u14 u15 u16 u17 u18 u19 u20 u21 u22 u23 a13 a15 a18 a21 r13 p13 F13 u4 f1 f2 f3 f4 f5
    try dsimp only
    refine ⟨_, rfl, _, rfl, _, _, rfl, rfl, ?_⟩
    refine ⟨_, rfl, ?_⟩
    apply if_joinV (fun v J => PairQ J v ∧ Same J24 J)
    · intro c k'
      have h0 : 0 < ns.length := by have := of_decide_eq_true c; omega
      have f6 := fail6 (st := st) hs h8 h0
      rw [hW] at f6
      refine ⟨_, rfl, _, rfl, _, rfl, a, _, rfl, .of a24, fun c6 y => ?_⟩
      have cb2 : cutV (ws.map V.str) none (some (-2)) = (ws.take ns.length).map V.str := by
        rw [List.map_take]
        have := cut_but (ws.map V.str) 2 (by decide) (by rw [List.length_map]; omega)
        rw [List.length_map, lw] at this
        exact this
      rw [cb2]
      generalize hF : upd J24 c6 _ = J25
      obtain ⟨u25, v25⟩ := new_ok hF y
      clear hF y
      refine ⟨_, rfl, szl (by simp), fun t6 y => ?_⟩
      generalize hF : upd J25 t6 _ = J26
      obtain ⟨u26, v26⟩ := new_ok hF y
      clear hF y
      have qq : PairQ J26 (.ref t6) := ⟨t6, c6, _, ns.length, rfl, u26, v26 _ _ u25, f6⟩
      revert qq
      generalize V.ref t6 = v6
      intro qq
      exact k' v6 J26 ⟨qq, v25.trans v26⟩
    · intro c k'
      refine ⟨szl (by simp), fun b6 y => ?_⟩
      generalize hF : upd J24 b6 _ = J25
      obtain ⟨u25, v25⟩ := new_ok hF y
      clear hF y
      refine ⟨szl (by simp), fun t6 y => ?_⟩
      generalize hF : upd J25 t6 _ = J26
      obtain ⟨u26, v26⟩ := new_ok hF y
      clear hF y
      have qq : PairQ J26 (.ref t6) := ⟨t6, b6, [""], 0, rfl, u26, v26 _ _ u25, fail6b⟩
      revert qq
      generalize V.ref t6 = v6
      intro qq
      exact k' v6 J26 ⟨qq, v25.trans v26⟩
    · rintro x6 J25 ⟨q6, e6⟩
      have a25 := e6 _ _ a24
      try dsimp only
      refine ⟨szl (by simp), fun b7 y => ?_⟩
      generalize hF : upd J25 b7 _ = J26
      obtain ⟨u26, v26⟩ := new_ok hF y
      clear hF y
      refine ⟨b7, 9, _, rfl, rfl, u26, by decide, by decide, by decide, fun r7 y => ?_⟩
      rw [show (List.replicate (Int.toNat 9) [V.str "1"]).flatten = (List.replicate 9 ("1" : Str)).map V.str from rfl]
      generalize hF : upd J26 r7 _ = J27
      obtain ⟨u27, v27⟩ := new_ok hF y
      clear hF y
      refine ⟨_, rfl, _, rfl, _, rfl, a, _, rfl, .of (v27 _ _ (v26 _ _ a25)), fun d7 y => ?_⟩
      have cl2 : cutV (ws.map V.str) (some (-2)) none = (ws.drop ns.length).map V.str := by
        rw [List.map_drop]
        have := cut_last (ws.map V.str) 2 (by decide) (by rw [List.length_map]; omega)
        rw [List.length_map, lw] at this
        exact this
      rw [cl2]
      generalize hF : upd J27 d7 _ = J28
      obtain ⟨u28, v28⟩ := new_ok hF y
      clear hF y
      refine ⟨r7, d7, _, _, rfl, rfl, v28 _ _ u27, u28, Nat.le_of_lt (small_le (by simp only [List.length_map, List.length_append, List.length_replicate, List.length_drop]; omega)), fun c7 y => ?_⟩
      rw [← List.map_append]
      generalize hF : upd J28 c7 _ = J29
      obtain ⟨u29, v29⟩ := new_ok hF y
      clear hF y
      refine ⟨szl (by simp), fun t7 y => ?_⟩
      generalize hF : upd J29 t7 _ = J30
      obtain ⟨u30, v30⟩ := new_ok hF y
      clear hF y
      have q7 : PairQ J30 (.ref t7) := ⟨t7, c7, _, 8, rfl, u30, v30 _ _ u29, f7⟩
      have a30 := (v26.trans (v27.trans (v28.trans (v29.trans v30)))) _ _ a25
      refine ⟨szl (by simp), fun b8 y => ?_⟩
      generalize hF : upd J30 b8 _ = J31
      obtain ⟨u31, v31⟩ := new_ok hF y
      clear hF y
      refine ⟨_, rfl, b8, a, [("" : Str)].map V.str, _, rfl, rfl, u31, v31 _ _ a30, Nat.le_of_lt (small_le (by simp only [List.length_map, List.length_cons, List.length_nil]; omega)), fun c8 y => ?_⟩
      rw [← List.map_append]
      generalize hF : upd J31 c8 _ = J32
      obtain ⟨u32, v32⟩ := new_ok hF y
      clear hF y
      refine ⟨szl (by simp), fun t8 y => ?_⟩
      generalize hF : upd J32 t8 _ = J33
      obtain ⟨u33, v33⟩ := new_ok hF y
      clear hF y
      have q8 : PairQ J33 (.ref t8) := ⟨t8, c8, _, 0, rfl, u33, v33 _ _ u32, f8⟩
      refine ⟨(by decide : 3 ≤ sizeLine), fun s2 y => ?_⟩
      generalize hF : upd J33 s2 _ = J34
      obtain ⟨u34, v34⟩ := new_ok hF y
      clear hF y
      have e34 : Same J25 J34 := v26.trans (v27.trans (v28.trans (v29.trans (v30.trans (v31.trans (v32.trans (v33.trans v34)))))))
      refine ⟨s1, s2, _, _, rfl, rfl, e34 _ _ (e6 _ _ u24), u34, (by decide : 5 + 3 ≤ sizeLine), fun s3 y => ?_⟩
      generalize hF : upd J34 s3 _ = J35
      obtain ⟨u35, v35⟩ := new_ok hF y
      clear hF y
      have e35 := e34.trans v35
      have allq : ∀ x ∈ [V.ref t1, .ref t2, .ref t3, .ref t4, .ref t5] ++ [x6, .ref t7, .ref t8], PairQ J35 x := by
        intro x hx
        simp only [List.mem_append, List.mem_cons, List.not_mem_nil, or_false] at hx
        rcases hx with (rfl | rfl | rfl | rfl | rfl) | rfl | rfl | rfl
        · exact q1.same (e6.trans e35)
        · exact q2.same (e6.trans e35)
        · exact q3.same (e6.trans e35)
        · exact q4.same (e6.trans e35)
        · exact q5.same (e6.trans e35)
        · exact q6.same e35
        · exact q7.same (v31.trans (v32.trans (v33.trans (v34.trans v35))))
        · exact q8.same (v34.trans v35)
      have p35 := p24.same (e6.trans e35)
      have F35 : ExtS p H J35 := F24.trans (.of (e6.trans e35))
      have len : ([V.ref t1, .ref t2, .ref t3, .ref t4, .ref t5] ++ [x6, .ref t7, .ref t8]).length = 8 := rfl
      generalize [V.ref t1, .ref t2, .ref t3, .ref t4, .ref t5] ++ [x6, .ref t7, .ref t8] = xs at allq u35 len
      clear e35 e34 v26 v27 v28 v29 v30 v31 v32 v33 v34 v35 q1 q2 q3 q4 q5 q6 q7 q8 u24 u26 u27 u28 u29 u30 u31 u32 u33 u34 a24 a25 a30 p24 F24
      try walk_at "nm"
      refine lc_fm (xs := xs) (fun Q' h => ⟨_, rfl, h⟩) (fun _ => false) (fun v => v) (.inl (.of u35)) (by omega) (fun x hx J36 e36 A B hA hB => ?_) (fun D J36 hD hl36 e36 => ?_)
      · obtain ⟨T1, L1, l1, n1, rfl, h1, h2, h3, h4⟩ := (allq x hx).same e36
        have g4 : spotOf (some l1) = some n1 := by show (match readW l1 with | .inl n => some n | .inr _ => none) = some n1; rw [h4]
        have jl := join_len h3.le fun z hz => (h3.ok z hz).1
        refine ⟨T1, _, rfl, .of h1, rfl, _, _, rfl, ?_⟩
        refine ⟨_, _, rfl, rfl, rfl, ?_⟩
        have js := join_size h3.ok
        have e1 : (" " : Str).length = 1 := by decide
        have l20 := h3.le
        refine ⟨⟨_, rfl⟩, _, rfl, " ", L1, l1, rfl, rfl, h2, by rw [e1]; omega, ?_⟩
        refine ⟨_, some l1, rfl, .txt h3.ne h3.le (fun z hz => (h3.ok z hz).2) (fun z hz => (h3.ok z hz).1), fun m hm g J37 e37 hg => ?_, fun hn => ?_⟩
        · rw [g4] at hm
          obtain rfl := Option.some.inj hm
          refine ⟨_, rfl, szl (by simp), fun g2 y => ?_⟩
          generalize hF : upd J37 g2 _ = J38
          obtain ⟨u38, v38⟩ := new_ok hF y
          refine ⟨_, _, dp_tup (ns := [0, ((n1 : Nat) : Int)]) (v38 _ _ hg), dp_tup (ns := [0, ((n1 : Nat) : Int)]) u38, shaped_tup _, shaped_tup _, ?_⟩
          rw [eqv_ints, decide_eq_true rfl]
          refine ⟨_, rfl, iteF ?_⟩
          exact hB rfl J38 (e37.trans v38)
        · rw [g4] at hn
          cases hn
      · refine ⟨by decide, fun zz y => ?_⟩
        generalize hF : upd J36 zz _ = J37
        obtain ⟨u37, v37⟩ := new_ok hF y
        refine ⟨_, _, _, rfl, rfl, .of (v37 _ _ hl36), .of u37, ?_⟩
        rw [show ((xs.filter fun _ => false).map fun v => v) = [] by simp]
        exact k J37 (F35.trans (.of (e36.trans v37))) ((p35.same (e36.trans v37)).mono (by omega))
end
end K15

namespace K15
open PySem PySem.Spec PyProof.Rows L2 Qk
section
variable {P : Program} {w : World} {K : PySem.W.Frag} {mg : Str → Option Value} {base : Heap}
/-- no text, now and later -/
def NoTxt (K : PySem.W.Frag) (p : Addr) (H : Hp) (v : V) : Prop := ∀ H', ExtS p H H' → TextQ K H' v none
theorem notxt_ok (T : Txt P K mg) {H : Hp} {p q bx bd t a1 a2 a3 : Addr} {n : Int} {fs : List Int} {st : Bool} {z : Str} (hp : PenAt H p q n) (h1 : H a1 = some (.tup [])) (h2 : H a2 = some (.lst [.str z])) (n2 : a2 ≠ p) (h3 : H a3 = some (.dK [])) (hb : BndT K H bx bd t fs st) :
    ∀ x ∈ [V.non, .int 0, .bl true, .ref a1, .ref a2, .ref a3, .ref bx], NoTxt K p H x := by
  obtain ⟨ps, hh⟩ := hp.get
  intro x hx H' f
  simp only [List.mem_cons, List.not_mem_nil, or_false] at hx
  rcases hx with rfl | rfl | rfl | rfl | rfl | rfl | rfl
  · exact .no (.base .non) (ki "NoneType" "str" (r := false) (by decide +kernel) K)
  · exact .no (.base (.int 0)) (ki "int" "str" (r := false) (by decide +kernel) K)
  · exact .no (.base (.bl true)) (ki "bool" "str" (r := false) (by decide +kernel) K)
  · exact .no (.base (.tup (f _ _ (fun e => by rw [e, hh] at h1; cases h1) h1))) (ki "tuple" "str" (r := false) (by decide +kernel) K)
  · exact .no (.base (.lst (f _ _ n2 h2))) (ki "list" "str" (r := false) (by decide +kernel) K)
  · exact .no (.base (.dK (f _ _ (fun e => by rw [e, hh] at h3; cases h3) h3))) (ki "dict" "str" (r := false) (by decide +kernel) K)
  · refine .no (t := .ref (He.ga K "Bound")) (ty_Bound T (dx := bd) (t := t) (ns := fs) (su := st) ⟨f _ _ (fun e => ?_) hb.o, f _ _ (fun e => ?_) hb.f⟩) T.ks_Bound
    · have h := hb.o
      rw [e, hh] at h
      cases h
    · have h := hb.f
      rw [e, hh] at h
      cases h
def spTwo (K : PySem.W.Frag) : Sp := fun vs H Q _ => ∃ (a : Addr) (ns : List Int), vs = [.ref a] ∧ SqL K H a (ns.map V.int) ∧ ns.length ≤ 63 ∧ ∀ H', Q (.bl true) H'
theorem ok__law_part_two (T : Txt P K mg) : FnR P w K mg base (L2.CX P w) 9 (He.ga K "_law_part_two") (spTwo K) := by
  obtain ⟨fd, F⟩ := T.d__law_part_two
  obtain ⟨fdB, IB⟩ := init_b (P := P) (w := w) (base := base) T
  obtain ⟨pR, gR, fdR, cM0, cR0, FFR⟩ := T.r_read
  have GR := fn_read (P := P) (w := w) (base := base) T FFR
  have kbr := kbindsN FFR (ps := ["cls", "text"]) 1 ["text"] (fun us ws => us ++ ws) (fun a b => a.append b) (fun kV doc pm an cdv ct us ws h1 h2 => match us, ws, h1, h2 with | [_], [_], _, _ => rfl)
  refine fo_of F sc__law_part_two (fun _ _ _ _ _ _ us hl => match us, hl with | [_], _ => rfl) (fun vs H Q E h => ?_) (fun cdv A outer s H vs Q E hr h => ?_)
  · obtain ⟨a, ns, rfl, _⟩ := h; rfl
  · refine ⟨_, (pss_cons (ps_set (i := 1) sc__law_part_two.nd rfl (Or.inr rfl) (pe_callR (ok__law_pen T) (hr.mono (by decide)) rfl T.g__law_pen T.k__law_pen px0 (pa_cons (pv 0) pa_nil))) (pss_cons (ps_for (passes_of rfl) rfl (pi_range1 rfl T.n_range (pa_cons pe_int pa_nil)) (pg_name (i := 2) sc__law_part_two.nd rfl (Or.inl rfl)) (pss_cons (ps_set (i := 3) sc__law_part_two.nd rfl (Or.inl rfl) (pe_callR (ok__law_draw_b T) (hr.mono (by decide)) rfl T.g__law_draw_b T.k__law_draw_b px0 (pa_cons (pv 1) (pa_cons pe_int pa_nil)))) (pss_cons (ps_set (i := 4) sc__law_part_two.nd rfl (Or.inl rfl) (pe_callTy call_tuple_of rfl T.n_tuple (by decide +kernel) (pa_cons (pe_lc (own := [("k", 8)]) (g := gName 8) (tt := tYes) rfl sc__law_part_two.nd (pi_range1 rfl T.n_range (pa_cons (pv 3) pa_nil)) (blkOk_by (own := [("k", 8)]) (N := ["script", "pen", "lap", "many", "form", "bound", "words", "odd", "k", "factor"]) (sc := defScope s__law_part_two) (by decide +kernel)) (fun _ _ _ _ _ => (pg_name (i := 8) sc__law_part_two.nd rfl (Or.inl rfl))) (fun _ _ _ _ _ => pts_nil) (fun _ _ _ _ _ => (pe_callR (ok__law_pick_b T) (hr.mono (by decide)) rfl T.g__law_pick_b T.k__law_pick_b px0 (pa_cons (pv 1) (pa_cons (pe_lst (pa_cons (pe_callR (ok__law_factor_b T) (hr.mono (by decide)) rfl T.g__law_factor_b T.k__law_factor_b px0 (pa_cons (pv 1) pa_nil)) (pa_cons (pe_op op_sub (pe_op op_pow pe_int pe_int) pe_int) (pa_cons (pe_un un_neg (pe_op op_pow pe_int pe_int)) pa_nil)))) pa_nil))))) pa_nil))) (pss_cons (ps_set (i := 5) sc__law_part_two.nd rfl (Or.inl rfl) (StX.pe_makeR T.mk_Bound IB.r3 (hr.mono (by decide)) rfl T.g_Bound pxP (pa_cons (pv 4) (pa_cons (pe_callR (ok__law_pick_b T) (hr.mono (by decide)) rfl T.g__law_pick_b T.k__law_pick_b px0 (pa_cons (pv 1) (pa_cons (pe_lst (pa_cons pe_bl (pa_cons pe_bl pa_nil))) pa_nil))) pa_nil)))) (pss_cons (ps_set (i := 6) sc__law_part_two.nd rfl (Or.inl rfl) (pe_op op_cat (pe_lc (own := [("factor", 9)]) (g := gName 9) (tt := tYes) rfl sc__law_part_two.nd (pi_seq (pv 4)) (blkOk_by (own := [("factor", 9)]) (N := ["script", "pen", "lap", "many", "form", "bound", "words", "odd", "k", "factor"]) (sc := defScope s__law_part_two) (by decide +kernel)) (fun _ _ _ _ _ => (pg_name (i := 9) sc__law_part_two.nd rfl (Or.inl rfl))) (fun _ _ _ _ _ => pts_nil) (fun _ _ _ _ _ => (pe_callTy call_str_int rfl T.n_str (by decide +kernel) (pa_cons (pv 9) pa_nil)))) (pe_lst (pa_cons (pe_ifExp (pt_val (pe_fld (pv 5) rfl)) pe_str pe_str) (pa_cons pe_str pa_nil))))) (pss_cons (ps_if (PW.pt (pw_or (pt_cmpR op_ne (pe_callTy (call_strO T.h_str T.i_str (ok_Bound_str T) (hr.mono (by decide))) rfl T.n_str (by decide +kernel) (pa_cons (pv 5) pa_nil)) (pe_join pe_str (pv 6)) (nomark _)) (pw_or1 (pt_cmpR (op_neK (K := K) T.h_ne T.h_eq T.i_eq T.o_sub (ok_Bound_eq T) (hr.mono (by decide))) (pe_cmethK (E := fun _ => E0) (C8.pe_gc (v := .ref _) rfl ⟨_, T.g_Bound, rfl⟩) cR0 cM0 GR (hr.mono (by decide)) kbr px0 (pk_cons (pe_callTy (call_strO T.h_str T.i_str (ok_Bound_str T) (hr.mono (by decide))) rfl T.n_str (by decide +kernel) (pa_cons (pv 5) pa_nil)) pk_nil)) (pv 5) (nomark _))))) (pss_one (ps_ret pe_bl)) pss_nil) (pss_cons (ps_set (i := 7) sc__law_part_two.nd rfl (Or.inl rfl) (pe_callR (ok__law_pick_b T) (hr.mono (by decide)) rfl T.g__law_pick_b T.k__law_pick_b px0 (pa_cons (pv 1) (pa_cons (pe_lst (pa_cons pe_non (pa_cons pe_int (pa_cons pe_bl (pa_cons (pe_tup pa_nil) (pa_cons (pe_lst (pa_cons (pe_callTy (call_strO T.h_str T.i_str (ok_Bound_str T) (hr.mono (by decide))) rfl T.n_str (by decide +kernel) (pa_cons (pv 5) pa_nil)) pa_nil)) (pa_cons pe_dnewK (pa_cons (pv 5) pa_nil)))))))) pa_nil)))) (pss_one (ps_if (PW.pt (pw_or (pt_not (pt_val (pe_callR (ok__law_words_right T) (hr.mono (by decide)) rfl T.g__law_words_right T.k__law_words_right px0 (pa_cons (pv 1) (pa_cons (pv 6) pa_nil))))) (pw_or1 (pt_cmpR (op_neD hr.units) (pe_callR (ok__law_spot T) (hr.mono (by decide)) rfl T.g__law_spot T.k__law_spot px0 (pa_cons (pv 7) pa_nil)) (pe_tup (pa_cons pe_int (pa_cons pe_int pa_nil))) (nomark _))))) (pss_one (ps_ret pe_bl)) pss_nil))))))))) (pss_one (ps_ret pe_bl)))), ?_⟩
    obtain ⟨a, ns, rfl, ha, hl, k⟩ := h
    rw [show L2.start ["script", "pen", "lap", "many", "form", "bound", "words", "odd", "k", "factor"] [V.ref a] = [some (.ref a), none, none, none, none, none, none, none, none, none] from rfl]
    refine ⟨_, rfl, a, ns, rfl, ha, hl, fun p q H1 e1 hpn hp1 => ?_⟩
    refine ⟨_, rfl, by decide, by decide, ?_⟩
    refine for_range (fun i σ H' => ∃ x : List (Option V), x.length = 8 ∧ σ = some (.ref a) :: some (.ref p) :: x ∧ PenAt H' p q (40 * i)) ⟨List.replicate 8 none, rfl, rfl, hp1.mono (by simp)⟩ (fun i σ H2 hi h => ?_) (fun σ H2 h => ?_)
    rotate_left
    · obtain ⟨x, hx, rfl, hp2⟩ := h
      exact k H2
    · obtain ⟨x, hx, rfl, hp2⟩ := h
      match x, hx with
      | [x2, x3, x4, x5, x6, x7, x8, x9], _ =>
      clear hx
      refine ⟨_, rfl, p, q, 9, _, rfl, by decide, by decide, by omega, hp2, fun many J1 m0 m9 p1 f1 => ?_⟩
      try walk_at "nm"
      refine tlc_draw (c := 3) (n := many.toNat) (fun R h => ⟨_, rfl, _, rfl, by omega, by omega, h⟩) (fun _ _ v _ => ∃ i : Int, v = .int i ∧ i.natAbs < 10 ^ 60) (by omega) p1 (fun _ _ _ _ _ h => h) (fun _ _ _ _ _ _ h => h) (fun D j J2 hj e2 p2 _ A B hA => ?_) (fun D xs J2 hD hl2 e2 p2 hlen hR => ?_)
      · refine ⟨rfl, ?_⟩
        unfold tYes
        refine iteT ?_
        refine ⟨_, rfl, _, rfl, p, q, _, rfl, by omega, p2, fun f J3 f0 f9 p3 f3 => ?_⟩
        refine ⟨10, 60, rfl, rfl, ⟨by decide, by decide, by decide⟩, _, _, rfl, rfl, ?_⟩
        refine ⟨10, 59, rfl, rfl, ⟨by decide, by decide, by decide⟩, _, rfl, ?_⟩
        refine ⟨szl (by simp), fun l y => ?_⟩
        generalize hF : upd J3 l _ = J4
        obtain ⟨u4, v4⟩ := new_ok hF y
        refine ⟨p, q, l, _, _, rfl, (pen_ne p3 y).1, u4, by simp, by simp, by omega, p3.same v4, fun x J5 hx p5 f5 => ?_⟩
        refine hA x J5 (f3.trans ((ExtS.of v4).trans f5)) (p5.mono (by push_cast; omega)) ?_
        simp only [List.mem_cons, List.not_mem_nil, or_false] at hx
        rcases hx with rfl | rfl | rfl
        · exact ⟨_, rfl, Nat.lt_of_le_of_lt (show f.natAbs ≤ 20 by omega) (by decide)⟩
        · exact ⟨_, rfl, by decide⟩
        · exact ⟨_, rfl, by decide⟩
      · obtain ⟨fs, rfl, hsm⟩ := ints_of (G := fun i => i.natAbs < 10 ^ 60) hR
        rw [List.length_map] at hlen
        refine ⟨_, _, rfl, .inl ⟨.of hl2, fun t y => ?_⟩⟩
        generalize hF : upd J2 t _ = J3
        obtain ⟨u3, v3⟩ := new_ok hF y
        have p3 := p2.same v3
        try dsimp only
        refine ⟨_, rfl, _, rfl, ?_⟩
        refine ⟨szl (by simp), fun l2 y => ?_⟩
        generalize hF2 : upd J3 l2 _ = J4
        obtain ⟨u4, v4⟩ := new_ok hF2 y
        refine ⟨p, q, l2, _, _, rfl, (pen_ne p3 y).1, u4, by simp, by simp, by omega, p3.same v4, fun sv J5 hsv p5 f5 => ?_⟩
        obtain ⟨st, rfl⟩ : ∃ st : Bool, sv = .bl st := by
          simp only [List.mem_cons, List.not_mem_nil, or_false] at hsv
          rcases hsv with rfl | rfl
          · exact ⟨_, rfl⟩
          · exact ⟨_, rfl⟩
        have tp : t ≠ p := (pen_ne p2 ‹J2 t = none›).1
        have u5 := f5 _ _ tp (v4 _ _ u3)
        intro bx bd z1 z2 z3
        refine init_ok z1 z2 z3 u5 (by omega) fun J6 s6 B6 => ⟨rfl, ?_⟩
        have p6 := p5.same s6
        clear hF hF2 y hl2 hR hD e2 p2 p3 u3 v3 u4 v4 hsv f5 u5 p5 z1 z2 z3 s6 tp
        try dsimp only
        have sml : small fs := ⟨by omega, fun i hi => Nat.le_of_lt (hsm i hi)⟩
        have h8 : fs.length ≤ 8 := by omega
        refine lc_fm (xs := fs.map V.int) (fun Q' h => ⟨_, rfl, h⟩) (fun _ => true) txI (.inr (.of B6.f)) (by rw [List.length_map]; omega) (fun x hx J7 e7 A B hA hB => ?_) (fun D J7 hD hl7 e7 => ?_)
        · obtain ⟨i, hi, rfl⟩ := List.mem_map.mp hx
          refine ⟨rfl, ?_⟩
          unfold tYes
          refine iteT ?_
          exact ⟨_, rfl, _, rfl, log_small (sml.2 i hi), hA rfl J7 (Same.refl J7)⟩
        · rw [filt_all, map_txI] at hl7
          have B7 := B6.same e7
          have p7 := p6.same e7
          refine ⟨_, rfl, bx, _, bd, _, _, rfl, B7.o, T.cl_Bound, T.na_strict, rfl, _, rfl, ?_⟩
          apply if_cut
          · intro c k'
            rw [show (">" : Str) = opS st by rw [c]; rfl]
            exact k'
          · intro c k'
            rw [show (">=" : Str) = opS st by rw [c]; rfl]
            exact k'
          refine ⟨szl (by simp), fun l3 y => ?_⟩
          generalize hF : upd J7 l3 _ = J8
          obtain ⟨u8, v8⟩ := new_ok hF y
          clear hF y
          refine ⟨D, l3, _, [opS st, "0"].map V.str, rfl, rfl, v8 _ _ hl7, u8, Nat.le_of_lt (small_le (by simp only [List.length_map, List.length_cons, List.length_nil]; omega)), fun wl y => ?_⟩
          rw [← List.map_append, show (fs.map fun i => (toString i : Str)) ++ [opS st, "0"] = wordsB fs st from rfl]
          generalize hF : upd J8 wl _ = J9
          obtain ⟨u9, v9⟩ := new_ok hF y
          have wp : wl ≠ p := (pen_ne (p7.same v8) y).1
          clear hF y
          have e9 := v8.trans v9
          have B9 := B7.same e9
          have p9 := p7.same e9
          try walk_at "nm"
          refine ⟨_, rfl, bx, bd, _, rfl, B9.o, bx, bd, t, fs, st, rfl, B9, sml, fun J10 e10 => ⟨_, rfl, ?_⟩⟩
          have B10 := B9.same e10
          have p10 := p9.same e10
          have w10 := e10 _ _ u9
          refine ⟨⟨_, rfl⟩, _, rfl, " ", wl, wordsB fs st, rfl, rfl, .inl (.of w10), len_words sml, ?_⟩
          refine ⟨rfl, ?_⟩
          rw [decide_eq_true rfl]
          refine ⟨_, rfl, iteF ?_⟩
          refine ⟨rfl, _, rfl, bx, bd, _, rfl, B10.o, bx, bd, t, fs, st, rfl, B10, sml, fun J11 e11 => ⟨_, rfl, ?_⟩⟩
          have B11 := B10.same e11
          have p11 := p10.same e11
          have w11 := e11 _ _ w10
          have rr := words_right (st := st) hsm h8
          refine ⟨rfl, _, some (wordsB fs st), rfl, .txt rr.ne rr.le (fun z hz => (rr.ok z hz).2) (fun z hz => (rr.ok z hz).1), fun h0 => (by cases h0), fun ws' ew => ?_⟩
          obtain rfl := Option.some.inj ew
          have rd := read_right (st := st) hsm h8
          refine ⟨fun n hn => (by rw [rd] at hn; cases hn), fun fs' st' hrd b2 d2 t2 J12 e12 B2 => ?_⟩
          rw [rd] at hrd
          obtain ⟨rfl, rfl⟩ := Prod.mk.inj (Sum.inr.inj hrd)
          have B12 := B11.same e12
          have p12 := p11.same e12
          have w12 := e12 _ _ w11
          refine ⟨_, rfl, b2, d2, _, _, rfl, B2.o, ty_Bound T B12, nf_Bound, b2, d2, t2, fs, st, .ref bx, some (fs, st), rfl, B2, .bnd B12, _, rfl, ?_⟩
          have et : eqB fs st (some (fs, st)) = true := by simp [eqB]
          rw [et]
          refine ⟨_, rfl, _, rfl, iteF ?_⟩
          try walk_at "nm"
          refine ⟨_, rfl, ?_⟩
          refine ⟨by decide, fun a1 y => ?_⟩
          generalize hF : upd J12 a1 _ = J13
          obtain ⟨u13, v13⟩ := new_ok hF y
          clear hF y
          have B13 := B12.same v13
          refine ⟨_, rfl, bx, bd, _, rfl, B13.o, bx, bd, t, fs, st, rfl, B13, sml, fun J14 e14 => ⟨_, rfl, ?_⟩⟩
          refine ⟨szl (by simp), fun a2 y => ?_⟩
          generalize hF : upd J14 a2 _ = J15
          obtain ⟨u15, v15⟩ := new_ok hF y
          have n2 : a2 ≠ p := (pen_ne ((p12.same v13).same e14) y).1
          clear hF y
          intro a3 y
          generalize hF : upd J15 a3 _ = J16
          obtain ⟨u16, v16⟩ := new_ok hF y
          clear hF y
          refine ⟨_, rfl, szl (by simp), fun ol y => ?_⟩
          generalize hF : upd J16 ol _ = J17
          obtain ⟨u17, v17⟩ := new_ok hF y
          have e17 : Same J12 J17 := v13.trans (e14.trans (v15.trans (v16.trans v17)))
          have p16 := p12.same (v13.trans (e14.trans (v15.trans v16)))
          have no := notxt_ok T (p16.same v17) ((e14.trans (v15.trans (v16.trans v17))) _ _ u13) ((v16.trans v17) _ _ u15) n2 (v17 _ _ u16) (B12.same e17)
          refine ⟨p, q, ol, _, _, rfl, (pen_ne p16 y).1, u17, by simp, by simp, by omega, p16.same v17, fun ov J18 hov p18 f18 => ?_⟩
          have nv := no ov hov
          have w18 := f18 _ _ wp (e17 _ _ w12)
          clear no hov hF y u13 u15 u16 u17 v13 e14 v15 v16 v17 e17 p16 B12 B13 w12 p12
          try walk_at "nm"
          refine ⟨_, rfl, _, rfl, p, q, wl, fs, st, _, rfl, wp, w18, p18, by omega, h8, hsm, fun J19 f19 p19 => ?_⟩
          refine ⟨_, rfl, iteF ?_⟩
          refine ⟨_, rfl, ov, none, rfl, nv _ (f18.trans f19), fun m hm g J20 e20 hg => ?_, fun hn => (by cases hn)⟩
          obtain rfl : 0 = m := Option.some.inj hm
          refine ⟨szl (by simp), fun g2 y => ?_⟩
          generalize hF : upd J20 g2 _ = J21
          obtain ⟨u21, v21⟩ := new_ok hF y
          refine ⟨_, _, dp_tup (ns := [0, 0]) (v21 _ _ hg), dp_tup (ns := [0, 0]) u21, shaped_tup _, shaped_tup _, ?_⟩
          rw [eqv_ints, decide_eq_true rfl]
          refine ⟨_, rfl, iteF ?_⟩
          exact ⟨[_, _, _, _, _, _, _, _], rfl, rfl, ((p19.same e20).same v21).mono (by push_cast; omega)⟩
end
end K15

namespace K15
open PySem PySem.Spec PyProof.Rows L2 Qk
section
variable {P : Program} {w : World} {K : PySem.W.Frag} {mg : Str → Option Value} {base : Heap}
def spLaw (K : PySem.W.Frag) : Sp := fun vs H Q _ => ∃ (a : Addr) (ns : List Int), vs = [.ref a] ∧ SqL K H a (ns.map V.int) ∧ ns.length ≤ 63 ∧ LamX.Tabs (TTl K) H ∧ ∀ H', Q (.bl true) H'
theorem sqL_ext {H H' : Hp} {a : Addr} {ns : List V} (h : SqL K H a ns) (e : LamX.ExtN H H') : SqL K H' a ns := by
  rcases h with h | h
  · refine .inl ?_
    rcases h with h | ⟨o, h⟩
    · exact .inl (e _ _ h fun ps z => by cases z)
    · exact .inr ⟨o, e _ _ h fun ps z => by cases z⟩
  · exact .inr h
theorem fk_law (T : Txt P K mg) (TB : LamX.TabB base mg (cR K).1 (cR K).2) {fd : FuncData} (F : FunD K "law" "law" (defArgs s_law) (defBody s_law) (defScope s_law) [] [] (He.ga K "law") fd) : FnOk P w K mg base (L2.CX P w) 10 (He.ga K "law") fd ["script"] (spLaw K) := by
  have R1 := ok__law_part_one (P := P) (w := w) T TB
  refine F.ok sc_law (fun vs H Q E h => ?_) (fun cdv A outer s H vs Q E hr h => ?_)
  · obtain ⟨a, ns, rfl, _⟩ := h; rfl
  · refine ⟨_, (pss_one (ps_ret (pe_and (pe_callR R1 (hr.mono (by decide)) rfl T.g__law_part_one T.k__law_part_one px0 (pa_cons (pv 0) pa_nil)) (pe_one (pe_callR (ok__law_part_two T) (hr.mono (by decide)) rfl T.g__law_part_two T.k__law_part_two px0 (pa_cons (pv 0) pa_nil)))))), ?_⟩
    obtain ⟨a, ns, rfl, ha, hl, hT, k⟩ := h
    rw [show L2.start ["script"] [V.ref a] = [some (.ref a)] from rfl]
    refine ⟨_, rfl, a, ns, rfl, ha, hl, hT, fun H1 e1 t1 => ?_⟩
    refine ⟨_, rfl, ?_⟩
    refine iteT ?_
    exact ⟨_, rfl, a, ns, rfl, sqL_ext ha e1, hl, k⟩
end
end K15

/-! ## H0. the head: defs at any address, defs that close over their class, own errors, told by a Hook -/
namespace Qk
open PySem PySem.Spec PyProof.Rows L2
/-- what is looked at of a def: all but its objects' addresses -/
abbrev FnC : Type := Option (Str × Str × Arguments × FuncBody × Scope × Addr × List Str × Addr)
def fnC (K : PySem.W.Frag) (a : Addr) : FnC := match K.lookup a with
  | some o => (match o.data with
    | .func fd => some (fd.name, fd.qualname, fd.params, fd.body, fd.scope, fd.globals, fd.closure.map (·.1), fd.builtins)
    | _ => none)
  | none => none
/-- a def: where it stands, its name, its text, the names of its cells, its defaults -/
structure DfC where
  at_ : PySem.W.Frag → Addr
  name : Str
  qual : Str
  st : Stmt
  cells : List Str
  dfl : List He.Dv
def DfC.val (d : DfC) : FnC := some (d.name, d.qual, defArgs d.st, .stmts (defBody d.st), defScope d.st, mainGlobals, d.cells, builtinsNs)
def dfB (K : PySem.W.Frag) (d : DfC) : Bool := PySem.W.keepIn K (.ref (d.at_ K)) && (match K.lookup (d.at_ K) with
  | some o => (match o.data with
    | .func fd => PySem.W.codeIn K fd.code d.qual && He.dflB K fd.defaults (d.dfl.map (He.Dv.v K))
    | _ => false)
  | none => false)
section
variable {K : PySem.W.Frag} {d : DfC}
theorem DfC.raw (e : fnC K (d.at_ K) = d.val) (c : dfB K d = true) : ∃ oc od cl dV kV doc pm an cdv ct osl, K.lookup (d.at_ K) = some ⟨oc, od, .func (PySem.W.fnX d.name d.qual (defArgs d.st) (defBody d.st) (defScope d.st) cl dV kV doc pm an cdv ct), osl⟩ ∧ cl.map (·.1) = d.cells ∧ PySem.W.codeIn K cdv d.qual = true ∧ DflV K dV (d.dfl.map (He.Dv.v K)) ∧ PySem.W.keepIn K (.ref (d.at_ K)) = true := by
  obtain ⟨kp, c⟩ := He.ba c
  unfold fnC at e
  cases q : K.lookup (d.at_ K) with
  | none => rw [q] at c; cases c
  | some o =>
    obtain ⟨oc, od, dt, osl⟩ := o
    rw [q] at c e
    cases dt with
    | func fd =>
      obtain ⟨nm, qn, pa, bo, sc, gl, cl, dV, kV, doc, pm, an, cdv, ct, bl⟩ := fd
      obtain ⟨c1, c2⟩ := He.ba c
      have e' := Option.some.inj e
      simp only [Prod.mk.injEq] at e'
      obtain ⟨rfl, rfl, rfl, rfl, rfl, rfl, h7, rfl⟩ := e'
      exact ⟨oc, od, cl, dV, kV, doc, pm, an, cdv, ct, osl, rfl, h7, c1, He.dflB_ok c2, kp⟩
    | _ => cases c
theorem DfC.funD (e : fnC K (d.at_ K) = d.val) (c : dfB K d = true) (hc : d.cells = []) : ∃ fd, FunD K d.name d.qual (defArgs d.st) (defBody d.st) (defScope d.st) (d.dfl.map (He.Dv.v K)) [] (d.at_ K) fd := by
  obtain ⟨oc, od, cl, dV, kV, doc, pm, an, cdv, ct, osl, lk, hcl, hcd, hD, kp⟩ := DfC.raw e c
  rw [hc, List.map_eq_nil_iff] at hcl
  subst hcl
  exact ⟨_, ⟨oc, od, dV, kV, doc, pm, an, cdv, ct, osl, rfl, lk, hcd, hD, .inl rfl⟩, kp⟩
end
/-! ### own errors -/
def funAt (K : PySem.W.Frag) (a : Addr) : Option FuncData := match K.lookup a with
  | some o => (match o.data with
    | .func fd => some fd
    | _ => none)
  | none => none
def cellAt (K : PySem.W.Frag) (a : Addr) : Addr := match funAt K a with
  | some fd => (match fd.closure with
    | c :: _ => c.2
    | [] => 0)
  | none => 0
def codeAt (K : PySem.W.Frag) (a : Addr) : Addr := match funAt K a with
  | some fd => (match fd.code with
    | .ref c => c
    | _ => 0)
  | none => 0
def oexB (K : PySem.W.Frag) (C : Addr) : Bool := (match K.lookup C with
    | some ⟨.type t, _, .cls cd, sl⟩ => (match cd.mro, sl.toList with
      | .ref D :: bm, [_, _, _, _, some (.builtin n), _] => decide (t = "type") && (decide (D = C) && (decide (n = "ValueError.__new__") && (!cd.hasDel && (cd.hasDict && PySem.HandSPX.refsVE bm))))
      | _, _ => false)
    | _ => false) && (decide (PySem.W.findIn K (.ref C) "__setattr__" = some (some (.builtin "object.__setattr__"))) && (decide (PySem.W.subIn K (.ref C) (.type "BaseException") = some true) &&
      (decide (PySem.W.typeIn K (.ref C) = some (.type "type")) && PySem.W.keepIn K (.ref C))))
theorem oexB_ok {K : PySem.W.Frag} {C : Addr} (h : oexB K C = true) : OexC K C := by
  obtain ⟨h1, h⟩ := He.ba h
  obtain ⟨h2, h⟩ := He.ba h
  obtain ⟨h3, h⟩ := He.ba h
  obtain ⟨h4, h5⟩ := He.ba h
  refine ⟨?_, of_decide_eq_true h2, of_decide_eq_true h3, of_decide_eq_true h4, h5⟩
  split at h1
  · rename_i t dd cd sl ho
    split at h1
    · rename_i D bm k0 k1 k2 k3 n k5 hm hs
      obtain ⟨a1, h1⟩ := He.ba h1
      obtain ⟨a2, h1⟩ := He.ba h1
      obtain ⟨a3, h1⟩ := He.ba h1
      obtain ⟨a4, h1⟩ := He.ba h1
      obtain ⟨a5, a6⟩ := He.ba h1
      obtain rfl := of_decide_eq_true a1
      obtain rfl := of_decide_eq_true a2
      obtain rfl := of_decide_eq_true a3
      obtain ⟨nm, bs, mro, ns, qn, hd, sn, sub, ab, col, del⟩ := cd
      dsimp only at hm a4 a5
      subst hm
      subst a5
      have ed : del = false := by
        cases del with
        | false => rfl
        | true => cases a4
      subst ed
      have es : sl = #[k0, k1, k2, k3, some (.builtin "ValueError.__new__"), k5] := by
        obtain ⟨l⟩ := sl
        exact congrArg Array.mk hs
      subst es
      exact ⟨nm, qn, ns, bs, bm, sn, sub, ab, col, dd, k0, k1, k2, k3, k5, ho, a6⟩
    · cases h1
  · cases h1
def supB (P : Program) (K : PySem.W.Frag) (C fI : Addr) : Bool := oexB K C && ((match K.lookup (cellAt K fI) with
    | some ⟨_, _, .cell (some (.ref D)), _⟩ => decide (D = C)
    | _ => false) && ((match K.lookup (codeAt K fI) with
    | some ⟨_, _, .fields vs, _⟩ => (match (vs[2]? : Option Value) with
      | some (.str file _) => (P.main.file : Str) == file
      | _ => false)
    | _ => false) && (decide (PySem.W.mroIn K C (.ref C) = some true) && (decide (PySem.W.subIn K (.ref C) (.type "ValueError") = some true) && (decide (PySem.W.ks_superIn K C C "__init__" = some (some (.builtin "ValueError.__init__"))) &&
    (decide (PySem.W.nsIn K cStatics "thirdparty.any" = some none) && (!(P.main.scope.names.lookup ("super" : Str)).isSome && (decide (PySem.W.findIn K (.ref C) "__init__" = some (some (.ref fI))) && decide (PySem.W.typeIn K (.ref fI) = some (.type "function"))))))))))
theorem supB_ok {P : Program} {K : PySem.W.Frag} {C fI : Addr} (h : supB P K C fI = true) : SupC P K C fI (cellAt K fI) (codeAt K fI) ∧ PySem.W.findIn K (.ref C) "__init__" = some (some (.ref fI)) ∧ PySem.W.typeIn K (.ref fI) = some (.type "function") := by
  obtain ⟨h1, h⟩ := He.ba h
  obtain ⟨h2, h⟩ := He.ba h
  obtain ⟨h3, h⟩ := He.ba h
  obtain ⟨h4, h⟩ := He.ba h
  obtain ⟨h5, h⟩ := He.ba h
  obtain ⟨h6, h⟩ := He.ba h
  obtain ⟨h7, h⟩ := He.ba h
  obtain ⟨h8, h⟩ := He.ba h
  obtain ⟨h9, h10⟩ := He.ba h
  refine ⟨⟨oexB_ok h1, ?_, ?_, of_decide_eq_true h4, of_decide_eq_true h5, of_decide_eq_true h6, of_decide_eq_true h7, ?_⟩, of_decide_eq_true h9, of_decide_eq_true h10⟩
  · split at h2
    · rename_i c1 c2 D c3 ho
      obtain rfl := of_decide_eq_true h2
      exact ⟨_, _, _, ho⟩
    · cases h2
  · split at h3
    · rename_i c1 c2 vs c3 ho
      split at h3
      · rename_i file tf hv
        exact ⟨_, _, vs, _, file, tf, ho, hv, h3⟩
      · cases h3
    · cases h3
  · cases e : (P.main.scope.names.lookup ("super" : Str)).isSome with
    | false => rfl
    | true => rw [e] at h8; cases h8
theorem supF_of {P : Program} {K : PySem.W.Frag} {mg : Str → Option Value} {x qual : Str} {st : Stmt} {fs : List Str} {d : DfC} (gC : mg x = some (.ref (He.ga K x))) (sup : mg "super" = none) (no : ∀ f ∈ fs, PySem.W.findIn K (.ref (He.ga K x)) f = some none)
    (hd : d = ⟨fun K => He.fAd K (x, some "__init__"), "__init__", qual, st, ["__class__"], []⟩) (e : fnC K (d.at_ K) = d.val) (c : dfB K d = true) (h : supB P K (He.ga K x) (He.fAd K (x, some "__init__")) = true) : SupF P K mg x qual st fs := by
  subst hd
  obtain ⟨oc, od, cl, dV, kV, doc, pm, an, cdv, ct, osl, lk, hcl, hcd, hD, kp⟩ := DfC.raw e c
  obtain ⟨S, hi, ht⟩ := supB_ok h
  have dn : dV = .none := by
    rcases hD with ⟨_, e⟩ | ⟨e, _⟩
    · exact e
    · exact absurd rfl e
  subst dn
  have lk : K.lookup (He.fAd K (x, some "__init__")) = some ⟨oc, od, .func (PySem.W.fnX "__init__" qual (defArgs st) (defBody st) (defScope st) cl .none kV doc pm an cdv ct), osl⟩ := lk
  have hf : funAt K (He.fAd K (x, some "__init__")) = some (PySem.W.fnX "__init__" qual (defArgs st) (defBody st) (defScope st) cl .none kV doc pm an cdv ct) := by
    unfold funAt
    rw [lk]
  have hcd : PySem.W.codeIn K cdv qual = true := hcd
  obtain ⟨c0, rfl⟩ : ∃ c0, cdv = .ref c0 := by
    cases cdv with
    | ref c0 => exact ⟨c0, rfl⟩
    | _ => cases hcd
  have hcl : cl.map (·.1) = [("__class__" : Str)] := hcl
  match cl, hcl, lk, hf with
  | [(nm, cc)], hcl, lk, hf =>
    obtain rfl : nm = "__class__" := (List.cons.inj hcl).1
    have e1 : cellAt K (He.fAd K (x, some "__init__")) = cc := by unfold cellAt; rw [hf]
    have e2 : codeAt K (He.fAd K (x, some "__init__")) = c0 := by unfold codeAt; rw [hf]
    rw [e1, e2] at S
    exact ⟨gC, sup, ⟨_, cc, c0, kV, doc, pm, ct, oc, an, od, osl, S, lk, hcd, hi, ht⟩, no⟩
/-! ### the Hook -/
def asK (g : Addr → Option Obj) (n : Nat) : List Addr := He.asD g n ++ [cStatics]
abbrev AlK : Type := Bool × List FnC
def obsK (fa : List He.Fa) (fn : List DfC) (tf : List He.Defn) (ex : List (PySem.W.Frag → Bool)) (g : Addr → Option Obj) (K : PySem.W.Frag) : AlK := ((fa.all fun f => f.ok K) && ((fn.all (dfB K)) && ((ex.all fun e => e K) && He.tabsB g tf K)), fn.map fun d => fnC K (d.at_ K))
structure SaysK (fa : List He.Fa) (fn : List DfC) (tf : List He.Defn) (ex : List (PySem.W.Frag → Bool)) (h : Heap) (K : PySem.W.Frag) : Prop where
  fa : ∀ f ∈ fa, He.Fa.ok K f = true
  ok : ∀ d ∈ fn, dfB K d = true
  fn : ∀ d ∈ fn, fnC K (d.at_ K) = d.val
  ex : ∀ e ∈ ex, e K = true
  hd : ∀ p ∈ tf, PySem.W.codeHdIn K (He.cT K p).1 (He.cT K p).2 = true
  out : ∀ p ∈ tf, K.lookup (He.cT K p).2 = none
  empty : ∀ p ∈ tf, h.get? (He.cT K p).2 = some { cls := .none, data := .fields #[] }
theorem map_eq {α β : Type} {f g : α → β} : ∀ {l : List α}, l.map f = l.map g → ∀ x ∈ l, f x = g x
  | [], _, x, hx => by cases hx
  | y :: l, h, x, hx => by
    obtain ⟨h1, h2⟩ := List.cons.inj h
    rcases List.mem_cons.mp hx with rfl | hx
    · exact h1
    · exact map_eq h2 x hx
section
variable {fa : List He.Fa} {fn : List DfC} {tf : List He.Defn} {ex : List (PySem.W.Frag → Bool)} {h : Heap} {K : PySem.W.Frag}
theorem saysK_of {as : List Addr} (e : obsK fa fn tf ex h.get? (He.frT h.get? as) = (true, fn.map DfC.val)) : SaysK fa fn tf ex h (He.frT h.get? as) := by
  have e1 := congrArg (fun z : AlK => z.1) e
  have e2 : fn.map (fun d => fnC (He.frT h.get? as) (d.at_ (He.frT h.get? as))) = fn.map DfC.val := congrArg (fun z : AlK => z.2) e
  obtain ⟨a1, e1⟩ := He.ba e1
  obtain ⟨a2, e1⟩ := He.ba e1
  obtain ⟨a3, a4⟩ := He.ba e1
  have tb : ∀ p ∈ tf, PySem.W.codeHdIn (He.frT h.get? as) (He.cT (He.frT h.get? as) p).1 (He.cT (He.frT h.get? as) p).2 = true ∧ ∃ o, h.get? (He.cT (He.frT h.get? as) p).2 = some o ∧ He.emptyTab o = true := fun p hp => by
    obtain ⟨b1, b2⟩ := He.ba (List.all_eq_true.mp a4 p hp)
    refine ⟨b1, ?_⟩
    split at b2
    · rename_i o ho
      exact ⟨o, ho, b2⟩
    · cases b2
  refine ⟨List.all_eq_true.mp a1, List.all_eq_true.mp a2, map_eq e2, List.all_eq_true.mp a3, fun p hp => (tb p hp).1, fun p hp => ?_, fun p hp => ?_⟩
  · obtain ⟨_, o, ho, ht⟩ := tb p hp
    exact He.frT_none ho ht
  · obtain ⟨_, o, ho, ht⟩ := tb p hp
    rw [ho, He.emptyTab_eq ht]
theorem SaysK.fact (c : SaysK fa fn tf ex h K) (i : Nat) {f : He.Fa} (e : fa[i]? = some f := by rfl) : f.ok K = true := c.fa f (List.mem_of_getElem? e)
theorem SaysK.def_ (c : SaysK fa fn tf ex h K) (i : Nat) {d : DfC} (e : fn[i]? = some d := by rfl) (hc : d.cells = [] := by rfl) : ∃ fd, FunD K d.name d.qual (defArgs d.st) (defBody d.st) (defScope d.st) (d.dfl.map (He.Dv.v K)) [] (d.at_ K) fd :=
  DfC.funD (c.fn d (List.mem_of_getElem? e)) (c.ok d (List.mem_of_getElem? e)) hc
theorem SaysK.keep (c : SaysK fa fn tf ex h K) (i : Nat) {d : DfC} (e : fn[i]? = some d := by rfl) : PySem.W.keepIn K (.ref (d.at_ K)) = true := (He.ba (c.ok d (List.mem_of_getElem? e))).1
theorem SaysK.more (c : SaysK fa fn tf ex h K) (i : Nat) {e : PySem.W.Frag → Bool} (q : ex[i]? = some e := by rfl) : e K = true := c.ex e (List.mem_of_getElem? q)
end
def hookK (n : Nat) (fa : List He.Fa) (fn : List DfC) (tf : List He.Defn) (ex : List (PySem.W.Frag → Bool)) : PySem.W.Hook where
  α := AlK
  obs := fun s => obsK fa fn tf ex s.heap.get? (He.frT s.heap.get? (asK s.heap.get? n))
  val := fun _ => (true, fn.map DfC.val)
  says := fun _ h => ∃ K : PySem.W.Frag, K.In h ∧ SaysK fa fn tf ex h K
  of := fun _ _ e => ⟨_, He.frT_in, saysK_of e⟩
  keeps := fun _ _ _ ⟨K, hK, c⟩ k => ⟨K, PySem.W.Frag.In.keeps hK k, ⟨c.fa, c.ok, c.fn, c.ex, c.hd, c.out, fun p hp => k _ _ (c.empty p hp)⟩⟩
end Qk

namespace Qk
open PySem PySem.Spec PyProof.Rows L2
/-- a property of the class at C: its record, the def in it -/
def propB (K : PySem.W.Frag) (C : Addr) (m : Str) : Bool := decide (PySem.W.findIn K (.ref C) m = some (some (.ref (He.ma K C m)))) && (decide (PySem.W.specialIn K (.ref (He.ma K C m)) "__get__" = some (some (.builtin "property.__get__"))) && (decide (PySem.W.takesIn K (.ref (He.ma K C m)) = some true) &&
  (match PySem.W.recIn K (He.ma K C m) "property" with
    | some (.ref _ :: _) => true
    | _ => false)))
theorem propB_ok {K : PySem.W.Frag} {C : Addr} {m : Str} (h : propB K C m = true) : PropOf K C m (He.ma K C m) (He5.wf K C "property" m) := by
  obtain ⟨h1, h⟩ := He.ba h
  obtain ⟨h2, h⟩ := He.ba h
  obtain ⟨h3, h4⟩ := He.ba h
  refine ⟨of_decide_eq_true h1, of_decide_eq_true h2, of_decide_eq_true h3, ?_⟩
  unfold He5.wf
  split at h4
  · rename_i f r e
    exact ⟨r, by rw [e]⟩
  · cases h4
end Qk
namespace K15
open PySem PySem.Spec PyProof.Rows L2 Qk
def fa : List He.Fa := [.free "all", .free "list", .free "len", .free "int", .free "abs", .free "isinstance", .free "bool", .free "tuple", .free "range", .free "sum", .free "zip", .glo "is_int", .glo "are_ints", .glo "need_numbers", .glo "value_at", .glo "is_zero", .glo "_law_pen", .glo "_law_draw", .glo "_law_pick", .glo "_law_factor", .glo "_law_form", .glo "_law_value", .glo "_law_heard", .glo "number_of", .glo "factors_of", .glo "_law_refused_right", .glo "_law_part_one", .glo "_law_draw_b", .glo "_law_pick_b", .glo "_law_factor_b", .glo "_law_spot", .glo "_law_words_right", .glo "_law_part_two", .glo "law", .noat "BadForm" "part", .glo "BadForm", .free "super", .noat "BadText" "line", .noat "BadText" "word", .glo "BadText", .glo "CountError", .glo "BadBounds", .glo "BadNumber", .glo "BadQuestion", .glo "BadTest", .glo "BadRule", .glo "NoTable", .glo "TooMany", .glo "Bound", .free "str", .free "repr", .exm "BadForm" "CountError" true, .exm "BadText" "BadText" true, .mkr "Bound", .cls "Bound", .noat "Bound" "form", .noat "Bound" "is_strict", .meth "Bound" "__len__", .meth "Bound" "__eq__", .meth "Bound" "__str__", .meth "Bound" "__call__", .int "MOST_NUMBERS" 8, .int "MOST_FIGURES" 60, .int "MOST_DIGITS" (10 ^ 60)]
def fn : List DfC := [⟨fun K => He.fAd K ("is_int", none), "is_int", "is_int", s_is_int, [], []⟩,
  ⟨fun K => He.fAd K ("are_ints", none), "are_ints", "are_ints", s_are_ints, [], []⟩,
  ⟨fun K => He.fAd K ("need_numbers", none), "need_numbers", "need_numbers", s_need_numbers, [], []⟩,
  ⟨fun K => He.fAd K ("value_at", none), "value_at", "value_at", s_value_at, [], []⟩,
  ⟨fun K => He.fAd K ("is_zero", none), "is_zero", "is_zero", s_is_zero, [], []⟩,
  ⟨fun K => He.fAd K ("_law_pen", none), "_law_pen", "_law_pen", s__law_pen, [], []⟩,
  ⟨fun K => He.fAd K ("_law_draw", none), "_law_draw", "_law_draw", s__law_draw, [], []⟩,
  ⟨fun K => He.fAd K ("_law_pick", none), "_law_pick", "_law_pick", s__law_pick, [], []⟩,
  ⟨fun K => He.fAd K ("_law_factor", none), "_law_factor", "_law_factor", s__law_factor, [], []⟩,
  ⟨fun K => He.fAd K ("_law_form", none), "_law_form", "_law_form", s__law_form, [], []⟩,
  ⟨fun K => He.fAd K ("_law_value", none), "_law_value", "_law_value", s__law_value, [], []⟩,
  ⟨fun K => He.fAd K ("_law_heard", none), "_law_heard", "_law_heard", s__law_heard, [], []⟩,
  ⟨fun K => He.fAd K ("Bound", some "__init__"), "__init__", "Bound.__init__", s_Bound_init, [], [.bl false]⟩,
  ⟨fun K => He.fAd K ("Bound", some "__call__"), "__call__", "Bound.__call__", s_Bound_call, [], []⟩,
  ⟨fun K => He.fAd K ("Bound", some "__len__"), "__len__", "Bound.__len__", s_Bound_len, [], []⟩,
  ⟨fun K => He.fAd K ("Bound", some "__eq__"), "__eq__", "Bound.__eq__", s_Bound_eq, [], []⟩,
  ⟨fun K => He.fAd K ("Bound", some "__str__"), "__str__", "Bound.__str__", s_Bound_str, [], []⟩,
  ⟨fun K => He.fAd K ("number_of", none), "number_of", "number_of", s_number_of, [], []⟩,
  ⟨fun K => He.fAd K ("factors_of", none), "factors_of", "factors_of", s_factors_of, [], []⟩,
  ⟨fun K => He.fAd K ("_law_refused_right", none), "_law_refused_right", "_law_refused_right", s__law_refused_right, [], []⟩,
  ⟨fun K => He.fAd K ("_law_part_one", none), "_law_part_one", "_law_part_one", s__law_part_one, [], []⟩,
  ⟨fun K => He.fAd K ("_law_draw_b", none), "_law_draw_b", "_law_draw_b", s__law_draw_b, [], []⟩,
  ⟨fun K => He.fAd K ("_law_pick_b", none), "_law_pick_b", "_law_pick_b", s__law_pick_b, [], []⟩,
  ⟨fun K => He.fAd K ("_law_factor_b", none), "_law_factor_b", "_law_factor_b", s__law_factor_b, [], []⟩,
  ⟨fun K => He.fAd K ("_law_spot", none), "_law_spot", "_law_spot", s__law_spot, [], []⟩,
  ⟨fun K => He.fAd K ("_law_words_right", none), "_law_words_right", "_law_words_right", s__law_words_right, [], []⟩,
  ⟨fun K => He.fAd K ("_law_part_two", none), "_law_part_two", "_law_part_two", s__law_part_two, [], []⟩,
  ⟨fun K => He.fAd K ("law", none), "law", "law", s_law, [], []⟩,
  ⟨fun K => He.fAd K ("BadForm", some "__init__"), "__init__", "BadForm.__init__", s_BadForm_init, ["__class__"], []⟩,
  ⟨fun K => He.fAd K ("BadText", some "__init__"), "__init__", "BadText.__init__", s_BadText_init, ["__class__"], []⟩,
  ⟨fun K => He5.wf K (He.ga K "Bound") "classmethod" "read", "read", "Bound.read", s_Bound_read, [], []⟩,
  ⟨fun K => He5.wf K (He.ga K "Bound") "property" "is_false", "is_false", "Bound.is_false", s_Bound_is_false, [], []⟩]
def ex : List (PySem.W.Frag → Bool) := [fun K => supB (PySem.Challenge.rw_answerstell_k15_bounds_made_and_asked_an).prog K (He.ga K "BadForm") (He.fAd K ("BadForm", some "__init__")),
  fun K => supB (PySem.Challenge.rw_answerstell_k15_bounds_made_and_asked_an).prog K (He.ga K "BadText") (He.fAd K ("BadText", some "__init__")),
  fun K => askB K (He.ga K "BadForm"),
  fun K => askB K (He.ga K "BadText"),
  fun K => decide (PySem.W.kitOne K (.ref (He.ga K "BadForm")) (.ref (He.ga K "BadForm")) = some true),
  fun K => decide (PySem.W.findIn K (.ref (He.ga K "Bound")) "__ne__" = some (some (.builtin "object.__ne__"))),
  fun K => decide (PySem.W.subIn K (.ref (He.ga K "Bound")) (.type "object") = some true),
  fun K => decide (PySem.W.kitOne K (.type "tuple") (.ref (He.ga K "Bound")) = some false),
  fun K => decide (PySem.W.kitOne K (.type "NoneType") (.ref (He.ga K "Bound")) = some false),
  fun K => decide (PySem.W.subIn K (.type "tuple") (.ref (He.ga K "Bound")) = some false),
  fun K => decide (PySem.W.subIn K (.type "NoneType") (.ref (He.ga K "Bound")) = some false),
  fun K => decide (PySem.W.kitOne K (.ref (He.ga K "Bound")) (.type "str") = some false),
  fun K => PySem.W.fnIn K (He.fAd K ("Bound", some "__call__")),
  fun K => decide (PySem.W.findIn K (.ref (He.ga K "Bound")) "__class__" = some (some (.builtin "object.__class__"))) && (decide (PySem.W.specialIn K (.builtin "object.__class__") "__get__" = some (some (.builtin "getset_descriptor.__get__"))) && (decide (PySem.W.takesIn K (.builtin "object.__class__") = some true) && (decide (PySem.W.mroIn K (He.ga K "Bound") (.type "object") = some true) && decide (PySem.W.kitOne K (.ref (He.ga K "Bound")) (.ref (He.ga K "Bound")) = some true)))),
  fun K => He5.wrapB K (He.ga K "Bound") "classmethod" "classmethod.__get__" "read",
  fun K => PySem.W.fnIn K (He5.wf K (He.ga K "Bound") "classmethod" "read"),
  fun K => PySem.W.readsIn K (He.ga K "Bound") (.type "type") && decide (PySem.W.specialIn K (.ref (He.ga K "Bound")) "__getattribute__" = some (some (.builtin "type.__getattribute__"))),
  fun K => propB K (He.ga K "Bound") "is_false"]
def tf : List He.Defn := [("_law_refused_right", none)]
def names0 : List PySem.Str := ["CountError",
  "BadInput",
  "Refused",
  "BadBounds",
  "BadForm",
  "BadNumber",
  "BadQuestion",
  "BadRule",
  "BadTest",
  "BadText",
  "NoTable",
  "TooMany"]
def names1 : List PySem.Str := ["MOST_FIGURES",
  "is_int",
  "number_of",
  "MOST_NUMBERS",
  "MOST_DIGITS",
  "are_ints",
  "need_numbers",
  "opposite",
  "value_at",
  "is_zero",
  "Bound",
  "factors_of"]
def names2 : List PySem.Str := ["_law_pen",
  "_law_draw",
  "_law_pick",
  "_law_factor",
  "_law_form",
  "_law_value",
  "_law_heard",
  "_law_refused_right",
  "_law_part_one",
  "_law_draw_b",
  "_law_pick_b",
  "_law_factor_b"]
def names3 : List PySem.Str := ["_law_spot",
  "_law_words_right",
  "_law_part_two"]
def names : List PySem.Str := names0 ++ names1 ++ names2 ++ names3
abbrev R : PySem.W.OpenRow := PySem.W.OpenLaw.row PySem.Challenge.rw_answerstell_k15_bounds_made_and_asked_an
abbrev hk : PySem.W.Hook := hookK 6 fa fn tf ex
def ob (s : PySem.W.SharedT) : AlK := obsK fa fn tf ex (HandSHeadRun.getT s) (He.frT (HandSHeadRun.getT s) (asK (HandSHeadRun.getT s) 6))
theorem ob_eq (s : PySem.W.SharedT) : ob s = hk.obs s.abs := by
  have e : HandSHeadRun.getT s = s.abs.heap.get? := funext (HandSHeadRun.getT_eq s)
  unfold ob
  rw [e]
  rfl
theorem run (w : World) : HandSHeadRun.RunEq R (PySem.W.view R.prog [43]) hk ob 8000 names w := by
  intro os
  kernel_rfl
theorem txt_of {K : PySem.W.Frag} {mg : Str → Option Value} {h : Heap} (X : K.In h) (G : h.Ns mainGlobals mg) (c : SaysK fa fn tf ex h K) : Txt PySem.Challenge.rw_answerstell_k15_bounds_made_and_asked_an.prog K mg where
  n_all := He.free_ok X G (c.fact 0 (f := .free "all"))
  n_list := He.free_ok X G (c.fact 1 (f := .free "list"))
  n_len := He.free_ok X G (c.fact 2 (f := .free "len"))
  n_int := He.free_ok X G (c.fact 3 (f := .free "int"))
  n_abs := He.free_ok X G (c.fact 4 (f := .free "abs"))
  n_isinstance := He.free_ok X G (c.fact 5 (f := .free "isinstance"))
  n_bool := He.free_ok X G (c.fact 6 (f := .free "bool"))
  n_tuple := He.free_ok X G (c.fact 7 (f := .free "tuple"))
  n_range := He.free_ok X G (c.fact 8 (f := .free "range"))
  n_sum := He.free_ok X G (c.fact 9 (f := .free "sum"))
  n_zip := He.free_ok X G (c.fact 10 (f := .free "zip"))
  g_is_int := He.glo_ok X G (c.fact 11 (f := .glo "is_int"))
  k_is_int := c.keep 0
  d_is_int := c.def_ 0
  g_are_ints := He.glo_ok X G (c.fact 12 (f := .glo "are_ints"))
  k_are_ints := c.keep 1
  d_are_ints := c.def_ 1
  g_need_numbers := He.glo_ok X G (c.fact 13 (f := .glo "need_numbers"))
  k_need_numbers := c.keep 2
  d_need_numbers := c.def_ 2
  g_value_at := He.glo_ok X G (c.fact 14 (f := .glo "value_at"))
  k_value_at := c.keep 3
  d_value_at := c.def_ 3
  g_is_zero := He.glo_ok X G (c.fact 15 (f := .glo "is_zero"))
  k_is_zero := c.keep 4
  d_is_zero := c.def_ 4
  g__law_pen := He.glo_ok X G (c.fact 16 (f := .glo "_law_pen"))
  k__law_pen := c.keep 5
  d__law_pen := c.def_ 5
  g__law_draw := He.glo_ok X G (c.fact 17 (f := .glo "_law_draw"))
  k__law_draw := c.keep 6
  d__law_draw := c.def_ 6
  g__law_pick := He.glo_ok X G (c.fact 18 (f := .glo "_law_pick"))
  k__law_pick := c.keep 7
  d__law_pick := c.def_ 7
  g__law_factor := He.glo_ok X G (c.fact 19 (f := .glo "_law_factor"))
  k__law_factor := c.keep 8
  d__law_factor := c.def_ 8
  g__law_form := He.glo_ok X G (c.fact 20 (f := .glo "_law_form"))
  k__law_form := c.keep 9
  d__law_form := c.def_ 9
  g__law_value := He.glo_ok X G (c.fact 21 (f := .glo "_law_value"))
  k__law_value := c.keep 10
  d__law_value := c.def_ 10
  g__law_heard := He.glo_ok X G (c.fact 22 (f := .glo "_law_heard"))
  k__law_heard := c.keep 11
  d__law_heard := c.def_ 11
  d_Bound_init := c.def_ 12
  d_Bound_call := c.def_ 13
  d_Bound_len := c.def_ 14
  d_Bound_eq := c.def_ 15
  d_Bound_str := c.def_ 16
  g_number_of := He.glo_ok X G (c.fact 23 (f := .glo "number_of"))
  k_number_of := c.keep 17
  d_number_of := c.def_ 17
  g_factors_of := He.glo_ok X G (c.fact 24 (f := .glo "factors_of"))
  k_factors_of := c.keep 18
  d_factors_of := c.def_ 18
  g__law_refused_right := He.glo_ok X G (c.fact 25 (f := .glo "_law_refused_right"))
  k__law_refused_right := c.keep 19
  d__law_refused_right := c.def_ 19
  g__law_part_one := He.glo_ok X G (c.fact 26 (f := .glo "_law_part_one"))
  k__law_part_one := c.keep 20
  d__law_part_one := c.def_ 20
  g__law_draw_b := He.glo_ok X G (c.fact 27 (f := .glo "_law_draw_b"))
  k__law_draw_b := c.keep 21
  d__law_draw_b := c.def_ 21
  g__law_pick_b := He.glo_ok X G (c.fact 28 (f := .glo "_law_pick_b"))
  k__law_pick_b := c.keep 22
  d__law_pick_b := c.def_ 22
  g__law_factor_b := He.glo_ok X G (c.fact 29 (f := .glo "_law_factor_b"))
  k__law_factor_b := c.keep 23
  d__law_factor_b := c.def_ 23
  g__law_spot := He.glo_ok X G (c.fact 30 (f := .glo "_law_spot"))
  k__law_spot := c.keep 24
  d__law_spot := c.def_ 24
  g__law_words_right := He.glo_ok X G (c.fact 31 (f := .glo "_law_words_right"))
  k__law_words_right := c.keep 25
  d__law_words_right := c.def_ 25
  g__law_part_two := He.glo_ok X G (c.fact 32 (f := .glo "_law_part_two"))
  k__law_part_two := c.keep 26
  d__law_part_two := c.def_ 26
  g_law := He.glo_ok X G (c.fact 33 (f := .glo "law"))
  k_law := c.keep 27
  d_law := c.def_ 27
  e_BadForm := supF_of (He.glo_ok X G (c.fact 35 (f := .glo "BadForm"))) (He.free_ok X G (c.fact 36 (f := .free "super"))) (fun f hf => by
      simp only [List.mem_cons, List.not_mem_nil, or_false] at hf
      rcases hf with rfl
      · exact He.noat_ok (c.fact 34 (f := .noat "BadForm" "part"))
      ) rfl (c.fn _ (List.mem_of_getElem? (i := 28) rfl)) (c.ok _ (List.mem_of_getElem? (i := 28) rfl)) (c.more 0 (e := fun K => supB (PySem.Challenge.rw_answerstell_k15_bounds_made_and_asked_an).prog K (He.ga K "BadForm") (He.fAd K ("BadForm", some "__init__"))))
  e_BadText := supF_of (He.glo_ok X G (c.fact 39 (f := .glo "BadText"))) (He.free_ok X G (c.fact 36 (f := .free "super"))) (fun f hf => by
      simp only [List.mem_cons, List.not_mem_nil, or_false] at hf
      rcases hf with rfl | rfl
      · exact He.noat_ok (c.fact 37 (f := .noat "BadText" "line"))
      · exact He.noat_ok (c.fact 38 (f := .noat "BadText" "word"))
      ) rfl (c.fn _ (List.mem_of_getElem? (i := 29) rfl)) (c.ok _ (List.mem_of_getElem? (i := 29) rfl)) (c.more 1 (e := fun K => supB (PySem.Challenge.rw_answerstell_k15_bounds_made_and_asked_an).prog K (He.ga K "BadText") (He.fAd K ("BadText", some "__init__"))))
  g_CountError := He.glo_ok X G (c.fact 40 (f := .glo "CountError"))
  g_BadBounds := He.glo_ok X G (c.fact 41 (f := .glo "BadBounds"))
  g_BadNumber := He.glo_ok X G (c.fact 42 (f := .glo "BadNumber"))
  g_BadQuestion := He.glo_ok X G (c.fact 43 (f := .glo "BadQuestion"))
  g_BadTest := He.glo_ok X G (c.fact 44 (f := .glo "BadTest"))
  g_BadRule := He.glo_ok X G (c.fact 45 (f := .glo "BadRule"))
  g_NoTable := He.glo_ok X G (c.fact 46 (f := .glo "NoTable"))
  g_TooMany := He.glo_ok X G (c.fact 47 (f := .glo "TooMany"))
  g_Bound := He.glo_ok X G (c.fact 48 (f := .glo "Bound"))
  n_str := He.free_ok X G (c.fact 49 (f := .free "str"))
  n_repr := He.free_ok X G (c.fact 50 (f := .free "repr"))
  m_BadForm := He.exm_ok (c.fact 51 (f := .exm "BadForm" "CountError" true))
  m_BadText := He.exm_ok (c.fact 52 (f := .exm "BadText" "BadText" true))
  mk_Bound := He.mkr_ok (c.fact 53 (f := .mkr "Bound"))
  cl_Bound := He.cls_ok (c.fact 54 (f := .cls "Bound"))
  na_form := He.noat_ok (c.fact 55 (f := .noat "Bound" "form"))
  na_strict := He.noat_ok (c.fact 56 (f := .noat "Bound" "is_strict"))
  f_BadForm := He.noat_ok (c.fact 34 (f := .noat "BadForm" "part"))
  f_line := He.noat_ok (c.fact 37 (f := .noat "BadText" "line"))
  f_word := He.noat_ok (c.fact 38 (f := .noat "BadText" "word"))
  a_BadForm := askB_ok (c.more 2 (e := fun K => askB K (He.ga K "BadForm")))
  a_BadText := askB_ok (c.more 3 (e := fun K => askB K (He.ga K "BadText")))
  k_BadForm := of_decide_eq_true (c.more 4 (e := fun K => decide (PySem.W.kitOne K (.ref (He.ga K "BadForm")) (.ref (He.ga K "BadForm")) = some true)))
  h_ne := of_decide_eq_true (c.more 5 (e := fun K => decide (PySem.W.findIn K (.ref (He.ga K "Bound")) "__ne__" = some (some (.builtin "object.__ne__")))))
  o_sub := of_decide_eq_true (c.more 6 (e := fun K => decide (PySem.W.subIn K (.ref (He.ga K "Bound")) (.type "object") = some true)))
  kt_Bound := of_decide_eq_true (c.more 7 (e := fun K => decide (PySem.W.kitOne K (.type "tuple") (.ref (He.ga K "Bound")) = some false)))
  kn_Bound := of_decide_eq_true (c.more 8 (e := fun K => decide (PySem.W.kitOne K (.type "NoneType") (.ref (He.ga K "Bound")) = some false)))
  st_Bound := of_decide_eq_true (c.more 9 (e := fun K => decide (PySem.W.subIn K (.type "tuple") (.ref (He.ga K "Bound")) = some false)))
  sn_Bound := of_decide_eq_true (c.more 10 (e := fun K => decide (PySem.W.subIn K (.type "NoneType") (.ref (He.ga K "Bound")) = some false)))
  ks_Bound := of_decide_eq_true (c.more 11 (e := fun K => decide (PySem.W.kitOne K (.ref (He.ga K "Bound")) (.type "str") = some false)))
  h_len := (He.meth_ok (c.fact 57 (f := .meth "Bound" "__len__"))).at_
  i_len := (He.meth_ok (c.fact 57 (f := .meth "Bound" "__len__"))).fn
  h_eq := (He.meth_ok (c.fact 58 (f := .meth "Bound" "__eq__"))).at_
  i_eq := (He.meth_ok (c.fact 58 (f := .meth "Bound" "__eq__"))).fn
  h_str := (He.meth_ok (c.fact 59 (f := .meth "Bound" "__str__"))).at_
  i_str := (He.meth_ok (c.fact 59 (f := .meth "Bound" "__str__"))).fn
  co_Bound := ⟨(He.meth_ok (c.fact 60 (f := .meth "Bound" "__call__"))).at_, (He.meth_ok (c.fact 60 (f := .meth "Bound" "__call__"))).fn, (c.more 12 (e := fun K => PySem.W.fnIn K (He.fAd K ("Bound", some "__call__"))))⟩
  c_MOST_NUMBERS := by
    obtain ⟨t, e⟩ := He.int_ok X G (c.fact 61 (f := .int "MOST_NUMBERS" 8))
    exact ⟨_, e, t, rfl⟩
  c_MOST_FIGURES := by
    obtain ⟨t, e⟩ := He.int_ok X G (c.fact 62 (f := .int "MOST_FIGURES" 60))
    exact ⟨_, e, t, rfl⟩
  c_MOST_DIGITS := by
    obtain ⟨t, e⟩ := He.int_ok X G (c.fact 63 (f := .int "MOST_DIGITS" (10 ^ 60)))
    exact ⟨_, e, t, rfl⟩
  in_Bound := by
    obtain ⟨h1, h⟩ := He.ba (c.more 13 (e := fun K => decide (PySem.W.findIn K (.ref (He.ga K "Bound")) "__class__" = some (some (.builtin "object.__class__"))) && (decide (PySem.W.specialIn K (.builtin "object.__class__") "__get__" = some (some (.builtin "getset_descriptor.__get__"))) && (decide (PySem.W.takesIn K (.builtin "object.__class__") = some true) && (decide (PySem.W.mroIn K (He.ga K "Bound") (.type "object") = some true) && decide (PySem.W.kitOne K (.ref (He.ga K "Bound")) (.ref (He.ga K "Bound")) = some true))))))
    obtain ⟨h2, h⟩ := He.ba h
    obtain ⟨h3, h⟩ := He.ba h
    obtain ⟨h4, h5⟩ := He.ba h
    exact ⟨He.cls_ok (c.fact 54 (f := .cls "Bound")), of_decide_eq_true h1, of_decide_eq_true h2, of_decide_eq_true h3, of_decide_eq_true h4, of_decide_eq_true h5⟩
  r_read := by
    obtain ⟨fd, e⟩ := c.def_ 30
    obtain ⟨h1, h2⟩ := He.ba (c.more 16 (e := fun K => PySem.W.readsIn K (He.ga K "Bound") (.type "type") && decide (PySem.W.specialIn K (.ref (He.ga K "Bound")) "__getattribute__" = some (some (.builtin "type.__getattribute__")))))
    exact ⟨_, _, fd, He5.cmet_of (c.more 14 (e := fun K => He5.wrapB K (He.ga K "Bound") "classmethod" "classmethod.__get__" "read")) (c.more 15 (e := fun K => PySem.W.fnIn K (He5.wf K (He.ga K "Bound") "classmethod" "read"))), ⟨h1, of_decide_eq_true h2⟩, e⟩
  r_is_false := by
    obtain ⟨fd, e⟩ := c.def_ 31
    exact ⟨_, _, fd, propB_ok (c.more 17 (e := fun K => propB K (He.ga K "Bound") "is_false")), e⟩
end K15

namespace K15
open PySem PySem.Spec PyProof.Rows L2 Qk
theorem law_at {w : World} {K : PySem.W.Frag} {mg : Str → Option Value} {h : Heap} {fa' : Addr} (X : K.In h) (G : h.Ns mainGlobals mg) (c : SaysK fa fn tf ex h K) (hmg : mg "law" = some (.ref fa')) :
    ∃ K : PySem.W.Frag, K.In h ∧ LamX.LawAtS PySem.Challenge.rw_answerstell_k15_bounds_made_and_asked_an w K (L2.CX (PySem.Challenge.rw_answerstell_k15_bounds_made_and_asked_an).prog w) 10 63 "script" mg fa' h := by
  have T := txt_of X G c
  obtain ⟨fd, F⟩ := T.d_law
  have e : fa' = He.ga K "law" := by
    have := hmg.symm.trans T.g_law
    injection this with this
    injection this
  subst e
  have mem : (("_law_refused_right", none) : He.Defn) ∈ tf := List.mem_singleton.mpr rfl
  have b := FunD.bindsA (ps := ["script"]) F fun _ _ _ _ _ _ us hl => match us, hl with | [_], _ => rfl
  refine ⟨K, X, fd, [cR K], spLaw K, fun p hp => ?_, fun p hp => ?_, fun p hp => ?_, fun s u => b s [u] rfl, fun H a ns hl _ hT hS => ⟨a, ns, rfl, hS, hl, fun r hr => ?_, fun _ => rfl⟩, fun base _ _ TB => ?_⟩
  · rw [List.mem_singleton.mp hp]
    exact c.empty _ mem
  · rw [List.mem_singleton.mp hp]
    exact c.out _ mem
  · rw [List.mem_singleton.mp hp]
    exact PySem.W.codeHd_of_K X (c.hd _ mem)
  · rw [List.mem_singleton.mp hr]
    exact ⟨#[], hT _ (List.mem_singleton.mpr rfl), True.intro, fun pos cv hc => by cases hc⟩
  · exact fk_law T (TB _ (List.mem_singleton.mpr rfl)) F
end K15

open PySem PySem.W PySem.Calls PyProof.Rows
theorem PySem.Challenge.cw_answerstell_k15_bounds_made_and_asked_an_holds : PySem.Challenge.rw_answerstell_k15_bounds_made_and_asked_an.Holds := by
  w_on; o_law
  refine HandSHeadRun.head_any (r := OpenLaw.row PySem.Challenge.rw_answerstell_k15_bounds_made_and_asked_an) (q := view (OpenLaw.row PySem.Challenge.rw_answerstell_k15_bounds_made_and_asked_an).prog [43]) (H := K15.hk) (ob := K15.ob) (M := 8000) (loose := K15.names) (d := HandSHeadRun.topDef (OpenLaw.row PySem.Challenge.rw_answerstell_k15_bounds_made_and_asked_an).prog 43) (kwd := []) K15.ob_eq
    (by kernel_rfl) (fun s => by kernel_rfl) K15.run (by kernel_rfl) (by kernel_rfl) (by kernel_rfl) (by rfl) (by first | assumption | decide +kernel) (by decide +kernel) ⟨rfl, rfl, rfl, rfl, rfl, by decide +kernel⟩ ?hw ?hc
  case hw => w_witness2
  case hc =>
    refine LamX.walk_ofTsE (l := PySem.Challenge.rw_answerstell_k15_bounds_made_and_asked_an) (n := 63) (k := 10) (x := "script") (CX := fun w => L2.CX (PySem.Challenge.rw_answerstell_k15_bounds_made_and_asked_an).prog w) rfl (by decide) (by kernel_rfl) ⟨rfl, by decide, by decide⟩ ?F (fun w H s e s' ⟨a, B, H', cls, d, _, _, _, _, _, _, _, z⟩ => z)
    intro w mg fa h Y G hmg0
    obtain ⟨K, KX, c⟩ := Y
    have hmg : mg ("law" : PySem.Str) = some (.ref fa) := by
      have e : (HandSHeadRun.topDef (OpenLaw.row PySem.Challenge.rw_answerstell_k15_bounds_made_and_asked_an).prog 43).name = ("law" : PySem.Str) := by kernel_rfl
      rw [← e]
      exact hmg0
    exact K15.law_at KX G c hmg
