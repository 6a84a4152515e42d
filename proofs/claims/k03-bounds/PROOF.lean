import PyProof.Rows.All
import Wide.All
import OpenK.AllK
import Wide.FinOn
import KE.KStateDown
import HandS.ForMost
import HandS.ForExc
import HandS.Wide
import HandS.Defaults
import HandS.Flow
import HandS.IsInst
import HandS.Conv
import HandS.More
import HandS.TupAny
import HandS.Zip
import HandS.Property
import HandS.Walk
import HandS.ExcInit
import HandS.Head0
import HandS.Head1
import HandS.Head2
import HandS.HeadEnd
import HandS.HeadHook1
import HandS.HeadHook2
import KE.KExcSuper
import KE.KExcIs
import HandS.ExcSuper
import HandS.ExcIs
import HandS.ExcValue
import HandS.HeadHook4
import HandS.Lambda
import HandS.HeadHook3
import PySem.Challenge.RW_metonce_k03_bounds_of_halls
import HandS.Deep
import HandS.Style
import KE.SortData
import KE.KIndexOf
import KE.GoesMore
import HandS.Text
import HandS.Codes
import HandS.Star
import HandS.TupMul
import HandS.MakeKwOnly
set_option Elab.async false
set_option linter.all false
set_option maxRecDepth 100000
set_option maxHeartbeats 4000000
namespace MT
open PySem PySem.Spec PyProof.Rows L2
/-! ### operators -/
section
variable {X : Cx}
def CPowW (i j : Int) : Prop := 0 ≤ j ∧ (Builtin.Int.intBits i : Int) * j ≤ 2 ^ 27
theorem op_powW : OpR X (binaryOp .Pow) (rI CPowW fun i j => .int (i ^ j.toNat)) := opI fun _ _ _ _ _ _ _ hc q => pow_int hc.1 hc.2 q
end
/-! ### a def that keeps its promise, by its name -/
structure Ok (P : Program) (w : World) (K : PySem.W.Frag) (mg : Str → Option Value) (base : Heap) (CX : CXT) (k : Nat) (x : Str) (ps : List Str) (dvs : List V) (sp : Sp) : Prop where
  fn : ∃ (fd : FuncData) (ds : List Value), FnOk P w K mg base CX k (He.ga K x) fd ps sp ∧ Binds K fd ps ds ∧ Vals dvs ds
  kp : PySem.W.keepIn K (.ref (He.ga K x)) = true
  gl : mg x = some (.ref (He.ga K x))
section
variable {X : Cx} {CX : CXT} {k : Nat} {x : Str} {ps : List Str} {dvs : List V} {sp : Sp} {E : XK} {e : Expr} {es : List Expr} {t : TA} {p pos : Pos}
theorem pe_callO (O : Ok X.prog X.w X.K X.mg X.base CX k x ps dvs sp) (hr : Room k X.A) (hg : Gl X x) (hx : Passes CX X E) (ha : PA X (e :: es) t) (hdb : (x == ("__debug__" : Str)) = false := by decide)
    (he : starEach (e :: es) X.env = (false, eval e X.env) :: starEach es X.env := by rfl) (hpl : (backTo pos (starEach es X.env)).any (·.1) = false := by rfl) :
    PE X (.Call (.Name x p) (e :: es) [] pos) (tCall sp dvs E t) := by
  obtain ⟨⟨fd, ds, F, b, d⟩, kp, m⟩ := O
  exact pe_call F hr hg m kp b d hx ha hdb he hpl
end
/-! ### the module's names -/
section
variable {X : Cx} {x : Str} {pos : Pos}
theorem pe_obj {a : Addr} (hg : Gl X x) (hm : X.mg x = some (.ref a)) (hd : (x == ("__debug__" : Str)) = false := by decide) : PE X (.Name x pos) (tC (.ref a)) := pe_glob hg hm rfl hd
theorem pe_cstr {z : Str} (hg : Gl X x) (hm : ∃ t, X.mg x = some (.str z t)) (hd : (x == ("__debug__" : Str)) = false := by decide) : PE X (.Name x pos) (tC (.str z)) := let ⟨_, h⟩ := hm; pe_glob hg h ⟨_, rfl⟩ hd
theorem pe_cint {z : Int} (hg : Gl X x) (hm : ∃ t, X.mg x = some (.int z t)) (hd : (x == ("__debug__" : Str)) = false := by decide) : PE X (.Name x pos) (tC (.int z)) := let ⟨_, h⟩ := hm; pe_glob hg h ⟨_, rfl⟩ hd
theorem pe_bty {n : String} (hg : Gl X x) (hm : X.mg x = none) (hv : bootBuiltins x = some (.type n)) (hn : x ≠ "__name__" := by decide) (hd : (x == ("__debug__" : Str)) = false := by decide) : PE X (.Name x pos) (tC (.ty n)) := pe_bltn hg hm hv rfl hn hd
end
/-! ### ways that join -/
theorem ite_k {H : Hp} {b : Bool} {t u : VK → Prop} {Q : VK} (fin : ∀ c : Int, Q (.int c) H) (h1 : b = true → (∀ c : Int, Q (.int c) H) → t Q) (h2 : b = false → (∀ c : Int, Q (.int c) H) → u Q) : if b = true then t Q else u Q := by
  cases b with
  | true => exact iteT (h1 rfl fin)
  | false => exact iteF (h2 rfl fin)
/-! ### heaps -/
theorem new_keep {H : Hp} {a b : Addr} {o u : HO} (h : H a = some o) (n : H b = none) : upd H b u a = some o := by
  rw [upd_ne (ne_of_none h n)]; exact h
theorem wr_keep {H : Hp} {a b : Addr} {o u : HO} (h : H a = some o) (n : a ≠ b) : upd H b u a = some o := by
  rw [upd_ne n]; exact h
/-- forget how the heap came about -/
theorem gen_heap {R : Hp → Prop} {Hc : Hp} (S : Hp → Prop) (hS : S Hc) (g : ∀ Hf, S Hf → R Hf) : R Hc := g _ hS
theorem same_new {H : Hp} {b : Addr} {u : HO} (n : H b = none) : Same H (upd H b u) := fun _ _ h => new_keep h n
theorem Same.new {H H1 : Hp} (s : Same H H1) {b : Addr} {u : HO} (n : H1 b = none) : Same H (upd H1 b u) := fun _ _ h => new_keep (s _ _ h) n
theorem Same.tup {K : PySem.W.Frag} {H H' : Hp} {a : Addr} {xs : List V} (e : Same H H') (h : SqT K H a xs) : SqT K H' a xs := by
  rcases h with (h | ⟨o, h⟩) | h
  · exact .inl (.inl (e _ _ h))
  · exact .inl (.inr ⟨o, e _ _ h⟩)
  · exact .inr h
/-- all but p stays -/
def SameBut (p : Addr) (H H' : Hp) : Prop := ∀ b o, b ≠ p → H b = some o → H' b = some o
theorem SameBut.refl (p : Addr) (H : Hp) : SameBut p H H := fun _ _ _ h => h
theorem SameBut.trans {p : Addr} {H H1 H2 : Hp} (a : SameBut p H H1) (b : SameBut p H1 H2) : SameBut p H H2 := fun c o n h => b c o n (a c o n h)
theorem SameBut.of {p : Addr} {H H' : Hp} (a : Same H H') : SameBut p H H' := fun c o _ h => a c o h
theorem SameBut.wr {p : Addr} {H : Hp} {u : HO} : SameBut p H (upd H p u) := fun c o n h => wr_keep h n
theorem SameBut.new {p q : Addr} {H H1 : Hp} {u : HO} (a : SameBut p H H1) (n : H1 q = none) : SameBut p H (upd H1 q u) := fun c o nc h => new_keep (a c o nc h) n
theorem SameBut.same {p : Addr} {H H' : Hp} (a : SameBut p H H') (n : H p = none) : Same H H' := fun c o h => a c o (ne_of_none h n) h
/-- the heap without p -/
def hid (p : Addr) (H : Hp) : Hp := fun b => if b = p then none else H b
theorem hid_at {p t : Addr} {H : Hp} {o : HO} (n : t ≠ p) (h : H t = some o) : hid p H t = some o := by unfold hid; rw [if_neg n]; exact h
theorem hid_same (p : Addr) (H : Hp) : Same (hid p H) H := fun b o h => by
  unfold hid at h
  by_cases e : b = p
  · rw [if_pos e] at h; cases h
  · rw [if_neg e] at h; exact h
theorem SameBut.hid {p : Addr} {H H' : Hp} (s : SameBut p H H') : Same (MT.hid p H) (MT.hid p H') := fun b o h => by
  have h2 := hid_same p H b o h
  have n : b ≠ p := fun e => by unfold MT.hid at h; rw [if_pos e] at h; cases h
  exact hid_at n (s b o n h2)
theorem hid_upd {p : Addr} {H : Hp} {u : HO} : hid p (upd H p u) = hid p H := by
  funext b
  unfold hid upd
  by_cases e : b = p
  · rw [if_pos e, if_pos e]
  · rw [if_neg e, if_neg e, if_neg e]
theorem same_hid {p : Addr} {H : Hp} {u : HO} (n : H p = none) : Same H (hid p (upd H p u)) := fun b o h => hid_at (ne_of_none h n) (new_keep h n)
theorem dec_ints (i j : Int) : decide (V.int i = V.int j) = decide (i = j) := by
  by_cases e : i = j
  · rw [e]; simp
  · rw [decide_eq_false e, decide_eq_false (fun z => e (V.int.inj z))]
theorem hid_none {p t : Addr} {H : Hp} (h : H t = none) : hid p H t = none := by
  unfold hid
  split
  · rfl
  · exact h
/-- what is new in H' -/
def fresh (H H' : Hp) : Hp := fun b => match H b with
  | none => H' b
  | some _ => none
theorem fresh_at {H H' : Hp} {b : Addr} {o : HO} (n : H b = none) (h : H' b = some o) : fresh H H' b = some o := by unfold fresh; rw [n]; exact h
theorem fresh_to {H H' H2 : Hp} (k : ∀ b o, H b = none → H' b = some o → H2 b = some o) : Same (fresh H H') H2 := fun b o h => by
  unfold fresh at h
  cases e : H b with
  | none => rw [e] at h; exact k b o e h
  | some u => rw [e] at h; cases h
/-- a comprehension by an invariant over the turn, the items so far and the heap -/
theorem lc_go {J : It} {n : Nat} {G : Hp → Prop} {Y : Nat → Hp → V → Hp → Prop} (w : Walk J n G Y) {g : TG} {tt : TT} {te : TE} {vs : List Nat} {σ : L2.St} {H1 : Hp} {D : Addr} {Qd : Hp → Prop} (In : Nat → List V → Hp → Prop) (hn : n ≤ 1000000)
    (h0 : In 0 [] (upd H1 D (.lst []))) (hst : ∀ i ys H zs, i ≤ n → In i ys H → In i ys (upd H D (.lst zs))) (hG : ∀ i ys H, i ≤ n → In i ys H → G H)
    (turn : ∀ i x ys H H', i < n → In i ys H → H D = some (.lst ys) → ys.length ≤ i → Y i H x H' → ∀ (Add : VK) (Skip : Hp → Prop), (∀ y H4, In (i + 1) (ys ++ [y]) H4 → H4 D = some (.lst ys) → Add y H4) → (∀ H3, In (i + 1) ys H3 → H3 D = some (.lst ys) → Skip H3) →
      g x (wipe σ vs) H' fun σ2 H2 => wipe σ2 vs = wipe σ vs ∧ tt σ2 H2 fun b H3 => if b = true then te σ2 H3 Add else Skip H3)
    (fin : ∀ ys H, In n ys H → H D = some (.lst ys) → Qd H) :
    ∃ W : Nat → Nat → Hp → Prop, (∃ m, W 0 m (upd H1 D (.lst []))) ∧ ∀ i m H, W i m H →
      (J.stop i H ∧ Qd H) ∨ (J.go i H ∧ ∃ Nx : Hp → Prop, (∀ H', Nx H' → ∃ m', m' < m ∧ W (i + 1) m' H') ∧ ∀ x H', J.yld i H x H' → g x (wipe σ vs) H' fun σ2 H2 => wipe σ2 vs = wipe σ vs ∧ tt σ2 H2 fun b H3 =>
        if b = true then te σ2 H3 fun y H4 => ∃ acc, H4 D = some (.lst acc) ∧ acc.length < sizeLine ∧ Nx (upd H4 D (.lst (acc ++ [y]))) else Nx H3) := by
  refine lc_it w (fun i H => ∃ ys, In i ys H ∧ H D = some (.lst ys) ∧ ys.length ≤ i) ⟨[], h0, upd_same, Nat.le_refl _⟩ (fun i H hi ⟨ys, a, _, _⟩ => hG i ys H hi a) ?_ fun H ⟨ys, a, b, _⟩ => fin ys H a b
  rintro i x H H' hi ⟨ys, a, b, l⟩ y
  refine turn i x ys H H' hi a b l y _ _ (fun y H4 q e => ⟨ys, e, ?_, ys ++ [y], hst _ _ _ _ hi q, upd_same, by rw [List.length_append]; exact Nat.succ_le_succ l⟩) fun H3 q e => ⟨ys, q, e, Nat.le_succ_of_le l⟩
  exact Nat.lt_of_le_of_lt (Nat.le_trans l (Nat.le_trans (Nat.le_of_lt hi) hn)) (by decide)
theorem SameBut.seq {K : PySem.W.Frag} {p a : Addr} {H H' : Hp} {xs : List V} (e : SameBut p H H') (n : a ≠ p) (h : SqL K H a xs) : SqL K H' a xs := by
  rcases h with (h | ⟨o, h⟩) | h
  · exact .inl (.inl (e _ _ n h))
  · exact .inl (.inr ⟨o, e _ _ n h⟩)
  · exact .inr h
theorem SameBut.tup {K : PySem.W.Frag} {p a : Addr} {H H' : Hp} {xs : List V} (e : SameBut p H H') (n : a ≠ p) (h : SqT K H a xs) : SqT K H' a xs := by
  rcases h with (h | ⟨o, h⟩) | h
  · exact .inl (.inl (e _ _ n h))
  · exact .inl (.inr ⟨o, e _ _ n h⟩)
  · exact .inr h
end MT

namespace PySem
namespace MEX
open PySem.W PySem.Calls PyProof.Rows PySem.HandSPX
/-! ### the text of MeetError's __init__ -/
def iA (k : Nat) : Arguments := { posonlyargs := [], args := [{ arg := "self", annotation := none, pos := ⟨k + 4, 17, k + 4, 21⟩ }, { arg := "value", annotation := none, pos := ⟨k + 4, 23, k + 4, 28⟩ }], vararg := none, kwonlyargs := [], kw_defaults := [], kwarg := none, defaults := [] }
def iB (k : Nat) : List Stmt :=
  [.Expr (.Call (.Attribute (.Call (.Name "super" ⟨k + 5, 8, k + 5, 13⟩) [] [] ⟨k + 5, 8, k + 5, 15⟩) "__init__" ⟨k + 5, 8, k + 5, 24⟩) [.Name "value" ⟨k + 5, 25, k + 5, 30⟩] [] ⟨k + 5, 8, k + 5, 31⟩) ⟨k + 5, 8, k + 5, 31⟩,
   .Assign [.Attribute (.Name "self" ⟨k + 6, 8, k + 6, 12⟩) "value" ⟨k + 6, 8, k + 6, 18⟩] (.Name "value" ⟨k + 6, 21, k + 6, 26⟩) ⟨k + 6, 8, k + 6, 26⟩]
def iS : Scope := { kind := .function, names := [(PySem.Str.ofString "self", .local), (PySem.Str.ofString "value", .local), (PySem.Str.ofString "__class__", .free), (PySem.Str.ofString "super", .globalImplicit)], isGenerator := false, isCoroutine := false, more := [] }
/-- what the written part says of MeetError's __init__ (at fI), MeetError at D -/
structure InitTxt (prog : Program) (K : Frag) (D fI : Addr) : Prop where
  tI : typeIn K (.ref fI) = some (.type "function")
  opq : nsIn K cStatics "thirdparty.any" = some none
  sup : nsIn K mainGlobals "super" = some none
  top : (prog.main.scope.names.lookup ("super" : Str)).isSome = false
  cD : ∃ cd, clsIn K D = some cd
  fn : ∃ (oc : Value) (od : Option Addr) (kV doc pm : Value) (an : Option Addr) (cda cc : Addr) (ct : Value) (osl : Array (Option Value)) (k : Nat), (k = 0 ∨ k = 3) ∧
    K.lookup fI = some ⟨oc, od, .func (ksFn "__init__" "MeetError.__init__" (iA k) (iB k) iS .none kV doc pm an (.ref cda) ct cc), osl⟩ ∧ codeIn K (.ref cda) "MeetError.__init__" = true ∧
    (∃ (ccl : Value) (cdd : Option Addr) (vs : Array Value) (ccs : Array (Option Value)) (file : Str) (tf : Tok), K.lookup cda = some ⟨ccl, cdd, .fields vs, ccs⟩ ∧ vs[2]? = some (.str file tf) ∧ ((prog.main.file : Str) == file) = true) ∧
    ∃ (cl : Value) (cld : Option Addr) (csl : Array (Option Value)), K.lookup cc = some ⟨cl, cld, .cell (some (.ref D)), csl⟩
/-- .. and of one of the errors' classes (at C) -/
structure ErrTxt (K : Frag) (D fI C : Addr) : Prop where
  cls : ∃ nm q N bs bm sn sub ab col dd k0 k1 k2 k3 k5, K.lookup C = some (excClassObj nm q C N bs bm true sn sub ab col dd k0 k1 k2 k3 k5 "ValueError.__new__") ∧ refsVE bm = true
  sa : findIn K (.ref C) "__setattr__" = some (some (.builtin "object.__setattr__"))
  ga : findIn K (.ref C) "__getattribute__" = some (some (.builtin "BaseException.__getattribute__"))
  gg : findIn K (.ref C) "__getattr__" = some none
  noV : findIn K (.ref C) "value" = some none
  iC : findIn K (.ref C) "__init__" = some (some (.ref fI))
  kC : keepIn K (.ref C) = true
  exC : subIn K (.ref C) (.type "BaseException") = some true
  veC : subIn K (.ref C) (.type "ValueError") = some true
  tyC : typeIn K (.ref C) = some (.type "type")
  hdC : hasDictIn K C = true
  sup : ks_superIn K C D "__init__" = some (some (.builtin "ValueError.__init__"))
  sub : mroIn K C (.ref D) = some true
theorem iS_nocell : ∀ x ∈ iS.names, x.2 ≠ .cell := by decide
theorem iS_loc {x v : Value} : ∀ y ∈ ([("self", x), ("value", v)] : List (Str × Value)), iS.names.lookup y.1 = some .local := fun y hy => by
  rcases List.mem_cons.mp hy with rfl | hy
  · rfl
  · rcases List.mem_cons.mp hy with rfl | hy
    · rfl
    · cases hy
theorem one_size (v : Value) : [v].length ≤ sizeLine := by rw [sizeLine_eq]; exact (by decide : 1 ≤ 16777216)
/-- what __init__ leaves of a fresh exception at x -/
structure InitEnd (h h' : Heap) (x C dx : Addr) (v : Value) : Prop where
  keep : ∀ b o, b ≠ x → h.get? b = some o → h'.get? b = some o
  obj : ∃ t1 : Addr, h'.get? x = some { cls := .ref C, dict := some dx, data := .fields #[.ref t1, .none, .none, .none, .bool false, .none] }
  dbig : h.objs.size ≤ dx
  dne : dx ≠ x
  ns : h'.Ns1 dx (fun y => if y = "value" then some v else none)
section
variable {prog : Program} {w : World} {A : Around} {E : Value → Shared → Prop} {R : Result → Shared → Prop} {K : Frag} {mg mb : Str → Option Value} {D fI C : Addr}
variable {h : Heap} {g : Array GenState} {d : Drawn} {t : Nat} {os : OsState}
/-- ValueError.__init__ bound to an exception, called -/
theorem call_bw {nm q : Str} {N : Addr} {bs bm : List Value} {hdct : Bool} {sn : List Str} {sub : List Value} {ab : Bool} {col : Option Bool} {dd : Option Addr} {k0 k1 k2 k3 k5 : Option Value} {u e t0 : Addr} {rest : List Value} {Q : Value → Shared → Prop}
    (hC : h.get? C = some (excClassObj nm q C N bs bm hdct sn sub ab col dd k0 k1 k2 k3 k5 "ValueError.__new__")) (he : h.get? e = some (excO C t0)) (hu : h.get? u = some (kxs_mw "ValueError.__init__" e)) (hrest : rest.length ≤ sizeLine)
    (hq : ∀ h' t1, (∀ b o, b ≠ e → h.get? b = some o → h'.get? b = some o) → h'.get? e = some (excO C t1) → Q .none ⟨h', g, d, t, os⟩) :
    wpAny (model prog w) A (call (.ref u) rest) Q E ⟨h, g, d, t, os⟩ := by
  refine wpAny_call (codeAny_of_tree ?_)
  show wpAny _ A.in1 (callAny (.ref u) ⟨rest, []⟩) _ _ _
  simp only [callAny]
  refine wpAny_bind (wpAny_load hu ?_)
  simp only [kxs_mw, show (Value.type "method-wrapper" == Value.type "method" || Value.type "method-wrapper" == Value.type "builtin_function_or_method" || Value.type "method-wrapper" == Value.type "method-wrapper") = true by decide, if_true]
  refine KFB.if_so (by decide) ?_
  refine wpAny_bind (check_bound_init F.excBase_ValueError.toExcCallFacts hC he rfl ?_)
  refine wpAny_bind (wpAny_pure (wpAny_pure ?_))
  refine ⟨Code.quiet_builtin _ (by decide +kernel), codeAny_builtin F.excBase_ValueError.initEntry ?_⟩
  rw [Around.under_plainId F.excBase_ValueError.init.plain _]
  wp_walk
  refine hq _ h.objs.size (fun b o hb ho => ?_) ?_
  · rw [Heap.get?_update_other _ _ (Ne.symm hb)]
    exact Heap.get?_push_of_some _ ho
  · rw [Heap.get?_update_self _ (Heap.get?_push_of_some _ he) rfl]
    rfl
end
section
variable {prog : Program} {w : World} {A : Around} {E : Value → Shared → Prop} {R : Result → Shared → Prop} {s : Shared} {K : Frag} {mg mb : Str → Option Value} {D fI C : Addr}
theorem meet_init (I0 : InitTxt prog K D fI) (T : ErrTxt K D fI C) {x t0 : Addr} {v : Value} (X : K.In s.heap) (hlim : s.heap.NoLimit) (hg : s.heap.Ns mainGlobals mg) (hb : s.heap.Ns builtinsNs mb) (hbb : ∀ y : Str, y ≠ "__name__" → mb y = bootBuiltins y)
    (hx : s.heap.get? x = some (excO C t0)) (hnx : K.lookup x = none) (hroom : A.depth < recursionLimit)
    (hq : ∀ h' tk dx, InitEnd s.heap h' x C dx v → R (.ok (.ret .none)) { s with heap := h', toks := tk }) :
    codeAny (model prog w) A (.call (.ref fI) ⟨[.ref x, v], []⟩) R s := by
  obtain ⟨s, g, d, tk0, os⟩ := s
  obtain ⟨oc, od, kV, doc, pm, an, cda, cc, ct, osl, k, hk, hfn, hcd, ⟨ccl, cdd, vs, ccs, file, tf, hcode, hvs, hfile⟩, cl, cld, csl, hcell⟩ := I0.fn
  obtain ⟨nm, q, N, bs, bm, sn, sub, ab, col, dd, k0, k1, k2, k3, k5, hC, hbm⟩ := T.cls
  obtain ⟨cdD, hD⟩ := I0.cD
  have hcl : clsIn K C = some { name := nm, bases := bs, mro := .ref C :: bm, ns := N, qualname := q, hasDict := true, slotNames := sn, subclasses := sub, abstract := ab, collection := col, hasDel := false } := by unfold clsIn; rw [hC] <;> rfl
  refine ks_codeAny_call_defAt (fd := ksFn "__init__" "MeetError.__init__" (iA k) (iB k) iS .none kV doc pm an (.ref cda) ct cc) (binds := [("self", .ref x), ("value", v)]) hroom (X _ _ hfn) rfl hlim (codeRec_of X hcd) rfl (BindsTo.of_eq (by first | rfl | with_unfolding_all rfl)) iS_nocell iS_loc (fun h₁ hns kp => ?_) rfl rfl rfl
  have X1 : K.In h₁ := X.keeps kp
  have hx1 := kp _ _ hx
  have hxL : s.objs.size ≠ x := Nat.ne_of_gt (Heap.lt_size hx)
  have hg1 := hg.keeps kp
  have hb1 := hb.keeps kp
  obtain ⟨oD, hD1, hD2⟩ : ∃ oD, h₁.get? D = some oD ∧ oD.data = .cls cdD := by
    unfold clsIn at hD
    split at hD
    · rename_i c d cd' sl ho
      cases hD
      exact ⟨_, X1 _ _ ho, rfl⟩
    · cases hD
  have hsup : alongIn K "__init__" (((Value.ref C :: bm).dropWhile (· != .ref D)).drop 1) = some (some (.builtin "ValueError.__init__")) := by
    have z := T.sup
    unfold ks_superIn at z
    rw [hcl] at z
    exact z
  have I1 : InstAt h₁ x (excO C t0) C none := ⟨hx1, rfl, rfl, trivial⟩
  rcases hk with rfl | rfl
  all_goals refine ks_wpAt_execs_cons (ks_wpAt_Expr_any (ks_wpAt_MethodCall ?_) rfl rfl)
  all_goals
    refine ks_wpAt_super_base (env := ksEnv "MeetError.__init__" iS s.objs.size fI (.ref cda) cc) rfl rfl rfl rfl (X1 _ _ hfn) rfl rfl rfl (X1 _ _ hcode) rfl hvs hfile I0.top ?_
    refine ks_loadName_global (env := ksEnv "MeetError.__init__" iS s.objs.size fI (.ref cda) cc) rfl rfl (loadGlobal_builtin (env := ksEnv "MeetError.__init__" iS s.objs.size fI (.ref cda) cc) hg1 (mg_none_of X1 hg1 I0.sup) hb1 ((hbb _ (by decide +kernel)).trans (by kernel_rfl)) ⟨rfl, ?_⟩)
    refine wpAny_loadName_free rfl rfl rfl ⟨_, X1 _ _ hcell, rfl⟩ ?_
    refine wpAny_loadName_local rfl rfl hns (v := .ref x) (by first | rfl | decide | with_unfolding_all rfl | kernel_rfl) ?_
    refine ks_wpAny_isType_cls hD1 hD2 ⟨rfl, ?_⟩
    refine ks_wpAny_call_super hD1 hD2 hx1 rfl (fun c e => by cases e) (looks_mroIn X1 T.sub) (fun h2 hso k2 => ?_)
    have X2 : K.In h2 := X1.keeps k2
    have hx2 := k2 _ _ hx1
    have I2 : InstAt h2 x (excO C t0) C none := ⟨hx2, rfl, rfl, trivial⟩
    refine kxs_getMethod kxs_ValueError hso (looks_opaque X2 I0.opq) (l₀ := .ref C :: bm) ((looks_clsIn X2 hcl).andThen .now) rfl X2 hsup (I2.type.andThen (looks_subIn X2 T.veC)) (ks_ne X1 I1 hcl) (by decide) ?_
    refine kxs_callWith (i := "ValueError.__init__") (x := x) rfl (evalArgs_plain ?_)
    have kN : ∀ b o, h2.get? b = some o → (h2.push (kxs_mw "ValueError.__init__" x)).get? b = some o := fun b o e => Heap.get?_push_of_some _ e
    have hns2 := (hns.keeps k2).keeps kN
    refine Calls.spliced_cons (wpAny_Name (wpAny_loadName_local rfl rfl hns2 (v := v) (by first | rfl | decide | with_unfolding_all rfl | kernel_rfl) ?_) (by decide))
    refine Calls.spliced_nil ⟨Heap.get?_push_size _ rfl, ?_⟩
    refine call_bw (t0 := t0) (rest := [v]) (kN _ _ (X2 _ _ hC)) (kN _ _ hx2) (Heap.get?_push_size _ rfl) (one_size v) fun h3 t1 k3 hx3 => ?_
    have nx : ∀ b o, K.lookup b = some o → b ≠ x := fun b o e z => by rw [z, hnx] at e; cases e
    have X3 : K.In h3 := fun b o e => k3 b o (nx b o e) (kN _ _ (X2 b o e))
    have hns3 : h3.Ns s.objs.size (fun y => ([(("self" : Str), Value.ref x), ("value", v)] : List (Str × Value)).reverse.lookup y) := by
      obtain ⟨oL, es, ep, ho, r⟩ := hns2
      exact ⟨oL, es, ep, k3 _ _ hxL ho, r⟩
    refine ks_wpAt_execs_cons (wpAt_of_wpAny (plainObj_wpAny_Assign_Attribute ?_))
    refine wpAny_Name (wpAny_loadName_local rfl rfl hns3 (v := v) (by first | rfl | decide | with_unfolding_all rfl | kernel_rfl) ?_) (by decide)
    refine wpAny_Name (wpAny_loadName_local rfl rfl hns3 (v := .ref x) (by first | rfl | decide | with_unfolding_all rfl | kernel_rfl) ?_) (by decide)
    refine set_plain X3 (ox := excO C t1) (od := none) ⟨hx3, rfl, rfl, trivial⟩ T.sa ?_
    refine exc_osa X3 hx3 hcl (show refsVE (.ref C :: bm) = true from hbm) rfl T.noV (fun h4 tk4 dx k4 dn dne hx4 hn4 => ?_)
    have sz : s.objs.size ≤ h3.objs.size := by
      obtain ⟨oL, es, ep, ho, r⟩ := hns3
      exact Nat.le_of_lt (Heap.lt_size ho)
    exact wpAt_of_wpAny (wpAny_execs_nil (hq h4 tk4 dx ⟨fun b o hb e => k4 b o hb (k3 b o hb (kN _ _ (k2 _ _ (kp b o e)))), ⟨t1, hx4⟩, Nat.le_trans sz dn, dne, hn4⟩))
/-- a made error -/
structure OwnMade (h h' : Heap) (e C d : Addr) (v : Value) : Prop where
  keep : ∀ b o, h.get? b = some o → h'.get? b = some o
  new : h.objs.size ≤ e
  obj : ∃ oe vs, h'.get? e = some oe ∧ oe.cls = .ref C ∧ oe.dict = some d ∧ oe.data = .fields vs ∧ vs[1]? = some .none
  dbig : h.objs.size ≤ d
  dne : d ≠ e
  ns : h'.Ns1 d (fun y => if y = "value" then some v else none)
theorem meet_made (I0 : InitTxt prog K D fI) (T : ErrTxt K D fI C) {v : Value} (X : K.In s.heap) (hlim : s.heap.NoLimit) (hg : s.heap.Ns mainGlobals mg) (hb : s.heap.Ns builtinsNs mb) (hbb : ∀ y : Str, y ≠ "__name__" → mb y = bootBuiltins y)
    (hroom : A.depth + 1 < recursionLimit) (hq : ∀ h' tk e d, OwnMade s.heap h' e C d v → R (.ok (.ret (.ref e))) { s with heap := h', toks := tk }) :
    codeAny (model prog w) A (.call (.ref C) ⟨[v], []⟩) R s := by
  obtain ⟨nm, q, N, bs, bm, sn, sub, ab, col, dd, k0, k1, k2, k3, k5, hC, hbm⟩ := T.cls
  obtain ⟨hp, g, dr, tk, os⟩ := s
  have k : ∀ b o, hp.get? b = some o → ((hp.push (kdv_tup [v])).push (excO C hp.objs.size)).get? b = some o := fun b o e => Heap.get?_push_of_some _ (Heap.get?_push_of_some _ e)
  have hget : ((hp.push (kdv_tup [v])).push (excO C hp.objs.size)).get? (hp.objs.size + 1) = some (excO C hp.objs.size) := by heap_get
  have hnx : K.lookup (hp.objs.size + 1) = none := by
    cases e : K.lookup (hp.objs.size + 1) with
    | none => rfl
    | some o =>
      have z : hp.get? (hp.objs.size + 1) = some o := X _ _ e
      exact absurd (Nat.lt_of_succ_lt (Heap.lt_size z)) (Nat.lt_irrefl _)
  refine call_own F.excBase_ValueError (fun X => refsVE_contains X bm hbm) (X _ _ hC) (looks_findIn X T.iC) (fun self => bind_fn X self I0.tI) (one_size v) ?_
  refine meet_init (s := ⟨(hp.push (kdv_tup [v])).push (excO C hp.objs.size), g, dr, tk, os⟩) I0 T (X.keeps k) (hlim.keeps k) (hg.keeps k) (hb.keeps k) hbb hget hnx ?_ fun h' tk' dx ⟨k', ⟨t1, hx⟩, dn, dne, hns⟩ => ?_
  · show A.depth + 1 < recursionLimit
    exact hroom
  · have old : ∀ b o, hp.get? b = some o → h'.get? b = some o := fun b o e => k' b o (Nat.ne_of_lt (Nat.lt_succ_of_lt (Heap.lt_size e))) (k b o e)
    have z : hp.objs.size + 1 + 1 ≤ dx := by
      first
        | (simpa only [Heap.size_push] using dn)
        | exact dn
        | (have q := dn; rw [Heap.size_push, Heap.size_push] at q; exact q)
    exact ⟨rfl, hq h' tk' (hp.objs.size + 1) dx ⟨old, Nat.le_succ _, ⟨_, _, hx, rfl, rfl, rfl, rfl⟩, Nat.le_trans (Nat.le_trans (Nat.le_succ _) (Nat.le_succ _)) z, dne, hns⟩⟩
end
end MEX
end PySem
namespace MT
open PySem PySem.Spec PyProof.Rows L2 PySem.MEX
/-! ### errors as values -/
/-- at a: an error of the class at C, its dict at d -/
def ExV (C d a : Addr) : HO := .ext fun h => ∃ (oe : Obj) (vs : Array Value), h.get? a = some oe ∧ oe.cls = .ref C ∧ oe.dict = some d ∧ oe.data = .fields vs
abbrev xdV (v : V) : HO := .xd [(("value" : Str), v)]
theorem exv_ok {P : Program} {w : World} {H : Hp} {h : Heap} {C d a : Addr} {oe : Obj} {vs : Array Value} (e : h.get? a = some oe) (hc : oe.cls = .ref C) (hd : oe.dict = some d) (ht : oe.data = .fields vs) : ObjOk P w H h a (ExV C d a) :=
  ⟨⟨oe, vs, e, hc, hd, ht⟩, ⟨oe, e⟩, fun _ _ ⟨o, v, q, r⟩ k => ⟨o, v, k o q, r⟩⟩
theorem exv_at {P : Program} {w : World} {H : Hp} {h : Heap} {C d a : Addr} (hok : HOk P w H h) (he : H a = some (ExV C d a)) : ∃ (oe : Obj) (vs : Array Value), h.get? a = some oe ∧ oe.cls = .ref C ∧ oe.dict = some d ∧ oe.data = .fields vs := by
  have x : ObjOk P w H h a (.ext fun h => ∃ (oe : Obj) (vs : Array Value), h.get? a = some oe ∧ oe.cls = .ref C ∧ oe.dict = some d ∧ oe.data = .fields vs) := hok a _ he
  exact x.1
theorem relO_val {v : V} {v' : Value} (r : RelV v v') (f : Str) : RelO (List.lookup f [(("value" : Str), v)]) (if f = "value" then some v' else none) := by
  by_cases hw : f = "value"
  · subst hw
    rw [if_pos rfl]
    have q : List.lookup ("value" : Str) [(("value" : Str), v)] = some v := by simp [List.lookup]
    rw [q]
    exact r
  · rw [if_neg hw]
    have qw : (f == ("value" : Str)) = false := by simpa using hw
    have q2 : List.lookup f [(("value" : Str), v)] = none := by simp [List.lookup, qw]
    rw [q2]
    trivial
section
variable {X : Cx} {D fI C : Addr}
/-- C(e), as a value -/
def tErrV (C : Addr) (ta : TA) : TE := fun σ H Q => ta σ H fun vs H1 => ∃ v, vs = [v] ∧ ∀ d, H1 d = none → ∀ e, (upd H1 d (xdV v)) e = none → Q (.ref e) (upd (upd H1 d (xdV v)) e (ExV C d e))
theorem pe_errV {x : Str} {a : Expr} {ta : TA} {p pos : Pos} {k : Nat} (I0 : InitTxt X.prog X.K D fI) (T : ErrTxt X.K D fI C) (gC : X.mg x = some (.ref C)) (hr : Room k X.A) (hg : Gl X x) (ha : PA X [a] ta)
    (he : starEach (a :: []) X.env = (false, eval a X.env) :: starEach [] X.env := by rfl) (hpl : (backTo pos (starEach [] X.env)).any (·.1) = false := by rfl) (hdb : (x == ("__debug__" : Str)) = false := by decide) :
    PE X (.Call (.Name x p) [a] [] pos) (tErrV C ta) := by
  refine ⟨fun pins s σ H Q I h => ?_⟩
  refine wpAny_Call_Name_kw (ld_glob I hg gC ?_ hdb)
  refine PySem.W.callWith_K (h₀ := X.base) I.ok.mod.kin T.kC (thn (ha.run pos pins s σ H _ I h) fun us s1 hh => ?_) he hpl
  obtain ⟨vs, H1, I1, r1, v, ev, q1⟩ := hh
  subst ev
  refine ⟨I1.kIn, ?_⟩
  cases r1 with
  | cons rv rn =>
    rename_i v' us'
    cases rn
    show wpAny _ _ (call (.ref C) [v']) _ _ _
    have hlim := I1.nolimit
    obtain ⟨mb, b1, b2⟩ := I1.mod.blt
    have hg1 : s1.heap.Ns mainGlobals X.mg := I1.mod.glob.keeps I1.bk
    have hb1 := b1.keeps I1.bk
    obtain ⟨hp, g, dr, tk, os⟩ := s1
    refine wpAny_call (meet_made I0 T I1.kIn hlim hg1 hb1 b2 (by have := hr.dp; omega) fun h' tk' e d M => ?_)
    obtain ⟨oe, fv, hoe, hc, hd, hdat, h1⟩ := M.obj
    have hns := M.ns
    obtain ⟨G', g1, g2⟩ := restrict h' fun b => decide (b ≠ e)
    have gk : ∀ b, b ≠ e → G'.get? b = h'.get? b := fun b hb => g1 b (decide_eq_true hb)
    have ge : G'.get? e = none := g2 e (by simp)
    have old : ∀ b o, hp.get? b = some o → G'.get? b = some o := fun b o q => (gk b (Nat.ne_of_lt (Nat.lt_of_lt_of_le (Heap.lt_size q) M.new))).trans (M.keep b o q)
    have ob : ObjOk X.prog X.w (upd H1 d (xdV v)) G' d (xdV v) := ⟨_, hns.at (fun o q => (gk d M.dne).trans q), fun f => relO_val rv f⟩
    have J : Inv X pins σ (upd H1 d (xdV v)) ⟨G', g, dr, tk', os⟩ := I1.laid (t' := tk') old M.dbig ob
    have he1 : H1 e = none := I1.hok.fresh M.new
    have hd1 : H1 d = none := I1.hok.fresh M.dbig
    have hn : (upd H1 d (xdV v)) e = none := by rw [upd_ne (Ne.symm M.dne)]; exact he1
    have J2 : Inv X pins σ (upd (upd H1 d (xdV v)) e (ExV C d e)) ⟨h', g, dr, tk', os⟩ := J.laidN (t' := tk') (fun b u q => by
      by_cases hb : b = e
      · have q' : G'.get? b = some u := q
        rw [hb, ge] at q'; cases q'
      · exact (gk b hb).symm.trans q) ge hn (exv_ok hoe hc hd hdat)
    exact ⟨.ref e, _, J2, rfl, q1 d hd1 e hn⟩
/-- e.value -/
def tErrF (K : PySem.W.Frag) (D fI : Addr) (te : TE) : TE := fun σ H Q => te σ H fun x H1 => ∃ a C d v, x = .ref a ∧ H1 a = some (ExV C d a) ∧ H1 d = some (xdV v) ∧ ErrTxt K D fI C ∧ Q v H1
theorem pe_errF {e : Expr} {te : TE} {pos : Pos} (he : PE X e te) (hb : attributeBase e "value" X.env (eval e X.env) = eval e X.env := by rfl) : PE X (.Attribute e "value" pos) (tErrF X.K D fI te) := by
  refine ⟨fun pins s σ H Q I h => ?_⟩
  refine attr_of hb (thn (he.run pins s σ H _ I h) fun u s1 hh => ?_)
  obtain ⟨x, H1, I1, rx, a, C, d, v, ex, ea, ed, T, q⟩ := hh
  subst ex
  obtain rfl : u = Value.ref a := rx
  obtain ⟨oe, vs, ho, hc, hd, ht⟩ := exv_at I1.hok ea
  have hx : ObjOk X.prog X.w H1 s1.heap d (xdV v) := I1.hok d _ ed
  obtain ⟨mA, hns, hr⟩ := hx
  obtain ⟨od, hod, hl⟩ := lookIn_ns hns
  have l : List.lookup ("value" : Str) [(("value" : Str), v)] = some v := by simp [List.lookup]
  obtain ⟨u, hu, ru⟩ := RelO.some_of (v := v) (o := mA "value") (by rw [← l]; exact hr "value")
  have J : PySem.W.InstAt s1.heap a oe C (some od) := ⟨ho, hc, by unfold PySem.W.notCls; rw [ht] <;> rfl, by rw [hd]; exact hod⟩
  exact HandSPX.exc_get I1.kIn J T.ga T.gg T.exC (PySem.W.findObj_own T.hdC T.noV rfl (by rw [hl, hu])) (handed_of ru) ⟨v, H1, I1.tok _, ru, q⟩
/-- isinstance(e, c), e an error -/
def rIsV (K : PySem.W.Frag) : List V → Hp → VK → Prop := fun xs H Q => ∃ (a C d : Addr) (v c : V) (u : Value) (b : Bool), xs = [.ref a, c] ∧ H a = some (ExV C d a) ∧ H d = some (xdV v) ∧ ClsV c u ∧ ExcC K C ∧ PySem.W.kitOne K (.ref C) u = some b ∧ Q (.bl b) H
theorem call_isV : CallR X (.builtin "isinstance") (rIsV X.K) := by
  intro pins s σ H xs us Q I r h
  obtain ⟨a, C, d, v, c, u, b, rfl, ha, hdd, hc, E, e, q⟩ := h
  obtain ⟨u1, u2, rfl, r1, r2⟩ := vals2 r
  obtain rfl : u1 = Value.ref a := r1
  have e2 := hc.eq r2
  subst e2
  obtain ⟨oe, vs, ho, hcl, hd, ht⟩ := exv_at I.hok ha
  have hcs : (PySem.W.clsIn X.K C).isSome = true := by obtain ⟨cd, hc, _⟩ := PySem.W.any_some E.hd; rw [hc]; rfl
  have hx : ObjOk X.prog X.w H s.heap d (xdV v) := I.hok d _ hdd
  obtain ⟨mA, hns, _⟩ := hx
  obtain ⟨od, hod, _⟩ := lookIn_ns hns
  have J : PySem.W.InstAt s.heap a oe C (some od) := ⟨ho, hcl, by unfold PySem.W.notCls; rw [ht] <;> rfl, by rw [hd]; exact hod⟩
  exact PySem.W.kia_one (PySem.W.kitx_exc hcs E.hg E.hk E.hs E.ha E.hn E.ht E.hm) I.kIn J e (fun z => nomatch z) fun tk => ⟨.bl b, H, I.kept (t' := tk) fun _ _ z => z, rfl, q⟩
end
end MT


namespace MT
open PySem PySem.Spec PyProof.Rows L2
/-! ### defs that look at what is being shown around them (repr): nothing is -/
abbrev NoG (A : Around) : Prop := A.guards = some []
theorem NoG.deeper {A : Around} (h : NoG A) (env : Env) : NoG (A.deeper env) := h
structure FnOkG (P : Program) (w : World) (K : PySem.W.Frag) (mg : Str → Option Value) (base : Heap) (CX : CXT) (k : Nat) (f : Addr) (fd : FuncData) (ps : List Str) (sp : Sp) : Prop where
  len : ∀ vs H Q E, sp vs H Q E → vs.length = ps.length
  run : ∀ (A : Around) (outer : List Env) (s : Shared) (H : Hp) (args : Args) (us : List Value) (vs : List V) (Q : VK) (E : XK), NoG A → Room k A → Env0 P w K mg base A outer s H → BindsTo s fd args (ps.zip us) → Vals vs us → sp vs H Q E →
    codeAny (model P w) A (.call (.ref f) args) (CR CX outer P w H s Q E) s
section
variable {CX : CXT} {P : Program} {w : World} {K : PySem.W.Frag} {mg : Str → Option Value} {base : Heap} {k : Nat} {f : Addr} {x qual : Str} {params : Arguments} {body : List Stmt} {scope : Scope} {dvs : List V} {kws : List (Str × V)} {fd : FuncData} {N ps : List Str} {sp : Sp}
theorem fnG_okL (F : FunD K x qual params body scope dvs kws f fd) (S : FnScope N ps scope) (len : ∀ vs H Q E, sp vs H Q E → vs.length = ps.length)
    (hbody : ∀ (cdv : Value), (∀ q, f = He.fAd K q → cdv = .ref (He.codeOf K q)) → ∀ (A : Around) (outer : List Env) (s : Shared) (H : Hp) (vs : List V) (Q : VK) (E : XK), NoG (A.deeper (envOfC qual scope s.heap.objs.size f cdv)) → Room k (A.deeper (envOfC qual scope s.heap.objs.size f cdv)) → sp vs H Q E →
      ∃ t, PSs (cxOf CX P w K mg base N qual scope f cdv A outer s H E) body t ∧ t { nx := fun _ H' => Q .non H', rt := Q } (start N vs) H) : FnOkG P w K mg base CX (k + 1) f fd ps sp := by
  obtain ⟨oc, od, dV, kV, doc, pm, an, cdv, ct, osl, rfl, lk, hcd, _, _⟩ := F.ex
  refine ⟨len, fun A outer s H args us vs Q E hG hR en hB rv hS => ?_⟩
  have hlen := len _ _ _ _ hS
  have kx : K.In s.heap := en.mod.kin.keeps fun b o e => (en.bs b o e).1
  have hlm : s.heap.NoLimit := en.mod.nolimit.keeps fun b o e => (en.bs b o e).1
  have hkd : ∀ y ∈ ps.zip us, scope.names.lookup y.1 = some .local ∨ (scope.names.lookup y.1 = some .cell ∧ ((cellsFrom (s.heap.objs.size + 1) scope.names []).lookup y.1).isSome = true) := fun ⟨n, v⟩ hy => by
    rcases S.par n (List.of_mem_zip hy).1 with z | z
    · exact .inl z
    · exact .inr ⟨z, PySem.W.cellsFrom_some _ _ _ (.inl z)⟩
  refine codeAny_call_function hR.depth (kx _ _ lk) rfl S.co S.gen rfl (PySem.W.codeRec_of kx hcd) (hB _ _ _ _ (wpAny_newFunctionEnv_cells S.kind hkd fun env he s1 ic => ?_))
  subst he
  refine ⟨hlm.keeps ic.toInCall.keep, codeAny_func ?_⟩
  have hcq : ∀ q, f = He.fAd K q → cdv = .ref (He.codeOf K q) := fun q e => by
    subst e
    obtain ⟨c, hc⟩ := He.codeIn_ref hcd
    rw [He.codeOf_eq lk hc]
    exact hc
  obtain ⟨t, ht, hq⟩ := hbody cdv hcq A outer s H vs Q E (hG.deeper _) (hR.deeper _) hS
  have I : Inv (cxOf CX P w K mg base N qual scope f cdv A outer s H E) [] (start N vs) H s1 := inv_start S hR.hd en hlen rv ic
  refine wpAny_mono (ht.run [] s1 (start N vs) H _ I hq) (fun fl s2 hs => ?_) fun _ _ z => z
  have last : ∀ {σ2 : L2.St} {H2 : Hp} {v : V} {u : Value}, Inv (cxOf CX P w K mg base N qual scope f cdv A outer s H E) [] σ2 H2 s2 → RelV v u → Q v H2 → CE outer P w H s Q u s2 :=
    fun {σ2 H2 v u} J r1 q => ⟨v, H2, J.os, J.bare, J.base, J.hok, r1, q⟩
  cases fl with
  | ret u => obtain ⟨v, σ2, H2, J, r1, q⟩ := hs; exact last J r1 q
  | next => obtain ⟨σ2, H2, J, q⟩ := hs; exact last (v := V.non) (u := Value.none) J rfl q
  | brk => obtain ⟨_, _, _, q⟩ := hs; exact q.elim
  | cont => obtain ⟨_, _, _, q⟩ := hs; exact q.elim
theorem fnG_ok (F : FunD K x qual params body scope dvs kws f fd) (S : FnScope N ps scope) (len : ∀ vs H Q E, sp vs H Q E → vs.length = ps.length)
    (hbody : ∀ (cdv : Value) (A : Around) (outer : List Env) (s : Shared) (H : Hp) (vs : List V) (Q : VK) (E : XK), NoG (A.deeper (envOfC qual scope s.heap.objs.size f cdv)) → Room k (A.deeper (envOfC qual scope s.heap.objs.size f cdv)) → sp vs H Q E →
      ∃ t, PSs (cxOf CX P w K mg base N qual scope f cdv A outer s H E) body t ∧ t { nx := fun _ H' => Q .non H', rt := Q } (start N vs) H) : FnOkG P w K mg base CX (k + 1) f fd ps sp :=
  fnG_okL F S len fun cdv _ => hbody cdv
end
/-- as Ok, for such a def -/
structure OkG (P : Program) (w : World) (K : PySem.W.Frag) (mg : Str → Option Value) (base : Heap) (CX : CXT) (k : Nat) (x : Str) (ps : List Str) (dvs : List V) (sp : Sp) : Prop where
  fn : ∃ (fd : FuncData) (ds : List Value), FnOkG P w K mg base CX k (He.ga K x) fd ps sp ∧ Binds K fd ps ds ∧ Vals dvs ds
  kp : PySem.W.keepIn K (.ref (He.ga K x)) = true
  gl : mg x = some (.ref (He.ga K x))
section
variable {X : Cx} {CX : CXT} {k : Nat} {x : Str} {ps : List Str} {dvs : List V} {sp : Sp} {E : XK} {e : Expr} {es : List Expr} {t : TA} {p pos : Pos} {f : Addr} {fd : FuncData} {ds : List Value}
theorem run_fnG {pins : List (Addr × Obj)} {σ : L2.St} {H : Hp} {s : Shared} {Q : VK} {us : List Value} {vs : List V} (F : FnOkG X.prog X.w X.K X.mg X.base CX k f fd ps sp) (hG : NoG X.A) (hr : Room k X.A) (hb : Binds X.K fd ps ds) (hd : Vals dvs ds) (hx : Passes CX X E)
    (I : Inv X pins σ H s) (rv : Vals vs us) (h : sp (vs ++ dvs) H Q E) : wpAny (model X.prog X.w) X.A (call (.ref f) us) (EP X pins σ Q) X.xe s := by
  have r2 : Vals (vs ++ dvs) (us ++ ds) := rv.append hd
  have hlen : (us ++ ds).length = ps.length := by rw [← r2.length]; exact F.len _ _ _ _ h
  refine wpAny_call (codeAny_mono (F.run X.A X.stack s H ⟨us, []⟩ (us ++ ds) (vs ++ dvs) Q E hG hr I.env0 (hb s us I.kIn hlen) r2 h) fun rr s2 hq => ?_)
  cases rr with
  | error er => exact hx pins σ H s er s2 I hq
  | ok fl =>
    cases fl with
    | ret u => exact I.after hq
    | next => exact hq.elim
    | brk => exact hq.elim
    | cont => exact hq.elim
theorem pe_callG (O : OkG X.prog X.w X.K X.mg X.base CX k x ps dvs sp) (hG : NoG X.A) (hr : Room k X.A) (hg : Gl X x) (hx : Passes CX X E) (ha : PA X (e :: es) t) (hdb : (x == ("__debug__" : Str)) = false := by decide)
    (he : starEach (e :: es) X.env = (false, eval e X.env) :: starEach es X.env := by rfl) (hpl : (backTo pos (starEach es X.env)).any (·.1) = false := by rfl) :
    PE X (.Call (.Name x p) (e :: es) [] pos) (tCall sp dvs E t) := by
  obtain ⟨⟨fd, ds, F, b, d⟩, kp, m⟩ := O
  refine ⟨fun pins s σ H Q I h => wpAny_Call_Name_kw (ld_glob I hg m ?_ hdb)⟩
  exact PySem.W.callWith_K (h₀ := X.base) I.ok.mod.kin kp (thn (ha.run pos pins s σ H _ I h) fun us s1 ⟨vs, H1, I1, r, q⟩ => ⟨I1.kIn, run_fnG F hG hr b d hx I1 r q⟩) he hpl
end
/-! ### the end of a law -/
theorem law_callG {P : Program} {w : World} {K : PySem.W.Frag} {mg mb : Str → Option Value} {CX : CXT} {k : Nat} {fa a : Addr} {fd : FuncData} {x : Str} {sp : Sp} {s1 : Shared} {vs : List Value} {ns : List Int}
    (KX : K.In s1.heap) (hns : s1.heap.Ns mainGlobals mg) (hb : s1.heap.Ns builtinsNs mb) (hbb : ∀ x : Str, x ≠ "__name__" → mb x = bootBuiltins x) (hlim : s1.heap.NoLimit) (hg : s1.gens = #[])
    (ha : s1.heap.get? a = some { cls := .type "list", data := .seq vs.toArray }) (hi : IntsAre vs ns) (hl : ns.length ≤ sizeLine) (hr : Room k callerA)
    (F : ∀ base : Heap, K.In base → base.Ns mainGlobals mg → FnOkG P w K mg base CX k fa fd [x] sp) (hbind : ∀ (s : Shared) (u : Value), BindsTo s fd ⟨[u], []⟩ [(x, u)])
    (hsp : ∀ H : Hp, Only H → SqL K H a (ns.map V.int) → sp [.ref a] H (fun v _ => v = .bl true) fun _ _ _ => False)
    (hCX : ∀ H e s', CX [] H s1 (fun _ _ _ => False) e s' → False) :
    codeAny (model P w) callerA (.call (.ref fa) ⟨[.ref a], []⟩) (fun r s' => r = .ok (.ret (.bool true)) ∧ OldK s1.heap s'.heap ∧ s'.os = s1.os ∧ AllBare s'.gens) s1 := by
  have rv := vals_ints hi
  have ln := hi.length
  have main : ∀ H : Hp, Only H → SqL K H a (ns.map V.int) → HOk P w H s1.heap → (∀ b, H b ≠ none → b = a) → (H a ≠ none → K.lookup a = none) →
      codeAny (model P w) callerA (.call (.ref fa) ⟨[.ref a], []⟩) (fun r s' => r = .ok (.ret (.bool true)) ∧ OldK s1.heap s'.heap ∧ s'.os = s1.os ∧ AllBare s'.gens) s1 := by
    intro H hO hS hok hA hK
    have nod : ∀ {b : Addr} {o : Obj} {es : Array DictEntry} {ep : Nat}, s1.heap.get? b = some o → o.data = .dict es ep → H b = none := fun {b o es ep} e d => by
      cases q : H b with
      | none => rfl
      | some u =>
        obtain rfl : b = a := hA b (by rw [q]; simp)
        rw [ha] at e; cases e
        have z : Data.seq vs.toArray _ = Data.dict es ep := d
        cases z
    have nsK : ∀ {b : Addr} {m : Str → Option Value}, s1.heap.Ns b m → (hidT s1.heap H).Ns b m := fun {b m} ⟨o, es, ep, e, d, r⟩ => ⟨o, es, ep, hidT_get e (nod e d), d, r⟩
    have kb : K.In (hidT s1.heap H) := fun b o e => hidT_get (KX b o e) (by
      cases q : H b with
      | none => rfl
      | some u =>
        obtain rfl : b = a := hA b (by rw [q]; simp)
        rw [hK (by rw [q]; simp)] at e; cases e)
    have mo : Mod K mg (hidT s1.heap H) := ⟨kb, nsK hns, ⟨mb, nsK hb, hbb⟩, let ⟨mc, h1, h2⟩ := hlim; ⟨mc, nsK h1, h2⟩⟩
    have en : Env0 P w K mg (hidT s1.heap H) callerA [] s1 H := ⟨rfl, mo, fun b o e => of_hidT e, Nat.le_of_eq (hidT_size _ _), trivial, fun b hb => absurd (show b ∈ ([] : List Addr) from hb) (by simp), hok, .of_eq hg⟩
    refine codeAny_mono ((F _ kb (nsK hns)).run callerA [] s1 H ⟨[.ref a], []⟩ [.ref a] [.ref a] _ _ rfl hr en (hbind s1 (.ref a)) (.cons rfl .nil) (hsp H hO hS)) fun rr s2 h => ?_
    cases rr with
    | error e => exact (hCX H e s2 h).elim
    | ok fl =>
      cases fl with
      | next => exact h.elim
      | brk => exact h.elim
      | cont => exact h.elim
      | ret u =>
        obtain ⟨v, H2, os, bare, un, hok2, r2, q⟩ := h
        obtain rfl : v = .bl true := q
        obtain rfl : u = Value.bool true := r2
        refine ⟨rfl, OldK.of_keep fun b o e => ?_, os, bare⟩
        cases q : H b with
        | none => exact un.keep b o e q (by intro z; exact absurd (show b ∈ ([] : List Addr) from z) (by simp)) (by simp)
        | some u =>
          rcases hO b with z | ⟨ob, xs, z⟩
          · rw [q] at z; cases z
          · obtain ⟨e1, _⟩ := hok b _ z
            obtain ⟨e2, _⟩ := hok2 b _ (un.frzs b ob _ z)
            rw [e] at e1; cases e1
            exact e2
  cases hk : K.lookup a with
  | some o =>
    have e := KX a o hk
    rw [ha] at e
    cases e
    refine main (fun _ => none) (fun _ => .inl rfl) (.inr ⟨_, vs.toArray, _, hk, rfl, rfl, rfl, by rw [List.size_toArray, ln]; exact hl, by simpa using rv⟩) (fun b u z => by have z2 : (none : Option HO) = some u := z; cases z2) (fun b z => absurd rfl z) fun z => absurd rfl z
  | none =>
    refine main (fun b => if b = a then some (.frz { cls := .type "list", data := .seq vs.toArray } (.lst (ns.map V.int))) else none) (fun b => ?_) (.inl (.inr ⟨{ cls := .type "list", data := .seq vs.toArray }, if_pos rfl⟩)) (fun b u z => ?_) (fun b z => ?_) fun _ => hk
    · by_cases e : b = a
      · exact .inr ⟨_, _, if_pos e⟩
      · exact .inl (if_neg e)
    · by_cases e : b = a
      · have z2 := (if_pos e).symm.trans z
        cases z2
        subst e
        exact ⟨ha, by rw [List.length_map]; exact hl, vs, _, rv, ha⟩
      · have z2 := (if_neg e).symm.trans z
        cases z2
    · by_cases e : b = a
      · exact e
      · exact absurd (if_neg e) z
theorem walk_ofG {l : PySem.W.OpenLaw} {n k : Nat} {q : Program} {loose : List Str} {XP : (Str → Option Value) → Heap → Prop} {YP : World → Heap → Prop} {d : DefRec} {CX : CXT} {x : Str}
    (hn : l.most = some n) (hn2 : n ≤ sizeLine) (hdf : d.params.defaults = []) (hr : Room k callerA)
    (F : ∀ (w : World) (mg : Str → Option Value) (fa : Addr) (h : Heap), YP w h → h.Ns mainGlobals mg → mg d.name = some (.ref fa) →
      ∃ (K : PySem.W.Frag) (fd : FuncData) (sp : Sp), K.In h ∧ (∀ (s : Shared) (u : Value), BindsTo s fd ⟨[u], []⟩ [(x, u)]) ∧
        (∀ (H : Hp) (a : Addr) (ns : List Int), ns.length ≤ n → Only H → SqL K H a (ns.map V.int) → sp [.ref a] H (fun v _ => v = .bl true) fun _ _ _ => False) ∧
        ∀ base : Heap, K.In base → base.Ns mainGlobals mg → FnOkG l.prog w K mg base CX k fa fd [x] sp)
    (hCX : ∀ (H : Hp) (s : Shared) (e : Value) (s' : Shared), CX [] H s (fun _ _ _ => False) e s' → False) :
    PySem.W.WalkO q loose XP YP l.row.toRowW d [] (fun f vs => PySem.call f vs) := by
  refine Att.attach_call hn hdf fun w s0 s1 mg mb fa o pm cd doc a vs ns G Y ho hd hcd hmg hobj hints hlen hg => ?_
  obtain ⟨K, fd, sp, KX, hb, hsp, hF⟩ := F w mg fa _ Y G.T.g hmg
  exact law_callG KX G.T.g G.T.b G.T.builtins G.T.nolimit hg hobj hints (Nat.le_trans hlen hn2) hr hF hb (fun H hO hS => hsp H a ns hlen hO hS) fun H e s2 => hCX H s1 e s2
/-! ### the end of a law with tables of code objects -/
theorem law_callTG {P : Program} {w : World} {K : PySem.W.Frag} {mg mb : Str → Option Value} {CX : CXT} {k : Nat} {fa a : Addr} {ts : List (Addr × Addr)} {fd : FuncData} {x : Str} {sp : Sp} {s1 : Shared} {vs : List Value} {ns : List Int}
    (KX : K.In s1.heap) (hns : s1.heap.Ns mainGlobals mg) (hb : s1.heap.Ns builtinsNs mb) (hbb : ∀ x : Str, x ≠ "__name__" → mb x = bootBuiltins x) (hlim : s1.heap.NoLimit) (hg : s1.gens = #[])
    (eT : ∀ p ∈ ts, s1.heap.get? p.2 = some { cls := .none, data := .fields #[] }) (oT : ∀ p ∈ ts, K.lookup p.2 = none) (cT : ∀ p ∈ ts, PySem.W.CodeHd s1.heap p.1 p.2)
    (bmT : ∃ (m : Addr) (o : Obj), mg "__builtins__" = some (.ref m) ∧ m ≠ builtinsNs ∧ s1.heap.get? m = some o ∧ o.cls = .type "module" ∧ o.dict = some builtinsNs ∧ o.data = .plain)
    (ha : s1.heap.get? a = some { cls := .type "list", data := .seq vs.toArray }) (hi : IntsAre vs ns) (hl : ns.length ≤ sizeLine) (hr : Room k callerA)
    (F : ∀ base : Heap, K.In base → base.Ns mainGlobals mg → (∀ p ∈ ts, LamX.TabB base mg p.1 p.2) → FnOkG P w K mg base CX k fa fd [x] sp) (hbind : ∀ (s : Shared) (u : Value), BindsTo s fd ⟨[u], []⟩ [(x, u)])
    (hsp : ∀ H : Hp, (∀ p ∈ ts, H p.2 = some (.tbl #[])) → SqL K H a (ns.map V.int) → sp [.ref a] H (fun v _ => v = .bl true) fun _ _ _ => False)
    (hCX : ∀ H e s', CX [] H s1 (fun _ _ _ => False) e s' → False) :
    codeAny (model P w) callerA (.call (.ref fa) ⟨[.ref a], []⟩) (fun r s' => r = .ok (.ret (.bool true)) ∧ OldK s1.heap s'.heap ∧ s'.os = s1.os ∧ AllBare s'.gens) s1 := by
  have rv := vals_ints hi
  have ln := hi.length
  have tat : ∀ {b : Addr}, b ∈ ts.map (·.2) → s1.heap.get? b = some { cls := .none, data := .fields #[] } := fun {b} hb => by
    obtain ⟨p, hp, rfl⟩ := List.mem_map.mp hb
    exact eT p hp
  have nat_ : a ∉ ts.map (·.2) := fun z => by
    have q := tat z
    rw [ha] at q; cases q
  have tin : ∀ p ∈ ts, p.2 ∈ ts.map (·.2) := fun p hp => List.mem_map_of_mem hp
  have main : ∀ H : Hp, (∀ p ∈ ts, H p.2 = some (.tbl #[])) → (∀ b, (H b = none ∨ ∃ o xs, H b = some (.frz o (.lst xs))) ∨ b ∈ ts.map (·.2)) → SqL K H a (ns.map V.int) → HOk P w H s1.heap → (∀ b, H b ≠ none → b ∈ ts.map (·.2) ∨ b = a) → (H a ≠ none → K.lookup a = none) →
      codeAny (model P w) callerA (.call (.ref fa) ⟨[.ref a], []⟩) (fun r s' => r = .ok (.ret (.bool true)) ∧ OldK s1.heap s'.heap ∧ s'.os = s1.os ∧ AllBare s'.gens) s1 := by
    intro H hT hO hS hok hA hK
    have nod : ∀ {b : Addr} {o : Obj} {es : Array DictEntry} {ep : Nat}, s1.heap.get? b = some o → o.data = .dict es ep → H b = none := fun {b o es ep} e d => by
      cases q : H b with
      | none => rfl
      | some u =>
        rcases hA b (by rw [q]; simp) with hb | rfl
        · rw [tat hb] at e; cases e; cases d
        · rw [ha] at e; cases e; cases d
    have nof : ∀ {b : Addr} {o : Obj}, s1.heap.get? b = some o → (∀ us n, o.data ≠ .seq us n) → o.data ≠ .fields #[] → H b = none := fun {b o} e n1 n2 => by
      cases q : H b with
      | none => rfl
      | some u =>
        rcases hA b (by rw [q]; simp) with hb | rfl
        · rw [tat hb] at e; cases e; exact absurd rfl n2
        · rw [ha] at e; cases e; exact absurd rfl (n1 _ _)
    have nsK : ∀ {b : Addr} {m : Str → Option Value}, s1.heap.Ns b m → (hidT s1.heap H).Ns b m := fun {b m} ⟨o, es, ep, e, d, r⟩ => ⟨o, es, ep, hidT_get e (nod e d), d, r⟩
    have kb : K.In (hidT s1.heap H) := fun b o e => hidT_get (KX b o e) (by
      cases q : H b with
      | none => rfl
      | some u =>
        rcases hA b (by rw [q]; simp) with hb | rfl
        · obtain ⟨p, hp, rfl⟩ := List.mem_map.mp hb
          rw [oT p hp] at e; cases e
        · rw [hK (by rw [q]; simp)] at e; cases e)
    have tb : ∀ p ∈ ts, LamX.TabB (hidT s1.heap H) mg p.1 p.2 := fun p hp => by
      refine ⟨?_, ?_, fun z => ?_⟩
      · obtain ⟨oc, us, f1, f2, f3, f4, f5, f6, f7, x1, x2, x3, x4, xr⟩ := cT p hp
        refine ⟨oc, us, f1, f2, f3, f4, f5, f6, f7, hidT_get x1 (nof x1 (fun _ _ z => by rw [x3] at z; cases z) fun z => ?_), x2, x3, x4, xr⟩
        rw [x3] at z; cases z; simp at x4
      · obtain ⟨m, o, y1, y2, y3, y4, y5, y6⟩ := bmT
        refine ⟨m, o, y1, y2, fun z => ?_, fun z => ?_, hidT_get y3 (nof y3 (fun _ _ z => by rw [y6] at z; cases z) fun z => by rw [y6] at z; cases z), y4, y5, y6⟩
        · obtain ⟨og, es, ep, e, hd, _⟩ := hns
          rw [z, e] at y3; cases y3
          rw [hd] at y6; cases y6
        · rw [z, eT p hp] at y3; cases y3; cases y6
      · obtain ⟨og, es, ep, e, hd, _⟩ := hns
        rw [z, eT p hp] at e; cases e; cases hd
    have mo : Mod K mg (hidT s1.heap H) := ⟨kb, nsK hns, ⟨mb, nsK hb, hbb⟩, let ⟨mc, h1, h2⟩ := hlim; ⟨mc, nsK h1, h2⟩⟩
    have en : Env0 P w K mg (hidT s1.heap H) callerA [] s1 H := ⟨rfl, mo, fun b o e => of_hidT e, Nat.le_of_eq (hidT_size _ _), trivial, fun b hb => absurd (show b ∈ ([] : List Addr) from hb) (by simp), hok, .of_eq hg⟩
    refine codeAny_mono ((F _ kb (nsK hns) tb).run callerA [] s1 H ⟨[.ref a], []⟩ [.ref a] [.ref a] _ _ rfl hr en (hbind s1 (.ref a)) (.cons rfl .nil) (hsp H hT hS)) fun rr s2 h => ?_
    cases rr with
    | error e => exact (hCX H e s2 h).elim
    | ok fl =>
      cases fl with
      | next => exact h.elim
      | brk => exact h.elim
      | cont => exact h.elim
      | ret u =>
        obtain ⟨v, H2, os, bare, un, hok2, r2, q⟩ := h
        obtain rfl : v = .bl true := q
        obtain rfl : u = Value.bool true := r2
        have stays : ∀ b o, b ∉ ts.map (·.2) → s1.heap.get? b = some o → s2.heap.get? b = some o := fun b o nb e => by
          cases q : H b with
          | none => exact un.keep b o e q (by intro z; exact absurd (show b ∈ ([] : List Addr) from z) (by simp)) (by simp)
          | some u =>
            rcases hO b with (z | ⟨ob, xs, z⟩) | z
            · rw [q] at z; cases z
            · obtain ⟨e1, _⟩ := hok b _ z
              obtain ⟨e2, _⟩ := hok2 b _ (un.frzs b ob _ z)
              rw [e] at e1; cases e1
              exact e2
            · exact absurd z nb
        have more : ∀ p ∈ ts, ∃ us : Array Value, s2.heap.get? p.2 = some { cls := .none, data := .fields us } := fun p hp => by
          obtain ⟨us, z⟩ := un.tbls p.2 #[] (hT p hp)
          exact ⟨_, hok2 p.2 _ z⟩
        refine ⟨rfl, ⟨fun b o e => ?_, fun b o e => ?_⟩, os, bare⟩
        · by_cases nb : b ∈ ts.map (·.2)
          · obtain ⟨p, hp, rfl⟩ := List.mem_map.mp nb
            obtain ⟨us, hu⟩ := more p hp
            rw [eT p hp] at e; cases e
            exact .inr (.inl ⟨((cT p hp).tab (eT p hp)).isCodeTable, rfl, #[], us, rfl, by rw [Array.empty_append]; exact hu⟩)
          · exact .inl (stays b o nb e)
        · by_cases nb : b ∈ ts.map (·.2)
          · obtain ⟨p, hp, rfl⟩ := List.mem_map.mp nb
            obtain ⟨us, hu⟩ := more p hp
            exact ⟨_, hu⟩
          · exact ⟨o, stays b o nb e⟩
  cases hk : K.lookup a with
  | some o =>
    have e := KX a o hk
    rw [ha] at e
    cases e
    refine main (fun b => if b ∈ ts.map (·.2) then some (.tbl #[]) else none) (fun p hp => if_pos (tin p hp)) (fun b => ?_) (.inr ⟨_, vs.toArray, _, hk, rfl, rfl, rfl, by rw [List.size_toArray, ln]; exact hl, by simpa using rv⟩) (fun b u z => ?_) (fun b z => ?_) fun z => absurd (if_neg nat_) z
    · by_cases nb : b ∈ ts.map (·.2)
      · exact .inr nb
      · exact .inl (.inl (if_neg nb))
    · by_cases nb : b ∈ ts.map (·.2)
      · have z2 := (if_pos nb).symm.trans z
        cases z2
        exact tat nb
      · have z2 := (if_neg nb).symm.trans z
        cases z2
    · by_cases nb : b ∈ ts.map (·.2)
      · exact .inl nb
      · exact absurd (if_neg nb) z
  | none =>
    refine main (fun b => if b ∈ ts.map (·.2) then some (.tbl #[]) else if b = a then some (.frz { cls := .type "list", data := .seq vs.toArray } (.lst (ns.map V.int))) else none) (fun p hp => if_pos (tin p hp)) (fun b => ?_)
      (.inl (.inr ⟨{ cls := .type "list", data := .seq vs.toArray }, (if_neg nat_).trans (if_pos rfl)⟩)) (fun b u z => ?_) (fun b z => ?_) fun _ => hk
    · by_cases nb : b ∈ ts.map (·.2)
      · exact .inr nb
      · by_cases e : b = a
        · exact .inl (.inr ⟨_, _, (if_neg nb).trans (if_pos e)⟩)
        · exact .inl (.inl ((if_neg nb).trans (if_neg e)))
    · by_cases nb : b ∈ ts.map (·.2)
      · have z2 := (if_pos nb).symm.trans z
        cases z2
        exact tat nb
      · by_cases e : b = a
        · have z2 := ((if_neg nb).trans (if_pos e)).symm.trans z
          cases z2
          subst e
          exact ⟨ha, by rw [List.length_map]; exact hl, vs, _, rv, ha⟩
        · have z2 := ((if_neg nb).trans (if_neg e)).symm.trans z
          cases z2
    · by_cases nb : b ∈ ts.map (·.2)
      · exact .inl nb
      · by_cases e : b = a
        · exact .inr e
        · exact absurd ((if_neg nb).trans (if_neg e)) z
theorem walk_ofTG {l : PySem.W.OpenLaw} {n k : Nat} {q : Program} {loose : List Str} {XP : (Str → Option Value) → Heap → Prop} {YP : World → Heap → Prop} {d : DefRec} {CX : CXT} {x : Str}
    (hn : l.most = some n) (hn2 : n ≤ sizeLine) (hdf : d.params.defaults = []) (hr : Room k callerA)
    (F : ∀ (w : World) (mg : Str → Option Value) (fa : Addr) (h : Heap), YP w h → h.Ns mainGlobals mg → mg d.name = some (.ref fa) →
      ∃ (K : PySem.W.Frag) (fd : FuncData) (sp : Sp) (ts : List (Addr × Addr)), K.In h ∧ ((∀ p ∈ ts, h.get? p.2 = some { cls := .none, data := .fields #[] }) ∧ (∀ p ∈ ts, K.lookup p.2 = none) ∧ ∀ p ∈ ts, PySem.W.CodeHd h p.1 p.2) ∧ (∀ (s : Shared) (u : Value), BindsTo s fd ⟨[u], []⟩ [(x, u)]) ∧
        (∀ (H : Hp) (a : Addr) (ns : List Int), ns.length ≤ n → (∀ p ∈ ts, H p.2 = some (.tbl #[])) → SqL K H a (ns.map V.int) → sp [.ref a] H (fun v _ => v = .bl true) fun _ _ _ => False) ∧
        ∀ base : Heap, K.In base → base.Ns mainGlobals mg → (∀ p ∈ ts, LamX.TabB base mg p.1 p.2) → FnOkG l.prog w K mg base CX k fa fd [x] sp)
    (hCX : ∀ (H : Hp) (s : Shared) (e : Value) (s' : Shared), CX [] H s (fun _ _ _ => False) e s' → False) :
    PySem.W.WalkO q loose XP YP l.row.toRowW d [] (fun f vs => PySem.call f vs) := by
  refine Att.attach_call hn hdf fun w s0 s1 mg mb fa o pm cd doc a vs ns G Y ho hd hcd hmg hobj hints hlen hg => ?_
  obtain ⟨K, fd, sp, ts, KX, ⟨t1, t2, t3⟩, hb, hsp, hF⟩ := F w mg fa _ Y G.T.g hmg
  exact law_callTG KX G.T.g G.T.b G.T.builtins G.T.nolimit hg t1 t2 t3 G.T.bmain hobj hints (Nat.le_trans hlen hn2) hr hF hb (fun H hO hS => hsp H a ns hlen hO hS) fun H e s2 => hCX H s1 e s2
end MT

namespace MT
open PySem PySem.Spec PyProof.Rows L2
/-! ### data, dicts too, and repr -/
def keyD : Key → PyData
  | .inl i => .int i
  | .inr x => .str x
mutual
inductive Da (K : PySem.W.Frag) (H : Hp) : V → PyData → Prop
  | non : Da K H .non .none
  | bl (b : Bool) : Da K H (.bl b) (.bool b)
  | int (i : Int) : Da K H (.int i) (.int i)
  | str (x : Str) : Da K H (.str x) (.str x)
  | lst {a : Addr} {xs : List V} {ds : List PyData} : SqL K H a xs → DaAll K H xs ds → Da K H (.ref a) (.list ds)
  | tup {a : Addr} {xs : List V} {ds : List PyData} : SqT K H a xs → DaAll K H xs ds → Da K H (.ref a) (.tuple ds)
  | dict {a : Addr} {kvs : List (Key × V)} {ds : List PyData} : H a = some (.dK kvs) → DaAll K H (kvs.map (·.2)) ds → Da K H (.ref a) (.dict ((kvs.map fun kv => keyD kv.1).zip ds))
inductive DaAll (K : PySem.W.Frag) (H : Hp) : List V → List PyData → Prop
  | nil : DaAll K H [] []
  | cons {v : V} {vs : List V} {d : PyData} {ds : List PyData} : Da K H v d → DaAll K H vs ds → DaAll K H (v :: vs) (d :: ds)
end
theorem DaAll.length {K : PySem.W.Frag} {H : Hp} : ∀ {vs : List V} {ds : List PyData}, DaAll K H vs ds → vs.length = ds.length
  | _, _, .nil => rfl
  | _, _, .cons _ t => congrArg Nat.succ t.length
mutual
theorem Da.same {K : PySem.W.Frag} {H H' : Hp} (s : Same H H') : ∀ {v : V} {d : PyData}, Da K H v d → Da K H' v d
  | _, _, .non => .non
  | _, _, .bl b => .bl b
  | _, _, .int i => .int i
  | _, _, .str x => .str x
  | _, _, .lst h t => .lst (s.seq h) (DaAll.same s t)
  | _, _, .tup h t => .tup (Same.tup s h) (DaAll.same s t)
  | _, _, .dict h t => .dict (s _ _ h) (DaAll.same s t)
theorem DaAll.same {K : PySem.W.Frag} {H H' : Hp} (s : Same H H') : ∀ {vs : List V} {ds : List PyData}, DaAll K H vs ds → DaAll K H' vs ds
  | _, _, .nil => .nil
  | _, _, .cons h t => .cons (Da.same s h) (DaAll.same s t)
end
/-- sys.modules stands in the written part -/
def SysK (K : PySem.W.Frag) : Prop := ∃ o : Obj, K.lookup sysModules = some o ∧ o.cls = .type "dict"
theorem keys_read {P : Program} {w : World} {h : Heap} : ∀ {es : List DictEntry} {kvs : List (Key × V)} {vs : List (Key × Value)}, KV kvs vs → Pairs (mixKind P w) es vs → ReadsAll h (es.map (·.key)) (kvs.map fun kv => keyD kv.1) []
  | _, _, _, .nil, .nil => .nil
  | _, _, _, .cons (a := kv) (b := q) r t, .cons (e := e) k _ p => by
    have rest := keys_read (P := P) (w := w) (h := h) t p
    have e1 : kv.1 = q.1 := r.1
    have k2 : keyIs q.1 e.key = true := k
    have h1 : Reads h e.key (keyD kv.1) [] := by
      rw [e1]
      rcases keyIs_shape k2 with ⟨i, t, z1, z2⟩ | ⟨x, t, z1, z2⟩
      · rw [z1, z2]; exact .int i t
      · rw [z1, z2]; exact .str x t
    exact ReadsAll.cons (as := []) (bs := []) h1 rest
theorem vals_read {P : Program} {w : World} : ∀ {es : List DictEntry} {kvs : List (Key × V)} {vs : List (Key × Value)}, KV kvs vs → Pairs (mixKind P w) es vs → Vals (kvs.map (·.2)) (es.map (·.val))
  | _, _, _, .nil, .nil => .nil
  | _, _, _, .cons r t, .cons _ e p => by
    refine .cons ?_ (vals_read (P := P) (w := w) t p)
    show L2.RelV _ _
    dsimp only
    rw [e]
    exact r.2
section
variable {X : Cx} {pins : List (Addr × Obj)} {σ : L2.St} {H : Hp} {s : Shared}
theorem sys_ne (hS : SysK X.K) (I : Inv X pins σ H s) {a : Addr} {xs : List V} (h : SqL X.K H a xs) : sysModules ≠ a := by
  intro e
  obtain ⟨o, ho, hc⟩ := hS
  have hb : X.base.get? sysModules = some o := I.ok.mod.kin _ _ ho
  obtain ⟨hg, hn⟩ := I.bs _ _ hb
  obtain ⟨its, rv, ⟨o2, n, e2, c2, _⟩, _⟩ := I.list h
  rw [← e, hg] at e2
  cases e2
  rw [hc] at c2
  exact absurd (Value.type.inj c2) (by decide)
mutual
theorem Da.reads (hS : SysK X.K) (I : Inv X pins σ H s) : ∀ {v : V} {d : PyData}, Da X.K H v d → ∀ u, RelV v u → ∃ as, Reads s.heap u d as ∧ sysModules ∉ as
  | _, _, .non, u, r => by cases r; exact ⟨_, .none, fun z => nomatch z⟩
  | _, _, .bl b, u, r => by cases r; exact ⟨_, .bool b, fun z => nomatch z⟩
  | _, _, .int i, u, r => by obtain ⟨t, rfl⟩ := r; exact ⟨_, .int i t, fun z => nomatch z⟩
  | _, _, .str x, u, r => by obtain ⟨t, rfl⟩ := r; exact ⟨_, .str x t, fun z => nomatch z⟩
  | _, _, .lst hs ha, u, r => by
    cases r
    obtain ⟨its, rv, ⟨o, n, ho, hc, _, hd⟩, _⟩ := I.list hs
    obtain ⟨as, hr, hn⟩ := DaAll.reads hS I ha its rv
    refine ⟨_, .list ho hc hd hr, fun z => ?_⟩
    rcases List.mem_cons.mp z with z | z
    · exact sys_ne hS I hs z
    · exact hn z
  | _, _, .tup hs ha, u, r => by
    cases r
    obtain ⟨its, rv, ⟨o, ho, hc, n, hd⟩, _⟩ := I.tuple hs
    obtain ⟨as, hr, hn⟩ := DaAll.reads hS I ha its rv
    exact ⟨_, .tuple ho hc hd hr, hn⟩
  | _, _, .dict (kvs := kvs) (ds := ds) hs ha, u, r => by
    cases r
    obtain ⟨_, hm, vs, rk, o, es, ep, ho, ex, hd, _, pr, _⟩ := I.hok _ _ hs
    have hl := DaAll.length ha
    rw [List.length_map] at hl
    obtain ⟨as, hr, hn⟩ := DaAll.reads hS I ha _ (vals_read rk pr)
    have hk := keys_read (h := s.heap) rk pr
    refine ⟨_, .dict (as := []) (bs := as) ho ex.1 hd ?_ ?_, fun z => ?_⟩
    · rw [List.map_fst_zip (by simp [hl])]; exact hk
    · rw [List.map_snd_zip (by simp [hl])]; exact hr
    · rcases List.mem_cons.mp z with z | z
      · rw [← z] at hm; exact absurd hm (by simp)
      · exact hn z
theorem DaAll.reads (hS : SysK X.K) (I : Inv X pins σ H s) : ∀ {vs : List V} {ds : List PyData}, DaAll X.K H vs ds → ∀ us, Vals vs us → ∃ as, ReadsAll s.heap us ds as ∧ sysModules ∉ as
  | _, _, .nil, us, r => by cases r; exact ⟨_, .nil, fun z => nomatch z⟩
  | _, _, .cons h t, us, r => by
    cases r with
    | cons r1 r2 =>
      obtain ⟨as, q1, n1⟩ := Da.reads hS I h _ r1
      obtain ⟨bs, q2, n2⟩ := DaAll.reads hS I t _ r2
      exact ⟨_, .cons q1 q2, fun z => (List.mem_append.mp z).elim n1 n2⟩
end
end
/-- repr(v) of data -/
def rRepr (K : PySem.W.Frag) : List V → Hp → VK → Prop := fun xs H Q => ∃ (v : V) (d : PyData), xs = [v] ∧ Da K H v d ∧ d.showable = true ∧ d.shown.length ≤ sizeLine ∧ d.depth ≤ 60 ∧ Q (.str d.shown) H
theorem call_reprD {X : Cx} {k : Nat} (hS : SysK X.K) (hG : NoG X.A) (hr : Room k X.A) : CallR X (.builtin "repr") (rRepr X.K) := by
  intro pins s σ H xs us Q I r h
  obtain ⟨v, d, rfl, hd, hsh, hz, hdp, q⟩ := h
  obtain ⟨u, rfl, ru⟩ := vals1 r
  obtain ⟨as, hrd, hn⟩ := Da.reads hS I hd u ru
  have hu := hr.un
  cases hd with
  | non => cases ru; exact P.repr_of_none ⟨.str _, H, I.tok _, ⟨_, rfl⟩, q⟩
  | bl b => cases ru; exact P.repr_of_bool ⟨.str _, H, I.tok _, ⟨_, rfl⟩, q⟩
  | int i => obtain ⟨t, rfl⟩ := ru; exact P.repr_of_int (by simpa [PyData.showable] using hsh) ⟨.str _, H, I.tok _, ⟨_, rfl⟩, q⟩
  | str x => obtain ⟨t, rfl⟩ := ru; exact P.repr_of_str ⟨.str _, H, I.tok _, ⟨_, rfl⟩, q⟩ (by simpa only [PyData.shown] using hz)
  | lst _ _ => cases ru; exact repr_of_reads' hrd hsh (fun _ => hn) hG (by omega) (fun _ _ e => e) (fun h' u tk hk => ⟨.str _, H, I.kept hk, ⟨_, rfl⟩, q⟩) hz
  | tup _ _ => cases ru; exact repr_of_reads' hrd hsh (fun _ => hn) hG (by omega) (fun _ _ e => e) (fun h' u tk hk => ⟨.str _, H, I.kept hk, ⟨_, rfl⟩, q⟩) hz
  | dict _ _ => cases ru; exact repr_of_reads' hrd hsh (fun _ => hn) hG (by omega) (fun _ _ e => e) (fun h' u tk hk => ⟨.str _, H, I.kept hk, ⟨_, rfl⟩, q⟩) hz
end MT

namespace MT
open PySem PySem.Spec PyProof.Rows L2 PySem.MEX
/-! ### the errors' facts as one Bool over the written part -/
def errClsB (K : PySem.W.Frag) (C : Addr) : Bool := match K.lookup C with
  | some ⟨.type "type", _, .cls cd, sl⟩ => (match cd.mro, sl.toList with
    | .ref C' :: bm, [_, _, _, _, some (.builtin n), _] => decide (C' = C) && (decide (n = "ValueError.__new__") && (!cd.hasDel && (cd.hasDict && HandSPX.refsVE bm)))
    | _, _ => false)
  | _ => false
theorem errCls_ok {K : PySem.W.Frag} {C : Addr} (h : errClsB K C = true) : ∃ nm q N bs bm sn sub ab col dd k0 k1 k2 k3 k5, K.lookup C = some (excClassObj nm q C N bs bm true sn sub ab col dd k0 k1 k2 k3 k5 "ValueError.__new__") ∧ HandSPX.refsVE bm = true := by
  unfold errClsB at h
  split at h
  · rename_i dd cd sl ho
    split at h
    · rename_i C2 bm k0 k1 k2 k3 n k5 hm hs
      obtain ⟨h1, h⟩ := He.ba h
      obtain ⟨h2, h⟩ := He.ba h
      obtain ⟨h3, h⟩ := He.ba h
      obtain ⟨h4, h5⟩ := He.ba h
      have e1 := of_decide_eq_true h1
      have e2 := of_decide_eq_true h2
      subst e1 e2
      obtain ⟨nm, bs, mro, ns, qn, hd, sn, sub, ab, col, del⟩ := cd
      dsimp only at hm h3 h4
      have h3' : del = false := by cases del <;> first | rfl | cases h3
      subst hm h3' h4
      have hsl : sl = #[k0, k1, k2, k3, some (.builtin "ValueError.__new__"), k5] := by
        obtain ⟨l⟩ := sl
        have hs2 : l = [k0, k1, k2, k3, some (.builtin "ValueError.__new__"), k5] := hs
        rw [hs2]
      subst hsl
      exact ⟨nm, qn, ns, bs, bm, sn, sub, ab, col, dd, k0, k1, k2, k3, k5, ho, h5⟩
    · cases h
  · cases h
def mE : Str := "MeetError"
def atD (K : PySem.W.Frag) : Addr := He.ga K mE
def atI0 (K : PySem.W.Frag) : Addr := He.ma K (atD K) "__init__"
def errB (K : PySem.W.Frag) (x : Str) : Bool := errClsB K (He.ga K x) && (He.eqO (PySem.W.findIn K (.ref (He.ga K x)) "__setattr__") (some (some (.builtin "object.__setattr__"))) &&
  (He.eqO (PySem.W.findIn K (.ref (He.ga K x)) "__getattribute__") (some (some (.builtin "BaseException.__getattribute__"))) && (He.eqO (PySem.W.findIn K (.ref (He.ga K x)) "__getattr__") (some none) &&
  (He.eqO (PySem.W.findIn K (.ref (He.ga K x)) "value") (some none) && (He.eqO (PySem.W.findIn K (.ref (He.ga K x)) "__init__") (some (some (.ref (atI0 K)))) && (PySem.W.keepIn K (.ref (He.ga K x)) &&
  (decide (PySem.W.subIn K (.ref (He.ga K x)) (.type "BaseException") = some true) && (decide (PySem.W.subIn K (.ref (He.ga K x)) (.type "ValueError") = some true) && (decide (PySem.W.typeIn K (.ref (He.ga K x)) = some (.type "type")) &&
  (PySem.W.hasDictIn K (He.ga K x) && (He.eqO (PySem.W.ks_superIn K (He.ga K x) (atD K) "__init__") (some (some (.builtin "ValueError.__init__"))) && (decide (PySem.W.mroIn K (He.ga K x) (.ref (atD K)) = some true) &&
  (He.eqO (PySem.W.findIn K (.ref (He.ga K x)) "__class__") (some (some (.builtin "object.__class__"))) && (He.eqO (PySem.W.specialIn K (.builtin "object.__class__") "__get__") (some (some (.builtin "getset_descriptor.__get__"))) &&
  (decide (PySem.W.takesIn K (.builtin "object.__class__") = some true) && decide (PySem.W.mroIn K (He.ga K x) (.type "object") = some true))))))))))))))))
theorem err_ok {K : PySem.W.Frag} {x : Str} (h : errB K x = true) : ErrTxt K (atD K) (atI0 K) (He.ga K x) ∧ ExcC K (He.ga K x) := by
  obtain ⟨c1, h⟩ := He.ba h
  obtain ⟨c2, h⟩ := He.ba h
  obtain ⟨c3, h⟩ := He.ba h
  obtain ⟨c4, h⟩ := He.ba h
  obtain ⟨c5, h⟩ := He.ba h
  obtain ⟨c6, h⟩ := He.ba h
  obtain ⟨c7, h⟩ := He.ba h
  obtain ⟨c8, h⟩ := He.ba h
  obtain ⟨c9, h⟩ := He.ba h
  obtain ⟨c10, h⟩ := He.ba h
  obtain ⟨c11, h⟩ := He.ba h
  obtain ⟨c12, h⟩ := He.ba h
  obtain ⟨c13, h⟩ := He.ba h
  obtain ⟨c14, h⟩ := He.ba h
  obtain ⟨c15, h⟩ := He.ba h
  obtain ⟨c16, c17⟩ := He.ba h
  exact ⟨⟨errCls_ok c1, He.eqO_ok c2, He.eqO_ok c3, He.eqO_ok c4, He.eqO_ok c5, He.eqO_ok c6, c7, of_decide_eq_true c8, of_decide_eq_true c9, of_decide_eq_true c10, c11, He.eqO_ok c12, of_decide_eq_true c13⟩,
    ⟨He.eqO_ok c3, He.eqO_ok c4, of_decide_eq_true c8, c11, He.eqO_ok c14, He.eqO_ok c15, of_decide_eq_true c16, of_decide_eq_true c17⟩⟩
/-- isinstance of an error, by the classes' names -/
def kitE (K : PySem.W.Frag) (x y : Str) : Bool := decide (PySem.W.kitOne K (.ref (He.ga K x)) (.ref (He.ga K y)) = some (decide (y = x) || decide (y = mE)))
def kitV (K : PySem.W.Frag) (x : Str) : Bool := decide (PySem.W.kitOne K (.ref (He.ga K x)) (.type "ValueError") = some true)
def sysB (K : PySem.W.Frag) : Bool := match K.lookup sysModules with
  | some ⟨.type c, _, _, _⟩ => decide (c = "dict")
  | _ => false
theorem sys_ok {K : PySem.W.Frag} (h : sysB K = true) : SysK K := by
  unfold sysB at h
  split at h
  · rename_i c d dt sl ho
    exact ⟨_, ho, congrArg Value.type (of_decide_eq_true h)⟩
  · cases h
def initB (p : Program) (K : PySem.W.Frag) : Bool := decide (PySem.W.typeIn K (.ref (atI0 K)) = some (.type "function")) && (He.eqO (PySem.W.nsIn K cStatics "thirdparty.any") (some none) && (He.eqO (PySem.W.nsIn K mainGlobals "super") (some none) &&
  (!(p.main.scope.names.lookup ("super" : Str)).isSome && ((PySem.W.clsIn K (atD K)).isSome && (match K.lookup (atI0 K) with
  | some ⟨_, _, .func fd, _⟩ => (match fd.closure, fd.code, fd.defaults with
    | [(nm, cc)], .ref cda, .none => decide (nm = "__class__") && (PySem.W.codeIn K (.ref cda) "MeetError.__init__" && ((match K.lookup cc with
      | some ⟨_, _, .cell (some (.ref D)), _⟩ => decide (D = atD K)
      | _ => false) && (match K.lookup cda with
      | some ⟨_, _, .fields vs, _⟩ => (match (vs[2]? : Option Value) with
        | some (Value.str file _) => (p.main.file : Str) == file
        | _ => false)
      | _ => false)))
    | _, _, _ => false)
  | _ => false)))))
abbrev FnI : Type := Option (Str × Str × Arguments × FuncBody × Scope × Addr × Addr)
def fnI (K : PySem.W.Frag) (f : Addr) : FnI := match K.lookup f with
  | some ⟨_, _, .func fd, _⟩ => some (fd.name, fd.qualname, fd.params, fd.body, fd.scope, fd.globals, fd.builtins)
  | _ => none
def fnIv (k : Nat) : FnI := some ("__init__", "MeetError.__init__", iA k, .stmts (iB k), iS, mainGlobals, builtinsNs)
theorem init_ok {p : Program} {K : PySem.W.Frag} {k : Nat} (hk : k = 0 ∨ k = 3) (h : initB p K = true) (e : fnI K (atI0 K) = fnIv k) : InitTxt p K (atD K) (atI0 K) := by
  obtain ⟨c1, h⟩ := He.ba h
  obtain ⟨c2, h⟩ := He.ba h
  obtain ⟨c3, h⟩ := He.ba h
  obtain ⟨c4, h⟩ := He.ba h
  obtain ⟨c5, h⟩ := He.ba h
  unfold fnI at e
  split at h
  · rename_i oc od fd osl ho
    rw [ho] at e
    split at h
    · rename_i nm cc cda h1 h2 h3
      obtain ⟨d1, h⟩ := He.ba h
      obtain ⟨d2, h⟩ := He.ba h
      obtain ⟨d3, d4⟩ := He.ba h
      have en := of_decide_eq_true d1
      obtain ⟨n1, n2, n3, n4, n5, n6, n7, n8, n9, n10, n11, n12, n13, n14, n15⟩ := fd
      dsimp only at h1 h2 h3
      have e2 : (some (n1, n2, n3, n4, n5, n6, n15) : FnI) = (some (("__init__" : Str), ("MeetError.__init__" : Str), iA k, FuncBody.stmts (iB k), iS, mainGlobals, builtinsNs) : FnI) := e
      simp only [Option.some.injEq, Prod.mk.injEq] at e2
      obtain ⟨z1, z2, z3, z4, z5, z6, z7⟩ := e2
      subst z1 z2 z3 z4 z5 z6 z7 h1 h2 h3 en
      refine ⟨of_decide_eq_true c1, He.eqO_ok c2, He.eqO_ok c3, by simpa using c4, Option.isSome_iff_exists.mp c5, oc, od, n9, n10, n11, n12, cda, cc, n14, osl, k, hk, ho, d2, ?_, ?_⟩
      · split at d4
        · rename_i a1 a2 vs a3 hc
          split at d4
          · rename_i file tf hv
            exact ⟨a1, a2, vs, a3, file, tf, hc, hv, d4⟩
          · cases d4
        · cases d4
      · split at d3
        · rename_i a1 a2 D a3 hc
          have eD := of_decide_eq_true d3
          subst eD
          exact ⟨a1, a2, a3, hc⟩
        · cases d3
    · cases h
  · cases h
/-- an own plain class: isinstance of its instances; no own __ne__ -/
def insB (K : PySem.W.Frag) (c : Str) : Bool := He.eqO (PySem.W.findIn K (.ref (He.ga K c)) "__class__") (some (some (.builtin "object.__class__"))) && (He.eqO (PySem.W.specialIn K (.builtin "object.__class__") "__get__") (some (some (.builtin "getset_descriptor.__get__"))) &&
  (decide (PySem.W.takesIn K (.builtin "object.__class__") = some true) && (decide (PySem.W.mroIn K (He.ga K c) (.type "object") = some true) && He.eqO (PySem.W.findIn K (.ref (He.ga K c)) "__ne__") (some (some (.builtin "object.__ne__"))))))
def isxB (K : PySem.W.Frag) (es cs : List Str) : Bool := ((es ++ cs).all fun y => (["NoneType", "bool", "int", "str", "list", "tuple", "dict"] : List String).all fun n => decide (PySem.W.kitOne K (.type n) (.ref (He.ga K y)) = some false)) &&
  ((cs.all fun c => cs.all fun y => decide (PySem.W.kitOne K (.ref (He.ga K c)) (.ref (He.ga K y)) = some (decide (y = c)))) && cs.all fun c => insB K c)
/-! ### the Hook: defs, facts, one more Bool, the errors' __init__ -/
abbrev AlM : Type := He.AlD × Bool × FnI
def asM (g : Addr → Option Obj) (n : Nat) : List Addr := sysModules :: cStatics :: He.asD g n
def obsM (n : Nat) (fa : List He.Fa) (fn : List He.DefD) (ex : PySem.W.Frag → Bool) (g : Addr → Option Obj) : AlM := let K := He.frG g (asM g n); (He.obsD fa fn K, ex K, fnI K (atI0 K))
def SaysM (fa : List He.Fa) (fn : List He.DefD) (ex : PySem.W.Frag → Bool) (iv : FnI) (K : PySem.W.Frag) : Prop := He.SaysD fa fn K ∧ ex K = true ∧ fnI K (atI0 K) = iv
def hookM (n : Nat) (fa : List He.Fa) (fn : List He.DefD) (ex : PySem.W.Frag → Bool) (iv : FnI) : PySem.W.Hook where
  α := AlM
  obs := fun s => obsM n fa fn ex s.heap.get?
  val := fun _ => (He.valD fn, true, iv)
  says := fun _ h => ∃ K : PySem.W.Frag, K.In h ∧ SaysM fa fn ex iv K
  of := fun _ s e => ⟨_, He.frG_in, congrArg (fun z : AlM => z.1) e, congrArg (fun z : AlM => z.2.1) e, congrArg (fun z : AlM => z.2.2) e⟩
  keeps := fun _ _ _ ⟨K, hK, c⟩ k => ⟨K, PySem.W.Frag.In.keeps hK k, c⟩
theorem obsM_eq {n : Nat} {fa : List He.Fa} {fn : List He.DefD} {ex : PySem.W.Frag → Bool} {iv : FnI} {g : Addr → Option Obj} {s : Shared} (h : ∀ a, g a = s.heap.get? a) : obsM n fa fn ex g = (hookM n fa fn ex iv).obs s := by
  have e : g = s.heap.get? := funext h
  rw [e]; rfl
end MT

namespace MT
open PySem PySem.Spec PyProof.Rows L2 PySem.MEX
/-! ### properties: where they stand, their getters -/
def prA (K : PySem.W.Frag) (c m : Str) : Addr := He.ma K (He.ga K c) m
def gtA (K : PySem.W.Frag) (c m : Str) : Addr := match PySem.W.recIn K (prA K c m) "property" with
  | some (.ref g :: _) => g
  | _ => 0
structure PropD where
  c : Str
  m : Str
  qual : Str
  params : Arguments
  body : List Stmt
  scope : Scope
def PropD.val (d : PropD) : He.FnW := some (d.m, d.qual, d.params, .stmts d.body, d.scope, mainGlobals, [], builtinsNs)
def gtW (K : PySem.W.Frag) (c m : Str) : He.FnW := match K.lookup (gtA K c m) with
  | some ⟨_, _, .func fd, _⟩ => some (fd.name, fd.qualname, fd.params, fd.body, fd.scope, fd.globals, fd.closure, fd.builtins)
  | _ => none
def PropD.ok (K : PySem.W.Frag) (d : PropD) : Bool := PySem.W.keepIn K (.ref (gtA K d.c d.m)) && ((match K.lookup (gtA K d.c d.m) with
  | some ⟨_, _, .func fd, _⟩ => PySem.W.codeIn K fd.code d.qual && (He.dflB K fd.defaults [] && He.kwdB K fd.kwdefaults [])
  | _ => false) && (He.eqO (PySem.W.findIn K (.ref (He.ga K d.c)) d.m) (some (some (.ref (prA K d.c d.m)))) && (He.eqO (PySem.W.specialIn K (.ref (prA K d.c d.m)) "__get__") (some (some (.builtin "property.__get__"))) &&
  (decide (PySem.W.takesIn K (.ref (prA K d.c d.m)) = some true) && (match PySem.W.recIn K (prA K d.c d.m) "property" with
  | some (.ref _ :: _) => true
  | _ => false)))))
theorem PropD.prop {K : PySem.W.Frag} {d : PropD} (c : d.ok K = true) : PropOf K (He.ga K d.c) d.m (prA K d.c d.m) (gtA K d.c d.m) := by
  obtain ⟨_, c⟩ := He.ba c
  obtain ⟨_, c⟩ := He.ba c
  obtain ⟨c1, c⟩ := He.ba c
  obtain ⟨c2, c⟩ := He.ba c
  obtain ⟨c3, c4⟩ := He.ba c
  refine ⟨He.eqO_ok c1, He.eqO_ok c2, of_decide_eq_true c3, ?_⟩
  split at c4
  · rename_i g r hr
    have e : gtA K d.c d.m = g := by unfold gtA; rw [hr]
    rw [e]
    exact ⟨r, hr⟩
  · cases c4
theorem PropD.funD {K : PySem.W.Frag} {d : PropD} (e : gtW K d.c d.m = d.val) (c : d.ok K = true) : ∃ fd, FunD K d.m d.qual d.params d.body d.scope [] [] (gtA K d.c d.m) fd := by
  obtain ⟨kp, c⟩ := He.ba c
  obtain ⟨c2, _⟩ := He.ba c
  unfold gtW at e
  cases q : K.lookup (gtA K d.c d.m) with
  | none => rw [q] at c2; cases c2
  | some o =>
    obtain ⟨oc, od, dt, osl⟩ := o
    rw [q] at c2 e
    cases dt with
    | func fd =>
      obtain ⟨n1, n2, n3, n4, n5, n6, n7, n8, n9, n10, n11, n12, n13, n14, n15⟩ := fd
      have e2 : (some (n1, n2, n3, n4, n5, n6, n7, n15) : He.FnW) = some (d.m, d.qual, d.params, .stmts d.body, d.scope, mainGlobals, [], builtinsNs) := e
      simp only [Option.some.injEq, Prod.mk.injEq] at e2
      obtain ⟨h1, h2, h3, h4, h5, h6, h7, h8⟩ := e2
      subst h1 h2 h3 h4 h5 h6 h7 h8
      have c3 : (PySem.W.codeIn K n13 d.qual && (He.dflB K n8 [] && He.kwdB K n9 [])) = true := c2
      obtain ⟨k1, k2⟩ := He.ba c3
      obtain ⟨k3, k4⟩ := He.ba k2
      exact ⟨_, ⟨oc, od, n8, n9, n10, n11, n12, n13, n14, osl, rfl, q, k1, He.dflB_ok k3, He.kwdB_ok k4⟩, kp⟩
    | _ => cases c2
/-- the i-th default of a def is the empty tuple -/
def nilB (K : PySem.W.Frag) (a : Addr) : Bool := match K.lookup a with
  | some ⟨.type c, none, .seq its _, _⟩ => decide (c = "tuple") && decide (its.toList = [])
  | _ => false
/-! ### the Hook: defs, facts, getters, one more Bool, the errors' __init__ -/
abbrev AlP : Type := He.AlD × Bool × FnI × List He.FnW × List (Option (List (Option (Str × Int))))
def obsP (n : Nat) (fa : List He.Fa) (fn : List He.DefD) (pn : List PropD) (ts : List He.Tab) (tf : List He.Defn) (ex : PySem.W.Frag → Bool) (g : Addr → Option Obj) : AlP := let K := He.frT g (asM g n); (He.obsD fa fn K, ex K && (pn.all (fun d => d.ok K) && He.tabsB g tf K), fnI K (atI0 K), pn.map (fun d => gtW K d.c d.m), ts.map fun t => He.dicW K (t.1 K))
structure SaysP (fa : List He.Fa) (fn : List He.DefD) (pn : List PropD) (ts : List He.Tab) (ex : PySem.W.Frag → Bool) (iv : FnI) (w : World) (K : PySem.W.Frag) : Prop where
  df : He.SaysD fa fn K
  ex : ex K = true
  iv : fnI K (atI0 K) = iv
  pr : ∀ d ∈ pn, d.ok K = true
  pw : pn.map (fun d => gtW K d.c d.m) = pn.map PropD.val
  tb : ts.map (fun t => He.dicW K (t.1 K)) = ts.map fun t => some (He.keysIn w.params t.2)
/-- the defs' tables: empty, not in K -/
structure TabH (tf : List He.Defn) (h : Heap) (K : PySem.W.Frag) : Prop where
  hd : ∀ p ∈ tf, PySem.W.codeHdIn K (He.cT K p).1 (He.cT K p).2 = true
  out : ∀ p ∈ tf, K.lookup (He.cT K p).2 = none
  emp : ∀ p ∈ tf, h.get? (He.cT K p).2 = some { cls := .none, data := .fields #[] }
theorem tabH_of {tf : List He.Defn} {h : Heap} {as : List Addr} (e : He.tabsB h.get? tf (He.frT h.get? as) = true) : TabH tf h (He.frT h.get? as) := by
  have key : ∀ p ∈ tf, PySem.W.codeHdIn (He.frT h.get? as) (He.cT (He.frT h.get? as) p).1 (He.cT (He.frT h.get? as) p).2 = true ∧ ∃ o, h.get? (He.cT (He.frT h.get? as) p).2 = some o ∧ He.emptyTab o = true := fun p hp => by
    obtain ⟨a, b⟩ := He.ba (List.all_eq_true.mp e p hp)
    refine ⟨a, ?_⟩
    split at b
    · rename_i o q; exact ⟨o, q, b⟩
    · cases b
  refine ⟨fun p hp => (key p hp).1, fun p hp => ?_, fun p hp => ?_⟩
  · obtain ⟨_, o, q, z⟩ := key p hp
    exact He.frT_none q z
  · obtain ⟨_, o, q, z⟩ := key p hp
    rw [q, He.emptyTab_eq z]
def hookP (n : Nat) (fa : List He.Fa) (fn : List He.DefD) (pn : List PropD) (ts : List He.Tab) (tf : List He.Defn) (ex : PySem.W.Frag → Bool) (iv : FnI) : PySem.W.Hook where
  α := AlP
  obs := fun s => obsP n fa fn pn ts tf ex s.heap.get?
  val := fun w => (He.valD fn, true, iv, pn.map PropD.val, ts.map fun t => some (He.keysIn w.params t.2))
  says := fun w h => ∃ K : PySem.W.Frag, K.In h ∧ SaysP fa fn pn ts ex iv w K ∧ TabH tf h K
  of := fun _ s e => by
    have e2 := He.ba (congrArg (fun z : AlP => z.2.1) e)
    have e3 := He.ba e2.2
    exact ⟨_, He.frT_in, ⟨congrArg (fun z : AlP => z.1) e, e2.1, congrArg (fun z : AlP => z.2.2.1) e, List.all_eq_true.mp e3.1, congrArg (fun z : AlP => z.2.2.2.1) e, congrArg (fun z : AlP => z.2.2.2.2) e⟩, tabH_of e3.2⟩
  keeps := fun _ _ _ ⟨K, hK, c, th⟩ k => ⟨K, PySem.W.Frag.In.keeps hK k, c, th.hd, th.out, fun p hp => k _ _ (th.emp p hp)⟩
theorem obsP_eq {n : Nat} {fa : List He.Fa} {fn : List He.DefD} {pn : List PropD} {ts : List He.Tab} {tf : List He.Defn} {ex : PySem.W.Frag → Bool} {iv : FnI} {g : Addr → Option Obj} {s : Shared} (h : ∀ a, g a = s.heap.get? a) : obsP n fa fn pn ts tf ex g = (hookP n fa fn pn ts tf ex iv).obs s := by
  have e : g = s.heap.get? := funext h
  rw [e]; rfl
theorem SaysP.getter {fa : List He.Fa} {fn : List He.DefD} {pn : List PropD} {ts : List He.Tab} {ex : PySem.W.Frag → Bool} {iv : FnI} {w : World} {K : PySem.W.Frag} (c : SaysP fa fn pn ts ex iv w K) (i : Nat) {d : PropD} (h : pn[i]? = some d := by rfl) :
    PropOf K (He.ga K d.c) d.m (prA K d.c d.m) (gtA K d.c d.m) ∧ ∃ fd, FunD K d.m d.qual d.params d.body d.scope [] [] (gtA K d.c d.m) fd := by
  have m := List.mem_of_getElem? h
  have e2 : (pn.map fun d => gtW K d.c d.m)[i]? = (pn.map PropD.val)[i]? := by rw [c.pw]
  rw [List.getElem?_map, List.getElem?_map, h] at e2
  exact ⟨PropD.prop (c.pr d m), PropD.funD (Option.some.inj e2) (c.pr d m)⟩
/-- a table of texts -/
def TabK (K : PySem.W.Frag) (w : World) (a : Addr) (kvs : List (Str × Str)) : Prop := ∀ q ∈ kvs, KDct K w a q.1 (.str q.2)
def tabV (kvs : List (Str × Str)) : List (Str × He.Dv) := kvs.map fun q => (q.1, .str q.2)
theorem SaysP.tab {fa : List He.Fa} {fn : List He.DefD} {pn : List PropD} {ts : List He.Tab} {ex : PySem.W.Frag → Bool} {iv : FnI} {w : World} {K : PySem.W.Frag} (c : SaysP fa fn pn ts ex iv w K) (i : Nat) {t : He.Tab} {kvs : List (Str × Str)} (h : ts[i]? = some t) (hv : He.valsB K (t.1 K) (tabV kvs) = true) : TabK K w (t.1 K) kvs := by
  have e2 : (ts.map fun t => He.dicW K (t.1 K))[i]? = (ts.map fun t => some (He.keysIn w.params t.2))[i]? := by rw [c.tb]
  rw [List.getElem?_map, List.getElem?_map, h] at e2
  obtain ⟨es, n, k1, k2, k3⟩ := He.dicW_ok (Option.some.inj e2)
  intro q hq
  obtain ⟨u, h1, h2⟩ := He.valsB_ok hv (q := (q.1, .str q.2)) (List.mem_map.mpr ⟨q, hq, rfl⟩)
  exact ⟨es, n, u, k1, k2, h1, h2⟩
end MT

namespace MT
open PySem PySem.Spec PyProof.Rows L2 LamX
/-! ### tables of code objects: one for each def with a lambda -/
def lamDefs : List ((Str × Option Str) × Str) := [(("_law_is_refused", none), "_law_is_refused.<locals>.<lambda>"), (("_law_is_let", none), "_law_is_let.<locals>.<lambda>")]
/-- the code object of a def; its table -/
def codA (K : PySem.W.Frag) (f : Str × Option Str) : Addr := (He.cT K f).1
def tabA (K : PySem.W.Frag) (f : Str × Option Str) : Addr := (He.cT K f).2
def TabL (K : PySem.W.Frag) : List (Addr × Str) := lamDefs.map fun q => (tabA K q.1, q.2)
abbrev LamT (K : PySem.W.Frag) (H : Hp) : Prop := Tabs (TabL K) H
/-- what the makers of lambdas know of their code objects and tables -/
def TBs (K : PySem.W.Frag) (mg : Str → Option Value) (base : Heap) : Prop := ∀ q ∈ lamDefs, TabB base mg (codA K q.1) (tabA K q.1)
def nodB : List Addr → Bool
  | [] => true
  | a :: r => !r.contains a && nodB r
def ndT (K : PySem.W.Frag) : Bool := nodB (lamDefs.map fun q => tabA K q.1)
theorem nodB_uniq {α : Type} {f : α → Addr} : ∀ {l : List α} {x y : α}, nodB (l.map f) = true → x ∈ l → y ∈ l → f x = f y → x = y
  | [], _, _, _, hx, _, _ => by cases hx
  | z :: r, x, y, h, hx, hy, e => by
    have h : (!(r.map f).contains (f z) && nodB (r.map f)) = true := h
    rw [Bool.and_eq_true, Bool.not_eq_true', List.contains_eq_mem, decide_eq_false_iff_not] at h
    rcases List.mem_cons.mp hx with e1 | h1
    · rcases List.mem_cons.mp hy with e2 | h2
      · exact e1.trans e2.symm
      · exact absurd (List.mem_map.mpr ⟨y, h2, e.symm.trans (congrArg f e1)⟩) h.1
    · rcases List.mem_cons.mp hy with e2 | h2
      · exact absurd (List.mem_map.mpr ⟨x, h1, e.trans (congrArg f e2)⟩) h.1
      · exact nodB_uniq h.2 h1 h2 e
theorem tab_uniq {K : PySem.W.Frag} {q : (Str × Option Str) × Str} (h : ndT K = true) (hq : q ∈ lamDefs) : ∀ p ∈ TabL K, p.1 = tabA K q.1 → p.2 = q.2 := fun p hp e => by
  obtain ⟨u, hu, rfl⟩ := List.mem_map.mp hp
  rw [nodB_uniq (f := fun q : (Str × Option Str) × Str => tabA K q.1) h hu hq e]
theorem tab_mem {K : PySem.W.Frag} {q : (Str × Option Str) × Str} (hq : q ∈ lamDefs) : (tabA K q.1, q.2) ∈ TabL K := List.mem_map.mpr ⟨q, hq, rfl⟩
/-- without the tables -/
def noT (H : Hp) : Hp := fun b => match H b with
  | some (.tbl _) => none
  | o => o
theorem noT_of {H : Hp} {b : Addr} {o : HO} (h : H b = some o) (n : ∀ ps, o ≠ .tbl ps) : noT H b = some o := by
  unfold noT
  rw [h]
  cases o with
  | tbl ps => exact absurd rfl (n ps)
  | _ => rfl
theorem noT_to {H : Hp} {b : Addr} {o : HO} (h : noT H b = some o) : H b = some o ∧ ∀ ps, o ≠ .tbl ps := by
  unfold noT at h
  split at h
  · cases h
  · rename_i n
    exact ⟨h, fun ps z => n ps (by rw [h, z])⟩
theorem noT_same {H : Hp} : Same (noT H) H := fun b o h => (noT_to h).1
theorem noT_none {H : Hp} {b : Addr} (h : H b = none) : noT H b = none := by
  unfold noT
  rw [h]
theorem tabs_updN {K : PySem.W.Frag} {H : Hp} {p : Addr} {o u : HO} (t : MT.LamT K H) (h : H p = some o) (n : ∀ ps, o ≠ .tbl ps) (m : ∀ f, o ≠ .ext f) : MT.LamT K (upd H p u) := fun q hq => by
  obtain ⟨ps, h1, h2, h3⟩ := t q hq
  have np : ∀ b x, H b = some x → x ≠ o → upd H p u b = some x := fun b x hb ne => by
    have : b ≠ p := fun e => ne (by rw [e, h] at hb; exact (Option.some.inj hb).symm)
    rw [upd_ne this]; exact hb
  refine ⟨ps, np _ _ h1 fun z => n ps z.symm, h2, fun pos cv hc => ?_⟩
  obtain ⟨c, e1, e2⟩ := h3 pos cv hc
  exact ⟨c, e1, np _ _ e2 fun z => m _ z.symm⟩
end MT

section
namespace Q
open PySem PySem.Spec PyProof.Rows L2 MT
def top (i : Nat) : Stmt := PySem.Challenge.pw_metonce_k03_bounds_of_halls.main.body.getD i (.Pass ⟨0, 0, 0, 0⟩)
abbrev s_is_word : Stmt := (top 9)
abbrev N_is_word : List Str := ["value", "words"]
theorem sc_is_word : FnScope N_is_word ["value", "words"] (defScope s_is_word) := ⟨rfl, rfl, rfl, by decide +kernel, rfl, by decide +kernel, by decide +kernel⟩
abbrev s_is_made_of : Stmt := (top 10)
abbrev N_is_made_of : List Str := ["word", "signs", "sign"]
theorem sc_is_made_of : FnScope N_is_made_of ["word", "signs"] (defScope s_is_made_of) := ⟨rfl, rfl, rfl, by decide +kernel, rfl, by decide +kernel, by decide +kernel⟩
abbrev s_is_name : Stmt := (top 11)
abbrev N_is_name : List Str := ["word"]
theorem sc_is_name : FnScope N_is_name ["word"] (defScope s_is_name) := ⟨rfl, rfl, rfl, by decide +kernel, rfl, by decide +kernel, by decide +kernel⟩
abbrev s_are_unlike : Stmt := (top 12)
abbrev N_are_unlike : List Str := ["some", "number", "one"]
theorem sc_are_unlike : FnScope N_are_unlike ["some"] (defScope s_are_unlike) := ⟨rfl, rfl, rfl, by decide +kernel, rfl, by decide +kernel, by decide +kernel⟩
abbrev s_people_in : Stmt := (top 22)
abbrev N_people_in : List Str := ["line", "words", "names", "name"]
theorem sc_people_in : FnScope N_people_in ["line"] (defScope s_people_in) := ⟨rfl, rfl, rfl, by decide +kernel, rfl, by decide +kernel, by decide +kernel⟩
abbrev s_some_in : Stmt := (top 23)
abbrev N_some_in : List Str := ["words", "people", "names", "name"]
theorem sc_some_in : FnScope N_some_in ["words", "people"] (defScope s_some_in) := ⟨rfl, rfl, rfl, by decide +kernel, rfl, by decide +kernel, by decide +kernel⟩
abbrev s_Reading__init : Stmt := (inClass (top 24) 0)
abbrev N_Reading__init : List Str := ["self", "people"]
theorem sc_Reading__init : FnScope N_Reading__init ["self", "people"] (defScope s_Reading__init) := ⟨rfl, rfl, rfl, by decide +kernel, rfl, by decide +kernel, by decide +kernel⟩
abbrev s_Reading_put : Stmt := (inClass (top 24) 1)
abbrev N_Reading_put : List Str := ["self", "one", "other", "word"]
theorem sc_Reading_put : FnScope N_Reading_put ["self", "one", "other", "word"] (defScope s_Reading_put) := ⟨rfl, rfl, rfl, by decide +kernel, rfl, by decide +kernel, by decide +kernel⟩
abbrev s_Reading_take : Stmt := (inClass (top 24) 2)
abbrev N_Reading_take : List Str := ["self", "line", "words", "number", "one", "other"]
theorem sc_Reading_take : FnScope N_Reading_take ["self", "line"] (defScope s_Reading_take) := ⟨rfl, rfl, rfl, by decide +kernel, rfl, by decide +kernel, by decide +kernel⟩
abbrev s_read : Stmt := (top 25)
abbrev N_read : List Str := ["text", "lines", "people", "found", "number", "line"]
theorem sc_read : FnScope N_read ["text"] (defScope s_read) := ⟨rfl, rfl, rfl, by decide +kernel, rfl, by decide +kernel, by decide +kernel⟩
abbrev s_Hall__init : Stmt := (inClass (top 26) 0)
abbrev N_Hall__init : List Str := ["self", "text", "reading"]
theorem sc_Hall__init : FnScope N_Hall__init ["self", "text"] (defScope s_Hall__init) := ⟨rfl, rfl, rfl, by decide +kernel, rfl, by decide +kernel, by decide +kernel⟩
abbrev s_Hall_text : Stmt := (inClass (top 26) 1)
abbrev N_Hall_text : List Str := ["self"]
theorem sc_Hall_text : FnScope N_Hall_text ["self"] (defScope s_Hall_text) := ⟨rfl, rfl, rfl, by decide +kernel, rfl, by decide +kernel, by decide +kernel⟩
abbrev s_Hall_people : Stmt := (inClass (top 26) 2)
abbrev N_Hall_people : List Str := ["self"]
theorem sc_Hall_people : FnScope N_Hall_people ["self"] (defScope s_Hall_people) := ⟨rfl, rfl, rfl, by decide +kernel, rfl, by decide +kernel, by decide +kernel⟩
abbrev s_Hall__len : Stmt := (inClass (top 26) 6)
abbrev N_Hall__len : List Str := ["self"]
theorem sc_Hall__len : FnScope N_Hall__len ["self"] (defScope s_Hall__len) := ⟨rfl, rfl, rfl, by decide +kernel, rfl, by decide +kernel, by decide +kernel⟩
abbrev s_Hall__contains : Stmt := (inClass (top 26) 7)
abbrev N_Hall__contains : List Str := ["self", "value"]
theorem sc_Hall__contains : FnScope N_Hall__contains ["self", "value"] (defScope s_Hall__contains) := ⟨rfl, rfl, rfl, by decide +kernel, rfl, by decide +kernel, by decide +kernel⟩
abbrev s_Hall__eq : Stmt := (inClass (top 26) 8)
abbrev N_Hall__eq : List Str := ["self", "other"]
theorem sc_Hall__eq : FnScope N_Hall__eq ["self", "other"] (defScope s_Hall__eq) := ⟨rfl, rfl, rfl, by decide +kernel, rfl, by decide +kernel, by decide +kernel⟩
abbrev s_l_pot : Stmt := (top 28)
abbrev N_l_pot : List Str := ["_law_script", "_law_k", "_law_cell", "_law_own", "_law_small"]
theorem sc_l_pot : FnScope N_l_pot ["_law_script", "_law_k"] (defScope s_l_pot) := ⟨rfl, rfl, rfl, by decide +kernel, rfl, by decide +kernel, by decide +kernel⟩
abbrev s_l_take : Stmt := (top 29)
abbrev N_l_take : List Str := ["_law_pot_here", "_law_upto", "_law_digit", "_law_prime", "_law_blend"]
theorem sc_l_take : FnScope N_l_take ["_law_pot_here", "_law_upto"] (defScope s_l_take) := ⟨rfl, rfl, rfl, by decide +kernel, rfl, by decide +kernel, by decide +kernel⟩
abbrev s_l_some : Stmt := (top 30)
abbrev N_l_some : List Str := ["_law_pot_here", "_law_pool", "_law_amount", "_law_left", "_law_found", "_law_lap"]
theorem sc_l_some : FnScope N_l_some ["_law_pot_here", "_law_pool", "_law_amount"] (defScope s_l_some) := ⟨rfl, rfl, rfl, by decide +kernel, rfl, by decide +kernel, by decide +kernel⟩
abbrev s_l_places : Stmt := (top 31)
abbrev N_l_places : List Str := ["_law_script", "_law_most"]
theorem sc_l_places : FnScope N_l_places ["_law_script", "_law_most"] (defScope s_l_places) := ⟨rfl, rfl, rfl, by decide +kernel, rfl, by decide +kernel, by decide +kernel⟩
abbrev s_l_told : Stmt := (top 32)
abbrev N_l_told : List Str := ["_law_look", "_law_caught", "_law_back", "error"]
theorem sc_l_told : FnScope N_l_told ["_law_look"] (defScope s_l_told) := ⟨rfl, rfl, rfl, by decide +kernel, rfl, by decide +kernel, by decide +kernel⟩
abbrev s_l_names : Stmt := (top 33)
abbrev N_l_names : List Str := ["_law_pot_here", "_law_amount", "_law_pool"]
theorem sc_l_names : FnScope N_l_names ["_law_pot_here", "_law_amount"] (defScope s_l_names) := ⟨rfl, rfl, rfl, by decide +kernel, rfl, by decide +kernel, by decide +kernel⟩
abbrev s_l_pairs : Stmt := (top 34)
abbrev N_l_pairs : List Str := ["_law_people", "_law_found", "_law_at", "_law_one", "_law_other"]
theorem sc_l_pairs : FnScope N_l_pairs ["_law_people"] (defScope s_l_pairs) := ⟨rfl, rfl, rfl, by decide +kernel, rfl, by decide +kernel, by decide +kernel⟩
abbrev s_l_is_refused : Stmt := (top 35)
abbrev N_l_is_refused : List Str := ["_law_rows", "_law_number", "_law_caught"]
theorem sc_l_is_refused : FnScope N_l_is_refused ["_law_rows", "_law_number"] (defScope s_l_is_refused) := ⟨rfl, rfl, rfl, by decide +kernel, rfl, by decide +kernel, by decide +kernel⟩
abbrev s_l_is_let : Stmt := (top 36)
abbrev N_l_is_let : List Str := ["_law_rows", "_law_caught", "_law_hall"]
theorem sc_l_is_let : FnScope N_l_is_let ["_law_rows"] (defScope s_l_is_let) := ⟨rfl, rfl, rfl, by decide +kernel, rfl, by decide +kernel, by decide +kernel⟩
abbrev s_l_right : Stmt := (top 37)
abbrev N_l_right : List Str := ["_law_pot_here", "_law_names_here", "_law_head", "_law_pairs_here", "_law_met", "_law_one", "_law_other", "_law_opens", "_law_fine", "_law_rows", "_law_bad", "_law_line", "_law_number"]
theorem sc_l_right : FnScope N_l_right ["_law_pot_here"] (defScope s_l_right) := ⟨rfl, rfl, rfl, by decide +kernel, rfl, by decide +kernel, by decide +kernel⟩
abbrev s_law : Stmt := (top 38)
abbrev N_law : List Str := ["_law_script", "_law_place"]
theorem sc_law : FnScope N_law ["_law_script"] (defScope s_law) := ⟨rfl, rfl, rfl, by decide +kernel, rfl, by decide +kernel, by decide +kernel⟩
def d_is_word : He.DefD := ⟨("is_word", none), "is_word", "is_word", defArgs s_is_word, defBody s_is_word, defScope s_is_word, [], []⟩
def d_is_made_of : He.DefD := ⟨("is_made_of", none), "is_made_of", "is_made_of", defArgs s_is_made_of, defBody s_is_made_of, defScope s_is_made_of, [], []⟩
def d_is_name : He.DefD := ⟨("is_name", none), "is_name", "is_name", defArgs s_is_name, defBody s_is_name, defScope s_is_name, [], []⟩
def d_are_unlike : He.DefD := ⟨("are_unlike", none), "are_unlike", "are_unlike", defArgs s_are_unlike, defBody s_are_unlike, defScope s_are_unlike, [], []⟩
def d_people_in : He.DefD := ⟨("people_in", none), "people_in", "people_in", defArgs s_people_in, defBody s_people_in, defScope s_people_in, [], []⟩
def d_some_in : He.DefD := ⟨("some_in", none), "some_in", "some_in", defArgs s_some_in, defBody s_some_in, defScope s_some_in, [], []⟩
def d_Reading__init : He.DefD := ⟨("Reading", some "__init__"), "__init__", "Reading.__init__", defArgs s_Reading__init, defBody s_Reading__init, defScope s_Reading__init, [], []⟩
def d_Reading_put : He.DefD := ⟨("Reading", some "put"), "put", "Reading.put", defArgs s_Reading_put, defBody s_Reading_put, defScope s_Reading_put, [], []⟩
def d_Reading_take : He.DefD := ⟨("Reading", some "take"), "take", "Reading.take", defArgs s_Reading_take, defBody s_Reading_take, defScope s_Reading_take, [], []⟩
def d_read : He.DefD := ⟨("read", none), "read", "read", defArgs s_read, defBody s_read, defScope s_read, [], []⟩
def d_Hall__init : He.DefD := ⟨("Hall", some "__init__"), "__init__", "Hall.__init__", defArgs s_Hall__init, defBody s_Hall__init, defScope s_Hall__init, [], []⟩
def d_Hall__len : He.DefD := ⟨("Hall", some "__len__"), "__len__", "Hall.__len__", defArgs s_Hall__len, defBody s_Hall__len, defScope s_Hall__len, [], []⟩
def d_Hall__contains : He.DefD := ⟨("Hall", some "__contains__"), "__contains__", "Hall.__contains__", defArgs s_Hall__contains, defBody s_Hall__contains, defScope s_Hall__contains, [], []⟩
def d_Hall__eq : He.DefD := ⟨("Hall", some "__eq__"), "__eq__", "Hall.__eq__", defArgs s_Hall__eq, defBody s_Hall__eq, defScope s_Hall__eq, [], []⟩
def d_l_pot : He.DefD := ⟨("_law_pot", none), "_law_pot", "_law_pot", defArgs s_l_pot, defBody s_l_pot, defScope s_l_pot, [], []⟩
def d_l_take : He.DefD := ⟨("_law_take", none), "_law_take", "_law_take", defArgs s_l_take, defBody s_l_take, defScope s_l_take, [], []⟩
def d_l_some : He.DefD := ⟨("_law_some", none), "_law_some", "_law_some", defArgs s_l_some, defBody s_l_some, defScope s_l_some, [], []⟩
def d_l_places : He.DefD := ⟨("_law_places", none), "_law_places", "_law_places", defArgs s_l_places, defBody s_l_places, defScope s_l_places, [], []⟩
def d_l_told : He.DefD := ⟨("_law_told", none), "_law_told", "_law_told", defArgs s_l_told, defBody s_l_told, defScope s_l_told, [], []⟩
def d_l_names : He.DefD := ⟨("_law_names", none), "_law_names", "_law_names", defArgs s_l_names, defBody s_l_names, defScope s_l_names, [], []⟩
def d_l_pairs : He.DefD := ⟨("_law_pairs", none), "_law_pairs", "_law_pairs", defArgs s_l_pairs, defBody s_l_pairs, defScope s_l_pairs, [], []⟩
def d_l_is_refused : He.DefD := ⟨("_law_is_refused", none), "_law_is_refused", "_law_is_refused", defArgs s_l_is_refused, defBody s_l_is_refused, defScope s_l_is_refused, [], []⟩
def d_l_is_let : He.DefD := ⟨("_law_is_let", none), "_law_is_let", "_law_is_let", defArgs s_l_is_let, defBody s_l_is_let, defScope s_l_is_let, [], []⟩
def d_l_right : He.DefD := ⟨("_law_right", none), "_law_right", "_law_right", defArgs s_l_right, defBody s_l_right, defScope s_l_right, [], []⟩
def d_law : He.DefD := ⟨("law", none), "law", "law", defArgs s_law, defBody s_law, defScope s_law, [], []⟩
def pd_Hall_text : PropD := ⟨"Hall", "text", "Hall.text", defArgs s_Hall_text, defBody s_Hall_text, defScope s_Hall_text⟩
def pd_Hall_people : PropD := ⟨"Hall", "people", "Hall.people", defArgs s_Hall_people, defBody s_Hall_people, defScope s_Hall_people⟩
def pn : List PropD := [pd_Hall_text, pd_Hall_people]
def fn : List He.DefD := [d_is_word, d_is_made_of, d_is_name, d_are_unlike, d_people_in, d_some_in, d_Reading__init, d_Reading_put, d_Reading_take, d_read, d_Hall__init, d_Hall__len, d_Hall__contains, d_Hall__eq, d_l_pot, d_l_take, d_l_some, d_l_places, d_l_told, d_l_names, d_l_pairs, d_l_is_refused, d_l_is_let, d_l_right, d_law]
def fa : List He.Fa := [.glo "MeetError", .glo "BadHall", .glo "Reading", .glo "Hall", .glo "_wall", .glo "is_word", .glo "is_made_of", .glo "is_name", .glo "are_unlike", .glo "people_in", .glo "some_in", .glo "read", .glo "_law_pot", .glo "_law_take", .glo "_law_some", .glo "_law_places", .glo "_law_told", .glo "_law_names", .glo "_law_pairs", .glo "_law_is_refused", .glo "_law_is_let", .glo "_law_right", .glo "law", .free "ValueError", .free "abs", .free "all", .free "enumerate", .free "int", .free "isinstance", .free "len", .free "list", .free "max", .free "min", .free "range", .free "repr", .free "str", .free "super", .free "tuple", .str "LETTERS" "abcdefghijklmnopqrstuvwxyz", .str "BLANK" " ", .str "FEED" "\n", .int "MOST_SIGNS" 8, .str "PEOPLE" "people", .str "MET" "met", .str "OPEN" "open", .int "MOST_PEOPLE" 9, .int "MOST_MET" 20, .int "MOST_OPEN" 4, .int "PAIR" 2, .int "OPEN_SIZE" 3, .cls "Reading", .mkr "Reading", .noat "Reading" "named_people", .noat "Reading" "named_pairs", .noat "Reading" "named_opens", .noat "Reading" "own_lines", .meth "Reading" "put", .meth "Reading" "take", .cls "Hall", .mkr "Hall", .noat "Hall" "own_text", .noat "Hall" "own_people", .noat "Hall" "own_pairs", .noat "Hall" "own_opens", .meth "Hall" "__len__", .meth "Hall" "__contains__", .meth "Hall" "__eq__"]
abbrev PRG : Program := PySem.Challenge.pw_metonce_k03_bounds_of_halls
def errs : List Str := ["MeetError", "BadHall"]
def tabs : List (Str × List (Str × Str)) := []
def ts : List He.Tab := []
def nils : List (Str × Option Str) := []
def clss : List Str := ["Reading", "Hall"]
def exmB (K : PySem.W.Frag) (x : Str) : Bool := decide (PySem.W.exmOne K (.ref (He.ga K x)) (.ref (He.ga K mE)) = some true)
def exo (K : PySem.W.Frag) : Bool := errs.all (errB K) && ((errs.all fun x => errs.all fun y => kitE K x y) && (errs.all (fun x => kitV K x && exmB K x) && (sysB K && initB PRG K)))
def exf (K : PySem.W.Frag) : Bool := ((tabs.all fun t => He.valsB K (He.ga K t.1) (tabV t.2)) && nils.all fun a => nilB K (He.dflAt a 0 K)) && (exo K && (ndT K && isxB K errs clss))
structure Tx (w : World) (K : PySem.W.Frag) (mg : Str → Option Value) : Prop where
  says : SaysP fa fn pn ts exf (fnIv 3) w K
  inh : ∃ h : Heap, K.In h ∧ h.Ns mainGlobals mg
section
variable {w : World} {K : PySem.W.Frag} {mg : Str → Option Value}
theorem Tx.g_MeetError (T : Tx w K mg) : mg "MeetError" = some (.ref (He.ga K "MeetError")) := let ⟨_, X, G⟩ := T.inh; He.glo_ok X G (T.says.df.fact 0 rfl)
theorem Tx.g_BadHall (T : Tx w K mg) : mg "BadHall" = some (.ref (He.ga K "BadHall")) := let ⟨_, X, G⟩ := T.inh; He.glo_ok X G (T.says.df.fact 1 rfl)
theorem Tx.g_Reading (T : Tx w K mg) : mg "Reading" = some (.ref (He.ga K "Reading")) := let ⟨_, X, G⟩ := T.inh; He.glo_ok X G (T.says.df.fact 2 rfl)
theorem Tx.g_Hall (T : Tx w K mg) : mg "Hall" = some (.ref (He.ga K "Hall")) := let ⟨_, X, G⟩ := T.inh; He.glo_ok X G (T.says.df.fact 3 rfl)
theorem Tx.g_wall (T : Tx w K mg) : mg "_wall" = some (.ref (He.ga K "_wall")) := let ⟨_, X, G⟩ := T.inh; He.glo_ok X G (T.says.df.fact 4 rfl)
theorem Tx.g_is_word (T : Tx w K mg) : mg "is_word" = some (.ref (He.ga K "is_word")) := let ⟨_, X, G⟩ := T.inh; He.glo_ok X G (T.says.df.fact 5 rfl)
theorem Tx.g_is_made_of (T : Tx w K mg) : mg "is_made_of" = some (.ref (He.ga K "is_made_of")) := let ⟨_, X, G⟩ := T.inh; He.glo_ok X G (T.says.df.fact 6 rfl)
theorem Tx.g_is_name (T : Tx w K mg) : mg "is_name" = some (.ref (He.ga K "is_name")) := let ⟨_, X, G⟩ := T.inh; He.glo_ok X G (T.says.df.fact 7 rfl)
theorem Tx.g_are_unlike (T : Tx w K mg) : mg "are_unlike" = some (.ref (He.ga K "are_unlike")) := let ⟨_, X, G⟩ := T.inh; He.glo_ok X G (T.says.df.fact 8 rfl)
theorem Tx.g_people_in (T : Tx w K mg) : mg "people_in" = some (.ref (He.ga K "people_in")) := let ⟨_, X, G⟩ := T.inh; He.glo_ok X G (T.says.df.fact 9 rfl)
theorem Tx.g_some_in (T : Tx w K mg) : mg "some_in" = some (.ref (He.ga K "some_in")) := let ⟨_, X, G⟩ := T.inh; He.glo_ok X G (T.says.df.fact 10 rfl)
theorem Tx.g_read (T : Tx w K mg) : mg "read" = some (.ref (He.ga K "read")) := let ⟨_, X, G⟩ := T.inh; He.glo_ok X G (T.says.df.fact 11 rfl)
theorem Tx.g_l_pot (T : Tx w K mg) : mg "_law_pot" = some (.ref (He.ga K "_law_pot")) := let ⟨_, X, G⟩ := T.inh; He.glo_ok X G (T.says.df.fact 12 rfl)
theorem Tx.g_l_take (T : Tx w K mg) : mg "_law_take" = some (.ref (He.ga K "_law_take")) := let ⟨_, X, G⟩ := T.inh; He.glo_ok X G (T.says.df.fact 13 rfl)
theorem Tx.g_l_some (T : Tx w K mg) : mg "_law_some" = some (.ref (He.ga K "_law_some")) := let ⟨_, X, G⟩ := T.inh; He.glo_ok X G (T.says.df.fact 14 rfl)
theorem Tx.g_l_places (T : Tx w K mg) : mg "_law_places" = some (.ref (He.ga K "_law_places")) := let ⟨_, X, G⟩ := T.inh; He.glo_ok X G (T.says.df.fact 15 rfl)
theorem Tx.g_l_told (T : Tx w K mg) : mg "_law_told" = some (.ref (He.ga K "_law_told")) := let ⟨_, X, G⟩ := T.inh; He.glo_ok X G (T.says.df.fact 16 rfl)
theorem Tx.g_l_names (T : Tx w K mg) : mg "_law_names" = some (.ref (He.ga K "_law_names")) := let ⟨_, X, G⟩ := T.inh; He.glo_ok X G (T.says.df.fact 17 rfl)
theorem Tx.g_l_pairs (T : Tx w K mg) : mg "_law_pairs" = some (.ref (He.ga K "_law_pairs")) := let ⟨_, X, G⟩ := T.inh; He.glo_ok X G (T.says.df.fact 18 rfl)
theorem Tx.g_l_is_refused (T : Tx w K mg) : mg "_law_is_refused" = some (.ref (He.ga K "_law_is_refused")) := let ⟨_, X, G⟩ := T.inh; He.glo_ok X G (T.says.df.fact 19 rfl)
theorem Tx.g_l_is_let (T : Tx w K mg) : mg "_law_is_let" = some (.ref (He.ga K "_law_is_let")) := let ⟨_, X, G⟩ := T.inh; He.glo_ok X G (T.says.df.fact 20 rfl)
theorem Tx.g_l_right (T : Tx w K mg) : mg "_law_right" = some (.ref (He.ga K "_law_right")) := let ⟨_, X, G⟩ := T.inh; He.glo_ok X G (T.says.df.fact 21 rfl)
theorem Tx.g_law (T : Tx w K mg) : mg "law" = some (.ref (He.ga K "law")) := let ⟨_, X, G⟩ := T.inh; He.glo_ok X G (T.says.df.fact 22 rfl)
theorem Tx.n_ValueError (T : Tx w K mg) : mg "ValueError" = none := let ⟨_, X, G⟩ := T.inh; He.free_ok X G (T.says.df.fact 23 rfl)
theorem Tx.n_abs (T : Tx w K mg) : mg "abs" = none := let ⟨_, X, G⟩ := T.inh; He.free_ok X G (T.says.df.fact 24 rfl)
theorem Tx.n_all (T : Tx w K mg) : mg "all" = none := let ⟨_, X, G⟩ := T.inh; He.free_ok X G (T.says.df.fact 25 rfl)
theorem Tx.n_enumerate (T : Tx w K mg) : mg "enumerate" = none := let ⟨_, X, G⟩ := T.inh; He.free_ok X G (T.says.df.fact 26 rfl)
theorem Tx.n_int (T : Tx w K mg) : mg "int" = none := let ⟨_, X, G⟩ := T.inh; He.free_ok X G (T.says.df.fact 27 rfl)
theorem Tx.n_isinstance (T : Tx w K mg) : mg "isinstance" = none := let ⟨_, X, G⟩ := T.inh; He.free_ok X G (T.says.df.fact 28 rfl)
theorem Tx.n_len (T : Tx w K mg) : mg "len" = none := let ⟨_, X, G⟩ := T.inh; He.free_ok X G (T.says.df.fact 29 rfl)
theorem Tx.n_list (T : Tx w K mg) : mg "list" = none := let ⟨_, X, G⟩ := T.inh; He.free_ok X G (T.says.df.fact 30 rfl)
theorem Tx.n_max (T : Tx w K mg) : mg "max" = none := let ⟨_, X, G⟩ := T.inh; He.free_ok X G (T.says.df.fact 31 rfl)
theorem Tx.n_min (T : Tx w K mg) : mg "min" = none := let ⟨_, X, G⟩ := T.inh; He.free_ok X G (T.says.df.fact 32 rfl)
theorem Tx.n_range (T : Tx w K mg) : mg "range" = none := let ⟨_, X, G⟩ := T.inh; He.free_ok X G (T.says.df.fact 33 rfl)
theorem Tx.n_repr (T : Tx w K mg) : mg "repr" = none := let ⟨_, X, G⟩ := T.inh; He.free_ok X G (T.says.df.fact 34 rfl)
theorem Tx.n_str (T : Tx w K mg) : mg "str" = none := let ⟨_, X, G⟩ := T.inh; He.free_ok X G (T.says.df.fact 35 rfl)
theorem Tx.n_super (T : Tx w K mg) : mg "super" = none := let ⟨_, X, G⟩ := T.inh; He.free_ok X G (T.says.df.fact 36 rfl)
theorem Tx.n_tuple (T : Tx w K mg) : mg "tuple" = none := let ⟨_, X, G⟩ := T.inh; He.free_ok X G (T.says.df.fact 37 rfl)
theorem Tx.c_LETTERS (T : Tx w K mg) : ∃ t, mg "LETTERS" = some (.str "abcdefghijklmnopqrstuvwxyz" t) := let ⟨_, X, G⟩ := T.inh; He.str_ok X G (T.says.df.fact 38 rfl)
theorem Tx.c_BLANK (T : Tx w K mg) : ∃ t, mg "BLANK" = some (.str " " t) := let ⟨_, X, G⟩ := T.inh; He.str_ok X G (T.says.df.fact 39 rfl)
theorem Tx.c_FEED (T : Tx w K mg) : ∃ t, mg "FEED" = some (.str "\n" t) := let ⟨_, X, G⟩ := T.inh; He.str_ok X G (T.says.df.fact 40 rfl)
theorem Tx.c_MOST_SIGNS (T : Tx w K mg) : ∃ t, mg "MOST_SIGNS" = some (.int 8 t) := let ⟨_, X, G⟩ := T.inh; He.int_ok X G (T.says.df.fact 41 rfl)
theorem Tx.c_PEOPLE (T : Tx w K mg) : ∃ t, mg "PEOPLE" = some (.str "people" t) := let ⟨_, X, G⟩ := T.inh; He.str_ok X G (T.says.df.fact 42 rfl)
theorem Tx.c_MET (T : Tx w K mg) : ∃ t, mg "MET" = some (.str "met" t) := let ⟨_, X, G⟩ := T.inh; He.str_ok X G (T.says.df.fact 43 rfl)
theorem Tx.c_OPEN (T : Tx w K mg) : ∃ t, mg "OPEN" = some (.str "open" t) := let ⟨_, X, G⟩ := T.inh; He.str_ok X G (T.says.df.fact 44 rfl)
theorem Tx.c_MOST_PEOPLE (T : Tx w K mg) : ∃ t, mg "MOST_PEOPLE" = some (.int 9 t) := let ⟨_, X, G⟩ := T.inh; He.int_ok X G (T.says.df.fact 45 rfl)
theorem Tx.c_MOST_MET (T : Tx w K mg) : ∃ t, mg "MOST_MET" = some (.int 20 t) := let ⟨_, X, G⟩ := T.inh; He.int_ok X G (T.says.df.fact 46 rfl)
theorem Tx.c_MOST_OPEN (T : Tx w K mg) : ∃ t, mg "MOST_OPEN" = some (.int 4 t) := let ⟨_, X, G⟩ := T.inh; He.int_ok X G (T.says.df.fact 47 rfl)
theorem Tx.c_PAIR (T : Tx w K mg) : ∃ t, mg "PAIR" = some (.int 2 t) := let ⟨_, X, G⟩ := T.inh; He.int_ok X G (T.says.df.fact 48 rfl)
theorem Tx.c_OPEN_SIZE (T : Tx w K mg) : ∃ t, mg "OPEN_SIZE" = some (.int 3 t) := let ⟨_, X, G⟩ := T.inh; He.int_ok X G (T.says.df.fact 49 rfl)
theorem Tx.f_is_word (T : Tx w K mg) : ∃ fd, FunD K "is_word" "is_word" (defArgs s_is_word) (defBody s_is_word) (defScope s_is_word) [] [] (He.fAd K ("is_word", none)) fd := T.says.df.def_ 0 (d := d_is_word) rfl
theorem Tx.f_is_made_of (T : Tx w K mg) : ∃ fd, FunD K "is_made_of" "is_made_of" (defArgs s_is_made_of) (defBody s_is_made_of) (defScope s_is_made_of) [] [] (He.fAd K ("is_made_of", none)) fd := T.says.df.def_ 1 (d := d_is_made_of) rfl
theorem Tx.f_is_name (T : Tx w K mg) : ∃ fd, FunD K "is_name" "is_name" (defArgs s_is_name) (defBody s_is_name) (defScope s_is_name) [] [] (He.fAd K ("is_name", none)) fd := T.says.df.def_ 2 (d := d_is_name) rfl
theorem Tx.f_are_unlike (T : Tx w K mg) : ∃ fd, FunD K "are_unlike" "are_unlike" (defArgs s_are_unlike) (defBody s_are_unlike) (defScope s_are_unlike) [] [] (He.fAd K ("are_unlike", none)) fd := T.says.df.def_ 3 (d := d_are_unlike) rfl
theorem Tx.f_people_in (T : Tx w K mg) : ∃ fd, FunD K "people_in" "people_in" (defArgs s_people_in) (defBody s_people_in) (defScope s_people_in) [] [] (He.fAd K ("people_in", none)) fd := T.says.df.def_ 4 (d := d_people_in) rfl
theorem Tx.f_some_in (T : Tx w K mg) : ∃ fd, FunD K "some_in" "some_in" (defArgs s_some_in) (defBody s_some_in) (defScope s_some_in) [] [] (He.fAd K ("some_in", none)) fd := T.says.df.def_ 5 (d := d_some_in) rfl
theorem Tx.f_Reading__init (T : Tx w K mg) : ∃ fd, FunD K "__init__" "Reading.__init__" (defArgs s_Reading__init) (defBody s_Reading__init) (defScope s_Reading__init) [] [] (He.fAd K ("Reading", some "__init__")) fd := T.says.df.def_ 6 (d := d_Reading__init) rfl
theorem Tx.f_Reading_put (T : Tx w K mg) : ∃ fd, FunD K "put" "Reading.put" (defArgs s_Reading_put) (defBody s_Reading_put) (defScope s_Reading_put) [] [] (He.fAd K ("Reading", some "put")) fd := T.says.df.def_ 7 (d := d_Reading_put) rfl
theorem Tx.f_Reading_take (T : Tx w K mg) : ∃ fd, FunD K "take" "Reading.take" (defArgs s_Reading_take) (defBody s_Reading_take) (defScope s_Reading_take) [] [] (He.fAd K ("Reading", some "take")) fd := T.says.df.def_ 8 (d := d_Reading_take) rfl
theorem Tx.f_read (T : Tx w K mg) : ∃ fd, FunD K "read" "read" (defArgs s_read) (defBody s_read) (defScope s_read) [] [] (He.fAd K ("read", none)) fd := T.says.df.def_ 9 (d := d_read) rfl
theorem Tx.f_Hall__init (T : Tx w K mg) : ∃ fd, FunD K "__init__" "Hall.__init__" (defArgs s_Hall__init) (defBody s_Hall__init) (defScope s_Hall__init) [] [] (He.fAd K ("Hall", some "__init__")) fd := T.says.df.def_ 10 (d := d_Hall__init) rfl
theorem Tx.f_Hall__len (T : Tx w K mg) : ∃ fd, FunD K "__len__" "Hall.__len__" (defArgs s_Hall__len) (defBody s_Hall__len) (defScope s_Hall__len) [] [] (He.fAd K ("Hall", some "__len__")) fd := T.says.df.def_ 11 (d := d_Hall__len) rfl
theorem Tx.f_Hall__contains (T : Tx w K mg) : ∃ fd, FunD K "__contains__" "Hall.__contains__" (defArgs s_Hall__contains) (defBody s_Hall__contains) (defScope s_Hall__contains) [] [] (He.fAd K ("Hall", some "__contains__")) fd := T.says.df.def_ 12 (d := d_Hall__contains) rfl
theorem Tx.f_Hall__eq (T : Tx w K mg) : ∃ fd, FunD K "__eq__" "Hall.__eq__" (defArgs s_Hall__eq) (defBody s_Hall__eq) (defScope s_Hall__eq) [] [] (He.fAd K ("Hall", some "__eq__")) fd := T.says.df.def_ 13 (d := d_Hall__eq) rfl
theorem Tx.f_l_pot (T : Tx w K mg) : ∃ fd, FunD K "_law_pot" "_law_pot" (defArgs s_l_pot) (defBody s_l_pot) (defScope s_l_pot) [] [] (He.fAd K ("_law_pot", none)) fd := T.says.df.def_ 14 (d := d_l_pot) rfl
theorem Tx.f_l_take (T : Tx w K mg) : ∃ fd, FunD K "_law_take" "_law_take" (defArgs s_l_take) (defBody s_l_take) (defScope s_l_take) [] [] (He.fAd K ("_law_take", none)) fd := T.says.df.def_ 15 (d := d_l_take) rfl
theorem Tx.f_l_some (T : Tx w K mg) : ∃ fd, FunD K "_law_some" "_law_some" (defArgs s_l_some) (defBody s_l_some) (defScope s_l_some) [] [] (He.fAd K ("_law_some", none)) fd := T.says.df.def_ 16 (d := d_l_some) rfl
theorem Tx.f_l_places (T : Tx w K mg) : ∃ fd, FunD K "_law_places" "_law_places" (defArgs s_l_places) (defBody s_l_places) (defScope s_l_places) [] [] (He.fAd K ("_law_places", none)) fd := T.says.df.def_ 17 (d := d_l_places) rfl
theorem Tx.f_l_told (T : Tx w K mg) : ∃ fd, FunD K "_law_told" "_law_told" (defArgs s_l_told) (defBody s_l_told) (defScope s_l_told) [] [] (He.fAd K ("_law_told", none)) fd := T.says.df.def_ 18 (d := d_l_told) rfl
theorem Tx.f_l_names (T : Tx w K mg) : ∃ fd, FunD K "_law_names" "_law_names" (defArgs s_l_names) (defBody s_l_names) (defScope s_l_names) [] [] (He.fAd K ("_law_names", none)) fd := T.says.df.def_ 19 (d := d_l_names) rfl
theorem Tx.f_l_pairs (T : Tx w K mg) : ∃ fd, FunD K "_law_pairs" "_law_pairs" (defArgs s_l_pairs) (defBody s_l_pairs) (defScope s_l_pairs) [] [] (He.fAd K ("_law_pairs", none)) fd := T.says.df.def_ 20 (d := d_l_pairs) rfl
theorem Tx.f_l_is_refused (T : Tx w K mg) : ∃ fd, FunD K "_law_is_refused" "_law_is_refused" (defArgs s_l_is_refused) (defBody s_l_is_refused) (defScope s_l_is_refused) [] [] (He.fAd K ("_law_is_refused", none)) fd := T.says.df.def_ 21 (d := d_l_is_refused) rfl
theorem Tx.f_l_is_let (T : Tx w K mg) : ∃ fd, FunD K "_law_is_let" "_law_is_let" (defArgs s_l_is_let) (defBody s_l_is_let) (defScope s_l_is_let) [] [] (He.fAd K ("_law_is_let", none)) fd := T.says.df.def_ 22 (d := d_l_is_let) rfl
theorem Tx.f_l_right (T : Tx w K mg) : ∃ fd, FunD K "_law_right" "_law_right" (defArgs s_l_right) (defBody s_l_right) (defScope s_l_right) [] [] (He.fAd K ("_law_right", none)) fd := T.says.df.def_ 23 (d := d_l_right) rfl
theorem Tx.f_law (T : Tx w K mg) : ∃ fd, FunD K "law" "law" (defArgs s_law) (defBody s_law) (defScope s_law) [] [] (He.fAd K ("law", none)) fd := T.says.df.def_ 24 (d := d_law) rfl
theorem Tx.p_Hall_text (T : Tx w K mg) : PropOf K (He.ga K "Hall") "text" (prA K "Hall" "text") (gtA K "Hall" "text") ∧ ∃ fd, FunD K "text" "Hall.text" (defArgs s_Hall_text) (defBody s_Hall_text) (defScope s_Hall_text) [] [] (gtA K "Hall" "text") fd := T.says.getter 0 (d := pd_Hall_text) rfl
theorem Tx.p_Hall_people (T : Tx w K mg) : PropOf K (He.ga K "Hall") "people" (prA K "Hall" "people") (gtA K "Hall" "people") ∧ ∃ fd, FunD K "people" "Hall.people" (defArgs s_Hall_people) (defBody s_Hall_people) (defScope s_Hall_people) [] [] (gtA K "Hall" "people") fd := T.says.getter 1 (d := pd_Hall_people) rfl
theorem Tx.cl_Reading (T : Tx w K mg) : Cls K (He.ga K "Reading") := let ⟨_, X, G⟩ := T.inh; He.cls_ok (T.says.df.fact 50 rfl)
theorem Tx.mk_Reading (T : Tx w K mg) : Mk K (He.ga K "Reading") (He.ma K (He.ga K "Reading") "__init__") := let ⟨_, X, G⟩ := T.inh; He.mkr_ok (T.says.df.fact 51 rfl)
theorem Tx.na_Reading_named_people (T : Tx w K mg) : NoAttr K (He.ga K "Reading") "named_people" := let ⟨_, X, G⟩ := T.inh; He.noat_ok (T.says.df.fact 52 rfl)
theorem Tx.na_Reading_named_pairs (T : Tx w K mg) : NoAttr K (He.ga K "Reading") "named_pairs" := let ⟨_, X, G⟩ := T.inh; He.noat_ok (T.says.df.fact 53 rfl)
theorem Tx.na_Reading_named_opens (T : Tx w K mg) : NoAttr K (He.ga K "Reading") "named_opens" := let ⟨_, X, G⟩ := T.inh; He.noat_ok (T.says.df.fact 54 rfl)
theorem Tx.na_Reading_own_lines (T : Tx w K mg) : NoAttr K (He.ga K "Reading") "own_lines" := let ⟨_, X, G⟩ := T.inh; He.noat_ok (T.says.df.fact 55 rfl)
theorem Tx.me_Reading_put (T : Tx w K mg) : Meth K (He.ga K "Reading") "put" (He.ma K (He.ga K "Reading") "put") := let ⟨_, X, G⟩ := T.inh; He.meth_ok (T.says.df.fact 56 rfl)
theorem Tx.me_Reading_take (T : Tx w K mg) : Meth K (He.ga K "Reading") "take" (He.ma K (He.ga K "Reading") "take") := let ⟨_, X, G⟩ := T.inh; He.meth_ok (T.says.df.fact 57 rfl)
theorem Tx.cl_Hall (T : Tx w K mg) : Cls K (He.ga K "Hall") := let ⟨_, X, G⟩ := T.inh; He.cls_ok (T.says.df.fact 58 rfl)
theorem Tx.mk_Hall (T : Tx w K mg) : Mk K (He.ga K "Hall") (He.ma K (He.ga K "Hall") "__init__") := let ⟨_, X, G⟩ := T.inh; He.mkr_ok (T.says.df.fact 59 rfl)
theorem Tx.na_Hall_own_text (T : Tx w K mg) : NoAttr K (He.ga K "Hall") "own_text" := let ⟨_, X, G⟩ := T.inh; He.noat_ok (T.says.df.fact 60 rfl)
theorem Tx.na_Hall_own_people (T : Tx w K mg) : NoAttr K (He.ga K "Hall") "own_people" := let ⟨_, X, G⟩ := T.inh; He.noat_ok (T.says.df.fact 61 rfl)
theorem Tx.na_Hall_own_pairs (T : Tx w K mg) : NoAttr K (He.ga K "Hall") "own_pairs" := let ⟨_, X, G⟩ := T.inh; He.noat_ok (T.says.df.fact 62 rfl)
theorem Tx.na_Hall_own_opens (T : Tx w K mg) : NoAttr K (He.ga K "Hall") "own_opens" := let ⟨_, X, G⟩ := T.inh; He.noat_ok (T.says.df.fact 63 rfl)
theorem Tx.me_Hall__len (T : Tx w K mg) : Meth K (He.ga K "Hall") "__len__" (He.ma K (He.ga K "Hall") "__len__") := let ⟨_, X, G⟩ := T.inh; He.meth_ok (T.says.df.fact 64 rfl)
theorem Tx.me_Hall__contains (T : Tx w K mg) : Meth K (He.ga K "Hall") "__contains__" (He.ma K (He.ga K "Hall") "__contains__") := let ⟨_, X, G⟩ := T.inh; He.meth_ok (T.says.df.fact 65 rfl)
theorem Tx.me_Hall__eq (T : Tx w K mg) : Meth K (He.ga K "Hall") "__eq__" (He.ma K (He.ga K "Hall") "__eq__") := let ⟨_, X, G⟩ := T.inh; He.meth_ok (T.says.df.fact 66 rfl)
theorem Tx.ex (T : Tx w K mg) : exo K = true := (He.ba (He.ba T.says.ex).2).1
theorem Tx.ndt (T : Tx w K mg) : ndT K = true := (He.ba (He.ba (He.ba T.says.ex).2).2).1
theorem Tx.err (T : Tx w K mg) {x : Str} (h : x ∈ errs) : PySem.MEX.ErrTxt K (atD K) (atI0 K) (He.ga K x) ∧ ExcC K (He.ga K x) := err_ok (List.all_eq_true.mp (He.ba T.ex).1 x h)
theorem Tx.e_MeetError (T : Tx w K mg) : PySem.MEX.ErrTxt K (atD K) (atI0 K) (He.ga K "MeetError") ∧ ExcC K (He.ga K "MeetError") := T.err (x := "MeetError") (by decide +kernel)
theorem Tx.e_BadHall (T : Tx w K mg) : PySem.MEX.ErrTxt K (atD K) (atI0 K) (He.ga K "BadHall") ∧ ExcC K (He.ga K "BadHall") := T.err (x := "BadHall") (by decide +kernel)
theorem Tx.kit (T : Tx w K mg) {x y : Str} (h : x ∈ errs) (h2 : y ∈ errs) : PySem.W.kitOne K (.ref (He.ga K x)) (.ref (He.ga K y)) = some (decide (y = x) || decide (y = mE)) := of_decide_eq_true (List.all_eq_true.mp (List.all_eq_true.mp (He.ba (He.ba T.ex).2).1 x h) y h2)
theorem Tx.kitv (T : Tx w K mg) {x : Str} (h : x ∈ errs) : PySem.W.kitOne K (.ref (He.ga K x)) (.type "ValueError") = some true := of_decide_eq_true (He.ba (List.all_eq_true.mp (He.ba (He.ba (He.ba T.ex).2).2).1 x h)).1
theorem Tx.exm (T : Tx w K mg) {x : Str} (h : x ∈ errs) : PySem.W.exmOne K (.ref (He.ga K x)) (.ref (He.ga K mE)) = some true := of_decide_eq_true (He.ba (List.all_eq_true.mp (He.ba (He.ba (He.ba T.ex).2).2).1 x h)).2
theorem Tx.sys (T : Tx w K mg) : SysK K := sys_ok (He.ba (He.ba (He.ba (He.ba T.ex).2).2).2).1
theorem Tx.init (T : Tx w K mg) : PySem.MEX.InitTxt PRG K (atD K) (atI0 K) := init_ok (k := 3) (by decide) (He.ba (He.ba (He.ba (He.ba T.ex).2).2).2).2 T.says.iv
end
def loose0 : List Str := ["MeetError", "BadHall", "Reading", "Hall", "_wall", "is_word", "is_made_of", "is_name", "are_unlike", "people_in", "some_in", "read", "_law_pot", "_law_take", "_law_some", "_law_places"]
def loose1 : List Str := ["_law_told", "_law_names", "_law_pairs", "_law_is_refused", "_law_is_let", "_law_right", "LETTERS", "BLANK", "FEED", "MOST_SIGNS", "PEOPLE", "MET", "OPEN", "MOST_PEOPLE", "MOST_MET", "MOST_OPEN"]
def loose2 : List Str := ["PAIR", "OPEN_SIZE"]
def loose : List Str := loose0 ++ loose1 ++ loose2
def lawAt : Nat := 38
def ivK : Nat := 3
end Q

open PySem PySem.Spec PyProof.Rows L2 MT
local macro_rules | `(tactic| walk_at "v") => `(tactic| refine ⟨_, rfl, ?_⟩)
local macro_rules | `(tactic| walk_at "i") => `(tactic| refine ⟨_, _, rfl, rfl, ?_⟩)
local macro_rules | `(tactic| walk_at "vs") => `(tactic| repeat (first | refine ⟨_, rfl, ?_⟩ | refine ⟨_, _, rfl, rfl, ?_⟩))

namespace Q
/-! ### the head: a module dict asks the row "special-get-raises", so both worlds are run -/
abbrev RoW : PySem.W.OpenRow := PySem.W.OpenLaw.row PySem.Challenge.rw_metonce_k03_bounds_of_halls
abbrev tfs : List He.Defn := lamDefs.map (·.1)
abbrev hk : PySem.W.Hook := hookP 6 fa fn pn ts tfs exf (fnIv ivK)
def ob (s : PySem.W.SharedT) : AlP := obsP 6 fa fn pn ts tfs exf (HandSHeadRun.getT s)
theorem ob_eq (s : PySem.W.SharedT) : ob s = hk.obs s.abs := obsP_eq (HandSHeadRun.getT_eq s)
theorem runF (w : World) : HandSHeadRun.RunEq RoW (PySem.W.view RoW.prog [lawAt]) hk ob 40000 loose (w.withFollow "special-get-raises" false) := by
  intro os
  kernel_rfl
theorem runT (w : World) : HandSHeadRun.RunEq RoW (PySem.W.view RoW.prog [lawAt]) hk ob 40000 loose (w.withFollow "special-get-raises" true) := by
  intro os
  kernel_rfl
theorem run (w : World) : HandSHeadRun.RunEq RoW (PySem.W.view RoW.prog [lawAt]) hk ob 40000 loose w :=
  PySem.W.byRow2 "special-get-raises" (P := fun w => HandSHeadRun.RunEq RoW (PySem.W.view RoW.prog [lawAt]) hk ob 40000 loose w) runF runT w
end Q
end
namespace DL
open PySem PySem.Spec PyProof.Rows L2 MT
/-! ### tuples whose object is known: no dict -/
def TupS (K : PySem.W.Frag) (H : Hp) (a : Addr) (xs : List V) : Prop :=
  (∃ o : Obj, H a = some (.frz o (.tup xs)) ∧ o.dict = none) ∨ ∃ (o : Obj) (its : Array Value) (n : Nat), K.lookup a = some o ∧ o.cls = .type "tuple" ∧ o.dict = none ∧ o.data = .seq its n ∧ its.size ≤ sizeLine ∧ Vals xs its.toList
theorem TupS.sq {K : PySem.W.Frag} {H : Hp} {a : Addr} {xs : List V} (h : TupS K H a xs) : SqT K H a xs := by
  rcases h with ⟨o, h, _⟩ | ⟨o, its, n, h1, h2, _, h3⟩
  · exact .inl (.inr ⟨o, h⟩)
  · exact .inr ⟨o, its, n, h1, h2, h3⟩
theorem TupS.same {K : PySem.W.Frag} {H H' : Hp} {a : Addr} {xs : List V} (s : Same H H') (h : TupS K H a xs) : TupS K H' a xs := by
  rcases h with ⟨o, h, d⟩ | h
  · exact .inl ⟨o, s _ _ h, d⟩
  · exact .inr h
section
variable {X : Cx}
theorem TupS.nodict {pins : List (Addr × Obj)} {σ : L2.St} {H : Hp} {s : Shared} {a : Addr} {xs : List V} (I : Inv X pins σ H s) (h : TupS X.K H a xs) : ∃ ob, s.heap.get? a = some ob ∧ ob.dict = none := by
  rcases h with ⟨o, h, d⟩ | ⟨o, its, n, h1, h2, h3, _⟩
  · exact ⟨o, (I.hok _ _ h).1, d⟩
  · exact ⟨o, I.kIn _ _ h1, h3⟩
/-- a new tuple's object, locked -/
theorem lock_tup {pins : List (Addr × Obj)} {σ : L2.St} {H : Hp} {s : Shared} {its : List Value} {xs : List V} (I : Inv X pins σ H s) (r : Vals xs its) (z : xs.length ≤ sizeLine) :
    H s.heap.objs.size = none ∧ Inv X pins σ (upd H s.heap.objs.size (.frz { cls := .type "tuple", data := .seq its.toArray } (.tup xs))) { s with heap := s.heap.push { cls := .type "tuple", data := .seq its.toArray } } := by
  refine ⟨I.hok.fresh (Nat.le_refl _), I.laid (t' := s.toks) (fun b u e => Heap.get?_push_of_some _ e) (Nat.le_refl _) ?_⟩
  exact ⟨Heap.get?_push_size _ rfl, z, its, r, ⟨_, Heap.get?_push_size _ rfl, rfl, _, rfl⟩⟩
def rNewT (xs : List V) (H : Hp) (Q : VK) : Prop := xs.length ≤ sizeLine ∧ ∀ p (o : Obj), H p = none → o.dict = none → Q (.ref p) (upd H p (.frz o (.tup xs)))
def tTupS (t : TA) : TE := fun σ H Q => t σ H fun xs H1 => rNewT xs H1 Q
theorem pe_tupS {es : List Expr} {t : TA} {x1 : Nat} {pos : Pos} (h : PA X es t) : PE X (.Tuple es x1 pos) (tTupS t) := by
  refine ⟨fun pins s σ H Q I hq => ?_⟩
  refine wpAny_Tuple_spliced (thn (h.run pos pins s σ H _ I hq) fun us s1 ⟨xs, H1, I1, r, z, q⟩ => ⟨by rw [← r.length]; exact z, ?_⟩)
  obtain ⟨hf, J⟩ := lock_tup I1 r z
  exact ⟨.ref s1.heap.objs.size, _, J, rfl, q _ _ hf rfl⟩
def rTupleS (K : PySem.W.Frag) : List V → Hp → VK → Prop := fun xs H Q => ∃ p ys, xs = [.ref p] ∧ ((SqL K H p ys ∧ rNewT ys H Q) ∨ (SqT K H p ys ∧ Q (.ref p) H))
theorem call_tupleS : CallR X (.type "tuple") (rTupleS X.K) := by
  intro pins s σ H xs us Q I r h
  obtain ⟨p, ys, rfl, h⟩ := h
  obtain ⟨u, rfl, rx⟩ := vals1 r
  cases rx
  rcases h with ⟨hq, _, q⟩ | ⟨hq, q⟩
  · obtain ⟨its, r', pl, hz⟩ := I.list hq
    have hlen := r'.length
    refine call_tuple_list pl.isList (fun h' kp => ?_) (by simp only [List.size_toArray] <;> omega)
    have I1 : Inv X pins σ H { s with heap := h' } := I.kept (t' := s.toks) kp
    obtain ⟨hf, J⟩ := lock_tup I1 r' hz
    exact ⟨.ref h'.objs.size, _, J, rfl, q _ _ hf rfl⟩
  · obtain ⟨its, r', pl, hz⟩ := I.tuple hq
    exact call_tuple_same pl ⟨.ref p, H, I, rfl, q⟩
end
/-! ### what a value shows -/
inductive D where
  | dat (x : PyData)
  | dit (kvs : List (List Key × PyData))
  | obj (c : Str) (ns : List Str) (ds : List D)
  | ty (n : String)
  | cls (c : Str)
  | wk (ds : List D)
  | wl (ds : List D)
  | scr (ns : List Int)
  | exc (c : Str) (d : D)
mutual
inductive Dd (K : PySem.W.Frag) (F : Hp) : V → PyData → Prop
  | non : Dd K F .non .none
  | bl (b : Bool) : Dd K F (.bl b) (.bool b)
  | int (i : Int) : Dd K F (.int i) (.int i)
  | str (x : Str) : Dd K F (.str x) (.str x)
  | lst {a : Addr} {xs : List V} {ds : List PyData} : F a = some (.lst xs) → DdAll K F xs ds → Dd K F (.ref a) (.list ds)
  | tup {a : Addr} {xs : List V} {ds : List PyData} : TupS K F a xs → DdAll K F xs ds → Dd K F (.ref a) (.tuple ds)
  | dict {a : Addr} {kvs : List (Key × V)} {ds : List PyData} : F a = some (.dK kvs) → DdAll K F (kvs.map (·.2)) ds → Dd K F (.ref a) (.dict ((kvs.map fun kv => keyD kv.1).zip ds))
inductive DdAll (K : PySem.W.Frag) (F : Hp) : List V → List PyData → Prop
  | nil : DdAll K F [] []
  | cons {v : V} {vs : List V} {d : PyData} {ds : List PyData} : Dd K F v d → DdAll K F vs ds → DdAll K F (v :: vs) (d :: ds)
end
theorem DdAll.length {K : PySem.W.Frag} {H : Hp} : ∀ {vs : List V} {ds : List PyData}, DdAll K H vs ds → vs.length = ds.length
  | _, _, .nil => rfl
  | _, _, .cons _ t => congrArg Nat.succ t.length
mutual
theorem Dd.same {K : PySem.W.Frag} {H H' : Hp} (s : Same H H') : ∀ {v : V} {d : PyData}, Dd K H v d → Dd K H' v d
  | _, _, .non => .non
  | _, _, .bl b => .bl b
  | _, _, .int i => .int i
  | _, _, .str x => .str x
  | _, _, .lst h t => .lst (s _ _ h) (DdAll.same s t)
  | _, _, .tup h t => .tup (h.same s) (DdAll.same s t)
  | _, _, .dict h t => .dict (s _ _ h) (DdAll.same s t)
theorem DdAll.same {K : PySem.W.Frag} {H H' : Hp} (s : Same H H') : ∀ {vs : List V} {ds : List PyData}, DdAll K H vs ds → DdAll K H' vs ds
  | _, _, .nil => .nil
  | _, _, .cons h t => .cons (Dd.same s h) (DdAll.same s t)
end
mutual
theorem Dd.da {K : PySem.W.Frag} {H : Hp} : ∀ {v : V} {d : PyData}, Dd K H v d → Da K H v d
  | _, _, .non => .non
  | _, _, .bl b => .bl b
  | _, _, .int i => .int i
  | _, _, .str x => .str x
  | _, _, .lst h t => .lst (SqL.of h) (DdAll.da t)
  | _, _, .tup h t => .tup h.sq (DdAll.da t)
  | _, _, .dict h t => .dict h (DdAll.da t)
theorem DdAll.da {K : PySem.W.Frag} {H : Hp} : ∀ {vs : List V} {ds : List PyData}, DdAll K H vs ds → DaAll K H vs ds
  | _, _, .nil => .nil
  | _, _, .cons h t => .cons (Dd.da h) (DdAll.da t)
end
mutual
theorem Dd.dp {K : PySem.W.Frag} {H : Hp} : ∀ {v : V} {d : PyData}, Dd K H v d → d.canLay0 = true → Dp K H v d
  | _, _, .non, _ => .non
  | _, _, .bl b, _ => .bl b
  | _, _, .int i, _ => .int i
  | _, _, .str x, _ => .str x
  | _, _, .lst h t, c => .lst (SqL.of h) (DdAll.dp t (by simpa [PyData.canLay0] using c))
  | _, _, .tup h t, c => .tup h.sq (DdAll.dp t (by simpa [PyData.canLay0] using c))
  | _, _, .dict h t, c => by simp [PyData.canLay0] at c
theorem DdAll.dp {K : PySem.W.Frag} {H : Hp} : ∀ {vs : List V} {ds : List PyData}, DdAll K H vs ds → PyData.canLayAll0 ds = true → DpAll K H vs ds
  | _, _, .nil, _ => .nil
  | _, _, .cons h t, c => by
    simp only [PyData.canLayAll0, Bool.and_eq_true] at c
    exact .cons (Dd.dp h c.1) (DdAll.dp t c.2)
end
theorem DdAll.get {K : PySem.W.Frag} {H : Hp} : ∀ {vs : List V} {ds : List PyData} {i : Nat} {d : PyData}, DdAll K H vs ds → ds[i]? = some d → ∃ v, vs[i]? = some v ∧ Dd K H v d
  | _, _, _, _, .nil, e => by simp at e
  | _, _, 0, _, .cons h _, e => by simp at e; subst e; exact ⟨_, rfl, h⟩
  | _, _, i + 1, _, .cons _ t, e => by
    obtain ⟨v, a, b⟩ := DdAll.get (i := i) t (by simpa using e)
    exact ⟨v, by simpa using a, b⟩
theorem DdAll.getV {K : PySem.W.Frag} {H : Hp} : ∀ {vs : List V} {ds : List PyData} {i : Nat} {v : V}, DdAll K H vs ds → vs[i]? = some v → ∃ d, ds[i]? = some d ∧ Dd K H v d
  | _, _, _, _, .nil, e => by simp at e
  | _, _, 0, _, .cons h _, e => by simp at e; subst e; exact ⟨_, rfl, h⟩
  | _, _, i + 1, _, .cons _ t, e => by
    obtain ⟨v, a, b⟩ := DdAll.getV (i := i) t (by simpa using e)
    exact ⟨v, by simpa using a, b⟩
theorem DdAll.append {K : PySem.W.Frag} {H : Hp} : ∀ {vs us : List V} {ds es : List PyData}, DdAll K H vs ds → DdAll K H us es → DdAll K H (vs ++ us) (ds ++ es)
  | _, _, _, _, .nil, s => s
  | _, _, _, _, .cons r t, s => .cons r (DdAll.append t s)
theorem DdAll.take {K : PySem.W.Frag} {H : Hp} : ∀ {vs : List V} {ds : List PyData} (n : Nat), DdAll K H vs ds → DdAll K H (vs.take n) (ds.take n)
  | _, _, 0, _ => .nil
  | _, _, _ + 1, .nil => .nil
  | _, _, n + 1, .cons r t => .cons r (DdAll.take n t)
theorem DdAll.drop {K : PySem.W.Frag} {H : Hp} : ∀ {vs : List V} {ds : List PyData} (n : Nat), DdAll K H vs ds → DdAll K H (vs.drop n) (ds.drop n)
  | _, _, 0, r => r
  | _, _, _ + 1, .nil => .nil
  | _, _, n + 1, .cons _ t => DdAll.drop n t
theorem DdAll.erase {K : PySem.W.Frag} {H : Hp} : ∀ {vs : List V} {ds : List PyData} (n : Nat), DdAll K H vs ds → DdAll K H (vs.eraseIdx n) (ds.eraseIdx n)
  | _, _, _, .nil => .nil
  | _, _, 0, .cons _ t => t
  | _, _, n + 1, .cons h t => .cons h (DdAll.erase n t)
mutual
inductive Rl (K : PySem.W.Frag) (F : Hp) : V → D → Prop
  | dat {v : V} {d : PyData} : Dd K F v d → Rl K F v (.dat d)
  | dit {a : Addr} {kvs : List (List Key × V)} {ds : List PyData} : F a = some (.dT kvs) → DdAll K F (kvs.map (·.2)) ds → Rl K F (.ref a) (.dit ((kvs.map (·.1)).zip ds))
  | obj {a dx : Addr} {fs : List (Str × V)} {c : Str} {ds : List D} : F a = some (.ins (He.ga K c) dx fs) → RlAll K F (fs.map (·.2)) ds → Rl K F (.ref a) (.obj c (fs.map (·.1)) ds)
  | ty (n : String) : Rl K F (.ty n) (.ty n)
  | cls (c : Str) : Rl K F (.ref (He.ga K c)) (.cls c)
  | wk {a : Addr} {vs : List V} {ds : List D} : SqT K F a vs → RlAll K F vs ds → Rl K F (.ref a) (.wk ds)
  | wl {a : Addr} {vs : List V} {ds : List D} : F a = some (.lst vs) → RlAll K F vs ds → Rl K F (.ref a) (.wl ds)
  | scr {a : Addr} {ns : List Int} : SqL K F a (ns.map V.int) → Rl K F (.ref a) (.scr ns)
  | exc {a dx : Addr} {c : Str} {v : V} {d : D} : F a = some (ExV (He.ga K c) dx a) → F dx = some (xdV v) → Rl K F v d → Rl K F (.ref a) (.exc c d)
inductive RlAll (K : PySem.W.Frag) (F : Hp) : List V → List D → Prop
  | nil : RlAll K F [] []
  | cons {v : V} {vs : List V} {d : D} {ds : List D} : Rl K F v d → RlAll K F vs ds → RlAll K F (v :: vs) (d :: ds)
end
mutual
theorem Rl.same {K : PySem.W.Frag} {F F' : Hp} (s : Same F F') : ∀ {v : V} {d : D}, Rl K F v d → Rl K F' v d
  | _, _, .dat h => .dat (h.same s)
  | _, _, .dit h t => .dit (s _ _ h) (t.same s)
  | _, _, .obj h t => .obj (s _ _ h) (RlAll.same s t)
  | _, _, .ty n => .ty n
  | _, _, .cls c => .cls c
  | _, _, .wk h t => .wk (Same.tup s h) (RlAll.same s t)
  | _, _, .wl h t => .wl (s _ _ h) (RlAll.same s t)
  | _, _, .scr h => .scr (s.seq h)
  | _, _, .exc h1 h2 h3 => .exc (s _ _ h1) (s _ _ h2) (Rl.same s h3)
theorem RlAll.same {K : PySem.W.Frag} {F F' : Hp} (s : Same F F') : ∀ {vs : List V} {ds : List D}, RlAll K F vs ds → RlAll K F' vs ds
  | _, _, .nil => .nil
  | _, _, .cons h t => .cons (Rl.same s h) (RlAll.same s t)
end
theorem RlAll.length {K : PySem.W.Frag} {F : Hp} : ∀ {vs : List V} {ds : List D}, RlAll K F vs ds → vs.length = ds.length
  | _, _, .nil => rfl
  | _, _, .cons _ t => congrArg Nat.succ t.length
theorem Rl.dd {K : PySem.W.Frag} {F : Hp} {v : V} {d : PyData} (h : Rl K F v (.dat d)) : Dd K F v d := by cases h; assumption
/-- an object that may change -/
inductive OwnR (K : PySem.W.Frag) (F H : Hp) (p : Addr) : D → Prop
  | lst {vs : List V} {ds : List PyData} : H p = some (.lst vs) → DdAll K F vs ds → OwnR K F H p (.dat (.list ds))
  | dic {kvs : List (Key × V)} {ds : List PyData} : H p = some (.dK kvs) → DdAll K F (kvs.map (·.2)) ds → OwnR K F H p (.dat (.dict ((kvs.map fun kv => keyD kv.1).zip ds)))
  | wl {vs : List V} {ds : List D} : H p = some (.lst vs) → RlAll K F vs ds → OwnR K F H p (.wl ds)
  | obj {dx : Addr} {fs : List (Str × V)} {c : Str} {ds : List D} : H p = some (.ins (He.ga K c) dx fs) → RlAll K F (fs.map (·.2)) ds → OwnR K F H p (.obj c (fs.map (·.1)) ds)
theorem OwnR.mono {K : PySem.W.Frag} {F F' H H' : Hp} {p : Addr} {d : D} (s : Same F F') (e : H' p = H p) (h : OwnR K F H p d) : OwnR K F' H' p d := by
  cases h with
  | lst h t => exact .lst (e.trans h) (t.same s)
  | dic h t => exact .dic (e.trans h) (t.same s)
  | wl h t => exact .wl (e.trans h) (t.same s)
  | obj h t => exact .obj (e.trans h) (t.same s)
theorem OwnR.kind {K : PySem.W.Frag} {F H : Hp} {p : Addr} {d : D} (h : OwnR K F H p d) : ∃ o, H p = some o ∧ (∀ ps, o ≠ .tbl ps) ∧ ∀ f, o ≠ .ext f := by
  cases h with
  | lst h t => exact ⟨_, h, (by intro _ z; cases z), by intro _ z; cases z⟩
  | dic h t => exact ⟨_, h, (by intro _ z; cases z), by intro _ z; cases z⟩
  | wl h t => exact ⟨_, h, (by intro _ z; cases z), by intro _ z; cases z⟩
  | obj h t => exact ⟨_, h, (by intro _ z; cases z), by intro _ z; cases z⟩
theorem OwnR.at {K : PySem.W.Frag} {F H : Hp} {p : Addr} {d : D} (h : OwnR K F H p d) : ∃ o, H p = some o := by
  cases h with
  | lst h t => exact ⟨_, h⟩
  | dic h t => exact ⟨_, h⟩
  | wl h t => exact ⟨_, h⟩
  | obj h t => exact ⟨_, h⟩
/-- it changes no more -/
theorem OwnR.freeze {K : PySem.W.Frag} {F H : Hp} {p : Addr} {d : D} (h : OwnR K F H p d) (n : F p = none) : ∃ o, H p = some o ∧ Rl K (upd F p o) (.ref p) d ∧ ∀ ps, o ≠ .tbl ps := by
  have s : ∀ o, Same F (upd F p o) := fun o => same_new n
  cases h with
  | lst h t => exact ⟨_, h, .dat (.lst upd_same (t.same (s _))), by intro _ z; cases z⟩
  | dic h t => exact ⟨_, h, .dat (.dict upd_same (t.same (s _))), by intro _ z; cases z⟩
  | wl h t => exact ⟨_, h, .wl upd_same (t.same (s _)), by intro _ z; cases z⟩
  | obj h t => exact ⟨_, h, .obj upd_same (t.same (s _)), by intro _ z; cases z⟩
/-! ### slots -/
inductive SV where
  | no | fz (d : D) | ow (d : D) | io (d : D)
def SV.own : SV → Bool
  | .ow _ => true
  | .io _ => true
  | _ => false
abbrev Env := List SV
/-- what is guarded; where the argument that is changed stands -/
structure Gd where
  h : Hp
  io : Addr
instance : Coe Gd Hp := ⟨Gd.h⟩
instance : CoeFun Gd (fun _ => Addr → Option HO) := ⟨Gd.h⟩
/-- one object more -/
def Gd.add (G : Gd) (p : Addr) (o : HO) : Gd := ⟨upd G.h p o, G.io⟩
theorem add_same {G : Gd} {p : Addr} {o : HO} : (G.add p o).h p = some o := upd_same
theorem add_ne {G : Gd} {p b : Addr} {o : HO} (h : b ≠ p) : (G.add p o).h b = G.h b := upd_ne h
def OwnAt (σ : L2.St) (δ : Env) (i : Nat) (p : Addr) : Prop := σ[i]? = some (some (.ref p)) ∧ ∃ v, δ[i]? = some v ∧ v.own = true
def SlotR (K : PySem.W.Frag) (F : Hp) (G : Gd) (H : Hp) (s : Option (Option V)) : SV → Prop
  | .no => True
  | .fz d => ∃ u, s = some (some u) ∧ Rl K F u d
  | .ow d => ∃ p, s = some (some (.ref p)) ∧ F p = none ∧ G p = none ∧ OwnR K F H p d
  | .io d => s = some (some (.ref G.io)) ∧ F G.io = none ∧ G G.io = none ∧ OwnR K F H G.io d
/-- no table of code objects -/
def noTb (F : Hp) : Prop := ∀ b ps, F b ≠ some (.tbl ps)
structure SR (K : PySem.W.Frag) (F : Hp) (G : Gd) (σ : L2.St) (H : Hp) (δ : Env) : Prop where
  len : σ.length = δ.length
  fh : Same F H
  gh : Same G H
  sl : ∀ (i : Nat) (v : SV), δ[i]? = some v → SlotR K F G H (σ[i]?) v
  inj : ∀ (i j : Nat) (p : Addr), i ≠ j → OwnAt σ δ i p → OwnAt σ δ j p → False
  tb : MT.LamT K H
  gn : ∀ b ps, G.h b ≠ some (.tbl ps)
  fn : noTb F
/-- frozen things come to it, none of them guarded -/
structure Ext (F : Hp) (G : Hp) (F' : Hp) : Prop where
  same : Same F F'
  off : ∀ b, G b ≠ none → F' b = F b
  nt : noTb F → noTb F'
theorem Ext.refl (F : Hp) (G : Hp) : Ext F G F := ⟨Same.refl _, fun _ _ => rfl, fun h => h⟩
theorem Ext.trans {F F1 F2 : Hp} {G : Hp} (a : Ext F G F1) (b : Ext F1 G F2) : Ext F G F2 := ⟨a.same.trans b.same, fun c n => (b.off c n).trans (a.off c n), fun h => b.nt (a.nt h)⟩
theorem Ext.new {F : Hp} {G : Hp} {p : Addr} {o : HO} (n : F p = none) (g : G p = none) (ho : ∀ ps, o ≠ .tbl ps := by intro _ z; cases z) : Ext F G (upd F p o) := ⟨same_new n, fun b h => upd_ne (fun e => h (by rw [e]; exact g)), fun h b ps z => by
  by_cases e : b = p
  · rw [e, upd_same] at z
    exact ho ps (Option.some.inj z)
  · rw [upd_ne e] at z
    exact h b ps z⟩
section
variable {K : PySem.W.Frag} {F F' : Hp} {G : Gd} {σ : L2.St} {H H' : Hp} {δ : Env}
/-- what is tracked stays, frozen things come -/
theorem SlotR.keep {s : Option (Option V)} {v : SV} (h : SlotR K F G H s v) (e : Same F F') (hk : ∀ p, s = some (some (.ref p)) → v.own = true → F' p = none ∧ H' p = H p) : SlotR K F' G H' s v := by
  cases v with
  | no => trivial
  | fz d => obtain ⟨u, a, b⟩ := h; exact ⟨u, a, b.same e⟩
  | ow d => obtain ⟨p, a, b, c, z⟩ := h; obtain ⟨k1, k2⟩ := hk p a rfl; exact ⟨p, a, k1, c, z.mono e k2⟩
  | io d => obtain ⟨a, b, c, z⟩ := h; obtain ⟨k1, k2⟩ := hk _ a rfl; exact ⟨a, k1, c, z.mono e k2⟩
theorem SlotR.own {s : Option (Option V)} {v : SV} (h : SlotR K F G H s v) (hv : v.own = true) : ∃ p o, s = some (some (.ref p)) ∧ F p = none ∧ G p = none ∧ H p = some o := by
  cases v with
  | no => cases hv
  | fz d => cases hv
  | ow d => obtain ⟨p, a, b, c, z⟩ := h; obtain ⟨o, z⟩ := z.at; exact ⟨p, o, a, b, c, z⟩
  | io d => obtain ⟨a, b, c, z⟩ := h; obtain ⟨o, z⟩ := z.at; exact ⟨_, o, a, b, c, z⟩
theorem SR.ownAt (S : SR K F G σ H δ) {i : Nat} {p : Addr} (h : OwnAt σ δ i p) : F p = none ∧ G p = none ∧ ∃ o, H p = some o := by
  obtain ⟨a, v, b, c⟩ := h
  obtain ⟨q, o, e, h1, h2, h3⟩ := (S.sl i v b).own c
  rw [a] at e
  cases e
  exact ⟨h1, h2, o, h3⟩
theorem SR.ownK (S : SR K F G σ H δ) {i : Nat} {p : Addr} (h : OwnAt σ δ i p) : ∃ o, H p = some o ∧ (∀ ps, o ≠ .tbl ps) ∧ ∀ f, o ≠ .ext f := by
  obtain ⟨a, v, b, c⟩ := h
  have z := S.sl i v b
  cases v with
  | no => cases c
  | fz d => cases c
  | ow d => obtain ⟨q, e, _, _, r⟩ := z; rw [a] at e; cases e; exact r.kind
  | io d =>
    obtain ⟨e, _, _, r⟩ := z
    rw [a] at e
    have ep : p = G.io := by injection e with e; injection e with e; injection e
    rw [ep]; exact r.kind
theorem SR.gf (S : SR K F G σ H δ) {p : Addr} (n : H p = none) : F p = none ∧ G p = none := ⟨Same.free S.fh n, Same.free S.gh n⟩
/-- the heap grows, the owned objects stay -/
theorem SR.grow (S : SR K F G σ H δ) (e : Ext F G F') (fh : Same F' H') (gh : Same G H') (ho : ∀ i p, OwnAt σ δ i p → F' p = none ∧ H' p = H p) (tb : MT.LamT K H') : SR K F' G σ H' δ :=
  ⟨S.len, fh, gh, fun i v hv => (S.sl i v hv).keep e.same fun p a b => ho i p ⟨a, v, hv, b⟩, S.inj, tb, S.gn, e.nt S.fn⟩
/-- a new object, not frozen -/
theorem SR.new (S : SR K F G σ H δ) {p : Addr} {o : HO} (n : H p = none) : SR K F G σ (upd H p o) δ :=
  S.grow (Ext.refl _ _) (S.fh.trans (same_new n)) (S.gh.trans (same_new n)) (fun i q hq => by
    obtain ⟨h1, _, o', h3⟩ := S.ownAt hq
    exact ⟨h1, upd_ne (ne_of_none h3 n)⟩) (S.tb.ext (same_new n))
/-- a new object, frozen -/
theorem SR.newF (S : SR K F G σ H δ) {p : Addr} {o : HO} (n : H p = none) (ho : ∀ ps, o ≠ .tbl ps := by intro _ z; cases z) : SR K (upd F p o) G σ (upd H p o) δ ∧ Ext F G (upd F p o) := by
  obtain ⟨f, g⟩ := S.gf n
  have x : Ext F G (upd F p o) := Ext.new f g ho
  refine ⟨S.grow x (fun b u h => ?_) (S.gh.trans (same_new n)) (fun i q hq => ?_) (S.tb.ext (same_new n)), x⟩
  · by_cases e : b = p
    · rw [e, upd_same] at h
      rw [e, upd_same]; exact h
    · rw [upd_ne e] at h
      rw [upd_ne e]; exact S.fh _ _ h
  · obtain ⟨h1, _, o', h3⟩ := S.ownAt hq
    have nq : q ≠ p := ne_of_none h3 n
    exact ⟨by rw [upd_ne nq]; exact h1, upd_ne nq⟩
/-- a temporary object is frozen -/
theorem SR.freezeT (S : SR K F G σ H δ) {p : Addr} {o : HO} (h : H p = some o) (f : F p = none) (g : G p = none) (hn : ∀ i, ¬ OwnAt σ δ i p) (ht : ∀ ps, o ≠ .tbl ps) : SR K (upd F p o) G σ H δ ∧ Ext F G (upd F p o) := by
  have x : Ext F G (upd F p o) := Ext.new f g ht
  refine ⟨S.grow x (fun b u q => ?_) S.gh (fun i q hq => ?_) S.tb, x⟩
  · by_cases e : b = p
    · rw [e, upd_same] at q
      rw [e]; exact h.trans q
    · rw [upd_ne e] at q
      exact S.fh _ _ q
  · obtain ⟨h1, _, o', h3⟩ := S.ownAt hq
    have nq : q ≠ p := fun e => hn i (e ▸ hq)
    exact ⟨by rw [upd_ne nq]; exact h1, rfl⟩
end
end DL

namespace DL
open PySem PySem.Spec PyProof.Rows L2 MT
/-! ### meanings -/
inductive Res (α : Type) where
  | ok (a : α) (δ : Env) | err (c : Str) (d : D) (δ : Env) | stuck
def Res.bind {α β : Type} (r : Res α) (k : α → Env → Res β) : Res β := match r with
  | .ok a δ => k a δ
  | .err c d δ => .err c d δ
  | .stuck => .stuck
abbrev M (α : Type) := Env → Res α
def mBind {α β : Type} (m : M α) (k : α → M β) : M β := fun δ => (m δ).bind k
def mOk {α : Type} (a : α) : M α := fun δ => .ok a δ
def mOf {α : Type} (o : Option α) : M α := fun δ => match o with
  | some a => .ok a δ
  | none => .stuck
/-- what is wanted of an outcome -/
def Post {α : Type} (K : PySem.W.Frag) (E : XK) (F : Hp) (G : Gd) (σ : L2.St) (r : Res α) (R : α → Env → Hp → Hp → Prop) : Prop := match r with
  | .ok a δ' => ∀ F' H', Ext F G F' → SR K F' G σ H' δ' → R a δ' F' H'
  | .err c d δ' => ∀ (dx : Addr) (v : V) F' H', Ext F G F' → SR K F' G σ H' δ' → F' dx = some (xdV v) → Rl K F' v d → E (.ref (He.ga K c)) (some dx) H'
  | .stuck => False
section
variable {K : PySem.W.Frag} {E : XK} {F F' : Hp} {G : Gd} {σ : L2.St} {H H' : Hp} {δ : Env} {α β : Type} {r : Res α} {R R' : α → Env → Hp → Hp → Prop}
theorem Post.ext (e : Ext F G F') (h : Post K E F G σ r R) : Post K E F' G σ r R := by
  cases r with
  | ok a δ' => exact fun F2 H2 e2 s2 => h F2 H2 (e.trans e2) s2
  | err c d δ' => exact fun dx v F2 H2 e2 s2 => h dx v F2 H2 (e.trans e2) s2
  | stuck => exact h
theorem Post.bind {k : α → Env → Res β} {Q : β → Env → Hp → Hp → Prop} (h : Post K E F G σ (r.bind k) Q) : Post K E F G σ r fun a δ1 F1 H1 => Post K E F1 G σ (k a δ1) Q := by
  cases r with
  | ok a δ' => exact fun F2 H2 e2 s2 => Post.ext e2 h
  | err c d δ' => exact h
  | stuck => exact h
theorem Post.imp (h : Post K E F G σ r R) (i : ∀ a δ' F' H', Ext F G F' → SR K F' G σ H' δ' → R a δ' F' H' → R' a δ' F' H') : Post K E F G σ r R' := by
  cases r with
  | ok a δ' => exact fun F2 H2 e2 s2 => i _ _ _ _ e2 s2 (h F2 H2 e2 s2)
  | err c d δ' => exact h
  | stuck => exact h
theorem Post.imp2 (h : Post K E F G σ r R) (i : ∀ a δ', (∀ F' H', Ext F G F' → SR K F' G σ H' δ' → R a δ' F' H') → ∀ F' H', Ext F G F' → SR K F' G σ H' δ' → R' a δ' F' H') : Post K E F G σ r R' := by
  cases r with
  | ok a δ' => exact i a δ' h
  | err c d δ' => exact h
  | stuck => exact h
theorem Post.of {o : Option α} {Q : α → Env → Hp → Hp → Prop} (h : Post K E F G σ (mOf o δ) Q) : ∃ a, o = some a ∧ ∀ F' H', Ext F G F' → SR K F' G σ H' δ → Q a δ F' H' := by
  cases o with
  | some a => exact ⟨a, rfl, h⟩
  | none => exact h.elim
end
/-! ### readings by meanings -/
def tD (K : PySem.W.Frag) (E : XK) (m : M D) : TE := fun σ H Q => ∃ F G δ, SR K F G σ H δ ∧ Post K E F G σ (m δ) fun d _ F' H' => ∀ v, Rl K F' v d → Q v H'
def tBo (K : PySem.W.Frag) (E : XK) (m : M Bool) : TT := fun σ H Q => ∃ F G δ, SR K F G σ H δ ∧ Post K E F G σ (m δ) fun b _ _ H' => Q b H'
def tDs (K : PySem.W.Frag) (E : XK) (m : M (List D)) : TA := fun σ H Q => ∃ F G δ, SR K F G σ H δ ∧ Post K E F G σ (m δ) fun ds _ F' H' => ∀ vs, RlAll K F' vs ds → Q vs H'
def tPo (K : PySem.W.Frag) (E : XK) (m : M (Option Int)) : TO := fun σ H Q => ∃ F G δ, SR K F G σ H δ ∧ Post K E F G σ (m δ) fun o _ _ H' => Q o H'
/-- a new object, not yet frozen -/
def tFr (K : PySem.W.Frag) (E : XK) (m : M D) : TE := fun σ H Q => ∃ F G δ, SR K F G σ H δ ∧ Post K E F G σ (m δ) fun d δ' F' H' => ∀ p, F' p = none → G p = none → OwnR K F' H' p d → (∀ i, ¬ OwnAt σ δ' i p) → Q (.ref p) H'
section
variable {X : Cx} {e : Expr} {es : List Expr} {s : Stmt} {ss : List Stmt}
theorem dx {t t' : TE} (h : PE X e t) (i : ∀ σ H Q, t' σ H Q → t σ H Q) : PE X e t' := ⟨fun pins s σ H Q I q => h.run pins s σ H Q I (i σ H Q q)⟩
theorem dt {t t' : TT} (h : PT X e t) (i : ∀ σ H Q, t' σ H Q → t σ H Q) : PT X e t' := ⟨fun pins s σ H Q I q => h.run pins s σ H Q I (i σ H Q q)⟩
theorem dw {t t' : TT} (h : PW X e t) (i : ∀ σ H Q, t' σ H Q → t σ H Q) : PW X e t' := ⟨fun wh pins s σ H Q I q => h.run wh pins s σ H Q I (i σ H Q q)⟩
theorem da {t t' : TA} (h : PA X es t) (i : ∀ σ H Q, t' σ H Q → t σ H Q) : PA X es t' := ⟨fun pos pins s σ H Q I q => h.run pos pins s σ H Q I (i σ H Q q)⟩
theorem ds {t t' : TS} (h : PS X s t) (i : ∀ D σ H, t' D σ H → t D σ H) : PS X s t' := ⟨fun pins s σ H D I q => h.run pins s σ H D I (i D σ H q)⟩
theorem dss {t t' : TS} (h : PSs X ss t) (i : ∀ D σ H, t' D σ H → t D σ H) : PSs X ss t' := ⟨fun pins s σ H D I q => h.run pins s σ H D I (i D σ H q)⟩
end
/-! ### slots -/
section
variable {K : PySem.W.Frag} {E : XK} {F F' : Hp} {G : Gd} {σ : L2.St} {H H' : Hp} {δ : Env}
theorem OwnAt.of_set {i j : Nat} {p : Addr} {v : SV} (h : OwnAt σ (δ.set i v) j p) (hn : i = j → v.own = false) : OwnAt σ δ j p ∧ i ≠ j := by
  obtain ⟨a, w, b, c⟩ := h
  by_cases e : i = j
  · subst e
    rw [List.getElem?_set] at b
    simp only [if_true] at b
    split at b
    · cases b
      rw [hn rfl] at c; cases c
    · cases b
  · rw [List.getElem?_set_ne e] at b
    exact ⟨⟨a, w, b, c⟩, e⟩
/-- a slot's object is frozen -/
theorem SR.freeze (S : SR K F G σ H δ) {i : Nat} {d : D} (hi : δ[i]? = some (.ow d)) : ∃ p o, σ[i]? = some (some (.ref p)) ∧ SR K (upd F p o) G σ H (δ.set i (.fz d)) ∧ Ext F G (upd F p o) ∧ Rl K (upd F p o) (.ref p) d := by
  obtain ⟨p, a, f, g, z⟩ := S.sl i _ hi
  obtain ⟨o, ho, r, ht⟩ := z.freeze f
  have x : Ext F G (upd F p o) := Ext.new f g ht
  refine ⟨p, o, a, ⟨by rw [List.length_set]; exact S.len, fun b u q => ?_, S.gh, fun j v hv => ?_, fun j k q hjk h1 h2 => ?_, S.tb, S.gn, x.nt S.fn⟩, x, r⟩
  · by_cases e : b = p
    · rw [e, upd_same] at q
      rw [e]; exact ho.trans q
    · rw [upd_ne e] at q
      exact S.fh _ _ q
  · by_cases e : i = j
    · subst e
      have hl : i < δ.length := (List.getElem?_eq_some_iff.mp hi).1
      rw [List.getElem?_set_self hl] at hv
      cases hv
      exact ⟨_, a, r⟩
    · rw [List.getElem?_set_ne e] at hv
      refine (S.sl j v hv).keep x.same fun q hq ho => ?_
      have ow : OwnAt σ δ j q := ⟨hq, v, hv, ho⟩
      have nq : q ≠ p := fun z => S.inj i j p e ⟨a, _, hi, rfl⟩ (z ▸ ow)
      exact ⟨by rw [upd_ne nq]; exact (S.ownAt ow).1, rfl⟩
  · exact S.inj j k q hjk (h1.of_set fun _ => rfl).1 (h2.of_set fun _ => rfl).1
end
/-! ### names, constants -/
section
variable {K : PySem.W.Frag} {E : XK}
def mVar (i : Nat) : M D := fun δ => match δ[i]? with
  | some (.fz d) => .ok d δ
  | some (.ow d) => .ok d (δ.set i (.fz d))
  | _ => .stuck
theorem md_var {i : Nat} : ∀ σ H Q, tD K E (mVar i) σ H Q → tVar i σ H Q := by
  rintro σ H Q ⟨F, G, δ, S, h⟩
  unfold mVar at h
  split at h
  · rename_i d hd
    obtain ⟨u, a, r⟩ := S.sl i _ hd
    exact ⟨u, a, h F H (Ext.refl _ _) S u r⟩
  · rename_i d hd
    obtain ⟨p, o, a, S2, x, r⟩ := S.freeze hd
    exact ⟨_, a, h _ H x S2 _ r⟩
  · exact h.elim
theorem md_c {v : V} {d : D} (r : ∀ F, Rl K F v d) : ∀ σ H Q, tD K E (mOk d) σ H Q → tC v σ H Q := by
  rintro σ H Q ⟨F, G, δ, S, h⟩
  exact h F H (Ext.refl _ _) S v (r F)
theorem md_int {i : Int} : ∀ σ H Q, tD K E (mOk (.dat (.int i))) σ H Q → tC (.int i) σ H Q := md_c fun _ => .dat (.int i)
theorem md_str {i : Str} : ∀ σ H Q, tD K E (mOk (.dat (.str i))) σ H Q → tC (.str i) σ H Q := md_c fun _ => .dat (.str i)
theorem md_ty {n : String} : ∀ σ H Q, tD K E (mOk (.ty n)) σ H Q → tC (.ty n) σ H Q := md_c fun _ => .ty n
theorem md_cls {c : Str} : ∀ σ H Q, tD K E (mOk (.cls c)) σ H Q → tC (.ref (He.ga K c)) σ H Q := md_c fun _ => .cls c
theorem md_bl {i : Bool} : ∀ σ H Q, tD K E (mOk (.dat (.bool i))) σ H Q → tC (.bl i) σ H Q := md_c fun _ => .dat (.bl i)
theorem md_non : ∀ σ H Q, tD K E (mOk (.dat .none)) σ H Q → tC .non σ H Q := md_c fun _ => .dat .non
/-! ### operators by values -/
/-- r does f of what is shown -/
def RO (K : PySem.W.Frag) (r : R2) (f : D → D → Option D) : Prop := ∀ {F : Hp} {G : Gd} {σ : L2.St} {H : Hp} {δ : Env} {x y : V} {dx dy d : D} {Q : VK}, SR K F G σ H δ → Rl K F x dx → Rl K F y dy → f dx dy = some d →
  (∀ z F' H', Ext F G F' → SR K F' G σ H' δ → Rl K F' z d → Q z H') → r x y H Q
def mOp (f : D → D → Option D) (ma mb : M D) : M D := fun δ => (ma δ).bind fun x δ1 => (mb δ1).bind fun y δ2 => mOf (f x y) δ2
theorem md_op {r : R2} {f : D → D → Option D} {ma mb : M D} (hr : RO K r f) : ∀ σ H Q, tD K E (mOp f ma mb) σ H Q → tOp r (tD K E ma) (tD K E mb) σ H Q := by
  rintro σ H Q ⟨F, G, δ, S, h⟩
  refine ⟨F, G, δ, S, h.bind.imp fun x δ1 F1 H1 e1 S1 q v rv => ⟨F1, G, δ1, S1, q.bind.imp fun y δ2 F2 H2 e2 S2 q2 w rw => ?_⟩⟩
  obtain ⟨d, hd, q3⟩ := q2.of
  exact hr S2 (rv.same e2.same) rw hd fun z F' H' e S' rz => q3 F' H' e S' z rz
def mOpB (f : D → D → Option Bool) (ma mb : M D) : M Bool := fun δ => (ma δ).bind fun x δ1 => (mb δ1).bind fun y δ2 => mOf (f x y) δ2
def boD (o : Option Bool) : Option D := o.map fun b => .dat (.bool b)
theorem md_opB {r : R2} {f : D → D → Option Bool} {ma mb : M D} (hr : RO K r fun x y => boD (f x y)) : ∀ σ H Q, tBo K E (mOpB f ma mb) σ H Q → tTest (tOp r (tD K E ma) (tD K E mb)) σ H Q := by
  rintro σ H Q ⟨F, G, δ, S, h⟩
  refine ⟨F, G, δ, S, h.bind.imp fun x δ1 F1 H1 e1 S1 q v rv => ⟨F1, G, δ1, S1, q.bind.imp fun y δ2 F2 H2 e2 S2 q2 w rw => ?_⟩⟩
  obtain ⟨b, hb, q3⟩ := q2.of
  refine hr S2 (rv.same e2.same) rw (d := .dat (.bool b)) (by show boD (f x y) = _; rw [hb]; rfl) fun z F' H' e S' rz => ?_
  cases rz.dd
  exact ⟨b, rfl, q3 F' H' e S'⟩
/-- one value -/
def RU (K : PySem.W.Frag) (r : V → Hp → VK → Prop) (f : D → Option D) : Prop := ∀ {F : Hp} {G : Gd} {σ : L2.St} {H : Hp} {δ : Env} {x : V} {dx d : D} {Q : VK}, SR K F G σ H δ → Rl K F x dx → f dx = some d →
  (∀ z F' H', Ext F G F' → SR K F' G σ H' δ → Rl K F' z d → Q z H') → r x H Q
def mUn (f : D → Option D) (ma : M D) : M D := fun δ => (ma δ).bind fun x δ1 => mOf (f x) δ1
theorem md_un {r : V → Hp → VK → Prop} {f : D → Option D} {ma : M D} (hr : RU K r f) : ∀ σ H Q, tD K E (mUn f ma) σ H Q → tUn r (tD K E ma) σ H Q := by
  rintro σ H Q ⟨F, G, δ, S, h⟩
  refine ⟨F, G, δ, S, h.bind.imp fun x δ1 F1 H1 e1 S1 q v rv => ?_⟩
  obtain ⟨d, hd, q3⟩ := q.of
  exact hr S1 rv hd fun z F' H' e S' rz => q3 F' H' e S' z rz
/-- a < b < c -/
def mChain (f g : D → D → Option Bool) (ma mb mc : M D) : M Bool := fun δ => (ma δ).bind fun x δ1 => (mb δ1).bind fun y δ2 => (mOf (f x y) δ2).bind fun b δ3 => if b = true then (mc δ3).bind fun z δ4 => mOf (g y z) δ4 else .ok false δ3
def mBD (m : M Bool) : M D := fun δ => (m δ).bind fun b δ1 => .ok (.dat (.bool b)) δ1
theorem chain_aux {r r' : R2} {f g : D → D → Option Bool} {ma mb mc : M D} (hr : RO K r fun x y => boD (f x y)) (hr' : RO K r' fun x y => boD (g x y)) {σ : L2.St} {H : Hp} {Q : VK} {F : Hp} {G : Gd} {δ : Env} (S : SR K F G σ H δ)
    (h : Post K E F G σ (mChain f g ma mb mc δ) fun b _ _ H' => Q (.bl b) H') : tChain r r' (tD K E ma) (tD K E mb) (tD K E mc) σ H Q := by
  refine ⟨F, G, δ, S, h.bind.imp fun x δ1 F1 H1 e1 S1 q v rv => ⟨F1, G, δ1, S1, q.bind.imp fun y δ2 F2 H2 e2 S2 q2 w rw => ?_⟩⟩
  obtain ⟨b, hb, q3⟩ := q2.bind.of
  refine hr S2 (rv.same e2.same) rw (d := .dat (.bool b)) (by show boD (f x y) = _; rw [hb]; rfl) fun z F' H' e S' rz => ?_
  cases rz.dd
  have q4 := q3 F' H' e S'
  refine ⟨b, rfl, ?_⟩
  cases b with
  | true =>
    rw [if_pos rfl] at q4 ⊢
    refine ⟨F', G, δ2, S', q4.bind.imp fun c δ3 F3 H3 e3 S3 q5 u ru => ?_⟩
    obtain ⟨b, hb, q6⟩ := q5.of
    refine hr' S3 ((rw.same e.same).same e3.same) ru (d := .dat (.bool b)) (by show boD (g y c) = _; rw [hb]; rfl) fun z F'' H'' e' S'' rz' => ?_
    cases rz'.dd
    exact q6 F'' H'' e' S''
  | false =>
    rw [if_neg Bool.false_ne_true] at q4 ⊢
    exact q4 F' H' (Ext.refl _ _) S'
theorem md_chainB {r r' : R2} {f g : D → D → Option Bool} {ma mb mc : M D} (hr : RO K r fun x y => boD (f x y)) (hr' : RO K r' fun x y => boD (g x y)) : ∀ σ H Q, tBo K E (mChain f g ma mb mc) σ H Q → tTest (tChain r r' (tD K E ma) (tD K E mb) (tD K E mc)) σ H Q := by
  rintro σ H Q ⟨F, G, δ, S, h⟩
  exact chain_aux hr hr' S (h.imp fun b δ' F' H' _ _ q => ⟨b, rfl, q⟩)
theorem md_chain {r r' : R2} {f g : D → D → Option Bool} {ma mb mc : M D} (hr : RO K r fun x y => boD (f x y)) (hr' : RO K r' fun x y => boD (g x y)) : ∀ σ H Q, tD K E (mBD (mChain f g ma mb mc)) σ H Q → tChain r r' (tD K E ma) (tD K E mb) (tD K E mc) σ H Q := by
  rintro σ H Q ⟨F, G, δ, S, h⟩
  exact chain_aux hr hr' S (h.bind.imp fun b δ' F' H' _ S' q => q F' H' (Ext.refl _ _) S' _ (.dat (.bl b)))
/-! ### tests -/
def asB : D → Option Bool
  | .dat (.bool b) => some b
  | _ => none
def mTest (m : M D) : M Bool := fun δ => (m δ).bind fun d δ1 => mOf (asB d) δ1
theorem asB_eq {d : D} {b : Bool} (h : asB d = some b) : d = .dat (.bool b) := by
  unfold asB at h
  split at h
  · cases h; rfl
  · cases h
theorem md_test {m : M D} : ∀ σ H Q, tBo K E (mTest m) σ H Q → tB (tD K E m) σ H Q := by
  rintro σ H Q ⟨F, G, δ, S, h⟩
  refine ⟨F, G, δ, S, h.bind.imp fun x δ1 F1 H1 e1 S1 q v rv => ?_⟩
  obtain ⟨b, hb, q3⟩ := q.of
  have e := asB_eq hb
  subst e
  cases rv.dd
  exact ⟨b, rfl, q3 F1 H1 (Ext.refl _ _) S1⟩
def mAnd (a b : M Bool) : M Bool := fun δ => (a δ).bind fun x δ1 => if x = true then b δ1 else .ok false δ1
def mOr (a b : M Bool) : M Bool := fun δ => (a δ).bind fun x δ1 => if x = true then .ok true δ1 else b δ1
def mNot (a : M Bool) : M Bool := fun δ => (a δ).bind fun x δ1 => .ok (!x) δ1
theorem md_and {a b : M Bool} : ∀ σ H Q, tBo K E (mAnd a b) σ H Q → tAnd (tBo K E a) (tBo K E b) σ H Q := by
  rintro σ H Q ⟨F, G, δ, S, h⟩
  refine ⟨F, G, δ, S, h.bind.imp fun x δ1 F1 H1 e1 S1 q => ?_⟩
  cases x with
  | true => rw [if_pos rfl] at q ⊢; exact ⟨F1, G, δ1, S1, q⟩
  | false => rw [if_neg Bool.false_ne_true] at q ⊢; exact q F1 H1 (Ext.refl _ _) S1
theorem md_or {a b : M Bool} : ∀ σ H Q, tBo K E (mOr a b) σ H Q → tOr (tBo K E a) (tBo K E b) σ H Q := by
  rintro σ H Q ⟨F, G, δ, S, h⟩
  refine ⟨F, G, δ, S, h.bind.imp fun x δ1 F1 H1 e1 S1 q => ?_⟩
  cases x with
  | false => rw [if_neg Bool.false_ne_true] at q ⊢; exact ⟨F1, G, δ1, S1, q⟩
  | true => rw [if_pos rfl] at q ⊢; exact q F1 H1 (Ext.refl _ _) S1
theorem md_not {a : M Bool} : ∀ σ H Q, tBo K E (mNot a) σ H Q → tNot (tBo K E a) σ H Q := by
  rintro σ H Q ⟨F, G, δ, S, h⟩
  exact ⟨F, G, δ, S, h.bind.imp fun x δ1 F1 H1 e1 S1 q => q F1 H1 (Ext.refl _ _) S1⟩
/-- .. as values -/
def mAndV (a b : M D) : M D := fun δ => (mTest a δ).bind fun x δ1 => if x = true then b δ1 else .ok (.dat (.bool false)) δ1
def mOrV (a b : M D) : M D := fun δ => (mTest a δ).bind fun x δ1 => if x = true then .ok (.dat (.bool true)) δ1 else b δ1
def mNotV (a : M D) : M D := fun δ => (mTest a δ).bind fun x δ1 => .ok (.dat (.bool (!x))) δ1
theorem test_of {m : M D} {σ : L2.St} {F : Hp} {G : Gd} {δ : Env} {R : Bool → Env → Hp → Hp → Prop} (h : Post K E F G σ (mTest m δ) R) : Post K E F G σ (m δ) fun d δ' F' H' => ∀ v, Rl K F' v d → ∃ b, v = .bl b ∧ R b δ' F' H' :=
  h.bind.imp fun d δ' F' H' _ S' q v rv => by
    obtain ⟨b, hb, q3⟩ := q.of
    have e := asB_eq hb
    subst e
    cases rv.dd
    exact ⟨b, rfl, q3 F' H' (Ext.refl _ _) S'⟩
theorem md_andV {a b : M D} : ∀ σ H Q, tD K E (mAndV a b) σ H Q → tAndV (tD K E a) (tD K E b) σ H Q := by
  rintro σ H Q ⟨F, G, δ, S, h⟩
  refine ⟨F, G, δ, S, (test_of h.bind).imp fun d δ1 F1 H1 e1 S1 q v rv => ?_⟩
  obtain ⟨x, e, q⟩ := q v rv
  refine ⟨x, e, ?_⟩
  cases x with
  | true => rw [if_pos rfl] at q ⊢; exact ⟨F1, G, δ1, S1, q⟩
  | false => rw [if_neg Bool.false_ne_true] at q ⊢; exact q F1 H1 (Ext.refl _ _) S1 _ (.dat (.bl false))
theorem md_orV {a b : M D} : ∀ σ H Q, tD K E (mOrV a b) σ H Q → tOrV (tD K E a) (tD K E b) σ H Q := by
  rintro σ H Q ⟨F, G, δ, S, h⟩
  refine ⟨F, G, δ, S, (test_of h.bind).imp fun d δ1 F1 H1 e1 S1 q v rv => ?_⟩
  obtain ⟨x, e, q⟩ := q v rv
  refine ⟨x, e, ?_⟩
  cases x with
  | false => rw [if_neg Bool.false_ne_true] at q ⊢; exact ⟨F1, G, δ1, S1, q⟩
  | true => rw [if_pos rfl] at q ⊢; exact q F1 H1 (Ext.refl _ _) S1 _ (.dat (.bl true))
theorem md_notV {a : M D} : ∀ σ H Q, tD K E (mNotV a) σ H Q → tNotV (tD K E a) σ H Q := by
  rintro σ H Q ⟨F, G, δ, S, h⟩
  refine ⟨F, G, δ, S, (test_of h.bind).imp fun d δ1 F1 H1 e1 S1 q v rv => ?_⟩
  obtain ⟨x, e, q⟩ := q v rv
  exact ⟨x, e, q F1 H1 (Ext.refl _ _) S1 _ (.dat (.bl (!x)))⟩
/-- a if c else b -/
def mIf {α : Type} (c : M Bool) (a b : M α) : M α := fun δ => (c δ).bind fun x δ1 => if x = true then a δ1 else b δ1
theorem md_if {c : M Bool} {a b : M D} : ∀ σ H Q, tD K E (mIf c a b) σ H Q → tIf (tBo K E c) (tD K E a) (tD K E b) σ H Q := by
  rintro σ H Q ⟨F, G, δ, S, h⟩
  refine ⟨F, G, δ, S, h.bind.imp fun x δ1 F1 H1 e1 S1 q => ?_⟩
  cases x with
  | true => rw [if_pos rfl] at q ⊢; exact ⟨F1, G, δ1, S1, q⟩
  | false => rw [if_neg Bool.false_ne_true] at q ⊢; exact ⟨F1, G, δ1, S1, q⟩
theorem md_ifF {c : M Bool} {a b : M D} : ∀ σ H Q, tFr K E (mIf c a b) σ H Q → tIf (tBo K E c) (tFr K E a) (tFr K E b) σ H Q := by
  rintro σ H Q ⟨F, G, δ, S, h⟩
  refine ⟨F, G, δ, S, h.bind.imp fun x δ1 F1 H1 e1 S1 q => ?_⟩
  cases x with
  | true => rw [if_pos rfl] at q ⊢; exact ⟨F1, G, δ1, S1, q⟩
  | false => rw [if_neg Bool.false_ne_true] at q ⊢; exact ⟨F1, G, δ1, S1, q⟩
/-! ### argument lists, displays -/
def mNil : M (List D) := mOk []
def mCons (a : M D) (r : M (List D)) : M (List D) := fun δ => (a δ).bind fun x δ1 => (r δ1).bind fun xs δ2 => .ok (x :: xs) δ2
theorem md_nil : ∀ σ H Q, tDs K E mNil σ H Q → tNil σ H Q := by
  rintro σ H Q ⟨F, G, δ, S, h⟩
  exact h F H (Ext.refl _ _) S _ .nil
theorem md_cons {a : M D} {r : M (List D)} : ∀ σ H Q, tDs K E (mCons a r) σ H Q → tCons (tD K E a) (tDs K E r) σ H Q := by
  rintro σ H Q ⟨F, G, δ, S, h⟩
  exact ⟨F, G, δ, S, h.bind.imp fun x δ1 F1 H1 e1 S1 q v rv => ⟨F1, G, δ1, S1, q.bind.imp fun xs δ2 F2 H2 e2 S2 q2 vs rvs => q2 F2 H2 (Ext.refl _ _) S2 _ (.cons (rv.same e2.same) rvs)⟩⟩
/-- all are data -/
def datAll : List D → Option (List PyData)
  | [] => some []
  | .dat x :: r => (datAll r).map (x :: ·)
  | _ :: _ => none
theorem datAll_rl {F : Hp} : ∀ {ds : List D} {xs : List PyData} {vs : List V}, datAll ds = some xs → RlAll K F vs ds → DdAll K F vs xs
  | [], _, _, h, .nil => by cases h; exact .nil
  | .dat x :: r, _, _, h, .cons a t => by
    unfold datAll at h
    cases e : datAll r with
    | none => rw [e] at h; cases h
    | some ys => rw [e] at h; cases h; exact .cons a.dd (datAll_rl e t)
  | .dit _ :: _, _, _, h, _ => by cases h
  | .obj _ _ _ :: _, _, _, h, _ => by cases h
  | .ty _ :: _, _, _, h, _ => by cases h
  | .cls _ :: _, _, _, h, _ => by cases h
  | .wk _ :: _, _, _, h, _ => by cases h
  | .wl _ :: _, _, _, h, _ => by cases h
  | .scr _ :: _, _, _, h, _ => by cases h
  | .exc _ _ :: _, _, _, h, _ => by cases h
def small {α : Type} (n : Nat) (o : Option (List α)) : Option (List α) := o.bind fun l => if l.length ≤ n then some l else none
theorem small_eq {α : Type} {n : Nat} {o : Option (List α)} {l : List α} (h : small n o = some l) : o = some l ∧ l.length ≤ n := by
  unfold small at h
  cases o with
  | none => cases h
  | some k =>
    have h : (if k.length ≤ n then some k else none) = some l := h
    split at h
    · cases h; exact ⟨rfl, by assumption⟩
    · cases h
def most : Nat := 1000000
theorem most_le {n : Nat} (h : n ≤ most) : n ≤ sizeLine := Nat.le_trans h (by decide)
def mkTup (ds : List D) : Option D := (small most (datAll ds)).map fun l => .dat (.tuple l)
def mkLst (ds : List D) : Option D := (small most (datAll ds)).map fun l => .dat (.list l)
theorem map_eq {α β : Type} {f : α → β} {o : Option α} {b : β} (h : o.map f = some b) : ∃ a, o = some a ∧ b = f a := by
  cases o with
  | none => cases h
  | some a => cases h; exact ⟨a, rfl, rfl⟩
def mTup (m : M (List D)) : M D := fun δ => (m δ).bind fun ds δ1 => mOf (mkTup ds) δ1
def mLst (m : M (List D)) : M D := fun δ => (m δ).bind fun ds δ1 => mOf (mkLst ds) δ1
theorem md_tup {m : M (List D)} : ∀ σ H Q, tD K E (mTup m) σ H Q → tTupS (tDs K E m) σ H Q := by
  rintro σ H Q ⟨F, G, δ, S, h⟩
  refine ⟨F, G, δ, S, h.bind.imp fun ds δ1 F1 H1 e1 S1 q vs rvs => ?_⟩
  obtain ⟨d, hd, q⟩ := q.of
  obtain ⟨l, hl, rfl⟩ := map_eq hd
  obtain ⟨hl, hz⟩ := small_eq hl
  have da := datAll_rl hl rvs
  refine ⟨most_le (da.length ▸ hz), fun p o np nd => ?_⟩
  obtain ⟨S2, x⟩ := S1.newF (o := .frz o (.tup vs)) np
  exact q _ _ x S2 _ (.dat (.tup (.inl ⟨o, upd_same, nd⟩) (da.same x.same)))
theorem md_lst {m : M (List D)} : ∀ σ H Q, tFr K E (mLst m) σ H Q → tLst (tDs K E m) σ H Q := by
  rintro σ H Q ⟨F, G, δ, S, h⟩
  refine ⟨F, G, δ, S, h.bind.imp fun ds δ1 F1 H1 e1 S1 q vs rvs => ?_⟩
  obtain ⟨d, hd, q⟩ := q.of
  obtain ⟨l, hl, rfl⟩ := map_eq hd
  obtain ⟨hl, hz⟩ := small_eq hl
  have da := datAll_rl hl rvs
  refine ⟨most_le (da.length ▸ hz), fun p np => ?_⟩
  obtain ⟨f, g⟩ := S1.gf np
  refine q F1 _ (Ext.refl _ _) (S1.new np) p f g (.lst upd_same da) fun i hi => ?_
  obtain ⟨_, _, o, ho⟩ := S1.ownAt hi
  rw [np] at ho; cases ho
/-- what is new is frozen -/
theorem md_fz {m : M D} : ∀ σ H Q, tD K E m σ H Q → tFr K E m σ H Q := by
  rintro σ H Q ⟨F, G, δ, S, h⟩
  refine ⟨F, G, δ, S, h.imp2 fun d δ' q F1 H1 e1 S1 p f g ow hn => ?_⟩
  obtain ⟨o, ho, r, ht⟩ := ow.freeze f
  obtain ⟨S2, x⟩ := S1.freezeT ho f g hn ht
  exact q _ H1 (e1.trans x) S2 _ r
end
end DL

namespace DL
open PySem PySem.Spec PyProof.Rows L2 MT
/-! ### slots, stored -/
section
variable {K : PySem.W.Frag} {E : XK} {F F' : Hp} {G : Gd} {σ : L2.St} {H H' : Hp} {δ : Env}
theorem set_get {α : Type} {l : List α} {i j : Nat} {a b : α} (h : (l.set i a)[j]? = some b) : (i = j ∧ b = a ∧ i < l.length) ∨ (i ≠ j ∧ l[j]? = some b) := by
  by_cases e : i = j
  · subst e
    rw [List.getElem?_set] at h
    simp only [if_true] at h
    split at h
    · cases h; exact .inl ⟨rfl, rfl, by assumption⟩
    · cases h
  · rw [List.getElem?_set_ne e] at h
    exact .inr ⟨e, h⟩
theorem SR.setF (S : SR K F G σ H δ) {v : V} {d : D} (i : Nat) (r : Rl K F v d) : SR K F G (σ.set i (some v)) H (δ.set i (.fz d)) := by
  refine ⟨by rw [List.length_set, List.length_set]; exact S.len, S.fh, S.gh, fun j w hw => ?_, fun j k p hjk h1 h2 => ?_, S.tb, S.gn, S.fn⟩
  · rcases set_get hw with ⟨rfl, rfl, hl⟩ | ⟨ne, hw⟩
    · exact ⟨v, by rw [List.getElem?_set_self (by rw [S.len]; exact hl)], r⟩
    · rw [List.getElem?_set_ne ne]; exact S.sl j w hw
  · have q : ∀ {j : Nat}, OwnAt (σ.set i (some v)) (δ.set i (.fz d)) j p → OwnAt σ δ j p := fun {j} ⟨a, w, b, c⟩ => by
      rcases set_get b with ⟨rfl, rfl, hl⟩ | ⟨ne, hw⟩
      · cases c
      · rw [List.getElem?_set_ne ne] at a; exact ⟨a, w, hw, c⟩
    exact S.inj j k p hjk (q h1) (q h2)
theorem SR.setO (S : SR K F G σ H δ) {p : Addr} {d : D} (i : Nat) (f : F p = none) (g : G p = none) (r : OwnR K F H p d) (hn : ∀ j, ¬ OwnAt σ δ j p) : SR K F G (σ.set i (some (.ref p))) H (δ.set i (.ow d)) := by
  refine ⟨by rw [List.length_set, List.length_set]; exact S.len, S.fh, S.gh, fun j w hw => ?_, fun j k q hjk h1 h2 => ?_, S.tb, S.gn, S.fn⟩
  · rcases set_get hw with ⟨rfl, rfl, hl⟩ | ⟨ne, hw⟩
    · exact ⟨p, by rw [List.getElem?_set_self (by rw [S.len]; exact hl)], f, g, r⟩
    · rw [List.getElem?_set_ne ne]; exact S.sl j w hw
  · have z : ∀ {j : Nat}, OwnAt (σ.set i (some (.ref p))) (δ.set i (.ow d)) j q → (i = j ∧ q = p) ∨ OwnAt σ δ j q := fun {j} ⟨a, w, b, c⟩ => by
      rcases set_get b with ⟨rfl, rfl, hl⟩ | ⟨ne, hw⟩
      · rw [List.getElem?_set_self (by rw [S.len]; exact hl)] at a
        cases a; exact .inl ⟨rfl, rfl⟩
      · rw [List.getElem?_set_ne ne] at a; exact .inr ⟨a, w, hw, c⟩
    rcases z h1 with ⟨e1, e2⟩ | z1
    · rcases z h2 with ⟨e3, e4⟩ | z2
      · exact hjk (e1.symm.trans e3)
      · exact hn k (e2 ▸ z2)
    · rcases z h2 with ⟨e3, e4⟩ | z2
      · exact hn j (e4 ▸ z1)
      · exact S.inj j k q hjk z1 z2
/-- a slot's object is changed -/
theorem SR.chg (S : SR K F G σ H δ) {i : Nat} {p : Addr} {d d' : D} {o : HO} {v' : SV} (ha : σ[i]? = some (some (.ref p))) (hi : δ[i]? = some (.ow d) ∧ v' = .ow d' ∨ δ[i]? = some (.io d) ∧ v' = .io d') (r : OwnR K F (upd H p o) p d') : SR K F G σ (upd H p o) (δ.set i v') := by
  have oi : OwnAt σ δ i p := by
    rcases hi with ⟨a, _⟩ | ⟨a, _⟩
    · exact ⟨ha, _, a, rfl⟩
    · exact ⟨ha, _, a, rfl⟩
  obtain ⟨f, g, _⟩ := S.ownAt oi
  have tbu : MT.LamT K (upd H p o) := by
    have own : OwnR K F H p d := by
      rcases hi with ⟨a, _⟩ | ⟨a, _⟩
      · obtain ⟨q, e, _, _, r⟩ := S.sl _ _ a
        rw [ha] at e; cases e; exact r
      · obtain ⟨e, _, _, r⟩ := S.sl _ _ a
        rw [ha] at e
        have ep : p = G.io := by injection e with e; injection e with e; injection e
        rw [ep]; exact r
    obtain ⟨x, h1, h2, h3⟩ := own.kind
    exact MT.tabs_updN S.tb h1 h2 h3
  have off : ∀ {B : Hp}, B p = none → Same B H → Same B (upd H p o) := fun {B} n s b u h => by
    rw [upd_ne (ne_of_none h n)]; exact s _ _ h
  have hl : i < δ.length := by
    rcases hi with ⟨a, _⟩ | ⟨a, _⟩ <;> exact (List.getElem?_eq_some_iff.mp a).1
  refine ⟨by rw [List.length_set]; exact S.len, off f S.fh, off g S.gh, fun j w hw => ?_, fun j k q hjk h1 h2 => ?_, tbu, S.gn, S.fn⟩
  · rcases set_get hw with ⟨rfl, rfl, _⟩ | ⟨ne, hw⟩
    · rcases hi with ⟨_, e⟩ | ⟨_, e⟩
      · rw [e]; exact ⟨p, ha, f, g, r⟩
      · rw [e]
        rename_i hio
        obtain ⟨a, _⟩ := S.sl _ _ hio
        rw [ha] at a
        cases a
        exact ⟨ha, f, g, r⟩
    · refine (S.sl j w hw).keep (Same.refl _) fun q hq ho => ?_
      have ow : OwnAt σ δ j q := ⟨hq, w, hw, ho⟩
      have nq : q ≠ p := fun z => S.inj i j p ne oi (z ▸ ow)
      exact ⟨(S.ownAt ow).1, upd_ne nq⟩
  · have z : ∀ {j : Nat}, OwnAt σ (δ.set i v') j q → OwnAt σ δ j q := fun {j} ⟨a, w, b, c⟩ => by
      rcases set_get b with ⟨rfl, rfl, _⟩ | ⟨ne, hw⟩
      · rw [ha] at a; cases a; exact oi
      · exact ⟨a, w, hw, c⟩
    exact S.inj j k q hjk (z h1) (z h2)
/-- behind a call that changes nothing -/
theorem SR.after (S : SR K F G σ H δ) (x : Ext F (MT.noT H) F') (fh : Same F' H') (hh : Same (MT.noT H) H') (tb : MT.LamT K H') : SR K F' G σ H' δ ∧ Ext F G F' := by
  have gT : ∀ b o, G.h b = some o → MT.noT H b = some o := fun b o e => MT.noT_of (S.gh _ _ e) fun ps z => S.gn b ps (by rw [e, z])
  have ng : ∀ b, G.h b ≠ none → MT.noT H b ≠ none := fun b n z => by
    cases e : G.h b with
    | none => exact n e
    | some o => rw [gT _ _ e] at z; cases z
  have y : Ext F G F' := ⟨x.same, fun b n => x.off b (ng b n), x.nt⟩
  refine ⟨S.grow y fh (fun b o e => hh b o (gT b o e)) (fun i p ow => ?_) tb, y⟩
  obtain ⟨f, _, o, ho⟩ := S.ownAt ow
  obtain ⟨o', h1, h2, _⟩ := S.ownK ow
  have e := MT.noT_of h1 h2
  exact ⟨(x.off p (by rw [e]; simp)).trans f, (hh _ _ e).trans h1.symm⟩
end
/-! ### promises -/
inductive R (α : Type) where
  | ok (a : α) | err (c : Str) (d : D) | stuck
def sp0 (K : PySem.W.Frag) (n : Nat) (f : List D → R D) : Sp := fun vs H Q E => vs.length = n ∧ ∃ F ds, Same F H ∧ (MT.LamT K H ∧ noTb F) ∧ RlAll K F vs ds ∧ match f ds with
  | .ok d => ∀ v F' H', Ext F (MT.noT H) F' → Same F' H' → Same (MT.noT H) H' → MT.LamT K H' → Rl K F' v d → Q v H'
  | .err c d => ∀ dx v F' H', Ext F (MT.noT H) F' → Same F' H' → Same (MT.noT H) H' → MT.LamT K H' → F' dx = some (xdV v) → Rl K F' v d → E (.ref (He.ga K c)) (some dx) H'
  | .stuck => False
def back {α : Type} (r : R α) (δ : Env) : Res α := match r with
  | .ok d => .ok d δ
  | .err c d => .err c d δ
  | .stuck => .stuck
def mCall (n : Nat) (f : List D → R D) (es : List D) (ma : M (List D)) : M D := fun δ => (ma δ).bind fun ds δ1 => if (ds ++ es).length = n then back (f (ds ++ es)) δ1 else .stuck
theorem RlAll.append {K : PySem.W.Frag} {H : Hp} : ∀ {vs us : List V} {ds es : List D}, RlAll K H vs ds → RlAll K H us es → RlAll K H (vs ++ us) (ds ++ es)
  | _, _, _, _, .nil, s => s
  | _, _, _, _, .cons r t, s => .cons r (RlAll.append t s)
section
variable {K : PySem.W.Frag} {E : XK} {F F' : Hp} {G : Gd} {σ : L2.St} {H H' : Hp} {δ : Env}
theorem md_call {n : Nat} {f : List D → R D} {es : List D} {dvs : List V} {ma : M (List D)} (hd : ∀ F, RlAll K F dvs es) : ∀ σ H Q, tD K E (mCall n f es ma) σ H Q → tCall (sp0 K n f) dvs E (tDs K E ma) σ H Q := by
  rintro σ H Q ⟨F, G, δ, S, h⟩
  refine ⟨F, G, δ, S, h.bind.imp fun ds δ1 F1 H1 e1 S1 q vs rvs => ?_⟩
  have rr := rvs.append (hd F1)
  split at q
  · rename_i hl
    refine ⟨rr.length.trans hl, F1, ds ++ es, S1.fh, ⟨S1.tb, S1.fn⟩, rr, ?_⟩
    cases hf : f (ds ++ es) with
    | ok d =>
      rw [hf] at q
      intro v F' H' x fh hh tb r
      obtain ⟨S2, y⟩ := S1.after x fh hh tb
      exact q F' H' y S2 v r
    | err c d =>
      rw [hf] at q
      intro dx v F' H' x fh hh tb hd r
      obtain ⟨S2, y⟩ := S1.after x fh hh tb
      exact q dx v F' H' y S2 hd r
    | stuck => rw [hf] at q; exact q
  · exact q.elim
theorem md_call0 {n : Nat} {f : List D → R D} {ma : M (List D)} : ∀ σ H Q, tD K E (mCall n f [] ma) σ H Q → tCall (sp0 K n f) [] E (tDs K E ma) σ H Q := md_call fun _ => .nil
/-! ### built-ins, called -/
def RC (K : PySem.W.Frag) (r : List V → Hp → VK → Prop) (f : List D → Option D) : Prop := ∀ {F : Hp} {G : Gd} {σ : L2.St} {H : Hp} {δ : Env} {xs : List V} {ds : List D} {d : D} {Q : VK}, SR K F G σ H δ → RlAll K F xs ds → f ds = some d →
  (∀ z F' H', Ext F G F' → SR K F' G σ H' δ → Rl K F' z d → Q z H') → r xs H Q
def RCF (K : PySem.W.Frag) (r : List V → Hp → VK → Prop) (f : List D → Option D) : Prop := ∀ {F : Hp} {G : Gd} {σ : L2.St} {H : Hp} {δ : Env} {xs : List V} {ds : List D} {d : D} {Q : VK}, SR K F G σ H δ → RlAll K F xs ds → f ds = some d →
  (∀ p F' H', Ext F G F' → SR K F' G σ H' δ → F' p = none → G p = none → OwnR K F' H' p d → (∀ i, ¬ OwnAt σ δ i p) → Q (.ref p) H') → r xs H Q
def mCB (f : List D → Option D) (ma : M (List D)) : M D := fun δ => (ma δ).bind fun ds δ1 => mOf (f ds) δ1
theorem md_cb {r : List V → Hp → VK → Prop} {f : List D → Option D} {ma : M (List D)} (hr : RC K r f) : ∀ σ H Q, tD K E (mCB f ma) σ H Q → tCB r (tDs K E ma) σ H Q := by
  rintro σ H Q ⟨F, G, δ, S, h⟩
  refine ⟨F, G, δ, S, h.bind.imp fun ds δ1 F1 H1 e1 S1 q vs rvs => ?_⟩
  obtain ⟨d, hd, q⟩ := q.of
  exact hr S1 rvs hd fun z F' H' e S' rz => q F' H' e S' z rz
theorem md_cbF {r : List V → Hp → VK → Prop} {f : List D → Option D} {ma : M (List D)} (hr : RCF K r f) : ∀ σ H Q, tFr K E (mCB f ma) σ H Q → tCB r (tDs K E ma) σ H Q := by
  rintro σ H Q ⟨F, G, δ, S, h⟩
  refine ⟨F, G, δ, S, h.bind.imp fun ds δ1 F1 H1 e1 S1 q vs rvs => ?_⟩
  obtain ⟨d, hd, q⟩ := q.of
  exact hr S1 rvs hd fun p F' H' e S' a b c n => q F' H' e S' p a b c n
/-- an operator that gives a new object -/
def ROF (K : PySem.W.Frag) (r : R2) (f : D → D → Option D) : Prop := ∀ {F : Hp} {G : Gd} {σ : L2.St} {H : Hp} {δ : Env} {x y : V} {dx dy d : D} {Q : VK}, SR K F G σ H δ → Rl K F x dx → Rl K F y dy → f dx dy = some d →
  (∀ p F' H', Ext F G F' → SR K F' G σ H' δ → F' p = none → G p = none → OwnR K F' H' p d → (∀ i, ¬ OwnAt σ δ i p) → Q (.ref p) H') → r x y H Q
theorem md_opF {r : R2} {f : D → D → Option D} {ma mb : M D} (hr : ROF K r f) : ∀ σ H Q, tFr K E (mOp f ma mb) σ H Q → tOp r (tD K E ma) (tD K E mb) σ H Q := by
  rintro σ H Q ⟨F, G, δ, S, h⟩
  refine ⟨F, G, δ, S, h.bind.imp fun x δ1 F1 H1 e1 S1 q v rv => ⟨F1, G, δ1, S1, q.bind.imp fun y δ2 F2 H2 e2 S2 q2 w rw => ?_⟩⟩
  obtain ⟨d, hd, q3⟩ := q2.of
  exact hr S2 (rv.same e2.same) rw hd fun p F' H' e S' a b c n => q3 F' H' e S' p a b c n
/-- a new object stands at p -/
theorem SR.fresh (S : SR K F G σ H δ) {p : Addr} {o : HO} (np : H p = none) : SR K F G σ (upd H p o) δ ∧ F p = none ∧ G p = none ∧ ∀ i, ¬ OwnAt σ δ i p := by
  obtain ⟨f, g⟩ := S.gf np
  refine ⟨S.new np, f, g, fun i hi => ?_⟩
  obtain ⟨_, _, o, ho⟩ := S.ownAt hi
  rw [np] at ho; cases ho
end
/-! ### statements -/
inductive Out where
  | nx | ret (d : D) | bk | ct
def PostS (K : PySem.W.Frag) (E : XK) (F : Hp) (G : Gd) (r : Res Out) (D : Ends) : Prop := match r with
  | .ok .nx δ' => ∀ σ' F' H', Ext F G F' → SR K F' G σ' H' δ' → D.nx σ' H'
  | .ok .bk δ' => ∀ σ' F' H', Ext F G F' → SR K F' G σ' H' δ' → D.bk σ' H'
  | .ok .ct δ' => ∀ σ' F' H', Ext F G F' → SR K F' G σ' H' δ' → D.ct σ' H'
  | .ok (.ret d) δ' => ∀ σ' v F' H', Ext F G F' → SR K F' G σ' H' δ' → Rl K F' v d → D.rt v H'
  | .err c d δ' => ∀ σ' (dx : Addr) (v : V) F' H', Ext F G F' → SR K F' G σ' H' δ' → F' dx = some (xdV v) → Rl K F' v d → E (.ref (He.ga K c)) (some dx) H'
  | .stuck => False
def sD (K : PySem.W.Frag) (E : XK) (m : M Out) : TS := fun D σ H => ∃ F G δ, SR K F G σ H δ ∧ PostS K E F G (m δ) D
section
variable {K : PySem.W.Frag} {E : XK} {F F' : Hp} {G : Gd} {σ : L2.St} {H H' : Hp} {δ : Env} {α : Type} {En En' : Ends}
theorem PostS.ext {r : Res Out} (e : Ext F G F') (h : PostS K E F G r En) : PostS K E F' G r En := by
  cases r with
  | ok a δ' =>
    cases a with
    | ret d => exact fun σ' v F2 H2 e2 => h σ' v F2 H2 (e.trans e2)
    | nx => exact fun σ' F2 H2 e2 => h σ' F2 H2 (e.trans e2)
    | bk => exact fun σ' F2 H2 e2 => h σ' F2 H2 (e.trans e2)
    | ct => exact fun σ' F2 H2 e2 => h σ' F2 H2 (e.trans e2)
  | err c d δ' => exact fun σ' dx v F2 H2 e2 => h σ' dx v F2 H2 (e.trans e2)
  | stuck => exact h
theorem PostS.bindE {r : Res α} {k : α → Env → Res Out} (h : PostS K E F G (r.bind k) En) : Post K E F G σ r fun a δ1 F1 H1 => PostS K E F1 G (k a δ1) En := by
  cases r with
  | ok a δ' => exact fun F2 H2 e2 s2 => PostS.ext e2 h
  | err c d δ' => exact fun dx v F' H' e s => h σ dx v F' H' e s
  | stuck => exact h
theorem PostS.of {o : Option α} {k : α → Env → Res Out} (h : PostS K E F G ((mOf o δ).bind k) En) : ∃ a, o = some a ∧ PostS K E F G (k a δ) En := by
  cases o with
  | some a => exact ⟨a, rfl, h⟩
  | none => exact h.elim
def mNx : M Out := mOk .nx
def mSeq (a b : M Out) : M Out := fun δ => (a δ).bind fun o δ1 => match o with
  | .nx => b δ1
  | o => .ok o δ1
theorem md_nx : ∀ En σ H, sD K E mNx En σ H → tNext En σ H := by
  rintro En σ H ⟨F, G, δ, S, h⟩
  exact h σ F H (Ext.refl _ _) S
theorem md_seq {a b : M Out} : ∀ En σ H, sD K E (mSeq a b) En σ H → tSeq (sD K E a) (sD K E b) En σ H := by
  rintro En σ H ⟨F, G, δ, S, h⟩
  refine ⟨F, G, δ, S, ?_⟩
  have h : PostS K E F G ((a δ).bind fun o δ1 => match o with | .nx => b δ1 | o => .ok o δ1) En := h
  cases ha : a δ with
  | ok o δ1 =>
    rw [ha] at h
    cases o with
    | nx => exact fun σ' F' H' e S' => ⟨F', G, δ1, S', PostS.ext e h⟩
    | ret d => exact h
    | bk => exact h
    | ct => exact h
  | err c d δ1 => rw [ha] at h; exact h
  | stuck => rw [ha] at h; exact h
def mRet (m : M D) : M Out := fun δ => (m δ).bind fun d δ1 => .ok (.ret d) δ1
theorem md_ret {m : M D} : ∀ En σ H, sD K E (mRet m) En σ H → tRet (tD K E m) En σ H := by
  rintro En σ H ⟨F, G, δ, S, h⟩
  exact ⟨F, G, δ, S, h.bindE.imp fun d δ1 F1 H1 e1 S1 q v rv => q σ v F1 H1 (Ext.refl _ _) S1 rv⟩
def mRetN : M Out := mOk (.ret (.dat .none))
theorem md_retN : ∀ En σ H, sD K E mRetN En σ H → tRetN En σ H := by
  rintro En σ H ⟨F, G, δ, S, h⟩
  exact h σ .non F H (Ext.refl _ _) S (.dat .non)
theorem md_bk : ∀ En σ H, sD K E (mOk .bk) En σ H → tBreak En σ H := by
  rintro En σ H ⟨F, G, δ, S, h⟩
  exact h σ F H (Ext.refl _ _) S
theorem md_ct : ∀ En σ H, sD K E (mOk .ct) En σ H → tCont En σ H := by
  rintro En σ H ⟨F, G, δ, S, h⟩
  exact h σ F H (Ext.refl _ _) S
def mNever : M Out := fun _ => .stuck
theorem md_never : ∀ En σ H, sD K E mNever En σ H → tNever En σ H := by
  rintro En σ H ⟨F, G, δ, S, h⟩
  exact h
def mDrop (m : M D) : M Out := fun δ => (m δ).bind fun _ δ1 => .ok .nx δ1
theorem md_drop {m : M D} : ∀ En σ H, sD K E (mDrop m) En σ H → tDrop (tD K E m) En σ H := by
  rintro En σ H ⟨F, G, δ, S, h⟩
  exact ⟨F, G, δ, S, h.bindE.imp fun d δ1 F1 H1 e1 S1 q v rv => q σ F1 H1 (Ext.refl _ _) S1⟩
theorem md_ifS {c : M Bool} {a b : M Out} : ∀ En σ H, sD K E (mIf c a b) En σ H → tIfS (tBo K E c) (sD K E a) (sD K E b) En σ H := by
  rintro En σ H ⟨F, G, δ, S, h⟩
  refine ⟨F, G, δ, S, h.bindE.imp fun x δ1 F1 H1 e1 S1 q => ?_⟩
  cases x with
  | true => rw [if_pos rfl] at q ⊢; exact ⟨F1, G, δ1, S1, q⟩
  | false => rw [if_neg Bool.false_ne_true] at q ⊢; exact ⟨F1, G, δ1, S1, q⟩
/-! ### targets -/
theorem DdAll.rl {K : PySem.W.Frag} {F : Hp} : ∀ {vs : List V} {ds : List PyData}, DdAll K F vs ds → RlAll K F vs (ds.map .dat)
  | _, _, .nil => .nil
  | _, _, .cons h t => .cons (.dat h) (DdAll.rl t)
/-- all slots but those are as they were -/
structure SameOut (vs : List Nat) (σ σ' : L2.St) : Prop where
  len : σ'.length = σ.length
  at_ : ∀ j : Nat, j ∉ vs → σ'[j]? = σ[j]?
theorem SameOut.refl (vs : List Nat) (σ : L2.St) : SameOut vs σ σ := ⟨rfl, fun _ _ => rfl⟩
theorem SameOut.trans {vs ws : List Nat} {σ σ1 σ2 : L2.St} (a : SameOut vs σ σ1) (b : SameOut ws σ1 σ2) : SameOut (vs ++ ws) σ σ2 := ⟨b.len.trans a.len, fun j h => (b.at_ j fun z => h (List.mem_append_right _ z)).trans (a.at_ j fun z => h (List.mem_append_left _ z))⟩
theorem SameOut.set {σ : L2.St} {i : Nat} {s : Option V} : SameOut [i] σ (σ.set i s) := ⟨List.length_set, fun j h => List.getElem?_set_ne (fun e => h (by simp [e]))⟩
/-- g stores as f does, into the slots gv -/
def MG (K : PySem.W.Frag) (gv : List Nat) (g : TG) (f : D → Env → Option Env) : Prop := ∀ {F : Hp} {G : Gd} {σ : L2.St} {H : Hp} {δ δ' : Env} {v : V} {d : D} {Q : L2.St → Hp → Prop}, SR K F G σ H δ → Rl K F v d → f d δ = some δ' → (∀ σ', SameOut gv σ σ' → SR K F G σ' H δ' → Q σ' H) → g v σ H Q
def MGs (K : PySem.W.Frag) (gv : List Nat) (g : TGs) (f : List D → Env → Option Env) : Prop := ∀ {F : Hp} {G : Gd} {σ : L2.St} {H : Hp} {δ δ' : Env} {vs : List V} {ds : List D} {Q : L2.St → Hp → Prop}, SR K F G σ H δ → RlAll K F vs ds → f ds δ = some δ' → (∀ σ', SameOut gv σ σ' → SR K F G σ' H δ' → Q σ' H) → g vs σ H Q
def gN (i : Nat) : D → Env → Option Env := fun d δ => some (δ.set i (.fz d))
def gsNil : List D → Env → Option Env := fun ds δ => match ds with
  | [] => some δ
  | _ => none
def gsCons (g : D → Env → Option Env) (r : List D → Env → Option Env) : List D → Env → Option Env := fun ds δ => match ds with
  | d :: ds => (g d δ).bind fun δ1 => r ds δ1
  | [] => none
def gT (n : Nat) (r : List D → Env → Option Env) : D → Env → Option Env := fun d δ => match d with
  | .dat (.tuple ds) => if ds.length = n then r (ds.map .dat) δ else none
  | .wk ds => if ds.length = n then r ds δ else none
  | _ => none
def gL (n : Nat) (r : List D → Env → Option Env) : D → Env → Option Env := fun d δ => match d with
  | .dat (.list ds) => if ds.length = n then r (ds.map .dat) δ else none
  | _ => none
theorem mg_name {i : Nat} : MG K [i] (gName i) (gN i) := fun S r e q => by
  cases e
  exact q _ SameOut.set (S.setF i r)
theorem mgs_nil : MGs K [] gNil gsNil := fun {F G σ H δ δ' vs ds Q} S r e q => by
  cases r with
  | nil => cases e; exact ⟨rfl, q _ (SameOut.refl _ _) S⟩
  | cons _ _ => cases e
theorem mgs_cons {gv gw : List Nat} {t : TG} {u : TGs} {g : D → Env → Option Env} {r : List D → Env → Option Env} (h1 : MG K gv t g) (h2 : MGs K gw u r) : MGs K (gv ++ gw) (gCons t u) (gsCons g r) := fun {F G σ H δ δ' vs ds Q} S rr e q => by
  cases rr with
  | nil => cases e
  | cons a b =>
    rename_i v vs d ds
    have e : (g d δ).bind (fun δ1 => r ds δ1) = some δ' := e
    cases e1 : g d δ with
    | none => rw [e1] at e; cases e
    | some δ1 =>
      rw [e1] at e
      exact ⟨v, vs, rfl, h1 S a e1 fun σ' o1 S' => h2 S' b e fun σ'' o2 S'' => q _ (o1.trans o2) S''⟩
theorem mg_tup {gv : List Nat} {n : Nat} {t : TGs} {r : List D → Env → Option Env} (h : MGs K gv t r) : MG K gv (gTup K n t) (gT n r) := fun {F G σ H δ δ' v d Q} S rr e q => by
  unfold gT at e
  split at e
  · rename_i ds
    split at e
    · rename_i hn
      cases rr.dd with
      | tup hs ha => exact ⟨_, _, rfl, Same.tup S.fh hs.sq, ha.length.trans hn, h S ha.rl e q⟩
    · cases e
  · split at e
    · rename_i hn
      cases rr with
      | wk hs ha => exact ⟨_, _, rfl, Same.tup S.fh hs, ha.length.trans hn, h S ha e q⟩
    · cases e
  · cases e
theorem mg_lst {gv : List Nat} {n : Nat} {t : TGs} {r : List D → Env → Option Env} (h : MGs K gv t r) : MG K gv (gLst K n t) (gL n r) := fun {F G σ H δ δ' v d Q} S rr e q => by
  unfold gL at e
  split at e
  · rename_i ds
    split at e
    · rename_i hn
      cases rr.dd with
      | lst hs ha => exact ⟨_, _, rfl, SqL.of (S.fh _ _ hs), ha.length.trans hn, h S ha.rl e q⟩
    · cases e
  · cases e
def mAsg (m : M D) (g : D → Env → Option Env) : M Out := fun δ => (m δ).bind fun d δ1 => (mOf (g d δ1) δ1).bind fun δ2 _ => .ok .nx δ2
theorem md_asg {m : M D} {gv : List Nat} {gt : TG} {g : D → Env → Option Env} (hg : MG K gv gt g) : ∀ En σ H, sD K E (mAsg m g) En σ H → tAsg (tD K E m) gt En σ H := by
  rintro En σ H ⟨F, G, δ, S, h⟩
  refine ⟨F, G, δ, S, h.bindE.imp fun d δ1 F1 H1 e1 S1 q v rv => ?_⟩
  obtain ⟨δ2, h2, q⟩ := q.of
  exact hg S1 rv h2 fun σ' _ S' => q σ' F1 H1 (Ext.refl _ _) S'
/-- a new object, kept to be changed -/
def mSetF (i : Nat) (m : M D) : M Out := fun δ => (m δ).bind fun d δ1 => .ok .nx (δ1.set i (.ow d))
theorem md_setF {i : Nat} {m : M D} : ∀ En σ H, sD K E (mSetF i m) En σ H → tAsg (tFr K E m) (gName i) En σ H := by
  rintro En σ H ⟨F, G, δ, S, h⟩
  exact ⟨F, G, δ, S, h.bindE.imp fun d δ1 F1 H1 e1 S1 q p f g ow hn => q _ F1 H1 (Ext.refl _ _) (S1.setO i f g ow hn)⟩
end
end DL

namespace DL
open PySem PySem.Spec PyProof.Rows L2 MT
/-! ### what is walked -/
/-- J goes over items, while F1 is kept -/
def Wk (K : PySem.W.Frag) (F1 : Hp) (J : It) (items : List D) : Prop := ∃ (Gd : Hp → Prop) (Y : Nat → Hp → V → Hp → Prop), Walk J items.length Gd Y ∧ (∀ H, Same F1 H → Gd H) ∧
  ∀ i H x H' d, items[i]? = some d → Y i H x H' → ∀ F G σ δ, Same F1 F → SR K F G σ H δ → ∃ F', Ext F G F' ∧ SR K F' G σ H' δ ∧ Rl K F' x d
def tI (K : PySem.W.Frag) (E : XK) (m : M (List D)) : TI := fun σ H Rr => ∃ F G δ, SR K F G σ H δ ∧ Post K E F G σ (m δ) fun items _ F' H' => ∀ J, Wk K F' J items → Rr J H'
section
variable {X : Cx} {tg iter : Expr}
theorem di {t t' : TI} (h : PI X tg iter t) (i : ∀ σ H Rr, t' σ H Rr → t σ H Rr) : PI X tg iter t' := ⟨fun pins s σ H Rr I q => h.run pins s σ H Rr I (i σ H Rr q)⟩
end
section
variable {K : PySem.W.Frag} {E : XK} {F F' : Hp} {G : Gd} {σ : L2.St} {H H' : Hp} {δ : Env} {En : Ends}
def dats (ds : List PyData) : List D := ds.map .dat
theorem dats_get {ds : List PyData} {i : Nat} {d : D} (h : (dats ds)[i]? = some d) : ∃ x, ds[i]? = some x ∧ d = .dat x := by
  unfold dats at h
  rw [List.getElem?_map] at h
  cases e : ds[i]? with
  | none => rw [e] at h; cases h
  | some x => rw [e] at h; cases h; exact ⟨x, rfl, rfl⟩
theorem wk_list {a : Addr} {vs : List V} {ds : List PyData} (h : F a = some (.lst vs)) (t : DdAll K F vs ds) : Wk K F (Itl K a) (dats ds) := by
  refine ⟨_, _, (by unfold dats; rw [List.length_map, ← t.length]; exact walk_list), fun H s => SqL.of (s _ _ h), fun i H x H' d hd y F2 G σ δ s S => ?_⟩
  obtain ⟨z, hz, rfl⟩ := dats_get hd
  obtain ⟨rfl, hx⟩ := y
  obtain ⟨z', hz', r⟩ := t.getV hx
  rw [hz] at hz'; cases hz'
  exact ⟨F2, Ext.refl _ _, S, .dat (r.same s)⟩
theorem wk_tup {a : Addr} {vs : List V} {ds : List PyData} (h : TupS K F a vs) (t : DdAll K F vs ds) : Wk K F (Itt K a) (dats ds) := by
  refine ⟨_, _, (by unfold dats; rw [List.length_map, ← t.length]; exact walk_tup), fun H s => (h.same s).sq, fun i H x H' d hd y F2 G σ δ s S => ?_⟩
  obtain ⟨z, hz, rfl⟩ := dats_get hd
  obtain ⟨rfl, hx⟩ := y
  obtain ⟨z', hz', r⟩ := t.getV hx
  rw [hz] at hz'; cases hz'
  exact ⟨F2, Ext.refl _ _, S, .dat (r.same s)⟩
def asL : D → Option (List PyData)
  | .dat (.list ds) => some ds
  | _ => none
def asT : D → Option (List PyData)
  | .dat (.tuple ds) => some ds
  | _ => none
theorem asL_eq {d : D} {b : List PyData} (h : asL d = some b) : d = .dat (.list b) := by
  unfold asL at h
  split at h
  · cases h; rfl
  · cases h
theorem asT_eq {d : D} {b : List PyData} (h : asT d = some b) : d = .dat (.tuple b) := by
  unfold asT at h
  split at h
  · cases h; rfl
  · cases h
def mItL (m : M D) : M (List D) := fun δ => (m δ).bind fun d δ1 => mOf ((asL d).map dats) δ1
def mItT (m : M D) : M (List D) := fun δ => (m δ).bind fun d δ1 => mOf ((asT d).map dats) δ1
theorem mi_list {m : M D} : ∀ σ H Rr, tI K E (mItL m) σ H Rr → iList K (tD K E m) σ H Rr := by
  rintro σ H Rr ⟨F, G, δ, S, h⟩
  refine ⟨F, G, δ, S, h.bind.imp fun d δ1 F1 H1 e1 S1 q v rv => ?_⟩
  obtain ⟨its, hi, q⟩ := q.of
  obtain ⟨ds, hd, rfl⟩ := map_eq hi
  have e := asL_eq hd
  subst e
  cases rv.dd with
  | lst hs ha => exact ⟨_, rfl, ⟨_, SqL.of (S1.fh _ _ hs)⟩, q F1 H1 (Ext.refl _ _) S1 _ (wk_list hs ha)⟩
theorem mi_tup {m : M D} : ∀ σ H Rr, tI K E (mItT m) σ H Rr → iTup K (tD K E m) σ H Rr := by
  rintro σ H Rr ⟨F, G, δ, S, h⟩
  refine ⟨F, G, δ, S, h.bind.imp fun d δ1 F1 H1 e1 S1 q v rv => ?_⟩
  obtain ⟨its, hi, q⟩ := q.of
  obtain ⟨ds, hd, rfl⟩ := map_eq hi
  have e := asT_eq hd
  subst e
  cases rv.dd with
  | tup hs ha => exact ⟨_, rfl, ⟨_, Same.tup S1.fh hs.sq⟩, q F1 H1 (Ext.refl _ _) S1 _ (wk_tup hs ha)⟩
/-! ### for, while -/
def forL (g : D → Env → Option Env) (mb : M Out) : List D → M Out
  | [], δ => .ok .nx δ
  | d :: ds, δ => (mOf (g d δ) δ).bind fun δ2 _ => (mb δ2).bind fun o δ3 => match o with
    | .nx => forL g mb ds δ3
    | .ct => forL g mb ds δ3
    | .bk => .ok .nx δ3
    | .ret d => .ok (.ret d) δ3
def mFor (m : M (List D)) (g : D → Env → Option Env) (mb : M Out) : M Out := fun δ => (m δ).bind fun items δ1 => forL g mb items δ1
theorem md_for {m : M (List D)} {gv : List Nat} {gt : TG} {g : D → Env → Option Env} {mb : M Out} (hg : MG K gv gt g) : ∀ En σ H, sD K E (mFor m g mb) En σ H → tFor (tI K E m) gt (sD K E mb) En σ H := by
  rintro En σ H ⟨F, G, δ, S, h⟩
  refine ⟨F, G, δ, S, h.bindE.imp fun items δ1 F1 H1 e1 S1 q J ⟨Gd, Y, w, hG, hY⟩ => ?_⟩
  refine for_it w (fun i σ H => ∃ F2 δ2, Ext F1 G F2 ∧ SR K F2 G σ H δ2 ∧ PostS K E F2 G (forL g mb (items.drop i) δ2) En) ⟨F1, δ1, Ext.refl _ _, S1, q⟩ (fun i σ H _ ⟨F2, δ2, e, S2, _⟩ => hG H (e.same.trans S2.fh)) ?_ ?_
  · rintro i x σ H H' hi ⟨F2, δ2, e, S2, q2⟩ y
    obtain ⟨F3, e3, S3, r3⟩ := hY i H x H' items[i] (List.getElem?_eq_getElem hi) y F2 G σ δ2 e.same S2
    rw [List.drop_eq_getElem_cons hi] at q2
    obtain ⟨δ3, h3, q3⟩ := PostS.of q2
    refine hg S3 r3 h3 fun σ' _ S4 => ⟨F3, G, δ3, S4, ?_⟩
    have q3 := PostS.ext e3 q3
    cases hb : mb δ3 with
    | stuck => rw [hb] at q3; exact q3
    | err c d δ4 => rw [hb] at q3; exact q3
    | ok o δ4 =>
      rw [hb] at q3
      cases o with
      | nx => exact fun σ5 F5 H5 e5 S5 => ⟨F5, δ4, (e.trans e3).trans e5, S5, PostS.ext e5 q3⟩
      | ct => exact fun σ5 F5 H5 e5 S5 => ⟨F5, δ4, (e.trans e3).trans e5, S5, PostS.ext e5 q3⟩
      | bk => exact q3
      | ret d => exact q3
  · rintro σ H ⟨F2, δ2, e, S2, q2⟩
    rw [List.drop_of_length_le (Nat.le_refl _)] at q2
    exact q2 σ F2 H (Ext.refl _ _) S2
def whL (c : M Bool) (mb : M Out) : Nat → M Out
  | 0, _ => .stuck
  | n + 1, δ => (c δ).bind fun b δ1 => if b = true then (mb δ1).bind fun o δ3 => match o with
    | .nx => whL c mb n δ3
    | .ct => whL c mb n δ3
    | .bk => .ok .nx δ3
    | .ret d => .ok (.ret d) δ3
    else .ok .nx δ1
theorem md_while {n : Nat} {c : M Bool} {mb : M Out} : ∀ En σ H, sD K E (whL c mb n) En σ H → tWhile (tBo K E c) (sD K E mb) En σ H := by
  rintro En σ H ⟨F, G, δ, S, h⟩
  refine ⟨fun m σ H => ∃ F2 δ2, Ext F G F2 ∧ SR K F2 G σ H δ2 ∧ PostS K E F2 G (whL c mb m δ2) En, ⟨n, F, δ, Ext.refl _ _, S, h⟩, ?_⟩
  rintro m σ H ⟨F2, δ2, e, S2, q⟩
  cases m with
  | zero => exact q.elim
  | succ m =>
    refine ⟨F2, G, δ2, S2, q.bindE.imp fun b δ3 F3 H3 e3 S3 q3 => ?_⟩
    cases b with
    | false => rw [if_neg Bool.false_ne_true] at q3 ⊢; exact q3 σ F3 H3 (Ext.refl _ _) S3
    | true =>
      rw [if_pos rfl] at q3 ⊢
      refine ⟨fun σ' H' => ∃ F2 δ2, Ext F G F2 ∧ SR K F2 G σ' H' δ2 ∧ PostS K E F2 G (whL c mb m δ2) En, fun σ' H' z => ⟨m, Nat.lt_succ_self _, z⟩, F3, G, δ3, S3, ?_⟩
      cases hb : mb δ3 with
      | stuck => rw [hb] at q3; exact q3
      | err c d δ4 => rw [hb] at q3; exact q3
      | ok o δ4 =>
        rw [hb] at q3
        cases o with
        | nx => exact fun σ5 F5 H5 e5 S5 => ⟨F5, δ4, (e.trans e3).trans e5, S5, PostS.ext e5 q3⟩
        | ct => exact fun σ5 F5 H5 e5 S5 => ⟨F5, δ4, (e.trans e3).trans e5, S5, PostS.ext e5 q3⟩
        | bk => exact q3
        | ret d => exact q3
/-! ### list comprehensions -/
def wipeD (δ : Env) : List Nat → Env
  | [] => δ
  | v :: vs => (wipeD δ vs).set v .no
/-- the names of the comprehension are as they were, if they were frozen -/
def unwipe (δ0 δ : Env) : List Nat → Env
  | [] => δ
  | v :: vs => (unwipe δ0 δ vs).set v (match δ0[v]? with | some (.fz d) => .fz d | _ => .no)
theorem SR.no (S : SR K F G σ H δ) (i : Nat) {s : Option V} : SR K F G (σ.set i s) H (δ.set i .no) := by
  refine ⟨by rw [List.length_set, List.length_set]; exact S.len, S.fh, S.gh, fun j w hw => ?_, fun j k p hjk h1 h2 => ?_, S.tb, S.gn, S.fn⟩
  · rcases set_get hw with ⟨rfl, rfl, hl⟩ | ⟨ne, hw⟩
    · trivial
    · rw [List.getElem?_set_ne ne]; exact S.sl j w hw
  · have q : ∀ {j : Nat}, OwnAt (σ.set i s) (δ.set i .no) j p → OwnAt σ δ j p := fun {j} ⟨a, w, b, c⟩ => by
      rcases set_get b with ⟨rfl, rfl, hl⟩ | ⟨ne, hw⟩
      · cases c
      · rw [List.getElem?_set_ne ne] at a; exact ⟨a, w, hw, c⟩
    exact S.inj j k p hjk (q h1) (q h2)
theorem SR.wipe (S : SR K F G σ H δ) : ∀ vs : List Nat, SR K F G (L2.wipe σ vs) H (wipeD δ vs)
  | [] => S
  | v :: vs => (SR.wipe S vs).no v
theorem unwipe_get {δ0 : Env} {j : Nat} : ∀ {vs : List Nat} {w : SV}, (unwipe δ0 δ vs)[j]? = some w → (j ∉ vs ∧ δ[j]? = some w) ∨ (j ∈ vs ∧ (w = .no ∨ ∃ d, w = .fz d ∧ δ0[j]? = some (.fz d)))
  | [], w, h => .inl ⟨by simp, h⟩
  | v :: vs, w, h => by
    rcases set_get h with ⟨rfl, e, _⟩ | ⟨ne, h⟩
    · refine .inr ⟨by simp, ?_⟩
      subst e
      split
      · exact .inr ⟨_, rfl, by assumption⟩
      · exact .inl rfl
    · rcases unwipe_get h with ⟨a, b⟩ | ⟨a, b⟩
      · exact .inl ⟨by simp [a, Ne.symm ne], b⟩
      · exact .inr ⟨by simp [a], b⟩
theorem unwipe_length {δ0 : Env} : ∀ {vs : List Nat}, (unwipe δ0 δ vs).length = δ.length
  | [] => rfl
  | v :: vs => by unfold unwipe; rw [List.length_set]; exact unwipe_length
theorem SR.unwipe {F0 H0 : Hp} {δ0 : Env} {vs : List Nat} {σ2 : L2.St} (S0 : SR K F0 G σ H0 δ0) (e : Same F0 F) (S : SR K F G σ2 H δ) (hw : L2.wipe σ2 vs = L2.wipe σ vs) : SR K F G σ H (DL.unwipe δ0 δ vs) := by
  have at_ : ∀ j, j ∉ vs → σ2[j]? = σ[j]? := fun j hj => by
    have z : (L2.wipe σ2 vs)[j]? = (L2.wipe σ vs)[j]? := by rw [hw]
    rw [wipe_out hj, wipe_out hj] at z
    exact z
  have ln : σ.length = σ2.length := by
    have z := congrArg List.length hw
    rw [wipe_length, wipe_length] at z
    exact z.symm
  refine ⟨by rw [unwipe_length, ln]; exact S.len, S.fh, S.gh, fun j w hw => ?_, fun j k p hjk h1 h2 => ?_, S.tb, S.gn, S.fn⟩
  · rcases unwipe_get hw with ⟨a, b⟩ | ⟨a, b⟩
    · rw [← at_ j a]; exact S.sl j w b
    · rcases b with rfl | ⟨d, rfl, b⟩
      · trivial
      · obtain ⟨u, e1, e2⟩ := S0.sl j _ b
        exact ⟨u, e1, e2.same e⟩
  · have q : ∀ {j : Nat}, OwnAt σ (DL.unwipe δ0 δ vs) j p → OwnAt σ2 δ j p := fun {j} ⟨a, w, b, c⟩ => by
      rcases unwipe_get b with ⟨x, y⟩ | ⟨x, y⟩
      · rw [← at_ j x] at a; exact ⟨a, w, y, c⟩
      · rcases y with rfl | ⟨d, rfl, _⟩ <;> cases c
    exact S.inj j k p hjk (q h1) (q h2)
def E00 : XK := fun _ _ _ => False
def mYes : M Bool := mOk true
theorem md_yes : ∀ σ H Q, tBo K E mYes σ H Q → tYes σ H Q := by
  rintro σ H Q ⟨F, G, δ, S, h⟩
  exact h F H (Ext.refl _ _) S
def asDat : D → Option PyData
  | .dat x => some x
  | _ => none
theorem asDat_eq {d : D} {b : PyData} (h : asDat d = some b) : d = .dat b := by
  unfold asDat at h
  split at h
  · cases h; rfl
  · cases h
def lcL (vs : List Nat) (g : D → Env → Option Env) (c : M Bool) (me : M D) : List D → List PyData → Env → Res (List PyData)
  | [], acc, δ => .ok acc δ
  | d :: ds, acc, δ => (mOf (g d δ) δ).bind fun δ2 _ => (c δ2).bind fun b δ3 => if b = true then (me δ3).bind fun y δ4 => (mOf (asDat y) δ4).bind fun x δ5 => lcL vs g c me ds (acc ++ [x]) (wipeD δ5 vs) else lcL vs g c me ds acc (wipeD δ3 vs)
def mLc (vs : List Nat) (m : M (List D)) (g : D → Env → Option Env) (c : M Bool) (me : M D) : M D := fun δ => (m δ).bind fun items δ1 => if items.length ≤ most then (match lcL vs g c me items [] (wipeD δ1 vs) with
  | .ok acc δ2 => .ok (.dat (.list acc)) (unwipe δ1 δ2 vs)
  | _ => .stuck) else .stuck
theorem wipeD_no {v : Nat} {w : SV} : ∀ {vs : List Nat}, v ∈ vs → (wipeD δ vs)[v]? = some w → w = .no
  | [], h, _ => by cases h
  | u :: vs, h, e => by
    rcases set_get e with ⟨rfl, e, _⟩ | ⟨ne, e⟩
    · exact e
    · exact wipeD_no ((List.mem_cons.mp h).resolve_left (Ne.symm ne)) e
theorem add_gn {G : Gd} {p : Addr} {o : HO} (h : ∀ b ps, G.h b ≠ some (.tbl ps)) (nt : ∀ ps, o ≠ .tbl ps) : ∀ b ps, (G.add p o).h b ≠ some (.tbl ps) := fun b ps z => by
  by_cases e : b = p
  · rw [e, add_same] at z
    exact nt ps (Option.some.inj z)
  · rw [add_ne e] at z
    exact h b ps z
theorem re_gn {G : Gd} {p : Addr} {o u : HO} (h : ∀ b ps, (G.add p o).h b ≠ some (.tbl ps)) (nt : ∀ ps, u ≠ .tbl ps) : ∀ b ps, (G.add p u).h b ≠ some (.tbl ps) := fun b ps z => by
  by_cases e : b = p
  · rw [e, add_same] at z
    exact nt ps (Option.some.inj z)
  · rw [add_ne e] at z
    exact h b ps (by rw [add_ne e]; exact z)
/-- with one object more that is guarded -/
theorem SR.guard (S : SR K F G σ H δ) {p : Addr} {o : HO} (h : H p = some o) (g : G p = none) (hn : ∀ i, ¬ OwnAt σ δ i p) (nt : ∀ ps, o ≠ .tbl ps := by intro _ z; cases z) : SR K F (G.add p o) σ H δ := by
  refine ⟨S.len, S.fh, fun b u q => ?_, fun i v hv => ?_, S.inj, S.tb, add_gn S.gn nt, S.fn⟩
  · by_cases e : b = p
    · rw [e, add_same] at q
      rw [e]; exact h.trans q
    · rw [add_ne e] at q; exact S.gh _ _ q
  · have z := S.sl i v hv
    cases v with
    | no => trivial
    | fz d => exact z
    | ow d =>
      obtain ⟨q, a, b, c, r⟩ := z
      have nq : q ≠ p := fun e => hn i ⟨e ▸ a, _, hv, rfl⟩
      exact ⟨q, a, b, by rw [add_ne nq]; exact c, r⟩
    | io d =>
      obtain ⟨a, b, c, r⟩ := z
      have nq : G.io ≠ p := fun e => hn i ⟨e ▸ a, _, hv, rfl⟩
      exact ⟨a, b, by show (G.add p o).h G.io = none; rw [add_ne nq]; exact c, r⟩
theorem guard_ne {p q : Addr} {o : HO} (h : (G.add p o).h q = none) : q ≠ p ∧ G q = none := by
  have n : q ≠ p := fun e => by rw [e, add_same] at h; cases h
  rw [add_ne n] at h
  exact ⟨n, h⟩
theorem SR.unguard {p : Addr} {o : HO} (g : G p = none) (S : SR K F (G.add p o) σ H δ) : SR K F G σ H δ ∧ ∀ i, ¬ OwnAt σ δ i p := by
  refine ⟨⟨S.len, S.fh, fun b u q => S.gh b u (by rw [add_ne (ne_of_none q g)]; exact q), fun i v hv => ?_, S.inj, S.tb, fun b ps z => S.gn b ps (by rw [add_ne (ne_of_none z g)]; exact z), S.fn⟩, fun i hi => (guard_ne (S.ownAt hi).2.1).1 rfl⟩
  have z := S.sl i v hv
  cases v with
  | no => trivial
  | fz d => exact z
  | ow d => obtain ⟨q, a, b, c, r⟩ := z; exact ⟨q, a, b, (guard_ne c).2, r⟩
  | io d => obtain ⟨a, b, c, r⟩ := z; exact ⟨a, b, (guard_ne c).2, r⟩
theorem Ext.unguard {p : Addr} {o : HO} (g : G p = none) (x : Ext F (G.add p o).h F') : Ext F G F' := ⟨x.same, fun b n => x.off b (by
  have nb : b ≠ p := fun e => n (by rw [e]; exact g)
  rw [add_ne nb]; exact n), x.nt⟩
/-- the guarded object is changed -/
theorem SR.reguard {p : Addr} {o u : HO} (f : F p = none) (S : SR K F (G.add p o) σ H δ) (nt : ∀ ps, u ≠ .tbl ps := by intro _ z; cases z) (ne : ∀ f, o ≠ .ext f := by intro _ z; cases z) : SR K F (G.add p u) σ (upd H p u) δ := by
  refine ⟨S.len, fun b x q => ?_, fun b x q => ?_, fun i v hv => ?_, S.inj, MT.tabs_updN S.tb (S.gh p _ add_same) (fun ps z => S.gn p ps (by rw [add_same, z])) ne, re_gn S.gn nt, S.fn⟩
  · rw [upd_ne (ne_of_none q f)]; exact S.fh _ _ q
  · by_cases e : b = p
    · rw [e, add_same] at q
      rw [e, upd_same]; exact q
    · rw [add_ne e] at q
      rw [upd_ne e]
      exact S.gh b x (by rw [add_ne e]; exact q)
  · have z := S.sl i v hv
    cases v with
    | no => trivial
    | fz d => exact z
    | ow d => obtain ⟨q, a, b, c, r⟩ := z; obtain ⟨n, c⟩ := guard_ne c; exact ⟨q, a, b, by rw [add_ne n]; exact c, r.mono (Same.refl _) (upd_ne n)⟩
    | io d => obtain ⟨a, b, c, r⟩ := z; obtain ⟨n, c⟩ := guard_ne c; exact ⟨a, b, by show (G.add p u).h (G.add p o).io = none; rw [add_ne n]; exact c, r.mono (Same.refl _) (upd_ne n)⟩
theorem wipe_in {i : Nat} : ∀ {vs : List Nat}, i ∈ vs → (L2.wipe σ vs)[i]? = if i < σ.length then some none else none
  | [], h => by cases h
  | v :: vs, h => by
    unfold L2.wipe
    by_cases e : v = i
    · subst e
      rw [List.getElem?_set, if_pos rfl, wipe_length]
    · rw [List.getElem?_set_ne e]
      exact wipe_in ((List.mem_cons.mp h).resolve_left (Ne.symm e))
theorem wipe_same {vs gv : List Nat} {σ2 : L2.St} (o : SameOut gv (L2.wipe σ vs) σ2) (h : ∀ v ∈ gv, v ∈ vs) : L2.wipe σ2 vs = L2.wipe σ vs := by
  apply List.ext_getElem?
  intro j
  by_cases hj : j ∈ vs
  · rw [wipe_in hj, wipe_in hj, o.len, wipe_length]
  · rw [wipe_out hj]
    exact o.at_ j fun z => hj (h j z)
theorem SR.wipe2 {vs : List Nat} {σ2 : L2.St} (S : SR K F G σ2 H δ) (hw : L2.wipe σ2 vs = L2.wipe σ vs) : SR K F G (L2.wipe σ vs) H (wipeD δ vs) := by
  rw [← hw]; exact S.wipe vs
theorem md_lc {vs gv : List Nat} {m : M (List D)} {gt : TG} {g : D → Env → Option Env} {c : M Bool} {me : M D} (hg : MG K gv gt g) (hv : ∀ v ∈ gv, v ∈ vs) :
    ∀ σ H Q, tFr K E (mLc vs m g c me) σ H Q → tLc (tI K E m) gt (tBo K E00 c) (tD K E00 me) vs σ H Q := by
  rintro σ H Q ⟨F, G, δ, S, h⟩
  refine ⟨F, G, δ, S, h.bind.imp fun items δ1 F1 H1 e1 S1 q J ⟨Gd, Y, w, hG, hY⟩ p np => ?_⟩
  split at q
  · rename_i hlen
    cases hL : lcL vs g c me items [] (wipeD δ1 vs) with
    | stuck => rw [hL] at q; exact q.elim
    | err a b d => rw [hL] at q; exact q.elim
    | ok accF δF =>
      rw [hL] at q
      obtain ⟨f0, g0⟩ := S1.gf np
      refine lc_it w (fun i H => ∃ F2 δ2 ys acc, Ext F1 G F2 ∧ F2 p = none ∧ SR K F2 (G.add p (.lst ys)) (L2.wipe σ vs) H δ2 ∧ DdAll K F2 ys acc ∧ acc.length ≤ i ∧ lcL vs g c me (items.drop i) acc δ2 = .ok accF δF) ?_ ?_ ?_ ?_
      · have Sn := (S1.new (o := .lst []) np)
        refine ⟨F1, wipeD δ1 vs, [], [], Ext.refl _ _, f0, (Sn.guard upd_same g0 fun i hi => ?_).wipe vs, .nil, Nat.le_refl _, hL⟩
        obtain ⟨_, _, o, ho⟩ := S1.ownAt hi
        rw [np] at ho; cases ho
      · rintro i H _ ⟨F2, δ2, ys, acc, e2, _, S2, _⟩
        exact hG H (e2.same.trans S2.fh)
      · rintro i x H H' hi ⟨F2, δ2, ys, acc, e2, f2, S2, dd, ln, eq⟩ y
        obtain ⟨F3, e3, S3, r3⟩ := hY i H x H' items[i] (List.getElem?_eq_getElem hi) y F2 _ _ δ2 e2.same S2
        have f3 : F3 p = none := (e3.off p (by rw [add_same]; simp)).trans f2
        rw [List.drop_eq_getElem_cons hi] at eq
        unfold lcL at eq
        cases h3 : g items[i] δ2 with
        | none => rw [h3] at eq; cases eq
        | some δ3 =>
          rw [h3] at eq
          have eq : (c δ3).bind (fun b δ3 => if b = true then (me δ3).bind fun y δ4 => (mOf (asDat y) δ4).bind fun x δ5 => lcL vs g c me (items.drop (i + 1)) (acc ++ [x]) (wipeD δ5 vs) else lcL vs g c me (items.drop (i + 1)) acc (wipeD δ3 vs)) = .ok accF δF := eq
          refine hg S3 r3 h3 fun σ2 o2 S4 => ⟨wipe_same o2 hv, ?_⟩
          have hw := wipe_same o2 hv
          refine ⟨F3, _, δ3, S4, ?_⟩
          cases hc : c δ3 with
          | stuck => rw [hc] at eq; cases eq
          | err a b d => rw [hc] at eq; cases eq
          | ok b δ4 =>
            rw [hc] at eq
            intro F5 H5 e5 S5
            have f5 : F5 p = none := (e5.off p (by rw [add_same]; simp)).trans f3
            have eq : (if b = true then (me δ4).bind fun y δ4 => (mOf (asDat y) δ4).bind fun x δ5 => lcL vs g c me (items.drop (i + 1)) (acc ++ [x]) (wipeD δ5 vs) else lcL vs g c me (items.drop (i + 1)) acc (wipeD δ4 vs)) = .ok accF δF := eq
            have x35 := (e2.trans (e3.unguard g0)).trans (e5.unguard g0)
            cases b with
            | false =>
              rw [if_neg Bool.false_ne_true] at eq
              refine iteF ?_
              exact ⟨F5, _, ys, acc, x35, f5, S5.wipe2 hw, dd.same (e3.same.trans e5.same), Nat.le_succ_of_le ln, eq⟩
            | true =>
              rw [if_pos rfl] at eq
              refine iteT ?_
              refine ⟨F5, _, δ4, S5, ?_⟩
              cases hm : me δ4 with
              | stuck => rw [hm] at eq; cases eq
              | err a b d => rw [hm] at eq; cases eq
              | ok z δ5 =>
                rw [hm] at eq
                intro F6 H6 e6 S6 v rv
                have eq : (mOf (asDat z) δ5).bind (fun x δ5 => lcL vs g c me (items.drop (i + 1)) (acc ++ [x]) (wipeD δ5 vs)) = .ok accF δF := eq
                have f6 : F6 p = none := (e6.off p (by rw [add_same]; simp)).trans f5
                cases hz : asDat z with
                | none => rw [hz] at eq; cases eq
                | some dz =>
                  rw [hz] at eq
                  have ez := asDat_eq hz
                  subst ez
                  have hp := S6.gh p _ add_same
                  have dd6 := dd.same (e3.same.trans (e5.same.trans e6.same))
                  refine ⟨ys, hp, ?_, F6, _, ys ++ [v], acc ++ [dz], x35.trans (e6.unguard g0), f6, (S6.reguard f6).wipe2 hw, dd6.append (.cons rv.dd .nil), ?_, eq⟩
                  · rw [dd.length]
                    have : items.length ≤ 1000000 := hlen
                    exact Nat.lt_of_le_of_lt (Nat.le_trans ln (Nat.le_trans (Nat.le_of_lt hi) this)) (by decide)
                  · rw [List.length_append]; exact Nat.succ_le_succ ln
      · rintro H2 ⟨F2, δ2, ys, acc, e2, f2, S2, dd, ln, eq⟩
        rw [List.drop_of_length_le (Nat.le_refl _)] at eq
        cases eq
        have hp := S2.gh p _ add_same
        obtain ⟨S3, hn⟩ := S2.unguard g0
        have S4 := S1.unwipe (vs := vs) e2.same S3 (by
          apply List.ext_getElem?
          intro j
          by_cases hj : j ∈ vs
          · rw [wipe_in hj, wipe_in hj, wipe_length]
          · rw [wipe_out hj])
        refine q F2 H2 e2 S4 p f2 g0 (.lst hp dd) fun i hi => ?_
        obtain ⟨a, u, b, c'⟩ := hi
        rcases unwipe_get b with ⟨x1, x2⟩ | ⟨x1, x2⟩
        · exact hn i ⟨by rw [wipe_out x1]; exact a, u, x2, c'⟩
        · rcases x2 with rfl | ⟨d, rfl, _⟩ <;> cases c'
  · exact q.elim
end
end DL

namespace DL
open PySem PySem.Spec PyProof.Rows L2 MT
/-! ### defs -/
def env0 (n : Nat) (ds : List D) : Env := ds.map .fz ++ List.replicate (n - ds.length) .no
def outR (r : Res Out) : R D := match r with
  | .ok (.ret d) _ => .ok d
  | .ok .nx _ => .ok (.dat .none)
  | .err c d _ => .err c d
  | _ => .stuck
/-- the promise is the body's meaning, where it says anything -/
def Le (n : Nat) (g : List D → R D) (m : M Out) (N : Nat) : Prop := ∀ ds, ds.length = n → g ds = .stuck ∨ g ds = outR (m (env0 N ds))
section
variable {K : PySem.W.Frag} {E : XK} {F F' : Hp} {G : Gd} {σ : L2.St} {H H' : Hp} {δ : Env}
theorem RlAll.get {vs : List V} {ds : List D} : ∀ {i : Nat} {d : D}, RlAll K F vs ds → ds[i]? = some d → ∃ v, vs[i]? = some v ∧ Rl K F v d := by
  intro i d h
  induction vs generalizing ds i with
  | nil => cases h; intro e; simp at e
  | cons v vs ih =>
    cases h with
    | cons a t =>
      cases i with
      | zero => intro e; simp at e; subst e; exact ⟨v, rfl, a⟩
      | succ i => intro e; simpa using ih t (by simpa using e)
theorem start_SR {N : List Str} {vs : List V} {ds : List D} (s : Same F H) (tb : MT.LamT K H ∧ noTb F) (r : RlAll K F vs ds) : SR K F ⟨MT.noT H, 0⟩ (L2.start N vs) H (env0 N.length ds) := by
  have ln := r.length
  refine ⟨by simp [L2.start, env0, ln], s, MT.noT_same, fun i v hv => ?_, fun i j p _ ⟨_, v, hv, ho⟩ => ?_, tb.1, (fun b ps z => (MT.noT_to z).2 ps rfl), tb.2⟩
  · unfold env0 at hv
    by_cases hi : i < ds.length
    · rw [List.getElem?_append_left (by simpa using hi), List.getElem?_map] at hv
      cases e : ds[i]? with
      | none => rw [e] at hv; cases hv
      | some d =>
        rw [e] at hv; cases hv
        obtain ⟨u, e1, e2⟩ := r.get e
        refine ⟨u, ?_, e2⟩
        unfold L2.start
        rw [List.getElem?_append_left (by simpa [ln] using hi), List.getElem?_map, e1]
        rfl
    · rw [List.getElem?_append_right (by simpa using Nat.le_of_not_lt hi)] at hv
      have := List.getElem?_replicate (n := N.length - ds.length) (a := SV.no) (i := i - (ds.map SV.fz).length)
      rw [this] at hv
      split at hv
      · cases hv; trivial
      · cases hv
  · unfold env0 at hv
    by_cases hi : i < ds.length
    · rw [List.getElem?_append_left (by simpa using hi), List.getElem?_map] at hv
      cases e : ds[i]? with
      | none => rw [e] at hv; cases hv
      | some d => rw [e] at hv; cases hv; cases ho
    · rw [List.getElem?_append_right (by simpa using Nat.le_of_not_lt hi)] at hv
      rw [List.getElem?_replicate] at hv
      split at hv
      · cases hv; cases ho
      · cases hv
end
section
variable {P : Program} {w : World} {K : PySem.W.Frag} {mg : Str → Option Value} {base : Heap} {k : Nat} {f : Addr} {x qual : Str} {params : Arguments} {body : List Stmt} {scope : Scope} {dvs : List V} {kws : List (Str × V)} {fd : FuncData} {N ps : List Str} {g : List D → R D}
/-- what is left of a body -/
theorem body_run {H : Hp} {vs : List V} {Q : VK} {E E' : XK} {m : M Out} {n : Nat} (hl : Le n g m N.length) (h : sp0 K n g vs H Q E) (hE : ∀ ds c d, g ds = .err c d → E = E') : sD K E' m { nx := fun _ H' => Q .non H', rt := Q } (L2.start N vs) H := by
  obtain ⟨ln, F, ds, s, tb, r, q⟩ := h
  refine ⟨F, ⟨MT.noT H, 0⟩, env0 N.length ds, start_SR s tb r, ?_⟩
  rcases hl ds (r.length.symm.trans ln) with e | e
  · rw [e] at q; exact q.elim
  · cases hm : m (env0 N.length ds) with
    | stuck => rw [hm] at e; rw [e] at q; exact q.elim
    | err c d δ' =>
      rw [hm] at e
      have e2 := hE ds c d e
      rw [e] at q
      subst e2
      exact fun σ' dx v F' H' x S hd rr => q dx v F' H' x S.fh S.gh S.tb hd rr
    | ok o δ' =>
      rw [hm] at e
      cases o with
      | nx =>
        rw [e] at q
        exact fun σ' F' H' x S => q .non F' H' x S.fh S.gh S.tb (.dat .non)
      | ret d =>
        rw [e] at q
        exact fun σ' v F' H' x S rr => q v F' H' x S.fh S.gh S.tb rr
      | bk => rw [e] at q; exact q.elim
      | ct => rw [e] at q; exact q.elim
def noErr (g : List D → R D) : Prop := ∀ ds c d, g ds ≠ .err c d
/-- a def out of which nothing is raised -/
theorem fn_data {n : Nat} (hn : ps.length = n) (FF : FunD K x qual params body scope dvs kws f fd) (S : FnScope N ps scope) (ne : noErr g)
    (h : ∃ m, (∀ (cdv : Value) (A : Around) (outer : List PySem.Env) (s : Shared) (H : Hp) (E : XK), Room k (A.deeper (envOfC qual scope s.heap.objs.size f cdv)) → PSs (cxOf CX0 P w K mg base N qual scope f cdv A outer s H E).nox body (sD K E00 m)) ∧ Le n g m N.length) :
    FnOk P w K mg base CX0 (k + 1) f fd ps (sp0 K n g) := by
  obtain ⟨m, hb, hl⟩ := h
  refine FF.ok S (fun vs H Q E z => z.1.trans hn.symm) fun cdv A outer s H vs Q E hr hs => ⟨_, PSs.nox (hb cdv A outer s H E hr), body_run hl hs fun ds c d e => absurd e (ne ds c d)⟩
theorem fn_dataG {n : Nat} (hn : ps.length = n) (FF : FunD K x qual params body scope dvs kws f fd) (S : FnScope N ps scope) (ne : noErr g)
    (h : ∃ m, (∀ (cdv : Value) (A : Around) (outer : List PySem.Env) (s : Shared) (H : Hp) (E : XK), NoG (A.deeper (envOfC qual scope s.heap.objs.size f cdv)) → Room k (A.deeper (envOfC qual scope s.heap.objs.size f cdv)) → PSs (cxOf CX0 P w K mg base N qual scope f cdv A outer s H E).nox body (sD K E00 m)) ∧ Le n g m N.length) :
    FnOkG P w K mg base CX0 (k + 1) f fd ps (sp0 K n g) := by
  obtain ⟨m, hb, hl⟩ := h
  refine fnG_ok FF S (fun vs H Q E z => z.1.trans hn.symm) fun cdv A outer s H vs Q E hG hr hs => ⟨_, PSs.nox (hb cdv A outer s H E hG hr), body_run hl hs fun ds c d e => absurd e (ne ds c d)⟩
end
end DL

namespace DL
open PySem PySem.Spec PyProof.Rows L2 MT
section
variable {K : PySem.W.Frag} {E : XK} {F F' : Hp} {G : Gd} {σ : L2.St} {H H' : Hp} {δ : Env}
/-! ### ints -/
def int2 (f : Int → Int → Option D) : D → D → Option D
  | .dat (.int i), .dat (.int j) => f i j
  | _, _ => none
theorem int2_eq {f : Int → Int → Option D} {x y d : D} (h : int2 f x y = some d) : ∃ i j, x = .dat (.int i) ∧ y = .dat (.int j) ∧ f i j = some d := by
  unfold int2 at h
  split at h
  · exact ⟨_, _, rfl, rfl, h⟩
  · cases h
theorem ro_I0 {g : Int → Int → V} {f : Int → Int → D} (hg : ∀ i j F, Rl K F (g i j) (f i j)) : RO K (rI0 g) (int2 fun i j => some (f i j)) := fun {F G σ H δ x y dx dy d Q} S rx ry h q => by
  obtain ⟨i, j, rfl, rfl, h⟩ := int2_eq h
  cases rx.dd; cases ry.dd; cases h
  exact ⟨i, j, rfl, rfl, q _ F H (Ext.refl _ _) S (hg i j F)⟩
theorem ro_I {C : Int → Int → Prop} {c : Int → Int → Bool} {g : Int → Int → V} {f : Int → Int → D} (hc : ∀ i j, c i j = true → C i j) (hg : ∀ i j F, Rl K F (g i j) (f i j)) : RO K (rI C g) (int2 fun i j => if c i j = true then some (f i j) else none) := fun {F G σ H δ x y dx dy d Q} S rx ry h q => by
  obtain ⟨i, j, rfl, rfl, h⟩ := int2_eq h
  cases rx.dd; cases ry.dd
  have h : (if c i j = true then some (f i j) else none) = some d := h
  split at h
  · cases h; exact ⟨i, j, rfl, rfl, hc i j (by assumption), q _ F H (Ext.refl _ _) S (hg i j F)⟩
  · cases h
def iAdd : D → D → Option D := int2 fun i j => some (.dat (.int (i + j)))
def iSub : D → D → Option D := int2 fun i j => some (.dat (.int (i - j)))
def cMul (i j : Int) : Bool := (decide (-(2 ^ 64) < i) && decide (i < 2 ^ 64)) || (decide (-(2 ^ 64) < j) && decide (j < 2 ^ 64))
def iMul : D → D → Option D := int2 fun i j => if cMul i j = true then some (.dat (.int (i * j))) else none
def iMod : D → D → Option D := int2 fun i j => if decide (0 < j) = true then some (.dat (.int (i % j))) else none
def cDiv (i j : Int) : Bool := decide (0 < j) && decide (j < 1073741824)
def iDiv : D → D → Option D := int2 fun i j => if cDiv i j = true then some (.dat (.int (i / j))) else none
def int2B (f : Int → Int → Bool) : D → D → Option Bool
  | .dat (.int i), .dat (.int j) => some (f i j)
  | _, _ => none
theorem ro_IB {g : Int → Int → V} {f : Int → Int → Bool} (hg : ∀ i j, g i j = .bl (f i j)) : RO K (rI0 g) fun x y => boD (int2B f x y) := fun {F G σ H δ x y dx dy d Q} S rx ry h q => by
  obtain ⟨b, hb, rfl⟩ := map_eq h
  unfold int2B at hb
  split at hb
  · rename_i i j
    cases hb
    cases rx.dd; cases ry.dd
    exact ⟨i, j, rfl, rfl, q _ F H (Ext.refl _ _) S (by rw [hg]; exact .dat (.bl _))⟩
  · cases hb
abbrev iLt : D → D → Option Bool := int2B fun i j => decide (i < j)
abbrev iLe : D → D → Option Bool := int2B fun i j => decide (i ≤ j)
abbrev iGt : D → D → Option Bool := int2B fun i j => decide (j < i)
abbrev iGe : D → D → Option Bool := int2B fun i j => decide (j ≤ i)
theorem ro_add : RO K (rI0 fun i j => .int (i + j)) iAdd := ro_I0 fun i j F => .dat (.int _)
theorem ro_sub : RO K (rI0 fun i j => .int (i - j)) iSub := ro_I0 fun i j F => .dat (.int _)
theorem ro_mul : RO K (rI CMul fun i j => .int (i * j)) iMul := ro_I (fun i j h => by
  unfold cMul at h
  simp only [Bool.or_eq_true, Bool.and_eq_true, decide_eq_true_eq] at h
  exact h) fun i j F => .dat (.int _)
theorem ro_mod : RO K (rI (fun _ j => 0 < j) fun i j => .int (i % j)) iMod := ro_I (c := fun _ j => decide (0 < j)) (fun i j h => of_decide_eq_true h) fun i j F => .dat (.int _)
theorem ro_fdiv : RO K (rI CDiv fun i j => .int (i / j)) iDiv := ro_I (fun i j h => by
  unfold cDiv at h
  simp only [Bool.and_eq_true, decide_eq_true_eq] at h
  exact h) fun i j F => .dat (.int _)
theorem ro_lt : RO K (rI0 fun i j => .bl (decide (i < j))) fun x y => boD (iLt x y) := ro_IB fun _ _ => rfl
theorem ro_le : RO K (rI0 fun i j => .bl (decide (i ≤ j))) fun x y => boD (iLe x y) := ro_IB fun _ _ => rfl
theorem ro_gt : RO K (rI0 fun i j => .bl (decide (j < i))) fun x y => boD (iGt x y) := ro_IB fun _ _ => rfl
theorem ro_ge : RO K (rI0 fun i j => .bl (decide (j ≤ i))) fun x y => boD (iGe x y) := ro_IB fun _ _ => rfl
def iNeg : D → Option D
  | .dat (.int i) => some (.dat (.int (-i)))
  | _ => none
theorem ru_neg : RU K (rU fun i => .int (-i)) iNeg := fun {F G σ H δ x dx d Q} S rx h q => by
  unfold iNeg at h
  split at h
  · cases h; cases rx.dd; exact ⟨_, rfl, q _ F H (Ext.refl _ _) S (.dat (.int _))⟩
  · cases h
/-! ### == of data -/
def eqB : D → D → Option Bool
  | .dat a, .dat b => if (SeqAt.shaped a && SeqAt.shaped b) = true then some (PyData.eqv a b) else none
  | _, _ => none
def neB (x y : D) : Option Bool := (eqB x y).map not
theorem shaped_lay {d : PyData} (h : SeqAt.shaped d = true) : d.canLay0 = true := SeqAt.canLay_of_shaped h
theorem eqB_eq {x y : D} {r : Bool} (h : eqB x y = some r) : ∃ a b, x = .dat a ∧ y = .dat b ∧ SeqAt.shaped a = true ∧ SeqAt.shaped b = true ∧ r = PyData.eqv a b := by
  unfold eqB at h
  split at h
  · split at h
    · rename_i a b hs
      cases h
      rw [Bool.and_eq_true] at hs
      exact ⟨a, b, rfl, rfl, hs.1, hs.2, rfl⟩
    · cases h
  · cases h
theorem ro_eq : RO K (rEqD K) fun x y => boD (eqB x y) := fun {F G σ H δ x y dx dy d Q} S rx ry h q => by
  obtain ⟨r, hr, rfl⟩ := map_eq h
  obtain ⟨a, b, rfl, rfl, sa, sb, rfl⟩ := eqB_eq hr
  exact ⟨a, b, (rx.dd.same S.fh).dp (shaped_lay sa), (ry.dd.same S.fh).dp (shaped_lay sb), sa, sb, q _ F H (Ext.refl _ _) S (.dat (.bl _))⟩
theorem ro_ne : RO K (rNeD K) fun x y => boD (neB x y) := fun {F G σ H δ x y dx dy d Q} S rx ry h q => by
  obtain ⟨r, hr, rfl⟩ := map_eq h
  obtain ⟨r, hr2, rfl⟩ := map_eq hr
  obtain ⟨a, b, rfl, rfl, sa, sb, rfl⟩ := eqB_eq hr2
  exact ⟨a, b, (rx.dd.same S.fh).dp (shaped_lay sa), (ry.dd.same S.fh).dp (shaped_lay sb), sa, sb, q _ F H (Ext.refl _ _) S (.dat (.bl _))⟩
/-! ### in, of data -/
def seqD : PyData → Option (List PyData)
  | .list ds => some ds
  | .tuple ds => some ds
  | _ => none
def rInQ (K : PySem.W.Frag) (neg : Bool) : R2 := fun x y H Q => ∃ d e ds, Dp K H x d ∧ Dp K H y e ∧ seqD e = some ds ∧ SeqAt.shaped d = true ∧ SeqAt.shaped e = true ∧ Q (.bl (neg ^^ ds.any fun z => PyData.eqv z d)) H
end
section
variable {X : Cx}
theorem room_in {A : Around} {ds : List PyData} {d : PyData} (sd : SeqAt.shaped d = true) (hu : A.units + 65 < cLine) : A.units + 1 + min (PyData.depthAll ds) d.depth < cLine := by
  have h := SeqAt.depth_of_shaped sd
  omega
theorem op_inQ {k : Nat} (hr : Room k X.A) : OpR X (compareOp .In) (rInQ X.K false) := by
  intro pins s σ H x y v u Q I rx ry h
  obtain ⟨d, e, ds, hd, he, hs, sd, se, q⟩ := h
  have hu : X.A.units + 65 < cLine := by have := hr.un; omega
  obtain ⟨as, r1⟩ := Dp.reads I d x v hd rx
  obtain ⟨bs, r2⟩ := Dp.reads I e y u he ry
  unfold seqD at hs
  split at hs
  · cases hs
    exact SeqAt.in_list_reads r2 r1 (SeqAt.canLay_of_shaped se) (SeqAt.canLay_of_shaped sd) (room_in sd hu) ⟨.bl _, H, I, rfl, by rw [Bool.false_xor] at q; exact q⟩
  · cases hs
    exact SeqAt.in_tuple_reads r2 r1 (SeqAt.canLay_of_shaped se) (SeqAt.canLay_of_shaped sd) (room_in sd hu) ⟨.bl _, H, I, rfl, by rw [Bool.false_xor] at q; exact q⟩
  · cases hs
theorem op_notInQ {k : Nat} (hr : Room k X.A) : OpR X (compareOp .NotIn) (rInQ X.K true) := by
  intro pins s σ H x y v u Q I rx ry h
  obtain ⟨d, e, ds, hd, he, hs, sd, se, q⟩ := h
  have hu : X.A.units + 65 < cLine := by have := hr.un; omega
  obtain ⟨as, r1⟩ := Dp.reads I d x v hd rx
  obtain ⟨bs, r2⟩ := Dp.reads I e y u he ry
  unfold seqD at hs
  split at hs
  · cases hs
    exact SeqAt.notIn_list_reads r2 r1 (SeqAt.canLay_of_shaped se) (SeqAt.canLay_of_shaped sd) (room_in sd hu) ⟨.bl _, H, I, rfl, by rw [Bool.true_xor] at q; exact q⟩
  · cases hs
    exact SeqAt.notIn_tuple_reads r2 r1 (SeqAt.canLay_of_shaped se) (SeqAt.canLay_of_shaped sd) (room_in sd hu) ⟨.bl _, H, I, rfl, by rw [Bool.true_xor] at q; exact q⟩
  · cases hs
/-- t.index(x) of data, t a tuple or a list; x is in it -/
def idxD (d : PyData) : List PyData → Option Nat
  | [] => none
  | y :: ys => if PyData.eqv y d = true then some 0 else (idxD d ys).map (· + 1)
theorem idxD_of {d : PyData} : ∀ {ds : List PyData} {j : Nat}, idxD d ds = some j → true ∈ ds.map (fun z => PyData.eqv z d) ∧ (ds.map fun z => PyData.eqv z d).idxOf true = j
  | [], j, h => by cases h
  | y :: ys, j, h => by
    unfold idxD at h
    split at h
    · rename_i hy
      cases h
      rw [List.map_cons, hy]
      exact ⟨by simp, by simp⟩
    · rename_i hy
      obtain ⟨i, hi, rfl⟩ := map_eq h
      obtain ⟨h1, h2⟩ := idxD_of hi
      have hy : PyData.eqv y d = false := by simpa using hy
      rw [List.map_cons, hy]
      refine ⟨List.mem_cons_of_mem _ h1, ?_⟩
      rw [List.idxOf_cons, h2]
      rfl
def rIdx (K : PySem.W.Frag) : V → List V → Hp → VK → Prop := fun x xs H Q => ∃ (a : Addr) (y : V) (d : PyData) (ds : List PyData) (j : Nat), x = V.ref a ∧ xs = [y] ∧ Dp K H (V.ref a) (.tuple ds) ∧ Dp K H y d ∧ SeqAt.shaped (.tuple ds) = true ∧ SeqAt.shaped d = true ∧ idxD d ds = some j ∧ Q (.int (j : Nat)) H
theorem mt_idxT {k : Nat} (hr : Room k X.A) : MtR X "tuple.index" (rIdx X.K) := by
  intro pins s σ H x xs v us Q I rx rxs h
  obtain ⟨a, y, d, ds, j, rfl, rfl, hl, hy, sl, sd, hj, q⟩ := h
  have hu : X.A.units + 65 < cLine := by have := hr.un; omega
  cases rx
  cases rxs with
  | cons ry rt =>
    rename_i uy ut
    cases rt
    obtain ⟨hin, hix⟩ := idxD_of hj
    obtain ⟨bs, r1⟩ := Dp.reads I d y uy hy ry
    have hxs : PyData.canLayAll0 ds = true := SeqAt.canLay_of_shaped sl
    have hroom : X.A.units + 1 + min (PyData.depthAll ds) d.depth < cLine := room_in sd hu
    cases hl with
    | tup hs ha =>
      obtain ⟨its, rv, hT, hlen⟩ := I.tuple hs
      obtain ⟨as, h4⟩ := Dp.readsAll I ds _ its ha rv
      have hmap : its.map (SeqAt.readOf s.heap) = ds := SeqAt.readsAll_map ds its as hxs h4
      have hn : its.length = ds.length := SeqAt.ReadsAll.length ds its as h4
      have eqs := SeqAt.items_eqAt (A := X.A) (vs := its.toArray) (show ReadsAll s.heap its.toArray.toList ds as from h4) r1 hxs (SeqAt.canLay_of_shaped sd) hroom
      refine SeqAt.call_tuple_index (ks := ds.map fun z => PyData.eqv z d) (k := true) hT ⟨by rw [List.length_map]; exact hn, fun j h1 h2 => ?_⟩ hin ?_
      · have e := eqs its[j] (by simp)
        have e2 : SeqAt.readOf s.heap its[j] = ds[j]'(by rw [← hn]; exact h1) := by
          have z : (its.map (SeqAt.readOf s.heap))[j]? = ds[j]? := by rw [hmap]
          rw [List.getElem?_map, List.getElem?_eq_getElem h1, List.getElem?_eq_getElem (by rw [← hn]; exact h1)] at z
          simpa using z
        rw [e2] at e
        simpa using e
      · rw [hix]
        exact ⟨.int (j : Nat), H, I.tok _, ⟨_, rfl⟩, q⟩
end
end DL

namespace DL
open PySem PySem.Spec PyProof.Rows L2 MT
/-! ### tuples: methods, +, slices -/
section
variable {X : Cx} {o e : Expr} {es : List Expr} {to : TE} {t : TA} {name : Str} {apos cpos : Pos} {id : String} {r : V → List V → Hp → VK → Prop}
def tBMT (K : PySem.W.Frag) (r : V → List V → Hp → VK → Prop) (to : TE) (t : TA) : TE := fun σ H Q => to σ H fun x H1 => (∃ a xs, x = .ref a ∧ TupS K H1 a xs) ∧ t σ H1 fun xs H2 => r x xs H2 Q
theorem pe_bmT (slot : Slot "tuple" name id) (hty : typeOf (.builtin id) = pure (.type "method_descriptor")) (hm : MtR X id r) (ho : PE X o to) (ha : PA X (e :: es) t)
    (hbase : attributeBase o name X.env (eval o X.env) = eval o X.env := by rfl)
    (hfew : ((backTo cpos (starEach (e :: es) X.env)).all (fun x => !x.1) && (backToKw cpos (keywordEach [] X.env)).all (fun x => x.1.isSome)
      && decide ((e :: es).length + ([] : List Keyword).length + (if ([] : List Keyword).isEmpty then 0 else 1) < 30)) = true := by rfl)
    (hline : (apos.endLine == cpos.line) = true := by rfl) (hs : starEach (e :: es) X.env = (false, eval e X.env) :: starEach es X.env := by rfl) (hplain : (backTo cpos (starEach es X.env)).any (·.1) = false := by rfl) :
    PE X (.Call (.Attribute o name apos) (e :: es) [] cpos) (tBMT X.K r to t) := by
  refine ⟨fun pins s σ H Q I h => ?_⟩
  refine wpAny_Call_method_late hbase hfew hline rfl (thn (ho.run pins s σ H _ I h) fun v s1 ⟨x, H1, I1, r1, ⟨a, xs, ex, hT⟩, q1⟩ => ?_)
  subst ex
  have r1' : v = Value.ref a := r1
  obtain ⟨its, _, ⟨oT, g1, g2, _⟩, _⟩ := I1.tuple hT.sq
  refine ⟨"tuple", id, PySem.F.plainAttrs_tuple, slot, hty, by rw [r1']; exact ⟨oT, g1, g2⟩, fun b eb => ?_, ?_⟩
  · rw [r1'] at eb
    cases eb
    exact hT.nodict I1
  have hA := ha.run cpos pins s1 σ H1 _ I1 q1
  rw [hs] at hA ⊢
  refine Calls.callWith_builtin (by show (false || (backTo cpos (starEach es X.env)).any (·.1)) = false; rw [hplain] <;> rfl) (Calls.evalArgs_plain ?_)
  exact thn hA fun us s2 ⟨vs, H2, I2, r2, q2⟩ => hm pins s2 σ H2 _ vs v us Q I2 r1 r2 q2
def rCatS (K : PySem.W.Frag) : R2 := fun x y H Q => ∃ a b xs ys, x = .ref a ∧ y = .ref b ∧ SqT K H a xs ∧ SqT K H b ys ∧ xs.length + ys.length ≤ sizeLine ∧
  (xs = [] → Q (.ref b) H) ∧ (xs ≠ [] → ys = [] → Q (.ref a) H) ∧ (xs ≠ [] → ys ≠ [] → rNewT (xs ++ ys) H Q)
theorem op_catS : OpR X (binaryOp .Add) (rCatS X.K) := by
  intro pins s σ H x y v u Q I rx ry h
  obtain ⟨a, b, xs, ys, rfl, rfl, ha, hb, hz, q0, q1, q2⟩ := h
  cases rx
  cases ry
  obtain ⟨its, r1, p1, _⟩ := I.tuple ha
  obtain ⟨its2, r2, p2, _⟩ := I.tuple hb
  by_cases hx : xs = []
  · subst hx
    cases r1
    exact cat_tup0 p1 p2 ⟨.ref b, H, I, rfl, q0 rfl⟩
  · refine HT.cat_tup p1 p2 (fun z => hx (r1.nil_iff.mp z)) (fun z => ⟨.ref a, H, I, rfl, q1 hx (r2.nil_iff.mp z)⟩) (fun z => ?_) (by rw [← r1.length, ← r2.length]; exact hz)
    have hz2 : (xs ++ ys).length ≤ sizeLine := by rw [List.length_append]; exact hz
    obtain ⟨hf, J⟩ := lock_tup I (r1.append r2) hz2
    exact ⟨.ref s.heap.objs.size, _, J, rfl, (q2 hx fun w => z (r2.nil_iff.mpr w)).2 _ _ hf rfl⟩
def rSlS (K : PySem.W.Frag) : V → Option Int → Option Int → Hp → VK → Prop := fun x lo hi H Q => ∃ a xs, x = .ref a ∧ SqT K H a xs ∧
  (HT.sIx xs.length 0 lo = 0 ∧ HT.sIx xs.length xs.length hi = xs.length → Q (.ref a) H) ∧ (¬ (HT.sIx xs.length 0 lo = 0 ∧ HT.sIx xs.length xs.length hi = xs.length) → ∀ p (o : Obj), H p = none → o.dict = none → Q (.ref p) (upd H p (.frz o (.tup (cutV xs lo hi)))))
theorem sl_tupS : SlR X (rSlS X.K) := by
  intro pins s σ H x v vl vu lo hi sl Q I rx hs pl pu h
  obtain ⟨a, xs, rfl, hx, q1, q2⟩ := h
  cases rx
  obtain ⟨its, r, ht, hz⟩ := I.tuple hx
  have hlen : its.toArray.size = xs.length := by rw [List.size_toArray]; exact r.length.symm
  refine ⟨"tuple", _, PyProof.Rows.slot_tuple_getitem.lookup, ht.typeIs, ?_⟩
  by_cases hw : HT.sIx xs.length 0 lo = 0 ∧ HT.sIx xs.length xs.length hi = xs.length
  · exact getItem_tuple_whole ht hs pl pu (by rw [hlen]; exact hw) ⟨.ref a, H, I, rfl, q1 hw⟩
  · refine HT.getItem_tuple_cut ht hs pl pu (by rw [hlen]; exact hw) ?_ (by rw [hlen]; exact hz)
    rw [hlen]
    have hz2 : (cutV xs lo hi).length ≤ sizeLine := Nat.le_trans (cutV_length xs lo hi) hz
    obtain ⟨hf, J⟩ := lock_tup I ((r.drop (HT.sIx xs.length 0 lo)).take (HT.sIx xs.length xs.length hi - HT.sIx xs.length 0 lo)) hz2
    exact ⟨.ref s.heap.objs.size, _, J, rfl, q2 hw _ _ hf rfl⟩
end
section
variable {K : PySem.W.Frag} {E : XK} {F F' : Hp} {G : Gd} {σ : L2.St} {H H' : Hp} {δ : Env}
/-! ### in, index -/
def inB (neg : Bool) : D → D → Option Bool
  | .dat d, .dat e => (seqD e).bind fun ds => if (SeqAt.shaped d && SeqAt.shaped e) = true then some (neg ^^ ds.any fun z => PyData.eqv z d) else none
  | _, _ => none
theorem inB_eq {neg : Bool} {x y : D} {r : Bool} (h : inB neg x y = some r) : ∃ d e ds, x = .dat d ∧ y = .dat e ∧ seqD e = some ds ∧ SeqAt.shaped d = true ∧ SeqAt.shaped e = true ∧ r = (neg ^^ ds.any fun z => PyData.eqv z d) := by
  unfold inB at h
  split at h
  · rename_i d e
    cases hs : seqD e with
    | none => rw [hs] at h; cases h
    | some ds =>
      rw [hs] at h
      have h : (if (SeqAt.shaped d && SeqAt.shaped e) = true then some (neg ^^ ds.any fun z => PyData.eqv z d) else none) = some r := h
      split at h
      · rename_i hc
        cases h
        rw [Bool.and_eq_true] at hc
        exact ⟨d, e, ds, rfl, rfl, hs, hc.1, hc.2, rfl⟩
      · cases h
  · cases h
theorem ro_in {neg : Bool} : RO K (rInQ K neg) fun x y => boD (inB neg x y) := fun {F G σ H δ x y dx dy d Q} S rx ry h q => by
  obtain ⟨r, hr, rfl⟩ := map_eq h
  obtain ⟨a, b, ds, rfl, rfl, hs, sa, sb, rfl⟩ := inB_eq hr
  exact ⟨a, b, ds, (rx.dd.same S.fh).dp (shaped_lay sa), (ry.dd.same S.fh).dp (shaped_lay sb), hs, sa, sb, q _ F H (Ext.refl _ _) S (.dat (.bl _))⟩
/-- one sign in a text -/
def inS (neg : Bool) : D → D → Option Bool
  | .dat (.str x), .dat (.str z) => match x.cps.toList with
    | [c] => some (neg ^^ decide (c ∈ z.cps.toList))
    | _ => none
  | _, _ => none
theorem ro_inS : RO K (fun x y H Q => ∃ (c : Nat) (z : Str), x = .str ⟨#[c]⟩ ∧ y = .str z ∧ Q (.bl (decide (c ∈ z.cps.toList))) H) fun x y => boD (inS false x y) := fun {F G σ H δ x y dx dy d Q} S rx ry h q => by
  obtain ⟨r, hr, rfl⟩ := map_eq h
  unfold inS at hr
  split at hr
  · rename_i x z
    split at hr
    · rename_i c hc
      cases hr
      cases rx.dd; cases ry.dd
      rw [Bool.false_xor] at q
      refine ⟨c, z, ?_, rfl, q _ F H (Ext.refl _ _) S (.dat (.bl _))⟩
      obtain ⟨a⟩ := x
      obtain ⟨l⟩ := a
      have e : l = [c] := hc
      rw [e]
    · cases hr
  · cases hr
/-- t.index(x) -/
def idxF : D → List D → Option D
  | .dat (.tuple ds), [.dat d] => if (SeqAt.shaped (.tuple ds) && SeqAt.shaped d) = true then (idxD d ds).map fun j => .dat (.int (j : Nat)) else none
  | _, _ => none
def isTup : D → Bool
  | .dat (.tuple _) => true
  | _ => false
def mIdx (mo : M D) (ma : M (List D)) : M D := fun δ => (mo δ).bind fun x δ1 => if isTup x = true then (ma δ1).bind fun ds δ2 => mOf (idxF x ds) δ2 else .stuck
theorem md_idx {mo : M D} {ma : M (List D)} : ∀ σ H Q, tD K E (mIdx mo ma) σ H Q → tBMT K (rIdx K) (tD K E mo) (tDs K E ma) σ H Q := by
  rintro σ H Q ⟨F, G, δ, S, h⟩
  refine ⟨F, G, δ, S, h.bind.imp fun x δ1 F1 H1 e1 S1 q v rv => ?_⟩
  split at q
  · rename_i hk
    unfold isTup at hk
    split at hk
    · refine ⟨?_, F1, G, δ1, S1, q.bind.imp fun ds δ2 F2 H2 e2 S2 q2 vs rvs => ?_⟩
      · cases rv.dd with
        | tup hs ha => exact ⟨_, _, rfl, hs.same S1.fh⟩
      · obtain ⟨d, hd, q3⟩ := q2.of
        have rx := rv.same e2.same
        unfold idxF at hd
        split at hd
        · rename_i heq
          cases heq
          split at hd
          · rename_i hc
            obtain ⟨j, hj, rfl⟩ := map_eq hd
            rw [Bool.and_eq_true] at hc
            cases rvs with
            | cons r1 rt =>
              cases rt
              have p := (rx.dd.same S2.fh).dp (shaped_lay hc.1)
              cases rx.dd with
              | tup hs ha => exact ⟨_, _, _, _, j, rfl, rfl, p, (r1.dd.same S2.fh).dp (shaped_lay hc.2), hc.1, hc.2, hj, q3 F2 H2 (Ext.refl _ _) S2 _ (.dat (.int _))⟩
          · cases hd
        · cases hd
    · cases hk
  · exact q.elim
/-! ### texts -/
def str2 (f : Str → Str → Option D) : D → D → Option D
  | .dat (.str i), .dat (.str j) => f i j
  | _, _ => none
theorem str2_eq {f : Str → Str → Option D} {x y d : D} (h : str2 f x y = some d) : ∃ i j, x = .dat (.str i) ∧ y = .dat (.str j) ∧ f i j = some d := by
  unfold str2 at h
  split at h
  · exact ⟨_, _, rfl, rfl, h⟩
  · cases h
def sAdd : D → D → Option D := str2 fun i j => if i.length + j.length ≤ most then some (.dat (.str (i ++ j))) else none
theorem ro_addS : RO K (fun x y H Q => ∃ i j, x = .str i ∧ y = .str j ∧ i.length + j.length ≤ sizeLine ∧ Q (.str (i ++ j)) H) sAdd := fun {F G σ H δ x y dx dy d Q} S rx ry h q => by
  obtain ⟨i, j, rfl, rfl, h⟩ := str2_eq h
  have h : (if i.length + j.length ≤ most then some (.dat (.str (i ++ j))) else none) = some d := h
  split at h
  · rename_i hl
    cases h; cases rx.dd; cases ry.dd
    exact ⟨i, j, rfl, rfl, most_le hl, q _ F H (Ext.refl _ _) S (.dat (.str _))⟩
  · cases h
/-! ### lists and tuples: +, *, [i], slices -/
def lCat : D → D → Option D
  | .dat (.list a), .dat (.list b) => if a.length + b.length ≤ most then some (.dat (.list (a ++ b))) else none
  | _, _ => none
theorem ro_cat : ROF K rCat lCat := fun {F G σ H δ x y dx dy d Q} S rx ry h q => by
  unfold lCat at h
  split at h
  · split at h
    · rename_i hl
      cases h
      cases rx.dd with
      | lst ha da =>
        cases ry.dd with
        | lst hb db =>
          refine ⟨_, _, _, _, rfl, rfl, S.fh _ _ ha, S.fh _ _ hb, most_le (by rw [da.length, db.length]; exact hl), fun p np => ?_⟩
          obtain ⟨S2, f, g, n⟩ := S.fresh (o := .lst _) np
          exact q p F _ (Ext.refl _ _) S2 f g (.lst upd_same (da.append db)) n
    · cases h
  · cases h
def tCat : D → D → Option D
  | .dat (.tuple a), .dat (.tuple b) => if a.length + b.length ≤ most then some (.dat (.tuple (a ++ b))) else none
  | _, _ => none
theorem ro_catT : RO K (rCatS K) tCat := fun {F G σ H δ x y dx dy d Q} S rx ry h q => by
  unfold tCat at h
  split at h
  · split at h
    · rename_i hl
      cases h
      cases rx.dd with
      | tup ha da =>
        cases ry.dd with
        | tup hb db =>
          rename_i a xs b ys
          refine ⟨_, _, _, _, rfl, rfl, Same.tup S.fh ha.sq, Same.tup S.fh hb.sq, most_le (by rw [da.length, db.length]; exact hl), fun e => ?_, fun _ e => ?_, fun _ _ => ⟨by rw [List.length_append, da.length, db.length]; exact most_le hl, fun p o np nd => ?_⟩⟩
          · subst e; cases da; exact q _ F H (Ext.refl _ _) S (.dat (.tup hb db))
          · subst e; cases db; rw [List.append_nil] at q; exact q _ F H (Ext.refl _ _) S (.dat (.tup ha da))
          · obtain ⟨S2, x⟩ := S.newF (o := .frz o (.tup _)) np
            exact q _ _ _ x S2 (.dat (.tup (.inl ⟨o, upd_same, nd⟩) ((da.append db).same x.same)))
    · cases h
  · cases h
def ixF : D → D → Option D
  | .dat (.list a), .dat (.int i) => (atI a i).map .dat
  | .dat (.tuple a), .dat (.int i) => (atI a i).map .dat
  | .scr ns, .dat (.int i) => (atI ns i).map fun n => .dat (.int n)
  | _, _ => none
theorem atI_rel {vs : List V} {ds : List PyData} {i : Int} {d : PyData} (t : DdAll K F vs ds) (h : atI ds i = some d) : ∃ v, atI vs i = some v ∧ Dd K F v d := by
  unfold atI at h ⊢
  rw [t.length]
  cases e : ixN ds.length i with
  | none => rw [e] at h; cases h
  | some j => rw [e] at h; exact t.get h
theorem ro_ix : RO K (rIx K) ixF := fun {F G σ H δ x y dx dy d Q} S rx ry h q => by
  unfold ixF at h
  split at h
  · obtain ⟨z, hz, rfl⟩ := map_eq h
    cases ry.dd
    cases rx.dd with
    | lst ha da => obtain ⟨v, h1, h2⟩ := atI_rel da hz; exact .inl ⟨_, _, _, v, rfl, rfl, SqL.of (S.fh _ _ ha), h1, q _ F H (Ext.refl _ _) S (.dat h2)⟩
  · obtain ⟨z, hz, rfl⟩ := map_eq h
    cases ry.dd
    cases rx.dd with
    | tup ha da => obtain ⟨v, h1, h2⟩ := atI_rel da hz; exact .inr (.inl ⟨_, _, _, v, rfl, rfl, Same.tup S.fh ha.sq, h1, q _ F H (Ext.refl _ _) S (.dat h2)⟩)
  · obtain ⟨z, hz, rfl⟩ := map_eq h
    cases ry.dd
    cases rx with
    | scr ha => exact .inl ⟨_, _, _, .int z, rfl, rfl, S.fh.seq ha, by
        unfold atI at hz ⊢
        rw [List.length_map]
        cases e : ixN _ _ with
        | none => rw [e] at hz; cases hz
        | some j =>
          rw [e] at hz
          show (List.map V.int _)[j]? = _
          rw [List.getElem?_map]
          have hz : _[j]? = some z := hz
          rw [hz]; rfl, q _ F H (Ext.refl _ _) S (.dat (.int _))⟩
  · cases h
/-- parts of a slice -/
def mPart (m : M D) : M (Option Int) := fun δ => (m δ).bind fun d δ1 => match d with
  | .dat (.int i) => .ok (some i) δ1
  | _ => .stuck
theorem md_part {m : M D} : ∀ σ H Q, tPo K E (mPart m) σ H Q → tPart (tD K E m) σ H Q := by
  rintro σ H Q ⟨F, G, δ, S, h⟩
  refine ⟨F, G, δ, S, h.bind.imp fun d δ1 F1 H1 e1 S1 q v rv => ?_⟩
  split at q
  · cases rv.dd; exact ⟨_, rfl, q F1 H1 (Ext.refl _ _) S1⟩
  · exact q.elim
theorem md_noPart : ∀ σ H Q, tPo K E (mOk none) σ H Q → tNoPart σ H Q := by
  rintro σ H Q ⟨F, G, δ, S, h⟩
  exact h F H (Ext.refl _ _) S
def cutD {α : Type} (xs : List α) (lo hi : Option Int) : List α := (xs.drop (HT.sIx xs.length 0 lo)).take (HT.sIx xs.length xs.length hi - HT.sIx xs.length 0 lo)
theorem cut_rel {vs : List V} {ds : List PyData} {lo hi : Option Int} (t : DdAll K F vs ds) : DdAll K F (cutV vs lo hi) (cutD ds lo hi) := by
  unfold cutV cutD
  rw [t.length]
  exact (t.drop _).take _
def mSl (f : D → Option Int → Option Int → Option D) (m : M D) (ml mh : M (Option Int)) : M D := fun δ => (m δ).bind fun x δ1 => (ml δ1).bind fun l δ2 => (mh δ2).bind fun u δ3 => mOf (f x l u) δ3
def slL : D → Option Int → Option Int → Option D
  | .dat (.list a), l, u => some (.dat (.list (cutD a l u)))
  | _, _, _ => none
def slT : D → Option Int → Option Int → Option D
  | .dat (.tuple a), l, u => some (.dat (.tuple (cutD a l u)))
  | _, _, _ => none
theorem md_slL {m : M D} {ml mh : M (Option Int)} : ∀ σ H Q, tFr K E (mSl slL m ml mh) σ H Q → tSl (rSlL K) (tD K E m) (tPo K E ml) (tPo K E mh) σ H Q := by
  rintro σ H Q ⟨F, G, δ, S, h⟩
  refine ⟨F, G, δ, S, h.bind.imp fun x δ1 F1 H1 e1 S1 q v rv => ⟨F1, G, δ1, S1, q.bind.imp fun l δ2 F2 H2 e2 S2 q2 => ⟨F2, G, δ2, S2, q2.bind.imp fun u δ3 F3 H3 e3 S3 q3 => ?_⟩⟩⟩
  obtain ⟨d, hd, q4⟩ := q3.of
  unfold slL at hd
  split at hd
  · cases hd
    cases ((rv.same e2.same).same e3.same).dd with
    | lst ha da =>
      refine ⟨_, _, rfl, SqL.of (S3.fh _ _ ha), fun p np => ?_⟩
      obtain ⟨S4, f, g, n⟩ := S3.fresh (o := .lst _) np
      exact q4 F3 _ (Ext.refl _ _) S4 p f g (.lst upd_same (cut_rel da)) n
  · cases hd
theorem cut_all {α : Type} {xs : List α} {lo hi : Option Int} (h : HT.sIx xs.length 0 lo = 0 ∧ HT.sIx xs.length xs.length hi = xs.length) : cutD xs lo hi = xs := by
  unfold cutD
  rw [h.1, h.2]
  simp
theorem md_slT {m : M D} {ml mh : M (Option Int)} : ∀ σ H Q, tD K E (mSl slT m ml mh) σ H Q → tSl (rSlS K) (tD K E m) (tPo K E ml) (tPo K E mh) σ H Q := by
  rintro σ H Q ⟨F, G, δ, S, h⟩
  refine ⟨F, G, δ, S, h.bind.imp fun x δ1 F1 H1 e1 S1 q v rv => ⟨F1, G, δ1, S1, q.bind.imp fun l δ2 F2 H2 e2 S2 q2 => ⟨F2, G, δ2, S2, q2.bind.imp fun u δ3 F3 H3 e3 S3 q3 => ?_⟩⟩⟩
  obtain ⟨d, hd, q4⟩ := q3.of
  unfold slT at hd
  split at hd
  · cases hd
    cases ((rv.same e2.same).same e3.same).dd with
    | tup ha da =>
      refine ⟨_, _, rfl, Same.tup S3.fh ha.sq, fun e => ?_, fun _ p o np nd => ?_⟩
      · rw [da.length] at e
        rw [cut_all e] at q4
        exact q4 F3 H3 (Ext.refl _ _) S3 _ (.dat (.tup ha da))
      · obtain ⟨S4, x⟩ := S3.newF (o := .frz o (.tup _)) np
        exact q4 _ _ x S4 _ (.dat (.tup (.inl ⟨o, upd_same, nd⟩) ((cut_rel da).same x.same)))
  · cases hd
/-! ### built-in functions -/
def lenF : List D → Option D
  | [.dat (.list ds)] => some (.dat (.int (ds.length : Nat)))
  | [.dat (.tuple ds)] => some (.dat (.int (ds.length : Nat)))
  | [.dat (.str z)] => if z.length ≤ most then some (.dat (.int (z.length : Nat))) else none
  | [.scr ns] => some (.dat (.int (ns.length : Nat)))
  | _ => none
theorem rc_len : RC K (fun xs H Q => ∃ x n, xs = [x] ∧ LenV K x H n ∧ Q (.int n) H) lenF := fun {F G σ H δ xs ds d Q} S r h q => by
  unfold lenF at h
  split at h
  · cases h
    cases r with
    | cons r1 rt =>
      cases rt
      cases r1.dd with
      | lst ha da => exact ⟨_, _, rfl, .inl ⟨_, SqL.of (S.fh _ _ ha), rfl⟩, by rw [da.length]; exact q _ F H (Ext.refl _ _) S (.dat (.int _))⟩
  · cases h
    cases r with
    | cons r1 rt =>
      cases rt
      cases r1.dd with
      | tup ha da => exact ⟨_, _, rfl, .inr ⟨_, Same.tup S.fh ha.sq, rfl⟩, by rw [da.length]; exact q _ F H (Ext.refl _ _) S (.dat (.int _))⟩
  · split at h
    · rename_i z hz
      cases h
      cases r with
      | cons r1 rt =>
        cases rt
        cases r1.dd
        exact ⟨_, _, rfl, ⟨most_le hz, rfl⟩, q _ F H (Ext.refl _ _) S (.dat (.int _))⟩
    · cases h
  · cases h
    cases r with
    | cons r1 rt =>
      cases rt
      cases r1 with
      | scr ha => exact ⟨_, _, rfl, .inl ⟨_, S.fh.seq ha, rfl⟩, by rw [List.length_map]; exact q _ F H (Ext.refl _ _) S (.dat (.int _))⟩
  · cases h
def listF : List D → Option D
  | [.dat (.list ds)] => some (.dat (.list ds))
  | [.dat (.tuple ds)] => some (.dat (.list ds))
  | _ => none
theorem rc_list : RCF K (fun xs H Q => ∃ p ys, xs = [.ref p] ∧ (SqL K H p ys ∨ SqT K H p ys) ∧ ∀ l, H l = none → Q (.ref l) (upd H l (.lst ys))) listF := fun {F G σ H δ xs ds d Q} S r h q => by
  unfold listF at h
  split at h
  · cases h
    cases r with
    | cons r1 rt =>
      cases rt
      cases r1.dd with
      | lst ha da =>
        refine ⟨_, _, rfl, .inl (SqL.of (S.fh _ _ ha)), fun p np => ?_⟩
        obtain ⟨S4, f, g, n⟩ := S.fresh (o := .lst _) np
        exact q p F _ (Ext.refl _ _) S4 f g (.lst upd_same da) n
  · cases h
    cases r with
    | cons r1 rt =>
      cases rt
      cases r1.dd with
      | tup ha da =>
        refine ⟨_, _, rfl, .inr (Same.tup S.fh ha.sq), fun p np => ?_⟩
        obtain ⟨S4, f, g, n⟩ := S.fresh (o := .lst _) np
        exact q p F _ (Ext.refl _ _) S4 f g (.lst upd_same da) n
  · cases h
def tupleF : List D → Option D
  | [.dat (.list ds)] => if ds.length ≤ most then some (.dat (.tuple ds)) else none
  | [.dat (.tuple ds)] => some (.dat (.tuple ds))
  | _ => none
theorem rc_tuple : RC K (rTupleS K) tupleF := fun {F G σ H δ xs ds d Q} S r h q => by
  unfold tupleF at h
  split at h
  · split at h
    · rename_i hl
      cases h
      cases r with
      | cons r1 rt =>
        cases rt
        cases r1.dd with
        | lst ha da =>
          refine ⟨_, _, rfl, .inl ⟨SqL.of (S.fh _ _ ha), most_le (da.length ▸ hl), fun p o np nd => ?_⟩⟩
          obtain ⟨S4, x⟩ := S.newF (o := .frz o (.tup _)) np
          exact q _ _ _ x S4 (.dat (.tup (.inl ⟨o, upd_same, nd⟩) (da.same x.same)))
    · cases h
  · cases h
    cases r with
    | cons r1 rt =>
      cases rt
      cases r1.dd with
      | tup ha da => exact ⟨_, _, rfl, .inr ⟨Same.tup S.fh ha.sq, q _ F H (Ext.refl _ _) S (.dat (.tup ha da))⟩⟩
  · cases h
def boolsOf : List PyData → Option (List Bool)
  | [] => some []
  | .bool b :: r => (boolsOf r).map (b :: ·)
  | _ => none
theorem bools_rel {vs : List V} : ∀ {ds : List PyData} {bs : List Bool}, boolsOf ds = some bs → DdAll K F vs ds → vs = bs.map V.bl := by
  induction vs with
  | nil => intro ds bs h t; cases t; cases h; rfl
  | cons v vs ih =>
    intro ds bs h t
    cases t with
    | cons a t =>
      rename_i d ds
      unfold boolsOf at h
      split at h
      · rename_i heq; cases heq
      · rename_i b r heq
        cases heq
        obtain ⟨cs, hc, rfl⟩ := map_eq h
        cases a
        rw [ih hc t]; rfl
      · cases h
def allF : List D → Option D
  | [.dat (.list ds)] => (boolsOf ds).map fun bs => .dat (.bool (bs.all id))
  | _ => none
def anyF : List D → Option D
  | [.dat (.list ds)] => (boolsOf ds).map fun bs => .dat (.bool (bs.any id))
  | _ => none
theorem rc_all : RC K (rAll K) allF := fun {F G σ H δ xs ds d Q} S r h q => by
  unfold allF at h
  split at h
  · obtain ⟨bs, hb, rfl⟩ := map_eq h
    cases r with
    | cons r1 rt =>
      cases rt
      cases r1.dd with
      | lst ha da => exact ⟨_, bs, rfl, SqL.of (by rw [← bools_rel hb da]; exact S.fh _ _ ha), q _ F H (Ext.refl _ _) S (.dat (.bl _))⟩
  · cases h
theorem rc_any : RC K (rAny K) anyF := fun {F G σ H δ xs ds d Q} S r h q => by
  unfold anyF at h
  split at h
  · obtain ⟨bs, hb, rfl⟩ := map_eq h
    cases r with
    | cons r1 rt =>
      cases rt
      cases r1.dd with
      | lst ha da => exact ⟨_, bs, rfl, SqL.of (by rw [← bools_rel hb da]; exact S.fh _ _ ha), q _ F H (Ext.refl _ _) S (.dat (.bl _))⟩
  · cases h
end
end DL

namespace DL
open PySem PySem.Spec PyProof.Rows L2 MT
section
variable {K : PySem.W.Frag} {E : XK} {F F' : Hp} {G : Gd} {σ : L2.St} {H H' : Hp} {δ : Env}
/-! ### lists that are changed -/
def ownL (δ : Env) (i : Nat) : Option (List PyData) := match δ[i]? with
  | some (.ow (.dat (.list xs))) => some xs
  | _ => none
theorem ownL_eq {i : Nat} {xs : List PyData} (h : ownL δ i = some xs) : δ[i]? = some (.ow (.dat (.list xs))) := by
  unfold ownL at h
  split at h
  · cases h; assumption
  · cases h
theorem SR.ownL (S : SR K F G σ H δ) {i : Nat} {xs : List PyData} (h : DL.ownL δ i = some xs) : ∃ p vs, σ[i]? = some (some (.ref p)) ∧ H p = some (.lst vs) ∧ DdAll K F vs xs ∧ F p = none := by
  obtain ⟨p, a, f, g, r⟩ := S.sl i _ (ownL_eq h)
  cases r with
  | lst h t => exact ⟨p, _, a, h, t, f⟩
theorem SR.chgL (S : SR K F G σ H δ) {i : Nat} {xs ys : List PyData} {p : Addr} {vs : List V} (h : DL.ownL δ i = some xs) (a : σ[i]? = some (some (.ref p))) (t : DdAll K F vs ys) : SR K F G σ (upd H p (.lst vs)) (δ.set i (.ow (.dat (.list ys)))) :=
  S.chg a (.inl ⟨ownL_eq h, rfl⟩) (.lst upd_same t)
/-- x.append(e) -/
def mApp (i : Nat) (ma : M (List D)) : M D := fun δ => (mOf (ownL δ i) δ).bind fun _ δ0 => (ma δ0).bind fun ds δ1 => match ds, ownL δ1 i with
  | [.dat d], some xs => if xs.length < most then .ok (.dat .none) (δ1.set i (.ow (.dat (.list (xs ++ [d]))))) else .stuck
  | _, _ => .stuck
theorem md_app {i : Nat} {ma : M (List D)} : ∀ σ H Q, tD K E (mApp i ma) σ H Q → tBM K "list" rAppend (tVar i) (tDs K E ma) σ H Q := by
  rintro σ H Q ⟨F, G, δ, S, h⟩
  obtain ⟨x0, h0, q⟩ := h.bind.of
  obtain ⟨p, vs, ha, hp, _, _⟩ := S.ownL h0
  have q := q F H (Ext.refl _ _) S
  refine ⟨_, ha, .inl ⟨rfl, _, SqL.of hp⟩, F, G, δ, S, q.bind.imp fun ds δ1 F1 H1 e1 S1 q1 us ru => ?_⟩
  split at q1
  · rename_i d xs ho
    split at q1
    · rename_i hl
      obtain ⟨p', vs', ha', hp', t, f⟩ := S1.ownL ho
      rw [ha] at ha'; cases ha'
      cases ru with
      | cons r1 rt =>
        cases rt
        refine ⟨p, vs', _, rfl, rfl, hp', ?_, q1 F1 _ (Ext.refl _ _) (S1.chgL ho ha (t.append (.cons r1.dd .nil))) .non (.dat .non)⟩
        rw [t.length]; exact Nat.lt_of_lt_of_le hl (by decide)
    · exact q1.elim
  · exact q1.elim
/-- x.extend(e), e a list -/
def mExt (i : Nat) (ma : M (List D)) : M D := fun δ => (mOf (ownL δ i) δ).bind fun _ δ0 => (ma δ0).bind fun ds δ1 => match ds, ownL δ1 i with
  | [.dat (.list ys)], some xs => if xs.length + ys.length ≤ most then .ok (.dat .none) (δ1.set i (.ow (.dat (.list (xs ++ ys))))) else .stuck
  | _, _ => .stuck
theorem md_ext {i : Nat} {ma : M (List D)} : ∀ σ H Q, tD K E (mExt i ma) σ H Q → tBM K "list" rExtend (tVar i) (tDs K E ma) σ H Q := by
  rintro σ H Q ⟨F, G, δ, S, h⟩
  obtain ⟨x0, h0, q⟩ := h.bind.of
  obtain ⟨p, vs, ha, hp, _, _⟩ := S.ownL h0
  have q := q F H (Ext.refl _ _) S
  refine ⟨_, ha, .inl ⟨rfl, _, SqL.of hp⟩, F, G, δ, S, q.bind.imp fun ds δ1 F1 H1 e1 S1 q1 us ru => ?_⟩
  split at q1
  · rename_i d xs ho
    split at q1
    · rename_i hl
      obtain ⟨p', vs', ha', hp', t, f⟩ := S1.ownL ho
      rw [ha] at ha'; cases ha'
      cases ru with
      | cons r1 rt =>
        cases rt
        cases r1.dd with
        | lst hb db =>
          refine ⟨p, _, vs', _, rfl, rfl, hp', S1.fh _ _ hb, ?_, q1 F1 _ (Ext.refl _ _) (S1.chgL ho ha (t.append db)) .non (.dat .non)⟩
          rw [t.length, db.length]; exact most_le hl
    · exact q1.elim
  · exact q1.elim
/-- x.pop(e) -/
def mPop (i : Nat) (ma : M (List D)) : M D := fun δ => (mOf (ownL δ i) δ).bind fun _ δ0 => (ma δ0).bind fun ds δ1 => match ds, ownL δ1 i with
  | [.dat (.int (.ofNat k))], some xs => match xs[k]? with
    | some d => if xs.length ≤ most then .ok (.dat d) (δ1.set i (.ow (.dat (.list (xs.eraseIdx k))))) else .stuck
    | none => .stuck
  | _, _ => .stuck
theorem md_pop {i : Nat} {ma : M (List D)} : ∀ σ H Q, tD K E (mPop i ma) σ H Q → tBM K "list" rPopAt (tVar i) (tDs K E ma) σ H Q := by
  rintro σ H Q ⟨F, G, δ, S, h⟩
  obtain ⟨x0, h0, q⟩ := h.bind.of
  obtain ⟨p, vs, ha, hp, _, _⟩ := S.ownL h0
  have q := q F H (Ext.refl _ _) S
  refine ⟨_, ha, .inl ⟨rfl, _, SqL.of hp⟩, F, G, δ, S, q.bind.imp fun ds δ1 F1 H1 e1 S1 q1 us ru => ?_⟩
  split at q1
  · rename_i k xs ho
    split at q1
    · rename_i d hd
      split at q1
      · rename_i hl
        obtain ⟨p', vs', ha', hp', t, f⟩ := S1.ownL ho
        rw [ha] at ha'; cases ha'
        obtain ⟨v, hv, rv⟩ := t.get hd
        have hk : k < xs.length := (List.getElem?_eq_some_iff.mp hd).1
        have hl : xs.length ≤ 1000000 := hl
        cases ru with
        | cons r1 rt =>
          cases rt
          cases r1.dd
          refine ⟨p, vs', _, k, v, rfl, rfl, hp', ?_, ?_, ?_, hv, q1 F1 _ (Ext.refl _ _) (S1.chgL ho ha (t.erase k)) v (.dat rv)⟩
          · exact Int.le_trans (by decide) (Int.natCast_nonneg k)
          · have : (k : Int) < 1000000 := by omega
            exact Int.lt_trans this (by decide)
          · rw [t.length]
            unfold seqIndex?
            have h0 : ¬ ((k : Int) < 0) := by omega
            simp [h0, hk]
      · exact q1.elim
    · exact q1.elim
  · exact q1.elim
/-! ### a list that is changed, looked at -/
def peek (δ : Env) (i : Nat) : Option D := match δ[i]? with
  | some (.fz d) => some d
  | some (.ow d) => some d
  | some (.io d) => some d
  | _ => none
/-- as data, in the heap -/
def Pk (K : PySem.W.Frag) (H : Hp) (v : V) (d : D) : Prop := Rl K H v d ∨ ∃ p ds vs, v = .ref p ∧ d = .dat (.list ds) ∧ H p = some (.lst vs) ∧ DdAll K H vs ds
theorem SR.peek (S : SR K F G σ H δ) {i : Nat} {d : D} (h : DL.peek δ i = some d) : (∃ v, σ[i]? = some (some v) ∧ Rl K F v d) ∨ ∃ p, σ[i]? = some (some (.ref p)) ∧ OwnR K F H p d := by
  unfold DL.peek at h
  split at h
  · rename_i hi; cases h; exact .inl (S.sl i _ hi)
  · rename_i hi; cases h; obtain ⟨p, a, _, _, r⟩ := S.sl i _ hi; exact .inr ⟨p, a, r⟩
  · rename_i hi; cases h; obtain ⟨a, _, _, r⟩ := S.sl i _ hi; exact .inr ⟨_, a, r⟩
  · cases h
theorem SR.peekD (S : SR K F G σ H δ) {i : Nat} {d : PyData} (h : DL.peek δ i = some (.dat d)) : ∃ v, σ[i]? = some (some v) ∧ Dd K H v d := by
  rcases S.peek h with ⟨v, a, r⟩ | ⟨p, a, r⟩
  · exact ⟨v, a, r.dd.same S.fh⟩
  · cases r with
    | lst h2 t => exact ⟨_, a, .lst h2 (t.same S.fh)⟩
    | dic h2 t => exact ⟨_, a, .dict h2 (t.same S.fh)⟩
/-- len(x) -/
def mLenP (i : Nat) : M D := fun δ => (mOf (peek δ i) δ).bind fun d δ1 => mOf (lenF [d]) δ1
theorem md_lenP {i : Nat} : ∀ σ H Q, tD K E (mLenP i) σ H Q → tCB (fun xs H Q => ∃ x n, xs = [x] ∧ LenV K x H n ∧ Q (.int n) H) (tCons (tVar i) tNil) σ H Q := by
  rintro σ H Q ⟨F, G, δ, S, h⟩
  obtain ⟨d, hd, q⟩ := h.bind.of
  have q := q F H (Ext.refl _ _) S
  obtain ⟨r, hr, q⟩ := q.of
  unfold lenF at hr
  split at hr
  · rename_i he
    cases he; cases hr
    obtain ⟨v, a, t⟩ := S.peekD hd
    cases t with
    | lst h t => exact ⟨_, a, _, _, rfl, .inl ⟨_, SqL.of h, rfl⟩, by rw [t.length]; exact q F H (Ext.refl _ _) S _ (.dat (.int _))⟩
  · rename_i he
    cases he; cases hr
    obtain ⟨v, a, t⟩ := S.peekD hd
    cases t with
    | tup h t => exact ⟨_, a, _, _, rfl, .inr ⟨_, h.sq, rfl⟩, by rw [t.length]; exact q F H (Ext.refl _ _) S _ (.dat (.int _))⟩
  · rename_i he
    split at hr
    · rename_i hz
      cases he; cases hr
      obtain ⟨v, a, t⟩ := S.peekD hd
      cases t
      exact ⟨_, a, _, _, rfl, ⟨most_le hz, rfl⟩, q F H (Ext.refl _ _) S _ (.dat (.int _))⟩
    · cases hr
  · rename_i he
    cases he; cases hr
    rcases S.peek hd with ⟨v, a, r⟩ | ⟨p, a, r⟩
    · cases r with
      | scr h2 => exact ⟨_, a, _, _, rfl, .inl ⟨_, S.fh.seq h2, rfl⟩, by rw [List.length_map]; exact q F H (Ext.refl _ _) S _ (.dat (.int _))⟩
    · cases r
  · cases hr
/-- x == e, x != e -/
def mEqP (f : D → D → Option Bool) (i : Nat) (mb : M D) : M Bool := fun δ => (mOf (peek δ i) δ).bind fun _ δ0 => (mb δ0).bind fun y δ2 => (mOf (peek δ2 i) δ2).bind fun x δ3 => mOf (f x y) δ3
theorem peek_some {d : D} {i : Nat} (S : SR K F G σ H δ) (h : peek δ i = some d) : ∃ v, σ[i]? = some (some v) := by
  rcases S.peek h with ⟨v, a, _⟩ | ⟨p, a, _⟩
  · exact ⟨v, a⟩
  · exact ⟨_, a⟩
theorem md_neP {i : Nat} {mb : M D} : ∀ σ H Q, tBo K E (mEqP neB i mb) σ H Q → tTest (tOp (rNeD K) (tVar i) (tD K E mb)) σ H Q := by
  rintro σ H Q ⟨F, G, δ, S, h⟩
  obtain ⟨d, hd, q⟩ := h.bind.of
  have q := q F H (Ext.refl _ _) S
  obtain ⟨v, hv⟩ := peek_some S hd
  refine ⟨v, hv, F, G, δ, S, q.bind.imp fun y δ2 F2 H2 e2 S2 q2 w rw => ?_⟩
  obtain ⟨x, hx, q3⟩ := q2.bind.of
  obtain ⟨b, hb, q4⟩ := (q3 F2 H2 (Ext.refl _ _) S2).of
  obtain ⟨b, hb2, rfl⟩ := map_eq hb
  obtain ⟨da, db, rfl, rfl, sa, sb, rfl⟩ := eqB_eq hb2
  obtain ⟨v', hv', t⟩ := S2.peekD hx
  rw [hv] at hv'; cases hv'
  exact ⟨da, db, t.dp (shaped_lay sa), (rw.dd.same S2.fh).dp (shaped_lay sb), sa, sb, _, rfl, q4 F2 H2 (Ext.refl _ _) S2⟩
theorem md_eqP {i : Nat} {mb : M D} : ∀ σ H Q, tBo K E (mEqP eqB i mb) σ H Q → tTest (tOp (rEqD K) (tVar i) (tD K E mb)) σ H Q := by
  rintro σ H Q ⟨F, G, δ, S, h⟩
  obtain ⟨d, hd, q⟩ := h.bind.of
  have q := q F H (Ext.refl _ _) S
  obtain ⟨v, hv⟩ := peek_some S hd
  refine ⟨v, hv, F, G, δ, S, q.bind.imp fun y δ2 F2 H2 e2 S2 q2 w rw => ?_⟩
  obtain ⟨x, hx, q3⟩ := q2.bind.of
  obtain ⟨b, hb, q4⟩ := (q3 F2 H2 (Ext.refl _ _) S2).of
  obtain ⟨da, db, rfl, rfl, sa, sb, rfl⟩ := eqB_eq hb
  obtain ⟨v', hv', t⟩ := S2.peekD hx
  rw [hv] at hv'; cases hv'
  exact ⟨da, db, t.dp (shaped_lay sa), (rw.dd.same S2.fh).dp (shaped_lay sb), sa, sb, _, rfl, q4 F2 H2 (Ext.refl _ _) S2⟩
/-- e in x -/
def mInP (neg : Bool) (ma : M D) (i : Nat) : M Bool := fun δ => (ma δ).bind fun x δ1 => (mOf (peek δ1 i) δ1).bind fun y δ2 => mOf (inB neg x y) δ2
theorem md_inP {neg : Bool} {i : Nat} {ma : M D} : ∀ σ H Q, tBo K E (mInP neg ma i) σ H Q → tTest (tOp (rInQ K neg) (tD K E ma) (tVar i)) σ H Q := by
  rintro σ H Q ⟨F, G, δ, S, h⟩
  refine ⟨F, G, δ, S, h.bind.imp fun x δ1 F1 H1 e1 S1 q v rv => ?_⟩
  obtain ⟨y, hy, q2⟩ := q.bind.of
  obtain ⟨b, hb, q3⟩ := (q2 F1 H1 (Ext.refl _ _) S1).of
  obtain ⟨d, e, ds, rfl, rfl, hs, sa, sb, rfl⟩ := inB_eq hb
  obtain ⟨w, hw, t⟩ := S1.peekD hy
  exact ⟨w, hw, d, e, ds, (rv.dd.same S1.fh).dp (shaped_lay sa), t.dp (shaped_lay sb), hs, sa, sb, _, rfl, q3 F1 H1 (Ext.refl _ _) S1⟩
/-! ### texts: split, join -/
def mM1 (f : D → D → Option D) (mo me : M D) : M D := fun δ => (mo δ).bind fun x δ1 => match x with
  | .dat (.str _) => (me δ1).bind fun y δ2 => mOf (f x y) δ2
  | _ => .stuck
def splitF : D → D → Option D
  | .dat (.str a), .dat (.str b) => if b.length = 0 then none else if a.length + 2 ≤ most then some (.dat (.list ((Txt.split a b).map .str))) else none
  | _, _ => none
theorem dd_strs : ∀ ys : List Str, DdAll K F (ys.map V.str) (ys.map .str)
  | [] => .nil
  | y :: r => .cons (.str y) (dd_strs r)
theorem md_split {mo me : M D} : ∀ σ H Q, tFr K E (mM1 splitF mo me) σ H Q → tM1 (fun x xs H Q => ∃ a b, x = .str a ∧ xs = [.str b] ∧ (b.length == 0) = false ∧ a.length + 2 ≤ sizeLine ∧ rNewStrs (Txt.split a b) H Q) (tD K E mo) (tD K E me) σ H Q := by
  rintro σ H Q ⟨F, G, δ, S, h⟩
  refine ⟨F, G, δ, S, h.bind.imp fun x δ1 F1 H1 e1 S1 q v rv => ?_⟩
  split at q
  · rename_i z
    have ev : v = .str z := by cases rv.dd; rfl
    refine ⟨⟨z, ev⟩, F1, G, δ1, S1, q.bind.imp fun y δ2 F2 H2 e2 S2 q2 w rw => ?_⟩
    obtain ⟨d, hd, q3⟩ := q2.of
    unfold splitF at hd
    split at hd
    · rename_i a b he
      cases he
      split at hd
      · cases hd
      · rename_i hb
        split at hd
        · rename_i hl
          cases hd
          cases rw.dd
          refine ⟨z, b, ev, rfl, by simpa using hb, most_le hl, fun p np => ?_⟩
          obtain ⟨S3, f, g, n⟩ := S2.fresh (o := .lst _) np
          exact q3 F2 _ (Ext.refl _ _) S3 p f g (.lst upd_same (dd_strs _)) n
        · cases hd
    · cases hd
  · exact q.elim
def strsOf : List PyData → Option (List Str)
  | [] => some []
  | .str b :: r => (strsOf r).map (b :: ·)
  | _ => none
theorem strs_rel {vs : List V} : ∀ {ds : List PyData} {bs : List Str}, strsOf ds = some bs → DdAll K F vs ds → vs = bs.map V.str := by
  induction vs with
  | nil => intro ds bs h t; cases t; cases h; rfl
  | cons v vs ih =>
    intro ds bs h t
    cases t with
    | cons a t =>
      rename_i d ds
      unfold strsOf at h
      split at h
      · rename_i heq; cases heq
      · rename_i b r heq
        cases heq
        obtain ⟨cs, hc, rfl⟩ := map_eq h
        cases a
        rw [ih hc t]; rfl
      · cases h
def joinF : D → D → Option D
  | .dat (.str a), .dat e => (seqD e).bind fun ds => (strsOf ds).bind fun ys => if (ys.map (·.length)).sum + ys.length * a.length ≤ most then some (.dat (.str (Txt.join a ys))) else none
  | _, _ => none
theorem md_join {mo me : M D} : ∀ σ H Q, tD K E (mM1 joinF mo me) σ H Q → tM1 (fun x xs H Q => ∃ a p, ∃ ys : List Str, x = .str a ∧ xs = [.ref p] ∧ (SqL K H p (ys.map V.str) ∨ SqT K H p (ys.map V.str)) ∧
      (ys.map (·.length)).sum + ys.length * a.length ≤ 16777216 ∧ Q (.str (Txt.join a ys)) H) (tD K E mo) (tD K E me) σ H Q := by
  rintro σ H Q ⟨F, G, δ, S, h⟩
  refine ⟨F, G, δ, S, h.bind.imp fun x δ1 F1 H1 e1 S1 q v rv => ?_⟩
  split at q
  · rename_i z
    have ev : v = .str z := by cases rv.dd; rfl
    refine ⟨⟨z, ev⟩, F1, G, δ1, S1, q.bind.imp fun y δ2 F2 H2 e2 S2 q2 w rw => ?_⟩
    obtain ⟨d, hd, q3⟩ := q2.of
    unfold joinF at hd
    split at hd
    · rename_i a e he
      cases he
      cases hs : seqD e with
      | none => rw [hs] at hd; cases hd
      | some ds =>
        rw [hs] at hd
        have hd : ((strsOf ds).bind fun ys => if (ys.map (·.length)).sum + ys.length * z.length ≤ most then some (.dat (.str (Txt.join z ys))) else none) = some d := hd
        cases hy : strsOf ds with
        | none => rw [hy] at hd; cases hd
        | some ys =>
          rw [hy] at hd
          have hd : (if (ys.map (·.length)).sum + ys.length * z.length ≤ most then some (D.dat (.str (Txt.join z ys))) else none) = some d := hd
          split at hd
          · rename_i hl
            cases hd
            have fin := fun F' H' e S' => q3 F' H' e S' _ (.dat (.str _))
            unfold seqD at hs
            split at hs
            · cases hs
              cases rw.dd with
              | lst ha da => exact ⟨z, _, ys, ev, rfl, .inl (SqL.of (by rw [← strs_rel hy da]; exact S2.fh _ _ ha)), Nat.le_trans hl (by decide), fin F2 H2 (Ext.refl _ _) S2⟩
            · cases hs
              cases rw.dd with
              | tup ha da => exact ⟨z, _, ys, ev, rfl, .inr (by rw [← strs_rel hy da]; exact Same.tup S2.fh ha.sq), Nat.le_trans hl (by decide), fin F2 H2 (Ext.refl _ _) S2⟩
            · cases hs
          · cases hd
    · cases hd
  · exact q.elim
end
end DL

namespace DL
open PySem PySem.Spec PyProof.Rows L2 MT
/-! ### enumerate of a tuple -/
open AutoSeq1 (wpAny_loadPart')
theorem meets_enumT (l : Addr) (items : Array Value) (n : Nat) (dct : Option Addr) (sl : Array (Option Value)) :
    Meets (Builtin.«enumerate.__new__» ⟨[.type "enumerate", .ref l], []⟩) (fun _ R s => s.heap.get? l = some { cls := .type "tuple", dict := dct, data := .seq items n, slots := sl } ∧
      R (.ok (.ret (.ref (s.heap.push { cls := .type "tuple_iterator", data := .fields #[.ref l, .int 0 0] }).objs.size)))
        { s with heap := (s.heap.push { cls := .type "tuple_iterator", data := .fields #[.ref l, .int 0 0] }).push { cls := .type "enumerate", data := .fields #[.none, .bool false, .ref s.heap.objs.size, rawInt 0, .none, .none] } }) :=
  .of_wp fun prog w A R s h => by
    obtain ⟨hp, g, d, tk, os⟩ := s; obtain ⟨hl, h⟩ := h
    have hsub := sub_enumerate
    have hL : Heap.IsTuple (Shared.heap ⟨hp, g, d, tk, os⟩) l items := ⟨_, hl, rfl, n, rfl⟩
    wp_walk using wpAny_loadPart' hl
    refine wpAny_stack_any fun st => wpAny_pure ?_
    split
    · rename_i c _ _ _ _ _
      cases (c == Value.type "enumerate")
      · wp_walk using wpAny_loadPart' hl, wpAny_pyIter_tuple hL
        exact ⟨_, rfl, h⟩
      · wp_walk using wpAny_loadPart' hl, wpAny_pyIter_tuple hL
        exact ⟨_, rfl, h⟩
    · wp_walk using wpAny_loadPart' hl, wpAny_pyIter_tuple hL
      exact ⟨_, rfl, h⟩
section
variable {prog : Program} {w : World} {A : Around} {E : Value → Shared → Prop} {s : Shared}
theorem call_enumT {l : Addr} {items : Array Value} {Q : Value → Shared → Prop} (hL : s.heap.IsTuple l items)
    (h : ∀ h', IsEnum h' (s.heap.objs.size + 1) s.heap.objs.size 0 .none → h'.IsTupleIter s.heap.objs.size l 0 → h'.objs.size = s.heap.objs.size + 2 →
      (∀ b o, s.heap.get? b = some o → h'.get? b = some o) → Q (.ref (s.heap.objs.size + 1)) { s with heap := h' }) :
    wpAny (model prog w) A (call (.type "enumerate") [.ref l]) Q E s := by
  obtain ⟨⟨c, dct, dt, sl⟩, hl, hc, n, hd⟩ := hL
  replace hc : c = .type "tuple" := hc
  replace hd : dt = .seq items n := hd
  subst hc hd
  refine callType_new F.called_enumerate (by decide) (F.typeCall_enumerate_1 _) (F.newCall_enumerate_1 _) (fun obj => F.args_object_init_2 obj _) F.entry_enumerate_new
    (meets_enumT l items n dct sl) ⟨hl, ?_⟩
  have hz : (s.heap.push { cls := .type "tuple_iterator", data := .fields #[.ref l, .int 0 0] }).objs.size = s.heap.objs.size + 1 := Heap.size_push ..
  show _ ∧ _
  rw [hz]
  have he : IsEnum ((s.heap.push { cls := .type "tuple_iterator", data := .fields #[.ref l, .int 0 0] }).push
      { cls := .type "enumerate", data := .fields #[.none, .bool false, .ref s.heap.objs.size, rawInt 0, .none, .none] }) (s.heap.objs.size + 1) s.heap.objs.size 0 .none := by
    have := Heap.get?_push_size (s.heap.push { cls := .type "tuple_iterator", data := .fields #[.ref l, .int 0 0] })
      (o := { cls := .type "enumerate", data := .fields #[.none, .bool false, .ref s.heap.objs.size, rawInt 0, .none, .none] }) rfl
    rw [hz] at this; exact this
  refine ⟨⟨_, he, rfl⟩, h _ he ⟨_, Heap.get?_push_of_some _ (Heap.get?_push_size _ rfl), rfl, rfl⟩ (by rw [Heap.size_push, hz]) fun b o x => Heap.get?_push_of_some _ (Heap.get?_push_of_some _ x)⟩
end
/-- what enumerate gives: the i-th of xs in a new pair, while G stands -/
def ItE (n : Nat) (G : Hp → Prop) (f : Nat → Option V) : It :=
  ⟨fun i H => i < n ∧ G H, fun i H v H' => ∃ T x, v = .ref T ∧ H T = none ∧ H' = upd H T (.tup [.int (i : Nat), x]) ∧ f i = some x, fun i H => i = n ∧ G H⟩
theorem walk_E {n : Nat} {G : Hp → Prop} {f : Nat → Option V} : Walk (ItE n G f) n G (YPair (fun i => some (.int (i : Nat))) f) :=
  ⟨fun i H hi g => ⟨hi, g⟩, fun H g => ⟨rfl, g⟩, fun i H v H' _ _ ⟨T, x, h1, h2, h3, h4⟩ => ⟨T, _, x, h1, h2, h3, rfl, h4⟩⟩
theorem turn_enumT {P : Program} {w : World} {K : PySem.W.Frag} {elts : List Expr} {kk : Nat} {tpos : Pos} (a e it : Addr) (xs : List V) (hai : a ≠ it) (hae : a ≠ e) :
    Turn P w K (.Tuple elts kk tpos) (ItE xs.length (fun H => SqT K H a xs) fun i => xs[i]?) [e, it] e (fun i h => (∃ old, IsEnum h e it ((i : Nat) : Int) old) ∧ h.IsTupleIter it a i ∧ e ≠ it) where
  mem := by simp
  obj := fun i h st b hb => by
    obtain ⟨⟨old, he⟩, ⟨o, ho, hc, hd⟩, _⟩ := st
    have e' : b = e ∨ b = it := by simpa using hb
    rcases e' with z | z
    · rw [z]; exact ⟨_, he, fun v q => nomatch q⟩
    · rw [z]; exact ⟨o, ho, fun v q => by rw [hd] at q; cases q⟩
  keep := fun i h h' st k => let ⟨⟨old, he⟩, hi, hne⟩ := st; ⟨⟨old, k e (by simp) _ he⟩, hi.at fun o q => k it (by simp) o q, hne⟩
  item := by
    intro X hP hw hK hc i pins s σ H E I hf st hg
    subst hP hw hK
    obtain ⟨⟨old, he⟩, hit, hne⟩ := st
    obtain ⟨hi, hq⟩ := hg
    obtain ⟨its, rv, p, hz⟩ := I.tuple hq
    have hsz : its.toArray.size = xs.length := by rw [List.size_toArray]; exact rv.length.symm
    have hel : e < s.heap.objs.size := Heap.lt_size he
    have hil : it < s.heap.objs.size := by obtain ⟨_, q, _⟩ := hit; exact Heap.lt_size q
    refine wpAny_pyNext_enum_itemD (PySem.Draws.tuple (A := X.A.in1) (I.ok.hd hc) it a hai its.toArray) he ⟨hit, p⟩ (by rw [hsz]; exact hi) hne (by simp [hne, Ne.symm hae]) fun u h' tk hu ho hst hT hsz hk => ?_
    obtain ⟨hit', _⟩ := hst
    obtain ⟨x, hx, ru⟩ : ∃ x, xs[i]? = some x ∧ RelV x u := by
      have hx := List.getElem?_eq_getElem hi
      obtain ⟨u', hu', ru⟩ := rv.get hx
      have : its[i]? = some u := by simpa using hu
      rw [hu'] at this; cases this
      exact ⟨_, hx, ru⟩
    refine ⟨_, rfl, wpAny_letOwnedTupleGo_enum (s := { s with heap := h', toks := tk + 1 }) ho fun h'' he' sb => ?_⟩
    have hT2 : h''.get? s.heap.objs.size = some { cls := .type "tuple", data := .seq #[.int i tk, u] } := (sb.2 _ (Nat.ne_of_gt hel)).trans hT
    have new : ObjOk X.prog X.w (upd H s.heap.objs.size (.tup [.int (i : Nat), x])) h'' s.heap.objs.size (.tup [.int (i : Nat), x]) :=
      ⟨by show 2 ≤ sizeLine; decide, [.int i tk, u], .cons ⟨_, rfl⟩ (.cons ru .nil), ⟨_, hT2, rfl, _, rfl⟩⟩
    have I1 : Inv X pins σ (upd H s.heap.objs.size (.tup [.int (i : Nat), x])) { s with heap := h'', toks := tk + 1 } :=
      I.turnedNew (ch := [e, it]) (fun b ob hb q => (sb.2 b (fun z => hb (by simp [z]))).trans (hk b ob (fun z => hb (by simp [z])) (fun z => hb (by simp [z])) q)) hf (Nat.le_refl _) new
    refine ⟨.ref s.heap.objs.size, _, I1, rfl, ⟨_, x, rfl, I.hok.fresh (Nat.le_refl _), rfl, hx⟩, ⟨⟨u, ?_⟩, hit'.at fun o q => (sb.2 it (Ne.symm hne)).trans q, hne⟩, fun b hb => ?_⟩
    · have e1 : ((i + 1 : Nat) : Int) = (i : Int) + 1 := by omega
      rw [e1]; exact he'
    · have hb' : b < s.heap.objs.size := by
        have e' : b = e ∨ b = it := by simpa using hb
        rcases e' with z | z
        · rw [z]; exact hel
        · rw [z]; exact hil
      rw [upd_ne (Nat.ne_of_lt hb')]
      exact (hf b hb).1
  done := by
    intro X hP hw hK hc i pins s σ H E I hf st hg
    subst hP hw hK
    obtain ⟨⟨old, he⟩, hit, hne⟩ := st
    obtain ⟨rfl, hq⟩ := hg
    obtain ⟨its, rv, p, hz⟩ := I.tuple hq
    obtain ⟨f0, f1, f2, f3, f4, f5⟩ := hf it (by simp)
    have hsz : its.toArray.size = xs.length := by rw [List.size_toArray]; exact rv.length.symm
    exact wpAny_pyNext_enum_endD (PySem.Draws.tuple (A := X.A.in1) (I.ok.hd hc) it a hai its.toArray) he (by rw [hsz]; exact ⟨hit, p⟩) fun h' eb => ⟨rfl, I.turned (t' := s.toks) (fun b o hb q => eb b o hb q) f0 f1 f3 f4 f5⟩
  self := fun A i s Q E st h => let ⟨⟨_, he⟩, _⟩ := st; wpAny_pyIter_enum he h
def iEnumT (K : PySem.W.Frag) (ta : TA) : TI := fun σ H R => ta σ H fun vs H1 => ∃ a xs, vs = [.ref a] ∧ SqT K H1 a xs ∧ R (ItE xs.length (fun H => SqT K H a xs) fun i => xs[i]?) H1
theorem pi_enumT {X : Cx} {e : Expr} {ta : TA} {p pos tpos : Pos} {elts : List Expr} {kk : Nat} (hg : Gl X "enumerate") (hm : X.mg "enumerate" = none) (ha : PA X [e] ta) (hs : starEach [e] X.env = [(false, eval e X.env)] := by rfl) :
    PI X (.Tuple elts kk tpos) (.Call (.Name "enumerate" p) [e] [] pos) (iEnumT X.K ta) := by
  refine ⟨fun pins s σ H R I h => ?_⟩
  refine Call_ (ld_blt I hg hm boot_enumerate (PyProof.Rows.callWith_type1 (thn (ha.run pos pins s σ H _ I h) fun us s1 ⟨vs, H1, I1, r1, q1⟩ => ?_) hs rfl))
  obtain ⟨a, xs, ex, hq, q⟩ := q1
  subst ex
  cases r1 with
  | cons r rr =>
    cases rr
    cases r
    obtain ⟨its, rv, p', hz⟩ := I1.tuple hq
    have hal : a < s1.heap.objs.size := by obtain ⟨o, ho, _⟩ := p'; exact Heap.lt_size ho
    refine call_enumT p' fun h' he hit hsz hk => wpAny_pyIter_enum he ?_
    have I2 : Inv X pins σ H1 { s1 with heap := h' } := I1.kept (t' := s1.toks) hk
    refine ⟨s1.heap.objs.size + 1, [s1.heap.objs.size + 1, s1.heap.objs.size], _, _, H1, rfl, I2, turn_enumT a (s1.heap.objs.size + 1) s1.heap.objs.size xs (Nat.ne_of_lt hal) (Nat.ne_of_lt (Nat.lt_succ_of_lt hal)), ⟨⟨.none, he⟩, hit, Nat.succ_ne_self _⟩, fun b hb => ?_, q⟩
    have e' : b = s1.heap.objs.size + 1 ∨ b = s1.heap.objs.size := by simpa using hb
    have hle : s1.heap.objs.size ≤ b := by
      rcases e' with z | z
      · rw [z]; exact Nat.le_add_right _ _
      · rw [z]; exact Nat.le_refl _
    exact I1.fpOk hle (I1.hok.fresh hle)
end DL

namespace DL
open PySem PySem.Spec PyProof.Rows L2 MT
section
variable {K : PySem.W.Frag} {E : XK} {F F' : Hp} {G : Gd} {σ : L2.St} {H H' : Hp} {δ : Env}
/-! ### what is walked: enumerate, range, a text's signs -/
def enumD (ds : List PyData) : List D := (List.range ds.length).map fun i => .wk [.dat (.int (i : Nat)), .dat (ds.getD i .none)]
theorem enumD_get {ds : List PyData} {i : Nat} {d : D} (h : (enumD ds)[i]? = some d) : ∃ x, ds[i]? = some x ∧ d = .wk [.dat (.int (i : Nat)), .dat x] := by
  unfold enumD at h
  rw [List.getElem?_map] at h
  by_cases hi : i < ds.length
  · rw [List.getElem?_range hi] at h
    cases h
    refine ⟨ds[i], List.getElem?_eq_getElem hi, ?_⟩
    simp [List.getD, hi]
  · rw [List.getElem?_eq_none (by simpa using hi)] at h
    cases h
theorem wk_pair {J : It} {n : Nat} {Gd : Hp → Prop} {vs : List V} {ds : List PyData} (t : DdAll K F vs ds) (w : Walk J n Gd (YPair (fun i => some (.int (i : Nat))) fun i => vs[i]?)) (hn : n = ds.length) (hG : ∀ H, Same F H → Gd H) : Wk K F J (enumD ds) := by
  subst hn
  refine ⟨Gd, _, (by unfold enumD; rw [List.length_map, List.length_range]; exact w), hG, fun i H x H' d hd y F2 G σ δ s S => ?_⟩
  obtain ⟨z, hz, rfl⟩ := enumD_get hd
  obtain ⟨T, a, b, rfl, nT, rfl, e1, e2⟩ := y
  cases e1
  obtain ⟨z', hz', r⟩ := t.getV e2
  rw [hz] at hz'; cases hz'
  obtain ⟨S2, x⟩ := S.newF (o := .tup [.int (i : Nat), b]) nT
  exact ⟨_, x, S2, .wk (SqT.of upd_same) (.cons (.dat (.int _)) (.cons (.dat ((r.same s).same x.same)) .nil))⟩
def as1 : List D → Option D
  | [d] => some d
  | _ => none
def mEnL (m : M (List D)) : M (List D) := fun δ => (m δ).bind fun ds δ1 => mOf (((as1 ds).bind asL).map enumD) δ1
def mEnT (m : M (List D)) : M (List D) := fun δ => (m δ).bind fun ds δ1 => mOf (((as1 ds).bind asT).map enumD) δ1
theorem as1_eq {ds : List D} {f : D → Option (List PyData)} {l : List PyData} (h : (as1 ds).bind f = some l) : ∃ d, ds = [d] ∧ f d = some l := by
  unfold as1 at h
  split at h
  · exact ⟨_, rfl, h⟩
  · cases h
theorem mi_enumL {m : M (List D)} : ∀ σ H Rr, tI K E (mEnL m) σ H Rr → iEnum K (tDs K E m) σ H Rr := by
  rintro σ H Rr ⟨F, G, δ, S, h⟩
  refine ⟨F, G, δ, S, h.bind.imp fun ds δ1 F1 H1 e1 S1 q vs rvs => ?_⟩
  obtain ⟨its, hi, q⟩ := q.of
  obtain ⟨l, hl, rfl⟩ := map_eq hi
  obtain ⟨d, rfl, hd⟩ := as1_eq hl
  have e := asL_eq hd
  subst e
  cases rvs with
  | cons r1 rt =>
    cases rt
    cases r1.dd with
    | lst hs ha => exact ⟨_, _, rfl, SqL.of (S1.fh _ _ hs), q F1 H1 (Ext.refl _ _) S1 _ (wk_pair ha walk_enum ha.length fun H s => SqL.of (s _ _ hs))⟩
theorem mi_enumT {m : M (List D)} : ∀ σ H Rr, tI K E (mEnT m) σ H Rr → iEnumT K (tDs K E m) σ H Rr := by
  rintro σ H Rr ⟨F, G, δ, S, h⟩
  refine ⟨F, G, δ, S, h.bind.imp fun ds δ1 F1 H1 e1 S1 q vs rvs => ?_⟩
  obtain ⟨its, hi, q⟩ := q.of
  obtain ⟨l, hl, rfl⟩ := map_eq hi
  obtain ⟨d, rfl, hd⟩ := as1_eq hl
  have e := asT_eq hd
  subst e
  cases rvs with
  | cons r1 rt =>
    cases rt
    cases r1.dd with
    | tup hs ha => exact ⟨_, _, rfl, Same.tup S1.fh hs.sq, q F1 H1 (Ext.refl _ _) S1 _ (wk_pair ha walk_E ha.length fun H s => Same.tup s hs.sq)⟩
def rangeD (lo : Int) (n : Nat) : List D := (List.range n).map fun i => .dat (.int (lo + (i : Nat)))
theorem wk_range {lo : Int} {n : Nat} : Wk K F (Itr lo n) (rangeD lo n) := by
  refine ⟨_, _, (by unfold rangeD; rw [List.length_map, List.length_range]; exact walk_range), fun _ _ => trivial, fun i H x H' d hd y F2 G σ δ s S => ?_⟩
  unfold rangeD at hd
  rw [List.getElem?_map] at hd
  by_cases hi : i < n
  · rw [List.getElem?_range hi] at hd
    cases hd
    obtain ⟨rfl, rfl⟩ := y
    exact ⟨F2, Ext.refl _ _, S, .dat (.int _)⟩
  · rw [List.getElem?_eq_none (by simpa using hi)] at hd
    cases hd
def cRng (j : Int) : Bool := decide (-(2 ^ 62) ≤ j) && decide (j < 2 ^ 62)
def mRng1 (m : M (List D)) : M (List D) := fun δ => (m δ).bind fun ds δ1 => match ds with
  | [.dat (.int j)] => if cRng j = true then .ok (rangeD 0 j.toNat) δ1 else .stuck
  | _ => .stuck
def mRng2 (m : M (List D)) : M (List D) := fun δ => (m δ).bind fun ds δ1 => match ds with
  | [.dat (.int i), .dat (.int j)] => if (cRng i && cRng j) = true then .ok (rangeD i (j - i).toNat) δ1 else .stuck
  | _ => .stuck
theorem cRng_ok {j : Int} (h : cRng j = true) : -(2 ^ 62) ≤ j ∧ j < 2 ^ 62 := by
  unfold cRng at h
  simpa using h
theorem mi_range1 {m : M (List D)} : ∀ σ H Rr, tI K E (mRng1 m) σ H Rr → iRng1 (tDs K E m) σ H Rr := by
  rintro σ H Rr ⟨F, G, δ, S, h⟩
  refine ⟨F, G, δ, S, h.bind.imp fun ds δ1 F1 H1 e1 S1 q vs rvs => ?_⟩
  split at q
  · split at q
    · rename_i hc
      cases rvs with
      | cons r1 rt =>
        cases rt
        cases r1.dd
        exact ⟨_, rfl, (cRng_ok hc).1, (cRng_ok hc).2, q F1 H1 (Ext.refl _ _) S1 _ wk_range⟩
    · exact q.elim
  · exact q.elim
theorem mi_range2 {m : M (List D)} : ∀ σ H Rr, tI K E (mRng2 m) σ H Rr → iRng2 (tDs K E m) σ H Rr := by
  rintro σ H Rr ⟨F, G, δ, S, h⟩
  refine ⟨F, G, δ, S, h.bind.imp fun ds δ1 F1 H1 e1 S1 q vs rvs => ?_⟩
  split at q
  · split at q
    · rename_i hc
      rw [Bool.and_eq_true] at hc
      cases rvs with
      | cons r1 rt =>
        cases rt with
        | cons r2 rt =>
          cases rt
          cases r1.dd
          cases r2.dd
          exact ⟨_, _, rfl, ⟨(cRng_ok hc.1).1, (cRng_ok hc.1).2, (cRng_ok hc.2).1, (cRng_ok hc.2).2⟩, q F1 H1 (Ext.refl _ _) S1 _ wk_range⟩
    · exact q.elim
  · exact q.elim
def signsD (x : Str) : List D := x.cps.toList.map fun c => .dat (.str ⟨#[c]⟩)
def mItS (m : M D) : M (List D) := fun δ => (m δ).bind fun d δ1 => match d with
  | .dat (.str x) => .ok (signsD x) δ1
  | _ => .stuck
theorem wk_str {x : Str} : Wk K F (Its x) (signsD x) := by
  refine ⟨_, _, (by unfold signsD; rw [List.length_map, Array.length_toList]; exact walk_str), fun _ _ => trivial, fun i H v H' d hd y F2 G σ δ s S => ?_⟩
  unfold signsD at hd
  rw [List.getElem?_map] at hd
  obtain ⟨rfl, c, hc, rfl⟩ := y
  have hc' : x.cps.toList[i]? = some c := by simpa using hc
  rw [hc'] at hd
  cases hd
  exact ⟨F2, Ext.refl _ _, S, .dat (.str _)⟩
theorem mi_str {m : M D} : ∀ σ H Rr, tI K E (mItS m) σ H Rr → iStr (tD K E m) σ H Rr := by
  rintro σ H Rr ⟨F, G, δ, S, h⟩
  refine ⟨F, G, δ, S, h.bind.imp fun d δ1 F1 H1 e1 S1 q v rv => ?_⟩
  split at q
  · cases rv.dd
    exact ⟨_, rfl, q F1 H1 (Ext.refl _ _) S1 _ wk_str⟩
  · exact q.elim
/-! ### isinstance -/
def tyN : PyData → String
  | .none => "NoneType"
  | .bool _ => "bool"
  | .int _ => "int"
  | .str _ => "str"
  | .list _ => "list"
  | .tuple _ => "tuple"
  | .dict _ => "dict"
theorem Dd.tyx {v : V} {d : PyData} (h : Dd K H v d) : TyX K H v (.type (tyN d)) := by
  cases h with
  | non => exact .base .non
  | bl b => exact .base (.bl b)
  | int i => exact .base (.int i)
  | str x => exact .base (.str x)
  | lst h t => exact .base (.lst h)
  | tup h t =>
    rcases h with ⟨o, h, _⟩ | ⟨o, its, n, h1, h2, _⟩
    · exact .fTuple h
    · exact .kTuple h1 h2
  | dict h t => exact .base (.dK h)
def isiF : List D → Option D
  | [.dat d, .ty n] => (kitB (tyN d) n).map fun b => .dat (.bool b)
  | _ => none
theorem rc_isi : RC K (rIsi K) isiF := fun {F G σ H δ xs ds d Q} S r h q => by
  unfold isiF at h
  split at h
  · obtain ⟨b, hb, rfl⟩ := map_eq h
    cases r with
    | cons r1 rt =>
      cases rt with
      | cons r2 rt =>
        cases rt
        cases r2
        exact ⟨_, _, _, _, b, rfl, .ty _, (r1.dd.same S.fh).tyx, kit_ty hb, q _ F H (Ext.refl _ _) S (.dat (.bl _))⟩
  · cases h
/-! ### min, max, abs, int -/
def minF : List D → Option D
  | [.dat (.int i), .dat (.int j)] => some (.dat (.int (if j < i then j else i)))
  | _ => none
def maxF : List D → Option D
  | [.dat (.int i), .dat (.int j)] => some (.dat (.int (if j > i then j else i)))
  | _ => none
theorem rc_min : RC K (fun xs H Q => ∃ i j, xs = [.int i, .int j] ∧ Q (.int (if j < i then j else i)) H) minF := fun {F G σ H δ xs ds d Q} S r h q => by
  unfold minF at h
  split at h
  · cases h
    cases r with
    | cons r1 rt =>
      cases rt with
      | cons r2 rt => cases rt; cases r1.dd; cases r2.dd; exact ⟨_, _, rfl, q _ F H (Ext.refl _ _) S (.dat (.int _))⟩
  · cases h
theorem rc_max : RC K (fun xs H Q => ∃ i j, xs = [.int i, .int j] ∧ Q (.int (if j > i then j else i)) H) maxF := fun {F G σ H δ xs ds d Q} S r h q => by
  unfold maxF at h
  split at h
  · cases h
    cases r with
    | cons r1 rt =>
      cases rt with
      | cons r2 rt => cases rt; cases r1.dd; cases r2.dd; exact ⟨_, _, rfl, q _ F H (Ext.refl _ _) S (.dat (.int _))⟩
  · cases h
def intF : List D → Option D
  | [.dat (.int i)] => some (.dat (.int i))
  | [.dat (.bool b)] => some (.dat (.int (if b then 1 else 0)))
  | _ => none
theorem rc_int : RC K (fun xs H Q => (∃ i, xs = [.int i] ∧ Q (.int i) H) ∨ ∃ k, xs = [.bl k] ∧ Q (.int (if k then 1 else 0)) H) intF := fun {F G σ H δ xs ds d Q} S r h q => by
  unfold intF at h
  split at h
  · cases h
    cases r with
    | cons r1 rt => cases rt; cases r1.dd; exact .inl ⟨_, rfl, q _ F H (Ext.refl _ _) S (.dat (.int _))⟩
  · cases h
    cases r with
    | cons r1 rt => cases rt; cases r1.dd; exact .inr ⟨_, rfl, q _ F H (Ext.refl _ _) S (.dat (.int _))⟩
  · cases h
/-! ### is None -/
def isN : D → D → Option Bool
  | .dat d, .dat .none => some (match d with | .none => true | _ => false)
  | .obj _ _ _, .dat .none => some false
  | .exc _ _, .dat .none => some false
  | _, _ => none
theorem Rl.isN {x : V} {dx : D} {b : Bool} (r : Rl K F x dx) (h : isN dx (.dat .none) = some b) : decide (x = .non) = b := by
  unfold DL.isN at h
  split at h
  · rename_i d heq
    cases h
    cases r.dd <;> rfl
  · cases h
    cases r; rfl
  · cases h
    cases r; rfl
  · cases h
theorem isN_snd {x y : D} {b : Bool} (h : isN x y = some b) : y = .dat .none := by
  unfold DL.isN at h
  split at h
  · rfl
  · rfl
  · rfl
  · cases h
theorem ro_isN : RO K (fun x y H Q => y = .non ∧ Q (.bl (decide (x = .non))) H) fun x y => boD (isN x y) := fun {F G σ H δ x y dx dy d Q} S rx ry h q => by
  obtain ⟨b, hb, rfl⟩ := map_eq h
  have e := isN_snd hb
  subst e
  cases ry.dd
  exact ⟨rfl, q _ F H (Ext.refl _ _) S (by rw [rx.isN hb]; exact .dat (.bl b))⟩
theorem ro_notN : RO K (fun x y H Q => y = .non ∧ Q (.bl (!decide (x = .non))) H) fun x y => boD ((isN x y).map not) := fun {F G σ H δ x y dx dy d Q} S rx ry h q => by
  obtain ⟨b, hb, rfl⟩ := map_eq h
  obtain ⟨b, hb2, rfl⟩ := map_eq hb
  have e := isN_snd hb2
  subst e
  cases ry.dd
  exact ⟨rfl, q _ F H (Ext.refl _ _) S (by rw [rx.isN hb2]; exact .dat (.bl _))⟩
end
end DL

namespace DL
open PySem PySem.Spec PyProof.Rows L2 MT
section
variable {X : Cx} {oe : Option Expr} {es : List Expr}
theorem dpo {t t' : TO} (h : PO X oe t) (i : ∀ σ H Q, t' σ H Q → t σ H Q) : PO X oe t' := ⟨fun pins s σ H Q I q => h.run pins s σ H Q I (i σ H Q q)⟩
theorem dts {t t' : TT} (h : PTs X es t) (i : ∀ σ H Q, t' σ H Q → t σ H Q) : PTs X es t' := ⟨fun pins s σ H Q I q => h.run pins s σ H Q I (i σ H Q q)⟩
end
section
variable {K : PySem.W.Frag} {E : XK} {F F' : Hp} {G : Gd} {σ : L2.St} {H H' : Hp} {δ : Env}
theorem md_asgI {t t' : TE} {g : TG} (i : ∀ σ H Q, t' σ H Q → t σ H Q) : ∀ En σ H, tAsg t' g En σ H → tAsg t g En σ H := fun _ σ H h => i σ H _ h
/-- x = [..], kept to be changed; .. frozen -/
theorem md_setLO {t : TE} {i : Nat} {m : M D} (h : ∀ σ H Q, tFr K E m σ H Q → t σ H Q) : ∀ En σ H, sD K E (mSetF i m) En σ H → tAsg t (gName i) En σ H := fun En σ H z => md_asgI h En σ H (md_setF En σ H z)
theorem md_setLF {t : TE} {i : Nat} {m : M D} (h : ∀ σ H Q, tFr K E m σ H Q → t σ H Q) : ∀ En σ H, sD K E (mAsg m (gN i)) En σ H → tAsg t (gName i) En σ H := fun En σ H z => md_asgI (fun σ H Q q => h σ H Q (md_fz σ H Q q)) En σ H (md_asg mg_name En σ H z)
/-! ### several new objects at once -/
inductive OwnAll (K : PySem.W.Frag) (F : Hp) (G : Gd) (H : Hp) (σ : L2.St) (δ : Env) : List V → List SV → List Addr → Prop
  | nil : OwnAll K F G H σ δ [] [] []
  | fz {v : V} {d : D} {vs : List V} {rs : List SV} {as : List Addr} : Rl K F v d → OwnAll K F G H σ δ vs rs as → OwnAll K F G H σ δ (v :: vs) (.fz d :: rs) as
  | ow {p : Addr} {d : D} {vs : List V} {rs : List SV} {as : List Addr} : F p = none → G p = none → OwnR K F H p d → (∀ i, ¬ OwnAt σ δ i p) → p ∉ as → OwnAll K F G H σ δ vs rs as → OwnAll K F G H σ δ (.ref p :: vs) (.ow d :: rs) (p :: as)
def tDsO (K : PySem.W.Frag) (E : XK) (m : M (List SV)) : TA := fun σ H Q => ∃ F G δ, SR K F G σ H δ ∧ Post K E F G σ (m δ) fun rs δ' F' H' => ∀ vs as, OwnAll K F' G H' σ δ' vs rs as → Q vs H'
def mNilO : M (List SV) := mOk []
def mConsF (a : M D) (r : M (List SV)) : M (List SV) := fun δ => (a δ).bind fun x δ1 => (r δ1).bind fun xs δ2 => .ok (.fz x :: xs) δ2
def mConsO (a : M D) (r : M (List SV)) : M (List SV) := fun δ => (a δ).bind fun x δ1 => (r δ1).bind fun xs δ2 => .ok (.ow x :: xs) δ2
theorem md_nilO : ∀ σ H Q, tDsO K E mNilO σ H Q → tNil σ H Q := by
  rintro σ H Q ⟨F, G, δ, S, h⟩
  exact h F H (Ext.refl _ _) S _ _ .nil
theorem md_consF {a : M D} {r : M (List SV)} : ∀ σ H Q, tDsO K E (mConsF a r) σ H Q → tCons (tD K E a) (tDsO K E r) σ H Q := by
  rintro σ H Q ⟨F, G, δ, S, h⟩
  exact ⟨F, G, δ, S, h.bind.imp fun x δ1 F1 H1 e1 S1 q v rv => ⟨F1, G, δ1, S1, q.bind.imp fun xs δ2 F2 H2 e2 S2 q2 vs as rvs => q2 F2 H2 (Ext.refl _ _) S2 _ _ (.fz (rv.same e2.same) rvs)⟩⟩
theorem OwnAll.unguard {p : Addr} {o : HO} (g : G p = none) {vs : List V} {rs : List SV} {as : List Addr} (h : OwnAll K F (G.add p o) H σ δ vs rs as) : OwnAll K F G H σ δ vs rs as ∧ p ∉ as := by
  induction h with
  | nil => exact ⟨.nil, by simp⟩
  | fz r _ ih => exact ⟨.fz r ih.1, ih.2⟩
  | ow f g1 r n nin _ ih =>
    obtain ⟨ne, g2⟩ := guard_ne g1
    refine ⟨.ow f g2 r n nin ih.1, ?_⟩
    intro z
    rcases List.mem_cons.mp z with z | z
    · exact ne z.symm
    · exact ih.2 z
/-- a wish of the outer guard is one of the inner -/
theorem Post.guard {α : Type} {p : Addr} {o : HO} {r : Res α} {R : α → Env → Hp → Hp → Prop} (f : F p = none) (g : G p = none) (h : Post K E F G σ r R) : Post K E F (G.add p o) σ r fun a δ' F' H' => (F' p = none ∧ H' p = some o ∧ SR K F' (G.add p o) σ H' δ') ∧ R a δ' F' H' := by
  cases r with
  | ok a δ' =>
    intro F2 H2 e2 S2
    exact ⟨⟨(e2.off p (by rw [add_same]; simp)).trans f, S2.gh p o add_same, S2⟩, h F2 H2 (e2.unguard g) (S2.unguard g).1⟩
  | err c d δ' => exact fun dx v F2 H2 e2 S2 => h dx v F2 H2 (e2.unguard g) (S2.unguard g).1
  | stuck => exact h
theorem md_consO {a : M D} {r : M (List SV)} : ∀ σ H Q, tDsO K E (mConsO a r) σ H Q → tCons (tFr K E a) (tDsO K E r) σ H Q := by
  rintro σ H Q ⟨F, G, δ, S, h⟩
  refine ⟨F, G, δ, S, h.bind.imp fun x δ1 F1 H1 e1 S1 q p f g ow hn => ?_⟩
  obtain ⟨o, ho, nt, _⟩ := ow.kind
  refine ⟨F1, G.add p o, δ1, S1.guard ho g hn nt, (Post.guard f g q.bind).imp fun xs δ2 F2 H2 e2 S2 q2 vs as rvs => ?_⟩
  obtain ⟨⟨f2, h2, _⟩, q3⟩ := q2
  obtain ⟨S3, hn3⟩ := S2.unguard g
  obtain ⟨rvs', nin⟩ := rvs.unguard g
  exact q3 F2 H2 (Ext.refl _ _) S3 _ _ (.ow f2 g (ow.mono (e2.same) (h2.trans ho.symm)) hn3 nin rvs')
/-- the values go into slots, one by one -/
def putAll : List Nat → List SV → Env → Option Env
  | [], [], δ => some δ
  | i :: is, r :: rs, δ => putAll is rs (δ.set i r)
  | _, _, _ => none
def setAll : List Nat → List V → L2.St → L2.St
  | i :: is, v :: vs, σ => setAll is vs (σ.set i (some v))
  | _, _, σ => σ
theorem SR.putAll {is : List Nat} : ∀ {vs : List V} {rs : List SV} {as : List Addr} {σ0 : L2.St} {δ0 δ δ' : Env} {σ : L2.St}, SR K F G σ H δ → OwnAll K F G H σ0 δ0 vs rs as → (∀ p ∈ as, ∀ j, ¬ OwnAt σ δ j p) → DL.putAll is rs δ = some δ' → SR K F G (setAll is vs σ) H δ' := by
  induction is with
  | nil =>
    intro vs rs as σ0 δ0 δ δ' σ S h _ e
    cases h with
    | nil => cases e; exact S
    | fz _ _ => cases e
    | ow _ _ _ _ _ _ => cases e
  | cons i is ih =>
    intro vs rs as σ0 δ0 δ δ' σ S h hn e
    cases h with
    | nil => cases e
    | fz r t => exact ih (S.setF i r) t (fun p hp j hj => by
        obtain ⟨a, w, b, c⟩ := hj
        rcases set_get b with ⟨rfl, rfl, hl⟩ | ⟨ne, hw⟩
        · cases c
        · rw [List.getElem?_set_ne ne] at a; exact hn p hp j ⟨a, w, hw, c⟩) e
    | ow f g r n nin t => exact ih (S.setO i f g r (hn _ (by simp))) t (fun p hp j hj => by
        obtain ⟨a, w, b, c⟩ := hj
        rcases set_get b with ⟨rfl, rfl, hl⟩ | ⟨ne, hw⟩
        · rw [List.getElem?_set_self (by rw [S.len]; exact hl)] at a
          cases a
          exact nin hp
        · rw [List.getElem?_set_ne ne] at a; exact hn p (List.mem_cons_of_mem _ hp) j ⟨a, w, hw, c⟩) e
theorem OwnAll.off {vs : List V} {rs : List SV} {as : List Addr} (h : OwnAll K F G H σ δ vs rs as) : ∀ p ∈ as, ∀ j, ¬ OwnAt σ δ j p := by
  induction h with
  | nil => intro p hp; cases hp
  | fz _ _ ih => exact ih
  | ow _ _ _ n _ _ ih =>
    intro p hp
    rcases List.mem_cons.mp hp with rfl | hp
    · exact n
    · exact ih p hp
theorem OwnAll.length {vs : List V} {rs : List SV} {as : List Addr} (h : OwnAll K F G H σ δ vs rs as) : vs.length = rs.length := by
  induction h with
  | nil => rfl
  | fz _ _ ih => simp [ih]
  | ow _ _ _ _ _ _ ih => simp [ih]
def mPar (is : List Nat) (m : M (List SV)) : M Out := fun δ => (m δ).bind fun rs δ1 => (mOf (putAll is rs δ1) δ1).bind fun δ2 _ => .ok .nx δ2
theorem putAll_len {rs : List SV} : ∀ {is : List Nat} {δ δ' : Env}, putAll is rs δ = some δ' → rs.length = is.length := by
  induction rs with
  | nil => intro is δ δ' h; cases is with
    | nil => rfl
    | cons _ _ => cases h
  | cons r rs ih => intro is δ δ' h; cases is with
    | nil => cases h
    | cons i is => simp [ih (show putAll is rs (δ.set i r) = some δ' from h)]
theorem md_par {i j : Nat} {m : M (List SV)} : ∀ En σ H, sD K E (mPar [i, j] m) En σ H → tPar i j (tDsO K E m) En σ H := by
  rintro En σ H ⟨F, G, δ, S, h⟩
  refine ⟨F, G, δ, S, h.bindE.imp fun rs δ1 F1 H1 e1 S1 q vs as rvs => ?_⟩
  obtain ⟨δ2, h2, q⟩ := q.of
  have ln := rvs.length.trans (putAll_len h2)
  match vs, ln with
  | [v, w], _ => exact ⟨v, w, rfl, q _ F1 H1 (Ext.refl _ _) (S1.putAll rvs rvs.off h2)⟩
theorem md_par3 {i j l : Nat} {m : M (List SV)} : ∀ En σ H, sD K E (mPar [i, j, l] m) En σ H → tPar3 i j l (tDsO K E m) En σ H := by
  rintro En σ H ⟨F, G, δ, S, h⟩
  refine ⟨F, G, δ, S, h.bindE.imp fun rs δ1 F1 H1 e1 S1 q vs as rvs => ?_⟩
  obtain ⟨δ2, h2, q⟩ := q.of
  have ln := rvs.length.trans (putAll_len h2)
  match vs, ln with
  | [u, v, w], _ => exact ⟨u, v, w, rfl, q _ F1 H1 (Ext.refl _ _) (S1.putAll rvs rvs.off h2)⟩
end
end DL

namespace DL
open PySem PySem.Spec PyProof.Rows L2 MT
/-! ### lists or tuples -/
section
variable {X : Cx}
def iEnumQ (K : PySem.W.Frag) (ta : TA) : TI := fun σ H R => ta σ H fun vs H1 => ∃ a xs, vs = [.ref a] ∧ ((SqL K H1 a xs ∧ R (Ite K a) H1) ∨ (SqT K H1 a xs ∧ R (ItE xs.length (fun H => SqT K H a xs) fun i => xs[i]?) H1))
theorem pi_enumQ {e : Expr} {ta : TA} {p pos tpos : Pos} {elts : List Expr} {kk : Nat} (hg : Gl X "enumerate") (hm : X.mg "enumerate" = none) (ha : PA X [e] ta) (hs : starEach [e] X.env = [(false, eval e X.env)] := by rfl) :
    PI X (.Tuple elts kk tpos) (.Call (.Name "enumerate" p) [e] [] pos) (iEnumQ X.K ta) := by
  refine ⟨fun pins s σ H R I h => ?_⟩
  refine Call_ (ld_blt I hg hm boot_enumerate (PyProof.Rows.callWith_type1 (thn (ha.run pos pins s σ H _ I h) fun us s1 ⟨vs, H1, I1, r1, q1⟩ => ?_) hs rfl))
  obtain ⟨a, xs, ex, hh⟩ := q1
  subst ex
  cases r1 with
  | cons r rr =>
    cases rr
    cases r
    have fin : ∀ b : Addr, b ∈ [s1.heap.objs.size + 1, s1.heap.objs.size] → FpOk X pins H1 b := fun b hb => by
      have e' : b = s1.heap.objs.size + 1 ∨ b = s1.heap.objs.size := by simpa using hb
      have hle : s1.heap.objs.size ≤ b := by
        rcases e' with z | z
        · rw [z]; exact Nat.le_add_right _ _
        · rw [z]; exact Nat.le_refl _
      exact I1.fpOk hle (I1.hok.fresh hle)
    rcases hh with ⟨hq, q⟩ | ⟨hq, q⟩
    · obtain ⟨its, rv, p', hz⟩ := I1.list hq
      refine call_enumerate_list p'.isList fun h' he hit hsz hk => wpAny_pyIter_enum he ?_
      have I2 : Inv X pins σ H1 { s1 with heap := h' } := I1.kept (t' := s1.toks) hk
      exact ⟨s1.heap.objs.size + 1, [s1.heap.objs.size + 1, s1.heap.objs.size], _, _, H1, rfl, I2, turn_enum a (s1.heap.objs.size + 1) s1.heap.objs.size, ⟨⟨.none, he⟩, hit, Nat.succ_ne_self _⟩, fin, q⟩
    · obtain ⟨its, rv, p', hz⟩ := I1.tuple hq
      have hal : a < s1.heap.objs.size := by obtain ⟨o, ho, _⟩ := p'; exact Heap.lt_size ho
      refine call_enumT p' fun h' he hit hsz hk => wpAny_pyIter_enum he ?_
      have I2 : Inv X pins σ H1 { s1 with heap := h' } := I1.kept (t' := s1.toks) hk
      exact ⟨s1.heap.objs.size + 1, [s1.heap.objs.size + 1, s1.heap.objs.size], _, _, H1, rfl, I2, turn_enumT a (s1.heap.objs.size + 1) s1.heap.objs.size xs (Nat.ne_of_lt hal) (Nat.ne_of_lt (Nat.lt_succ_of_lt hal)), ⟨⟨.none, he⟩, hit, Nat.succ_ne_self _⟩, fin, q⟩
def rSlQ (K : PySem.W.Frag) : V → Option Int → Option Int → Hp → VK → Prop := fun x lo hi H Q => rSlL K x lo hi H Q ∨ rSlS K x lo hi H Q
theorem sl_seqQ : SlR X (rSlQ X.K) := sl_list.or sl_tupS
end
section
variable {K : PySem.W.Frag} {E : XK} {F F' : Hp} {G : Gd} {σ : L2.St} {H H' : Hp} {δ : Env}
def asQ : D → Option (List PyData)
  | .dat e => seqD e
  | _ => none
def mEnQ (m : M (List D)) : M (List D) := fun δ => (m δ).bind fun ds δ1 => mOf (((as1 ds).bind asQ).map enumD) δ1
theorem mi_enumQ {m : M (List D)} : ∀ σ H Rr, tI K E (mEnQ m) σ H Rr → iEnumQ K (tDs K E m) σ H Rr := by
  rintro σ H Rr ⟨F, G, δ, S, h⟩
  refine ⟨F, G, δ, S, h.bind.imp fun ds δ1 F1 H1 e1 S1 q vs rvs => ?_⟩
  obtain ⟨its, hi, q⟩ := q.of
  obtain ⟨l, hl, rfl⟩ := map_eq hi
  obtain ⟨d, rfl, hd⟩ := as1_eq hl
  cases rvs with
  | cons r1 rt =>
    cases rt
    unfold asQ at hd
    split at hd
    · unfold seqD at hd
      split at hd
      · cases hd
        cases r1.dd with
        | lst hs ha => exact ⟨_, _, rfl, .inl ⟨SqL.of (S1.fh _ _ hs), q F1 H1 (Ext.refl _ _) S1 _ (wk_pair ha walk_enum ha.length fun H s => SqL.of (s _ _ hs))⟩⟩
      · cases hd
        cases r1.dd with
        | tup hs ha => exact ⟨_, _, rfl, .inr ⟨Same.tup S1.fh hs.sq, q F1 H1 (Ext.refl _ _) S1 _ (wk_pair ha walk_E ha.length fun H s => Same.tup s hs.sq)⟩⟩
      · cases hd
    · cases hd
def slQ : D → Option Int → Option Int → Option D
  | .dat (.list a), l, u => some (.dat (.list (cutD a l u)))
  | .dat (.tuple a), l, u => some (.dat (.tuple (cutD a l u)))
  | _, _, _ => none
theorem md_slQ {m : M D} {ml mh : M (Option Int)} : ∀ σ H Q, tD K E (mSl slQ m ml mh) σ H Q → tSl (rSlQ K) (tD K E m) (tPo K E ml) (tPo K E mh) σ H Q := by
  rintro σ H Q ⟨F, G, δ, S, h⟩
  refine ⟨F, G, δ, S, h.bind.imp fun x δ1 F1 H1 e1 S1 q v rv => ⟨F1, G, δ1, S1, q.bind.imp fun l δ2 F2 H2 e2 S2 q2 => ⟨F2, G, δ2, S2, q2.bind.imp fun u δ3 F3 H3 e3 S3 q3 => ?_⟩⟩⟩
  obtain ⟨d, hd, q4⟩ := q3.of
  unfold slQ at hd
  split at hd
  · cases hd
    cases ((rv.same e2.same).same e3.same).dd with
    | lst ha da =>
      refine .inl ⟨_, _, rfl, SqL.of (S3.fh _ _ ha), fun p np => ?_⟩
      obtain ⟨S4, x⟩ := S3.newF (o := .lst _) np
      exact q4 _ _ x S4 _ (.dat (.lst upd_same ((cut_rel da).same x.same)))
  · cases hd
    cases ((rv.same e2.same).same e3.same).dd with
    | tup ha da =>
      refine .inr ⟨_, _, rfl, Same.tup S3.fh ha.sq, fun e => ?_, fun _ p o np nd => ?_⟩
      · rw [da.length] at e
        rw [cut_all e] at q4
        exact q4 F3 H3 (Ext.refl _ _) S3 _ (.dat (.tup ha da))
      · obtain ⟨S4, x⟩ := S3.newF (o := .frz o (.tup _)) np
        exact q4 _ _ x S4 _ (.dat (.tup (.inl ⟨o, upd_same, nd⟩) ((cut_rel da).same x.same)))
  · cases hd
def notN (x y : D) : Option Bool := (isN x y).map not
/-! ### a meaning as a promise -/
def noX (r : R D) : R D := match r with
  | .ok d => .ok d
  | _ => .stuck
theorem noX_ne (g : List D → R D) : noErr fun ds => noX (g ds) := fun ds c d h => by
  have h : noX (g ds) = .err c d := h
  unfold noX at h
  split at h
  · cases h
  · cases h
theorem le_noX {n N : Nat} {m : M Out} : Le n (fun ds => noX (outR (m (env0 N ds)))) m N := fun ds _ => by
  show noX (outR (m (env0 N ds))) = .stuck ∨ noX (outR (m (env0 N ds))) = outR (m (env0 N ds))
  cases outR (m (env0 N ds)) with
  | ok d => exact .inr rfl
  | err c d => exact .inl rfl
  | stuck => exact .inl rfl
/-! ### repr -/
def reprF : List D → Option D
  | [.dat d] => if (d.showable && (decide (d.shown.length ≤ most) && decide (d.depth ≤ 60))) = true then some (.dat (.str d.shown)) else none
  | _ => none
theorem rc_repr : RC K (rRepr K) reprF := fun {F G σ H δ xs ds d Q} S r h q => by
  unfold reprF at h
  split at h
  · split at h
    · rename_i hc
      cases h
      simp only [Bool.and_eq_true, decide_eq_true_eq] at hc
      cases r with
      | cons r1 rt =>
        cases rt
        exact ⟨_, _, rfl, (r1.dd.same S.fh).da, hc.1, most_le hc.2.1, hc.2.2, q _ F H (Ext.refl _ _) S (.dat (.str _))⟩
    · cases h
  · cases h
end
end DL

namespace DL
open PySem PySem.Spec PyProof.Rows L2 MT
/-! ### own __contains__, __len__ -/
section
variable {X : Cx} {pins : List (Addr × Obj)} {σ : L2.St} {H : Hp} {s : Shared} {C f a dx : Addr} {fs : List (Str × V)} {name : Str}
theorem isFn_type {K : PySem.W.Frag} {f : Addr} (h : PySem.W.isFn K (.ref f) = true) : PySem.W.typeIn K (.ref f) = some (.type "function") := by
  first | exact of_decide_eq_true h | (unfold PySem.W.isFn at h; simpa using h)
theorem own_special (I : Inv X pins σ H s) (ha : H a = some (.ins C dx fs)) (m : Meth X.K C name f) : PySem.W.Looks (model X.prog X.w) s.heap (specialOf (.ref a) name) (some (.ref f)) := by
  obtain ⟨mA, J, _⟩ := ins_get I.hok ha
  obtain ⟨od, J, _⟩ := J.look
  unfold specialOf
  exact J.type.andThen (PySem.W.looks_findIn I.kIn m.at_)
theorem contains_own {u : Value} {Q : Bool → Shared → Prop} (I : Inv X pins σ H s) (ha : H a = some (.ins C dx fs)) (m : Meth X.K C "__contains__" f)
    (hc : wpAny (model X.prog X.w) X.A (call (.ref f) [.ref a, u]) (fun v s' => ∃ b, v = .bool b ∧ Q b s') X.xe s) : wpAny (model X.prog X.w) X.A (contains (.ref a) u) Q X.xe s := by
  have sp := own_special I ha m
  have bd := PySem.W.bind_fn (M := model X.prog X.w) I.kIn (.ref a) (isFn_type m.fn)
  unfold contains
  refine wpAny_holding ?_
  rw [stdlibNamesSay?_ref]
  refine wpAny_bind (sp.at ?_)
  show wpAny _ _ (if (some (Value.ref f) == some Value.none) = true then _ else _) Q _ s
  rw [if_neg (by simp)]
  refine wpAny_bind ?_
  simp only [callSpecialUnlessNone?]
  refine wpAny_bind (sp.at ?_)
  refine wpAny_holding (wpAny_bind (bd.at ?_))
  simp only [show (Value.ref f == Value.none) = false from by simp, Bool.false_eq_true, if_false]
  refine wpAny_bind (wpAny_mono hc (fun v s' ⟨b, e, q⟩ => ?_) fun _ _ z => z)
  subst e
  exact wpAny_pure (wpAny_truthy_bool q)
def rInOwn (C : Addr) (sp : Sp) (E : XK) (neg : Bool) : R2 := fun x y H Q => ∃ a dx fs, y = .ref a ∧ H a = some (.ins C dx fs) ∧ sp [.ref a, x] H (fun v H' => ∃ b, v = .bl b ∧ Q (.bl (neg ^^ b)) H') E
variable {CX : CXT} {k : Nat} {fd : FuncData} {ps : List Str} {sp : Sp} {E : XK}
theorem op_inOwn (m : Meth X.K C "__contains__" f) (F : FnOk X.prog X.w X.K X.mg X.base CX k f fd ps sp) (hr : Room k X.A) (hb : Binds X.K fd ps []) (hx : Passes CX X E) : OpR X (compareOp .In) (rInOwn C sp E false) := by
  intro pins s σ H x y v u Q I rx ry h
  obtain ⟨a, dx, fs, rfl, ha, hs⟩ := h
  cases ry
  show wpAny _ _ (do return Value.bool (← contains (.ref a) v) : Sem Value) _ _ s
  refine wpAny_bind (contains_own I ha m ?_)
  refine thn (run_fn (vs := [.ref a, x]) (us := [.ref a, v]) (dvs := []) F hr hb .nil hx I (.cons rfl (.cons rx .nil)) (show sp ([V.ref a, x] ++ []) H _ E from hs)) fun u s' ⟨z, H', I', rz, b, e, q⟩ => ?_
  subst e
  cases rz
  exact ⟨b, rfl, wpAny_pure ⟨.bl b, H', I', rfl, by rw [Bool.false_xor] at q; exact q⟩⟩
theorem op_notInOwn (m : Meth X.K C "__contains__" f) (F : FnOk X.prog X.w X.K X.mg X.base CX k f fd ps sp) (hr : Room k X.A) (hb : Binds X.K fd ps []) (hx : Passes CX X E) : OpR X (compareOp .NotIn) (rInOwn C sp E true) := by
  intro pins s σ H x y v u Q I rx ry h
  obtain ⟨a, dx, fs, rfl, ha, hs⟩ := h
  cases ry
  show wpAny _ _ (do return Value.bool (!(← contains (.ref a) v)) : Sem Value) _ _ s
  refine wpAny_bind (contains_own I ha m ?_)
  refine thn (run_fn (vs := [.ref a, x]) (us := [.ref a, v]) (dvs := []) F hr hb .nil hx I (.cons rfl (.cons rx .nil)) (show sp ([V.ref a, x] ++ []) H _ E from hs)) fun u s' ⟨z, H', I', rz, b, e, q⟩ => ?_
  subst e
  cases rz
  exact ⟨b, rfl, wpAny_pure ⟨.bl (!b), H', I', rfl, by rw [Bool.true_xor] at q; exact q⟩⟩
def rLenOwn (C : Addr) (sp : Sp) (E : XK) : List V → Hp → VK → Prop := fun xs H Q => ∃ a dx fs, xs = [.ref a] ∧ H a = some (.ins C dx fs) ∧ sp [.ref a] H (fun v H' => ∃ n : Nat, v = .int n ∧ n ≤ 1000000 ∧ Q (.int n) H') E
theorem call_lenOwn (m : Meth X.K C "__len__" f) (F : FnOk X.prog X.w X.K X.mg X.base CX k f fd ps sp) (hr : Room (k + 1) X.A) (hb : Binds X.K fd ps []) (hx : Passes CX X E) : CallR X (.builtin "len") (rLenOwn C sp E) := by
  intro pins s σ H xs us Q I r h
  obtain ⟨a, dx, fs, rfl, ha, hs⟩ := h
  obtain ⟨u, rfl, rx⟩ := vals1 r
  cases rx
  have sp := own_special I ha m
  have bd := PySem.W.bind_fn (M := model X.prog X.w) I.kIn (.ref a) (isFn_type m.fn)
  refine Calls.call_function_entry kind_len plain_len entry_len (args_len1 _) ?_
  unfold Builtin.«len»
  refine wpAny_bind (m := oneArg "len" _) (wpAny_pure ?_)
  refine wpAny_bind (m := callSpecial? (.ref a) (Str.ofString "__len__")) ?_
  simp only [callSpecial?]
  refine wpAny_bind (sp.at ?_)
  refine wpAny_holding (wpAny_bind (bd.at ?_))
  have hl : [Value.ref a].length = ps.length := F.len _ _ _ _ hs
  refine wpAny_bind (wpAny_call (codeAny_mono (F.run X.A.in1 X.stack s H ⟨[.ref a], []⟩ [.ref a] [.ref a] _ E hr.in1 I.env0.in1 (by simpa using hb s [.ref a] I.kIn (by simpa using hl)) (.cons rfl .nil) hs) fun r s' hq => ?_))
  cases r with
  | error er => exact hx pins σ H s er s' I hq
  | ok fl =>
    cases fl with
    | ret u =>
      obtain ⟨v, H', I3, rv, n, en, hn, q3⟩ := I.after hq
      subst en
      obtain ⟨t, rfl⟩ := rv
      refine wpAny_pure ?_
      refine wpAny_bind (wpAny_holding (wpAny_pure ?_))
      refine wpAny_bind (wpAny_letGo ?_)
      show wpAny _ _ (if ((n : Nat) : Int) < 0 then _ else _) _ _ _
      rw [if_neg (by omega)]
      show wpAny _ _ (if ((n : Nat) : Int) ≥ 2 ^ 63 then _ else _) _ _ _
      rw [if_neg (by have : (n : Int) ≤ 1000000 := by omega
                     omega)]
      exact wpAny_bind (wpAny_mkInt (wpAny_pure ⟨_, rfl, .int n, H', I3.tok _, ⟨_, rfl⟩, q3⟩))
    | next => exact False.elim hq
    | brk => exact False.elim hq
    | cont => exact False.elim hq
end
end DL

namespace DL
open PySem PySem.Spec PyProof.Rows L2 MT
section
variable {K : PySem.W.Frag} {E : XK} {F F' : Hp} {G : Gd} {σ : L2.St} {H H' : Hp} {δ : Env}
/-! ### fields -/
def fldD (f : Str) : List Str → List D → Option D
  | n :: ns, d :: ds => if f == n then some d else fldD f ns ds
  | _, _ => none
theorem fldD_rel {f : Str} : ∀ {fs : List (Str × V)} {ds : List D} {d : D}, RlAll K F (fs.map (·.2)) ds → fldD f (fs.map (·.1)) ds = some d → ∃ v, fs.lookup f = some v ∧ Rl K F v d
  | [], _, _, _, h => by cases h
  | (n, v) :: fs, _, _, .cons r t, h => by
    have h : (if f == n then some _ else fldD f (fs.map (·.1)) _) = some _ := h
    cases e : (f == n) with
    | true =>
      rw [e] at h
      cases h
      exact ⟨v, by simp [List.lookup, e], r⟩
    | false =>
      rw [e] at h
      obtain ⟨u, h1, h2⟩ := fldD_rel t h
      exact ⟨u, by simp [List.lookup, e, h1], h2⟩
theorem fldD_none {f : Str} : ∀ {fs : List (Str × V)} {ds : List D}, RlAll K F (fs.map (·.2)) ds → fldD f (fs.map (·.1)) ds = none → fs.lookup f = none
  | [], _, _, _ => rfl
  | (n, v) :: fs, _, .cons r t, h => by
    have h : (if f == n then some _ else fldD f (fs.map (·.1)) _) = none := h
    cases e : (f == n) with
    | true => rw [e] at h; cases h
    | false =>
      rw [e] at h
      simp [List.lookup, e, fldD_none t h]
def fld (c f : Str) : D → Option D
  | .obj c' ns ds => if c' = c then fldD f ns ds else none
  | _ => none
theorem Rl.obj_of {v : V} {c : Str} {ns : List Str} {ds : List D} (r : Rl K F v (.obj c ns ds)) : ∃ a dx fs, v = .ref a ∧ F a = some (.ins (He.ga K c) dx fs) ∧ fs.map (·.1) = ns ∧ RlAll K F (fs.map (·.2)) ds := by
  cases r with
  | obj h t => exact ⟨_, _, _, rfl, h, rfl, t⟩
def mFld (c f : Str) (mo : M D) : M D := fun δ => (mo δ).bind fun x δ1 => mOf (fld c f x) δ1
theorem md_fld {c f : Str} {mo : M D} (hc : Cls K (He.ga K c)) (hn : NoAttr K (He.ga K c) f) : ∀ σ H Q, tD K E (mFld c f mo) σ H Q → tFld K (tD K E mo) f σ H Q := by
  rintro σ H Q ⟨F, G, δ, S, h⟩
  refine ⟨F, G, δ, S, h.bind.imp fun x δ1 F1 H1 e1 S1 q v rv => ?_⟩
  obtain ⟨d, hd, q2⟩ := q.of
  unfold fld at hd
  split at hd
  · split at hd
    · rename_i e
      subst e
      obtain ⟨a, dx, fs, rfl, hf, rfl, t⟩ := rv.obj_of
      obtain ⟨u, h1, h2⟩ := fldD_rel t hd
      exact ⟨a, _, dx, fs, u, rfl, S1.fh _ _ hf, hc, hn, h1, q2 F1 H1 (Ext.refl _ _) S1 u h2⟩
    · cases hd
  · cases hd
/-! ### methods, properties of something frozen -/
def noFld (c m : Str) : D → Bool
  | .obj c' ns ds => decide (c' = c) && (fldD m ns ds).isNone
  | _ => false
def mMeth (c m : Str) (n : Nat) (f : List D → R D) (es : List D) (mo : M D) (ma : M (List D)) : M D := fun δ => (mo δ).bind fun x δ1 => if noFld c m x = true then (ma δ1).bind fun ds δ2 => if (x :: (ds ++ es)).length = n then back (f (x :: (ds ++ es))) δ2 else .stuck else .stuck
theorem call_post {n : Nat} {f : List D → R D} {ds : List D} {vs : List V} {Q : VK} (S1 : SR K F G σ H δ) (rr : RlAll K F vs ds) (hl : ds.length = n) (q : Post K E F G σ (back (f ds) δ) fun d _ F' H' => ∀ v, Rl K F' v d → Q v H') : sp0 K n f vs H Q E := by
  refine ⟨rr.length.trans hl, F, ds, S1.fh, ⟨S1.tb, S1.fn⟩, rr, ?_⟩
  cases hf : f ds with
  | ok d =>
    rw [hf] at q
    intro v F' H' x fh hh tb r
    obtain ⟨S2, y⟩ := S1.after x fh hh tb
    exact q F' H' y S2 v r
  | err c d =>
    rw [hf] at q
    intro dx v F' H' x fh hh tb hd r
    obtain ⟨S2, y⟩ := S1.after x fh hh tb
    exact q dx v F' H' y S2 hd r
  | stuck => rw [hf] at q; exact q
theorem md_meth {c m : Str} {n : Nat} {f : List D → R D} {es : List D} {dvs : List V} {mo : M D} {ma : M (List D)} (hd : ∀ F, RlAll K F dvs es) : ∀ σ H Q, tD K E (mMeth c m n f es mo ma) σ H Q → tMeth (He.ga K c) m (sp0 K n f) dvs E (tD K E mo) (tDs K E ma) σ H Q := by
  rintro σ H Q ⟨F, G, δ, S, h⟩
  refine ⟨F, G, δ, S, h.bind.imp fun x δ1 F1 H1 e1 S1 q v rv => ?_⟩
  split at q
  · rename_i hk
    unfold noFld at hk
    split at hk
    · rw [Bool.and_eq_true, decide_eq_true_eq, Option.isNone_iff_eq_none] at hk
      obtain ⟨e, hk⟩ := hk
      subst e
      obtain ⟨a, dx, fs, rfl, hf, rfl, t⟩ := rv.obj_of
      refine ⟨a, dx, fs, rfl, S1.fh _ _ hf, fldD_none t hk, F1, G, δ1, S1, q.bind.imp fun ds δ2 F2 H2 e2 S2 q2 vs rvs => ?_⟩
      split at q2
      · rename_i hl
        exact call_post S2 (.cons (rv.same e2.same) (rvs.append (hd F2))) hl q2
      · exact q2.elim
    · cases hk
  · exact q.elim
theorem md_meth0 {c m : Str} {n : Nat} {f : List D → R D} {mo : M D} {ma : M (List D)} : ∀ σ H Q, tD K E (mMeth c m n f [] mo ma) σ H Q → tMeth (He.ga K c) m (sp0 K n f) [] E (tD K E mo) (tDs K E ma) σ H Q := md_meth fun _ => .nil
/-- no arguments: tNil stands there -/
theorem md_methN {c m : Str} {n : Nat} {f : List D → R D} {mo : M D} : ∀ σ H Q, tD K E (mMeth c m n f [] mo mNil) σ H Q → tMeth (He.ga K c) m (sp0 K n f) [] E (tD K E mo) tNil σ H Q := fun σ H Q z => by
  obtain ⟨F, G, δ, S, h⟩ := md_meth0 σ H Q z
  exact ⟨F, G, δ, S, h.imp fun x δ1 F1 H1 e1 S1 q v rv => by
    obtain ⟨a, dx, fs, e, ha, hl, q⟩ := q v rv
    exact ⟨a, dx, fs, e, ha, hl, md_nil σ H1 _ q⟩⟩
def isObj (c : Str) : D → Bool
  | .obj c' _ _ => decide (c' = c)
  | _ => false
def mProp (c : Str) (f : List D → R D) (mo : M D) : M D := fun δ => (mo δ).bind fun x δ1 => if isObj c x = true then back (f [x]) δ1 else .stuck
theorem isObj_eq {c : Str} {d : D} (h : isObj c d = true) : ∃ ns ds, d = .obj c ns ds := by
  unfold isObj at h
  split at h
  · rw [decide_eq_true_eq] at h; subst h; exact ⟨_, _, rfl⟩
  · cases h
theorem md_prop {c : Str} {f : List D → R D} {mo : M D} : ∀ σ H Q, tD K E (mProp c f mo) σ H Q → tProp (He.ga K c) (sp0 K 1 f) [] E (tD K E mo) σ H Q := by
  rintro σ H Q ⟨F, G, δ, S, h⟩
  refine ⟨F, G, δ, S, h.bind.imp fun x δ1 F1 H1 e1 S1 q v rv => ?_⟩
  split at q
  · rename_i hk
    obtain ⟨ns, ds, rfl⟩ := isObj_eq hk
    obtain ⟨a, dx, fs, rfl, hf, rfl, t⟩ := rv.obj_of
    exact ⟨a, dx, fs, rfl, S1.fh _ _ hf, call_post S1 (.cons rv .nil) rfl q⟩
  · exact q.elim
/-! ### in, len by own methods -/
def mInO (neg : Bool) (c : Str) (f : List D → R D) (ma mb : M D) : M Bool := fun δ => (ma δ).bind fun x δ1 => (mb δ1).bind fun y δ2 => if isObj c y = true then (back (f [y, x]) δ2).bind fun d δ3 => (mOf (asB d) δ3).bind fun b δ4 => .ok (neg ^^ b) δ4 else .stuck
theorem inO_aux {neg : Bool} {c : Str} {f : List D → R D} {ma mb : M D} {Q : VK} (S : SR K F G σ H δ) (h : Post K E F G σ (mInO neg c f ma mb δ) fun b _ _ H' => Q (.bl b) H') : tOp (rInOwn (He.ga K c) (sp0 K 2 f) E neg) (tD K E ma) (tD K E mb) σ H Q := by
  refine ⟨F, G, δ, S, h.bind.imp fun x δ1 F1 H1 e1 S1 q v rv => ⟨F1, G, δ1, S1, q.bind.imp fun y δ2 F2 H2 e2 S2 q2 w rw => ?_⟩⟩
  split at q2
  · rename_i hk
    obtain ⟨ns, ds, rfl⟩ := isObj_eq hk
    obtain ⟨a, dx, fs, rfl, hf, rfl, t⟩ := rw.obj_of
    refine ⟨a, dx, fs, rfl, S2.fh _ _ hf, call_post S2 (.cons rw (.cons (rv.same e2.same) .nil)) rfl (q2.bind.imp fun d δ3 F3 H3 e3 S3 q3 z rz => ?_)⟩
    obtain ⟨b, hb, q4⟩ := q3.bind.of
    have e := asB_eq hb
    subst e
    cases rz.dd
    exact ⟨b, rfl, q4 F3 H3 (Ext.refl _ _) S3 F3 H3 (Ext.refl _ _) S3⟩
  · exact q2.elim
theorem md_inO {neg : Bool} {c : Str} {f : List D → R D} {ma mb : M D} : ∀ σ H Q, tBo K E (mInO neg c f ma mb) σ H Q → tTest (tOp (rInOwn (He.ga K c) (sp0 K 2 f) E neg) (tD K E ma) (tD K E mb)) σ H Q := by
  rintro σ H Q ⟨F, G, δ, S, h⟩
  exact inO_aux S (h.imp fun b _ _ H' _ _ q => ⟨b, rfl, q⟩)
theorem md_inOV {neg : Bool} {c : Str} {f : List D → R D} {ma mb : M D} : ∀ σ H Q, tD K E (mBD (mInO neg c f ma mb)) σ H Q → tOp (rInOwn (He.ga K c) (sp0 K 2 f) E neg) (tD K E ma) (tD K E mb) σ H Q := by
  rintro σ H Q ⟨F, G, δ, S, h⟩
  exact inO_aux S (h.bind.imp fun b δ' F' H' _ S' q => q F' H' (Ext.refl _ _) S' _ (.dat (.bl b)))
def lenO : D → Option D
  | .dat (.int (.ofNat n)) => if n ≤ most then some (.dat (.int (n : Nat))) else none
  | _ => none
def mLenO (c : Str) (f : List D → R D) (ma : M (List D)) : M D := fun δ => (ma δ).bind fun xs δ1 => match xs with
  | [x] => if isObj c x = true then (back (f [x]) δ1).bind fun d δ2 => mOf (lenO d) δ2 else .stuck
  | _ => .stuck
theorem md_lenO {c : Str} {f : List D → R D} {ma : M (List D)} : ∀ σ H Q, tD K E (mLenO c f ma) σ H Q → tCB (rLenOwn (He.ga K c) (sp0 K 1 f) E) (tDs K E ma) σ H Q := by
  rintro σ H Q ⟨F, G, δ, S, h⟩
  refine ⟨F, G, δ, S, h.bind.imp fun xs δ1 F1 H1 e1 S1 q vs rvs => ?_⟩
  split at q
  · split at q
    · rename_i x hk
      obtain ⟨ns, ds, rfl⟩ := isObj_eq hk
      cases rvs with
      | cons r1 rt =>
        cases rt
        obtain ⟨a, dx, fs, rfl, hf, rfl, t⟩ := r1.obj_of
        refine ⟨a, dx, fs, rfl, S1.fh _ _ hf, call_post S1 (.cons r1 .nil) rfl (q.bind.imp fun d δ3 F3 H3 e3 S3 q3 z rz => ?_)⟩
        obtain ⟨e, he, q4⟩ := q3.of
        unfold lenO at he
        split at he
        · rename_i n
          split at he
          · rename_i hn
            cases he
            cases rz.dd
            exact ⟨n, rfl, hn, q4 F3 H3 (Ext.refl _ _) S3 _ (.dat (.int _))⟩
          · cases he
        · cases he
    · exact q.elim
  · exact q.elim
end
end DL

namespace DL
open PySem PySem.Spec PyProof.Rows L2 MT
/-! ### an argument that is changed -/
def sp1 (K : PySem.W.Frag) (n : Nat) (f : D → List D → R (D × D)) : Sp := fun vs H Q E => ∃ (p : Addr) (us : List V) (F : Hp) (d0 : D) (ds : List D), vs = .ref p :: us ∧ us.length = n ∧ F p = none ∧ Same F H ∧ (MT.LamT K H ∧ noTb F) ∧ OwnR K F H p d0 ∧ RlAll K F us ds ∧ match f d0 ds with
  | .ok (d, d1) => ∀ v F' H', Ext F (hid p (MT.noT H)) F' → F' p = none → Same F' H' → Same (hid p (MT.noT H)) H' → MT.LamT K H' → OwnR K F' H' p d1 → Rl K F' v d → Q v H'
  | .err c d => ∀ dx v F' H', Ext F (hid p (MT.noT H)) F' → Same F' H' → Same (hid p (MT.noT H)) H' → MT.LamT K H' → F' dx = some (xdV v) → Rl K F' v d → E (.ref (He.ga K c)) (some dx) H'
  | .stuck => False
section
variable {K : PySem.W.Frag} {E : XK} {F F' : Hp} {G : Gd} {σ : L2.St} {H H' : Hp} {δ : Env}
theorem hid_self {p : Addr} {H : Hp} : hid p H p = none := by unfold hid; rw [if_pos rfl]
theorem hid_ne {p b : Addr} {H : Hp} (n : b ≠ p) : hid p H b = H b := by unfold hid; rw [if_neg n]
def ownD (δ : Env) (i : Nat) : Option D := match δ[i]? with
  | some (.ow d) => some d
  | some (.io d) => some d
  | _ => none
/-- the slot's object shows d now -/
def putO (δ : Env) (i : Nat) (d : D) : Env := match δ[i]? with
  | some (.ow _) => δ.set i (.ow d)
  | some (.io _) => δ.set i (.io d)
  | _ => δ
theorem SR.ownD (S : SR K F G σ H δ) {i : Nat} {d : D} (h : DL.ownD δ i = some d) : ∃ p, σ[i]? = some (some (.ref p)) ∧ F p = none ∧ G p = none ∧ OwnR K F H p d ∧ OwnAt σ δ i p := by
  unfold DL.ownD at h
  split at h
  · rename_i hi; cases h; obtain ⟨p, a, f, g, r⟩ := S.sl i _ hi; exact ⟨p, a, f, g, r, a, _, hi, rfl⟩
  · rename_i hi; cases h; obtain ⟨a, f, g, r⟩ := S.sl i _ hi; exact ⟨_, a, f, g, r, a, _, hi, rfl⟩
  · cases h
theorem SR.afterP (S : SR K F G σ H δ) {i : Nat} {p : Addr} {d0 d1 : D} (ho : DL.ownD δ i = some d0) (hp : σ[i]? = some (some (.ref p))) (x : Ext F (hid p (MT.noT H)) F') (fp : F' p = none) (fh : Same F' H') (hh : Same (hid p (MT.noT H)) H') (tb : MT.LamT K H') (r : OwnR K F' H' p d1) :
    SR K F' G σ H' (putO δ i d1) ∧ Ext F G F' := by
  obtain ⟨p', a, f, g, r0, oi⟩ := S.ownD ho
  rw [hp] at a; cases a
  have gT : ∀ b o, G.h b = some o → hid p (MT.noT H) b = some o := fun b o e => by
    have nb : b ≠ p := ne_of_none e g
    rw [hid_ne nb]
    exact MT.noT_of (S.gh _ _ e) fun ps z => S.gn b ps (by rw [e, z])
  have ng : ∀ b, G.h b ≠ none → (hid p (MT.noT H)) b ≠ none := fun b n z => by
    cases e : G.h b with
    | none => exact n e
    | some o => rw [gT _ _ e] at z; cases z
  have y : Ext F G F' := ⟨x.same, fun b n => x.off b (ng b n), x.nt⟩
  have gh : Same G H' := fun b o h => hh b o (gT b o h)
  have oth : ∀ j q, i ≠ j → OwnAt σ δ j q → F' q = none ∧ H' q = H q := fun j q ne ow => by
    obtain ⟨f1, _, _⟩ := S.ownAt ow
    obtain ⟨o, h1, h2, _⟩ := S.ownK ow
    have nq : q ≠ p := fun z => S.inj i j p ne oi (z ▸ ow)
    have hq : (hid p (MT.noT H)) q = some o := by rw [hid_ne nq]; exact MT.noT_of h1 h2
    exact ⟨(x.off q (by rw [hq]; simp)).trans f1, (hh _ _ hq).trans h1.symm⟩
  refine ⟨?_, y⟩
  have main : ∀ v', (∀ s, s = some (some (V.ref p)) → SlotR K F' G H' s v') → v'.own = true → SR K F' G σ H' (δ.set i v') := fun v' hs hv => by
    refine ⟨by rw [List.length_set]; exact S.len, fh, gh, fun j w hw => ?_, fun j k q hjk h1 h2 => ?_, tb, S.gn, x.nt S.fn⟩
    · rcases set_get hw with ⟨rfl, rfl, _⟩ | ⟨ne, hw⟩
      · exact hs _ hp
      · exact (S.sl j w hw).keep x.same fun q hq ho => oth j q ne ⟨hq, w, hw, ho⟩
    · have z : ∀ {j : Nat}, OwnAt σ (δ.set i v') j q → OwnAt σ δ j q := fun {j} ⟨a, w, b, c⟩ => by
        rcases set_get b with ⟨rfl, rfl, _⟩ | ⟨ne, hw⟩
        · rw [hp] at a; cases a; exact oi
        · exact ⟨a, w, hw, c⟩
      exact S.inj j k q hjk (z h1) (z h2)
  unfold DL.ownD at ho
  unfold putO
  split at ho
  · rename_i hi
    exact main _ (fun s e => ⟨p, e, fp, g, r⟩) rfl
  · rename_i d hi
    obtain ⟨a, _⟩ := S.sl i _ hi
    rw [hp] at a
    have ep : p = G.io := by injection a with a; injection a with a; injection a
    subst ep
    exact main _ (fun s e => ⟨e, fp, g, r⟩) rfl
  · cases ho
def back1 (r : R (D × D)) (i : Nat) (δ : Env) : Res D := match r with
  | .ok (d, d1) => .ok d (putO δ i d1)
  | .err _ _ => .stuck
  | .stuck => .stuck
def mCallP (n : Nat) (f : D → List D → R (D × D)) (i : Nat) (ma : M (List D)) : M D := fun δ => (mOf (ownD δ i) δ).bind fun _ δ0 => (ma δ0).bind fun ds δ1 => (mOf (ownD δ1 i) δ1).bind fun d0 δ2 => if ds.length = n then back1 (f d0 ds) i δ2 else .stuck
theorem md_callP {n i : Nat} {f : D → List D → R (D × D)} {ma : M (List D)} : ∀ σ H Q, tD K E (mCallP n f i ma) σ H Q → tCall (sp1 K n f) [] E (tCons (tVar i) (tDs K E ma)) σ H Q := by
  rintro σ H Q ⟨F, G, δ, S, h⟩
  obtain ⟨x0, h0, q⟩ := h.bind.of
  obtain ⟨p, hp, _⟩ := S.ownD h0
  have q := q F H (Ext.refl _ _) S
  refine ⟨_, hp, F, G, δ, S, q.bind.imp fun ds δ1 F1 H1 e1 S1 q1 us ru => ?_⟩
  obtain ⟨d0, hd0, q2⟩ := q1.bind.of
  have q2 := q2 F1 H1 (Ext.refl _ _) S1
  obtain ⟨p', hp', f1, g1, r1, _⟩ := S1.ownD hd0
  rw [hp] at hp'; cases hp'
  split at q2
  · rename_i hl
    refine ⟨p, us ++ [], F1, d0, ds, rfl, by rw [List.append_nil]; exact ru.length.trans hl, f1, S1.fh, ⟨S1.tb, S1.fn⟩, r1, by rw [List.append_nil]; exact ru, ?_⟩
    cases hf : f d0 ds with
    | ok r =>
      obtain ⟨d, d1⟩ := r
      rw [hf] at q2
      intro v F' H' x fp fh hh tb ro rv
      obtain ⟨S2, y⟩ := S1.afterP hd0 hp x fp fh hh tb ro
      exact q2 F' H' y S2 v rv
    | err c d => rw [hf] at q2; exact q2.elim
    | stuck => rw [hf] at q2; exact q2.elim
  · exact q2.elim
/-! ### C(..) -/
def mMake (c : Str) (n : Nat) (f : D → List D → R (D × D)) (es : List D) (ma : M (List D)) : M D := fun δ => (ma δ).bind fun ds δ1 => if (ds ++ es).length = n then (match f (.obj c [] []) (ds ++ es) with
  | .ok (.dat .none, d1) => .ok d1 δ1
  | _ => .stuck) else .stuck
theorem md_make {c : Str} {n : Nat} {f : D → List D → R (D × D)} {es : List D} {dvs : List V} {ma : M (List D)} (hd : ∀ F, RlAll K F dvs es) : ∀ σ H Q, tFr K E (mMake c n f es ma) σ H Q → tMake (He.ga K c) (sp1 K n f) dvs E (tDs K E ma) σ H Q := by
  rintro σ H Q ⟨F, G, δ, S, h⟩
  refine ⟨F, G, δ, S, h.bind.imp fun ds δ1 F1 H1 e1 S1 q us ru x dx nx nd ne => ?_⟩
  split at q
  · rename_i hl
    have ndx : (upd H1 dx (.own x)) x = none := by rw [upd_ne (Ne.symm ne)]; exact nx
    have S2 := (S1.new (o := .own x) nd).new (o := .ins (He.ga K c) dx []) ndx
    obtain ⟨fx, gx⟩ := S1.gf nx
    have rr := ru.append (hd F1)
    refine ⟨x, us ++ dvs, F1, .obj c [] [], ds ++ es, rfl, rr.length.trans hl, fx, S2.fh, ⟨S2.tb, S2.fn⟩, .obj (fs := []) upd_same .nil, rr, ?_⟩
    cases hf : f (.obj c [] []) (ds ++ es) with
    | ok r =>
      obtain ⟨d, d1⟩ := r
      rw [hf] at q
      intro v F' H' xx fp fh hh tb ro rv
      split at q
      · rename_i d1' heq
        cases heq
        cases rv.dd
        refine ⟨rfl, ?_⟩
        have hn : ∀ i, ¬ OwnAt σ δ1 i x := fun i hi => by
          obtain ⟨_, _, o, ho⟩ := S1.ownAt hi
          rw [nx] at ho; cases ho
        have s0 : ∀ b o, MT.noT H1 b = some o → hid x (MT.noT (upd (upd H1 dx (.own x)) x (.ins (He.ga K c) dx []))) b = some o := fun b o hb => by
          obtain ⟨hb1, hb2⟩ := MT.noT_to hb
          have nb : b ≠ x := ne_of_none hb1 nx
          have nb2 : b ≠ dx := ne_of_none hb1 nd
          rw [hid_ne nb]
          exact MT.noT_of (by rw [upd_ne nb, upd_ne nb2]; exact hb1) hb2
        have s1 : Same (MT.noT H1) H' := fun b o hb => hh b o (s0 b o hb)
        have y : Ext F1 (MT.noT H1) F' := ⟨xx.same, fun b n => xx.off b (by
          cases e : MT.noT H1 b with
          | none => exact absurd e n
          | some o => rw [s0 b o e]; simp), xx.nt⟩
        obtain ⟨S3, y3⟩ := S1.after y fh s1 tb
        exact q F' H' y3 S3 x fp gx ro hn
      · exact q.elim
    | err c d => rw [hf] at q; exact q.elim
    | stuck => rw [hf] at q; exact q.elim
  · exact q.elim
theorem md_make0 {c : Str} {n : Nat} {f : D → List D → R (D × D)} {ma : M (List D)} : ∀ σ H Q, tFr K E (mMake c n f [] ma) σ H Q → tMake (He.ga K c) (sp1 K n f) [] E (tDs K E ma) σ H Q := md_make fun _ => .nil
/-! ### self.f = e -/
def putN (f : Str) : List Str → List Str
  | [] => [f]
  | n :: ns => if n = f then n :: ns else n :: putN f ns
def putV (f : Str) (d : D) : List Str → List D → List D
  | n :: ns, e :: es => if n = f then d :: es else e :: putV f d ns es
  | _, _ => [d]
theorem putF_names {f : Str} {v : V} : ∀ fs : List (Str × V), (putF f v fs).map (·.1) = putN f (fs.map (·.1))
  | [] => rfl
  | (n, x) :: r => by
    show (if n = f then (n, v) :: r else (n, x) :: putF f v r).map (·.1) = if n = f then n :: r.map (·.1) else n :: putN f (r.map (·.1))
    split
    · rfl
    · rw [List.map_cons, putF_names r]
theorem putF_rl {f : Str} {v : V} {d : D} (rv : Rl K F v d) : ∀ {fs : List (Str × V)} {ds : List D}, RlAll K F (fs.map (·.2)) ds → RlAll K F ((putF f v fs).map (·.2)) (putV f d (fs.map (·.1)) ds)
  | [], _, .nil => .cons rv .nil
  | (n, x) :: r, _, .cons a t => by
    show RlAll K F ((if n = f then (n, v) :: r else (n, x) :: putF f v r).map (·.2)) (if n = f then d :: _ else _ :: putV f d (r.map (·.1)) _)
    split
    · exact .cons rv t
    · exact .cons a (putF_rl rv t)
def mSetA (c f : Str) (i : Nat) (m : M D) : M Out := fun δ => (m δ).bind fun d δ1 => match ownD δ1 i with
  | some (.obj c' ns ds) => if c' = c ∧ ns.length < 1000 then .ok .nx (putO δ1 i (.obj c (putN f ns) (putV f d ns ds))) else .stuck
  | _ => .stuck
theorem md_setA {c f : Str} {i : Nat} {m : M D} (hc : Cls K (He.ga K c)) (hn : NoAttr K (He.ga K c) f) : ∀ En σ H, sD K E (mSetA c f i m) En σ H → sFld K (tVar i) (tD K E m) f En σ H := by
  rintro En σ H ⟨F, G, δ, S, h⟩
  refine ⟨F, G, δ, S, h.bindE.imp fun d δ1 F1 H1 e1 S1 q v rv => ?_⟩
  split at q
  · rename_i c' ns ds ho
    split at q
    · rename_i hk
      obtain ⟨rfl, hl⟩ := hk
      obtain ⟨p, hp, f1, g1, r1, _⟩ := S1.ownD ho
      cases r1 with
      | obj h t =>
        rename_i dx fs
        have ro : OwnR K F1 (upd H1 p (.ins (He.ga K c') dx (putF f v fs))) p (.obj c' (putN f (fs.map (·.1))) (putV f d (fs.map (·.1)) ds)) := by
          rw [← putF_names (v := v) fs]
          exact .obj upd_same (putF_rl rv t)
        obtain ⟨S2, y⟩ := S1.afterP (F' := F1) (H' := upd H1 p (.ins (He.ga K c') dx (putF f v fs))) ho hp (Ext.refl _ _) f1 (fun b o hb => by rw [upd_ne (ne_of_none hb f1)]; exact S1.fh _ _ hb) (fun b o hb => by
          have nb : b ≠ p := fun e => by rw [e, hid_self] at hb; cases hb
          rw [upd_ne nb]
          rw [hid_ne nb] at hb; exact (MT.noT_to hb).1) (MT.tabs_updN S1.tb h (by intro _ z; cases z) (by intro _ z; cases z)) ro
        refine ⟨_, hp, p, _, dx, fs, rfl, h, hc, hn, ?_, q σ F1 _ (Ext.refl _ _) S2⟩
        rw [List.length_map] at hl; exact hl
    · exact q.elim
  · exact q.elim
/-! ### the def -/
def env1 (N : Nat) (d0 : D) (ds : List D) : Env := .io d0 :: (ds.map .fz ++ List.replicate (N - (ds.length + 1)) .no)
def outR1 (r : Res Out) : R (D × D) := match r with
  | .ok o δ => match o, (δ[0]? : Option SV) with
    | .ret d, some (.io d1) => .ok (d, d1)
    | .nx, some (.io d1) => .ok (.dat .none, d1)
    | _, _ => .stuck
  | _ => .stuck
theorem outR1_ne {r : Res Out} {c : Str} {d : D} : outR1 r ≠ .err c d := fun h => by
  unfold outR1 at h
  split at h
  · split at h <;> cases h
  · cases h
theorem outR1_ok {o : Out} {δ : Env} {d d1 : D} (h : outR1 (.ok o δ) = .ok (d, d1)) : (o = .ret d ∧ δ[0]? = some (.io d1)) ∨ (o = .nx ∧ d = .dat .none ∧ δ[0]? = some (.io d1)) := by
  cases o with
  | ret e =>
    cases e0 : (δ[0]? : Option SV) with
    | none => simp [outR1, e0] at h
    | some v =>
      cases v with
      | io d2 => simp [outR1, e0] at h; exact .inl ⟨by rw [h.1], by rw [h.2]⟩
      | no => simp [outR1, e0] at h
      | fz _ => simp [outR1, e0] at h
      | ow _ => simp [outR1, e0] at h
  | nx =>
    cases e0 : (δ[0]? : Option SV) with
    | none => simp [outR1, e0] at h
    | some v =>
      cases v with
      | io d2 => simp [outR1, e0] at h; exact .inr ⟨rfl, h.1.symm, by rw [h.2]⟩
      | no => simp [outR1, e0] at h
      | fz _ => simp [outR1, e0] at h
      | ow _ => simp [outR1, e0] at h
  | bk => simp [outR1] at h
  | ct => simp [outR1] at h
theorem env0_own {N j : Nat} {ds : List D} {v : SV} (hv : (env0 N ds)[j]? = some v) : v.own = false := by
  unfold env0 at hv
  by_cases hi : j < ds.length
  · rw [List.getElem?_append_left (by simpa using hi), List.getElem?_map] at hv
    cases e : ds[j]? with
    | none => rw [e] at hv; cases hv
    | some d => rw [e] at hv; cases hv; rfl
  · rw [List.getElem?_append_right (by simpa using Nat.le_of_not_lt hi), List.getElem?_replicate] at hv
    split at hv
    · cases hv; rfl
    · cases hv
theorem start_SR1 {N : List Str} {p : Addr} {us : List V} {d0 : D} {ds : List D} (s : Same F H) (tb : MT.LamT K H ∧ noTb F) (fp : F p = none) (o : OwnR K F H p d0) (r : RlAll K F us ds) : SR K F ⟨hid p (MT.noT H), p⟩ (L2.start N (.ref p :: us)) H (env1 N.length d0 ds) := by
  have ln := r.length
  have z := start_SR (N := N.drop 1) s tb r
  have e1 : L2.start N (.ref p :: us) = some (.ref p) :: L2.start (N.drop 1) us := by
    unfold L2.start
    simp only [List.map_cons, List.cons_append, List.length_cons, List.length_drop]
    congr 3
    omega
  have e2 : env1 N.length d0 ds = .io d0 :: env0 (N.drop 1).length ds := by
    unfold env1 env0
    simp only [List.length_drop]
    congr 3
    omega
  rw [e1, e2]
  have nown : ∀ (j : Nat) (v : SV), (env0 (N.drop 1).length ds)[j]? = some v → v.own = false := fun j v hv => env0_own hv
  refine ⟨by simpa using z.len, s, (hid_same p _).trans MT.noT_same, fun i v hv => ?_, fun i j q hij h1 h2 => ?_, tb.1, (fun b ps z => (MT.noT_to (hid_same p _ b _ z)).2 ps rfl), tb.2⟩
  · cases i with
    | zero => cases hv; exact ⟨rfl, fp, hid_self, o⟩
    | succ i =>
      have hv : (env0 (N.drop 1).length ds)[i]? = some v := by simpa using hv
      have w := z.sl i v hv
      have e : (some (V.ref p) :: L2.start (N.drop 1) us)[i + 1]? = (L2.start (N.drop 1) us)[i]? := by simp
      rw [e]
      cases v with
      | no => trivial
      | fz d => exact w
      | ow d => cases nown i _ hv
      | io d => cases nown i _ hv
  · have z0 : ∀ {i : Nat}, OwnAt (some (V.ref p) :: L2.start (N.drop 1) us) (.io d0 :: env0 (N.drop 1).length ds) i q → i = 0 := fun {i} ⟨_, v, hv, ho⟩ => by
      cases i with
      | zero => rfl
      | succ i =>
        have hv : (env0 (N.drop 1).length ds)[i]? = some v := by simpa using hv
        rw [nown i v hv] at ho; cases ho
    exact hij ((z0 h1).trans (z0 h2).symm)
end
section
variable {P : Program} {w : World} {K : PySem.W.Frag} {mg : Str → Option Value} {base : Heap} {k : Nat} {f : Addr} {x qual : Str} {params : Arguments} {body : List Stmt} {scope : Scope} {dvs : List V} {kws : List (Str × V)} {fd : FuncData} {N ps : List Str} {m : M Out}
/-- the promise of such a def is its body's meaning -/
def sem1 (m : M Out) (N : Nat) : D → List D → R (D × D) := fun d0 ds => outR1 (m (env1 N d0 ds))
theorem body_run1 {H : Hp} {vs : List V} {Q : VK} {E : XK} {n : Nat} (h : sp1 K n (sem1 m N.length) vs H Q E) : sD K E00 m { nx := fun _ H' => Q .non H', rt := Q } (L2.start N vs) H := by
  obtain ⟨p, us, F, d0, ds, rfl, ln, fp, s, tb, o, r, q⟩ := h
  refine ⟨F, ⟨hid p (MT.noT H), p⟩, env1 N.length d0 ds, start_SR1 s tb fp o r, ?_⟩
  unfold sem1 at q
  cases hm : m (env1 N.length d0 ds) with
  | stuck => rw [hm] at q; exact q.elim
  | err c d δ' => rw [hm] at q; exact q.elim
  | ok o δ' =>
    rw [hm] at q
    cases hq : outR1 (.ok o δ') with
    | stuck => rw [hq] at q; exact q.elim
    | err c d => exact absurd hq outR1_ne
    | ok r =>
      obtain ⟨d, d1⟩ := r
      rw [hq] at q
      rcases outR1_ok hq with ⟨rfl, e0⟩ | ⟨rfl, rfl, e0⟩
      · intro σ' v F' H' xx S rv
        obtain ⟨_, f1, _, r1⟩ := S.sl 0 _ e0
        exact q v F' H' xx f1 S.fh S.gh S.tb r1 rv
      · intro σ' F' H' xx S
        obtain ⟨_, f1, _, r1⟩ := S.sl 0 _ e0
        exact q .non F' H' xx f1 S.fh S.gh S.tb r1 (.dat .non)
theorem fn_data1 {n : Nat} (hn : ps.length = n + 1) (FF : FunD K x qual params body scope dvs kws f fd) (S : FnScope N ps scope)
    (h : ∀ (cdv : Value) (A : Around) (outer : List PySem.Env) (s : Shared) (H : Hp) (E : XK), Room k (A.deeper (envOfC qual scope s.heap.objs.size f cdv)) → PSs (cxOf CX0 P w K mg base N qual scope f cdv A outer s H E).nox body (sD K E00 m)) :
    FnOk P w K mg base CX0 (k + 1) f fd ps (sp1 K n (sem1 m N.length)) := by
  refine FF.ok S (fun vs H Q E z => ?_) fun cdv A outer s H vs Q E hr hs => ⟨_, PSs.nox (h cdv A outer s H E hr), body_run1 hs⟩
  obtain ⟨p, us, F, d0, ds, rfl, ln, _⟩ := z
  rw [List.length_cons, ln, hn]
theorem fn_data1G {n : Nat} (hn : ps.length = n + 1) (FF : FunD K x qual params body scope dvs kws f fd) (S : FnScope N ps scope)
    (h : ∀ (cdv : Value) (A : Around) (outer : List PySem.Env) (s : Shared) (H : Hp) (E : XK), NoG (A.deeper (envOfC qual scope s.heap.objs.size f cdv)) → Room k (A.deeper (envOfC qual scope s.heap.objs.size f cdv)) → PSs (cxOf CX0 P w K mg base N qual scope f cdv A outer s H E).nox body (sD K E00 m)) :
    FnOkG P w K mg base CX0 (k + 1) f fd ps (sp1 K n (sem1 m N.length)) := by
  refine fnG_ok FF S (fun vs H Q E z => ?_) fun cdv A outer s H vs Q E hG hr hs => ⟨_, PSs.nox (h cdv A outer s H E hG hr), body_run1 hs⟩
  obtain ⟨p, us, F, d0, ds, rfl, ln, _⟩ := z
  rw [List.length_cons, ln, hn]
end
end DL

namespace DL
open PySem PySem.Spec PyProof.Rows L2 MT
section
variable {K : PySem.W.Frag} {E : XK} {F F' : Hp} {G : Gd} {σ : L2.St} {H H' : Hp} {δ : Env}
/-! ### a changed list, by places -/
def mIxP (i : Nat) (mb : M D) : M D := fun δ => (mOf (peek δ i) δ).bind fun _ δ0 => (mb δ0).bind fun y δ1 => (mOf (peek δ1 i) δ1).bind fun x δ2 => mOf (ixF x y) δ2
theorem md_ixP {i : Nat} {mb : M D} : ∀ σ H Q, tD K E (mIxP i mb) σ H Q → tOp (rIx K) (tVar i) (tD K E mb) σ H Q := by
  rintro σ H Q ⟨F, G, δ, S, h⟩
  obtain ⟨d, hd, q⟩ := h.bind.of
  have q := q F H (Ext.refl _ _) S
  obtain ⟨v, hv⟩ := peek_some S hd
  refine ⟨v, hv, F, G, δ, S, q.bind.imp fun y δ2 F2 H2 e2 S2 q2 w rw => ?_⟩
  obtain ⟨x, hx, q3⟩ := q2.bind.of
  obtain ⟨r, hr, q4⟩ := (q3 F2 H2 (Ext.refl _ _) S2).of
  rcases S2.peek hx with ⟨v', hv', rv⟩ | ⟨p, hv', rv⟩
  · rw [hv] at hv'; cases hv'
    exact ro_ix S2 rv rw hr fun z F' H' e S' rz => q4 F' H' e S' z rz
  · rw [hv] at hv'; cases hv'
    unfold ixF at hr
    split at hr
    · obtain ⟨z, hz, rfl⟩ := map_eq hr
      cases rw.dd
      cases rv with
      | lst ha da => obtain ⟨u, h1, h2⟩ := atI_rel da hz; exact .inl ⟨_, _, _, u, rfl, rfl, SqL.of ha, h1, q4 F2 H2 (Ext.refl _ _) S2 _ (.dat h2)⟩
    · cases rv
    · cases rv
    · cases hr
theorem DdAll.set {vs : List V} {ds : List PyData} {v : V} {d : PyData} (r : Dd K F v d) (t : DdAll K F vs ds) : ∀ j : Nat, DdAll K F (vs.set j v) (ds.set j d) := by
  induction vs generalizing ds with
  | nil => cases t; intro j; exact .nil
  | cons a vs ih =>
    cases t with
    | cons h t =>
      intro j
      cases j with
      | zero => exact .cons r t
      | succ j => exact .cons h (ih t j)
def mSetIx (i : Nat) (mi me : M D) : M Out := fun δ => (me δ).bind fun d δ1 => (mOf (ownD δ1 i) δ1).bind fun _ δ1' => (mi δ1').bind fun k δ2 => match d, k, ownD δ2 i with
  | .dat d, .dat (.int k), some (.dat (.list xs)) => match ixN xs.length k with
    | some j => .ok .nx (putO δ2 i (.dat (.list (xs.set j d))))
    | none => .stuck
  | _, _, _ => .stuck
theorem md_setIx {i : Nat} {mi me : M D} : ∀ En σ H, sD K E (mSetIx i mi me) En σ H → tAsg (tD K E me) (gSub (tVar i) (tD K E mi) rSetL) En σ H := by
  rintro En σ H ⟨F, G, δ, S, h⟩
  refine ⟨F, G, δ, S, h.bindE.imp fun d δ1 F1 H1 e1 S1 q v rv => ?_⟩
  obtain ⟨x0, h0, q1⟩ := q.of
  clear q
  obtain ⟨p, hp, _⟩ := S1.ownD h0
  refine ⟨_, hp, F1, G, δ1, S1, (q1.bindE (σ := σ)).imp fun k δ2 F2 H2 e2 S2 q2 u ru => ?_⟩
  split at q2
  · rename_i d' k' xs ho
    split at q2
    · rename_i j hj
      obtain ⟨p', hp', f2, g2, r2, _⟩ := S2.ownD ho
      rw [hp] at hp'; cases hp'
      cases ru.dd
      cases r2 with
      | lst ha da =>
        rename_i vs
        have dv := (rv.same e2.same).dd
        have ro : OwnR K F2 (upd H2 p (.lst (vs.set j v))) p (.dat (.list (xs.set j d'))) := .lst upd_same (da.set dv j)
        obtain ⟨S3, y⟩ := S2.afterP (F' := F2) (H' := upd H2 p (.lst (vs.set j v))) ho hp (Ext.refl _ _) f2 (fun b o hb => by rw [upd_ne (ne_of_none hb f2)]; exact S2.fh _ _ hb) (fun b o hb => by
          have nb : b ≠ p := fun e => by rw [e, hid_self] at hb; cases hb
          rw [upd_ne nb]
          rw [hid_ne nb] at hb; exact (MT.noT_to hb).1) (MT.tabs_updN S2.tb ha (by intro _ z; cases z) (by intro _ z; cases z)) ro
        exact ⟨p, vs, _, j, rfl, rfl, ha, by rw [da.length]; exact hj, q2 σ F2 _ (Ext.refl _ _) S3⟩
    · exact q2.elim
  · exact q2.elim
/-! ### powers, abs -/
def cPow (i j : Int) : Bool := decide (0 ≤ j) && (decide (j ≤ 1000000) && decide (i.natAbs < 2 ^ 64))
def iPow : D → D → Option D := int2 fun i j => if cPow i j = true then some (.dat (.int (i ^ j.toNat))) else none
theorem ro_pow : RO K (rI CPow fun i j => .int (i ^ j.toNat)) iPow := ro_I (fun i j h => by
  unfold cPow at h
  simp only [Bool.and_eq_true, decide_eq_true_eq] at h
  exact h) fun i j F => .dat (.int _)
def cPowW (i j : Int) : Bool := decide (0 ≤ j) && decide ((Builtin.Int.intBits i : Int) * j ≤ 2 ^ 27)
def iPowW : D → D → Option D := int2 fun i j => if cPowW i j = true then some (.dat (.int (i ^ j.toNat))) else none
theorem ro_powW : RO K (rI CPowW fun i j => .int (i ^ j.toNat)) iPowW := ro_I (fun i j h => by
  unfold cPowW at h
  simp only [Bool.and_eq_true, decide_eq_true_eq] at h
  exact h) fun i j F => .dat (.int _)
def absF : List D → Option D
  | [.dat (.int i)] => some (.dat (.int (if i < 0 then -i else i)))
  | _ => none
theorem rc_abs : RC K (fun xs H Q => ∃ i, xs = [.int i] ∧ Q (.int (if i < 0 then -i else i)) H) absF := fun {F G σ H δ xs ds d Q} S r h q => by
  unfold absF at h
  split at h
  · cases h
    cases r with
    | cons r1 rt => cases rt; cases r1.dd; exact ⟨_, rfl, q _ F H (Ext.refl _ _) S (.dat (.int _))⟩
  · cases h
/-! ### list * int -/
def lRep : D → D → Option D
  | .dat (.list a), .dat (.int k) => if 0 ≤ k ∧ k ≤ 1000 ∧ a.length * k.toNat ≤ most then some (.dat (.list (List.replicate k.toNat a).flatten)) else none
  | _, _ => none
theorem DdAll.rep {vs : List V} {ds : List PyData} (t : DdAll K F vs ds) : ∀ n : Nat, DdAll K F (List.replicate n vs).flatten (List.replicate n ds).flatten
  | 0 => .nil
  | n + 1 => by
    rw [List.replicate_succ, List.replicate_succ, List.flatten_cons, List.flatten_cons]
    exact t.append (DdAll.rep t n)
theorem ro_rep : ROF K rRep lRep := fun {F G σ H δ x y dx dy d Q} S rx ry h q => by
  unfold lRep at h
  split at h
  · split at h
    · rename_i hl
      cases h
      cases ry.dd
      cases rx.dd with
      | lst ha da =>
        refine ⟨_, _, _, rfl, rfl, S.fh _ _ ha, Int.le_trans (by decide) hl.1, Int.lt_of_le_of_lt hl.2.1 (by decide), most_le (by rw [da.length]; exact hl.2.2), fun p np => ?_⟩
        obtain ⟨S2, f, g, n⟩ := S.fresh (o := .lst _) np
        exact q p F _ (Ext.refl _ _) S2 f g (.lst upd_same (da.rep _)) n
    · cases h
  · cases h
end
end DL

namespace DL
open PySem PySem.Spec PyProof.Rows L2 MT PySem.W
/-! ### sorted(list of data) -/
def rSortD (K : PySem.W.Frag) : List V → Hp → VK → Prop := fun xs H Q => ∃ (a : Addr) (vs : List V) (ds : List PyData), xs = [.ref a] ∧ SqL K H a vs ∧ DpAll K H vs ds ∧ AllAlike ds ∧ PySem.W.Sortable ds ∧ (∀ d ∈ ds, d.depth ≤ 60) ∧
  ∀ p, H p = none → Q (.ref p) (upd H p (.lst (((vs.zip ds).mergeSort (dataLe false Prod.snd)).map Prod.fst)))
theorem dpAll_each {X : Cx} {pins : List (Addr × Obj)} {σ : L2.St} {H : Hp} {s : Shared} (I : Inv X pins σ H s) : ∀ {vs : List V} {ds : List PyData} {us : List Value}, DpAll X.K H vs ds → Vals vs us → EachIs (fun u (b : V × PyData) => RelV b.1 u) us (vs.zip ds) ∧ EachIs (fun u (b : V × PyData) => ∃ as, Reads s.heap u b.2 as) us (vs.zip ds) ∧ (vs.zip ds).map Prod.snd = ds ∧ vs.length = ds.length
  | _, _, _, .nil, .nil => ⟨.nil, .nil, rfl, rfl⟩
  | _, _, _, .cons h t, .cons r q => by
    obtain ⟨a, b, c, e⟩ := dpAll_each I t q
    exact ⟨.cons r a, .cons (Dp.reads I _ _ _ h r) b, by simp [c], by simp [e]⟩
theorem each_vals : ∀ {us : List Value} {bs : List (V × PyData)}, EachIs (fun u (b : V × PyData) => RelV b.1 u) us bs → Vals (bs.map Prod.fst) us
  | _, _, .nil => .nil
  | _, _, .cons r t => .cons r (each_vals t)
theorem call_sortD {X : Cx} {k : Nat} (hr : Room k X.A) : CallR X (.builtin "sorted") (rSortD X.K) := by
  intro pins s σ H xs us Q I r h
  obtain ⟨a, vs, ds, rfl, hs, hd, hal, hso, hdp, q⟩ := h
  obtain ⟨its, rv, hl, hz⟩ := I.list hs
  rw [Vals.ref1 r]
  obtain ⟨e1, e2, e3, e4⟩ := dpAll_each I hd rv
  have hlz : (vs.zip ds).length = vs.length := by rw [List.length_zip, e4, Nat.min_self]
  refine sorted_data (enc := Prod.snd) (R := fun u (b : V × PyData) => RelV b.1 u) hl.isList e1 e2 (by rw [e3]; exact hal) (by rw [e3]; exact hso) (by rw [hlz]; exact hz) (fun b hb => ?_) fun out ho eo => ?_
  · have h1 : b.2 ∈ ds := by rw [← e3]; exact List.mem_map.mpr ⟨b, hb, rfl⟩
    have := hdp _ h1
    have := hr.un
    omega
  · obtain ⟨ep, he'⟩ := PyProof.Rows.sortedAll_at s.heap its out.toArray
    have hlen : (((vs.zip ds).mergeSort (dataLe false Prod.snd)).map Prod.fst).length ≤ sizeLine := by
      rw [List.length_map, List.length_mergeSort, hlz]; exact hz
    exact ⟨.ref _, upd H (s.heap.objs.size + 1) (.lst (((vs.zip ds).mergeSort (dataLe false Prod.snd)).map Prod.fst)), I.laid (t' := s.toks) (fun _ _ => PyProof.Rows.sortedAll_old) (Nat.le_succ _) ⟨hlen, out, ep, each_vals eo, he'⟩, rfl, q _ (I.hok.fresh (Nat.le_succ _))⟩
def alikeB (ds : List PyData) : Bool := ds.all fun d => ds.all fun e => alike d e
def sortableB (ds : List PyData) : Bool := (ds.all fun d => match d with | .tuple (_ :: _) => true | _ => false) || ds.all fun d => match d with | .none => false | .tuple _ => false | _ => true
theorem alikeB_ok {ds : List PyData} (h : alikeB ds = true) : AllAlike ds := fun d hd e he => List.all_eq_true.mp (List.all_eq_true.mp h d hd) e he
theorem sortableB_ok {ds : List PyData} (h : sortableB ds = true) : PySem.W.Sortable ds := by
  unfold sortableB at h
  rcases (Bool.or_eq_true _ _).mp h with h | h
  · refine .inl fun d hd => ?_
    have z := List.all_eq_true.mp h d hd
    split at z
    · exact ⟨_, _, rfl⟩
    · cases z
  · refine .inr fun d hd => ?_
    have z := List.all_eq_true.mp h d hd
    split at z
    · cases z
    · cases z
    · rename_i n1 n2
      exact ⟨n1, fun xs e => n2 xs e⟩
def leD : PyData → PyData → Bool := dataLe false id
def sortF : List D → Option D
  | [.dat (.list ds)] => if (alikeB ds && (sortableB ds && (SeqAt.shaped (.list ds) && ds.all fun d => decide (d.depth ≤ 60)))) = true then some (.dat (.list (ds.mergeSort leD))) else none
  | _ => none
section
variable {K : PySem.W.Frag} {E : XK} {F F' : Hp} {G : Gd} {σ : L2.St} {H H' : Hp} {δ : Env}
theorem zip_all {vs : List V} {ds : List PyData} (t : DdAll K F vs ds) : ∀ b ∈ vs.zip ds, Dd K F b.1 b.2 := by
  induction vs generalizing ds with
  | nil => intro b hb; simp at hb
  | cons v vs ih =>
    cases t with
    | cons h t =>
      intro b hb
      rcases List.mem_cons.mp hb with rfl | hb
      · exact h
      · exact ih t b hb
theorem all_ddAll : ∀ {bs : List (V × PyData)}, (∀ b ∈ bs, Dd K F b.1 b.2) → DdAll K F (bs.map Prod.fst) (bs.map Prod.snd)
  | [], _ => .nil
  | b :: bs, h => .cons (h b (.head _)) (all_ddAll fun c hc => h c (.tail _ hc))
theorem rc_sort : RCF K (rSortD K) sortF := fun {F G σ H δ xs ds d Q} S r h q => by
  unfold sortF at h
  split at h
  · rename_i ds
    split at h
    · rename_i hc
      cases h
      simp only [Bool.and_eq_true] at hc
      obtain ⟨h1, h2, h3, h4⟩ := hc
      cases r with
      | cons r1 rt =>
        cases rt
        cases r1.dd with
        | @lst _ vs _ ha da =>
          have e3 : ((vs.zip ds).mergeSort (dataLe false Prod.snd)).map Prod.snd = ds.mergeSort leD := by
            have e0 : (dataLe false Prod.snd : V × PyData → V × PyData → Bool) = fun a b => leD a.2 b.2 := rfl
            rw [e0, List.map_mergeSort (s := leD) (f := Prod.snd) (fun a _ b _ => rfl), List.map_snd_zip (Nat.le_of_eq da.length.symm)]
          refine ⟨_, _, ds, rfl, SqL.of (S.fh _ _ ha), ?_, alikeB_ok h1, sortableB_ok h2, fun d hd => of_decide_eq_true (List.all_eq_true.mp h4 d hd), fun p np => ?_⟩
          · exact (da.same S.fh).dp (by simpa [PyData.canLay0] using shaped_lay h3)
          · obtain ⟨S4, f, g, n⟩ := S.fresh (o := .lst (((vs.zip ds).mergeSort (dataLe false Prod.snd)).map Prod.fst)) np
            refine q p F _ (Ext.refl _ _) S4 f g (.lst upd_same ?_) n
            rw [← e3]
            exact all_ddAll fun b hb => zip_all da b (List.mem_mergeSort.mp hb)
    · cases h
  · cases h
end
end DL

namespace DL
open PySem PySem.Spec PyProof.Rows L2 MT PySem.W
/-! ### t[::-1], text[::-1], xs[::-1] -/
theorem rev_pick {α : Type} (l : List α) : ((List.range l.length).map fun k => l.length - 1 - k).filterMap (l[·]?) = l.reverse := by
  rw [List.filterMap_map]
  apply List.ext_getElem?
  intro i
  have e : (List.range l.length).filterMap ((l[·]?) ∘ fun k => l.length - 1 - k) = (List.range l.length).pmap (fun k (h : k < l.length) => l[l.length - 1 - k]'(by omega)) (fun k hk => List.mem_range.mp hk) := by
    have gen : ∀ (ks : List Nat) (h : ∀ k ∈ ks, k < l.length), ks.filterMap ((l[·]?) ∘ fun k => l.length - 1 - k) = ks.pmap (fun k (h : k < l.length) => l[l.length - 1 - k]'(by omega)) h := by
      intro ks
      induction ks with
      | nil => intro h; rfl
      | cons k ks ih =>
        intro h
        have hk := h k (.head _)
        rw [List.filterMap_cons, List.pmap_cons]
        have : ((l[·]?) ∘ fun k => l.length - 1 - k) k = some (l[l.length - 1 - k]'(by omega)) := by
          show l[l.length - 1 - k]? = _
          exact List.getElem?_eq_getElem (by omega)
        rw [this]
        exact congrArg (_ :: ·) (ih fun z hz => h z (.tail _ hz))
    exact gen _ _
  rw [e]
  by_cases hi : i < l.length
  · rw [List.getElem?_eq_getElem (by simpa using hi), List.getElem?_eq_getElem (by simpa using hi), List.getElem_pmap, List.getElem_reverse]
    simp
  · rw [List.getElem?_eq_none (by simpa using hi), List.getElem?_eq_none (by simpa using hi)]
section
variable {prog : Program} {w : World} {A : Around} {E : Value → Shared → Prop} {s : Shared}
open HT
theorem rev_adjust (n : Nat) : Builtin.Slice.sliceAdjust none none (-1) (n : Int) = ((n : Int) - 1, -1) := by
  unfold Builtin.Slice.sliceAdjust
  simp
theorem rev_places (n : Nat) : Builtin.Slice.slicePlaces ((n : Int) - 1) (-1) (-1) = n := by
  unfold Builtin.Slice.slicePlaces
  have h1 : ¬ ((-1 : Int) > 0) := by omega
  simp only [h1, if_false]
  split
  · have : (-(-1) : Int) = 1 := by omega
    rw [this, Int.ediv_one]; omega
  · omega
theorem sliceApplied_rev {sl : Addr} {vl vu vs : Value} {n : Nat} {Q : Int × Int × Nat → Shared → Prop} (hs : s.heap.IsSliceOf sl vl vu vs) (pl : IsPart vl none) (pu : IsPart vu none) (ps : IsPart vs (some (-1)))
    (h : Q (((n : Int) - 1), -1, n) s) : wpAny (model prog w) A (Builtin.Slice.sliceApplied (.ref sl) (pure (n : Int))) Q E s := by
  obtain ⟨os, hos, hcs, hds⟩ := id hs
  unfold Builtin.Slice.sliceApplied Builtin.Slice.sliceFields
  refine wpAny_bind (wpAny_bind (wpAny_field hos hds (x := vl) rfl (wpAny_bind (wpAny_field hos hds (x := vu) rfl (wpAny_bind (wpAny_field hos hds (x := vs) rfl (wpAny_pure ?_)))))))
  refine wpAny_bind (slicePart_ ps ?_)
  show wpAny _ _ (if ((-1 : Int) == 0) = true then _ else _) _ _ s
  rw [if_neg (by decide)]
  refine wpAny_bind (slicePart_ pl (wpAny_bind (slicePart_ pu (wpAny_bind (wpAny_pure ?_)))))
  show wpAny _ _ (match Builtin.Slice.sliceAdjust none none (-1) (n : Int) with | (lo, hi) => pure (lo, (-1 : Int), Builtin.Slice.slicePlaces lo hi (-1))) _ _ s
  rw [rev_adjust n]
  show wpAny _ _ (pure (((n : Int) - 1), (-1 : Int), Builtin.Slice.slicePlaces ((n : Int) - 1) (-1) (-1))) _ _ s
  rw [rev_places]
  exact wpAny_pure h
theorem getItem_tuple_rev {t sl : Addr} {items : Array Value} {vl vu vs : Value} {Q : Value → Shared → Prop} (ht : IsTup s.heap t items) (hs : s.heap.IsSliceOf sl vl vu vs) (pl : IsPart vl none) (pu : IsPart vu none) (ps : IsPart vs (some (-1)))
    (h : Q (.ref s.heap.objs.size) { s with heap := s.heap.push { cls := .type "tuple", data := .seq items.toList.reverse.toArray } })
    (hsz : items.size ≤ sizeLine) : wpAny (model prog w) A (getItem (.ref t) (.ref sl)) Q E s := by
  have htake : sizeOk (.seq items.toList.reverse.toArray) := by
    show items.toList.reverse.toArray.size ≤ sizeLine
    rw [List.size_toArray, List.length_reverse, Array.length_toList]
    exact hsz
  obtain ⟨os, hos, hcs, hds⟩ := id hs
  have hTs : s.TypeIs (.ref sl) "slice" := ⟨os, hos, hcs⟩
  unfold getItem
  try with_reducible refine wpAny_holding ?_
  first | refine wpAny_bind (wpAny_pure ?_) | skip
  refine wpAny_bind (wpAny_sequenceKey ht.typeIs (by decide) ?_)
  refine wpAny_bind (wpAny_callSpecial?_slot (name := Str.ofString "__getitem__") ht.typeIs PyProof.Rows.slot_tuple_getitem
    (wpAny_call_entry PyProof.Rows.slot_tuple_getitem ht.typeIs entry_tuple_getitem ?_ (args_tuple_getitem _ _)))
  show wpAny _ _ (Builtin.Tuple.tupleItemsOf (.ref t) >>= _) _ _ s
  refine wpAny_bind (tupleItemsOf_ ht ?_)
  refine wpAny_bind (wpAny_typeOf hTs ?_)
  rw [if_pos (by decide)]
  refine wpAny_bind (sliceApplied_rev hs pl pu ps ?_)
  have hno : ¬ ((((items.size : Int) - 1) == 0 && (-1 : Int) == 1 && items.size == items.size) = true) := by
    intro q
    rw [Bool.and_eq_true, Bool.and_eq_true] at q
    exact absurd q.1.2 (by decide)
  show wpAny _ _ (if (((items.size : Int) - 1) == 0 && (-1 : Int) == 1 && items.size == items.size) = true then _ else _) _ _ s
  have pick : ((List.range items.size).filterMap fun (k : Nat) => items[(((items.size : Int) - 1) + (k : Int) * (-1)).toNat]?).toArray = items.toList.reverse.toArray := by
    have e : (fun (m : Nat) => items[(((items.size : Int) - 1) + (m : Int) * (-1)).toNat]?) = ((items.toList[·]?) ∘ fun k => items.toList.length - 1 - k) := by
      funext m
      have : (((items.size : Int) - 1) + (m : Int) * (-1)).toNat = items.toList.length - 1 - m := by rw [Array.length_toList]; omega
      rw [this]
      show items[items.toList.length - 1 - m]? = items.toList[items.toList.length - 1 - m]?
      rw [Array.getElem?_toList]
    rw [e, ← rev_pick items.toList, List.filterMap_map, Array.length_toList]
  rw [if_neg hno, pick]
  first
    | exact wpAny_bind (m := Builtin.Tuple.tupleExact _) (wpAny_newObj_type (wpAny_pure ⟨_, rfl, wpAny_pure h⟩) htake)
    | exact wpAny_bind (m := Builtin.Tuple.tupleExact _) (wpAny_newObj_type (wpAny_bind (wpAny_pure (wpAny_pure ⟨_, rfl, wpAny_pure h⟩))) htake)
    | exact wpAny_bind (wpAny_bind (m := Builtin.Tuple.tupleExact _) (wpAny_newObj_type (wpAny_pure (wpAny_pure ⟨_, rfl, wpAny_pure h⟩)) htake))
    | exact wpAny_bind (wpAny_bind (m := Builtin.Tuple.tupleExact _) (wpAny_newObj_type (wpAny_pure ⟨_, rfl, wpAny_pure h⟩) htake))
end
def revS (x : Str) : Str := ⟨x.cps.toList.reverse.toArray⟩
section
variable {X : Cx}
/-- what [::-1] makes: of a tuple, a text, a list -/
def rRev (K : PySem.W.Frag) : V → Hp → VK → Prop := fun x H Q =>
  (∃ a xs, x = .ref a ∧ SqT K H a xs ∧ ∀ p (o : Obj), H p = none → o.dict = none → Q (.ref p) (upd H p (.frz o (.tup xs.reverse)))) ∨
  (∃ z, x = .str z ∧ z.length ≤ sizeLine ∧ Q (.str (revS z)) H) ∨
  (∃ a xs, x = .ref a ∧ SqL K H a xs ∧ ∀ p, H p = none → Q (.ref p) (upd H p (.lst xs.reverse)))
def tRev (K : PySem.W.Frag) (te : TE) : TE := fun σ H Q => te σ H fun x H1 => rRev K x H1 Q
theorem pe_rev {e : Expr} {te : TE} {k : Nat} {p1 p2 p3 pos : Pos} (he : PE X e te) : PE X (.Subscript e (.Slice none none (some (.UnaryOp .USub (.Constant (.int 1) k p1) p2)) p3) pos) (tRev X.K te) := by
  refine ⟨fun pins s σ H Q I h => ?_⟩
  refine Subscript_ (thn (he.run pins s σ H _ I h) fun v s1 ⟨x, H1, I1, r1, q1⟩ => ?_)
  have hst : PO X (some (.UnaryOp .USub (.Constant (.int 1) k p1) p2)) (tPart (tUn (rU fun i => .int (-i)) (tC (.int 1)))) := po_some (pe_un un_neg pe_int)
  refine wpAny_Slice (thn (po_none.run pins s1 σ H1 (fun o H2 => o = none ∧ H2 = H1) I1 ⟨rfl, rfl⟩) fun vl s2 ⟨l, H2, I2, pl, el, e2⟩ => ?_)
  subst el e2
  refine thn (po_none.run pins s2 σ H2 (fun o H3 => o = none ∧ H3 = H2) I2 ⟨rfl, rfl⟩) fun vu s3 ⟨u, H3, I3, pu, eu, e3⟩ => ?_
  subst eu e3
  refine thn (hst.run pins s3 σ H3 (fun o H4 => o = some (-1) ∧ H4 = H3) I3 ⟨1, rfl, -1, rfl, rfl, rfl⟩) fun vs s4 ⟨o, H4, I4, ps, eo, e4⟩ => ?_
  subst eo e4
  have I5 : Inv X pins σ H4 { s4 with heap := s4.heap.push { cls := .type "slice", data := .fields #[vl, vu, vs] } } := I4.kept (t' := s4.toks) fun b ob q => Heap.get?_push_of_some _ q
  show wpAny (model X.prog X.w) X.A (subscriptTail e (.Slice none none (some (.UnaryOp .USub (.Constant (.int 1) k p1) p2)) p3) v (.ref s4.heap.objs.size)) (EP X pins σ Q) X.xe { s4 with heap := s4.heap.push { cls := .type "slice", data := .fields #[vl, vu, vs] } }
  rcases q1 with ⟨a, xs, ex, hx, q⟩ | ⟨z, ex, hz, q⟩ | ⟨a, xs, ex, hx, q⟩
  · subst ex
    cases r1
    obtain ⟨its, r, ht, hz⟩ := I5.tuple hx
    refine tail_any (ops := [.ref a, .ref s4.heap.objs.size]) ht.typeIs (PyProof.Rows.slot_tuple_getitem.lookup) ?_ (by with_unfolding_all rfl)
    refine getItem_tuple_rev ht (Heap.IsSliceOf.new _ vl vu vs) pl pu ps ?_ (by rw [List.size_toArray, ← r.length]; exact hz)
    obtain ⟨hf, J⟩ := lock_tup I5 (xs := xs.reverse) (its := its.reverse) r.reverse (by rw [List.length_reverse]; exact hz)
    exact ⟨.ref _, _, J, rfl, q _ _ hf rfl⟩
  · subst ex
    obtain ⟨t, rfl⟩ := r1
    refine tail_any (ops := [.str z t, .ref s4.heap.objs.size]) (typeIs_str _ _ _) (F.slot_str_getitem.lookup) ?_ (by with_unfolding_all rfl)
    obtain ⟨l, rfl, hl⟩ := IsPart.raw pl
    obtain ⟨u, rfl, hu⟩ := IsPart.raw pu
    obtain ⟨c, rfl, hc⟩ := IsPart.raw ps
    refine wpAny_getItem_str_slice (l := l) (u := u) (st := c) ⟨_, Heap.get?_push_size _ rfl, rfl, rfl⟩ (by rw [hc]; rfl) ?_
    have hp : slicePicked z l u c = (List.range z.length).map fun k => z.length - 1 - k := by
      show Builtin.Str.strSliceIndices (l.map (·.1)) (u.map (·.1)) ((c.map (·.1)).getD 1) z.length = _
      rw [hl, hu, hc]
      show sliceRange ((z.length : Int) - 1) (-1) (-1) = _
      exact krv_sliceRange z.length
    have hr : (⟨((slicePicked z l u c).filterMap (z.cps[·]?)).toArray⟩ : Str) = revS z := by
      rw [hp]
      have := rev_pick z.cps.toList
      rw [Array.length_toList] at this
      have e : (fun x : Nat => z.cps[x]?) = fun x : Nat => z.cps.toList[x]? := by funext m; rw [Array.getElem?_toList]
      show (⟨(((List.range z.cps.size).map fun k => z.cps.size - 1 - k).filterMap (z.cps[·]?)).toArray⟩ : Str) = _
      rw [e, this]; rfl
    have hn : ¬ (((c.map (·.1)).getD 1 == 1 && (slicePicked z l u c).length == z.length) = true) := by
      rw [hc]; simp
    unfold sliceMade
    rw [if_neg hn, hr]
    exact ⟨by show z.cps.toList.reverse.toArray.size ≤ sizeLine; rw [List.size_toArray, List.length_reverse, Array.length_toList]; exact hz, .str _, H4, I5.tok _, ⟨_, rfl⟩, q⟩
  · subst ex
    cases r1
    obtain ⟨its, r, ht, hz⟩ := I5.list hx
    have hlen := r.length
    refine tail_any (ops := [.ref a, .ref s4.heap.objs.size]) ht.isList.typeIs (PySem.slot_list_getitem.lookup) ?_ (by with_unfolding_all rfl)
    refine wpAny_getItem_list_slice ht.isList (Heap.IsSliceOf.new _ vl vu vs) pl pu ps (by decide) ?_ (by rw [List.size_toArray]; omega)
    rw [PySem.W.krv_pick]
    refine ⟨.ref _, _, I5.laid (t' := s4.toks) (o := .lst xs.reverse) (fun b ob q => Heap.get?_push_of_some _ q) (Nat.le_refl _) ?_, rfl, q _ (I5.hok.fresh (Nat.le_refl _))⟩
    exact ⟨by rw [List.length_reverse]; exact hz, _, 0, r.reverse, Heap.get?_push_size _ rfl⟩
end
section
variable {K : PySem.W.Frag} {E : XK} {F F' : Hp} {G : Gd} {σ : L2.St} {H H' : Hp} {δ : Env}
theorem DdAll.snoc {vs : List V} {ds : List PyData} {v : V} {d : PyData} (t : DdAll K F vs ds) (h : Dd K F v d) : DdAll K F (vs ++ [v]) (ds ++ [d]) := t.append (.cons h .nil)
theorem DdAll.reverse : ∀ {vs : List V} {ds : List PyData}, DdAll K F vs ds → DdAll K F vs.reverse ds.reverse
  | _, _, .nil => .nil
  | _, _, .cons h t => by rw [List.reverse_cons, List.reverse_cons]; exact t.reverse.snoc h
def revF : D → Option D
  | .dat (.tuple ds) => some (.dat (.tuple ds.reverse))
  | .dat (.str z) => if z.length ≤ most then some (.dat (.str (revS z))) else none
  | .dat (.list ds) => some (.dat (.list ds.reverse))
  | _ => none
theorem md_rev {m : M D} : ∀ σ H Q, tD K E (mUn revF m) σ H Q → tRev K (tD K E m) σ H Q := by
  rintro σ H Q ⟨F, G, δ, S, h⟩
  refine ⟨F, G, δ, S, h.bind.imp fun x δ1 F1 H1 e1 S1 q v rv => ?_⟩
  obtain ⟨d, hd, q3⟩ := q.of
  unfold revF at hd
  split at hd
  · cases hd
    cases rv.dd with
    | tup ha da =>
      refine .inl ⟨_, _, rfl, Same.tup S1.fh ha.sq, fun p o np nd => ?_⟩
      obtain ⟨S4, x⟩ := S1.newF (o := .frz o (.tup _)) np
      exact q3 _ _ x S4 _ (.dat (.tup (.inl ⟨o, upd_same, nd⟩) (da.reverse.same x.same)))
  · split at hd
    · rename_i hz
      cases hd
      cases rv.dd
      exact .inr (.inl ⟨_, rfl, most_le hz, q3 F1 H1 (Ext.refl _ _) S1 _ (.dat (.str _))⟩)
    · cases hd
  · cases hd
    cases rv.dd with
    | lst ha da =>
      refine .inr (.inr ⟨_, _, rfl, SqL.of (S1.fh _ _ ha), fun p np => ?_⟩)
      obtain ⟨S4, x⟩ := S1.newF (o := .lst _) np
      exact q3 _ _ x S4 _ (.dat (.lst upd_same (da.reverse.same x.same)))
  · cases hd
end
end DL

namespace DL
open PySem PySem.Spec PyProof.Rows L2 MT
section
variable {K : PySem.W.Frag} {E : XK} {F F' : Hp} {G : Gd} {σ : L2.St} {H H' : Hp} {δ : Env}
/-! ### dicts: look-ups -/
def keyP : PyData → Option Key
  | .int i => some (.inl i)
  | .str x => some (.inr x)
  | _ => none
def isKey : PyData → Key → Bool
  | .int i, .inl j => decide (i = j)
  | .str x, .inr y => decide (x = y)
  | _, _ => false
theorem isKey_keyD (k k' : Key) : isKey (keyD k) k' = decide (k = k') := by
  cases k with
  | inl i => cases k' with
    | inl j => by_cases h : i = j <;> simp [isKey, keyD, h]
    | inr j => simp [isKey, keyD]
  | inr i => cases k' with
    | inl j => simp [isKey, keyD]
    | inr j => by_cases h : i = j <;> simp [isKey, keyD, h]
theorem keyP_eq {d : PyData} {k : Key} (h : keyP d = some k) : d = keyD k := by
  unfold keyP at h
  split at h
  · cases h; rfl
  · cases h; rfl
  · cases h
theorem Dd.key {v : V} {k : Key} (h : Dd K F v (keyD k)) : v = kV k := by
  cases k with
  | inl i => cases h; rfl
  | inr i => cases h; rfl
def lookD (kvs : List (PyData × PyData)) (k : Key) : Option PyData := (kvs.find? fun kv => isKey kv.1 k).map (·.2)
theorem lookD_rel {k : Key} : ∀ {kvs : List (Key × V)} {ds : List PyData}, DdAll K F (kvs.map (·.2)) ds → (lookD ((kvs.map fun kv => keyD kv.1).zip ds) k = none → valV kvs k = none) ∧ ∀ d, lookD ((kvs.map fun kv => keyD kv.1).zip ds) k = some d → ∃ v, valV kvs k = some v ∧ Dd K F v d
  | [], _, _ => ⟨fun _ => rfl, fun d h => by simp [lookD] at h⟩
  | kv :: kvs, _, t => by
    cases t with
    | cons h t =>
      rename_i d0 ds
      have ih := lookD_rel (k := k) t
      have e : lookD (((kv :: kvs).map fun kv => keyD kv.1).zip (d0 :: ds)) k = if kv.1 = k then some d0 else lookD ((kvs.map fun kv => keyD kv.1).zip ds) k := by
        unfold lookD
        rw [List.map_cons, List.zip_cons_cons, List.find?_cons]
        simp only [isKey_keyD]
        by_cases hk : kv.1 = k <;> simp [hk]
      by_cases hk : kv.1 = k
      · rw [e, if_pos hk, valV_pos hk]
        exact ⟨fun z => (by cases z), fun d z => (by cases z; exact ⟨_, rfl, h⟩)⟩
      · rw [e, if_neg hk, valV_neg hk]
        exact ih
def dGet : D → D → Option D
  | .dat (.dict kvs), .dat k => (keyP k).bind fun k => (lookD kvs k).map .dat
  | _, _ => none
theorem md_dget {ma mb : M D} : ∀ σ H Q, tD K E (mOp dGet ma mb) σ H Q → tDGet (tD K E ma) (tD K E mb) σ H Q := by
  rintro σ H Q ⟨F, G, δ, S, h⟩
  refine ⟨F, G, δ, S, h.bind.imp fun x δ1 F1 H1 e1 S1 q v rv => ⟨F1, G, δ1, S1, q.bind.imp fun y δ2 F2 H2 e2 S2 q2 w rw => ?_⟩⟩
  obtain ⟨d, hd, q3⟩ := q2.of
  unfold dGet at hd
  split at hd
  · rename_i kvs k
    cases hk : keyP k with
    | none => rw [hk] at hd; cases hd
    | some k' =>
      rw [hk] at hd
      have hd : (lookD kvs k').map D.dat = some d := hd
      obtain ⟨d', hd', rfl⟩ := map_eq hd
      have ek := keyP_eq hk
      subst ek
      have ew := rw.dd.key
      subst ew
      cases (rv.same e2.same).dd with
      | dict ha da =>
        obtain ⟨v, hv, rd⟩ := (lookD_rel (k := k') da).2 _ hd'
        refine ⟨_, v, rfl, ?_, q3 F2 H2 (Ext.refl _ _) S2 v (.dat rd)⟩
        rw [← hv]
        exact DGet.k (S2.fh _ _ ha)
  · cases hd
/-- d.get((a, b), e) of a dict with tuples as keys -/
def keysP : List PyData → Option (List Key)
  | [] => some []
  | d :: ds => (keyP d).bind fun k => (keysP ds).map (k :: ·)
theorem keysP_rel : ∀ {ds : List PyData} {ks : List Key} {vs : List V}, keysP ds = some ks → DdAll K F vs ds → vs = ks.map kV
  | [], _, _, h, .nil => by cases h; rfl
  | d :: ds, ks, _, h, .cons a t => by
    unfold keysP at h
    cases hk : keyP d with
    | none => rw [hk] at h; cases h
    | some k =>
      rw [hk] at h
      have h : (keysP ds).map (k :: ·) = some ks := h
      obtain ⟨r, hr, rfl⟩ := map_eq h
      have e := keyP_eq hk
      subst e
      rw [List.map_cons, a.key, keysP_rel hr t]
def lookT (kvs : List (List Key × PyData)) (k : List Key) : Option PyData := (kvs.find? fun kv => decide (kv.1 = k)).map (·.2)
theorem lookT_rel {k : List Key} : ∀ {kvs : List (List Key × V)} {ds : List PyData}, DdAll K F (kvs.map (·.2)) ds → (lookT ((kvs.map (·.1)).zip ds) k = none → valV kvs k = none) ∧ ∀ d, lookT ((kvs.map (·.1)).zip ds) k = some d → ∃ v, valV kvs k = some v ∧ Dd K F v d
  | [], _, _ => ⟨fun _ => rfl, fun d h => by simp [lookT] at h⟩
  | kv :: kvs, _, t => by
    cases t with
    | cons h t =>
      rename_i d0 ds
      have ih := lookT_rel (k := k) t
      have e : lookT (((kv :: kvs).map (·.1)).zip (d0 :: ds)) k = if kv.1 = k then some d0 else lookT ((kvs.map (·.1)).zip ds) k := by
        unfold lookT
        rw [List.map_cons, List.zip_cons_cons, List.find?_cons]
        by_cases hk : kv.1 = k <;> simp [hk]
      by_cases hk : kv.1 = k
      · rw [e, if_pos hk, valV_pos hk]
        exact ⟨fun z => (by cases z), fun d z => (by cases z; exact ⟨_, rfl, h⟩)⟩
      · rw [e, if_neg hk, valV_neg hk]
        exact ih
def getT (kvs : List (List Key × PyData)) (ds : List D) (z : D) : Option D := (small most (datAll ds)).bind fun ps => (keysP ps).bind fun k => match lookT kvs k with
  | some d => some (.dat d)
  | none => some z
def mGetT (md : M D) (ma : M (List D)) (mx : M D) : M D := fun δ => (md δ).bind fun x δ1 => match x with
  | .dit kvs => (ma δ1).bind fun ds δ2 => (mOf (small most (datAll ds)) δ2).bind fun _ δ3 => (mx δ3).bind fun z δ4 => mOf (getT kvs ds z) δ4
  | _ => .stuck
theorem md_getT {md mx : M D} {ma : M (List D)} : ∀ σ H Q, tD K E (mGetT md ma mx) σ H Q → tDGet2 (tD K E md) (tTup (tDs K E ma)) (tD K E mx) σ H Q := by
  rintro σ H Q ⟨F, G, δ, S, h⟩
  refine ⟨F, G, δ, S, h.bind.imp fun x δ1 F1 H1 e1 S1 q v rv => ?_⟩
  split at q
  · rename_i kvs
    cases rv with
    | @dit a kvs0 ds0 ha da =>
      refine ⟨a, rfl, .inr ⟨_, .inl (S1.fh _ _ ha)⟩, F1, G, δ1, S1, q.bind.imp fun ds δ2 F2 H2 e2 S2 q2 vs rvs => ?_⟩
      obtain ⟨ps, hps, q2⟩ := q2.bind.of
      obtain ⟨hps1, hps2⟩ := small_eq hps
      have dvs := datAll_rl hps1 rvs
      refine ⟨by rw [dvs.length]; exact most_le hps2, fun p np => ?_⟩
      have S3 := S2.new (o := .tup vs) np
      obtain ⟨f, g⟩ := S2.gf np
      have hn : ∀ i, ¬ OwnAt σ δ2 i p := fun i hi => by
        obtain ⟨_, _, o, ho⟩ := S2.ownAt hi
        rw [np] at ho; cases ho
      have q2 := q2 F2 H2 (Ext.refl _ _) S2
      refine ⟨F2, G.add p (.tup vs), δ2, S3.guard upd_same g hn, (Post.guard f g q2.bind).imp fun z δ3 F3 H3 e3 S4 q3 w rw => ?_⟩
      obtain ⟨⟨f3, h3, _⟩, q3⟩ := q3
      obtain ⟨S5, hn3⟩ := S4.unguard g
      obtain ⟨d, hd, q4⟩ := q3.of
      unfold getT at hd
      rw [hps] at hd
      have hd : ((keysP ps).bind fun k => match lookT ((kvs0.map (·.1)).zip ds0) k with | some d => some (.dat d) | none => some z) = some d := hd
      cases hk : keysP ps with
      | none => rw [hk] at hd; cases hd
      | some k =>
        rw [hk] at hd
        have hd : (match lookT ((kvs0.map (·.1)).zip ds0) k with | some d => some (.dat d) | none => some z) = some d := hd
        have ev := keysP_rel hk dvs
        have hdt : H3 a = some (.dT kvs0) := S5.fh _ _ (e3.same _ _ (e2.same _ _ ha))
        obtain ⟨l1, l2⟩ := lookT_rel (k := k) (da.same (e2.same.trans e3.same))
        cases hl : lookT ((kvs0.map (·.1)).zip ds0) k with
        | none =>
          rw [hl] at hd
          cases hd
          refine ⟨none, ?_, q4 F3 H3 (Ext.refl _ _) S5 w rw⟩
          rw [← l1 hl]
          exact DGet.t hdt (by rw [h3, ev])
        | some d' =>
          rw [hl] at hd
          cases hd
          obtain ⟨v, hv, rd⟩ := l2 _ hl
          refine ⟨some v, ?_, q4 F3 H3 (Ext.refl _ _) S5 v (.dat rd)⟩
          rw [← hv]
          exact DGet.t hdt (by rw [h3, ev])
  · exact q.elim
/-! ### {"a": .., "b": ..} -/
def mPairs : List (Str × M D) → M (List PyData)
  | [] => mOk []
  | (_, m) :: r => fun δ => (m δ).bind fun x δ1 => (mOf (asDat x) δ1).bind fun d δ2 => (mPairs r δ2).bind fun ds δ3 => .ok (d :: ds) δ3
def trsOf (K : PySem.W.Frag) (E : XK) (ps : List (Str × M D)) : List (TE × TE) := ps.map fun p => (tC (.str p.1), tD K E p.2)
def tPs (K : PySem.W.Frag) (E : XK) (ps : List (Str × M D)) : L2.St → Hp → (List (V × V) → Hp → Prop) → Prop := fun σ H Q => ∃ F G δ, SR K F G σ H δ ∧ Post K E F G σ (mPairs ps δ) fun ds _ F' H' => ∀ vs, DdAll K F' vs ds → Q ((ps.map fun p => V.str p.1).zip vs) H'
theorem md_pairs : ∀ {ps : List (Str × M D)} {σ : L2.St} {H : Hp} {Q : List (V × V) → Hp → Prop}, tPs K E ps σ H Q → tPairs (trsOf K E ps) σ H Q
  | [], σ, H, Q, ⟨F, G, δ, S, h⟩ => h F H (Ext.refl _ _) S [] .nil
  | (k, m) :: ps, σ, H, Q, ⟨F, G, δ, S, h⟩ => by
    refine ⟨F, G, δ, S, h.bind.imp fun x δ1 F1 H1 e1 S1 q v rv => ?_⟩
    obtain ⟨d, hd, q'⟩ := q.bind.of
    have e := asDat_eq hd
    subst e
    refine md_pairs ⟨F1, G, δ1, S1, (q' F1 H1 (Ext.refl _ _) S1).bind.imp fun ds δ2 F2 H2 e2 S2 q2 vs rvs => ?_⟩
    exact q2 F2 H2 (Ext.refl _ _) S2 (v :: vs) (.cons (rv.dd.same e2.same) rvs)
theorem mPairs_len : ∀ {ps : List (Str × M D)} {δ δ' : Env} {ds : List PyData}, mPairs ps δ = .ok ds δ' → ds.length = ps.length
  | [], _, _, _, h => by cases h; rfl
  | (k, m) :: ps, δ, δ', ds, h => by
    unfold mPairs at h
    cases h1 : m δ with
    | ok x δ1 =>
      rw [h1] at h
      have h : ((mOf (asDat x) δ1).bind fun d δ2 => (mPairs ps δ2).bind fun ds δ3 => .ok (d :: ds) δ3) = .ok ds δ' := h
      cases h2 : asDat x with
      | none => rw [h2] at h; cases h
      | some d =>
        rw [h2] at h
        have h : ((mPairs ps δ1).bind fun ds δ3 => .ok (d :: ds) δ3) = .ok ds δ' := h
        cases h3 : mPairs ps δ1 with
        | ok es δ2 => rw [h3] at h; cases h; simp [mPairs_len h3]
        | err _ _ _ => rw [h3] at h; cases h
        | stuck => rw [h3] at h; cases h
    | err _ _ _ => rw [h1] at h; cases h
    | stuck => rw [h1] at h; cases h
theorem putK_new {kvs : List (Key × V)} {k : Key} {v : V} (h : k ∉ kvs.map (·.1)) : putK kvs k v = kvs ++ [(k, v)] := by
  unfold putK
  rw [if_neg]
  intro z
  obtain ⟨kv, hm, e⟩ := List.any_eq_true.mp z
  exact h (List.mem_map.mpr ⟨kv, hm, of_decide_eq_true e⟩)
theorem mergeK_nodup : ∀ {more kvs : List (Key × V)}, ((kvs ++ more).map (·.1)).Nodup → mergeK kvs more = kvs ++ more
  | [], kvs, _ => by simp [mergeK]
  | p :: more, kvs, h => by
    have h1 : p.1 ∉ kvs.map (·.1) := by
      rw [List.map_append, List.map_cons, List.nodup_append] at h
      exact fun z => h.2.2 _ z _ (.head _) rfl
    have e : mergeK kvs (p :: more) = mergeK (kvs ++ [(p.1, p.2)]) more := by
      show mergeK (putK kvs p.1 p.2) more = _
      rw [putK_new h1]
    rw [e, mergeK_nodup (by simpa using h)]
    simp
def mDisp (ps : List (Str × M D)) : M D := fun δ => if (ps.map (·.1)).Nodup ∧ ps.length ≤ 15 then (mPairs ps δ).bind fun ds δ1 => .ok (.dat (.dict ((ps.map fun p => PyData.str p.1).zip ds))) δ1 else .stuck
theorem md_disp {ps : List (Str × M D)} : ∀ σ H Q, tFr K E (mDisp ps) σ H Q → tDisp (trsOf K E ps) σ H Q := by
  rintro σ H Q ⟨F, G, δ, S, h⟩ p np
  unfold mDisp at h
  split at h
  · rename_i hp
    obtain ⟨nd, l15⟩ := hp
    have S1 := S.new (o := .dK []) np
    obtain ⟨f, g⟩ := S.gf np
    have hn : ∀ i, ¬ OwnAt σ δ i p := fun i hi => by
      obtain ⟨_, _, o, ho⟩ := S.ownAt hi
      rw [np] at ho; cases ho
    have hb := h.bind
    cases hm : mPairs ps δ with
    | stuck => rw [hm] at hb; exact hb.elim
    | err c d δ' =>
      rw [hm] at hb
      refine md_pairs ⟨F, G.add p (.dK []), δ, S1.guard upd_same g hn, ?_⟩
      rw [hm]
      exact fun dx v F2 H2 e2 S2 => hb dx v F2 H2 (e2.unguard g) (S2.unguard g).1
    | ok ds δ' =>
      have hl := mPairs_len hm
      rw [hm] at hb
      refine md_pairs ⟨F, G.add p (.dK []), δ, S1.guard upd_same g hn, ?_⟩
      rw [hm]
      intro F2 H2 e2 S2 vs rvs
      have hlv : vs.length = ps.length := rvs.length.trans hl
      have q := hb F2 H2 (e2.unguard g) (S2.unguard g).1
      have f2 : F2 p = none := (e2.off p (by rw [add_same]; simp)).trans f
      refine ⟨S2.gh p _ add_same, (ps.map fun p => (Sum.inr p.1 : Key)).zip vs, ?_, ?_, ?_⟩
      · rw [List.zip_map_left, List.zip_map_left, List.map_map]
        rfl
      · rw [List.length_zip, List.length_map]; omega
      · have ek : ((ps.map fun p => (Sum.inr p.1 : Key)).zip vs).map (·.1) = ps.map fun p => (Sum.inr p.1 : Key) := List.map_fst_zip (by simp [hlv])
        have ev : ((ps.map fun p => (Sum.inr p.1 : Key)).zip vs).map (·.2) = vs := List.map_snd_zip (by simp [hlv])
        have em : mergeK [] ((ps.map fun p => (Sum.inr p.1 : Key)).zip vs) = (ps.map fun p => (Sum.inr p.1 : Key)).zip vs := by
          refine (mergeK_nodup (kvs := []) ?_).trans (List.nil_append _)
          rw [List.nil_append, ek]
          have : (ps.map fun p => (Sum.inr p.1 : Key)) = (ps.map (·.1)).map Sum.inr := by rw [List.map_map]; rfl
          rw [this]
          exact List.Pairwise.map _ (fun a b ne e => ne (Sum.inr.inj e)) nd
        rw [em]
        have S3 : SR K F2 (G.add p (.dK ((ps.map fun p => (Sum.inr p.1 : Key)).zip vs))) σ (upd H2 p (.dK ((ps.map fun p => (Sum.inr p.1 : Key)).zip vs))) δ' := S2.reguard f2
        obtain ⟨S4, hn4⟩ := S3.unguard g
        have od : OwnR K F2 (upd H2 p (.dK ((ps.map fun p => (Sum.inr p.1 : Key)).zip vs))) p (.dat (.dict ((((ps.map fun p => (Sum.inr p.1 : Key)).zip vs).map fun kv => keyD kv.1).zip ds))) :=
          .dic upd_same (by rw [ev]; exact rvs)
        have e3 : ((ps.map fun p => (Sum.inr p.1 : Key)).zip vs).map (fun kv => keyD kv.1) = ps.map fun p => PyData.str p.1 := by
          have : ((ps.map fun p => (Sum.inr p.1 : Key)).zip vs).map (fun kv => keyD kv.1) = (((ps.map fun p => (Sum.inr p.1 : Key)).zip vs).map (·.1)).map keyD := by rw [List.map_map]; rfl
          rw [this, ek, List.map_map]; rfl
        rw [e3] at od
        exact q F2 _ (Ext.refl _ _) S4 p f2 g od hn4
  · exact h.elim
end
end DL

namespace DL
open PySem PySem.Spec PyProof.Rows L2 MT
/-! ### a def that hands back a new object, still to be changed -/
def spN (K : PySem.W.Frag) (n : Nat) (f : List D → R D) : Sp := fun vs H Q _ => vs.length = n ∧ ∃ F ds, Same F H ∧ (MT.LamT K H ∧ noTb F) ∧ RlAll K F vs ds ∧ match f ds with
  | .ok d => ∀ p F' H', Ext F (MT.noT H) F' → Same F' H' → Same (MT.noT H) H' → MT.LamT K H' → MT.noT H p = none → F' p = none → OwnR K F' H' p d → Q (.ref p) H'
  | _ => False
def PostN (K : PySem.W.Frag) (F : Hp) (G : Gd) (r : Res Out) (D : Ends) : Prop := match r with
  | .ok (.ret d) δ' => ∀ σ' p F' H', Ext F G F' → SR K F' G σ' H' δ' → F' p = none → G p = none → OwnR K F' H' p d → D.rt (.ref p) H'
  | _ => False
def sDN (K : PySem.W.Frag) (m : M Out) : TS := fun D σ H => ∃ F G δ, SR K F G σ H δ ∧ PostN K F G (m δ) D
def mSeqN (a b : M Out) : M Out := fun δ => (a δ).bind fun o δ1 => match o with
  | .nx => b δ1
  | _ => .stuck
section
variable {K : PySem.W.Frag} {E : XK} {F F' : Hp} {G : Gd} {σ : L2.St} {H H' : Hp} {δ : Env}
theorem PostN.ext {r : Res Out} {En : Ends} (e : Ext F G F') (h : PostN K F G r En) : PostN K F' G r En := by
  unfold PostN at h ⊢
  split at h
  · exact fun σ' p F2 H2 e2 => h σ' p F2 H2 (e.trans e2)
  · exact h.elim
theorem md_seqN {a b : M Out} : ∀ En σ H, sDN K (mSeqN a b) En σ H → tSeq (sD K E a) (sDN K b) En σ H := by
  rintro En σ H ⟨F, G, δ, S, h⟩
  refine ⟨F, G, δ, S, ?_⟩
  have h : PostN K F G ((a δ).bind fun o δ1 => match o with | .nx => b δ1 | _ => .stuck) En := h
  cases ha : a δ with
  | ok o δ1 =>
    rw [ha] at h
    cases o with
    | nx => exact fun σ' F' H' e S' => ⟨F', G, δ1, S', PostN.ext e h⟩
    | ret d => exact h.elim
    | bk => exact h.elim
    | ct => exact h.elim
  | err c d δ1 => rw [ha] at h; exact h.elim
  | stuck => rw [ha] at h; exact h.elim
theorem md_retNew {m : M D} : ∀ En σ H, sDN K (mRet m) En σ H → tRet (tFr K E m) En σ H := by
  rintro En σ H ⟨F, G, δ, S, h⟩
  refine ⟨F, G, δ, S, ?_⟩
  have h : PostN K F G ((m δ).bind fun d δ1 => .ok (.ret d) δ1) En := h
  cases hm : m δ with
  | ok d δ1 =>
    rw [hm] at h
    exact fun F2 H2 e2 S2 p f g o hn => h σ p F2 H2 e2 S2 f g o
  | err c d δ1 => rw [hm] at h; exact h.elim
  | stuck => rw [hm] at h; exact h.elim
def semN (m : M Out) (N : Nat) : List D → R D := fun ds => match m (env0 N ds) with
  | .ok (.ret d) _ => .ok d
  | _ => .stuck
def mCallN (n : Nat) (f : List D → R D) (ma : M (List D)) : M D := fun δ => (ma δ).bind fun ds δ1 => if ds.length = n then (match f ds with
  | .ok d => .ok d δ1
  | _ => .stuck) else .stuck
theorem md_callN {n : Nat} {f : List D → R D} {ma : M (List D)} : ∀ σ H Q, tFr K E (mCallN n f ma) σ H Q → tCall (spN K n f) [] E (tDs K E ma) σ H Q := by
  rintro σ H Q ⟨F, G, δ, S, h⟩
  refine ⟨F, G, δ, S, h.bind.imp fun ds δ1 F1 H1 e1 S1 q vs rvs => ?_⟩
  split at q
  · rename_i hl
    rw [List.append_nil]
    refine ⟨rvs.length.trans hl, F1, ds, S1.fh, ⟨S1.tb, S1.fn⟩, rvs, ?_⟩
    cases hf : f ds with
    | ok d =>
      rw [hf] at q
      intro p F' H' x fh hh tb np fp o
      obtain ⟨S2, y⟩ := S1.after x fh hh tb
      refine q F' H' y S2 p fp ?_ o fun i hi => ?_
      · cases e : G.h p with
        | none => rfl
        | some o' =>
          rw [MT.noT_of (S1.gh _ _ e) fun ps z => S1.gn p ps (by rw [e, z])] at np
          cases np
      · obtain ⟨o', ho, nt, _⟩ := S1.ownK hi
        rw [MT.noT_of ho nt] at np; cases np
    | err c d => rw [hf] at q; exact q.elim
    | stuck => rw [hf] at q; exact q.elim
  · exact q.elim
/-- behind a call that changed p, which no slot holds -/
theorem SR.afterQ (S : SR K F G σ H δ) {p : Addr} (g : G p = none) (hn : ∀ i, ¬ OwnAt σ δ i p) (x : Ext F (hid p (MT.noT H)) F') (fh : Same F' H') (hh : Same (hid p (MT.noT H)) H') (tb : MT.LamT K H') : SR K F' G σ H' δ ∧ Ext F G F' := by
  have gT : ∀ b o, G.h b = some o → hid p (MT.noT H) b = some o := fun b o e => by
    have nb : b ≠ p := ne_of_none e g
    rw [hid_ne nb]
    exact MT.noT_of (S.gh _ _ e) fun ps z => S.gn b ps (by rw [e, z])
  have ng : ∀ b, G.h b ≠ none → hid p (MT.noT H) b ≠ none := fun b n z => by
    cases e : G.h b with
    | none => exact n e
    | some o => rw [gT _ _ e] at z; cases z
  have y : Ext F G F' := ⟨x.same, fun b n => x.off b (ng b n), x.nt⟩
  refine ⟨S.grow y fh (fun b o hb => hh b o (gT b o hb)) (fun i q ow => ?_) tb, y⟩
  obtain ⟨f, _, _⟩ := S.ownAt ow
  obtain ⟨o, ho, nt, _⟩ := S.ownK ow
  have nq : q ≠ p := fun e => hn i (e ▸ ow)
  have hq : hid p (MT.noT H) q = some o := by rw [hid_ne nq]; exact MT.noT_of ho nt
  exact ⟨(x.off q (by rw [hq]; simp)).trans f, (hh _ _ hq).trans ho.symm⟩
/-- f(new object, ..): what is changed is dropped -/
def mCallPF (n : Nat) (f : D → List D → R (D × D)) (mf : M D) (ma : M (List D)) : M D := fun δ => (mf δ).bind fun d0 δ0 => (ma δ0).bind fun ds δ1 => if ds.length = n then (match f d0 ds with
  | .ok (d, _) => .ok d δ1
  | _ => .stuck) else .stuck
theorem md_callPF {n : Nat} {f : D → List D → R (D × D)} {mf : M D} {ma : M (List D)} : ∀ σ H Q, tD K E (mCallPF n f mf ma) σ H Q → tCall (sp1 K n f) [] E (tCons (tFr K E mf) (tDs K E ma)) σ H Q := by
  rintro σ H Q ⟨F, G, δ, S, h⟩
  refine ⟨F, G, δ, S, h.bind.imp fun d0 δ0 F0 H0 e0 S0 q p f0 g0 ow hn => ?_⟩
  obtain ⟨o, ho, nt, _⟩ := ow.kind
  refine ⟨F0, G.add p o, δ0, S0.guard ho g0 hn nt, (Post.guard f0 g0 q.bind).imp fun ds δ1 F1 H1 e1 S1 q1 us ru => ?_⟩
  obtain ⟨⟨f1, h1, _⟩, q1⟩ := q1
  obtain ⟨S2, hn2⟩ := S1.unguard g0
  split at q1
  · rename_i hl
    refine ⟨p, us ++ [], F1, d0, ds, rfl, by rw [List.append_nil]; exact ru.length.trans hl, f1, S2.fh, ⟨S2.tb, S2.fn⟩, ow.mono e1.same (h1.trans ho.symm), by rw [List.append_nil]; exact ru, ?_⟩
    cases hf : f d0 ds with
    | ok r =>
      obtain ⟨d, d1⟩ := r
      rw [hf] at q1
      intro v F' H' x fp fh hh tb ro rv
      obtain ⟨S3, y⟩ := S2.afterQ g0 hn2 x fh hh tb
      exact q1 F' H' y S3 v rv
    | err c d => rw [hf] at q1; exact q1.elim
    | stuck => rw [hf] at q1; exact q1.elim
  · exact q1.elim
end
section
variable {P : Program} {w : World} {K : PySem.W.Frag} {mg : Str → Option Value} {base : Heap} {k : Nat} {f : Addr} {x qual : Str} {params : Arguments} {body : List Stmt} {scope : Scope} {dvs : List V} {kws : List (Str × V)} {fd : FuncData} {N ps : List Str} {m : M Out}
theorem body_runN {H : Hp} {vs : List V} {Q : VK} {E : XK} {n : Nat} (h : spN K n (semN m N.length) vs H Q E) : sDN K m { nx := fun _ H' => Q .non H', rt := Q } (L2.start N vs) H := by
  obtain ⟨ln, F, ds, s, tb, r, q⟩ := h
  refine ⟨F, ⟨MT.noT H, 0⟩, env0 N.length ds, start_SR s tb r, ?_⟩
  unfold semN at q
  unfold PostN
  cases hm : m (env0 N.length ds) with
  | stuck => rw [hm] at q; exact q.elim
  | err c d δ' => rw [hm] at q; exact q.elim
  | ok o δ' =>
    rw [hm] at q
    cases o with
    | ret d => exact fun σ' p F' H' x S fp gp o => q p F' H' x S.fh S.gh S.tb gp fp o
    | nx => exact q.elim
    | bk => exact q.elim
    | ct => exact q.elim
theorem fn_dataN {n : Nat} (hn : ps.length = n) (FF : FunD K x qual params body scope dvs kws f fd) (S : FnScope N ps scope)
    (h : ∀ (cdv : Value) (A : Around) (outer : List PySem.Env) (s : Shared) (H : Hp) (E : XK), Room k (A.deeper (envOfC qual scope s.heap.objs.size f cdv)) → PSs (cxOf CX0 P w K mg base N qual scope f cdv A outer s H E).nox body (sDN K m)) :
    FnOk P w K mg base CX0 (k + 1) f fd ps (spN K n (semN m N.length)) :=
  FF.ok S (fun vs H Q E z => z.1.trans hn.symm) fun cdv A outer s H vs Q E hr hs => ⟨_, PSs.nox (h cdv A outer s H E hr), body_runN hs⟩
end
end DL

namespace DL
open PySem PySem.Spec PyProof.Rows L2 MT
/-! ### methods, constructors, properties that keep their promises -/
structure OkM (P : Program) (w : World) (K : PySem.W.Frag) (mg : Str → Option Value) (base : Heap) (CX : CXT) (k : Nat) (c m : Str) (ps : List Str) (dvs : List V) (sp : Sp) : Prop where
  fn : ∃ (fd : FuncData) (ds : List Value), FnOk P w K mg base CX k (He.ma K (He.ga K c) m) fd ps sp ∧ Binds K fd ps ds ∧ Vals dvs ds
  cl : Cls K (He.ga K c)
  me : Meth K (He.ga K c) m (He.ma K (He.ga K c) m)
structure OkI (P : Program) (w : World) (K : PySem.W.Frag) (mg : Str → Option Value) (base : Heap) (CX : CXT) (k : Nat) (c : Str) (ps : List Str) (dvs : List V) (sp : Sp) : Prop where
  fn : ∃ (fd : FuncData) (ds : List Value), FnOk P w K mg base CX k (He.ma K (He.ga K c) "__init__") fd ps sp ∧ Binds K fd ps ds ∧ Vals dvs ds
  mkr : Mk K (He.ga K c) (He.ma K (He.ga K c) "__init__")
  gl : mg c = some (.ref (He.ga K c))
structure OkP (P : Program) (w : World) (K : PySem.W.Frag) (mg : Str → Option Value) (base : Heap) (CX : CXT) (k : Nat) (c m : Str) (sp : Sp) : Prop where
  fn : ∃ fd : FuncData, FnOk P w K mg base CX k (gtA K c m) fd ["self"] sp ∧ Binds K fd ["self"] []
  cl : Cls K (He.ga K c)
  pr : PropOf K (He.ga K c) m (prA K c m) (gtA K c m)
section
variable {X : Cx} {CX : CXT} {k : Nat} {c m : Str} {ps : List Str} {dvs : List V} {sp : Sp} {E : XK} {e o : Expr} {es : List Expr} {ta : TE} {t : TA} {p pos apos : Pos}
theorem pe_methO {pl : Sem Bool} (O : OkM X.prog X.w X.K X.mg X.base CX k c m ps dvs sp) (hr : Room k X.A) (hx : Passes CX X E) (he : PE X o ta) (ha : PA X (e :: es) t)
    (hst : starEach (e :: es) X.env = (false, eval e X.env) :: starEach es X.env := by rfl) (hpl : (backTo pos (starEach es X.env)).any (·.1) = false := by rfl)
    (ht : eval (.Call (.Attribute o m apos) (e :: es) [] pos) X.env = (do
      let ov ← eval o X.env
      standAt apos.atName
      let (f, first) ← holding [ov] (getMethod ov m pl)
      callWith pos f first (backTo pos (starEach (e :: es) X.env)) (backToKw pos (keywordEach [] X.env))) := by rfl) :
    PE X (.Call (.Attribute o m apos) (e :: es) [] pos) (tMeth (He.ga X.K c) m sp dvs E ta t) := by
  obtain ⟨⟨fd, ds, F, b, d⟩, cl, me⟩ := O
  exact pe_meth (pl := pl) he cl me F hr b d hx ha hst hpl ht
theorem pe_methO0 {pl : Sem Bool} (O : OkM X.prog X.w X.K X.mg X.base CX k c m ps dvs sp) (hr : Room k X.A) (hx : Passes CX X E) (he : PE X o ta)
    (ht : eval (.Call (.Attribute o m apos) [] [] pos) X.env = (do
      let ov ← eval o X.env
      standAt apos.atName
      let (f, first) ← holding [ov] (getMethod ov m pl)
      callWith pos f first (backTo pos (starEach [] X.env)) (backToKw pos (keywordEach [] X.env))) := by rfl) :
    PE X (.Call (.Attribute o m apos) [] [] pos) (tMeth (He.ga X.K c) m sp dvs E ta tNil) := by
  obtain ⟨⟨fd, ds, F, b, d⟩, cl, me⟩ := O
  exact pe_meth0 (pl := pl) he cl me F hr b d hx ht
theorem pe_makeO (O : OkI X.prog X.w X.K X.mg X.base CX k c ps dvs sp) (hr : Room (k + 1) X.A) (hg : Gl X c) (hx : Passes CX X E)
    (ha : PA X (e :: es) t) (hdb : (c == ("__debug__" : Str)) = false := by decide) (he : starEach (e :: es) X.env = (false, eval e X.env) :: starEach es X.env := by rfl) (hpl : (backTo pos (starEach es X.env)).any (·.1) = false := by rfl) :
    PE X (.Call (.Name c p) (e :: es) [] pos) (tMake (He.ga X.K c) sp dvs E t) := by
  obtain ⟨⟨fd, ds, F, b, d⟩, mk0, gl⟩ := O
  exact pe_make mk0 F hr hg gl b d hx ha hdb he hpl
theorem pe_propO (O : OkP X.prog X.w X.K X.mg X.base CX k c m sp) (hr : Room (k + 1) X.A) (hx : Passes CX X.nox E) (he : PE X e ta)
    (hab : attributeBase e m X.env (eval e X.env) = eval e X.env) : PE X (.Attribute e m pos) (tProp (He.ga X.K c) sp [] E ta) := by
  obtain ⟨⟨fd, F, b⟩, cl, pr⟩ := O
  exact pe_prop he cl pr F hr b .nil hx hab
theorem op_inO (O : OkM X.prog X.w X.K X.mg X.base CX k c "__contains__" ps [] sp) (hr : Room k X.A) (hx : Passes CX X E) : OpR X (compareOp .In) (rInOwn (He.ga X.K c) sp E false) := by
  obtain ⟨⟨fd, ds, F, b, d⟩, cl, me⟩ := O
  cases d
  exact op_inOwn me F hr b hx
theorem op_notInO (O : OkM X.prog X.w X.K X.mg X.base CX k c "__contains__" ps [] sp) (hr : Room k X.A) (hx : Passes CX X E) : OpR X (compareOp .NotIn) (rInOwn (He.ga X.K c) sp E true) := by
  obtain ⟨⟨fd, ds, F, b, d⟩, cl, me⟩ := O
  cases d
  exact op_notInOwn me F hr b hx
theorem call_lenO (O : OkM X.prog X.w X.K X.mg X.base CX k c "__len__" ps [] sp) (hr : Room (k + 1) X.A) (hx : Passes CX X E) : CallR X (.builtin "len") (rLenOwn (He.ga X.K c) sp E) := by
  obtain ⟨⟨fd, ds, F, b, d⟩, cl, me⟩ := O
  cases d
  exact call_lenOwn me F hr b hx
end
end DL

namespace DL
open PySem PySem.Spec PyProof.Rows L2 MT
section
variable {K : PySem.W.Frag} {E : XK} {F F' : Hp} {G : Gd} {σ : L2.St} {H H' : Hp} {δ : Env}
/-! ### list(range(n)) -/
def rangeP (n : Nat) : List PyData := (List.range n).map fun i => .int (i : Nat)
def mListRg (m : M D) : M D := fun δ => (m δ).bind fun x δ1 => match x with
  | .dat (.int n) => if 0 ≤ n ∧ n ≤ 1000000 then .ok (.dat (.list (rangeP n.toNat))) δ1 else .stuck
  | _ => .stuck
theorem rg_dd (n : Nat) : DdAll K F (rgV 0 n) (rangeP n) := by
  unfold rgV rangeP
  have e : ((n : Int) - 0).toNat = n := by omega
  rw [e]
  generalize List.range n = l
  induction l with
  | nil => exact .nil
  | cons i l ih =>
    refine .cons ?_ ih
    show Dd K F (.int (0 + (i : Nat))) (.int (i : Nat))
    rw [Int.zero_add]
    exact .int _
theorem md_listRg {m : M D} : ∀ σ H Q, tFr K E (mListRg m) σ H Q → tLstRg (tRg1 (tD K E m)) σ H Q := by
  rintro σ H Q ⟨F, G, δ, S, h⟩
  refine ⟨F, G, δ, S, h.bind.imp fun x δ1 F1 H1 e1 S1 q v rv => ?_⟩
  split at q
  · rename_i n
    split at q
    · rename_i hn
      cases rv.dd
      obtain ⟨k, rfl⟩ : ∃ k : Nat, n = k := ⟨n.toNat, by omega⟩
      refine ⟨_, rfl, RgOk.of_le (by decide) (by omega) (by decide) (by omega), fun p np => ?_⟩
      obtain ⟨S2, f, g, hn⟩ := S1.fresh (o := .lst (rgV 0 k)) np
      exact q F1 _ (Ext.refl _ _) S2 p f g (.lst upd_same (rg_dd k)) hn
    · exact q.elim
  · exact q.elim
/-! ### a, b = .. by a tuple -/
theorem OwnAll.grow {vs : List V} {rs : List SV} {as : List Addr} {p : Addr} {o : HO} (h : OwnAll K F G H σ δ vs rs as) (np : H p = none) : OwnAll K F G (upd H p o) σ δ vs rs as := by
  induction h with
  | nil => exact .nil
  | fz r _ ih => exact .fz r ih
  | ow f g r n nin _ ih =>
    obtain ⟨u, hu⟩ := r.at
    exact .ow f g (r.mono (Same.refl _) (upd_ne (ne_of_none hu np))) n nin ih
theorem md_parT2 {i j : Nat} {m : M (List SV)} : ∀ En σ H, sD K E (mPar [i, j] m) En σ H → tAsg (tTup (tDsO K E m)) (gTup K 2 (gCons (gName i) (gCons (gName j) gNil))) En σ H := by
  rintro En σ H ⟨F, G, δ, S, h⟩
  refine ⟨F, G, δ, S, h.bindE.imp fun rs δ1 F1 H1 e1 S1 q vs as rvs => ?_⟩
  obtain ⟨δ2, h2, q⟩ := q.of
  have hl : vs.length = 2 := rvs.length.trans (putAll_len h2)
  refine ⟨by rw [hl]; decide, fun p np => ?_⟩
  have S2 := S1.new (o := .tup vs) np
  have rvs2 := rvs.grow (o := .tup vs) np
  match vs, hl with
  | [v, w], _ => exact ⟨p, _, rfl, .inl (.inl upd_same), rfl, v, _, rfl, w, _, rfl, rfl, q _ F1 _ (Ext.refl _ _) (S2.putAll rvs2 rvs2.off h2)⟩
theorem md_parT3 {i j l : Nat} {m : M (List SV)} : ∀ En σ H, sD K E (mPar [i, j, l] m) En σ H → tAsg (tTup (tDsO K E m)) (gTup K 3 (gCons (gName i) (gCons (gName j) (gCons (gName l) gNil)))) En σ H := by
  rintro En σ H ⟨F, G, δ, S, h⟩
  refine ⟨F, G, δ, S, h.bindE.imp fun rs δ1 F1 H1 e1 S1 q vs as rvs => ?_⟩
  obtain ⟨δ2, h2, q⟩ := q.of
  have hl : vs.length = 3 := rvs.length.trans (putAll_len h2)
  refine ⟨by rw [hl]; decide, fun p np => ?_⟩
  have S2 := S1.new (o := .tup vs) np
  have rvs2 := rvs.grow (o := .tup vs) np
  match vs, hl with
  | [u, v, w], _ => exact ⟨p, _, rfl, .inl (.inl upd_same), rfl, u, _, rfl, v, _, rfl, w, _, rfl, rfl, q _ F1 _ (Ext.refl _ _) (S2.putAll rvs2 rvs2.off h2)⟩
end
end DL

namespace DL
open PySem PySem.Spec PyProof.Rows L2 MT
/-! ### [elt for a in as if .. for b in bs if ..] -/
theorem it_gen {J : It} {n : Nat} {Gd : Hp → Prop} {Y : Nat → Hp → V → Hp → Prop} (w : Walk J n Gd Y) {Body : (Hp → Prop) → V → Hp → Prop} {H0 : Hp} {Qd : Hp → Prop} (Pv : Nat → Hp → Prop) (h0 : Pv 0 H0) (hG : ∀ i H, i ≤ n → Pv i H → Gd H)
    (hs : ∀ i x H H', i < n → Pv i H → Y i H x H' → Body (Pv (i + 1)) x H') (hd : ∀ H, Pv n H → Qd H) :
    ∃ W : Nat → Nat → Hp → Prop, (∃ m, W 0 m H0) ∧ ∀ i m H, W i m H → (J.stop i H ∧ Qd H) ∨ (J.go i H ∧ ∃ Nx : Hp → Prop, (∀ H', Nx H' → ∃ m', m' < m ∧ W (i + 1) m' H') ∧ ∀ x H', J.yld i H x H' → Body Nx x H') := by
  refine ⟨fun i m H => m = n - i ∧ i ≤ n ∧ Pv i H, ⟨n, by simp, Nat.zero_le _, h0⟩, ?_⟩
  rintro i m H ⟨rfl, hi, p⟩
  have q := hG i H hi p
  by_cases hlt : i < n
  · refine .inr ⟨w.goes i H hlt q, Pv (i + 1), fun H' p' => ⟨n - (i + 1), by omega, rfl, hlt, p'⟩, fun x H' y => hs i x H H' hlt p (w.yields i H x H' hlt q y)⟩
  · have e : i = n := by omega
    subst e
    exact .inl ⟨w.stops H q, hd H p⟩
section
variable {K : PySem.W.Frag} {E : XK} {F F' : Hp} {G : Gd} {σ : L2.St} {H H' : Hp} {δ : Env}
def lc2L (vs vs1 : List Nat) (g : D → Env → Option Env) (c : M Bool) (m1 : M (List D)) (g1 : D → Env → Option Env) (c1 : M Bool) (me : M D) : List D → List PyData → Env → Res (List PyData)
  | [], acc, δ => .ok acc δ
  | d :: ds, acc, δ => (mOf (g d δ) δ).bind fun δ2 _ => (c δ2).bind fun b δ3 => if b = true then (m1 δ3).bind fun items δ4 => if items.length ≤ 1000 then (lcL vs1 g1 c1 me items acc (wipeD δ4 vs1)).bind fun acc' δ5 => lc2L vs vs1 g c m1 g1 c1 me ds acc' (wipeD δ5 vs) else .stuck else lc2L vs vs1 g c m1 g1 c1 me ds acc (wipeD δ3 vs)
def mLc2 (vs vs1 : List Nat) (m : M (List D)) (g : D → Env → Option Env) (c : M Bool) (m1 : M (List D)) (g1 : D → Env → Option Env) (c1 : M Bool) (me : M D) : M D := fun δ => (m δ).bind fun items δ1 => if items.length ≤ 1000 then (match lc2L vs vs1 g c m1 g1 c1 me items [] (wipeD δ1 vs) with
  | .ok acc δ2 => .ok (.dat (.list acc)) (unwipe δ1 δ2 vs)
  | _ => .stuck) else .stuck
theorem wipe_wipe {vs vs1 : List Nat} (h : ∀ v ∈ vs1, v ∈ vs) : L2.wipe (L2.wipe σ vs1) vs = L2.wipe σ vs := by
  apply List.ext_getElem?
  intro j
  by_cases hj : j ∈ vs
  · rw [wipe_in hj, wipe_in hj, wipe_length]
  · rw [wipe_out hj, wipe_out hj, wipe_out fun z => hj (h j z)]
theorem md_lc2 {vs vs1 gv gv1 : List Nat} {m m1 : M (List D)} {gt gt1 : TG} {g g1 : D → Env → Option Env} {c c1 : M Bool} {me : M D} (hg : MG K gv gt g) (hv : ∀ v ∈ gv, v ∈ vs) (hg1 : MG K gv1 gt1 g1) (hv1 : ∀ v ∈ gv1, v ∈ vs1) (hvv : ∀ v ∈ vs1, v ∈ vs) :
    ∀ σ H Q, tFr K E (mLc2 vs vs1 m g c m1 g1 c1 me) σ H Q → tLc2 (tI K E m) gt (tBo K E00 c) (tI K E00 m1) gt1 (tBo K E00 c1) (tD K E00 me) vs vs1 σ H Q := by
  rintro σ H Q ⟨F, G, δ, S, h⟩
  refine ⟨F, G, δ, S, h.bind.imp fun items δ1 F1 H1 e1 S1 q J ⟨Gd, Y, w, hG, hY⟩ p np => ?_⟩
  split at q
  · rename_i hlen
    cases hL : lc2L vs vs1 g c m1 g1 c1 me items [] (wipeD δ1 vs) with
    | stuck => rw [hL] at q; exact q.elim
    | err a b d => rw [hL] at q; exact q.elim
    | ok accF δF =>
      rw [hL] at q
      obtain ⟨f0, g0⟩ := S1.gf np
      refine it_gen w (fun i H => ∃ F2 δ2 ys acc, Ext F1 G F2 ∧ F2 p = none ∧ SR K F2 (G.add p (.lst ys)) (L2.wipe σ vs) H δ2 ∧ DdAll K F2 ys acc ∧ acc.length ≤ 1000 * i ∧ lc2L vs vs1 g c m1 g1 c1 me (items.drop i) acc δ2 = .ok accF δF) ?_ ?_ ?_ ?_
      · have Sn := (S1.new (o := .lst []) np)
        refine ⟨F1, wipeD δ1 vs, [], [], Ext.refl _ _, f0, (Sn.guard upd_same g0 fun i hi => ?_).wipe vs, .nil, Nat.le_refl _, hL⟩
        obtain ⟨_, _, o, ho⟩ := S1.ownAt hi
        rw [np] at ho; cases ho
      · rintro i H _ ⟨F2, δ2, ys, acc, e2, _, S2, _⟩
        exact hG H (e2.same.trans S2.fh)
      · rintro i x H H' hi ⟨F2, δ2, ys, acc, e2, f2, S2, dd, ln, eq⟩ y
        obtain ⟨F3, e3, S3, r3⟩ := hY i H x H' items[i] (List.getElem?_eq_getElem hi) y F2 _ _ δ2 e2.same S2
        have f3 : F3 p = none := (e3.off p (by rw [add_same]; simp)).trans f2
        rw [List.drop_eq_getElem_cons hi] at eq
        unfold lc2L at eq
        cases h3 : g items[i] δ2 with
        | none => rw [h3] at eq; cases eq
        | some δ3 =>
          rw [h3] at eq
          have eq : (c δ3).bind (fun b δ3 => if b = true then (m1 δ3).bind fun its δ4 => if its.length ≤ 1000 then (lcL vs1 g1 c1 me its acc (wipeD δ4 vs1)).bind fun acc' δ5 => lc2L vs vs1 g c m1 g1 c1 me (items.drop (i + 1)) acc' (wipeD δ5 vs) else .stuck else lc2L vs vs1 g c m1 g1 c1 me (items.drop (i + 1)) acc (wipeD δ3 vs)) = .ok accF δF := eq
          refine hg S3 r3 h3 fun σ2 o2 S4 => ⟨wipe_same o2 hv, ?_⟩
          have hw := wipe_same o2 hv
          refine ⟨F3, _, δ3, S4, ?_⟩
          cases hc : c δ3 with
          | stuck => rw [hc] at eq; cases eq
          | err a b d => rw [hc] at eq; cases eq
          | ok b δ4 =>
            rw [hc] at eq
            intro F5 H5 e5 S5
            have f5 : F5 p = none := (e5.off p (by rw [add_same]; simp)).trans f3
            have eq : (if b = true then (m1 δ4).bind fun its δ4 => if its.length ≤ 1000 then (lcL vs1 g1 c1 me its acc (wipeD δ4 vs1)).bind fun acc' δ5 => lc2L vs vs1 g c m1 g1 c1 me (items.drop (i + 1)) acc' (wipeD δ5 vs) else .stuck else lc2L vs vs1 g c m1 g1 c1 me (items.drop (i + 1)) acc (wipeD δ4 vs)) = .ok accF δF := eq
            have x35 := (e2.trans (e3.unguard g0)).trans (e5.unguard g0)
            cases b with
            | false =>
              rw [if_neg Bool.false_ne_true] at eq
              refine iteF ?_
              exact ⟨F5, _, ys, acc, x35, f5, S5.wipe2 hw, dd.same (e3.same.trans e5.same), by rw [Nat.mul_add]; omega, eq⟩
            | true =>
              rw [if_pos rfl] at eq
              refine iteT ?_
              refine ⟨F5, _, δ4, S5, ?_⟩
              cases hm1 : m1 δ4 with
              | stuck => rw [hm1] at eq; cases eq
              | err a b d => rw [hm1] at eq; cases eq
              | ok its δ6 =>
                rw [hm1] at eq
                have eq : (if its.length ≤ 1000 then (lcL vs1 g1 c1 me its acc (wipeD δ6 vs1)).bind fun acc' δ5 => lc2L vs vs1 g c m1 g1 c1 me (items.drop (i + 1)) acc' (wipeD δ5 vs) else .stuck) = .ok accF δF := eq
                by_cases hil : its.length ≤ 1000
                · rw [if_pos hil] at eq
                  intro F6 H6 e6 S6 J1 ⟨Gd1, Y1, w1, hG1, hY1⟩
                  have f6 : F6 p = none := (e6.off p (by rw [add_same]; simp)).trans f5
                  have x36 := x35.trans (e6.unguard g0)
                  have dd6 := dd.same (e3.same.trans (e5.same.trans e6.same))
                  cases hI : lcL vs1 g1 c1 me its acc (wipeD δ6 vs1) with
                  | stuck => rw [hI] at eq; cases eq
                  | err a b d => rw [hI] at eq; cases eq
                  | ok accI δI =>
                    rw [hI] at eq
                    have eq : lc2L vs vs1 g c m1 g1 c1 me (items.drop (i + 1)) accI (wipeD δI vs) = .ok accF δF := eq
                    refine it_gen w1 (fun j H => ∃ F7 δ7 ys7 acc7, Ext F6 G F7 ∧ F7 p = none ∧ SR K F7 (G.add p (.lst ys7)) (L2.wipe σ2 vs1) H δ7 ∧ DdAll K F7 ys7 acc7 ∧ acc7.length ≤ 1000 * i + j ∧ lcL vs1 g1 c1 me (its.drop j) acc7 δ7 = .ok accI δI) ?_ ?_ ?_ ?_
                    · exact ⟨F6, wipeD δ6 vs1, ys, acc, Ext.refl _ _, f6, S6.wipe vs1, dd6, ln, hI⟩
                    · rintro j H _ ⟨F7, δ7, ys7, acc7, e7, _, S7, _⟩
                      exact hG1 H (e7.same.trans S7.fh)
                    · rintro j x H H' hj ⟨F7, δ7, ys7, acc7, e7, f7, S7, dd7, ln7, eq7⟩ y
                      obtain ⟨F8, e8, S8, r8⟩ := hY1 j H x H' its[j] (List.getElem?_eq_getElem hj) y F7 _ _ δ7 e7.same S7
                      have f8 : F8 p = none := (e8.off p (by rw [add_same]; simp)).trans f7
                      rw [List.drop_eq_getElem_cons hj] at eq7
                      unfold lcL at eq7
                      cases h8 : g1 its[j] δ7 with
                      | none => rw [h8] at eq7; cases eq7
                      | some δ8 =>
                        rw [h8] at eq7
                        have eq7 : (c1 δ8).bind (fun b δ3 => if b = true then (me δ3).bind fun y δ4 => (mOf (asDat y) δ4).bind fun x δ5 => lcL vs1 g1 c1 me (its.drop (j + 1)) (acc7 ++ [x]) (wipeD δ5 vs1) else lcL vs1 g1 c1 me (its.drop (j + 1)) acc7 (wipeD δ3 vs1)) = .ok accI δI := eq7
                        refine hg1 S8 r8 h8 fun σ3 o3 S9 => ⟨wipe_same o3 hv1, ?_⟩
                        have hw1 := wipe_same o3 hv1
                        refine ⟨F8, _, δ8, S9, ?_⟩
                        cases hc1 : c1 δ8 with
                        | stuck => rw [hc1] at eq7; cases eq7
                        | err a b d => rw [hc1] at eq7; cases eq7
                        | ok b δ9 =>
                          rw [hc1] at eq7
                          intro Fa Ha ea Sa
                          have fa : Fa p = none := (ea.off p (by rw [add_same]; simp)).trans f8
                          have eq7 : (if b = true then (me δ9).bind fun y δ4 => (mOf (asDat y) δ4).bind fun x δ5 => lcL vs1 g1 c1 me (its.drop (j + 1)) (acc7 ++ [x]) (wipeD δ5 vs1) else lcL vs1 g1 c1 me (its.drop (j + 1)) acc7 (wipeD δ9 vs1)) = .ok accI δI := eq7
                          have x7a := (e7.trans (e8.unguard g0)).trans (ea.unguard g0)
                          cases b with
                          | false =>
                            rw [if_neg Bool.false_ne_true] at eq7
                            refine iteF ?_
                            exact ⟨Fa, _, ys7, acc7, x7a, fa, Sa.wipe2 hw1, dd7.same (e8.same.trans ea.same), Nat.le_succ_of_le ln7, eq7⟩
                          | true =>
                            rw [if_pos rfl] at eq7
                            refine iteT ?_
                            refine ⟨Fa, _, δ9, Sa, ?_⟩
                            cases hm : me δ9 with
                            | stuck => rw [hm] at eq7; cases eq7
                            | err a b d => rw [hm] at eq7; cases eq7
                            | ok z δb =>
                              rw [hm] at eq7
                              intro Fb Hb eb Sb v rv
                              have eq7 : (mOf (asDat z) δb).bind (fun x δ5 => lcL vs1 g1 c1 me (its.drop (j + 1)) (acc7 ++ [x]) (wipeD δ5 vs1)) = .ok accI δI := eq7
                              have fb : Fb p = none := (eb.off p (by rw [add_same]; simp)).trans fa
                              cases hz : asDat z with
                              | none => rw [hz] at eq7; cases eq7
                              | some dz =>
                                rw [hz] at eq7
                                have ez := asDat_eq hz
                                subst ez
                                have hp := Sb.gh p _ add_same
                                have ddb := dd7.same (e8.same.trans (ea.same.trans eb.same))
                                refine ⟨ys7, hp, ?_, Fb, _, ys7 ++ [v], acc7 ++ [dz], x7a.trans (eb.unguard g0), fb, (Sb.reguard fb).wipe2 hw1, ddb.append (.cons rv.dd .nil), ?_, eq7⟩
                                · rw [dd7.length]
                                  have h1 : acc7.length ≤ 1000000 + 1000 := by omega
                                  exact Nat.lt_of_le_of_lt h1 (by decide)
                                · rw [List.length_append, List.length_singleton]; omega
                    · rintro H2 ⟨F7, δ7, ys7, acc7, e7, f7, S7, dd7, ln7, eq7⟩
                      rw [List.drop_of_length_le (Nat.le_refl _)] at eq7
                      cases eq7
                      refine ⟨F7, wipeD δI vs, ys7, accI, x36.trans e7, f7, S7.wipe2 ((wipe_wipe hvv).trans hw), dd7, by rw [Nat.mul_add]; omega, eq⟩
                · rw [if_neg hil] at eq; cases eq
      · rintro H2 ⟨F2, δ2, ys, acc, e2, f2, S2, dd, ln, eq⟩
        rw [List.drop_of_length_le (Nat.le_refl _)] at eq
        cases eq
        have hp := S2.gh p _ add_same
        obtain ⟨S3, hn⟩ := S2.unguard g0
        have S4 := S1.unwipe (vs := vs) e2.same S3 (by
          apply List.ext_getElem?
          intro j
          by_cases hj : j ∈ vs
          · rw [wipe_in hj, wipe_in hj, wipe_length]
          · rw [wipe_out hj])
        refine q F2 H2 e2 S4 p f2 g0 (.lst hp dd) fun i hi => ?_
        obtain ⟨a, u, b, c'⟩ := hi
        rcases unwipe_get b with ⟨x1, x2⟩ | ⟨x1, x2⟩
        · exact hn i ⟨by rw [wipe_out x1]; exact a, u, x2, c'⟩
        · rcases x2 with rfl | ⟨d, rfl, _⟩ <;> cases c'
  · exact q.elim
/-! ### a table of the module -/
def tabF (kvs : List (Str × Str)) : D → Option D
  | .dat (.str s) => (kvs.lookup s).map fun z => .dat (.str z)
  | _ => none
theorem lookup_mem {kvs : List (Str × Str)} {s z : Str} (h : kvs.lookup s = some z) : (s, z) ∈ kvs := by
  induction kvs with
  | nil => cases h
  | cons q r ih =>
    obtain ⟨k, v⟩ := q
    rw [List.lookup_cons] at h
    split at h
    · rename_i e
      cases h
      rw [eq_of_beq e]
      exact .head _
    · exact .tail _ (ih h)
theorem md_tab {w : World} {a : Addr} {kvs : List (Str × Str)} {mb : M D} (ht : TabK K w a kvs) : ∀ σ H Q, tD K E (mUn (tabF kvs) mb) σ H Q → tOp (rIxD K w) (tC (.ref a)) (tD K E mb) σ H Q := by
  rintro σ H Q ⟨F, G, δ, S, h⟩
  refine ⟨F, G, δ, S, h.bind.imp fun x δ1 F1 H1 e1 S1 q v rv => ?_⟩
  unfold tabF at q
  split at q
  · rename_i s
    cases hl : kvs.lookup s with
    | none => rw [hl] at q; exact q.elim
    | some z =>
      rw [hl] at q
      cases rv.dd
      exact ⟨a, s, .str z, rfl, rfl, ht _ (lookup_mem hl), q F1 H1 (Ext.refl _ _) S1 (.str z) (.dat (.str z))⟩
  · exact q.elim
end
/-- a default that is the empty tuple -/
theorem dv_nil {K : PySem.W.Frag} {a : Addr} (h : nilB K a = true) : ∀ F, RlAll K F [V.ref a] [.dat (.tuple [])] := by
  intro F
  unfold nilB at h
  split at h
  · rename_i c its n sl ho
    rw [Bool.and_eq_true] at h
    have e1 := of_decide_eq_true h.1
    have e2 := of_decide_eq_true h.2
    subst e1
    refine .cons (.dat (.tup (.inr ⟨_, its, n, ho, rfl, rfl, rfl, ?_, ?_⟩) .nil)) .nil
    · have : its.size = 0 := by rw [← Array.length_toList, e2]; rfl
      rw [this]; exact Nat.zero_le _
    · rw [e2]; exact .nil
  · cases h
end DL

namespace DL
open PySem PySem.Spec PyProof.Rows L2 MT
/-! ### meanings, evaluated step by step -/
section
variable {α β : Type} {δ δ' : Env} {a b : M Out} {c : M Bool} {d : D} {i : Nat}
theorem bind_ok {x : α} {k : α → Env → Res β} : (Res.ok x δ).bind k = k x δ := rfl
theorem bind_stuck {k : α → Env → Res β} : (Res.stuck : Res α).bind k = .stuck := rfl
theorem bind_err {e : Str} {k : α → Env → Res β} : (Res.err e d δ : Res α).bind k = .err e d δ := rfl
theorem ev_ok {x : α} : mOk x δ = .ok x δ := rfl
theorem ev_of {x : α} : mOf (some x) δ = .ok x δ := rfl
def kSeq (b : M Out) : Out → M Out
  | .nx, δ => b δ
  | .ret d, δ => .ok (.ret d) δ
  | .bk, δ => .ok .bk δ
  | .ct, δ => .ok .ct δ
theorem ev_seq : mSeq a b δ = (a δ).bind (kSeq b) := by
  show (a δ).bind _ = _
  congr 1
  funext o δ1
  cases o <;> rfl
theorem kSeq_nx : kSeq b .nx δ = b δ := rfl
theorem kSeq_ret : kSeq b (.ret d) δ = .ok (.ret d) δ := rfl
theorem kSeq_bk : kSeq b .bk δ = .ok .bk δ := rfl
theorem kSeq_ct : kSeq b .ct δ = .ok .ct δ := rfl
theorem ev_nx : mNx δ = .ok .nx δ := rfl
def kIf (x y : M α) : Bool → M α
  | true, δ => x δ
  | false, δ => y δ
theorem ev_if {x y : M α} : mIf c x y δ = (c δ).bind (kIf x y) := by
  show (c δ).bind _ = _
  congr 1
  funext o δ1
  cases o <;> rfl
theorem kIf_true {x y : M α} : kIf x y true δ = x δ := rfl
theorem kIf_false {x y : M α} : kIf x y false δ = y δ := rfl
def kVar (i : Nat) (δ : Env) : Option SV → Res D
  | some (.fz d) => .ok d δ
  | some (.ow d) => .ok d (δ.set i (.fz d))
  | _ => .stuck
theorem ev_var : mVar i δ = kVar i δ δ[i]? := by
  unfold mVar kVar
  rfl
theorem kVar_fz : kVar i δ (some (.fz d)) = .ok d δ := rfl
theorem kVar_ow : kVar i δ (some (.ow d)) = .ok d (δ.set i (.fz d)) := rfl
def kOp (f : D → D → Option D) (mb : M D) (x : D) : M D := fun δ => (mb δ).bind fun y δ2 => mOf (f x y) δ2
theorem ev_op {f : D → D → Option D} {ma mb : M D} : mOp f ma mb δ = (ma δ).bind (kOp f mb) := rfl
theorem kOp_ev {f : D → D → Option D} {mb : M D} {x : D} : kOp f mb x δ = (mb δ).bind fun y δ2 => mOf (f x y) δ2 := rfl
def kOpB (f : D → D → Option Bool) (mb : M D) (x : D) : M Bool := fun δ => (mb δ).bind fun y δ2 => mOf (f x y) δ2
theorem ev_opB {f : D → D → Option Bool} {ma mb : M D} : mOpB f ma mb δ = (ma δ).bind (kOpB f mb) := rfl
theorem kOpB_ev {f : D → D → Option Bool} {mb : M D} {x : D} : kOpB f mb x δ = (mb δ).bind fun y δ2 => mOf (f x y) δ2 := rfl
theorem ev_un {f : D → Option D} {ma : M D} : mUn f ma δ = (ma δ).bind fun x δ1 => mOf (f x) δ1 := rfl
def kCh (f g : D → D → Option Bool) (mb mc : M D) (x : D) : M Bool := fun δ => (mb δ).bind fun y δ2 => (mOf (f x y) δ2).bind fun b δ3 => if b = true then (mc δ3).bind fun z δ4 => mOf (g y z) δ4 else .ok false δ3
theorem ev_chain {f g : D → D → Option Bool} {ma mb mc : M D} : mChain f g ma mb mc δ = (ma δ).bind (kCh f g mb mc) := rfl
theorem kCh_ev {f g : D → D → Option Bool} {mb mc : M D} {x : D} : kCh f g mb mc x δ = (mb δ).bind fun y δ2 => (mOf (f x y) δ2).bind fun b δ3 => if b = true then (mc δ3).bind fun z δ4 => mOf (g y z) δ4 else .ok false δ3 := rfl
theorem ev_bd {m : M Bool} : mBD m δ = (m δ).bind fun b δ1 => .ok (.dat (.bool b)) δ1 := rfl
theorem ev_test {m : M D} : mTest m δ = (m δ).bind fun d δ1 => mOf (asB d) δ1 := rfl
theorem asB_b {x : Bool} : asB (.dat (.bool x)) = some x := rfl
def kAnd (b : M Bool) : Bool → M Bool
  | true, δ => b δ
  | false, δ => .ok false δ
theorem ev_and {x y : M Bool} : mAnd x y δ = (x δ).bind (kAnd y) := by
  show (x δ).bind _ = _
  congr 1
  funext o δ1
  cases o <;> rfl
theorem kAnd_t {y : M Bool} : kAnd y true δ = y δ := rfl
theorem kAnd_f {y : M Bool} : kAnd y false δ = .ok false δ := rfl
def kOr (b : M Bool) : Bool → M Bool
  | true, δ => .ok true δ
  | false, δ => b δ
theorem ev_or {x y : M Bool} : mOr x y δ = (x δ).bind (kOr y) := by
  show (x δ).bind _ = _
  congr 1
  funext o δ1
  cases o <;> rfl
theorem kOr_t {y : M Bool} : kOr y true δ = .ok true δ := rfl
theorem kOr_f {y : M Bool} : kOr y false δ = y δ := rfl
theorem ev_not {x : M Bool} : mNot x δ = (x δ).bind fun x δ1 => .ok (!x) δ1 := rfl
def kAndV (b : M D) : Bool → M D
  | true, δ => b δ
  | false, δ => .ok (.dat (.bool false)) δ
theorem ev_andV {x y : M D} : mAndV x y δ = (mTest x δ).bind (kAndV y) := by
  show (mTest x δ).bind _ = _
  congr 1
  funext o δ1
  cases o <;> rfl
theorem kAndV_t {y : M D} : kAndV y true δ = y δ := rfl
theorem kAndV_f {y : M D} : kAndV y false δ = .ok (.dat (.bool false)) δ := rfl
def kOrV (b : M D) : Bool → M D
  | true, δ => .ok (.dat (.bool true)) δ
  | false, δ => b δ
theorem ev_orV {x y : M D} : mOrV x y δ = (mTest x δ).bind (kOrV y) := by
  show (mTest x δ).bind _ = _
  congr 1
  funext o δ1
  cases o <;> rfl
theorem kOrV_t {y : M D} : kOrV y true δ = .ok (.dat (.bool true)) δ := rfl
theorem kOrV_f {y : M D} : kOrV y false δ = y δ := rfl
theorem ev_notV {x : M D} : mNotV x δ = (mTest x δ).bind fun x δ1 => .ok (.dat (.bool (!x))) δ1 := rfl
theorem ev_nil : mNil δ = .ok [] δ := rfl
def kCons (r : M (List D)) (x : D) : M (List D) := fun δ => (r δ).bind fun xs δ2 => .ok (x :: xs) δ2
theorem ev_cons {x : M D} {r : M (List D)} : mCons x r δ = (x δ).bind (kCons r) := rfl
theorem kCons_ev {r : M (List D)} {x : D} : kCons r x δ = (r δ).bind fun xs δ2 => .ok (x :: xs) δ2 := rfl
theorem ev_tup {m : M (List D)} : mTup m δ = (m δ).bind fun ds δ1 => mOf (mkTup ds) δ1 := rfl
theorem ev_lst {m : M (List D)} : mLst m δ = (m δ).bind fun ds δ1 => mOf (mkLst ds) δ1 := rfl
theorem ev_cb {f : List D → Option D} {m : M (List D)} : mCB f m δ = (m δ).bind fun ds δ1 => mOf (f ds) δ1 := rfl
theorem ev_ret {m : M D} : mRet m δ = (m δ).bind fun d δ1 => .ok (.ret d) δ1 := rfl
theorem ev_retN : mRetN δ = .ok (.ret (.dat .none)) δ := rfl
theorem ev_drop {m : M D} : mDrop m δ = (m δ).bind fun _ δ1 => .ok .nx δ1 := rfl
theorem ev_never : mNever δ = .stuck := rfl
theorem ev_asg {m : M D} {g : D → Env → Option Env} : mAsg m g δ = (m δ).bind fun d δ1 => (mOf (g d δ1) δ1).bind fun δ2 _ => .ok .nx δ2 := rfl
theorem ev_setF {m : M D} : mSetF i m δ = (m δ).bind fun d δ1 => .ok .nx (δ1.set i (.ow d)) := rfl
theorem ev_gN : gN i d δ = some (δ.set i (.fz d)) := rfl
theorem ev_callf {n : Nat} {f : List D → R D} {es : List D} {ma : M (List D)} : mCall n f es ma δ = (ma δ).bind fun ds δ1 => if (ds ++ es).length = n then back (f (ds ++ es)) δ1 else .stuck := rfl
theorem back_ok {x : α} : back (.ok x) δ = .ok x δ := rfl
/-! state by slots -/
def kIxP2 (i : Nat) (y : D) : M D := fun δ => (mOf (peek δ i) δ).bind fun x δ2 => mOf (ixF x y) δ2
def kIxP (i : Nat) (mb : M D) : D → M D := fun _ δ => (mb δ).bind (kIxP2 i)
theorem ev_ixP {mb : M D} : mIxP i mb δ = (mOf (peek δ i) δ).bind (kIxP i mb) := rfl
theorem kIxP_ev {mb : M D} {x : D} : kIxP i mb x δ = (mb δ).bind (kIxP2 i) := rfl
theorem kIxP2_ev {y : D} : kIxP2 i y δ = (mOf (peek δ i) δ).bind fun x δ2 => mOf (ixF x y) δ2 := rfl
def fSetIx (d k : D) : Option D → Option D
  | some (.dat (.list xs)) => match d, k with
    | .dat d, .dat (.int k) => (ixN xs.length k).map fun j => .dat (.list (xs.set j d))
    | _, _ => none
  | _ => none
def kSetIx2 (i : Nat) (d k : D) : M Out := fun δ => match d, k, ownD δ i with
  | .dat d, .dat (.int k), some (.dat (.list xs)) => (match ixN xs.length k with
    | some j => .ok .nx (putO δ i (.dat (.list (xs.set j d))))
    | none => .stuck)
  | _, _, _ => .stuck
def kSetIx1 (i : Nat) (mi : M D) (d : D) : D → M Out := fun _ δ => (mi δ).bind (kSetIx2 i d)
def kSetIx (i : Nat) (mi : M D) (d : D) : M Out := fun δ => (mOf (ownD δ i) δ).bind (kSetIx1 i mi d)
theorem ev_setIx {mi me : M D} : mSetIx i mi me δ = (me δ).bind (kSetIx i mi) := by
  unfold mSetIx
  rfl
theorem kSetIx_ev {mi : M D} : kSetIx i mi d δ = (mOf (ownD δ i) δ).bind (kSetIx1 i mi d) := rfl
theorem kSetIx1_ev {mi : M D} {x : D} : kSetIx1 i mi d x δ = (mi δ).bind (kSetIx2 i d) := rfl
theorem kSetIx2_ev {d : PyData} {k : Int} {xs : List PyData} {j : Nat} (h : ownD δ i = some (.dat (.list xs))) (hj : ixN xs.length k = some j) : kSetIx2 i (.dat d) (.dat (.int k)) δ = .ok .nx (putO δ i (.dat (.list (xs.set j d)))) := by
  simp only [kSetIx2, h, hj]
def kCallP2 (n : Nat) (f : D → List D → R (D × D)) (i : Nat) (ds : List D) : M D := fun δ => (mOf (ownD δ i) δ).bind fun d0 δ2 => if ds.length = n then back1 (f d0 ds) i δ2 else .stuck
def kCallP (n : Nat) (f : D → List D → R (D × D)) (i : Nat) (ma : M (List D)) : D → M D := fun _ δ => (ma δ).bind (kCallP2 n f i)
theorem ev_callP {n : Nat} {f : D → List D → R (D × D)} {ma : M (List D)} : mCallP n f i ma δ = (mOf (ownD δ i) δ).bind (kCallP n f i ma) := rfl
theorem kCallP_ev {n : Nat} {f : D → List D → R (D × D)} {ma : M (List D)} {x : D} : kCallP n f i ma x δ = (ma δ).bind (kCallP2 n f i) := rfl
theorem kCallP2_ev {n : Nat} {f : D → List D → R (D × D)} {ds : List D} : kCallP2 n f i ds δ = (mOf (ownD δ i) δ).bind fun d0 δ2 => if ds.length = n then back1 (f d0 ds) i δ2 else .stuck := rfl
theorem back1_ok {d1 : D} : back1 (.ok (d, d1)) i δ = .ok d (putO δ i d1) := rfl
def kPop (i : Nat) (ds : List D) : M D := fun δ1 => match ds, ownL δ1 i with
  | [.dat (.int (.ofNat k))], some xs => (match xs[k]? with
    | some d => if xs.length ≤ most then .ok (.dat d) (δ1.set i (.ow (.dat (.list (xs.eraseIdx k))))) else .stuck
    | none => .stuck)
  | _, _ => .stuck
def kOwn {γ : Type} (ma : M (List D)) (k : List D → M γ) : List PyData → M γ := fun _ δ => (ma δ).bind k
theorem kOwn_ev {γ : Type} {ma : M (List D)} {k : List D → M γ} {x : List PyData} : kOwn ma k x δ = (ma δ).bind k := rfl
theorem ev_pop {ma : M (List D)} : mPop i ma δ = (mOf (ownL δ i) δ).bind (kOwn ma (kPop i)) := rfl
theorem kPop_ev {k : Nat} {xs : List PyData} {d : PyData} (h : ownL δ i = some xs) (hd : xs[k]? = some d) (hl : xs.length ≤ most) : kPop i [D.dat (.int (k : Nat))] δ = .ok (.dat d) (δ.set i (.ow (.dat (.list (xs.eraseIdx k))))) := by
  have e : kPop i [D.dat (.int (k : Nat))] δ = (match ownL δ i with
    | some xs => (match xs[k]? with
      | some d => if xs.length ≤ most then Res.ok (D.dat d) (δ.set i (.ow (.dat (.list (xs.eraseIdx k))))) else .stuck
      | none => .stuck)
    | none => .stuck) := by
    unfold kPop
    cases ownL δ i <;> rfl
  rw [e, h]
  simp only [hd, if_pos hl]
def kApp (i : Nat) (ds : List D) : M D := fun δ1 => match ds, ownL δ1 i with
  | [.dat d], some xs => if xs.length < most then .ok (.dat .none) (δ1.set i (.ow (.dat (.list (xs ++ [d]))))) else .stuck
  | _, _ => .stuck
theorem ev_app {ma : M (List D)} : mApp i ma δ = (mOf (ownL δ i) δ).bind (kOwn ma (kApp i)) := rfl
theorem kApp_ev {d : PyData} {xs : List PyData} (h : ownL δ i = some xs) (hl : xs.length < most) : kApp i [.dat d] δ = .ok (.dat .none) (δ.set i (.ow (.dat (.list (xs ++ [d]))))) := by
  simp only [kApp, h, if_pos hl]
def kExt (i : Nat) (ds : List D) : M D := fun δ1 => match ds, ownL δ1 i with
  | [.dat (.list ys)], some xs => if xs.length + ys.length ≤ most then .ok (.dat .none) (δ1.set i (.ow (.dat (.list (xs ++ ys))))) else .stuck
  | _, _ => .stuck
theorem ev_ext {ma : M (List D)} : mExt i ma δ = (mOf (ownL δ i) δ).bind (kOwn ma (kExt i)) := rfl
theorem kExt_ev {ys xs : List PyData} (h : ownL δ i = some xs) (hl : xs.length + ys.length ≤ most) : kExt i [.dat (.list ys)] δ = .ok (.dat .none) (δ.set i (.ow (.dat (.list (xs ++ ys))))) := by
  simp only [kExt, h, if_pos hl]
theorem ev_lenP : mLenP i δ = (mOf (peek δ i) δ).bind fun d δ1 => mOf (lenF [d]) δ1 := rfl
def kEqP2 (f : D → D → Option Bool) (i : Nat) (y : D) : M Bool := fun δ => (mOf (peek δ i) δ).bind fun x δ3 => mOf (f x y) δ3
def kEqP (f : D → D → Option Bool) (i : Nat) (mb : M D) : D → M Bool := fun _ δ => (mb δ).bind (kEqP2 f i)
theorem ev_eqP {f : D → D → Option Bool} {mb : M D} : mEqP f i mb δ = (mOf (peek δ i) δ).bind (kEqP f i mb) := rfl
theorem kEqP_ev {f : D → D → Option Bool} {mb : M D} {x : D} : kEqP f i mb x δ = (mb δ).bind (kEqP2 f i) := rfl
theorem kEqP2_ev {f : D → D → Option Bool} {y : D} : kEqP2 f i y δ = (mOf (peek δ i) δ).bind fun x δ3 => mOf (f x y) δ3 := rfl
theorem ev_inP {neg : Bool} {ma : M D} : mInP neg ma i δ = (ma δ).bind fun x δ1 => (mOf (peek δ1 i) δ1).bind fun y δ2 => mOf (inB neg x y) δ2 := rfl
def kConsF (r : M (List SV)) (x : D) : M (List SV) := fun δ => (r δ).bind fun xs δ2 => .ok (.fz x :: xs) δ2
def kConsO (r : M (List SV)) (x : D) : M (List SV) := fun δ => (r δ).bind fun xs δ2 => .ok (.ow x :: xs) δ2
theorem ev_nilO : mNilO δ = .ok [] δ := rfl
theorem ev_consF {x : M D} {r : M (List SV)} : mConsF x r δ = (x δ).bind (kConsF r) := rfl
theorem ev_consO {x : M D} {r : M (List SV)} : mConsO x r δ = (x δ).bind (kConsO r) := rfl
theorem kConsF_ev {x : D} {r : M (List SV)} : kConsF r x δ = (r δ).bind fun xs δ2 => .ok (.fz x :: xs) δ2 := rfl
theorem kConsO_ev {x : D} {r : M (List SV)} : kConsO r x δ = (r δ).bind fun xs δ2 => .ok (.ow x :: xs) δ2 := rfl
theorem ev_par {is : List Nat} {m : M (List SV)} : mPar is m δ = (m δ).bind fun rs δ1 => (mOf (putAll is rs δ1) δ1).bind fun δ2 _ => .ok .nx δ2 := rfl
theorem ev_for {m : M (List D)} {g : D → Env → Option Env} {mb : M Out} : mFor m g mb δ = (m δ).bind (forL g mb) := rfl
def kPart (x : D) : M (Option Int) := fun δ => match x with
  | .dat (.int i) => .ok (some i) δ
  | _ => .stuck
theorem ev_part {m : M D} : mPart m δ = (m δ).bind kPart := by
  rfl
theorem kPart_ev {j : Int} : kPart (.dat (.int j)) δ = .ok (some j) δ := rfl
def kSl2 (f : D → Option Int → Option Int → Option D) (mh : M (Option Int)) (x : D) (l : Option Int) : M D := fun δ => (mh δ).bind fun u δ3 => mOf (f x l u) δ3
def kSl (f : D → Option Int → Option Int → Option D) (ml mh : M (Option Int)) (x : D) : M D := fun δ => (ml δ).bind (kSl2 f mh x)
theorem ev_sl {f : D → Option Int → Option Int → Option D} {m : M D} {ml mh : M (Option Int)} : mSl f m ml mh δ = (m δ).bind (kSl f ml mh) := rfl
theorem kSl_ev {f : D → Option Int → Option Int → Option D} {x : D} {ml mh : M (Option Int)} : kSl f ml mh x δ = (ml δ).bind (kSl2 f mh x) := rfl
theorem kSl2_ev {f : D → Option Int → Option Int → Option D} {x : D} {l : Option Int} {mh : M (Option Int)} : kSl2 f mh x l δ = (mh δ).bind fun u δ3 => mOf (f x l u) δ3 := rfl
def kM1 (f : D → D → Option D) (me : M D) (x : D) : M D := fun δ => match x with
  | .dat (.str _) => (me δ).bind fun y δ2 => mOf (f x y) δ2
  | _ => .stuck
theorem ev_m1 {f : D → D → Option D} {mo me : M D} : mM1 f mo me δ = (mo δ).bind (kM1 f me) := rfl
theorem kM1_ev {f : D → D → Option D} {me : M D} {z : Str} : kM1 f me (.dat (.str z)) δ = (me δ).bind fun y δ2 => mOf (f (.dat (.str z)) y) δ2 := rfl
def kIdx (ma : M (List D)) (x : D) : M D := fun δ => if isTup x = true then (ma δ).bind fun ds δ2 => mOf (idxF x ds) δ2 else .stuck
theorem ev_idx {mo : M D} {ma : M (List D)} : mIdx mo ma δ = (mo δ).bind (kIdx ma) := rfl
theorem kIdx_ev {ma : M (List D)} {l : List PyData} : kIdx ma (.dat (.tuple l)) δ = (ma δ).bind fun ds δ2 => mOf (idxF (.dat (.tuple l)) ds) δ2 := rfl
theorem ev_itL {m : M D} : mItL m δ = (m δ).bind fun d δ1 => mOf ((asL d).map dats) δ1 := rfl
theorem ev_itT {m : M D} : mItT m δ = (m δ).bind fun d δ1 => mOf ((asT d).map dats) δ1 := rfl
theorem ev_enL {m : M (List D)} : mEnL m δ = (m δ).bind fun ds δ1 => mOf (((as1 ds).bind asL).map enumD) δ1 := rfl
theorem ev_enT {m : M (List D)} : mEnT m δ = (m δ).bind fun ds δ1 => mOf (((as1 ds).bind asT).map enumD) δ1 := rfl
theorem ev_enQ {m : M (List D)} : mEnQ m δ = (m δ).bind fun ds δ1 => mOf (((as1 ds).bind asQ).map enumD) δ1 := rfl
theorem ev_fld {c f : Str} {mo : M D} : mFld c f mo δ = (mo δ).bind fun x δ1 => mOf (fld c f x) δ1 := rfl
theorem ev_prop {c : Str} {f : List D → R D} {mo : M D} : mProp c f mo δ = (mo δ).bind fun x δ1 => if isObj c x = true then back (f [x]) δ1 else .stuck := rfl
def kInO2 (neg : Bool) (c : Str) (f : List D → R D) (x y : D) : M Bool := fun δ => if isObj c y = true then (back (f [y, x]) δ).bind fun d δ3 => (mOf (asB d) δ3).bind fun b δ4 => .ok (neg ^^ b) δ4 else .stuck
def kInO (neg : Bool) (c : Str) (f : List D → R D) (mb : M D) (x : D) : M Bool := fun δ => (mb δ).bind (kInO2 neg c f x)
theorem ev_inO {neg : Bool} {c : Str} {f : List D → R D} {ma mb : M D} : mInO neg c f ma mb δ = (ma δ).bind (kInO neg c f mb) := rfl
theorem kInO_ev {neg : Bool} {c : Str} {f : List D → R D} {mb : M D} {x : D} : kInO neg c f mb x δ = (mb δ).bind (kInO2 neg c f x) := rfl
theorem kInO2_ev {neg : Bool} {c : Str} {f : List D → R D} {x y : D} : kInO2 neg c f x y δ = if isObj c y = true then (back (f [y, x]) δ).bind fun d δ3 => (mOf (asB d) δ3).bind fun b δ4 => .ok (neg ^^ b) δ4 else .stuck := rfl
def kLenO (c : Str) (f : List D → R D) (xs : List D) : M D := fun δ => match xs with
  | [x] => if isObj c x = true then (back (f [x]) δ).bind fun d δ2 => mOf (lenO d) δ2 else .stuck
  | _ => .stuck
theorem ev_lenO {c : Str} {f : List D → R D} {ma : M (List D)} : mLenO c f ma δ = (ma δ).bind (kLenO c f) := rfl
theorem kLenO_ev {c : Str} {f : List D → R D} {x : D} : kLenO c f [x] δ = if isObj c x = true then (back (f [x]) δ).bind fun d δ2 => mOf (lenO d) δ2 else .stuck := rfl
def kSetA (c f : Str) (i : Nat) (d : D) : M Out := fun δ1 => match ownD δ1 i with
  | some (.obj c' ns ds) => if c' = c ∧ ns.length < 1000 then .ok .nx (putO δ1 i (.obj c (putN f ns) (putV f d ns ds))) else .stuck
  | _ => .stuck
theorem ev_setA {c f : Str} {m : M D} : mSetA c f i m δ = (m δ).bind (kSetA c f i) := rfl
theorem kSetA_ev {c f : Str} {ns : List Str} {ds : List D} (h : ownD δ i = some (.obj c ns ds)) (hl : ns.length < 1000) : kSetA c f i d δ = .ok .nx (putO δ i (.obj c (putN f ns) (putV f d ns ds))) := by
  simp [kSetA, h, hl]
theorem ev_make {c : Str} {n : Nat} {f : D → List D → R (D × D)} {es : List D} {ma : M (List D)} : mMake c n f es ma δ = (ma δ).bind fun ds δ1 => if (ds ++ es).length = n then (match f (.obj c [] []) (ds ++ es) with
  | .ok (.dat .none, d1) => .ok d1 δ1
  | _ => .stuck) else .stuck := rfl
theorem ev_listRg {m : M D} {n : Nat} (h : m δ = .ok (.dat (.int n)) δ') (hn : n ≤ 1000000) : mListRg m δ = .ok (.dat (.list (rangeP n))) δ' := by
  unfold mListRg
  rw [h, bind_ok]
  simp only [Int.toNat_natCast]
  rw [if_pos ⟨by omega, by omega⟩]
theorem ev_callN {n : Nat} {f : List D → R D} {ma : M (List D)} : mCallN n f ma δ = (ma δ).bind fun ds δ1 => if ds.length = n then (match f ds with
  | .ok d => .ok d δ1
  | _ => .stuck) else .stuck := rfl
theorem ev_rng1 {m : M (List D)} {n : Nat} (h : m δ = .ok [.dat (.int n)] δ') (hn : n ≤ 1000000) : mRng1 m δ = .ok (rangeD 0 n) δ' := by
  unfold mRng1
  rw [h, bind_ok]
  have : cRng (n : Int) = true := by simp [cRng]; omega
  simp only [this, if_true, Int.toNat_natCast]
/-! operators -/
theorem iLt_ev {x y : Int} : iLt (.dat (.int x)) (.dat (.int y)) = some (decide (x < y)) := rfl
theorem iLe_ev {x y : Int} : iLe (.dat (.int x)) (.dat (.int y)) = some (decide (x ≤ y)) := rfl
theorem iGt_ev {x y : Int} : iGt (.dat (.int x)) (.dat (.int y)) = some (decide (y < x)) := rfl
theorem iGe_ev {x y : Int} : iGe (.dat (.int x)) (.dat (.int y)) = some (decide (y ≤ x)) := rfl
theorem iAdd_ev {x y : Int} : iAdd (.dat (.int x)) (.dat (.int y)) = some (.dat (.int (x + y))) := rfl
theorem iSub_ev {x y : Int} : iSub (.dat (.int x)) (.dat (.int y)) = some (.dat (.int (x - y))) := rfl
theorem iMod_ev {x y : Int} (h : 0 < y) : iMod (.dat (.int x)) (.dat (.int y)) = some (.dat (.int (x % y))) := by
  show (if decide (0 < y) = true then some (D.dat (.int (x % y))) else none) = _
  rw [if_pos (decide_eq_true h)]
theorem iDiv_ev {x y : Int} (h : 0 < y) (h2 : y < 1073741824) : iDiv (.dat (.int x)) (.dat (.int y)) = some (.dat (.int (x / y))) := by
  show (if cDiv x y = true then some (D.dat (.int (x / y))) else none) = _
  rw [if_pos (by simp [cDiv, h, h2])]
theorem iMul_ev {x y : Int} (h : -(2 ^ 64) < x ∧ x < 2 ^ 64) : iMul (.dat (.int x)) (.dat (.int y)) = some (.dat (.int (x * y))) := by
  show (if cMul x y = true then some (D.dat (.int (x * y))) else none) = _
  rw [if_pos (by unfold cMul; rw [decide_eq_true h.1, decide_eq_true h.2]; rfl)]
theorem iMul_ev' {x y : Int} (h : -(2 ^ 64) < y ∧ y < 2 ^ 64) : iMul (.dat (.int x)) (.dat (.int y)) = some (.dat (.int (x * y))) := by
  show (if cMul x y = true then some (D.dat (.int (x * y))) else none) = _
  rw [if_pos (by unfold cMul; rw [decide_eq_true h.1, decide_eq_true h.2]; simp)]
theorem iPowW_ev {x y : Int} (h : 0 ≤ y ∧ (Builtin.Int.intBits x : Int) * y ≤ 2 ^ 27) : iPowW (.dat (.int x)) (.dat (.int y)) = some (.dat (.int (x ^ y.toNat))) := by
  show (if cPowW x y = true then some (D.dat (.int (x ^ y.toNat))) else none) = _
  rw [if_pos (by unfold cPowW; rw [decide_eq_true h.1, decide_eq_true h.2]; rfl)]
theorem intF_i {x : Int} : intF [.dat (.int x)] = some (.dat (.int x)) := rfl
theorem intF_b {x : Bool} : intF [.dat (.bool x)] = some (.dat (.int (if x then 1 else 0))) := rfl
theorem absF_ev {x : Int} : absF [.dat (.int x)] = some (.dat (.int (if x < 0 then -x else x))) := rfl
theorem minF_ev {x y : Int} : minF [.dat (.int x), .dat (.int y)] = some (.dat (.int (if y < x then y else x))) := rfl
theorem maxF_ev {x y : Int} : maxF [.dat (.int x), .dat (.int y)] = some (.dat (.int (if y > x then y else x))) := rfl
theorem lenF_l {l : List PyData} : lenF [.dat (.list l)] = some (.dat (.int (l.length : Nat))) := rfl
theorem lenF_t {l : List PyData} : lenF [.dat (.tuple l)] = some (.dat (.int (l.length : Nat))) := rfl
theorem lenF_sc {l : List Int} : lenF [.scr l] = some (.dat (.int (l.length : Nat))) := rfl
theorem lenF_s {s : Str} (h : s.length ≤ most) : lenF [.dat (.str s)] = some (.dat (.int (s.length : Nat))) := by
  show (if s.length ≤ most then some (D.dat (.int (s.length : Nat))) else none) = _
  rw [if_pos h]
theorem listF_l {l : List PyData} : listF [.dat (.list l)] = some (.dat (.list l)) := rfl
theorem listF_t {l : List PyData} : listF [.dat (.tuple l)] = some (.dat (.list l)) := rfl
theorem tupleF_l {l : List PyData} (h : l.length ≤ most) : tupleF [.dat (.list l)] = some (.dat (.tuple l)) := by
  show (if l.length ≤ most then some (D.dat (.tuple l)) else none) = _
  rw [if_pos h]
theorem tupleF_t {l : List PyData} : tupleF [.dat (.tuple l)] = some (.dat (.tuple l)) := rfl
theorem boD_ev {x : Bool} : boD (some x) = some (.dat (.bool x)) := rfl
theorem eqB_ev {x y : PyData} (hx : SeqAt.shaped x = true) (hy : SeqAt.shaped y = true) : eqB (.dat x) (.dat y) = some (PyData.eqv x y) := by
  show (if (SeqAt.shaped x && SeqAt.shaped y) = true then some (PyData.eqv x y) else none) = _
  rw [hx, hy]; rfl
theorem neB_ev {x y : PyData} (hx : SeqAt.shaped x = true) (hy : SeqAt.shaped y = true) : neB (.dat x) (.dat y) = some (!PyData.eqv x y) := by
  unfold neB; rw [eqB_ev hx hy]; rfl
theorem inB_l {neg : Bool} {x : PyData} {l : List PyData} (hx : SeqAt.shaped x = true) (hy : SeqAt.shaped (.list l) = true) : inB neg (.dat x) (.dat (.list l)) = some (neg ^^ l.any fun z => PyData.eqv z x) := by
  show (if (SeqAt.shaped x && SeqAt.shaped (.list l)) = true then some (neg ^^ l.any fun z => PyData.eqv z x) else none) = _
  rw [hx, hy]; rfl
theorem inB_t {neg : Bool} {x : PyData} {l : List PyData} (hx : SeqAt.shaped x = true) (hy : SeqAt.shaped (.tuple l) = true) : inB neg (.dat x) (.dat (.tuple l)) = some (neg ^^ l.any fun z => PyData.eqv z x) := by
  show (if (SeqAt.shaped x && SeqAt.shaped (.tuple l)) = true then some (neg ^^ l.any fun z => PyData.eqv z x) else none) = _
  rw [hx, hy]; rfl
theorem ixF_l {l : List PyData} {i : Nat} {x : PyData} (h : l[i]? = some x) : ixF (.dat (.list l)) (.dat (.int (i : Nat))) = some (.dat x) := by
  simp [ixF, atI_nat h]
theorem ixF_t {l : List PyData} {i : Nat} {x : PyData} (h : l[i]? = some x) : ixF (.dat (.tuple l)) (.dat (.int (i : Nat))) = some (.dat x) := by
  simp [ixF, atI_nat h]
theorem ixF_l0 {x : PyData} {l : List PyData} : ixF (.dat (.list (x :: l))) (.dat (.int 0)) = some (.dat x) := ixF_l (i := 0) rfl
theorem ixF_l1 {x y : PyData} {l : List PyData} : ixF (.dat (.list (x :: y :: l))) (.dat (.int 1)) = some (.dat y) := ixF_l (i := 1) rfl
theorem ixF_l2 {x y z : PyData} {l : List PyData} : ixF (.dat (.list (x :: y :: z :: l))) (.dat (.int 2)) = some (.dat z) := ixF_l (i := 2) rfl
theorem ixF_t0 {x : PyData} {l : List PyData} : ixF (.dat (.tuple (x :: l))) (.dat (.int 0)) = some (.dat x) := ixF_t (i := 0) rfl
theorem ixF_t1 {x y : PyData} {l : List PyData} : ixF (.dat (.tuple (x :: y :: l))) (.dat (.int 1)) = some (.dat y) := ixF_t (i := 1) rfl
theorem ixF_t2 {x y z : PyData} {l : List PyData} : ixF (.dat (.tuple (x :: y :: z :: l))) (.dat (.int 2)) = some (.dat z) := ixF_t (i := 2) rfl
theorem out_ret {x : D} : outR1 (.ok (.ret d) (.io x :: δ)) = .ok (d, x) := rfl
theorem out_nx {x : D} : outR1 (.ok .nx (.io x :: δ)) = .ok (.dat .none, x) := rfl
theorem outR_ret : outR (.ok (.ret d) δ) = .ok d := rfl
theorem outR_nx : outR (.ok .nx δ) = .ok (.dat .none) := rfl
theorem noX_ok : noX (.ok d) = .ok d := rfl
theorem mkTup_0 : mkTup [] = some (.dat (.tuple [])) := by
  show (if 0 ≤ most then some [] else none).map _ = _
  rw [if_pos (by decide)]; rfl
theorem mkLst_0 : mkLst [] = some (.dat (.list [])) := by
  show (if 0 ≤ most then some [] else none).map _ = _
  rw [if_pos (by decide)]; rfl
theorem mkTup_1 {x0 : PyData} : mkTup [.dat x0] = some (.dat (.tuple [x0])) := by
  show (if 1 ≤ most then some [x0] else none).map _ = _
  rw [if_pos (by decide)]; rfl
theorem mkLst_1 {x0 : PyData} : mkLst [.dat x0] = some (.dat (.list [x0])) := by
  show (if 1 ≤ most then some [x0] else none).map _ = _
  rw [if_pos (by decide)]; rfl
theorem mkTup_2 {x0 x1 : PyData} : mkTup [.dat x0, .dat x1] = some (.dat (.tuple [x0, x1])) := by
  show (if 2 ≤ most then some [x0, x1] else none).map _ = _
  rw [if_pos (by decide)]; rfl
theorem mkLst_2 {x0 x1 : PyData} : mkLst [.dat x0, .dat x1] = some (.dat (.list [x0, x1])) := by
  show (if 2 ≤ most then some [x0, x1] else none).map _ = _
  rw [if_pos (by decide)]; rfl
theorem mkTup_3 {x0 x1 x2 : PyData} : mkTup [.dat x0, .dat x1, .dat x2] = some (.dat (.tuple [x0, x1, x2])) := by
  show (if 3 ≤ most then some [x0, x1, x2] else none).map _ = _
  rw [if_pos (by decide)]; rfl
theorem mkLst_3 {x0 x1 x2 : PyData} : mkLst [.dat x0, .dat x1, .dat x2] = some (.dat (.list [x0, x1, x2])) := by
  show (if 3 ≤ most then some [x0, x1, x2] else none).map _ = _
  rw [if_pos (by decide)]; rfl
theorem mkTup_4 {x0 x1 x2 x3 : PyData} : mkTup [.dat x0, .dat x1, .dat x2, .dat x3] = some (.dat (.tuple [x0, x1, x2, x3])) := by
  show (if 4 ≤ most then some [x0, x1, x2, x3] else none).map _ = _
  rw [if_pos (by decide)]; rfl
theorem mkLst_4 {x0 x1 x2 x3 : PyData} : mkLst [.dat x0, .dat x1, .dat x2, .dat x3] = some (.dat (.list [x0, x1, x2, x3])) := by
  show (if 4 ≤ most then some [x0, x1, x2, x3] else none).map _ = _
  rw [if_pos (by decide)]; rfl
theorem mkTup_5 {x0 x1 x2 x3 x4 : PyData} : mkTup [.dat x0, .dat x1, .dat x2, .dat x3, .dat x4] = some (.dat (.tuple [x0, x1, x2, x3, x4])) := by
  show (if 5 ≤ most then some [x0, x1, x2, x3, x4] else none).map _ = _
  rw [if_pos (by decide)]; rfl
theorem mkLst_5 {x0 x1 x2 x3 x4 : PyData} : mkLst [.dat x0, .dat x1, .dat x2, .dat x3, .dat x4] = some (.dat (.list [x0, x1, x2, x3, x4])) := by
  show (if 5 ≤ most then some [x0, x1, x2, x3, x4] else none).map _ = _
  rw [if_pos (by decide)]; rfl
theorem slL_ev {l : List PyData} {a b : Option Int} : slL (.dat (.list l)) a b = some (.dat (.list (cutD l a b))) := rfl
theorem slT_ev {l : List PyData} {a b : Option Int} : slT (.dat (.tuple l)) a b = some (.dat (.tuple (cutD l a b))) := rfl
theorem slQ_l {l : List PyData} {a b : Option Int} : slQ (.dat (.list l)) a b = some (.dat (.list (cutD l a b))) := rfl
theorem slQ_t {l : List PyData} {a b : Option Int} : slQ (.dat (.tuple l)) a b = some (.dat (.tuple (cutD l a b))) := rfl
theorem revF_t {l : List PyData} : revF (.dat (.tuple l)) = some (.dat (.tuple l.reverse)) := rfl
theorem revF_l {l : List PyData} : revF (.dat (.list l)) = some (.dat (.list l.reverse)) := rfl
theorem gT_t {n : Nat} {r : List D → Env → Option Env} {l : List PyData} (h : l.length = n) : gT n r (.dat (.tuple l)) δ = r (l.map .dat) δ := by
  show (if l.length = n then r (l.map .dat) δ else none) = _
  rw [if_pos h]
theorem gT_w {n : Nat} {r : List D → Env → Option Env} {l : List D} (h : l.length = n) : gT n r (.wk l) δ = r l δ := by
  show (if l.length = n then r l δ else none) = _
  rw [if_pos h]
theorem gL_l {n : Nat} {r : List D → Env → Option Env} {l : List PyData} (h : l.length = n) : gL n r (.dat (.list l)) δ = r (l.map .dat) δ := by
  show (if l.length = n then r (l.map .dat) δ else none) = _
  rw [if_pos h]
theorem gsNil_ev : gsNil [] δ = some δ := rfl
theorem gsCons_ev {g : D → Env → Option Env} {r : List D → Env → Option Env} {ds : List D} : gsCons g r (d :: ds) δ = (g d δ).bind fun δ1 => r ds δ1 := rfl
theorem cutD_from {α : Type} {xs : List α} {k : Nat} : cutD xs (some (k : Int)) none = xs.drop k := by
  unfold cutD
  have e1 : HT.sIx xs.length 0 (some (k : Int)) = min k xs.length := by
    show (if (k : Int) < 0 then ((k : Int) + (xs.length : Int)).toNat else min (k : Int).toNat xs.length) = _
    rw [if_neg (by omega)]; simp
  have e2 : HT.sIx xs.length xs.length none = xs.length := rfl
  rw [e1, e2]
  by_cases h : k ≤ xs.length
  · rw [Nat.min_eq_left h]
    exact List.take_of_length_le (by rw [List.length_drop]; omega)
  · rw [Nat.min_eq_right (by omega), List.drop_of_length_le (by omega), List.drop_of_length_le (by omega)]; simp
theorem cutD_to {α : Type} {xs : List α} {k : Nat} : cutD xs none (some (k : Int)) = xs.take k := by
  unfold cutD
  have e1 : HT.sIx xs.length xs.length (some (k : Int)) = min k xs.length := by
    show (if (k : Int) < 0 then ((k : Int) + (xs.length : Int)).toNat else min (k : Int).toNat xs.length) = _
    rw [if_neg (by omega)]; simp
  have e2 : HT.sIx xs.length 0 none = 0 := rfl
  rw [e1, e2, List.drop_zero, Nat.sub_zero]
  by_cases h : k ≤ xs.length
  · rw [Nat.min_eq_left h]
  · rw [Nat.min_eq_right (by omega), List.take_of_length_le (Nat.le_refl _), List.take_of_length_le (by omega)]
/-! comprehensions -/
theorem lcL_ev {vs : List Nat} {g : D → Env → Option Env} {c : M Bool} {me : M D} (p : D → Bool) (h : D → PyData) : ∀ {items : List D} {acc : List PyData} {δ : Env}, (∀ d ∈ items, ∃ δ2 δ3, g d δ = some δ2 ∧ c δ2 = .ok (p d) δ3 ∧ (p d = true → ∃ δ4, me δ3 = .ok (.dat (h d)) δ4 ∧ wipeD δ4 vs = δ) ∧ (p d = false → wipeD δ3 vs = δ)) →
    lcL vs g c me items acc δ = .ok (acc ++ (items.filter p).map h) δ
  | [], acc, δ, _ => by simp [lcL]
  | d :: ds, acc, δ, H => by
    obtain ⟨δ2, δ3, h1, h2, h3, h4⟩ := H d (.head _)
    have ih := fun acc => lcL_ev p h (items := ds) (acc := acc) (δ := δ) fun d hd => H d (.tail _ hd)
    unfold lcL
    rw [h1, ev_of, bind_ok, h2, bind_ok]
    cases hp : p d with
    | true =>
      obtain ⟨δ4, h5, h6⟩ := h3 hp
      rw [if_pos rfl, h5, bind_ok]
      show (mOf (some (h d)) δ4).bind _ = _
      rw [ev_of, bind_ok, h6, ih]
      simp [hp]
    | false =>
      rw [if_neg (by simp), h4 hp, ih]
      simp [hp]
theorem ev_lc {vs : List Nat} {m : M (List D)} {g : D → Env → Option Env} {c : M Bool} {me : M D} {items : List D} {δ1 δ2 : Env} {r : List PyData} (hm : m δ = .ok items δ1) (hl : items.length ≤ most) (h : lcL vs g c me items [] (wipeD δ1 vs) = .ok r δ2) :
    mLc vs m g c me δ = .ok (.dat (.list r)) (unwipe δ1 δ2 vs) := by
  unfold mLc
  rw [hm, bind_ok, if_pos hl, h]
theorem lcL_map {α : Type} {vs : List Nat} {g : D → Env → Option Env} {c : M Bool} {me : M D} {enc : α → D} {p : α → Bool} {h : α → PyData} : ∀ {xs : List α} {acc : List PyData} {δ : Env}, (∀ x ∈ xs, ∃ δ2 δ3, g (enc x) δ = some δ2 ∧ c δ2 = .ok (p x) δ3 ∧ (p x = true → ∃ δ4, me δ3 = .ok (.dat (h x)) δ4 ∧ wipeD δ4 vs = δ) ∧ (p x = false → wipeD δ3 vs = δ)) →
    lcL vs g c me (xs.map enc) acc δ = .ok (acc ++ (xs.filter p).map h) δ
  | [], acc, δ, _ => by simp [lcL]
  | d :: ds, acc, δ, H => by
    obtain ⟨δ2, δ3, h1, h2, h3, h4⟩ := H d (.head _)
    have ih := fun acc => lcL_map (xs := ds) (acc := acc) (δ := δ) fun d hd => H d (.tail _ hd)
    rw [List.map_cons]
    unfold lcL
    rw [h1, ev_of, bind_ok, h2, bind_ok]
    cases hp : p d with
    | true =>
      obtain ⟨δ4, h5, h6⟩ := h3 hp
      rw [if_pos rfl, h5, bind_ok]
      show (mOf (some (h d)) δ4).bind _ = _
      rw [ev_of, bind_ok, h6, ih]
      simp [hp]
    | false =>
      rw [if_neg (by simp), h4 hp, ih]
      simp [hp]
theorem ev_lcM {α : Type} {vs : List Nat} {m : M (List D)} {g : D → Env → Option Env} {c : M Bool} {me : M D} {enc : α → D} {p : α → Bool} {h : α → PyData} {xs : List α} {δ1 δw δr : Env} (hm : m δ = .ok (xs.map enc) δ1) (hl : xs.length ≤ most) (hw : wipeD δ1 vs = δw) (hu : unwipe δ1 δw vs = δr)
    (H : ∀ x ∈ xs, ∃ δ2 δ3, g (enc x) δw = some δ2 ∧ c δ2 = .ok (p x) δ3 ∧ (p x = true → ∃ δ4, me δ3 = .ok (.dat (h x)) δ4 ∧ wipeD δ4 vs = δw) ∧ (p x = false → wipeD δ3 vs = δw)) : mLc vs m g c me δ = .ok (.dat (.list ((xs.filter p).map h))) δr := by
  rw [ev_lc (r := (xs.filter p).map h) (δ1 := δ1) (δ2 := δw) hm (by rw [List.length_map]; exact hl) (by rw [hw, lcL_map H]; simp), hu]
/-- without a test -/
theorem ev_lcA {α : Type} {vs : List Nat} {m : M (List D)} {g : D → Env → Option Env} {me : M D} {enc : α → D} {h : α → PyData} {xs : List α} {δ1 δw δr : Env} (hm : m δ = .ok (xs.map enc) δ1) (hl : xs.length ≤ most) (hw : wipeD δ1 vs = δw) (hu : unwipe δ1 δw vs = δr)
    (H : ∀ x ∈ xs, ∃ δ2 δ4, g (enc x) δw = some δ2 ∧ me δ2 = .ok (.dat (h x)) δ4 ∧ wipeD δ4 vs = δw) : mLc vs m g mYes me δ = .ok (.dat (.list (xs.map h))) δr := by
  rw [ev_lcM (p := fun _ => true) (h := h) hm hl hw hu fun x hx => by
    obtain ⟨δ2, δ4, h1, h2, h3⟩ := H x hx
    exact ⟨δ2, δ2, h1, rfl, fun _ => ⟨δ4, h2, h3⟩, fun z => by cases z⟩]
  rw [List.filter_eq_self.mpr (by simp)]
theorem dats_map {α : Type} {f : α → PyData} {xs : List α} : dats (xs.map f) = xs.map fun x => D.dat (f x) := by simp [dats, Function.comp_def]
/-! loops -/
theorem forL_nil {g : D → Env → Option Env} {mb : M Out} : forL g mb [] δ = .ok .nx δ := rfl
theorem forL_cons {g : D → Env → Option Env} {mb : M Out} {ds : List D} {δ2 δ3 : Env} (hg : g d δ = some δ2) (hb : mb δ2 = .ok .nx δ3) : forL g mb (d :: ds) δ = forL g mb ds δ3 := by
  show (mOf (g d δ) δ).bind _ = _
  rw [hg, ev_of, bind_ok, hb, bind_ok]
theorem forL_ret {g : D → Env → Option Env} {mb : M Out} {ds : List D} {x : D} {δ2 δ3 : Env} (hg : g d δ = some δ2) (hb : mb δ2 = .ok (.ret x) δ3) : forL g mb (d :: ds) δ = .ok (.ret x) δ3 := by
  show (mOf (g d δ) δ).bind _ = _
  rw [hg, ev_of, bind_ok, hb, bind_ok]
theorem unwipe_ev {δ0 : Env} : unwipe δ0 δ [i] = δ.set i (match (δ0[i]? : Option SV) with | some (.fz d) => .fz d | _ => .no) := rfl
theorem wipe_ev : wipeD δ [i] = δ.set i .no := rfl
theorem wipe_ev2 {j : Nat} : wipeD δ [i, j] = (δ.set j .no).set i .no := rfl
end
end DL

namespace DL
open PySem PySem.Spec PyProof.Rows L2 MT PySem.W
/-! ### two clauses -/
theorem lc2L_map {α β : Type} {vs vs1 : List Nat} {g g1 : D → Env → Option Env} {c c1 : M Bool} {m1 : M (List D)} {me : M D} {enc : α → D} {enc1 : β → D} {ys : List β} {p1 : α → β → Bool} {h : α → β → PyData} (hl : ys.length ≤ 1000) :
    ∀ {xs : List α} {acc : List PyData} {δ : Env}, (∀ x ∈ xs, ∃ δ2 δ4 δ5, g (enc x) δ = some δ2 ∧ c δ2 = .ok true δ2 ∧ m1 δ2 = .ok (ys.map enc1) δ4 ∧ wipeD δ4 vs1 = δ5 ∧ wipeD δ5 vs = δ ∧
      ∀ y ∈ ys, ∃ δ6 δ7, g1 (enc1 y) δ5 = some δ6 ∧ c1 δ6 = .ok (p1 x y) δ7 ∧ (p1 x y = true → ∃ δ8, me δ7 = .ok (.dat (h x y)) δ8 ∧ wipeD δ8 vs1 = δ5) ∧ (p1 x y = false → wipeD δ7 vs1 = δ5)) →
    lc2L vs vs1 g c m1 g1 c1 me (xs.map enc) acc δ = .ok (acc ++ xs.flatMap fun x => (ys.filter (p1 x)).map (h x)) δ
  | [], acc, δ, _ => by simp [lc2L]
  | x :: xs, acc, δ, H => by
    obtain ⟨δ2, δ4, δ5, h1, h2, h3, h4, h5, h6⟩ := H x (.head _)
    have ih := fun acc => lc2L_map hl (xs := xs) (acc := acc) (δ := δ) fun d hd => H d (.tail _ hd)
    rw [List.map_cons]
    unfold lc2L
    rw [h1, ev_of, bind_ok, h2, bind_ok, if_pos rfl, h3, bind_ok, if_pos (by rw [List.length_map]; exact hl), h4, lcL_map (p := p1 x) (h := h x) h6, bind_ok, h5, ih]
    simp
theorem ev_lc2 {α β : Type} {vs vs1 : List Nat} {m m1 : M (List D)} {g g1 : D → Env → Option Env} {c c1 : M Bool} {me : M D} {enc : α → D} {enc1 : β → D} {xs : List α} {ys : List β} {p1 : α → β → Bool} {h : α → β → PyData} {δ δ1 δw δr : Env} (hx : xs.length ≤ 1000) (hl : ys.length ≤ 1000)
    (hm : m δ = .ok (xs.map enc) δ1) (hw : wipeD δ1 vs = δw) (hu : unwipe δ1 δw vs = δr)
    (H : ∀ x ∈ xs, ∃ δ2 δ4 δ5, g (enc x) δw = some δ2 ∧ c δ2 = .ok true δ2 ∧ m1 δ2 = .ok (ys.map enc1) δ4 ∧ wipeD δ4 vs1 = δ5 ∧ wipeD δ5 vs = δw ∧
      ∀ y ∈ ys, ∃ δ6 δ7, g1 (enc1 y) δ5 = some δ6 ∧ c1 δ6 = .ok (p1 x y) δ7 ∧ (p1 x y = true → ∃ δ8, me δ7 = .ok (.dat (h x y)) δ8 ∧ wipeD δ8 vs1 = δ5) ∧ (p1 x y = false → wipeD δ7 vs1 = δ5)) :
    mLc2 vs vs1 m g c m1 g1 c1 me δ = .ok (.dat (.list (xs.flatMap fun x => (ys.filter (p1 x)).map (h x)))) δr := by
  unfold mLc2
  rw [hm, bind_ok, if_pos (by rw [List.length_map]; exact hx), hw, lc2L_map hl H, List.nil_append]
  simp only
  rw [hu]
/-! ### sorted -/
theorem leD_total : TotalLe leD := sortLe_total (listOrd itemOrd) false fun b : PyData => keyToks (id b)
theorem leD_anti {a b : PyData} (h1 : leD a b = true) (h2 : leD b a = true) : keyToks a = keyToks b := by
  have h1 : (!PyProof.Rows.lexLt itemOrd (keyToks b) (keyToks a)) = true := h1
  have h2 : (!PyProof.Rows.lexLt itemOrd (keyToks a) (keyToks b)) = true := h2
  rw [Bool.not_eq_true'] at h1 h2
  exact (listOrd itemOrd).total _ _ h2 h1
theorem all_eq_filter {α : Type} {c : α} : ∀ {m n : List α}, (∀ a ∈ m, a = c) → (∀ a ∈ n, a = c) → m.length = n.length → m = n
  | [], [], _, _, _ => rfl
  | [], _ :: _, _, _, h => by cases h
  | _ :: _, [], _, _, h => by cases h
  | a :: m, b :: n, h1, h2, h => by
    rw [h1 a (.head _), h2 b (.head _), all_eq_filter (fun x hx => h1 x (.tail _ hx)) (fun x hx => h2 x (.tail _ hx)) (by simpa using h)]
/-- sorted, whatever sequence they came in -/
theorem sort_perm {α : Type} {enc : α → PyData} (inj : ∀ a b, keyToks (enc a) = keyToks (enc b) → a = b) {xs ys : List α} (h : xs.Perm ys) : (xs.map enc).mergeSort leD = (ys.map enc).mergeSort leD := by
  refine sort_unique leD_total (sort_pairwise leD_total _) fun c => ?_
  rw [sort_stable leD_total]
  have hp : ((xs.map enc).filter (sameRank leD c)).Perm ((ys.map enc).filter (sameRank leD c)) := (h.map enc).filter _
  cases e : (xs.map enc).filter (sameRank leD c) with
  | nil => rw [e] at hp; exact (List.perm_nil.mp hp.symm).symm
  | cons z zs =>
    have hz : z ∈ (xs.map enc).filter (sameRank leD c) := by rw [e]; exact .head _
    have key : ∀ l : List α, ∀ a ∈ (l.map enc).filter (sameRank leD c), a = z := fun l a ha => by
      obtain ⟨h1, h2⟩ := List.mem_filter.mp ha
      obtain ⟨h3, h4⟩ := List.mem_filter.mp hz
      obtain ⟨x, _, rfl⟩ := List.mem_map.mp h1
      obtain ⟨y, _, rfl⟩ := List.mem_map.mp h3
      unfold sameRank at h2 h4
      rw [Bool.and_eq_true] at h2 h4
      have := leD_anti (leD_total.trans _ _ _ h2.2 h4.1) (leD_total.trans _ _ _ h4.2 h2.1)
      rw [inj _ _ this]
    rw [e.symm]
    exact all_eq_filter (key xs) (key ys) hp.length_eq
theorem alikeB_map {α : Type} {enc : α → PyData} {xs : List α} (h : ∀ a b, alike (enc a) (enc b) = true) : alikeB (xs.map enc) = true := by
  unfold alikeB
  rw [List.all_map]
  refine List.all_eq_true.mpr fun a _ => ?_
  show ((xs.map enc).all fun e => alike (enc a) e) = true
  rw [List.all_map]
  exact List.all_eq_true.mpr fun b _ => h a b
theorem sortableB_tup {α : Type} {enc : α → PyData} {xs : List α} (h : ∀ a, ∃ x r, enc a = .tuple (x :: r)) : sortableB (xs.map enc) = true := by
  unfold sortableB
  rw [Bool.or_eq_true]
  left
  rw [List.all_map]
  refine List.all_eq_true.mpr fun a _ => ?_
  obtain ⟨x, r, e⟩ := h a
  simp [e]
theorem sortF_ev {ds : List PyData} (h1 : alikeB ds = true) (h2 : sortableB ds = true) (h3 : SeqAt.shaped (.list ds) = true) (h4 : ∀ d ∈ ds, d.depth ≤ 60) : sortF [.dat (.list ds)] = some (.dat (.list (ds.mergeSort leD))) := by
  show (if (alikeB ds && (sortableB ds && (SeqAt.shaped (.list ds) && ds.all fun d => decide (d.depth ≤ 60)))) = true then some (D.dat (.list (ds.mergeSort leD))) else none) = _
  rw [h1, h2, h3, List.all_eq_true.mpr fun d hd => decide_eq_true (h4 d hd)]
  rfl
/-- a loop that leads a state on; t is the slot of the loop's name -/
theorem forL_fold {α S T : Type} {g : D → Env → Option Env} {mb : M Out} {enc : α → D} {env : S → T → Env} {step : S → α → S} {P : S → Nat → Prop} :
    ∀ {xs : List α} {s : S} {t : T}, P s xs.length → (∀ x ∈ xs, ∀ s t n, P s (n + 1) → P (step s x) n ∧ ∃ δ t', g (enc x) (env s t) = some δ ∧ mb δ = .ok .nx (env (step s x) t')) →
    ∃ t', forL g mb (xs.map enc) (env s t) = .ok .nx (env (xs.foldl step s) t')
  | [], s, t, _, _ => ⟨t, rfl⟩
  | x :: xs, s, t, hp, H => by
    obtain ⟨p, δ, t1, h1, h2⟩ := H x (.head _) s t xs.length hp
    obtain ⟨t', ih⟩ := forL_fold (env := env) (step := step) (P := P) (xs := xs) (s := step s x) (t := t1) p fun y hy => H y (.tail _ hy)
    refine ⟨t', ?_⟩
    rw [List.map_cons, forL_cons h1 h2, ih]
    rfl
theorem tabF_ev {kvs : List (Str × Str)} {s z : Str} (h : kvs.lookup s = some z) : tabF kvs (.dat (.str s)) = some (.dat (.str z)) := by
  show (kvs.lookup s).map _ = _
  rw [h]; rfl
theorem gT2_dat {x y : PyData} {i j : Nat} {δ : Env} : gT 2 (gsCons (gN i) (gsCons (gN j) gsNil)) (.dat (.tuple [x, y])) δ = some ((δ.set i (.fz (.dat x))).set j (.fz (.dat y))) := rfl
theorem gT3_dat {x y z : PyData} {i j k : Nat} {δ : Env} : gT 3 (gsCons (gN i) (gsCons (gN j) (gsCons (gN k) gsNil))) (.dat (.tuple [x, y, z])) δ = some (((δ.set i (.fz (.dat x))).set j (.fz (.dat y))).set k (.fz (.dat z))) := rfl
theorem gT2_wk {x y : D} {i j : Nat} {δ : Env} : gT 2 (gsCons (gN i) (gsCons (gN j) gsNil)) (.wk [x, y]) δ = some ((δ.set i (.fz x)).set j (.fz y)) := rfl
/-- a loop that ends where a test fails -/
theorem forL_all {α T : Type} {g : D → Env → Option Env} {mb : M Out} {enc : α → D} {env : T → Env} {p : α → Bool} {r : D} :
    ∀ {xs : List α} {t : T}, (∀ x ∈ xs, ∀ t, ∃ δ t', g (enc x) (env t) = some δ ∧ mb δ = if p x = true then .ok .nx (env t') else .ok (.ret r) (env t')) →
    ∃ t', forL g mb (xs.map enc) (env t) = if xs.all p = true then .ok .nx (env t') else .ok (.ret r) (env t')
  | [], t, _ => ⟨t, rfl⟩
  | x :: xs, t, H => by
    obtain ⟨δ, t1, h1, h2⟩ := H x (.head _) t
    obtain ⟨t', ih⟩ := forL_all (env := env) (p := p) (r := r) (xs := xs) (t := t1) fun y hy => H y (.tail _ hy)
    cases hp : p x with
    | true =>
      rw [hp, if_pos rfl] at h2
      refine ⟨t', ?_⟩
      rw [List.map_cons, forL_cons h1 h2, ih, List.all_cons, hp, Bool.true_and]
    | false =>
      rw [hp, if_neg (by simp)] at h2
      refine ⟨t1, ?_⟩
      rw [List.map_cons, forL_ret h1 h2, List.all_cons, hp, Bool.false_and, if_neg (by simp)]
/-- a loop in which nothing fails -/
theorem forL_on {α T : Type} {g : D → Env → Option Env} {mb : M Out} {enc : α → D} {env : T → Env} : ∀ {xs : List α} {t : T}, (∀ x ∈ xs, ∀ t, ∃ δ t', g (enc x) (env t) = some δ ∧ mb δ = .ok .nx (env t')) →
    ∃ t', forL g mb (xs.map enc) (env t) = .ok .nx (env t')
  | [], t, _ => ⟨t, rfl⟩
  | x :: xs, t, H => by
    obtain ⟨δ, t1, h1, h2⟩ := H x (.head _) t
    obtain ⟨t', ih⟩ := forL_on (env := env) (xs := xs) (t := t1) fun y hy => H y (.tail _ hy)
    exact ⟨t', by rw [List.map_cons, forL_cons h1 h2, ih]⟩
/-! methods -/
def kMeth2 (n : Nat) (f : List D → R D) (es : List D) (x : D) : List D → M D := fun ds δ => if (x :: (ds ++ es)).length = n then back (f (x :: (ds ++ es))) δ else .stuck
def kMeth (c m : Str) (n : Nat) (f : List D → R D) (es : List D) (ma : M (List D)) (x : D) : M D := fun δ => if noFld c m x = true then (ma δ).bind (kMeth2 n f es x) else .stuck
theorem ev_meth {c m : Str} {n : Nat} {f : List D → R D} {es : List D} {mo : M D} {ma : M (List D)} {δ : Env} : mMeth c m n f es mo ma δ = (mo δ).bind (kMeth c m n f es ma) := rfl
theorem kMeth_ev {c m : Str} {n : Nat} {f : List D → R D} {es : List D} {ma : M (List D)} {x : D} {δ : Env} : kMeth c m n f es ma x δ = if noFld c m x = true then (ma δ).bind (kMeth2 n f es x) else .stuck := rfl
theorem kMeth2_ev {n : Nat} {f : List D → R D} {es : List D} {x : D} {ds : List D} {δ : Env} : kMeth2 n f es x ds δ = if (x :: (ds ++ es)).length = n then back (f (x :: (ds ++ es))) δ else .stuck := rfl
theorem gL3_dat {x y z : PyData} {i j k : Nat} {δ : Env} : gL 3 (gsCons (gN i) (gsCons (gN j) (gsCons (gN k) gsNil))) (.dat (.list [x, y, z])) δ = some (((δ.set i (.fz (.dat x))).set j (.fz (.dat y))).set k (.fz (.dat z))) := rfl
end DL

namespace DL
open PySem PySem.Spec PyProof.Rows L2 MT
/-! ### enumerate of a text -/
theorem meets_enumS (x : Str) (t : Tok) :
    Meets (Builtin.«enumerate.__new__» ⟨[.type "enumerate", .str x t], []⟩) (fun _ R s => 
      R (.ok (.ret (.ref (s.heap.push { cls := .type (strIterType x), data := .fields #[.str x t, .int 0 0] }).objs.size)))
        { s with heap := (s.heap.push { cls := .type (strIterType x), data := .fields #[.str x t, .int 0 0] }).push { cls := .type "enumerate", data := .fields #[.none, .bool false, .ref s.heap.objs.size, rawInt 0, .none, .none] } }) :=
  .of_wp fun prog w A R s h => by
    obtain ⟨hp, g, d, tk, os⟩ := s
    have hsub := sub_enumerate
    have q1 : ∀ {A' : Around} {E : Value → Shared → Prop} {Q : Value → Shared → Prop}, Q (.ref hp.objs.size) ⟨(hp.push { cls := .type (strIterType x), data := .fields #[.str x t, .int 0 0] }), g, d, tk, os⟩ → wpAny (model prog w) A' (pyIter (.str x t)) Q E ⟨hp, g, d, tk, os⟩ :=
      fun q => wpAny_pyIter_strU (s := ⟨hp, g, d, tk, os⟩) q
    wp_walk using q1
    refine wpAny_stack_any fun st => wpAny_pure ?_
    split
    · rename_i c _ _ _ _ _
      cases (c == Value.type "enumerate")
      · wp_walk using q1
        exact ⟨_, rfl, h⟩
      · wp_walk using q1
        exact ⟨_, rfl, h⟩
    · wp_walk using q1
      exact ⟨_, rfl, h⟩
section
variable {prog : Program} {w : World} {A : Around} {E : Value → Shared → Prop} {s : Shared}
theorem call_enumS {x : Str} {t : Tok} {Q : Value → Shared → Prop}
    (h : ∀ h', IsEnum h' (s.heap.objs.size + 1) s.heap.objs.size 0 .none → h'.IsStrIter s.heap.objs.size (strIterType x) x t 0 → h'.objs.size = s.heap.objs.size + 2 →
      (∀ b o, s.heap.get? b = some o → h'.get? b = some o) → Q (.ref (s.heap.objs.size + 1)) { s with heap := h' }) :
    wpAny (model prog w) A (call (.type "enumerate") [.str x t]) Q E s := by
  refine callType_new F.called_enumerate (by decide) (F.typeCall_enumerate_1 _) (F.newCall_enumerate_1 _) (fun obj => F.args_object_init_2 obj _) F.entry_enumerate_new
    (meets_enumS x t) ?_
  have hz : (s.heap.push { cls := .type (strIterType x), data := .fields #[.str x t, .int 0 0] }).objs.size = s.heap.objs.size + 1 := Heap.size_push ..
  show _ ∧ _
  rw [hz]
  have he : IsEnum ((s.heap.push { cls := .type (strIterType x), data := .fields #[.str x t, .int 0 0] }).push
      { cls := .type "enumerate", data := .fields #[.none, .bool false, .ref s.heap.objs.size, rawInt 0, .none, .none] }) (s.heap.objs.size + 1) s.heap.objs.size 0 .none := by
    have := Heap.get?_push_size (s.heap.push { cls := .type (strIterType x), data := .fields #[.str x t, .int 0 0] })
      (o := { cls := .type "enumerate", data := .fields #[.none, .bool false, .ref s.heap.objs.size, rawInt 0, .none, .none] }) rfl
    rw [hz] at this; exact this
  refine ⟨⟨_, he, rfl⟩, h _ he ⟨_, Heap.get?_push_of_some _ (Heap.get?_push_size _ rfl), rfl, rfl⟩ (by rw [Heap.size_push, hz]) fun b o x => Heap.get?_push_of_some _ (Heap.get?_push_of_some _ x)⟩
end
def sgV (x : Str) : List V := x.cps.toList.map fun c => V.str ⟨#[c]⟩
def sgP (x : Str) : List PyData := x.cps.toList.map fun c => PyData.str ⟨#[c]⟩
theorem sg_dd {K : PySem.W.Frag} {F : Hp} (x : Str) : DdAll K F (sgV x) (sgP x) := by
  unfold sgV sgP
  generalize x.cps.toList = l
  induction l with
  | nil => exact .nil
  | cons c l ih => exact .cons (.str _) ih
theorem turn_enumS {P : Program} {w : World} {K : PySem.W.Frag} {elts : List Expr} {kk : Nat} {tpos : Pos} (e it : Addr) (x : Str) (t : Tok) :
    Turn P w K (.Tuple elts kk tpos) (ItE (sgV x).length (fun _ => True) fun i => (sgV x)[i]?) [e, it] e (fun i h => (∃ old, IsEnum h e it ((i : Nat) : Int) old) ∧ h.IsStrIter it (strIterType x) x t i ∧ e ≠ it) where
  mem := by simp
  obj := fun i h st b hb => by
    obtain ⟨⟨old, he⟩, ⟨o, ho, hc, hd⟩, _⟩ := st
    have e' : b = e ∨ b = it := by simpa using hb
    rcases e' with z | z
    · rw [z]; exact ⟨_, he, fun v q => nomatch q⟩
    · rw [z]; exact ⟨o, ho, fun v q => by rw [hd] at q; cases q⟩
  keep := fun i h h' st k => let ⟨⟨old, he⟩, ⟨o, ho, hc, hd⟩, hne⟩ := st; ⟨⟨old, k e (by simp) _ he⟩, ⟨o, k it (by simp) o ho, hc, hd⟩, hne⟩
  item := by
    intro X hP hw hK hc i pins s σ H E I hf st hg
    subst hP hw hK
    obtain ⟨⟨old, he⟩, hit, hne⟩ := st
    obtain ⟨hi, _⟩ := hg
    have hsz : (sgV x).length = x.cps.size := by unfold sgV; rw [List.length_map, Array.length_toList]
    have hel : e < s.heap.objs.size := Heap.lt_size he
    have hil : it < s.heap.objs.size := by obtain ⟨_, q, _⟩ := hit; exact Heap.lt_size q
    refine wpAny_pyNext_enum_itemD (PySem.Draws.text (A := X.A.in1) (I.ok.hd hc) it x t) he hit (by rw [← hsz]; exact hi) hne (by simp [hne]) fun u h' tk hu ho hst hT hsz hk => ?_
    obtain ⟨c, tt, hc1, rfl⟩ := hu
    have hx : (sgV x)[i]? = some (V.str ⟨#[c]⟩) := by
      unfold sgV
      rw [List.getElem?_map]
      have : x.cps.toList[i]? = some c := by simpa using hc1
      rw [this]; rfl
    have ru : RelV (V.str ⟨#[c]⟩) (Value.str ⟨#[c]⟩ tt) := ⟨_, rfl⟩
    refine ⟨_, rfl, wpAny_letOwnedTupleGo_enum (s := { s with heap := h', toks := tk + 1 }) ho fun h'' he' sb => ?_⟩
    have hT2 : h''.get? s.heap.objs.size = some { cls := .type "tuple", data := .seq #[.int i tk, .str ⟨#[c]⟩ tt] } := (sb.2 _ (Nat.ne_of_gt hel)).trans hT
    have new : ObjOk X.prog X.w (upd H s.heap.objs.size (.tup [.int (i : Nat), V.str ⟨#[c]⟩])) h'' s.heap.objs.size (.tup [.int (i : Nat), V.str ⟨#[c]⟩]) :=
      ⟨by show 2 ≤ sizeLine; decide, [.int i tk, .str ⟨#[c]⟩ tt], .cons ⟨_, rfl⟩ (.cons ru .nil), ⟨_, hT2, rfl, _, rfl⟩⟩
    have I1 : Inv X pins σ (upd H s.heap.objs.size (.tup [.int (i : Nat), V.str ⟨#[c]⟩])) { s with heap := h'', toks := tk + 1 } :=
      I.turnedNew (ch := [e, it]) (fun b ob hb q => (sb.2 b (fun z => hb (by simp [z]))).trans (hk b ob (fun z => hb (by simp [z])) (fun z => hb (by simp [z])) q)) hf (Nat.le_refl _) new
    refine ⟨.ref s.heap.objs.size, _, I1, rfl, ⟨_, _, rfl, I.hok.fresh (Nat.le_refl _), rfl, hx⟩, ⟨⟨.str ⟨#[c]⟩ tt, ?_⟩, ?_, hne⟩, fun b hb => ?_⟩
    · have e1 : ((i + 1 : Nat) : Int) = (i : Int) + 1 := by omega
      rw [e1]; exact he'
    · obtain ⟨o, ho, hc, hd⟩ := hst
      exact ⟨o, (sb.2 it (Ne.symm hne)).trans ho, hc, hd⟩
    · have hb' : b < s.heap.objs.size := by
        have e' : b = e ∨ b = it := by simpa using hb
        rcases e' with z | z
        · rw [z]; exact hel
        · rw [z]; exact hil
      rw [upd_ne (Nat.ne_of_lt hb')]
      exact (hf b hb).1
  done := by
    intro X hP hw hK hc i pins s σ H E I hf st hg
    subst hP hw hK
    obtain ⟨⟨old, he⟩, hit, hne⟩ := st
    obtain ⟨rfl, _⟩ := hg
    have hsz : (sgV x).length = x.cps.size := by unfold sgV; rw [List.length_map, Array.length_toList]
    obtain ⟨f0, f1, f2, f3, f4, f5⟩ := hf it (by simp)
    exact wpAny_pyNext_enum_endD (PySem.Draws.text (A := X.A.in1) (I.ok.hd hc) it x t) he (by rw [← hsz]; exact hit) fun h' eb => ⟨rfl, I.turned (t' := s.toks) (fun b o hb q => eb b o hb q) f0 f1 f3 f4 f5⟩
  self := fun A i s Q E st h => let ⟨⟨_, he⟩, _⟩ := st; wpAny_pyIter_enum he h
def iEnumS (ta : TA) : TI := fun σ H R => ta σ H fun vs H1 => ∃ x, vs = [.str x] ∧ R (ItE (sgV x).length (fun _ => True) fun i => (sgV x)[i]?) H1
theorem pi_enumS {X : Cx} {e : Expr} {ta : TA} {p pos tpos : Pos} {elts : List Expr} {kk : Nat} (hg : Gl X "enumerate") (hm : X.mg "enumerate" = none) (ha : PA X [e] ta) (hs : starEach [e] X.env = [(false, eval e X.env)] := by rfl) :
    PI X (.Tuple elts kk tpos) (.Call (.Name "enumerate" p) [e] [] pos) (iEnumS ta) := by
  refine ⟨fun pins s σ H R I h => ?_⟩
  refine Call_ (ld_blt I hg hm boot_enumerate (PyProof.Rows.callWith_type1 (thn (ha.run pos pins s σ H _ I h) fun us s1 ⟨vs, H1, I1, r1, q1⟩ => ?_) hs rfl))
  obtain ⟨x, ex, q⟩ := q1
  subst ex
  cases r1 with
  | cons r rr =>
    cases rr
    obtain ⟨t, rfl⟩ := r
    refine call_enumS fun h' he hit hsz hk => wpAny_pyIter_enum he ?_
    have I2 : Inv X pins σ H1 { s1 with heap := h' } := I1.kept (t' := s1.toks) hk
    refine ⟨s1.heap.objs.size + 1, [s1.heap.objs.size + 1, s1.heap.objs.size], _, _, H1, rfl, I2, turn_enumS (s1.heap.objs.size + 1) s1.heap.objs.size x t, ⟨⟨.none, he⟩, hit, Nat.succ_ne_self _⟩, fun b hb => ?_, q⟩
    have e' : b = s1.heap.objs.size + 1 ∨ b = s1.heap.objs.size := by simpa using hb
    have hle : s1.heap.objs.size ≤ b := by
      rcases e' with z | z
      · rw [z]; exact Nat.le_add_right _ _
      · rw [z]; exact Nat.le_refl _
    exact I1.fpOk hle (I1.hok.fresh hle)
section
variable {K : PySem.W.Frag} {E : XK} {F F' : Hp} {G : Gd} {σ : L2.St} {H H' : Hp} {δ : Env}
def asS : D → Option (List PyData)
  | .dat (.str x) => some (sgP x)
  | _ => none
def mEnS (m : M (List D)) : M (List D) := fun δ => (m δ).bind fun ds δ1 => mOf (((as1 ds).bind asS).map enumD) δ1
theorem mi_enumS {m : M (List D)} : ∀ σ H Rr, tI K E (mEnS m) σ H Rr → iEnumS (tDs K E m) σ H Rr := by
  rintro σ H Rr ⟨F, G, δ, S, h⟩
  refine ⟨F, G, δ, S, h.bind.imp fun ds δ1 F1 H1 e1 S1 q vs rvs => ?_⟩
  obtain ⟨its, hi, q⟩ := q.of
  obtain ⟨l, hl, rfl⟩ := map_eq hi
  obtain ⟨d, rfl, hd⟩ := as1_eq hl
  unfold asS at hd
  split at hd
  · rename_i x
    cases hd
    cases rvs with
    | cons r1 rt =>
      cases rt
      cases r1.dd
      exact ⟨x, rfl, q F1 H1 (Ext.refl _ _) S1 _ (wk_pair (sg_dd x) walk_E (sg_dd (K := K) (F := F1) x).length fun _ _ => trivial)⟩
  · cases hd
/-! ### int of a text, slices of a text, is True -/
def intSF : List D → Option D
  | [.dat (.str a)] => if a.length ≤ 640 then (PySem.intText? a).map fun n => .dat (.int n) else none
  | _ => none
theorem rc_intS : RC K (fun xs H Q => ∃ a n, xs = [.str a] ∧ PySem.intText? a = some n ∧ a.length ≤ 640 ∧ Q (.int n) H) intSF := fun {F G σ H δ xs ds d Q} S r h q => by
  unfold intSF at h
  split at h
  · rename_i a
    split at h
    · rename_i hl
      obtain ⟨n, hn, rfl⟩ := map_eq h
      cases r with
      | cons r1 rt => cases rt; cases r1.dd; exact ⟨a, n, rfl, hn, hl, q _ F H (Ext.refl _ _) S (.dat (.int n))⟩
    · cases h
  · cases h
def isB : D → D → Option Bool
  | .dat (.bool a), .dat (.bool b) => some (decide (a = b))
  | _, _ => none
theorem ro_isB : RO K rIsB fun x y => boD (isB x y) := fun {F G σ H δ x y dx dy d Q} S rx ry h q => by
  have h : boD (isB dx dy) = some d := h
  unfold isB at h
  split at h
  · cases h
    cases rx.dd
    cases ry.dd
    exact ⟨_, _, rfl, rfl, q _ F H (Ext.refl _ _) S (.dat (.bl _))⟩
  · cases h
def slS : D → Option Int → Option Int → Option D
  | .dat (.str z), l, u => if z.length ≤ most then some (.dat (.str (L2.cutS z l u))) else none
  | _, _, _ => none
theorem md_slS {m : M D} {ml mh : M (Option Int)} : ∀ σ H Q, tD K E (mSl slS m ml mh) σ H Q → tSl L2.rSlS (tD K E m) (tPo K E ml) (tPo K E mh) σ H Q := by
  rintro σ H Q ⟨F, G, δ, S, h⟩
  refine ⟨F, G, δ, S, h.bind.imp fun x δ1 F1 H1 e1 S1 q v rv => ⟨F1, G, δ1, S1, q.bind.imp fun l δ2 F2 H2 e2 S2 q2 => ⟨F2, G, δ2, S2, q2.bind.imp fun u δ3 F3 H3 e3 S3 q3 => ?_⟩⟩⟩
  obtain ⟨d, hd, q4⟩ := q3.of
  unfold slS at hd
  split at hd
  · rename_i z
    split at hd
    · rename_i hz
      cases hd
      cases rv.dd
      exact ⟨z, rfl, most_le hz, q4 F3 H3 (Ext.refl _ _) S3 _ (.dat (.str _))⟩
    · cases hd
  · cases hd
end
end DL

namespace DL
open PySem PySem.Spec PyProof.Rows L2 MT PySem.MEX
/-! ### an error is made, to be raised -/
section
variable {X : Cx} {DA fI C : Addr}
def tMkE (C : Addr) (ta : TA) : L2.St → Hp → XK → Prop := fun σ H Q => ta σ H fun vs H1 => ∃ v, vs = [v] ∧ ∀ d, H1 d = none → Q (.ref C) (some d) (upd H1 d (xdV v))
theorem pmk_meet {x : Str} {a : Expr} {ta : TA} {p pos : Pos} {k : Nat} (I0 : InitTxt X.prog X.K DA fI) (T : ErrTxt X.K DA fI C) (gC : X.mg x = some (.ref C)) (hr : Room k X.A) (hg : Gl X x) (ha : PA X [a] ta)
    (he : starEach (a :: []) X.env = (false, eval a X.env) :: starEach [] X.env := by rfl) (hpl : (backTo pos (starEach [] X.env)).any (·.1) = false := by rfl) (hdb : (x == ("__debug__" : Str)) = false := by decide) :
    PMk X (.Call (.Name x p) [a] [] pos) (tMkE C ta) := by
  intro pins s σ H Q I h
  refine wpAny_Call_Name_kw (ld_glob I hg gC ?_ hdb)
  refine PySem.W.callWith_K (h₀ := X.base) I.ok.mod.kin T.kC (thn (ha.run pos pins s σ H _ I h) fun us s1 hh => ?_) he hpl
  obtain ⟨vs, H1, I1, r1, v, ev, q1⟩ := hh
  subst ev
  refine ⟨I1.kIn, ?_⟩
  cases r1 with
  | cons rv rn =>
    rename_i v' us'
    cases rn
    show wpAny _ _ (call (.ref C) [v']) _ _ _
    have hlim := I1.nolimit
    obtain ⟨mb, b1, b2⟩ := I1.mod.blt
    have hg1 : s1.heap.Ns mainGlobals X.mg := I1.mod.glob.keeps I1.bk
    have hb1 := b1.keeps I1.bk
    obtain ⟨hp, g, dr, tk, os⟩ := s1
    refine wpAny_call (meet_made I0 T I1.kIn hlim hg1 hb1 b2 (by have := hr.dp; omega) fun h' tk' e d M => ?_)
    obtain ⟨oe, fv, hoe, hc, hd, hdat, h1⟩ := M.obj
    have hns := M.ns
    obtain ⟨G', g1, g2⟩ := restrict h' fun b => decide (b ≠ e)
    have gk : ∀ b, b ≠ e → G'.get? b = h'.get? b := fun b hb => g1 b (decide_eq_true hb)
    have ge : G'.get? e = none := g2 e (by simp)
    have old : ∀ b o, hp.get? b = some o → G'.get? b = some o := fun b o q => (gk b (Nat.ne_of_lt (Nat.lt_of_lt_of_le (Heap.lt_size q) M.new))).trans (M.keep b o q)
    have ob : ObjOk X.prog X.w (upd H1 d (xdV v)) G' d (xdV v) := ⟨_, hns.at (fun o q => (gk d M.dne).trans q), fun f => relO_val rv f⟩
    have J : Inv X pins σ (upd H1 d (xdV v)) ⟨G', g, dr, tk', os⟩ := I1.laid (t' := tk') old M.dbig ob
    have he1 : H1 e = none := I1.hok.fresh M.new
    have hd1 : H1 d = none := I1.hok.fresh M.dbig
    have hn : (upd H1 d (xdV v)) e = none := by rw [upd_ne (Ne.symm M.dne)]; exact he1
    refine ⟨e, oe, fv, ⟨G', g, dr, tk', os⟩, upd H1 d (xdV v), .ref C, some d, rfl, J, fun b u q => ?_, ge, hoe, ⟨hc, hd⟩, hdat, h1, hn, rfl, I1.bare, raises_own T.exC T.tyC, q1 d hd1⟩
    by_cases hb : b = e
    · have q' : G'.get? b = some u := q
      rw [hb, ge] at q'; cases q'
    · exact (gk b hb).symm.trans q
end
section
variable {K : PySem.W.Frag} {E : XK} {F F' : Hp} {G : Gd} {σ : L2.St} {H H' : Hp} {δ : Env}
/-- raise c(e) -/
def mRaise (c : Str) (m : M D) : M Out := fun δ => (m δ).bind fun d δ1 => .err c d δ1
theorem md_raise {c : Str} {m : M D} : ∀ (En : Ends) σ H, sD K E (mRaise c m) En σ H → tMkE (He.ga K c) (tDs K E (mCons m mNil)) σ H fun cls d H' => E cls d H' := by
  rintro En σ H ⟨F, G, δ, S, h⟩
  refine ⟨F, G, δ, S, ?_⟩
  have h : PostS K E F G ((m δ).bind fun d δ1 => .err c d δ1) En := h
  show Post K E F G σ ((m δ).bind fun x δ1 => .ok [x] δ1) _
  cases e : m δ with
  | stuck => rw [e] at h; exact h.elim
  | err c' d' δ' => rw [e] at h; exact fun dx v F' H' x s => h σ dx v F' H' x s
  | ok d δ1 =>
    rw [e] at h
    intro F1 H1 x1 S1 vs rvs
    cases rvs with
    | cons r t =>
      cases t
      rename_i v
      refine ⟨v, rfl, fun dx nd => ?_⟩
      obtain ⟨S2, x2⟩ := S1.newF (o := xdV v) nd
      exact h σ dx v _ _ (x1.trans x2) S2 upd_same (r.same x2.same)
end
/-! ### a def that may raise -/
section
variable {P : Program} {w : World} {K : PySem.W.Frag} {mg : Str → Option Value} {base : Heap} {k : Nat} {f : Addr} {x qual : Str} {params : Arguments} {body : List Stmt} {scope : Scope} {dvs : List V} {kws : List (Str × V)} {fd : FuncData} {N ps : List Str} {g : List D → R D}
/-- what it lets out, its wish takes -/
abbrev TkX (X : Cx) (E : XK) : Prop := Takes X fun cls d _ H => E cls d H
theorem tk_of {N : List Str} {f : Addr} {cdv : Value} {A : Around} {outer : List PySem.Env} {s : Shared} {H : Hp} {E : XK} : TkX (cxOf (L2.CX P w) P w K mg base N qual scope f cdv A outer s H E) E := takes_of (E := E) rfl rfl rfl rfl
theorem passE {X : Cx} {E : XK} : Passes CX0 X E := fun _ _ _ _ _ _ _ h => h.elim
theorem passX {X : Cx} {E : XK} (tk : TkX X E) : Passes (L2.CX X.prog X.w) X E := passes_call tk fun _ _ _ _ h => h
theorem fn_dataX {n : Nat} (hn : ps.length = n) (FF : FunD K x qual params body scope dvs kws f fd) (S : FnScope N ps scope) (m : M Out) (hg : ∀ ds, g ds = outR (m (env0 N.length ds)))
    (h : ∀ (cdv : Value) (A : Around) (outer : List PySem.Env) (s : Shared) (H : Hp) (E : XK), TkX (cxOf (L2.CX P w) P w K mg base N qual scope f cdv A outer s H E) E → PassesOwn (model P w) (cxOf (L2.CX P w) P w K mg base N qual scope f cdv A outer s H E).A (cxOf (L2.CX P w) P w K mg base N qual scope f cdv A outer s H E).env (cxOf (L2.CX P w) P w K mg base N qual scope f cdv A outer s H E).xe →
      Room k (A.deeper (envOfC qual scope s.heap.objs.size f cdv)) → PSs (cxOf (L2.CX P w) P w K mg base N qual scope f cdv A outer s H E) body (sD K E m)) :
    FnOk P w K mg base (L2.CX P w) (k + 1) f fd ps (sp0 K n g) := by
  refine FF.ok S (fun vs H Q E z => z.1.trans hn.symm) fun cdv A outer s H vs Q E hr hs => ⟨_, h cdv A outer s H E tk_of (passes_of rfl) hr, body_run (fun ds _ => .inr (hg ds)) hs fun ds c d e => rfl⟩
end
end DL

namespace DL
open PySem PySem.Spec PyProof.Rows L2 MT PySem.MEX LamX
/-! ### an error that is caught and kept -/
section
variable {X : Cx} {pins : List (Addr × Obj)} {σ : L2.St} {H : Hp} {s : Shared}
/-- an object that stood there is tracked from now on -/
theorem inv_track {a : Addr} {oe : Obj} {vs : Array Value} {o : HO} (I : Inv X pins σ H s) (e : s.heap.get? a = some oe) (hd : oe.data = .fields vs) (h0 : X.s_0.heap.get? a = none) (hp : ∀ p ∈ X.pn ++ pins, p.1 ≠ a) (na : H a = none) (nL : a ≠ X.env.locals)
    (ok : ObjOk X.prog X.w (upd H a o) s.heap a o) : Inv X pins σ (upd H a o) s := by
  have ne : ∀ b u, H b = some u → b ≠ a := fun b u h => ne_of_none h na
  refine ⟨I.ok, I.os, I.bare, ⟨I.base.keep, I.base.slot, fun b u h n hx => ?_, I.base.there, fun b xs h => ?_, fun b u v h => ?_, fun b ps h => ?_⟩, I.loc, I.cell, ?_, fun x c h => ?_, fun p hp' => ?_, HOk.laidN I.hok (fun _ _ h => h) na ok, I.len⟩
  · have nb : b ≠ a := fun z => by rw [z, h0] at h; cases h
    rw [upd_ne nb]; exact I.base.free b u h n hx
  · have z := I.base.tups b xs h
    rw [upd_ne (ne b _ z)]; exact z
  · have z := I.base.frzs b u v h
    rw [upd_ne (ne b _ z)]; exact z
  · obtain ⟨more, z⟩ := I.base.tbls b ps h
    exact ⟨more, by rw [upd_ne (ne b _ z)]; exact z⟩
  · rw [upd_ne (Ne.symm nL)]; exact I.free
  · have nc : c ≠ a := fun z => by
      obtain ⟨v, o', h1, h2⟩ := I.cell x c h
      rw [z, e] at h1
      cases h1
      rw [hd] at h2; cases h2
    rw [upd_ne nc]; exact I.freeC x c h
  · obtain ⟨h1, h2, h3⟩ := I.pin p hp'
    exact ⟨h1, by rw [upd_ne (hp p hp')]; exact h2, h3⟩
end
/-- except c as n: m = n -/
def wKp (K : PySem.W.Frag) (c : Value) (i j : Nat) (En : Ends) : WX := fun cls d σ H => PySem.W.exmOne K cls c = some true ∧ ∃ C dd, cls = .ref C ∧ d = some dd ∧
  ∀ a, H a = none → En.nx (((σ.set i (some (.ref a))).set j (some (.ref a))).set i none) (upd H a (ExV C dd a))
section
variable {X : Cx} {x n m : Str} {c : Value} {i j : Nat} {body : List Stmt} {np p1 p2 p3 pos pos' : Pos} {tb : WX → TS}
theorem ps_try_keep (hs : X.stack = X.env :: X.outer) (hf : X.env.frame = some X.env.locals) (hex : X.ex = []) (hN : X.N.Nodup) (hi : X.N[i]? = some n) (hln : X.env.kindOf n = some .local) (hj : X.N[j]? = some m) (hlm : X.env.kindOf m = some .local) (hl : i < X.N.length) (hc : Names X x c)
    (hd1 : (n == ("__debug__" : Str)) = false) (hd2 : (n == ("__classdict__" : Str)) = false) (hsw : ∀ X' : Cx, X'.env = X.env → swapsWith (.Name n p2) (some (.Name m p1)) p3.line X'.env = pure false)
    (hb : ∀ (W : WX) (pn : List (Addr × Obj)) (xe : Value → Shared → Prop), Takes (X.tr pn xe) W → PassesOwn (model X.prog X.w) X.A X.env xe → PSs (X.tr pn xe) body (tb W)) :
    PS X (.Try body [.ExceptHandler (some (.Name x np)) (some n) [.Assign [.Name m p1] (.Name n p2) p3] pos'] [] [] pos) (fun En σ H => tb (wKp X.K c i j En) En σ H) := by
  refine ⟨fun pins s σ H En I h => ?_⟩
  have ok := I.ok
  have hfr : X.A.frames = some (X.env :: X.outer) := by rw [ok.frames, hs]
  refine wpAny_Try_except ?_
  refine wpAny_mono ((hb (wKp X.K c i j En) (X.pn ++ pins) (fun e s₁ => wpAny (model X.prog X.w) X.A (noteFrame e X.env) (fun _ s₂ => wpAny (model X.prog X.w) X.A (setFlight e none) (fun _ s₃ =>
    wpAny (model X.prog X.w) X.A (handleBy e X.env [.ExceptHandler (some (.Name x np)) (some n) [.Assign [.Name m p1] (.Name n p2) p3] pos']) (SP X pins En) X.xe s₃) X.xe s₂) X.xe s₁) (fun u s' xx => ?_) PassesOwn.looking).run [] s σ H En (I.toTry _) h) (fun f s1 hsp => ?_) (fun e s1 he => he)
  · obtain ⟨a, B, sI, pins', σ', H', cls, d, rfl, J', nb, up, sky, na, os, ag, hb1, C, dd, rfl, rfl, hq⟩ := xx
    have J : Inv X pins σ' H' sI := J'.ofTry ok
    have sky' : Sky B (X.env :: X.outer) a (Zc (.ref C) (some dd)) X.env.locals s'.heap := by rw [← hs]; exact sky
    show wpAny (model X.prog X.w) X.A (noteFrame (.ref a) X.env) _ _ _
    refine Sky.land Zc.steady hfr hf sky' fun h3 fl3 up3 => ?_
    have J3 : Inv X pins σ' H' { s' with heap := h3 } := J.landed nb fl3.1 (up.trans up3) os ag
    obtain ⟨oe3, vs3, he3, hz3, hd3⟩ := fl3.there
    have nfr : a ∉ frs (X.env :: X.outer) := fun hm => by
      obtain ⟨_, o', e', hnf⟩ := fl3.2.2.1.mem hm
      rw [he3] at e'; cases e'
      exact hnf _ hd3
    have nL : a ≠ X.env.locals := fun z => nfr (List.mem_filterMap.mpr ⟨X.env, List.mem_cons_self, by rw [hf, z]⟩)
    have nF : a ∉ X.fs := fun hm => by
      obtain ⟨e, he, q⟩ := List.mem_filterMap.mp hm
      exact nfr (List.mem_filterMap.mpr ⟨e, List.mem_cons_of_mem _ he, q⟩)
    have nI : sI.heap.get? a = none := by
      cases e : sI.heap.get? a with
      | none => rfl
      | some o =>
        have z := nb a o e (by rw [hs]; exact nfr)
        rw [fl3.2.1] at z; cases z
    have n0 : X.s_0.heap.get? a = none := by
      cases e : X.s_0.heap.get? a with
      | none => rfl
      | some o =>
        obtain ⟨o', z⟩ := J.base.there a o e (by rw [hex]; simp)
        rw [nI] at z; cases z
    have npin : ∀ p ∈ X.pn ++ pins, p.1 ≠ a := fun p hp z => by
      have q := (J.pin p hp).1
      rw [z, nI] at q; cases q
    have S3 := J3.suite he3 hd3 na nL nF
    refine wpAny_handleBy_cons (codeAny_handlers_test ?_) (by intro q; cases q)
    have LT : PySem.W.Looks (model X.prog X.w) h3 (typeOf (.ref a)) (.ref C) := fun A Q E s k q => wpAny_typeOf_ref (k _ _ he3) (by rw [hz3.1]; exact q)
    have LM := PySem.W.exm_one (M := model X.prog X.w) (J3.kIn) LT hb1
    have test : ∀ {Q : Value → Shared → Prop} {E : Value → Shared → Prop}, Q c { s' with heap := h3 } → wpAny (model X.prog X.w) (X.A.mark (some (.ref a))) (eval (.Name x np) X.env) Q E { s' with heap := h3 } := fun {Q E} q => by
      obtain ⟨hg, hdbg, hm | ⟨hm, hv, hnn⟩⟩ := hc
      · exact ld_glob (X := X.suite a ((a, oe3) :: (X.pn ++ pins))) S3 hg hm q hdbg
      · exact ld_blt (X := X.suite a ((a, oe3) :: (X.pn ++ pins))) S3 hg hm hv q hnn hdbg
    refine test (LM.here ?_)
    refine codeAny_handlers_suite_as ?_
    refine HandSPX.lands_againZ fl3 fun h4 fl4 up4 => ?_
    have J4 : Inv X pins σ' H' { s' with heap := h4 } := J.landed nb fl4.1 ((up.trans up3).trans up4) os ag
    obtain ⟨oe4, vs4, he4, hz4, hd4⟩ := fl4.there
    have S4 := J4.suite he4 hd4 na nL nF
    refine store_ok (X := X.suite a ((a, oe4) :: (X.pn ++ pins))) (v := .ref a) S4 hN hi (.inl hln) rfl (fun s5 S5 => ?_) (.inr hln)
    have su : PSs (X.suite a ((a, oe4) :: (X.pn ++ pins))) [.Assign [.Name m p1] (.Name n p2) p3] (tAsg (tVar i) (gName j)) :=
      pss_one (ps_set (i := j) hN hj (.inl hlm) (pe_var (i := i) hi (.inl hln) hd1 hd2) (hsw _ rfl) (.inr hlm))
    have hlt : i < σ'.length := by rw [J.len]; exact hl
    refine wpAny_mono (su.run [] s5 _ H' { nx := fun σ6 H6 => σ6 = (σ'.set i (some (.ref a))).set j (some (.ref a)) ∧ H6 = H', rt := fun _ _ => False, bk := fun _ _ => False, ct := fun _ _ => False } S5 ⟨.ref a, by rw [List.getElem?_set_self hlt], rfl, rfl⟩) (fun f s6 hsp => ?_) (fun _ _ z => False.elim z)
    cases f with
    | next =>
      obtain ⟨σ6, H6, S6, e6, eH⟩ := hsp
      subst e6 eH
      refine gone_ok (X := X.suite a ((a, oe4) :: (X.pn ++ pins))) S6 hN hi hln fun s7 J7 => ?_
      have pa := (J7.pin (a, oe4) (List.mem_append_left _ List.mem_cons_self)).1
      have J8 : Inv X pins _ _ s7 := J7.unsuite ok
      exact ⟨_, _, inv_track J8 pa hd4 n0 npin na nL (exv_ok pa hz4.1 hz4.2 hd4), hq a na⟩
    | brk => obtain ⟨_, _, _, q⟩ := hsp; exact q.elim
    | cont => obtain ⟨_, _, _, q⟩ := hsp; exact q.elim
    | ret u => obtain ⟨_, _, _, _, _, q⟩ := hsp; exact q.elim
  · cases f with
    | next => obtain ⟨σ', H', J', q⟩ := hsp; exact wpAny_execs_nil ⟨σ', H', J'.ofTry ok, q⟩
    | brk => obtain ⟨σ', H', J', q⟩ := hsp; exact ⟨σ', H', J'.ofTry ok, q⟩
    | cont => obtain ⟨σ', H', J', q⟩ := hsp; exact ⟨σ', H', J'.ofTry ok, q⟩
    | ret u => obtain ⟨v, σ', H', J', r, q⟩ := hsp; exact ⟨v, σ', H', J'.ofTry ok, r, q⟩
end
end DL

namespace DL
open PySem PySem.Spec PyProof.Rows L2 MT PySem.MEX LamX
/-! ### a lambda handed to a def: the wish may tell of the slots -/
section
variable {X : Cx} {pins : List (Addr × Obj)} {σ : L2.St} {H HZ : Hp} {s s1 : Shared}
theorem pe_actS {CXg : CXT} {Eg : XK} {Ng : List Str} {qg : Str} {sg : Scope} {g f c' : Addr} {cdg pm ctv : Value} {params : Arguments} {body : Expr} {scope : Scope} {k i : Nat} {a : Str} {pn : List (Addr × Obj)} {xe : Value → Shared → Prop} {W : WX} {t : XK → TE} {p1 p2 : Pos}
    (I : Inv X pins σ H s) (L : LamS X.env.scope scope) (hf : s.heap.get? f = some (PySem.W.kla_obj "<lambda>" (X.env.qual ++ "<lambda>") params body scope (cloFrom X.env.cells scope.names []) pm c' ctv)) (hfn : H f = none) (hfr : f ∉ frs X.stack)
    (hbind : bindArgs (PySem.W.kla_fn "<lambda>" (X.env.qual ++ "<lambda>") params body scope (cloFrom X.env.cells scope.names []) pm (.ref c') ctv) ⟨[], []⟩ = pure [])
    (tk : Takes ((cxOf CXg X.prog X.w X.K X.mg X.base Ng qg sg g cdg X.A X.stack s H Eg).tr pn xe) W) (hr : Room (k + 1) (X.A.deeper (envOfC qg sg s.heap.objs.size g cdg)))
    (hbody : ∀ (A : Around) (outer : List PySem.Env) (s : Shared) (H : Hp) (E : XK), Room k (A.deeper (lamEnv X scope s.heap.objs.size f c')) → PE (lamCx X A outer s H E scope f c') body (t E))
    (hN : Ng[i]? = some a) (hv : Vis sg a) (hd : (a == ("__debug__" : Str)) = false) (hcd : (a == ("__classdict__" : Str)) = false) :
    PE ((cxOf CXg X.prog X.w X.K X.mg X.base Ng qg sg g cdg X.A X.stack s H Eg).tr pn xe) (.Call (.Name a p1) [] [] p2)
      (fun σZ HZ Q => σZ[i]? = some (some (.ref f)) ∧ HZ c' = some (CodeO c' (X.env.qual ++ "<lambda>")) ∧ ∃ E : XK, (∀ cls d H', E cls d H' → W cls d σZ H') ∧ t E σ HZ Q) := by
  refine ⟨fun pinsZ sZ σZ HZ Q IZ h => ?_⟩
  obtain ⟨hs, hc, E, hE, ht⟩ := h
  refine wpAny_Call_Name_kw (thn ((pe_var (pos := p1) (i := i) hN hv hd hcd).run pinsZ sZ σZ HZ (fun v H1 => v = .ref f ∧ H1 = HZ) IZ ⟨.ref f, hs, rfl, rfl⟩) fun u s1 ⟨v, H1, I1, r1, q1⟩ => ?_)
  obtain ⟨ev, eH⟩ := q1
  subst ev
  rw [eH] at I1
  obtain rfl : u = Value.ref f := r1
  have of1 := I1.base.keep f _ hf hfn hfr (fun z => nomatch (show f ∈ ([] : List Addr) from z))
  refine PySem.W.callWith_F0 ⟨_, _, _, _, of1⟩ ?_
  have un : Un (frs X.stack) [] H HZ s.heap s1.heap := I1.base
  obtain ⟨⟨oc, vs, t0, hoc, hdc, hvc⟩, _, _⟩ := I1.hok c' _ hc
  have rc : codeAny (model X.prog X.w) (X.A.deeper (envOfC qg sg s.heap.objs.size g cdg)) (.call (.ref f) ⟨[], []⟩) (CR (L2.CX X.prog X.w) (envOfC qg sg s.heap.objs.size g cdg :: X.stack) X.prog X.w HZ s1 Q E) s1 := by
    refine PySem.W.kla_callFunE hr.depth of1 rfl L.co L.gen rfl ⟨c', oc, vs, t0, rfl, hoc, hdc, hvc⟩ ?_
    rw [hbind]
    refine wpAny_pure (wpAny_newFunctionEnv (fun y hy => (L.own y hy).2) (fun y hy => absurd hy (by simp)) (fun h₁ hns hsb => ⟨I1.nolimit.fresh _ hsb, ?_⟩) L.kind)
    show codeAny _ _ (.expr body (lamEnv X scope s1.heap.objs.size f c')) _ _
    have kp : ∀ b o, s1.heap.get? b = some o → h₁.get? b = some o := fun b o e => hsb.extBut b o (Nat.ne_of_lt (Heap.lt_size e)) (Heap.get?_push_of_some _ e)
    have J := lam_start2 (E := E) (f := f) (c' := c') (tk := s1.toks + ([] : List (Str × Value)).length) I L I1.env0 hr.hd un hns kp
    refine PySem.W.kla_codeExpr (wpAny_mono ((hbody _ _ s1 HZ _ (hr.deeper _)).run [] _ _ HZ Q J ht) (fun v s' hq => ?_) fun e s' hq => hq)
    obtain ⟨w', H', J', rv, q⟩ := hq
    exact ⟨w', H', J'.os, J'.bare, J'.base, J'.hok, rv, q⟩
  refine wpAny_call (codeAny_mono rc fun r s' hq => ?_)
  cases r with
  | error e => exact tk e s' (XE.of_call I1 (fun cls d H' h => hE cls d H' h) hq)
  | ok fl =>
    cases fl with
    | ret u => exact I1.after hq
    | next => exact False.elim hq
    | brk => exact False.elim hq
    | cont => exact False.elim hq
end
theorem pe_mo {X : Cx} {e : Expr} {t : TE} (h : PE X e t) : PE X e (fun σ H Q => ∃ Q0 : VK, t σ H Q0 ∧ ∀ x H1, Q0 x H1 → Q x H1) :=
  ⟨fun pins s σ H Q I ⟨Q0, h0, hm⟩ => wpAny_mono (h.run pins s σ H Q0 I h0) (fun u s' ⟨v, H', I', r, q⟩ => ⟨v, H', I', r, hm v H' q⟩) fun _ _ z => z⟩
/-- the def that calls what it got; TT: what it makes of the lambda's reading -/
def GivesS (X : Cx) (Ng : List Str) (x : Str) (sg : Scope) (g : Addr) (cdg : Value) (bg : List Stmt) (a : Str) (q : Str) (TT : (XK → Hp → VK → Prop) → Hp → VK → Prop) : Prop :=
  ∀ (f c' : Addr) (s : Shared) (H : Hp) (Q : VK) (tl : XK → Hp → VK → Prop),
    (∀ (W : WX) (pn : List (Addr × Obj)) (xe : Value → Shared → Prop) (p1 p2 : Pos), Takes ((cxOf C8.CX0 X.prog X.w X.K X.mg X.base Ng x sg g cdg X.A X.stack s H C8.E0).tr pn xe) W →
      PE ((cxOf C8.CX0 X.prog X.w X.K X.mg X.base Ng x sg g cdg X.A X.stack s H C8.E0).tr pn xe) (.Call (.Name a p1) [] [] p2) (fun σZ HZ Q => σZ[0]? = some (some (.ref f)) ∧ HZ c' = some (CodeO c' q) ∧ ∃ E : XK, (∀ cls d H', E cls d H' → W cls d σZ H') ∧ tl E HZ Q)) →
    H c' = some (CodeO c' q) → TT tl H Q →
    ∃ t, PSs (cxOf C8.CX0 X.prog X.w X.K X.mg X.base Ng x sg g cdg X.A X.stack s H C8.E0).nox bg t ∧ t { nx := fun _ H' => Q .non H', rt := Q } (L2.start Ng [.ref f]) H
section
variable {X : Cx}
/-- x(lambda: body) -/
theorem pe_lamS {T : List (Addr × Str)} {TT : (XK → Hp → VK → Prop) → Hp → VK → Prop} {x a : Str} {g c P : Addr} {k : Nat} {pg : Arguments} {bg : List Stmt} {sg : Scope} {dvs : List V} {kws : List (Str × V)} {fd : FuncData} {Ng : List Str}
    {params : Arguments} {body : Expr} {scope : Scope} {t : XK → TE} {p lpos pos : Pos} (hg : Gl X x) (hm : X.mg x = some (.ref g)) (FF : FunD X.K x x pg bg sg dvs kws g fd) (hb : L2.Binds X.K fd [a] []) (Sg : FnScope Ng [a] sg) (hNg : Ng[0]? = some a) (hva : Vis sg a)
    (hG : ∀ cdv, GivesS X Ng x sg g cdv bg a (X.env.qual ++ "<lambda>") TT)
    (TB : TabB X.base X.mg c P) (hcode : X.env.code = .ref c) (hmT : (P, X.env.qual ++ "<lambda>") ∈ T) (hu : ∀ p ∈ T, p.1 = P → p.2 = X.env.qual ++ "<lambda>") (hr : Room (k + 2) X.A) (L : LamS X.env.scope scope) (hdef : defaultsOf params X.env = ([], []))
    (hbind : ∀ (q : Str) (cl : List (Str × Addr)) (pm cv ctv : Value), bindArgs (PySem.W.kla_fn "<lambda>" q params body scope cl pm cv ctv) ⟨[], []⟩ = pure [])
    (hbody : ∀ (A : Around) (outer : List PySem.Env) (s : Shared) (H : Hp) (E : XK) (f c' : Addr), Room k (A.deeper (lamEnv X scope s.heap.objs.size f c')) → PE (lamCx X A outer s H E scope f c') body (t E))
    (hdb : (x == ("__debug__" : Str)) = false := by decide) (hd : (a == ("__debug__" : Str)) = false := by decide) (hcd : (a == ("__classdict__" : Str)) = false := by decide) :
    PE X (.Call (.Name x p) [.Lambda params body scope lpos] [] pos) (tLam T TT t) := by
  obtain ⟨oc, od, dV, kV, doc, pm, an, cdv, ct, osl, rfl, lk, hcg, _, _⟩ := FF.ex
  refine ⟨fun pins s σ H Q I h => ?_⟩
  obtain ⟨hT, h⟩ := h
  refine wpAny_Call_Name_kw (ld_glob I hg hm ?_ hdb)
  refine PySem.W.callWith_K (h₀ := X.base) I.ok.mod.kin FF.kp ?_ (by rfl) (by rfl)
  show wpAny _ _ (spliced ((false, eval (.Lambda params body scope lpos) X.env) :: backTo pos (starEach [] X.env))) _ _ s
  refine Calls.spliced_cons (lam_make2 I TB hcode hmT hu hT hdef (L.has I.ok) fun f c' pm' ctv H1 s' I1 eN T1 hf hfn hfr hco => ?_)
  refine Calls.spliced_nil ⟨I1.kIn, ?_⟩
  have rc : codeAny (model X.prog X.w) X.A (.call (.ref g) ⟨[.ref f], []⟩) (CR C8.CX0 X.stack X.prog X.w H1 s' Q C8.E0) s' := by
    refine run_ofS (N := Ng) (ps := [a]) (us := [.ref f]) (vs := [.ref f]) lk hcg Sg hr I1.env0 (hb s' [.ref f] I1.kIn rfl) (.cons rfl .nil) rfl fun hr' => ?_
    obtain ⟨t', ht', hq'⟩ := hG cdv f c' s' H1 Q (fun E H' Q' => t E σ H' Q') (fun W pn xe p1 p2 tk => pe_actS (i := 0) I1 L hf hfn hfr (hbind _ _ _ _ _) tk hr' (fun A outer s H E hr2 => hbody A outer s H E f c' hr2) hNg hva hd hcd) hco (h H1 eN T1)
    exact ⟨t', ht'.nox, hq'⟩
  refine wpAny_call (codeAny_mono rc fun r s2 hq => ?_)
  cases r with
  | error e => exact (show False from hq).elim
  | ok fl =>
    cases fl with
    | ret u => exact I1.after hq
    | next => exact False.elim hq
    | brk => exact False.elim hq
    | cont => exact False.elim hq
end
/-! ### told -/
def TTold2 (K : PySem.W.Frag) (CM : Addr) : (XK → Hp → VK → Prop) → Hp → VK → Prop := fun tl H Q => ∀ p0, H p0 = none →
  tl (fun cls d H' => PySem.W.exmOne K cls (.ref CM) = some true ∧ ∃ C dd, cls = .ref C ∧ d = some dd ∧ ∀ a, H' a = none → ∀ p (o : Obj), upd H' a (ExV C dd a) p = none → o.dict = none → Q (.ref p) (upd (upd H' a (ExV C dd a)) p (.frz o (.tup [.ref a, .non])))) (upd H p0 (.tup [.non, .non]))
    (fun v H' => ∀ p (o : Obj), H' p = none → o.dict = none → Q (.ref p) (upd H' p (.frz o (.tup [.non, v]))))
/-- (the error, None) or (None, the value) -/
def mTold (es : List Str) (m : M D) : M D := fun δ => match m δ with
  | .ok d δ' => .ok (.wk [.dat .none, d]) δ'
  | .err c d δ' => if c ∈ es then .ok (.wk [.exc c d, .dat .none]) δ' else .stuck
  | .stuck => .stuck
section
variable {K : PySem.W.Frag} {E : XK} {F F' : Hp} {G : Gd} {σ : L2.St} {H H1 : Hp} {δ : Env}
/-- tables grow, all else stays -/
theorem SR.extN (S : SR K F G σ H δ) (en : ExtN H H1) (tb : MT.LamT K H1) : SR K F G σ H1 δ := by
  refine ⟨S.len, fun b o h => en b o (S.fh b o h) fun ps z => S.fn b ps (by rw [h, z]), fun b o h => en b o (S.gh b o h) fun ps z => S.gn b ps (by rw [h, z]), fun i v hv => (S.sl i v hv).keep (Same.refl _) fun p hp ho => ?_, S.inj, tb, S.gn, S.fn⟩
  have ow : OwnAt σ δ i p := ⟨hp, v, hv, ho⟩
  obtain ⟨o, h1, h2, _⟩ := S.ownK ow
  exact ⟨(S.ownAt ow).1, (en p o h1 h2).trans h1.symm⟩
theorem md_told {es : List Str} {CM : Addr} {m : M D} (hE : ∀ c ∈ es, PySem.W.exmOne K (.ref (He.ga K c)) (.ref CM) = some true) : ∀ σ H Q, tD K E (mTold es m) σ H Q → tLam (MT.TabL K) (TTold2 K CM) (fun E' => tD K E' m) σ H Q := by
  rintro σ H Q ⟨F, G, δ, S, h⟩
  refine ⟨S.tb, fun H1 en tb p0 np0 => ⟨F, G, δ, (S.extN en tb).new np0, ?_⟩⟩
  unfold mTold at h
  cases e : m δ with
  | stuck => rw [e] at h; exact h.elim
  | ok d δ' =>
    rw [e] at h
    intro F2 H2 x2 S2 v rv p o np nd
    obtain ⟨S3, x3⟩ := S2.newF (o := .frz o (.tup [.non, v])) np
    refine h _ _ (x2.trans x3) S3 _ (.wk (vs := [.non, v]) (TupS.sq (.inl ⟨o, upd_same, nd⟩)) (.cons (.dat .non) (.cons (rv.same x3.same) .nil)))
  | err c d δ' =>
    rw [e] at h
    have h : Post K E F G σ (if c ∈ es then Res.ok (D.wk [.exc c d, .dat .none]) δ' else .stuck) _ := h
    split at h
    · rename_i hc
      intro dx v F2 H2 x2 S2 hdx rv
      refine ⟨hE c hc, _, dx, rfl, rfl, fun a na p o np nd => ?_⟩
      obtain ⟨S3, x3⟩ := S2.newF (o := ExV (He.ga K c) dx a) na (by intro _ z; cases z)
      obtain ⟨S4, x4⟩ := S3.newF (o := .frz o (.tup [.ref a, .non])) np
      refine h _ _ ((x2.trans x3).trans x4) S4 _ (.wk (vs := [.ref a, .non]) (TupS.sq (.inl ⟨o, upd_same, nd⟩)) (.cons (.exc (x4.same _ _ upd_same) ((x3.trans x4).same _ _ hdx) (rv.same (x3.trans x4).same)) (.cons (.dat .non) .nil)))
    · exact h.elim
end
end DL

namespace DL
open PySem PySem.Spec PyProof.Rows L2 MT PySem.MEX LamX
/-! ### a def that is told its code object -/
section
variable {P : Program} {w : World} {K : PySem.W.Frag} {mg : Str → Option Value} {base : Heap} {k : Nat} {f : Addr} {x qual : Str} {params : Arguments} {body : List Stmt} {scope : Scope} {dvs : List V} {kws : List (Str × V)} {fd : FuncData} {N ps : List Str} {g : List D → R D}
theorem cod_of {cdv : Value} {q : He.Defn} (h : ∀ q, f = He.fAd K q → cdv = .ref (He.codeOf K q)) (hq : f = He.fAd K q) : cdv = .ref (codA K q) := h q hq
theorem fn_dataGL {n : Nat} (q : He.Defn) (hq : f = He.fAd K q) (hn : ps.length = n) (FF : FunD K x qual params body scope dvs kws f fd) (S : FnScope N ps scope) (ne : noErr g)
    (h : ∃ m, (∀ (A : Around) (outer : List PySem.Env) (s : Shared) (H : Hp) (E : XK), NoG (A.deeper (envOfC qual scope s.heap.objs.size f (.ref (codA K q)))) → Room k (A.deeper (envOfC qual scope s.heap.objs.size f (.ref (codA K q)))) → PSs (cxOf CX0 P w K mg base N qual scope f (.ref (codA K q)) A outer s H E).nox body (sD K E00 m)) ∧ Le n g m N.length) :
    FnOkG P w K mg base CX0 (k + 1) f fd ps (sp0 K n g) := by
  obtain ⟨m, hb, hl⟩ := h
  refine fnG_okL FF S (fun vs H Q E z => z.1.trans hn.symm) fun cdv hc A outer s H vs Q E hG hr hs => ?_
  obtain rfl := cod_of hc hq
  exact ⟨_, PSs.nox (hb A outer s H E hG hr), body_run hl hs fun ds c d e => absurd e (ne ds c d)⟩
theorem fnL_ok {CX : CXT} {sp : Sp} (F : FunD K x qual params body scope dvs kws f fd) (S : FnScope N ps scope) (len : ∀ vs H Q E, sp vs H Q E → vs.length = ps.length)
    (hbody : ∀ (cdv : Value), (∀ q, f = He.fAd K q → cdv = .ref (He.codeOf K q)) → ∀ (A : Around) (outer : List PySem.Env) (s : Shared) (H : Hp) (vs : List V) (Q : VK) (E : XK), Room k (A.deeper (envOfC qual scope s.heap.objs.size f cdv)) → sp vs H Q E →
      ∃ t, PSs (cxOf CX P w K mg base N qual scope f cdv A outer s H E) body t ∧ t { nx := fun _ H' => Q .non H', rt := Q } (start N vs) H) : FnOk P w K mg base CX (k + 1) f fd ps sp := by
  obtain ⟨oc, od, dV, kV, doc, pm, an, cdv, ct, osl, rfl, lk, hcd, _, _⟩ := F.ex
  have hcq : ∀ q, f = He.fAd K q → cdv = .ref (He.codeOf K q) := fun q e => by
    subst e
    obtain ⟨c, hc⟩ := He.codeIn_ref hcd
    rw [He.codeOf_eq lk hc]
    exact hc
  exact fn_of lk hcd S len fun A outer s H vs Q E hr hsp => hbody cdv hcq A outer s H vs Q E hr hsp
theorem fn_dataL {n : Nat} (q : He.Defn) (hq : f = He.fAd K q) (hn : ps.length = n) (FF : FunD K x qual params body scope dvs kws f fd) (S : FnScope N ps scope) (ne : noErr g)
    (h : ∃ m, (∀ (A : Around) (outer : List PySem.Env) (s : Shared) (H : Hp) (E : XK), Room k (A.deeper (envOfC qual scope s.heap.objs.size f (.ref (codA K q)))) → PSs (cxOf CX0 P w K mg base N qual scope f (.ref (codA K q)) A outer s H E).nox body (sD K E00 m)) ∧ Le n g m N.length) :
    FnOk P w K mg base CX0 (k + 1) f fd ps (sp0 K n g) := by
  obtain ⟨m, hb, hl⟩ := h
  refine fnL_ok FF S (fun vs H Q E z => z.1.trans hn.symm) fun cdv hc A outer s H vs Q E hr hs => ?_
  obtain rfl := cod_of hc hq
  exact ⟨_, PSs.nox (hb A outer s H E hr), body_run hl hs fun ds c d e => absurd e (ne ds c d)⟩
end
/-! ### == and != by an own __eq__ -/
section
variable {X : Cx} {pins : List (Addr × Obj)} {σ : L2.St} {H : Hp} {s : Shared} {C f a dx : Addr} {fs : List (Str × V)} {name : Str}
def rEqOwn (K : PySem.W.Frag) (C : Addr) (sp : Sp) (E : XK) (neg : Bool) : R2 := fun x y H Q => ∃ a dx fs t, x = .ref a ∧ H a = some (.ins C dx fs) ∧ TyX K H y t ∧ PySem.W.notFirst K C t = true ∧ sp [x, y] H (fun v H' => ∃ b, v = .bl b ∧ Q (.bl (neg ^^ b)) H') E
variable {CX : CXT} {k : Nat} {fd : FuncData} {ps : List Str} {sp : Sp} {E : XK}
theorem op_eqOwn (m : Meth X.K C "__eq__" f) (F : FnOk X.prog X.w X.K X.mg X.base CX k f fd ps sp) (hr : Room k X.A) (hb : Binds X.K fd ps []) (hx : Passes CX X E) : OpR X (compareOp .Eq) (rEqOwn X.K C sp E false) := by
  intro pins s σ H x y v u Q I rx ry h
  obtain ⟨a, dx, fs, t, rfl, ha, ty, hn, hs⟩ := h
  cases rx
  obtain ⟨mA, J, _⟩ := ins_get I.hok ha
  obtain ⟨od, J, _⟩ := J.look
  obtain ⟨m', hF⟩ := I.fr
  obtain ⟨Pz, Z, pz, _⟩ := kit_of I ry ty
  show wpAny _ _ (richCompare .Eq (.ref a) u) _ _ s
  refine PySem.W.cmp_K (op := .Eq) (tb := t) hr.units0 hF I.ok.mod.kin J (Z.ty _ _ I.kIn pz) hn m.at_ m.fn ?_
  refine thn (run_fn (vs := [.ref a, y]) (us := [.ref a, u]) (dvs := []) F hr hb .nil hx I (.cons rfl (.cons ry .nil)) (show sp ([V.ref a, y] ++ []) H _ E from hs)) fun r s' ⟨z, H', I', rz, b, e, q⟩ => ?_
  subst e
  cases rz
  exact ⟨.bl b, H', I', rfl, by rw [Bool.false_xor] at q; exact q⟩
theorem check_slot_K {M : Model} {A : Around} {K : PySem.W.Frag} {id owner n : String} {x : Addr} {rest : List Value} {ox : Obj} {od : Option Obj} {s : Shared} {E : Value → Shared → Prop} {Q : Unit → Shared → Prop} (X : K.In s.heap) (I : PySem.W.InstAt s.heap x ox C od) (hm : PySem.W.mroIn K C (.type owner) = some true)
    (hk : builtinKind id = some .slot) (hs : splitId id = some (owner, n)) (ha : argsOk id ⟨.ref x :: rest, []⟩) (hq : Q () s) : wpAny M A (checkBuiltinCall id ⟨.ref x :: rest, []⟩) Q E s := by
  simp only [checkBuiltinCall, hk, hs]
  refine wpAny_bind ?_
  unfold isInstance
  refine wpAny_bind (I.type.here ((PySem.W.looks_mroIn X hm).here ?_))
  simp only [Bool.not_true, Bool.false_eq_true, if_false]
  cases hsig : Manifest.signature? id with
  | none => exact wpAny_pure hq
  | some sig =>
    simp only [argsOk, hsig] at ha
    have h2 : Bind.checkArgs id sig ⟨.ref x :: rest, []⟩ = pure () := ha
    show wpAny M A (Bind.checkArgs id sig ⟨.ref x :: rest, []⟩) Q E _
    rw [h2]; exact wpAny_pure hq
theorem ifBound_obj {M : Model} {A : Around} {K : PySem.W.Frag} {id : String} {name : Str} {x : Addr} {args : List Value} {ox : Obj} {od : Option Obj} {s : Shared} {E : Value → Shared → Prop} {Q : Option Value → Shared → Prop} (X : K.In s.heap) (I : PySem.W.InstAt s.heap x ox C od) (hs : PySem.W.findIn K (.ref C) name = some (some (.builtin id)))
    (S : Slot "object" name id) (h : wpAny M A (call (.builtin id) (.ref x :: args)) (fun v => Q (some v)) E s) : wpAny M A (callSpecialIfBound? (.ref x) name args) Q E s := by
  simp only [callSpecialIfBound?, bindSpecialIfBound?]
  refine wpAny_holding (wpAny_bind (wpAny_bind (wpAny_bind (I.type.here ((PySem.W.looks_findIn X hs).here ?_)))))
  simp only [S.bind]
  refine wpAny_bind (wpAny_askSetting (wpAny_ite ?_))
  have fin : wpAny M A (call (.builtin id) ([.ref x] ++ args) >>= fun v => pure (some v)) Q E s := wpAny_bind (wpAny_mono h (fun v s' h' => wpAny_pure h') fun _ _ h' => h')
  split
  · exact wpAny_bind (wpAny_pure (wpAny_pure fin))
  · exact wpAny_tryCatch (wpAny_bind (wpAny_pure (wpAny_pure fin)))
theorem objNe_K {prog : Program} {w : World} {A : Around} {K : PySem.W.Frag} {x f : Addr} {b : Value} {ox : Obj} {od : Option Obj} {s : Shared} {E : Value → Shared → Prop} {Q : Fin → Shared → Prop} (hu : A.units < cLine) (X : K.In s.heap) (I : PySem.W.InstAt s.heap x ox C od) (m : Meth K C "__eq__" f)
    (h : wpAny (model prog w) A (call (.ref f) [.ref x, b]) (fun v s' => ∃ r, v = .bool r ∧ Q (.done (.ret (.bool (!r)))) s') E s) : wpAny (model prog w) A (Builtin.«object.__ne__» ⟨[.ref x, b], []⟩) Q E s := by
  unfold Builtin.«object.__ne__»
  refine wpAny_bind (m := slotArgs "__ne__" 1 _) (wpAny_pure ?_)
  refine wpAny_bind (wpAny_cRoomFor hu ?_)
  refine wpAny_bind (m := callSpecialIfBound? (.ref x) (Str.ofString "__eq__") [b]) (PySem.W.ifBound_K X I m.at_ m.fn (wpAny_mono h (fun v s' z => ?_) fun _ _ e => e))
  obtain ⟨r, rfl, q⟩ := z
  exact wpAny_bind (m := truthy (.bool r)) (wpAny_truthy_bool (wpAny_pure q))
theorem op_neOwn (m : Meth X.K C "__eq__" f) (ne : PySem.W.findIn X.K (.ref C) "__ne__" = some (some (.builtin "object.__ne__"))) (ob : PySem.W.mroIn X.K C (.type "object") = some true)
    (F : FnOk X.prog X.w X.K X.mg X.base CX k f fd ps sp) (hr : Room (k + 1) X.A) (hb : Binds X.K fd ps []) (hx : Passes CX X E) : OpR X (compareOp .NotEq) (rEqOwn X.K C sp E true) := by
  intro pins s σ H x y v u Q I rx ry h
  obtain ⟨a, dx, fs, t, rfl, ha, ty, hn, hs⟩ := h
  cases rx
  obtain ⟨mA, J, _⟩ := ins_get I.hok ha
  obtain ⟨od, J, _⟩ := J.look
  obtain ⟨Pz, Z, pz, _⟩ := kit_of I ry ty
  have one : wpAny (model X.prog X.w) X.A (tryCompare (.ref a) "__ne__" u) (fun r s' => ∃ v, r = some v ∧ EP X pins σ Q v s') X.xe s := by
    unfold tryCompare
    refine wpAny_bind (ifBound_obj I.kIn J ne PySem.F.cmp_object.ne (wpAny_call (codeAny_call_builtin PySem.F.cmp_object.ne.plain PySem.F.cmpEntry_ne (check_slot_K I.kIn J ob PySem.F.cmpKind_ne PySem.F.cmpSplit_ne (PySem.F.cmpArgs_ne _ _) ?_))))
    have hl : [Value.ref a, u].length = ps.length := F.len _ _ _ _ hs
    refine objNe_K hr.in1.units0 I.kIn J m (wpAny_call (codeAny_mono (F.run X.A.in1 X.stack s H ⟨[.ref a, u], []⟩ [.ref a, u] [.ref a, y] _ E hr.in1 I.env0.in1 (by simpa using hb s [.ref a, u] I.kIn (by simpa using hl)) (.cons rfl (.cons ry .nil)) hs) fun r s' hq => ?_))
    cases r with
    | error er => exact hx pins σ H s er s' I hq
    | ok fl =>
      cases fl with
      | ret z =>
        obtain ⟨v, H', I3, rv, b, eb, q3⟩ := I.after hq
        subst eb
        cases rv
        exact ⟨b, rfl, wpAny_pure ⟨_, rfl, .bl (!b), H', I3, rfl, by rw [Bool.true_xor] at q3; exact q3⟩⟩
      | next => exact False.elim hq
      | brk => exact False.elim hq
      | cont => exact False.elim hq
  show wpAny _ _ (richCompare .NotEq (.ref a) u) _ _ s
  unfold richCompare
  simp only [oneThing_ref]
  refine wpAny_holding (wpAny_bind (wpAny_cRoomFor hr.units0 ?_))
  refine wpAny_bind (J.type.here (wpAny_bind ((Z.ty _ _ I.kIn pz).here ?_)))
  split
  · rename_i q
    have e : PySem.W.subIn X.K t (.ref C) = some false := by
      rcases Bool.or_eq_true_iff.mp hn with e | e
      · rw [beq_iff_eq.mp e] at q; simp at q
      · exact beq_iff_eq.mp e
    refine wpAny_bind ((PySem.W.looks_subIn I.kIn e).here ?_)
    simp only [Bool.false_eq_true, if_false]
    refine wpAny_bind (wpAny_mono one (fun r s' z => ?_) fun _ _ e => e)
    obtain ⟨v, rfl, hq⟩ := z
    exact wpAny_pure hq
  · refine wpAny_bind (wpAny_pure ?_)
    simp only [Bool.false_eq_true, if_false]
    refine wpAny_bind (wpAny_mono one (fun r s' z => ?_) fun _ _ e => e)
    obtain ⟨v, rfl, hq⟩ := z
    exact wpAny_pure hq
end
end DL
namespace DL
open PySem PySem.Spec PyProof.Rows L2 MT PySem.MEX LamX
/-! ### classes of the text, as facts -/
def tyNs : List String := ["NoneType", "bool", "int", "str", "list", "tuple", "dict"]
theorem tyN_mem (d : PyData) : tyN d ∈ tyNs := by
  cases d <;> simp [tyN, tyNs]
structure IsX (K : PySem.W.Frag) (es cs : List Str) : Prop where
  ee : ∀ c ∈ es, ∀ y ∈ es, PySem.W.kitOne K (.ref (He.ga K c)) (.ref (He.ga K y)) = some (decide (y = c) || decide (y = mE))
  ex : ∀ c ∈ es, ErrTxt K (atD K) (atI0 K) (He.ga K c) ∧ ExcC K (He.ga K c)
  dd : ∀ y ∈ es ++ cs, ∀ n ∈ tyNs, PySem.W.kitOne K (.type n) (.ref (He.ga K y)) = some false
  cc : ∀ c ∈ cs, ∀ y ∈ cs, PySem.W.kitOne K (.ref (He.ga K c)) (.ref (He.ga K y)) = some (decide (y = c))
  ok : ∀ c ∈ cs, insB K c = true
  cl : ∀ c ∈ cs, Cls K (He.ga K c)
theorem insB_ok {K : PySem.W.Frag} {c : Str} (h : insB K c = true) : (PySem.W.findIn K (.ref (He.ga K c)) "__class__" = some (some (.builtin "object.__class__")) ∧ PySem.W.specialIn K (.builtin "object.__class__") "__get__" = some (some (.builtin "getset_descriptor.__get__")) ∧ PySem.W.takesIn K (.builtin "object.__class__") = some true ∧ PySem.W.mroIn K (He.ga K c) (.type "object") = some true) ∧ PySem.W.findIn K (.ref (He.ga K c)) "__ne__" = some (some (.builtin "object.__ne__")) := by
  obtain ⟨c1, h⟩ := He.ba h
  obtain ⟨c2, h⟩ := He.ba h
  obtain ⟨c3, h⟩ := He.ba h
  obtain ⟨c4, c5⟩ := He.ba h
  exact ⟨⟨He.eqO_ok c1, He.eqO_ok c2, of_decide_eq_true c3, of_decide_eq_true c4⟩, He.eqO_ok c5⟩
theorem isx_of {K : PySem.W.Frag} {es cs : List Str} (h : isxB K es cs = true) (ee : ∀ c ∈ es, ∀ y ∈ es, PySem.W.kitOne K (.ref (He.ga K c)) (.ref (He.ga K y)) = some (decide (y = c) || decide (y = mE)))
    (ex : ∀ c ∈ es, ErrTxt K (atD K) (atI0 K) (He.ga K c) ∧ ExcC K (He.ga K c)) (cl : ∀ c ∈ cs, Cls K (He.ga K c)) : IsX K es cs := by
  obtain ⟨h1, h⟩ := He.ba h
  obtain ⟨h2, h3⟩ := He.ba h
  exact ⟨ee, ex, fun y hy n hn => of_decide_eq_true (List.all_eq_true.mp (List.all_eq_true.mp h1 y hy) n hn), fun c hc y hy => of_decide_eq_true (List.all_eq_true.mp (List.all_eq_true.mp h2 c hc) y hy), fun c hc => List.all_eq_true.mp h3 c hc, cl⟩
section
variable {K : PySem.W.Frag} {E : XK} {F F' : Hp} {G : Gd} {σ : L2.St} {H H' : Hp} {δ : Env} {es cs : List Str}
theorem notFirst_ty (C : Addr) (d : PyData) : PySem.W.notFirst K C (.type (tyN d)) = true := by
  cases d <;> (unfold PySem.W.notFirst PySem.W.subIn tyN; first | rfl | kernel_rfl | simp)
theorem tyx_obj (Z : IsX K es cs) {c : Str} (hc : c ∈ cs) {a dx : Addr} {fs : List (Str × V)} (h : H a = some (.ins (He.ga K c) dx fs)) : TyX K H (.ref a) (.ref (He.ga K c)) := by
  obtain ⟨⟨h1, h2, h3, h4⟩, _⟩ := insB_ok (Z.ok c hc)
  exact .base (.ins h (Z.cl c hc) h1 h2 h3 h4)
/-! ### == and != by an own __eq__, on what is shown -/
def eqOk (c : Str) : D → Bool
  | .dat _ => true
  | .obj c' _ _ => decide (c' = c)
  | _ => false
def mEqO (neg : Bool) (c : Str) (f : List D → R D) (ma mb : M D) : M Bool := fun δ => (ma δ).bind fun x δ1 => (mb δ1).bind fun y δ2 => if isObj c x = true ∧ eqOk c y = true then (back (f [x, y]) δ2).bind fun d δ3 => (mOf (asB d) δ3).bind fun b δ4 => .ok (neg ^^ b) δ4 else .stuck
theorem eqO_aux (Z : IsX K es cs) {neg : Bool} {c : Str} (hc : c ∈ cs) {f : List D → R D} {ma mb : M D} {Q : VK} (S : SR K F G σ H δ) (h : Post K E F G σ (mEqO neg c f ma mb δ) fun b _ _ H' => Q (.bl b) H') : tOp (rEqOwn K (He.ga K c) (sp0 K 2 f) E neg) (tD K E ma) (tD K E mb) σ H Q := by
  refine ⟨F, G, δ, S, h.bind.imp fun x δ1 F1 H1 e1 S1 q v rv => ⟨F1, G, δ1, S1, q.bind.imp fun y δ2 F2 H2 e2 S2 q2 w rw => ?_⟩⟩
  split at q2
  · rename_i hk
    obtain ⟨hk, hy⟩ := hk
    obtain ⟨ns, ds, rfl⟩ := isObj_eq hk
    have rv2 := rv.same e2.same
    obtain ⟨a, dx, fs, rfl, hf, rfl, t⟩ := rv2.obj_of
    have fin : sp0 K 2 f [.ref a, w] H2 (fun v H' => ∃ b, v = .bl b ∧ Q (.bl (neg ^^ b)) H') E := call_post S2 (.cons rv2 (.cons rw .nil)) rfl (q2.bind.imp fun d δ3 F3 H3 e3 S3 q3 z rz => by
      obtain ⟨b, hb, q4⟩ := q3.bind.of
      have e := asB_eq hb
      subst e
      cases rz.dd
      exact ⟨b, rfl, q4 F3 H3 (Ext.refl _ _) S3 F3 H3 (Ext.refl _ _) S3⟩)
    unfold eqOk at hy
    split at hy
    · exact ⟨a, dx, fs, _, rfl, S2.fh _ _ hf, (rw.dd.same S2.fh).tyx, notFirst_ty _ _, fin⟩
    · have e := of_decide_eq_true hy
      subst e
      obtain ⟨a2, dx2, fs2, rfl, hf2, _, _⟩ := rw.obj_of
      exact ⟨a, dx, fs, _, rfl, S2.fh _ _ hf, tyx_obj Z hc (S2.fh _ _ hf2), by unfold PySem.W.notFirst; simp, fin⟩
    · cases hy
  · exact q2.elim
theorem md_eqO (Z : IsX K es cs) {neg : Bool} {c : Str} (hc : c ∈ cs) {f : List D → R D} {ma mb : M D} : ∀ σ H Q, tBo K E (mEqO neg c f ma mb) σ H Q → tTest (tOp (rEqOwn K (He.ga K c) (sp0 K 2 f) E neg) (tD K E ma) (tD K E mb)) σ H Q := by
  rintro σ H Q ⟨F, G, δ, S, h⟩
  exact eqO_aux Z hc S (h.imp fun b _ _ H' _ _ q => ⟨b, rfl, q⟩)
theorem md_eqOV (Z : IsX K es cs) {neg : Bool} {c : Str} (hc : c ∈ cs) {f : List D → R D} {ma mb : M D} : ∀ σ H Q, tD K E (mBD (mEqO neg c f ma mb)) σ H Q → tOp (rEqOwn K (He.ga K c) (sp0 K 2 f) E neg) (tD K E ma) (tD K E mb) σ H Q := by
  rintro σ H Q ⟨F, G, δ, S, h⟩
  exact eqO_aux Z hc S (h.bind.imp fun b δ' F' H' _ S' q => q F' H' (Ext.refl _ _) S' _ (.dat (.bl b)))
/-! ### isinstance by classes of the text -/
def isiX (es cs : List Str) : List D → Option D
  | [.dat _, .cls y] => if y ∈ es ++ cs then some (.dat (.bool false)) else none
  | [.exc c _, .cls y] => if c ∈ es ∧ y ∈ es then some (.dat (.bool (decide (y = c) || decide (y = mE)))) else none
  | [.obj c _ _, .cls y] => if c ∈ cs ∧ y ∈ cs then some (.dat (.bool (decide (y = c)))) else none
  | _ => none
def rIsX (K : PySem.W.Frag) : List V → Hp → VK → Prop := fun xs H Q => rIsi K xs H Q ∨ rIsV K xs H Q
theorem call_isX {X : Cx} : CallR X (.builtin "isinstance") (rIsX X.K) := fun pins s σ H xs us Q I r h => h.elim (call_isi pins s σ H xs us Q I r) (call_isV pins s σ H xs us Q I r)
theorem rc_isiX (Z : IsX K es cs) : RC K (rIsX K) (isiX es cs) := fun {F G σ H δ xs ds d Q} S r h q => by
  unfold isiX at h
  split at h
  · rename_i x y
    split at h
    · rename_i hy
      cases h
      cases r with
      | cons r1 rt =>
        cases rt with
        | cons r2 rt =>
          cases rt
          cases r2
          exact .inl ⟨_, _, _, _, false, rfl, .own _, (r1.dd.same S.fh).tyx, Z.dd y hy _ (tyN_mem x), q _ F H (Ext.refl _ _) S (.dat (.bl _))⟩
    · cases h
  · rename_i c x y
    split at h
    · rename_i hy
      cases h
      cases r with
      | cons r1 rt =>
        cases rt with
        | cons r2 rt =>
          cases rt
          cases r2
          cases r1 with
          | exc h1 h2 h3 => exact .inr ⟨_, _, _, _, _, _, _, rfl, S.fh _ _ h1, S.fh _ _ h2, .own _, (Z.ex c hy.1).2, Z.ee c hy.1 y hy.2, q _ F H (Ext.refl _ _) S (.dat (.bl _))⟩
    · cases h
  · rename_i c ns x y
    split at h
    · rename_i hy
      cases h
      cases r with
      | cons r1 rt =>
        cases rt with
        | cons r2 rt =>
          cases rt
          cases r2
          obtain ⟨a, dx, fs, rfl, hf, _, _⟩ := r1.obj_of
          exact .inl ⟨_, _, _, _, _, rfl, .own _, tyx_obj Z hy.1 (S.fh _ _ hf), Z.cc c hy.1 y hy.2, q _ F H (Ext.refl _ _) S (.dat (.bl _))⟩
    · cases h
  · cases h
/-! ### the value of a caught error -/
def errVF (es : List Str) : D → Option D
  | .exc c d => if c ∈ es then some d else none
  | _ => none
theorem md_errF (Z : IsX K es cs) {m : M D} : ∀ σ H Q, tD K E (mUn (errVF es) m) σ H Q → tErrF K (atD K) (atI0 K) (tD K E m) σ H Q := by
  rintro σ H Q ⟨F, G, δ, S, h⟩
  refine ⟨F, G, δ, S, h.bind.imp fun x δ1 F1 H1 e1 S1 q v rv => ?_⟩
  obtain ⟨d, hd, q2⟩ := q.of
  unfold errVF at hd
  split at hd
  · split at hd
    · rename_i hc
      cases hd
      cases rv with
      | exc h1 h2 h3 => exact ⟨_, _, _, _, rfl, S1.fh _ _ h1, S1.fh _ _ h2, (Z.ex _ hc).1, q2 F1 H1 (Ext.refl _ _) S1 _ h3⟩
    · cases hd
  · cases hd
end
section
variable {X : Cx} {CX : CXT} {k : Nat} {c : Str} {ps : List Str} {sp : Sp} {E : XK}
theorem op_eqO (O : OkM X.prog X.w X.K X.mg X.base CX k c "__eq__" ps [] sp) (hr : Room k X.A) (hx : Passes CX X E) : OpR X (compareOp .Eq) (rEqOwn X.K (He.ga X.K c) sp E false) := by
  obtain ⟨⟨fd, ds, F, b, d⟩, cl, me⟩ := O
  cases d
  exact op_eqOwn me F hr b hx
theorem op_neO {es cs : List Str} (Z : IsX X.K es cs) (hc : c ∈ cs) (O : OkM X.prog X.w X.K X.mg X.base CX k c "__eq__" ps [] sp) (hr : Room (k + 1) X.A) (hx : Passes CX X E) : OpR X (compareOp .NotEq) (rEqOwn X.K (He.ga X.K c) sp E true) := by
  obtain ⟨⟨fd, ds, F, b, d⟩, cl, me⟩ := O
  cases d
  obtain ⟨⟨_, _, _, ob⟩, ne⟩ := insB_ok (Z.ok c hc)
  exact op_neOwn me ne ob F hr b hx
end
end DL
namespace DL
open PySem PySem.Spec PyProof.Rows L2 MT PySem.MEX LamX
/-! ### x(lambda: body), by the text's tables -/
section
variable {X : Cx}
theorem pe_lamD {TT : (XK → Hp → VK → Prop) → Hp → VK → Prop} {x a : Str} {g : Addr} {k : Nat} {pg : Arguments} {bg : List Stmt} {sg : Scope} {dvs : List V} {kws : List (Str × V)} {fd : FuncData} {Ng : List Str}
    {params : Arguments} {body : Expr} {scope : Scope} {t : XK → TE} {p lpos pos : Pos} (q : He.Defn × Str) (hl : q ∈ lamDefs) (TB : TBs X.K X.mg X.base) (nd : ndT X.K = true) (hq : X.env.qual ++ "<lambda>" = q.2)
    (hg : Gl X x) (hm : X.mg x = some (.ref g)) (FF : FunD X.K x x pg bg sg dvs kws g fd) (hb : L2.Binds X.K fd [a] []) (Sg : FnScope Ng [a] sg) (hNg : Ng[0]? = some a) (hva : Vis sg a)
    (hG : ∀ cdv, GivesS X Ng x sg g cdv bg a (X.env.qual ++ "<lambda>") TT)
    (hcode : X.env.code = .ref (codA X.K q.1)) (hr : Room (k + 2) X.A) (L : LamS X.env.scope scope) (hdef : defaultsOf params X.env = ([], []))
    (hbind : ∀ (q : Str) (cl : List (Str × Addr)) (pm cv ctv : Value), bindArgs (PySem.W.kla_fn "<lambda>" q params body scope cl pm cv ctv) ⟨[], []⟩ = pure [])
    (hbody : ∀ (A : Around) (outer : List PySem.Env) (s : Shared) (H : Hp) (E : XK) (f c' : Addr), Room k (A.deeper (lamEnv X scope s.heap.objs.size f c')) → PE (lamCx X A outer s H E scope f c') body (t E))
    (hdb : (x == ("__debug__" : Str)) = false := by decide) (hd : (a == ("__debug__" : Str)) = false := by decide) (hcd : (a == ("__classdict__" : Str)) = false := by decide) :
    PE X (.Call (.Name x p) [.Lambda params body scope lpos] [] pos) (tLam (TabL X.K) TT t) :=
  pe_lamS hg hm FF hb Sg hNg hva hG (TB q hl) hcode (by rw [hq]; exact tab_mem hl) (fun p hp e => (tab_uniq nd hl p hp e).trans hq.symm) hr L hdef hbind hbody hdb hd hcd
theorem tk_lam {A : Around} {outer : List PySem.Env} {s : Shared} {H : Hp} {E : XK} {scope : Scope} {f c' : Addr} : TkX (lamCx X A outer s H E scope f c') E := takes_of (E := E) rfl rfl rfl rfl
end
end DL
namespace DL
open PySem PySem.Spec PyProof.Rows L2 MT
/-! ### {} -/
section
variable {K : PySem.W.Frag} {E : XK}
def mDNew : M D := mOk (.dat (.dict []))
theorem md_dnew : ∀ σ H Q, tFr K E mDNew σ H Q → tDNewK σ H Q := by
  rintro σ H Q ⟨F, G, δ, S, h⟩ p np
  obtain ⟨f, g⟩ := S.gf np
  refine h F _ (Ext.refl _ _) (S.new np) p f g (.dic (kvs := []) (ds := []) upd_same .nil) fun i hi => ?_
  obtain ⟨_, _, o, ho⟩ := S.ownAt hi
  rw [np] at ho; cases ho
end
end DL

namespace DL
open PySem PySem.Spec PyProof.Rows L2 MT
/-! ### evaluation: what is raised, told, compared -/
section
variable {α β : Type} {δ δ' : Env} {c : Str} {d x : D}
theorem ev_raise {m : M D} : mRaise c m δ = (m δ).bind fun d δ1 => .err c d δ1 := rfl
theorem back_err : back (.err c d : R α) δ = .err c d δ := rfl
theorem outR_err : outR (.err c d δ) = .err c d := rfl
def kTold (es : List Str) : Res D → Res D := fun r => match r with
  | .ok d δ' => .ok (.wk [.dat .none, d]) δ'
  | .err c d δ' => if c ∈ es then .ok (.wk [.exc c d, .dat .none]) δ' else .stuck
  | .stuck => .stuck
theorem ev_toldM {es : List Str} {m : M D} : mTold es m δ = kTold es (m δ) := rfl
theorem kTold_ok {es : List Str} : kTold es (.ok d δ) = .ok (.wk [.dat .none, d]) δ := rfl
theorem kTold_err {es : List Str} : kTold es (.err c d δ) = if c ∈ es then .ok (.wk [.exc c d, .dat .none]) δ else .stuck := rfl
theorem told_err {es : List Str} {m : M D} (h : m δ = .err c d δ') (hc : c ∈ es) : mTold es m δ = .ok (.wk [.exc c d, .dat .none]) δ' := by
  rw [ev_toldM, h, kTold_err, if_pos hc]
theorem told_ok {es : List Str} {m : M D} (h : m δ = .ok d δ') : mTold es m δ = .ok (.wk [.dat .none, d]) δ' := by
  rw [ev_toldM, h, kTold_ok]
theorem isiX_dat {es cs : List Str} {y : Str} {v : PyData} (h : y ∈ es ++ cs) : isiX es cs [.dat v, .cls y] = some (.dat (.bool false)) := if_pos h
theorem isiX_exc {es cs : List Str} {y : Str} (h : c ∈ es) (h2 : y ∈ es) : isiX es cs [.exc c d, .cls y] = some (.dat (.bool (decide (y = c) || decide (y = mE)))) := if_pos ⟨h, h2⟩
theorem isiX_obj {es cs : List Str} {y : Str} {ns : List Str} {ds : List D} (h : c ∈ cs) (h2 : y ∈ cs) : isiX es cs [.obj c ns ds, .cls y] = some (.dat (.bool (decide (y = c)))) := if_pos ⟨h, h2⟩
theorem ev_isiX : True := trivial
def kEqO2 (neg : Bool) (c : Str) (f : List D → R D) (x y : D) : M Bool := fun δ => if isObj c x = true ∧ eqOk c y = true then (back (f [x, y]) δ).bind fun d δ3 => (mOf (asB d) δ3).bind fun b δ4 => .ok (neg ^^ b) δ4 else .stuck
def kEqO (neg : Bool) (c : Str) (f : List D → R D) (mb : M D) (x : D) : M Bool := fun δ => (mb δ).bind (kEqO2 neg c f x)
theorem ev_eqO {neg : Bool} {f : List D → R D} {ma mb : M D} : mEqO neg c f ma mb δ = (ma δ).bind (kEqO neg c f mb) := rfl
theorem kEqO_ev {neg : Bool} {f : List D → R D} {mb : M D} : kEqO neg c f mb x δ = (mb δ).bind (kEqO2 neg c f x) := rfl
theorem kEqO2_ev {neg : Bool} {f : List D → R D} {y : D} : kEqO2 neg c f x y δ = if isObj c x = true ∧ eqOk c y = true then (back (f [x, y]) δ).bind fun d δ3 => (mOf (asB d) δ3).bind fun b δ4 => .ok (neg ^^ b) δ4 else .stuck := rfl
theorem ev_errV {es : List Str} (h : c ∈ es) : errVF es (.exc c d) = some d := if_pos h
theorem ev_dnew : mDNew δ = .ok (.dat (.dict [])) δ := rfl
/-- a loop by what it keeps; n turns are to come -/
theorem forL_inv {g : D → Env → Option Env} {mb : M Out} {I : Nat → Env → Prop} : ∀ {items : List D} {δ : Env}, I items.length δ → (∀ d ∈ items, ∀ n δ, I (n + 1) δ → ∃ δ2 δ3, g d δ = some δ2 ∧ mb δ2 = .ok .nx δ3 ∧ I n δ3) → ∃ δ', forL g mb items δ = .ok .nx δ' ∧ I 0 δ'
  | [], δ, h, _ => ⟨δ, rfl, h⟩
  | d :: ds, δ, h, H => by
    obtain ⟨δ2, δ3, h1, h2, h3⟩ := H d (.head _) ds.length δ h
    obtain ⟨δ', h4, h5⟩ := forL_inv (items := ds) h3 fun x hx => H x (.tail _ hx)
    exact ⟨δ', by rw [forL_cons h1 h2, h4], h5⟩
theorem isN_exc : isN (.exc c d) (.dat .none) = some false := rfl
theorem isN_dat {v : PyData} : isN (.dat v) (.dat .none) = some (match v with | .none => true | _ => false) := rfl
end
end DL

namespace DL
open PySem PySem.Spec PyProof.Rows L2 MT
/-! ### whether data shows itself in small: of any kind -/
def OkL (l : List Nat) : Prop := ∀ c ∈ l, c < 0x110000
theorem strOk_iff {x : Str} : PyData.strOk x = true ↔ OkL x.cps.toList := by
  unfold PyData.strOk OkL
  rw [← Array.all_toList, List.all_eq_true]
  exact ⟨fun h c hc => of_decide_eq_true (h c hc), fun h c hc => decide_eq_true (h c hc)⟩
theorem OkL.app {a b : List Nat} (ha : OkL a) (hb : OkL b) : OkL (a ++ b) := fun c hc => (List.mem_append.mp hc).elim (ha c) (hb c)
theorem okS_app {a b : Str} (ha : PyData.strOk a = true) (hb : PyData.strOk b = true) : PyData.strOk (a ++ b) = true := by
  rw [strOk_iff] at ha hb ⊢
  show OkL (a.cps ++ b.cps).toList
  rw [Array.toList_append]
  exact ha.app hb
theorem char_ok (x : Char) : x.toNat < 0x110000 := by
  have h := x.valid
  have e : x.toNat = x.val.toNat := rfl
  rw [e]
  rcases h with h | h
  · exact Nat.lt_trans h (by decide)
  · exact h.2
theorem okL_chars (l : List Char) : OkL (l.map Char.toNat) := fun c hc => by
  obtain ⟨x, _, rfl⟩ := List.mem_map.mp hc
  exact char_ok x
theorem okS_of (s : String) : PyData.strOk (Str.ofString s) = true := by
  rw [strOk_iff, Str.ofString_eq_toList]
  exact okL_chars _
theorem okL_rep {n c : Nat} (h : c < 0x110000) : OkL (List.replicate n c) := fun d hd => by
  rw [(List.mem_replicate.mp hd).2]; exact h
theorem okL_nil : OkL [] := fun c hc => by cases hc
theorem okL_cons {c : Nat} {l : List Nat} (h : c < 0x110000) (hl : OkL l) : OkL (c :: l) := fun d hd => (List.mem_cons.mp hd).elim (fun e => e ▸ h) (hl d)
theorem okL_char {q c : Nat} (hc : c < 0x110000) : OkL (Builtin.Str.reprChar q c) := by
  have hx : ∀ w, OkL (List.replicate (w - ((Nat.toDigits 16 c).map Char.toNat).length) 48 ++ (Nat.toDigits 16 c).map Char.toNat) := fun w => (okL_rep (by decide)).app (okL_chars _)
  unfold Builtin.Str.reprChar
  dsimp only
  repeat' split
  all_goals first
    | exact okL_cons (by decide) (okL_cons hc okL_nil)
    | exact okL_cons (by decide) (okL_cons (by decide) okL_nil)
    | exact okL_cons hc okL_nil
    | exact (okL_cons (by decide) (okL_cons (by decide) okL_nil)).app (hx _)
theorem okL_fold {q : Nat} : ∀ {l : List Nat} {acc : Array Nat}, OkL l → OkL acc.toList → OkL (l.foldl (fun out c => out ++ (Builtin.Str.reprChar q c).toArray) acc).toList
  | [], acc, _, ha => ha
  | c :: r, acc, h, ha => by
    rw [List.foldl_cons]
    refine okL_fold (fun d hd => h d (.tail _ hd)) ?_
    rw [Array.toList_append]
    exact ha.app (okL_char (h c (.head _)))
theorem okS_repr {x : Str} (h : PyData.strOk x = true) : PyData.strOk (reprText x) = true := by
  rw [strOk_iff] at h ⊢
  unfold reprText
  have hq : reprQuote x < 0x110000 := by
    unfold reprQuote
    split <;> decide
  show OkL ((x.cps.foldl (fun out c => out ++ (Builtin.Str.reprChar (reprQuote x) c).toArray) #[reprQuote x]).push (reprQuote x)).toList
  rw [Array.toList_push, ← Array.foldl_toList]
  exact (okL_fold h (okL_cons hq okL_nil)).app (okL_cons hq okL_nil)
theorem okS_lit {s : String} : PyData.strOk (s : Str) = true := okS_of s
theorem okS_join {a : Str} (ha : PyData.strOk a = true) : ∀ {ts : List Str}, (∀ t ∈ ts, PyData.strOk t = true) → PyData.strOk (Str.join a ts) = true
  | [], _ => by
    rw [strOk_iff]
    exact okL_nil
  | [t], h => h t (.head _)
  | t :: u :: r, h => okS_app (okS_app (h t (.head _)) ha) (okS_join ha fun x hx => h x (.tail _ hx))
theorem okS_from : ∀ {ts : List Str} {i : Nat} {acc : Str}, PyData.strOk acc = true → (∀ t ∈ ts, PyData.strOk t = true) → PyData.strOk (textFrom i acc ts) = true
  | [], i, acc, ha, _ => ha
  | t :: r, i, acc, ha, h => by
    unfold textFrom
    exact okS_from (okS_app (okS_app ha (okS_of _)) (h t (.head _))) fun x hx => h x (.tail _ hx)
mutual
def sokD : PyData → Bool
  | .none | .bool _ | .int _ => true
  | .str x => PyData.strOk x
  | .list xs | .tuple xs => sokAll xs
  | .dict kvs => sokKv kvs
def sokAll : List PyData → Bool
  | [] => true
  | x :: xs => sokD x && sokAll xs
def sokKv : List (PyData × PyData) → Bool
  | [] => true
  | (k, v) :: r => (sokD k && sokD v) && sokKv r
end
mutual
theorem okS_shown : ∀ {d : PyData}, sokD d = true → PyData.strOk d.shown = true
  | .none, _ => by simp only [PyData.shown]; exact okS_of _
  | .bool b, _ => by cases b <;> (simp only [PyData.shown]; exact okS_of _)
  | .int i, _ => by simp only [PyData.shown]; exact okS_of _
  | .str x, h => by simp only [PyData.shown]; exact okS_repr (by simpa only [sokD] using h)
  | .list xs, h => by
    simp only [PyData.shown]
    exact okS_app (okS_from (okS_of _) (okS_all (by simpa only [sokD] using h))) (okS_of _)
  | .tuple xs, h => by
    simp only [PyData.shown]
    exact okS_app (okS_app (okS_of _) (okS_join (okS_of _) (okS_all (by simpa only [sokD] using h)))) (okS_of _)
  | .dict kvs, h => by
    simp only [PyData.shown]
    exact okS_app (okS_app (okS_of _) (okS_join (okS_of _) (okS_kv (by simpa only [sokD] using h)))) (okS_of _)
theorem okS_all : ∀ {xs : List PyData}, sokAll xs = true → ∀ t ∈ PyData.shownAll xs, PyData.strOk t = true
  | [], _, t, ht => by simp only [PyData.shownAll] at ht; cases ht
  | x :: xs, h, t, ht => by
    simp only [sokAll, Bool.and_eq_true] at h
    simp only [PyData.shownAll] at ht
    rcases List.mem_cons.mp ht with rfl | ht
    · exact okS_shown h.1
    · exact okS_all h.2 t ht
theorem okS_kv : ∀ {xs : List (PyData × PyData)}, sokKv xs = true → ∀ t ∈ PyData.shownKv xs, PyData.strOk t = true
  | [], _, t, ht => by simp only [PyData.shownKv] at ht; cases ht
  | (k, v) :: xs, h, t, ht => by
    simp only [sokKv, Bool.and_eq_true] at h
    simp only [PyData.shownKv] at ht
    rcases List.mem_cons.mp ht with rfl | ht
    · exact okS_app (okS_app (okS_shown h.1.1) (okS_of _)) (okS_shown h.1.2)
    · exact okS_kv h.2 t ht
end
/-- small, of good texts -/
def fitD (n k : Nat) (d : PyData) : Bool := (d.showable && d.leavesShort 13) && (decide (d.weight ≤ n) && (decide (d.depth ≤ k) && sokD d))
structure Fit (n k : Nat) (d : PyData) : Prop where
  sh : d.showable = true
  lv : d.leavesShort 13 = true
  we : d.weight ≤ n
  de : d.depth ≤ k
  so : sokD d = true
theorem fit_of {n k : Nat} {d : PyData} (h : fitD n k d = true) : Fit n k d := by
  unfold fitD at h
  simp only [Bool.and_eq_true, decide_eq_true_eq] at h
  exact ⟨h.1.1, h.1.2, h.2.1, h.2.2.1, h.2.2.2⟩
theorem Fit.mono {n k m l : Nat} {d : PyData} (h : Fit n k d) (h1 : n ≤ m) (h2 : k ≤ l) : Fit m l d := ⟨h.sh, h.lv, Nat.le_trans h.we h1, Nat.le_trans h.de h2, h.so⟩
theorem Fit.len {n k : Nat} {d : PyData} (h : Fit n k d) : d.shown.length ≤ 15 * n + 13 := by
  have h1 := PyData.shown_le 13 (by decide) d h.lv
  have h2 := h.we
  omega
theorem Fit.rep {n k : Nat} {d : PyData} (h : Fit n k d) (hn : n ≤ 60000) (hk : k ≤ 60) : reprF [.dat d] = some (.dat (.str d.shown)) ∧ PyData.strOk d.shown = true := by
  refine ⟨?_, okS_shown h.so⟩
  have h1 := h.len
  unfold reprF
  have : (d.showable && (decide (d.shown.length ≤ most) && decide (d.depth ≤ 60))) = true := by
    rw [h.sh, decide_eq_true (show d.shown.length ≤ most from show _ ≤ 1000000 by omega), decide_eq_true (show d.depth ≤ 60 from Nat.le_trans h.de hk)]; rfl
  exact if_pos this
theorem leaves_str {x : Str} (h : PyData.strOk x = true) : PyData.leavesShort 13 (.str x) = true := by
  simp only [PyData.leavesShort, List.all_eq_true, decide_eq_true_eq]
  intro c hc
  exact Nat.lt_trans ((strOk_iff.mp h) c hc) (by decide)
theorem Fit.str {x : Str} {n : Nat} (h : PyData.strOk x = true) (hl : x.length ≤ n) : Fit n 0 (.str x) := by
  refine ⟨rfl, leaves_str h, ?_, ?_, ?_⟩
  · simp only [PyData.weight]; exact hl
  · simp [PyData.depth]
  · simp only [sokD]; exact h
theorem Fit.bool {b : Bool} : Fit 0 0 (.bool b) := by cases b <;> exact fit_of (by decide +kernel)
theorem fit_none : Fit 0 0 .none := fit_of (by decide +kernel)
structure FitAll (n k : Nat) (ds : List PyData) : Prop where
  sh : PyData.showableAll ds = true
  lv : PyData.leavesShortAll 13 ds = true
  we : PyData.weightAll ds ≤ n
  de : PyData.depthAll ds ≤ k
  so : sokAll ds = true
theorem FitAll.nil {n k : Nat} : FitAll n k [] := ⟨rfl, rfl, by simp [PyData.weightAll], by simp [PyData.depthAll], rfl⟩
theorem FitAll.cons {n m k : Nat} {d : PyData} {ds : List PyData} (h : Fit n k d) (t : FitAll m k ds) : FitAll (n + 1 + m) k (d :: ds) := by
  refine ⟨?_, ?_, ?_, ?_, ?_⟩
  · simp only [PyData.showableAll, h.sh, t.sh]; rfl
  · simp only [PyData.leavesShortAll, h.lv, t.lv]; rfl
  · have := h.we
    have := t.we
    simp only [PyData.weightAll]; omega
  · have := h.de
    have := t.de
    simp only [PyData.depthAll]; omega
  · simp only [sokAll, h.so, t.so]; rfl
theorem FitAll.mono {n k m l : Nat} {d : List PyData} (h : FitAll n k d) (h1 : n ≤ m) (h2 : k ≤ l) : FitAll m l d := ⟨h.sh, h.lv, Nat.le_trans h.we h1, Nat.le_trans h.de h2, h.so⟩
theorem FitAll.of {n k : Nat} : ∀ {ds : List PyData}, (∀ d ∈ ds, Fit n k d) → FitAll ((n + 1) * ds.length) k ds
  | [], _ => FitAll.nil
  | d :: ds, h => by
    refine ((FitAll.cons (h d (.head _)) (FitAll.of fun x hx => h x (.tail _ hx)))).mono ?_ (Nat.le_refl _)
    rw [List.length_cons, Nat.mul_add]
    omega
theorem FitAll.tup {n k : Nat} {ds : List PyData} (h : FitAll n k ds) : Fit n (k + 1) (.tuple ds) := by
  refine ⟨?_, ?_, ?_, ?_, ?_⟩
  · simp only [PyData.showable]; exact h.sh
  · simp only [PyData.leavesShort]; exact h.lv
  · simp only [PyData.weight]; exact h.we
  · have := h.de
    simp only [PyData.depth]; omega
  · simp only [sokD]; exact h.so
theorem FitAll.lst {n k : Nat} {ds : List PyData} (h : FitAll n k ds) : Fit n (k + 1) (.list ds) := by
  refine ⟨?_, ?_, ?_, ?_, ?_⟩
  · simp only [PyData.showable]; exact h.sh
  · simp only [PyData.leavesShort]; exact h.lv
  · simp only [PyData.weight]; exact h.we
  · have := h.de
    simp only [PyData.depth]; omega
  · simp only [sokD]; exact h.so
theorem fit_int {i : Int} (h : i.natAbs < 10 ^ 12) : Fit 64 0 (.int i) := by
  refine ⟨?_, ?_, ?_, ?_, rfl⟩
  · simp only [PyData.showable, decide_eq_true_eq]
    by_cases e : i.natAbs = 0
    · rw [e]; decide
    · exact Nat.lt_trans ((Nat.log2_lt e).mpr (Nat.lt_trans h (show 10 ^ 12 < 2 ^ 40 by decide))) (by decide)
  · simp only [PyData.leavesShort, decide_eq_true_eq]
    exact PyData.shown_int_le h
  · simp only [PyData.weight]
    split
    · omega
    · rename_i e
      have e2 : i.natAbs ≠ 0 := fun z => e (by simpa using Int.natAbs_eq_zero.mp z)
      have := (Nat.log2_lt e2).mpr (Nat.lt_trans h (show 10 ^ 12 < 2 ^ 40 by decide))
      omega
  · simp [PyData.depth]
end DL

namespace DL
open PySem PySem.Spec PyProof.Rows L2 MT PySem.MEX LamX
/-! ### an __init__ that may raise -/
def outR1x (r : Res Out) : R (D × D) := match r with
  | .err c d _ => .err c d
  | r => outR1 r
theorem outR1x_err {c : Str} {d : D} {δ : Env} : outR1x (.err c d δ) = .err c d := rfl
theorem outR1x_ok {o : Out} {δ : Env} : outR1x (.ok o δ) = outR1 (.ok o δ) := rfl
def sem1x (m : M Out) (N : Nat) : D → List D → R (D × D) := fun d0 ds => outR1x (m (env1 N d0 ds))
section
variable {P : Program} {w : World} {K : PySem.W.Frag} {mg : Str → Option Value} {base : Heap} {k : Nat} {f : Addr} {x qual : Str} {params : Arguments} {body : List Stmt} {scope : Scope} {dvs : List V} {kws : List (Str × V)} {fd : FuncData} {N ps : List Str} {m : M Out}
theorem body_run1x {H : Hp} {vs : List V} {Q : VK} {E : XK} {n : Nat} (h : sp1 K n (sem1x m N.length) vs H Q E) : sD K E m { nx := fun _ H' => Q .non H', rt := Q } (L2.start N vs) H := by
  obtain ⟨p, us, F, d0, ds, rfl, ln, fp, s, tb, o, r, q⟩ := h
  refine ⟨F, ⟨hid p (MT.noT H), p⟩, env1 N.length d0 ds, start_SR1 s tb fp o r, ?_⟩
  unfold sem1x at q
  cases hm : m (env1 N.length d0 ds) with
  | stuck => rw [hm] at q; exact q.elim
  | err c d δ' =>
    rw [hm, outR1x_err] at q
    exact fun σ' dx v F' H' x S hd rr => q dx v F' H' x S.fh S.gh S.tb hd rr
  | ok o δ' =>
    rw [hm, outR1x_ok] at q
    cases hq : outR1 (.ok o δ') with
    | stuck => rw [hq] at q; exact q.elim
    | err c d => exact absurd hq outR1_ne
    | ok r =>
      obtain ⟨d, d1⟩ := r
      rw [hq] at q
      rcases outR1_ok hq with ⟨rfl, e0⟩ | ⟨rfl, rfl, e0⟩
      · intro σ' v F' H' xx S rv
        obtain ⟨_, f1, _, r1⟩ := S.sl 0 _ e0
        exact q v F' H' xx f1 S.fh S.gh S.tb r1 rv
      · intro σ' F' H' xx S
        obtain ⟨_, f1, _, r1⟩ := S.sl 0 _ e0
        exact q .non F' H' xx f1 S.fh S.gh S.tb r1 (.dat .non)
theorem fn_data1X {n : Nat} (hn : ps.length = n + 1) (FF : FunD K x qual params body scope dvs kws f fd) (S : FnScope N ps scope) (m : M Out)
    (h : ∀ (cdv : Value) (A : Around) (outer : List PySem.Env) (s : Shared) (H : Hp) (E : XK), TkX (cxOf (L2.CX P w) P w K mg base N qual scope f cdv A outer s H E) E → PassesOwn (model P w) (cxOf (L2.CX P w) P w K mg base N qual scope f cdv A outer s H E).A (cxOf (L2.CX P w) P w K mg base N qual scope f cdv A outer s H E).env (cxOf (L2.CX P w) P w K mg base N qual scope f cdv A outer s H E).xe →
      Room k (A.deeper (envOfC qual scope s.heap.objs.size f cdv)) → PSs (cxOf (L2.CX P w) P w K mg base N qual scope f cdv A outer s H E) body (sD K E m)) :
    FnOk P w K mg base (L2.CX P w) (k + 1) f fd ps (sp1 K n (sem1x m N.length)) := by
  refine FF.ok S (fun vs H Q E z => ?_) fun cdv A outer s H vs Q E hr hs => ⟨_, h cdv A outer s H E tk_of (passes_of rfl) hr, body_run1x hs⟩
  obtain ⟨p, us, F, d0, ds, rfl, ln, _⟩ := z
  rw [List.length_cons, ln, hn]
end
section
variable {K : PySem.W.Frag} {E : XK} {F F' : Hp} {G : Gd} {σ : L2.St} {H H' : Hp} {δ : Env}
def mMakeX (c : Str) (n : Nat) (f : D → List D → R (D × D)) (es : List D) (ma : M (List D)) : M D := fun δ => (ma δ).bind fun ds δ1 => if (ds ++ es).length = n then (match f (.obj c [] []) (ds ++ es) with
  | .ok (.dat .none, d1) => .ok d1 δ1
  | .err e d => .err e d δ1
  | _ => .stuck) else .stuck
theorem md_makeX {c : Str} {n : Nat} {f : D → List D → R (D × D)} {es : List D} {dvs : List V} {ma : M (List D)} (hd : ∀ F, RlAll K F dvs es) : ∀ σ H Q, tFr K E (mMakeX c n f es ma) σ H Q → tMake (He.ga K c) (sp1 K n f) dvs E (tDs K E ma) σ H Q := by
  rintro σ H Q ⟨F, G, δ, S, h⟩
  refine ⟨F, G, δ, S, h.bind.imp fun ds δ1 F1 H1 e1 S1 q us ru x dx nx nd ne => ?_⟩
  split at q
  · rename_i hl
    have ndx : (upd H1 dx (.own x)) x = none := by rw [upd_ne (Ne.symm ne)]; exact nx
    have S2 := (S1.new (o := .own x) nd).new (o := .ins (He.ga K c) dx []) ndx
    obtain ⟨fx, gx⟩ := S1.gf nx
    have rr := ru.append (hd F1)
    have s0 : ∀ b o, MT.noT H1 b = some o → hid x (MT.noT (upd (upd H1 dx (.own x)) x (.ins (He.ga K c) dx []))) b = some o := fun b o hb => by
      obtain ⟨hb1, hb2⟩ := MT.noT_to hb
      have nb : b ≠ x := ne_of_none hb1 nx
      have nb2 : b ≠ dx := ne_of_none hb1 nd
      rw [hid_ne nb]
      exact MT.noT_of (by rw [upd_ne nb, upd_ne nb2]; exact hb1) hb2
    have back : ∀ {F' H' : Hp}, DL.Ext F1 (hid x (MT.noT (upd (upd H1 dx (.own x)) x (.ins (He.ga K c) dx [])))) F' → Same F' H' → Same (hid x (MT.noT (upd (upd H1 dx (.own x)) x (.ins (He.ga K c) dx [])))) H' → MT.LamT K H' → SR K F' G σ H' δ1 ∧ DL.Ext F1 G F' := fun {F' H'} xx fh hh tb => by
      have s1 : Same (MT.noT H1) H' := fun b o hb => hh b o (s0 b o hb)
      have y : DL.Ext F1 (MT.noT H1) F' := ⟨xx.same, fun b n => xx.off b (by
        cases e : MT.noT H1 b with
        | none => exact absurd e n
        | some o => rw [s0 b o e]; simp), xx.nt⟩
      exact S1.after y fh s1 tb
    refine ⟨x, us ++ dvs, F1, .obj c [] [], ds ++ es, rfl, rr.length.trans hl, fx, S2.fh, ⟨S2.tb, S2.fn⟩, .obj (fs := []) upd_same .nil, rr, ?_⟩
    cases hf : f (.obj c [] []) (ds ++ es) with
    | ok r =>
      obtain ⟨d, d1⟩ := r
      rw [hf] at q
      intro v F' H' xx fp fh hh tb ro rv
      split at q
      · rename_i d1' heq
        cases heq
        cases rv.dd
        refine ⟨rfl, ?_⟩
        have hn : ∀ i, ¬ OwnAt σ δ1 i x := fun i hi => by
          obtain ⟨_, _, o, ho⟩ := S1.ownAt hi
          rw [nx] at ho; cases ho
        obtain ⟨S3, y3⟩ := back xx fh hh tb
        exact q F' H' y3 S3 x fp gx ro hn
      · rename_i heq; cases heq
      · exact q.elim
    | err c d =>
      rw [hf] at q
      intro dxx v F' H' xx fh hh tb hdx rv
      obtain ⟨S3, y3⟩ := back xx fh hh tb
      exact q dxx v F' H' y3 S3 hdx rv
    | stuck => rw [hf] at q; exact q.elim
  · exact q.elim
theorem md_makeX0 {c : Str} {n : Nat} {f : D → List D → R (D × D)} {ma : M (List D)} : ∀ σ H Q, tFr K E (mMakeX c n f [] ma) σ H Q → tMake (He.ga K c) (sp1 K n f) [] E (tDs K E ma) σ H Q := md_makeX fun _ => .nil
end
/-! ### evaluation -/
section
variable {δ : Env} {c : Str} {n : Nat} {f : D → List D → R (D × D)} {es : List D} {ma : M (List D)}
theorem ev_makeX : mMakeX c n f es ma δ = (ma δ).bind fun ds δ1 => if (ds ++ es).length = n then (match f (.obj c [] []) (ds ++ es) with
  | .ok (.dat .none, d1) => .ok d1 δ1
  | .err e d => .err e d δ1
  | _ => .stuck) else .stuck := rfl
end
end DL

namespace DL
open PySem PySem.Spec PyProof.Rows L2 MT PySem.MEX LamX StX
/-! ### lists and tuples of anything -/
section
variable {K : PySem.W.Frag} {E : XK} {F F' : Hp} {G : Gd} {σ : L2.St} {H H' : Hp} {δ : Env}
def mkW (ds : List D) : Option D := if ds.length ≤ most then some (.wl ds) else none
def mLstW (m : M (List D)) : M D := fun δ => (m δ).bind fun ds δ1 => mOf (mkW ds) δ1
theorem mkW_eq {ds : List D} {d : D} (h : mkW ds = some d) : d = .wl ds ∧ ds.length ≤ most := by
  unfold mkW at h
  split at h
  · cases h; exact ⟨rfl, by assumption⟩
  · cases h
theorem md_lstW {m : M (List D)} : ∀ σ H Q, tFr K E (mLstW m) σ H Q → tLst (tDs K E m) σ H Q := by
  rintro σ H Q ⟨F, G, δ, S, h⟩
  refine ⟨F, G, δ, S, h.bind.imp fun ds δ1 F1 H1 e1 S1 q vs rvs => ?_⟩
  obtain ⟨d, hd, q⟩ := q.of
  obtain ⟨rfl, hz⟩ := mkW_eq hd
  refine ⟨most_le (rvs.length ▸ hz), fun p np => ?_⟩
  obtain ⟨f, g⟩ := S1.gf np
  refine q F1 _ (Ext.refl _ _) (S1.new np) p f g (.wl upd_same rvs) fun i hi => ?_
  obtain ⟨_, _, o, ho⟩ := S1.ownAt hi
  rw [np] at ho; cases ho
def mkWT (ds : List D) : Option D := if ds.length ≤ most then some (.wk ds) else none
def mTupW (m : M (List D)) : M D := fun δ => (m δ).bind fun ds δ1 => mOf (mkWT ds) δ1
theorem mkWT_eq {ds : List D} {d : D} (h : mkWT ds = some d) : d = .wk ds ∧ ds.length ≤ most := by
  unfold mkWT at h
  split at h
  · cases h; exact ⟨rfl, by assumption⟩
  · cases h
theorem md_tupW {m : M (List D)} : ∀ σ H Q, tD K E (mTupW m) σ H Q → tTupS (tDs K E m) σ H Q := by
  rintro σ H Q ⟨F, G, δ, S, h⟩
  refine ⟨F, G, δ, S, h.bind.imp fun ds δ1 F1 H1 e1 S1 q vs rvs => ?_⟩
  obtain ⟨d, hd, q⟩ := q.of
  obtain ⟨rfl, hz⟩ := mkWT_eq hd
  refine ⟨most_le (rvs.length ▸ hz), fun p o np nd => ?_⟩
  obtain ⟨S2, x⟩ := S1.newF (o := .frz o (.tup vs)) np
  exact q _ _ x S2 _ (.wk (TupS.sq (.inl ⟨o, upd_same, nd⟩)) (rvs.same x.same))
theorem RlAll.getA {vs : List V} {ds : List D} {i : Int} {d : D} (t : RlAll K F vs ds) (h : atI ds i = some d) : ∃ v, atI vs i = some v ∧ Rl K F v d := by
  unfold atI at h ⊢
  rw [t.length]
  cases e : ixN ds.length i with
  | none => rw [e] at h; cases h
  | some j => rw [e] at h; exact t.get h
def ixW : D → D → Option D
  | .wk ds, .dat (.int i) => atI ds i
  | .wl ds, .dat (.int i) => atI ds i
  | _, _ => none
theorem ro_ixW : RO K (rIx K) ixW := fun {F G σ H δ x y dx dy d Q} S rx ry h q => by
  unfold ixW at h
  split at h
  · cases ry.dd
    cases rx with
    | wk hs ha =>
      obtain ⟨v, h1, h2⟩ := ha.getA h
      exact .inr (.inl ⟨_, _, _, v, rfl, rfl, Same.tup S.fh hs, h1, q _ F H (Ext.refl _ _) S h2⟩)
  · cases ry.dd
    cases rx with
    | wl hs ha =>
      obtain ⟨v, h1, h2⟩ := ha.getA h
      exact .inl ⟨_, _, _, v, rfl, rfl, SqL.of (S.fh _ _ hs), h1, q _ F H (Ext.refl _ _) S h2⟩
  · cases h
/-! ### x.append(e), x a list of anything -/
def ownW (δ : Env) (i : Nat) : Option (List D) := match δ[i]? with
  | some (.ow (.wl xs)) => some xs
  | _ => none
theorem ownW_eq {i : Nat} {xs : List D} (h : ownW δ i = some xs) : δ[i]? = some (.ow (.wl xs)) := by
  unfold ownW at h
  split at h
  · cases h; assumption
  · cases h
theorem SR.ownW (S : SR K F G σ H δ) {i : Nat} {xs : List D} (h : DL.ownW δ i = some xs) : ∃ p vs, σ[i]? = some (some (.ref p)) ∧ H p = some (.lst vs) ∧ RlAll K F vs xs ∧ F p = none := by
  obtain ⟨p, a, f, g, r⟩ := S.sl i _ (ownW_eq h)
  cases r with
  | wl h t => exact ⟨p, _, a, h, t, f⟩
def mAppW (i : Nat) (ma : M (List D)) : M D := fun δ => (mOf (ownW δ i) δ).bind fun _ δ0 => (ma δ0).bind fun ds δ1 => match ds, ownW δ1 i with
  | [d], some xs => if xs.length < most then .ok (.dat .none) (δ1.set i (.ow (.wl (xs ++ [d])))) else .stuck
  | _, _ => .stuck
theorem md_appW {i : Nat} {ma : M (List D)} : ∀ σ H Q, tD K E (mAppW i ma) σ H Q → tBM K "list" rAppend (tVar i) (tDs K E ma) σ H Q := by
  rintro σ H Q ⟨F, G, δ, S, h⟩
  obtain ⟨x0, h0, q⟩ := h.bind.of
  obtain ⟨p, vs, ha, hp, _, _⟩ := S.ownW h0
  have q := q F H (Ext.refl _ _) S
  refine ⟨_, ha, .inl ⟨rfl, _, SqL.of hp⟩, F, G, δ, S, q.bind.imp fun ds δ1 F1 H1 e1 S1 q1 us ru => ?_⟩
  split at q1
  · rename_i d xs ho
    split at q1
    · rename_i hl
      obtain ⟨p', vs', ha', hp', t, f⟩ := S1.ownW ho
      rw [ha] at ha'; cases ha'
      cases ru with
      | cons r1 rt =>
        cases rt
        refine ⟨p, vs', _, rfl, rfl, hp', ?_, q1 F1 _ (Ext.refl _ _) (S1.chg ha (.inl ⟨ownW_eq ho, rfl⟩) (.wl upd_same (t.append (.cons r1 .nil)))) .non (.dat .non)⟩
        rw [t.length]; exact Nat.lt_of_lt_of_le hl (by decide)
    · exact q1.elim
  · exact q1.elim
/-! ### for x in a list or tuple of anything -/
theorem RlAll.getV {vs : List V} {ds : List D} : ∀ {i : Nat} {v : V}, RlAll K F vs ds → vs[i]? = some v → ∃ d, ds[i]? = some d ∧ Rl K F v d := by
  intro i v h
  induction vs generalizing ds i with
  | nil => intro e; simp at e
  | cons u vs ih =>
    cases h with
    | cons a t =>
      cases i with
      | zero => intro e; simp at e; subst e; exact ⟨_, rfl, a⟩
      | succ i => intro e; simpa using ih t (by simpa using e)
theorem wk_listW {a : Addr} {vs : List V} {ds : List D} (h : F a = some (.lst vs)) (t : RlAll K F vs ds) : Wk K F (Itl K a) ds := by
  refine ⟨_, _, (by rw [← t.length]; exact walk_list), fun H s => SqL.of (s _ _ h), fun i H x H' d hd y F2 G σ δ s S => ?_⟩
  obtain ⟨rfl, hx⟩ := y
  obtain ⟨z, hz, r⟩ := t.getV hx
  rw [hd] at hz; cases hz
  exact ⟨F2, Ext.refl _ _, S, r.same s⟩
def asW : D → Option (List D)
  | .wl ds => some ds
  | _ => none
theorem asW_eq {d : D} {b : List D} (h : asW d = some b) : d = .wl b := by
  unfold asW at h
  split at h
  · cases h; rfl
  · cases h
def mItW (m : M D) : M (List D) := fun δ => (m δ).bind fun d δ1 => mOf (asW d) δ1
theorem mi_listW {m : M D} : ∀ σ H Rr, tI K E (mItW m) σ H Rr → iList K (tD K E m) σ H Rr := by
  rintro σ H Rr ⟨F, G, δ, S, h⟩
  refine ⟨F, G, δ, S, h.bind.imp fun d δ1 F1 H1 e1 S1 q v rv => ?_⟩
  obtain ⟨its, hi, q⟩ := q.of
  have e := asW_eq hi
  subst e
  cases rv with
  | wl hs ha => exact ⟨_, rfl, ⟨_, SqL.of (S1.fh _ _ hs)⟩, q F1 H1 (Ext.refl _ _) S1 _ (wk_listW hs ha)⟩
end
/-! ### *e in a display -/
def elsD : D → Option (List D)
  | .dat (.list xs) => some (dats xs)
  | .dat (.tuple xs) => some (dats xs)
  | .wk ds => some ds
  | .wl ds => some ds
  | _ => none
def mStar (a : M D) (r : M (List D)) : M (List D) := fun δ => (a δ).bind fun x δ1 => (mOf (elsD x) δ1).bind fun xs δ2 => (r δ2).bind fun ys δ3 => .ok (xs ++ ys) δ3
section
variable {K : PySem.W.Frag} {E : XK} {F F' : Hp} {G : Gd} {σ : L2.St} {H H' : Hp} {δ : Env}
theorem elsD_rel {x : V} {d : D} {ds : List D} (s : Same F H) (r : Rl K F x d) (h : elsD d = some ds) : ∃ p xs, x = V.ref p ∧ (SqT K H p xs ∨ SqL K H p xs) ∧ RlAll K F xs ds := by
  unfold elsD at h
  split at h
  · cases h
    cases r.dd with
    | lst ha da => exact ⟨_, _, rfl, .inr (SqL.of (s _ _ ha)), da.rl⟩
  · cases h
    cases r.dd with
    | tup ha da => exact ⟨_, _, rfl, .inl (Same.tup s ha.sq), da.rl⟩
  · cases h
    cases r with
    | wk ha da => exact ⟨_, _, rfl, .inl (Same.tup s ha), da⟩
  · cases h
    cases r with
    | wl ha da => exact ⟨_, _, rfl, .inr (SqL.of (s _ _ ha)), da⟩
  · cases h
theorem md_star {a : M D} {r : M (List D)} : ∀ σ H Q, tDs K E (mStar a r) σ H Q → tStar K (tD K E a) (tDs K E r) σ H Q := by
  rintro σ H Q ⟨F, G, δ, S, h⟩
  refine ⟨F, G, δ, S, h.bind.imp fun x δ1 F1 H1 e1 S1 q v rv => ?_⟩
  obtain ⟨ds, hd, q2⟩ := q.bind.of
  obtain ⟨p, xs, rfl, hs, rx⟩ := elsD_rel S1.fh rv hd
  exact ⟨p, xs, rfl, hs, F1, G, δ1, S1, (q2 F1 H1 (Ext.refl _ _) S1).bind.imp fun ys δ2 F2 H2 e2 S2 q3 us rus => q3 F2 H2 (Ext.refl _ _) S2 _ ((rx.same e2.same).append rus)⟩
end
/-! ### evaluation -/
section
variable {δ : Env} {m : M D} {ma : M (List D)} {ds : List D} {i : Nat}
theorem ev_lstW : mLstW ma δ = (ma δ).bind fun ds δ1 => mOf (mkW ds) δ1 := rfl
theorem ev_tupW : mTupW ma δ = (ma δ).bind fun ds δ1 => mOf (mkWT ds) δ1 := rfl
theorem mkW_1 {a : D} : mkW [a] = some (.wl [a]) := rfl
theorem mkWT_2 {a b : D} : mkWT [a, b] = some (.wk [a, b]) := rfl
theorem ixW_k0 {a : D} : ixW (.wk (a :: ds)) (.dat (.int 0)) = some a := show atI (a :: ds) ((0 : Nat) : Int) = some a from atI_nat rfl
theorem ixW_l0 {a : D} : ixW (.wl (a :: ds)) (.dat (.int 0)) = some a := show atI (a :: ds) ((0 : Nat) : Int) = some a from atI_nat rfl
theorem ixW_l1 {a b : D} : ixW (.wl (a :: b :: ds)) (.dat (.int 1)) = some b := show atI (a :: b :: ds) ((1 : Nat) : Int) = some b from atI_nat rfl
theorem ev_itW : mItW m δ = (m δ).bind fun d δ1 => mOf (asW d) δ1 := rfl
end
end DL
namespace DL
open PySem PySem.Spec PyProof.Rows L2 MT PySem.MEX LamX
theorem tk0 {X : Cx} : TkX X E00 := L2.takes0
end DL
namespace DL
open PySem PySem.Spec PyProof.Rows L2 MT
section
variable {P : Program} {w : World} {K : PySem.W.Frag} {mg : Str → Option Value} {base : Heap} {k : Nat} {f : Addr} {x qual : Str} {params : Arguments} {body : List Stmt} {scope : Scope} {dvs : List V} {kws : List (Str × V)} {fd : FuncData} {N ps : List Str} {m : M Out}
theorem fn_data1GL {n : Nat} (q : He.Defn) (hq : f = He.fAd K q) (hn : ps.length = n + 1) (FF : FunD K x qual params body scope dvs kws f fd) (S : FnScope N ps scope)
    (h : ∀ (A : Around) (outer : List PySem.Env) (s : Shared) (H : Hp) (E : XK), NoG (A.deeper (envOfC qual scope s.heap.objs.size f (.ref (codA K q)))) → Room k (A.deeper (envOfC qual scope s.heap.objs.size f (.ref (codA K q)))) → PSs (cxOf CX0 P w K mg base N qual scope f (.ref (codA K q)) A outer s H E).nox body (sD K E00 m)) :
    FnOkG P w K mg base CX0 (k + 1) f fd ps (sp1 K n (sem1 m N.length)) := by
  refine fnG_okL FF S (fun vs H Q E z => ?_) fun cdv hc A outer s H vs Q E hG hr hs => ?_
  · obtain ⟨p, us, F, d0, ds, rfl, ln, _⟩ := z
    rw [List.length_cons, ln, hn]
  · obtain rfl := cod_of hc hq
    exact ⟨_, PSs.nox (h A outer s H E hG hr), body_run1 hs⟩
theorem fn_data1L {n : Nat} (q : He.Defn) (hq : f = He.fAd K q) (hn : ps.length = n + 1) (FF : FunD K x qual params body scope dvs kws f fd) (S : FnScope N ps scope)
    (h : ∀ (A : Around) (outer : List PySem.Env) (s : Shared) (H : Hp) (E : XK), Room k (A.deeper (envOfC qual scope s.heap.objs.size f (.ref (codA K q)))) → PSs (cxOf CX0 P w K mg base N qual scope f (.ref (codA K q)) A outer s H E).nox body (sD K E00 m)) :
    FnOk P w K mg base CX0 (k + 1) f fd ps (sp1 K n (sem1 m N.length)) := by
  refine fnL_ok FF S (fun vs H Q E z => ?_) fun cdv hc A outer s H vs Q E hr hs => ?_
  · obtain ⟨p, us, F, d0, ds, rfl, ln, _⟩ := z
    rw [List.length_cons, ln, hn]
  · obtain rfl := cod_of hc hq
    exact ⟨_, PSs.nox (h A outer s H E hr), body_run1 hs⟩
end
end DL

namespace DL
open PySem PySem.Spec PyProof.Rows L2 MT PySem.MEX LamX StX
/-! ### tuple * int, a new tuple of known object -/
section
variable {X : Cx}
def rRepS (K : PySem.W.Frag) : R2 := fun x y H Q => ∃ l k xs, x = .ref l ∧ y = .int k ∧ SqT K H l xs ∧ xs ≠ [] ∧ 2 ≤ k ∧ k ≤ 1000 ∧ xs.length ≤ 1000 ∧ ∀ p (o : Obj), H p = none → o.dict = none → Q (.ref p) (upd H p (.frz o (.tup (List.replicate k.toNat xs).flatten)))
theorem op_repS : OpR X (binaryOp .Mult) (rRepS X.K) := by
  intro pins s σ H x y v u Q I rx ry h
  obtain ⟨l, k, xs, rfl, rfl, hT, hne, h1, h2, hz, q⟩ := h
  cases rx
  obtain ⟨t, rfl⟩ := ry
  obtain ⟨its, r, ⟨w, ho, hc, n, hd⟩, hs⟩ := I.tuple hT
  obtain ⟨cls, dd, data, sl⟩ := w
  simp only at hc hd
  subst hc
  subst hd
  have hle := r.length.symm
  have hn : its ≠ [] := fun e => hne (List.eq_nil_of_length_eq_zero (by rw [← hle, e]; rfl))
  have hi : its.toArray.isEmpty = false := by
    cases its with
    | nil => exact absurd rfl hn
    | cons a b => rfl
  have hsz0 : its.toArray.size = xs.length := by rw [List.size_toArray]; exact hle
  have hm : (its.toArray.size : Int) * k ≤ 1000000 := by
    rw [hsz0]
    have a1 := Int.mul_le_mul_of_nonneg_right (show (xs.length : Int) ≤ 1000 by omega) (show (0 : Int) ≤ k by omega)
    omega
  have flen : (List.replicate k.toNat its).flatten.length ≤ sizeLine := by
    rw [lm_len_rep_flat, hle, sizeLine_eq]
    have a1 := Nat.mul_le_mul (show k.toNat ≤ 1000 by omega) hz
    omega
  have flen2 : (List.replicate k.toNat xs).flatten.length ≤ sizeLine := by
    rw [lm_len_rep_flat, sizeLine_eq]
    have a1 := Nat.mul_le_mul (show k.toNat ≤ 1000 by omega) hz
    omega
  refine wpAny_binaryOp_repeat_ref (of_decide_eq_true rfl) ⟨_, ho, rfl⟩ (fun s' => typeIs_int s' k t) noFill_tuple_mul F.fills_int_mul F.slot_int_rmul repeat_tuple F.slot_int_index.lookup
    (call_meets F.slot_int_rmul (typeIs_int s k t) F.entry_int_rmul (F.args_int_rmul_2 _ _) (int_rmul_tuple k t l its.toArray n dd sl) ⟨ho, rfl, ⟨_, ho, rfl⟩,
      call_meets F.slot_tuple_mul ⟨_, ho, rfl⟩ F.entry_tuple_mul (F.args_tuple_mul_2 _ _) (tuple_mulW l its.toArray n dd sl k t ?_ ?_ ?_ ?_ ?_ ?_) ⟨ho, ?_⟩⟩)
  · rw [decide_eq_false (by omega), decide_eq_false (by omega)]; rfl
  · rw [hi, Bool.false_or]; exact beq_eq_false_iff_ne.mpr (by omega)
  · rw [hi, Bool.or_false]; exact decide_eq_false (by omega)
  · omega
  · have c4 : decide ((its.toArray.size : Int) * k > (sizeLine : Int)) = false := by rw [sizeLine_eq]; exact decide_eq_false (by omega)
    exact c4
  · rw [size_rep, List.size_toArray]; exact flen
  · rw [size_rep]
    obtain ⟨hf, J⟩ := lock_tup I (r.rep k.toNat) flen2
    exact ⟨.ref s.heap.objs.size, _, J, rfl, q _ _ hf rfl⟩
end
section
variable {K : PySem.W.Frag} {E : XK} {F F' : Hp} {G : Gd} {σ : L2.St} {H H' : Hp} {δ : Env}
def tRep : D → D → Option D
  | .dat (.tuple a), .dat (.int k) => if a ≠ [] ∧ 2 ≤ k ∧ k ≤ 1000 ∧ a.length ≤ 1000 then some (.dat (.tuple (List.replicate k.toNat a).flatten)) else none
  | _, _ => none
theorem ro_repT : RO K (rRepS K) tRep := fun {F G σ H δ x y dx dy d Q} S rx ry h q => by
  unfold tRep at h
  split at h
  · split at h
    · rename_i hl
      cases h
      cases ry.dd
      cases rx.dd with
      | tup ha da =>
        refine ⟨_, _, _, rfl, rfl, Same.tup S.fh ha.sq, fun e => hl.1 (List.eq_nil_of_length_eq_zero (by rw [← da.length, e]; rfl)), hl.2.1, hl.2.2.1, by rw [da.length]; exact hl.2.2.2, fun p o np nd => ?_⟩
        obtain ⟨S2, x⟩ := S.newF (o := .frz o (.tup _)) np
        exact q _ _ _ x S2 (.dat (.tup (.inl ⟨o, upd_same, nd⟩) ((da.rep _).same x.same)))
    · cases h
  · cases h
/-! ### an expression that is not reached -/
def tNevE : TE := fun _ _ _ => False
theorem pe_nev {X : Cx} {e : Expr} : PE X e tNevE := ⟨fun _ _ _ _ _ _ h => h.elim⟩
def mNevE : M D := fun _ => .stuck
theorem md_nev : ∀ σ H Q, tD K E mNevE σ H Q → tNevE σ H Q := by
  rintro σ H Q ⟨F, G, δ, S, h⟩
  exact h.elim
end
end DL

namespace DL
open PySem PySem.Spec PyProof.Rows L2 MT PySem.MEX LamX StX
/-! ### calls by keywords alone -/
def pick {α : Type} (π : List Nat) (l : List α) : List α := π.filterMap (l[·]?)
/-- what is bound: n values by position, m by keywords, put in their places -/
def kwG {α : Type} (n m : Nat) (π : List Nat) (us ws : List α) : List α := if us.length = n ∧ ws.length = m then us ++ pick π ws else []
theorem vals_get {zs : List V} {ws : List Value} (h : Vals zs ws) : ∀ i : Nat, (zs[i]? = none ∧ ws[i]? = none) ∨ ∃ v u, zs[i]? = some v ∧ ws[i]? = some u ∧ L2.RelV v u := by
  induction h with
  | nil => exact fun i => .inl ⟨rfl, rfl⟩
  | cons r t ih =>
    intro i
    cases i with
    | zero => exact .inr ⟨_, _, rfl, rfl, r⟩
    | succ i => simpa using ih i
theorem vals_pick {zs : List V} {ws : List Value} (h : Vals zs ws) : ∀ π : List Nat, Vals (pick π zs) (pick π ws)
  | [] => .nil
  | i :: π => by
    unfold pick
    rw [List.filterMap_cons, List.filterMap_cons]
    rcases vals_get h i with ⟨e1, e2⟩ | ⟨v, u, e1, e2, r⟩
    · rw [e1, e2]; exact vals_pick h π
    · rw [e1, e2]; exact .cons r (vals_pick h π)
theorem kwG_rel {n m : Nat} {π : List Nat} {vs : List V} {us : List Value} {zs : List V} {ws : List Value} (h : Vals vs us) (k : Vals zs ws) : Vals (kwG n m π vs zs) (kwG n m π us ws) := by
  unfold kwG
  rw [h.length, k.length]
  split
  · exact h.append (vals_pick k π)
  · exact .nil
section
variable {K : PySem.W.Frag} {x qual : Str} {params : Arguments} {body : List Stmt} {scope : Scope} {dvs : List V} {kws : List (Str × V)} {f : Addr} {fd : FuncData} {ps ks : List Str} {n : Nat} {π : List Nat}
theorem kw_of (h0 : ps ≠ []) (h : ∀ (s : Shared) (us ws : List Value), K.In s.heap → us.length = n → ws.length = ks.length → BindsTo s fd ⟨us, ks.zip ws⟩ (ps.zip (us ++ pick π ws))) :
    KBinds K fd ps ks (kwG n ks.length π) (kwG n ks.length π) ∧ KBn K fd ps n ks (kwG n ks.length π) (kwG n ks.length π) := by
  refine ⟨⟨fun s us ws hk hl => ?_, kwG_rel⟩, ⟨fun s us ws hk h1 h2 => ?_, kwG_rel⟩⟩
  · by_cases hc : us.length = n ∧ ws.length = ks.length
    · unfold kwG
      rw [if_pos hc]
      exact h s us ws hk hc.1 hc.2
    · unfold kwG at hl
      rw [if_neg hc] at hl
      exact absurd (List.eq_nil_of_length_eq_zero hl.symm) h0
  · unfold kwG
    rw [if_pos ⟨h1, h2⟩]
    exact h s us ws hk h1 h2
/-- a def without defaults -/
theorem bindsK0 (F : FunD K x qual params body scope [] kws f fd) (h0 : ps ≠ [])
    (h : ∀ (kV doc pm : Value) (an : Option Addr) (cdv ct : Value) (us ws : List Value), us.length = n → ws.length = ks.length → bindArgs (PySem.W.fnOf x qual params body scope .none kV doc pm an cdv ct) ⟨us, ks.zip ws⟩ = pure (ps.zip (us ++ pick π ws))) :
    KBinds K fd ps ks (kwG n ks.length π) (kwG n ks.length π) ∧ KBn K fd ps n ks (kwG n ks.length π) (kwG n ks.length π) := by
  obtain ⟨oc, od, dV, kV, doc, pm, an, cdv, ct, osl, rfl, lk, hcd, hD, hK⟩ := F.ex
  refine kw_of h0 fun s us ws _ h1 h2 => ?_
  rcases hD with ⟨_, rfl⟩ | ⟨e, _⟩
  · exact BindsTo.of_eq (h kV doc pm an cdv ct us ws h1 h2)
  · exact absurd rfl e
/-- a def with defaults, all arguments given -/
theorem bindsK1 (F : FunD K x qual params body scope dvs kws f fd) (hd : dvs ≠ []) (h0 : ps ≠ [])
    (h : ∀ (T : Addr) (kV doc pm : Value) (an : Option Addr) (cdv ct : Value) (us ws its : List Value), us.length = n → ws.length = ks.length → its.length = dvs.length → ∃ k, bindArgs (PySem.W.fnOf x qual params body scope (.ref T) kV doc pm an cdv ct) ⟨us, ks.zip ws⟩ = (seqItems? (.ref T) >>= k) ∧ k (some its.toArray) = pure (ps.zip (us ++ pick π ws))) :
    KBinds K fd ps ks (kwG n ks.length π) (kwG n ks.length π) ∧ KBn K fd ps n ks (kwG n ks.length π) (kwG n ks.length π) := by
  obtain ⟨oc, od, dV, kV, doc, pm, an, cdv, ct, osl, rfl, lk, hcd, hD, hK⟩ := F.ex
  refine kw_of h0 fun s us ws hk h1 h2 => ?_
  rcases hD with ⟨e, _⟩ | ⟨e, T, o, its, m, rfl, lT, oT, rT⟩
  · exact absurd e hd
  · obtain ⟨k, e1, e2⟩ := h T kV doc pm an cdv ct us ws its h1 h2 rT.length.symm
    exact BindsTo.of_looks fun M => by
      rw [e1]
      exact looks_items hk lT oT (PySem.W.Looks.of_pure e2)
end
def tKw (m : Nat) (π : List Nat) (tk : TA) : TA := fun σ H Q => tk σ H fun zs H1 => zs.length = m ∧ Q (pick π zs) H1
theorem kwG_0 {m : Nat} {π : List Nat} {zs : List V} (h : zs.length = m) : kwG 0 m π [] zs = pick π zs := by
  unfold kwG
  rw [if_pos ⟨rfl, h⟩, List.nil_append]
theorem kwG_1 {m : Nat} {π : List Nat} {x : V} {zs : List V} (h : zs.length = m) : kwG 1 m π [x] zs = x :: pick π zs := by
  unfold kwG
  rw [if_pos ⟨rfl, h⟩, List.singleton_append]
structure OkK (P : Program) (w : World) (K : PySem.W.Frag) (mg : Str → Option Value) (base : Heap) (CX : CXT) (k : Nat) (x : Str) (ps ks : List Str) (π : List Nat) (sp : Sp) : Prop where
  fn : ∃ fd : FuncData, FnOk P w K mg base CX k (He.ga K x) fd ps sp ∧ KBinds K fd ps ks (kwG 0 ks.length π) (kwG 0 ks.length π)
  kp : PySem.W.keepIn K (.ref (He.ga K x)) = true
  gl : mg x = some (.ref (He.ga K x))
structure OkMK (P : Program) (w : World) (K : PySem.W.Frag) (mg : Str → Option Value) (base : Heap) (CX : CXT) (k : Nat) (c m : Str) (ps ks : List Str) (π : List Nat) (sp : Sp) : Prop where
  fn : ∃ fd : FuncData, FnOk P w K mg base CX k (He.ma K (He.ga K c) m) fd ps sp ∧ KBinds K fd ps ks (kwG 1 ks.length π) (kwG 1 ks.length π)
  cl : Cls K (He.ga K c)
  me : Meth K (He.ga K c) m (He.ma K (He.ga K c) m)
structure OkIK (P : Program) (w : World) (K : PySem.W.Frag) (mg : Str → Option Value) (base : Heap) (CX : CXT) (k : Nat) (c : Str) (ps ks : List Str) (π : List Nat) (sp : Sp) : Prop where
  fn : ∃ fd : FuncData, FnOk P w K mg base CX k (He.ma K (He.ga K c) "__init__") fd ps sp ∧ KBn K fd ps 1 ks (kwG 1 ks.length π) (kwG 1 ks.length π)
  mkr : Mk K (He.ga K c) (He.ma K (He.ga K c) "__init__")
  gl : mg c = some (.ref (He.ga K c))
section
variable {X : Cx} {CX : CXT} {k : Nat} {x c m : Str} {ps ks : List Str} {π : List Nat} {sp : Sp} {E : XK} {o : Expr} {ta : TE} {tk : TA} {kws : List Keyword} {p pos apos : Pos}
theorem pe_callKO (O : OkK X.prog X.w X.K X.mg X.base CX k x ps ks π sp) (hr : Room k X.A) (hg : Gl X x) (hx : Passes CX X E) (hkw : PK X kws tk)
    (hall : ((backToKw pos (keywordEach kws X.env)).all fun x => x.1.isSome) = true := by rfl) (hks : (backToKw pos (keywordEach kws X.env)).filterMap (fun x => x.1) = ks := by rfl) (hdb : (x == ("__debug__" : Str)) = false := by decide)
    (hpl : ((backTo pos (starEach [] X.env)).any (fun x => x.1) || (backToKw pos (keywordEach kws X.env)).any fun x => x.1.isNone) = false := by rfl) :
    PE X (.Call (.Name x p) [] kws pos) (tCall sp [] E (tKw ks.length π tk)) := by
  obtain ⟨⟨fd, F, hb⟩, kp, gl⟩ := O
  refine ⟨fun pins s σ H Q I h => ?_⟩
  refine wpAny_Call_Name_kw (ld_glob I hg gl (PySem.W.callWith_KW0 I.ok.mod.kin kp hall (thn (hkw.run pos pins s σ H _ I h) fun ws s2 ⟨zs, H2, I2, rz, hl, q2⟩ => ⟨I2.kIn, ?_⟩) hpl) hdb)
  rw [hks]
  refine run_fnk F hr hb hx I2 .nil rz ?_
  rw [kwG_0 hl]
  have q2 : sp (pick π zs ++ []) H2 Q E := q2
  rw [List.append_nil] at q2
  exact q2
theorem pe_methKO {pl : Sem Bool} (O : OkMK X.prog X.w X.K X.mg X.base CX k c m ps ks π sp) (hr : Room k X.A) (hx : Passes CX X E) (he : PE X o ta) (hkw : PK X kws tk)
    (hall : ((backToKw pos (keywordEach kws X.env)).all fun x => x.1.isSome) = true := by rfl) (hks : (backToKw pos (keywordEach kws X.env)).filterMap (fun x => x.1) = ks := by rfl)
    (hpl : ((backTo pos (starEach [] X.env)).any (fun x => x.1) || (backToKw pos (keywordEach kws X.env)).any fun x => x.1.isNone) = false := by rfl)
    (ht : eval (.Call (.Attribute o m apos) [] kws pos) X.env = (do
      let ov ← eval o X.env
      standAt apos.atName
      let (f, first) ← holding [ov] (getMethod ov m pl)
      callWith pos f first (backTo pos (starEach [] X.env)) (backToKw pos (keywordEach kws X.env))) := by rfl) :
    PE X (.Call (.Attribute o m apos) [] kws pos) (tMeth (He.ga X.K c) m sp [] E ta (tKw ks.length π tk)) := by
  obtain ⟨⟨fd, F, hb⟩, cl, me⟩ := O
  refine ⟨fun pins s σ H Q I h => ?_⟩
  refine PySem.W.methodCall_KW (thn (he.run pins s σ H _ I h) fun u s1 ⟨xx, H1, I1, rx, a, dx, fs, ex, ea, l, q⟩ => ?_) ht
  subst ex
  cases rx
  refine getmeth_ok I1 ea cl me l ?_
  refine PySem.W.callWith_KW0 I1.ok.mod.kin me.kp hall (thn (hkw.run pos pins s1 σ H1 _ I1 q) fun ws s2 ⟨zs, H2, I2, rz, hl, q2⟩ => ⟨I2.kIn, ?_⟩) hpl
  rw [hks]
  refine run_fnk F hr hb hx I2 (show Vals [V.ref a] [Value.ref a] from .cons rfl .nil) rz ?_
  rw [kwG_1 hl]
  have q2 : sp (V.ref a :: (pick π zs ++ [])) H2 Q E := q2
  rw [List.append_nil] at q2
  exact q2
theorem pe_makeKO (O : OkIK X.prog X.w X.K X.mg X.base CX k c ps ks π sp) (hr : Room (k + 1) X.A) (hg : Gl X c) (hx : Passes CX X E) (hkw : PK X kws tk)
    (hall : ((backToKw pos (keywordEach kws X.env)).all fun x => x.1.isSome) = true := by rfl) (hks : (backToKw pos (keywordEach kws X.env)).filterMap (fun x => x.1) = ks := by rfl) (hdb : (c == ("__debug__" : Str)) = false := by decide)
    (hpl : ((backTo pos (starEach [] X.env)).any (fun x => x.1) || (backToKw pos (keywordEach kws X.env)).any fun x => x.1.isNone) = false := by rfl) :
    PE X (.Call (.Name c p) [] kws pos) (tMake (He.ga X.K c) sp [] E (tKw ks.length π tk)) := by
  obtain ⟨⟨fd, F, hb⟩, mkr, gl⟩ := O
  refine ⟨fun pins s σ H Q I h => ?_⟩
  refine wpAny_Call_Name_kw (ld_glob I hg gl (PySem.W.callWith_KW0 I.ok.mod.kin mkr.kp hall (thn (hkw.run pos pins s σ H _ I h) fun ws s2 ⟨zs, H2, I2, rz, hl, q2⟩ => ⟨I2.kIn, ?_⟩) hpl) hdb)
  rw [hks]
  refine run_makeK mkr F hr hb hx I2 .nil rz rfl hl fun y dx ny nd ne => ?_
  rw [kwG_1 hl]
  have q3 : sp (V.ref y :: (pick π zs ++ [])) (upd (upd H2 dx (.own y)) y (.ins (He.ga X.K c) dx [])) (fun v H3 => v = .non ∧ Q (.ref y) H3) E := q2 y dx ny nd ne
  rw [List.append_nil] at q3
  exact q3
end
/-! ### the data layer's side -/
section
variable {K : PySem.W.Frag} {E : XK} {F F' : Hp} {G : Gd} {σ : L2.St} {H H' : Hp} {δ : Env}
def mPick (m : Nat) (π : List Nat) (ma : M (List D)) : M (List D) := fun δ => (ma δ).bind fun ds δ1 => if ds.length = m then .ok (pick π ds) δ1 else .stuck
theorem rl_get {vs : List V} {ds : List D} (h : RlAll K F vs ds) (i : Nat) : (vs[i]? = none ∧ ds[i]? = none) ∨ ∃ v d, vs[i]? = some v ∧ ds[i]? = some d ∧ Rl K F v d := by
  induction vs generalizing ds i with
  | nil => cases h; exact .inl ⟨rfl, rfl⟩
  | cons v vs ih =>
    cases h with
    | cons r t =>
      cases i with
      | zero => exact .inr ⟨_, _, rfl, rfl, r⟩
      | succ i => simpa using ih t i
theorem rl_pick {vs : List V} {ds : List D} (h : RlAll K F vs ds) : ∀ π : List Nat, RlAll K F (pick π vs) (pick π ds)
  | [] => .nil
  | i :: π => by
    unfold pick
    rw [List.filterMap_cons, List.filterMap_cons]
    rcases rl_get h i with ⟨e1, e2⟩ | ⟨v, u, e1, e2, r⟩
    · rw [e1, e2]; exact rl_pick h π
    · rw [e1, e2]; exact .cons r (rl_pick h π)
theorem md_pick {m : Nat} {π : List Nat} {ma : M (List D)} : ∀ σ H Q, tDs K E (mPick m π ma) σ H Q → tKw m π (tDs K E ma) σ H Q := by
  rintro σ H Q ⟨F, G, δ, S, h⟩
  refine ⟨F, G, δ, S, h.bind.imp fun ds δ1 F1 H1 e1 S1 q vs rv => ?_⟩
  split at q
  · rename_i hl
    exact ⟨rv.length.trans hl, q F1 H1 (Ext.refl _ _) S1 _ (rl_pick rv π)⟩
  · exact q.elim
theorem md_mono {m : Nat} {π : List Nat} {ma : M (List D)} {Q Q' : List V → Hp → Prop} (h : tDs K E (mPick m π ma) σ H Q) (i : ∀ vs H', Q vs H' → Q' vs H') : tDs K E (mPick m π ma) σ H Q' := by
  obtain ⟨F, G, δ, S, h⟩ := h
  exact ⟨F, G, δ, S, h.imp fun ds δ1 F1 H1 e1 S1 q vs rv => i vs H1 (q vs rv)⟩
theorem dk {X : Cx} {kws : List Keyword} {t t' : TA} (h : PK X kws t) (i : ∀ σ H Q, t' σ H Q → t σ H Q) : PK X kws t' := ⟨fun pos pins s σ H Q I q => h.run pos pins s σ H Q I (i σ H Q q)⟩
/-- a def called by keywords -/
theorem md_callK {n m : Nat} {π : List Nat} {f : List D → R D} {ma : M (List D)} : ∀ σ H Q, tD K E (mCall n f [] (mPick m π ma)) σ H Q → tCall (sp0 K n f) [] E (tKw m π (tDs K E ma)) σ H Q := fun σ H Q h => md_pick σ H _ (md_call0 σ H Q h)
theorem md_methK {c mm : Str} {n m : Nat} {π : List Nat} {f : List D → R D} {mo : M D} {ma : M (List D)} : ∀ σ H Q, tD K E (mMeth c mm n f [] mo (mPick m π ma)) σ H Q → tMeth (He.ga K c) mm (sp0 K n f) [] E (tD K E mo) (tKw m π (tDs K E ma)) σ H Q := fun σ H Q z => by
  obtain ⟨F, G, δ, S, h⟩ := md_meth0 σ H Q z
  exact ⟨F, G, δ, S, h.imp fun x δ1 F1 H1 e1 S1 q v rv => by
    obtain ⟨a, dx, fs, e, ha, hl, q⟩ := q v rv
    exact ⟨a, dx, fs, e, ha, hl, md_pick σ H1 _ q⟩⟩
theorem md_makeK {c : Str} {n m : Nat} {π : List Nat} {f : D → List D → R (D × D)} {ma : M (List D)} : ∀ σ H Q, tFr K E (mMake c n f [] (mPick m π ma)) σ H Q → tMake (He.ga K c) (sp1 K n f) [] E (tKw m π (tDs K E ma)) σ H Q := fun σ H Q z => md_pick σ H _ (md_make0 σ H Q z)
end
/-! ### == of two of any kinds -/
section
variable {X : Cx}
def rOr (r r' : R2) : R2 := fun x y H Q => r x y H Q ∨ r' x y H Q
theorem op_or {op : Value → Value → Sem Value} {r r' : R2} (h : OpR X op r) (h' : OpR X op r') : OpR X op (rOr r r') := fun pins s σ H x y v u Q I rx ry q => q.elim (h pins s σ H x y v u Q I rx ry) (h' pins s σ H x y v u Q I rx ry)
end
section
variable {K : PySem.W.Frag} {E : XK} {F F' : Hp} {G : Gd} {σ : L2.St} {H H' : Hp} {δ : Env} {es cs : List Str}
def eqOwnV (f : List D → R D) (x y : D) : M D := fun δ2 => (back (f [x, y]) δ2).bind fun d δ3 => (mOf (asB d) δ3).bind fun b δ4 => .ok (.dat (.bool b)) δ4
theorem eqO_in (Z : IsX K es cs) {c : Str} (hc : c ∈ cs) {f : List D → R D} {x y : D} {v w : V} {Q : VK} (S2 : SR K F G σ H δ) (rv2 : Rl K F v x) (rw : Rl K F w y) (hk : isObj c x = true) (hy : eqOk c y = true)
    (q2 : Post K E F G σ (eqOwnV f x y δ) fun d _ F' H' => ∀ z, Rl K F' z d → Q z H') : rEqOwn K (He.ga K c) (sp0 K 2 f) E false v w H Q := by
  obtain ⟨ns, ds, rfl⟩ := isObj_eq hk
  obtain ⟨a, dx, fs, rfl, hf, rfl, t⟩ := rv2.obj_of
  have fin : sp0 K 2 f [.ref a, w] H (fun v H' => ∃ b, v = .bl b ∧ Q (.bl (false ^^ b)) H') E := call_post S2 (.cons rv2 (.cons rw .nil)) rfl (q2.bind.imp fun d δ3 F3 H3 e3 S3 q3 z rz => by
    obtain ⟨b, hb, q4⟩ := q3.bind.of
    have e := asB_eq hb
    subst e
    cases rz.dd
    refine ⟨b, rfl, ?_⟩
    rw [Bool.false_xor]
    exact q4 F3 H3 (Ext.refl _ _) S3 F3 H3 (Ext.refl _ _) S3 _ (.dat (.bl b)))
  unfold eqOk at hy
  split at hy
  · exact ⟨a, dx, fs, _, rfl, S2.fh _ _ hf, (rw.dd.same S2.fh).tyx, notFirst_ty _ _, fin⟩
  · have e := of_decide_eq_true hy
    subst e
    obtain ⟨a2, dx2, fs2, rfl, hf2, _, _⟩ := rw.obj_of
    exact ⟨a, dx, fs, _, rfl, S2.fh _ _ hf, tyx_obj Z hc (S2.fh _ _ hf2), by unfold PySem.W.notFirst; simp, fin⟩
  · cases hy
def eqAny (c1 : Str) (f1 : List D → R D) (c2 : Str) (f2 : List D → R D) (x y : D) : M D := fun δ2 => if isObj c1 x = true ∧ eqOk c1 y = true then eqOwnV f1 x y δ2 else if isObj c2 x = true ∧ eqOk c2 y = true then eqOwnV f2 x y δ2 else mOf (boD (eqB x y)) δ2
def mEqA (c1 : Str) (f1 : List D → R D) (c2 : Str) (f2 : List D → R D) (ma mb : M D) : M D := fun δ => (ma δ).bind fun x δ1 => (mb δ1).bind fun y δ2 => eqAny c1 f1 c2 f2 x y δ2
theorem md_eqA {r : R2} (ro : RO K r fun x y => boD (eqB x y)) (Z : IsX K es cs) {c1 c2 : Str} (h1 : c1 ∈ cs) (h2 : c2 ∈ cs) {f1 f2 : List D → R D} {ma mb : M D} : ∀ σ H Q, tD K E (mEqA c1 f1 c2 f2 ma mb) σ H Q → tOp (rOr (rEqOwn K (He.ga K c1) (sp0 K 2 f1) E false) (rOr (rEqOwn K (He.ga K c2) (sp0 K 2 f2) E false) r)) (tD K E ma) (tD K E mb) σ H Q := by
  rintro σ H Q ⟨F, G, δ, S, h⟩
  refine ⟨F, G, δ, S, h.bind.imp fun x δ1 F1 H1 e1 S1 q v rv => ⟨F1, G, δ1, S1, q.bind.imp fun y δ2 F2 H2 e2 S2 q2 w rw => ?_⟩⟩
  have rv2 := rv.same e2.same
  unfold eqAny at q2
  split at q2
  · rename_i hk
    exact .inl (eqO_in Z h1 S2 rv2 rw hk.1 hk.2 q2)
  · split at q2
    · rename_i hk
      exact .inr (.inl (eqO_in Z h2 S2 rv2 rw hk.1 hk.2 q2))
    · obtain ⟨d, hd, q3⟩ := q2.of
      exact .inr (.inr (ro S2 rv2 rw hd fun z F' H' e S' rz => q3 F' H' e S' z rz))
end
/-! ### list.extend of a list of anything -/
section
variable {K : PySem.W.Frag} {E : XK} {F F' : Hp} {G : Gd} {σ : L2.St} {H H' : Hp} {δ : Env}
def mExtW (i : Nat) (ma : M (List D)) : M D := fun δ => (mOf (ownW δ i) δ).bind fun _ δ0 => (ma δ0).bind fun ds δ1 => match ds, ownW δ1 i with
  | [.wl ys], some xs => if xs.length + ys.length ≤ most then .ok (.dat .none) (δ1.set i (.ow (.wl (xs ++ ys)))) else .stuck
  | _, _ => .stuck
theorem md_extW {i : Nat} {ma : M (List D)} : ∀ σ H Q, tD K E (mExtW i ma) σ H Q → tBM K "list" rExtend (tVar i) (tDs K E ma) σ H Q := by
  rintro σ H Q ⟨F, G, δ, S, h⟩
  obtain ⟨x0, h0, q⟩ := h.bind.of
  obtain ⟨p, vs, ha, hp, _, _⟩ := S.ownW h0
  have q := q F H (Ext.refl _ _) S
  refine ⟨_, ha, .inl ⟨rfl, _, SqL.of hp⟩, F, G, δ, S, q.bind.imp fun ds δ1 F1 H1 e1 S1 q1 us ru => ?_⟩
  split at q1
  · rename_i ys xs ho
    split at q1
    · rename_i hl
      obtain ⟨p', vs', ha', hp', t, f⟩ := S1.ownW ho
      rw [ha] at ha'; cases ha'
      cases ru with
      | cons r1 rt =>
        cases rt
        cases r1 with
        | wl hb tb =>
          refine ⟨p, _, vs', _, rfl, rfl, hp', S1.fh _ _ hb, ?_, q1 F1 _ (Ext.refl _ _) (S1.chg ha (.inl ⟨ownW_eq ho, rfl⟩) (.wl upd_same (t.append tb))) .non (.dat .non)⟩
          rw [t.length, tb.length]; exact most_le hl
    · exact q1.elim
  · exact q1.elim
end
end DL

namespace Q
open PySem PySem.Spec PyProof.Rows L2 MT
section
variable {w : World} {K : PySem.W.Frag} {mg : Str → Option Value}
theorem Tx.isx (T : Tx w K mg) : DL.IsX K errs clss := DL.isx_of (He.ba (He.ba (He.ba T.says.ex).2).2).2 (fun c hc y hy => T.kit hc hy) (fun c hc => T.err hc) (fun c hc => by unfold clss at hc; rcases List.mem_cons.mp hc with rfl | hc; exact T.cl_Reading; rcases List.mem_cons.mp hc with rfl | hc; exact T.cl_Hall; cases hc)
end
end Q

open PySem PySem.Spec PyProof.Rows L2 MT
local macro_rules | `(tactic| walk_at "v") => `(tactic| refine ⟨_, rfl, ?_⟩)
local macro_rules | `(tactic| walk_at "i") => `(tactic| refine ⟨_, _, rfl, rfl, ?_⟩)
local macro_rules | `(tactic| walk_at "vs") => `(tactic| repeat (first | refine ⟨_, rfl, ?_⟩ | refine ⟨_, _, rfl, rfl, ?_⟩))

namespace Q
open DL
/-! ### the program's defs -/
section
variable {w : World} {K : PySem.W.Frag} {mg : Str → Option Value} {base : Heap}
def m_is_word : M Out :=
  (mRet (mAndV (mCB isiF (mCons (mVar 0) (mCons (mOk (.ty "str")) mNil))) (mOp (fun x y => boD ((inB false) x y)) (mVar 0) (mVar 1))))
def f_is_word : List D → R D := fun ds => noX (outR (m_is_word (env0 2 ds)))
theorem ok_is_word (T : Tx w K mg) : Ok PRG w K mg base CX0 1 "is_word" ["value", "words"] [] (sp0 K 2 f_is_word) := by
  obtain ⟨fd, F⟩ := T.f_is_word
  exact ⟨⟨fd, [], fn_data rfl F sc_is_word (noX_ne _) ⟨m_is_word, fun cdv A outer s H E hr => (pss_one (ds (ps_ret (dx (pe_and (dx (pe_callB call_isi (by rfl) T.n_isinstance (by decide +kernel) (da (pa_cons (dx (pv 0) md_var) (da (pa_cons (dx (pe_bty (n := "str") (by rfl) T.n_str (by decide +kernel)) md_ty) (da pa_nil md_nil)) md_cons)) md_cons)) (md_cb rc_isi)) (pe_one (dx (pe_cmpR (op_inQ hr) (dx (pv 0) md_var) (dx (pv 1) md_var) (by rfl)) (md_op (ro_in (neg := false)))))) md_andV)) md_ret)), le_noX⟩, F.bindsN fun _ _ _ _ _ _ us hl => match us, hl with | [_, _], _ => rfl, .nil⟩, F.kp, T.g_is_word⟩

def m_is_made_of : M Out :=
  (mRet (mAndV (mOp (fun x y => boD (neB x y)) (mVar 0) (mOk (.dat (.str "")))) (mCB allF (mCons (mLc [2] (mItS (mVar 0)) (gN 2) mYes (mOp (fun x y => boD ((inS false) x y)) (mVar 2) (mVar 1))) mNil))))
def f_is_made_of : List D → R D := fun ds => noX (outR (m_is_made_of (env0 3 ds)))
theorem ok_is_made_of (T : Tx w K mg) : Ok PRG w K mg base CX0 1 "is_made_of" ["word", "signs"] [] (sp0 K 2 f_is_made_of) := by
  obtain ⟨fd, F⟩ := T.f_is_made_of
  exact ⟨⟨fd, [], fn_data rfl F sc_is_made_of (noX_ne _) ⟨m_is_made_of, fun cdv A outer s H E hr => (pss_one (ds (ps_ret (dx (pe_and (dx (pe_cmpR (op_neD hr.units) (dx (pv 0) md_var) (dx pe_str md_str) (nomark _)) (md_op ro_ne)) (pe_one (dx (pe_callB (cr_all rfl) (by rfl) T.n_all (by decide +kernel) (da (pa_cons (dx (dx (pe_lc (own := [("sign", 2)]) (by rfl) sc_is_made_of.nd (di (pi_str (dx (pv 0) md_var)) mi_str) (blkOk_by (N := N_is_made_of) (sc := defScope s_is_made_of) (by decide +kernel)) (fun _ _ _ _ _ => (pg_name (i := 2) sc_is_made_of.nd rfl (Or.inl rfl))) (fun _ _ _ _ _ => (dts pts_nil md_yes)) (fun _ _ _ _ _ => (dx (pe_cmpR op_in_sign (dx (pv 2) md_var) (dx (pv 1) md_var) (by rfl)) (md_op ro_inS)))) (md_lc mg_name (by decide))) md_fz) (da pa_nil md_nil)) md_cons)) (md_cb rc_all)))) md_andV)) md_ret)), le_noX⟩, F.bindsN fun _ _ _ _ _ _ us hl => match us, hl with | [_, _], _ => rfl, .nil⟩, F.kp, T.g_is_made_of⟩

def m_is_name : M Out :=
  (mRet (mAndV (mOp (fun x y => boD (iLe x y)) (mCB lenF (mCons (mVar 0) mNil)) (mOk (.dat (.int 8)))) (mCall 2 f_is_made_of [] (mCons (mVar 0) (mCons (mOk (.dat (.str "abcdefghijklmnopqrstuvwxyz"))) mNil)))))
def f_is_name : List D → R D := fun ds => noX (outR (m_is_name (env0 1 ds)))
theorem ok_is_name (T : Tx w K mg) : Ok PRG w K mg base CX0 2 "is_name" ["word"] [] (sp0 K 1 f_is_name) := by
  have O_is_made_of := ok_is_made_of (w := w) (base := base) T
  obtain ⟨fd, F⟩ := T.f_is_name
  exact ⟨⟨fd, [], fn_data rfl F sc_is_name (noX_ne _) ⟨m_is_name, fun cdv A outer s H E hr => (pss_one (ds (ps_ret (dx (pe_and (dx (pe_cmpR op_le (dx (pe_callB call_len (by rfl) T.n_len (by decide +kernel) (da (pa_cons (dx (pv 0) md_var) (da pa_nil md_nil)) md_cons)) (md_cb rc_len)) (dx (pe_cint rfl T.c_MOST_SIGNS) md_int) (nomark _)) (md_op ro_le)) (pe_one (dx (pe_callO O_is_made_of (hr.mono (by decide)) rfl pass0 (da (pa_cons (dx (pv 0) md_var) (da (pa_cons (dx (pe_cstr rfl T.c_LETTERS) md_str) (da pa_nil md_nil)) md_cons)) md_cons)) md_call0))) md_andV)) md_ret)), le_noX⟩, F.bindsN fun _ _ _ _ _ _ us hl => match us, hl with | [_], _ => rfl, .nil⟩, F.kp, T.g_is_name⟩

def m_are_unlike : M Out :=
  (mRet (mCB allF (mCons (mLc [1, 2] (mEnQ (mCons (mVar 0) mNil)) (gT 2 (gsCons (gN 1) (gsCons (gN 2) gsNil))) mYes (mOp (fun x y => boD ((inB true) x y)) (mVar 2) (mSl slQ (mVar 0) (mOk none) (mPart (mVar 1))))) mNil)))
def f_are_unlike : List D → R D := fun ds => noX (outR (m_are_unlike (env0 3 ds)))
theorem ok_are_unlike (T : Tx w K mg) : Ok PRG w K mg base CX0 1 "are_unlike" ["some"] [] (sp0 K 1 f_are_unlike) := by
  obtain ⟨fd, F⟩ := T.f_are_unlike
  exact ⟨⟨fd, [], fn_data rfl F sc_are_unlike (noX_ne _) ⟨m_are_unlike, fun cdv A outer s H E hr => (pss_one (ds (ps_ret (dx (pe_callB (cr_all rfl) (by rfl) T.n_all (by decide +kernel) (da (pa_cons (dx (dx (pe_lc (own := [("number", 1), ("one", 2)]) (by rfl) sc_are_unlike.nd (di (pi_enumQ (by rfl) T.n_enumerate (da (pa_cons (dx (pv 0) md_var) (da pa_nil md_nil)) md_cons)) mi_enumQ) (blkOk_by (N := N_are_unlike) (sc := defScope s_are_unlike) (by decide +kernel)) (fun _ _ _ _ _ => (pg_tup rfl (pgs_cons (pg_name (i := 1) sc_are_unlike.nd rfl (Or.inl rfl)) (pgs_cons (pg_name (i := 2) sc_are_unlike.nd rfl (Or.inl rfl)) pgs_nil)))) (fun _ _ _ _ _ => (dts pts_nil md_yes)) (fun _ _ _ _ _ => (dx (pe_cmpR (op_notInQ hr) (dx (pv 2) md_var) (dx (pe_slice sl_seqQ (dx (pv 0) md_var) (dpo po_none md_noPart) (dpo (po_some (dx (pv 1) md_var)) md_part)) md_slQ) (by rfl)) (md_op (ro_in (neg := true)))))) (md_lc (mg_tup (mgs_cons mg_name (mgs_cons mg_name mgs_nil))) (by decide))) md_fz) (da pa_nil md_nil)) md_cons)) (md_cb rc_all))) md_ret)), le_noX⟩, F.bindsN fun _ _ _ _ _ _ us hl => match us, hl with | [_], _ => rfl, .nil⟩, F.kp, T.g_are_unlike⟩

def m_people_in : M Out :=
  (mSeq (mAsg (mM1 splitF (mVar 0) (mOk (.dat (.str " ")))) (gN 1))
  (mSeq (mAsg (mSl slL (mVar 1) (mPart (mOk (.dat (.int 1)))) (mOk none)) (gN 2))
  (mSeq (mIf (mOr (mOpB neB (mOp ixF (mVar 1) (mOk (.dat (.int 0)))) (mOk (.dat (.str "people")))) (mNot (mChain iLt iLe (mOk (.dat (.int 0))) (mCB lenF (mCons (mVar 2) mNil)) (mOk (.dat (.int 9)))))) (mRet (mOk (.dat .none))) mNx)
  (mRet (mIf (mAnd (mTest (mCB allF (mCons (mLc [3] (mItL (mVar 2)) (gN 3) mYes (mCall 1 f_is_name [] (mCons (mVar 3) mNil))) mNil))) (mTest (mCall 1 f_are_unlike [] (mCons (mVar 2) mNil)))) (mCB tupleF (mCons (mVar 2) mNil)) (mOk (.dat .none)))))))
def f_people_in : List D → R D := fun ds => noX (outR (m_people_in (env0 4 ds)))
theorem ok_people_in (T : Tx w K mg) : Ok PRG w K mg base CX0 3 "people_in" ["line"] [] (sp0 K 1 f_people_in) := by
  have O_are_unlike := ok_are_unlike (w := w) (base := base) T
  have O_is_name := ok_is_name (w := w) (base := base) T
  obtain ⟨fd, F⟩ := T.f_people_in
  exact ⟨⟨fd, [], fn_data rfl F sc_people_in (noX_ne _) ⟨m_people_in, fun cdv A outer s H E hr => (dss (pss_cons (ds (ps_set (i := 1) sc_people_in.nd rfl (Or.inl rfl) (dx (dx (pe_split (dx (pv 0) md_var) (dx (pe_cstr rfl T.c_BLANK) md_str)) md_split) md_fz)) (md_asg mg_name))
      (dss (pss_cons (ds (ps_set (i := 2) sc_people_in.nd rfl (Or.inl rfl) (dx (dx (pe_slice sl_list (dx (pv 1) md_var) (dpo (po_some (dx pe_int md_int)) md_part) (dpo po_none md_noPart)) md_slL) md_fz)) (md_asg mg_name))
      (dss (pss_cons (ds (ps_if (PW.pt (dw (pw_or (dt (pt_cmpR (op_neD hr.units) (dx (pe_ix ix_seq (dx (pv 1) md_var) (dx pe_int md_int) (fun _ _ => rfl)) (md_op ro_ix)) (dx (pe_cstr rfl T.c_PEOPLE) md_str) (nomark _)) (md_opB ro_ne)) (pw_or1 (dt (pt_not (dt (pt_chain op_lt op_le (dx pe_int md_int) (dx (pe_callB call_len (by rfl) T.n_len (by decide +kernel) (da (pa_cons (dx (pv 2) md_var) (da pa_nil md_nil)) md_cons)) (md_cb rc_len)) (dx (pe_cint rfl T.c_MOST_PEOPLE) md_int)) (md_chainB ro_lt ro_le))) md_not))) md_or)) (pss_one (ds (ps_ret (dx pe_non md_non)) md_ret)) (dss pss_nil md_nx)) md_ifS)
      (pss_one (ds (ps_ret (dx (pe_ifExp (PW.pt (dw (pw_and (dt (pt_val (dx (pe_callB (cr_all rfl) (by rfl) T.n_all (by decide +kernel) (da (pa_cons (dx (dx (pe_lc (own := [("name", 3)]) (by rfl) sc_people_in.nd (di (pi_list (dx (pv 2) md_var)) mi_list) (blkOk_by (N := N_people_in) (sc := defScope s_people_in) (by decide +kernel)) (fun _ _ _ _ _ => (pg_name (i := 3) sc_people_in.nd rfl (Or.inl rfl))) (fun _ _ _ _ _ => (dts pts_nil md_yes)) (fun _ _ _ _ _ => (dx (pe_callO O_is_name (hr.mono (by decide)) rfl pass0 (da (pa_cons (dx (pv 3) md_var) (da pa_nil md_nil)) md_cons)) md_call0))) (md_lc mg_name (by decide))) md_fz) (da pa_nil md_nil)) md_cons)) (md_cb rc_all))) md_test) (pw_and1 (dt (pt_val (dx (pe_callO O_are_unlike (hr.mono (by decide)) rfl pass0 (da (pa_cons (dx (pv 2) md_var) (da pa_nil md_nil)) md_cons)) md_call0)) md_test))) md_and)) (dx (pe_callTy call_tupleS (by rfl) T.n_tuple (by decide +kernel) (da (pa_cons (dx (pv 2) md_var) (da pa_nil md_nil)) md_cons)) (md_cb rc_tuple)) (dx pe_non md_non)) md_if)) md_ret))) md_seq)) md_seq)) md_seq), le_noX⟩, F.bindsN fun _ _ _ _ _ _ us hl => match us, hl with | [_], _ => rfl, .nil⟩, F.kp, T.g_people_in⟩

def m_some_in : M Out :=
  (mSeq (mAsg (mSl slL (mVar 0) (mPart (mOk (.dat (.int 1)))) (mOk none)) (gN 2))
  (mRet (mAndV (mOp (fun x y => boD (iGe x y)) (mCB lenF (mCons (mVar 2) mNil)) (mOk (.dat (.int 2)))) (mAndV (mCB allF (mCons (mLc [3] (mItL (mVar 2)) (gN 3) mYes (mOp (fun x y => boD ((inB false) x y)) (mVar 3) (mVar 1))) mNil)) (mCall 1 f_are_unlike [] (mCons (mVar 2) mNil))))))
def f_some_in : List D → R D := fun ds => noX (outR (m_some_in (env0 4 ds)))
theorem ok_some_in (T : Tx w K mg) : Ok PRG w K mg base CX0 2 "some_in" ["words", "people"] [] (sp0 K 2 f_some_in) := by
  have O_are_unlike := ok_are_unlike (w := w) (base := base) T
  obtain ⟨fd, F⟩ := T.f_some_in
  exact ⟨⟨fd, [], fn_data rfl F sc_some_in (noX_ne _) ⟨m_some_in, fun cdv A outer s H E hr => (dss (pss_cons (ds (ps_set (i := 2) sc_some_in.nd rfl (Or.inl rfl) (dx (dx (pe_slice sl_list (dx (pv 0) md_var) (dpo (po_some (dx pe_int md_int)) md_part) (dpo po_none md_noPart)) md_slL) md_fz)) (md_asg mg_name))
      (pss_one (ds (ps_ret (dx (pe_and (dx (pe_cmpR op_ge (dx (pe_callB call_len (by rfl) T.n_len (by decide +kernel) (da (pa_cons (dx (pv 2) md_var) (da pa_nil md_nil)) md_cons)) (md_cb rc_len)) (dx (pe_cint rfl T.c_PAIR) md_int) (nomark _)) (md_op ro_ge)) (dx (pe_and (dx (pe_callB (cr_all rfl) (by rfl) T.n_all (by decide +kernel) (da (pa_cons (dx (dx (pe_lc (own := [("name", 3)]) (by rfl) sc_some_in.nd (di (pi_list (dx (pv 2) md_var)) mi_list) (blkOk_by (N := N_some_in) (sc := defScope s_some_in) (by decide +kernel)) (fun _ _ _ _ _ => (pg_name (i := 3) sc_some_in.nd rfl (Or.inl rfl))) (fun _ _ _ _ _ => (dts pts_nil md_yes)) (fun _ _ _ _ _ => (dx (pe_cmpR (op_inQ hr) (dx (pv 3) md_var) (dx (pv 1) md_var) (by rfl)) (md_op (ro_in (neg := false)))))) (md_lc mg_name (by decide))) md_fz) (da pa_nil md_nil)) md_cons)) (md_cb rc_all)) (pe_one (dx (pe_callO O_are_unlike (hr.mono (by decide)) rfl pass0 (da (pa_cons (dx (pv 2) md_var) (da pa_nil md_nil)) md_cons)) md_call0))) md_andV)) md_andV)) md_ret))) md_seq), le_noX⟩, F.bindsN fun _ _ _ _ _ _ us hl => match us, hl with | [_, _], _ => rfl, .nil⟩, F.kp, T.g_some_in⟩

def m_Hall_text : M Out :=
  (mRet (mFld "Hall" "own_text" (mVar 0)))
def f_Hall_text : List D → R D := fun ds => noX (outR (m_Hall_text (env0 1 ds)))
theorem ok_Hall_text (T : Tx w K mg) : OkP PRG w K mg base CX0 1 "Hall" "text" (sp0 K 1 f_Hall_text) := by
  obtain ⟨pr, fd, F⟩ := T.p_Hall_text
  exact ⟨⟨fd, fn_data rfl F sc_Hall_text (noX_ne _) ⟨m_Hall_text, fun cdv A outer s H E hr => (pss_one (ds (ps_ret (dx (pe_fld (dx (pv 0) md_var) rfl) (md_fld T.cl_Hall T.na_Hall_own_text))) md_ret)), le_noX⟩, F.bindsN fun _ _ _ _ _ _ us hl => match us, hl with | [_], _ => rfl⟩, T.cl_Hall, pr⟩

def m_Hall_people : M Out :=
  (mRet (mFld "Hall" "own_people" (mVar 0)))
def f_Hall_people : List D → R D := fun ds => noX (outR (m_Hall_people (env0 1 ds)))
theorem ok_Hall_people (T : Tx w K mg) : OkP PRG w K mg base CX0 1 "Hall" "people" (sp0 K 1 f_Hall_people) := by
  obtain ⟨pr, fd, F⟩ := T.p_Hall_people
  exact ⟨⟨fd, fn_data rfl F sc_Hall_people (noX_ne _) ⟨m_Hall_people, fun cdv A outer s H E hr => (pss_one (ds (ps_ret (dx (pe_fld (dx (pv 0) md_var) rfl) (md_fld T.cl_Hall T.na_Hall_own_people))) md_ret)), le_noX⟩, F.bindsN fun _ _ _ _ _ _ us hl => match us, hl with | [_], _ => rfl⟩, T.cl_Hall, pr⟩

def m_Hall__len : M Out :=
  (mRet (mCB lenF (mCons (mFld "Hall" "own_people" (mVar 0)) mNil)))
def f_Hall__len : List D → R D := fun ds => noX (outR (m_Hall__len (env0 1 ds)))
theorem ok_Hall__len (T : Tx w K mg) : OkM PRG w K mg base CX0 1 "Hall" "__len__" ["self"] [] (sp0 K 1 f_Hall__len) := by
  obtain ⟨fd, F⟩ := T.f_Hall__len
  exact ⟨⟨fd, _, fn_data rfl F sc_Hall__len (noX_ne _) ⟨m_Hall__len, fun cdv A outer s H E hr => (pss_one (ds (ps_ret (dx (pe_callB call_len (by rfl) T.n_len (by decide +kernel) (da (pa_cons (dx (pe_fld (dx (pv 0) md_var) rfl) (md_fld T.cl_Hall T.na_Hall_own_people)) (da pa_nil md_nil)) md_cons)) (md_cb rc_len))) md_ret)), le_noX⟩, F.bindsN fun _ _ _ _ _ _ us hl => match us, hl with | [_], _ => rfl, .nil⟩, T.cl_Hall, T.me_Hall__len⟩

def m_Hall__contains : M Out :=
  (mRet (mCall 2 f_is_word [] (mCons (mVar 1) (mCons (mFld "Hall" "own_people" (mVar 0)) mNil))))
def f_Hall__contains : List D → R D := fun ds => noX (outR (m_Hall__contains (env0 2 ds)))
theorem ok_Hall__contains (T : Tx w K mg) : OkM PRG w K mg base CX0 2 "Hall" "__contains__" ["self", "value"] [] (sp0 K 2 f_Hall__contains) := by
  have O_is_word := ok_is_word (w := w) (base := base) T
  obtain ⟨fd, F⟩ := T.f_Hall__contains
  exact ⟨⟨fd, _, fn_data rfl F sc_Hall__contains (noX_ne _) ⟨m_Hall__contains, fun cdv A outer s H E hr => (pss_one (ds (ps_ret (dx (pe_callO O_is_word (hr.mono (by decide)) rfl pass0 (da (pa_cons (dx (pv 1) md_var) (da (pa_cons (dx (pe_fld (dx (pv 0) md_var) rfl) (md_fld T.cl_Hall T.na_Hall_own_people)) (da pa_nil md_nil)) md_cons)) md_cons)) md_call0)) md_ret)), le_noX⟩, F.bindsN fun _ _ _ _ _ _ us hl => match us, hl with | [_, _], _ => rfl, .nil⟩, T.cl_Hall, T.me_Hall__contains⟩

def m_Hall__eq : M Out :=
  (mRet (mAndV (mCB (isiX errs clss) (mCons (mVar 1) (mCons (mOk (.cls "Hall")) mNil))) (mOp (fun x y => boD (eqB x y)) (mFld "Hall" "own_text" (mVar 0)) (mFld "Hall" "own_text" (mVar 1)))))
def f_Hall__eq : List D → R D := fun ds => noX (outR (m_Hall__eq (env0 2 ds)))
theorem ok_Hall__eq (T : Tx w K mg) : OkM PRG w K mg base CX0 1 "Hall" "__eq__" ["self", "other"] [] (sp0 K 2 f_Hall__eq) := by
  obtain ⟨fd, F⟩ := T.f_Hall__eq
  exact ⟨⟨fd, _, fn_data rfl F sc_Hall__eq (noX_ne _) ⟨m_Hall__eq, fun cdv A outer s H E hr => (pss_one (ds (ps_ret (dx (pe_and (dx (pe_callB call_isX (by rfl) T.n_isinstance (by decide +kernel) (da (pa_cons (dx (pv 1) md_var) (da (pa_cons (dx (pe_obj rfl T.g_Hall) md_cls) (da pa_nil md_nil)) md_cons)) md_cons)) (md_cb (rc_isiX T.isx))) (pe_one (dx (pe_cmpR (op_eqD hr.units) (dx (pe_fld (dx (pv 0) md_var) rfl) (md_fld T.cl_Hall T.na_Hall_own_text)) (dx (pe_fld (dx (pv 1) md_var) rfl) (md_fld T.cl_Hall T.na_Hall_own_text)) (nomark _)) (md_op ro_eq)))) md_andV)) md_ret)), le_noX⟩, F.bindsN fun _ _ _ _ _ _ us hl => match us, hl with | [_, _], _ => rfl, .nil⟩, T.cl_Hall, T.me_Hall__eq⟩

end
end Q

open PySem PySem.Spec PyProof.Rows L2 MT
local macro_rules | `(tactic| walk_at "v") => `(tactic| refine ⟨_, rfl, ?_⟩)
local macro_rules | `(tactic| walk_at "i") => `(tactic| refine ⟨_, _, rfl, rfl, ?_⟩)
local macro_rules | `(tactic| walk_at "vs") => `(tactic| repeat (first | refine ⟨_, rfl, ?_⟩ | refine ⟨_, _, rfl, rfl, ?_⟩))

namespace Q
open DL
/-! ### the law's draws -/
section
variable {w : World} {K : PySem.W.Frag} {mg : Str → Option Value} {base : Heap}
def m_l_pot : M Out :=
  (mSeqN (mAsg (mIf (mOpB iLt (mVar 1) (mCB lenF (mCons (mVar 0) mNil))) (mOp ixF (mVar 0) (mVar 1)) (mOp iAdd (mOp iMul (mOk (.dat (.int 163))) (mVar 1)) (mOk (.dat (.int 104))))) (gN 2))
  (mSeqN (mAsg (mOp iMul (mOp iMod (mCB intF (mCons (mCB absF (mCons (mVar 2) mNil)) mNil)) (mOp iPowW (mOp iPow (mOk (.dat (.int 10))) (mOk (.dat (.int 60)))) (mOk (.dat (.int 5))))) (mCB intF (mCons (mOp (fun x y => boD (iGe x y)) (mCB absF (mCons (mVar 2) mNil)) (mOp iPow (mOk (.dat (.int 10))) (mOk (.dat (.int 18))))) mNil))) (gN 3))
  (mSeqN (mAsg (mOp iMod (mCB intF (mCons (mVar 2) mNil)) (mOk (.dat (.int 2305843009213693951)))) (gN 4))
  (mRet (mLst (mCons (mVar 3) (mCons (mOp iMod (mCB intF (mCons (mOp iAdd (mOp iAdd (mOp iMul (mVar 4) (mOk (.dat (.int 80465)))) (mOp iMul (mOp iMul (mOk (.dat (.int 8329))) (mVar 1)) (mVar 1))) (mOk (.dat (.int 113)))) mNil)) (mOk (.dat (.int 2305843009213693921)))) (mCons (mOk (.dat (.int 0))) mNil))))))))
def f_l_pot : List D → R D := semN m_l_pot 5
theorem ok_l_pot (T : Tx w K mg) : Ok PRG w K mg base CX0 1 "_law_pot" ["_law_script", "_law_k"] [] (spN K 2 f_l_pot) := by
  obtain ⟨fd, F⟩ := T.f_l_pot
  exact ⟨⟨fd, [], fn_dataN rfl F sc_l_pot (fun cdv A outer s H E hr => (dss (pss_cons (ds (ps_set (i := 2) sc_l_pot.nd rfl (Or.inl rfl) (dx (pe_ifExp (dt (pt_cmpR op_lt (dx (pv 1) md_var) (dx (pe_callB call_len (by rfl) T.n_len (by decide +kernel) (da (pa_cons (dx (pv 0) md_var) (da pa_nil md_nil)) md_cons)) (md_cb rc_len)) (nomark _)) (md_opB ro_lt)) (dx (pe_ix ix_seq (dx (pv 0) md_var) (dx (pv 1) md_var) (fun _ _ => rfl)) (md_op ro_ix)) (dx (pe_op op_add (dx (pe_op op_mul (dx pe_int md_int) (dx (pv 1) md_var)) (md_op ro_mul)) (dx pe_int md_int)) (md_op ro_add))) md_if)) (md_asg mg_name))
      (dss (pss_cons (ds (ps_set (i := 3) sc_l_pot.nd rfl (Or.inl rfl) (dx (pe_op op_mul (dx (pe_op op_mod (dx (pe_callTy call_int1 (by rfl) T.n_int (by decide +kernel) (da (pa_cons (dx (pe_callB call_abs (by rfl) T.n_abs (by decide +kernel) (da (pa_cons (dx (pv 2) md_var) (da pa_nil md_nil)) md_cons)) (md_cb rc_abs)) (da pa_nil md_nil)) md_cons)) (md_cb rc_int)) (dx (pe_op op_powW (dx (pe_op op_pow (dx pe_int md_int) (dx pe_int md_int)) (md_op ro_pow)) (dx pe_int md_int)) (md_op ro_powW))) (md_op ro_mod)) (dx (pe_callTy call_int1 (by rfl) T.n_int (by decide +kernel) (da (pa_cons (dx (pe_cmpR op_ge (dx (pe_callB call_abs (by rfl) T.n_abs (by decide +kernel) (da (pa_cons (dx (pv 2) md_var) (da pa_nil md_nil)) md_cons)) (md_cb rc_abs)) (dx (pe_op op_pow (dx pe_int md_int) (dx pe_int md_int)) (md_op ro_pow)) (nomark _)) (md_op ro_ge)) (da pa_nil md_nil)) md_cons)) (md_cb rc_int))) (md_op ro_mul))) (md_asg mg_name))
      (dss (pss_cons (ds (ps_set (i := 4) sc_l_pot.nd rfl (Or.inl rfl) (dx (pe_op op_mod (dx (pe_callTy call_int1 (by rfl) T.n_int (by decide +kernel) (da (pa_cons (dx (pv 2) md_var) (da pa_nil md_nil)) md_cons)) (md_cb rc_int)) (dx pe_int md_int)) (md_op ro_mod))) (md_asg mg_name))
      (pss_one (ds (ps_ret (dx (pe_lst (da (pa_cons (dx (pv 3) md_var) (da (pa_cons (dx (pe_op op_mod (dx (pe_callTy call_int1 (by rfl) T.n_int (by decide +kernel) (da (pa_cons (dx (pe_op op_add (dx (pe_op op_add (dx (pe_op op_mul (dx (pv 4) md_var) (dx pe_int md_int)) (md_op ro_mul)) (dx (pe_op op_mul (dx (pe_op op_mul (dx pe_int md_int) (dx (pv 1) md_var)) (md_op ro_mul)) (dx (pv 1) md_var)) (md_op ro_mul))) (md_op ro_add)) (dx pe_int md_int)) (md_op ro_add)) (da pa_nil md_nil)) md_cons)) (md_cb rc_int)) (dx pe_int md_int)) (md_op ro_mod)) (da (pa_cons (dx pe_int md_int) (da pa_nil md_nil)) md_cons)) md_cons)) md_cons)) md_lst)) (md_retNew (E := E00))))) (md_seqN (E := E00)))) (md_seqN (E := E00)))) (md_seqN (E := E00)))), F.bindsN fun _ _ _ _ _ _ us hl => match us, hl with | [_, _], _ => rfl, .nil⟩, F.kp, T.g_l_pot⟩

def m_l_take : M Out :=
  (mSeq (mIf (mOpB iGt (mIxP 0 (mOk (.dat (.int 0)))) (mOk (.dat (.int 0)))) (mSeq (mAsg (mOp iMod (mCB intF (mCons (mIxP 0 (mOk (.dat (.int 0)))) mNil)) (mVar 1)) (gN 2))
  (mSeq (mSetIx 0 (mOk (.dat (.int 0))) (mOp iDiv (mIxP 0 (mOk (.dat (.int 0)))) (mVar 1)))
  (mRet (mVar 2)))) mNx)
  (mSeq (mSetIx 0 (mOk (.dat (.int 2))) (mOp iAdd (mIxP 0 (mOk (.dat (.int 2)))) (mOk (.dat (.int 1)))))
  (mSeq (mAsg (mOp ixF (mLst (mCons (mOk (.dat (.int 2147483647))) (mCons (mOk (.dat (.int 2147483629))) (mCons (mOk (.dat (.int 2147483587))) (mCons (mOk (.dat (.int 2147483579))) (mCons (mOk (.dat (.int 2147483563))) mNil)))))) (mOp iMod (mCB intF (mCons (mIxP 0 (mOk (.dat (.int 2)))) mNil)) (mOk (.dat (.int 5))))) (gN 3))
  (mSeq (mAsg (mOp iMod (mCB intF (mCons (mOp iPowW (mCB intF (mCons (mOp iAdd (mOp iAdd (mIxP 0 (mOk (.dat (.int 1)))) (mOp iMul (mOp iMul (mOk (.dat (.int 95309))) (mIxP 0 (mOk (.dat (.int 2))))) (mIxP 0 (mOk (.dat (.int 2)))))) (mOk (.dat (.int 149)))) mNil)) (mOk (.dat (.int 3)))) mNil)) (mVar 3)) (gN 4))
  (mRet (mOp iMod (mCB intF (mCons (mOp iDiv (mOp iMul (mVar 4) (mOp iAdd (mOp iMod (mCB intF (mCons (mVar 4) mNil)) (mOk (.dat (.int 10039)))) (mOp iMul (mOk (.dat (.int 91))) (mIxP 0 (mOk (.dat (.int 2))))))) (mOk (.dat (.int 131)))) mNil)) (mVar 1)))))))
def f_l_take : D → List D → R (D × D) := sem1 m_l_take 5
theorem ok_l_take (T : Tx w K mg) : Ok PRG w K mg base CX0 1 "_law_take" ["_law_pot_here", "_law_upto"] [] (sp1 K 1 f_l_take) := by
  obtain ⟨fd, F⟩ := T.f_l_take
  exact ⟨⟨fd, [], fn_data1 rfl F sc_l_take (fun cdv A outer s H E hr => (dss (pss_cons (ds (ps_if (dt (pt_cmpR op_gt (dx (pe_ix ix_seq (pv 0) (dx pe_int md_int) (fun _ _ => rfl)) md_ixP) (dx pe_int md_int) (nomark _)) (md_opB ro_gt)) (dss (pss_cons (ds (ps_set (i := 2) sc_l_take.nd rfl (Or.inl rfl) (dx (pe_op op_mod (dx (pe_callTy call_int1 (by rfl) T.n_int (by decide +kernel) (da (pa_cons (dx (pe_ix ix_seq (pv 0) (dx pe_int md_int) (fun _ _ => rfl)) md_ixP) (da pa_nil md_nil)) md_cons)) (md_cb rc_int)) (dx (pv 1) md_var)) (md_op ro_mod))) (md_asg mg_name))
      (dss (pss_cons (ds (ps_asg (dx (pe_op op_fdiv (dx (pe_ix ix_seq (pv 0) (dx pe_int md_int) (fun _ _ => rfl)) md_ixP) (dx (pv 1) md_var)) (md_op ro_fdiv)) (pg_sub (pv 0) (dx pe_int md_int) set_list)) md_setIx)
      (pss_one (ds (ps_ret (dx (pv 2) md_var)) md_ret))) md_seq)) md_seq) (dss pss_nil md_nx)) md_ifS)
      (dss (pss_cons (ds (ps_asg (dx (pe_op op_add (dx (pe_ix ix_seq (pv 0) (dx pe_int md_int) (fun _ _ => rfl)) md_ixP) (dx pe_int md_int)) (md_op ro_add)) (pg_sub (pv 0) (dx pe_int md_int) set_list)) md_setIx)
      (dss (pss_cons (ds (ps_set (i := 3) sc_l_take.nd rfl (Or.inl rfl) (dx (pe_ix ix_seq (dx (dx (pe_lst (da (pa_cons (dx pe_int md_int) (da (pa_cons (dx pe_int md_int) (da (pa_cons (dx pe_int md_int) (da (pa_cons (dx pe_int md_int) (da (pa_cons (dx pe_int md_int) (da pa_nil md_nil)) md_cons)) md_cons)) md_cons)) md_cons)) md_cons)) md_lst) md_fz) (dx (pe_op op_mod (dx (pe_callTy call_int1 (by rfl) T.n_int (by decide +kernel) (da (pa_cons (dx (pe_ix ix_seq (pv 0) (dx pe_int md_int) (fun _ _ => rfl)) md_ixP) (da pa_nil md_nil)) md_cons)) (md_cb rc_int)) (dx pe_int md_int)) (md_op ro_mod)) (fun _ _ => rfl)) (md_op ro_ix))) (md_asg mg_name))
      (dss (pss_cons (ds (ps_set (i := 4) sc_l_take.nd rfl (Or.inl rfl) (dx (pe_op op_mod (dx (pe_callTy call_int1 (by rfl) T.n_int (by decide +kernel) (da (pa_cons (dx (pe_op op_powW (dx (pe_callTy call_int1 (by rfl) T.n_int (by decide +kernel) (da (pa_cons (dx (pe_op op_add (dx (pe_op op_add (dx (pe_ix ix_seq (pv 0) (dx pe_int md_int) (fun _ _ => rfl)) md_ixP) (dx (pe_op op_mul (dx (pe_op op_mul (dx pe_int md_int) (dx (pe_ix ix_seq (pv 0) (dx pe_int md_int) (fun _ _ => rfl)) md_ixP)) (md_op ro_mul)) (dx (pe_ix ix_seq (pv 0) (dx pe_int md_int) (fun _ _ => rfl)) md_ixP)) (md_op ro_mul))) (md_op ro_add)) (dx pe_int md_int)) (md_op ro_add)) (da pa_nil md_nil)) md_cons)) (md_cb rc_int)) (dx pe_int md_int)) (md_op ro_powW)) (da pa_nil md_nil)) md_cons)) (md_cb rc_int)) (dx (pv 3) md_var)) (md_op ro_mod))) (md_asg mg_name))
      (pss_one (ds (ps_ret (dx (pe_op op_mod (dx (pe_callTy call_int1 (by rfl) T.n_int (by decide +kernel) (da (pa_cons (dx (pe_op op_fdiv (dx (pe_op op_mul (dx (pv 4) md_var) (dx (pe_op op_add (dx (pe_op op_mod (dx (pe_callTy call_int1 (by rfl) T.n_int (by decide +kernel) (da (pa_cons (dx (pv 4) md_var) (da pa_nil md_nil)) md_cons)) (md_cb rc_int)) (dx pe_int md_int)) (md_op ro_mod)) (dx (pe_op op_mul (dx pe_int md_int) (dx (pe_ix ix_seq (pv 0) (dx pe_int md_int) (fun _ _ => rfl)) md_ixP)) (md_op ro_mul))) (md_op ro_add))) (md_op ro_mul)) (dx pe_int md_int)) (md_op ro_fdiv)) (da pa_nil md_nil)) md_cons)) (md_cb rc_int)) (dx (pv 1) md_var)) (md_op ro_mod))) md_ret))) md_seq)) md_seq)) md_seq)) md_seq)), F.bindsN fun _ _ _ _ _ _ us hl => match us, hl with | [_, _], _ => rfl, .nil⟩, F.kp, T.g_l_take⟩

def m_l_some : M Out :=
  (mSeq (mPar [3, 4] (mConsO (mCB listF (mCons (mVar 1) mNil)) (mConsO (mLst mNil) mNilO)))
  (mSeq (mFor (mRng1 (mCons (mVar 2) mNil)) (gN 5) (mDrop (mApp 4 (mCons (mPop 3 (mCons (mCallP 1 f_l_take 0 (mCons (mLenP 3) mNil)) mNil)) mNil))))
  (mRet (mVar 4))))
def f_l_some : D → List D → R (D × D) := sem1 m_l_some 6
theorem ok_l_some (T : Tx w K mg) : Ok PRG w K mg base CX0 2 "_law_some" ["_law_pot_here", "_law_pool", "_law_amount"] [] (sp1 K 2 f_l_some) := by
  have O_l_take := ok_l_take (w := w) (base := base) T
  obtain ⟨fd, F⟩ := T.f_l_some
  exact ⟨⟨fd, [], fn_data1 rfl F sc_l_some (fun cdv A outer s H E hr => (dss (pss_cons (ds (ps_par (by rfl) sc_l_some.nd (i := 3) (j := 4) rfl rfl (by decide) rfl rfl (da (pa_cons (dx (pe_callTy call_list_of (by rfl) T.n_list (by decide +kernel) (da (pa_cons (dx (pv 1) md_var) (da pa_nil md_nil)) md_cons)) (md_cbF rc_list)) (da (pa_cons (dx (pe_lst (da pa_nil md_nil)) md_lst) (da pa_nil md_nilO)) md_consO)) md_consO) (by rfl)) md_par)
      (dss (pss_cons (ds (ps_for PassesOwn.never rfl (di (pi_range1 (by rfl) T.n_range (da (pa_cons (dx (pv 2) md_var) (da pa_nil md_nil)) md_cons)) mi_range1) (pg_name (i := 5) sc_l_some.nd rfl (Or.inl rfl)) (pss_one (ds (ps_expr (dx (pe_bm PySem.F.plainAttrs_list PySem.F.slot_list_append PySem.F.type_list_append mt_append (pv 4) (da (pa_cons (dx (pe_bm PySem.F.plainAttrs_list PySem.F.slot_list_pop PySem.F.type_list_pop mt_popAt (pv 3) (da (pa_cons (dx (pe_callO O_l_take (hr.mono (by decide)) rfl pass0 (pa_cons (pv 0) (da (pa_cons (dx (pe_callB call_len (by rfl) T.n_len (by decide +kernel) (pa_cons (pv 3) pa_nil)) md_lenP) (da pa_nil md_nil)) md_cons))) md_callP) (da pa_nil md_nil)) md_cons)) md_pop) (da pa_nil md_nil)) md_cons)) md_app)) md_drop))) (md_for mg_name))
      (pss_one (ds (ps_ret (dx (pv 4) md_var)) md_ret))) md_seq)) md_seq)), F.bindsN fun _ _ _ _ _ _ us hl => match us, hl with | [_, _, _], _ => rfl, .nil⟩, F.kp, T.g_l_some⟩

def m_l_places : M Out :=
  (mRet (mListRg (mCB maxF (mCons (mOk (.dat (.int 1))) (mCons (mCB minF (mCons (mVar 1) (mCons (mCB lenF (mCons (mVar 0) mNil)) mNil))) mNil)))))
def f_l_places : List D → R D := fun ds => noX (outR (m_l_places (env0 2 ds)))
theorem ok_l_places (T : Tx w K mg) : Ok PRG w K mg base CX0 1 "_law_places" ["_law_script", "_law_most"] [] (sp0 K 2 f_l_places) := by
  obtain ⟨fd, F⟩ := T.f_l_places
  exact ⟨⟨fd, [], fn_data rfl F sc_l_places (noX_ne _) ⟨m_l_places, fun cdv A outer s H E hr => (pss_one (ds (ps_ret (dx (dx (pe_listRg rfl (by rfl) T.n_list (prg_1 (by rfl) T.n_range (dx (pe_callB (call_max2 rfl) (by rfl) T.n_max (by decide +kernel) (da (pa_cons (dx pe_int md_int) (da (pa_cons (dx (pe_callB (call_min2 rfl) (by rfl) T.n_min (by decide +kernel) (da (pa_cons (dx (pv 1) md_var) (da (pa_cons (dx (pe_callB call_len (by rfl) T.n_len (by decide +kernel) (da (pa_cons (dx (pv 0) md_var) (da pa_nil md_nil)) md_cons)) (md_cb rc_len)) (da pa_nil md_nil)) md_cons)) md_cons)) (md_cb rc_min)) (da pa_nil md_nil)) md_cons)) md_cons)) (md_cb rc_max)))) md_listRg) md_fz)) md_ret)), le_noX⟩, F.bindsN fun _ _ _ _ _ _ us hl => match us, hl with | [_, _], _ => rfl, .nil⟩, F.kp, T.g_l_places⟩

def m_l_names : M Out :=
  (mSeq (mAsg (mLst (mCons (mOk (.dat (.str "a"))) (mCons (mOk (.dat (.str "b"))) (mCons (mOk (.dat (.str "c"))) (mCons (mOk (.dat (.str "ann"))) (mCons (mOk (.dat (.str "bob"))) (mCons (mOk (.dat (.str "met"))) (mCons (mOk (.dat (.str "open"))) (mCons (mOk (.dat (.str "people"))) (mCons (mOk (.dat (.str "heard"))) (mCons (mOk (.dat (.str "in"))) (mCons (mOk (.dat (.str "out"))) (mCons (mOk (.dat (.str "zzzzzzzz"))) (mCons (mOk (.dat (.str "x"))) (mCons (mOk (.dat (.str "not"))) mNil))))))))))))))) (gN 2))
  (mRet (mCallP 2 f_l_some 0 (mCons (mVar 2) (mCons (mVar 1) mNil)))))
def f_l_names : D → List D → R (D × D) := sem1 m_l_names 3
theorem ok_l_names (T : Tx w K mg) : Ok PRG w K mg base CX0 3 "_law_names" ["_law_pot_here", "_law_amount"] [] (sp1 K 1 f_l_names) := by
  have O_l_some := ok_l_some (w := w) (base := base) T
  obtain ⟨fd, F⟩ := T.f_l_names
  exact ⟨⟨fd, [], fn_data1 rfl F sc_l_names (fun cdv A outer s H E hr => (dss (pss_cons (ds (ps_set (i := 2) sc_l_names.nd rfl (Or.inl rfl) (dx (dx (pe_lst (da (pa_cons (dx pe_str md_str) (da (pa_cons (dx pe_str md_str) (da (pa_cons (dx pe_str md_str) (da (pa_cons (dx pe_str md_str) (da (pa_cons (dx pe_str md_str) (da (pa_cons (dx pe_str md_str) (da (pa_cons (dx pe_str md_str) (da (pa_cons (dx pe_str md_str) (da (pa_cons (dx pe_str md_str) (da (pa_cons (dx pe_str md_str) (da (pa_cons (dx pe_str md_str) (da (pa_cons (dx pe_str md_str) (da (pa_cons (dx pe_str md_str) (da (pa_cons (dx pe_str md_str) (da pa_nil md_nil)) md_cons)) md_cons)) md_cons)) md_cons)) md_cons)) md_cons)) md_cons)) md_cons)) md_cons)) md_cons)) md_cons)) md_cons)) md_cons)) md_cons)) md_lst) md_fz)) (md_asg mg_name))
      (pss_one (ds (ps_ret (dx (pe_callO O_l_some (hr.mono (by decide)) rfl pass0 (pa_cons (pv 0) (da (pa_cons (dx (pv 2) md_var) (da (pa_cons (dx (pv 1) md_var) (da pa_nil md_nil)) md_cons)) md_cons))) md_callP)) md_ret))) md_seq)), F.bindsN fun _ _ _ _ _ _ us hl => match us, hl with | [_, _], _ => rfl, .nil⟩, F.kp, T.g_l_names⟩

def m_l_pairs : M Out :=
  (mSeq (mSetF 1 (mLst mNil))
  (mSeq (mFor (mEnL (mCons (mVar 0) mNil)) (gT 2 (gsCons (gN 2) (gsCons (gN 3) gsNil))) (mDrop (mExt 1 (mCons (mLc [4] (mItL (mSl slL (mVar 0) (mPart (mOp iAdd (mVar 2) (mOk (.dat (.int 1))))) (mOk none))) (gN 4) mYes (mTup (mCons (mVar 3) (mCons (mVar 4) mNil)))) mNil))))
  (mRet (mVar 1))))
def f_l_pairs : List D → R D := fun ds => noX (outR (m_l_pairs (env0 5 ds)))
theorem ok_l_pairs (T : Tx w K mg) : Ok PRG w K mg base CX0 1 "_law_pairs" ["_law_people"] [] (sp0 K 1 f_l_pairs) := by
  obtain ⟨fd, F⟩ := T.f_l_pairs
  exact ⟨⟨fd, [], fn_data rfl F sc_l_pairs (noX_ne _) ⟨m_l_pairs, fun cdv A outer s H E hr => (dss (pss_cons (ds (ps_set (i := 1) sc_l_pairs.nd rfl (Or.inl rfl) (dx (pe_lst (da pa_nil md_nil)) md_lst)) md_setF)
      (dss (pss_cons (ds (ps_for PassesOwn.never rfl (di (pi_enum (by rfl) T.n_enumerate (da (pa_cons (dx (pv 0) md_var) (da pa_nil md_nil)) md_cons)) mi_enumL) (pg_tup rfl (pgs_cons (pg_name (i := 2) sc_l_pairs.nd rfl (Or.inl rfl)) (pgs_cons (pg_name (i := 3) sc_l_pairs.nd rfl (Or.inr rfl)) pgs_nil))) (pss_one (ds (ps_expr (dx (pe_bm PySem.F.plainAttrs_list PySem.F.slot_list_extend PySem.F.type_list_extend mt_extend (pv 1) (da (pa_cons (dx (dx (pe_lc (own := [("_law_other", 4)]) (by rfl) sc_l_pairs.nd (di (pi_list (dx (dx (pe_slice sl_list (dx (pv 0) md_var) (dpo (po_some (dx (pe_op op_add (dx (pv 2) md_var) (dx pe_int md_int)) (md_op ro_add))) md_part) (dpo po_none md_noPart)) md_slL) md_fz)) mi_list) (blkOk_by (N := N_l_pairs) (sc := defScope s_l_pairs) (by decide +kernel)) (fun _ _ _ _ _ => (pg_name (i := 4) sc_l_pairs.nd rfl (Or.inl rfl))) (fun _ _ _ _ _ => (dts pts_nil md_yes)) (fun _ _ _ _ _ => (dx (pe_tupS (da (pa_cons (dx (pv 3) md_var) (da (pa_cons (dx (pv 4) md_var) (da pa_nil md_nil)) md_cons)) md_cons)) md_tup))) (md_lc mg_name (by decide))) md_fz) (da pa_nil md_nil)) md_cons)) md_ext)) md_drop))) (md_for (mg_tup (mgs_cons mg_name (mgs_cons mg_name mgs_nil)))))
      (pss_one (ds (ps_ret (dx (pv 1) md_var)) md_ret))) md_seq)) md_seq), le_noX⟩, F.bindsN fun _ _ _ _ _ _ us hl => match us, hl with | [_], _ => rfl, .nil⟩, F.kp, T.g_l_pairs⟩

end
end Q

open PySem PySem.Spec PyProof.Rows L2 MT
local macro_rules | `(tactic| walk_at "v") => `(tactic| refine ⟨_, rfl, ?_⟩)
local macro_rules | `(tactic| walk_at "i") => `(tactic| refine ⟨_, _, rfl, rfl, ?_⟩)
local macro_rules | `(tactic| walk_at "vs") => `(tactic| repeat (first | refine ⟨_, rfl, ?_⟩ | refine ⟨_, _, rfl, rfl, ?_⟩))

namespace Q
open DL LamX
section
variable {w : World} {K : PySem.W.Frag} {mg : Str → Option Value} {base : Heap}
/-- told: what a call raises, what it returns -/
theorem told_gives {X : Cx} {q : Str} {g : Addr} {cdv : Value} (hme : X.mg "MeetError" = some (.ref (He.ga X.K "MeetError"))) :
    GivesS X N_l_told "_law_told" (defScope s_l_told) g cdv (defBody s_l_told) "_law_look" q (TTold2 X.K (He.ga X.K "MeetError")) := by
  intro f c' s H Q tl act hc h
  refine ⟨_, pss_cons (X := (cxOf C8.CX0 X.prog X.w X.K X.mg X.base N_l_told "_law_told" (defScope s_l_told) g cdv X.A X.stack s H C8.E0).nox) (ps_asg (pe_tup (pa_cons pe_non (pa_cons pe_non pa_nil))) (pg_tup rfl (pgs_cons (pg_name (i := 1) sc_l_told.nd rfl (.inl rfl)) (pgs_cons (pg_name (i := 2) sc_l_told.nd rfl (.inl rfl)) pgs_nil))))
    (pss_cons (ps_try_keep (i := 3) (j := 1) (c := .ref (He.ga X.K "MeetError")) (tb := fun W D σ H => σ[0]? = some (some (.ref f)) ∧ H c' = some (CodeO c' q) ∧ ∃ E : XK, (∀ cls d H', E cls d H' → W cls d σ H') ∧ ∃ Q' : VK, (∀ v H', Q' v H' → D.nx (σ.set 2 (some v)) H') ∧ tl E H Q')
      rfl rfl rfl sc_l_told.nd rfl rfl rfl rfl (show 3 < 4 by decide) ⟨rfl, by decide, .inl hme⟩ (by decide) (by decide) (fun X' e => by rw [e]; rfl) (fun W pn xe tk _ => pss_one ⟨fun pins s' σ' H' D I h' => ?_⟩))
      (pss_one (ps_ret (pe_tupS (pa_cons (pv 1) (pa_cons (pv 2) pa_nil)))))), ?_⟩
  · obtain ⟨h1, h2, E, hE, Q', hQ, ht⟩ := h'
    exact (ps_set (i := 2) sc_l_told.nd rfl (.inl rfl) (pe_mo (act W pn xe _ _ tk))).run pins s' σ' H' D I ⟨Q', ⟨h1, h2, E, hE, ht⟩, hQ⟩
  · unfold TTold2 at h
    refine ⟨(show 2 ≤ sizeLine by decide), fun p0 np0 => ⟨p0, [.non, .non], rfl, .inl (.inl upd_same), rfl, .non, [.non], rfl, .non, [], rfl, rfl, rfl, (by rw [upd_ne (ne_of_none hc np0)]; exact hc), _, fun cls d H' hE => ?_, _, fun v H' hq => ?_, h p0 np0⟩⟩
    · obtain ⟨e1, C, dd, rfl, rfl, hq⟩ := hE
      exact ⟨e1, C, dd, rfl, rfl, fun a na => ⟨.ref a, rfl, .non, rfl, (show 2 ≤ sizeLine by decide), fun p o np nd => hq a na p o np nd⟩⟩
    · exact ⟨.non, rfl, v, rfl, (show 2 ≤ sizeLine by decide), fun p o np nd => hq p o np nd⟩
end
end Q

open PySem PySem.Spec PyProof.Rows L2 MT
local macro_rules | `(tactic| walk_at "v") => `(tactic| refine ⟨_, rfl, ?_⟩)
local macro_rules | `(tactic| walk_at "i") => `(tactic| refine ⟨_, _, rfl, rfl, ?_⟩)
local macro_rules | `(tactic| walk_at "vs") => `(tactic| repeat (first | refine ⟨_, rfl, ?_⟩ | refine ⟨_, _, rfl, rfl, ?_⟩))

namespace Q
open DL
/-! ### what the lines of a hall told so far -/
structure RSt where
  pairs : List (List Key × Str)
  opens : List (Str × Str)
  lines : Nat
def putS (kvs : List (List Key × Str)) (k : List Key) (v : Str) : List (List Key × Str) :=
  if (kvs.any fun kv => decide (kv.1 = k)) = true then kvs.map (fun kv => if kv.1 = k then (kv.1, v) else kv) else kvs ++ [(k, v)]
def key2 (a b : Str) : List Key := [.inr a, .inr b]
def put2 (kvs : List (List Key × Str)) (a b w : Str) : List (List Key × Str) := putS (putS kvs (key2 a b) w) (key2 b a) w
def toV (kvs : List (List Key × Str)) : List (List Key × V) := kvs.map fun kv => (kv.1, V.str kv.2)
def lookS (kvs : List (List Key × Str)) (k : List Key) : Option Str := (kvs.find? fun kv => decide (kv.1 = k)).map (·.2)
def pairD (p : Str × Str) : PyData := .tuple [.str p.1, .str p.2]
theorem putS_V {kvs : List (List Key × Str)} {k : List Key} {v : Str} : putK (toV kvs) k (.str v) = toV (putS kvs k v) := by
  unfold putK putS toV
  rw [List.any_map]
  by_cases h : (kvs.any fun kv => decide (kv.1 = k)) = true
  · rw [if_pos (show (kvs.any ((fun kv => decide (kv.1 = k)) ∘ fun kv => (kv.1, V.str kv.2))) = true from h), if_pos h, List.map_map, List.map_map]
    apply List.map_congr_left
    intro kv _
    show (if kv.1 = k then (kv.1, V.str v) else (kv.1, V.str kv.2)) = _
    by_cases e : kv.1 = k
    · simp [e]
    · simp [e]
  · rw [if_neg (show ¬ (kvs.any ((fun kv => decide (kv.1 = k)) ∘ fun kv => (kv.1, V.str kv.2))) = true from h), if_neg h]
    simp
theorem putS_len {kvs : List (List Key × Str)} {k : List Key} {v : Str} : (putS kvs k v).length ≤ kvs.length + 1 := by
  unfold putS
  split <;> simp
theorem put2_len {kvs : List (List Key × Str)} {a b v : Str} : (put2 kvs a b v).length ≤ kvs.length + 2 := by
  have h1 := putS_len (kvs := kvs) (k := key2 a b) (v := v)
  have h2 := putS_len (kvs := putS kvs (key2 a b) v) (k := key2 b a) (v := v)
  unfold put2
  omega
theorem toV_len (kvs : List (List Key × Str)) : (toV kvs).length = kvs.length := by simp [toV]
theorem lookS_V {kvs : List (List Key × Str)} {k : List Key} : valV (toV kvs) k = (lookS kvs k).map V.str := by
  unfold valV toV lookS
  induction kvs with
  | nil => rfl
  | cons kv kvs ih =>
    rw [List.map_cons, List.find?_cons, List.find?_cons]
    by_cases e : kv.1 = k
    · simp [e]
    · simp only [e, decide_false]; exact ih
abbrev cR : Str := "Reading"
def fldsR (tp dp lp : Addr) (n : Nat) : List (Str × V) := [("named_people", .ref tp), ("named_pairs", .ref dp), ("named_opens", .ref lp), ("own_lines", .int (n : Nat))]
/-- the Reading at p; B: what else stands there -/
structure Rd (K : PySem.W.Frag) (Z B H : Hp) (p dx dp lp tp : Addr) (ovs : List V) (people : List Str) (st : RSt) : Prop where
  op : H p = some (.ins (He.ga K cR) dx (fldsR tp dp lp st.lines))
  od : H dp = some (.dT (toV st.pairs))
  ol : H lp = some (.lst ovs)
  bp : B p = none
  bd : B dp = none
  bl : B lp = none
  pd : p ≠ dp
  pl : p ≠ lp
  dl : dp ≠ lp
  sm : Same B H
  zp : Z p = none
  zd : Z dp = none
  zl : Z lp = none
  sz : Same Z H
  tu : TupS K B tp (people.map V.str)
  os : DdAll K B ovs (st.opens.map pairD)
  tb : MT.LamT K H
  zn : ∀ b ps, Z b ≠ some (.tbl ps)
  bn : noTb B
section
variable {K : PySem.W.Frag} {Z B B' H H' : Hp} {p dx dp lp tp : Addr} {ovs : List V} {people : List Str} {st : RSt}
/-- the heap grows -/
theorem Rd.grow (r : Rd K Z B H p dx dp lp tp ovs people st) (s : Same H H') : Rd K Z B H' p dx dp lp tp ovs people st :=
  ⟨s _ _ r.op, s _ _ r.od, s _ _ r.ol, r.bp, r.bd, r.bl, r.pd, r.pl, r.dl, r.sm.trans s, r.zp, r.zd, r.zl, r.sz.trans s, r.tu, r.os, r.tb.ext s, r.zn, r.bn⟩
/-- behind a call -/
theorem Rd.after (r : Rd K Z B H p dx dp lp tp ovs people st) (s : Same (MT.noT H) H') (sB : Same B H') (tb : MT.LamT K H') : Rd K Z B H' p dx dp lp tp ovs people st :=
  ⟨s _ _ (MT.noT_of r.op (by intro _ z; cases z)), s _ _ (MT.noT_of r.od (by intro _ z; cases z)), s _ _ (MT.noT_of r.ol (by intro _ z; cases z)), r.bp, r.bd, r.bl, r.pd, r.pl, r.dl, sB, r.zp, r.zd, r.zl, (fun b o h => s b o (MT.noT_of (r.sz b o h) fun ps z => r.zn b ps (by rw [h, z]))), r.tu, r.os, tb, r.zn, r.bn⟩
/-- .. by an object that is kept -/
theorem Rd.new (r : Rd K Z B H p dx dp lp tp ovs people st) {q : Addr} {o : HO} (n : H q = none) (ho : ∀ ps, o ≠ .tbl ps := by intro _ z; cases z) : Rd K Z (upd B q o) (upd H q o) p dx dp lp tp ovs people st := by
  have s : Same H (upd H q o) := same_new n
  have nb : B q = none := Same.free r.sm n
  have sb : Same B (upd B q o) := same_new nb
  have hp : p ≠ q := ne_of_none r.op n
  have hd : dp ≠ q := ne_of_none r.od n
  have hl : lp ≠ q := ne_of_none r.ol n
  refine ⟨s _ _ r.op, s _ _ r.od, s _ _ r.ol, by rw [upd_ne hp]; exact r.bp, by rw [upd_ne hd]; exact r.bd, by rw [upd_ne hl]; exact r.bl, r.pd, r.pl, r.dl, fun b u h => ?_, r.zp, r.zd, r.zl, r.sz.trans s, r.tu.same sb, r.os.same sb, r.tb.ext s, r.zn, (Ext.new (G := Z) nb (Same.free r.sz n) ho).nt r.bn⟩
  by_cases e : b = q
  · rw [e, upd_same] at h; rw [e, upd_same]; exact h
  · rw [upd_ne e] at h; rw [upd_ne e]; exact r.sm _ _ h
theorem Rd.putD (r : Rd K Z B H p dx dp lp tp ovs people st) {kvs : List (List Key × Str)} : Rd K Z B (upd H dp (.dT (toV kvs))) p dx dp lp tp ovs people { st with pairs := kvs } := by
  refine ⟨by rw [upd_ne r.pd]; exact r.op, upd_same, by rw [upd_ne (Ne.symm r.dl)]; exact r.ol, r.bp, r.bd, r.bl, r.pd, r.pl, r.dl, fun b u h => ?_, r.zp, r.zd, r.zl, fun b u h => ?_, r.tu, r.os, MT.tabs_updN r.tb r.od (by intro _ z; cases z) (by intro _ z; cases z), r.zn, r.bn⟩
  · rw [upd_ne (ne_of_none h r.bd)]; exact r.sm _ _ h
  · rw [upd_ne (ne_of_none h r.zd)]; exact r.sz _ _ h
theorem Rd.putL (r : Rd K Z B H p dx dp lp tp ovs people st) {t : Addr} {a b : Str} (ht : TupS K B t [.str a, .str b]) : Rd K Z B (upd H lp (.lst (ovs ++ [.ref t]))) p dx dp lp tp (ovs ++ [.ref t]) people { st with opens := st.opens ++ [(a, b)] } := by
  refine ⟨by rw [upd_ne r.pl]; exact r.op, by rw [upd_ne r.dl]; exact r.od, upd_same, r.bp, r.bd, r.bl, r.pd, r.pl, r.dl, fun b u h => ?_, r.zp, r.zd, r.zl, fun b u h => ?_, r.tu, ?_, MT.tabs_updN r.tb r.ol (by intro _ z; cases z) (by intro _ z; cases z), r.zn, r.bn⟩
  · rw [upd_ne (ne_of_none h r.bl)]; exact r.sm _ _ h
  · rw [upd_ne (ne_of_none h r.zl)]; exact r.sz _ _ h
  · rw [List.map_append]
    exact r.os.append (.cons (.tup ht (.cons (.str a) (.cons (.str b) .nil))) .nil)
theorem Rd.putN (r : Rd K Z B H p dx dp lp tp ovs people st) (n : Nat) : Rd K Z B (upd H p (.ins (He.ga K cR) dx (fldsR tp dp lp n))) p dx dp lp tp ovs people { st with lines := n } := by
  refine ⟨upd_same, by rw [upd_ne (Ne.symm r.pd)]; exact r.od, by rw [upd_ne (Ne.symm r.pl)]; exact r.ol, r.bp, r.bd, r.bl, r.pd, r.pl, r.dl, fun b u h => ?_, r.zp, r.zd, r.zl, fun b u h => ?_, r.tu, r.os, MT.tabs_updN r.tb r.op (by intro _ z; cases z) (by intro _ z; cases z), r.zn, r.bn⟩
  · rw [upd_ne (ne_of_none h r.bp)]; exact r.sm _ _ h
  · rw [upd_ne (ne_of_none h r.zp)]; exact r.sz _ _ h
end
def sp_put (K : PySem.W.Frag) : Sp := fun vs H Q _ => ∃ (Z B : Hp) (p dx dp lp tp : Addr) (ovs : List V) (people : List Str) (st : RSt) (a b w : Str), vs = [.ref p, .str a, .str b, .str w] ∧ Rd K Z B H p dx dp lp tp ovs people st ∧ st.pairs.length + 2 ≤ most ∧
  ∀ H', Rd K Z B H' p dx dp lp tp ovs people { st with pairs := put2 st.pairs a b w } → Q .non H'
section
variable {w : World} {K : PySem.W.Frag} {mg : Str → Option Value} {base : Heap}
theorem ok_put (T : Tx w K mg) : OkM PRG w K mg base CX0 1 "Reading" "put" ["self", "one", "other", "word"] [] (sp_put K) := by
  obtain ⟨fd, F⟩ := T.f_Reading_put
  refine ⟨⟨fd, [], F.ok sc_Reading_put (fun vs H Q E h => ?_) (fun cdv A outer s H vs Q E hr h => ?_), F.bindsN fun _ _ _ _ _ _ us hl => match us, hl with | [_, _, _, _], _ => rfl, .nil⟩, T.cl_Reading, T.me_Reading_put⟩
  · obtain ⟨Z, B, p, dx, dp, lp, tp, ovs, people, st, a, b, w, rfl, _⟩ := h; rfl
  · obtain ⟨Z, B, p, dx, dp, lp, tp, ovs, people, st, a, b, wd, rfl, r, hz, kk⟩ := h
    refine ⟨_, PSs.nox (pss_cons (ps_dput (hu_of hr) (pe_fld (pv 0) rfl) (pe_tup (pa_cons (pv 1) (pa_cons (pv 2) pa_nil))) (pv 3) rfl) (pss_one (ps_dput (hu_of hr) (pe_fld (pv 0) rfl) (pe_tup (pa_cons (pv 2) (pa_cons (pv 1) pa_nil))) (pv 3) rfl))), ?_⟩
    refine ⟨_, rfl, _, rfl, p, _, dx, _, _, rfl, r.op, T.cl_Reading, T.na_Reading_named_pairs, rfl, _, rfl, _, rfl, (by show 2 ≤ sizeLine; decide), fun t nt => ?_⟩
    have r1 := r.grow (same_new (u := .tup [.str a, .str b]) nt)
    refine ⟨dp, _, rfl, DPut.t (k := key2 a b) r1.od upd_same (by rw [toV_len]; exact Nat.lt_of_lt_of_le (by omega) (most_le (Nat.le_refl _))), ?_⟩
    rw [putS_V]
    have r2 := r1.putD (kvs := putS st.pairs (key2 a b) wd)
    refine ⟨_, rfl, _, rfl, p, _, dx, _, _, rfl, r2.op, T.cl_Reading, T.na_Reading_named_pairs, rfl, _, rfl, _, rfl, (by show 2 ≤ sizeLine; decide), fun t' nt' => ?_⟩
    have r3 := r2.grow (same_new (u := .tup [.str b, .str a]) nt')
    have hl := putS_len (kvs := st.pairs) (k := key2 a b) (v := wd)
    refine ⟨dp, _, rfl, DPut.t (k := key2 b a) r3.od upd_same (by rw [toV_len]; exact Nat.lt_of_lt_of_le (show (putS st.pairs (key2 a b) wd).length < most by omega) (most_le (Nat.le_refl _))), ?_⟩
    rw [putS_V]
    exact kk _ r3.putD
end
end Q

open PySem PySem.Spec PyProof.Rows L2 MT
local macro_rules | `(tactic| walk_at "v") => `(tactic| refine ⟨_, rfl, ?_⟩)
local macro_rules | `(tactic| walk_at "i") => `(tactic| refine ⟨_, _, rfl, rfl, ?_⟩)
local macro_rules | `(tactic| walk_at "vs") => `(tactic| repeat (first | refine ⟨_, rfl, ?_⟩ | refine ⟨_, _, rfl, rfl, ?_⟩))

namespace Q
open DL
def asBool : DL.R D → Option Bool
  | .ok (.dat (.bool b)) => some b
  | _ => none
theorem asBool_eq {r : DL.R D} {b : Bool} (h : asBool r = some b) : r = .ok (.dat (.bool b)) := by
  unfold asBool at h
  split at h
  · cases h; rfl
  · cases h
def strsD (ws : List Str) : List PyData := ws.map .str
def someB (ws people : List Str) : Option Bool := asBool (f_some_in [.dat (.list (strsD ws)), .dat (.tuple (strsD people))])
def putOne (one : Str) : List Str → List (List Key × Str) → List (List Key × Str)
  | [], ps => ps
  | o :: os, ps => putOne one os (put2 ps one o "met")
def putMet : List Str → List (List Key × Str) → List (List Key × Str)
  | [], ps => ps
  | o :: os, ps => putMet os (putOne o os ps)
theorem putOne_snoc {one o : Str} : ∀ {os : List Str} {ps : List (List Key × Str)}, putOne one (os ++ [o]) ps = put2 (putOne one os ps) one o "met"
  | [], _ => rfl
  | x :: os, ps => putOne_snoc (os := os)
theorem putOne_len {one : Str} : ∀ {os : List Str} {ps : List (List Key × Str)}, (putOne one os ps).length ≤ ps.length + 2 * os.length
  | [], ps => by simp [putOne]
  | x :: os, ps => by
    have h1 := putOne_len (one := one) (os := os) (ps := put2 ps one x "met")
    have h2 := put2_len (kvs := ps) (a := one) (b := x) (v := "met")
    simp only [putOne, List.length_cons]
    omega
/-- the first i of them have been put -/
def putUpto (ns : List Str) : Nat → List (List Key × Str) → List (List Key × Str)
  | 0, ps => ps
  | i + 1, ps => match ns[i]? with
    | some o => putOne o (ns.drop (i + 1)) (putUpto ns i ps)
    | none => putUpto ns i ps
theorem putUpto_cons {o : Str} {os : List Str} : ∀ {i : Nat} {ps : List (List Key × Str)}, putUpto (o :: os) (i + 1) ps = putUpto os i (putOne o os ps)
  | 0, ps => rfl
  | i + 1, ps => by
    have ih := putUpto_cons (o := o) (os := os) (i := i) (ps := ps)
    rw [putUpto, ih]
    show (match (o :: os)[i + 1]? with | some o' => putOne o' ((o :: os).drop (i + 1 + 1)) (putUpto os i (putOne o os ps)) | none => putUpto os i (putOne o os ps)) = _
    rw [List.getElem?_cons_succ, List.drop_succ_cons]
    rfl
theorem putUpto_all : ∀ {ns : List Str} {ps : List (List Key × Str)}, putUpto ns ns.length ps = putMet ns ps
  | [], ps => rfl
  | o :: os, ps => by
    rw [List.length_cons, putUpto_cons, putUpto_all]
    rfl
theorem putUpto_len {ns : List Str} : ∀ {i : Nat} {ps : List (List Key × Str)}, (putUpto ns i ps).length ≤ ps.length + 2 * ns.length * i
  | 0, ps => by simp [putUpto]
  | i + 1, ps => by
    have ih := putUpto_len (ns := ns) (i := i) (ps := ps)
    have e : 2 * ns.length * (i + 1) = 2 * ns.length * i + 2 * ns.length := by rw [Nat.mul_add, Nat.mul_one]
    unfold putUpto
    split
    · rename_i o _
      have h := putOne_len (one := o) (os := ns.drop (i + 1)) (ps := putUpto ns i ps)
      rw [List.length_drop] at h
      omega
    · omega
def blank : Str := " "
/-- what take does -/
def takeM (people : List Str) (st : RSt) (line : Str) : Option (Bool × RSt) :=
  if line.length + 2 ≤ most ∧ (Txt.split line blank).length ≤ 30 ∧ st.pairs.length + 2000 ≤ most ∧ st.opens.length ≤ 30 ∧ SeqAt.shaped (.list (st.opens.map pairD)) = true then
    (someB (Txt.split line blank) people).bind fun b => if b = false then some (false, st) else match Txt.split line blank with
      | [] => none
      | w0 :: ns => if w0 = "met" ∧ st.opens = [] ∧ st.lines < 20 then some (true, { st with lines := st.lines + 1, pairs := putMet ns st.pairs })
        else if w0 ≠ "open" ∨ ns.length ≠ 2 ∨ st.opens.length = 4 then some (false, st)
        else match ns with
          | [one, other] => if (lookS st.pairs (key2 one other)).isSome = true then some (false, st) else some (true, { st with pairs := put2 st.pairs one other "open", opens := st.opens ++ [(one, other)] })
          | _ => none
  else none
def sp_tk (K : PySem.W.Frag) : Sp := fun vs H Q _ => ∃ (Z B : Hp) (p dx dp lp tp : Addr) (ovs : List V) (people : List Str) (st : RSt) (line : Str) (b : Bool) (st' : RSt), vs = [.ref p, .str line] ∧ Rd K Z B H p dx dp lp tp ovs people st ∧ takeM people st line = some (b, st') ∧
  ∀ B' H' ovs', Ext B Z B' → Rd K Z B' H' p dx dp lp tp ovs' people st' → Q (.bl b) H'
theorem dd_strsD {K : PySem.W.Frag} {F : Hp} (ws : List Str) : DdAll K F (ws.map V.str) (strsD ws) := dd_strs ws
theorem opens_eqv (ps : List (Str × Str)) : PyData.eqv (.list (ps.map pairD)) (.list []) = decide (ps = []) := by
  cases ps <;> simp [PyData.eqv, PyData.eqvAll]
theorem cutV_from {xs : List V} {k : Nat} : cutV xs (some (k : Int)) none = xs.drop k := by
  unfold cutV
  have e1 : HT.sIx xs.length 0 (some (k : Int)) = min k xs.length := by
    show (if (k : Int) < 0 then ((k : Int) + (xs.length : Int)).toNat else min (k : Int).toNat xs.length) = _
    rw [if_neg (by omega)]; simp
  have e2 : HT.sIx xs.length xs.length none = xs.length := rfl
  rw [e1, e2]
  by_cases h : k ≤ xs.length
  · rw [Nat.min_eq_left h]
    exact List.take_of_length_le (by rw [List.length_drop]; omega)
  · rw [Nat.min_eq_right (by omega), List.drop_of_length_le (by omega), List.drop_of_length_le (by omega)]; simp
theorem iteNN {c A B : Prop} [Decidable c] (hc : ¬ c) (h : A) : if (!decide c) = true then A else B := by rw [if_pos (by simpa using hc)]; exact h
theorem ite_yes {c A B : Prop} [Decidable c] (hc : c) (h : A) : if decide c = true then A else B := by rw [if_pos (decide_eq_true hc)]; exact h
theorem ite_no {c A B : Prop} [Decidable c] (hc : ¬ c) (h : B) : if decide c = true then A else B := by rw [if_neg (by simpa using hc)]; exact h
section
variable {w : World} {K : PySem.W.Frag} {mg : Str → Option Value} {base : Heap}
set_option pp.maxSteps 400 in
theorem ok_tk (T : Tx w K mg) : OkM PRG w K mg base CX0 3 "Reading" "take" ["self", "line"] [] (sp_tk K) := by
  have O_some_in := ok_some_in (w := w) (base := base) T
  have O_put := ok_put (w := w) (base := base) T
  obtain ⟨fd, F⟩ := T.f_Reading_take
  refine ⟨⟨fd, [], F.ok sc_Reading_take (fun vs H Q E h => ?_) (fun cdv A outer s H vs Q E hr h => ?_), F.bindsN fun _ _ _ _ _ _ us hl => match us, hl with | [_, _], _ => rfl, .nil⟩, T.cl_Reading, T.me_Reading_take⟩
  · obtain ⟨Z, B, p, dx, dp, lp, tp, ovs, people, st, line, b, st', rfl, _⟩ := h; rfl
  · obtain ⟨Z, B, p, dx, dp, lp, tp, ovs, people, st, line, b, st', rfl, r, hm, kk⟩ := h
    have hd := T.cl_Reading
    unfold takeM at hm
    split at hm
    case isFalse => cases hm
    rename_i hg
    obtain ⟨g1, g2, g3, g4, g5⟩ := hg
    generalize hws : Txt.split line blank = ws at hm g2
    cases hb : someB ws people with
    | none => rw [hb] at hm; cases hm
    | some b0 =>
    rw [hb] at hm
    simp only [Option.bind_some] at hm
    refine ⟨_, PSs.nox (pss_cons (ps_set (i := 2) sc_Reading_take.nd rfl (Or.inl rfl) (pe_split (pv 1) (pe_cstr rfl T.c_BLANK)))
      (pss_cons (ps_if (pt_not (pt_val (pe_callO O_some_in (hr.mono (by decide)) rfl pass0 (pa_cons (pv 2) (pa_cons (pe_fld (pv 0) rfl) pa_nil))))) (pss_one (ps_ret pe_bl)) pss_nil)
      (pss_cons (ps_if (PW.pt (pw_and (pt_cmpR op_eq (pe_ix ix_list (pv 2) pe_int (fun _ _ => rfl)) (pe_cstr rfl T.c_MET) (nomark _)) (pw_and (pt_cmpR (op_eqD hr.units) (pe_fld (pv 0) rfl) (pe_lst pa_nil) (nomark _)) (pw_and1 (pt_cmpR op_lt (pe_fld (pv 0) rfl) (pe_cint rfl T.c_MOST_MET) (nomark _)))))) (pss_cons (ps_fldaug (pv 0) pe_int in_add)
      (pss_cons (ps_for PassesOwn.never rfl (pi_enum (by rfl) T.n_enumerate (pa_cons (pe_slice sl_list (pv 2) (po_some pe_int) po_none) pa_nil)) (pg_tup rfl (pgs_cons (pg_name (i := 3) sc_Reading_take.nd rfl (Or.inl rfl)) (pgs_cons (pg_name (i := 4) sc_Reading_take.nd rfl (Or.inl rfl)) pgs_nil))) (pss_one (ps_for PassesOwn.never rfl (pi_list (pe_slice sl_list (pv 2) (po_some (pe_op op_add (pv 3) (pe_cint rfl T.c_PAIR))) po_none)) (pg_name (i := 5) sc_Reading_take.nd rfl (Or.inl rfl)) (pss_one (ps_expr (pe_methO O_put (hr.mono (by decide)) pass0 (pv 0) (pa_cons (pv 4) (pa_cons (pv 5) (pa_cons (pe_cstr rfl T.c_MET) pa_nil)))))))))
      (pss_one (ps_ret pe_bl)))) pss_nil)
      (pss_cons (ps_if (PW.pt (pw_or (pt_cmpR op_ne (pe_ix ix_list (pv 2) pe_int (fun _ _ => rfl)) (pe_cstr rfl T.c_OPEN) (nomark _)) (pw_or (pt_cmpR op_ne (pe_callB call_len (by rfl) T.n_len (by decide +kernel) (pa_cons (pv 2) pa_nil)) (pe_cint rfl T.c_OPEN_SIZE) (nomark _)) (pw_or1 (pt_cmpR op_eq (pe_callB call_len (by rfl) T.n_len (by decide +kernel) (pa_cons (pe_fld (pv 0) rfl) pa_nil)) (pe_cint rfl T.c_MOST_OPEN) (nomark _)))))) (pss_one (ps_ret pe_bl)) pss_nil)
      (pss_cons (ps_asg (pe_slice sl_list (pv 2) (po_some pe_int) po_none) (pg_lst rfl (pgs_cons (pg_name (i := 4) sc_Reading_take.nd rfl (Or.inl rfl)) (pgs_cons (pg_name (i := 5) sc_Reading_take.nd rfl (Or.inl rfl)) pgs_nil))))
      (pss_cons (ps_if (pt_cmp (pc_din (hu_of hr) (pe_tup (pa_cons (pv 4) (pa_cons (pv 5) pa_nil))) (pe_fld (pv 0) rfl))) (pss_one (ps_ret pe_bl)) pss_nil)
      (pss_cons (ps_expr (pe_methO O_put (hr.mono (by decide)) pass0 (pv 0) (pa_cons (pv 4) (pa_cons (pv 5) (pa_cons (pe_cstr rfl T.c_OPEN) pa_nil)))))
      (pss_cons (ps_expr (pe_bm PySem.F.plainAttrs_list PySem.F.slot_list_append PySem.F.type_list_append mt_append (pe_fld (pv 0) rfl) (pa_cons (pe_tupS (pa_cons (pv 4) (pa_cons (pv 5) pa_nil))) pa_nil)))
      (pss_one (ps_ret pe_bl)))))))))), ?_⟩
    refine ⟨_, rfl, ⟨_, rfl⟩, _, _, rfl, rfl, rfl, most_le g1, fun wa nw => ?_⟩
    rw [show Txt.split line (Str.ofString " ") = ws from hws]
    have r1 := r.new (o := .lst (ws.map V.str)) nw
    have sB : Ext B Z (upd B wa (.lst (ws.map V.str))) := Ext.new (Same.free r.sm nw) (Same.free r.sz nw)
    refine ⟨_, rfl, _, rfl, p, _, dx, _, _, rfl, r1.op, hd, T.na_Reading_named_people, rfl, ?_⟩
    refine ⟨rfl, _, [.dat (.list (strsD ws)), .dat (.tuple (strsD people))], r1.sm, ⟨r1.tb, r1.bn⟩, .cons (.dat (.lst upd_same (dd_strsD _))) (.cons (.dat (.tup r1.tu (dd_strsD _))) .nil), ?_⟩
    rw [show f_some_in [.dat (.list (strsD ws)), .dat (.tuple (strsD people))] = .ok (.dat (.bool b0)) from asBool_eq hb]
    intro v F2 H2 xx fh hh tb rv
    cases rv.dd
    have r2 := r1.after hh (xx.same.trans fh) tb
    refine ⟨_, rfl, ?_⟩
    cases b0 with
    | false =>
      rw [if_pos rfl] at hm
      cases hm
      exact iteT (kk _ _ _ sB r2)
    | true =>
    rw [if_neg (by simp)] at hm
    refine iteF ?_
    cases ws with
    | nil => cases hm
    | cons w0 ns =>
    have hW : ∀ {Hx : Hp}, Same (upd B wa (.lst ((w0 :: ns).map V.str))) Hx → SqL K Hx wa ((w0 :: ns).map V.str) := fun s => SqL.of (s _ _ upd_same)
    dsimp only at hm
    refine ⟨_, rfl, _, _, _, _, rfl, rfl, hW r2.sm, atI_nat (j := 0) rfl, rfl, _, rfl, ?_⟩
    by_cases hc : w0 = "met" ∧ st.opens = [] ∧ st.lines < 20
    · rw [if_pos hc] at hm
      cases hm
      obtain ⟨c1, c2, c3⟩ := hc
      refine ite_yes (by rw [c1]) ?_
      refine ⟨_, rfl, p, _, dx, _, _, rfl, r2.op, hd, T.na_Reading_named_opens, rfl, Nat.zero_le _, fun qa nq => ?_⟩
      have r3 := r2.grow (same_new (u := .lst []) nq)
      refine ⟨.list (st.opens.map pairD), .list [], .lst (SqL.of r3.ol) ((r3.os.same r3.sm).dp (by simpa [PyData.canLay0] using shaped_lay g5)), .lst (SqL.of upd_same) .nil, g5, rfl, _, rfl, ?_⟩
      rw [opens_eqv]
      refine ite_yes c2 ?_
      refine ⟨_, rfl, p, _, dx, _, _, rfl, r3.op, hd, T.na_Reading_own_lines, rfl, _, _, rfl, rfl, _, rfl, ?_⟩
      refine ite_yes (by omega) ?_
      refine ⟨_, rfl, p, _, dx, _, _, rfl, r3.op, hd, T.na_Reading_own_lines, rfl, _, _, rfl, rfl, _, _, r3.op, (by show 4 < 1000; decide), ?_⟩
      have r4 := r3.putN (st.lines + 1)
      have e : putF (Str.ofString "own_lines") (V.int (((st.lines : Nat) : Int) + 1)) (fldsR tp dp lp st.lines) = fldsR tp dp lp (st.lines + 1) := rfl
      rw [e]
      refine ⟨_, rfl, _, rfl, wa, _, rfl, hW r4.sm, fun sa nsa => ⟨_, _, rfl, SqL.of upd_same, ?_⟩⟩
      rw [show cutV ((w0 :: ns).map V.str) (some 1) none = ns.map V.str from cutV_from (k := 1)]
      have r5 := r4.new (o := .lst (ns.map V.str)) nsa
      have sB5 := Ext.new (G := Z) (o := .lst (ns.map V.str)) (Same.free r4.sm nsa) (Same.free r4.sz nsa)
      refine for_it (walk_enum (K := K) (a := sa) (xs := ns.map V.str)) (fun i σ Hx => σ[0]? = some (some (.ref p)) ∧ σ[2]? = some (some (.ref wa)) ∧ σ.length = 6 ∧ Rd K Z _ Hx p dx dp lp tp ovs people { st with lines := st.lines + 1, pairs := putUpto ns i st.pairs }) ⟨rfl, rfl, rfl, r5⟩ (fun i σ Hx _ z => SqL.of (z.2.2.2.sm _ _ upd_same)) ?_ ?_
      · rintro i x σ Hx Hy hi ⟨s0, s2, sl, rx⟩ ⟨T0, x1, x2, rfl, nT, rfl, e1, e2⟩
        cases e1
        rw [List.length_map] at hi
        dsimp only at e2
        rw [List.getElem?_map, List.getElem?_eq_getElem hi] at e2
        cases e2
        have rx := rx.grow (same_new (u := .tup [.int (i : Nat), .str ns[i]]) nT)
        have s0' : ((σ.set 3 (some (V.int (i : Nat)))).set 4 (some (V.str ns[i])))[0]? = some (some (.ref p)) := by simpa using s0
        have s2' : ((σ.set 3 (some (V.int (i : Nat)))).set 4 (some (V.str ns[i])))[2]? = some (some (.ref wa)) := by simpa using s2
        have s3' : ((σ.set 3 (some (V.int (i : Nat)))).set 4 (some (V.str ns[i])))[3]? = some (some (V.int (i : Nat))) := by simp [sl]
        have s4' : ((σ.set 3 (some (V.int (i : Nat)))).set 4 (some (V.str ns[i])))[4]? = some (some (V.str ns[i])) := by simp [sl]
        have sl' : ((σ.set 3 (some (V.int (i : Nat)))).set 4 (some (V.str ns[i]))).length = 6 := by simp [sl]
        refine ⟨T0, _, rfl, .inl (.inl upd_same), rfl, _, _, rfl, _, _, rfl, rfl, ?_⟩
        generalize (σ.set 3 (some (V.int (i : Nat)))).set 4 (some (V.str ns[i])) = σ1 at s0' s2' s3' s4' sl' ⊢
        refine ⟨_, s2', _, s3', _, _, rfl, rfl, _, rfl, wa, _, rfl, hW (sB5.same.trans rx.sm), fun sb nsb => ⟨_, rfl, ⟨_, SqL.of upd_same⟩, ?_⟩⟩
        rw [show cutV ((w0 :: ns).map V.str) (some (((i : Nat) : Int) + 2)) none = (ns.drop (i + 1)).map V.str from (cutV_from (k := i + 2)).trans (by rw [List.map_cons, List.drop_succ_cons, List.map_drop])]
        have r6 := rx.new (o := .lst ((ns.drop (i + 1)).map V.str)) nsb
        have sB6 := same_new (u := .lst ((ns.drop (i + 1)).map V.str)) (Same.free rx.sm nsb)
        refine for_it (walk_list (K := K) (a := sb) (xs := (ns.drop (i + 1)).map V.str)) (fun j σ Hx => σ[0]? = some (some (.ref p)) ∧ σ[2]? = some (some (.ref wa)) ∧ σ[4]? = some (some (V.str ns[i])) ∧ σ.length = 6 ∧ Rd K Z _ Hx p dx dp lp tp ovs people { st with lines := st.lines + 1, pairs := putOne ns[i] ((ns.drop (i + 1)).take j) (putUpto ns i st.pairs) }) ⟨s0', s2', s4', sl', r6⟩ (fun j σ Hx _ z => SqL.of (z.2.2.2.2.sm _ _ upd_same)) ?_ ?_
        · rintro j y σ2 Hx2 Hy2 hj ⟨t0, t2, t4, tl, ry⟩ ⟨rfl, e3⟩
          rw [List.length_map] at hj
          rw [List.getElem?_map, List.getElem?_eq_getElem hj] at e3
          cases e3
          have l1 := putOne_len (one := ns[i]) (os := (ns.drop (i + 1)).take j) (ps := putUpto ns i st.pairs)
          have l2 := putUpto_len (ns := ns) (i := i) (ps := st.pairs)
          have l3 : ((ns.drop (i + 1)).take j).length ≤ ns.length := by rw [List.length_take, List.length_drop]; omega
          have l4 : ns.length ≤ 30 := by simp at g2; omega
          have l5 : 2 * ns.length * i ≤ 2 * 30 * 30 := Nat.mul_le_mul (by omega) (by omega)
          refine ⟨_, by simpa using t0, p, dx, _, rfl, ry.op, rfl, _, by simpa using t4, _, (show (σ2.set 5 (some (V.str (ns.drop (i + 1))[j])))[5]? = some (some (V.str (ns.drop (i + 1))[j])) from by simp [tl]), ?_⟩
          refine ⟨_, _, p, dx, dp, lp, tp, ovs, people, _, _, _, _, rfl, ry, by show (putOne ns[i] ((ns.drop (i + 1)).take j) (putUpto ns i st.pairs)).length + 2 ≤ most; omega, fun H3 r7 => ?_⟩
          refine ⟨by simpa using t0, by simpa using t2, by simpa using t4, by simpa using tl, ?_⟩
          rw [List.take_succ_eq_append_getElem hj, putOne_snoc]
          exact r7
        · rintro σ2 Hx2 ⟨t0, t2, t4, tl, ry⟩
          refine ⟨t0, t2, tl, ?_⟩
          rw [List.length_map, List.take_length] at ry
          have e3 : putUpto ns (i + 1) st.pairs = putOne ns[i] (ns.drop (i + 1)) (putUpto ns i st.pairs) := by
            rw [putUpto, List.getElem?_eq_getElem hi]
          rw [e3]
          exact { ry with bp := rx.bp, bd := rx.bd, bl := rx.bl, sm := sB6.trans ry.sm, tu := rx.tu, os := rx.os, bn := rx.bn }
      · rintro σ Hx ⟨s0, s2, sl, rx⟩
        rw [List.length_map, putUpto_all] at rx
        exact kk _ _ _ (sB.trans sB5) rx
    · rw [if_neg hc] at hm
      by_cases h1 : w0 = "met"
      case' neg =>
        refine ite_no (fun z => h1 (V.str.inj z)) (iteF ?_)
        have rx := r2
        clear r2 hh fh tb
        revert rx
        generalize H2 = Hx
        intro rx
      case' pos =>
        refine ite_yes (by rw [h1]) ?_
        refine ⟨_, rfl, p, _, dx, _, _, rfl, r2.op, hd, T.na_Reading_named_opens, rfl, Nat.zero_le _, fun qa nq => ?_⟩
        have r3 := r2.grow (same_new (u := .lst []) nq)
        refine ⟨.list (st.opens.map pairD), .list [], .lst (SqL.of r3.ol) ((r3.os.same r3.sm).dp (by simpa [PyData.canLay0] using shaped_lay g5)), .lst (SqL.of upd_same) .nil, g5, rfl, _, rfl, ?_⟩
        rw [opens_eqv]
        by_cases h2 : st.opens = []
        case' pos =>
          refine ite_yes h2 ?_
          refine ⟨_, rfl, p, _, dx, _, _, rfl, r3.op, hd, T.na_Reading_own_lines, rfl, _, _, rfl, rfl, _, rfl, ?_⟩
          refine ite_no (fun z => hc ⟨h1, h2, by omega⟩) ?_
        case' neg =>
          refine ite_no h2 (iteF ?_)
        all_goals
          have rx := r3
          clear r3
          revert rx
          generalize upd H2 qa (HO.lst []) = Hx
          intro rx
      all_goals
        refine ⟨_, rfl, _, _, _, _, rfl, rfl, hW rx.sm, atI_nat (j := 0) rfl, rfl, _, rfl, ?_⟩
        have ol : ovs.length = st.opens.length := rx.os.length.trans (by rw [List.length_map])
        by_cases k1 : w0 = "open"
        case neg =>
          rw [if_pos (Or.inl k1)] at hm
          cases hm
          exact iteNN (fun z => k1 (V.str.inj z)) (iteT (kk _ _ _ sB rx))
        refine iteNS (by rw [k1]) ?_
        refine ⟨_, rfl, _, _, rfl, .inl ⟨_, hW rx.sm, rfl⟩, rfl, _, rfl, ?_⟩
        by_cases k2 : ns.length = 2
        case neg =>
          rw [if_pos (Or.inr (Or.inl k2))] at hm
          cases hm
          refine iteNN (fun z => k2 ?_) (iteT (kk _ _ _ sB rx))
          have z2 := V.int.inj z
          simp at z2
          omega
        refine iteNS (by simp [k2]) ?_
        refine ⟨_, rfl, p, _, dx, _, _, rfl, rx.op, hd, T.na_Reading_named_opens, rfl, _, _, rfl, .inl ⟨_, SqL.of rx.ol, rfl⟩, rfl, _, rfl, ?_⟩
        by_cases k3 : st.opens.length = 4
        case pos =>
          rw [if_pos (Or.inr (Or.inr k3))] at hm
          cases hm
          exact ite_yes (by rw [ol, k3]; rfl) (kk _ _ _ sB rx)
        refine ite_no (fun z => k3 ?_) ?_
        · have z2 := V.int.inj z
          omega
        rw [if_neg (fun z => z.elim (fun z => z k1) (fun z => z.elim (fun z => z k2) k3))] at hm
        obtain ⟨one, other, rfl⟩ : ∃ one other, ns = [one, other] := by
          match ns, k2 with
          | [a, b], _ => exact ⟨a, b, rfl⟩
        dsimp only at hm
        refine ⟨_, rfl, _, rfl, wa, _, rfl, hW rx.sm, fun sa nsa => ?_⟩
        rw [show cutV ([w0, one, other].map V.str) (some 1) none = [V.str one, V.str other] from cutV_from (k := 1)]
        have r7 := rx.grow (same_new (u := .lst [V.str one, V.str other]) nsa)
        refine ⟨sa, _, rfl, SqL.of upd_same, rfl, _, _, rfl, _, _, rfl, rfl, ?_⟩
        refine ⟨_, rfl, _, rfl, (by show 2 ≤ sizeLine; decide), fun ta nta => ?_⟩
        have r8 := r7.grow (same_new (u := .tup [V.str one, V.str other]) nta)
        refine ⟨_, rfl, p, _, dx, _, _, rfl, r8.op, hd, T.na_Reading_named_pairs, rfl, dp, _, rfl, DGet.t (k := key2 one other) r8.od upd_same, _, rfl, ?_⟩
        rw [lookS_V, Option.isSome_map]
        cases hl : (lookS st.pairs (key2 one other)).isSome with
        | true =>
          rw [hl, if_pos rfl] at hm
          cases hm
          exact iteT (kk _ _ _ sB r8)
        | false =>
          rw [hl, if_neg (by simp)] at hm
          cases hm
          refine iteF ?_
          refine ⟨_, rfl, p, dx, _, rfl, r8.op, rfl, _, rfl, _, rfl, ?_⟩
          refine ⟨_, _, p, dx, dp, lp, tp, ovs, people, _, _, _, _, rfl, r8, by omega, fun H9 r9 => ?_⟩
          refine ⟨_, rfl, p, _, dx, _, _, rfl, r9.op, hd, T.na_Reading_named_opens, rfl, .inl ⟨rfl, _, SqL.of r9.ol⟩, _, rfl, _, rfl, (by show 2 ≤ sizeLine; decide), fun tb ob ntb hdi => ?_⟩
          have r10 := r9.new (o := .frz ob (.tup [V.str one, V.str other])) ntb
          have sB10 := Ext.new (G := Z) (o := .frz ob (.tup [V.str one, V.str other])) (Same.free r9.sm ntb) (Same.free r9.sz ntb)
          refine ⟨lp, _, _, rfl, rfl, r10.ol, by rw [ol]; exact Nat.lt_of_le_of_lt g4 (by decide), ?_⟩
          exact kk _ _ _ (sB.trans sB10) (r10.putL (.inl ⟨ob, upd_same, hdi⟩))
end
end Q

open PySem PySem.Spec PyProof.Rows L2 MT
local macro_rules | `(tactic| walk_at "v") => `(tactic| refine ⟨_, rfl, ?_⟩)
local macro_rules | `(tactic| walk_at "i") => `(tactic| refine ⟨_, _, rfl, rfl, ?_⟩)
local macro_rules | `(tactic| walk_at "vs") => `(tactic| repeat (first | refine ⟨_, rfl, ?_⟩ | refine ⟨_, _, rfl, rfl, ?_⟩))

namespace Q
open DL
section
variable {w : World} {K : PySem.W.Frag} {mg : Str → Option Value} {base : Heap}
/-! ### a new Reading -/
def sp_ri (K : PySem.W.Frag) : Sp := fun vs H Q _ => ∃ (x dx tp : Addr), vs = [.ref x, .ref tp] ∧ H x = some (.ins (He.ga K cR) dx []) ∧
  ∀ dp lp H', H dp = none → H lp = none → dp ≠ lp → H' x = some (.ins (He.ga K cR) dx (fldsR tp dp lp 0)) → H' dp = some (.dT []) → H' lp = some (.lst []) → (∀ b o, b ≠ x → H b = some o → H' b = some o) → Q .non H'
theorem ok_ri (T : Tx w K mg) : OkI PRG w K mg base CX0 1 "Reading" ["self", "people"] [] (sp_ri K) := by
  obtain ⟨fd, F⟩ := T.f_Reading__init
  refine ⟨⟨fd, [], F.ok sc_Reading__init (fun vs H Q E h => ?_) (fun cdv A outer s H vs Q E hr h => ?_), F.bindsN fun _ _ _ _ _ _ us hl => match us, hl with | [_, _], _ => rfl, .nil⟩, T.mk_Reading, T.g_Reading⟩
  · obtain ⟨x, dx, tp, rfl, _⟩ := h; rfl
  · obtain ⟨x, dx, tp, rfl, hx, kk⟩ := h
    refine ⟨_, PSs.nox (pss_cons (ps_fld (pv 0) (pv 1) rfl) (pss_cons (ps_fld (pv 0) pe_dnewT rfl) (pss_cons (ps_fld (pv 0) (pe_lst pa_nil) rfl) (pss_one (ps_fld (pv 0) pe_int rfl))))), ?_⟩
    have c := T.cl_Reading
    refine ⟨_, rfl, _, rfl, x, _, dx, _, rfl, hx, c, T.na_Reading_named_people, by decide, fun dp nd => ?_⟩
    have nd0 : H dp = none := by rw [← upd_ne (H := H) (o := .ins (He.ga K cR) dx (putF "named_people" (.ref tp) [])) (show dp ≠ x from fun e => by rw [e] at nd; simp [upd] at nd)]; exact nd
    have ndx : x ≠ dp := fun e => by rw [← e, hx] at nd0; cases nd0
    refine ⟨_, rfl, x, _, dx, _, rfl, (by rw [upd_ne ndx]; exact upd_same), c, T.na_Reading_named_pairs, by show 1 < 1000; decide, ?_⟩
    refine ⟨Nat.zero_le _, fun lp nl => ?_⟩
    have nlx : lp ≠ x := fun e => by rw [e] at nl; simp [upd] at nl
    have nld : lp ≠ dp := fun e => by rw [e, upd_ne (Ne.symm ndx), upd_same] at nl; cases nl
    have nl0 : H lp = none := by rw [upd_ne nlx, upd_ne nld, upd_ne nlx] at nl; exact nl
    refine ⟨_, rfl, x, _, dx, _, rfl, (by rw [upd_ne (Ne.symm nlx)]; exact upd_same), c, T.na_Reading_named_opens, by show 2 < 1000; decide, ?_⟩
    refine ⟨_, rfl, x, _, dx, _, rfl, upd_same, c, T.na_Reading_own_lines, by show 3 < 1000; decide, ?_⟩
    refine kk dp lp _ nd0 nl0 (Ne.symm nld) ?_ ?_ ?_ fun b o nb hb => ?_
    · rw [upd_same]; rfl
    · rw [upd_ne (Ne.symm ndx), upd_ne (Ne.symm ndx), upd_ne (Ne.symm nld), upd_ne (Ne.symm ndx), upd_same]
    · rw [upd_ne nlx, upd_ne nlx, upd_same]
    · have b1 : b ≠ dp := ne_of_none hb nd0
      have b2 : b ≠ lp := ne_of_none hb nl0
      rw [upd_ne nb, upd_ne nb, upd_ne b2, upd_ne nb, upd_ne b1, upd_ne nb]; exact hb
end
end Q

open PySem PySem.Spec PyProof.Rows L2 MT
local macro_rules | `(tactic| walk_at "v") => `(tactic| refine ⟨_, rfl, ?_⟩)
local macro_rules | `(tactic| walk_at "i") => `(tactic| refine ⟨_, _, rfl, rfl, ?_⟩)
local macro_rules | `(tactic| walk_at "vs") => `(tactic| repeat (first | refine ⟨_, rfl, ?_⟩ | refine ⟨_, _, rfl, rfl, ?_⟩))

namespace Q
open DL
/-! ### read, which may raise -/
theorem seq_pre {K : PySem.W.Frag} {E : XK} {a b : M Out} {U : TS} {En : Ends} {h : L2.St → Hp → Prop} {σ : L2.St} {H : Hp} (hu : ∀ σ H, sD K E b { En with nx := h } σ H → U En σ H) (z : sD K E (mSeq a b) { En with nx := h } σ H) : tSeq (sD K E a) U En σ H := by
  obtain ⟨F, G, δ, S, z⟩ := z
  refine ⟨F, G, δ, S, ?_⟩
  have z : PostS K E F G ((a δ).bind fun o δ1 => match o with | .nx => b δ1 | o => .ok o δ1) { En with nx := h } := z
  cases ha : a δ with
  | ok o δ1 =>
    rw [ha] at z
    cases o with
    | nx => exact fun σ' F' H' e S' => hu σ' H' ⟨F', G, δ1, S', PostS.ext e z⟩
    | ret d => exact z
    | bk => exact z
    | ct => exact z
  | err c d δ1 => rw [ha] at z; exact z
  | stuck => rw [ha] at z; exact z
def m_read_pre : M Out := mSeq (mIf (mNot (mTest (mCB isiF (mCons (mVar 0) (mCons (mOk (.ty "str")) mNil))))) (mRaise "BadHall" (mOk (.dat (.int 0)))) mNx) (mSeq (mAsg (mM1 splitF (mVar 0) (mOk (.dat (.str "\n")))) (gN 1)) (mSeq (mAsg (mCall 1 f_people_in [] (mCons (mOp ixF (mVar 1) (mOk (.dat (.int 0)))) mNil)) (gN 2)) (mIf (mOpB isN (mVar 2) (mOk (.dat .none))) (mRaise "BadHall" (mOk (.dat (.int 1)))) mNx)))
def foldX (people : List Str) : List Str → Nat → RSt → Option (Nat ⊕ RSt)
  | [], _, st => some (.inr st)
  | l :: ls, n, st => (takeM people st l).bind fun r => if r.1 = true then foldX people ls (n + 1) r.2 else some (.inl n)
def st0 : RSt := ⟨[], [], 0⟩
def pairsD (ps : List (List Key × Str)) : List (List Key × PyData) := ps.map fun kv => (kv.1, PyData.str kv.2)
theorem toV_dd {K : PySem.W.Frag} {F : Hp} : ∀ ps : List (List Key × Str), DdAll K F ((toV ps).map (·.2)) (ps.map fun kv => PyData.str kv.2)
  | [] => .nil
  | a :: l => .cons (.str _) (toV_dd l)
def readObj (people : List Str) (st : RSt) : D := .obj cR ["named_people", "named_pairs", "named_opens", "own_lines"] [.dat (.tuple (strsD people)), .dit (pairsD st.pairs), .dat (.list (st.opens.map pairD)), .dat (.int (st.lines : Nat))]
def fin (people : List Str) : Nat ⊕ RSt → DL.R D
  | .inl n => .err "BadHall" (.dat (.int (n : Nat)))
  | .inr st => .ok (readObj people st)
def readTail (ls ps : List PyData) : Option (List Str × (Nat ⊕ RSt)) := (strsOf ls).bind fun lines => (strsOf ps).bind fun people => match lines with
  | [] => none
  | _ :: rest => if lines.length ≤ most then (foldX people rest 2 st0).map fun r => (people, r) else none
def readPost (δ : DL.Env) : DL.R D := match δ.length, (δ[1]? : Option SV), (δ[2]? : Option SV) with
  | 6, some (.fz (.dat (.list ls))), some (.fz (.dat (.tuple ps))) => (match readTail ls ps with
    | some (people, r) => fin people r
    | none => .stuck)
  | _, _, _ => .stuck
theorem readPost_eq {δ : DL.Env} (h : readPost δ ≠ .stuck) : ∃ ls ps people r, δ.length = 6 ∧ δ[1]? = some (.fz (.dat (.list ls))) ∧ δ[2]? = some (.fz (.dat (.tuple ps))) ∧ readTail ls ps = some (people, r) ∧ readPost δ = fin people r := by
  unfold readPost at h ⊢
  split at h
  · rename_i ls ps h6 h1 h2
    split at h
    · rename_i people r hd
      exact ⟨ls, ps, people, r, h6, h1, h2, hd, rfl⟩
    · exact absurd rfl h
  · exact absurd rfl h
def f_read : List D → DL.R D := fun ds => match m_read_pre (env0 6 ds) with
  | .ok .nx δ => readPost δ
  | .err c d _ => .err c d
  | _ => .stuck
section
variable {P : Program} {w : World} {K : PySem.W.Frag} {mg : Str → Option Value} {base : Heap} {k : Nat} {f : Addr} {x qual : Str} {params : Arguments} {body : List Stmt} {scope : Scope} {dvs : List V} {kws : List (Str × V)} {fd : FuncData} {N ps : List Str} {sp : Sp}
theorem fn_okX (FF : FunD K x qual params body scope dvs kws f fd) (S : FnScope N ps scope) (len : ∀ vs H Q E, sp vs H Q E → vs.length = ps.length)
    (h : ∀ (cdv : Value) (A : Around) (outer : List PySem.Env) (s : Shared) (H : Hp) (vs : List V) (Q : VK) (E : XK), TkX (cxOf (L2.CX P w) P w K mg base N qual scope f cdv A outer s H E) E → PassesOwn (model P w) (cxOf (L2.CX P w) P w K mg base N qual scope f cdv A outer s H E).A (cxOf (L2.CX P w) P w K mg base N qual scope f cdv A outer s H E).env (cxOf (L2.CX P w) P w K mg base N qual scope f cdv A outer s H E).xe →
      Room k (A.deeper (envOfC qual scope s.heap.objs.size f cdv)) → sp vs H Q E → ∃ t, PSs (cxOf (L2.CX P w) P w K mg base N qual scope f cdv A outer s H E) body t ∧ t { nx := fun _ H' => Q .non H', rt := Q } (L2.start N vs) H) :
    FnOk P w K mg base (L2.CX P w) (k + 1) f fd ps sp :=
  FF.ok S len fun cdv A outer s H vs Q E hr hs => h cdv A outer s H vs Q E tk_of (passes_of rfl) hr hs
end
section
variable {w : World} {K : PySem.W.Frag} {mg : Str → Option Value} {base : Heap}
set_option pp.maxSteps 400 in
theorem ok_read (T : Tx w K mg) : Ok PRG w K mg base (L2.CX PRG w) 4 "read" ["text"] [] (sp0 K 1 f_read) := by
  have O_people_in := ok_people_in (w := w) (base := base) T
  have O_ri := ok_ri (w := w) (base := base) T
  have O_tk := ok_tk (w := w) (base := base) T
  obtain ⟨fd, F⟩ := T.f_read
  refine ⟨⟨fd, [], fn_okX F sc_read (fun vs H Q E h => h.1) (fun cdv A outer s H vs Q E tk pw hr h => ?_), F.bindsN fun _ _ _ _ _ _ us hl => match us, hl with | [_], _ => rfl, .nil⟩, F.kp, T.g_read⟩
  obtain ⟨ln, F0, dd, s0, tb0, r0, q⟩ := h
  refine ⟨_, pss_cons (t := sD K E (mIf (mNot (mTest (mCB isiF (mCons (mVar 0) (mCons (mOk (.ty "str")) mNil))))) (mRaise "BadHall" (mOk (.dat (.int 0)))) mNx)) (ds (ps_if (dt (pt_not (dt (pt_val (dx (pe_callB call_isi (by rfl) T.n_isinstance (by decide +kernel) (da (pa_cons (dx (pv 0) md_var) (da (pa_cons (dx (pe_bty (n := "str") (by rfl) T.n_str (by decide +kernel)) md_ty) (da pa_nil md_nil)) md_cons)) md_cons)) (md_cb rc_isi))) md_test)) md_not) (pss_one (ds (ps_raise rfl tk (pmk_meet T.init T.e_BadHall.1 T.g_BadHall hr rfl (da (pa_cons (dx pe_int md_int) (da pa_nil md_nil)) md_cons))) md_raise)) (dss pss_nil md_nx)) md_ifS) (pss_cons (t := sD K E (mAsg (mM1 splitF (mVar 0) (mOk (.dat (.str "\n")))) (gN 1))) (ds (ps_set (i := 1) sc_read.nd rfl (Or.inl rfl) (dx (dx (pe_split (dx (pv 0) md_var) (dx (pe_cstr rfl T.c_FEED) md_str)) md_split) md_fz)) (md_asg mg_name)) (pss_cons (t := sD K E (mAsg (mCall 1 f_people_in [] (mCons (mOp ixF (mVar 1) (mOk (.dat (.int 0)))) mNil)) (gN 2))) (ds (ps_set (i := 2) sc_read.nd rfl (Or.inl rfl) (dx (pe_callO O_people_in (hr.mono (by decide)) rfl passE (da (pa_cons (dx (pe_ix ix_seq (dx (pv 1) md_var) (dx pe_int md_int) (fun _ _ => rfl)) (md_op ro_ix)) (da pa_nil md_nil)) md_cons)) md_call0)) (md_asg mg_name)) (pss_cons (t := sD K E (mIf (mOpB isN (mVar 2) (mOk (.dat .none))) (mRaise "BadHall" (mOk (.dat (.int 1)))) mNx)) (ds (ps_if (dt (pt_cmpR op_isN (dx (pv 2) md_var) (dx pe_non md_non) (nomark _)) (md_opB ro_isN)) (pss_one (ds (ps_raise rfl tk (pmk_meet T.init T.e_BadHall.1 T.g_BadHall hr rfl (da (pa_cons (dx pe_int md_int) (da pa_nil md_nil)) md_cons))) md_raise)) (dss pss_nil md_nx)) md_ifS) (pss_cons (ps_set (i := 3) sc_read.nd rfl (Or.inl rfl) (pe_makeO O_ri (hr.mono (by decide)) rfl pass0 (pa_cons (pv 2) pa_nil)))
      (pss_cons (ps_for pw rfl (pi_enum (by rfl) T.n_enumerate (pa_cons (pv 1) pa_nil)) (pg_tup rfl (pgs_cons (pg_name (i := 4) sc_read.nd rfl (Or.inl rfl)) (pgs_cons (pg_name (i := 5) sc_read.nd rfl (Or.inl rfl)) pgs_nil))) (pss_one (ps_if (PW.pt (pw_and (pt_cmpR op_gt (pv 4) pe_int (nomark _)) (pw_and1 (pt_not (pt_val (pe_methO O_tk (hr.mono (by decide)) pass0 (pv 3) (pa_cons (pv 5) pa_nil))))))) (pss_one (ps_raise rfl tk (pmk_meet T.init T.e_BadHall.1 T.g_BadHall hr rfl (pa_cons (pe_op op_add (pv 4) pe_int) pa_nil)))) pss_nil)))
      (pss_one (ps_ret (pv 3)))))))), ?_⟩
  refine seq_pre (fun σ H z => seq_pre (fun σ H z => seq_pre (fun σ H z => z) z) z) ⟨F0, ⟨MT.noT H, 0⟩, env0 6 dd, start_SR s0 tb0 r0, ?_⟩
  show PostS K E F0 ⟨MT.noT H, 0⟩ (m_read_pre (env0 6 dd)) _
  unfold f_read at q
  cases hm : m_read_pre (env0 6 dd) with
  | stuck => rw [hm] at q; exact q.elim
  | err c d δ =>
    rw [hm] at q
    exact fun σ' dx v F' H' x S hd rr => q dx v F' H' x S.fh S.gh S.tb hd rr
  | ok o δ =>
  rw [hm] at q
  cases o with
  | ret d => exact q.elim
  | bk => exact q.elim
  | ct => exact q.elim
  | nx =>
  dsimp only at q
  by_cases hns : readPost δ = .stuck
  · rw [hns] at q; exact q.elim
  obtain ⟨ls, ps, people0, res, h6, h1, h2, hd, hpost⟩ := readPost_eq hns
  rw [hpost] at q
  unfold readTail at hd
  cases hl : strsOf ls with
  | none => rw [hl] at hd; cases hd
  | some lines =>
  cases hp : strsOf ps with
  | none => rw [hl, hp] at hd; cases hd
  | some people =>
  rw [hl, hp] at hd
  simp only [Option.bind_some] at hd
  cases lines with
  | nil => cases hd
  | cons l0 rest =>
  dsimp only at hd
  by_cases hz : (l0 :: rest).length ≤ most
  case neg => rw [if_neg hz] at hd; cases hd
  rw [if_pos hz] at hd
  cases hf : foldX people rest 2 st0 with
  | none => rw [hf] at hd; cases hd
  | some res0 =>
  rw [hf] at hd
  simp only [Option.map_some, Option.some.injEq, Prod.mk.injEq] at hd
  obtain ⟨rfl, e8⟩ := hd
  rw [e8] at hf
  intro σ F1 H1 x1 S1
  obtain ⟨u1, e1, rl⟩ := S1.sl 1 _ h1
  obtain ⟨u2, e2, rp⟩ := S1.sl 2 _ h2
  have sl : σ.length = 6 := S1.len.trans h6
  cases rl.dd with
  | @lst la vs _ hla dla =>
  cases rp.dd with
  | @tup tp us _ htp dtp =>
  have evs := strs_rel hl dla
  have eus := strs_rel hp dtp
  subst evs eus
  refine ⟨_, e2, fun x dx nx nd ne => ?_⟩
  refine ⟨x, dx, tp, rfl, upd_same, fun dp lp H2 ndp nlp hdl hx hd hlp hk => ⟨rfl, ?_⟩⟩
  have nx1 : ∀ b, (upd (upd H1 dx (.own x)) x (.ins (He.ga K cR) dx [])) b = none → H1 b = none := fun b hb => by
    by_cases e : b = x
    · rw [e]; exact nx
    · rw [upd_ne e] at hb
      by_cases e' : b = dx
      · rw [e']; exact nd
      · rw [upd_ne e'] at hb; exact hb
  have keep : Same H1 H2 := fun b o hb => hk b o (ne_of_none hb nx) (by rw [upd_ne (ne_of_none hb nx), upd_ne (ne_of_none hb nd)]; exact hb)
  have n1 := nx1 _ ndp
  have n2 := nx1 _ nlp
  have xd : x ≠ dp := fun e => by rw [e] at hx; rw [hd] at hx; cases hx
  have xl : x ≠ lp := fun e => by rw [e] at hx; rw [hlp] at hx; cases hx
  have r : Rd K (MT.noT H1) F1 H2 x dx dp lp tp [] people st0 := ⟨hx, hd, hlp, Same.free S1.fh nx, Same.free S1.fh n1, Same.free S1.fh n2, xd, xl, hdl, S1.fh.trans keep, MT.noT_none nx, MT.noT_none n1, MT.noT_none n2, MT.noT_same.trans keep, htp, .nil, S1.tb.ext keep, (fun b ps z => (MT.noT_to z).2 ps rfl), S1.fn⟩
  have s3 : (σ.set 3 (some (V.ref x)))[3]? = some (some (V.ref x)) := by simp [sl]
  have s1 : (σ.set 3 (some (V.ref x)))[1]? = some (some (V.ref la)) := by simpa using e1
  have sl' : (σ.set 3 (some (V.ref x))).length = 6 := by simpa using sl
  refine ⟨_, s1, _, _, rfl, SqL.of ((S1.fh.trans keep) _ _ hla), ?_⟩
  refine for_it (walk_enum (K := K) (a := la) (xs := (l0 :: rest).map V.str)) (fun i σ Hx => σ[3]? = some (some (V.ref x)) ∧ σ.length = 6 ∧ ∃ B ovs st, Ext F1 (MT.noT H1) B ∧ Rd K (MT.noT H1) B Hx x dx dp lp tp ovs people st ∧ foldX people (rest.drop (i - 1)) (i - 1 + 2) st = some res) ⟨s3, sl', F1, [], st0, Ext.refl _ _, r, hf⟩ (fun i σ Hx _ ⟨_, _, B, ovs, st, eb, rb, _⟩ => SqL.of (rb.sm _ _ (eb.same _ _ hla))) ?_ ?_
  · rintro i v σ Hx Hy hi ⟨t3, tl, B, ovs, sti, eb, rb, hfi⟩ ⟨T0, x1, x2, rfl, nT, rfl, ei, e3⟩
    cases ei
    rw [List.length_map] at hi
    dsimp only at e3
    rw [List.getElem?_map, List.getElem?_eq_getElem hi] at e3
    cases e3
    have rb := rb.grow (same_new (u := .tup [.int (i : Nat), .str (l0 :: rest)[i]]) nT)
    refine ⟨T0, _, rfl, .inl (.inl upd_same), rfl, _, _, rfl, _, _, rfl, rfl, ?_⟩
    have t3' : ((σ.set 4 (some (V.int (i : Nat)))).set 5 (some (V.str (l0 :: rest)[i])))[3]? = some (some (V.ref x)) := by simpa using t3
    have t4' : ((σ.set 4 (some (V.int (i : Nat)))).set 5 (some (V.str (l0 :: rest)[i])))[4]? = some (some (V.int (i : Nat))) := by simp [tl]
    have t5' : ((σ.set 4 (some (V.int (i : Nat)))).set 5 (some (V.str (l0 :: rest)[i])))[5]? = some (some (V.str (l0 :: rest)[i])) := by simp [tl]
    have tl' : ((σ.set 4 (some (V.int (i : Nat)))).set 5 (some (V.str (l0 :: rest)[i]))).length = 6 := by simpa using tl
    generalize (σ.set 4 (some (V.int (i : Nat)))).set 5 (some (V.str (l0 :: rest)[i])) = σ2 at t3' t4' t5' tl' ⊢
    refine ⟨_, t4', _, _, rfl, rfl, _, rfl, ?_⟩
    cases i with
    | zero => exact ite_no (by decide) (iteF ⟨t3', tl', B, ovs, sti, eb, rb, hfi⟩)
    | succ i =>
      refine ite_yes (by omega) ?_
      have hi2 : i < rest.length := by simpa using hi
      replace hfi : foldX people (rest.drop i) (i + 2) sti = some res := hfi
      rw [List.drop_eq_getElem_cons hi2, foldX] at hfi
      cases ht : takeM people sti rest[i] with
      | none => rw [ht] at hfi; cases hfi
      | some r =>
        rw [ht] at hfi
        simp only [Option.bind_some] at hfi
        obtain ⟨b, st'⟩ := r
        refine ⟨_, t3', x, dx, _, rfl, rb.op, rfl, _, t5', ?_⟩
        refine ⟨MT.noT H1, B, x, dx, dp, lp, tp, ovs, people, sti, rest[i], b, st', rfl, rb, ht, fun B' H' ovs' eb' rb' => ⟨_, rfl, ?_⟩⟩
        cases b with
        | false =>
          rw [if_neg (by simp)] at hfi
          cases hfi
          refine iteT ?_
          refine ⟨_, t4', _, _, rfl, rfl, _, rfl, fun d nd => ?_⟩
          have q : ∀ dx v F' H', DL.Ext F0 (MT.noT H) F' → Same F' H' → Same (MT.noT H) H' → MT.LamT K H' → F' dx = some (xdV v) → Rl K F' v (.dat (.int ((i + 2 : Nat) : Int))) → E (.ref (He.ga K "BadHall")) (some dx) H' := q
          have nB : B' d = none := Same.free rb'.sm nd
          have hgT : ∀ b o, MT.noT H b = some o → MT.noT H1 b = some o := fun b o e => MT.noT_of (S1.gh b o e) (MT.noT_to e).2
          have hb : ∀ b, MT.noT H b ≠ none → MT.noT H1 b ≠ none := fun b n z => by
            cases e : MT.noT H b with
            | none => exact n e
            | some o => rw [hgT b o e] at z; cases z
          have sB : Same B' (upd B' d (xdV (.int (((i + 1 : Nat) : Int) + 1)))) := same_new nB
          have eB := eb.trans eb'
          refine q d (.int (((i + 1 : Nat) : Int) + 1)) (upd B' d (xdV (.int (((i + 1 : Nat) : Int) + 1)))) _ ⟨fun b o h => sB b o (eB.same _ _ (x1.same _ _ h)), fun b n => ?_, fun _ => ?_⟩ (fun b o h => ?_) (fun b o h => same_new nd b o (rb'.sz b o (hgT b o h))) (rb'.tb.ext (same_new nd)) upd_same ?_
          · have n1 : MT.noT H1 b ≠ none := hb b n
            have b1 : b ≠ d := fun e => n1 (Same.free rb'.sz (e ▸ nd))
            rw [upd_ne b1, eB.off b n1, x1.off b n]
          · intro b ps h
            by_cases e1 : b = d
            · rw [e1, upd_same] at h; cases h
            · rw [upd_ne e1] at h; exact rb'.bn b ps h
          · by_cases e1 : b = d
            · rw [e1, upd_same] at h; rw [e1, upd_same]; exact h
            · rw [upd_ne e1] at h; rw [upd_ne e1]; exact rb'.sm _ _ h
          · have e : (((i + 1 : Nat) : Int) + 1) = ((i + 2 : Nat) : Int) := by omega
            rw [e]
            exact .dat (.int _)
        | true =>
          rw [if_pos rfl] at hfi
          exact iteF ⟨t3', tl', B', ovs', st', eb.trans eb', rb', hfi⟩
  · rintro σ Hx ⟨t3, tl, B, ovs, sti, eb, rb, hfi⟩
    rw [List.length_map, List.length_cons, Nat.add_sub_cancel, List.drop_length, foldX] at hfi
    cases hfi
    refine ⟨_, t3, ?_⟩
    have hgT : ∀ b o, MT.noT H b = some o → MT.noT H1 b = some o := fun b o e => MT.noT_of (S1.gh b o e) (MT.noT_to e).2
    have hb : ∀ b, MT.noT H b ≠ none → MT.noT H1 b ≠ none := fun b n z => by
      cases e : MT.noT H b with
      | none => exact n e
      | some o => rw [hgT b o e] at z; cases z
    have ox := rb.op
    have od := rb.od
    have ol := rb.ol
    have sB : ∀ b o, B b = some o → (upd (upd (upd B x (.ins (He.ga K cR) dx (fldsR tp dp lp sti.lines))) dp (.dT (toV sti.pairs))) lp (.lst ovs)) b = some o := fun b o h => by
      rw [upd_ne (ne_of_none h rb.bl), upd_ne (ne_of_none h rb.bd), upd_ne (ne_of_none h rb.bp)]; exact h
    refine q (.ref x) (upd (upd (upd B x (.ins (He.ga K cR) dx (fldsR tp dp lp sti.lines))) dp (.dT (toV sti.pairs))) lp (.lst ovs)) Hx ⟨fun b o h => sB b o (eb.same _ _ (x1.same _ _ h)), fun b n => ?_, fun _ => ?_⟩ (fun b o h => ?_) (fun b o h => rb.sz b o (hgT b o h)) rb.tb ?_
    · have n1 : MT.noT H1 b ≠ none := hb b n
      have b1 : b ≠ x := fun e => n1 (by rw [e]; exact MT.noT_none nx)
      have b2 : b ≠ dp := fun e => n1 (by rw [e]; exact rb.zd)
      have b3 : b ≠ lp := fun e => n1 (by rw [e]; exact rb.zl)
      rw [upd_ne b3, upd_ne b2, upd_ne b1, eb.off b n1, x1.off b n]
    · intro b ps h
      by_cases e3 : b = lp
      · rw [e3, upd_same] at h; cases h
      · rw [upd_ne e3] at h
        by_cases e2 : b = dp
        · rw [e2, upd_same] at h; cases h
        · rw [upd_ne e2] at h
          by_cases e1 : b = x
          · rw [e1, upd_same] at h; cases h
          · rw [upd_ne e1] at h; exact rb.bn b ps h
    · by_cases e3 : b = lp
      · rw [e3, upd_same] at h; rw [e3, ol]; exact h
      · rw [upd_ne e3] at h
        by_cases e2 : b = dp
        · rw [e2, upd_same] at h; rw [e2, od]; exact h
        · rw [upd_ne e2] at h
          by_cases e1 : b = x
          · rw [e1, upd_same] at h; rw [e1, ox]; exact h
          · rw [upd_ne e1] at h; exact rb.sm _ _ h
    · refine Rl.obj (fs := fldsR tp dp lp sti.lines) (dx := dx) (by rw [upd_ne rb.pl, upd_ne rb.pd, upd_same]) ?_
      refine .cons (.dat (.tup (rb.tu.same sB) (dd_strsD _))) (.cons ?_ (.cons (.dat (.lst upd_same (rb.os.same sB))) (.cons (.dat (.int _)) .nil)))
      have e : pairsD sti.pairs = ((toV sti.pairs).map (·.1)).zip (sti.pairs.map fun kv => PyData.str kv.2) := by
        unfold pairsD toV
        rw [List.map_map]
        generalize sti.pairs = l
        induction l with
        | nil => rfl
        | cons a l ih => simp only [List.map_cons, List.zip_cons_cons, ← ih]; rfl
      rw [e]
      exact .dit (by rw [upd_ne rb.dl]; exact upd_same) (toV_dd _)
end
end Q

open PySem PySem.Spec PyProof.Rows L2 MT
local macro_rules | `(tactic| walk_at "v") => `(tactic| refine ⟨_, rfl, ?_⟩)
local macro_rules | `(tactic| walk_at "i") => `(tactic| refine ⟨_, _, rfl, rfl, ?_⟩)
local macro_rules | `(tactic| walk_at "vs") => `(tactic| repeat (first | refine ⟨_, rfl, ?_⟩ | refine ⟨_, _, rfl, rfl, ?_⟩))

namespace Q
open DL
section
variable {w : World} {K : PySem.W.Frag} {mg : Str → Option Value} {base : Heap}
def m_Hall__init : M Out :=
  (mSeq (mAsg (mCall 1 f_read [] (mCons (mVar 1) mNil)) (gN 2))
  (mSeq (mSetA "Hall" "own_text" 0 (mVar 1))
  (mSeq (mSetA "Hall" "own_people" 0 (mFld "Reading" "named_people" (mVar 2)))
  (mSeq (mSetA "Hall" "own_pairs" 0 (mFld "Reading" "named_pairs" (mVar 2)))
  (mSetA "Hall" "own_opens" 0 (mCB tupleF (mCons (mFld "Reading" "named_opens" (mVar 2)) mNil)))))))
def f_Hall__init : D → List D → R (D × D) := sem1x m_Hall__init 3
theorem ok_Hall__init (T : Tx w K mg) : OkI PRG w K mg base (L2.CX PRG w) 5 "Hall" ["self", "text"] [] (sp1 K 1 f_Hall__init) := by
  have O_read := ok_read (w := w) (base := base) T
  obtain ⟨fd, F⟩ := T.f_Hall__init
  exact ⟨⟨fd, _, fn_data1X rfl F sc_Hall__init m_Hall__init (fun cdv A outer s H E tk pw hr => (dss (pss_cons (ds (ps_set (i := 2) sc_Hall__init.nd rfl (Or.inl rfl) (dx (pe_callO O_read (hr.mono (by decide)) rfl (passX tk) (da (pa_cons (dx (pv 1) md_var) (da pa_nil md_nil)) md_cons)) md_call0)) (md_asg mg_name))
      (dss (pss_cons (ds (ps_fld (pv 0) (dx (pv 1) md_var) rfl) (md_setA T.cl_Hall T.na_Hall_own_text))
      (dss (pss_cons (ds (ps_fld (pv 0) (dx (pe_fld (dx (pv 2) md_var) rfl) (md_fld T.cl_Reading T.na_Reading_named_people)) rfl) (md_setA T.cl_Hall T.na_Hall_own_people))
      (dss (pss_cons (ds (ps_fld (pv 0) (dx (pe_fld (dx (pv 2) md_var) rfl) (md_fld T.cl_Reading T.na_Reading_named_pairs)) rfl) (md_setA T.cl_Hall T.na_Hall_own_pairs))
      (pss_one (ds (ps_fld (pv 0) (dx (pe_callTy call_tupleS (by rfl) T.n_tuple (by decide +kernel) (da (pa_cons (dx (pe_fld (dx (pv 2) md_var) rfl) (md_fld T.cl_Reading T.na_Reading_named_opens)) (da pa_nil md_nil)) md_cons)) (md_cb rc_tuple)) rfl) (md_setA T.cl_Hall T.na_Hall_own_opens)))) md_seq)) md_seq)) md_seq)) md_seq)), F.bindsN fun _ _ _ _ _ _ us hl => match us, hl with | [_, _], _ => rfl, .nil⟩, T.mk_Hall, T.g_Hall⟩

end
end Q

open PySem PySem.Spec PyProof.Rows L2 MT
local macro_rules | `(tactic| walk_at "v") => `(tactic| refine ⟨_, rfl, ?_⟩)
local macro_rules | `(tactic| walk_at "i") => `(tactic| refine ⟨_, _, rfl, rfl, ?_⟩)
local macro_rules | `(tactic| walk_at "vs") => `(tactic| repeat (first | refine ⟨_, rfl, ?_⟩ | refine ⟨_, _, rfl, rfl, ?_⟩))

namespace Q
open DL LamX
/-! ### the law's own looks -/
section
variable {w : World} {K : PySem.W.Frag} {mg : Str → Option Value} {base : Heap}
def m_l_is_refused : M Out :=
  (mSeq (mAsg (mOp ixW (mTold errs (mMakeX "Hall" 1 f_Hall__init [] (mCons (mM1 joinF (mOk (.dat (.str "\n"))) (mVar 0)) mNil))) (mOk (.dat (.int 0)))) (gN 2))
  (mRet (mAndV (mCB (isiX errs clss) (mCons (mVar 2) (mCons (mOk (.cls "BadHall")) mNil))) (mOp (fun x y => boD (eqB x y)) (mCB reprF (mCons (mUn (errVF errs) (mVar 2)) mNil)) (mCB reprF (mCons (mVar 1) mNil))))))
def f_l_is_refused : List D → R D := fun ds => noX (outR (m_l_is_refused (env0 3 ds)))
theorem ok_l_is_refused (T : Tx w K mg) (TB : TBs K mg base) : OkG PRG w K mg base CX0 9 "_law_is_refused" ["_law_rows", "_law_number"] [] (sp0 K 2 f_l_is_refused) := by
  have O_Hall__init := ok_Hall__init (w := w) (base := base) T
  obtain ⟨fdt, Ft⟩ := T.f_l_told
  have Bt : L2.Binds K fdt ["_law_look"] [] := Ft.bindsN fun _ _ _ _ _ _ us hl => match us, hl with | [_], _ => rfl
  obtain ⟨fd, F⟩ := T.f_l_is_refused
  exact ⟨⟨fd, [], fn_dataGL _ rfl rfl F sc_l_is_refused (noX_ne _) ⟨m_l_is_refused, fun A outer s H E hG hr => (dss (pss_cons (ds (ps_set (i := 2) sc_l_is_refused.nd rfl (Or.inl rfl) (dx (pe_ix ix_seq (dx (pe_lamD (TT := TTold2 K (He.ga K "MeetError")) (k := 6) (Ng := N_l_told) (t := fun E' => tD K E' (mMakeX "Hall" 1 f_Hall__init [] (mCons (mM1 joinF (mOk (.dat (.str "\n"))) (mVar 0)) mNil))) (("_law_is_refused", none), "_law_is_refused.<locals>.<lambda>") (by decide +kernel) TB T.ndt (show (("_law_is_refused" : Str) ++ ".<locals>." ++ "<lambda>") = ("_law_is_refused.<locals>.<lambda>" : Str) from by decide +kernel) rfl T.g_l_told Ft Bt sc_l_told rfl (Or.inl rfl) (fun _ => told_gives T.g_MeetError) rfl (hr.mono (by decide)) (lamS_by (show lamSB (defScope s_l_is_refused) _ = true from by decide +kernel)) rfl (fun _ _ _ _ _ => rfl) (fun A outer s H E f c' hr => (dx (dx (pe_makeO O_Hall__init (hr.mono (by decide)) rfl (passX tk_lam) (da (pa_cons (dx (pe_join (dx pe_str md_str) (dx (pv 0) md_var)) md_join) (da pa_nil md_nil)) md_cons)) md_makeX0) md_fz))) (md_told fun c hc => T.exm hc)) (dx pe_int md_int) (fun _ _ => rfl)) (md_op ro_ixW))) (md_asg mg_name))
      (pss_one (ds (ps_ret (dx (pe_and (dx (pe_callB call_isX (by rfl) T.n_isinstance (by decide +kernel) (da (pa_cons (dx (pv 2) md_var) (da (pa_cons (dx (pe_obj rfl T.g_BadHall) md_cls) (da pa_nil md_nil)) md_cons)) md_cons)) (md_cb (rc_isiX T.isx))) (pe_one (dx (pe_cmpR (op_eqD hr.units) (dx (pe_callB (call_reprD T.sys hG hr) (by rfl) T.n_repr (by decide +kernel) (da (pa_cons (dx (pe_errF (dx (pv 2) md_var)) (md_errF T.isx)) (da pa_nil md_nil)) md_cons)) (md_cb rc_repr)) (dx (pe_callB (call_reprD T.sys hG hr) (by rfl) T.n_repr (by decide +kernel) (da (pa_cons (dx (pv 1) md_var) (da pa_nil md_nil)) md_cons)) (md_cb rc_repr)) (nomark _)) (md_op ro_eq)))) md_andV)) md_ret))) md_seq), le_noX⟩, F.bindsN fun _ _ _ _ _ _ us hl => match us, hl with | [_, _], _ => rfl, .nil⟩, F.kp, T.g_l_is_refused⟩

def m_l_is_let : M Out :=
  (mSeq (mAsg (mTold errs (mMakeX "Hall" 1 f_Hall__init [] (mCons (mM1 joinF (mOk (.dat (.str "\n"))) (mVar 0)) mNil))) (gT 2 (gsCons (gN 1) (gsCons (gN 2) gsNil))))
  (mRet (mAndV (mOp (fun x y => boD (isN x y)) (mVar 1) (mOk (.dat .none))) (mOp (fun x y => boD (eqB x y)) (mProp "Hall" f_Hall_text (mVar 2)) (mM1 joinF (mOk (.dat (.str "\n"))) (mVar 0))))))
def f_l_is_let : List D → R D := fun ds => noX (outR (m_l_is_let (env0 3 ds)))
theorem ok_l_is_let (T : Tx w K mg) (TB : TBs K mg base) : Ok PRG w K mg base CX0 9 "_law_is_let" ["_law_rows"] [] (sp0 K 1 f_l_is_let) := by
  have O_Hall_text := ok_Hall_text (w := w) (base := base) T
  have O_Hall__init := ok_Hall__init (w := w) (base := base) T
  obtain ⟨fdt, Ft⟩ := T.f_l_told
  have Bt : L2.Binds K fdt ["_law_look"] [] := Ft.bindsN fun _ _ _ _ _ _ us hl => match us, hl with | [_], _ => rfl
  obtain ⟨fd, F⟩ := T.f_l_is_let
  exact ⟨⟨fd, [], fn_dataL _ rfl rfl F sc_l_is_let (noX_ne _) ⟨m_l_is_let, fun A outer s H E hr => (dss (pss_cons (ds (ps_asg (dx (pe_lamD (TT := TTold2 K (He.ga K "MeetError")) (k := 6) (Ng := N_l_told) (t := fun E' => tD K E' (mMakeX "Hall" 1 f_Hall__init [] (mCons (mM1 joinF (mOk (.dat (.str "\n"))) (mVar 0)) mNil))) (("_law_is_let", none), "_law_is_let.<locals>.<lambda>") (by decide +kernel) TB T.ndt (show (("_law_is_let" : Str) ++ ".<locals>." ++ "<lambda>") = ("_law_is_let.<locals>.<lambda>" : Str) from by decide +kernel) rfl T.g_l_told Ft Bt sc_l_told rfl (Or.inl rfl) (fun _ => told_gives T.g_MeetError) rfl (hr.mono (by decide)) (lamS_by (show lamSB (defScope s_l_is_let) _ = true from by decide +kernel)) rfl (fun _ _ _ _ _ => rfl) (fun A outer s H E f c' hr => (dx (dx (pe_makeO O_Hall__init (hr.mono (by decide)) rfl (passX tk_lam) (da (pa_cons (dx (pe_join (dx pe_str md_str) (dx (pv 0) md_var)) md_join) (da pa_nil md_nil)) md_cons)) md_makeX0) md_fz))) (md_told fun c hc => T.exm hc)) (pg_tup rfl (pgs_cons (pg_name (i := 1) sc_l_is_let.nd rfl (Or.inl rfl)) (pgs_cons (pg_name (i := 2) sc_l_is_let.nd rfl (Or.inl rfl)) pgs_nil)))) (md_asg (mg_tup (mgs_cons mg_name (mgs_cons mg_name mgs_nil)))))
      (pss_one (ds (ps_ret (dx (pe_and (dx (pe_cmpR op_isN (dx (pv 1) md_var) (dx pe_non md_non) (nomark _)) (md_op ro_isN)) (pe_one (dx (pe_cmpR (op_eqD hr.units) (dx (pe_propO O_Hall_text (hr.mono (by decide)) pass0 (dx (pv 2) md_var) (by rfl)) md_prop) (dx (pe_join (dx pe_str md_str) (dx (pv 0) md_var)) md_join) (nomark _)) (md_op ro_eq)))) md_andV)) md_ret))) md_seq), le_noX⟩, F.bindsN fun _ _ _ _ _ _ us hl => match us, hl with | [_], _ => rfl, .nil⟩, F.kp, T.g_l_is_let⟩

end
end Q

open PySem PySem.Spec PyProof.Rows L2 MT
local macro_rules | `(tactic| walk_at "v") => `(tactic| refine ⟨_, rfl, ?_⟩)
local macro_rules | `(tactic| walk_at "i") => `(tactic| refine ⟨_, _, rfl, rfl, ?_⟩)
local macro_rules | `(tactic| walk_at "vs") => `(tactic| repeat (first | refine ⟨_, rfl, ?_⟩ | refine ⟨_, _, rfl, rfl, ?_⟩))

namespace Q
open DL
section
variable {w : World} {K : PySem.W.Frag} {mg : Str → Option Value} {base : Heap}
def m_l_right : M Out :=
  (mSeq (mAsg (mCallP 1 f_l_names 0 (mCons (mOk (.dat (.int 10))) mNil)) (gN 1))
  (mSeq (mPar [2, 3] (mConsF (mOp sAdd (mOk (.dat (.str "people "))) (mM1 joinF (mOk (.dat (.str " "))) (mSl slL (mVar 1) (mOk none) (mPart (mOk (.dat (.int 9))))))) (mConsF (mCall 1 f_l_pairs [] (mCons (mSl slL (mVar 1) (mOk none) (mPart (mOk (.dat (.int 9))))) mNil)) mNilO)))
  (mSeq (mAsg (mLc [5, 6] (mItL (mSl slL (mVar 3) (mOk none) (mPart (mOk (.dat (.int 20)))))) (gT 2 (gsCons (gN 5) (gsCons (gN 6) gsNil))) mYes (mOp sAdd (mOp sAdd (mOp sAdd (mOk (.dat (.str "met "))) (mVar 5)) (mOk (.dat (.str " ")))) (mVar 6))) (gN 4))
  (mSeq (mAsg (mLc [5, 6] (mItL (mSl slL (mVar 3) (mPart (mOk (.dat (.int 20)))) (mPart (mOk (.dat (.int 24)))))) (gT 2 (gsCons (gN 5) (gsCons (gN 6) gsNil))) mYes (mOp sAdd (mOp sAdd (mOp sAdd (mOk (.dat (.str "open "))) (mVar 5)) (mOk (.dat (.str " ")))) (mVar 6))) (gN 7))
  (mSeq (mSetF 8 (mLst (mCons (mOp lCat (mOp lCat (mLst (mCons (mVar 2) mNil)) (mVar 4)) (mVar 7)) (mCons (mLst (mCons (mVar 2) mNil)) (mCons (mLst (mCons (mOp sAdd (mOk (.dat (.str "people "))) (mOp ixF (mVar 1) (mOk (.dat (.int 0))))) mNil)) (mCons (mLst (mCons (mVar 2) (mCons (mOp sAdd (mOk (.dat (.str "met "))) (mM1 joinF (mOk (.dat (.str " "))) (mSl slL (mVar 1) (mOk none) (mPart (mOk (.dat (.int 9))))))) mNil))) (mCons (mOp lCat (mLst (mCons (mVar 2) mNil)) (mVar 7)) mNil)))))))
  (mSeq (mDrop (mExt 8 (mCons (mLst (mCons (mOp lCat (mLst (mCons (mVar 2) mNil)) (mOp lRep (mSl slL (mVar 4) (mOk none) (mPart (mOk (.dat (.int 1))))) (mOk (.dat (.int 20))))) (mCons (mLst (mCons (mOk (.dat (.str "people abcdefgh z"))) mNil)) (mCons (mOp lCat (mOp lCat (mOp lCat (mLst (mCons (mVar 2) mNil)) (mSl slL (mVar 4) (mOk none) (mPart (mOk (.dat (.int 1)))))) (mSl slL (mVar 4) (mOk none) (mPart (mOk (.dat (.int 1)))))) (mSl slL (mVar 7) (mOk none) (mPart (mOk (.dat (.int 1)))))) mNil)))) mNil)))
  (mSeq (mIf (mNot (mTest (mCB allF (mCons (mLc [9] (mItL (mVar 8)) (gN 9) mYes (mCall 1 f_l_is_let [] (mCons (mVar 9) mNil))) mNil)))) (mRet (mOk (.dat (.bool false)))) mNx)
  (mSeq (mSetF 10 (mLst (mCons (mTup (mCons (mLst (mCons (mOp sAdd (mOk (.dat (.str "people "))) (mM1 joinF (mOk (.dat (.str " "))) (mVar 1))) mNil)) (mCons (mOk (.dat (.int 1))) mNil))) (mCons (mTup (mCons (mOp lCat (mOp lCat (mLst (mCons (mVar 2) mNil)) (mVar 4)) (mSl slL (mVar 4) (mOk none) (mPart (mOk (.dat (.int 1)))))) (mCons (mOk (.dat (.int 22))) mNil))) (mCons (mTup (mCons (mLst (mCons (mOk (.dat (.str "people"))) mNil)) (mCons (mOk (.dat (.int 1))) mNil))) (mCons (mTup (mCons (mLst (mCons (mOk (.dat (.str ""))) mNil)) (mCons (mOk (.dat (.int 1))) mNil))) (mCons (mTup (mCons (mVar 4) (mCons (mOk (.dat (.int 1))) mNil))) mNil)))))))
  (mSeq (mDrop (mApp 10 (mCons (mTup (mCons (mOp lCat (mOp lCat (mLst (mCons (mVar 2) mNil)) (mVar 7)) (mLst (mCons (mOp sAdd (mOp sAdd (mOp sAdd (mOk (.dat (.str "open "))) (mOp ixF (mOp ixF (mVar 3) (mOk (.dat (.int 30)))) (mOk (.dat (.int 1))))) (mOk (.dat (.str " ")))) (mOp ixF (mOp ixF (mVar 3) (mOk (.dat (.int 30)))) (mOk (.dat (.int 0))))) mNil))) (mCons (mOk (.dat (.int 6))) mNil))) mNil)))
  (mSeq (mDrop (mExt 10 (mCons (mLst (mCons (mTup (mCons (mOp lCat (mOp lCat (mLst (mCons (mVar 2) mNil)) (mVar 4)) (mOp lRep (mSl slL (mVar 7) (mOk none) (mPart (mOk (.dat (.int 1))))) (mOk (.dat (.int 2))))) (mCons (mOk (.dat (.int 23))) mNil))) (mCons (mTup (mCons (mOp lCat (mOp lCat (mLst (mCons (mVar 2) mNil)) (mSl slL (mVar 7) (mOk none) (mPart (mOk (.dat (.int 1)))))) (mSl slL (mVar 4) (mOk none) (mPart (mOk (.dat (.int 1)))))) (mCons (mOk (.dat (.int 3))) mNil))) (mCons (mTup (mCons (mOp lCat (mOp lCat (mLst (mCons (mVar 2) mNil)) (mSl slL (mVar 4) (mOk none) (mPart (mOk (.dat (.int 1)))))) (mLst (mCons (mVar 2) mNil))) (mCons (mOk (.dat (.int 3))) mNil))) mNil)))) mNil)))
  (mSeq (mDrop (mApp 10 (mCons (mTup (mCons (mLst (mCons (mVar 2) (mCons (mOp ixF (mVar 4) (mOk (.dat (.int 0)))) (mCons (mOp sAdd (mOp sAdd (mOp sAdd (mOk (.dat (.str "open "))) (mOp ixF (mOp ixF (mVar 3) (mOk (.dat (.int 0)))) (mOk (.dat (.int 1))))) (mOk (.dat (.str " ")))) (mOp ixF (mOp ixF (mVar 3) (mOk (.dat (.int 0)))) (mOk (.dat (.int 0))))) mNil)))) (mCons (mOk (.dat (.int 3))) mNil))) mNil)))
  (mSeq (mDrop (mApp 10 (mCons (mTup (mCons (mOp lCat (mOp lCat (mLst (mCons (mVar 2) mNil)) (mSl slL (mVar 7) (mOk none) (mPart (mOk (.dat (.int 1)))))) (mLst (mCons (mOp sAdd (mOp sAdd (mOp sAdd (mOk (.dat (.str "open "))) (mOp ixF (mOp ixF (mVar 3) (mOk (.dat (.int 20)))) (mOk (.dat (.int 1))))) (mOk (.dat (.str " ")))) (mOp ixF (mOp ixF (mVar 3) (mOk (.dat (.int 20)))) (mOk (.dat (.int 0))))) mNil))) (mCons (mOk (.dat (.int 3))) mNil))) mNil)))
  (mSeq (mFor (mItT (mTup (mCons (mOp sAdd (mOk (.dat (.str "met "))) (mOp ixF (mVar 1) (mOk (.dat (.int 0))))) (mCons (mOp sAdd (mOp sAdd (mOp sAdd (mOk (.dat (.str "met "))) (mOp ixF (mVar 1) (mOk (.dat (.int 0))))) (mOk (.dat (.str " ")))) (mOp ixF (mVar 1) (mOk (.dat (.int 9))))) (mCons (mOp sAdd (mOp sAdd (mOp sAdd (mOk (.dat (.str "met "))) (mOp ixF (mVar 1) (mOk (.dat (.int 0))))) (mOk (.dat (.str " ")))) (mOp ixF (mVar 1) (mOk (.dat (.int 0))))) (mCons (mOk (.dat (.str "met"))) (mCons (mOk (.dat (.str ""))) mNil))))))) (gN 11) (mDrop (mApp 10 (mCons (mTup (mCons (mLst (mCons (mVar 2) (mCons (mVar 11) mNil))) (mCons (mOk (.dat (.int 2))) mNil))) mNil))))
  (mSeq (mFor (mItT (mTup (mCons (mOp sAdd (mOk (.dat (.str "open "))) (mOp ixF (mVar 1) (mOk (.dat (.int 0))))) (mCons (mOp sAdd (mOp sAdd (mOp sAdd (mOk (.dat (.str "open "))) (mOp ixF (mVar 1) (mOk (.dat (.int 0))))) (mOk (.dat (.str " ")))) (mOp ixF (mVar 1) (mOk (.dat (.int 0))))) (mCons (mOp sAdd (mOk (.dat (.str "open "))) (mM1 joinF (mOk (.dat (.str " "))) (mSl slL (mVar 1) (mOk none) (mPart (mOk (.dat (.int 3))))))) (mCons (mOk (.dat (.str "Met a b"))) mNil)))))) (gN 11) (mDrop (mApp 10 (mCons (mTup (mCons (mLst (mCons (mVar 2) (mCons (mVar 11) mNil))) (mCons (mOk (.dat (.int 2))) mNil))) mNil))))
  (mSeq (mFor (mItT (mTup (mCons (mOk (.dat (.str "people abcdefghi"))) (mCons (mOk (.dat (.str "people A"))) (mCons (mOk (.dat (.str "people a a"))) (mCons (mOk (.dat (.str "people a1"))) (mCons (mOk (.dat (.str "people  a"))) (mCons (mOk (.dat (.str "people a "))) (mCons (mOk (.dat (.str " people a"))) (mCons (mOk (.dat (.str "a"))) mNil)))))))))) (gN 11) (mDrop (mApp 10 (mCons (mTup (mCons (mLst (mCons (mVar 11) mNil)) (mCons (mOk (.dat (.int 1))) mNil))) mNil))))
  (mRet (mCB allF (mCons (mLc [9, 12] (mItL (mVar 10)) (gT 2 (gsCons (gN 9) (gsCons (gN 12) gsNil))) mYes (mCall 2 f_l_is_refused [] (mCons (mVar 9) (mCons (mVar 12) mNil)))) mNil))))))))))))))))))
def f_l_right : D → List D → R (D × D) := sem1 m_l_right 13
theorem ok_l_right (T : Tx w K mg) (TB : TBs K mg base) : OkG PRG w K mg base CX0 10 "_law_right" ["_law_pot_here"] [] (sp1 K 0 f_l_right) := by
  have O_l_is_refused := ok_l_is_refused (w := w) (base := base) T TB
  have O_l_is_let := ok_l_is_let (w := w) (base := base) T TB
  have O_l_pairs := ok_l_pairs (w := w) (base := base) T
  have O_l_names := ok_l_names (w := w) (base := base) T
  obtain ⟨fd, F⟩ := T.f_l_right
  exact ⟨⟨fd, [], fn_data1G rfl F sc_l_right (fun cdv A outer s H E hG hr => (dss (pss_cons (ds (ps_set (i := 1) sc_l_right.nd rfl (Or.inl rfl) (dx (pe_callO O_l_names (hr.mono (by decide)) rfl pass0 (pa_cons (pv 0) (da (pa_cons (dx pe_int md_int) (da pa_nil md_nil)) md_cons))) md_callP)) (md_asg mg_name))
      (dss (pss_cons (ds (ps_par (by rfl) sc_l_right.nd (i := 2) (j := 3) rfl rfl (by decide) rfl rfl (da (pa_cons (dx (pe_op op_add_str (dx pe_str md_str) (dx (pe_join (dx pe_str md_str) (dx (dx (pe_slice sl_list (dx (pv 1) md_var) (dpo po_none md_noPart) (dpo (po_some (dx pe_int md_int)) md_part)) md_slL) md_fz)) md_join)) (md_op ro_addS)) (da (pa_cons (dx (pe_callO O_l_pairs (hr.mono (by decide)) rfl pass0 (da (pa_cons (dx (dx (pe_slice sl_list (dx (pv 1) md_var) (dpo po_none md_noPart) (dpo (po_some (dx pe_int md_int)) md_part)) md_slL) md_fz) (da pa_nil md_nil)) md_cons)) md_call0) (da pa_nil md_nilO)) md_consF)) md_consF) (by rfl)) md_par)
      (dss (pss_cons (ds (ps_setLc (i := 4) (own := [("_law_one", 5), ("_law_other", 6)]) (by rfl) sc_l_right.nd rfl rfl (sw_true rfl rfl rfl (by decide +kernel)) (di (pi_list (dx (dx (pe_slice sl_list (dx (pv 3) md_var) (dpo po_none md_noPart) (dpo (po_some (dx pe_int md_int)) md_part)) md_slL) md_fz)) mi_list) (blkOk_by (N := N_l_right) (sc := defScope s_l_right) (by decide +kernel)) (fun _ _ _ _ _ => (pg_tup rfl (pgs_cons (pg_name (i := 5) sc_l_right.nd rfl (Or.inl rfl)) (pgs_cons (pg_name (i := 6) sc_l_right.nd rfl (Or.inl rfl)) pgs_nil)))) (fun _ _ _ _ _ => (dts pts_nil md_yes)) (fun _ _ _ _ _ => (dx (pe_op op_add_str (dx (pe_op op_add_str (dx (pe_op op_add_str (dx pe_str md_str) (dx (pv 5) md_var)) (md_op ro_addS)) (dx pe_str md_str)) (md_op ro_addS)) (dx (pv 6) md_var)) (md_op ro_addS)))) (md_setLF (md_lc (mg_tup (mgs_cons mg_name (mgs_cons mg_name mgs_nil))) (by decide))))
      (dss (pss_cons (ds (ps_setLc (i := 7) (own := [("_law_one", 5), ("_law_other", 6)]) (by rfl) sc_l_right.nd rfl rfl (sw_true rfl rfl rfl (by decide +kernel)) (di (pi_list (dx (dx (pe_slice sl_list (dx (pv 3) md_var) (dpo (po_some (dx pe_int md_int)) md_part) (dpo (po_some (dx pe_int md_int)) md_part)) md_slL) md_fz)) mi_list) (blkOk_by (N := N_l_right) (sc := defScope s_l_right) (by decide +kernel)) (fun _ _ _ _ _ => (pg_tup rfl (pgs_cons (pg_name (i := 5) sc_l_right.nd rfl (Or.inl rfl)) (pgs_cons (pg_name (i := 6) sc_l_right.nd rfl (Or.inl rfl)) pgs_nil)))) (fun _ _ _ _ _ => (dts pts_nil md_yes)) (fun _ _ _ _ _ => (dx (pe_op op_add_str (dx (pe_op op_add_str (dx (pe_op op_add_str (dx pe_str md_str) (dx (pv 5) md_var)) (md_op ro_addS)) (dx pe_str md_str)) (md_op ro_addS)) (dx (pv 6) md_var)) (md_op ro_addS)))) (md_setLF (md_lc (mg_tup (mgs_cons mg_name (mgs_cons mg_name mgs_nil))) (by decide))))
      (dss (pss_cons (ds (ps_set (i := 8) sc_l_right.nd rfl (Or.inl rfl) (dx (pe_lst (da (pa_cons (dx (dx (pe_op op_cat (dx (dx (pe_op op_cat (dx (dx (pe_lst (da (pa_cons (dx (pv 2) md_var) (da pa_nil md_nil)) md_cons)) md_lst) md_fz) (dx (pv 4) md_var)) (md_opF ro_cat)) md_fz) (dx (pv 7) md_var)) (md_opF ro_cat)) md_fz) (da (pa_cons (dx (dx (pe_lst (da (pa_cons (dx (pv 2) md_var) (da pa_nil md_nil)) md_cons)) md_lst) md_fz) (da (pa_cons (dx (dx (pe_lst (da (pa_cons (dx (pe_op op_add_str (dx pe_str md_str) (dx (pe_ix ix_seq (dx (pv 1) md_var) (dx pe_int md_int) (fun _ _ => rfl)) (md_op ro_ix))) (md_op ro_addS)) (da pa_nil md_nil)) md_cons)) md_lst) md_fz) (da (pa_cons (dx (dx (pe_lst (da (pa_cons (dx (pv 2) md_var) (da (pa_cons (dx (pe_op op_add_str (dx pe_str md_str) (dx (pe_join (dx pe_str md_str) (dx (dx (pe_slice sl_list (dx (pv 1) md_var) (dpo po_none md_noPart) (dpo (po_some (dx pe_int md_int)) md_part)) md_slL) md_fz)) md_join)) (md_op ro_addS)) (da pa_nil md_nil)) md_cons)) md_cons)) md_lst) md_fz) (da (pa_cons (dx (dx (pe_op op_cat (dx (dx (pe_lst (da (pa_cons (dx (pv 2) md_var) (da pa_nil md_nil)) md_cons)) md_lst) md_fz) (dx (pv 7) md_var)) (md_opF ro_cat)) md_fz) (da pa_nil md_nil)) md_cons)) md_cons)) md_cons)) md_cons)) md_cons)) md_lst)) md_setF)
      (dss (pss_cons (ds (ps_expr (dx (pe_bm PySem.F.plainAttrs_list PySem.F.slot_list_extend PySem.F.type_list_extend mt_extend (pv 8) (da (pa_cons (dx (dx (pe_lst (da (pa_cons (dx (dx (pe_op op_cat (dx (dx (pe_lst (da (pa_cons (dx (pv 2) md_var) (da pa_nil md_nil)) md_cons)) md_lst) md_fz) (dx (dx (pe_op op_rep (dx (dx (pe_slice sl_list (dx (pv 4) md_var) (dpo po_none md_noPart) (dpo (po_some (dx pe_int md_int)) md_part)) md_slL) md_fz) (dx pe_int md_int)) (md_opF ro_rep)) md_fz)) (md_opF ro_cat)) md_fz) (da (pa_cons (dx (dx (pe_lst (da (pa_cons (dx pe_str md_str) (da pa_nil md_nil)) md_cons)) md_lst) md_fz) (da (pa_cons (dx (dx (pe_op op_cat (dx (dx (pe_op op_cat (dx (dx (pe_op op_cat (dx (dx (pe_lst (da (pa_cons (dx (pv 2) md_var) (da pa_nil md_nil)) md_cons)) md_lst) md_fz) (dx (dx (pe_slice sl_list (dx (pv 4) md_var) (dpo po_none md_noPart) (dpo (po_some (dx pe_int md_int)) md_part)) md_slL) md_fz)) (md_opF ro_cat)) md_fz) (dx (dx (pe_slice sl_list (dx (pv 4) md_var) (dpo po_none md_noPart) (dpo (po_some (dx pe_int md_int)) md_part)) md_slL) md_fz)) (md_opF ro_cat)) md_fz) (dx (dx (pe_slice sl_list (dx (pv 7) md_var) (dpo po_none md_noPart) (dpo (po_some (dx pe_int md_int)) md_part)) md_slL) md_fz)) (md_opF ro_cat)) md_fz) (da pa_nil md_nil)) md_cons)) md_cons)) md_cons)) md_lst) md_fz) (da pa_nil md_nil)) md_cons)) md_ext)) md_drop)
      (dss (pss_cons (ds (ps_if (dt (pt_not (dt (pt_val (dx (pe_callB (cr_all rfl) (by rfl) T.n_all (by decide +kernel) (da (pa_cons (dx (dx (pe_lc (own := [("_law_rows", 9)]) (by rfl) sc_l_right.nd (di (pi_list (dx (pv 8) md_var)) mi_list) (blkOk_by (N := N_l_right) (sc := defScope s_l_right) (by decide +kernel)) (fun _ _ _ _ _ => (pg_name (i := 9) sc_l_right.nd rfl (Or.inl rfl))) (fun _ _ _ _ _ => (dts pts_nil md_yes)) (fun _ _ _ _ _ => (dx (pe_callO O_l_is_let (hr.mono (by decide)) rfl pass0 (da (pa_cons (dx (pv 9) md_var) (da pa_nil md_nil)) md_cons)) md_call0))) (md_lc mg_name (by decide))) md_fz) (da pa_nil md_nil)) md_cons)) (md_cb rc_all))) md_test)) md_not) (pss_one (ds (ps_ret (dx pe_bl md_bl)) md_ret)) (dss pss_nil md_nx)) md_ifS)
      (dss (pss_cons (ds (ps_set (i := 10) sc_l_right.nd rfl (Or.inl rfl) (dx (pe_lst (da (pa_cons (dx (pe_tupS (da (pa_cons (dx (dx (pe_lst (da (pa_cons (dx (pe_op op_add_str (dx pe_str md_str) (dx (pe_join (dx pe_str md_str) (dx (pv 1) md_var)) md_join)) (md_op ro_addS)) (da pa_nil md_nil)) md_cons)) md_lst) md_fz) (da (pa_cons (dx pe_int md_int) (da pa_nil md_nil)) md_cons)) md_cons)) md_tup) (da (pa_cons (dx (pe_tupS (da (pa_cons (dx (dx (pe_op op_cat (dx (dx (pe_op op_cat (dx (dx (pe_lst (da (pa_cons (dx (pv 2) md_var) (da pa_nil md_nil)) md_cons)) md_lst) md_fz) (dx (pv 4) md_var)) (md_opF ro_cat)) md_fz) (dx (dx (pe_slice sl_list (dx (pv 4) md_var) (dpo po_none md_noPart) (dpo (po_some (dx pe_int md_int)) md_part)) md_slL) md_fz)) (md_opF ro_cat)) md_fz) (da (pa_cons (dx pe_int md_int) (da pa_nil md_nil)) md_cons)) md_cons)) md_tup) (da (pa_cons (dx (pe_tupS (da (pa_cons (dx (dx (pe_lst (da (pa_cons (dx pe_str md_str) (da pa_nil md_nil)) md_cons)) md_lst) md_fz) (da (pa_cons (dx pe_int md_int) (da pa_nil md_nil)) md_cons)) md_cons)) md_tup) (da (pa_cons (dx (pe_tupS (da (pa_cons (dx (dx (pe_lst (da (pa_cons (dx pe_str md_str) (da pa_nil md_nil)) md_cons)) md_lst) md_fz) (da (pa_cons (dx pe_int md_int) (da pa_nil md_nil)) md_cons)) md_cons)) md_tup) (da (pa_cons (dx (pe_tupS (da (pa_cons (dx (pv 4) md_var) (da (pa_cons (dx pe_int md_int) (da pa_nil md_nil)) md_cons)) md_cons)) md_tup) (da pa_nil md_nil)) md_cons)) md_cons)) md_cons)) md_cons)) md_cons)) md_lst)) md_setF)
      (dss (pss_cons (ds (ps_expr (dx (pe_bm PySem.F.plainAttrs_list PySem.F.slot_list_append PySem.F.type_list_append mt_append (pv 10) (da (pa_cons (dx (pe_tupS (da (pa_cons (dx (dx (pe_op op_cat (dx (dx (pe_op op_cat (dx (dx (pe_lst (da (pa_cons (dx (pv 2) md_var) (da pa_nil md_nil)) md_cons)) md_lst) md_fz) (dx (pv 7) md_var)) (md_opF ro_cat)) md_fz) (dx (dx (pe_lst (da (pa_cons (dx (pe_op op_add_str (dx (pe_op op_add_str (dx (pe_op op_add_str (dx pe_str md_str) (dx (pe_ix ix_seq (dx (pe_ix ix_seq (dx (pv 3) md_var) (dx pe_int md_int) (fun _ _ => rfl)) (md_op ro_ix)) (dx pe_int md_int) (fun _ _ => rfl)) (md_op ro_ix))) (md_op ro_addS)) (dx pe_str md_str)) (md_op ro_addS)) (dx (pe_ix ix_seq (dx (pe_ix ix_seq (dx (pv 3) md_var) (dx pe_int md_int) (fun _ _ => rfl)) (md_op ro_ix)) (dx pe_int md_int) (fun _ _ => rfl)) (md_op ro_ix))) (md_op ro_addS)) (da pa_nil md_nil)) md_cons)) md_lst) md_fz)) (md_opF ro_cat)) md_fz) (da (pa_cons (dx pe_int md_int) (da pa_nil md_nil)) md_cons)) md_cons)) md_tup) (da pa_nil md_nil)) md_cons)) md_app)) md_drop)
      (dss (pss_cons (ds (ps_expr (dx (pe_bm PySem.F.plainAttrs_list PySem.F.slot_list_extend PySem.F.type_list_extend mt_extend (pv 10) (da (pa_cons (dx (dx (pe_lst (da (pa_cons (dx (pe_tupS (da (pa_cons (dx (dx (pe_op op_cat (dx (dx (pe_op op_cat (dx (dx (pe_lst (da (pa_cons (dx (pv 2) md_var) (da pa_nil md_nil)) md_cons)) md_lst) md_fz) (dx (pv 4) md_var)) (md_opF ro_cat)) md_fz) (dx (dx (pe_op op_rep (dx (dx (pe_slice sl_list (dx (pv 7) md_var) (dpo po_none md_noPart) (dpo (po_some (dx pe_int md_int)) md_part)) md_slL) md_fz) (dx pe_int md_int)) (md_opF ro_rep)) md_fz)) (md_opF ro_cat)) md_fz) (da (pa_cons (dx pe_int md_int) (da pa_nil md_nil)) md_cons)) md_cons)) md_tup) (da (pa_cons (dx (pe_tupS (da (pa_cons (dx (dx (pe_op op_cat (dx (dx (pe_op op_cat (dx (dx (pe_lst (da (pa_cons (dx (pv 2) md_var) (da pa_nil md_nil)) md_cons)) md_lst) md_fz) (dx (dx (pe_slice sl_list (dx (pv 7) md_var) (dpo po_none md_noPart) (dpo (po_some (dx pe_int md_int)) md_part)) md_slL) md_fz)) (md_opF ro_cat)) md_fz) (dx (dx (pe_slice sl_list (dx (pv 4) md_var) (dpo po_none md_noPart) (dpo (po_some (dx pe_int md_int)) md_part)) md_slL) md_fz)) (md_opF ro_cat)) md_fz) (da (pa_cons (dx pe_int md_int) (da pa_nil md_nil)) md_cons)) md_cons)) md_tup) (da (pa_cons (dx (pe_tupS (da (pa_cons (dx (dx (pe_op op_cat (dx (dx (pe_op op_cat (dx (dx (pe_lst (da (pa_cons (dx (pv 2) md_var) (da pa_nil md_nil)) md_cons)) md_lst) md_fz) (dx (dx (pe_slice sl_list (dx (pv 4) md_var) (dpo po_none md_noPart) (dpo (po_some (dx pe_int md_int)) md_part)) md_slL) md_fz)) (md_opF ro_cat)) md_fz) (dx (dx (pe_lst (da (pa_cons (dx (pv 2) md_var) (da pa_nil md_nil)) md_cons)) md_lst) md_fz)) (md_opF ro_cat)) md_fz) (da (pa_cons (dx pe_int md_int) (da pa_nil md_nil)) md_cons)) md_cons)) md_tup) (da pa_nil md_nil)) md_cons)) md_cons)) md_cons)) md_lst) md_fz) (da pa_nil md_nil)) md_cons)) md_ext)) md_drop)
      (dss (pss_cons (ds (ps_expr (dx (pe_bm PySem.F.plainAttrs_list PySem.F.slot_list_append PySem.F.type_list_append mt_append (pv 10) (da (pa_cons (dx (pe_tupS (da (pa_cons (dx (dx (pe_lst (da (pa_cons (dx (pv 2) md_var) (da (pa_cons (dx (pe_ix ix_seq (dx (pv 4) md_var) (dx pe_int md_int) (fun _ _ => rfl)) (md_op ro_ix)) (da (pa_cons (dx (pe_op op_add_str (dx (pe_op op_add_str (dx (pe_op op_add_str (dx pe_str md_str) (dx (pe_ix ix_seq (dx (pe_ix ix_seq (dx (pv 3) md_var) (dx pe_int md_int) (fun _ _ => rfl)) (md_op ro_ix)) (dx pe_int md_int) (fun _ _ => rfl)) (md_op ro_ix))) (md_op ro_addS)) (dx pe_str md_str)) (md_op ro_addS)) (dx (pe_ix ix_seq (dx (pe_ix ix_seq (dx (pv 3) md_var) (dx pe_int md_int) (fun _ _ => rfl)) (md_op ro_ix)) (dx pe_int md_int) (fun _ _ => rfl)) (md_op ro_ix))) (md_op ro_addS)) (da pa_nil md_nil)) md_cons)) md_cons)) md_cons)) md_lst) md_fz) (da (pa_cons (dx pe_int md_int) (da pa_nil md_nil)) md_cons)) md_cons)) md_tup) (da pa_nil md_nil)) md_cons)) md_app)) md_drop)
      (dss (pss_cons (ds (ps_expr (dx (pe_bm PySem.F.plainAttrs_list PySem.F.slot_list_append PySem.F.type_list_append mt_append (pv 10) (da (pa_cons (dx (pe_tupS (da (pa_cons (dx (dx (pe_op op_cat (dx (dx (pe_op op_cat (dx (dx (pe_lst (da (pa_cons (dx (pv 2) md_var) (da pa_nil md_nil)) md_cons)) md_lst) md_fz) (dx (dx (pe_slice sl_list (dx (pv 7) md_var) (dpo po_none md_noPart) (dpo (po_some (dx pe_int md_int)) md_part)) md_slL) md_fz)) (md_opF ro_cat)) md_fz) (dx (dx (pe_lst (da (pa_cons (dx (pe_op op_add_str (dx (pe_op op_add_str (dx (pe_op op_add_str (dx pe_str md_str) (dx (pe_ix ix_seq (dx (pe_ix ix_seq (dx (pv 3) md_var) (dx pe_int md_int) (fun _ _ => rfl)) (md_op ro_ix)) (dx pe_int md_int) (fun _ _ => rfl)) (md_op ro_ix))) (md_op ro_addS)) (dx pe_str md_str)) (md_op ro_addS)) (dx (pe_ix ix_seq (dx (pe_ix ix_seq (dx (pv 3) md_var) (dx pe_int md_int) (fun _ _ => rfl)) (md_op ro_ix)) (dx pe_int md_int) (fun _ _ => rfl)) (md_op ro_ix))) (md_op ro_addS)) (da pa_nil md_nil)) md_cons)) md_lst) md_fz)) (md_opF ro_cat)) md_fz) (da (pa_cons (dx pe_int md_int) (da pa_nil md_nil)) md_cons)) md_cons)) md_tup) (da pa_nil md_nil)) md_cons)) md_app)) md_drop)
      (dss (pss_cons (ds (ps_for PassesOwn.never rfl (di (pi_tup (dx (pe_tupS (da (pa_cons (dx (pe_op op_add_str (dx pe_str md_str) (dx (pe_ix ix_seq (dx (pv 1) md_var) (dx pe_int md_int) (fun _ _ => rfl)) (md_op ro_ix))) (md_op ro_addS)) (da (pa_cons (dx (pe_op op_add_str (dx (pe_op op_add_str (dx (pe_op op_add_str (dx pe_str md_str) (dx (pe_ix ix_seq (dx (pv 1) md_var) (dx pe_int md_int) (fun _ _ => rfl)) (md_op ro_ix))) (md_op ro_addS)) (dx pe_str md_str)) (md_op ro_addS)) (dx (pe_ix ix_seq (dx (pv 1) md_var) (dx pe_int md_int) (fun _ _ => rfl)) (md_op ro_ix))) (md_op ro_addS)) (da (pa_cons (dx (pe_op op_add_str (dx (pe_op op_add_str (dx (pe_op op_add_str (dx pe_str md_str) (dx (pe_ix ix_seq (dx (pv 1) md_var) (dx pe_int md_int) (fun _ _ => rfl)) (md_op ro_ix))) (md_op ro_addS)) (dx pe_str md_str)) (md_op ro_addS)) (dx (pe_ix ix_seq (dx (pv 1) md_var) (dx pe_int md_int) (fun _ _ => rfl)) (md_op ro_ix))) (md_op ro_addS)) (da (pa_cons (dx pe_str md_str) (da (pa_cons (dx pe_str md_str) (da pa_nil md_nil)) md_cons)) md_cons)) md_cons)) md_cons)) md_cons)) md_tup)) mi_tup) (pg_name (i := 11) sc_l_right.nd rfl (Or.inl rfl)) (pss_one (ds (ps_expr (dx (pe_bm PySem.F.plainAttrs_list PySem.F.slot_list_append PySem.F.type_list_append mt_append (pv 10) (da (pa_cons (dx (pe_tupS (da (pa_cons (dx (dx (pe_lst (da (pa_cons (dx (pv 2) md_var) (da (pa_cons (dx (pv 11) md_var) (da pa_nil md_nil)) md_cons)) md_cons)) md_lst) md_fz) (da (pa_cons (dx pe_int md_int) (da pa_nil md_nil)) md_cons)) md_cons)) md_tup) (da pa_nil md_nil)) md_cons)) md_app)) md_drop))) (md_for mg_name))
      (dss (pss_cons (ds (ps_for PassesOwn.never rfl (di (pi_tup (dx (pe_tupS (da (pa_cons (dx (pe_op op_add_str (dx pe_str md_str) (dx (pe_ix ix_seq (dx (pv 1) md_var) (dx pe_int md_int) (fun _ _ => rfl)) (md_op ro_ix))) (md_op ro_addS)) (da (pa_cons (dx (pe_op op_add_str (dx (pe_op op_add_str (dx (pe_op op_add_str (dx pe_str md_str) (dx (pe_ix ix_seq (dx (pv 1) md_var) (dx pe_int md_int) (fun _ _ => rfl)) (md_op ro_ix))) (md_op ro_addS)) (dx pe_str md_str)) (md_op ro_addS)) (dx (pe_ix ix_seq (dx (pv 1) md_var) (dx pe_int md_int) (fun _ _ => rfl)) (md_op ro_ix))) (md_op ro_addS)) (da (pa_cons (dx (pe_op op_add_str (dx pe_str md_str) (dx (pe_join (dx pe_str md_str) (dx (dx (pe_slice sl_list (dx (pv 1) md_var) (dpo po_none md_noPart) (dpo (po_some (dx pe_int md_int)) md_part)) md_slL) md_fz)) md_join)) (md_op ro_addS)) (da (pa_cons (dx pe_str md_str) (da pa_nil md_nil)) md_cons)) md_cons)) md_cons)) md_cons)) md_tup)) mi_tup) (pg_name (i := 11) sc_l_right.nd rfl (Or.inl rfl)) (pss_one (ds (ps_expr (dx (pe_bm PySem.F.plainAttrs_list PySem.F.slot_list_append PySem.F.type_list_append mt_append (pv 10) (da (pa_cons (dx (pe_tupS (da (pa_cons (dx (dx (pe_lst (da (pa_cons (dx (pv 2) md_var) (da (pa_cons (dx (pv 11) md_var) (da pa_nil md_nil)) md_cons)) md_cons)) md_lst) md_fz) (da (pa_cons (dx pe_int md_int) (da pa_nil md_nil)) md_cons)) md_cons)) md_tup) (da pa_nil md_nil)) md_cons)) md_app)) md_drop))) (md_for mg_name))
      (dss (pss_cons (ds (ps_for PassesOwn.never rfl (di (pi_tup (dx (pe_tupS (da (pa_cons (dx pe_str md_str) (da (pa_cons (dx pe_str md_str) (da (pa_cons (dx pe_str md_str) (da (pa_cons (dx pe_str md_str) (da (pa_cons (dx pe_str md_str) (da (pa_cons (dx pe_str md_str) (da (pa_cons (dx pe_str md_str) (da (pa_cons (dx pe_str md_str) (da pa_nil md_nil)) md_cons)) md_cons)) md_cons)) md_cons)) md_cons)) md_cons)) md_cons)) md_cons)) md_tup)) mi_tup) (pg_name (i := 11) sc_l_right.nd rfl (Or.inl rfl)) (pss_one (ds (ps_expr (dx (pe_bm PySem.F.plainAttrs_list PySem.F.slot_list_append PySem.F.type_list_append mt_append (pv 10) (da (pa_cons (dx (pe_tupS (da (pa_cons (dx (dx (pe_lst (da (pa_cons (dx (pv 11) md_var) (da pa_nil md_nil)) md_cons)) md_lst) md_fz) (da (pa_cons (dx pe_int md_int) (da pa_nil md_nil)) md_cons)) md_cons)) md_tup) (da pa_nil md_nil)) md_cons)) md_app)) md_drop))) (md_for mg_name))
      (pss_one (ds (ps_ret (dx (pe_callB (cr_all rfl) (by rfl) T.n_all (by decide +kernel) (da (pa_cons (dx (dx (pe_lc (own := [("_law_rows", 9), ("_law_number", 12)]) (by rfl) sc_l_right.nd (di (pi_list (dx (pv 10) md_var)) mi_list) (blkOk_by (N := N_l_right) (sc := defScope s_l_right) (by decide +kernel)) (fun _ _ _ _ _ => (pg_tup rfl (pgs_cons (pg_name (i := 9) sc_l_right.nd rfl (Or.inl rfl)) (pgs_cons (pg_name (i := 12) sc_l_right.nd rfl (Or.inl rfl)) pgs_nil)))) (fun _ _ _ _ _ => (dts pts_nil md_yes)) (fun _ _ _ _ _ => (dx (pe_callG O_l_is_refused hG (hr.mono (by decide)) rfl pass0 (da (pa_cons (dx (pv 9) md_var) (da (pa_cons (dx (pv 12) md_var) (da pa_nil md_nil)) md_cons)) md_cons)) md_call0))) (md_lc (mg_tup (mgs_cons mg_name (mgs_cons mg_name mgs_nil))) (by decide))) md_fz) (da pa_nil md_nil)) md_cons)) (md_cb rc_all))) md_ret))) md_seq)) md_seq)) md_seq)) md_seq)) md_seq)) md_seq)) md_seq)) md_seq)) md_seq)) md_seq)) md_seq)) md_seq)) md_seq)) md_seq)) md_seq)), F.bindsN fun _ _ _ _ _ _ us hl => match us, hl with | [_], _ => rfl, .nil⟩, F.kp, T.g_l_right⟩

def m_law : M Out :=
  (mRet (mCB allF (mCons (mLc [1] (mItL (mCall 2 f_l_places [] (mCons (mVar 0) (mCons (mOk (.dat (.int 3))) mNil)))) (gN 1) mYes (mCallPF 0 f_l_right (mCallN 2 f_l_pot (mCons (mVar 0) (mCons (mVar 1) mNil))) mNil)) mNil)))
def f_law : List D → R D := fun ds => noX (outR (m_law (env0 2 ds)))
def lawLv : Nat := 11
theorem run_law {fd : FuncData} (F : FunD K "law" "law" (defArgs s_law) (defBody s_law) (defScope s_law) [] [] (He.fAd K ("law", none)) fd) (T : Tx w K mg) (TB : TBs K mg base) : FnOkG PRG w K mg base CX0 11 (He.ga K "law") fd ["_law_script"] (sp0 K 1 f_law) := by
  have O_l_places := ok_l_places (w := w) (base := base) T
  have O_l_right := ok_l_right (w := w) (base := base) T TB
  have O_l_pot := ok_l_pot (w := w) (base := base) T
  exact fn_dataG rfl F sc_law (noX_ne _) ⟨m_law, fun cdv A outer s H E hG hr => (pss_one (ds (ps_ret (dx (pe_callB (cr_all rfl) (by rfl) T.n_all (by decide +kernel) (da (pa_cons (dx (dx (pe_lc (own := [("_law_place", 1)]) (by rfl) sc_law.nd (di (pi_list (dx (pe_callO O_l_places (hr.mono (by decide)) rfl pass0 (da (pa_cons (dx (pv 0) md_var) (da (pa_cons (dx pe_int md_int) (da pa_nil md_nil)) md_cons)) md_cons)) md_call0)) mi_list) (blkOk_by (N := N_law) (sc := defScope s_law) (by decide +kernel)) (fun _ _ _ _ _ => (pg_name (i := 1) sc_law.nd rfl (Or.inl rfl))) (fun _ _ _ _ _ => (dts pts_nil md_yes)) (fun _ _ _ _ _ => (dx (pe_callG O_l_right hG (hr.mono (by decide)) rfl pass0 (pa_cons (dx (pe_callO O_l_pot (hr.mono (by decide)) rfl pass0 (da (pa_cons (dx (pv 0) md_var) (da (pa_cons (dx (pv 1) md_var) (da pa_nil md_nil)) md_cons)) md_cons)) md_callN) (da pa_nil md_nil))) md_callPF))) (md_lc mg_name (by decide))) md_fz) (da pa_nil md_nil)) md_cons)) (md_cb rc_all))) md_ret)), le_noX⟩

end
end Q

open PySem PySem.Spec PyProof.Rows L2 MT DL
local macro_rules | `(tactic| walk_at "ev") => `(tactic| simp -implicitDefEqProofs only [and_self, bind_err, ev_raise, back_err, outR_err, ev_toldM, kTold_ok, kTold_err, ev_meth, kMeth_ev, kMeth2_ev, ev_eqO, kEqO_ev, kEqO2_ev, ev_errV, ev_dnew, bind_ok, bind_stuck, ev_ok, ev_of, ev_seq, kSeq_nx, kSeq_ret, kSeq_bk, kSeq_ct, ev_nx, ev_if, kIf_true, kIf_false, ev_var, kVar_fz, kVar_ow, ev_op, kOp_ev, ev_opB, kOpB_ev, ev_un, ev_chain, kCh_ev, ev_bd, ev_test, asB_b, ev_and, kAnd_t, kAnd_f, ev_or, kOr_t, kOr_f, ev_not, ev_andV, kAndV_t, kAndV_f, ev_orV, kOrV_t, kOrV_f, ev_notV, ev_nil, ev_cons, kCons_ev, ev_tup, ev_lst, ev_cb, ev_ret, ev_retN, ev_drop, ev_never, ev_asg, ev_setF, ev_gN, ev_callf, back_ok, ev_ixP, kIxP_ev, kIxP2_ev, ev_setIx, kSetIx_ev, kSetIx1_ev, ev_callP, kCallP_ev, kCallP2_ev, back1_ok, ev_pop, kOwn_ev, ev_app, ev_ext, ev_lenP, ev_eqP, kEqP_ev, kEqP2_ev, ev_inP, ev_nilO, ev_consF, ev_consO, kConsF_ev, kConsO_ev, ev_par, ev_for, ev_part, kPart_ev, ev_sl, kSl_ev, kSl2_ev, ev_m1, kM1_ev, ev_idx, kIdx_ev, ev_itL, ev_itT, ev_enL, ev_enT, ev_enQ, ev_fld, ev_prop, ev_inO, kInO_ev, kInO2_ev, ev_lenO, kLenO_ev, ev_setA, ev_make, ev_callN,
  List.getElem?_cons_zero, List.getElem?_cons_succ, List.set_cons_zero, List.set_cons_succ, List.append_nil, List.nil_append, List.cons_append, List.length_cons, List.length_nil, if_true, if_false, Nat.reduceAdd, Nat.reduceEqDiff, Nat.zero_add, peek, ownD, ownL, putO, DL.putAll, Option.map_some, Option.bind_some, asDat, asL, asT, as1, asQ, seqD, decide_true, env0, env1, List.map_cons, List.map_nil, List.replicate, Nat.reduceSub, reduceCtorEq, reduceIte, iLt_ev, iLe_ev, iGt_ev, iGe_ev, iAdd_ev, iSub_ev, intF_i, intF_b, minF_ev, maxF_ev, absF_ev, lenF_l, lenF_t, lenF_sc, listF_l, listF_t, tupleF_t, boD_ev, ixF_l0, ixF_l1, ixF_l2, ixF_t0, ixF_t1, ixF_t2, mkTup_0, mkLst_0, mkTup_1, mkLst_1, mkTup_2, mkLst_2, mkTup_3, mkLst_3, mkTup_4, mkLst_4, mkTup_5, mkLst_5, slL_ev, slT_ev, slQ_l, slQ_t, revF_t, revF_l, gsNil_ev, gsCons_ev, out_ret, out_nx, outR_ret, outR_nx, noX_ok])
local macro_rules | `(tactic| walk_at "eva") => `(tactic| simp -implicitDefEqProofs only [and_self, bind_err, ev_raise, back_err, outR_err, ev_toldM, kTold_ok, kTold_err, ev_meth, kMeth_ev, kMeth2_ev, ev_eqO, kEqO_ev, kEqO2_ev, ev_errV, ev_dnew, bind_ok, bind_stuck, ev_ok, ev_of, ev_seq, kSeq_nx, kSeq_ret, kSeq_bk, kSeq_ct, ev_nx, ev_if, kIf_true, kIf_false, ev_var, kVar_fz, kVar_ow, ev_op, kOp_ev, ev_opB, kOpB_ev, ev_un, ev_chain, kCh_ev, ev_bd, ev_test, asB_b, ev_and, kAnd_t, kAnd_f, ev_or, kOr_t, kOr_f, ev_not, ev_andV, kAndV_t, kAndV_f, ev_orV, kOrV_t, kOrV_f, ev_notV, ev_nil, ev_cons, kCons_ev, ev_tup, ev_lst, ev_cb, ev_ret, ev_retN, ev_drop, ev_never, ev_asg, ev_setF, ev_gN, ev_callf, back_ok, ev_ixP, kIxP_ev, kIxP2_ev, ev_setIx, kSetIx_ev, kSetIx1_ev, ev_callP, kCallP_ev, kCallP2_ev, back1_ok, ev_pop, kOwn_ev, ev_app, ev_ext, ev_lenP, ev_eqP, kEqP_ev, kEqP2_ev, ev_inP, ev_nilO, ev_consF, ev_consO, kConsF_ev, kConsO_ev, ev_par, ev_for, ev_part, kPart_ev, ev_sl, kSl_ev, kSl2_ev, ev_m1, kM1_ev, ev_idx, kIdx_ev, ev_itL, ev_itT, ev_enL, ev_enT, ev_enQ, ev_fld, ev_prop, ev_inO, kInO_ev, kInO2_ev, ev_lenO, kLenO_ev, ev_setA, ev_make, ev_callN,
  List.getElem?_cons_zero, List.getElem?_cons_succ, List.set_cons_zero, List.set_cons_succ, List.append_nil, List.nil_append, List.cons_append, List.length_cons, List.length_nil, if_true, if_false, Nat.reduceAdd, Nat.reduceEqDiff, Nat.zero_add, peek, ownD, ownL, putO, DL.putAll, Option.map_some, Option.bind_some, asDat, asL, asT, as1, asQ, seqD, decide_true, env0, env1, List.map_cons, List.map_nil, List.replicate, Nat.reduceSub, reduceCtorEq, reduceIte, iLt_ev, iLe_ev, iGt_ev, iGe_ev, iAdd_ev, iSub_ev, intF_i, intF_b, minF_ev, maxF_ev, absF_ev, lenF_l, lenF_t, lenF_sc, listF_l, listF_t, tupleF_t, boD_ev, ixF_l0, ixF_l1, ixF_l2, ixF_t0, ixF_t1, ixF_t2, mkTup_0, mkLst_0, mkTup_1, mkLst_1, mkTup_2, mkLst_2, mkTup_3, mkLst_3, mkTup_4, mkLst_4, mkTup_5, mkLst_5, slL_ev, slT_ev, slQ_l, slQ_t, revF_t, revF_l, gsNil_ev, gsCons_ev, out_ret, out_nx, outR_ret, outR_nx, noX_ok, Bool.not_true, Bool.not_false, Bool.false_xor, Bool.true_xor, gT2_dat, gT3_dat, gT2_wk, gL3_dat, *])

namespace Q
open DL
/-! ## plain: draws -/
abbrev dI (i : Int) : D := .dat (.int i)
abbrev dS (s : Str) : D := .dat (.str s)
abbrev dB (b : Bool) : D := .dat (.bool b)
abbrev dL (l : List PyData) : D := .dat (.list l)
abbrev dT (l : List PyData) : D := .dat (.tuple l)
/-- a pot with at least B draws to come -/
def PotOk (B : Nat) (p : D) : Prop := ∃ a b k : Int, p = dL [.int a, .int b, .int k] ∧ 0 ≤ a ∧ 0 ≤ b ∧ b < 2305843009213693951 ∧ 0 ≤ k ∧ k + (B : Int) ≤ 1000000000000
theorem PotOk.mono {B B' : Nat} {p : D} (h : PotOk B p) (l : B' ≤ B) : PotOk B' p := by
  obtain ⟨a, b, k, e, h1, h2, h3, h4, h5⟩ := h
  exact ⟨a, b, k, e, h1, h2, h3, h4, by omega⟩
theorem ixF_list {l : List PyData} {i : Nat} {d : PyData} (h : l[i]? = some d) : ixF (dL l) (dI i) = some (.dat d) := by
  simp [ixF, atI_nat h]
theorem ixF_tuple {l : List PyData} {i : Nat} {d : PyData} (h : l[i]? = some d) : ixF (dT l) (dI i) = some (.dat d) := by
  simp [ixF, atI_nat h]
theorem bits_le {i : Int} {n : Nat} (h : i.natAbs < 2 ^ n) : Builtin.Int.intBits i ≤ n := by
  unfold Builtin.Int.intBits
  split
  · omega
  · rename_i h0
    have : i.natAbs.log2 < n := (Nat.log2_lt (by simpa using h0)).mpr h
    omega
theorem take_ok {B n : Nat} {p : D} (hp : PotOk (B + 1) p) (h0 : 0 < n) (h1 : n ≤ 1000000) : ∃ (r : Nat) (p' : D), f_l_take p [dI n] = .ok (dI r, p') ∧ r < n ∧ PotOk B p' := by
  obtain ⟨a, b, k, rfl, ha, hb, hb2, hk, hkB⟩ := hp
  have n0 : (0 : Int) < (n : Int) := by omega
  by_cases hpos : 0 < a
  · have hm := Int.emod_nonneg a (show (n : Int) ≠ 0 by omega)
    have hm2 := Int.emod_lt_of_pos a n0
    refine ⟨(a % (n : Int)).toNat, dL [.int (a / n), .int b, .int k], ?_, by omega, a / n, b, k, rfl, Int.ediv_nonneg ha (by omega), hb, hb2, hk, by omega⟩
    unfold f_l_take sem1 m_l_take
    walk_at "ev"
    rw [decide_eq_true hpos]
    walk_at "ev"
    rw [iMod_ev n0]
    walk_at "ev"
    rw [iDiv_ev n0 (by omega)]
    walk_at "ev"
    rw [kSetIx2_ev (j := 0) rfl rfl]
    walk_at "ev"
    rw [Int.toNat_of_nonneg hm]
  · have k5 := Int.emod_nonneg (k + 1) (show (5 : Int) ≠ 0 by decide)
    have k5' := Int.emod_lt_of_pos (k + 1) (show (0 : Int) < 5 by decide)
    obtain ⟨j, hj⟩ : ∃ j : Nat, (k + 1) % 5 = j := ⟨((k + 1) % 5).toNat, by omega⟩
    have hj5 : j < 5 := by omega
    obtain ⟨pr, hpr, p0, p1⟩ : ∃ pr : Int, ([.int 2147483647, .int 2147483629, .int 2147483587, .int 2147483579, .int 2147483563] : List PyData)[j]? = some (.int pr) ∧ 0 < pr ∧ pr < 2147483648 := by
      match j, hj5 with
      | 0, _ => exact ⟨_, rfl, by decide, by decide⟩
      | 1, _ => exact ⟨_, rfl, by decide, by decide⟩
      | 2, _ => exact ⟨_, rfl, by decide, by decide⟩
      | 3, _ => exact ⟨_, rfl, by decide, by decide⟩
      | 4, _ => exact ⟨_, rfl, by decide, by decide⟩
    have k0 : 0 ≤ k + 1 := by omega
    have k1 : k + 1 ≤ 1000000000000 := by omega
    have kk0 : 0 ≤ (k + 1) * (k + 1) := Int.mul_nonneg k0 k0
    have kk1 : (k + 1) * (k + 1) ≤ 1000000000000 * 1000000000000 := Int.mul_le_mul k1 k1 k0 (by decide)
    have hbits : Builtin.Int.intBits (b + 95309 * (k + 1) * (k + 1) + 149) ≤ 120 := by
      apply bits_le
      rw [Int.mul_assoc]
      omega
    have hm := fun z : Int => Int.emod_nonneg z (Int.ne_of_gt p0)
    have hm2 := fun z : Int => Int.emod_lt_of_pos z p0
    generalize hbl : ((b + 95309 * (k + 1) * (k + 1) + 149) ^ (3 : Int).toNat) % pr = bl
    have b0 : 0 ≤ bl := hbl ▸ hm _
    have b1 : bl < pr := hbl ▸ hm2 _
    have r0 := Int.emod_nonneg (bl * (bl % 10039 + 91 * (k + 1)) / 131) (show (n : Int) ≠ 0 by omega)
    have r1 := Int.emod_lt_of_pos (bl * (bl % 10039 + 91 * (k + 1)) / 131) n0
    refine ⟨(bl * (bl % 10039 + 91 * (k + 1)) / 131 % (n : Int)).toNat, dL [.int a, .int b, .int (k + 1)], ?_, by omega, a, b, k + 1, rfl, ha, hb, hb2, k0, by omega⟩
    unfold f_l_take sem1 m_l_take
    walk_at "ev"
    rw [decide_eq_false hpos]
    walk_at "ev"
    rw [kSetIx2_ev (j := 2) rfl rfl]
    simp only [List.set_cons_zero, List.set_cons_succ]
    walk_at "ev"
    rw [iMod_ev (by decide)]
    walk_at "ev"
    rw [hj, ixF_l hpr]
    walk_at "ev"
    rw [iMul_ev ⟨by decide, by decide⟩]
    walk_at "ev"
    rw [iMul_ev' ⟨by omega, by omega⟩]
    walk_at "ev"
    rw [iPowW_ev ⟨by decide, by omega⟩]
    walk_at "ev"
    rw [iMod_ev p0]
    walk_at "ev"
    rw [hbl, iMod_ev (by decide)]
    walk_at "ev"
    rw [iMul_ev ⟨by decide, by decide⟩]
    walk_at "ev"
    rw [iMul_ev ⟨by omega, by omega⟩]
    walk_at "ev"
    rw [iDiv_ev (by decide) (by decide)]
    walk_at "ev"
    rw [iMod_ev n0]
    walk_at "ev"
    rw [Int.toNat_of_nonneg r0]
end Q

open PySem PySem.Spec PyProof.Rows L2 MT DL
local macro_rules | `(tactic| walk_at "ev") => `(tactic| simp -implicitDefEqProofs only [and_self, bind_err, ev_raise, back_err, outR_err, ev_toldM, kTold_ok, kTold_err, ev_meth, kMeth_ev, kMeth2_ev, ev_eqO, kEqO_ev, kEqO2_ev, ev_errV, ev_dnew, bind_ok, bind_stuck, ev_ok, ev_of, ev_seq, kSeq_nx, kSeq_ret, kSeq_bk, kSeq_ct, ev_nx, ev_if, kIf_true, kIf_false, ev_var, kVar_fz, kVar_ow, ev_op, kOp_ev, ev_opB, kOpB_ev, ev_un, ev_chain, kCh_ev, ev_bd, ev_test, asB_b, ev_and, kAnd_t, kAnd_f, ev_or, kOr_t, kOr_f, ev_not, ev_andV, kAndV_t, kAndV_f, ev_orV, kOrV_t, kOrV_f, ev_notV, ev_nil, ev_cons, kCons_ev, ev_tup, ev_lst, ev_cb, ev_ret, ev_retN, ev_drop, ev_never, ev_asg, ev_setF, ev_gN, ev_callf, back_ok, ev_ixP, kIxP_ev, kIxP2_ev, ev_setIx, kSetIx_ev, kSetIx1_ev, ev_callP, kCallP_ev, kCallP2_ev, back1_ok, ev_pop, kOwn_ev, ev_app, ev_ext, ev_lenP, ev_eqP, kEqP_ev, kEqP2_ev, ev_inP, ev_nilO, ev_consF, ev_consO, kConsF_ev, kConsO_ev, ev_par, ev_for, ev_part, kPart_ev, ev_sl, kSl_ev, kSl2_ev, ev_m1, kM1_ev, ev_idx, kIdx_ev, ev_itL, ev_itT, ev_enL, ev_enT, ev_enQ, ev_fld, ev_prop, ev_inO, kInO_ev, kInO2_ev, ev_lenO, kLenO_ev, ev_setA, ev_make, ev_callN,
  List.getElem?_cons_zero, List.getElem?_cons_succ, List.set_cons_zero, List.set_cons_succ, List.append_nil, List.nil_append, List.cons_append, List.length_cons, List.length_nil, if_true, if_false, Nat.reduceAdd, Nat.reduceEqDiff, Nat.zero_add, peek, ownD, ownL, putO, DL.putAll, Option.map_some, Option.bind_some, asDat, asL, asT, as1, asQ, seqD, decide_true, env0, env1, List.map_cons, List.map_nil, List.replicate, Nat.reduceSub, reduceCtorEq, reduceIte, iLt_ev, iLe_ev, iGt_ev, iGe_ev, iAdd_ev, iSub_ev, intF_i, intF_b, minF_ev, maxF_ev, absF_ev, lenF_l, lenF_t, lenF_sc, listF_l, listF_t, tupleF_t, boD_ev, ixF_l0, ixF_l1, ixF_l2, ixF_t0, ixF_t1, ixF_t2, mkTup_0, mkLst_0, mkTup_1, mkLst_1, mkTup_2, mkLst_2, mkTup_3, mkLst_3, mkTup_4, mkLst_4, mkTup_5, mkLst_5, slL_ev, slT_ev, slQ_l, slQ_t, revF_t, revF_l, gsNil_ev, gsCons_ev, out_ret, out_nx, outR_ret, outR_nx, noX_ok])
local macro_rules | `(tactic| walk_at "eva") => `(tactic| simp -implicitDefEqProofs only [and_self, bind_err, ev_raise, back_err, outR_err, ev_toldM, kTold_ok, kTold_err, ev_meth, kMeth_ev, kMeth2_ev, ev_eqO, kEqO_ev, kEqO2_ev, ev_errV, ev_dnew, bind_ok, bind_stuck, ev_ok, ev_of, ev_seq, kSeq_nx, kSeq_ret, kSeq_bk, kSeq_ct, ev_nx, ev_if, kIf_true, kIf_false, ev_var, kVar_fz, kVar_ow, ev_op, kOp_ev, ev_opB, kOpB_ev, ev_un, ev_chain, kCh_ev, ev_bd, ev_test, asB_b, ev_and, kAnd_t, kAnd_f, ev_or, kOr_t, kOr_f, ev_not, ev_andV, kAndV_t, kAndV_f, ev_orV, kOrV_t, kOrV_f, ev_notV, ev_nil, ev_cons, kCons_ev, ev_tup, ev_lst, ev_cb, ev_ret, ev_retN, ev_drop, ev_never, ev_asg, ev_setF, ev_gN, ev_callf, back_ok, ev_ixP, kIxP_ev, kIxP2_ev, ev_setIx, kSetIx_ev, kSetIx1_ev, ev_callP, kCallP_ev, kCallP2_ev, back1_ok, ev_pop, kOwn_ev, ev_app, ev_ext, ev_lenP, ev_eqP, kEqP_ev, kEqP2_ev, ev_inP, ev_nilO, ev_consF, ev_consO, kConsF_ev, kConsO_ev, ev_par, ev_for, ev_part, kPart_ev, ev_sl, kSl_ev, kSl2_ev, ev_m1, kM1_ev, ev_idx, kIdx_ev, ev_itL, ev_itT, ev_enL, ev_enT, ev_enQ, ev_fld, ev_prop, ev_inO, kInO_ev, kInO2_ev, ev_lenO, kLenO_ev, ev_setA, ev_make, ev_callN,
  List.getElem?_cons_zero, List.getElem?_cons_succ, List.set_cons_zero, List.set_cons_succ, List.append_nil, List.nil_append, List.cons_append, List.length_cons, List.length_nil, if_true, if_false, Nat.reduceAdd, Nat.reduceEqDiff, Nat.zero_add, peek, ownD, ownL, putO, DL.putAll, Option.map_some, Option.bind_some, asDat, asL, asT, as1, asQ, seqD, decide_true, env0, env1, List.map_cons, List.map_nil, List.replicate, Nat.reduceSub, reduceCtorEq, reduceIte, iLt_ev, iLe_ev, iGt_ev, iGe_ev, iAdd_ev, iSub_ev, intF_i, intF_b, minF_ev, maxF_ev, absF_ev, lenF_l, lenF_t, lenF_sc, listF_l, listF_t, tupleF_t, boD_ev, ixF_l0, ixF_l1, ixF_l2, ixF_t0, ixF_t1, ixF_t2, mkTup_0, mkLst_0, mkTup_1, mkLst_1, mkTup_2, mkLst_2, mkTup_3, mkLst_3, mkTup_4, mkLst_4, mkTup_5, mkLst_5, slL_ev, slT_ev, slQ_l, slQ_t, revF_t, revF_l, gsNil_ev, gsCons_ev, out_ret, out_nx, outR_ret, outR_nx, noX_ok, Bool.not_true, Bool.not_false, Bool.false_xor, Bool.true_xor, gT2_dat, gT3_dat, gT2_wk, gL3_dat, *])

namespace Q
open DL
end Q

open PySem PySem.Spec PyProof.Rows L2 MT DL
local macro_rules | `(tactic| walk_at "ev") => `(tactic| simp -implicitDefEqProofs only [and_self, bind_err, ev_raise, back_err, outR_err, ev_toldM, kTold_ok, kTold_err, ev_meth, kMeth_ev, kMeth2_ev, ev_eqO, kEqO_ev, kEqO2_ev, ev_errV, ev_dnew, bind_ok, bind_stuck, ev_ok, ev_of, ev_seq, kSeq_nx, kSeq_ret, kSeq_bk, kSeq_ct, ev_nx, ev_if, kIf_true, kIf_false, ev_var, kVar_fz, kVar_ow, ev_op, kOp_ev, ev_opB, kOpB_ev, ev_un, ev_chain, kCh_ev, ev_bd, ev_test, asB_b, ev_and, kAnd_t, kAnd_f, ev_or, kOr_t, kOr_f, ev_not, ev_andV, kAndV_t, kAndV_f, ev_orV, kOrV_t, kOrV_f, ev_notV, ev_nil, ev_cons, kCons_ev, ev_tup, ev_lst, ev_cb, ev_ret, ev_retN, ev_drop, ev_never, ev_asg, ev_setF, ev_gN, ev_callf, back_ok, ev_ixP, kIxP_ev, kIxP2_ev, ev_setIx, kSetIx_ev, kSetIx1_ev, ev_callP, kCallP_ev, kCallP2_ev, back1_ok, ev_pop, kOwn_ev, ev_app, ev_ext, ev_lenP, ev_eqP, kEqP_ev, kEqP2_ev, ev_inP, ev_nilO, ev_consF, ev_consO, kConsF_ev, kConsO_ev, ev_par, ev_for, ev_part, kPart_ev, ev_sl, kSl_ev, kSl2_ev, ev_m1, kM1_ev, ev_idx, kIdx_ev, ev_itL, ev_itT, ev_enL, ev_enT, ev_enQ, ev_fld, ev_prop, ev_inO, kInO_ev, kInO2_ev, ev_lenO, kLenO_ev, ev_setA, ev_make, ev_callN,
  List.getElem?_cons_zero, List.getElem?_cons_succ, List.set_cons_zero, List.set_cons_succ, List.append_nil, List.nil_append, List.cons_append, List.length_cons, List.length_nil, if_true, if_false, Nat.reduceAdd, Nat.reduceEqDiff, Nat.zero_add, peek, ownD, ownL, putO, DL.putAll, Option.map_some, Option.bind_some, asDat, asL, asT, as1, asQ, seqD, decide_true, env0, env1, List.map_cons, List.map_nil, List.replicate, Nat.reduceSub, reduceCtorEq, reduceIte, iLt_ev, iLe_ev, iGt_ev, iGe_ev, iAdd_ev, iSub_ev, intF_i, intF_b, minF_ev, maxF_ev, absF_ev, lenF_l, lenF_t, lenF_sc, listF_l, listF_t, tupleF_t, boD_ev, ixF_l0, ixF_l1, ixF_l2, ixF_t0, ixF_t1, ixF_t2, mkTup_0, mkLst_0, mkTup_1, mkLst_1, mkTup_2, mkLst_2, mkTup_3, mkLst_3, mkTup_4, mkLst_4, mkTup_5, mkLst_5, slL_ev, slT_ev, slQ_l, slQ_t, revF_t, revF_l, gsNil_ev, gsCons_ev, out_ret, out_nx, outR_ret, outR_nx, noX_ok])
local macro_rules | `(tactic| walk_at "eva") => `(tactic| simp -implicitDefEqProofs only [and_self, bind_err, ev_raise, back_err, outR_err, ev_toldM, kTold_ok, kTold_err, ev_meth, kMeth_ev, kMeth2_ev, ev_eqO, kEqO_ev, kEqO2_ev, ev_errV, ev_dnew, bind_ok, bind_stuck, ev_ok, ev_of, ev_seq, kSeq_nx, kSeq_ret, kSeq_bk, kSeq_ct, ev_nx, ev_if, kIf_true, kIf_false, ev_var, kVar_fz, kVar_ow, ev_op, kOp_ev, ev_opB, kOpB_ev, ev_un, ev_chain, kCh_ev, ev_bd, ev_test, asB_b, ev_and, kAnd_t, kAnd_f, ev_or, kOr_t, kOr_f, ev_not, ev_andV, kAndV_t, kAndV_f, ev_orV, kOrV_t, kOrV_f, ev_notV, ev_nil, ev_cons, kCons_ev, ev_tup, ev_lst, ev_cb, ev_ret, ev_retN, ev_drop, ev_never, ev_asg, ev_setF, ev_gN, ev_callf, back_ok, ev_ixP, kIxP_ev, kIxP2_ev, ev_setIx, kSetIx_ev, kSetIx1_ev, ev_callP, kCallP_ev, kCallP2_ev, back1_ok, ev_pop, kOwn_ev, ev_app, ev_ext, ev_lenP, ev_eqP, kEqP_ev, kEqP2_ev, ev_inP, ev_nilO, ev_consF, ev_consO, kConsF_ev, kConsO_ev, ev_par, ev_for, ev_part, kPart_ev, ev_sl, kSl_ev, kSl2_ev, ev_m1, kM1_ev, ev_idx, kIdx_ev, ev_itL, ev_itT, ev_enL, ev_enT, ev_enQ, ev_fld, ev_prop, ev_inO, kInO_ev, kInO2_ev, ev_lenO, kLenO_ev, ev_setA, ev_make, ev_callN,
  List.getElem?_cons_zero, List.getElem?_cons_succ, List.set_cons_zero, List.set_cons_succ, List.append_nil, List.nil_append, List.cons_append, List.length_cons, List.length_nil, if_true, if_false, Nat.reduceAdd, Nat.reduceEqDiff, Nat.zero_add, peek, ownD, ownL, putO, DL.putAll, Option.map_some, Option.bind_some, asDat, asL, asT, as1, asQ, seqD, decide_true, env0, env1, List.map_cons, List.map_nil, List.replicate, Nat.reduceSub, reduceCtorEq, reduceIte, iLt_ev, iLe_ev, iGt_ev, iGe_ev, iAdd_ev, iSub_ev, intF_i, intF_b, minF_ev, maxF_ev, absF_ev, lenF_l, lenF_t, lenF_sc, listF_l, listF_t, tupleF_t, boD_ev, ixF_l0, ixF_l1, ixF_l2, ixF_t0, ixF_t1, ixF_t2, mkTup_0, mkLst_0, mkTup_1, mkLst_1, mkTup_2, mkLst_2, mkTup_3, mkLst_3, mkTup_4, mkLst_4, mkTup_5, mkLst_5, slL_ev, slT_ev, slQ_l, slQ_t, revF_t, revF_l, gsNil_ev, gsCons_ev, out_ret, out_nx, outR_ret, outR_nx, noX_ok, Bool.not_true, Bool.not_false, Bool.false_xor, Bool.true_xor, gT2_dat, gT3_dat, gT2_wk, gL3_dat, *])

namespace Q
open DL
theorem le_most {n : Nat} (h : n ≤ 1000000) : n ≤ most := h
theorem map_erase {α β : Type} {f : α → β} : ∀ {l : List α} {i : Nat}, (l.map f).eraseIdx i = (l.eraseIdx i).map f
  | [], _ => by simp
  | _ :: _, 0 => by simp
  | a :: l, i + 1 => by simp [map_erase (l := l) (i := i)]
theorem erase_perm {α : Type} : ∀ {l : List α} {i : Nat} (h : i < l.length), (l[i] :: l.eraseIdx i).Perm l
  | a :: l, 0, _ => by simp
  | a :: l, i + 1, h => by
    have ih := erase_perm (l := l) (i := i) (by simpa using h)
    simp only [List.getElem_cons_succ, List.eraseIdx_cons_succ]
    exact (List.Perm.swap _ _ _).trans (ih.cons a)
/-! ### some of a pool -/
theorem some_loop {α : Type} {enc : α → PyData} {s1 s2 : SV} : ∀ {items : List D} {B : Nat} {p : D} {left : List α} {found : List PyData} {s5 : SV}, PotOk (B + items.length) p → items.length ≤ left.length → left.length ≤ 100000 → found.length + items.length ≤ 100000 →
    ∃ (es : List α) (left' : List α) (p' : D) (s5' : SV), forL (gN 5) (mDrop (mApp 4 (mCons (mPop 3 (mCons (mCallP 1 f_l_take 0 (mCons (mLenP 3) mNil)) mNil)) mNil))) items [.io p, s1, s2, .ow (dL (left.map enc)), .ow (dL found), s5] = .ok .nx [.io p', s1, s2, .ow (dL (left'.map enc)), .ow (dL (found ++ es.map enc)), s5'] ∧
      es.length = items.length ∧ (es ++ left').Perm left ∧ PotOk B p'
  | [], B, p, left, found, s5, hp, _, _, _ => ⟨[], left, p, s5, by simp [forL], rfl, .refl _, hp⟩
  | it :: items, B, p, left, found, s5, hp, hl, hz, hf => by
    rw [List.length_cons] at hp hl hf
    obtain ⟨r, p1, e, hr, hp1⟩ := take_ok (B := B + items.length) (n := left.length) (by rw [Nat.add_assoc]; exact hp) (by omega) (by omega)
    have hle : (left.eraseIdx r).length = left.length - 1 := by rw [List.length_eraseIdx, if_pos hr]
    obtain ⟨es, left', p', s5', ih, h1, h2, h3⟩ := some_loop (enc := enc) (s1 := s1) (s2 := s2) (items := items) (B := B) (p := p1) (left := left.eraseIdx r) (found := found ++ [enc left[r]]) (s5 := .fz it) hp1 (by omega) (by omega) (by simp; omega)
    refine ⟨left[r] :: es, left', p', s5', ?_, by simp [h1], ?_, h3⟩
    · unfold forL
      walk_at "ev"
      simp only [List.length_map]
      rw [e]
      walk_at "ev"
      rw [kPop_ev (d := enc left[r]) rfl (by rw [List.getElem?_map, List.getElem?_eq_getElem hr]; rfl) (by rw [List.length_map]; exact le_most (by omega))]
      walk_at "ev"
      rw [kApp_ev rfl (show found.length + 1 ≤ most from le_most (by omega))]
      walk_at "ev"
      rw [map_erase]
      rw [ih]
      simp
    · exact (List.Perm.cons _ h2).trans (erase_perm hr)
theorem some_a1 {x y : D} {p : D} {m : Nat} (hy : listF [x] = some y) : (mPar [3, 4] (mConsO (mCB listF (mCons (mVar 1) mNil)) (mConsO (mLst mNil) mNilO))) [.io p, .fz x, .fz (dI m), .no, .no, .no] = .ok .nx [.io p, .fz x, .fz (dI m), .ow y, .ow (dL []), .no] := by
  walk_at "ev"
  rw [hy]
  walk_at "ev"
theorem some_a2 {x y : D} {p : D} {m : Nat} (hm : m ≤ 1000000) : mRng1 (mCons (mVar 2) mNil) [.io p, .fz x, .fz (dI m), .ow y, .ow (dL []), .no] = .ok (rangeD 0 m) [.io p, .fz x, .fz (dI m), .ow y, .ow (dL []), .no] := by
  rw [ev_rng1 (δ' := [.io p, .fz x, .fz (dI m), .ow y, .ow (dL []), .no]) (n := m) (by walk_at "ev") hm]
theorem some_key {α : Type} {enc : α → PyData} {m : Nat} {p p' x : D} {xs es left' : List α} {s5' : SV} (hy : listF [x] = some (dL (xs.map enc))) (hm : m ≤ 1000000)
    (e : forL (gN 5) (mDrop (mApp 4 (mCons (mPop 3 (mCons (mCallP 1 f_l_take 0 (mCons (mLenP 3) mNil)) mNil)) mNil))) (rangeD 0 m) [.io p, .fz x, .fz (dI m), .ow (dL (xs.map enc)), .ow (dL []), .no] = .ok .nx [.io p', .fz x, .fz (dI m), .ow (dL (left'.map enc)), .ow (dL ([] ++ es.map enc)), s5']) :
    f_l_some p [x, dI m] = .ok (dL (es.map enc), p') := by
  have e0 : env1 6 p [x, dI m] = [.io p, .fz x, .fz (dI m), .no, .no, .no] := rfl
  unfold f_l_some sem1 m_l_some
  rw [e0, ev_seq, some_a1 hy, bind_ok, kSeq_nx, ev_seq, ev_for, some_a2 hm, bind_ok, e, bind_ok, kSeq_nx]
  walk_at "ev"
theorem some_enc {α : Type} {enc : α → PyData} {B m : Nat} {p x : D} {xs : List α} (hx : listF [x] = some (dL (xs.map enc))) (hp : PotOk (B + m) p) (hm : m ≤ xs.length) (hz : xs.length ≤ 100000) :
    ∃ (ys rest : List α) (p' : D), f_l_some p [x, dI m] = .ok (dL (ys.map enc), p') ∧ ys.length = m ∧ (ys ++ rest).Perm xs ∧ PotOk B p' := by
  have hr : (rangeD 0 m).length = m := by simp [rangeD]
  obtain ⟨es, left', p', s5', e, h1, h2, h3⟩ := some_loop (enc := enc) (s1 := .fz x) (s2 := .fz (dI m)) (items := rangeD 0 m) (B := B) (p := p) (left := xs) (found := []) (s5 := .no) (by rw [hr]; exact hp) (by rw [hr]; exact hm) hz (by rw [hr, List.length_nil]; omega)
  exact ⟨es, left', p', some_key hx (by omega) e, h1.trans hr, h2, h3⟩
end Q

open PySem PySem.Spec PyProof.Rows L2 MT DL
local macro_rules | `(tactic| walk_at "ev") => `(tactic| simp -implicitDefEqProofs only [and_self, bind_err, ev_raise, back_err, outR_err, ev_toldM, kTold_ok, kTold_err, ev_meth, kMeth_ev, kMeth2_ev, ev_eqO, kEqO_ev, kEqO2_ev, ev_errV, ev_dnew, bind_ok, bind_stuck, ev_ok, ev_of, ev_seq, kSeq_nx, kSeq_ret, kSeq_bk, kSeq_ct, ev_nx, ev_if, kIf_true, kIf_false, ev_var, kVar_fz, kVar_ow, ev_op, kOp_ev, ev_opB, kOpB_ev, ev_un, ev_chain, kCh_ev, ev_bd, ev_test, asB_b, ev_and, kAnd_t, kAnd_f, ev_or, kOr_t, kOr_f, ev_not, ev_andV, kAndV_t, kAndV_f, ev_orV, kOrV_t, kOrV_f, ev_notV, ev_nil, ev_cons, kCons_ev, ev_tup, ev_lst, ev_cb, ev_ret, ev_retN, ev_drop, ev_never, ev_asg, ev_setF, ev_gN, ev_callf, back_ok, ev_ixP, kIxP_ev, kIxP2_ev, ev_setIx, kSetIx_ev, kSetIx1_ev, ev_callP, kCallP_ev, kCallP2_ev, back1_ok, ev_pop, kOwn_ev, ev_app, ev_ext, ev_lenP, ev_eqP, kEqP_ev, kEqP2_ev, ev_inP, ev_nilO, ev_consF, ev_consO, kConsF_ev, kConsO_ev, ev_par, ev_for, ev_part, kPart_ev, ev_sl, kSl_ev, kSl2_ev, ev_m1, kM1_ev, ev_idx, kIdx_ev, ev_itL, ev_itT, ev_enL, ev_enT, ev_enQ, ev_fld, ev_prop, ev_inO, kInO_ev, kInO2_ev, ev_lenO, kLenO_ev, ev_setA, ev_make, ev_callN,
  List.getElem?_cons_zero, List.getElem?_cons_succ, List.set_cons_zero, List.set_cons_succ, List.append_nil, List.nil_append, List.cons_append, List.length_cons, List.length_nil, if_true, if_false, Nat.reduceAdd, Nat.reduceEqDiff, Nat.zero_add, peek, ownD, ownL, putO, DL.putAll, Option.map_some, Option.bind_some, asDat, asL, asT, as1, asQ, seqD, decide_true, env0, env1, List.map_cons, List.map_nil, List.replicate, Nat.reduceSub, reduceCtorEq, reduceIte, iLt_ev, iLe_ev, iGt_ev, iGe_ev, iAdd_ev, iSub_ev, intF_i, intF_b, minF_ev, maxF_ev, absF_ev, lenF_l, lenF_t, lenF_sc, listF_l, listF_t, tupleF_t, boD_ev, ixF_l0, ixF_l1, ixF_l2, ixF_t0, ixF_t1, ixF_t2, mkTup_0, mkLst_0, mkTup_1, mkLst_1, mkTup_2, mkLst_2, mkTup_3, mkLst_3, mkTup_4, mkLst_4, mkTup_5, mkLst_5, slL_ev, slT_ev, slQ_l, slQ_t, revF_t, revF_l, gsNil_ev, gsCons_ev, out_ret, out_nx, outR_ret, outR_nx, noX_ok])
local macro_rules | `(tactic| walk_at "eva") => `(tactic| simp -implicitDefEqProofs only [and_self, bind_err, ev_raise, back_err, outR_err, ev_toldM, kTold_ok, kTold_err, ev_meth, kMeth_ev, kMeth2_ev, ev_eqO, kEqO_ev, kEqO2_ev, ev_errV, ev_dnew, bind_ok, bind_stuck, ev_ok, ev_of, ev_seq, kSeq_nx, kSeq_ret, kSeq_bk, kSeq_ct, ev_nx, ev_if, kIf_true, kIf_false, ev_var, kVar_fz, kVar_ow, ev_op, kOp_ev, ev_opB, kOpB_ev, ev_un, ev_chain, kCh_ev, ev_bd, ev_test, asB_b, ev_and, kAnd_t, kAnd_f, ev_or, kOr_t, kOr_f, ev_not, ev_andV, kAndV_t, kAndV_f, ev_orV, kOrV_t, kOrV_f, ev_notV, ev_nil, ev_cons, kCons_ev, ev_tup, ev_lst, ev_cb, ev_ret, ev_retN, ev_drop, ev_never, ev_asg, ev_setF, ev_gN, ev_callf, back_ok, ev_ixP, kIxP_ev, kIxP2_ev, ev_setIx, kSetIx_ev, kSetIx1_ev, ev_callP, kCallP_ev, kCallP2_ev, back1_ok, ev_pop, kOwn_ev, ev_app, ev_ext, ev_lenP, ev_eqP, kEqP_ev, kEqP2_ev, ev_inP, ev_nilO, ev_consF, ev_consO, kConsF_ev, kConsO_ev, ev_par, ev_for, ev_part, kPart_ev, ev_sl, kSl_ev, kSl2_ev, ev_m1, kM1_ev, ev_idx, kIdx_ev, ev_itL, ev_itT, ev_enL, ev_enT, ev_enQ, ev_fld, ev_prop, ev_inO, kInO_ev, kInO2_ev, ev_lenO, kLenO_ev, ev_setA, ev_make, ev_callN,
  List.getElem?_cons_zero, List.getElem?_cons_succ, List.set_cons_zero, List.set_cons_succ, List.append_nil, List.nil_append, List.cons_append, List.length_cons, List.length_nil, if_true, if_false, Nat.reduceAdd, Nat.reduceEqDiff, Nat.zero_add, peek, ownD, ownL, putO, DL.putAll, Option.map_some, Option.bind_some, asDat, asL, asT, as1, asQ, seqD, decide_true, env0, env1, List.map_cons, List.map_nil, List.replicate, Nat.reduceSub, reduceCtorEq, reduceIte, iLt_ev, iLe_ev, iGt_ev, iGe_ev, iAdd_ev, iSub_ev, intF_i, intF_b, minF_ev, maxF_ev, absF_ev, lenF_l, lenF_t, lenF_sc, listF_l, listF_t, tupleF_t, boD_ev, ixF_l0, ixF_l1, ixF_l2, ixF_t0, ixF_t1, ixF_t2, mkTup_0, mkLst_0, mkTup_1, mkLst_1, mkTup_2, mkLst_2, mkTup_3, mkLst_3, mkTup_4, mkLst_4, mkTup_5, mkLst_5, slL_ev, slT_ev, slQ_l, slQ_t, revF_t, revF_l, gsNil_ev, gsCons_ev, out_ret, out_nx, outR_ret, outR_nx, noX_ok, Bool.not_true, Bool.not_false, Bool.false_xor, Bool.true_xor, gT2_dat, gT3_dat, gT2_wk, gL3_dat, *])

namespace Q
open DL
/-! ### drawn one behind another -/
theorem lcL_draw {α : Type} {enc : α → PyData} {P : α → Prop} {vs : List Nat} {g : D → DL.Env → Option DL.Env} {me : M D} {env : D → SV → DL.Env} {c : Nat} (hg : ∀ it p, g it (env p .no) = some (env p (.fz it))) (hw : ∀ p t, wipeD (env p t) vs = env p .no)
    (H : ∀ B p it, PotOk (B + c) p → ∃ (x : α) (p' : D), me (env p (.fz it)) = .ok (.dat (enc x)) (env p' (.fz it)) ∧ P x ∧ PotOk B p') :
    ∀ {items : List D} {acc : List PyData} {B : Nat} {p : D}, PotOk (B + c * items.length) p → ∃ (xs : List α) (p' : D), lcL vs g mYes me items acc (env p .no) = .ok (acc ++ xs.map enc) (env p' .no) ∧ xs.length = items.length ∧ (∀ x ∈ xs, P x) ∧ PotOk B p'
  | [], acc, B, p, hp => ⟨[], p, by simp [lcL], rfl, (fun _ h => by cases h), hp⟩
  | it :: items, acc, B, p, hp => by
    rw [List.length_cons, Nat.mul_add, Nat.mul_one, ← Nat.add_assoc] at hp
    obtain ⟨x, p1, e1, px, hp1⟩ := H (B + c * items.length) p it hp
    obtain ⟨xs, p2, e2, h1, h2, hp2⟩ := lcL_draw hg hw H (items := items) (acc := acc ++ [enc x]) hp1
    refine ⟨x :: xs, p2, ?_, by simp [h1], fun y hy => ?_, hp2⟩
    · unfold lcL
      rw [hg, ev_of, bind_ok, show mYes (env p (.fz it)) = .ok true (env p (.fz it)) from rfl, bind_ok, if_pos rfl, e1, bind_ok]
      show (mOf (some (enc x)) _).bind _ = _
      rw [ev_of, bind_ok, hw, e2]
      simp
    · rcases List.mem_cons.mp hy with rfl | hy
      · exact px
      · exact h2 y hy
/-- [.. for lap in range(n)] -/
theorem lc_draw {α : Type} {enc : α → PyData} {P : α → Prop} {vs : List Nat} {g : D → DL.Env → Option DL.Env} {me : M D} {env : D → SV → DL.Env} {c : Nat} (n : Nat) (hn : n ≤ 1000) (hg : ∀ it p, g it (env p .no) = some (env p (.fz it))) (hw : ∀ p t, wipeD (env p t) vs = env p .no) (hu : ∀ p p', unwipe (env p .no) (env p' .no) vs = env p' .no)
    (H : ∀ B p it, PotOk (B + c) p → ∃ (x : α) (p' : D), me (env p (.fz it)) = .ok (.dat (enc x)) (env p' (.fz it)) ∧ P x ∧ PotOk B p') {B : Nat} {p : D} {m : M (List D)} (hm : m (env p .no) = .ok [dI (n : Nat)] (env p .no)) (hp : PotOk (B + c * n) p) :
    ∃ (xs : List α) (p' : D), mLc vs (mRng1 m) g mYes me (env p .no) = .ok (dL (xs.map enc)) (env p' .no) ∧ xs.length = n ∧ (∀ x ∈ xs, P x) ∧ PotOk B p' := by
  have hr : (rangeD 0 n).length = n := by simp [rangeD]
  obtain ⟨xs, p', e, h1, h2, h3⟩ := lcL_draw hg hw H (items := rangeD 0 n) (acc := []) (B := B) (p := p) (by rw [hr]; exact hp)
  refine ⟨xs, p', ?_, h1.trans hr, h2, h3⟩
  rw [ev_lc (items := rangeD 0 n) (r := xs.map enc) (δ1 := env p .no) (δ2 := env p' .no) (ev_rng1 (n := n) hm (by omega)) (by rw [hr]; exact le_most (by omega)) (by rw [hw]; simpa using e), hu]
end Q

open PySem PySem.Spec PyProof.Rows L2 MT DL
local macro_rules | `(tactic| walk_at "ev") => `(tactic| simp -implicitDefEqProofs only [and_self, bind_err, ev_raise, back_err, outR_err, ev_toldM, kTold_ok, kTold_err, ev_meth, kMeth_ev, kMeth2_ev, ev_eqO, kEqO_ev, kEqO2_ev, ev_errV, ev_dnew, bind_ok, bind_stuck, ev_ok, ev_of, ev_seq, kSeq_nx, kSeq_ret, kSeq_bk, kSeq_ct, ev_nx, ev_if, kIf_true, kIf_false, ev_var, kVar_fz, kVar_ow, ev_op, kOp_ev, ev_opB, kOpB_ev, ev_un, ev_chain, kCh_ev, ev_bd, ev_test, asB_b, ev_and, kAnd_t, kAnd_f, ev_or, kOr_t, kOr_f, ev_not, ev_andV, kAndV_t, kAndV_f, ev_orV, kOrV_t, kOrV_f, ev_notV, ev_nil, ev_cons, kCons_ev, ev_tup, ev_lst, ev_cb, ev_ret, ev_retN, ev_drop, ev_never, ev_asg, ev_setF, ev_gN, ev_callf, back_ok, ev_ixP, kIxP_ev, kIxP2_ev, ev_setIx, kSetIx_ev, kSetIx1_ev, ev_callP, kCallP_ev, kCallP2_ev, back1_ok, ev_pop, kOwn_ev, ev_app, ev_ext, ev_lenP, ev_eqP, kEqP_ev, kEqP2_ev, ev_inP, ev_nilO, ev_consF, ev_consO, kConsF_ev, kConsO_ev, ev_par, ev_for, ev_part, kPart_ev, ev_sl, kSl_ev, kSl2_ev, ev_m1, kM1_ev, ev_idx, kIdx_ev, ev_itL, ev_itT, ev_enL, ev_enT, ev_enQ, ev_fld, ev_prop, ev_inO, kInO_ev, kInO2_ev, ev_lenO, kLenO_ev, ev_setA, ev_make, ev_callN,
  List.getElem?_cons_zero, List.getElem?_cons_succ, List.set_cons_zero, List.set_cons_succ, List.append_nil, List.nil_append, List.cons_append, List.length_cons, List.length_nil, if_true, if_false, Nat.reduceAdd, Nat.reduceEqDiff, Nat.zero_add, peek, ownD, ownL, putO, DL.putAll, Option.map_some, Option.bind_some, asDat, asL, asT, as1, asQ, seqD, decide_true, env0, env1, List.map_cons, List.map_nil, List.replicate, Nat.reduceSub, reduceCtorEq, reduceIte, iLt_ev, iLe_ev, iGt_ev, iGe_ev, iAdd_ev, iSub_ev, intF_i, intF_b, minF_ev, maxF_ev, absF_ev, lenF_l, lenF_t, lenF_sc, listF_l, listF_t, tupleF_t, boD_ev, ixF_l0, ixF_l1, ixF_l2, ixF_t0, ixF_t1, ixF_t2, mkTup_0, mkLst_0, mkTup_1, mkLst_1, mkTup_2, mkLst_2, mkTup_3, mkLst_3, mkTup_4, mkLst_4, mkTup_5, mkLst_5, slL_ev, slT_ev, slQ_l, slQ_t, revF_t, revF_l, gsNil_ev, gsCons_ev, out_ret, out_nx, outR_ret, outR_nx, noX_ok])
local macro_rules | `(tactic| walk_at "eva") => `(tactic| simp -implicitDefEqProofs only [and_self, bind_err, ev_raise, back_err, outR_err, ev_toldM, kTold_ok, kTold_err, ev_meth, kMeth_ev, kMeth2_ev, ev_eqO, kEqO_ev, kEqO2_ev, ev_errV, ev_dnew, bind_ok, bind_stuck, ev_ok, ev_of, ev_seq, kSeq_nx, kSeq_ret, kSeq_bk, kSeq_ct, ev_nx, ev_if, kIf_true, kIf_false, ev_var, kVar_fz, kVar_ow, ev_op, kOp_ev, ev_opB, kOpB_ev, ev_un, ev_chain, kCh_ev, ev_bd, ev_test, asB_b, ev_and, kAnd_t, kAnd_f, ev_or, kOr_t, kOr_f, ev_not, ev_andV, kAndV_t, kAndV_f, ev_orV, kOrV_t, kOrV_f, ev_notV, ev_nil, ev_cons, kCons_ev, ev_tup, ev_lst, ev_cb, ev_ret, ev_retN, ev_drop, ev_never, ev_asg, ev_setF, ev_gN, ev_callf, back_ok, ev_ixP, kIxP_ev, kIxP2_ev, ev_setIx, kSetIx_ev, kSetIx1_ev, ev_callP, kCallP_ev, kCallP2_ev, back1_ok, ev_pop, kOwn_ev, ev_app, ev_ext, ev_lenP, ev_eqP, kEqP_ev, kEqP2_ev, ev_inP, ev_nilO, ev_consF, ev_consO, kConsF_ev, kConsO_ev, ev_par, ev_for, ev_part, kPart_ev, ev_sl, kSl_ev, kSl2_ev, ev_m1, kM1_ev, ev_idx, kIdx_ev, ev_itL, ev_itT, ev_enL, ev_enT, ev_enQ, ev_fld, ev_prop, ev_inO, kInO_ev, kInO2_ev, ev_lenO, kLenO_ev, ev_setA, ev_make, ev_callN,
  List.getElem?_cons_zero, List.getElem?_cons_succ, List.set_cons_zero, List.set_cons_succ, List.append_nil, List.nil_append, List.cons_append, List.length_cons, List.length_nil, if_true, if_false, Nat.reduceAdd, Nat.reduceEqDiff, Nat.zero_add, peek, ownD, ownL, putO, DL.putAll, Option.map_some, Option.bind_some, asDat, asL, asT, as1, asQ, seqD, decide_true, env0, env1, List.map_cons, List.map_nil, List.replicate, Nat.reduceSub, reduceCtorEq, reduceIte, iLt_ev, iLe_ev, iGt_ev, iGe_ev, iAdd_ev, iSub_ev, intF_i, intF_b, minF_ev, maxF_ev, absF_ev, lenF_l, lenF_t, lenF_sc, listF_l, listF_t, tupleF_t, boD_ev, ixF_l0, ixF_l1, ixF_l2, ixF_t0, ixF_t1, ixF_t2, mkTup_0, mkLst_0, mkTup_1, mkLst_1, mkTup_2, mkLst_2, mkTup_3, mkLst_3, mkTup_4, mkLst_4, mkTup_5, mkLst_5, slL_ev, slT_ev, slQ_l, slQ_t, revF_t, revF_l, gsNil_ev, gsCons_ev, out_ret, out_nx, outR_ret, outR_nx, noX_ok, Bool.not_true, Bool.not_false, Bool.false_xor, Bool.true_xor, gT2_dat, gT3_dat, gT2_wk, gL3_dat, *])

namespace Q
open DL
/-! ### names -/
def pool : List Str := ["a", "b", "c", "ann", "bob", "met", "open", "people", "heard", "in", "out", "zzzzzzzz", "x", "not"]
theorem pool_nd : pool.Nodup := by decide +kernel
def poolM : M D := (mLst (mCons (mOk (.dat (.str "a"))) (mCons (mOk (.dat (.str "b"))) (mCons (mOk (.dat (.str "c"))) (mCons (mOk (.dat (.str "ann"))) (mCons (mOk (.dat (.str "bob"))) (mCons (mOk (.dat (.str "met"))) (mCons (mOk (.dat (.str "open"))) (mCons (mOk (.dat (.str "people"))) (mCons (mOk (.dat (.str "heard"))) (mCons (mOk (.dat (.str "in"))) (mCons (mOk (.dat (.str "out"))) (mCons (mOk (.dat (.str "zzzzzzzz"))) (mCons (mOk (.dat (.str "x"))) (mCons (mOk (.dat (.str "not"))) mNil)))))))))))))))
theorem poolM_ev {δ : DL.Env} : poolM δ = .ok (dL (pool.map .str)) δ := by
  unfold poolM
  walk_at "ev"
  rfl
theorem names_b {p p' x d : D} {m : Nat} (e : f_l_some p [x, dI m] = .ok (d, p')) : (mRet (mCallP 2 f_l_some 0 (mCons (mVar 2) (mCons (mVar 1) mNil)))) [.io p, .fz (dI m), .fz x] = .ok (.ret d) [.io p', .fz (dI m), .fz x] := by
  walk_at "ev"
  rw [e]
  walk_at "ev"
theorem names_k {p p' d : D} {m : Nat} (e : f_l_some p [dL (pool.map .str), dI m] = .ok (d, p')) : f_l_names p [dI m] = .ok (d, p') := by
  have e0 : env1 3 p [dI m] = [.io p, .fz (dI m), .no] := rfl
  show outR1 (mSeq (mAsg poolM (gN 2)) (mRet (mCallP 2 f_l_some 0 (mCons (mVar 2) (mCons (mVar 1) mNil)))) (env1 3 p [dI m])) = _
  rw [e0, ev_seq, ev_asg, poolM_ev, bind_ok, ev_gN, ev_of, bind_ok, bind_ok, kSeq_nx]
  rw [show ([SV.io p, .fz (dI m), .no].set 2 (.fz (dL (pool.map .str)))) = [.io p, .fz (dI m), .fz (dL (pool.map .str))] from rfl, names_b e, out_ret]
theorem names_ok {B m : Nat} {p : D} (hp : PotOk (B + m) p) (hm : m ≤ 14) : ∃ (ns : List Str) (p' : D), f_l_names p [dI m] = .ok (dL (ns.map .str), p') ∧ ns.length = m ∧ ns.Nodup ∧ (∀ n ∈ ns, n ∈ pool) ∧ PotOk B p' := by
  have pl : pool.length = 14 := rfl
  obtain ⟨ys, rest, p', e, h1, h2, h3⟩ := some_enc (enc := PyData.str) (x := dL (pool.map .str)) (xs := pool) rfl hp (by rw [pl]; exact hm) (by rw [pl]; omega)
  exact ⟨ys, p', names_k e, h1, (List.nodup_append.mp (h2.nodup_iff.mpr pool_nd)).1, fun n hn => h2.mem_iff.mp (List.mem_append_left _ hn), h3⟩
/-! ### texts as data -/
def SOk (s : Str) : Prop := PyData.strOk s = true
theorem canAll_strs : ∀ {ws : List Str}, (∀ s ∈ ws, SOk s) → PyData.canLayAll0 (ws.map .str) = true ∧ PyData.depthAll (ws.map .str) = 0
  | [], _ => by simp [PyData.canLayAll0, PyData.depthAll]
  | w :: ws, h => by
    have ih := canAll_strs (ws := ws) fun s hs => h s (.tail _ hs)
    have h1 : PyData.strOk w = true := h w (.head _)
    simp only [List.map_cons, PyData.canLayAll0, PyData.depthAll, ih.1, ih.2, PyData.canLay0, PyData.depth, h1]
    simp
theorem shaped_str {s : Str} (h : SOk s) : SeqAt.shaped (.str s) = true := by
  have h : PyData.strOk s = true := h
  simp [SeqAt.shaped, PyData.canLay0, PyData.depth, h]
theorem shaped_strs {ws : List Str} (h : ∀ s ∈ ws, SOk s) : SeqAt.shaped (.list (ws.map .str)) = true := by
  have := canAll_strs h
  simp [SeqAt.shaped, PyData.canLay0, PyData.depth, this.1, this.2]
theorem shaped_strsT {ws : List Str} (h : ∀ s ∈ ws, SOk s) : SeqAt.shaped (.tuple (ws.map .str)) = true := by
  have := canAll_strs h
  simp [SeqAt.shaped, PyData.canLay0, PyData.depth, this.1, this.2]
theorem eqv_str {a b : Str} : PyData.eqv (.str a) (.str b) = decide (a = b) := by
  show (a == b) = _
  by_cases h : a = b
  · simp [h]
  · simp [h]
theorem any_strs {ws : List Str} {s : Str} : ((ws.map PyData.str).any fun z => PyData.eqv z (.str s)) = decide (s ∈ ws) := by
  rw [List.any_map]
  induction ws with
  | nil => simp
  | cons w ws ih =>
    rw [List.any_cons, ih]
    show (PyData.eqv (.str w) (.str s) || decide (s ∈ ws)) = _
    rw [eqv_str]
    by_cases h : w = s
    · simp [h]
    · have : ¬ s = w := fun z => h z.symm
      simp [h, this]
theorem eqv_nil {l : List PyData} : PyData.eqv (.list l) (.list []) = decide (l = []) := by
  cases l <;> simp [PyData.eqv, PyData.eqvAll]
theorem shaped_nil : SeqAt.shaped (.list []) = true := by decide
/-! ### timelines -/
abbrev Ev := Str × Bool
def wordB (o : Bool) : Str := if o then "out" else "in"
def evD (e : Ev) : PyData := .tuple [.str e.1, .str (wordB e.2)]
def evsFrom (known : List Str) : List Str → List Ev
  | [] => []
  | w :: ws => (w, decide (w ∈ known)) :: evsFrom (known ++ [w]) ws
theorem evsFrom_len {known ws : List Str} : (evsFrom known ws).length = ws.length := by
  induction ws generalizing known with
  | nil => rfl
  | cons w ws ih => simp [evsFrom, ih]
end Q

open PySem PySem.Spec PyProof.Rows L2 MT DL
local macro_rules | `(tactic| walk_at "ev") => `(tactic| simp -implicitDefEqProofs only [and_self, bind_err, ev_raise, back_err, outR_err, ev_toldM, kTold_ok, kTold_err, ev_meth, kMeth_ev, kMeth2_ev, ev_eqO, kEqO_ev, kEqO2_ev, ev_errV, ev_dnew, bind_ok, bind_stuck, ev_ok, ev_of, ev_seq, kSeq_nx, kSeq_ret, kSeq_bk, kSeq_ct, ev_nx, ev_if, kIf_true, kIf_false, ev_var, kVar_fz, kVar_ow, ev_op, kOp_ev, ev_opB, kOpB_ev, ev_un, ev_chain, kCh_ev, ev_bd, ev_test, asB_b, ev_and, kAnd_t, kAnd_f, ev_or, kOr_t, kOr_f, ev_not, ev_andV, kAndV_t, kAndV_f, ev_orV, kOrV_t, kOrV_f, ev_notV, ev_nil, ev_cons, kCons_ev, ev_tup, ev_lst, ev_cb, ev_ret, ev_retN, ev_drop, ev_never, ev_asg, ev_setF, ev_gN, ev_callf, back_ok, ev_ixP, kIxP_ev, kIxP2_ev, ev_setIx, kSetIx_ev, kSetIx1_ev, ev_callP, kCallP_ev, kCallP2_ev, back1_ok, ev_pop, kOwn_ev, ev_app, ev_ext, ev_lenP, ev_eqP, kEqP_ev, kEqP2_ev, ev_inP, ev_nilO, ev_consF, ev_consO, kConsF_ev, kConsO_ev, ev_par, ev_for, ev_part, kPart_ev, ev_sl, kSl_ev, kSl2_ev, ev_m1, kM1_ev, ev_idx, kIdx_ev, ev_itL, ev_itT, ev_enL, ev_enT, ev_enQ, ev_fld, ev_prop, ev_inO, kInO_ev, kInO2_ev, ev_lenO, kLenO_ev, ev_setA, ev_make, ev_callN,
  List.getElem?_cons_zero, List.getElem?_cons_succ, List.set_cons_zero, List.set_cons_succ, List.append_nil, List.nil_append, List.cons_append, List.length_cons, List.length_nil, if_true, if_false, Nat.reduceAdd, Nat.reduceEqDiff, Nat.zero_add, peek, ownD, ownL, putO, DL.putAll, Option.map_some, Option.bind_some, asDat, asL, asT, as1, asQ, seqD, decide_true, env0, env1, List.map_cons, List.map_nil, List.replicate, Nat.reduceSub, reduceCtorEq, reduceIte, iLt_ev, iLe_ev, iGt_ev, iGe_ev, iAdd_ev, iSub_ev, intF_i, intF_b, minF_ev, maxF_ev, absF_ev, lenF_l, lenF_t, lenF_sc, listF_l, listF_t, tupleF_t, boD_ev, ixF_l0, ixF_l1, ixF_l2, ixF_t0, ixF_t1, ixF_t2, mkTup_0, mkLst_0, mkTup_1, mkLst_1, mkTup_2, mkLst_2, mkTup_3, mkLst_3, mkTup_4, mkLst_4, mkTup_5, mkLst_5, slL_ev, slT_ev, slQ_l, slQ_t, revF_t, revF_l, gsNil_ev, gsCons_ev, out_ret, out_nx, outR_ret, outR_nx, noX_ok])
local macro_rules | `(tactic| walk_at "eva") => `(tactic| simp -implicitDefEqProofs only [and_self, bind_err, ev_raise, back_err, outR_err, ev_toldM, kTold_ok, kTold_err, ev_meth, kMeth_ev, kMeth2_ev, ev_eqO, kEqO_ev, kEqO2_ev, ev_errV, ev_dnew, bind_ok, bind_stuck, ev_ok, ev_of, ev_seq, kSeq_nx, kSeq_ret, kSeq_bk, kSeq_ct, ev_nx, ev_if, kIf_true, kIf_false, ev_var, kVar_fz, kVar_ow, ev_op, kOp_ev, ev_opB, kOpB_ev, ev_un, ev_chain, kCh_ev, ev_bd, ev_test, asB_b, ev_and, kAnd_t, kAnd_f, ev_or, kOr_t, kOr_f, ev_not, ev_andV, kAndV_t, kAndV_f, ev_orV, kOrV_t, kOrV_f, ev_notV, ev_nil, ev_cons, kCons_ev, ev_tup, ev_lst, ev_cb, ev_ret, ev_retN, ev_drop, ev_never, ev_asg, ev_setF, ev_gN, ev_callf, back_ok, ev_ixP, kIxP_ev, kIxP2_ev, ev_setIx, kSetIx_ev, kSetIx1_ev, ev_callP, kCallP_ev, kCallP2_ev, back1_ok, ev_pop, kOwn_ev, ev_app, ev_ext, ev_lenP, ev_eqP, kEqP_ev, kEqP2_ev, ev_inP, ev_nilO, ev_consF, ev_consO, kConsF_ev, kConsO_ev, ev_par, ev_for, ev_part, kPart_ev, ev_sl, kSl_ev, kSl2_ev, ev_m1, kM1_ev, ev_idx, kIdx_ev, ev_itL, ev_itT, ev_enL, ev_enT, ev_enQ, ev_fld, ev_prop, ev_inO, kInO_ev, kInO2_ev, ev_lenO, kLenO_ev, ev_setA, ev_make, ev_callN,
  List.getElem?_cons_zero, List.getElem?_cons_succ, List.set_cons_zero, List.set_cons_succ, List.append_nil, List.nil_append, List.cons_append, List.length_cons, List.length_nil, if_true, if_false, Nat.reduceAdd, Nat.reduceEqDiff, Nat.zero_add, peek, ownD, ownL, putO, DL.putAll, Option.map_some, Option.bind_some, asDat, asL, asT, as1, asQ, seqD, decide_true, env0, env1, List.map_cons, List.map_nil, List.replicate, Nat.reduceSub, reduceCtorEq, reduceIte, iLt_ev, iLe_ev, iGt_ev, iGe_ev, iAdd_ev, iSub_ev, intF_i, intF_b, minF_ev, maxF_ev, absF_ev, lenF_l, lenF_t, lenF_sc, listF_l, listF_t, tupleF_t, boD_ev, ixF_l0, ixF_l1, ixF_l2, ixF_t0, ixF_t1, ixF_t2, mkTup_0, mkLst_0, mkTup_1, mkLst_1, mkTup_2, mkLst_2, mkTup_3, mkLst_3, mkTup_4, mkLst_4, mkTup_5, mkLst_5, slL_ev, slT_ev, slQ_l, slQ_t, revF_t, revF_l, gsNil_ev, gsCons_ev, out_ret, out_nx, outR_ret, outR_nx, noX_ok, Bool.not_true, Bool.not_false, Bool.false_xor, Bool.true_xor, gT2_dat, gT3_dat, gT2_wk, gL3_dat, *])

namespace Q
open DL
/-! ### events -/
theorem wordB_inj {a b : Bool} : (wordB a = wordB b) ↔ a = b := by
  cases a <;> cases b <;> simp [wordB] <;> decide
theorem eqv_ev {a b : Ev} : PyData.eqv (evD a) (evD b) = decide (a = b) := by
  obtain ⟨n, o⟩ := a
  obtain ⟨m, q⟩ := b
  simp only [evD, PyData.eqv, PyData.eqvAll, Bool.and_true]
  have h1 : (n == m) = decide (n = m) := by by_cases h : n = m <;> simp [h]
  have h2 : (wordB o == wordB q) = decide (o = q) := by
    by_cases h : o = q
    · simp [h]
    · have : ¬ wordB o = wordB q := fun z => h (wordB_inj.mp z)
      simp [h, this]
  rw [h1, h2, ← Bool.decide_and]
  simp [Prod.mk.injEq]
theorem evD_inj {a b : Ev} (h : evD a = evD b) : a = b := by
  have := eqv_ev (a := a) (b := b)
  rw [h, eqv_ev] at this
  simpa using this
theorem idx_ev {e : Ev} : ∀ {l : List Ev}, e ∈ l → idxD (evD e) (l.map evD) = some (l.idxOf e)
  | x :: l, h => by
    rw [List.map_cons]
    unfold idxD
    rw [eqv_ev, List.idxOf_cons]
    by_cases hx : x = e
    · simp [hx]
    · have he : e ∈ l := by
        rcases List.mem_cons.mp h with h | h
        · exact absurd h.symm hx
        · exact h
      have hb : (x == e) = false := by simpa using hx
      simp [hx, hb, idx_ev he]
theorem wordB_ok (o : Bool) : SOk (wordB o) := by
  show PyData.strOk (wordB o) = true
  cases o <;> decide +kernel
theorem can_evs : ∀ {l : List Ev}, (∀ e ∈ l, SOk e.1) → PyData.canLayAll0 (l.map evD) = true ∧ PyData.depthAll (l.map evD) ≤ 1
  | [], _ => by simp [PyData.canLayAll0, PyData.depthAll]
  | e :: l, h => by
    have ih := can_evs (l := l) fun x hx => h x (.tail _ hx)
    have h1 : PyData.strOk e.1 = true := h e (.head _)
    have h2 : PyData.strOk (wordB e.2) = true := wordB_ok _
    refine ⟨?_, ?_⟩
    · simp only [List.map_cons, PyData.canLayAll0, ih.1, Bool.and_true]
      simp [evD, PyData.canLay0, PyData.canLayAll0, h1, h2]
    · simp only [List.map_cons, PyData.depthAll]
      have : (evD e).depth ≤ 1 := by simp [evD, PyData.depth, PyData.depthAll]
      omega
theorem shaped_evs {l : List Ev} (h : ∀ e ∈ l, SOk e.1) : SeqAt.shaped (.tuple (l.map evD)) = true := by
  have := can_evs h
  have h2 := this.2
  simp [SeqAt.shaped, PyData.canLay0, PyData.depth, this.1]
  omega
theorem shaped_ev {e : Ev} (h : SOk e.1) : SeqAt.shaped (evD e) = true := by
  have h1 : PyData.strOk e.1 = true := h
  have h2 : PyData.strOk (wordB e.2) = true := wordB_ok _
  simp [SeqAt.shaped, evD, PyData.canLay0, PyData.canLayAll0, PyData.depth, PyData.depthAll, h1, h2]
/-- t.index((name, word)) -/
theorem idxF_ev {l : List Ev} {e : Ev} (h : e ∈ l) (hs : ∀ e ∈ l, SOk e.1) : idxF (dT (l.map evD)) [.dat (evD e)] = some (dI (l.idxOf e : Nat)) := by
  show (if (SeqAt.shaped (.tuple (l.map evD)) && SeqAt.shaped (evD e)) = true then (idxD (evD e) (l.map evD)).map fun j => D.dat (.int (j : Nat)) else none) = _
  rw [shaped_evs hs, shaped_ev (hs e h), idx_ev h]
  rfl
theorem any_ev {l : List Ev} {e : Ev} : ((l.map evD).any fun z => PyData.eqv z (evD e)) = decide (e ∈ l) := by
  rw [List.any_map]
  induction l with
  | nil => simp
  | cons x l ih =>
    rw [List.any_cons, ih]
    show (PyData.eqv (evD x) (evD e) || decide (e ∈ l)) = _
    rw [eqv_ev]
    by_cases h : x = e
    · simp [h]
    · have : ¬ e = x := fun z => h z.symm
      simp [h, this]
/-! ### drawn timelines are timelines -/
structure IsLine (people : List Str) (l : List Ev) : Prop where
  nd : l.Nodup
  mem : ∀ n ∈ people, ∀ o, (n, o) ∈ l
  of : ∀ e ∈ l, e.1 ∈ people
  len : l.length = 2 * people.length
  ord : ∀ n ∈ people, l.idxOf (n, false) < l.idxOf (n, true)
theorem count_true {w : Str} : ∀ {ws known : List Str}, (evsFrom known ws).count (w, true) = if w ∈ known then ws.count w else ws.count w - 1
  | [], known => by simp [evsFrom]
  | x :: ws, known => by
    have ih := count_true (w := w) (ws := ws) (known := known ++ [x])
    rw [evsFrom, List.count_cons, List.count_cons, ih]
    by_cases hx : x = w
    · subst hx
      by_cases hk : x ∈ known
      · simp [hk]
      · simp [hk]
    · have hne : ¬ w = x := fun z => hx z.symm
      have hb : ((x, decide (x ∈ known)) == (w, true)) = false := by simp [hx]
      have hb2 : (x == w) = false := by simpa using hx
      simp [hne, hb, hb2, hx]
theorem count_false {w : Str} : ∀ {ws known : List Str}, (evsFrom known ws).count (w, false) = if w ∈ known then 0 else min 1 (ws.count w)
  | [], known => by simp [evsFrom]
  | x :: ws, known => by
    have ih := count_false (w := w) (ws := ws) (known := known ++ [x])
    rw [evsFrom, List.count_cons, List.count_cons, ih]
    by_cases hx : x = w
    · subst hx
      by_cases hk : x ∈ known
      · simp [hk]
      · simp [hk]
    · have hne : ¬ w = x := fun z => hx z.symm
      have hb : ((x, decide (x ∈ known)) == (w, false)) = false := by simp [hx]
      have hb2 : (x == w) = false := by simpa using hx
      simp [hne, hb, hb2, hx]
theorem idx_lt {w : Str} : ∀ {ws known : List Str}, w ∉ known → w ∈ ws → (evsFrom known ws).idxOf (w, false) < (evsFrom known ws).idxOf (w, true)
  | x :: ws, known, hk, hw => by
    rw [evsFrom, List.idxOf_cons, List.idxOf_cons]
    by_cases hx : x = w
    · subst hx
      have hb : ((x, false) == (x, true)) = false := by simp
      simp [hk, hb]
    · have hw' : w ∈ ws := by
        rcases List.mem_cons.mp hw with h | h
        · exact absurd h.symm hx
        · exact h
      have ih := idx_lt (w := w) (ws := ws) (known := known ++ [x]) (by simp [hk]; exact fun z => hx z.symm) hw'
      have hb1 : ((x, decide (x ∈ known)) == (w, false)) = false := by simp [hx]
      have hb2 : ((x, decide (x ∈ known)) == (w, true)) = false := by simp [hx]
      rw [hb1, hb2]
      simpa using ih
theorem evs_line {people ws : List Str} (nd : people.Nodup) (h : ws.Perm (people ++ people)) : IsLine people (evsFrom [] ws) := by
  have hc : ∀ w, ws.count w = 2 * people.count w := fun w => by rw [h.count_eq, List.count_append]; omega
  have h1 : ∀ w, people.count w ≤ 1 := fun w => List.nodup_iff_count.mp nd w
  have hcc : ∀ w o, (evsFrom [] ws).count (w, o) = people.count w := fun w o => by
    have a := hc w
    have b := h1 w
    cases o with
    | true => rw [count_true]; simp; omega
    | false => rw [count_false]; simp; omega
  refine ⟨List.nodup_iff_count.mpr fun e => by rw [hcc]; exact h1 _, fun n hn o => ?_, fun e he => ?_, ?_, fun n hn => idx_lt (by simp) ?_⟩
  · exact List.count_pos_iff.mp (by rw [hcc]; exact List.count_pos_iff.mpr hn)
  · have : 0 < (evsFrom [] ws).count (e.1, e.2) := List.count_pos_iff.mpr he
    rw [hcc] at this
    exact List.count_pos_iff.mp this
  · rw [evsFrom_len, h.length_eq, List.length_append]; omega
  · exact h.mem_iff.mpr (List.mem_append_left _ hn)
end Q

open PySem PySem.Spec PyProof.Rows L2 MT DL
local macro_rules | `(tactic| walk_at "ev") => `(tactic| simp -implicitDefEqProofs only [and_self, bind_err, ev_raise, back_err, outR_err, ev_toldM, kTold_ok, kTold_err, ev_meth, kMeth_ev, kMeth2_ev, ev_eqO, kEqO_ev, kEqO2_ev, ev_errV, ev_dnew, bind_ok, bind_stuck, ev_ok, ev_of, ev_seq, kSeq_nx, kSeq_ret, kSeq_bk, kSeq_ct, ev_nx, ev_if, kIf_true, kIf_false, ev_var, kVar_fz, kVar_ow, ev_op, kOp_ev, ev_opB, kOpB_ev, ev_un, ev_chain, kCh_ev, ev_bd, ev_test, asB_b, ev_and, kAnd_t, kAnd_f, ev_or, kOr_t, kOr_f, ev_not, ev_andV, kAndV_t, kAndV_f, ev_orV, kOrV_t, kOrV_f, ev_notV, ev_nil, ev_cons, kCons_ev, ev_tup, ev_lst, ev_cb, ev_ret, ev_retN, ev_drop, ev_never, ev_asg, ev_setF, ev_gN, ev_callf, back_ok, ev_ixP, kIxP_ev, kIxP2_ev, ev_setIx, kSetIx_ev, kSetIx1_ev, ev_callP, kCallP_ev, kCallP2_ev, back1_ok, ev_pop, kOwn_ev, ev_app, ev_ext, ev_lenP, ev_eqP, kEqP_ev, kEqP2_ev, ev_inP, ev_nilO, ev_consF, ev_consO, kConsF_ev, kConsO_ev, ev_par, ev_for, ev_part, kPart_ev, ev_sl, kSl_ev, kSl2_ev, ev_m1, kM1_ev, ev_idx, kIdx_ev, ev_itL, ev_itT, ev_enL, ev_enT, ev_enQ, ev_fld, ev_prop, ev_inO, kInO_ev, kInO2_ev, ev_lenO, kLenO_ev, ev_setA, ev_make, ev_callN,
  List.getElem?_cons_zero, List.getElem?_cons_succ, List.set_cons_zero, List.set_cons_succ, List.append_nil, List.nil_append, List.cons_append, List.length_cons, List.length_nil, if_true, if_false, Nat.reduceAdd, Nat.reduceEqDiff, Nat.zero_add, peek, ownD, ownL, putO, DL.putAll, Option.map_some, Option.bind_some, asDat, asL, asT, as1, asQ, seqD, decide_true, env0, env1, List.map_cons, List.map_nil, List.replicate, Nat.reduceSub, reduceCtorEq, reduceIte, iLt_ev, iLe_ev, iGt_ev, iGe_ev, iAdd_ev, iSub_ev, intF_i, intF_b, minF_ev, maxF_ev, absF_ev, lenF_l, lenF_t, lenF_sc, listF_l, listF_t, tupleF_t, boD_ev, ixF_l0, ixF_l1, ixF_l2, ixF_t0, ixF_t1, ixF_t2, mkTup_0, mkLst_0, mkTup_1, mkLst_1, mkTup_2, mkLst_2, mkTup_3, mkLst_3, mkTup_4, mkLst_4, mkTup_5, mkLst_5, slL_ev, slT_ev, slQ_l, slQ_t, revF_t, revF_l, gsNil_ev, gsCons_ev, out_ret, out_nx, outR_ret, outR_nx, noX_ok])
local macro_rules | `(tactic| walk_at "eva") => `(tactic| simp -implicitDefEqProofs only [and_self, bind_err, ev_raise, back_err, outR_err, ev_toldM, kTold_ok, kTold_err, ev_meth, kMeth_ev, kMeth2_ev, ev_eqO, kEqO_ev, kEqO2_ev, ev_errV, ev_dnew, bind_ok, bind_stuck, ev_ok, ev_of, ev_seq, kSeq_nx, kSeq_ret, kSeq_bk, kSeq_ct, ev_nx, ev_if, kIf_true, kIf_false, ev_var, kVar_fz, kVar_ow, ev_op, kOp_ev, ev_opB, kOpB_ev, ev_un, ev_chain, kCh_ev, ev_bd, ev_test, asB_b, ev_and, kAnd_t, kAnd_f, ev_or, kOr_t, kOr_f, ev_not, ev_andV, kAndV_t, kAndV_f, ev_orV, kOrV_t, kOrV_f, ev_notV, ev_nil, ev_cons, kCons_ev, ev_tup, ev_lst, ev_cb, ev_ret, ev_retN, ev_drop, ev_never, ev_asg, ev_setF, ev_gN, ev_callf, back_ok, ev_ixP, kIxP_ev, kIxP2_ev, ev_setIx, kSetIx_ev, kSetIx1_ev, ev_callP, kCallP_ev, kCallP2_ev, back1_ok, ev_pop, kOwn_ev, ev_app, ev_ext, ev_lenP, ev_eqP, kEqP_ev, kEqP2_ev, ev_inP, ev_nilO, ev_consF, ev_consO, kConsF_ev, kConsO_ev, ev_par, ev_for, ev_part, kPart_ev, ev_sl, kSl_ev, kSl2_ev, ev_m1, kM1_ev, ev_idx, kIdx_ev, ev_itL, ev_itT, ev_enL, ev_enT, ev_enQ, ev_fld, ev_prop, ev_inO, kInO_ev, kInO2_ev, ev_lenO, kLenO_ev, ev_setA, ev_make, ev_callN,
  List.getElem?_cons_zero, List.getElem?_cons_succ, List.set_cons_zero, List.set_cons_succ, List.append_nil, List.nil_append, List.cons_append, List.length_cons, List.length_nil, if_true, if_false, Nat.reduceAdd, Nat.reduceEqDiff, Nat.zero_add, peek, ownD, ownL, putO, DL.putAll, Option.map_some, Option.bind_some, asDat, asL, asT, as1, asQ, seqD, decide_true, env0, env1, List.map_cons, List.map_nil, List.replicate, Nat.reduceSub, reduceCtorEq, reduceIte, iLt_ev, iLe_ev, iGt_ev, iGe_ev, iAdd_ev, iSub_ev, intF_i, intF_b, minF_ev, maxF_ev, absF_ev, lenF_l, lenF_t, lenF_sc, listF_l, listF_t, tupleF_t, boD_ev, ixF_l0, ixF_l1, ixF_l2, ixF_t0, ixF_t1, ixF_t2, mkTup_0, mkLst_0, mkTup_1, mkLst_1, mkTup_2, mkLst_2, mkTup_3, mkLst_3, mkTup_4, mkLst_4, mkTup_5, mkLst_5, slL_ev, slT_ev, slQ_l, slQ_t, revF_t, revF_l, gsNil_ev, gsCons_ev, out_ret, out_nx, outR_ret, outR_nx, noX_ok, Bool.not_true, Bool.not_false, Bool.false_xor, Bool.true_xor, gT2_dat, gT3_dat, gT2_wk, gL3_dat, *])

namespace Q
open DL
/-! ### who meets -/
theorem idx_in {l : List Ev} {a : Str} (h : (a, false) ∈ l) (hs : ∀ e ∈ l, SOk e.1) : idxF (dT (l.map evD)) [.dat (.tuple [.str a, .str "in"])] = some (dI (l.idxOf (a, false) : Nat)) := idxF_ev (e := (a, false)) h hs
theorem idx_out {l : List Ev} {a : Str} (h : (a, true) ∈ l) (hs : ∀ e ∈ l, SOk e.1) : idxF (dT (l.map evD)) [.dat (.tuple [.str a, .str "out"])] = some (dI (l.idxOf (a, true) : Nat)) := idxF_ev (e := (a, true)) h hs
def meetB (l : List Ev) (a b : Str) : Bool := decide (l.idxOf (a, false) < l.idxOf (b, true)) && decide (l.idxOf (b, false) < l.idxOf (a, true))
theorem idx_ne {l : List Ev} {e f : Ev} (h : e ∈ l) (hf : f ∈ l) (ne : e ≠ f) : l.idxOf e ≠ l.idxOf f := fun z => ne (by
  have h1 := List.getElem_idxOf (List.idxOf_lt_length_of_mem h)
  have h2 := List.getElem_idxOf (List.idxOf_lt_length_of_mem hf)
  rw [← h1, ← h2]
  simp [z])
theorem meetB_comm {l : List Ev} {a b : Str} : meetB l a b = meetB l b a := by unfold meetB; rw [Bool.and_comm]
/-- what the walks need of the people of a hall and a timeline -/
structure LineOk (people : List Str) (l : List Ev) : Prop where
  il : IsLine people l
  so : ∀ n ∈ people, SOk n
  nd : people.Nodup
theorem LineOk.sl {people : List Str} {l : List Ev} (h : LineOk people l) : ∀ e ∈ l, SOk e.1 := fun e he => h.so _ (h.il.of e he)
theorem LineOk.i {people : List Str} {l : List Ev} (h : LineOk people l) {a : Str} (ha : a ∈ people) : idxF (dT (l.map evD)) [.dat (.tuple [.str a, .str "in"])] = some (dI (l.idxOf (a, false) : Nat)) := idx_in (h.il.mem a ha false) h.sl
theorem LineOk.o {people : List Str} {l : List Ev} (h : LineOk people l) {a : Str} (ha : a ∈ people) : idxF (dT (l.map evD)) [.dat (.tuple [.str a, .str "out"])] = some (dI (l.idxOf (a, true) : Nat)) := idx_out (h.il.mem a ha true) h.sl
/-! ### pairs -/
def pairsOf : List Str → List (Str × Str)
  | [] => []
  | x :: xs => xs.map (fun y => (x, y)) ++ pairsOf xs
theorem pairsOf_len : ∀ {xs : List Str}, (pairsOf xs).length ≤ xs.length * xs.length
  | [] => by simp [pairsOf]
  | x :: xs => by
    have ih := pairsOf_len (xs := xs)
    simp only [pairsOf, List.length_append, List.length_map, List.length_cons]
    rw [Nat.add_mul, Nat.mul_add]
    omega
theorem pairsOf_mem : ∀ {xs : List Str} {p : Str × Str}, p ∈ pairsOf xs → p.1 ∈ xs ∧ p.2 ∈ xs
  | x :: xs, p, h => by
    rcases List.mem_append.mp h with h | h
    · obtain ⟨y, hy, rfl⟩ := List.mem_map.mp h
      exact ⟨.head _, .tail _ hy⟩
    · have := pairsOf_mem h
      exact ⟨.tail _ this.1, .tail _ this.2⟩
def enumGo (i : Nat) : List PyData → List D
  | [] => []
  | d :: ds => .wk [.dat (.int (i : Nat)), .dat d] :: enumGo (i + 1) ds
theorem enumGo_eq {l : List PyData} : ∀ {i : Nat}, (List.range' i (l.length)).map (fun j => D.wk [.dat (.int (j : Nat)), .dat (l.getD (j - i) .none)]) = enumGo i l := by
  induction l with
  | nil => intro i; simp [enumGo]
  | cons d l ih =>
    intro i
    simp only [enumGo, List.length_cons, List.range'_succ, List.map_cons, Nat.sub_self, List.getD_cons_zero]
    congr 1
    rw [← ih]
    apply List.map_congr_left
    intro j hj
    have hj2 := (List.mem_range'_1.mp hj).1
    obtain ⟨k, rfl⟩ : ∃ k, j = i + 1 + k := ⟨j - (i + 1), by omega⟩
    rw [show i + 1 + k - i = k + 1 by omega, show i + 1 + k - (i + 1) = k by omega, List.getD_cons_succ]
theorem enumD_eq {l : List PyData} : enumD l = enumGo 0 l := by
  rw [← enumGo_eq (i := 0)]
  unfold enumD
  rw [List.range_eq_range']
  apply List.map_congr_left
  intro j _
  rw [Nat.sub_zero]
def pairsBody : M Out := (mDrop (mExt 1 (mCons (mLc [4] (mItL (mSl slL (mVar 0) (mPart (mOp iAdd (mVar 2) (mOk (.dat (.int 1))))) (mOk none))) (gN 4) mYes (mTup (mCons (mVar 3) (mCons (mVar 4) mNil)))) mNil)))
theorem pairs_lc {s0 s1 s2 : SV} {x : Str} {ys : List Str} {m : M (List D)} {δ : DL.Env} (hm : m δ = .ok (dats (ys.map .str)) [s0, s1, s2, .fz (dS x), .no]) (hl : ys.length ≤ 1000) :
    mLc [4] m (gN 4) mYes (mTup (mCons (mVar 3) (mCons (mVar 4) mNil))) δ = .ok (dL (ys.map fun y => pairD (x, y))) [s0, s1, s2, .fz (dS x), .no] := by
  rw [dats_map] at hm
  refine ev_lcA hm (le_most (by omega)) rfl rfl fun y hy => ⟨[s0, s1, s2, .fz (dS x), .fz (dS y)], [s0, s1, s2, .fz (dS x), .fz (dS y)], rfl, ?_, rfl⟩
  walk_at "ev"
  rfl
theorem pairs_body {people : List Str} {i : Nat} {x : Str} {found : List PyData} (hl : people.length ≤ 100) (hf : found.length ≤ 10000) :
    pairsBody [.fz (dL (people.map .str)), .ow (dL found), .fz (dI i), .fz (dS x), .no] = .ok .nx [.fz (dL (people.map .str)), .ow (dL (found ++ (people.drop (i + 1)).map fun y => pairD (x, y))), .fz (dI i), .fz (dS x), .no] := by
  unfold pairsBody
  rw [ev_drop, ev_ext]
  walk_at "ev"
  rw [pairs_lc (ys := people.drop (i + 1)) (s0 := .fz (dL (people.map .str))) (s1 := .ow (dL found)) (s2 := .fz (dI i)) (x := x) (by
    walk_at "ev"
    rw [show ((i : Nat) : Int) + 1 = ((i + 1 : Nat) : Int) by omega, cutD_from, List.map_drop]) (by rw [List.length_drop]; omega)]
  walk_at "ev"
  rw [kExt_ev rfl (by rw [List.length_map, List.length_drop]; exact le_most (by omega))]
  walk_at "ev"
theorem pairs_loop {people : List Str} (hp : people.length ≤ 100) : ∀ {xs pre : List Str} {found : List PyData} {s2 s3 : SV}, people = pre ++ xs → found.length + 100 * xs.length ≤ 10000 →
    ∃ s2' s3' : SV, forL (gT 2 (gsCons (gN 2) (gsCons (gN 3) gsNil))) pairsBody (enumGo pre.length (xs.map .str)) [.fz (dL (people.map .str)), .ow (dL found), s2, s3, .no] = .ok .nx [.fz (dL (people.map .str)), .ow (dL (found ++ (pairsOf xs).map pairD)), s2', s3', .no]
  | [], pre, found, s2, s3, _, _ => ⟨s2, s3, by simp [enumGo, forL, pairsOf]⟩
  | x :: xs, pre, found, s2, s3, hpre, hf => by
    have hlen : people.length = pre.length + (xs.length + 1) := by rw [hpre]; simp
    have hdrop : people.drop (pre.length + 1) = xs := by
      rw [hpre, show pre ++ x :: xs = (pre ++ [x]) ++ xs by simp]
      exact List.drop_left' (by simp)
    rw [List.length_cons] at hf
    obtain ⟨s2', s3', ih⟩ := pairs_loop hp (xs := xs) (pre := pre ++ [x]) (found := found ++ xs.map fun y => pairD (x, y)) (s2 := .fz (dI pre.length)) (s3 := .fz (dS x)) (by rw [hpre]; simp) (by simp; omega)
    refine ⟨s2', s3', ?_⟩
    rw [List.map_cons, enumGo, forL_cons (δ2 := [.fz (dL (people.map .str)), .ow (dL found), .fz (dI pre.length), .fz (dS x), .no]) rfl (pairs_body hp (by omega)), hdrop]
    rw [List.length_append, List.length_singleton] at ih
    rw [ih]
    simp [pairsOf, Function.comp_def]
theorem l_pairs_ev {people : List Str} (hp : people.length ≤ 20) : f_l_pairs [dL (people.map .str)] = .ok (dL ((pairsOf people).map pairD)) := by
  obtain ⟨s2', s3', e⟩ := pairs_loop (people := people) (by omega) (xs := people) (pre := []) (found := []) (s2 := .no) (s3 := .no) rfl (by simp; omega)
  show noX (outR (mSeq (mSetF 1 (mLst mNil)) (mSeq (mFor (mEnL (mCons (mVar 0) mNil)) (gT 2 (gsCons (gN 2) (gsCons (gN 3) gsNil))) pairsBody) (mRet (mVar 1))) (env0 5 [dL (people.map .str)]))) = _
  have e0 : env0 5 [dL (people.map .str)] = [.fz (dL (people.map .str)), .no, .no, .no, .no] := rfl
  rw [e0, ev_seq, show mSetF 1 (mLst mNil) [SV.fz (dL (people.map .str)), .no, .no, .no, .no] = .ok .nx [.fz (dL (people.map .str)), .ow (dL []), .no, .no, .no] from rfl, bind_ok, kSeq_nx, ev_seq, ev_for]
  rw [show mEnL (mCons (mVar 0) mNil) [SV.fz (dL (people.map .str)), .ow (dL []), .no, .no, .no] = .ok (enumD (people.map .str)) [.fz (dL (people.map .str)), .ow (dL []), .no, .no, .no] from rfl, bind_ok, enumD_eq]
  rw [List.length_nil] at e
  rw [e]
  walk_at "ev"
end Q

open PySem PySem.Spec PyProof.Rows L2 MT DL
local macro_rules | `(tactic| walk_at "ev") => `(tactic| simp -implicitDefEqProofs only [and_self, bind_err, ev_raise, back_err, outR_err, ev_toldM, kTold_ok, kTold_err, ev_meth, kMeth_ev, kMeth2_ev, ev_eqO, kEqO_ev, kEqO2_ev, ev_errV, ev_dnew, bind_ok, bind_stuck, ev_ok, ev_of, ev_seq, kSeq_nx, kSeq_ret, kSeq_bk, kSeq_ct, ev_nx, ev_if, kIf_true, kIf_false, ev_var, kVar_fz, kVar_ow, ev_op, kOp_ev, ev_opB, kOpB_ev, ev_un, ev_chain, kCh_ev, ev_bd, ev_test, asB_b, ev_and, kAnd_t, kAnd_f, ev_or, kOr_t, kOr_f, ev_not, ev_andV, kAndV_t, kAndV_f, ev_orV, kOrV_t, kOrV_f, ev_notV, ev_nil, ev_cons, kCons_ev, ev_tup, ev_lst, ev_cb, ev_ret, ev_retN, ev_drop, ev_never, ev_asg, ev_setF, ev_gN, ev_callf, back_ok, ev_ixP, kIxP_ev, kIxP2_ev, ev_setIx, kSetIx_ev, kSetIx1_ev, ev_callP, kCallP_ev, kCallP2_ev, back1_ok, ev_pop, kOwn_ev, ev_app, ev_ext, ev_lenP, ev_eqP, kEqP_ev, kEqP2_ev, ev_inP, ev_nilO, ev_consF, ev_consO, kConsF_ev, kConsO_ev, ev_par, ev_for, ev_part, kPart_ev, ev_sl, kSl_ev, kSl2_ev, ev_m1, kM1_ev, ev_idx, kIdx_ev, ev_itL, ev_itT, ev_enL, ev_enT, ev_enQ, ev_fld, ev_prop, ev_inO, kInO_ev, kInO2_ev, ev_lenO, kLenO_ev, ev_setA, ev_make, ev_callN,
  List.getElem?_cons_zero, List.getElem?_cons_succ, List.set_cons_zero, List.set_cons_succ, List.append_nil, List.nil_append, List.cons_append, List.length_cons, List.length_nil, if_true, if_false, Nat.reduceAdd, Nat.reduceEqDiff, Nat.zero_add, peek, ownD, ownL, putO, DL.putAll, Option.map_some, Option.bind_some, asDat, asL, asT, as1, asQ, seqD, decide_true, env0, env1, List.map_cons, List.map_nil, List.replicate, Nat.reduceSub, reduceCtorEq, reduceIte, iLt_ev, iLe_ev, iGt_ev, iGe_ev, iAdd_ev, iSub_ev, intF_i, intF_b, minF_ev, maxF_ev, absF_ev, lenF_l, lenF_t, lenF_sc, listF_l, listF_t, tupleF_t, boD_ev, ixF_l0, ixF_l1, ixF_l2, ixF_t0, ixF_t1, ixF_t2, mkTup_0, mkLst_0, mkTup_1, mkLst_1, mkTup_2, mkLst_2, mkTup_3, mkLst_3, mkTup_4, mkLst_4, mkTup_5, mkLst_5, slL_ev, slT_ev, slQ_l, slQ_t, revF_t, revF_l, gsNil_ev, gsCons_ev, out_ret, out_nx, outR_ret, outR_nx, noX_ok])
local macro_rules | `(tactic| walk_at "eva") => `(tactic| simp -implicitDefEqProofs only [and_self, bind_err, ev_raise, back_err, outR_err, ev_toldM, kTold_ok, kTold_err, ev_meth, kMeth_ev, kMeth2_ev, ev_eqO, kEqO_ev, kEqO2_ev, ev_errV, ev_dnew, bind_ok, bind_stuck, ev_ok, ev_of, ev_seq, kSeq_nx, kSeq_ret, kSeq_bk, kSeq_ct, ev_nx, ev_if, kIf_true, kIf_false, ev_var, kVar_fz, kVar_ow, ev_op, kOp_ev, ev_opB, kOpB_ev, ev_un, ev_chain, kCh_ev, ev_bd, ev_test, asB_b, ev_and, kAnd_t, kAnd_f, ev_or, kOr_t, kOr_f, ev_not, ev_andV, kAndV_t, kAndV_f, ev_orV, kOrV_t, kOrV_f, ev_notV, ev_nil, ev_cons, kCons_ev, ev_tup, ev_lst, ev_cb, ev_ret, ev_retN, ev_drop, ev_never, ev_asg, ev_setF, ev_gN, ev_callf, back_ok, ev_ixP, kIxP_ev, kIxP2_ev, ev_setIx, kSetIx_ev, kSetIx1_ev, ev_callP, kCallP_ev, kCallP2_ev, back1_ok, ev_pop, kOwn_ev, ev_app, ev_ext, ev_lenP, ev_eqP, kEqP_ev, kEqP2_ev, ev_inP, ev_nilO, ev_consF, ev_consO, kConsF_ev, kConsO_ev, ev_par, ev_for, ev_part, kPart_ev, ev_sl, kSl_ev, kSl2_ev, ev_m1, kM1_ev, ev_idx, kIdx_ev, ev_itL, ev_itT, ev_enL, ev_enT, ev_enQ, ev_fld, ev_prop, ev_inO, kInO_ev, kInO2_ev, ev_lenO, kLenO_ev, ev_setA, ev_make, ev_callN,
  List.getElem?_cons_zero, List.getElem?_cons_succ, List.set_cons_zero, List.set_cons_succ, List.append_nil, List.nil_append, List.cons_append, List.length_cons, List.length_nil, if_true, if_false, Nat.reduceAdd, Nat.reduceEqDiff, Nat.zero_add, peek, ownD, ownL, putO, DL.putAll, Option.map_some, Option.bind_some, asDat, asL, asT, as1, asQ, seqD, decide_true, env0, env1, List.map_cons, List.map_nil, List.replicate, Nat.reduceSub, reduceCtorEq, reduceIte, iLt_ev, iLe_ev, iGt_ev, iGe_ev, iAdd_ev, iSub_ev, intF_i, intF_b, minF_ev, maxF_ev, absF_ev, lenF_l, lenF_t, lenF_sc, listF_l, listF_t, tupleF_t, boD_ev, ixF_l0, ixF_l1, ixF_l2, ixF_t0, ixF_t1, ixF_t2, mkTup_0, mkLst_0, mkTup_1, mkLst_1, mkTup_2, mkLst_2, mkTup_3, mkLst_3, mkTup_4, mkLst_4, mkTup_5, mkLst_5, slL_ev, slT_ev, slQ_l, slQ_t, revF_t, revF_l, gsNil_ev, gsCons_ev, out_ret, out_nx, outR_ret, outR_nx, noX_ok, Bool.not_true, Bool.not_false, Bool.false_xor, Bool.true_xor, gT2_dat, gT3_dat, gT2_wk, gL3_dat, *])

namespace Q
open DL
/-! ### who is there -/
def thereB (l : List Ev) (e : Ev) (n : Str) : Bool := decide (n ≠ e.1) && (decide (l.idxOf (n, false) < l.idxOf e) && decide (l.idxOf e < l.idxOf (n, true)))
def thBody : M Out := (mIf (mAnd (mOpB neB (mVar 5) (mOp ixF (mVar 2) (mOk (.dat (.int 0))))) (mChain iLt iLt (mIdx (mVar 1) (mCons (mTup (mCons (mVar 5) (mCons (mOk (.dat (.str "in"))) mNil))) mNil)) (mVar 3) (mIdx (mVar 1) (mCons (mTup (mCons (mVar 5) (mCons (mOk (.dat (.str "out"))) mNil))) mNil)))) (mDrop (mApp 4 (mCons (mVar 5) mNil))) mNx)
theorem th_body {people : List Str} {l : List Ev} {e : Ev} {n : Str} {s0 : SV} {found : List PyData} (h : LineOk people l) (he : e ∈ l) (hn : n ∈ people) (hf : found.length ≤ 1000) :
    thBody [s0, .fz (dT (l.map evD)), .fz (.dat (evD e)), .fz (dI (l.idxOf e : Nat)), .ow (dL found), .fz (dS n)] = .ok .nx [s0, .fz (dT (l.map evD)), .fz (.dat (evD e)), .fz (dI (l.idxOf e : Nat)), .ow (dL (if thereB l e n = true then found ++ [.str n] else found)), .fz (dS n)] := by
  unfold thBody
  have e1 : ixF (.dat (evD e)) (dI 0) = some (dS e.1) := ixF_t0
  walk_at "ev"
  rw [e1]
  walk_at "ev"
  rw [neB_ev (shaped_str (h.so n hn)) (shaped_str (h.sl e he)), eqv_str]
  unfold thereB
  by_cases h1 : n = e.1
  · rw [decide_eq_true h1]
    walk_at "ev"
    simp [h1]
    walk_at "ev"
  · rw [decide_eq_false h1]
    simp only [Bool.not_false]
    walk_at "ev"
    rw [h.i hn]
    walk_at "ev"
    by_cases h2 : l.idxOf (n, false) < l.idxOf e
    · rw [decide_eq_true (show ((l.idxOf (n, false) : Nat) : Int) < (l.idxOf e : Nat) by omega)]
      walk_at "ev"
      rw [h.o hn]
      walk_at "ev"
      by_cases h3 : l.idxOf e < l.idxOf (n, true)
      · rw [decide_eq_true (show ((l.idxOf e : Nat) : Int) < (l.idxOf (n, true) : Nat) by omega)]
        walk_at "ev"
        rw [kApp_ev rfl (show found.length + 1 ≤ most from le_most (by omega))]
        walk_at "ev"
        simp [h1, h2, h3]
      · rw [decide_eq_false (show ¬ ((l.idxOf e : Nat) : Int) < (l.idxOf (n, true) : Nat) by omega)]
        walk_at "ev"
        simp [h1, h2, h3]
    · rw [decide_eq_false (show ¬ ((l.idxOf (n, false) : Nat) : Int) < (l.idxOf e : Nat) by omega)]
      simp only [Bool.false_eq_true, if_false]
      walk_at "ev"
      simp [h1, h2]
theorem th_loop {people : List Str} {l : List Ev} {e : Ev} {s0 : SV} (h : LineOk people l) (he : e ∈ l) : ∀ {xs : List Str} {found : List PyData} {s5 : SV}, (∀ x ∈ xs, x ∈ people) → found.length + xs.length ≤ 1000 →
    ∃ s5' : SV, forL (gN 5) thBody (xs.map fun x => dS x) [s0, .fz (dT (l.map evD)), .fz (.dat (evD e)), .fz (dI (l.idxOf e : Nat)), .ow (dL found), s5] = .ok .nx [s0, .fz (dT (l.map evD)), .fz (.dat (evD e)), .fz (dI (l.idxOf e : Nat)), .ow (dL (found ++ (xs.filter (thereB l e)).map .str)), s5']
  | [], found, s5, _, _ => ⟨s5, by simp [forL]⟩
  | x :: xs, found, s5, hx, hf => by
    rw [List.length_cons] at hf
    obtain ⟨s5', ih⟩ := th_loop (s0 := s0) h he (xs := xs) (found := if thereB l e x = true then found ++ [.str x] else found) (s5 := .fz (dS x)) (fun y hy => hx y (.tail _ hy)) (by split <;> (try rw [List.length_append, List.length_singleton]) <;> omega)
    refine ⟨s5', ?_⟩
    rw [List.map_cons, forL_cons (δ2 := [s0, .fz (dT (l.map evD)), .fz (.dat (evD e)), .fz (dI (l.idxOf e : Nat)), .ow (dL found), .fz (dS x)]) rfl (th_body h he (hx x (.head _)) (by omega)), ih]
    cases hb : thereB l e x <;> simp [hb]
end Q

open PySem PySem.Spec PyProof.Rows L2 MT DL
local macro_rules | `(tactic| walk_at "ev") => `(tactic| simp -implicitDefEqProofs only [and_self, bind_err, ev_raise, back_err, outR_err, ev_toldM, kTold_ok, kTold_err, ev_meth, kMeth_ev, kMeth2_ev, ev_eqO, kEqO_ev, kEqO2_ev, ev_errV, ev_dnew, bind_ok, bind_stuck, ev_ok, ev_of, ev_seq, kSeq_nx, kSeq_ret, kSeq_bk, kSeq_ct, ev_nx, ev_if, kIf_true, kIf_false, ev_var, kVar_fz, kVar_ow, ev_op, kOp_ev, ev_opB, kOpB_ev, ev_un, ev_chain, kCh_ev, ev_bd, ev_test, asB_b, ev_and, kAnd_t, kAnd_f, ev_or, kOr_t, kOr_f, ev_not, ev_andV, kAndV_t, kAndV_f, ev_orV, kOrV_t, kOrV_f, ev_notV, ev_nil, ev_cons, kCons_ev, ev_tup, ev_lst, ev_cb, ev_ret, ev_retN, ev_drop, ev_never, ev_asg, ev_setF, ev_gN, ev_callf, back_ok, ev_ixP, kIxP_ev, kIxP2_ev, ev_setIx, kSetIx_ev, kSetIx1_ev, ev_callP, kCallP_ev, kCallP2_ev, back1_ok, ev_pop, kOwn_ev, ev_app, ev_ext, ev_lenP, ev_eqP, kEqP_ev, kEqP2_ev, ev_inP, ev_nilO, ev_consF, ev_consO, kConsF_ev, kConsO_ev, ev_par, ev_for, ev_part, kPart_ev, ev_sl, kSl_ev, kSl2_ev, ev_m1, kM1_ev, ev_idx, kIdx_ev, ev_itL, ev_itT, ev_enL, ev_enT, ev_enQ, ev_fld, ev_prop, ev_inO, kInO_ev, kInO2_ev, ev_lenO, kLenO_ev, ev_setA, ev_make, ev_callN,
  List.getElem?_cons_zero, List.getElem?_cons_succ, List.set_cons_zero, List.set_cons_succ, List.append_nil, List.nil_append, List.cons_append, List.length_cons, List.length_nil, if_true, if_false, Nat.reduceAdd, Nat.reduceEqDiff, Nat.zero_add, peek, ownD, ownL, putO, DL.putAll, Option.map_some, Option.bind_some, asDat, asL, asT, as1, asQ, seqD, decide_true, env0, env1, List.map_cons, List.map_nil, List.replicate, Nat.reduceSub, reduceCtorEq, reduceIte, iLt_ev, iLe_ev, iGt_ev, iGe_ev, iAdd_ev, iSub_ev, intF_i, intF_b, minF_ev, maxF_ev, absF_ev, lenF_l, lenF_t, lenF_sc, listF_l, listF_t, tupleF_t, boD_ev, ixF_l0, ixF_l1, ixF_l2, ixF_t0, ixF_t1, ixF_t2, mkTup_0, mkLst_0, mkTup_1, mkLst_1, mkTup_2, mkLst_2, mkTup_3, mkLst_3, mkTup_4, mkLst_4, mkTup_5, mkLst_5, slL_ev, slT_ev, slQ_l, slQ_t, revF_t, revF_l, gsNil_ev, gsCons_ev, out_ret, out_nx, outR_ret, outR_nx, noX_ok])
local macro_rules | `(tactic| walk_at "eva") => `(tactic| simp -implicitDefEqProofs only [and_self, bind_err, ev_raise, back_err, outR_err, ev_toldM, kTold_ok, kTold_err, ev_meth, kMeth_ev, kMeth2_ev, ev_eqO, kEqO_ev, kEqO2_ev, ev_errV, ev_dnew, bind_ok, bind_stuck, ev_ok, ev_of, ev_seq, kSeq_nx, kSeq_ret, kSeq_bk, kSeq_ct, ev_nx, ev_if, kIf_true, kIf_false, ev_var, kVar_fz, kVar_ow, ev_op, kOp_ev, ev_opB, kOpB_ev, ev_un, ev_chain, kCh_ev, ev_bd, ev_test, asB_b, ev_and, kAnd_t, kAnd_f, ev_or, kOr_t, kOr_f, ev_not, ev_andV, kAndV_t, kAndV_f, ev_orV, kOrV_t, kOrV_f, ev_notV, ev_nil, ev_cons, kCons_ev, ev_tup, ev_lst, ev_cb, ev_ret, ev_retN, ev_drop, ev_never, ev_asg, ev_setF, ev_gN, ev_callf, back_ok, ev_ixP, kIxP_ev, kIxP2_ev, ev_setIx, kSetIx_ev, kSetIx1_ev, ev_callP, kCallP_ev, kCallP2_ev, back1_ok, ev_pop, kOwn_ev, ev_app, ev_ext, ev_lenP, ev_eqP, kEqP_ev, kEqP2_ev, ev_inP, ev_nilO, ev_consF, ev_consO, kConsF_ev, kConsO_ev, ev_par, ev_for, ev_part, kPart_ev, ev_sl, kSl_ev, kSl2_ev, ev_m1, kM1_ev, ev_idx, kIdx_ev, ev_itL, ev_itT, ev_enL, ev_enT, ev_enQ, ev_fld, ev_prop, ev_inO, kInO_ev, kInO2_ev, ev_lenO, kLenO_ev, ev_setA, ev_make, ev_callN,
  List.getElem?_cons_zero, List.getElem?_cons_succ, List.set_cons_zero, List.set_cons_succ, List.append_nil, List.nil_append, List.cons_append, List.length_cons, List.length_nil, if_true, if_false, Nat.reduceAdd, Nat.reduceEqDiff, Nat.zero_add, peek, ownD, ownL, putO, DL.putAll, Option.map_some, Option.bind_some, asDat, asL, asT, as1, asQ, seqD, decide_true, env0, env1, List.map_cons, List.map_nil, List.replicate, Nat.reduceSub, reduceCtorEq, reduceIte, iLt_ev, iLe_ev, iGt_ev, iGe_ev, iAdd_ev, iSub_ev, intF_i, intF_b, minF_ev, maxF_ev, absF_ev, lenF_l, lenF_t, lenF_sc, listF_l, listF_t, tupleF_t, boD_ev, ixF_l0, ixF_l1, ixF_l2, ixF_t0, ixF_t1, ixF_t2, mkTup_0, mkLst_0, mkTup_1, mkLst_1, mkTup_2, mkLst_2, mkTup_3, mkLst_3, mkTup_4, mkLst_4, mkTup_5, mkLst_5, slL_ev, slT_ev, slQ_l, slQ_t, revF_t, revF_l, gsNil_ev, gsCons_ev, out_ret, out_nx, outR_ret, outR_nx, noX_ok, Bool.not_true, Bool.not_false, Bool.false_xor, Bool.true_xor, gT2_dat, gT3_dat, gT2_wk, gL3_dat, *])

namespace Q
open DL
/-- the same pairs, some turned about -/
inductive Flip : List (Str × Str) → List (Str × Str) → Prop
  | nil : Flip [] []
  | cons {q r : Str × Str} {qs rs : List (Str × Str)} : r = q ∨ r = (q.2, q.1) → Flip qs rs → Flip (q :: qs) (r :: rs)
def rowD (r : List Str) : PyData := .list (r.map .str)
theorem shaped_int {i : Int} : SeqAt.shaped (.int i) = true := rfl
end Q

open PySem PySem.Spec PyProof.Rows L2 MT DL
local macro_rules | `(tactic| walk_at "ev") => `(tactic| simp -implicitDefEqProofs only [and_self, bind_err, ev_raise, back_err, outR_err, ev_toldM, kTold_ok, kTold_err, ev_meth, kMeth_ev, kMeth2_ev, ev_eqO, kEqO_ev, kEqO2_ev, ev_errV, ev_dnew, bind_ok, bind_stuck, ev_ok, ev_of, ev_seq, kSeq_nx, kSeq_ret, kSeq_bk, kSeq_ct, ev_nx, ev_if, kIf_true, kIf_false, ev_var, kVar_fz, kVar_ow, ev_op, kOp_ev, ev_opB, kOpB_ev, ev_un, ev_chain, kCh_ev, ev_bd, ev_test, asB_b, ev_and, kAnd_t, kAnd_f, ev_or, kOr_t, kOr_f, ev_not, ev_andV, kAndV_t, kAndV_f, ev_orV, kOrV_t, kOrV_f, ev_notV, ev_nil, ev_cons, kCons_ev, ev_tup, ev_lst, ev_cb, ev_ret, ev_retN, ev_drop, ev_never, ev_asg, ev_setF, ev_gN, ev_callf, back_ok, ev_ixP, kIxP_ev, kIxP2_ev, ev_setIx, kSetIx_ev, kSetIx1_ev, ev_callP, kCallP_ev, kCallP2_ev, back1_ok, ev_pop, kOwn_ev, ev_app, ev_ext, ev_lenP, ev_eqP, kEqP_ev, kEqP2_ev, ev_inP, ev_nilO, ev_consF, ev_consO, kConsF_ev, kConsO_ev, ev_par, ev_for, ev_part, kPart_ev, ev_sl, kSl_ev, kSl2_ev, ev_m1, kM1_ev, ev_idx, kIdx_ev, ev_itL, ev_itT, ev_enL, ev_enT, ev_enQ, ev_fld, ev_prop, ev_inO, kInO_ev, kInO2_ev, ev_lenO, kLenO_ev, ev_setA, ev_make, ev_callN,
  List.getElem?_cons_zero, List.getElem?_cons_succ, List.set_cons_zero, List.set_cons_succ, List.append_nil, List.nil_append, List.cons_append, List.length_cons, List.length_nil, if_true, if_false, Nat.reduceAdd, Nat.reduceEqDiff, Nat.zero_add, peek, ownD, ownL, putO, DL.putAll, Option.map_some, Option.bind_some, asDat, asL, asT, as1, asQ, seqD, decide_true, env0, env1, List.map_cons, List.map_nil, List.replicate, Nat.reduceSub, reduceCtorEq, reduceIte, iLt_ev, iLe_ev, iGt_ev, iGe_ev, iAdd_ev, iSub_ev, intF_i, intF_b, minF_ev, maxF_ev, absF_ev, lenF_l, lenF_t, lenF_sc, listF_l, listF_t, tupleF_t, boD_ev, ixF_l0, ixF_l1, ixF_l2, ixF_t0, ixF_t1, ixF_t2, mkTup_0, mkLst_0, mkTup_1, mkLst_1, mkTup_2, mkLst_2, mkTup_3, mkLst_3, mkTup_4, mkLst_4, mkTup_5, mkLst_5, slL_ev, slT_ev, slQ_l, slQ_t, revF_t, revF_l, gsNil_ev, gsCons_ev, out_ret, out_nx, outR_ret, outR_nx, noX_ok])
local macro_rules | `(tactic| walk_at "eva") => `(tactic| simp -implicitDefEqProofs only [and_self, bind_err, ev_raise, back_err, outR_err, ev_toldM, kTold_ok, kTold_err, ev_meth, kMeth_ev, kMeth2_ev, ev_eqO, kEqO_ev, kEqO2_ev, ev_errV, ev_dnew, bind_ok, bind_stuck, ev_ok, ev_of, ev_seq, kSeq_nx, kSeq_ret, kSeq_bk, kSeq_ct, ev_nx, ev_if, kIf_true, kIf_false, ev_var, kVar_fz, kVar_ow, ev_op, kOp_ev, ev_opB, kOpB_ev, ev_un, ev_chain, kCh_ev, ev_bd, ev_test, asB_b, ev_and, kAnd_t, kAnd_f, ev_or, kOr_t, kOr_f, ev_not, ev_andV, kAndV_t, kAndV_f, ev_orV, kOrV_t, kOrV_f, ev_notV, ev_nil, ev_cons, kCons_ev, ev_tup, ev_lst, ev_cb, ev_ret, ev_retN, ev_drop, ev_never, ev_asg, ev_setF, ev_gN, ev_callf, back_ok, ev_ixP, kIxP_ev, kIxP2_ev, ev_setIx, kSetIx_ev, kSetIx1_ev, ev_callP, kCallP_ev, kCallP2_ev, back1_ok, ev_pop, kOwn_ev, ev_app, ev_ext, ev_lenP, ev_eqP, kEqP_ev, kEqP2_ev, ev_inP, ev_nilO, ev_consF, ev_consO, kConsF_ev, kConsO_ev, ev_par, ev_for, ev_part, kPart_ev, ev_sl, kSl_ev, kSl2_ev, ev_m1, kM1_ev, ev_idx, kIdx_ev, ev_itL, ev_itT, ev_enL, ev_enT, ev_enQ, ev_fld, ev_prop, ev_inO, kInO_ev, kInO2_ev, ev_lenO, kLenO_ev, ev_setA, ev_make, ev_callN,
  List.getElem?_cons_zero, List.getElem?_cons_succ, List.set_cons_zero, List.set_cons_succ, List.append_nil, List.nil_append, List.cons_append, List.length_cons, List.length_nil, if_true, if_false, Nat.reduceAdd, Nat.reduceEqDiff, Nat.zero_add, peek, ownD, ownL, putO, DL.putAll, Option.map_some, Option.bind_some, asDat, asL, asT, as1, asQ, seqD, decide_true, env0, env1, List.map_cons, List.map_nil, List.replicate, Nat.reduceSub, reduceCtorEq, reduceIte, iLt_ev, iLe_ev, iGt_ev, iGe_ev, iAdd_ev, iSub_ev, intF_i, intF_b, minF_ev, maxF_ev, absF_ev, lenF_l, lenF_t, lenF_sc, listF_l, listF_t, tupleF_t, boD_ev, ixF_l0, ixF_l1, ixF_l2, ixF_t0, ixF_t1, ixF_t2, mkTup_0, mkLst_0, mkTup_1, mkLst_1, mkTup_2, mkLst_2, mkTup_3, mkLst_3, mkTup_4, mkLst_4, mkTup_5, mkLst_5, slL_ev, slT_ev, slQ_l, slQ_t, revF_t, revF_l, gsNil_ev, gsCons_ev, out_ret, out_nx, outR_ret, outR_nx, noX_ok, Bool.not_true, Bool.not_false, Bool.false_xor, Bool.true_xor, gT2_dat, gT3_dat, gT2_wk, gL3_dat, *])

namespace Q
open DL
/-! ### what is drawn for a hall -/
def Apart (q r : Str × Str) : Prop := r ≠ q ∧ r ≠ (q.2, q.1)
theorem Apart.symm {q r : Str × Str} (h : Apart q r) : Apart r q := ⟨fun e => h.1 e.symm, fun e => h.2 (by rw [e])⟩
theorem pairsOf_idx : ∀ {xs : List Str} {q : Str × Str}, xs.Nodup → q ∈ pairsOf xs → xs.idxOf q.1 < xs.idxOf q.2 ∧ q.1 ≠ q.2
  | x :: xs, q, nd, h => by
    have nx : x ∉ xs := (List.nodup_cons.mp nd).1
    have nd' := (List.nodup_cons.mp nd).2
    rcases List.mem_append.mp h with h | h
    · obtain ⟨y, hy, rfl⟩ := List.mem_map.mp h
      have hne : x ≠ y := fun e => nx (e ▸ hy)
      have hb : (x == y) = false := by simpa using hne
      refine ⟨?_, hne⟩
      rw [List.idxOf_cons, List.idxOf_cons]
      simp [hb]
    · obtain ⟨h1, h2⟩ := pairsOf_idx nd' h
      have hm := pairsOf_mem h
      have b1 : (x == q.1) = false := by
        have : x ≠ q.1 := fun e => nx (e ▸ hm.1)
        simpa using this
      have b2 : (x == q.2) = false := by
        have : x ≠ q.2 := fun e => nx (e ▸ hm.2)
        simpa using this
      refine ⟨?_, h2⟩
      rw [List.idxOf_cons, List.idxOf_cons, b1, b2]
      simpa using h1
theorem pairsOf_nd : ∀ {xs : List Str}, xs.Nodup → (pairsOf xs).Nodup
  | [], _ => by simp [pairsOf]
  | x :: xs, nd => by
    have nx : x ∉ xs := (List.nodup_cons.mp nd).1
    have nd' := (List.nodup_cons.mp nd).2
    refine List.nodup_append.mpr ⟨?_, pairsOf_nd nd', ?_⟩
    · exact List.Pairwise.map _ (fun a b ne e => ne (Prod.mk.inj e).2) nd'
    · intro a ha b hb e
      obtain ⟨y, _, rfl⟩ := List.mem_map.mp ha
      subst e
      exact nx (pairsOf_mem hb).1
theorem pairsOf_apart {xs : List Str} (nd : xs.Nodup) : (pairsOf xs).Pairwise Apart := by
  have h := pairsOf_nd nd
  refine List.Pairwise.imp_of_mem ?_ h
  intro q r hq hr ne
  refine ⟨fun e => ne e.symm, fun e => ?_⟩
  have h1 := (pairsOf_idx nd hq).1
  have h2 := (pairsOf_idx nd hr).1
  rw [e] at h2
  simp only at h2
  omega
theorem apart_perm {l l' : List (Str × Str)} (h : l.Perm l') (a : l'.Pairwise Apart) : l.Pairwise Apart := (h.symm.pairwise a fun h => h.symm)
structure HallOk (people : List Str) (mets : List (List Str)) (opens : List (Str × Str)) : Prop where
  nd : people.Nodup
  pl : ∀ n ∈ people, n ∈ pool
  l1 : 1 ≤ people.length
  l9 : people.length ≤ 9
  ml : mets.length ≤ 20
  mr : ∀ r ∈ mets, r.Nodup ∧ 2 ≤ r.length ∧ ∀ x ∈ r, x ∈ people
  ol : opens.length ≤ 4
  oo : ∀ q ∈ opens, q.1 ≠ q.2 ∧ q.1 ∈ people ∧ q.2 ∈ people ∧ ∀ r ∈ mets, ¬ (q.1 ∈ r ∧ q.2 ∈ r)
  op : opens.Pairwise Apart
theorem Flip.len {qs rs : List (Str × Str)} (h : Flip qs rs) : rs.length = qs.length := by
  induction h with
  | nil => rfl
  | cons _ _ ih => simp [ih]
theorem Flip.mem {qs rs : List (Str × Str)} (h : Flip qs rs) : ∀ r ∈ rs, ∃ q ∈ qs, r = q ∨ r = (q.2, q.1) := by
  induction h with
  | nil => intro r hr; cases hr
  | cons a _ ih =>
    intro r hr
    rcases List.mem_cons.mp hr with rfl | hr
    · exact ⟨_, .head _, a⟩
    · obtain ⟨q, hq, h⟩ := ih r hr
      exact ⟨q, .tail _ hq, h⟩
theorem Flip.apart {qs rs : List (Str × Str)} (h : Flip qs rs) (a : qs.Pairwise Apart) : rs.Pairwise Apart := by
  induction h with
  | nil => exact .nil
  | cons b t ih =>
    obtain ⟨a1, a2⟩ := List.pairwise_cons.mp a
    refine List.pairwise_cons.mpr ⟨fun r hr => ?_, ih a2⟩
    obtain ⟨q', hq', e'⟩ := t.mem r hr
    have z := a1 q' hq'
    obtain ⟨z1, z2⟩ := z
    have sw : ∀ {a b : Str × Str}, (a.2, a.1) = b → a = (b.2, b.1) := fun {a b} e => by rw [← e]
    rcases b with rfl | rfl <;> rcases e' with rfl | rfl
    · exact ⟨z1, z2⟩
    · exact ⟨fun e => z2 (sw e), fun e => z1 (sw e)⟩
    · exact ⟨z2, z1⟩
    · exact ⟨fun e => z1 (sw e), fun e => z2 (sw e)⟩
/-- with the pairs turned about it is one, too -/
theorem HallOk.flip {people : List Str} {mets : List (List Str)} {qs rs : List (Str × Str)} (h : HallOk people mets qs) (f : Flip qs rs) : HallOk people mets rs := by
  refine ⟨h.nd, h.pl, h.l1, h.l9, h.ml, h.mr, by rw [f.len]; exact h.ol, fun r hr => ?_, f.apart h.op⟩
  obtain ⟨q, hq, e⟩ := f.mem r hr
  obtain ⟨h1, h2, h3, h4⟩ := h.oo q hq
  rcases e with rfl | rfl
  · exact ⟨h1, h2, h3, h4⟩
  · exact ⟨fun e => h1 e.symm, h3, h2, fun r hr z => h4 r hr ⟨z.2, z.1⟩⟩
/-- few people -/
theorem hall_few {people : List Str} {ps : List (Str × Str)} {r : Nat} {mt : Str → Str → Bool} (nd : people.Nodup) (pl : ∀ n ∈ people, n ∈ pool) (l1 : 1 ≤ people.length) (l7 : people.length < 7) (hps : ps.Perm (pairsOf people)) (hr : r ≤ 4) :
    HallOk people (((ps.drop r).filter fun q => mt q.1 q.2).map fun q => [q.1, q.2]) (ps.take r) := by
  have ap := apart_perm hps (pairsOf_apart nd)
  have hm : ∀ q ∈ ps, q.1 ∈ people ∧ q.2 ∈ people ∧ q.1 ≠ q.2 := fun q hq => by
    have := hps.mem_iff.mp hq
    exact ⟨(pairsOf_mem this).1, (pairsOf_mem this).2, (pairsOf_idx nd this).2⟩
  have hl15 : (pairsOf people).length ≤ 15 := by
    match people, l7 with
    | [], _ => simp [pairsOf]
    | [_], _ => simp [pairsOf]
    | [_, _], _ => simp [pairsOf]
    | [_, _, _], _ => simp [pairsOf]
    | [_, _, _, _], _ => simp [pairsOf]
    | [_, _, _, _, _], _ => simp [pairsOf]
    | [_, _, _, _, _, _], _ => simp [pairsOf]
  refine ⟨nd, pl, l1, by omega, ?_, ?_, by rw [List.length_take]; omega, ?_, ?_⟩
  · rw [List.length_map]
    have := List.length_filter_le (fun q : Str × Str => mt q.1 q.2) (ps.drop r)
    rw [List.length_drop, hps.length_eq] at this
    omega
  · intro row hrow
    obtain ⟨q, hq, rfl⟩ := List.mem_map.mp hrow
    have hq2 := hm q (List.mem_of_mem_drop (List.mem_filter.mp hq).1)
    refine ⟨by simp [hq2.2.2], by simp, fun x hx => ?_⟩
    rcases List.mem_cons.mp hx with rfl | hx
    · exact hq2.1
    · rw [List.mem_singleton.mp hx]; exact hq2.2.1
  · intro q hq
    have hq2 := hm q (List.mem_of_mem_take hq)
    refine ⟨hq2.2.2, hq2.1, hq2.2.1, fun row hrow z => ?_⟩
    obtain ⟨q', hq', rfl⟩ := List.mem_map.mp hrow
    have hq3 := (List.mem_filter.mp hq').1
    rw [← List.take_append_drop r ps] at ap
    have a := (List.pairwise_append.mp ap).2.2 q hq q' hq3
    obtain ⟨z1, z2⟩ := z
    simp only [List.mem_cons, List.not_mem_nil, or_false] at z1 z2
    obtain ⟨a1, a2⟩ := a
    rcases z1 with z1 | z1 <;> rcases z2 with z2 | z2
    · exact hq2.2.2 (z1.trans z2.symm)
    · exact a1 (Prod.ext z1.symm z2.symm)
    · exact a2 (Prod.ext z2.symm z1.symm)
    · exact hq2.2.2 (z1.trans z2.symm)
  · rw [← List.take_append_drop r ps] at ap
    exact (List.pairwise_append.mp ap).1
def groupOf (people : List Str) (l : List Ev) (n : Str) : List Str := n :: people.filter (thereB l (n, true))
theorem group_mem {people : List Str} {l : List Ev} (h : LineOk people l) {n : Str} (hn : n ∈ people) : ∀ x ∈ groupOf people l n, x ∈ people ∧ l.idxOf (x, false) < l.idxOf (n, true) ∧ l.idxOf (n, true) ≤ l.idxOf (x, true) := fun x hx => by
  rcases List.mem_cons.mp hx with rfl | hx
  · exact ⟨hn, h.il.ord _ hn, Nat.le_refl _⟩
  · obtain ⟨h1, h2⟩ := List.mem_filter.mp hx
    unfold thereB at h2
    simp only [Bool.and_eq_true, decide_eq_true_eq] at h2
    exact ⟨h1, h2.2.1, Nat.le_of_lt h2.2.2⟩
theorem group_nd {people : List Str} {l : List Ev} (h : LineOk people l) {n : Str} : (groupOf people l n).Nodup := by
  refine List.nodup_cons.mpr ⟨fun z => ?_, h.nd.filter _⟩
  have := (List.mem_filter.mp z).2
  unfold thereB at this
  simp at this
theorem group_meet {people : List Str} {l : List Ev} (h : LineOk people l) {n x y : Str} (hn : n ∈ people) (hx : x ∈ groupOf people l n) (hy : y ∈ groupOf people l n) : meetB l x y = true := by
  obtain ⟨_, x1, x2⟩ := group_mem h hn x hx
  obtain ⟨_, y1, y2⟩ := group_mem h hn y hy
  unfold meetB
  rw [decide_eq_true (by omega), decide_eq_true (by omega)]
  rfl
/-- many people -/
theorem hall_many {people : List Str} {l : List Ev} {mets : List (List Str)} {qs rest : List (Str × Str)} (h : LineOk people l) (pl : ∀ n ∈ people, n ∈ pool) (l1 : 1 ≤ people.length) (l9 : people.length ≤ 9) (ml : mets.length ≤ 9)
    (hm : ∀ row ∈ mets, 2 ≤ row.length ∧ ∃ n ∈ people, row.Perm (groupOf people l n)) (hq : (qs ++ rest).Perm ((pairsOf people).filter fun q => !meetB l q.1 q.2)) (ql : qs.length ≤ 4) : HallOk people mets qs := by
  have ap : (qs ++ rest).Pairwise Apart := apart_perm hq ((pairsOf_apart h.nd).filter _)
  refine ⟨h.nd, pl, l1, l9, by omega, fun row hrow => ?_, ql, fun q hqm => ?_, (List.pairwise_append.mp ap).1⟩
  · obtain ⟨h2, n, hn, hp⟩ := hm row hrow
    exact ⟨hp.nodup_iff.mpr (group_nd h), h2, fun x hx => (group_mem h hn x (hp.mem_iff.mp hx)).1⟩
  · obtain ⟨h1, h2⟩ := List.mem_filter.mp (hq.mem_iff.mp (List.mem_append_left _ hqm))
    refine ⟨(pairsOf_idx h.nd h1).2, (pairsOf_mem h1).1, (pairsOf_mem h1).2, fun row hrow z => ?_⟩
    obtain ⟨_, n, hn, hp⟩ := hm row hrow
    have := group_meet h hn (hp.mem_iff.mp z.1) (hp.mem_iff.mp z.2)
    rw [this] at h2
    cases h2
end Q

open PySem PySem.Spec PyProof.Rows L2 MT DL
local macro_rules | `(tactic| walk_at "ev") => `(tactic| simp -implicitDefEqProofs only [and_self, bind_err, ev_raise, back_err, outR_err, ev_toldM, kTold_ok, kTold_err, ev_meth, kMeth_ev, kMeth2_ev, ev_eqO, kEqO_ev, kEqO2_ev, ev_errV, ev_dnew, bind_ok, bind_stuck, ev_ok, ev_of, ev_seq, kSeq_nx, kSeq_ret, kSeq_bk, kSeq_ct, ev_nx, ev_if, kIf_true, kIf_false, ev_var, kVar_fz, kVar_ow, ev_op, kOp_ev, ev_opB, kOpB_ev, ev_un, ev_chain, kCh_ev, ev_bd, ev_test, asB_b, ev_and, kAnd_t, kAnd_f, ev_or, kOr_t, kOr_f, ev_not, ev_andV, kAndV_t, kAndV_f, ev_orV, kOrV_t, kOrV_f, ev_notV, ev_nil, ev_cons, kCons_ev, ev_tup, ev_lst, ev_cb, ev_ret, ev_retN, ev_drop, ev_never, ev_asg, ev_setF, ev_gN, ev_callf, back_ok, ev_ixP, kIxP_ev, kIxP2_ev, ev_setIx, kSetIx_ev, kSetIx1_ev, ev_callP, kCallP_ev, kCallP2_ev, back1_ok, ev_pop, kOwn_ev, ev_app, ev_ext, ev_lenP, ev_eqP, kEqP_ev, kEqP2_ev, ev_inP, ev_nilO, ev_consF, ev_consO, kConsF_ev, kConsO_ev, ev_par, ev_for, ev_part, kPart_ev, ev_sl, kSl_ev, kSl2_ev, ev_m1, kM1_ev, ev_idx, kIdx_ev, ev_itL, ev_itT, ev_enL, ev_enT, ev_enQ, ev_fld, ev_prop, ev_inO, kInO_ev, kInO2_ev, ev_lenO, kLenO_ev, ev_setA, ev_make, ev_callN,
  List.getElem?_cons_zero, List.getElem?_cons_succ, List.set_cons_zero, List.set_cons_succ, List.append_nil, List.nil_append, List.cons_append, List.length_cons, List.length_nil, if_true, if_false, Nat.reduceAdd, Nat.reduceEqDiff, Nat.zero_add, peek, ownD, ownL, putO, DL.putAll, Option.map_some, Option.bind_some, asDat, asL, asT, as1, asQ, seqD, decide_true, env0, env1, List.map_cons, List.map_nil, List.replicate, Nat.reduceSub, reduceCtorEq, reduceIte, iLt_ev, iLe_ev, iGt_ev, iGe_ev, iAdd_ev, iSub_ev, intF_i, intF_b, minF_ev, maxF_ev, absF_ev, lenF_l, lenF_t, lenF_sc, listF_l, listF_t, tupleF_t, boD_ev, ixF_l0, ixF_l1, ixF_l2, ixF_t0, ixF_t1, ixF_t2, mkTup_0, mkLst_0, mkTup_1, mkLst_1, mkTup_2, mkLst_2, mkTup_3, mkLst_3, mkTup_4, mkLst_4, mkTup_5, mkLst_5, slL_ev, slT_ev, slQ_l, slQ_t, revF_t, revF_l, gsNil_ev, gsCons_ev, out_ret, out_nx, outR_ret, outR_nx, noX_ok])
local macro_rules | `(tactic| walk_at "eva") => `(tactic| simp -implicitDefEqProofs only [and_self, bind_err, ev_raise, back_err, outR_err, ev_toldM, kTold_ok, kTold_err, ev_meth, kMeth_ev, kMeth2_ev, ev_eqO, kEqO_ev, kEqO2_ev, ev_errV, ev_dnew, bind_ok, bind_stuck, ev_ok, ev_of, ev_seq, kSeq_nx, kSeq_ret, kSeq_bk, kSeq_ct, ev_nx, ev_if, kIf_true, kIf_false, ev_var, kVar_fz, kVar_ow, ev_op, kOp_ev, ev_opB, kOpB_ev, ev_un, ev_chain, kCh_ev, ev_bd, ev_test, asB_b, ev_and, kAnd_t, kAnd_f, ev_or, kOr_t, kOr_f, ev_not, ev_andV, kAndV_t, kAndV_f, ev_orV, kOrV_t, kOrV_f, ev_notV, ev_nil, ev_cons, kCons_ev, ev_tup, ev_lst, ev_cb, ev_ret, ev_retN, ev_drop, ev_never, ev_asg, ev_setF, ev_gN, ev_callf, back_ok, ev_ixP, kIxP_ev, kIxP2_ev, ev_setIx, kSetIx_ev, kSetIx1_ev, ev_callP, kCallP_ev, kCallP2_ev, back1_ok, ev_pop, kOwn_ev, ev_app, ev_ext, ev_lenP, ev_eqP, kEqP_ev, kEqP2_ev, ev_inP, ev_nilO, ev_consF, ev_consO, kConsF_ev, kConsO_ev, ev_par, ev_for, ev_part, kPart_ev, ev_sl, kSl_ev, kSl2_ev, ev_m1, kM1_ev, ev_idx, kIdx_ev, ev_itL, ev_itT, ev_enL, ev_enT, ev_enQ, ev_fld, ev_prop, ev_inO, kInO_ev, kInO2_ev, ev_lenO, kLenO_ev, ev_setA, ev_make, ev_callN,
  List.getElem?_cons_zero, List.getElem?_cons_succ, List.set_cons_zero, List.set_cons_succ, List.append_nil, List.nil_append, List.cons_append, List.length_cons, List.length_nil, if_true, if_false, Nat.reduceAdd, Nat.reduceEqDiff, Nat.zero_add, peek, ownD, ownL, putO, DL.putAll, Option.map_some, Option.bind_some, asDat, asL, asT, as1, asQ, seqD, decide_true, env0, env1, List.map_cons, List.map_nil, List.replicate, Nat.reduceSub, reduceCtorEq, reduceIte, iLt_ev, iLe_ev, iGt_ev, iGe_ev, iAdd_ev, iSub_ev, intF_i, intF_b, minF_ev, maxF_ev, absF_ev, lenF_l, lenF_t, lenF_sc, listF_l, listF_t, tupleF_t, boD_ev, ixF_l0, ixF_l1, ixF_l2, ixF_t0, ixF_t1, ixF_t2, mkTup_0, mkLst_0, mkTup_1, mkLst_1, mkTup_2, mkLst_2, mkTup_3, mkLst_3, mkTup_4, mkLst_4, mkTup_5, mkLst_5, slL_ev, slT_ev, slQ_l, slQ_t, revF_t, revF_l, gsNil_ev, gsCons_ev, out_ret, out_nx, outR_ret, outR_nx, noX_ok, Bool.not_true, Bool.not_false, Bool.false_xor, Bool.true_xor, gT2_dat, gT3_dat, gT2_wk, gL3_dat, *])

namespace Q
open DL
theorem lCat_ev {a b : List PyData} (h : a.length + b.length ≤ most) : lCat (dL a) (dL b) = some (dL (a ++ b)) := by
  show (if a.length + b.length ≤ most then some (dL (a ++ b)) else none) = _
  rw [if_pos h]
end Q

open PySem PySem.Spec PyProof.Rows L2 MT DL
local macro_rules | `(tactic| walk_at "ev") => `(tactic| simp -implicitDefEqProofs only [and_self, bind_err, ev_raise, back_err, outR_err, ev_toldM, kTold_ok, kTold_err, ev_meth, kMeth_ev, kMeth2_ev, ev_eqO, kEqO_ev, kEqO2_ev, ev_errV, ev_dnew, bind_ok, bind_stuck, ev_ok, ev_of, ev_seq, kSeq_nx, kSeq_ret, kSeq_bk, kSeq_ct, ev_nx, ev_if, kIf_true, kIf_false, ev_var, kVar_fz, kVar_ow, ev_op, kOp_ev, ev_opB, kOpB_ev, ev_un, ev_chain, kCh_ev, ev_bd, ev_test, asB_b, ev_and, kAnd_t, kAnd_f, ev_or, kOr_t, kOr_f, ev_not, ev_andV, kAndV_t, kAndV_f, ev_orV, kOrV_t, kOrV_f, ev_notV, ev_nil, ev_cons, kCons_ev, ev_tup, ev_lst, ev_cb, ev_ret, ev_retN, ev_drop, ev_never, ev_asg, ev_setF, ev_gN, ev_callf, back_ok, ev_ixP, kIxP_ev, kIxP2_ev, ev_setIx, kSetIx_ev, kSetIx1_ev, ev_callP, kCallP_ev, kCallP2_ev, back1_ok, ev_pop, kOwn_ev, ev_app, ev_ext, ev_lenP, ev_eqP, kEqP_ev, kEqP2_ev, ev_inP, ev_nilO, ev_consF, ev_consO, kConsF_ev, kConsO_ev, ev_par, ev_for, ev_part, kPart_ev, ev_sl, kSl_ev, kSl2_ev, ev_m1, kM1_ev, ev_idx, kIdx_ev, ev_itL, ev_itT, ev_enL, ev_enT, ev_enQ, ev_fld, ev_prop, ev_inO, kInO_ev, kInO2_ev, ev_lenO, kLenO_ev, ev_setA, ev_make, ev_callN,
  List.getElem?_cons_zero, List.getElem?_cons_succ, List.set_cons_zero, List.set_cons_succ, List.append_nil, List.nil_append, List.cons_append, List.length_cons, List.length_nil, if_true, if_false, Nat.reduceAdd, Nat.reduceEqDiff, Nat.zero_add, peek, ownD, ownL, putO, DL.putAll, Option.map_some, Option.bind_some, asDat, asL, asT, as1, asQ, seqD, decide_true, env0, env1, List.map_cons, List.map_nil, List.replicate, Nat.reduceSub, reduceCtorEq, reduceIte, iLt_ev, iLe_ev, iGt_ev, iGe_ev, iAdd_ev, iSub_ev, intF_i, intF_b, minF_ev, maxF_ev, absF_ev, lenF_l, lenF_t, lenF_sc, listF_l, listF_t, tupleF_t, boD_ev, ixF_l0, ixF_l1, ixF_l2, ixF_t0, ixF_t1, ixF_t2, mkTup_0, mkLst_0, mkTup_1, mkLst_1, mkTup_2, mkLst_2, mkTup_3, mkLst_3, mkTup_4, mkLst_4, mkTup_5, mkLst_5, slL_ev, slT_ev, slQ_l, slQ_t, revF_t, revF_l, gsNil_ev, gsCons_ev, out_ret, out_nx, outR_ret, outR_nx, noX_ok])
local macro_rules | `(tactic| walk_at "eva") => `(tactic| simp -implicitDefEqProofs only [and_self, bind_err, ev_raise, back_err, outR_err, ev_toldM, kTold_ok, kTold_err, ev_meth, kMeth_ev, kMeth2_ev, ev_eqO, kEqO_ev, kEqO2_ev, ev_errV, ev_dnew, bind_ok, bind_stuck, ev_ok, ev_of, ev_seq, kSeq_nx, kSeq_ret, kSeq_bk, kSeq_ct, ev_nx, ev_if, kIf_true, kIf_false, ev_var, kVar_fz, kVar_ow, ev_op, kOp_ev, ev_opB, kOpB_ev, ev_un, ev_chain, kCh_ev, ev_bd, ev_test, asB_b, ev_and, kAnd_t, kAnd_f, ev_or, kOr_t, kOr_f, ev_not, ev_andV, kAndV_t, kAndV_f, ev_orV, kOrV_t, kOrV_f, ev_notV, ev_nil, ev_cons, kCons_ev, ev_tup, ev_lst, ev_cb, ev_ret, ev_retN, ev_drop, ev_never, ev_asg, ev_setF, ev_gN, ev_callf, back_ok, ev_ixP, kIxP_ev, kIxP2_ev, ev_setIx, kSetIx_ev, kSetIx1_ev, ev_callP, kCallP_ev, kCallP2_ev, back1_ok, ev_pop, kOwn_ev, ev_app, ev_ext, ev_lenP, ev_eqP, kEqP_ev, kEqP2_ev, ev_inP, ev_nilO, ev_consF, ev_consO, kConsF_ev, kConsO_ev, ev_par, ev_for, ev_part, kPart_ev, ev_sl, kSl_ev, kSl2_ev, ev_m1, kM1_ev, ev_idx, kIdx_ev, ev_itL, ev_itT, ev_enL, ev_enT, ev_enQ, ev_fld, ev_prop, ev_inO, kInO_ev, kInO2_ev, ev_lenO, kLenO_ev, ev_setA, ev_make, ev_callN,
  List.getElem?_cons_zero, List.getElem?_cons_succ, List.set_cons_zero, List.set_cons_succ, List.append_nil, List.nil_append, List.cons_append, List.length_cons, List.length_nil, if_true, if_false, Nat.reduceAdd, Nat.reduceEqDiff, Nat.zero_add, peek, ownD, ownL, putO, DL.putAll, Option.map_some, Option.bind_some, asDat, asL, asT, as1, asQ, seqD, decide_true, env0, env1, List.map_cons, List.map_nil, List.replicate, Nat.reduceSub, reduceCtorEq, reduceIte, iLt_ev, iLe_ev, iGt_ev, iGe_ev, iAdd_ev, iSub_ev, intF_i, intF_b, minF_ev, maxF_ev, absF_ev, lenF_l, lenF_t, lenF_sc, listF_l, listF_t, tupleF_t, boD_ev, ixF_l0, ixF_l1, ixF_l2, ixF_t0, ixF_t1, ixF_t2, mkTup_0, mkLst_0, mkTup_1, mkLst_1, mkTup_2, mkLst_2, mkTup_3, mkLst_3, mkTup_4, mkLst_4, mkTup_5, mkLst_5, slL_ev, slT_ev, slQ_l, slQ_t, revF_t, revF_l, gsNil_ev, gsCons_ev, out_ret, out_nx, outR_ret, outR_nx, noX_ok, Bool.not_true, Bool.not_false, Bool.false_xor, Bool.true_xor, gT2_dat, gT3_dat, gT2_wk, gL3_dat, *])

namespace Q
open DL
theorem pool_sob : pool.all (fun n => PyData.strOk n) = true := by decide +kernel
theorem pool_so : ∀ n ∈ pool, SOk n := fun n hn => List.all_eq_true.mp pool_sob n hn
/-! ### texts -/
theorem split_len (s sep : Str) : True := trivial
end Q

open PySem PySem.Spec PyProof.Rows L2 MT DL
local macro_rules | `(tactic| walk_at "ev") => `(tactic| simp -implicitDefEqProofs only [and_self, bind_err, ev_raise, back_err, outR_err, ev_toldM, kTold_ok, kTold_err, ev_meth, kMeth_ev, kMeth2_ev, ev_eqO, kEqO_ev, kEqO2_ev, ev_errV, ev_dnew, bind_ok, bind_stuck, ev_ok, ev_of, ev_seq, kSeq_nx, kSeq_ret, kSeq_bk, kSeq_ct, ev_nx, ev_if, kIf_true, kIf_false, ev_var, kVar_fz, kVar_ow, ev_op, kOp_ev, ev_opB, kOpB_ev, ev_un, ev_chain, kCh_ev, ev_bd, ev_test, asB_b, ev_and, kAnd_t, kAnd_f, ev_or, kOr_t, kOr_f, ev_not, ev_andV, kAndV_t, kAndV_f, ev_orV, kOrV_t, kOrV_f, ev_notV, ev_nil, ev_cons, kCons_ev, ev_tup, ev_lst, ev_cb, ev_ret, ev_retN, ev_drop, ev_never, ev_asg, ev_setF, ev_gN, ev_callf, back_ok, ev_ixP, kIxP_ev, kIxP2_ev, ev_setIx, kSetIx_ev, kSetIx1_ev, ev_callP, kCallP_ev, kCallP2_ev, back1_ok, ev_pop, kOwn_ev, ev_app, ev_ext, ev_lenP, ev_eqP, kEqP_ev, kEqP2_ev, ev_inP, ev_nilO, ev_consF, ev_consO, kConsF_ev, kConsO_ev, ev_par, ev_for, ev_part, kPart_ev, ev_sl, kSl_ev, kSl2_ev, ev_m1, kM1_ev, ev_idx, kIdx_ev, ev_itL, ev_itT, ev_enL, ev_enT, ev_enQ, ev_fld, ev_prop, ev_inO, kInO_ev, kInO2_ev, ev_lenO, kLenO_ev, ev_setA, ev_make, ev_callN,
  List.getElem?_cons_zero, List.getElem?_cons_succ, List.set_cons_zero, List.set_cons_succ, List.append_nil, List.nil_append, List.cons_append, List.length_cons, List.length_nil, if_true, if_false, Nat.reduceAdd, Nat.reduceEqDiff, Nat.zero_add, peek, ownD, ownL, putO, DL.putAll, Option.map_some, Option.bind_some, asDat, asL, asT, as1, asQ, seqD, decide_true, env0, env1, List.map_cons, List.map_nil, List.replicate, Nat.reduceSub, reduceCtorEq, reduceIte, iLt_ev, iLe_ev, iGt_ev, iGe_ev, iAdd_ev, iSub_ev, intF_i, intF_b, minF_ev, maxF_ev, absF_ev, lenF_l, lenF_t, lenF_sc, listF_l, listF_t, tupleF_t, boD_ev, ixF_l0, ixF_l1, ixF_l2, ixF_t0, ixF_t1, ixF_t2, mkTup_0, mkLst_0, mkTup_1, mkLst_1, mkTup_2, mkLst_2, mkTup_3, mkLst_3, mkTup_4, mkLst_4, mkTup_5, mkLst_5, slL_ev, slT_ev, slQ_l, slQ_t, revF_t, revF_l, gsNil_ev, gsCons_ev, out_ret, out_nx, outR_ret, outR_nx, noX_ok])
local macro_rules | `(tactic| walk_at "eva") => `(tactic| simp -implicitDefEqProofs only [and_self, bind_err, ev_raise, back_err, outR_err, ev_toldM, kTold_ok, kTold_err, ev_meth, kMeth_ev, kMeth2_ev, ev_eqO, kEqO_ev, kEqO2_ev, ev_errV, ev_dnew, bind_ok, bind_stuck, ev_ok, ev_of, ev_seq, kSeq_nx, kSeq_ret, kSeq_bk, kSeq_ct, ev_nx, ev_if, kIf_true, kIf_false, ev_var, kVar_fz, kVar_ow, ev_op, kOp_ev, ev_opB, kOpB_ev, ev_un, ev_chain, kCh_ev, ev_bd, ev_test, asB_b, ev_and, kAnd_t, kAnd_f, ev_or, kOr_t, kOr_f, ev_not, ev_andV, kAndV_t, kAndV_f, ev_orV, kOrV_t, kOrV_f, ev_notV, ev_nil, ev_cons, kCons_ev, ev_tup, ev_lst, ev_cb, ev_ret, ev_retN, ev_drop, ev_never, ev_asg, ev_setF, ev_gN, ev_callf, back_ok, ev_ixP, kIxP_ev, kIxP2_ev, ev_setIx, kSetIx_ev, kSetIx1_ev, ev_callP, kCallP_ev, kCallP2_ev, back1_ok, ev_pop, kOwn_ev, ev_app, ev_ext, ev_lenP, ev_eqP, kEqP_ev, kEqP2_ev, ev_inP, ev_nilO, ev_consF, ev_consO, kConsF_ev, kConsO_ev, ev_par, ev_for, ev_part, kPart_ev, ev_sl, kSl_ev, kSl2_ev, ev_m1, kM1_ev, ev_idx, kIdx_ev, ev_itL, ev_itT, ev_enL, ev_enT, ev_enQ, ev_fld, ev_prop, ev_inO, kInO_ev, kInO2_ev, ev_lenO, kLenO_ev, ev_setA, ev_make, ev_callN,
  List.getElem?_cons_zero, List.getElem?_cons_succ, List.set_cons_zero, List.set_cons_succ, List.append_nil, List.nil_append, List.cons_append, List.length_cons, List.length_nil, if_true, if_false, Nat.reduceAdd, Nat.reduceEqDiff, Nat.zero_add, peek, ownD, ownL, putO, DL.putAll, Option.map_some, Option.bind_some, asDat, asL, asT, as1, asQ, seqD, decide_true, env0, env1, List.map_cons, List.map_nil, List.replicate, Nat.reduceSub, reduceCtorEq, reduceIte, iLt_ev, iLe_ev, iGt_ev, iGe_ev, iAdd_ev, iSub_ev, intF_i, intF_b, minF_ev, maxF_ev, absF_ev, lenF_l, lenF_t, lenF_sc, listF_l, listF_t, tupleF_t, boD_ev, ixF_l0, ixF_l1, ixF_l2, ixF_t0, ixF_t1, ixF_t2, mkTup_0, mkLst_0, mkTup_1, mkLst_1, mkTup_2, mkLst_2, mkTup_3, mkLst_3, mkTup_4, mkLst_4, mkTup_5, mkLst_5, slL_ev, slT_ev, slQ_l, slQ_t, revF_t, revF_l, gsNil_ev, gsCons_ev, out_ret, out_nx, outR_ret, outR_nx, noX_ok, Bool.not_true, Bool.not_false, Bool.false_xor, Bool.true_xor, gT2_dat, gT3_dat, gT2_wk, gL3_dat, *])

namespace Q
open DL TL
/-! ### texts of halls -/
def lineS (ws : List Str) : Str := Txt.join " " ws
def rowsOf (people : List Str) (mets : List (List Str)) (opens : List (Str × Str)) : List (List Str) := (("people" : Str) :: people) :: (mets.map (fun r => ("met" : Str) :: r) ++ opens.map fun q => [("open" : Str), q.1, q.2])
def textS (rows : List (List Str)) : Str := Txt.join "\n" (rows.map lineS)
theorem joinL_len {sep : List Nat} : ∀ {ps : List (List Nat)}, (joinL sep ps).length ≤ (ps.map (·.length)).sum + ps.length * sep.length
  | [] => by simp [joinL]
  | [p] => by simp [joinL]
  | p :: q :: r => by
    have ih := joinL_len (sep := sep) (ps := q :: r)
    simp only [joinL, List.length_append, List.map_cons, List.sum_cons, List.length_cons] at ih ⊢
    rw [Nat.add_mul (r.length + 1) 1]
    omega
theorem join_len {a : Str} {ys : List Str} : (Txt.join a ys).length ≤ (ys.map (·.length)).sum + ys.length * a.length := by
  rw [len_tl, join_eq, tl_join]
  have h := joinL_len (sep := tl a) (ps := ys.map tl)
  have e : (ys.map tl).map (·.length) = ys.map (·.length) := by
    rw [List.map_map]
    apply List.map_congr_left
    intro y _
    exact (len_tl y).symm
  rw [e, List.length_map, ← len_tl] at h
  exact h
theorem sum_le {b : Nat} : ∀ {ys : List Str}, (∀ y ∈ ys, y.length ≤ b) → (ys.map (·.length)).sum ≤ b * ys.length
  | [], _ => by simp
  | y :: ys, h => by
    have ih := sum_le (ys := ys) fun z hz => h z (.tail _ hz)
    have h1 := h y (.head _)
    simp only [List.map_cons, List.sum_cons, List.length_cons, Nat.mul_add, Nat.mul_one]
    omega
theorem strsOf_map : ∀ {ys : List Str}, strsOf (ys.map .str) = some ys
  | [] => rfl
  | y :: ys => by
    show (strsOf (ys.map .str)).map (y :: ·) = _
    rw [strsOf_map]; rfl
theorem joinF_ev {a : Str} {ys : List Str} {b n : Nat} (hb : ∀ y ∈ ys, y.length ≤ b) (hn : ys.length ≤ n) (ha : a.length = 1) (hh : b * n + n ≤ 1000000) : joinF (dS a) (dL (ys.map .str)) = some (dS (Txt.join a ys)) := by
  show ((strsOf (ys.map .str)).bind fun ys => if (ys.map (·.length)).sum + ys.length * a.length ≤ most then some (dS (Txt.join a ys)) else none) = _
  rw [strsOf_map]
  show (if (ys.map (·.length)).sum + ys.length * a.length ≤ most then some (dS (Txt.join a ys)) else none) = _
  have h1 := sum_le hb
  have h2 : b * ys.length ≤ b * n := Nat.mul_le_mul_left _ hn
  rw [if_pos (le_most (by rw [ha]; omega))]
theorem pool_len : pool.all (fun n => decide (n.length ≤ 8)) = true := by decide +kernel
theorem pool_le : ∀ n ∈ pool, n.length ≤ 8 := fun n hn => of_decide_eq_true (List.all_eq_true.mp pool_len n hn)
/-- one line -/
def tLine (w : Str) (m : M D) : M D := (mM1 joinF (mOk (.dat (.str " "))) (mOp lCat (mLst (mCons (mOk (.dat (.str w))) mNil)) (mCB listF (mCons m mNil))))
theorem tLine_ev {w : Str} {m : M D} {δ : DL.Env} {x : D} {ys : List Str} (hm : m δ = .ok x δ) (hx : listF [x] = some (dL (ys.map .str))) (hw : w.length ≤ 8) (hy : ∀ y ∈ ys, y.length ≤ 8) (hl : ys.length ≤ 9) : tLine w m δ = .ok (dS (lineS (w :: ys))) δ := by
  unfold tLine
  walk_at "ev"
  rw [hm]
  walk_at "ev"
  rw [hx]
  walk_at "ev"
  rw [lCat_ev (show [PyData.str w].length + (ys.map PyData.str).length ≤ most from le_most (by simp; omega))]
  walk_at "ev"
  rw [show PyData.str w :: ys.map .str = (w :: ys).map .str from rfl, joinF_ev (a := " ") (ys := w :: ys) (b := 8) (n := 10) (fun y h => by
    rcases List.mem_cons.mp h with rfl | h
    · exact hw
    · exact hy y h) (by simp; omega) rfl (by decide)]
  walk_at "ev"
  rfl
end Q

open PySem PySem.Spec PyProof.Rows L2 MT DL
local macro_rules | `(tactic| walk_at "ev") => `(tactic| simp -implicitDefEqProofs only [and_self, bind_err, ev_raise, back_err, outR_err, ev_toldM, kTold_ok, kTold_err, ev_meth, kMeth_ev, kMeth2_ev, ev_eqO, kEqO_ev, kEqO2_ev, ev_errV, ev_dnew, bind_ok, bind_stuck, ev_ok, ev_of, ev_seq, kSeq_nx, kSeq_ret, kSeq_bk, kSeq_ct, ev_nx, ev_if, kIf_true, kIf_false, ev_var, kVar_fz, kVar_ow, ev_op, kOp_ev, ev_opB, kOpB_ev, ev_un, ev_chain, kCh_ev, ev_bd, ev_test, asB_b, ev_and, kAnd_t, kAnd_f, ev_or, kOr_t, kOr_f, ev_not, ev_andV, kAndV_t, kAndV_f, ev_orV, kOrV_t, kOrV_f, ev_notV, ev_nil, ev_cons, kCons_ev, ev_tup, ev_lst, ev_cb, ev_ret, ev_retN, ev_drop, ev_never, ev_asg, ev_setF, ev_gN, ev_callf, back_ok, ev_ixP, kIxP_ev, kIxP2_ev, ev_setIx, kSetIx_ev, kSetIx1_ev, ev_callP, kCallP_ev, kCallP2_ev, back1_ok, ev_pop, kOwn_ev, ev_app, ev_ext, ev_lenP, ev_eqP, kEqP_ev, kEqP2_ev, ev_inP, ev_nilO, ev_consF, ev_consO, kConsF_ev, kConsO_ev, ev_par, ev_for, ev_part, kPart_ev, ev_sl, kSl_ev, kSl2_ev, ev_m1, kM1_ev, ev_idx, kIdx_ev, ev_itL, ev_itT, ev_enL, ev_enT, ev_enQ, ev_fld, ev_prop, ev_inO, kInO_ev, kInO2_ev, ev_lenO, kLenO_ev, ev_setA, ev_make, ev_callN,
  List.getElem?_cons_zero, List.getElem?_cons_succ, List.set_cons_zero, List.set_cons_succ, List.append_nil, List.nil_append, List.cons_append, List.length_cons, List.length_nil, if_true, if_false, Nat.reduceAdd, Nat.reduceEqDiff, Nat.zero_add, peek, ownD, ownL, putO, DL.putAll, Option.map_some, Option.bind_some, asDat, asL, asT, as1, asQ, seqD, decide_true, env0, env1, List.map_cons, List.map_nil, List.replicate, Nat.reduceSub, reduceCtorEq, reduceIte, iLt_ev, iLe_ev, iGt_ev, iGe_ev, iAdd_ev, iSub_ev, intF_i, intF_b, minF_ev, maxF_ev, absF_ev, lenF_l, lenF_t, lenF_sc, listF_l, listF_t, tupleF_t, boD_ev, ixF_l0, ixF_l1, ixF_l2, ixF_t0, ixF_t1, ixF_t2, mkTup_0, mkLst_0, mkTup_1, mkLst_1, mkTup_2, mkLst_2, mkTup_3, mkLst_3, mkTup_4, mkLst_4, mkTup_5, mkLst_5, slL_ev, slT_ev, slQ_l, slQ_t, revF_t, revF_l, gsNil_ev, gsCons_ev, out_ret, out_nx, outR_ret, outR_nx, noX_ok])
local macro_rules | `(tactic| walk_at "eva") => `(tactic| simp -implicitDefEqProofs only [and_self, bind_err, ev_raise, back_err, outR_err, ev_toldM, kTold_ok, kTold_err, ev_meth, kMeth_ev, kMeth2_ev, ev_eqO, kEqO_ev, kEqO2_ev, ev_errV, ev_dnew, bind_ok, bind_stuck, ev_ok, ev_of, ev_seq, kSeq_nx, kSeq_ret, kSeq_bk, kSeq_ct, ev_nx, ev_if, kIf_true, kIf_false, ev_var, kVar_fz, kVar_ow, ev_op, kOp_ev, ev_opB, kOpB_ev, ev_un, ev_chain, kCh_ev, ev_bd, ev_test, asB_b, ev_and, kAnd_t, kAnd_f, ev_or, kOr_t, kOr_f, ev_not, ev_andV, kAndV_t, kAndV_f, ev_orV, kOrV_t, kOrV_f, ev_notV, ev_nil, ev_cons, kCons_ev, ev_tup, ev_lst, ev_cb, ev_ret, ev_retN, ev_drop, ev_never, ev_asg, ev_setF, ev_gN, ev_callf, back_ok, ev_ixP, kIxP_ev, kIxP2_ev, ev_setIx, kSetIx_ev, kSetIx1_ev, ev_callP, kCallP_ev, kCallP2_ev, back1_ok, ev_pop, kOwn_ev, ev_app, ev_ext, ev_lenP, ev_eqP, kEqP_ev, kEqP2_ev, ev_inP, ev_nilO, ev_consF, ev_consO, kConsF_ev, kConsO_ev, ev_par, ev_for, ev_part, kPart_ev, ev_sl, kSl_ev, kSl2_ev, ev_m1, kM1_ev, ev_idx, kIdx_ev, ev_itL, ev_itT, ev_enL, ev_enT, ev_enQ, ev_fld, ev_prop, ev_inO, kInO_ev, kInO2_ev, ev_lenO, kLenO_ev, ev_setA, ev_make, ev_callN,
  List.getElem?_cons_zero, List.getElem?_cons_succ, List.set_cons_zero, List.set_cons_succ, List.append_nil, List.nil_append, List.cons_append, List.length_cons, List.length_nil, if_true, if_false, Nat.reduceAdd, Nat.reduceEqDiff, Nat.zero_add, peek, ownD, ownL, putO, DL.putAll, Option.map_some, Option.bind_some, asDat, asL, asT, as1, asQ, seqD, decide_true, env0, env1, List.map_cons, List.map_nil, List.replicate, Nat.reduceSub, reduceCtorEq, reduceIte, iLt_ev, iLe_ev, iGt_ev, iGe_ev, iAdd_ev, iSub_ev, intF_i, intF_b, minF_ev, maxF_ev, absF_ev, lenF_l, lenF_t, lenF_sc, listF_l, listF_t, tupleF_t, boD_ev, ixF_l0, ixF_l1, ixF_l2, ixF_t0, ixF_t1, ixF_t2, mkTup_0, mkLst_0, mkTup_1, mkLst_1, mkTup_2, mkLst_2, mkTup_3, mkLst_3, mkTup_4, mkLst_4, mkTup_5, mkLst_5, slL_ev, slT_ev, slQ_l, slQ_t, revF_t, revF_l, gsNil_ev, gsCons_ev, out_ret, out_nx, outR_ret, outR_nx, noX_ok, Bool.not_true, Bool.not_false, Bool.false_xor, Bool.true_xor, gT2_dat, gT3_dat, gT2_wk, gL3_dat, *])

namespace Q
open DL TL
theorem nd_len : ∀ {r people : List Str}, r.Nodup → (∀ x ∈ r, x ∈ people) → r.length ≤ people.length
  | [], _, _, _ => Nat.zero_le _
  | x :: r, people, nd, h => by
    have hx := h x (.head _)
    have nx := (List.nodup_cons.mp nd).1
    have ih := nd_len (r := r) (people := people.erase x) (List.nodup_cons.mp nd).2 fun y hy => by
      have ne : y ≠ x := fun e => nx (e ▸ hy)
      exact (List.mem_erase_of_ne ne).mpr (h y (.tail _ hy))
    rw [List.length_erase_of_mem hx] at ih
    have : 0 < people.length := List.length_pos_of_mem hx
    rw [List.length_cons]
    omega
end Q

open PySem PySem.Spec PyProof.Rows L2 MT DL
local macro_rules | `(tactic| walk_at "ev") => `(tactic| simp -implicitDefEqProofs only [and_self, bind_err, ev_raise, back_err, outR_err, ev_toldM, kTold_ok, kTold_err, ev_meth, kMeth_ev, kMeth2_ev, ev_eqO, kEqO_ev, kEqO2_ev, ev_errV, ev_dnew, bind_ok, bind_stuck, ev_ok, ev_of, ev_seq, kSeq_nx, kSeq_ret, kSeq_bk, kSeq_ct, ev_nx, ev_if, kIf_true, kIf_false, ev_var, kVar_fz, kVar_ow, ev_op, kOp_ev, ev_opB, kOpB_ev, ev_un, ev_chain, kCh_ev, ev_bd, ev_test, asB_b, ev_and, kAnd_t, kAnd_f, ev_or, kOr_t, kOr_f, ev_not, ev_andV, kAndV_t, kAndV_f, ev_orV, kOrV_t, kOrV_f, ev_notV, ev_nil, ev_cons, kCons_ev, ev_tup, ev_lst, ev_cb, ev_ret, ev_retN, ev_drop, ev_never, ev_asg, ev_setF, ev_gN, ev_callf, back_ok, ev_ixP, kIxP_ev, kIxP2_ev, ev_setIx, kSetIx_ev, kSetIx1_ev, ev_callP, kCallP_ev, kCallP2_ev, back1_ok, ev_pop, kOwn_ev, ev_app, ev_ext, ev_lenP, ev_eqP, kEqP_ev, kEqP2_ev, ev_inP, ev_nilO, ev_consF, ev_consO, kConsF_ev, kConsO_ev, ev_par, ev_for, ev_part, kPart_ev, ev_sl, kSl_ev, kSl2_ev, ev_m1, kM1_ev, ev_idx, kIdx_ev, ev_itL, ev_itT, ev_enL, ev_enT, ev_enQ, ev_fld, ev_prop, ev_inO, kInO_ev, kInO2_ev, ev_lenO, kLenO_ev, ev_setA, ev_make, ev_callN,
  List.getElem?_cons_zero, List.getElem?_cons_succ, List.set_cons_zero, List.set_cons_succ, List.append_nil, List.nil_append, List.cons_append, List.length_cons, List.length_nil, if_true, if_false, Nat.reduceAdd, Nat.reduceEqDiff, Nat.zero_add, peek, ownD, ownL, putO, DL.putAll, Option.map_some, Option.bind_some, asDat, asL, asT, as1, asQ, seqD, decide_true, env0, env1, List.map_cons, List.map_nil, List.replicate, Nat.reduceSub, reduceCtorEq, reduceIte, iLt_ev, iLe_ev, iGt_ev, iGe_ev, iAdd_ev, iSub_ev, intF_i, intF_b, minF_ev, maxF_ev, absF_ev, lenF_l, lenF_t, lenF_sc, listF_l, listF_t, tupleF_t, boD_ev, ixF_l0, ixF_l1, ixF_l2, ixF_t0, ixF_t1, ixF_t2, mkTup_0, mkLst_0, mkTup_1, mkLst_1, mkTup_2, mkLst_2, mkTup_3, mkLst_3, mkTup_4, mkLst_4, mkTup_5, mkLst_5, slL_ev, slT_ev, slQ_l, slQ_t, revF_t, revF_l, gsNil_ev, gsCons_ev, out_ret, out_nx, outR_ret, outR_nx, noX_ok])
local macro_rules | `(tactic| walk_at "eva") => `(tactic| simp -implicitDefEqProofs only [and_self, bind_err, ev_raise, back_err, outR_err, ev_toldM, kTold_ok, kTold_err, ev_meth, kMeth_ev, kMeth2_ev, ev_eqO, kEqO_ev, kEqO2_ev, ev_errV, ev_dnew, bind_ok, bind_stuck, ev_ok, ev_of, ev_seq, kSeq_nx, kSeq_ret, kSeq_bk, kSeq_ct, ev_nx, ev_if, kIf_true, kIf_false, ev_var, kVar_fz, kVar_ow, ev_op, kOp_ev, ev_opB, kOpB_ev, ev_un, ev_chain, kCh_ev, ev_bd, ev_test, asB_b, ev_and, kAnd_t, kAnd_f, ev_or, kOr_t, kOr_f, ev_not, ev_andV, kAndV_t, kAndV_f, ev_orV, kOrV_t, kOrV_f, ev_notV, ev_nil, ev_cons, kCons_ev, ev_tup, ev_lst, ev_cb, ev_ret, ev_retN, ev_drop, ev_never, ev_asg, ev_setF, ev_gN, ev_callf, back_ok, ev_ixP, kIxP_ev, kIxP2_ev, ev_setIx, kSetIx_ev, kSetIx1_ev, ev_callP, kCallP_ev, kCallP2_ev, back1_ok, ev_pop, kOwn_ev, ev_app, ev_ext, ev_lenP, ev_eqP, kEqP_ev, kEqP2_ev, ev_inP, ev_nilO, ev_consF, ev_consO, kConsF_ev, kConsO_ev, ev_par, ev_for, ev_part, kPart_ev, ev_sl, kSl_ev, kSl2_ev, ev_m1, kM1_ev, ev_idx, kIdx_ev, ev_itL, ev_itT, ev_enL, ev_enT, ev_enQ, ev_fld, ev_prop, ev_inO, kInO_ev, kInO2_ev, ev_lenO, kLenO_ev, ev_setA, ev_make, ev_callN,
  List.getElem?_cons_zero, List.getElem?_cons_succ, List.set_cons_zero, List.set_cons_succ, List.append_nil, List.nil_append, List.cons_append, List.length_cons, List.length_nil, if_true, if_false, Nat.reduceAdd, Nat.reduceEqDiff, Nat.zero_add, peek, ownD, ownL, putO, DL.putAll, Option.map_some, Option.bind_some, asDat, asL, asT, as1, asQ, seqD, decide_true, env0, env1, List.map_cons, List.map_nil, List.replicate, Nat.reduceSub, reduceCtorEq, reduceIte, iLt_ev, iLe_ev, iGt_ev, iGe_ev, iAdd_ev, iSub_ev, intF_i, intF_b, minF_ev, maxF_ev, absF_ev, lenF_l, lenF_t, lenF_sc, listF_l, listF_t, tupleF_t, boD_ev, ixF_l0, ixF_l1, ixF_l2, ixF_t0, ixF_t1, ixF_t2, mkTup_0, mkLst_0, mkTup_1, mkLst_1, mkTup_2, mkLst_2, mkTup_3, mkLst_3, mkTup_4, mkLst_4, mkTup_5, mkLst_5, slL_ev, slT_ev, slQ_l, slQ_t, revF_t, revF_l, gsNil_ev, gsCons_ev, out_ret, out_nx, outR_ret, outR_nx, noX_ok, Bool.not_true, Bool.not_false, Bool.false_xor, Bool.true_xor, gT2_dat, gT3_dat, gT2_wk, gL3_dat, *])

namespace Q
open DL TL
/-! ### words -/
theorem boolsOf_map : ∀ {bs : List Bool}, boolsOf (bs.map .bool) = some bs
  | [] => rfl
  | b :: bs => by
    show (boolsOf (bs.map .bool)).map (b :: ·) = _
    rw [boolsOf_map]; rfl
theorem allF_ev {bs : List Bool} : allF [dL (bs.map .bool)] = some (dB (bs.all id)) := by
  show (boolsOf (bs.map .bool)).map (fun bs => D.dat (.bool (bs.all id))) = _
  rw [boolsOf_map]; rfl
theorem allF_map {α : Type} {f : α → Bool} {xs : List α} : allF [dL (xs.map fun x => PyData.bool (f x))] = some (dB (xs.all f)) := by
  have := allF_ev (bs := xs.map f)
  rw [List.map_map, List.all_map] at this
  exact this
theorem enumGo_zip {α : Type} {enc : α → PyData} : ∀ {ys : List α} {i : Nat}, enumGo i (ys.map enc) = (ys.zipIdx i).map fun q => D.wk [.dat (.int (q.2 : Nat)), .dat (enc q.1)]
  | [], _ => rfl
  | y :: ys, i => by
    rw [List.map_cons, enumGo, List.zipIdx_cons, List.map_cons, enumGo_zip]
def unlikeB {α : Type} [DecidableEq α] (ys : List α) : Bool := (ys.zipIdx).all fun q => !decide (q.1 ∈ ys.take q.2)
theorem zip_get {α : Type} {ys : List α} {q : α × Nat} (h : q ∈ ys.zipIdx) : ∃ hi : q.2 < ys.length, ys[q.2] = q.1 := by
  obtain ⟨a, i⟩ := q
  have := List.mem_zipIdx_iff_getElem?.mp h
  obtain ⟨h1, h2⟩ := List.getElem?_eq_some_iff.mp this
  exact ⟨h1, h2⟩
theorem unlike_nd {α : Type} [DecidableEq α] {ys : List α} (nd : ys.Nodup) : unlikeB ys = true := by
  refine List.all_eq_true.mpr fun q hq => ?_
  obtain ⟨hi, e⟩ := zip_get hq
  have : q.1 ∉ ys.take q.2 := fun z => by
    obtain ⟨j, hj, ej⟩ := List.getElem_of_mem z
    rw [List.length_take] at hj
    rw [List.getElem_take] at ej
    have := (List.getElem_inj (h₀ := by omega) (h₁ := hi) nd).mp (ej.trans e.symm)
    omega
  simp [this]
theorem unlike_ev {α : Type} [DecidableEq α] {enc : α → PyData} {ys : List α} {x : D} (hx : x = dL (ys.map enc) ∨ x = dT (ys.map enc)) (hl : ys.length ≤ 1000) (he : ∀ a b, PyData.eqv (enc a) (enc b) = decide (a = b)) (hs : ∀ zs : List α, (∀ z ∈ zs, z ∈ ys) → SeqAt.shaped (.list (zs.map enc)) = true ∧ SeqAt.shaped (.tuple (zs.map enc)) = true) (h1 : ∀ y ∈ ys, SeqAt.shaped (enc y) = true) :
    f_are_unlike [x] = .ok (dB (unlikeB ys)) := by
  have any_enc : ∀ (zs : List α) (a : α), ((zs.map enc).any fun z => PyData.eqv z (enc a)) = decide (a ∈ zs) := by
    intro zs a
    rw [List.any_map]
    induction zs with
    | nil => simp
    | cons z zs ih =>
      rw [List.any_cons, ih]
      show (PyData.eqv (enc z) (enc a) || decide (a ∈ zs)) = _
      rw [he]
      by_cases h : z = a
      · simp [h]
      · have : ¬ a = z := fun e => h e.symm
        simp [h, this]
  have el : mEnQ (mCons (mVar 0) mNil) [.fz x, .no, .no] = .ok ((ys.zipIdx).map fun q => D.wk [.dat (.int (q.2 : Nat)), .dat (enc q.1)]) [.fz x, .no, .no] := by
    rw [← enumGo_zip, ← enumD_eq]
    rcases hx with rfl | rfl
    · rfl
    · rfl
  have ein : ∀ q ∈ ys.zipIdx, (mOp (fun x y => boD ((inB true) x y)) (mVar 2) (mSl slQ (mVar 0) (mOk none) (mPart (mVar 1)))) [.fz x, .fz (dI (q.2 : Nat)), .fz (.dat (enc q.1))] = .ok (dB (!decide (q.1 ∈ ys.take q.2))) [.fz x, .fz (dI (q.2 : Nat)), .fz (.dat (enc q.1))] := by
    intro q hq
    obtain ⟨hi, e⟩ := zip_get hq
    have hm : q.1 ∈ ys := e ▸ List.getElem_mem hi
    have hsub : ∀ z ∈ ys.take q.2, z ∈ ys := fun z hz => List.mem_of_mem_take hz
    rcases hx with rfl | rfl
    · walk_at "ev"
      rw [cutD_to, ← List.map_take, inB_l (h1 _ hm) (hs _ hsub).1, any_enc]
      walk_at "ev"
      simp
    · walk_at "ev"
      rw [cutD_to, ← List.map_take, inB_t (h1 _ hm) (hs _ hsub).2, any_enc]
      walk_at "ev"
      simp
  unfold f_are_unlike m_are_unlike
  rw [show env0 3 [x] = [.fz x, .no, .no] from rfl, ev_ret, ev_cb, ev_cons]
  rw [ev_lcA (enc := fun q : α × Nat => D.wk [.dat (.int (q.2 : Nat)), .dat (enc q.1)]) (h := fun q => PyData.bool (!decide (q.1 ∈ ys.take q.2))) (xs := ys.zipIdx) el (by rw [List.length_zipIdx]; exact le_most (by omega)) rfl rfl fun q hq => ⟨[.fz x, .fz (dI (q.2 : Nat)), .fz (.dat (enc q.1))], [.fz x, .fz (dI (q.2 : Nat)), .fz (.dat (enc q.1))], rfl, ein q hq, rfl⟩]
  rw [bind_ok, kCons_ev, ev_nil, bind_ok, bind_ok, allF_map, ev_of, bind_ok, outR_ret, noX_ok]
  rfl
theorem unlike_strs {ys : List Str} {x : D} (hx : x = dL (ys.map .str) ∨ x = dT (ys.map .str)) (hl : ys.length ≤ 1000) (so : ∀ y ∈ ys, SOk y) : f_are_unlike [x] = .ok (dB (unlikeB ys)) :=
  unlike_ev hx hl (fun _ _ => eqv_str) (fun zs hz => ⟨shaped_strs fun s h => so s (hz s h), shaped_strsT fun s h => so s (hz s h)⟩) fun y hy => shaped_str (so y hy)
theorem name_all : pool.all (fun n => match f_is_name [dS n] with | .ok (.dat (.bool true)) => true | _ => false) = true := by decide +kernel
theorem is_name_ev {n : Str} (h : n ∈ pool) : f_is_name [dS n] = .ok (dB true) := by
  have := List.all_eq_true.mp name_all n h
  split at this
  · assumption
  · cases this
/-! ### some_in -/
theorem some_ev {w : Str} {ns people : List Str} (hl : ns.length ≤ 100) (h2 : 2 ≤ ns.length) (hm : ∀ n ∈ ns, n ∈ people) (nd : ns.Nodup) (so : ∀ n ∈ people, SOk n) : f_some_in [dL ((w :: ns).map .str), dT (people.map .str)] = .ok (dB true) := by
  have u := unlike_strs (x := dL (ns.map .str)) (.inl rfl) (by omega) fun y hy => so y (hm y hy)
  rw [unlike_nd nd] at u
  have e1 : (mAsg (mSl slL (mVar 0) (mPart (mOk (.dat (.int 1)))) (mOk none)) (gN 2)) [.fz (dL ((w :: ns).map .str)), .fz (dT (people.map .str)), .no, .no] = .ok .nx [.fz (dL ((w :: ns).map .str)), .fz (dT (people.map .str)), .fz (dL (ns.map .str)), .no] := by
    walk_at "ev"
    rw [show (1 : Int) = ((1 : Nat) : Int) from rfl, cutD_from]
    rfl
  have e2 : (mLc [3] (mItL (mVar 2)) (gN 3) mYes (mOp (fun x y => boD ((inB false) x y)) (mVar 3) (mVar 1))) [.fz (dL ((w :: ns).map .str)), .fz (dT (people.map .str)), .fz (dL (ns.map .str)), .no] = .ok (dL (ns.map fun n => .bool (decide (n ∈ people)))) [.fz (dL ((w :: ns).map .str)), .fz (dT (people.map .str)), .fz (dL (ns.map .str)), .no] := by
    refine ev_lcA (enc := fun n => dS n) (xs := ns) (δ1 := [.fz (dL ((w :: ns).map .str)), .fz (dT (people.map .str)), .fz (dL (ns.map .str)), .no]) ?_ (le_most (by omega)) rfl rfl fun n hn => ⟨[.fz (dL ((w :: ns).map .str)), .fz (dT (people.map .str)), .fz (dL (ns.map .str)), .fz (dS n)], [.fz (dL ((w :: ns).map .str)), .fz (dT (people.map .str)), .fz (dL (ns.map .str)), .fz (dS n)], rfl, ?_, rfl⟩
    · show mOf (some (dats (ns.map .str))) _ = _
      rw [dats_map, ev_of]
    · generalize dL ((w :: ns).map .str) = z
      walk_at "ev"
      rw [inB_t (shaped_str (so n (hm n hn))) (shaped_strsT so), any_strs]
      walk_at "ev"
      simp
  have e3 : (ns.all fun n => decide (n ∈ people)) = true := List.all_eq_true.mpr fun n hn => decide_eq_true (hm n hn)
  unfold f_some_in m_some_in
  rw [show env0 4 [dL ((w :: ns).map .str), dT (people.map .str)] = [.fz (dL ((w :: ns).map .str)), .fz (dT (people.map .str)), .no, .no] from rfl]
  generalize dL ((w :: ns).map .str) = z at e1 e2 ⊢
  rw [ev_seq, e1, bind_ok, kSeq_nx, ev_ret, ev_andV, ev_test]
  rw [show (mOp (fun x y => boD (iGe x y)) (mCB lenF (mCons (mVar 2) mNil)) (mOk (.dat (.int 2)))) [.fz z, .fz (dT (people.map .str)), .fz (dL (ns.map .str)), .no] = .ok (dB true) [.fz z, .fz (dT (people.map .str)), .fz (dL (ns.map .str)), .no] from by
    walk_at "ev"
    rw [List.length_map, decide_eq_true (show (2 : Int) ≤ (ns.length : Nat) by omega)]]
  rw [bind_ok, asB_b, ev_of, bind_ok, kAndV_t, ev_andV, ev_test, ev_cb, ev_cons, e2, bind_ok, kCons_ev, ev_nil, bind_ok, bind_ok, allF_map, e3, ev_of, bind_ok, asB_b, ev_of, bind_ok, kAndV_t]
  rw [ev_callf, ev_cons]
  rw [show mVar 2 [SV.fz z, .fz (dT (people.map .str)), .fz (dL (ns.map .str)), .no] = .ok (dL (ns.map .str)) [SV.fz z, .fz (dT (people.map .str)), .fz (dL (ns.map .str)), .no] from rfl, bind_ok, kCons_ev, ev_nil, bind_ok, bind_ok, List.append_nil, if_pos (show [dL (ns.map .str)].length = 1 from rfl), u, back_ok, bind_ok, outR_ret, noX_ok]
end Q

open PySem PySem.Spec PyProof.Rows L2 MT DL
local macro_rules | `(tactic| walk_at "ev") => `(tactic| simp -implicitDefEqProofs only [and_self, bind_err, ev_raise, back_err, outR_err, ev_toldM, kTold_ok, kTold_err, ev_meth, kMeth_ev, kMeth2_ev, ev_eqO, kEqO_ev, kEqO2_ev, ev_errV, ev_dnew, bind_ok, bind_stuck, ev_ok, ev_of, ev_seq, kSeq_nx, kSeq_ret, kSeq_bk, kSeq_ct, ev_nx, ev_if, kIf_true, kIf_false, ev_var, kVar_fz, kVar_ow, ev_op, kOp_ev, ev_opB, kOpB_ev, ev_un, ev_chain, kCh_ev, ev_bd, ev_test, asB_b, ev_and, kAnd_t, kAnd_f, ev_or, kOr_t, kOr_f, ev_not, ev_andV, kAndV_t, kAndV_f, ev_orV, kOrV_t, kOrV_f, ev_notV, ev_nil, ev_cons, kCons_ev, ev_tup, ev_lst, ev_cb, ev_ret, ev_retN, ev_drop, ev_never, ev_asg, ev_setF, ev_gN, ev_callf, back_ok, ev_ixP, kIxP_ev, kIxP2_ev, ev_setIx, kSetIx_ev, kSetIx1_ev, ev_callP, kCallP_ev, kCallP2_ev, back1_ok, ev_pop, kOwn_ev, ev_app, ev_ext, ev_lenP, ev_eqP, kEqP_ev, kEqP2_ev, ev_inP, ev_nilO, ev_consF, ev_consO, kConsF_ev, kConsO_ev, ev_par, ev_for, ev_part, kPart_ev, ev_sl, kSl_ev, kSl2_ev, ev_m1, kM1_ev, ev_idx, kIdx_ev, ev_itL, ev_itT, ev_enL, ev_enT, ev_enQ, ev_fld, ev_prop, ev_inO, kInO_ev, kInO2_ev, ev_lenO, kLenO_ev, ev_setA, ev_make, ev_callN,
  List.getElem?_cons_zero, List.getElem?_cons_succ, List.set_cons_zero, List.set_cons_succ, List.append_nil, List.nil_append, List.cons_append, List.length_cons, List.length_nil, if_true, if_false, Nat.reduceAdd, Nat.reduceEqDiff, Nat.zero_add, peek, ownD, ownL, putO, DL.putAll, Option.map_some, Option.bind_some, asDat, asL, asT, as1, asQ, seqD, decide_true, env0, env1, List.map_cons, List.map_nil, List.replicate, Nat.reduceSub, reduceCtorEq, reduceIte, iLt_ev, iLe_ev, iGt_ev, iGe_ev, iAdd_ev, iSub_ev, intF_i, intF_b, minF_ev, maxF_ev, absF_ev, lenF_l, lenF_t, lenF_sc, listF_l, listF_t, tupleF_t, boD_ev, ixF_l0, ixF_l1, ixF_l2, ixF_t0, ixF_t1, ixF_t2, mkTup_0, mkLst_0, mkTup_1, mkLst_1, mkTup_2, mkLst_2, mkTup_3, mkLst_3, mkTup_4, mkLst_4, mkTup_5, mkLst_5, slL_ev, slT_ev, slQ_l, slQ_t, revF_t, revF_l, gsNil_ev, gsCons_ev, out_ret, out_nx, outR_ret, outR_nx, noX_ok])
local macro_rules | `(tactic| walk_at "eva") => `(tactic| simp -implicitDefEqProofs only [and_self, bind_err, ev_raise, back_err, outR_err, ev_toldM, kTold_ok, kTold_err, ev_meth, kMeth_ev, kMeth2_ev, ev_eqO, kEqO_ev, kEqO2_ev, ev_errV, ev_dnew, bind_ok, bind_stuck, ev_ok, ev_of, ev_seq, kSeq_nx, kSeq_ret, kSeq_bk, kSeq_ct, ev_nx, ev_if, kIf_true, kIf_false, ev_var, kVar_fz, kVar_ow, ev_op, kOp_ev, ev_opB, kOpB_ev, ev_un, ev_chain, kCh_ev, ev_bd, ev_test, asB_b, ev_and, kAnd_t, kAnd_f, ev_or, kOr_t, kOr_f, ev_not, ev_andV, kAndV_t, kAndV_f, ev_orV, kOrV_t, kOrV_f, ev_notV, ev_nil, ev_cons, kCons_ev, ev_tup, ev_lst, ev_cb, ev_ret, ev_retN, ev_drop, ev_never, ev_asg, ev_setF, ev_gN, ev_callf, back_ok, ev_ixP, kIxP_ev, kIxP2_ev, ev_setIx, kSetIx_ev, kSetIx1_ev, ev_callP, kCallP_ev, kCallP2_ev, back1_ok, ev_pop, kOwn_ev, ev_app, ev_ext, ev_lenP, ev_eqP, kEqP_ev, kEqP2_ev, ev_inP, ev_nilO, ev_consF, ev_consO, kConsF_ev, kConsO_ev, ev_par, ev_for, ev_part, kPart_ev, ev_sl, kSl_ev, kSl2_ev, ev_m1, kM1_ev, ev_idx, kIdx_ev, ev_itL, ev_itT, ev_enL, ev_enT, ev_enQ, ev_fld, ev_prop, ev_inO, kInO_ev, kInO2_ev, ev_lenO, kLenO_ev, ev_setA, ev_make, ev_callN,
  List.getElem?_cons_zero, List.getElem?_cons_succ, List.set_cons_zero, List.set_cons_succ, List.append_nil, List.nil_append, List.cons_append, List.length_cons, List.length_nil, if_true, if_false, Nat.reduceAdd, Nat.reduceEqDiff, Nat.zero_add, peek, ownD, ownL, putO, DL.putAll, Option.map_some, Option.bind_some, asDat, asL, asT, as1, asQ, seqD, decide_true, env0, env1, List.map_cons, List.map_nil, List.replicate, Nat.reduceSub, reduceCtorEq, reduceIte, iLt_ev, iLe_ev, iGt_ev, iGe_ev, iAdd_ev, iSub_ev, intF_i, intF_b, minF_ev, maxF_ev, absF_ev, lenF_l, lenF_t, lenF_sc, listF_l, listF_t, tupleF_t, boD_ev, ixF_l0, ixF_l1, ixF_l2, ixF_t0, ixF_t1, ixF_t2, mkTup_0, mkLst_0, mkTup_1, mkLst_1, mkTup_2, mkLst_2, mkTup_3, mkLst_3, mkTup_4, mkLst_4, mkTup_5, mkLst_5, slL_ev, slT_ev, slQ_l, slQ_t, revF_t, revF_l, gsNil_ev, gsCons_ev, out_ret, out_nx, outR_ret, outR_nx, noX_ok, Bool.not_true, Bool.not_false, Bool.false_xor, Bool.true_xor, gT2_dat, gT3_dat, gT2_wk, gL3_dat, *])

namespace Q
open DL TL
def cleanB (s : Str) : Bool := !(tl s).contains 32 && (!(tl s).contains 10 && (PyData.strOk s && decide (s.length ≤ 8)))
structure Clean (s : Str) : Prop where
  bl : 32 ∉ tl s
  fe : 10 ∉ tl s
  so : SOk s
  le : s.length ≤ 8
theorem clean_of {s : Str} (h : cleanB s = true) : Clean s := by
  unfold cleanB at h
  simp only [Bool.and_eq_true, decide_eq_true_eq, Bool.not_eq_true', List.contains_eq_mem, decide_eq_false_iff_not] at h
  exact ⟨h.1, h.2.1, h.2.2.1, h.2.2.2⟩
theorem pool_cl : (pool.all cleanB && (cleanB "people" && (cleanB "met" && cleanB "open"))) = true := by decide +kernel
theorem pool_clean : ∀ n ∈ pool, Clean n := fun n hn => clean_of (List.all_eq_true.mp (Bool.and_eq_true_iff.mp pool_cl).1 n hn)
theorem clean_people : Clean "people" := clean_of (Bool.and_eq_true_iff.mp (Bool.and_eq_true_iff.mp pool_cl).2).1
theorem clean_met : Clean "met" := clean_of (Bool.and_eq_true_iff.mp (Bool.and_eq_true_iff.mp (Bool.and_eq_true_iff.mp pool_cl).2).2).1
theorem clean_open : Clean "open" := clean_of (Bool.and_eq_true_iff.mp (Bool.and_eq_true_iff.mp (Bool.and_eq_true_iff.mp pool_cl).2).2).2
theorem split_line {ws : List Str} (h0 : ws ≠ []) (h : ∀ w ∈ ws, Clean w) : Txt.split (lineS ws) " " = ws := split_join (y := " ") (s := 32) (S := []) rfl (by decide +kernel) h0 fun p hp => (h p hp).bl
theorem joinL_mem {x : Nat} {sep : List Nat} : ∀ {ps : List (List Nat)}, x ∈ joinL sep ps → x ∈ sep ∨ ∃ p ∈ ps, x ∈ p
  | [], h => by cases h
  | [p], h => .inr ⟨p, .head _, h⟩
  | p :: q :: r, h => by
    rcases List.mem_append.mp h with h | h
    · exact .inr ⟨p, .head _, h⟩
    · rcases List.mem_append.mp h with h | h
      · exact .inl h
      · rcases joinL_mem (ps := q :: r) h with h | ⟨z, hz, h⟩
        · exact .inl h
        · exact .inr ⟨z, .tail _ hz, h⟩
theorem line_feed {ws : List Str} (h : ∀ w ∈ ws, Clean w) : 10 ∉ tl (lineS ws) := fun z => by
  unfold lineS at z
  rw [join_eq, tl_join] at z
  rcases joinL_mem z with z | ⟨p, hp, z⟩
  · exact absurd z (by decide +kernel)
  · obtain ⟨w, hw, rfl⟩ := List.mem_map.mp hp
    exact (h w hw).fe z
theorem split_text {rows : List (List Str)} (h0 : rows ≠ []) (h : ∀ ws ∈ rows, ∀ w ∈ ws, Clean w) : Txt.split (textS rows) "\n" = rows.map lineS := split_join (y := "\n") (s := 10) (S := []) rfl (by decide +kernel) (by simpa using h0) fun p hp => by
  obtain ⟨ws, hws, rfl⟩ := List.mem_map.mp hp
  exact line_feed (h ws hws)
theorem line_len {ws : List Str} (h : ∀ w ∈ ws, Clean w) (hl : ws.length ≤ 10) : (lineS ws).length ≤ 100 := by
  have h1 := join_len (a := " ") (ys := ws)
  have h2 := sum_le fun w hw => (h w hw).le
  have h3 : (" " : Str).length = 1 := rfl
  rw [h3, Nat.mul_one] at h1
  unfold lineS
  omega
theorem text_len {rows : List (List Str)} (h : ∀ ws ∈ rows, (∀ w ∈ ws, Clean w) ∧ ws.length ≤ 10) (hl : rows.length ≤ 100) : (textS rows).length ≤ 20000 := by
  have h1 := join_len (a := "\n") (ys := rows.map lineS)
  have h2 := sum_le (b := 100) (ys := rows.map lineS) fun w hw => by
    obtain ⟨ws, hws, rfl⟩ := List.mem_map.mp hw
    exact line_len (h ws hws).1 (h ws hws).2
  have h3 : ("\n" : Str).length = 1 := rfl
  rw [h3, Nat.mul_one, List.length_map] at h1
  rw [List.length_map] at h2
  unfold textS
  omega
theorem splitF_ev {a b : Str} (hb : b.length = 1) (ha : a.length ≤ 100000) : splitF (dS a) (dS b) = some (dL ((Txt.split a b).map .str)) := by
  show (if b.length = 0 then none else if a.length + 2 ≤ most then some (dL ((Txt.split a b).map .str)) else none) = _
  rw [if_neg (by omega), if_pos (le_most (by omega))]
/-! ### people_in -/
theorem people_ev {people : List Str} (nd : people.Nodup) (pl : ∀ n ∈ people, n ∈ pool) (l1 : 1 ≤ people.length) (l9 : people.length ≤ 9) : f_people_in [dS (lineS ("people" :: people))] = .ok (dT (people.map .str)) := by
  have cl : ∀ w ∈ (("people" : Str) :: people), Clean w := fun w hw => by
    rcases List.mem_cons.mp hw with rfl | hw
    · exact clean_people
    · exact pool_clean w (pl w hw)
  have es := splitF_ev (a := lineS ("people" :: people)) (b := " ") rfl (Nat.le_trans (line_len cl (by simp; omega)) (by decide))
  rw [split_line (by simp) cl] at es
  have u := unlike_strs (x := dL (people.map .str)) (.inl rfl) (by omega) fun y hy => (pool_clean y (pl y hy)).so
  rw [unlike_nd nd] at u
  generalize lineS ("people" :: people) = ln at es
  have e1 : (mAsg (mM1 splitF (mVar 0) (mOk (.dat (.str " ")))) (gN 1)) [.fz (dS ln), .no, .no, .no] = .ok .nx [.fz (dS ln), .fz (dL ((("people" : Str) :: people).map .str)), .no, .no] := by
    walk_at "ev"
    rw [es]
    walk_at "ev"
  have e2 : (mAsg (mSl slL (mVar 1) (mPart (mOk (.dat (.int 1)))) (mOk none)) (gN 2)) [.fz (dS ln), .fz (dL ((("people" : Str) :: people).map .str)), .no, .no] = .ok .nx [.fz (dS ln), .fz (dL ((("people" : Str) :: people).map .str)), .fz (dL (people.map .str)), .no] := by
    walk_at "ev"
    rw [show (1 : Int) = ((1 : Nat) : Int) from rfl, cutD_from]
    rfl
  have e3 : (mIf (mOr (mOpB neB (mOp ixF (mVar 1) (mOk (.dat (.int 0)))) (mOk (.dat (.str "people")))) (mNot (mChain iLt iLe (mOk (.dat (.int 0))) (mCB lenF (mCons (mVar 2) mNil)) (mOk (.dat (.int 9)))))) (mRet (mOk (.dat .none))) mNx) [.fz (dS ln), .fz (dL ((("people" : Str) :: people).map .str)), .fz (dL (people.map .str)), .no] = .ok .nx [.fz (dS ln), .fz (dL ((("people" : Str) :: people).map .str)), .fz (dL (people.map .str)), .no] := by
    walk_at "ev"
    rw [neB_ev (shaped_str clean_people.so) (shaped_str clean_people.so), eqv_str, decide_eq_true rfl]
    simp only [Bool.not_true]
    walk_at "ev"
    rw [List.length_map, decide_eq_true (show (0 : Int) < (people.length : Nat) by omega)]
    walk_at "ev"
    rw [decide_eq_true (show ((people.length : Nat) : Int) ≤ 9 by omega)]
    simp only [Bool.not_true]
    walk_at "ev"
  have e4 : (mLc [3] (mItL (mVar 2)) (gN 3) mYes (mCall 1 f_is_name [] (mCons (mVar 3) mNil))) [.fz (dS ln), .fz (dL ((("people" : Str) :: people).map .str)), .fz (dL (people.map .str)), .no] = .ok (dL (people.map fun _ => .bool true)) [.fz (dS ln), .fz (dL ((("people" : Str) :: people).map .str)), .fz (dL (people.map .str)), .no] := by
    refine ev_lcA (enc := fun n => dS n) (xs := people) (δ1 := [.fz (dS ln), .fz (dL ((("people" : Str) :: people).map .str)), .fz (dL (people.map .str)), .no]) ?_ (le_most (by omega)) rfl rfl fun n hn => ⟨[.fz (dS ln), .fz (dL ((("people" : Str) :: people).map .str)), .fz (dL (people.map .str)), .fz (dS n)], [.fz (dS ln), .fz (dL ((("people" : Str) :: people).map .str)), .fz (dL (people.map .str)), .fz (dS n)], rfl, ?_, rfl⟩
    · show mOf (some (dats (people.map .str))) _ = _
      rw [dats_map, ev_of]
    · have en := is_name_ev (pl n hn)
      generalize f_is_name = G at en ⊢
      generalize dL ((("people" : Str) :: people).map .str) = z
      walk_at "ev"
      rw [en]
      walk_at "ev"
  unfold f_people_in m_people_in
  rw [show env0 4 [dS ln] = [.fz (dS ln), .no, .no, .no] from rfl]
  generalize dL ((("people" : Str) :: people).map .str) = z at e1 e2 e3 e4 ⊢
  rw [ev_seq, e1, bind_ok, kSeq_nx, ev_seq, e2, bind_ok, kSeq_nx, ev_seq, e3, bind_ok, kSeq_nx, ev_ret, ev_if, ev_and, ev_test, ev_cb, ev_cons, e4, bind_ok, kCons_ev, ev_nil, bind_ok, bind_ok, allF_map]
  rw [show (people.all fun _ => true) = true from List.all_eq_true.mpr fun _ _ => rfl, ev_of, bind_ok, asB_b, ev_of, bind_ok, kAnd_t, ev_test, ev_callf, ev_cons]
  rw [show mVar 2 [SV.fz (dS ln), .fz z, .fz (dL (people.map .str)), .no] = .ok (dL (people.map .str)) [SV.fz (dS ln), .fz z, .fz (dL (people.map .str)), .no] from rfl, bind_ok, kCons_ev, ev_nil, bind_ok, bind_ok, List.append_nil, if_pos (show [dL (people.map .str)].length = 1 from rfl), u, back_ok, bind_ok, asB_b, ev_of, bind_ok, kIf_true]
  rw [ev_cb, ev_cons]
  rw [show mVar 2 [SV.fz (dS ln), .fz z, .fz (dL (people.map .str)), .no] = .ok (dL (people.map .str)) [SV.fz (dS ln), .fz z, .fz (dL (people.map .str)), .no] from rfl, bind_ok, kCons_ev, ev_nil, bind_ok, bind_ok, tupleF_l (by rw [List.length_map]; exact le_most (by omega)), ev_of, bind_ok, outR_ret, noX_ok]
end Q

open PySem PySem.Spec PyProof.Rows L2 MT DL
local macro_rules | `(tactic| walk_at "ev") => `(tactic| simp -implicitDefEqProofs only [and_self, bind_err, ev_raise, back_err, outR_err, ev_toldM, kTold_ok, kTold_err, ev_meth, kMeth_ev, kMeth2_ev, ev_eqO, kEqO_ev, kEqO2_ev, ev_errV, ev_dnew, bind_ok, bind_stuck, ev_ok, ev_of, ev_seq, kSeq_nx, kSeq_ret, kSeq_bk, kSeq_ct, ev_nx, ev_if, kIf_true, kIf_false, ev_var, kVar_fz, kVar_ow, ev_op, kOp_ev, ev_opB, kOpB_ev, ev_un, ev_chain, kCh_ev, ev_bd, ev_test, asB_b, ev_and, kAnd_t, kAnd_f, ev_or, kOr_t, kOr_f, ev_not, ev_andV, kAndV_t, kAndV_f, ev_orV, kOrV_t, kOrV_f, ev_notV, ev_nil, ev_cons, kCons_ev, ev_tup, ev_lst, ev_cb, ev_ret, ev_retN, ev_drop, ev_never, ev_asg, ev_setF, ev_gN, ev_callf, back_ok, ev_ixP, kIxP_ev, kIxP2_ev, ev_setIx, kSetIx_ev, kSetIx1_ev, ev_callP, kCallP_ev, kCallP2_ev, back1_ok, ev_pop, kOwn_ev, ev_app, ev_ext, ev_lenP, ev_eqP, kEqP_ev, kEqP2_ev, ev_inP, ev_nilO, ev_consF, ev_consO, kConsF_ev, kConsO_ev, ev_par, ev_for, ev_part, kPart_ev, ev_sl, kSl_ev, kSl2_ev, ev_m1, kM1_ev, ev_idx, kIdx_ev, ev_itL, ev_itT, ev_enL, ev_enT, ev_enQ, ev_fld, ev_prop, ev_inO, kInO_ev, kInO2_ev, ev_lenO, kLenO_ev, ev_setA, ev_make, ev_callN,
  List.getElem?_cons_zero, List.getElem?_cons_succ, List.set_cons_zero, List.set_cons_succ, List.append_nil, List.nil_append, List.cons_append, List.length_cons, List.length_nil, if_true, if_false, Nat.reduceAdd, Nat.reduceEqDiff, Nat.zero_add, peek, ownD, ownL, putO, DL.putAll, Option.map_some, Option.bind_some, asDat, asL, asT, as1, asQ, seqD, decide_true, env0, env1, List.map_cons, List.map_nil, List.replicate, Nat.reduceSub, reduceCtorEq, reduceIte, iLt_ev, iLe_ev, iGt_ev, iGe_ev, iAdd_ev, iSub_ev, intF_i, intF_b, minF_ev, maxF_ev, absF_ev, lenF_l, lenF_t, lenF_sc, listF_l, listF_t, tupleF_t, boD_ev, ixF_l0, ixF_l1, ixF_l2, ixF_t0, ixF_t1, ixF_t2, mkTup_0, mkLst_0, mkTup_1, mkLst_1, mkTup_2, mkLst_2, mkTup_3, mkLst_3, mkTup_4, mkLst_4, mkTup_5, mkLst_5, slL_ev, slT_ev, slQ_l, slQ_t, revF_t, revF_l, gsNil_ev, gsCons_ev, out_ret, out_nx, outR_ret, outR_nx, noX_ok])
local macro_rules | `(tactic| walk_at "eva") => `(tactic| simp -implicitDefEqProofs only [and_self, bind_err, ev_raise, back_err, outR_err, ev_toldM, kTold_ok, kTold_err, ev_meth, kMeth_ev, kMeth2_ev, ev_eqO, kEqO_ev, kEqO2_ev, ev_errV, ev_dnew, bind_ok, bind_stuck, ev_ok, ev_of, ev_seq, kSeq_nx, kSeq_ret, kSeq_bk, kSeq_ct, ev_nx, ev_if, kIf_true, kIf_false, ev_var, kVar_fz, kVar_ow, ev_op, kOp_ev, ev_opB, kOpB_ev, ev_un, ev_chain, kCh_ev, ev_bd, ev_test, asB_b, ev_and, kAnd_t, kAnd_f, ev_or, kOr_t, kOr_f, ev_not, ev_andV, kAndV_t, kAndV_f, ev_orV, kOrV_t, kOrV_f, ev_notV, ev_nil, ev_cons, kCons_ev, ev_tup, ev_lst, ev_cb, ev_ret, ev_retN, ev_drop, ev_never, ev_asg, ev_setF, ev_gN, ev_callf, back_ok, ev_ixP, kIxP_ev, kIxP2_ev, ev_setIx, kSetIx_ev, kSetIx1_ev, ev_callP, kCallP_ev, kCallP2_ev, back1_ok, ev_pop, kOwn_ev, ev_app, ev_ext, ev_lenP, ev_eqP, kEqP_ev, kEqP2_ev, ev_inP, ev_nilO, ev_consF, ev_consO, kConsF_ev, kConsO_ev, ev_par, ev_for, ev_part, kPart_ev, ev_sl, kSl_ev, kSl2_ev, ev_m1, kM1_ev, ev_idx, kIdx_ev, ev_itL, ev_itT, ev_enL, ev_enT, ev_enQ, ev_fld, ev_prop, ev_inO, kInO_ev, kInO2_ev, ev_lenO, kLenO_ev, ev_setA, ev_make, ev_callN,
  List.getElem?_cons_zero, List.getElem?_cons_succ, List.set_cons_zero, List.set_cons_succ, List.append_nil, List.nil_append, List.cons_append, List.length_cons, List.length_nil, if_true, if_false, Nat.reduceAdd, Nat.reduceEqDiff, Nat.zero_add, peek, ownD, ownL, putO, DL.putAll, Option.map_some, Option.bind_some, asDat, asL, asT, as1, asQ, seqD, decide_true, env0, env1, List.map_cons, List.map_nil, List.replicate, Nat.reduceSub, reduceCtorEq, reduceIte, iLt_ev, iLe_ev, iGt_ev, iGe_ev, iAdd_ev, iSub_ev, intF_i, intF_b, minF_ev, maxF_ev, absF_ev, lenF_l, lenF_t, lenF_sc, listF_l, listF_t, tupleF_t, boD_ev, ixF_l0, ixF_l1, ixF_l2, ixF_t0, ixF_t1, ixF_t2, mkTup_0, mkLst_0, mkTup_1, mkLst_1, mkTup_2, mkLst_2, mkTup_3, mkLst_3, mkTup_4, mkLst_4, mkTup_5, mkLst_5, slL_ev, slT_ev, slQ_l, slQ_t, revF_t, revF_l, gsNil_ev, gsCons_ev, out_ret, out_nx, outR_ret, outR_nx, noX_ok, Bool.not_true, Bool.not_false, Bool.false_xor, Bool.true_xor, gT2_dat, gT3_dat, gT2_wk, gL3_dat, *])

namespace Q
open DL TL
/-! ### what pairs tell -/
theorem lookS_putS {kvs : List (List Key × Str)} {k k' : List Key} {v : Str} : lookS (putS kvs k v) k' = if k = k' then some v else lookS kvs k' := by
  have gen : ∀ l : List (List Key × Str), lookS (l.map fun kv => if kv.1 = k then (kv.1, v) else kv) k' = if k = k' ∧ (l.any fun kv => decide (kv.1 = k)) = true then some v else lookS l k' := by
    intro l
    induction l with
    | nil => simp [lookS]
    | cons a l ih =>
      unfold lookS at ih ⊢
      rw [List.map_cons, List.find?_cons, List.find?_cons]
      by_cases h1 : a.1 = k
      · by_cases h2 : k = k'
        · subst h2
          simp [h1]
        · have h3 : ¬ a.1 = k' := fun e => h2 (h1.symm.trans e)
          simp only [h1, h2, if_true, decide_false, false_and, if_false] at ih ⊢
          rw [ih]
      · by_cases h3 : a.1 = k'
        · have h4 : ¬ k = k' := fun e => h1 (h3.trans e.symm)
          have h5 : ¬ k' = k := fun e => h4 e.symm
          simp [h3, h4, h5]
        · simp only [h1, h3, if_false, decide_false, List.any_cons, Bool.false_or] at ih ⊢
          exact ih
  unfold putS
  by_cases h : (kvs.any fun kv => decide (kv.1 = k)) = true
  · rw [if_pos h, gen, h]
    by_cases e : k = k' <;> simp [e]
  · rw [if_neg h]
    unfold lookS
    rw [List.find?_append]
    by_cases e : k = k'
    · subst e
      have hn : kvs.find? (fun kv => decide (kv.1 = k)) = none := List.find?_eq_none.mpr fun x hx z => h (List.any_eq_true.mpr ⟨x, hx, z⟩)
      simp [hn]
    · simp [e]
theorem key2_inj {a b c d : Str} : key2 a b = key2 c d ↔ a = c ∧ b = d := by simp [key2]
theorem look_put2 {kvs : List (List Key × Str)} {a b x y v : Str} : lookS (put2 kvs a b v) (key2 x y) = if (a = x ∧ b = y) ∨ (b = x ∧ a = y) then some v else lookS kvs (key2 x y) := by
  unfold put2
  rw [lookS_putS, lookS_putS]
  simp only [key2_inj]
  by_cases h1 : b = x ∧ a = y
  · simp [h1]
  · by_cases h2 : a = x ∧ b = y
    · simp [h1, h2]
    · simp [h1, h2]
theorem look_putOne {o x y : Str} : ∀ {os : List Str} {kvs : List (List Key × Str)}, lookS (putOne o os kvs) (key2 x y) = if (o = x ∧ y ∈ os) ∨ (o = y ∧ x ∈ os) then some ("met" : Str) else lookS kvs (key2 x y)
  | [], kvs => by simp [putOne]
  | a :: os, kvs => by
    rw [putOne, look_putOne, look_put2]
    by_cases h1 : (o = x ∧ y ∈ os) ∨ (o = y ∧ x ∈ os)
    · rw [if_pos h1, if_pos]
      rcases h1 with h | h
      · exact .inl ⟨h.1, .tail _ h.2⟩
      · exact .inr ⟨h.1, .tail _ h.2⟩
    · rw [if_neg h1]
      by_cases h2 : (o = x ∧ a = y) ∨ (a = x ∧ o = y)
      · rw [if_pos h2, if_pos]
        rcases h2 with h | h
        · exact .inl ⟨h.1, h.2 ▸ .head _⟩
        · exact .inr ⟨h.2, h.1 ▸ .head _⟩
      · rw [if_neg h2, if_neg]
        rintro (⟨e, h⟩ | ⟨e, h⟩)
        · rcases List.mem_cons.mp h with h | h
          · exact h2 (.inl ⟨e, h.symm⟩)
          · exact h1 (.inl ⟨e, h⟩)
        · rcases List.mem_cons.mp h with h | h
          · exact h2 (.inr ⟨h.symm, e⟩)
          · exact h1 (.inr ⟨e, h⟩)
theorem look_putMet {x y : Str} (ne : x ≠ y) : ∀ {ns : List Str} {kvs : List (List Key × Str)}, lookS (putMet ns kvs) (key2 x y) = if x ∈ ns ∧ y ∈ ns then some ("met" : Str) else lookS kvs (key2 x y)
  | [], kvs => by simp [putMet]
  | o :: os, kvs => by
    rw [putMet, look_putMet ne, look_putOne]
    by_cases h1 : x ∈ os ∧ y ∈ os
    · rw [if_pos h1, if_pos ⟨.tail _ h1.1, .tail _ h1.2⟩]
    · rw [if_neg h1]
      by_cases h2 : (o = x ∧ y ∈ os) ∨ (o = y ∧ x ∈ os)
      · rw [if_pos h2, if_pos]
        rcases h2 with ⟨rfl, h⟩ | ⟨rfl, h⟩
        · exact ⟨.head _, .tail _ h⟩
        · exact ⟨.tail _ h, .head _⟩
      · rw [if_neg h2, if_neg]
        rintro ⟨hx, hy⟩
        rcases List.mem_cons.mp hx with hx | hx
        · rcases List.mem_cons.mp hy with hy | hy
          · exact ne (hx.trans hy.symm)
          · exact h2 (.inl ⟨hx.symm, hy⟩)
        · rcases List.mem_cons.mp hy with hy | hy
          · exact h2 (.inr ⟨hy.symm, hx⟩)
          · exact h1 ⟨hx, hy⟩
theorem putMet_len {ns : List Str} {kvs : List (List Key × Str)} (h : ns.length ≤ 9) : (putMet ns kvs).length ≤ kvs.length + 162 := by
  rw [← putUpto_all]
  have h1 := putUpto_len (ns := ns) (i := ns.length) (ps := kvs)
  have h2 : 2 * ns.length * ns.length ≤ 2 * 9 * 9 := Nat.mul_le_mul (by omega) h
  omega
/-- what is told of two people -/
def told (mets : List (List Str)) (opens : List (Str × Str)) (x y : Str) : Option Str :=
  if ∃ r ∈ mets, x ∈ r ∧ y ∈ r then some ("met" : Str) else if (x, y) ∈ opens ∨ (y, x) ∈ opens then some ("open" : Str) else none
/-! ### the lines, taken -/
structure StOk (people : List Str) (mets : List (List Str)) (opens : List (Str × Str)) (st : RSt) : Prop where
  ln : st.lines = mets.length
  op : st.opens = opens
  pl : st.pairs.length ≤ 200 * mets.length + 2 * opens.length
  lk : ∀ x y, x ≠ y → lookS st.pairs (key2 x y) = told mets opens x y
section
variable {people : List Str} {mets : List (List Str)} {opens : List (Str × Str)} {st : RSt}
theorem opens_sh {ops : List (Str × Str)} (h : ∀ q ∈ ops, SOk q.1 ∧ SOk q.2) : SeqAt.shaped (.list (ops.map pairD)) = true := by
  have key : ∀ {l : List (Str × Str)}, (∀ q ∈ l, SOk q.1 ∧ SOk q.2) → PyData.canLayAll0 (l.map pairD) = true ∧ PyData.depthAll (l.map pairD) ≤ 1 := by
    intro l
    induction l with
    | nil => intro _; simp [PyData.canLayAll0, PyData.depthAll]
    | cons q l ih =>
      intro h
      have ih := ih fun x hx => h x (.tail _ hx)
      have h1 : PyData.strOk q.1 = true := (h q (.head _)).1
      have h2 : PyData.strOk q.2 = true := (h q (.head _)).2
      refine ⟨?_, ?_⟩
      · simp only [List.map_cons, PyData.canLayAll0, ih.1, Bool.and_true]
        simp [pairD, PyData.canLay0, PyData.canLayAll0, h1, h2]
      · simp only [List.map_cons, PyData.depthAll]
        have : (pairD q).depth ≤ 1 := by simp [pairD, PyData.depth, PyData.depthAll]
        omega
  have := key h
  have h2 := this.2
  simp [SeqAt.shaped, PyData.canLay0, PyData.depth, this.1]
  omega
theorem some_b {w : Str} {ns : List Str} (hl : ns.length ≤ 9) (h2 : 2 ≤ ns.length) (hm : ∀ n ∈ ns, n ∈ people) (nd : ns.Nodup) (so : ∀ n ∈ people, SOk n) : someB (w :: ns) people = some true := by
  unfold someB strsD
  rw [some_ev (by omega) h2 hm nd so]
  rfl
/-- a line met -/
theorem take_met {r : List Str} (h : StOk people mets [] st) (cl : ∀ n ∈ people, Clean n) (l9 : people.length ≤ 9) (rn : r.Nodup) (r2 : 2 ≤ r.length) (rm : ∀ x ∈ r, x ∈ people) (ml : mets.length < 20) :
    ∃ st', takeM people st (lineS ("met" :: r)) = some (true, st') ∧ StOk people (mets ++ [r]) [] st' := by
  have rl : r.length ≤ 9 := Nat.le_trans (nd_len rn rm) l9
  have cw : ∀ w ∈ (("met" : Str) :: r), Clean w := fun w hw => by
    rcases List.mem_cons.mp hw with rfl | hw
    · exact clean_met
    · exact cl w (rm w hw)
  have ll := line_len cw (by simp; omega)
  have es : Txt.split (lineS ("met" :: r)) blank = ("met" : Str) :: r := split_line (by simp) cw
  refine ⟨{ st with lines := st.lines + 1, pairs := putMet r st.pairs }, ?_, ?_⟩
  · unfold takeM
    have pl := h.pl
    have op := h.op
    rw [if_pos ⟨le_most (by omega), by rw [es]; simp; omega, le_most (by simp at pl; omega), by rw [op]; decide, by rw [op]; rfl⟩, es, some_b rl r2 rm rn fun n hn => (cl n hn).so]
    simp only [Option.bind_some]
    rw [if_neg (by simp), if_pos ⟨by first | trivial | rfl, h.op, by rw [h.ln]; exact ml⟩]
  · refine ⟨by simp [h.ln], h.op, ?_, fun x y ne => ?_⟩
    · have := putMet_len (ns := r) (kvs := st.pairs) rl
      have pl := h.pl
      show (putMet r st.pairs).length ≤ _
      simp at pl ⊢
      omega
    · show lookS (putMet r st.pairs) (key2 x y) = _
      rw [look_putMet ne, h.lk x y ne]
      unfold told
      by_cases h1 : x ∈ r ∧ y ∈ r
      · rw [if_pos h1, if_pos ⟨r, by simp, h1⟩]
      · rw [if_neg h1]
        by_cases h2 : ∃ r ∈ mets, x ∈ r ∧ y ∈ r
        · obtain ⟨z, hz, h3⟩ := h2
          rw [if_pos ⟨z, hz, h3⟩, if_pos ⟨z, List.mem_append_left _ hz, h3⟩]
        · rw [if_neg h2, if_neg (show ¬ ∃ r' ∈ mets ++ [r], x ∈ r' ∧ y ∈ r' from ?_)]
          rintro ⟨z, hz, h3⟩
          rcases List.mem_append.mp hz with hz | hz
          · exact h2 ⟨z, hz, h3⟩
          · rw [List.mem_singleton.mp hz] at h3; exact h1 h3
/-- a line open -/
theorem take_open {q : Str × Str} (h : StOk people mets opens st) (cl : ∀ n ∈ people, Clean n) (l9 : people.length ≤ 9) (ml : mets.length ≤ 20) (ol : opens.length < 4) (qo : ∀ q ∈ opens, SOk q.1 ∧ SOk q.2) (q1 : q.1 ∈ people) (q2 : q.2 ∈ people) (ne : q.1 ≠ q.2) (nt : told mets opens q.1 q.2 = none) :
    ∃ st', takeM people st (lineS ["open", q.1, q.2]) = some (true, st') ∧ StOk people mets (opens ++ [q]) st' := by
  have cw : ∀ w ∈ ([("open" : Str), q.1, q.2]), Clean w := fun w hw => by
    rcases List.mem_cons.mp hw with rfl | hw
    · exact clean_open
    · rcases List.mem_cons.mp hw with rfl | hw
      · exact cl _ q1
      · rw [List.mem_singleton.mp hw]; exact cl _ q2
  have ll := line_len cw (by simp)
  have es : Txt.split (lineS ["open", q.1, q.2]) blank = [("open" : Str), q.1, q.2] := split_line (by simp) cw
  refine ⟨{ st with pairs := put2 st.pairs q.1 q.2 "open", opens := st.opens ++ [q] }, ?_, ?_⟩
  · unfold takeM
    have pl := h.pl
    have op := h.op
    rw [if_pos ⟨le_most (by omega), by rw [es]; simp, le_most (by omega), by rw [op]; omega, by rw [op]; exact opens_sh qo⟩, es, some_b (by simp) (by simp) (fun n hn => by
      rcases List.mem_cons.mp hn with rfl | hn
      · exact q1
      · rw [List.mem_singleton.mp hn]; exact q2) (by simp [ne]) fun n hn => (cl n hn).so]
    simp only [Option.bind_some]
    rw [if_neg (by simp), if_neg (fun z => absurd z.1 (by decide +kernel)), if_neg (by
      rintro (z | z | z)
      · exact z rfl
      · exact z rfl
      · rw [op] at z; omega)]
    rw [if_neg]
    rw [h.lk _ _ ne, nt]
    simp
  · refine ⟨h.ln, by show st.opens ++ [q] = _; rw [h.op], ?_, fun x y nxy => ?_⟩
    · have := put2_len (kvs := st.pairs) (a := q.1) (b := q.2) (v := "open")
      have pl := h.pl
      show (put2 st.pairs q.1 q.2 "open").length ≤ _
      simp
      omega
    · show lookS (put2 st.pairs q.1 q.2 "open") (key2 x y) = _
      rw [look_put2, h.lk x y nxy]
      unfold told at nt ⊢
      by_cases h1 : (q.1 = x ∧ q.2 = y) ∨ (q.2 = x ∧ q.1 = y)
      · rw [if_pos h1]
        have hn : ¬ ∃ r ∈ mets, x ∈ r ∧ y ∈ r := by
          rintro ⟨r, hr, hx, hy⟩
          rw [if_pos] at nt
          · cases nt
          · rcases h1 with ⟨rfl, rfl⟩ | ⟨rfl, rfl⟩
            · exact ⟨r, hr, hx, hy⟩
            · exact ⟨r, hr, hy, hx⟩
        rw [if_neg hn, if_pos]
        rcases h1 with ⟨rfl, rfl⟩ | ⟨rfl, rfl⟩
        · exact .inl (by simp)
        · exact .inr (by simp)
      · rw [if_neg h1]
        by_cases h2 : ∃ r ∈ mets, x ∈ r ∧ y ∈ r
        · rw [if_pos h2, if_pos h2]
        · rw [if_neg h2, if_neg h2]
          by_cases h3 : (x, y) ∈ opens ∨ (y, x) ∈ opens
          · rw [if_pos h3, if_pos]
            rcases h3 with h3 | h3
            · exact .inl (List.mem_append_left _ h3)
            · exact .inr (List.mem_append_left _ h3)
          · rw [if_neg h3, if_neg]
            rintro (z | z)
            · rcases List.mem_append.mp z with z | z
              · exact h3 (.inl z)
              · have := List.mem_singleton.mp z
                exact h1 (.inl ⟨by rw [← this], by rw [← this]⟩)
            · rcases List.mem_append.mp z with z | z
              · exact h3 (.inr z)
              · have := List.mem_singleton.mp z
                exact h1 (.inr ⟨by rw [← this], by rw [← this]⟩)
end
end Q

open PySem PySem.Spec PyProof.Rows L2 MT DL
local macro_rules | `(tactic| walk_at "ev") => `(tactic| simp -implicitDefEqProofs only [and_self, bind_err, ev_raise, back_err, outR_err, ev_toldM, kTold_ok, kTold_err, ev_meth, kMeth_ev, kMeth2_ev, ev_eqO, kEqO_ev, kEqO2_ev, ev_errV, ev_dnew, bind_ok, bind_stuck, ev_ok, ev_of, ev_seq, kSeq_nx, kSeq_ret, kSeq_bk, kSeq_ct, ev_nx, ev_if, kIf_true, kIf_false, ev_var, kVar_fz, kVar_ow, ev_op, kOp_ev, ev_opB, kOpB_ev, ev_un, ev_chain, kCh_ev, ev_bd, ev_test, asB_b, ev_and, kAnd_t, kAnd_f, ev_or, kOr_t, kOr_f, ev_not, ev_andV, kAndV_t, kAndV_f, ev_orV, kOrV_t, kOrV_f, ev_notV, ev_nil, ev_cons, kCons_ev, ev_tup, ev_lst, ev_cb, ev_ret, ev_retN, ev_drop, ev_never, ev_asg, ev_setF, ev_gN, ev_callf, back_ok, ev_ixP, kIxP_ev, kIxP2_ev, ev_setIx, kSetIx_ev, kSetIx1_ev, ev_callP, kCallP_ev, kCallP2_ev, back1_ok, ev_pop, kOwn_ev, ev_app, ev_ext, ev_lenP, ev_eqP, kEqP_ev, kEqP2_ev, ev_inP, ev_nilO, ev_consF, ev_consO, kConsF_ev, kConsO_ev, ev_par, ev_for, ev_part, kPart_ev, ev_sl, kSl_ev, kSl2_ev, ev_m1, kM1_ev, ev_idx, kIdx_ev, ev_itL, ev_itT, ev_enL, ev_enT, ev_enQ, ev_fld, ev_prop, ev_inO, kInO_ev, kInO2_ev, ev_lenO, kLenO_ev, ev_setA, ev_make, ev_callN,
  List.getElem?_cons_zero, List.getElem?_cons_succ, List.set_cons_zero, List.set_cons_succ, List.append_nil, List.nil_append, List.cons_append, List.length_cons, List.length_nil, if_true, if_false, Nat.reduceAdd, Nat.reduceEqDiff, Nat.zero_add, peek, ownD, ownL, putO, DL.putAll, Option.map_some, Option.bind_some, asDat, asL, asT, as1, asQ, seqD, decide_true, env0, env1, List.map_cons, List.map_nil, List.replicate, Nat.reduceSub, reduceCtorEq, reduceIte, iLt_ev, iLe_ev, iGt_ev, iGe_ev, iAdd_ev, iSub_ev, intF_i, intF_b, minF_ev, maxF_ev, absF_ev, lenF_l, lenF_t, lenF_sc, listF_l, listF_t, tupleF_t, boD_ev, ixF_l0, ixF_l1, ixF_l2, ixF_t0, ixF_t1, ixF_t2, mkTup_0, mkLst_0, mkTup_1, mkLst_1, mkTup_2, mkLst_2, mkTup_3, mkLst_3, mkTup_4, mkLst_4, mkTup_5, mkLst_5, slL_ev, slT_ev, slQ_l, slQ_t, revF_t, revF_l, gsNil_ev, gsCons_ev, out_ret, out_nx, outR_ret, outR_nx, noX_ok])
local macro_rules | `(tactic| walk_at "eva") => `(tactic| simp -implicitDefEqProofs only [and_self, bind_err, ev_raise, back_err, outR_err, ev_toldM, kTold_ok, kTold_err, ev_meth, kMeth_ev, kMeth2_ev, ev_eqO, kEqO_ev, kEqO2_ev, ev_errV, ev_dnew, bind_ok, bind_stuck, ev_ok, ev_of, ev_seq, kSeq_nx, kSeq_ret, kSeq_bk, kSeq_ct, ev_nx, ev_if, kIf_true, kIf_false, ev_var, kVar_fz, kVar_ow, ev_op, kOp_ev, ev_opB, kOpB_ev, ev_un, ev_chain, kCh_ev, ev_bd, ev_test, asB_b, ev_and, kAnd_t, kAnd_f, ev_or, kOr_t, kOr_f, ev_not, ev_andV, kAndV_t, kAndV_f, ev_orV, kOrV_t, kOrV_f, ev_notV, ev_nil, ev_cons, kCons_ev, ev_tup, ev_lst, ev_cb, ev_ret, ev_retN, ev_drop, ev_never, ev_asg, ev_setF, ev_gN, ev_callf, back_ok, ev_ixP, kIxP_ev, kIxP2_ev, ev_setIx, kSetIx_ev, kSetIx1_ev, ev_callP, kCallP_ev, kCallP2_ev, back1_ok, ev_pop, kOwn_ev, ev_app, ev_ext, ev_lenP, ev_eqP, kEqP_ev, kEqP2_ev, ev_inP, ev_nilO, ev_consF, ev_consO, kConsF_ev, kConsO_ev, ev_par, ev_for, ev_part, kPart_ev, ev_sl, kSl_ev, kSl2_ev, ev_m1, kM1_ev, ev_idx, kIdx_ev, ev_itL, ev_itT, ev_enL, ev_enT, ev_enQ, ev_fld, ev_prop, ev_inO, kInO_ev, kInO2_ev, ev_lenO, kLenO_ev, ev_setA, ev_make, ev_callN,
  List.getElem?_cons_zero, List.getElem?_cons_succ, List.set_cons_zero, List.set_cons_succ, List.append_nil, List.nil_append, List.cons_append, List.length_cons, List.length_nil, if_true, if_false, Nat.reduceAdd, Nat.reduceEqDiff, Nat.zero_add, peek, ownD, ownL, putO, DL.putAll, Option.map_some, Option.bind_some, asDat, asL, asT, as1, asQ, seqD, decide_true, env0, env1, List.map_cons, List.map_nil, List.replicate, Nat.reduceSub, reduceCtorEq, reduceIte, iLt_ev, iLe_ev, iGt_ev, iGe_ev, iAdd_ev, iSub_ev, intF_i, intF_b, minF_ev, maxF_ev, absF_ev, lenF_l, lenF_t, lenF_sc, listF_l, listF_t, tupleF_t, boD_ev, ixF_l0, ixF_l1, ixF_l2, ixF_t0, ixF_t1, ixF_t2, mkTup_0, mkLst_0, mkTup_1, mkLst_1, mkTup_2, mkLst_2, mkTup_3, mkLst_3, mkTup_4, mkLst_4, mkTup_5, mkLst_5, slL_ev, slT_ev, slQ_l, slQ_t, revF_t, revF_l, gsNil_ev, gsCons_ev, out_ret, out_nx, outR_ret, outR_nx, noX_ok, Bool.not_true, Bool.not_false, Bool.false_xor, Bool.true_xor, gT2_dat, gT3_dat, gT2_wk, gL3_dat, *])

namespace Q
open DL TL
theorem isi_str {s : Str} : isiF [dS s, .ty "str"] = some (dB true) := by
  show (kitB "str" "str").map (fun b => D.dat (.bool b)) = _
  rw [show kitB "str" "str" = some true from by decide +kernel]
  rfl
end Q

open PySem PySem.Spec PyProof.Rows L2 MT DL
local macro_rules | `(tactic| walk_at "ev") => `(tactic| simp -implicitDefEqProofs only [and_self, bind_err, ev_raise, back_err, outR_err, ev_toldM, kTold_ok, kTold_err, ev_meth, kMeth_ev, kMeth2_ev, ev_eqO, kEqO_ev, kEqO2_ev, ev_errV, ev_dnew, bind_ok, bind_stuck, ev_ok, ev_of, ev_seq, kSeq_nx, kSeq_ret, kSeq_bk, kSeq_ct, ev_nx, ev_if, kIf_true, kIf_false, ev_var, kVar_fz, kVar_ow, ev_op, kOp_ev, ev_opB, kOpB_ev, ev_un, ev_chain, kCh_ev, ev_bd, ev_test, asB_b, ev_and, kAnd_t, kAnd_f, ev_or, kOr_t, kOr_f, ev_not, ev_andV, kAndV_t, kAndV_f, ev_orV, kOrV_t, kOrV_f, ev_notV, ev_nil, ev_cons, kCons_ev, ev_tup, ev_lst, ev_cb, ev_ret, ev_retN, ev_drop, ev_never, ev_asg, ev_setF, ev_gN, ev_callf, back_ok, ev_ixP, kIxP_ev, kIxP2_ev, ev_setIx, kSetIx_ev, kSetIx1_ev, ev_callP, kCallP_ev, kCallP2_ev, back1_ok, ev_pop, kOwn_ev, ev_app, ev_ext, ev_lenP, ev_eqP, kEqP_ev, kEqP2_ev, ev_inP, ev_nilO, ev_consF, ev_consO, kConsF_ev, kConsO_ev, ev_par, ev_for, ev_part, kPart_ev, ev_sl, kSl_ev, kSl2_ev, ev_m1, kM1_ev, ev_idx, kIdx_ev, ev_itL, ev_itT, ev_enL, ev_enT, ev_enQ, ev_fld, ev_prop, ev_inO, kInO_ev, kInO2_ev, ev_lenO, kLenO_ev, ev_setA, ev_make, ev_callN,
  List.getElem?_cons_zero, List.getElem?_cons_succ, List.set_cons_zero, List.set_cons_succ, List.append_nil, List.nil_append, List.cons_append, List.length_cons, List.length_nil, if_true, if_false, Nat.reduceAdd, Nat.reduceEqDiff, Nat.zero_add, peek, ownD, ownL, putO, DL.putAll, Option.map_some, Option.bind_some, asDat, asL, asT, as1, asQ, seqD, decide_true, env0, env1, List.map_cons, List.map_nil, List.replicate, Nat.reduceSub, reduceCtorEq, reduceIte, iLt_ev, iLe_ev, iGt_ev, iGe_ev, iAdd_ev, iSub_ev, intF_i, intF_b, minF_ev, maxF_ev, absF_ev, lenF_l, lenF_t, lenF_sc, listF_l, listF_t, tupleF_t, boD_ev, ixF_l0, ixF_l1, ixF_l2, ixF_t0, ixF_t1, ixF_t2, mkTup_0, mkLst_0, mkTup_1, mkLst_1, mkTup_2, mkLst_2, mkTup_3, mkLst_3, mkTup_4, mkLst_4, mkTup_5, mkLst_5, slL_ev, slT_ev, slQ_l, slQ_t, revF_t, revF_l, gsNil_ev, gsCons_ev, out_ret, out_nx, outR_ret, outR_nx, noX_ok])
local macro_rules | `(tactic| walk_at "eva") => `(tactic| simp -implicitDefEqProofs only [and_self, bind_err, ev_raise, back_err, outR_err, ev_toldM, kTold_ok, kTold_err, ev_meth, kMeth_ev, kMeth2_ev, ev_eqO, kEqO_ev, kEqO2_ev, ev_errV, ev_dnew, bind_ok, bind_stuck, ev_ok, ev_of, ev_seq, kSeq_nx, kSeq_ret, kSeq_bk, kSeq_ct, ev_nx, ev_if, kIf_true, kIf_false, ev_var, kVar_fz, kVar_ow, ev_op, kOp_ev, ev_opB, kOpB_ev, ev_un, ev_chain, kCh_ev, ev_bd, ev_test, asB_b, ev_and, kAnd_t, kAnd_f, ev_or, kOr_t, kOr_f, ev_not, ev_andV, kAndV_t, kAndV_f, ev_orV, kOrV_t, kOrV_f, ev_notV, ev_nil, ev_cons, kCons_ev, ev_tup, ev_lst, ev_cb, ev_ret, ev_retN, ev_drop, ev_never, ev_asg, ev_setF, ev_gN, ev_callf, back_ok, ev_ixP, kIxP_ev, kIxP2_ev, ev_setIx, kSetIx_ev, kSetIx1_ev, ev_callP, kCallP_ev, kCallP2_ev, back1_ok, ev_pop, kOwn_ev, ev_app, ev_ext, ev_lenP, ev_eqP, kEqP_ev, kEqP2_ev, ev_inP, ev_nilO, ev_consF, ev_consO, kConsF_ev, kConsO_ev, ev_par, ev_for, ev_part, kPart_ev, ev_sl, kSl_ev, kSl2_ev, ev_m1, kM1_ev, ev_idx, kIdx_ev, ev_itL, ev_itT, ev_enL, ev_enT, ev_enQ, ev_fld, ev_prop, ev_inO, kInO_ev, kInO2_ev, ev_lenO, kLenO_ev, ev_setA, ev_make, ev_callN,
  List.getElem?_cons_zero, List.getElem?_cons_succ, List.set_cons_zero, List.set_cons_succ, List.append_nil, List.nil_append, List.cons_append, List.length_cons, List.length_nil, if_true, if_false, Nat.reduceAdd, Nat.reduceEqDiff, Nat.zero_add, peek, ownD, ownL, putO, DL.putAll, Option.map_some, Option.bind_some, asDat, asL, asT, as1, asQ, seqD, decide_true, env0, env1, List.map_cons, List.map_nil, List.replicate, Nat.reduceSub, reduceCtorEq, reduceIte, iLt_ev, iLe_ev, iGt_ev, iGe_ev, iAdd_ev, iSub_ev, intF_i, intF_b, minF_ev, maxF_ev, absF_ev, lenF_l, lenF_t, lenF_sc, listF_l, listF_t, tupleF_t, boD_ev, ixF_l0, ixF_l1, ixF_l2, ixF_t0, ixF_t1, ixF_t2, mkTup_0, mkLst_0, mkTup_1, mkLst_1, mkTup_2, mkLst_2, mkTup_3, mkLst_3, mkTup_4, mkLst_4, mkTup_5, mkLst_5, slL_ev, slT_ev, slQ_l, slQ_t, revF_t, revF_l, gsNil_ev, gsCons_ev, out_ret, out_nx, outR_ret, outR_nx, noX_ok, Bool.not_true, Bool.not_false, Bool.false_xor, Bool.true_xor, gT2_dat, gT3_dat, gT2_wk, gL3_dat, *])

namespace Q
open DL
/-! ### the hall -/
structure IsHall (people : List Str) (h : D) : Prop where
  o : DL.isObj "Hall" h = true
  p : fld "Hall" "own_people" h = some (dT (people.map .str))
  so : ∀ n ∈ people, SOk n
theorem isi_tup {l : List PyData} : isiF [dT l, .ty "tuple"] = some (dB true) := by
  show (kitB "tuple" "tuple").map (fun b => D.dat (.bool b)) = _
  rw [show kitB "tuple" "tuple" = some true from by decide +kernel]
  rfl
theorem eqv_int {a b : Int} : PyData.eqv (.int a) (.int b) = decide (a = b) := by
  show (a == b) = _
  by_cases h : a = b <;> simp [h]
theorem eqv_bool {a b : Bool} : PyData.eqv (.bool a) (.bool b) = decide (a = b) := by
  cases a <;> cases b <;> decide
theorem shaped_bool {a : Bool} : SeqAt.shaped (.bool a) = true := by
  simp [SeqAt.shaped, PyData.canLay0, PyData.depth]
theorem word_ev {s : Str} {ws : List Str} (hs : SOk s) (hw : ∀ w ∈ ws, SOk w) : f_is_word [dS s, dT (ws.map .str)] = .ok (dB (decide (s ∈ ws))) := by
  unfold f_is_word m_is_word
  walk_at "ev"
  rw [isi_str]
  walk_at "ev"
  rw [inB_t (shaped_str hs) (shaped_strsT hw), any_strs, Bool.false_xor]
  walk_at "ev"
theorem shaped_evsL {l : List Ev} (h : ∀ e ∈ l, SOk e.1) : SeqAt.shaped (.list (l.map evD)) = true := by
  have := can_evs h
  have h2 := this.2
  simp [SeqAt.shaped, PyData.canLay0, PyData.depth, this.1]
  omega
section
variable {people : List Str} {h : D} (H : IsHall people h)
include H
theorem hall_people : f_Hall_people [h] = .ok (dT (people.map .str)) := by
  unfold f_Hall_people m_Hall_people
  walk_at "ev"
  rw [H.p]
  walk_at "ev"
theorem hall_len : f_Hall__len [h] = .ok (dI (people.length : Nat)) := by
  unfold f_Hall__len m_Hall__len
  walk_at "ev"
  rw [H.p]
  walk_at "ev"
  rw [List.length_map]
theorem hall_in {a : Str} (ha : SOk a) : f_Hall__contains [h, dS a] = .ok (dB (decide (a ∈ people))) := by
  have := word_ev ha H.so
  unfold f_Hall__contains m_Hall__contains
  generalize f_is_word = G at this ⊢
  walk_at "ev"
  rw [H.p]
  walk_at "ev"
  rw [this]
  walk_at "ev"
end
end Q

open PySem PySem.Spec PyProof.Rows L2 MT DL
local macro_rules | `(tactic| walk_at "ev") => `(tactic| simp -implicitDefEqProofs only [and_self, bind_err, ev_raise, back_err, outR_err, ev_toldM, kTold_ok, kTold_err, ev_meth, kMeth_ev, kMeth2_ev, ev_eqO, kEqO_ev, kEqO2_ev, ev_errV, ev_dnew, bind_ok, bind_stuck, ev_ok, ev_of, ev_seq, kSeq_nx, kSeq_ret, kSeq_bk, kSeq_ct, ev_nx, ev_if, kIf_true, kIf_false, ev_var, kVar_fz, kVar_ow, ev_op, kOp_ev, ev_opB, kOpB_ev, ev_un, ev_chain, kCh_ev, ev_bd, ev_test, asB_b, ev_and, kAnd_t, kAnd_f, ev_or, kOr_t, kOr_f, ev_not, ev_andV, kAndV_t, kAndV_f, ev_orV, kOrV_t, kOrV_f, ev_notV, ev_nil, ev_cons, kCons_ev, ev_tup, ev_lst, ev_cb, ev_ret, ev_retN, ev_drop, ev_never, ev_asg, ev_setF, ev_gN, ev_callf, back_ok, ev_ixP, kIxP_ev, kIxP2_ev, ev_setIx, kSetIx_ev, kSetIx1_ev, ev_callP, kCallP_ev, kCallP2_ev, back1_ok, ev_pop, kOwn_ev, ev_app, ev_ext, ev_lenP, ev_eqP, kEqP_ev, kEqP2_ev, ev_inP, ev_nilO, ev_consF, ev_consO, kConsF_ev, kConsO_ev, ev_par, ev_for, ev_part, kPart_ev, ev_sl, kSl_ev, kSl2_ev, ev_m1, kM1_ev, ev_idx, kIdx_ev, ev_itL, ev_itT, ev_enL, ev_enT, ev_enQ, ev_fld, ev_prop, ev_inO, kInO_ev, kInO2_ev, ev_lenO, kLenO_ev, ev_setA, ev_make, ev_callN,
  List.getElem?_cons_zero, List.getElem?_cons_succ, List.set_cons_zero, List.set_cons_succ, List.append_nil, List.nil_append, List.cons_append, List.length_cons, List.length_nil, if_true, if_false, Nat.reduceAdd, Nat.reduceEqDiff, Nat.zero_add, peek, ownD, ownL, putO, DL.putAll, Option.map_some, Option.bind_some, asDat, asL, asT, as1, asQ, seqD, decide_true, env0, env1, List.map_cons, List.map_nil, List.replicate, Nat.reduceSub, reduceCtorEq, reduceIte, iLt_ev, iLe_ev, iGt_ev, iGe_ev, iAdd_ev, iSub_ev, intF_i, intF_b, minF_ev, maxF_ev, absF_ev, lenF_l, lenF_t, lenF_sc, listF_l, listF_t, tupleF_t, boD_ev, ixF_l0, ixF_l1, ixF_l2, ixF_t0, ixF_t1, ixF_t2, mkTup_0, mkLst_0, mkTup_1, mkLst_1, mkTup_2, mkLst_2, mkTup_3, mkLst_3, mkTup_4, mkLst_4, mkTup_5, mkLst_5, slL_ev, slT_ev, slQ_l, slQ_t, revF_t, revF_l, gsNil_ev, gsCons_ev, out_ret, out_nx, outR_ret, outR_nx, noX_ok])
local macro_rules | `(tactic| walk_at "eva") => `(tactic| simp -implicitDefEqProofs only [and_self, bind_err, ev_raise, back_err, outR_err, ev_toldM, kTold_ok, kTold_err, ev_meth, kMeth_ev, kMeth2_ev, ev_eqO, kEqO_ev, kEqO2_ev, ev_errV, ev_dnew, bind_ok, bind_stuck, ev_ok, ev_of, ev_seq, kSeq_nx, kSeq_ret, kSeq_bk, kSeq_ct, ev_nx, ev_if, kIf_true, kIf_false, ev_var, kVar_fz, kVar_ow, ev_op, kOp_ev, ev_opB, kOpB_ev, ev_un, ev_chain, kCh_ev, ev_bd, ev_test, asB_b, ev_and, kAnd_t, kAnd_f, ev_or, kOr_t, kOr_f, ev_not, ev_andV, kAndV_t, kAndV_f, ev_orV, kOrV_t, kOrV_f, ev_notV, ev_nil, ev_cons, kCons_ev, ev_tup, ev_lst, ev_cb, ev_ret, ev_retN, ev_drop, ev_never, ev_asg, ev_setF, ev_gN, ev_callf, back_ok, ev_ixP, kIxP_ev, kIxP2_ev, ev_setIx, kSetIx_ev, kSetIx1_ev, ev_callP, kCallP_ev, kCallP2_ev, back1_ok, ev_pop, kOwn_ev, ev_app, ev_ext, ev_lenP, ev_eqP, kEqP_ev, kEqP2_ev, ev_inP, ev_nilO, ev_consF, ev_consO, kConsF_ev, kConsO_ev, ev_par, ev_for, ev_part, kPart_ev, ev_sl, kSl_ev, kSl2_ev, ev_m1, kM1_ev, ev_idx, kIdx_ev, ev_itL, ev_itT, ev_enL, ev_enT, ev_enQ, ev_fld, ev_prop, ev_inO, kInO_ev, kInO2_ev, ev_lenO, kLenO_ev, ev_setA, ev_make, ev_callN,
  List.getElem?_cons_zero, List.getElem?_cons_succ, List.set_cons_zero, List.set_cons_succ, List.append_nil, List.nil_append, List.cons_append, List.length_cons, List.length_nil, if_true, if_false, Nat.reduceAdd, Nat.reduceEqDiff, Nat.zero_add, peek, ownD, ownL, putO, DL.putAll, Option.map_some, Option.bind_some, asDat, asL, asT, as1, asQ, seqD, decide_true, env0, env1, List.map_cons, List.map_nil, List.replicate, Nat.reduceSub, reduceCtorEq, reduceIte, iLt_ev, iLe_ev, iGt_ev, iGe_ev, iAdd_ev, iSub_ev, intF_i, intF_b, minF_ev, maxF_ev, absF_ev, lenF_l, lenF_t, lenF_sc, listF_l, listF_t, tupleF_t, boD_ev, ixF_l0, ixF_l1, ixF_l2, ixF_t0, ixF_t1, ixF_t2, mkTup_0, mkLst_0, mkTup_1, mkLst_1, mkTup_2, mkLst_2, mkTup_3, mkLst_3, mkTup_4, mkLst_4, mkTup_5, mkLst_5, slL_ev, slT_ev, slQ_l, slQ_t, revF_t, revF_l, gsNil_ev, gsCons_ev, out_ret, out_nx, outR_ret, outR_nx, noX_ok, Bool.not_true, Bool.not_false, Bool.false_xor, Bool.true_xor, gT2_dat, gT3_dat, gT2_wk, gL3_dat, *])

namespace Q
open DL
/-! ### two people -/
theorem eqB_str {a b : Str} (ha : SOk a) (hb : SOk b) : eqB (dS a) (dS b) = some (decide (a = b)) := by
  rw [eqB_ev (shaped_str ha) (shaped_str hb), eqv_str]
theorem neB_str {a b : Str} (ha : SOk a) (hb : SOk b) : neB (dS a) (dS b) = some (!decide (a = b)) := by
  rw [neB_ev (shaped_str ha) (shaped_str hb), eqv_str]
section
variable {people : List Str} {h : D} (H : IsHall people h)
include H
end
end Q

open PySem PySem.Spec PyProof.Rows L2 MT DL
local macro_rules | `(tactic| walk_at "ev") => `(tactic| simp -implicitDefEqProofs only [and_self, bind_err, ev_raise, back_err, outR_err, ev_toldM, kTold_ok, kTold_err, ev_meth, kMeth_ev, kMeth2_ev, ev_eqO, kEqO_ev, kEqO2_ev, ev_errV, ev_dnew, bind_ok, bind_stuck, ev_ok, ev_of, ev_seq, kSeq_nx, kSeq_ret, kSeq_bk, kSeq_ct, ev_nx, ev_if, kIf_true, kIf_false, ev_var, kVar_fz, kVar_ow, ev_op, kOp_ev, ev_opB, kOpB_ev, ev_un, ev_chain, kCh_ev, ev_bd, ev_test, asB_b, ev_and, kAnd_t, kAnd_f, ev_or, kOr_t, kOr_f, ev_not, ev_andV, kAndV_t, kAndV_f, ev_orV, kOrV_t, kOrV_f, ev_notV, ev_nil, ev_cons, kCons_ev, ev_tup, ev_lst, ev_cb, ev_ret, ev_retN, ev_drop, ev_never, ev_asg, ev_setF, ev_gN, ev_callf, back_ok, ev_ixP, kIxP_ev, kIxP2_ev, ev_setIx, kSetIx_ev, kSetIx1_ev, ev_callP, kCallP_ev, kCallP2_ev, back1_ok, ev_pop, kOwn_ev, ev_app, ev_ext, ev_lenP, ev_eqP, kEqP_ev, kEqP2_ev, ev_inP, ev_nilO, ev_consF, ev_consO, kConsF_ev, kConsO_ev, ev_par, ev_for, ev_part, kPart_ev, ev_sl, kSl_ev, kSl2_ev, ev_m1, kM1_ev, ev_idx, kIdx_ev, ev_itL, ev_itT, ev_enL, ev_enT, ev_enQ, ev_fld, ev_prop, ev_inO, kInO_ev, kInO2_ev, ev_lenO, kLenO_ev, ev_setA, ev_make, ev_callN,
  List.getElem?_cons_zero, List.getElem?_cons_succ, List.set_cons_zero, List.set_cons_succ, List.append_nil, List.nil_append, List.cons_append, List.length_cons, List.length_nil, if_true, if_false, Nat.reduceAdd, Nat.reduceEqDiff, Nat.zero_add, peek, ownD, ownL, putO, DL.putAll, Option.map_some, Option.bind_some, asDat, asL, asT, as1, asQ, seqD, decide_true, env0, env1, List.map_cons, List.map_nil, List.replicate, Nat.reduceSub, reduceCtorEq, reduceIte, iLt_ev, iLe_ev, iGt_ev, iGe_ev, iAdd_ev, iSub_ev, intF_i, intF_b, minF_ev, maxF_ev, absF_ev, lenF_l, lenF_t, lenF_sc, listF_l, listF_t, tupleF_t, boD_ev, ixF_l0, ixF_l1, ixF_l2, ixF_t0, ixF_t1, ixF_t2, mkTup_0, mkLst_0, mkTup_1, mkLst_1, mkTup_2, mkLst_2, mkTup_3, mkLst_3, mkTup_4, mkLst_4, mkTup_5, mkLst_5, slL_ev, slT_ev, slQ_l, slQ_t, revF_t, revF_l, gsNil_ev, gsCons_ev, out_ret, out_nx, outR_ret, outR_nx, noX_ok])
local macro_rules | `(tactic| walk_at "eva") => `(tactic| simp -implicitDefEqProofs only [and_self, bind_err, ev_raise, back_err, outR_err, ev_toldM, kTold_ok, kTold_err, ev_meth, kMeth_ev, kMeth2_ev, ev_eqO, kEqO_ev, kEqO2_ev, ev_errV, ev_dnew, bind_ok, bind_stuck, ev_ok, ev_of, ev_seq, kSeq_nx, kSeq_ret, kSeq_bk, kSeq_ct, ev_nx, ev_if, kIf_true, kIf_false, ev_var, kVar_fz, kVar_ow, ev_op, kOp_ev, ev_opB, kOpB_ev, ev_un, ev_chain, kCh_ev, ev_bd, ev_test, asB_b, ev_and, kAnd_t, kAnd_f, ev_or, kOr_t, kOr_f, ev_not, ev_andV, kAndV_t, kAndV_f, ev_orV, kOrV_t, kOrV_f, ev_notV, ev_nil, ev_cons, kCons_ev, ev_tup, ev_lst, ev_cb, ev_ret, ev_retN, ev_drop, ev_never, ev_asg, ev_setF, ev_gN, ev_callf, back_ok, ev_ixP, kIxP_ev, kIxP2_ev, ev_setIx, kSetIx_ev, kSetIx1_ev, ev_callP, kCallP_ev, kCallP2_ev, back1_ok, ev_pop, kOwn_ev, ev_app, ev_ext, ev_lenP, ev_eqP, kEqP_ev, kEqP2_ev, ev_inP, ev_nilO, ev_consF, ev_consO, kConsF_ev, kConsO_ev, ev_par, ev_for, ev_part, kPart_ev, ev_sl, kSl_ev, kSl2_ev, ev_m1, kM1_ev, ev_idx, kIdx_ev, ev_itL, ev_itT, ev_enL, ev_enT, ev_enQ, ev_fld, ev_prop, ev_inO, kInO_ev, kInO2_ev, ev_lenO, kLenO_ev, ev_setA, ev_make, ev_callN,
  List.getElem?_cons_zero, List.getElem?_cons_succ, List.set_cons_zero, List.set_cons_succ, List.append_nil, List.nil_append, List.cons_append, List.length_cons, List.length_nil, if_true, if_false, Nat.reduceAdd, Nat.reduceEqDiff, Nat.zero_add, peek, ownD, ownL, putO, DL.putAll, Option.map_some, Option.bind_some, asDat, asL, asT, as1, asQ, seqD, decide_true, env0, env1, List.map_cons, List.map_nil, List.replicate, Nat.reduceSub, reduceCtorEq, reduceIte, iLt_ev, iLe_ev, iGt_ev, iGe_ev, iAdd_ev, iSub_ev, intF_i, intF_b, minF_ev, maxF_ev, absF_ev, lenF_l, lenF_t, lenF_sc, listF_l, listF_t, tupleF_t, boD_ev, ixF_l0, ixF_l1, ixF_l2, ixF_t0, ixF_t1, ixF_t2, mkTup_0, mkLst_0, mkTup_1, mkLst_1, mkTup_2, mkLst_2, mkTup_3, mkLst_3, mkTup_4, mkLst_4, mkTup_5, mkLst_5, slL_ev, slT_ev, slQ_l, slQ_t, revF_t, revF_l, gsNil_ev, gsCons_ev, out_ret, out_nx, outR_ret, outR_nx, noX_ok, Bool.not_true, Bool.not_false, Bool.false_xor, Bool.true_xor, gT2_dat, gT3_dat, gT2_wk, gL3_dat, *])

namespace Q
open DL
/-! ### any values as people -/
def isStrB : PyData → Bool
  | .str _ => true
  | _ => false
theorem isi_any {d : PyData} : isiF [.dat d, .ty "str"] = some (dB (isStrB d)) := by
  have k1 : kitB "NoneType" "str" = some false := by decide +kernel
  have k2 : kitB "bool" "str" = some false := by decide +kernel
  have k3 : kitB "int" "str" = some false := by decide +kernel
  have k4 : kitB "str" "str" = some true := by decide +kernel
  have k5 : kitB "list" "str" = some false := by decide +kernel
  have k6 : kitB "tuple" "str" = some false := by decide +kernel
  have k7 : kitB "dict" "str" = some false := by decide +kernel
  show (kitB (tyN d) "str").map (fun b => D.dat (.bool b)) = _
  have : kitB (tyN d) "str" = some (isStrB d) := by
    cases d
    · exact k1
    · exact k2
    · exact k3
    · exact k4
    · exact k5
    · exact k6
    · exact k7
  rw [this]; rfl
/-- whether a value is one of some names -/
def isP (ws : List Str) : PyData → Bool
  | .str s => decide (s ∈ ws)
  | _ => false
theorem isP_str {ws : List Str} {d : PyData} (h : isP ws d = true) : ∃ s, d = .str s ∧ s ∈ ws := by
  unfold isP at h
  split at h
  · exact ⟨_, rfl, of_decide_eq_true h⟩
  · cases h
theorem isP_not {ws : List Str} {d : PyData} (h : isStrB d = false) : isP ws d = false := by
  cases d <;> first | rfl | cases h
theorem isStr_of {d : PyData} (h : isStrB d = true) : ∃ s, d = .str s := by
  cases d <;> first | exact ⟨_, rfl⟩ | cases h
theorem sok_str {s : Str} (h : sokD (.str s) = true) : SOk s := by
  simp only [sokD] at h
  exact h
theorem word_any {d : PyData} {ws : List Str} (hs : sokD d = true) (hw : ∀ w ∈ ws, SOk w) : f_is_word [.dat d, dT (ws.map .str)] = .ok (dB (isP ws d)) := by
  cases h : isStrB d with
  | true =>
    obtain ⟨s, rfl⟩ := isStr_of h
    exact word_ev (sok_str hs) hw
  | false =>
    have e := isi_any (d := d)
    rw [h] at e
    rw [isP_not h]
    unfold f_is_word m_is_word
    clear hs hw h
    walk_at "eva"
section
variable {people : List Str} {h : D} (H : IsHall people h)
include H
theorem hall_inA {d : PyData} (hs : sokD d = true) : f_Hall__contains [h, .dat d] = .ok (dB (isP people d)) := by
  have := word_any hs H.so
  have h1 := H.p
  clear H hs
  unfold f_Hall__contains m_Hall__contains
  generalize f_is_word = G at this ⊢
  walk_at "eva"
end
end Q

open PySem PySem.Spec PyProof.Rows L2 MT DL
local macro_rules | `(tactic| walk_at "ev") => `(tactic| simp -implicitDefEqProofs only [and_self, bind_err, ev_raise, back_err, outR_err, ev_toldM, kTold_ok, kTold_err, ev_meth, kMeth_ev, kMeth2_ev, ev_eqO, kEqO_ev, kEqO2_ev, ev_errV, ev_dnew, bind_ok, bind_stuck, ev_ok, ev_of, ev_seq, kSeq_nx, kSeq_ret, kSeq_bk, kSeq_ct, ev_nx, ev_if, kIf_true, kIf_false, ev_var, kVar_fz, kVar_ow, ev_op, kOp_ev, ev_opB, kOpB_ev, ev_un, ev_chain, kCh_ev, ev_bd, ev_test, asB_b, ev_and, kAnd_t, kAnd_f, ev_or, kOr_t, kOr_f, ev_not, ev_andV, kAndV_t, kAndV_f, ev_orV, kOrV_t, kOrV_f, ev_notV, ev_nil, ev_cons, kCons_ev, ev_tup, ev_lst, ev_cb, ev_ret, ev_retN, ev_drop, ev_never, ev_asg, ev_setF, ev_gN, ev_callf, back_ok, ev_ixP, kIxP_ev, kIxP2_ev, ev_setIx, kSetIx_ev, kSetIx1_ev, ev_callP, kCallP_ev, kCallP2_ev, back1_ok, ev_pop, kOwn_ev, ev_app, ev_ext, ev_lenP, ev_eqP, kEqP_ev, kEqP2_ev, ev_inP, ev_nilO, ev_consF, ev_consO, kConsF_ev, kConsO_ev, ev_par, ev_for, ev_part, kPart_ev, ev_sl, kSl_ev, kSl2_ev, ev_m1, kM1_ev, ev_idx, kIdx_ev, ev_itL, ev_itT, ev_enL, ev_enT, ev_enQ, ev_fld, ev_prop, ev_inO, kInO_ev, kInO2_ev, ev_lenO, kLenO_ev, ev_setA, ev_make, ev_callN,
  List.getElem?_cons_zero, List.getElem?_cons_succ, List.set_cons_zero, List.set_cons_succ, List.append_nil, List.nil_append, List.cons_append, List.length_cons, List.length_nil, if_true, if_false, Nat.reduceAdd, Nat.reduceEqDiff, Nat.zero_add, peek, ownD, ownL, putO, DL.putAll, Option.map_some, Option.bind_some, asDat, asL, asT, as1, asQ, seqD, decide_true, env0, env1, List.map_cons, List.map_nil, List.replicate, Nat.reduceSub, reduceCtorEq, reduceIte, iLt_ev, iLe_ev, iGt_ev, iGe_ev, iAdd_ev, iSub_ev, intF_i, intF_b, minF_ev, maxF_ev, absF_ev, lenF_l, lenF_t, lenF_sc, listF_l, listF_t, tupleF_t, boD_ev, ixF_l0, ixF_l1, ixF_l2, ixF_t0, ixF_t1, ixF_t2, mkTup_0, mkLst_0, mkTup_1, mkLst_1, mkTup_2, mkLst_2, mkTup_3, mkLst_3, mkTup_4, mkLst_4, mkTup_5, mkLst_5, slL_ev, slT_ev, slQ_l, slQ_t, revF_t, revF_l, gsNil_ev, gsCons_ev, out_ret, out_nx, outR_ret, outR_nx, noX_ok])
local macro_rules | `(tactic| walk_at "eva") => `(tactic| simp -implicitDefEqProofs only [and_self, bind_err, ev_raise, back_err, outR_err, ev_toldM, kTold_ok, kTold_err, ev_meth, kMeth_ev, kMeth2_ev, ev_eqO, kEqO_ev, kEqO2_ev, ev_errV, ev_dnew, bind_ok, bind_stuck, ev_ok, ev_of, ev_seq, kSeq_nx, kSeq_ret, kSeq_bk, kSeq_ct, ev_nx, ev_if, kIf_true, kIf_false, ev_var, kVar_fz, kVar_ow, ev_op, kOp_ev, ev_opB, kOpB_ev, ev_un, ev_chain, kCh_ev, ev_bd, ev_test, asB_b, ev_and, kAnd_t, kAnd_f, ev_or, kOr_t, kOr_f, ev_not, ev_andV, kAndV_t, kAndV_f, ev_orV, kOrV_t, kOrV_f, ev_notV, ev_nil, ev_cons, kCons_ev, ev_tup, ev_lst, ev_cb, ev_ret, ev_retN, ev_drop, ev_never, ev_asg, ev_setF, ev_gN, ev_callf, back_ok, ev_ixP, kIxP_ev, kIxP2_ev, ev_setIx, kSetIx_ev, kSetIx1_ev, ev_callP, kCallP_ev, kCallP2_ev, back1_ok, ev_pop, kOwn_ev, ev_app, ev_ext, ev_lenP, ev_eqP, kEqP_ev, kEqP2_ev, ev_inP, ev_nilO, ev_consF, ev_consO, kConsF_ev, kConsO_ev, ev_par, ev_for, ev_part, kPart_ev, ev_sl, kSl_ev, kSl2_ev, ev_m1, kM1_ev, ev_idx, kIdx_ev, ev_itL, ev_itT, ev_enL, ev_enT, ev_enQ, ev_fld, ev_prop, ev_inO, kInO_ev, kInO2_ev, ev_lenO, kLenO_ev, ev_setA, ev_make, ev_callN,
  List.getElem?_cons_zero, List.getElem?_cons_succ, List.set_cons_zero, List.set_cons_succ, List.append_nil, List.nil_append, List.cons_append, List.length_cons, List.length_nil, if_true, if_false, Nat.reduceAdd, Nat.reduceEqDiff, Nat.zero_add, peek, ownD, ownL, putO, DL.putAll, Option.map_some, Option.bind_some, asDat, asL, asT, as1, asQ, seqD, decide_true, env0, env1, List.map_cons, List.map_nil, List.replicate, Nat.reduceSub, reduceCtorEq, reduceIte, iLt_ev, iLe_ev, iGt_ev, iGe_ev, iAdd_ev, iSub_ev, intF_i, intF_b, minF_ev, maxF_ev, absF_ev, lenF_l, lenF_t, lenF_sc, listF_l, listF_t, tupleF_t, boD_ev, ixF_l0, ixF_l1, ixF_l2, ixF_t0, ixF_t1, ixF_t2, mkTup_0, mkLst_0, mkTup_1, mkLst_1, mkTup_2, mkLst_2, mkTup_3, mkLst_3, mkTup_4, mkLst_4, mkTup_5, mkLst_5, slL_ev, slT_ev, slQ_l, slQ_t, revF_t, revF_l, gsNil_ev, gsCons_ev, out_ret, out_nx, outR_ret, outR_nx, noX_ok, Bool.not_true, Bool.not_false, Bool.false_xor, Bool.true_xor, gT2_dat, gT3_dat, gT2_wk, gL3_dat, *])

namespace Q
open DL TL
/-! ### the hall's text, small -/
theorem lineS_ok {ws : List Str} (h : ∀ w ∈ ws, SOk w) : SOk (lineS ws) := by
  show PyData.strOk _ = true
  rw [strOk_iff]
  intro c hc
  have hc : c ∈ tl (lineS ws) := hc
  unfold lineS at hc
  rw [join_eq, tl_join] at hc
  rcases joinL_mem hc with z | ⟨p, hp, z⟩
  · exact (strOk_iff.mp (show PyData.strOk (" " : Str) = true by decide +kernel)) c z
  · obtain ⟨w, hw, rfl⟩ := List.mem_map.mp hp
    exact (strOk_iff.mp (h w hw)) c z
theorem textS_ok {rows : List (List Str)} (h : ∀ ws ∈ rows, ∀ w ∈ ws, SOk w) : SOk (textS rows) := by
  show PyData.strOk _ = true
  rw [strOk_iff]
  intro c hc
  have hc : c ∈ tl (textS rows) := hc
  unfold textS at hc
  rw [join_eq, tl_join] at hc
  rcases joinL_mem hc with z | ⟨p, hp, z⟩
  · exact (strOk_iff.mp (show PyData.strOk ("\n" : Str) = true by decide +kernel)) c z
  · obtain ⟨w, hw, rfl⟩ := List.mem_map.mp hp
    obtain ⟨ws, hws, rfl⟩ := List.mem_map.mp hw
    exact (strOk_iff.mp (lineS_ok (h ws hws))) c z
end Q

open PySem PySem.Spec PyProof.Rows L2 MT DL
local macro_rules | `(tactic| walk_at "ev") => `(tactic| simp -implicitDefEqProofs only [and_self, bind_err, ev_raise, back_err, outR_err, ev_toldM, kTold_ok, kTold_err, ev_meth, kMeth_ev, kMeth2_ev, ev_eqO, kEqO_ev, kEqO2_ev, ev_errV, ev_dnew, bind_ok, bind_stuck, ev_ok, ev_of, ev_seq, kSeq_nx, kSeq_ret, kSeq_bk, kSeq_ct, ev_nx, ev_if, kIf_true, kIf_false, ev_var, kVar_fz, kVar_ow, ev_op, kOp_ev, ev_opB, kOpB_ev, ev_un, ev_chain, kCh_ev, ev_bd, ev_test, asB_b, ev_and, kAnd_t, kAnd_f, ev_or, kOr_t, kOr_f, ev_not, ev_andV, kAndV_t, kAndV_f, ev_orV, kOrV_t, kOrV_f, ev_notV, ev_nil, ev_cons, kCons_ev, ev_tup, ev_lst, ev_cb, ev_ret, ev_retN, ev_drop, ev_never, ev_asg, ev_setF, ev_gN, ev_callf, back_ok, ev_ixP, kIxP_ev, kIxP2_ev, ev_setIx, kSetIx_ev, kSetIx1_ev, ev_callP, kCallP_ev, kCallP2_ev, back1_ok, ev_pop, kOwn_ev, ev_app, ev_ext, ev_lenP, ev_eqP, kEqP_ev, kEqP2_ev, ev_inP, ev_nilO, ev_consF, ev_consO, kConsF_ev, kConsO_ev, ev_par, ev_for, ev_part, kPart_ev, ev_sl, kSl_ev, kSl2_ev, ev_m1, kM1_ev, ev_idx, kIdx_ev, ev_itL, ev_itT, ev_enL, ev_enT, ev_enQ, ev_fld, ev_prop, ev_inO, kInO_ev, kInO2_ev, ev_lenO, kLenO_ev, ev_setA, ev_make, ev_callN,
  List.getElem?_cons_zero, List.getElem?_cons_succ, List.set_cons_zero, List.set_cons_succ, List.append_nil, List.nil_append, List.cons_append, List.length_cons, List.length_nil, if_true, if_false, Nat.reduceAdd, Nat.reduceEqDiff, Nat.zero_add, peek, ownD, ownL, putO, DL.putAll, Option.map_some, Option.bind_some, asDat, asL, asT, as1, asQ, seqD, decide_true, env0, env1, List.map_cons, List.map_nil, List.replicate, Nat.reduceSub, reduceCtorEq, reduceIte, iLt_ev, iLe_ev, iGt_ev, iGe_ev, iAdd_ev, iSub_ev, intF_i, intF_b, minF_ev, maxF_ev, absF_ev, lenF_l, lenF_t, lenF_sc, listF_l, listF_t, tupleF_t, boD_ev, ixF_l0, ixF_l1, ixF_l2, ixF_t0, ixF_t1, ixF_t2, mkTup_0, mkLst_0, mkTup_1, mkLst_1, mkTup_2, mkLst_2, mkTup_3, mkLst_3, mkTup_4, mkLst_4, mkTup_5, mkLst_5, slL_ev, slT_ev, slQ_l, slQ_t, revF_t, revF_l, gsNil_ev, gsCons_ev, out_ret, out_nx, outR_ret, outR_nx, noX_ok])
local macro_rules | `(tactic| walk_at "eva") => `(tactic| simp -implicitDefEqProofs only [and_self, bind_err, ev_raise, back_err, outR_err, ev_toldM, kTold_ok, kTold_err, ev_meth, kMeth_ev, kMeth2_ev, ev_eqO, kEqO_ev, kEqO2_ev, ev_errV, ev_dnew, bind_ok, bind_stuck, ev_ok, ev_of, ev_seq, kSeq_nx, kSeq_ret, kSeq_bk, kSeq_ct, ev_nx, ev_if, kIf_true, kIf_false, ev_var, kVar_fz, kVar_ow, ev_op, kOp_ev, ev_opB, kOpB_ev, ev_un, ev_chain, kCh_ev, ev_bd, ev_test, asB_b, ev_and, kAnd_t, kAnd_f, ev_or, kOr_t, kOr_f, ev_not, ev_andV, kAndV_t, kAndV_f, ev_orV, kOrV_t, kOrV_f, ev_notV, ev_nil, ev_cons, kCons_ev, ev_tup, ev_lst, ev_cb, ev_ret, ev_retN, ev_drop, ev_never, ev_asg, ev_setF, ev_gN, ev_callf, back_ok, ev_ixP, kIxP_ev, kIxP2_ev, ev_setIx, kSetIx_ev, kSetIx1_ev, ev_callP, kCallP_ev, kCallP2_ev, back1_ok, ev_pop, kOwn_ev, ev_app, ev_ext, ev_lenP, ev_eqP, kEqP_ev, kEqP2_ev, ev_inP, ev_nilO, ev_consF, ev_consO, kConsF_ev, kConsO_ev, ev_par, ev_for, ev_part, kPart_ev, ev_sl, kSl_ev, kSl2_ev, ev_m1, kM1_ev, ev_idx, kIdx_ev, ev_itL, ev_itT, ev_enL, ev_enT, ev_enQ, ev_fld, ev_prop, ev_inO, kInO_ev, kInO2_ev, ev_lenO, kLenO_ev, ev_setA, ev_make, ev_callN,
  List.getElem?_cons_zero, List.getElem?_cons_succ, List.set_cons_zero, List.set_cons_succ, List.append_nil, List.nil_append, List.cons_append, List.length_cons, List.length_nil, if_true, if_false, Nat.reduceAdd, Nat.reduceEqDiff, Nat.zero_add, peek, ownD, ownL, putO, DL.putAll, Option.map_some, Option.bind_some, asDat, asL, asT, as1, asQ, seqD, decide_true, env0, env1, List.map_cons, List.map_nil, List.replicate, Nat.reduceSub, reduceCtorEq, reduceIte, iLt_ev, iLe_ev, iGt_ev, iGe_ev, iAdd_ev, iSub_ev, intF_i, intF_b, minF_ev, maxF_ev, absF_ev, lenF_l, lenF_t, lenF_sc, listF_l, listF_t, tupleF_t, boD_ev, ixF_l0, ixF_l1, ixF_l2, ixF_t0, ixF_t1, ixF_t2, mkTup_0, mkLst_0, mkTup_1, mkLst_1, mkTup_2, mkLst_2, mkTup_3, mkLst_3, mkTup_4, mkLst_4, mkTup_5, mkLst_5, slL_ev, slT_ev, slQ_l, slQ_t, revF_t, revF_l, gsNil_ev, gsCons_ev, out_ret, out_nx, outR_ret, outR_nx, noX_ok, Bool.not_true, Bool.not_false, Bool.false_xor, Bool.true_xor, gT2_dat, gT3_dat, gT2_wk, gL3_dat, *])

namespace Q
open DL TL
/-! ### any words -/
structure Wrd (s : Str) : Prop where
  bl : 32 ∉ tl s
  fe : 10 ∉ tl s
  so : SOk s
  le : s.length ≤ 40
def wrdB (s : Str) : Bool := !(tl s).contains 32 && (!(tl s).contains 10 && (PyData.strOk s && decide (s.length ≤ 40)))
theorem wrd_of {s : Str} (h : wrdB s = true) : Wrd s := by
  unfold wrdB at h
  simp only [Bool.and_eq_true, decide_eq_true_eq, Bool.not_eq_true', List.contains_eq_mem, decide_eq_false_iff_not] at h
  exact ⟨h.1, h.2.1, h.2.2.1, h.2.2.2⟩
theorem Clean.wrd {s : Str} (h : Clean s) : Wrd s := ⟨h.bl, h.fe, h.so, Nat.le_trans h.le (by decide)⟩
theorem splitW_line {ws : List Str} (h0 : ws ≠ []) (h : ∀ w ∈ ws, Wrd w) : Txt.split (lineS ws) " " = ws := split_join (y := " ") (s := 32) (S := []) rfl (by decide +kernel) h0 fun p hp => (h p hp).bl
theorem lineW_feed {ws : List Str} (h : ∀ w ∈ ws, Wrd w) : 10 ∉ tl (lineS ws) := fun z => by
  unfold lineS at z
  rw [join_eq, tl_join] at z
  rcases joinL_mem z with z | ⟨p, hp, z⟩
  · exact absurd z (by decide +kernel)
  · obtain ⟨w, hw, rfl⟩ := List.mem_map.mp hp
    exact (h w hw).fe z
theorem splitW_text {rows : List (List Str)} (h0 : rows ≠ []) (h : ∀ ws ∈ rows, ∀ w ∈ ws, Wrd w) : Txt.split (textS rows) "\n" = rows.map lineS := split_join (y := "\n") (s := 10) (S := []) rfl (by decide +kernel) (by simpa using h0) fun p hp => by
  obtain ⟨ws, hws, rfl⟩ := List.mem_map.mp hp
  exact lineW_feed (h ws hws)
theorem lineW_len {ws : List Str} (h : ∀ w ∈ ws, Wrd w) (hl : ws.length ≤ 30) : (lineS ws).length ≤ 1300 := by
  have h1 := join_len (a := " ") (ys := ws)
  have h2 := sum_le fun w hw => (h w hw).le
  have h3 : (" " : Str).length = 1 := rfl
  rw [h3, Nat.mul_one] at h1
  unfold lineS
  omega
/-- rows of words that can be read -/
structure RowsW (rows : List (List Str)) : Prop where
  w : ∀ ws ∈ rows, ws ≠ [] ∧ (∀ w ∈ ws, Wrd w) ∧ ws.length ≤ 30
  l : rows.length ≤ 60
theorem textW_len {rows : List (List Str)} (h : RowsW rows) : (textS rows).length ≤ 80000 := by
  have h1 := join_len (a := "\n") (ys := rows.map lineS)
  have h2 := sum_le (b := 1300) (ys := rows.map lineS) fun w hw => by
    obtain ⟨ws, hws, rfl⟩ := List.mem_map.mp hw
    exact lineW_len (h.w ws hws).2.1 (h.w ws hws).2.2
  have h3 : ("\n" : Str).length = 1 := rfl
  have h4 := h.l
  rw [h3, Nat.mul_one, List.length_map] at h1
  rw [List.length_map] at h2
  unfold textS
  omega
theorem lineW_ok {ws : List Str} (h : ∀ w ∈ ws, Wrd w) : SOk (lineS ws) := lineS_ok fun w hw => (h w hw).so
/-! ### names -/
def madeB (s : Str) : Bool := (tl s).all fun c => decide (c ∈ tl "abcdefghijklmnopqrstuvwxyz")
def nameB (s : Str) : Bool := decide (s.length ≤ 8) && (!decide (s = "") && madeB s)
theorem signs_ev {s : Str} : mItS (mOk (dS s)) = fun δ => Res.ok ((tl s).map fun c => dS ⟨#[c]⟩) δ := rfl
theorem inS_c {c : Nat} {z : Str} : inS false (dS ⟨#[c]⟩) (dS z) = some (decide (c ∈ tl z)) := by
  show some (false ^^ decide (c ∈ tl z)) = _
  rw [Bool.false_xor]
theorem empty_ok : SOk "" := show PyData.strOk _ = true by decide +kernel
theorem made_ev {s : Str} (hs : SOk s) (hl : s.length ≤ 1000) : f_is_made_of [dS s, dS "abcdefghijklmnopqrstuvwxyz"] = .ok (dB (!decide (s = "") && madeB s)) := by
  have e1 := neB_str hs empty_ok
  have c1 : (mLc [2] (mItS (mVar 0)) (gN 2) mYes (mOp (fun x y => boD ((inS false) x y)) (mVar 2) (mVar 1))) [.fz (dS s), .fz (dS "abcdefghijklmnopqrstuvwxyz"), .no] = .ok (dL ((tl s).map fun c => .bool (decide (c ∈ tl "abcdefghijklmnopqrstuvwxyz")))) [.fz (dS s), .fz (dS "abcdefghijklmnopqrstuvwxyz"), .no] := by
    refine ev_lcA (enc := fun c : Nat => dS ⟨#[c]⟩) (h := fun c : Nat => .bool (decide (c ∈ tl "abcdefghijklmnopqrstuvwxyz"))) (xs := tl s) (δ1 := [.fz (dS s), .fz (dS "abcdefghijklmnopqrstuvwxyz"), .no]) rfl (le_most (by rw [← len_tl]; omega)) rfl rfl fun c _ => ⟨[.fz (dS s), .fz (dS "abcdefghijklmnopqrstuvwxyz"), .fz (dS ⟨#[c]⟩)], [.fz (dS s), .fz (dS "abcdefghijklmnopqrstuvwxyz"), .fz (dS ⟨#[c]⟩)], rfl, ?_, rfl⟩
    have e := inS_c (c := c) (z := "abcdefghijklmnopqrstuvwxyz")
    generalize dS s = y
    generalize dS "abcdefghijklmnopqrstuvwxyz" = z at e ⊢
    generalize dS ⟨#[c]⟩ = x at e ⊢
    generalize decide (c ∈ tl "abcdefghijklmnopqrstuvwxyz") = b at e ⊢
    walk_at "eva"
  have c2 : allF [dL ((tl s).map fun c => .bool (decide (c ∈ tl "abcdefghijklmnopqrstuvwxyz")))] = some (dB (madeB s)) := allF_map (f := fun c => decide (c ∈ tl "abcdefghijklmnopqrstuvwxyz"))
  clear hs hl
  unfold f_is_made_of m_is_made_of
  rw [show env0 3 [dS s, dS "abcdefghijklmnopqrstuvwxyz"] = [.fz (dS s), .fz (dS "abcdefghijklmnopqrstuvwxyz"), .no] from rfl]
  generalize (mLc [2] (mItS (mVar 0)) (gN 2) mYes (mOp (fun x y => boD ((inS false) x y)) (mVar 2) (mVar 1))) = G at c1 ⊢
  generalize dL ((tl s).map fun c => .bool (decide (c ∈ tl "abcdefghijklmnopqrstuvwxyz"))) = y at c1 c2
  generalize dS "abcdefghijklmnopqrstuvwxyz" = z at c1 ⊢
  generalize madeB s = m at c2 ⊢
  generalize decide (s = "") = b at e1 ⊢
  generalize dS s = x at e1 c1 ⊢
  cases b <;> walk_at "eva" <;> rfl
theorem nameW_ev {s : Str} (hs : SOk s) (hl : s.length ≤ 1000) : f_is_name [dS s] = .ok (dB (nameB s)) := by
  have e1 := made_ev hs hl
  have l1 : lenF [dS s] = some (dI (s.length : Nat)) := lenF_s (s := s) (le_most (by omega))
  have i1 : iLe (dI (s.length : Nat)) (dI 8) = some (decide (s.length ≤ 8)) := by
    rw [iLe_ev]
    congr 1
    exact decide_eq_decide.mpr (by omega)
  clear hs hl
  unfold f_is_name m_is_name nameB
  generalize f_is_made_of = G at e1 ⊢
  generalize (!decide (s = "") && madeB s) = m at e1 ⊢
  generalize decide (s.length ≤ 8) = b at i1 ⊢
  generalize dI (s.length : Nat) = n at l1 i1
  generalize dS s = x at e1 l1 ⊢
  cases b <;> walk_at "eva" <;> rfl
theorem pool_nameB : pool.all nameB = true := by decide +kernel
theorem pool_name {n : Str} (h : n ∈ pool) : nameB n = true := List.all_eq_true.mp pool_nameB n h
end Q

open PySem PySem.Spec PyProof.Rows L2 MT DL
local macro_rules | `(tactic| walk_at "ev") => `(tactic| simp -implicitDefEqProofs only [and_self, bind_err, ev_raise, back_err, outR_err, ev_toldM, kTold_ok, kTold_err, ev_meth, kMeth_ev, kMeth2_ev, ev_eqO, kEqO_ev, kEqO2_ev, ev_errV, ev_dnew, bind_ok, bind_stuck, ev_ok, ev_of, ev_seq, kSeq_nx, kSeq_ret, kSeq_bk, kSeq_ct, ev_nx, ev_if, kIf_true, kIf_false, ev_var, kVar_fz, kVar_ow, ev_op, kOp_ev, ev_opB, kOpB_ev, ev_un, ev_chain, kCh_ev, ev_bd, ev_test, asB_b, ev_and, kAnd_t, kAnd_f, ev_or, kOr_t, kOr_f, ev_not, ev_andV, kAndV_t, kAndV_f, ev_orV, kOrV_t, kOrV_f, ev_notV, ev_nil, ev_cons, kCons_ev, ev_tup, ev_lst, ev_cb, ev_ret, ev_retN, ev_drop, ev_never, ev_asg, ev_setF, ev_gN, ev_callf, back_ok, ev_ixP, kIxP_ev, kIxP2_ev, ev_setIx, kSetIx_ev, kSetIx1_ev, ev_callP, kCallP_ev, kCallP2_ev, back1_ok, ev_pop, kOwn_ev, ev_app, ev_ext, ev_lenP, ev_eqP, kEqP_ev, kEqP2_ev, ev_inP, ev_nilO, ev_consF, ev_consO, kConsF_ev, kConsO_ev, ev_par, ev_for, ev_part, kPart_ev, ev_sl, kSl_ev, kSl2_ev, ev_m1, kM1_ev, ev_idx, kIdx_ev, ev_itL, ev_itT, ev_enL, ev_enT, ev_enQ, ev_fld, ev_prop, ev_inO, kInO_ev, kInO2_ev, ev_lenO, kLenO_ev, ev_setA, ev_make, ev_callN,
  List.getElem?_cons_zero, List.getElem?_cons_succ, List.set_cons_zero, List.set_cons_succ, List.append_nil, List.nil_append, List.cons_append, List.length_cons, List.length_nil, if_true, if_false, Nat.reduceAdd, Nat.reduceEqDiff, Nat.zero_add, peek, ownD, ownL, putO, DL.putAll, Option.map_some, Option.bind_some, asDat, asL, asT, as1, asQ, seqD, decide_true, env0, env1, List.map_cons, List.map_nil, List.replicate, Nat.reduceSub, reduceCtorEq, reduceIte, iLt_ev, iLe_ev, iGt_ev, iGe_ev, iAdd_ev, iSub_ev, intF_i, intF_b, minF_ev, maxF_ev, absF_ev, lenF_l, lenF_t, lenF_sc, listF_l, listF_t, tupleF_t, boD_ev, ixF_l0, ixF_l1, ixF_l2, ixF_t0, ixF_t1, ixF_t2, mkTup_0, mkLst_0, mkTup_1, mkLst_1, mkTup_2, mkLst_2, mkTup_3, mkLst_3, mkTup_4, mkLst_4, mkTup_5, mkLst_5, slL_ev, slT_ev, slQ_l, slQ_t, revF_t, revF_l, gsNil_ev, gsCons_ev, out_ret, out_nx, outR_ret, outR_nx, noX_ok])
local macro_rules | `(tactic| walk_at "eva") => `(tactic| simp -implicitDefEqProofs only [and_self, bind_err, ev_raise, back_err, outR_err, ev_toldM, kTold_ok, kTold_err, ev_meth, kMeth_ev, kMeth2_ev, ev_eqO, kEqO_ev, kEqO2_ev, ev_errV, ev_dnew, bind_ok, bind_stuck, ev_ok, ev_of, ev_seq, kSeq_nx, kSeq_ret, kSeq_bk, kSeq_ct, ev_nx, ev_if, kIf_true, kIf_false, ev_var, kVar_fz, kVar_ow, ev_op, kOp_ev, ev_opB, kOpB_ev, ev_un, ev_chain, kCh_ev, ev_bd, ev_test, asB_b, ev_and, kAnd_t, kAnd_f, ev_or, kOr_t, kOr_f, ev_not, ev_andV, kAndV_t, kAndV_f, ev_orV, kOrV_t, kOrV_f, ev_notV, ev_nil, ev_cons, kCons_ev, ev_tup, ev_lst, ev_cb, ev_ret, ev_retN, ev_drop, ev_never, ev_asg, ev_setF, ev_gN, ev_callf, back_ok, ev_ixP, kIxP_ev, kIxP2_ev, ev_setIx, kSetIx_ev, kSetIx1_ev, ev_callP, kCallP_ev, kCallP2_ev, back1_ok, ev_pop, kOwn_ev, ev_app, ev_ext, ev_lenP, ev_eqP, kEqP_ev, kEqP2_ev, ev_inP, ev_nilO, ev_consF, ev_consO, kConsF_ev, kConsO_ev, ev_par, ev_for, ev_part, kPart_ev, ev_sl, kSl_ev, kSl2_ev, ev_m1, kM1_ev, ev_idx, kIdx_ev, ev_itL, ev_itT, ev_enL, ev_enT, ev_enQ, ev_fld, ev_prop, ev_inO, kInO_ev, kInO2_ev, ev_lenO, kLenO_ev, ev_setA, ev_make, ev_callN,
  List.getElem?_cons_zero, List.getElem?_cons_succ, List.set_cons_zero, List.set_cons_succ, List.append_nil, List.nil_append, List.cons_append, List.length_cons, List.length_nil, if_true, if_false, Nat.reduceAdd, Nat.reduceEqDiff, Nat.zero_add, peek, ownD, ownL, putO, DL.putAll, Option.map_some, Option.bind_some, asDat, asL, asT, as1, asQ, seqD, decide_true, env0, env1, List.map_cons, List.map_nil, List.replicate, Nat.reduceSub, reduceCtorEq, reduceIte, iLt_ev, iLe_ev, iGt_ev, iGe_ev, iAdd_ev, iSub_ev, intF_i, intF_b, minF_ev, maxF_ev, absF_ev, lenF_l, lenF_t, lenF_sc, listF_l, listF_t, tupleF_t, boD_ev, ixF_l0, ixF_l1, ixF_l2, ixF_t0, ixF_t1, ixF_t2, mkTup_0, mkLst_0, mkTup_1, mkLst_1, mkTup_2, mkLst_2, mkTup_3, mkLst_3, mkTup_4, mkLst_4, mkTup_5, mkLst_5, slL_ev, slT_ev, slQ_l, slQ_t, revF_t, revF_l, gsNil_ev, gsCons_ev, out_ret, out_nx, outR_ret, outR_nx, noX_ok, Bool.not_true, Bool.not_false, Bool.false_xor, Bool.true_xor, gT2_dat, gT3_dat, gT2_wk, gL3_dat, *])

namespace Q
open DL TL
/-! ### a line of people, any words -/
def peopleW : List Str → Option (List Str)
  | [] => none
  | w :: ns => if w = "people" ∧ 0 < ns.length ∧ ns.length ≤ 9 ∧ ns.all nameB = true ∧ unlikeB ns = true then some ns else none
def pplD : Option (List Str) → D
  | none => .dat .none
  | some ns => dT (ns.map .str)
theorem allNames_ev {s0 s1 : SV} {ns : List Str} (h : ∀ w ∈ ns, Wrd w) (hl : ns.length ≤ 30) : (mLc [3] (mItL (mVar 2)) (gN 3) mYes (mCall 1 f_is_name [] (mCons (mVar 3) mNil))) [s0, s1, .fz (dL (ns.map .str)), .no] = .ok (dL (ns.map fun n => .bool (nameB n))) [s0, s1, .fz (dL (ns.map .str)), .no] := by
  refine ev_lcA (enc := fun n => dS n) (h := fun n => .bool (nameB n)) (xs := ns) (δ1 := [s0, s1, .fz (dL (ns.map .str)), .no]) (congrArg (fun z => Res.ok z _) dats_map) (le_most (by omega)) rfl rfl fun n hn => ⟨[s0, s1, .fz (dL (ns.map .str)), .fz (dS n)], [s0, s1, .fz (dL (ns.map .str)), .fz (dS n)], rfl, ?_, rfl⟩
  have e := nameW_ev (h n hn).so (Nat.le_trans (h n hn).le (by decide))
  generalize f_is_name = G at e ⊢
  generalize dL (ns.map .str) = z
  generalize nameB n = b at e ⊢
  walk_at "eva"
theorem peopleW_ev {ws : List Str} (h0 : ws ≠ []) (h : ∀ w ∈ ws, Wrd w) (hl : ws.length ≤ 30) : f_people_in [dS (lineS ws)] = .ok (pplD (peopleW ws)) := by
  cases ws with
  | nil => exact absurd rfl h0
  | cons w ns =>
  have hns : ∀ x ∈ ns, Wrd x := fun x hx => h x (.tail _ hx)
  have hl' : ns.length + 1 ≤ 30 := hl
  have es : splitF (dS (lineS (w :: ns))) (dS " ") = some (dL ((w :: ns).map .str)) := by
    rw [splitF_ev rfl (Nat.le_trans (lineW_len h hl) (by decide)), splitW_line h0 h]
  have u := unlike_strs (x := dL (ns.map .str)) (.inl rfl) (by omega) fun y hy => (hns y hy).so
  have c1 := fun s0 s1 : SV => allNames_ev (s0 := s0) (s1 := s1) hns (by omega)
  have c2 : allF [dL (ns.map fun n => .bool (nameB n))] = some (dB (ns.all nameB)) := allF_map (f := nameB)
  have i0 : ixF (dL ((w :: ns).map .str)) (dI 0) = some (dS w) := ixF_list (i := 0) rfl
  have q1 := neB_str (h w (.head _)).so (show SOk "people" from clean_people.so)
  have l1 : lenF [dL (ns.map .str)] = some (dI (ns.length : Nat)) := by rw [lenF_l, List.length_map]
  have g1 : iLt (dI 0) (dI (ns.length : Nat)) = some (decide (0 < ns.length)) := by
    rw [iLt_ev]
    congr 1
    exact decide_eq_decide.mpr (by omega)
  have g2 : iLe (dI (ns.length : Nat)) (dI 9) = some (decide (ns.length ≤ 9)) := by
    rw [iLe_ev]
    congr 1
    exact decide_eq_decide.mpr (by omega)
  have tf : tupleF [dL (ns.map .str)] = some (dT (ns.map .str)) := tupleF_l (l := ns.map .str) (by rw [List.length_map]; exact le_most (by omega))
  have sl : slL (dL ((w :: ns).map .str)) (some 1) none = some (dL (ns.map .str)) := by
    rw [slL_ev, show (1 : Int) = ((1 : Nat) : Int) from rfl, cutD_from]
    rfl
  have fin : pplD (peopleW (w :: ns)) = if decide (w = "people") = true then (if decide (0 < ns.length) = true then (if decide (ns.length ≤ 9) = true then (if ns.all nameB = true then (if unlikeB ns = true then dT (ns.map .str) else .dat .none) else .dat .none) else .dat .none) else .dat .none) else .dat .none := by
    unfold peopleW
    by_cases k1 : w = "people" <;> by_cases k2 : 0 < ns.length <;> by_cases k3 : ns.length ≤ 9 <;> by_cases k4 : ns.all nameB = true <;> by_cases k5 : unlikeB ns = true <;> simp [k1, k2, k3, k4, k5, pplD]
  rw [fin]
  clear fin h hns hl hl' h0
  unfold f_people_in m_people_in
  rw [show env0 4 [dS (lineS (w :: ns))] = [.fz (dS (lineS (w :: ns))), .no, .no, .no] from rfl]
  generalize (mLc [3] (mItL (mVar 2)) (gN 3) mYes (mCall 1 f_is_name [] (mCons (mVar 3) mNil))) = G at c1 ⊢
  generalize f_are_unlike = G2 at u ⊢
  generalize dL (ns.map fun n => .bool (nameB n)) = y1 at c1 c2
  generalize dT (ns.map .str) = y2 at tf ⊢
  generalize dL (ns.map .str) = y3 at u c1 l1 tf sl
  generalize dL ((w :: ns).map .str) = y4 at es i0 sl
  generalize lineS (w :: ns) = y5 at es ⊢
  generalize dS w = y6 at i0 q1
  generalize dI (ns.length : Nat) = y7 at l1 g1 g2
  generalize decide (w = "people") = b1 at q1 ⊢
  generalize decide (0 < ns.length) = b2 at g1 ⊢
  generalize decide (ns.length ≤ 9) = b3 at g2 ⊢
  generalize ns.all nameB = b4 at c2 ⊢
  generalize unlikeB ns = b5 at u ⊢
  cases b1 <;> cases b2 <;> cases b3 <;> cases b4 <;> cases b5 <;> walk_at "eva"
/-! ### words of people -/
def someW (people ns : List Str) : Bool := decide (2 ≤ ns.length) && (ns.all (fun n => decide (n ∈ people)) && unlikeB ns)
theorem someW_ev {w : Str} {ns people : List Str} (h : ∀ x ∈ ns, Wrd x) (hl : ns.length ≤ 30) (so : ∀ n ∈ people, SOk n) : f_some_in [dL ((w :: ns).map .str), dT (people.map .str)] = .ok (dB (someW people ns)) := by
  have u := unlike_strs (x := dL (ns.map .str)) (.inl rfl) (by omega) fun y hy => (h y hy).so
  have c1 : (mLc [3] (mItL (mVar 2)) (gN 3) mYes (mOp (fun x y => boD ((inB false) x y)) (mVar 3) (mVar 1))) [.fz (dL ((w :: ns).map .str)), .fz (dT (people.map .str)), .fz (dL (ns.map .str)), .no] = .ok (dL (ns.map fun n => .bool (decide (n ∈ people)))) [.fz (dL ((w :: ns).map .str)), .fz (dT (people.map .str)), .fz (dL (ns.map .str)), .no] := by
    refine ev_lcA (enc := fun n => dS n) (h := fun n => .bool (decide (n ∈ people))) (xs := ns) (δ1 := [.fz (dL ((w :: ns).map .str)), .fz (dT (people.map .str)), .fz (dL (ns.map .str)), .no]) (congrArg (fun z => Res.ok z _) dats_map) (le_most (by omega)) rfl rfl fun n hn => ⟨[.fz (dL ((w :: ns).map .str)), .fz (dT (people.map .str)), .fz (dL (ns.map .str)), .fz (dS n)], [.fz (dL ((w :: ns).map .str)), .fz (dT (people.map .str)), .fz (dL (ns.map .str)), .fz (dS n)], rfl, ?_, rfl⟩
    have e := inB_t (neg := false) (shaped_str (h n hn).so) (shaped_strsT so)
    rw [any_strs, Bool.false_xor] at e
    generalize dL ((w :: ns).map .str) = z
    generalize dL (ns.map .str) = z2
    replace e : inB false (dS n) (dT (people.map .str)) = some (decide (n ∈ people)) := e
    generalize dT (people.map .str) = z3 at e ⊢
    generalize dS n = x at e ⊢
    generalize decide (n ∈ people) = b at e ⊢
    walk_at "eva"
  have c2 : allF [dL (ns.map fun n => .bool (decide (n ∈ people)))] = some (dB (ns.all fun n => decide (n ∈ people))) := allF_map (f := fun n => decide (n ∈ people))
  have l1 : lenF [dL (ns.map .str)] = some (dI (ns.length : Nat)) := by rw [lenF_l, List.length_map]
  have g1 : iGe (dI (ns.length : Nat)) (dI 2) = some (decide (2 ≤ ns.length)) := by
    rw [iGe_ev]
    congr 1
    exact decide_eq_decide.mpr (by omega)
  have sl : slL (dL ((w :: ns).map .str)) (some 1) none = some (dL (ns.map .str)) := by
    rw [slL_ev, show (1 : Int) = ((1 : Nat) : Int) from rfl, cutD_from]
    rfl
  clear h hl so
  unfold f_some_in m_some_in someW
  rw [show env0 4 [dL ((w :: ns).map .str), dT (people.map .str)] = [.fz (dL ((w :: ns).map .str)), .fz (dT (people.map .str)), .no, .no] from rfl]
  generalize (mLc [3] (mItL (mVar 2)) (gN 3) mYes (mOp (fun x y => boD ((inB false) x y)) (mVar 3) (mVar 1))) = G at c1 ⊢
  generalize f_are_unlike = G2 at u ⊢
  generalize dL (ns.map fun n => .bool (decide (n ∈ people))) = y1 at c1 c2
  generalize dL (ns.map .str) = y3 at u c1 l1 sl
  generalize dL ((w :: ns).map .str) = y4 at c1 sl ⊢
  generalize dT (people.map .str) = y5 at c1 ⊢
  generalize dI (ns.length : Nat) = y7 at l1 g1
  generalize decide (2 ≤ ns.length) = b1 at g1 ⊢
  generalize (ns.all fun n => decide (n ∈ people)) = b2 at c2 ⊢
  generalize unlikeB ns = b3 at u ⊢
  cases b1 <;> cases b2 <;> cases b3 <;> walk_at "eva" <;> rfl
end Q

open PySem PySem.Spec PyProof.Rows L2 MT DL
local macro_rules | `(tactic| walk_at "ev") => `(tactic| simp -implicitDefEqProofs only [and_self, bind_err, ev_raise, back_err, outR_err, ev_toldM, kTold_ok, kTold_err, ev_meth, kMeth_ev, kMeth2_ev, ev_eqO, kEqO_ev, kEqO2_ev, ev_errV, ev_dnew, bind_ok, bind_stuck, ev_ok, ev_of, ev_seq, kSeq_nx, kSeq_ret, kSeq_bk, kSeq_ct, ev_nx, ev_if, kIf_true, kIf_false, ev_var, kVar_fz, kVar_ow, ev_op, kOp_ev, ev_opB, kOpB_ev, ev_un, ev_chain, kCh_ev, ev_bd, ev_test, asB_b, ev_and, kAnd_t, kAnd_f, ev_or, kOr_t, kOr_f, ev_not, ev_andV, kAndV_t, kAndV_f, ev_orV, kOrV_t, kOrV_f, ev_notV, ev_nil, ev_cons, kCons_ev, ev_tup, ev_lst, ev_cb, ev_ret, ev_retN, ev_drop, ev_never, ev_asg, ev_setF, ev_gN, ev_callf, back_ok, ev_ixP, kIxP_ev, kIxP2_ev, ev_setIx, kSetIx_ev, kSetIx1_ev, ev_callP, kCallP_ev, kCallP2_ev, back1_ok, ev_pop, kOwn_ev, ev_app, ev_ext, ev_lenP, ev_eqP, kEqP_ev, kEqP2_ev, ev_inP, ev_nilO, ev_consF, ev_consO, kConsF_ev, kConsO_ev, ev_par, ev_for, ev_part, kPart_ev, ev_sl, kSl_ev, kSl2_ev, ev_m1, kM1_ev, ev_idx, kIdx_ev, ev_itL, ev_itT, ev_enL, ev_enT, ev_enQ, ev_fld, ev_prop, ev_inO, kInO_ev, kInO2_ev, ev_lenO, kLenO_ev, ev_setA, ev_make, ev_callN,
  List.getElem?_cons_zero, List.getElem?_cons_succ, List.set_cons_zero, List.set_cons_succ, List.append_nil, List.nil_append, List.cons_append, List.length_cons, List.length_nil, if_true, if_false, Nat.reduceAdd, Nat.reduceEqDiff, Nat.zero_add, peek, ownD, ownL, putO, DL.putAll, Option.map_some, Option.bind_some, asDat, asL, asT, as1, asQ, seqD, decide_true, env0, env1, List.map_cons, List.map_nil, List.replicate, Nat.reduceSub, reduceCtorEq, reduceIte, iLt_ev, iLe_ev, iGt_ev, iGe_ev, iAdd_ev, iSub_ev, intF_i, intF_b, minF_ev, maxF_ev, absF_ev, lenF_l, lenF_t, lenF_sc, listF_l, listF_t, tupleF_t, boD_ev, ixF_l0, ixF_l1, ixF_l2, ixF_t0, ixF_t1, ixF_t2, mkTup_0, mkLst_0, mkTup_1, mkLst_1, mkTup_2, mkLst_2, mkTup_3, mkLst_3, mkTup_4, mkLst_4, mkTup_5, mkLst_5, slL_ev, slT_ev, slQ_l, slQ_t, revF_t, revF_l, gsNil_ev, gsCons_ev, out_ret, out_nx, outR_ret, outR_nx, noX_ok])
local macro_rules | `(tactic| walk_at "eva") => `(tactic| simp -implicitDefEqProofs only [and_self, bind_err, ev_raise, back_err, outR_err, ev_toldM, kTold_ok, kTold_err, ev_meth, kMeth_ev, kMeth2_ev, ev_eqO, kEqO_ev, kEqO2_ev, ev_errV, ev_dnew, bind_ok, bind_stuck, ev_ok, ev_of, ev_seq, kSeq_nx, kSeq_ret, kSeq_bk, kSeq_ct, ev_nx, ev_if, kIf_true, kIf_false, ev_var, kVar_fz, kVar_ow, ev_op, kOp_ev, ev_opB, kOpB_ev, ev_un, ev_chain, kCh_ev, ev_bd, ev_test, asB_b, ev_and, kAnd_t, kAnd_f, ev_or, kOr_t, kOr_f, ev_not, ev_andV, kAndV_t, kAndV_f, ev_orV, kOrV_t, kOrV_f, ev_notV, ev_nil, ev_cons, kCons_ev, ev_tup, ev_lst, ev_cb, ev_ret, ev_retN, ev_drop, ev_never, ev_asg, ev_setF, ev_gN, ev_callf, back_ok, ev_ixP, kIxP_ev, kIxP2_ev, ev_setIx, kSetIx_ev, kSetIx1_ev, ev_callP, kCallP_ev, kCallP2_ev, back1_ok, ev_pop, kOwn_ev, ev_app, ev_ext, ev_lenP, ev_eqP, kEqP_ev, kEqP2_ev, ev_inP, ev_nilO, ev_consF, ev_consO, kConsF_ev, kConsO_ev, ev_par, ev_for, ev_part, kPart_ev, ev_sl, kSl_ev, kSl2_ev, ev_m1, kM1_ev, ev_idx, kIdx_ev, ev_itL, ev_itT, ev_enL, ev_enT, ev_enQ, ev_fld, ev_prop, ev_inO, kInO_ev, kInO2_ev, ev_lenO, kLenO_ev, ev_setA, ev_make, ev_callN,
  List.getElem?_cons_zero, List.getElem?_cons_succ, List.set_cons_zero, List.set_cons_succ, List.append_nil, List.nil_append, List.cons_append, List.length_cons, List.length_nil, if_true, if_false, Nat.reduceAdd, Nat.reduceEqDiff, Nat.zero_add, peek, ownD, ownL, putO, DL.putAll, Option.map_some, Option.bind_some, asDat, asL, asT, as1, asQ, seqD, decide_true, env0, env1, List.map_cons, List.map_nil, List.replicate, Nat.reduceSub, reduceCtorEq, reduceIte, iLt_ev, iLe_ev, iGt_ev, iGe_ev, iAdd_ev, iSub_ev, intF_i, intF_b, minF_ev, maxF_ev, absF_ev, lenF_l, lenF_t, lenF_sc, listF_l, listF_t, tupleF_t, boD_ev, ixF_l0, ixF_l1, ixF_l2, ixF_t0, ixF_t1, ixF_t2, mkTup_0, mkLst_0, mkTup_1, mkLst_1, mkTup_2, mkLst_2, mkTup_3, mkLst_3, mkTup_4, mkLst_4, mkTup_5, mkLst_5, slL_ev, slT_ev, slQ_l, slQ_t, revF_t, revF_l, gsNil_ev, gsCons_ev, out_ret, out_nx, outR_ret, outR_nx, noX_ok, Bool.not_true, Bool.not_false, Bool.false_xor, Bool.true_xor, gT2_dat, gT3_dat, gT2_wk, gL3_dat, *])

namespace Q
open DL TL
/-! ### a line is taken, any words -/
theorem unlikeB_nd {ys : List Str} (h : unlikeB ys = true) : ys.Nodup := by
  rw [List.nodup_iff_pairwise_ne, List.pairwise_iff_getElem]
  intro i j hi hj hij e
  have hq : (ys[j], j) ∈ ys.zipIdx := List.mem_zipIdx_iff_getElem?.mpr (List.getElem?_eq_getElem hj)
  have := List.all_eq_true.mp h _ hq
  have hm : ys[j] ∈ ys.take j := by
    rw [← e]
    exact List.mem_take_iff_getElem.mpr ⟨i, by omega, rfl⟩
  simp [hm] at this
theorem someW_of {people ns : List Str} (h : someW people ns = true) : 2 ≤ ns.length ∧ (∀ n ∈ ns, n ∈ people) ∧ ns.Nodup := by
  unfold someW at h
  simp only [Bool.and_eq_true, decide_eq_true_eq, List.all_eq_true] at h
  exact ⟨h.1, h.2.1, unlikeB_nd h.2.2⟩
abbrev MO := List (List Str) × List (Str × Str)
def takeW (people : List Str) (mo : MO) : List Str → Option MO
  | [] => none
  | w :: ns => if someW people ns = false then none
    else if w = "met" ∧ mo.2 = [] ∧ mo.1.length < 20 then some (mo.1 ++ [ns], mo.2)
    else if w ≠ "open" ∨ ns.length ≠ 2 ∨ mo.2.length = 4 then none
    else match ns with
      | [a, b] => if (told mo.1 mo.2 a b).isSome = true then none else some (mo.1, mo.2 ++ [(a, b)])
      | _ => none
theorem takeW_cons {people : List Str} {mets : List (List Str)} {opens : List (Str × Str)} {w : Str} {ns : List Str} : takeW people (mets, opens) (w :: ns) = if someW people ns = false then none
    else if w = "met" ∧ opens = [] ∧ mets.length < 20 then some (mets ++ [ns], opens)
    else if w ≠ "open" ∨ ns.length ≠ 2 ∨ opens.length = 4 then none
    else match ns with
      | [a, b] => if (told mets opens a b).isSome = true then none else some (mets, opens ++ [(a, b)])
      | _ => none := rfl
structure MOk (people : List Str) (mo : MO) (st : RSt) : Prop where
  ok : StOk people mo.1 mo.2 st
  ml : mo.1.length ≤ 20
  ol : mo.2.length ≤ 4
  qo : ∀ q ∈ mo.2, SOk q.1 ∧ SOk q.2
theorem someB_W {w : Str} {ns people : List Str} (h : ∀ x ∈ ns, Wrd x) (hl : ns.length ≤ 30) (so : ∀ n ∈ people, SOk n) : someB (w :: ns) people = some (someW people ns) := by
  unfold someB strsD
  rw [someW_ev h hl so]
  rfl
theorem takeW_ev {people : List Str} {mo : MO} {st : RSt} {ws : List Str} (h : MOk people mo st) (cl : ∀ n ∈ people, Clean n) (l9 : people.length ≤ 9) (h0 : ws ≠ []) (hw : ∀ w ∈ ws, Wrd w) (hl : ws.length ≤ 30) :
    (takeW people mo ws = none ∧ takeM people st (lineS ws) = some (false, st)) ∨ ∃ mo' st', takeW people mo ws = some mo' ∧ takeM people st (lineS ws) = some (true, st') ∧ MOk people mo' st' := by
  obtain ⟨mets, opens⟩ := mo
  obtain ⟨ok, ml, ol, qo⟩ := h
  dsimp only at ok ml ol qo
  cases ws with
  | nil => exact absurd rfl h0
  | cons w ns =>
  have hns : ∀ x ∈ ns, Wrd x := fun x hx => hw x (.tail _ hx)
  have hl' : ns.length + 1 ≤ 30 := hl
  have ll := lineW_len hw hl
  have es : Txt.split (lineS (w :: ns)) blank = w :: ns := splitW_line h0 hw
  have pl := ok.pl
  have op := ok.op
  have guard : (lineS (w :: ns)).length + 2 ≤ most ∧ (Txt.split (lineS (w :: ns)) blank).length ≤ 30 ∧ st.pairs.length + 2000 ≤ most ∧ st.opens.length ≤ 30 ∧ SeqAt.shaped (.list (st.opens.map pairD)) = true :=
    ⟨le_most (by omega), by rw [es]; exact hl, le_most (by omega), by rw [op]; omega, by rw [op]; exact opens_sh qo⟩
  have sb := someB_W (w := w) hns (by omega) (people := people) fun n hn => (cl n hn).so
  have no : ∀ P : Prop, takeM people st (lineS (w :: ns)) = some (false, st) → takeW people (mets, opens) (w :: ns) = none → (takeW people (mets, opens) (w :: ns) = none ∧ takeM people st (lineS (w :: ns)) = some (false, st)) ∨ P := fun P a b => .inl ⟨b, a⟩
  cases hs : someW people ns with
  | false =>
    refine no _ ?_ (by rw [takeW_cons, if_pos hs])
    unfold takeM
    rw [if_pos guard, es, sb, hs]
    rfl
  | true =>
  obtain ⟨n2, nm, nd⟩ := someW_of hs
  have hs' : ¬ someW people ns = false := by rw [hs]; simp
  by_cases hc : w = "met" ∧ opens = [] ∧ mets.length < 20
  · obtain ⟨rfl, rfl, c3⟩ := hc
    obtain ⟨st', e1, k1⟩ := take_met ok cl l9 nd n2 nm c3
    refine .inr ⟨(mets ++ [ns], []), st', ?_, e1, k1, by simp; omega, by simp, fun q hq => by cases hq⟩
    rw [takeW_cons, if_neg hs', if_pos ⟨rfl, rfl, c3⟩]
  · have hcM : ¬ (w = "met" ∧ st.opens = [] ∧ st.lines < 20) := by rw [op, ok.ln]; exact hc
    by_cases hd : w ≠ "open" ∨ ns.length ≠ 2 ∨ opens.length = 4
    · refine no _ ?_ (by rw [takeW_cons, if_neg hs', if_neg hc, if_pos hd])
      unfold takeM
      rw [if_pos guard, es, sb, hs]
      simp only [Option.bind_some]
      rw [if_neg (by simp), if_neg hcM, if_pos (by rw [op]; exact hd)]
    · have d1 : w = "open" := Classical.byContradiction fun z => hd (.inl z)
      have d2 : ns.length = 2 := Classical.byContradiction fun z => hd (.inr (.inl z))
      have d3 : ¬ opens.length = 4 := fun z => hd (.inr (.inr z))
      subst d1
      obtain ⟨a, b, rfl⟩ : ∃ a b, ns = [a, b] := by
        match ns, d2 with
        | [a, b], _ => exact ⟨a, b, rfl⟩
      have ne : a ≠ b := by simpa using nd
      cases ht : told mets opens a b with
      | some v =>
        refine no _ ?_ (by rw [takeW_cons, if_neg hs', if_neg hc, if_neg hd]; simp [ht])
        unfold takeM
        rw [if_pos guard, es, sb, hs]
        simp only [Option.bind_some]
        rw [if_neg (by simp), if_neg hcM, if_neg (by rw [op]; exact hd)]
        rw [ok.lk a b ne, ht]
        rfl
      | none =>
        obtain ⟨st', e1, k1⟩ := take_open (q := (a, b)) ok cl l9 ml (by omega) qo (nm a (by simp)) (nm b (by simp)) ne ht
        refine .inr ⟨(mets, opens ++ [(a, b)]), st', ?_, e1, k1, ml, by simp; omega, fun q hq => ?_⟩
        · rw [takeW_cons, if_neg hs', if_neg hc, if_neg hd]
          simp [ht]
        · rcases List.mem_append.mp hq with hq | hq
          · exact qo q hq
          · rw [List.mem_singleton.mp hq]
            exact ⟨(hns a (by simp)).so, (hns b (by simp)).so⟩
/-! ### the lines, read -/
def readW (people : List Str) : List (List Str) → Nat → MO → Nat ⊕ MO
  | [], _, mo => .inr mo
  | ws :: rs, n, mo => match takeW people mo ws with
    | none => .inl n
    | some mo' => readW people rs (n + 1) mo'
theorem readW_ev {people : List Str} (cl : ∀ n ∈ people, Clean n) (l9 : people.length ≤ 9) : ∀ {rows : List (List Str)} {n : Nat} {mo : MO} {st : RSt}, MOk people mo st → (∀ ws ∈ rows, ws ≠ [] ∧ (∀ w ∈ ws, Wrd w) ∧ ws.length ≤ 30) →
    (∃ k, readW people rows n mo = .inl k ∧ foldX people (rows.map lineS) n st = some (.inl k)) ∨ ∃ mo' st', readW people rows n mo = .inr mo' ∧ foldX people (rows.map lineS) n st = some (.inr st') ∧ MOk people mo' st'
  | [], n, mo, st, h, _ => .inr ⟨mo, st, rfl, rfl, h⟩
  | ws :: rows, n, mo, st, h, hr => by
    obtain ⟨h0, hw, hl⟩ := hr ws (.head _)
    rcases takeW_ev h cl l9 h0 hw hl with ⟨e1, e2⟩ | ⟨mo', st', e1, e2, k⟩
    · refine .inl ⟨n, by rw [readW, e1], ?_⟩
      show (takeM people st (lineS ws)).bind _ = _
      rw [e2]
      rfl
    · rcases readW_ev cl l9 (rows := rows) (n := n + 1) k (fun x hx => hr x (.tail _ hx)) with ⟨j, f1, f2⟩ | ⟨mo2, st2, f1, f2, k2⟩
      · refine .inl ⟨j, by rw [readW, e1]; exact f1, ?_⟩
        show (takeM people st (lineS ws)).bind _ = _
        rw [e2]
        exact f2
      · refine .inr ⟨mo2, st2, by rw [readW, e1]; exact f1, ?_, k2⟩
        show (takeM people st (lineS ws)).bind _ = _
        rw [e2]
        exact f2
def vEnd (p : List Str) : Nat ⊕ MO → Nat ⊕ (List Str × MO)
  | .inl n => .inl n
  | .inr mo => .inr (p, mo)
def vTop (rs : List (List Str)) : Option (List Str) → Nat ⊕ (List Str × MO)
  | none => .inl 1
  | some p => vEnd p (readW p rs 2 ([], []))
def verdictW : List (List Str) → Nat ⊕ (List Str × MO)
  | [] => .inl 1
  | r :: rs => vTop rs (peopleW r)
theorem verdict_none {r : List Str} {rs : List (List Str)} (h : peopleW r = none) : verdictW (r :: rs) = .inl 1 := by
  show vTop rs (peopleW r) = _
  rw [h]; rfl
theorem verdict_some {r p : List Str} {rs : List (List Str)} (h : peopleW r = some p) : verdictW (r :: rs) = vEnd p (readW p rs 2 ([], [])) := by
  show vTop rs (peopleW r) = _
  rw [h]; rfl
theorem peopleW_of {r p : List Str} (h : peopleW r = some p) : r = ("people" : Str) :: p ∧ 0 < p.length ∧ p.length ≤ 9 ∧ p.all nameB = true ∧ p.Nodup := by
  unfold peopleW at h
  split at h
  · cases h
  · split at h
    · rename_i hc
      cases h
      exact ⟨by rw [hc.1], hc.2.1, hc.2.2.1, hc.2.2.2.1, unlikeB_nd hc.2.2.2.2⟩
    · cases h
theorem clean_name {s : Str} (h : Wrd s) (n : nameB s = true) : Clean s := by
  unfold nameB at n
  simp only [Bool.and_eq_true, decide_eq_true_eq] at n
  exact ⟨h.bl, h.fe, h.so, n.1⟩
end Q

open PySem PySem.Spec PyProof.Rows L2 MT DL
local macro_rules | `(tactic| walk_at "ev") => `(tactic| simp -implicitDefEqProofs only [and_self, bind_err, ev_raise, back_err, outR_err, ev_toldM, kTold_ok, kTold_err, ev_meth, kMeth_ev, kMeth2_ev, ev_eqO, kEqO_ev, kEqO2_ev, ev_errV, ev_dnew, bind_ok, bind_stuck, ev_ok, ev_of, ev_seq, kSeq_nx, kSeq_ret, kSeq_bk, kSeq_ct, ev_nx, ev_if, kIf_true, kIf_false, ev_var, kVar_fz, kVar_ow, ev_op, kOp_ev, ev_opB, kOpB_ev, ev_un, ev_chain, kCh_ev, ev_bd, ev_test, asB_b, ev_and, kAnd_t, kAnd_f, ev_or, kOr_t, kOr_f, ev_not, ev_andV, kAndV_t, kAndV_f, ev_orV, kOrV_t, kOrV_f, ev_notV, ev_nil, ev_cons, kCons_ev, ev_tup, ev_lst, ev_cb, ev_ret, ev_retN, ev_drop, ev_never, ev_asg, ev_setF, ev_gN, ev_callf, back_ok, ev_ixP, kIxP_ev, kIxP2_ev, ev_setIx, kSetIx_ev, kSetIx1_ev, ev_callP, kCallP_ev, kCallP2_ev, back1_ok, ev_pop, kOwn_ev, ev_app, ev_ext, ev_lenP, ev_eqP, kEqP_ev, kEqP2_ev, ev_inP, ev_nilO, ev_consF, ev_consO, kConsF_ev, kConsO_ev, ev_par, ev_for, ev_part, kPart_ev, ev_sl, kSl_ev, kSl2_ev, ev_m1, kM1_ev, ev_idx, kIdx_ev, ev_itL, ev_itT, ev_enL, ev_enT, ev_enQ, ev_fld, ev_prop, ev_inO, kInO_ev, kInO2_ev, ev_lenO, kLenO_ev, ev_setA, ev_make, ev_callN,
  List.getElem?_cons_zero, List.getElem?_cons_succ, List.set_cons_zero, List.set_cons_succ, List.append_nil, List.nil_append, List.cons_append, List.length_cons, List.length_nil, if_true, if_false, Nat.reduceAdd, Nat.reduceEqDiff, Nat.zero_add, peek, ownD, ownL, putO, DL.putAll, Option.map_some, Option.bind_some, asDat, asL, asT, as1, asQ, seqD, decide_true, env0, env1, List.map_cons, List.map_nil, List.replicate, Nat.reduceSub, reduceCtorEq, reduceIte, iLt_ev, iLe_ev, iGt_ev, iGe_ev, iAdd_ev, iSub_ev, intF_i, intF_b, minF_ev, maxF_ev, absF_ev, lenF_l, lenF_t, lenF_sc, listF_l, listF_t, tupleF_t, boD_ev, ixF_l0, ixF_l1, ixF_l2, ixF_t0, ixF_t1, ixF_t2, mkTup_0, mkLst_0, mkTup_1, mkLst_1, mkTup_2, mkLst_2, mkTup_3, mkLst_3, mkTup_4, mkLst_4, mkTup_5, mkLst_5, slL_ev, slT_ev, slQ_l, slQ_t, revF_t, revF_l, gsNil_ev, gsCons_ev, out_ret, out_nx, outR_ret, outR_nx, noX_ok])
local macro_rules | `(tactic| walk_at "eva") => `(tactic| simp -implicitDefEqProofs only [and_self, bind_err, ev_raise, back_err, outR_err, ev_toldM, kTold_ok, kTold_err, ev_meth, kMeth_ev, kMeth2_ev, ev_eqO, kEqO_ev, kEqO2_ev, ev_errV, ev_dnew, bind_ok, bind_stuck, ev_ok, ev_of, ev_seq, kSeq_nx, kSeq_ret, kSeq_bk, kSeq_ct, ev_nx, ev_if, kIf_true, kIf_false, ev_var, kVar_fz, kVar_ow, ev_op, kOp_ev, ev_opB, kOpB_ev, ev_un, ev_chain, kCh_ev, ev_bd, ev_test, asB_b, ev_and, kAnd_t, kAnd_f, ev_or, kOr_t, kOr_f, ev_not, ev_andV, kAndV_t, kAndV_f, ev_orV, kOrV_t, kOrV_f, ev_notV, ev_nil, ev_cons, kCons_ev, ev_tup, ev_lst, ev_cb, ev_ret, ev_retN, ev_drop, ev_never, ev_asg, ev_setF, ev_gN, ev_callf, back_ok, ev_ixP, kIxP_ev, kIxP2_ev, ev_setIx, kSetIx_ev, kSetIx1_ev, ev_callP, kCallP_ev, kCallP2_ev, back1_ok, ev_pop, kOwn_ev, ev_app, ev_ext, ev_lenP, ev_eqP, kEqP_ev, kEqP2_ev, ev_inP, ev_nilO, ev_consF, ev_consO, kConsF_ev, kConsO_ev, ev_par, ev_for, ev_part, kPart_ev, ev_sl, kSl_ev, kSl2_ev, ev_m1, kM1_ev, ev_idx, kIdx_ev, ev_itL, ev_itT, ev_enL, ev_enT, ev_enQ, ev_fld, ev_prop, ev_inO, kInO_ev, kInO2_ev, ev_lenO, kLenO_ev, ev_setA, ev_make, ev_callN,
  List.getElem?_cons_zero, List.getElem?_cons_succ, List.set_cons_zero, List.set_cons_succ, List.append_nil, List.nil_append, List.cons_append, List.length_cons, List.length_nil, if_true, if_false, Nat.reduceAdd, Nat.reduceEqDiff, Nat.zero_add, peek, ownD, ownL, putO, DL.putAll, Option.map_some, Option.bind_some, asDat, asL, asT, as1, asQ, seqD, decide_true, env0, env1, List.map_cons, List.map_nil, List.replicate, Nat.reduceSub, reduceCtorEq, reduceIte, iLt_ev, iLe_ev, iGt_ev, iGe_ev, iAdd_ev, iSub_ev, intF_i, intF_b, minF_ev, maxF_ev, absF_ev, lenF_l, lenF_t, lenF_sc, listF_l, listF_t, tupleF_t, boD_ev, ixF_l0, ixF_l1, ixF_l2, ixF_t0, ixF_t1, ixF_t2, mkTup_0, mkLst_0, mkTup_1, mkLst_1, mkTup_2, mkLst_2, mkTup_3, mkLst_3, mkTup_4, mkLst_4, mkTup_5, mkLst_5, slL_ev, slT_ev, slQ_l, slQ_t, revF_t, revF_l, gsNil_ev, gsCons_ev, out_ret, out_nx, outR_ret, outR_nx, noX_ok, Bool.not_true, Bool.not_false, Bool.false_xor, Bool.true_xor, gT2_dat, gT3_dat, gT2_wk, gL3_dat, *])

namespace Q
open DL TL
/-! ### read, any text -/
theorem isN_none : isN (.dat .none) (.dat .none) = some true := rfl
theorem isN_tup {l : List PyData} : isN (dT l) (.dat .none) = some false := rfl
def preR (x y : D) : Option (List Str) → Res Out
  | none => .err "BadHall" (dI 1) [.fz x, .fz y, .fz (.dat .none), .no, .no, .no]
  | some ns => .ok .nx [.fz x, .fz y, .fz (dT (ns.map .str)), .no, .no, .no]
theorem read_pre {text l0 : Str} {ls : List PyData} {p : Option (List Str)} (es : splitF (dS text) (dS "\n") = some (dL (.str l0 :: ls))) (ep : f_people_in [dS l0] = .ok (pplD p)) :
    m_read_pre (env0 6 [dS text]) = preR (dS text) (dL (.str l0 :: ls)) p := by
  have i0 : ixF (dL (.str l0 :: ls)) (dI 0) = some (dS l0) := ixF_l0
  have is := isi_str (s := text)
  unfold m_read_pre
  rw [show env0 6 [dS text] = [.fz (dS text), .no, .no, .no, .no, .no] from rfl]
  generalize dL (.str l0 :: ls) = y1 at es i0 ⊢
  generalize dS l0 = y2 at i0 ep
  generalize f_people_in = G at ep ⊢
  cases p with
  | none =>
    have n0 := isN_none
    replace ep : G [y2] = .ok (.dat .none) := ep
    unfold preR
    walk_at "eva"
  | some ns =>
    have n0 := isN_tup (l := ns.map .str)
    replace ep : G [y2] = .ok (dT (ns.map .str)) := ep
    show _ = Res.ok Out.nx [.fz (dS text), .fz y1, .fz (dT (ns.map .str)), .no, .no, .no]
    generalize dT (ns.map .str) = y4 at n0 ep ⊢
    walk_at "eva"
theorem readT_ev {rows : List (List Str)} (R : RowsW rows) (h0 : rows ≠ []) :
    (∃ n, verdictW rows = .inl n ∧ f_read [dS (textS rows)] = .err "BadHall" (dI (n : Nat))) ∨ ∃ p mo st, verdictW rows = .inr (p, mo) ∧ f_read [dS (textS rows)] = .ok (readObj p st) ∧ MOk p mo st := by
  cases rows with
  | nil => exact absurd rfl h0
  | cons r rs =>
  have tl := textW_len R
  have es := splitF_ev (a := textS (r :: rs)) (b := "\n") rfl (by omega)
  rw [splitW_text h0 fun ws hws => (R.w ws hws).2.1] at es
  obtain ⟨r0, rw_, rl⟩ := R.w r (.head _)
  have ep := peopleW_ev r0 rw_ rl
  have pre := read_pre (text := textS (r :: rs)) (l0 := lineS r) (ls := (rs.map lineS).map .str) es ep
  unfold f_read
  rw [pre]
  cases hp : peopleW r with
  | none => exact .inl ⟨1, verdict_none hp, rfl⟩
  | some p =>
  have hv := verdict_some (rs := rs) hp
  obtain ⟨rfl, p1, p9, pn, nd⟩ := peopleW_of hp
  have cl : ∀ n ∈ p, Clean n := fun n hn => clean_name (rw_ n (.tail _ hn)) (List.all_eq_true.mp pn n hn)
  have hl := R.l
  have post : ∀ x : Nat ⊕ RSt, foldX p (rs.map lineS) 2 st0 = some x → readPost [.fz (dS (textS (("people" :: p) :: rs))), .fz (dL (.str (lineS ("people" :: p)) :: (rs.map lineS).map .str)), .fz (dT (p.map .str)), .no, .no, .no] = fin p x := fun x hx => by
    have rt : readTail (.str (lineS ("people" :: p)) :: (rs.map lineS).map .str) (p.map .str) = some (p, x) := by
      unfold readTail
      rw [show (PyData.str (lineS ("people" :: p)) :: (rs.map lineS).map .str) = ((lineS ("people" :: p) :: rs.map lineS)).map .str from rfl, strsOf_map, strsOf_map]
      simp only [Option.bind_some]
      rw [if_pos (le_most (by rw [List.length_cons, List.length_map, ← List.length_cons (a := ("people" : Str) :: p)]; omega)), hx]
      rfl
    show (match readTail (.str (lineS ("people" :: p)) :: (rs.map lineS).map .str) (p.map .str) with | some (people, r) => fin people r | none => .stuck) = _
    rw [rt]
  rcases readW_ev cl p9 (rows := rs) (n := 2) (mo := ([], [])) (st := st0) ⟨⟨rfl, rfl, by simp [st0], fun x y _ => by simp [told, st0, lookS]⟩, by simp, by simp, fun q hq => by cases hq⟩ (fun ws hws => R.w ws (.tail _ hws)) with ⟨k, e1, e2⟩ | ⟨mo, st, e1, e2, k⟩
  · exact .inl ⟨k, by rw [hv, e1]; rfl, post _ e2⟩
  · exact .inr ⟨p, mo, st, by rw [hv, e1]; rfl, post _ e2, k⟩
theorem read_nostr {d : PyData} (h : isStrB d = false) : f_read [.dat d] = .err "BadHall" (dI 0) := by
  have is := isi_any (d := d)
  rw [h] at is
  have pre : m_read_pre (env0 6 [.dat d]) = .err "BadHall" (dI 0) [.fz (.dat d), .no, .no, .no, .no, .no] := by
    unfold m_read_pre
    rw [show env0 6 [.dat d] = [.fz (.dat d), .no, .no, .no, .no, .no] from rfl]
    clear h
    generalize D.dat d = y at is ⊢
    walk_at "eva"
  unfold f_read
  rw [pre]
/-! ### the hall of a text -/
def hallD (t a b c : D) : D := .obj "Hall" ["own_text", "own_people", "own_pairs", "own_opens"] [t, a, b, c]
theorem hall_errX {t : D} {c : Str} {d : D} (e : f_read [t] = .err c d) : f_Hall__init (.obj "Hall" [] []) [t] = .err c d := by
  unfold f_Hall__init sem1x m_Hall__init
  rw [show env1 3 (.obj "Hall" [] []) [t] = [.io (.obj "Hall" [] []), .fz t, .no] from rfl]
  generalize f_read = G at e ⊢
  have a : (mAsg (mCall 1 G [] (mCons (mVar 1) mNil)) (gN 2)) [.io (.obj "Hall" [] []), .fz t, .no] = .err c d [.io (.obj "Hall" [] []), .fz t, .no] := by
    walk_at "eva"
  rw [ev_seq, a]
  rfl
theorem hall_initX {t r a b : D} {os : List PyData} (ol : os.length ≤ 100) (e : f_read [t] = .ok r) (f1 : fld "Reading" "named_people" r = some a) (f2 : fld "Reading" "named_pairs" r = some b) (f3 : fld "Reading" "named_opens" r = some (dL os)) :
    f_Hall__init (.obj "Hall" [] []) [t] = .ok (.dat .none, hallD t a b (dT os)) := by
  unfold f_Hall__init sem1x m_Hall__init
  generalize f_read = G at e ⊢
  walk_at "ev"
  rw [e]
  walk_at "ev"
  rw [kSetA_ev rfl (by decide)]
  walk_at "ev"
  rw [f1]
  walk_at "ev"
  rw [kSetA_ev rfl (by decide)]
  walk_at "ev"
  rw [f2]
  walk_at "ev"
  rw [kSetA_ev rfl (by decide)]
  walk_at "ev"
  rw [f3]
  walk_at "ev"
  rw [tupleF_l (le_most (by omega))]
  walk_at "ev"
  rw [kSetA_ev rfl (by decide)]
  walk_at "ev"
  rfl
/-- the number of the first line that is wrong, 0 for a hall's text -/
def wrongW (rows : List (List Str)) : Nat := match verdictW rows with
  | .inl n => n
  | .inr _ => 0
theorem hallT_ev {rows : List (List Str)} (R : RowsW rows) (h0 : rows ≠ []) :
    (∃ n, verdictW rows = .inl n ∧ f_Hall__init (.obj "Hall" [] []) [dS (textS rows)] = .err "BadHall" (dI (n : Nat))) ∨ ∃ p mo a b c, verdictW rows = .inr (p, mo) ∧ f_Hall__init (.obj "Hall" [] []) [dS (textS rows)] = .ok (.dat .none, hallD (dS (textS rows)) a b c) := by
  rcases readT_ev R h0 with ⟨n, e1, e2⟩ | ⟨p, mo, st, e1, e2, k⟩
  · exact .inl ⟨n, e1, hall_errX e2⟩
  · refine .inr ⟨p, mo, dT (p.map .str), .dit (pairsD st.pairs), dT (st.opens.map pairD), e1, hall_initX (a := dT (p.map .str)) (b := .dit (pairsD st.pairs)) (os := st.opens.map pairD) ?_ e2 rfl rfl rfl⟩
    rw [List.length_map, k.ok.op]
    have := k.ol
    omega
end Q

open PySem PySem.Spec PyProof.Rows L2 MT DL
local macro_rules | `(tactic| walk_at "ev") => `(tactic| simp -implicitDefEqProofs only [and_self, bind_err, ev_raise, back_err, outR_err, ev_toldM, kTold_ok, kTold_err, ev_meth, kMeth_ev, kMeth2_ev, ev_eqO, kEqO_ev, kEqO2_ev, ev_errV, ev_dnew, bind_ok, bind_stuck, ev_ok, ev_of, ev_seq, kSeq_nx, kSeq_ret, kSeq_bk, kSeq_ct, ev_nx, ev_if, kIf_true, kIf_false, ev_var, kVar_fz, kVar_ow, ev_op, kOp_ev, ev_opB, kOpB_ev, ev_un, ev_chain, kCh_ev, ev_bd, ev_test, asB_b, ev_and, kAnd_t, kAnd_f, ev_or, kOr_t, kOr_f, ev_not, ev_andV, kAndV_t, kAndV_f, ev_orV, kOrV_t, kOrV_f, ev_notV, ev_nil, ev_cons, kCons_ev, ev_tup, ev_lst, ev_cb, ev_ret, ev_retN, ev_drop, ev_never, ev_asg, ev_setF, ev_gN, ev_callf, back_ok, ev_ixP, kIxP_ev, kIxP2_ev, ev_setIx, kSetIx_ev, kSetIx1_ev, ev_callP, kCallP_ev, kCallP2_ev, back1_ok, ev_pop, kOwn_ev, ev_app, ev_ext, ev_lenP, ev_eqP, kEqP_ev, kEqP2_ev, ev_inP, ev_nilO, ev_consF, ev_consO, kConsF_ev, kConsO_ev, ev_par, ev_for, ev_part, kPart_ev, ev_sl, kSl_ev, kSl2_ev, ev_m1, kM1_ev, ev_idx, kIdx_ev, ev_itL, ev_itT, ev_enL, ev_enT, ev_enQ, ev_fld, ev_prop, ev_inO, kInO_ev, kInO2_ev, ev_lenO, kLenO_ev, ev_setA, ev_make, ev_callN,
  List.getElem?_cons_zero, List.getElem?_cons_succ, List.set_cons_zero, List.set_cons_succ, List.append_nil, List.nil_append, List.cons_append, List.length_cons, List.length_nil, if_true, if_false, Nat.reduceAdd, Nat.reduceEqDiff, Nat.zero_add, peek, ownD, ownL, putO, DL.putAll, Option.map_some, Option.bind_some, asDat, asL, asT, as1, asQ, seqD, decide_true, env0, env1, List.map_cons, List.map_nil, List.replicate, Nat.reduceSub, reduceCtorEq, reduceIte, iLt_ev, iLe_ev, iGt_ev, iGe_ev, iAdd_ev, iSub_ev, intF_i, intF_b, minF_ev, maxF_ev, absF_ev, lenF_l, lenF_t, lenF_sc, listF_l, listF_t, tupleF_t, boD_ev, ixF_l0, ixF_l1, ixF_l2, ixF_t0, ixF_t1, ixF_t2, mkTup_0, mkLst_0, mkTup_1, mkLst_1, mkTup_2, mkLst_2, mkTup_3, mkLst_3, mkTup_4, mkLst_4, mkTup_5, mkLst_5, slL_ev, slT_ev, slQ_l, slQ_t, revF_t, revF_l, gsNil_ev, gsCons_ev, out_ret, out_nx, outR_ret, outR_nx, noX_ok])
local macro_rules | `(tactic| walk_at "eva") => `(tactic| simp -implicitDefEqProofs only [and_self, bind_err, ev_raise, back_err, outR_err, ev_toldM, kTold_ok, kTold_err, ev_meth, kMeth_ev, kMeth2_ev, ev_eqO, kEqO_ev, kEqO2_ev, ev_errV, ev_dnew, bind_ok, bind_stuck, ev_ok, ev_of, ev_seq, kSeq_nx, kSeq_ret, kSeq_bk, kSeq_ct, ev_nx, ev_if, kIf_true, kIf_false, ev_var, kVar_fz, kVar_ow, ev_op, kOp_ev, ev_opB, kOpB_ev, ev_un, ev_chain, kCh_ev, ev_bd, ev_test, asB_b, ev_and, kAnd_t, kAnd_f, ev_or, kOr_t, kOr_f, ev_not, ev_andV, kAndV_t, kAndV_f, ev_orV, kOrV_t, kOrV_f, ev_notV, ev_nil, ev_cons, kCons_ev, ev_tup, ev_lst, ev_cb, ev_ret, ev_retN, ev_drop, ev_never, ev_asg, ev_setF, ev_gN, ev_callf, back_ok, ev_ixP, kIxP_ev, kIxP2_ev, ev_setIx, kSetIx_ev, kSetIx1_ev, ev_callP, kCallP_ev, kCallP2_ev, back1_ok, ev_pop, kOwn_ev, ev_app, ev_ext, ev_lenP, ev_eqP, kEqP_ev, kEqP2_ev, ev_inP, ev_nilO, ev_consF, ev_consO, kConsF_ev, kConsO_ev, ev_par, ev_for, ev_part, kPart_ev, ev_sl, kSl_ev, kSl2_ev, ev_m1, kM1_ev, ev_idx, kIdx_ev, ev_itL, ev_itT, ev_enL, ev_enT, ev_enQ, ev_fld, ev_prop, ev_inO, kInO_ev, kInO2_ev, ev_lenO, kLenO_ev, ev_setA, ev_make, ev_callN,
  List.getElem?_cons_zero, List.getElem?_cons_succ, List.set_cons_zero, List.set_cons_succ, List.append_nil, List.nil_append, List.cons_append, List.length_cons, List.length_nil, if_true, if_false, Nat.reduceAdd, Nat.reduceEqDiff, Nat.zero_add, peek, ownD, ownL, putO, DL.putAll, Option.map_some, Option.bind_some, asDat, asL, asT, as1, asQ, seqD, decide_true, env0, env1, List.map_cons, List.map_nil, List.replicate, Nat.reduceSub, reduceCtorEq, reduceIte, iLt_ev, iLe_ev, iGt_ev, iGe_ev, iAdd_ev, iSub_ev, intF_i, intF_b, minF_ev, maxF_ev, absF_ev, lenF_l, lenF_t, lenF_sc, listF_l, listF_t, tupleF_t, boD_ev, ixF_l0, ixF_l1, ixF_l2, ixF_t0, ixF_t1, ixF_t2, mkTup_0, mkLst_0, mkTup_1, mkLst_1, mkTup_2, mkLst_2, mkTup_3, mkLst_3, mkTup_4, mkLst_4, mkTup_5, mkLst_5, slL_ev, slT_ev, slQ_l, slQ_t, revF_t, revF_l, gsNil_ev, gsCons_ev, out_ret, out_nx, outR_ret, outR_nx, noX_ok, Bool.not_true, Bool.not_false, Bool.false_xor, Bool.true_xor, gT2_dat, gT3_dat, gT2_wk, gL3_dat, *])

namespace Q
open DL TL
/-! ### halls let, halls refused -/
theorem rep_self {n k : Nat} {d : PyData} (h : Fit n k d) (hn : n ≤ 60000) (hk : k ≤ 60) : ∃ s : Str, reprF [.dat d] = some (dS s) ∧ eqB (dS s) (dS s) = some true ∧ neB (dS s) (dS s) = some false := by
  obtain ⟨h1, h2⟩ := h.rep hn hk
  refine ⟨d.shown, h1, ?_, ?_⟩
  · rw [eqB_str h2 h2]; simp
  · rw [neB_str h2 h2]; simp
theorem rep_num {n : Nat} (h : n ≤ 1000) : ∃ s : Str, reprF [dI (n : Nat)] = some (dS s) ∧ eqB (dS s) (dS s) = some true ∧ neB (dS s) (dS s) = some false :=
  rep_self (fit_int (i := (n : Nat)) (by
    have : (10 : Nat) ^ 12 = 1000000000000 := by decide
    rw [this, Int.natAbs_natCast]
    omega)) (by decide) (by decide)
theorem isi_bh {d : D} : isiX errs clss [.exc "BadHall" d, .cls "BadHall"] = some (dB true) := by
  rw [isiX_exc (by decide +kernel) (by decide +kernel)]
  rfl
theorem val_bh {d : D} : errVF errs (.exc "BadHall" d) = some d := ev_errV (by decide +kernel)
theorem bh_mem : ("BadHall" : Str) ∈ errs := by decide +kernel
theorem join_rows {rows : List (List Str)} (R : RowsW rows) : joinF (dS "\n") (dL ((rows.map lineS).map .str)) = some (dS (textS rows)) := joinF_ev (a := "\n") (ys := rows.map lineS) (b := 1300) (n := 60) (fun y hy => by
  obtain ⟨ws, hws, rfl⟩ := List.mem_map.mp hy
  exact lineW_len (R.w ws hws).2.1 (R.w ws hws).2.2) (by rw [List.length_map]; exact R.l) rfl (by decide)
theorem textW_ok {rows : List (List Str)} (R : RowsW rows) : SOk (textS rows) := textS_ok fun ws hws w hw => ((R.w ws hws).2.1 w hw).so
section
variable {δ δ1 : DL.Env} {ma : M (List D)} {t h : D} {c : Str} {d : D} {f : D → List D → DL.R (D × D)}
theorem makeX_err (ha : ma δ = .ok [t] δ1) (e : f (.obj "Hall" [] []) [t] = .err c d) : mMakeX "Hall" 1 f [] ma δ = .err c d δ1 := by
  have hl : [t].length = 1 := rfl
  rw [ev_makeX, ha, bind_ok, List.append_nil, if_pos hl, e]
theorem makeX_ok (ha : ma δ = .ok [t] δ1) (e : f (.obj "Hall" [] []) [t] = .ok (.dat .none, h)) : mMakeX "Hall" 1 f [] ma δ = .ok h δ1 := by
  have hl : [t].length = 1 := rfl
  rw [ev_makeX, ha, bind_ok, List.append_nil, if_pos hl, e]
end
theorem hall_textX {t a b c : D} : f_Hall_text [hallD t a b c] = .ok t := by
  have f1 : fld "Hall" "own_text" (hallD t a b c) = some t := rfl
  unfold f_Hall_text m_Hall_text
  generalize hallD t a b c = h at f1 ⊢
  walk_at "eva"
/-- rows as a list of lines -/
def rowsD (rows : List (List Str)) : PyData := .list ((rows.map lineS).map .str)
theorem wrong_pos {rows : List (List Str)} {n : Nat} (h : wrongW rows = n) (h0 : 0 < n) : verdictW rows = .inl n := by
  unfold wrongW at h
  cases e : verdictW rows with
  | inl m => rw [e] at h; exact congrArg _ h
  | inr x => rw [e] at h; dsimp only at h; omega
theorem readW_pos {people : List Str} : ∀ {rows : List (List Str)} {n k : Nat} {mo : MO}, readW people rows n mo = .inl k → n ≤ k ∧ k < n + rows.length
  | [], n, k, mo, h => by cases h
  | ws :: rows, n, k, mo, h => by
    rw [readW] at h
    cases e : takeW people mo ws with
    | none =>
      rw [e] at h
      cases h
      exact ⟨Nat.le_refl _, by simp⟩
    | some mo' =>
      rw [e] at h
      obtain ⟨h1, h2⟩ := readW_pos (rows := rows) h
      rw [List.length_cons]
      omega
theorem verdict_pos {rows : List (List Str)} {n : Nat} (h : verdictW rows = .inl n) : 0 < n ∧ n ≤ rows.length + 1 := by
  cases rows with
  | nil => cases h; exact ⟨by decide, by decide⟩
  | cons r rs =>
    cases hp : peopleW r with
    | none =>
      rw [verdict_none hp] at h
      cases h
      exact ⟨by decide, by simp⟩
    | some p =>
      rw [verdict_some hp] at h
      cases e : readW p rs 2 ([], []) with
      | inl k =>
        rw [e] at h
        cases h
        have := readW_pos e
        rw [List.length_cons]
        omega
      | inr mo => rw [e] at h; cases h
theorem wrong_zero {rows : List (List Str)} (h : wrongW rows = 0) : ∃ p mo, verdictW rows = .inr (p, mo) := by
  unfold wrongW at h
  cases e : verdictW rows with
  | inl m =>
    rw [e] at h
    have := (verdict_pos e).1
    dsimp only at h
    omega
  | inr x => exact ⟨x.1, x.2, rfl⟩
end Q

open PySem PySem.Spec PyProof.Rows L2 MT DL
local macro_rules | `(tactic| walk_at "ev") => `(tactic| simp -implicitDefEqProofs only [and_self, bind_err, ev_raise, back_err, outR_err, ev_toldM, kTold_ok, kTold_err, ev_meth, kMeth_ev, kMeth2_ev, ev_eqO, kEqO_ev, kEqO2_ev, ev_errV, ev_dnew, bind_ok, bind_stuck, ev_ok, ev_of, ev_seq, kSeq_nx, kSeq_ret, kSeq_bk, kSeq_ct, ev_nx, ev_if, kIf_true, kIf_false, ev_var, kVar_fz, kVar_ow, ev_op, kOp_ev, ev_opB, kOpB_ev, ev_un, ev_chain, kCh_ev, ev_bd, ev_test, asB_b, ev_and, kAnd_t, kAnd_f, ev_or, kOr_t, kOr_f, ev_not, ev_andV, kAndV_t, kAndV_f, ev_orV, kOrV_t, kOrV_f, ev_notV, ev_nil, ev_cons, kCons_ev, ev_tup, ev_lst, ev_cb, ev_ret, ev_retN, ev_drop, ev_never, ev_asg, ev_setF, ev_gN, ev_callf, back_ok, ev_ixP, kIxP_ev, kIxP2_ev, ev_setIx, kSetIx_ev, kSetIx1_ev, ev_callP, kCallP_ev, kCallP2_ev, back1_ok, ev_pop, kOwn_ev, ev_app, ev_ext, ev_lenP, ev_eqP, kEqP_ev, kEqP2_ev, ev_inP, ev_nilO, ev_consF, ev_consO, kConsF_ev, kConsO_ev, ev_par, ev_for, ev_part, kPart_ev, ev_sl, kSl_ev, kSl2_ev, ev_m1, kM1_ev, ev_idx, kIdx_ev, ev_itL, ev_itT, ev_enL, ev_enT, ev_enQ, ev_fld, ev_prop, ev_inO, kInO_ev, kInO2_ev, ev_lenO, kLenO_ev, ev_setA, ev_make, ev_callN,
  List.getElem?_cons_zero, List.getElem?_cons_succ, List.set_cons_zero, List.set_cons_succ, List.append_nil, List.nil_append, List.cons_append, List.length_cons, List.length_nil, if_true, if_false, Nat.reduceAdd, Nat.reduceEqDiff, Nat.zero_add, peek, ownD, ownL, putO, DL.putAll, Option.map_some, Option.bind_some, asDat, asL, asT, as1, asQ, seqD, decide_true, env0, env1, List.map_cons, List.map_nil, List.replicate, Nat.reduceSub, reduceCtorEq, reduceIte, iLt_ev, iLe_ev, iGt_ev, iGe_ev, iAdd_ev, iSub_ev, intF_i, intF_b, minF_ev, maxF_ev, absF_ev, lenF_l, lenF_t, lenF_sc, listF_l, listF_t, tupleF_t, boD_ev, ixF_l0, ixF_l1, ixF_l2, ixF_t0, ixF_t1, ixF_t2, mkTup_0, mkLst_0, mkTup_1, mkLst_1, mkTup_2, mkLst_2, mkTup_3, mkLst_3, mkTup_4, mkLst_4, mkTup_5, mkLst_5, slL_ev, slT_ev, slQ_l, slQ_t, revF_t, revF_l, gsNil_ev, gsCons_ev, out_ret, out_nx, outR_ret, outR_nx, noX_ok])
local macro_rules | `(tactic| walk_at "eva") => `(tactic| simp -implicitDefEqProofs only [and_self, bind_err, ev_raise, back_err, outR_err, ev_toldM, kTold_ok, kTold_err, ev_meth, kMeth_ev, kMeth2_ev, ev_eqO, kEqO_ev, kEqO2_ev, ev_errV, ev_dnew, bind_ok, bind_stuck, ev_ok, ev_of, ev_seq, kSeq_nx, kSeq_ret, kSeq_bk, kSeq_ct, ev_nx, ev_if, kIf_true, kIf_false, ev_var, kVar_fz, kVar_ow, ev_op, kOp_ev, ev_opB, kOpB_ev, ev_un, ev_chain, kCh_ev, ev_bd, ev_test, asB_b, ev_and, kAnd_t, kAnd_f, ev_or, kOr_t, kOr_f, ev_not, ev_andV, kAndV_t, kAndV_f, ev_orV, kOrV_t, kOrV_f, ev_notV, ev_nil, ev_cons, kCons_ev, ev_tup, ev_lst, ev_cb, ev_ret, ev_retN, ev_drop, ev_never, ev_asg, ev_setF, ev_gN, ev_callf, back_ok, ev_ixP, kIxP_ev, kIxP2_ev, ev_setIx, kSetIx_ev, kSetIx1_ev, ev_callP, kCallP_ev, kCallP2_ev, back1_ok, ev_pop, kOwn_ev, ev_app, ev_ext, ev_lenP, ev_eqP, kEqP_ev, kEqP2_ev, ev_inP, ev_nilO, ev_consF, ev_consO, kConsF_ev, kConsO_ev, ev_par, ev_for, ev_part, kPart_ev, ev_sl, kSl_ev, kSl2_ev, ev_m1, kM1_ev, ev_idx, kIdx_ev, ev_itL, ev_itT, ev_enL, ev_enT, ev_enQ, ev_fld, ev_prop, ev_inO, kInO_ev, kInO2_ev, ev_lenO, kLenO_ev, ev_setA, ev_make, ev_callN,
  List.getElem?_cons_zero, List.getElem?_cons_succ, List.set_cons_zero, List.set_cons_succ, List.append_nil, List.nil_append, List.cons_append, List.length_cons, List.length_nil, if_true, if_false, Nat.reduceAdd, Nat.reduceEqDiff, Nat.zero_add, peek, ownD, ownL, putO, DL.putAll, Option.map_some, Option.bind_some, asDat, asL, asT, as1, asQ, seqD, decide_true, env0, env1, List.map_cons, List.map_nil, List.replicate, Nat.reduceSub, reduceCtorEq, reduceIte, iLt_ev, iLe_ev, iGt_ev, iGe_ev, iAdd_ev, iSub_ev, intF_i, intF_b, minF_ev, maxF_ev, absF_ev, lenF_l, lenF_t, lenF_sc, listF_l, listF_t, tupleF_t, boD_ev, ixF_l0, ixF_l1, ixF_l2, ixF_t0, ixF_t1, ixF_t2, mkTup_0, mkLst_0, mkTup_1, mkLst_1, mkTup_2, mkLst_2, mkTup_3, mkLst_3, mkTup_4, mkLst_4, mkTup_5, mkLst_5, slL_ev, slT_ev, slQ_l, slQ_t, revF_t, revF_l, gsNil_ev, gsCons_ev, out_ret, out_nx, outR_ret, outR_nx, noX_ok, Bool.not_true, Bool.not_false, Bool.false_xor, Bool.true_xor, gT2_dat, gT3_dat, gT2_wk, gL3_dat, *])

namespace Q
open DL TL
theorem refused_ev {rows : List (List Str)} {n : Nat} (R : RowsW rows) (r0 : rows ≠ []) (h : wrongW rows = n) (h0 : 0 < n) : f_l_is_refused [.dat (rowsD rows), dI (n : Nat)] = .ok (dB true) := by
  have hv := wrong_pos h h0
  have hn := (verdict_pos hv).2
  have hl := R.l
  have j := join_rows R
  have e1 : f_Hall__init (.obj "Hall" [] []) [dS (textS rows)] = .err "BadHall" (dI (n : Nat)) := by
    rcases hallT_ev R r0 with ⟨k, a, b⟩ | ⟨p, mo, a, b, c, e, _⟩
    · rw [hv] at a; cases a; exact b
    · rw [hv] at e; cases e
  obtain ⟨s, r1, r2, _⟩ := rep_num (n := n) (by omega)
  have j1 := isi_bh (d := dI (n : Nat))
  have v1 := val_bh (d := dI (n : Nat))
  replace j : joinF (dS "\n") (.dat (rowsD rows)) = some (dS (textS rows)) := j
  have m0 : (mCons (mM1 joinF (mOk (.dat (.str "\n"))) (mVar 0)) mNil) [.fz (.dat (rowsD rows)), .fz (dI (n : Nat)), .no] = .ok [dS (textS rows)] [.fz (.dat (rowsD rows)), .fz (dI (n : Nat)), .no] := by
    clear e1 r1 r2 j1 v1
    generalize D.dat (rowsD rows) = y at j ⊢
    generalize dI (n : Nat) = z
    walk_at "eva"
  have m1 := told_err (makeX_err m0 e1) bh_mem
  unfold f_l_is_refused m_l_is_refused
  rw [show env0 3 [.dat (rowsD rows), dI (n : Nat)] = [.fz (.dat (rowsD rows)), .fz (dI (n : Nat)), .no] from rfl]
  generalize mTold errs (mMakeX "Hall" 1 f_Hall__init [] (mCons (mM1 joinF (mOk (.dat (.str "\n"))) (mVar 0)) mNil)) = G at m1 ⊢
  have i0 : ixW (.wk [.exc "BadHall" (dI (n : Nat)), .dat .none]) (.dat (.int 0)) = some (.exc "BadHall" (dI (n : Nat))) := ixW_k0
  clear m0 e1 j hv h h0 hn hl r0 R
  generalize D.wk [.exc "BadHall" (dI (n : Nat)), .dat .none] = w at m1 i0
  generalize D.exc "BadHall" (dI (n : Nat)) = x at i0 j1 v1
  generalize D.dat (rowsD rows) = y at m1 ⊢
  generalize dI (n : Nat) = z at m1 v1 r1 ⊢
  walk_at "eva"
theorem let_ev {rows : List (List Str)} (R : RowsW rows) (r0 : rows ≠ []) (h : wrongW rows = 0) : f_l_is_let [.dat (rowsD rows)] = .ok (dB true) := by
  obtain ⟨p, mo, hv⟩ := wrong_zero h
  have j := join_rows R
  obtain ⟨a, b, c, e1⟩ : ∃ a b c, f_Hall__init (.obj "Hall" [] []) [dS (textS rows)] = .ok (.dat .none, hallD (dS (textS rows)) a b c) := by
    rcases hallT_ev R r0 with ⟨k, z, _⟩ | ⟨_, _, a, b, c, _, e⟩
    · rw [hv] at z; cases z
    · exact ⟨a, b, c, e⟩
  have q := eqB_str (textW_ok R) (textW_ok R)
  rw [decide_eq_true rfl] at q
  have t1 := hall_textX (t := dS (textS rows)) (a := a) (b := b) (c := c)
  have o1 : DL.isObj "Hall" (hallD (dS (textS rows)) a b c) = true := rfl
  replace j : joinF (dS "\n") (.dat (rowsD rows)) = some (dS (textS rows)) := j
  have m0 : (mCons (mM1 joinF (mOk (.dat (.str "\n"))) (mVar 0)) mNil) [.fz (.dat (rowsD rows)), .no, .no] = .ok [dS (textS rows)] [.fz (.dat (rowsD rows)), .no, .no] := by
    clear e1 t1 o1 q
    generalize D.dat (rowsD rows) = y at j ⊢
    walk_at "eva"
  have m1 := DL.told_ok (es := errs) (makeX_ok m0 e1)
  have n0 := isN_none
  unfold f_l_is_let m_l_is_let
  rw [show env0 3 [.dat (rowsD rows)] = [.fz (.dat (rowsD rows)), .no, .no] from rfl]
  generalize mTold errs (mMakeX "Hall" 1 f_Hall__init [] (mCons (mM1 joinF (mOk (.dat (.str "\n"))) (mVar 0)) mNil)) = G at m1 ⊢
  clear m0 e1 hv h r0 R
  generalize hallD (dS (textS rows)) a b c = hd at m1 t1 o1
  generalize D.dat (rowsD rows) = y at m1 j ⊢
  generalize f_Hall_text = G2 at t1 ⊢
  walk_at "eva"
end Q

open PySem PySem.Spec PyProof.Rows L2 MT DL
local macro_rules | `(tactic| walk_at "ev") => `(tactic| simp -implicitDefEqProofs only [and_self, bind_err, ev_raise, back_err, outR_err, ev_toldM, kTold_ok, kTold_err, ev_meth, kMeth_ev, kMeth2_ev, ev_eqO, kEqO_ev, kEqO2_ev, ev_errV, ev_dnew, bind_ok, bind_stuck, ev_ok, ev_of, ev_seq, kSeq_nx, kSeq_ret, kSeq_bk, kSeq_ct, ev_nx, ev_if, kIf_true, kIf_false, ev_var, kVar_fz, kVar_ow, ev_op, kOp_ev, ev_opB, kOpB_ev, ev_un, ev_chain, kCh_ev, ev_bd, ev_test, asB_b, ev_and, kAnd_t, kAnd_f, ev_or, kOr_t, kOr_f, ev_not, ev_andV, kAndV_t, kAndV_f, ev_orV, kOrV_t, kOrV_f, ev_notV, ev_nil, ev_cons, kCons_ev, ev_tup, ev_lst, ev_cb, ev_ret, ev_retN, ev_drop, ev_never, ev_asg, ev_setF, ev_gN, ev_callf, back_ok, ev_ixP, kIxP_ev, kIxP2_ev, ev_setIx, kSetIx_ev, kSetIx1_ev, ev_callP, kCallP_ev, kCallP2_ev, back1_ok, ev_pop, kOwn_ev, ev_app, ev_ext, ev_lenP, ev_eqP, kEqP_ev, kEqP2_ev, ev_inP, ev_nilO, ev_consF, ev_consO, kConsF_ev, kConsO_ev, ev_par, ev_for, ev_part, kPart_ev, ev_sl, kSl_ev, kSl2_ev, ev_m1, kM1_ev, ev_idx, kIdx_ev, ev_itL, ev_itT, ev_enL, ev_enT, ev_enQ, ev_fld, ev_prop, ev_inO, kInO_ev, kInO2_ev, ev_lenO, kLenO_ev, ev_setA, ev_make, ev_callN,
  List.getElem?_cons_zero, List.getElem?_cons_succ, List.set_cons_zero, List.set_cons_succ, List.append_nil, List.nil_append, List.cons_append, List.length_cons, List.length_nil, if_true, if_false, Nat.reduceAdd, Nat.reduceEqDiff, Nat.zero_add, peek, ownD, ownL, putO, DL.putAll, Option.map_some, Option.bind_some, asDat, asL, asT, as1, asQ, seqD, decide_true, env0, env1, List.map_cons, List.map_nil, List.replicate, Nat.reduceSub, reduceCtorEq, reduceIte, iLt_ev, iLe_ev, iGt_ev, iGe_ev, iAdd_ev, iSub_ev, intF_i, intF_b, minF_ev, maxF_ev, absF_ev, lenF_l, lenF_t, lenF_sc, listF_l, listF_t, tupleF_t, boD_ev, ixF_l0, ixF_l1, ixF_l2, ixF_t0, ixF_t1, ixF_t2, mkTup_0, mkLst_0, mkTup_1, mkLst_1, mkTup_2, mkLst_2, mkTup_3, mkLst_3, mkTup_4, mkLst_4, mkTup_5, mkLst_5, slL_ev, slT_ev, slQ_l, slQ_t, revF_t, revF_l, gsNil_ev, gsCons_ev, out_ret, out_nx, outR_ret, outR_nx, noX_ok])
local macro_rules | `(tactic| walk_at "eva") => `(tactic| simp -implicitDefEqProofs only [and_self, bind_err, ev_raise, back_err, outR_err, ev_toldM, kTold_ok, kTold_err, ev_meth, kMeth_ev, kMeth2_ev, ev_eqO, kEqO_ev, kEqO2_ev, ev_errV, ev_dnew, bind_ok, bind_stuck, ev_ok, ev_of, ev_seq, kSeq_nx, kSeq_ret, kSeq_bk, kSeq_ct, ev_nx, ev_if, kIf_true, kIf_false, ev_var, kVar_fz, kVar_ow, ev_op, kOp_ev, ev_opB, kOpB_ev, ev_un, ev_chain, kCh_ev, ev_bd, ev_test, asB_b, ev_and, kAnd_t, kAnd_f, ev_or, kOr_t, kOr_f, ev_not, ev_andV, kAndV_t, kAndV_f, ev_orV, kOrV_t, kOrV_f, ev_notV, ev_nil, ev_cons, kCons_ev, ev_tup, ev_lst, ev_cb, ev_ret, ev_retN, ev_drop, ev_never, ev_asg, ev_setF, ev_gN, ev_callf, back_ok, ev_ixP, kIxP_ev, kIxP2_ev, ev_setIx, kSetIx_ev, kSetIx1_ev, ev_callP, kCallP_ev, kCallP2_ev, back1_ok, ev_pop, kOwn_ev, ev_app, ev_ext, ev_lenP, ev_eqP, kEqP_ev, kEqP2_ev, ev_inP, ev_nilO, ev_consF, ev_consO, kConsF_ev, kConsO_ev, ev_par, ev_for, ev_part, kPart_ev, ev_sl, kSl_ev, kSl2_ev, ev_m1, kM1_ev, ev_idx, kIdx_ev, ev_itL, ev_itT, ev_enL, ev_enT, ev_enQ, ev_fld, ev_prop, ev_inO, kInO_ev, kInO2_ev, ev_lenO, kLenO_ev, ev_setA, ev_make, ev_callN,
  List.getElem?_cons_zero, List.getElem?_cons_succ, List.set_cons_zero, List.set_cons_succ, List.append_nil, List.nil_append, List.cons_append, List.length_cons, List.length_nil, if_true, if_false, Nat.reduceAdd, Nat.reduceEqDiff, Nat.zero_add, peek, ownD, ownL, putO, DL.putAll, Option.map_some, Option.bind_some, asDat, asL, asT, as1, asQ, seqD, decide_true, env0, env1, List.map_cons, List.map_nil, List.replicate, Nat.reduceSub, reduceCtorEq, reduceIte, iLt_ev, iLe_ev, iGt_ev, iGe_ev, iAdd_ev, iSub_ev, intF_i, intF_b, minF_ev, maxF_ev, absF_ev, lenF_l, lenF_t, lenF_sc, listF_l, listF_t, tupleF_t, boD_ev, ixF_l0, ixF_l1, ixF_l2, ixF_t0, ixF_t1, ixF_t2, mkTup_0, mkLst_0, mkTup_1, mkLst_1, mkTup_2, mkLst_2, mkTup_3, mkLst_3, mkTup_4, mkLst_4, mkTup_5, mkLst_5, slL_ev, slT_ev, slQ_l, slQ_t, revF_t, revF_l, gsNil_ev, gsCons_ev, out_ret, out_nx, outR_ret, outR_nx, noX_ok, Bool.not_true, Bool.not_false, Bool.false_xor, Bool.true_xor, gT2_dat, gT3_dat, gT2_wk, gL3_dat, *])

namespace Q
open DL TL
/-! ### lines by numbers of people -/
inductive Ln where
  | ppl (ns : List (Fin 10))
  | met (ns : List (Fin 10))
  | opn (ns : List (Fin 10))
  | oth (b : Bool)
def Ln.ws (ν : Fin 10 → Str) : Ln → List Str
  | .ppl ns => ("people" : Str) :: ns.map ν
  | .met ns => ("met" : Str) :: ns.map ν
  | .opn ns => ("open" : Str) :: ns.map ν
  | .oth true => ["Met", "a", "b"]
  | .oth false => [""]
abbrev MG := List (List (Fin 10)) × List (Fin 10 × Fin 10)
def someG (people ns : List (Fin 10)) : Bool := decide (2 ≤ ns.length) && (ns.all (fun n => decide (n ∈ people)) && unlikeB ns)
def toldG (mo : MG) (a b : Fin 10) : Bool := (mo.1.any fun r => decide (a ∈ r) && decide (b ∈ r)) || (decide ((a, b) ∈ mo.2) || decide ((b, a) ∈ mo.2))
def takeG (people : List (Fin 10)) (mo : MG) : Ln → Option MG
  | .ppl _ => none
  | .oth _ => none
  | .met ns => if someG people ns = false then none else if mo.2 = [] ∧ mo.1.length < 20 then some (mo.1 ++ [ns], mo.2) else none
  | .opn ns => if someG people ns = false then none else if ns.length ≠ 2 ∨ mo.2.length = 4 then none else match ns with
    | [a, b] => if toldG mo a b = true then none else some (mo.1, mo.2 ++ [(a, b)])
    | _ => none
theorem takeG_met {people ns : List (Fin 10)} {mo : MG} : takeG people mo (.met ns) = if someG people ns = false then none else if mo.2 = [] ∧ mo.1.length < 20 then some (mo.1 ++ [ns], mo.2) else none := rfl
theorem takeG_opn {people ns : List (Fin 10)} {mo : MG} : takeG people mo (.opn ns) = if someG people ns = false then none else if ns.length ≠ 2 ∨ mo.2.length = 4 then none else match ns with
    | [a, b] => if toldG mo a b = true then none else some (mo.1, mo.2 ++ [(a, b)])
    | _ => none := rfl
def readG (people : List (Fin 10)) : List Ln → Nat → MG → Nat
  | [], _, _ => 0
  | l :: ls, n, mo => match takeG people mo l with
    | none => n
    | some mo' => readG people ls (n + 1) mo'
def pplG : Ln → Option (List (Fin 10))
  | .ppl ns => if 0 < ns.length ∧ ns.length ≤ 9 ∧ unlikeB ns = true then some ns else none
  | _ => none
def topG (ls : List Ln) : Option (List (Fin 10)) → Nat
  | none => 1
  | some p => readG p ls 2 ([], [])
def wrongG : List Ln → Nat
  | [] => 1
  | l :: ls => topG ls (pplG l)
theorem peopleW_no {w : Str} {ns : List Str} (h : w ≠ "people") : peopleW (w :: ns) = none := if_neg fun z => h z.1
theorem pplG_eq {ns : List (Fin 10)} : pplG (.ppl ns) = if 0 < ns.length ∧ ns.length ≤ 9 ∧ unlikeB ns = true then some ns else none := rfl
theorem unlikeB_iff {α : Type} [DecidableEq α] {ys : List α} : unlikeB ys = true ↔ ys.Nodup := by
  refine ⟨fun h => ?_, unlike_nd⟩
  rw [List.nodup_iff_pairwise_ne, List.pairwise_iff_getElem]
  intro i j hi hj hij e
  have hq : (ys[j], j) ∈ ys.zipIdx := List.mem_zipIdx_iff_getElem?.mpr (List.getElem?_eq_getElem hj)
  have := List.all_eq_true.mp h _ hq
  have hm : ys[j] ∈ ys.take j := by
    rw [← e]
    exact List.mem_take_iff_getElem.mpr ⟨i, by omega, rfl⟩
  simp [hm] at this
section
variable {ν : Fin 10 → Str} (inj : ∀ i j, ν i = ν j → i = j)
def mapMO (ν : Fin 10 → Str) (mo : MG) : MO := (mo.1.map fun r => r.map ν, mo.2.map fun q => (ν q.1, ν q.2))
include inj
theorem memG {i : Fin 10} {ps : List (Fin 10)} : ν i ∈ ps.map ν ↔ i ∈ ps := by
  constructor
  · intro h
    obtain ⟨j, hj, e⟩ := List.mem_map.mp h
    rw [← inj _ _ e]; exact hj
  · exact fun h => List.mem_map.mpr ⟨i, h, rfl⟩
theorem unlikeG {ns : List (Fin 10)} : unlikeB (ns.map ν) = unlikeB ns := by
  rw [Bool.eq_iff_iff, unlikeB_iff, unlikeB_iff]
  constructor
  · intro h
    rw [List.nodup_iff_pairwise_ne, List.pairwise_map] at h
    rw [List.nodup_iff_pairwise_ne]
    exact h.imp fun ne e => ne (by rw [e])
  · intro h
    rw [List.nodup_iff_pairwise_ne, List.pairwise_map]
    rw [List.nodup_iff_pairwise_ne] at h
    exact h.imp fun ne e => ne (inj _ _ e)
theorem someG_ev {people ns : List (Fin 10)} : someW (people.map ν) (ns.map ν) = someG people ns := by
  unfold someW someG
  rw [unlikeG inj, List.length_map, List.all_map]
  congr 2
  congr 1
  funext n
  exact decide_eq_decide.mpr (memG inj)
theorem toldG_ev {mo : MG} {a b : Fin 10} : (told (mapMO ν mo).1 (mapMO ν mo).2 (ν a) (ν b)).isSome = toldG mo a b := by
  have e1 : (∃ r ∈ mo.1.map (fun r => r.map ν), ν a ∈ r ∧ ν b ∈ r) ↔ (mo.1.any fun r => decide (a ∈ r) && decide (b ∈ r)) = true := by
    rw [List.any_eq_true]
    constructor
    · rintro ⟨r, hr, h1, h2⟩
      obtain ⟨q, hq, rfl⟩ := List.mem_map.mp hr
      exact ⟨q, hq, by rw [decide_eq_true ((memG inj).mp h1), decide_eq_true ((memG inj).mp h2)]; rfl⟩
    · rintro ⟨r, hr, h⟩
      rw [Bool.and_eq_true] at h
      exact ⟨r.map ν, List.mem_map.mpr ⟨r, hr, rfl⟩, (memG inj).mpr (of_decide_eq_true h.1), (memG inj).mpr (of_decide_eq_true h.2)⟩
  have e2 : ∀ x y : Fin 10, (ν x, ν y) ∈ mo.2.map (fun q => (ν q.1, ν q.2)) ↔ (x, y) ∈ mo.2 := fun x y => by
    constructor
    · intro h
      obtain ⟨⟨u, v⟩, hq, e⟩ := List.mem_map.mp h
      have h1 := inj _ _ (congrArg Prod.fst e)
      have h2 := inj _ _ (congrArg Prod.snd e)
      dsimp only at h1 h2
      rw [← h1, ← h2]; exact hq
    · exact fun h => List.mem_map.mpr ⟨(x, y), h, rfl⟩
  unfold told toldG mapMO
  by_cases h1 : (mo.1.any fun r => decide (a ∈ r) && decide (b ∈ r)) = true
  · rw [if_pos (e1.mpr h1), h1]; rfl
  · rw [if_neg (fun z => h1 (e1.mp z)), Bool.eq_false_iff.mpr h1, Bool.false_or]
    by_cases h2 : (a, b) ∈ mo.2 ∨ (b, a) ∈ mo.2
    · rw [if_pos (h2.imp (e2 a b).mpr (e2 b a).mpr)]
      rcases h2 with h2 | h2 <;> simp [h2]
    · rw [if_neg (fun z => h2 (z.imp (e2 a b).mp (e2 b a).mp))]
      have h3 : (a, b) ∉ mo.2 := fun z => h2 (.inl z)
      have h4 : (b, a) ∉ mo.2 := fun z => h2 (.inr z)
      simp [h3, h4]
theorem takeG_ev {people : List (Fin 10)} {mo : MG} {l : Ln} : takeW (people.map ν) (mapMO ν mo) (l.ws ν) = (takeG people mo l).map (mapMO ν) := by
  have n1 : ("people" : Str) ≠ "met" := by decide +kernel
  have n2 : ("people" : Str) ≠ "open" := by decide +kernel
  have n3 : ("open" : Str) ≠ "met" := by decide +kernel
  have n4 : ("Met" : Str) ≠ "met" := by decide +kernel
  have n5 : ("Met" : Str) ≠ "open" := by decide +kernel
  have n6 : ("" : Str) ≠ "met" := by decide +kernel
  have n7 : ("" : Str) ≠ "open" := by decide +kernel
  have oth : ∀ (w : Str) (ns : List Str), w ≠ "met" → w ≠ "open" → takeW (people.map ν) (mapMO ν mo) (w :: ns) = none := fun w ns h1 h2 => by
    show takeW _ ((mapMO ν mo).1, (mapMO ν mo).2) _ = _
    rw [takeW_cons]
    by_cases hs : someW (people.map ν) ns = false
    · rw [if_pos hs]
    · rw [if_neg hs, if_neg (fun z => h1 z.1), if_pos (.inl h2)]
  have l1 : (mapMO ν mo).1.length = mo.1.length := by simp [mapMO]
  have l2 : (mapMO ν mo).2.length = mo.2.length := by simp [mapMO]
  have l3 : (mapMO ν mo).2 = [] ↔ mo.2 = [] := by simp [mapMO]
  cases l with
  | ppl ns => exact oth _ _ n1 n2
  | oth b => cases b with
    | true => exact oth _ _ n4 n5
    | false => exact oth _ _ n6 n7
  | met ns =>
    show takeW _ ((mapMO ν mo).1, (mapMO ν mo).2) (("met" : Str) :: ns.map ν) = _
    rw [takeW_cons, someG_ev inj, l1, takeG_met]
    by_cases hs : someG people ns = false
    · rw [if_pos hs, if_pos hs]; rfl
    · rw [if_neg hs, if_neg hs]
      by_cases hc : mo.2 = [] ∧ mo.1.length < 20
      · rw [if_pos ⟨rfl, l3.mpr hc.1, hc.2⟩, if_pos hc]
        simp [mapMO]
      · rw [if_neg (fun z => hc ⟨l3.mp z.2.1, z.2.2⟩), if_neg hc, if_pos (.inl fun z => n3 z.symm)]
        rfl
  | opn ns =>
    show takeW _ ((mapMO ν mo).1, (mapMO ν mo).2) (("open" : Str) :: ns.map ν) = _
    rw [takeW_cons, someG_ev inj, l2, List.length_map, takeG_opn]
    by_cases hs : someG people ns = false
    · rw [if_pos hs, if_pos hs]; rfl
    · rw [if_neg hs, if_neg hs, if_neg (fun z => n3 z.1)]
      by_cases hc : ns.length ≠ 2 ∨ mo.2.length = 4
      · rw [if_pos (.inr hc), if_pos hc]; rfl
      · rw [if_neg (fun z => z.elim (fun z => z rfl) hc), if_neg hc]
        match ns with
        | [] => rfl
        | [_] => rfl
        | [a, b] =>
          show (if (told (mapMO ν mo).1 (mapMO ν mo).2 (ν a) (ν b)).isSome = true then none else _) = _
          rw [toldG_ev inj]
          dsimp only
          by_cases ht : toldG mo a b = true
          · rw [if_pos ht, if_pos ht]; rfl
          · rw [if_neg ht, if_neg ht]
            simp [mapMO]
        | _ :: _ :: _ :: _ => rfl
def numW : Nat ⊕ MO → Nat
  | .inl n => n
  | .inr _ => 0
theorem readG_ev {people : List (Fin 10)} : ∀ {ls : List Ln} {n : Nat} {mo : MG}, numW (readW (people.map ν) (ls.map (Ln.ws ν)) n (mapMO ν mo)) = readG people ls n mo
  | [], n, mo => rfl
  | l :: ls, n, mo => by
    rw [List.map_cons, readW, readG, takeG_ev inj]
    cases takeG people mo l with
    | none => rfl
    | some mo' => exact readG_ev
theorem wrongG_ev (nm : ∀ i, nameB (ν i) = true) {ls : List Ln} : wrongW (ls.map (Ln.ws ν)) = wrongG ls := by
  have pw : ∀ l : Ln, peopleW (l.ws ν) = (pplG l).map fun ns => ns.map ν := fun l => by
    cases l with
    | ppl ns =>
      show (if ("people" : Str) = "people" ∧ 0 < (ns.map ν).length ∧ (ns.map ν).length ≤ 9 ∧ (ns.map ν).all nameB = true ∧ unlikeB (ns.map ν) = true then some (ns.map ν) else none) = _
      rw [unlikeG inj, List.length_map, pplG_eq]
      by_cases hc : 0 < ns.length ∧ ns.length ≤ 9 ∧ unlikeB ns = true
      · rw [if_pos hc, if_pos ⟨rfl, hc.1, hc.2.1, List.all_eq_true.mpr fun x hx => by
          obtain ⟨i, _, rfl⟩ := List.mem_map.mp hx
          exact nm i, hc.2.2⟩]
        rfl
      · rw [if_neg hc, if_neg (fun z => hc ⟨z.2.1, z.2.2.1, z.2.2.2.2⟩)]
        rfl
    | met ns => exact peopleW_no (by decide +kernel)
    | opn ns => exact peopleW_no (by decide +kernel)
    | oth b => cases b <;> exact peopleW_no (by decide +kernel)
  cases ls with
  | nil => rfl
  | cons l ls =>
    show (match vTop (ls.map (Ln.ws ν)) (peopleW (l.ws ν)) with | .inl n => n | .inr _ => 0) = topG ls (pplG l)
    rw [pw]
    cases pplG l with
    | none => rfl
    | some p =>
      have := readG_ev inj (people := p) (ls := ls) (n := 2) (mo := ([], []))
      show (match vEnd (p.map ν) (readW (p.map ν) (ls.map (Ln.ws ν)) 2 ([], [])) with | .inl n => n | .inr _ => 0) = readG p ls 2 ([], [])
      rw [← this]
      show _ = numW (readW (p.map ν) (ls.map (Ln.ws ν)) 2 ([], []))
      cases readW (p.map ν) (ls.map (Ln.ws ν)) 2 ([], []) <;> rfl
end
end Q

open PySem PySem.Spec PyProof.Rows L2 MT DL
local macro_rules | `(tactic| walk_at "ev") => `(tactic| simp -implicitDefEqProofs only [and_self, bind_err, ev_raise, back_err, outR_err, ev_toldM, kTold_ok, kTold_err, ev_meth, kMeth_ev, kMeth2_ev, ev_eqO, kEqO_ev, kEqO2_ev, ev_errV, ev_dnew, bind_ok, bind_stuck, ev_ok, ev_of, ev_seq, kSeq_nx, kSeq_ret, kSeq_bk, kSeq_ct, ev_nx, ev_if, kIf_true, kIf_false, ev_var, kVar_fz, kVar_ow, ev_op, kOp_ev, ev_opB, kOpB_ev, ev_un, ev_chain, kCh_ev, ev_bd, ev_test, asB_b, ev_and, kAnd_t, kAnd_f, ev_or, kOr_t, kOr_f, ev_not, ev_andV, kAndV_t, kAndV_f, ev_orV, kOrV_t, kOrV_f, ev_notV, ev_nil, ev_cons, kCons_ev, ev_tup, ev_lst, ev_cb, ev_ret, ev_retN, ev_drop, ev_never, ev_asg, ev_setF, ev_gN, ev_callf, back_ok, ev_ixP, kIxP_ev, kIxP2_ev, ev_setIx, kSetIx_ev, kSetIx1_ev, ev_callP, kCallP_ev, kCallP2_ev, back1_ok, ev_pop, kOwn_ev, ev_app, ev_ext, ev_lenP, ev_eqP, kEqP_ev, kEqP2_ev, ev_inP, ev_nilO, ev_consF, ev_consO, kConsF_ev, kConsO_ev, ev_par, ev_for, ev_part, kPart_ev, ev_sl, kSl_ev, kSl2_ev, ev_m1, kM1_ev, ev_idx, kIdx_ev, ev_itL, ev_itT, ev_enL, ev_enT, ev_enQ, ev_fld, ev_prop, ev_inO, kInO_ev, kInO2_ev, ev_lenO, kLenO_ev, ev_setA, ev_make, ev_callN,
  List.getElem?_cons_zero, List.getElem?_cons_succ, List.set_cons_zero, List.set_cons_succ, List.append_nil, List.nil_append, List.cons_append, List.length_cons, List.length_nil, if_true, if_false, Nat.reduceAdd, Nat.reduceEqDiff, Nat.zero_add, peek, ownD, ownL, putO, DL.putAll, Option.map_some, Option.bind_some, asDat, asL, asT, as1, asQ, seqD, decide_true, env0, env1, List.map_cons, List.map_nil, List.replicate, Nat.reduceSub, reduceCtorEq, reduceIte, iLt_ev, iLe_ev, iGt_ev, iGe_ev, iAdd_ev, iSub_ev, intF_i, intF_b, minF_ev, maxF_ev, absF_ev, lenF_l, lenF_t, lenF_sc, listF_l, listF_t, tupleF_t, boD_ev, ixF_l0, ixF_l1, ixF_l2, ixF_t0, ixF_t1, ixF_t2, mkTup_0, mkLst_0, mkTup_1, mkLst_1, mkTup_2, mkLst_2, mkTup_3, mkLst_3, mkTup_4, mkLst_4, mkTup_5, mkLst_5, slL_ev, slT_ev, slQ_l, slQ_t, revF_t, revF_l, gsNil_ev, gsCons_ev, out_ret, out_nx, outR_ret, outR_nx, noX_ok])
local macro_rules | `(tactic| walk_at "eva") => `(tactic| simp -implicitDefEqProofs only [and_self, bind_err, ev_raise, back_err, outR_err, ev_toldM, kTold_ok, kTold_err, ev_meth, kMeth_ev, kMeth2_ev, ev_eqO, kEqO_ev, kEqO2_ev, ev_errV, ev_dnew, bind_ok, bind_stuck, ev_ok, ev_of, ev_seq, kSeq_nx, kSeq_ret, kSeq_bk, kSeq_ct, ev_nx, ev_if, kIf_true, kIf_false, ev_var, kVar_fz, kVar_ow, ev_op, kOp_ev, ev_opB, kOpB_ev, ev_un, ev_chain, kCh_ev, ev_bd, ev_test, asB_b, ev_and, kAnd_t, kAnd_f, ev_or, kOr_t, kOr_f, ev_not, ev_andV, kAndV_t, kAndV_f, ev_orV, kOrV_t, kOrV_f, ev_notV, ev_nil, ev_cons, kCons_ev, ev_tup, ev_lst, ev_cb, ev_ret, ev_retN, ev_drop, ev_never, ev_asg, ev_setF, ev_gN, ev_callf, back_ok, ev_ixP, kIxP_ev, kIxP2_ev, ev_setIx, kSetIx_ev, kSetIx1_ev, ev_callP, kCallP_ev, kCallP2_ev, back1_ok, ev_pop, kOwn_ev, ev_app, ev_ext, ev_lenP, ev_eqP, kEqP_ev, kEqP2_ev, ev_inP, ev_nilO, ev_consF, ev_consO, kConsF_ev, kConsO_ev, ev_par, ev_for, ev_part, kPart_ev, ev_sl, kSl_ev, kSl2_ev, ev_m1, kM1_ev, ev_idx, kIdx_ev, ev_itL, ev_itT, ev_enL, ev_enT, ev_enQ, ev_fld, ev_prop, ev_inO, kInO_ev, kInO2_ev, ev_lenO, kLenO_ev, ev_setA, ev_make, ev_callN,
  List.getElem?_cons_zero, List.getElem?_cons_succ, List.set_cons_zero, List.set_cons_succ, List.append_nil, List.nil_append, List.cons_append, List.length_cons, List.length_nil, if_true, if_false, Nat.reduceAdd, Nat.reduceEqDiff, Nat.zero_add, peek, ownD, ownL, putO, DL.putAll, Option.map_some, Option.bind_some, asDat, asL, asT, as1, asQ, seqD, decide_true, env0, env1, List.map_cons, List.map_nil, List.replicate, Nat.reduceSub, reduceCtorEq, reduceIte, iLt_ev, iLe_ev, iGt_ev, iGe_ev, iAdd_ev, iSub_ev, intF_i, intF_b, minF_ev, maxF_ev, absF_ev, lenF_l, lenF_t, lenF_sc, listF_l, listF_t, tupleF_t, boD_ev, ixF_l0, ixF_l1, ixF_l2, ixF_t0, ixF_t1, ixF_t2, mkTup_0, mkLst_0, mkTup_1, mkLst_1, mkTup_2, mkLst_2, mkTup_3, mkLst_3, mkTup_4, mkLst_4, mkTup_5, mkLst_5, slL_ev, slT_ev, slQ_l, slQ_t, revF_t, revF_l, gsNil_ev, gsCons_ev, out_ret, out_nx, outR_ret, outR_nx, noX_ok, Bool.not_true, Bool.not_false, Bool.false_xor, Bool.true_xor, gT2_dat, gT3_dat, gT2_wk, gL3_dat, *])

namespace Q
open DL TL
/-! ### steps that change nothing -/
section
variable {δ : DL.Env} {A B J : M D} {xs ys : List PyData}
inductive EvL (δ : DL.Env) : M (List D) → List PyData → Prop
  | nil : EvL δ mNil []
  | cons {A : M D} {r : M (List D)} {x : PyData} {xs : List PyData} : A δ = .ok (.dat x) δ → EvL δ r xs → EvL δ (mCons A r) (x :: xs)
theorem EvL.ev {m : M (List D)} (h : EvL δ m xs) : m δ = .ok (xs.map .dat) δ := by
  induction h with
  | nil => rfl
  | cons h t ih => rw [ev_cons, h, bind_ok, kCons_ev, ih, bind_ok]; rfl
theorem datAll_map : ∀ {xs : List PyData}, datAll (xs.map .dat) = some xs
  | [] => rfl
  | x :: xs => by
    show (datAll (xs.map .dat)).map (x :: ·) = _
    rw [datAll_map]; rfl
theorem small_ev {xs : List PyData} (h : xs.length ≤ 1000) : small most (some xs) = some xs := by
  show (if xs.length ≤ most then some xs else none) = _
  rw [if_pos (le_most (by omega))]
theorem lstE {m : M (List D)} (h : EvL δ m xs) (hl : xs.length ≤ 1000) : mLst m δ = .ok (dL xs) δ := by
  rw [ev_lst, h.ev, bind_ok]
  show mOf ((small most (datAll (xs.map .dat))).map _) δ = _
  rw [datAll_map, small_ev hl]
  rfl
theorem tupE {m : M (List D)} (h : EvL δ m xs) (hl : xs.length ≤ 1000) : mTup m δ = .ok (dT xs) δ := by
  rw [ev_tup, h.ev, bind_ok]
  show mOf ((small most (datAll (xs.map .dat))).map _) δ = _
  rw [datAll_map, small_ev hl]
  rfl
theorem catE (h1 : A δ = .ok (dL xs) δ) (h2 : B δ = .ok (dL ys) δ) (hl : xs.length + ys.length ≤ 1000) : mOp lCat A B δ = .ok (dL (xs ++ ys)) δ := by
  rw [ev_op, h1, bind_ok, kOp_ev, h2, bind_ok, lCat_ev (le_most (by omega)), ev_of]
theorem slTo {k : Nat} (h : A δ = .ok (dL xs) δ) : mSl slL A (mOk none) (mPart (mOk (dI (k : Nat)))) δ = .ok (dL (xs.take k)) δ := by
  rw [ev_sl, h, bind_ok]
  show mOf (slL (dL xs) none (some (k : Int))) δ = _
  rw [slL_ev, cutD_to, ev_of]
theorem repE {k : Nat} (h : A δ = .ok (dL xs) δ) (hk : k ≤ 100) (hl : xs.length ≤ 100) : mOp lRep A (mOk (dI (k : Nat))) δ = .ok (dL (List.replicate k xs).flatten) δ := by
  rw [ev_op, h, bind_ok, kOp_ev, ev_ok, bind_ok]
  have hm : xs.length * k ≤ 100 * 100 := Nat.mul_le_mul hl hk
  show mOf (if 0 ≤ ((k : Nat) : Int) ∧ ((k : Nat) : Int) ≤ 1000 ∧ xs.length * ((k : Nat) : Int).toNat ≤ most then some (dL (List.replicate ((k : Nat) : Int).toNat xs).flatten) else none) δ = _
  rw [if_pos ⟨by omega, by omega, le_most (by rw [Int.toNat_natCast]; omega)⟩, Int.toNat_natCast, ev_of]
theorem ixE {x : PyData} {k : Nat} (h : A δ = .ok (dL xs) δ) (hx : xs[k]? = some x) : mOp ixF A (mOk (dI (k : Nat))) δ = .ok (.dat x) δ := by
  rw [ev_op, h, bind_ok, kOp_ev, ev_ok, bind_ok, ixF_list hx, ev_of]
theorem ixP {x y : PyData} (h : A δ = .ok (dT [x, y]) δ) : mOp ixF A (mOk (dI 0)) δ = .ok (.dat x) δ ∧ mOp ixF A (mOk (dI 1)) δ = .ok (.dat y) δ := by
  refine ⟨?_, ?_⟩
  · rw [ev_op, h, bind_ok, kOp_ev, ev_ok, bind_ok, ixF_t0, ev_of]
  · rw [ev_op, h, bind_ok, kOp_ev, ev_ok, bind_ok, ixF_t1, ev_of]
theorem sAdd_ev {x y : Str} (h : x.length + y.length ≤ 1000000) : sAdd (dS x) (dS y) = some (dS (x ++ y)) := by
  show (if x.length + y.length ≤ most then some (dS (x ++ y)) else none) = _
  rw [if_pos (le_most h)]
theorem len_app {x y : Str} : (x ++ y).length = x.length + y.length := by
  rw [len_tl, tl_append, List.length_append, ← len_tl, ← len_tl]
theorem addE {x y : Str} (h1 : A δ = .ok (dS x) δ) (h2 : B δ = .ok (dS y) δ) (hl : x.length + y.length ≤ 1000000) : mOp sAdd A B δ = .ok (dS (x ++ y)) δ := by
  rw [ev_op, h1, bind_ok, kOp_ev, h2, bind_ok, sAdd_ev hl, ev_of]
theorem tl_inj {x y : Str} (h : tl x = tl y) : x = y := PySem.W.str_of_cps h
/-- the words of lines, a blank behind them -/
structure Kw (w wb : Str) : Prop where
  e : wb = w ++ " "
  l : wb.length ≤ 8
theorem kw_people : Kw "people" "people " := ⟨by decide +kernel, by decide +kernel⟩
theorem kw_met : Kw "met" "met " := ⟨by decide +kernel, by decide +kernel⟩
theorem kw_open : Kw "open" "open " := ⟨by decide +kernel, by decide +kernel⟩
theorem line1 {w x : Str} : (w ++ " ") ++ x = lineS [w, x] := by
  apply tl_inj
  unfold lineS
  simp only [join_eq, tl_append, tl_join, List.map_cons, List.map_nil, joinL, List.append_assoc]
theorem line2 {w x y : Str} : (((w ++ " ") ++ x) ++ " ") ++ y = lineS [w, x, y] := by
  apply tl_inj
  unfold lineS
  simp only [join_eq, tl_append, tl_join, List.map_cons, List.map_nil, joinL, List.append_assoc]
theorem lineJ {w x : Str} {xs : List Str} : (w ++ " ") ++ Txt.join " " (x :: xs) = lineS (w :: x :: xs) := by
  apply tl_inj
  unfold lineS
  simp only [join_eq, tl_append, tl_join, List.map_cons, joinL, List.append_assoc]
theorem add1 {w wb x : Str} (k : Kw w wb) (h : A δ = .ok (dS x) δ) (hx : x.length ≤ 8) : mOp sAdd (mOk (dS wb)) A δ = .ok (dS (lineS [w, x])) δ := by
  have := k.l
  rw [addE (A := mOk (dS wb)) rfl h (by omega), k.e, line1]
theorem add2 {w wb x y : Str} (k : Kw w wb) (h1 : A δ = .ok (dS x) δ) (h2 : B δ = .ok (dS y) δ) (hx : x.length ≤ 8) (hy : y.length ≤ 8) : mOp sAdd (mOp sAdd (mOp sAdd (mOk (dS wb)) A) (mOk (dS " "))) B δ = .ok (dS (lineS [w, x, y])) δ := by
  have := k.l
  have b1 : (" " : Str).length = 1 := rfl
  rw [addE (addE (B := mOk (dS " ")) (y := " ") (addE (A := mOk (dS wb)) (x := wb) rfl h1 (by omega)) rfl (by rw [len_app]; omega)) h2 (by rw [len_app, len_app]; omega), k.e, line2]
theorem addJ {w wb x : Str} {xs : List Str} (k : Kw w wb) (h : J δ = .ok (dL ((x :: xs).map .str)) δ) (hx : ∀ y ∈ x :: xs, y.length ≤ 8) (hl : xs.length ≤ 20) : mOp sAdd (mOk (dS wb)) (mM1 joinF (mOk (dS " ")) J) δ = .ok (dS (lineS (w :: x :: xs))) δ := by
  have := k.l
  have j := joinF_ev (a := " ") (ys := x :: xs) (b := 8) (n := 21) hx (by simp; omega) rfl (by decide)
  have l1 := join_len (a := " ") (ys := x :: xs)
  have l2 := sum_le hx
  have b1 : (" " : Str).length = 1 := rfl
  rw [b1, List.length_cons] at l1
  rw [List.length_cons] at l2
  have e : mM1 joinF (mOk (dS " ")) J δ = .ok (dS (Txt.join " " (x :: xs))) δ := by
    rw [ev_m1, ev_ok, bind_ok, kM1_ev, h, bind_ok, j, ev_of]
  rw [addE (A := mOk (dS wb)) (x := wb) rfl e (by omega), k.e, lineJ]
theorem extE {i : Nat} {F : List PyData} {m : M D} (h : ownL δ i = some F) (hm : m δ = .ok (dL xs) δ) (hl : F.length + xs.length ≤ 1000) : mDrop (mExt i (mCons m mNil)) δ = .ok .nx (δ.set i (.ow (dL (F ++ xs)))) := by
  rw [ev_drop, ev_ext, h, ev_of, bind_ok, kOwn_ev, ev_cons, hm, bind_ok, kCons_ev, ev_nil, bind_ok, bind_ok, kExt_ev h (le_most (by omega)), bind_ok]
theorem appE {i : Nat} {F : List PyData} {m : M D} {x : PyData} (h : ownL δ i = some F) (hm : m δ = .ok (.dat x) δ) (hl : F.length ≤ 1000) : mDrop (mApp i (mCons m mNil)) δ = .ok .nx (δ.set i (.ow (dL (F ++ [x])))) := by
  rw [ev_drop, ev_app, h, ev_of, bind_ok, kOwn_ev, ev_cons, hm, bind_ok, kCons_ev, ev_nil, bind_ok, bind_ok, kApp_ev h (Nat.lt_of_le_of_lt hl (by decide)), bind_ok]
end
end Q

open PySem PySem.Spec PyProof.Rows L2 MT DL
local macro_rules | `(tactic| walk_at "ev") => `(tactic| simp -implicitDefEqProofs only [and_self, bind_err, ev_raise, back_err, outR_err, ev_toldM, kTold_ok, kTold_err, ev_meth, kMeth_ev, kMeth2_ev, ev_eqO, kEqO_ev, kEqO2_ev, ev_errV, ev_dnew, bind_ok, bind_stuck, ev_ok, ev_of, ev_seq, kSeq_nx, kSeq_ret, kSeq_bk, kSeq_ct, ev_nx, ev_if, kIf_true, kIf_false, ev_var, kVar_fz, kVar_ow, ev_op, kOp_ev, ev_opB, kOpB_ev, ev_un, ev_chain, kCh_ev, ev_bd, ev_test, asB_b, ev_and, kAnd_t, kAnd_f, ev_or, kOr_t, kOr_f, ev_not, ev_andV, kAndV_t, kAndV_f, ev_orV, kOrV_t, kOrV_f, ev_notV, ev_nil, ev_cons, kCons_ev, ev_tup, ev_lst, ev_cb, ev_ret, ev_retN, ev_drop, ev_never, ev_asg, ev_setF, ev_gN, ev_callf, back_ok, ev_ixP, kIxP_ev, kIxP2_ev, ev_setIx, kSetIx_ev, kSetIx1_ev, ev_callP, kCallP_ev, kCallP2_ev, back1_ok, ev_pop, kOwn_ev, ev_app, ev_ext, ev_lenP, ev_eqP, kEqP_ev, kEqP2_ev, ev_inP, ev_nilO, ev_consF, ev_consO, kConsF_ev, kConsO_ev, ev_par, ev_for, ev_part, kPart_ev, ev_sl, kSl_ev, kSl2_ev, ev_m1, kM1_ev, ev_idx, kIdx_ev, ev_itL, ev_itT, ev_enL, ev_enT, ev_enQ, ev_fld, ev_prop, ev_inO, kInO_ev, kInO2_ev, ev_lenO, kLenO_ev, ev_setA, ev_make, ev_callN,
  List.getElem?_cons_zero, List.getElem?_cons_succ, List.set_cons_zero, List.set_cons_succ, List.append_nil, List.nil_append, List.cons_append, List.length_cons, List.length_nil, if_true, if_false, Nat.reduceAdd, Nat.reduceEqDiff, Nat.zero_add, peek, ownD, ownL, putO, DL.putAll, Option.map_some, Option.bind_some, asDat, asL, asT, as1, asQ, seqD, decide_true, env0, env1, List.map_cons, List.map_nil, List.replicate, Nat.reduceSub, reduceCtorEq, reduceIte, iLt_ev, iLe_ev, iGt_ev, iGe_ev, iAdd_ev, iSub_ev, intF_i, intF_b, minF_ev, maxF_ev, absF_ev, lenF_l, lenF_t, lenF_sc, listF_l, listF_t, tupleF_t, boD_ev, ixF_l0, ixF_l1, ixF_l2, ixF_t0, ixF_t1, ixF_t2, mkTup_0, mkLst_0, mkTup_1, mkLst_1, mkTup_2, mkLst_2, mkTup_3, mkLst_3, mkTup_4, mkLst_4, mkTup_5, mkLst_5, slL_ev, slT_ev, slQ_l, slQ_t, revF_t, revF_l, gsNil_ev, gsCons_ev, out_ret, out_nx, outR_ret, outR_nx, noX_ok])
local macro_rules | `(tactic| walk_at "eva") => `(tactic| simp -implicitDefEqProofs only [and_self, bind_err, ev_raise, back_err, outR_err, ev_toldM, kTold_ok, kTold_err, ev_meth, kMeth_ev, kMeth2_ev, ev_eqO, kEqO_ev, kEqO2_ev, ev_errV, ev_dnew, bind_ok, bind_stuck, ev_ok, ev_of, ev_seq, kSeq_nx, kSeq_ret, kSeq_bk, kSeq_ct, ev_nx, ev_if, kIf_true, kIf_false, ev_var, kVar_fz, kVar_ow, ev_op, kOp_ev, ev_opB, kOpB_ev, ev_un, ev_chain, kCh_ev, ev_bd, ev_test, asB_b, ev_and, kAnd_t, kAnd_f, ev_or, kOr_t, kOr_f, ev_not, ev_andV, kAndV_t, kAndV_f, ev_orV, kOrV_t, kOrV_f, ev_notV, ev_nil, ev_cons, kCons_ev, ev_tup, ev_lst, ev_cb, ev_ret, ev_retN, ev_drop, ev_never, ev_asg, ev_setF, ev_gN, ev_callf, back_ok, ev_ixP, kIxP_ev, kIxP2_ev, ev_setIx, kSetIx_ev, kSetIx1_ev, ev_callP, kCallP_ev, kCallP2_ev, back1_ok, ev_pop, kOwn_ev, ev_app, ev_ext, ev_lenP, ev_eqP, kEqP_ev, kEqP2_ev, ev_inP, ev_nilO, ev_consF, ev_consO, kConsF_ev, kConsO_ev, ev_par, ev_for, ev_part, kPart_ev, ev_sl, kSl_ev, kSl2_ev, ev_m1, kM1_ev, ev_idx, kIdx_ev, ev_itL, ev_itT, ev_enL, ev_enT, ev_enQ, ev_fld, ev_prop, ev_inO, kInO_ev, kInO2_ev, ev_lenO, kLenO_ev, ev_setA, ev_make, ev_callN,
  List.getElem?_cons_zero, List.getElem?_cons_succ, List.set_cons_zero, List.set_cons_succ, List.append_nil, List.nil_append, List.cons_append, List.length_cons, List.length_nil, if_true, if_false, Nat.reduceAdd, Nat.reduceEqDiff, Nat.zero_add, peek, ownD, ownL, putO, DL.putAll, Option.map_some, Option.bind_some, asDat, asL, asT, as1, asQ, seqD, decide_true, env0, env1, List.map_cons, List.map_nil, List.replicate, Nat.reduceSub, reduceCtorEq, reduceIte, iLt_ev, iLe_ev, iGt_ev, iGe_ev, iAdd_ev, iSub_ev, intF_i, intF_b, minF_ev, maxF_ev, absF_ev, lenF_l, lenF_t, lenF_sc, listF_l, listF_t, tupleF_t, boD_ev, ixF_l0, ixF_l1, ixF_l2, ixF_t0, ixF_t1, ixF_t2, mkTup_0, mkLst_0, mkTup_1, mkLst_1, mkTup_2, mkLst_2, mkTup_3, mkLst_3, mkTup_4, mkLst_4, mkTup_5, mkLst_5, slL_ev, slT_ev, slQ_l, slQ_t, revF_t, revF_l, gsNil_ev, gsCons_ev, out_ret, out_nx, outR_ret, outR_nx, noX_ok, Bool.not_true, Bool.not_false, Bool.false_xor, Bool.true_xor, gT2_dat, gT3_dat, gT2_wk, gL3_dat, *])

namespace Q
open DL TL
abbrev P9 : List (Fin 10) := [0, 1, 2, 3, 4, 5, 6, 7, 8]
abbrev P10 : List (Fin 10) := [0, 1, 2, 3, 4, 5, 6, 7, 8, 9]
def nu10 (ns : List Str) (i : Fin 10) : Str := ns.getD i.val ""
theorem nu10_get {ns : List Str} (h : ns.length = 10) (i : Fin 10) : nu10 ns i = ns[i.val]'(by omega) := by
  unfold nu10
  rw [List.getD_eq_getElem?_getD, List.getElem?_eq_getElem (by omega)]
  rfl
theorem nu10_inj {ns : List Str} (h : ns.length = 10) (nd : ns.Nodup) : ∀ i j, nu10 ns i = nu10 ns j → i = j := fun i j e => by
  rw [nu10_get h, nu10_get h] at e
  exact Fin.ext ((List.getElem_inj (h₀ := by omega) (h₁ := by omega) nd).mp e)
theorem nu10_mem {ns : List Str} (h : ns.length = 10) (i : Fin 10) : nu10 ns i ∈ ns := by
  rw [nu10_get h]
  exact List.getElem_mem _
theorem map_nu10 {ns : List Str} (h : ns.length = 10) : P10.map (nu10 ns) = ns := by
  match ns, h with
  | [_, _, _, _, _, _, _, _, _, _], _ => rfl
def pairsG : List (Fin 10) → List (Fin 10 × Fin 10)
  | [] => []
  | x :: xs => xs.map (fun y => (x, y)) ++ pairsG xs
theorem pairsOf_ν {ν : Fin 10 → Str} : ∀ {ps : List (Fin 10)}, pairsOf (ps.map ν) = (pairsG ps).map fun q => (ν q.1, ν q.2)
  | [] => rfl
  | x :: xs => by
    rw [List.map_cons, pairsOf, pairsG, List.map_append, pairsOf_ν, List.map_map, List.map_map]
    rfl
def hdG : Ln := .ppl P9
def metG : List Ln := ((pairsG P9).take 20).map fun q => .met [q.1, q.2]
def opnG : List Ln := (((pairsG P9).drop 20).take 4).map fun q => .opn [q.1, q.2]
abbrev met0 : Ln := .met [0, 1]
abbrev opn0 : Ln := .opn [2, 8]
def strD (ν : Fin 10 → Str) (ls : List Ln) : List PyData := ls.map fun l => .str (lineS (l.ws ν))
theorem rows_strD {ν : Fin 10 → Str} {ls : List Ln} : rowsD (ls.map (Ln.ws ν)) = .list (strD ν ls) := by
  unfold rowsD strD
  rw [List.map_map, List.map_map]
  rfl
theorem strD_app {ν : Fin 10 → Str} {a b : List Ln} : strD ν (a ++ b) = strD ν a ++ strD ν b := by simp [strD]
theorem strD_cons {ν : Fin 10 → Str} {a : Ln} {b : List Ln} : strD ν (a :: b) = .str (lineS (a.ws ν)) :: strD ν b := rfl
theorem strD_nil {ν : Fin 10 → Str} : strD ν [] = [] := rfl
theorem strD_len {ν : Fin 10 → Str} {a : List Ln} : (strD ν a).length = a.length := by simp [strD]
theorem met_one {ν : Fin 10 → Str} : (strD ν metG).take 1 = strD ν [met0] := rfl
theorem opn_one {ν : Fin 10 → Str} : (strD ν opnG).take 1 = strD ν [opn0] := rfl
/-! ### what is let -/
def f1G : List (List Ln) := [(hdG :: metG) ++ opnG, [hdG], [.ppl [0]], [hdG, .met P9], hdG :: opnG, hdG :: List.replicate 20 met0]
def f2G : List (List Ln) := [[hdG, met0, met0, opn0]]
def lnNs : Ln → List (Fin 10)
  | .ppl ns => ns
  | .met ns => ns
  | .opn ns => ns
  | .oth _ => []
def lnsB (ls : List Ln) : Bool := decide (ls.length ≤ 60) && (ls.all (fun l => decide ((lnNs l).length ≤ 20)) && !ls.isEmpty)
theorem f1_ok : ((f1G ++ f2G).all fun ls => lnsB ls && decide (wrongG ls = 0)) = true := by decide +kernel
def badG : List (List Ln × Nat) := [([.ppl P10], 1), ((hdG :: metG) ++ [met0], 22), ([.ppl []], 1), ([.oth false], 1), (metG, 1), ((hdG :: opnG) ++ [.opn [6, 5]], 6),
  ((hdG :: metG) ++ [opn0, opn0], 23), ([hdG, opn0, met0], 3), ([hdG, met0, hdG], 3), ([hdG, met0, .opn [1, 0]], 3), ([hdG, opn0, .opn [8, 2]], 3),
  ([hdG, .met [0]], 2), ([hdG, .met [0, 9]], 2), ([hdG, .met [0, 0]], 2), ([hdG, .met []], 2), ([hdG, .oth false], 2), ([hdG, .opn [0]], 2), ([hdG, .opn [0, 0]], 2), ([hdG, .opn [0, 1, 2]], 2), ([hdG, .oth true], 2)]
theorem bad_ok : (badG.all fun q => lnsB q.1 && decide (wrongG q.1 = q.2 ∧ 0 < q.2)) = true := by decide +kernel
def closedB : List (List Str) := [["people", "abcdefghi"], ["people", "A"], ["people", "a", "a"], ["people", "a1"], ["people", "", "a"], ["people", "a", ""], ["", "people", "a"], ["a"]]
def closedL : List Str := ["people abcdefghi", "people A", "people a a", "people a1", "people  a", "people a ", " people a", "a"]
theorem closed_eq : closedB.map lineS = closedL := by decide +kernel
theorem closed_ok : (closedB.all fun ws => ws.all wrdB && decide (wrongW [ws] = 1) && decide (ws ≠ [] ∧ ws.length ≤ 30)) = true := by decide +kernel
theorem closed_fine : ((["people", "abcdefgh", "z"] : List Str).all wrdB && decide (wrongW [["people", "abcdefgh", "z"]] = 0)) = true := by decide +kernel
theorem closed_line : lineS ["people", "abcdefgh", "z"] = "people abcdefgh z" := by decide +kernel
theorem kw_wrd : (wrdB "Met" && (wrdB "a" && (wrdB "b" && wrdB ""))) = true := by decide +kernel
section
variable {ν : Fin 10 → Str} (cl : ∀ i, Clean (ν i))
include cl
theorem rowsG_ok {ls : List Ln} (h : lnsB ls = true) : RowsW (ls.map (Ln.ws ν)) ∧ ls.map (Ln.ws ν) ≠ [] := by
  unfold lnsB at h
  simp only [Bool.and_eq_true, decide_eq_true_eq, List.all_eq_true] at h
  obtain ⟨h1, h2, h3⟩ := h
  have kw := kw_wrd
  simp only [Bool.and_eq_true] at kw
  obtain ⟨k1, k2, k3, k4⟩ := kw
  refine ⟨⟨fun ws hws => ?_, by rw [List.length_map]; exact h1⟩, fun z => ?_⟩
  · obtain ⟨l, hl, rfl⟩ := List.mem_map.mp hws
    have hn := h2 l hl
    have key : ∀ (w : Str) (ns : List (Fin 10)), Wrd w → ns.length ≤ 20 → (w :: ns.map ν) ≠ [] ∧ (∀ x ∈ (w :: ns.map ν), Wrd x) ∧ (w :: ns.map ν).length ≤ 30 := fun w ns hw hl => by
      refine ⟨by simp, fun x hx => ?_, by simp; omega⟩
      rcases List.mem_cons.mp hx with rfl | hx
      · exact hw
      · obtain ⟨i, _, rfl⟩ := List.mem_map.mp hx
        exact (cl i).wrd
    cases l with
    | ppl ns => exact key _ ns clean_people.wrd hn
    | met ns => exact key _ ns clean_met.wrd hn
    | opn ns => exact key _ ns clean_open.wrd hn
    | oth b =>
      cases b with
      | true =>
        refine ⟨by simp [Ln.ws], fun x hx => ?_, by simp [Ln.ws]⟩
        have hx : x ∈ (["Met", "a", "b"] : List Str) := hx
        simp only [List.mem_cons, List.not_mem_nil, or_false] at hx
        rcases hx with rfl | rfl | rfl
        · exact wrd_of k1
        · exact wrd_of k2
        · exact wrd_of k3
      | false =>
        refine ⟨by simp [Ln.ws], fun x hx => ?_, by simp [Ln.ws]⟩
        have hx : x ∈ ([""] : List Str) := hx
        rw [List.mem_singleton.mp hx]
        exact wrd_of k4
  · cases ls with
    | nil => simp at h3
    | cons l ls => simp at z
end
theorem one_ok {ws : List Str} (h1 : ws.all wrdB = true) (h2 : ws ≠ [] ∧ ws.length ≤ 30) : RowsW [ws] := ⟨fun x hx => by
  rw [List.mem_singleton.mp hx]
  exact ⟨h2.1, fun w hw => wrd_of (List.all_eq_true.mp h1 w hw), h2.2⟩, by simp⟩
def fineR (ν : Fin 10 → Str) : List (List (List Str)) := f1G.map (List.map (Ln.ws ν)) ++ ([[(["people", "abcdefgh", "z"] : List Str)]] ++ f2G.map (List.map (Ln.ws ν)))
def badR (ν : Fin 10 → Str) : List (List (List Str) × Nat) := badG.map (fun q => (q.1.map (Ln.ws ν), q.2)) ++ closedB.map fun ws => ([ws], 1)
def encB (q : List (List Str) × Nat) : PyData := .tuple [rowsD q.1, .int (q.2 : Nat)]
section
variable {ν : Fin 10 → Str} (cl : ∀ i, Clean (ν i)) (inj : ∀ i j, ν i = ν j → i = j) (nm : ∀ i, nameB (ν i) = true)
include cl inj nm
theorem fineR_ok : ∀ r ∈ fineR ν, f_l_is_let [.dat (rowsD r)] = .ok (dB true) := by
  have gen : ∀ ls ∈ f1G ++ f2G, f_l_is_let [.dat (rowsD (ls.map (Ln.ws ν)))] = .ok (dB true) := fun ls hls => by
    have h := List.all_eq_true.mp f1_ok ls hls
    rw [Bool.and_eq_true] at h
    obtain ⟨R, r0⟩ := rowsG_ok cl h.1
    exact let_ev R r0 ((wrongG_ev inj nm).trans (of_decide_eq_true h.2))
  intro r hr
  unfold fineR at hr
  rcases List.mem_append.mp hr with hr | hr
  · obtain ⟨ls, hls, rfl⟩ := List.mem_map.mp hr
    exact gen ls (List.mem_append_left _ hls)
  · rcases List.mem_append.mp hr with hr | hr
    · rw [List.mem_singleton.mp hr]
      have h := closed_fine
      rw [Bool.and_eq_true] at h
      exact let_ev (one_ok h.1 ⟨by simp, by decide⟩) (by simp) (of_decide_eq_true h.2)
    · obtain ⟨ls, hls, rfl⟩ := List.mem_map.mp hr
      exact gen ls (List.mem_append_right _ hls)
theorem badR_ok : ∀ q ∈ badR ν, f_l_is_refused [.dat (rowsD q.1), dI (q.2 : Nat)] = .ok (dB true) := by
  intro q hq
  unfold badR at hq
  rcases List.mem_append.mp hq with hq | hq
  · obtain ⟨x, hx, rfl⟩ := List.mem_map.mp hq
    have h := List.all_eq_true.mp bad_ok x hx
    rw [Bool.and_eq_true] at h
    obtain ⟨R, r0⟩ := rowsG_ok cl h.1
    have h2 := of_decide_eq_true h.2
    exact refused_ev R r0 ((wrongG_ev inj nm).trans h2.1) h2.2
  · obtain ⟨ws, hws, rfl⟩ := List.mem_map.mp hq
    have h := List.all_eq_true.mp closed_ok ws hws
    rw [Bool.and_eq_true, Bool.and_eq_true] at h
    exact refused_ev (one_ok h.1.1 (of_decide_eq_true h.2)) (by simp) (of_decide_eq_true h.1.2) (Nat.one_pos)
end
end Q

open PySem PySem.Spec PyProof.Rows L2 MT DL
local macro_rules | `(tactic| walk_at "ev") => `(tactic| simp -implicitDefEqProofs only [and_self, bind_err, ev_raise, back_err, outR_err, ev_toldM, kTold_ok, kTold_err, ev_meth, kMeth_ev, kMeth2_ev, ev_eqO, kEqO_ev, kEqO2_ev, ev_errV, ev_dnew, bind_ok, bind_stuck, ev_ok, ev_of, ev_seq, kSeq_nx, kSeq_ret, kSeq_bk, kSeq_ct, ev_nx, ev_if, kIf_true, kIf_false, ev_var, kVar_fz, kVar_ow, ev_op, kOp_ev, ev_opB, kOpB_ev, ev_un, ev_chain, kCh_ev, ev_bd, ev_test, asB_b, ev_and, kAnd_t, kAnd_f, ev_or, kOr_t, kOr_f, ev_not, ev_andV, kAndV_t, kAndV_f, ev_orV, kOrV_t, kOrV_f, ev_notV, ev_nil, ev_cons, kCons_ev, ev_tup, ev_lst, ev_cb, ev_ret, ev_retN, ev_drop, ev_never, ev_asg, ev_setF, ev_gN, ev_callf, back_ok, ev_ixP, kIxP_ev, kIxP2_ev, ev_setIx, kSetIx_ev, kSetIx1_ev, ev_callP, kCallP_ev, kCallP2_ev, back1_ok, ev_pop, kOwn_ev, ev_app, ev_ext, ev_lenP, ev_eqP, kEqP_ev, kEqP2_ev, ev_inP, ev_nilO, ev_consF, ev_consO, kConsF_ev, kConsO_ev, ev_par, ev_for, ev_part, kPart_ev, ev_sl, kSl_ev, kSl2_ev, ev_m1, kM1_ev, ev_idx, kIdx_ev, ev_itL, ev_itT, ev_enL, ev_enT, ev_enQ, ev_fld, ev_prop, ev_inO, kInO_ev, kInO2_ev, ev_lenO, kLenO_ev, ev_setA, ev_make, ev_callN,
  List.getElem?_cons_zero, List.getElem?_cons_succ, List.set_cons_zero, List.set_cons_succ, List.append_nil, List.nil_append, List.cons_append, List.length_cons, List.length_nil, if_true, if_false, Nat.reduceAdd, Nat.reduceEqDiff, Nat.zero_add, peek, ownD, ownL, putO, DL.putAll, Option.map_some, Option.bind_some, asDat, asL, asT, as1, asQ, seqD, decide_true, env0, env1, List.map_cons, List.map_nil, List.replicate, Nat.reduceSub, reduceCtorEq, reduceIte, iLt_ev, iLe_ev, iGt_ev, iGe_ev, iAdd_ev, iSub_ev, intF_i, intF_b, minF_ev, maxF_ev, absF_ev, lenF_l, lenF_t, lenF_sc, listF_l, listF_t, tupleF_t, boD_ev, ixF_l0, ixF_l1, ixF_l2, ixF_t0, ixF_t1, ixF_t2, mkTup_0, mkLst_0, mkTup_1, mkLst_1, mkTup_2, mkLst_2, mkTup_3, mkLst_3, mkTup_4, mkLst_4, mkTup_5, mkLst_5, slL_ev, slT_ev, slQ_l, slQ_t, revF_t, revF_l, gsNil_ev, gsCons_ev, out_ret, out_nx, outR_ret, outR_nx, noX_ok])
local macro_rules | `(tactic| walk_at "eva") => `(tactic| simp -implicitDefEqProofs only [and_self, bind_err, ev_raise, back_err, outR_err, ev_toldM, kTold_ok, kTold_err, ev_meth, kMeth_ev, kMeth2_ev, ev_eqO, kEqO_ev, kEqO2_ev, ev_errV, ev_dnew, bind_ok, bind_stuck, ev_ok, ev_of, ev_seq, kSeq_nx, kSeq_ret, kSeq_bk, kSeq_ct, ev_nx, ev_if, kIf_true, kIf_false, ev_var, kVar_fz, kVar_ow, ev_op, kOp_ev, ev_opB, kOpB_ev, ev_un, ev_chain, kCh_ev, ev_bd, ev_test, asB_b, ev_and, kAnd_t, kAnd_f, ev_or, kOr_t, kOr_f, ev_not, ev_andV, kAndV_t, kAndV_f, ev_orV, kOrV_t, kOrV_f, ev_notV, ev_nil, ev_cons, kCons_ev, ev_tup, ev_lst, ev_cb, ev_ret, ev_retN, ev_drop, ev_never, ev_asg, ev_setF, ev_gN, ev_callf, back_ok, ev_ixP, kIxP_ev, kIxP2_ev, ev_setIx, kSetIx_ev, kSetIx1_ev, ev_callP, kCallP_ev, kCallP2_ev, back1_ok, ev_pop, kOwn_ev, ev_app, ev_ext, ev_lenP, ev_eqP, kEqP_ev, kEqP2_ev, ev_inP, ev_nilO, ev_consF, ev_consO, kConsF_ev, kConsO_ev, ev_par, ev_for, ev_part, kPart_ev, ev_sl, kSl_ev, kSl2_ev, ev_m1, kM1_ev, ev_idx, kIdx_ev, ev_itL, ev_itT, ev_enL, ev_enT, ev_enQ, ev_fld, ev_prop, ev_inO, kInO_ev, kInO2_ev, ev_lenO, kLenO_ev, ev_setA, ev_make, ev_callN,
  List.getElem?_cons_zero, List.getElem?_cons_succ, List.set_cons_zero, List.set_cons_succ, List.append_nil, List.nil_append, List.cons_append, List.length_cons, List.length_nil, if_true, if_false, Nat.reduceAdd, Nat.reduceEqDiff, Nat.zero_add, peek, ownD, ownL, putO, DL.putAll, Option.map_some, Option.bind_some, asDat, asL, asT, as1, asQ, seqD, decide_true, env0, env1, List.map_cons, List.map_nil, List.replicate, Nat.reduceSub, reduceCtorEq, reduceIte, iLt_ev, iLe_ev, iGt_ev, iGe_ev, iAdd_ev, iSub_ev, intF_i, intF_b, minF_ev, maxF_ev, absF_ev, lenF_l, lenF_t, lenF_sc, listF_l, listF_t, tupleF_t, boD_ev, ixF_l0, ixF_l1, ixF_l2, ixF_t0, ixF_t1, ixF_t2, mkTup_0, mkLst_0, mkTup_1, mkLst_1, mkTup_2, mkLst_2, mkTup_3, mkLst_3, mkTup_4, mkLst_4, mkTup_5, mkLst_5, slL_ev, slT_ev, slQ_l, slQ_t, revF_t, revF_l, gsNil_ev, gsCons_ev, out_ret, out_nx, outR_ret, outR_nx, noX_ok, Bool.not_true, Bool.not_false, Bool.false_xor, Bool.true_xor, gT2_dat, gT3_dat, gT2_wk, gL3_dat, *])

namespace Q
open DL TL
def t0 : M Out := (mAsg (mCallP 1 f_l_names 0 (mCons (mOk (.dat (.int 10))) mNil)) (gN 1))
def t1 : M Out := (mPar [2, 3] (mConsF (mOp sAdd (mOk (.dat (.str "people "))) (mM1 joinF (mOk (.dat (.str " "))) (mSl slL (mVar 1) (mOk none) (mPart (mOk (.dat (.int 9))))))) (mConsF (mCall 1 f_l_pairs [] (mCons (mSl slL (mVar 1) (mOk none) (mPart (mOk (.dat (.int 9))))) mNil)) mNilO)))
def t2 : M Out := (mAsg (mLc [5, 6] (mItL (mSl slL (mVar 3) (mOk none) (mPart (mOk (.dat (.int 20)))))) (gT 2 (gsCons (gN 5) (gsCons (gN 6) gsNil))) mYes (mOp sAdd (mOp sAdd (mOp sAdd (mOk (.dat (.str "met "))) (mVar 5)) (mOk (.dat (.str " ")))) (mVar 6))) (gN 4))
def t3 : M Out := (mAsg (mLc [5, 6] (mItL (mSl slL (mVar 3) (mPart (mOk (.dat (.int 20)))) (mPart (mOk (.dat (.int 24)))))) (gT 2 (gsCons (gN 5) (gsCons (gN 6) gsNil))) mYes (mOp sAdd (mOp sAdd (mOp sAdd (mOk (.dat (.str "open "))) (mVar 5)) (mOk (.dat (.str " ")))) (mVar 6))) (gN 7))
def t4 : M Out := (mSetF 8 (mLst (mCons (mOp lCat (mOp lCat (mLst (mCons (mVar 2) mNil)) (mVar 4)) (mVar 7)) (mCons (mLst (mCons (mVar 2) mNil)) (mCons (mLst (mCons (mOp sAdd (mOk (.dat (.str "people "))) (mOp ixF (mVar 1) (mOk (.dat (.int 0))))) mNil)) (mCons (mLst (mCons (mVar 2) (mCons (mOp sAdd (mOk (.dat (.str "met "))) (mM1 joinF (mOk (.dat (.str " "))) (mSl slL (mVar 1) (mOk none) (mPart (mOk (.dat (.int 9))))))) mNil))) (mCons (mOp lCat (mLst (mCons (mVar 2) mNil)) (mVar 7)) mNil)))))))
def t5 : M Out := (mDrop (mExt 8 (mCons (mLst (mCons (mOp lCat (mLst (mCons (mVar 2) mNil)) (mOp lRep (mSl slL (mVar 4) (mOk none) (mPart (mOk (.dat (.int 1))))) (mOk (.dat (.int 20))))) (mCons (mLst (mCons (mOk (.dat (.str "people abcdefgh z"))) mNil)) (mCons (mOp lCat (mOp lCat (mOp lCat (mLst (mCons (mVar 2) mNil)) (mSl slL (mVar 4) (mOk none) (mPart (mOk (.dat (.int 1)))))) (mSl slL (mVar 4) (mOk none) (mPart (mOk (.dat (.int 1)))))) (mSl slL (mVar 7) (mOk none) (mPart (mOk (.dat (.int 1)))))) mNil)))) mNil)))
def t6 : M Out := (mIf (mNot (mTest (mCB allF (mCons (mLc [9] (mItL (mVar 8)) (gN 9) mYes (mCall 1 f_l_is_let [] (mCons (mVar 9) mNil))) mNil)))) (mRet (mOk (.dat (.bool false)))) mNx)
def t7 : M Out := (mSetF 10 (mLst (mCons (mTup (mCons (mLst (mCons (mOp sAdd (mOk (.dat (.str "people "))) (mM1 joinF (mOk (.dat (.str " "))) (mVar 1))) mNil)) (mCons (mOk (.dat (.int 1))) mNil))) (mCons (mTup (mCons (mOp lCat (mOp lCat (mLst (mCons (mVar 2) mNil)) (mVar 4)) (mSl slL (mVar 4) (mOk none) (mPart (mOk (.dat (.int 1)))))) (mCons (mOk (.dat (.int 22))) mNil))) (mCons (mTup (mCons (mLst (mCons (mOk (.dat (.str "people"))) mNil)) (mCons (mOk (.dat (.int 1))) mNil))) (mCons (mTup (mCons (mLst (mCons (mOk (.dat (.str ""))) mNil)) (mCons (mOk (.dat (.int 1))) mNil))) (mCons (mTup (mCons (mVar 4) (mCons (mOk (.dat (.int 1))) mNil))) mNil)))))))
def t8 : M Out := (mDrop (mApp 10 (mCons (mTup (mCons (mOp lCat (mOp lCat (mLst (mCons (mVar 2) mNil)) (mVar 7)) (mLst (mCons (mOp sAdd (mOp sAdd (mOp sAdd (mOk (.dat (.str "open "))) (mOp ixF (mOp ixF (mVar 3) (mOk (.dat (.int 30)))) (mOk (.dat (.int 1))))) (mOk (.dat (.str " ")))) (mOp ixF (mOp ixF (mVar 3) (mOk (.dat (.int 30)))) (mOk (.dat (.int 0))))) mNil))) (mCons (mOk (.dat (.int 6))) mNil))) mNil)))
def t9 : M Out := (mDrop (mExt 10 (mCons (mLst (mCons (mTup (mCons (mOp lCat (mOp lCat (mLst (mCons (mVar 2) mNil)) (mVar 4)) (mOp lRep (mSl slL (mVar 7) (mOk none) (mPart (mOk (.dat (.int 1))))) (mOk (.dat (.int 2))))) (mCons (mOk (.dat (.int 23))) mNil))) (mCons (mTup (mCons (mOp lCat (mOp lCat (mLst (mCons (mVar 2) mNil)) (mSl slL (mVar 7) (mOk none) (mPart (mOk (.dat (.int 1)))))) (mSl slL (mVar 4) (mOk none) (mPart (mOk (.dat (.int 1)))))) (mCons (mOk (.dat (.int 3))) mNil))) (mCons (mTup (mCons (mOp lCat (mOp lCat (mLst (mCons (mVar 2) mNil)) (mSl slL (mVar 4) (mOk none) (mPart (mOk (.dat (.int 1)))))) (mLst (mCons (mVar 2) mNil))) (mCons (mOk (.dat (.int 3))) mNil))) mNil)))) mNil)))
def t10 : M Out := (mDrop (mApp 10 (mCons (mTup (mCons (mLst (mCons (mVar 2) (mCons (mOp ixF (mVar 4) (mOk (.dat (.int 0)))) (mCons (mOp sAdd (mOp sAdd (mOp sAdd (mOk (.dat (.str "open "))) (mOp ixF (mOp ixF (mVar 3) (mOk (.dat (.int 0)))) (mOk (.dat (.int 1))))) (mOk (.dat (.str " ")))) (mOp ixF (mOp ixF (mVar 3) (mOk (.dat (.int 0)))) (mOk (.dat (.int 0))))) mNil)))) (mCons (mOk (.dat (.int 3))) mNil))) mNil)))
def t11 : M Out := (mDrop (mApp 10 (mCons (mTup (mCons (mOp lCat (mOp lCat (mLst (mCons (mVar 2) mNil)) (mSl slL (mVar 7) (mOk none) (mPart (mOk (.dat (.int 1)))))) (mLst (mCons (mOp sAdd (mOp sAdd (mOp sAdd (mOk (.dat (.str "open "))) (mOp ixF (mOp ixF (mVar 3) (mOk (.dat (.int 20)))) (mOk (.dat (.int 1))))) (mOk (.dat (.str " ")))) (mOp ixF (mOp ixF (mVar 3) (mOk (.dat (.int 20)))) (mOk (.dat (.int 0))))) mNil))) (mCons (mOk (.dat (.int 3))) mNil))) mNil)))
def t12 : M Out := (mFor (mItT (mTup (mCons (mOp sAdd (mOk (.dat (.str "met "))) (mOp ixF (mVar 1) (mOk (.dat (.int 0))))) (mCons (mOp sAdd (mOp sAdd (mOp sAdd (mOk (.dat (.str "met "))) (mOp ixF (mVar 1) (mOk (.dat (.int 0))))) (mOk (.dat (.str " ")))) (mOp ixF (mVar 1) (mOk (.dat (.int 9))))) (mCons (mOp sAdd (mOp sAdd (mOp sAdd (mOk (.dat (.str "met "))) (mOp ixF (mVar 1) (mOk (.dat (.int 0))))) (mOk (.dat (.str " ")))) (mOp ixF (mVar 1) (mOk (.dat (.int 0))))) (mCons (mOk (.dat (.str "met"))) (mCons (mOk (.dat (.str ""))) mNil))))))) (gN 11) (mDrop (mApp 10 (mCons (mTup (mCons (mLst (mCons (mVar 2) (mCons (mVar 11) mNil))) (mCons (mOk (.dat (.int 2))) mNil))) mNil))))
def t13 : M Out := (mFor (mItT (mTup (mCons (mOp sAdd (mOk (.dat (.str "open "))) (mOp ixF (mVar 1) (mOk (.dat (.int 0))))) (mCons (mOp sAdd (mOp sAdd (mOp sAdd (mOk (.dat (.str "open "))) (mOp ixF (mVar 1) (mOk (.dat (.int 0))))) (mOk (.dat (.str " ")))) (mOp ixF (mVar 1) (mOk (.dat (.int 0))))) (mCons (mOp sAdd (mOk (.dat (.str "open "))) (mM1 joinF (mOk (.dat (.str " "))) (mSl slL (mVar 1) (mOk none) (mPart (mOk (.dat (.int 3))))))) (mCons (mOk (.dat (.str "Met a b"))) mNil)))))) (gN 11) (mDrop (mApp 10 (mCons (mTup (mCons (mLst (mCons (mVar 2) (mCons (mVar 11) mNil))) (mCons (mOk (.dat (.int 2))) mNil))) mNil))))
def t14 : M Out := (mFor (mItT (mTup (mCons (mOk (.dat (.str "people abcdefghi"))) (mCons (mOk (.dat (.str "people A"))) (mCons (mOk (.dat (.str "people a a"))) (mCons (mOk (.dat (.str "people a1"))) (mCons (mOk (.dat (.str "people  a"))) (mCons (mOk (.dat (.str "people a "))) (mCons (mOk (.dat (.str " people a"))) (mCons (mOk (.dat (.str "a"))) mNil)))))))))) (gN 11) (mDrop (mApp 10 (mCons (mTup (mCons (mLst (mCons (mVar 11) mNil)) (mCons (mOk (.dat (.int 1))) mNil))) mNil))))
def t15 : M Out := (mRet (mCB allF (mCons (mLc [9, 12] (mItL (mVar 10)) (gT 2 (gsCons (gN 9) (gsCons (gN 12) gsNil))) mYes (mCall 2 f_l_is_refused [] (mCons (mVar 9) (mCons (mVar 12) mNil)))) mNil)))
theorem m_right_eq : m_l_right = mSeq t0 (mSeq t1 (mSeq t2 (mSeq t3 (mSeq t4 (mSeq t5 (mSeq t6 (mSeq t7 (mSeq t8 (mSeq t9 (mSeq t10 (mSeq t11 (mSeq t12 (mSeq t13 (mSeq t14 t15)))))))))))))) := rfl
section
variable (ν : Fin 10 → Str)
def NS : List PyData := (P10.map ν).map .str
def HH : Str := lineS (hdG.ws ν)
def PR : List PyData := (pairsG P9).map fun q => pairD (ν q.1, ν q.2)
def MM : List PyData := strD ν metG
def OO : List PyData := strD ν opnG
abbrev E4 (p : D) (s8 s9 s10 s11 s12 : SV) : DL.Env := [.io p, .fz (dL (NS ν)), .fz (dS (HH ν)), .fz (dL (PR ν)), .fz (dL (MM ν)), .no, .no, .fz (dL (OO ν)), s8, s9, s10, s11, s12]
end
section
variable {ν : Fin 10 → Str} {p p1 : D} {s8 s9 s10 s11 s12 : SV} (ln : ∀ i, (ν i).length ≤ 8)
theorem itE {δ : DL.Env} {A : M D} {xs : List PyData} (h : A δ = .ok (dL xs) δ) : mItL A δ = .ok (dats xs) δ := by
  rw [ev_itL, h, bind_ok]
  rfl
theorem nine_str : (NS ν).take 9 = ((ν 0) :: ([1, 2, 3, 4, 5, 6, 7, 8] : List (Fin 10)).map ν).map .str := rfl
theorem ten_str : NS ν = ((ν 0) :: ([1, 2, 3, 4, 5, 6, 7, 8, 9] : List (Fin 10)).map ν).map .str := rfl
theorem three_str : (NS ν).take 3 = ((ν 0) :: ([1, 2] : List (Fin 10)).map ν).map .str := rfl
include ln
theorem ln_all {x : Fin 10} {xs : List (Fin 10)} : ∀ y ∈ ν x :: xs.map ν, y.length ≤ 8 := fun y hy => by
  rcases List.mem_cons.mp hy with rfl | hy
  · exact ln x
  · obtain ⟨i, _, rfl⟩ := List.mem_map.mp hy
    exact ln i
theorem t1_ev : t1 [.io p, .fz (dL (NS ν)), .no, .no, .no, .no, .no, .no, .no, .no, .no, .no, .no] = .ok .nx [.io p, .fz (dL (NS ν)), .fz (dS (HH ν)), .fz (dL (PR ν)), .no, .no, .no, .no, .no, .no, .no, .no, .no] := by
  have j0 : (mSl slL (mVar 1) (mOk none) (mPart (mOk (dI 9)))) [.io p, .fz (dL (NS ν)), .no, .no, .no, .no, .no, .no, .no, .no, .no, .no, .no] = .ok (dL ((NS ν).take 9)) [.io p, .fz (dL (NS ν)), .no, .no, .no, .no, .no, .no, .no, .no, .no, .no, .no] := slTo (k := 9) (A := mVar 1) rfl
  have j1 := addJ kw_people (nine_str (ν := ν) ▸ j0) (ln_all ln) (by simp)
  have pl := l_pairs_ev (people := P9.map ν) (by simp)
  rw [pairsOf_ν, List.map_map] at pl
  replace pl : f_l_pairs [dL ((NS ν).take 9)] = .ok (dL (PR ν)) := pl
  have j2 : (mCall 1 f_l_pairs [] (mCons (mSl slL (mVar 1) (mOk none) (mPart (mOk (dI 9)))) mNil)) [.io p, .fz (dL (NS ν)), .no, .no, .no, .no, .no, .no, .no, .no, .no, .no, .no] = .ok (dL (PR ν)) [.io p, .fz (dL (NS ν)), .no, .no, .no, .no, .no, .no, .no, .no, .no, .no, .no] := by
    rw [ev_callf, ev_cons, j0, bind_ok, kCons_ev, ev_nil, bind_ok, bind_ok, List.append_nil]
    have hl : [dL ((NS ν).take 9)].length = 1 := rfl
    rw [if_pos hl, pl, back_ok]
  unfold t1
  rw [ev_par, ev_consF, j1, bind_ok, kConsF_ev, ev_consF, j2, bind_ok, kConsF_ev, ev_nilO, bind_ok, bind_ok, bind_ok]
  rfl
theorem comp_ev {w wb : Str} {δ : DL.Env} {m : M (List D)} {xs : List (Fin 10 × Fin 10)} {s4 s7 : SV} (k : Kw w wb) (hm : m [.io p, .fz (dL (NS ν)), .fz (dS (HH ν)), .fz (dL (PR ν)), s4, .no, .no, s7, .no, .no, .no, .no, .no] = .ok (dats (xs.map fun q => pairD (ν q.1, ν q.2))) [.io p, .fz (dL (NS ν)), .fz (dS (HH ν)), .fz (dL (PR ν)), s4, .no, .no, s7, .no, .no, .no, .no, .no]) (hl : xs.length ≤ 100) :
    (mLc [5, 6] m (gT 2 (gsCons (gN 5) (gsCons (gN 6) gsNil))) mYes (mOp sAdd (mOp sAdd (mOp sAdd (mOk (dS wb)) (mVar 5)) (mOk (dS " "))) (mVar 6))) [.io p, .fz (dL (NS ν)), .fz (dS (HH ν)), .fz (dL (PR ν)), s4, .no, .no, s7, .no, .no, .no, .no, .no] = .ok (dL (xs.map fun q => .str (lineS [w, ν q.1, ν q.2]))) [.io p, .fz (dL (NS ν)), .fz (dS (HH ν)), .fz (dL (PR ν)), s4, .no, .no, s7, .no, .no, .no, .no, .no] := by
  refine ev_lcA (enc := fun q : Fin 10 × Fin 10 => D.dat (pairD (ν q.1, ν q.2))) (h := fun q => .str (lineS [w, ν q.1, ν q.2])) (xs := xs) (δ1 := [.io p, .fz (dL (NS ν)), .fz (dS (HH ν)), .fz (dL (PR ν)), s4, .no, .no, s7, .no, .no, .no, .no, .no]) (by rw [hm, dats_map]) (le_most (by omega)) rfl rfl fun q _ => ⟨[.io p, .fz (dL (NS ν)), .fz (dS (HH ν)), .fz (dL (PR ν)), s4, .fz (dS (ν q.1)), .fz (dS (ν q.2)), s7, .no, .no, .no, .no, .no], [.io p, .fz (dL (NS ν)), .fz (dS (HH ν)), .fz (dL (PR ν)), s4, .fz (dS (ν q.1)), .fz (dS (ν q.2)), s7, .no, .no, .no, .no, .no], rfl, add2 k rfl rfl (ln _) (ln _), rfl⟩
theorem t2_ev : t2 [.io p, .fz (dL (NS ν)), .fz (dS (HH ν)), .fz (dL (PR ν)), .no, .no, .no, .no, .no, .no, .no, .no, .no] = .ok .nx [.io p, .fz (dL (NS ν)), .fz (dS (HH ν)), .fz (dL (PR ν)), .fz (dL (MM ν)), .no, .no, .no, .no, .no, .no, .no, .no] := by
  have c := comp_ev (p := p) ln (δ := []) (xs := (pairsG P9).take 20) (s4 := .no) (s7 := .no) (m := (mItL (mSl slL (mVar 3) (mOk none) (mPart (mOk (dI 20)))))) kw_met (by
    refine (itE (δ := [.io p, .fz (dL (NS ν)), .fz (dS (HH ν)), .fz (dL (PR ν)), .no, .no, .no, .no, .no, .no, .no, .no, .no]) (slTo (k := 20) (A := mVar 3) (xs := PR ν) rfl)).trans ?_
    rw [List.map_take]
    rfl) (by decide)
  unfold t2
  rw [ev_asg, c, bind_ok]
  rfl
theorem t3_ev : t3 [.io p, .fz (dL (NS ν)), .fz (dS (HH ν)), .fz (dL (PR ν)), .fz (dL (MM ν)), .no, .no, .no, .no, .no, .no, .no, .no] = .ok .nx (E4 ν p .no .no .no .no .no) := by
  have c := comp_ev (p := p) ln (δ := []) (xs := ((pairsG P9).drop 20).take 4) (s4 := .fz (dL (MM ν))) (s7 := .no) (m := (mItL (mSl slL (mVar 3) (mPart (mOk (dI 20))) (mPart (mOk (dI 24)))))) kw_open rfl (by decide)
  unfold t3
  rw [ev_asg, c, bind_ok]
  rfl
end
end Q

open PySem PySem.Spec PyProof.Rows L2 MT DL
local macro_rules | `(tactic| walk_at "ev") => `(tactic| simp -implicitDefEqProofs only [and_self, bind_err, ev_raise, back_err, outR_err, ev_toldM, kTold_ok, kTold_err, ev_meth, kMeth_ev, kMeth2_ev, ev_eqO, kEqO_ev, kEqO2_ev, ev_errV, ev_dnew, bind_ok, bind_stuck, ev_ok, ev_of, ev_seq, kSeq_nx, kSeq_ret, kSeq_bk, kSeq_ct, ev_nx, ev_if, kIf_true, kIf_false, ev_var, kVar_fz, kVar_ow, ev_op, kOp_ev, ev_opB, kOpB_ev, ev_un, ev_chain, kCh_ev, ev_bd, ev_test, asB_b, ev_and, kAnd_t, kAnd_f, ev_or, kOr_t, kOr_f, ev_not, ev_andV, kAndV_t, kAndV_f, ev_orV, kOrV_t, kOrV_f, ev_notV, ev_nil, ev_cons, kCons_ev, ev_tup, ev_lst, ev_cb, ev_ret, ev_retN, ev_drop, ev_never, ev_asg, ev_setF, ev_gN, ev_callf, back_ok, ev_ixP, kIxP_ev, kIxP2_ev, ev_setIx, kSetIx_ev, kSetIx1_ev, ev_callP, kCallP_ev, kCallP2_ev, back1_ok, ev_pop, kOwn_ev, ev_app, ev_ext, ev_lenP, ev_eqP, kEqP_ev, kEqP2_ev, ev_inP, ev_nilO, ev_consF, ev_consO, kConsF_ev, kConsO_ev, ev_par, ev_for, ev_part, kPart_ev, ev_sl, kSl_ev, kSl2_ev, ev_m1, kM1_ev, ev_idx, kIdx_ev, ev_itL, ev_itT, ev_enL, ev_enT, ev_enQ, ev_fld, ev_prop, ev_inO, kInO_ev, kInO2_ev, ev_lenO, kLenO_ev, ev_setA, ev_make, ev_callN,
  List.getElem?_cons_zero, List.getElem?_cons_succ, List.set_cons_zero, List.set_cons_succ, List.append_nil, List.nil_append, List.cons_append, List.length_cons, List.length_nil, if_true, if_false, Nat.reduceAdd, Nat.reduceEqDiff, Nat.zero_add, peek, ownD, ownL, putO, DL.putAll, Option.map_some, Option.bind_some, asDat, asL, asT, as1, asQ, seqD, decide_true, env0, env1, List.map_cons, List.map_nil, List.replicate, Nat.reduceSub, reduceCtorEq, reduceIte, iLt_ev, iLe_ev, iGt_ev, iGe_ev, iAdd_ev, iSub_ev, intF_i, intF_b, minF_ev, maxF_ev, absF_ev, lenF_l, lenF_t, lenF_sc, listF_l, listF_t, tupleF_t, boD_ev, ixF_l0, ixF_l1, ixF_l2, ixF_t0, ixF_t1, ixF_t2, mkTup_0, mkLst_0, mkTup_1, mkLst_1, mkTup_2, mkLst_2, mkTup_3, mkLst_3, mkTup_4, mkLst_4, mkTup_5, mkLst_5, slL_ev, slT_ev, slQ_l, slQ_t, revF_t, revF_l, gsNil_ev, gsCons_ev, out_ret, out_nx, outR_ret, outR_nx, noX_ok])
local macro_rules | `(tactic| walk_at "eva") => `(tactic| simp -implicitDefEqProofs only [and_self, bind_err, ev_raise, back_err, outR_err, ev_toldM, kTold_ok, kTold_err, ev_meth, kMeth_ev, kMeth2_ev, ev_eqO, kEqO_ev, kEqO2_ev, ev_errV, ev_dnew, bind_ok, bind_stuck, ev_ok, ev_of, ev_seq, kSeq_nx, kSeq_ret, kSeq_bk, kSeq_ct, ev_nx, ev_if, kIf_true, kIf_false, ev_var, kVar_fz, kVar_ow, ev_op, kOp_ev, ev_opB, kOpB_ev, ev_un, ev_chain, kCh_ev, ev_bd, ev_test, asB_b, ev_and, kAnd_t, kAnd_f, ev_or, kOr_t, kOr_f, ev_not, ev_andV, kAndV_t, kAndV_f, ev_orV, kOrV_t, kOrV_f, ev_notV, ev_nil, ev_cons, kCons_ev, ev_tup, ev_lst, ev_cb, ev_ret, ev_retN, ev_drop, ev_never, ev_asg, ev_setF, ev_gN, ev_callf, back_ok, ev_ixP, kIxP_ev, kIxP2_ev, ev_setIx, kSetIx_ev, kSetIx1_ev, ev_callP, kCallP_ev, kCallP2_ev, back1_ok, ev_pop, kOwn_ev, ev_app, ev_ext, ev_lenP, ev_eqP, kEqP_ev, kEqP2_ev, ev_inP, ev_nilO, ev_consF, ev_consO, kConsF_ev, kConsO_ev, ev_par, ev_for, ev_part, kPart_ev, ev_sl, kSl_ev, kSl2_ev, ev_m1, kM1_ev, ev_idx, kIdx_ev, ev_itL, ev_itT, ev_enL, ev_enT, ev_enQ, ev_fld, ev_prop, ev_inO, kInO_ev, kInO2_ev, ev_lenO, kLenO_ev, ev_setA, ev_make, ev_callN,
  List.getElem?_cons_zero, List.getElem?_cons_succ, List.set_cons_zero, List.set_cons_succ, List.append_nil, List.nil_append, List.cons_append, List.length_cons, List.length_nil, if_true, if_false, Nat.reduceAdd, Nat.reduceEqDiff, Nat.zero_add, peek, ownD, ownL, putO, DL.putAll, Option.map_some, Option.bind_some, asDat, asL, asT, as1, asQ, seqD, decide_true, env0, env1, List.map_cons, List.map_nil, List.replicate, Nat.reduceSub, reduceCtorEq, reduceIte, iLt_ev, iLe_ev, iGt_ev, iGe_ev, iAdd_ev, iSub_ev, intF_i, intF_b, minF_ev, maxF_ev, absF_ev, lenF_l, lenF_t, lenF_sc, listF_l, listF_t, tupleF_t, boD_ev, ixF_l0, ixF_l1, ixF_l2, ixF_t0, ixF_t1, ixF_t2, mkTup_0, mkLst_0, mkTup_1, mkLst_1, mkTup_2, mkLst_2, mkTup_3, mkLst_3, mkTup_4, mkLst_4, mkTup_5, mkLst_5, slL_ev, slT_ev, slQ_l, slQ_t, revF_t, revF_l, gsNil_ev, gsCons_ev, out_ret, out_nx, outR_ret, outR_nx, noX_ok, Bool.not_true, Bool.not_false, Bool.false_xor, Bool.true_xor, gT2_dat, gT3_dat, gT2_wk, gL3_dat, *])

namespace Q
open DL TL
theorem setF_ev {i : Nat} {δ : DL.Env} {m : M D} {xs : List PyData} (h : m δ = .ok (dL xs) δ) : mSetF i m δ = .ok .nx (δ.set i (.ow (dL xs))) := by
  rw [ev_setF, h, bind_ok]
theorem itT {δ : DL.Env} {A : M D} {xs : List PyData} (h : A δ = .ok (dT xs) δ) : mItT A δ = .ok (dats xs) δ := by
  rw [ev_itT, h, bind_ok]
  rfl
section
variable (ν : Fin 10 → Str)
def F4 : List PyData := [.list (([.str (HH ν)] ++ MM ν) ++ OO ν), .list [.str (HH ν)], .list [.str (lineS ["people", ν 0])], .list [.str (HH ν), .str (lineS (("met" : Str) :: ν 0 :: ([1, 2, 3, 4, 5, 6, 7, 8] : List (Fin 10)).map ν))], .list ([.str (HH ν)] ++ OO ν)]
def F5 : List PyData := [.list ([.str (HH ν)] ++ (List.replicate 20 ((MM ν).take 1)).flatten), .list [.str "people abcdefgh z"], .list ((([.str (HH ν)] ++ (MM ν).take 1) ++ (MM ν).take 1) ++ (OO ν).take 1)]
def pr (xs : List PyData) (n : Nat) : PyData := .tuple [.list xs, .int (n : Nat)]
def B7 : List PyData := [pr [.str (lineS (("people" : Str) :: ν 0 :: ([1, 2, 3, 4, 5, 6, 7, 8, 9] : List (Fin 10)).map ν))] 1, pr (([.str (HH ν)] ++ MM ν) ++ (MM ν).take 1) 22, pr [.str "people"] 1, pr [.str ""] 1, pr (MM ν) 1]
def B8 : List PyData := [pr (([.str (HH ν)] ++ OO ν) ++ [.str (lineS ["open", ν 6, ν 5])]) 6]
def B9 : List PyData := [pr (([.str (HH ν)] ++ MM ν) ++ (List.replicate 2 ((OO ν).take 1)).flatten) 23, pr (([.str (HH ν)] ++ (OO ν).take 1) ++ (MM ν).take 1) 3, pr (([.str (HH ν)] ++ (MM ν).take 1) ++ [.str (HH ν)]) 3]
def B10 : List PyData := [pr [.str (HH ν), .str (lineS ["met", ν 0, ν 1]), .str (lineS ["open", ν 1, ν 0])] 3]
def B11 : List PyData := [pr (([.str (HH ν)] ++ (OO ν).take 1) ++ [.str (lineS ["open", ν 8, ν 2])]) 3]
def L12 : List Str := [lineS ["met", ν 0], lineS ["met", ν 0, ν 9], lineS ["met", ν 0, ν 0], "met", ""]
def L13 : List Str := [lineS ["open", ν 0], lineS ["open", ν 0, ν 0], lineS (("open" : Str) :: ν 0 :: ([1, 2] : List (Fin 10)).map ν), "Met a b"]
end
section
variable {ν : Fin 10 → Str} {p p1 : D} {s8 s9 s10 s11 s12 : SV} (ln : ∀ i, (ν i).length ≤ 8)
theorem mm_len : (MM ν).length = 20 := by unfold MM; rw [strD_len]; rfl
theorem oo_len : (OO ν).length = 4 := by unfold OO; rw [strD_len]; rfl
theorem hd1 {δ : DL.Env} (h : mVar 2 δ = .ok (dS (HH ν)) δ) : mLst (mCons (mVar 2) mNil) δ = .ok (dL [.str (HH ν)]) δ := lstE (.cons h .nil) (by simp)
include ln
theorem t4_ev : t4 (E4 ν p .no .no .no .no .no) = .ok .nx (E4 ν p (.ow (dL (F4 ν))) .no .no .no .no) := by
  unfold t4
  have h := hd1 (ν := ν) (δ := E4 ν p .no .no .no .no .no) rfl
  have m := mm_len (ν := ν)
  have o := oo_len (ν := ν)
  have j0 : (mSl slL (mVar 1) (mOk none) (mPart (mOk (dI 9)))) (E4 ν p .no .no .no .no .no) = .ok (dL ((NS ν).take 9)) (E4 ν p .no .no .no .no .no) := slTo (k := 9) (A := mVar 1) rfl
  exact setF_ev (xs := F4 ν) (lstE (.cons (catE (catE h (ys := MM ν) rfl (by simp [mm_len, oo_len] <;> omega)) (ys := OO ν) rfl (by simp [mm_len, oo_len] <;> omega)) (.cons h (.cons (lstE (.cons (add1 kw_people (ixE (k := 0) (xs := NS ν) rfl rfl) (ln 0)) .nil) (by simp [mm_len, oo_len])) (.cons (lstE (.cons rfl (.cons (addJ kw_met (nine_str (ν := ν) ▸ j0) (ln_all ln) (by simp [mm_len, oo_len])) .nil)) (by simp [mm_len, oo_len])) (.cons (catE h (ys := OO ν) rfl (by simp [mm_len, oo_len] <;> omega)) .nil))))) (by simp [F4]))
omit ln in
theorem t5_ev : t5 (E4 ν p (.ow (dL (F4 ν))) .no .no .no .no) = .ok .nx (E4 ν p (.ow (dL (F4 ν ++ F5 ν))) .no .no .no .no) := by
  unfold t5
  have h := hd1 (ν := ν) (δ := E4 ν p (.ow (dL (F4 ν))) .no .no .no .no) rfl
  have m := mm_len (ν := ν)
  have o := oo_len (ν := ν)
  exact extE (F := F4 ν) (xs := F5 ν) rfl (lstE (.cons (catE h (repE (k := 20) (slTo (k := 1) (xs := MM ν) rfl) (by decide) (by simp [mm_len, oo_len])) (by simp [mm_len, oo_len])) (.cons (lstE (.cons rfl .nil) (by simp [mm_len, oo_len])) (.cons (catE (catE (catE h (slTo (k := 1) (xs := MM ν) rfl) (by simp [mm_len, oo_len])) (slTo (k := 1) (xs := MM ν) rfl) (by simp [mm_len, oo_len])) (slTo (k := 1) (xs := OO ν) rfl) (by simp [mm_len, oo_len])) .nil))) (by simp [F5])) (by simp [F4, F5])
theorem t7_ev : t7 (E4 ν p s8 .no .no .no .no) = .ok .nx (E4 ν p s8 .no (.ow (dL (B7 ν))) .no .no) := by
  unfold t7
  have h := hd1 (ν := ν) (δ := E4 ν p s8 .no .no .no .no) rfl
  have m := mm_len (ν := ν)
  have j0 : (mVar 1) (E4 ν p s8 .no .no .no .no) = .ok (dL (NS ν)) (E4 ν p s8 .no .no .no .no) := rfl
  exact setF_ev (xs := B7 ν) (lstE (.cons (tupE (.cons (lstE (.cons (addJ kw_people (ten_str (ν := ν) ▸ j0) (ln_all ln) (by simp [mm_len, oo_len])) .nil) (by simp [mm_len, oo_len])) (.cons rfl .nil)) (by simp [mm_len, oo_len])) (.cons (tupE (.cons (catE (catE h (ys := MM ν) rfl (by simp [mm_len, oo_len] <;> omega)) (slTo (k := 1) (xs := MM ν) rfl) (by simp [mm_len, oo_len] <;> omega)) (.cons rfl .nil)) (by simp [mm_len, oo_len])) (.cons (tupE (.cons (lstE (.cons rfl .nil) (by simp [mm_len, oo_len])) (.cons rfl .nil)) (by simp [mm_len, oo_len])) (.cons (tupE (.cons (lstE (.cons rfl .nil) (by simp [mm_len, oo_len])) (.cons rfl .nil)) (by simp [mm_len, oo_len])) (.cons (tupE (.cons rfl (.cons rfl .nil)) (by simp [mm_len, oo_len])) .nil))))) (by simp [B7]))
theorem t8_ev {F : List PyData} (hF : F.length ≤ 200) : t8 (E4 ν p s8 .no (.ow (dL F)) .no .no) = .ok .nx (E4 ν p s8 .no (.ow (dL (F ++ B8 ν))) .no .no) := by
  unfold t8
  have h := hd1 (ν := ν) (δ := E4 ν p s8 .no (.ow (dL F)) .no .no) rfl
  have o := oo_len (ν := ν)
  have x := ixP (x := .str (ν 5)) (y := .str (ν 6)) (ixE (δ := E4 ν p s8 .no (.ow (dL F)) .no .no) (A := mVar 3) (k := 30) (xs := PR ν) rfl rfl)
  exact appE (F := F) rfl (tupE (.cons (catE (catE h (ys := OO ν) rfl (by simp [mm_len, oo_len] <;> omega)) (lstE (.cons (add2 kw_open x.2 x.1 (ln 6) (ln 5)) .nil) (by simp [mm_len, oo_len])) (by simp [mm_len, oo_len] <;> omega)) (.cons rfl .nil)) (by simp [mm_len, oo_len])) (by omega)
omit ln in
theorem t9_ev {F : List PyData} (hF : F.length ≤ 200) : t9 (E4 ν p s8 .no (.ow (dL F)) .no .no) = .ok .nx (E4 ν p s8 .no (.ow (dL (F ++ B9 ν))) .no .no) := by
  unfold t9
  have h := hd1 (ν := ν) (δ := E4 ν p s8 .no (.ow (dL F)) .no .no) rfl
  have m := mm_len (ν := ν)
  have o := oo_len (ν := ν)
  exact extE (F := F) (xs := B9 ν) rfl (lstE (.cons (tupE (.cons (catE (catE h (ys := MM ν) rfl (by simp [mm_len, oo_len] <;> omega)) (repE (k := 2) (slTo (k := 1) (xs := OO ν) rfl) (by decide) (by simp [mm_len, oo_len])) (by simp [mm_len, oo_len] <;> omega)) (.cons rfl .nil)) (by simp [mm_len, oo_len])) (.cons (tupE (.cons (catE (catE h (slTo (k := 1) (xs := OO ν) rfl) (by simp [mm_len, oo_len])) (slTo (k := 1) (xs := MM ν) rfl) (by simp [mm_len, oo_len])) (.cons rfl .nil)) (by simp [mm_len, oo_len])) (.cons (tupE (.cons (catE (catE h (slTo (k := 1) (xs := MM ν) rfl) (by simp [mm_len, oo_len])) h (by simp [mm_len, oo_len])) (.cons rfl .nil)) (by simp [mm_len, oo_len])) .nil))) (by simp [B9])) (by simp [B9]; omega)
theorem t10_ev {F : List PyData} (hF : F.length ≤ 200) : t10 (E4 ν p s8 .no (.ow (dL F)) .no .no) = .ok .nx (E4 ν p s8 .no (.ow (dL (F ++ B10 ν))) .no .no) := by
  unfold t10
  have x := ixP (x := .str (ν 0)) (y := .str (ν 1)) (ixE (δ := E4 ν p s8 .no (.ow (dL F)) .no .no) (A := mVar 3) (k := 0) (xs := PR ν) rfl rfl)
  exact appE (F := F) rfl (tupE (.cons (lstE (.cons rfl (.cons (ixE (k := 0) (xs := MM ν) rfl rfl) (.cons (add2 kw_open x.2 x.1 (ln 1) (ln 0)) .nil))) (by simp [mm_len, oo_len])) (.cons rfl .nil)) (by simp [mm_len, oo_len])) (by omega)
theorem t11_ev {F : List PyData} (hF : F.length ≤ 200) : t11 (E4 ν p s8 .no (.ow (dL F)) .no .no) = .ok .nx (E4 ν p s8 .no (.ow (dL (F ++ B11 ν))) .no .no) := by
  unfold t11
  have h := hd1 (ν := ν) (δ := E4 ν p s8 .no (.ow (dL F)) .no .no) rfl
  have x := ixP (x := .str (ν 2)) (y := .str (ν 8)) (ixE (δ := E4 ν p s8 .no (.ow (dL F)) .no .no) (A := mVar 3) (k := 20) (xs := PR ν) rfl rfl)
  exact appE (F := F) rfl (tupE (.cons (catE (catE h (slTo (k := 1) (xs := OO ν) rfl) (by simp [mm_len, oo_len])) (lstE (.cons (add2 kw_open x.2 x.1 (ln 8) (ln 2)) .nil) (by simp [mm_len, oo_len])) (by simp [mm_len, oo_len])) (.cons rfl .nil)) (by simp [mm_len, oo_len])) (by omega)
omit ln in
theorem loop2 : ∀ {xs : List Str} {F : List PyData} {s11 : SV}, F.length + xs.length ≤ 500 → ∃ s11' : SV, forL (gN 11) (mDrop (mApp 10 (mCons (mTup (mCons (mLst (mCons (mVar 2) (mCons (mVar 11) mNil))) (mCons (mOk (dI 2)) mNil))) mNil))) (xs.map fun x => dS x) (E4 ν p s8 .no (.ow (dL F)) s11 .no) = .ok .nx (E4 ν p s8 .no (.ow (dL (F ++ xs.map fun x => pr [.str (HH ν), .str x] 2))) s11' .no)
  | [], F, s11, _ => ⟨s11, by simp [forL]⟩
  | x :: xs, F, s11, h => by
    rw [List.length_cons] at h
    obtain ⟨t, ih⟩ := loop2 (xs := xs) (F := F ++ [pr [.str (HH ν), .str x] 2]) (s11 := .fz (dS x)) (by simp; omega)
    refine ⟨t, ?_⟩
    have step : (mDrop (mApp 10 (mCons (mTup (mCons (mLst (mCons (mVar 2) (mCons (mVar 11) mNil))) (mCons (mOk (dI 2)) mNil))) mNil))) (E4 ν p s8 .no (.ow (dL F)) (.fz (dS x)) .no) = .ok .nx (E4 ν p s8 .no (.ow (dL (F ++ [pr [.str (HH ν), .str x] 2]))) (.fz (dS x)) .no) := appE (i := 10) (F := F) rfl (tupE (.cons (lstE (.cons rfl (.cons rfl .nil)) (by simp)) (.cons rfl .nil)) (by simp)) (by omega)
    rw [List.map_cons, forL_cons (δ2 := E4 ν p s8 .no (.ow (dL F)) (.fz (dS x)) .no) rfl step, ih]
    simp
omit ln in
theorem loop1 : ∀ {xs : List Str} {F : List PyData} {s11 : SV}, F.length + xs.length ≤ 500 → ∃ s11' : SV, forL (gN 11) (mDrop (mApp 10 (mCons (mTup (mCons (mLst (mCons (mVar 11) mNil)) (mCons (mOk (dI 1)) mNil))) mNil))) (xs.map fun x => dS x) (E4 ν p s8 .no (.ow (dL F)) s11 .no) = .ok .nx (E4 ν p s8 .no (.ow (dL (F ++ xs.map fun x => pr [.str x] 1))) s11' .no)
  | [], F, s11, _ => ⟨s11, by simp [forL]⟩
  | x :: xs, F, s11, h => by
    rw [List.length_cons] at h
    obtain ⟨t, ih⟩ := loop1 (xs := xs) (F := F ++ [pr [.str x] 1]) (s11 := .fz (dS x)) (by simp; omega)
    refine ⟨t, ?_⟩
    have step : (mDrop (mApp 10 (mCons (mTup (mCons (mLst (mCons (mVar 11) mNil)) (mCons (mOk (dI 1)) mNil))) mNil))) (E4 ν p s8 .no (.ow (dL F)) (.fz (dS x)) .no) = .ok .nx (E4 ν p s8 .no (.ow (dL (F ++ [pr [.str x] 1]))) (.fz (dS x)) .no) := appE (i := 10) (F := F) rfl (tupE (.cons (lstE (.cons rfl .nil) (by simp)) (.cons rfl .nil)) (by simp)) (by omega)
    rw [List.map_cons, forL_cons (δ2 := E4 ν p s8 .no (.ow (dL F)) (.fz (dS x)) .no) rfl step, ih]
    simp
omit ln in
theorem for_ev {δ : DL.Env} {A : M D} {xs : List Str} {mb : M Out} {g : D → DL.Env → Option DL.Env} {r : Res Out} (h : A δ = .ok (dT (xs.map .str)) δ) (hf : forL g mb (xs.map fun x => dS x) δ = r) : mFor (mItT A) g mb δ = r := by
  rw [ev_for, itT h, bind_ok, dats_map, hf]
theorem t12_ev {F : List PyData} (hF : F.length ≤ 200) : ∃ s11' : SV, t12 (E4 ν p s8 .no (.ow (dL F)) s11 .no) = .ok .nx (E4 ν p s8 .no (.ow (dL (F ++ (L12 ν).map fun x => pr [.str (HH ν), .str x] 2))) s11' .no) := by
  obtain ⟨t, e⟩ := loop2 (ν := ν) (p := p) (s8 := s8) (xs := L12 ν) (F := F) (s11 := s11) (by simp [L12]; omega)
  refine ⟨t, ?_⟩
  unfold t12
  have n0 : ∀ δ : DL.Env, mVar 1 δ = .ok (dL (NS ν)) δ → mOp ixF (mVar 1) (mOk (dI 0)) δ = .ok (dS (ν 0)) δ := fun δ h => ixE (k := 0) (xs := NS ν) h rfl
  have n9 : ∀ δ : DL.Env, mVar 1 δ = .ok (dL (NS ν)) δ → mOp ixF (mVar 1) (mOk (dI 9)) δ = .ok (dS (ν 9)) δ := fun δ h => ixE (k := 9) (xs := NS ν) h rfl
  exact for_ev (xs := L12 ν) (tupE (.cons (add1 kw_met (n0 _ rfl) (ln 0)) (.cons (add2 kw_met (n0 _ rfl) (n9 _ rfl) (ln 0) (ln 9)) (.cons (add2 kw_met (n0 _ rfl) (n0 _ rfl) (ln 0) (ln 0)) (.cons rfl (.cons rfl .nil))))) (by simp [L12])) e
theorem t13_ev {F : List PyData} (hF : F.length ≤ 200) : ∃ s11' : SV, t13 (E4 ν p s8 .no (.ow (dL F)) s11 .no) = .ok .nx (E4 ν p s8 .no (.ow (dL (F ++ (L13 ν).map fun x => pr [.str (HH ν), .str x] 2))) s11' .no) := by
  obtain ⟨t, e⟩ := loop2 (ν := ν) (p := p) (s8 := s8) (xs := L13 ν) (F := F) (s11 := s11) (by simp [L13]; omega)
  refine ⟨t, ?_⟩
  unfold t13
  have n0 : ∀ δ : DL.Env, mVar 1 δ = .ok (dL (NS ν)) δ → mOp ixF (mVar 1) (mOk (dI 0)) δ = .ok (dS (ν 0)) δ := fun δ h => ixE (k := 0) (xs := NS ν) h rfl
  have j0 : (mSl slL (mVar 1) (mOk none) (mPart (mOk (dI 3)))) (E4 ν p s8 .no (.ow (dL F)) s11 .no) = .ok (dL ((NS ν).take 3)) (E4 ν p s8 .no (.ow (dL F)) s11 .no) := slTo (k := 3) (A := mVar 1) rfl
  exact for_ev (xs := L13 ν) (tupE (.cons (add1 kw_open (n0 _ rfl) (ln 0)) (.cons (add2 kw_open (n0 _ rfl) (n0 _ rfl) (ln 0) (ln 0)) (.cons (addJ kw_open (three_str (ν := ν) ▸ j0) (ln_all ln) (by simp)) (.cons rfl .nil)))) (by simp [L13])) e
omit ln in
theorem t14_ev {F : List PyData} (hF : F.length ≤ 200) : ∃ s11' : SV, t14 (E4 ν p s8 .no (.ow (dL F)) s11 .no) = .ok .nx (E4 ν p s8 .no (.ow (dL (F ++ closedL.map fun x => pr [.str x] 1))) s11' .no) := by
  obtain ⟨t, e⟩ := loop1 (ν := ν) (p := p) (s8 := s8) (xs := closedL) (F := F) (s11 := s11) (by simp [closedL]; omega)
  refine ⟨t, ?_⟩
  unfold t14
  exact for_ev (xs := closedL) (tupE (.cons rfl (.cons rfl (.cons rfl (.cons rfl (.cons rfl (.cons rfl (.cons rfl (.cons rfl .nil)))))))) (by simp [closedL])) e
end
end Q

open PySem PySem.Spec PyProof.Rows L2 MT DL
local macro_rules | `(tactic| walk_at "ev") => `(tactic| simp -implicitDefEqProofs only [and_self, bind_err, ev_raise, back_err, outR_err, ev_toldM, kTold_ok, kTold_err, ev_meth, kMeth_ev, kMeth2_ev, ev_eqO, kEqO_ev, kEqO2_ev, ev_errV, ev_dnew, bind_ok, bind_stuck, ev_ok, ev_of, ev_seq, kSeq_nx, kSeq_ret, kSeq_bk, kSeq_ct, ev_nx, ev_if, kIf_true, kIf_false, ev_var, kVar_fz, kVar_ow, ev_op, kOp_ev, ev_opB, kOpB_ev, ev_un, ev_chain, kCh_ev, ev_bd, ev_test, asB_b, ev_and, kAnd_t, kAnd_f, ev_or, kOr_t, kOr_f, ev_not, ev_andV, kAndV_t, kAndV_f, ev_orV, kOrV_t, kOrV_f, ev_notV, ev_nil, ev_cons, kCons_ev, ev_tup, ev_lst, ev_cb, ev_ret, ev_retN, ev_drop, ev_never, ev_asg, ev_setF, ev_gN, ev_callf, back_ok, ev_ixP, kIxP_ev, kIxP2_ev, ev_setIx, kSetIx_ev, kSetIx1_ev, ev_callP, kCallP_ev, kCallP2_ev, back1_ok, ev_pop, kOwn_ev, ev_app, ev_ext, ev_lenP, ev_eqP, kEqP_ev, kEqP2_ev, ev_inP, ev_nilO, ev_consF, ev_consO, kConsF_ev, kConsO_ev, ev_par, ev_for, ev_part, kPart_ev, ev_sl, kSl_ev, kSl2_ev, ev_m1, kM1_ev, ev_idx, kIdx_ev, ev_itL, ev_itT, ev_enL, ev_enT, ev_enQ, ev_fld, ev_prop, ev_inO, kInO_ev, kInO2_ev, ev_lenO, kLenO_ev, ev_setA, ev_make, ev_callN,
  List.getElem?_cons_zero, List.getElem?_cons_succ, List.set_cons_zero, List.set_cons_succ, List.append_nil, List.nil_append, List.cons_append, List.length_cons, List.length_nil, if_true, if_false, Nat.reduceAdd, Nat.reduceEqDiff, Nat.zero_add, peek, ownD, ownL, putO, DL.putAll, Option.map_some, Option.bind_some, asDat, asL, asT, as1, asQ, seqD, decide_true, env0, env1, List.map_cons, List.map_nil, List.replicate, Nat.reduceSub, reduceCtorEq, reduceIte, iLt_ev, iLe_ev, iGt_ev, iGe_ev, iAdd_ev, iSub_ev, intF_i, intF_b, minF_ev, maxF_ev, absF_ev, lenF_l, lenF_t, lenF_sc, listF_l, listF_t, tupleF_t, boD_ev, ixF_l0, ixF_l1, ixF_l2, ixF_t0, ixF_t1, ixF_t2, mkTup_0, mkLst_0, mkTup_1, mkLst_1, mkTup_2, mkLst_2, mkTup_3, mkLst_3, mkTup_4, mkLst_4, mkTup_5, mkLst_5, slL_ev, slT_ev, slQ_l, slQ_t, revF_t, revF_l, gsNil_ev, gsCons_ev, out_ret, out_nx, outR_ret, outR_nx, noX_ok])
local macro_rules | `(tactic| walk_at "eva") => `(tactic| simp -implicitDefEqProofs only [and_self, bind_err, ev_raise, back_err, outR_err, ev_toldM, kTold_ok, kTold_err, ev_meth, kMeth_ev, kMeth2_ev, ev_eqO, kEqO_ev, kEqO2_ev, ev_errV, ev_dnew, bind_ok, bind_stuck, ev_ok, ev_of, ev_seq, kSeq_nx, kSeq_ret, kSeq_bk, kSeq_ct, ev_nx, ev_if, kIf_true, kIf_false, ev_var, kVar_fz, kVar_ow, ev_op, kOp_ev, ev_opB, kOpB_ev, ev_un, ev_chain, kCh_ev, ev_bd, ev_test, asB_b, ev_and, kAnd_t, kAnd_f, ev_or, kOr_t, kOr_f, ev_not, ev_andV, kAndV_t, kAndV_f, ev_orV, kOrV_t, kOrV_f, ev_notV, ev_nil, ev_cons, kCons_ev, ev_tup, ev_lst, ev_cb, ev_ret, ev_retN, ev_drop, ev_never, ev_asg, ev_setF, ev_gN, ev_callf, back_ok, ev_ixP, kIxP_ev, kIxP2_ev, ev_setIx, kSetIx_ev, kSetIx1_ev, ev_callP, kCallP_ev, kCallP2_ev, back1_ok, ev_pop, kOwn_ev, ev_app, ev_ext, ev_lenP, ev_eqP, kEqP_ev, kEqP2_ev, ev_inP, ev_nilO, ev_consF, ev_consO, kConsF_ev, kConsO_ev, ev_par, ev_for, ev_part, kPart_ev, ev_sl, kSl_ev, kSl2_ev, ev_m1, kM1_ev, ev_idx, kIdx_ev, ev_itL, ev_itT, ev_enL, ev_enT, ev_enQ, ev_fld, ev_prop, ev_inO, kInO_ev, kInO2_ev, ev_lenO, kLenO_ev, ev_setA, ev_make, ev_callN,
  List.getElem?_cons_zero, List.getElem?_cons_succ, List.set_cons_zero, List.set_cons_succ, List.append_nil, List.nil_append, List.cons_append, List.length_cons, List.length_nil, if_true, if_false, Nat.reduceAdd, Nat.reduceEqDiff, Nat.zero_add, peek, ownD, ownL, putO, DL.putAll, Option.map_some, Option.bind_some, asDat, asL, asT, as1, asQ, seqD, decide_true, env0, env1, List.map_cons, List.map_nil, List.replicate, Nat.reduceSub, reduceCtorEq, reduceIte, iLt_ev, iLe_ev, iGt_ev, iGe_ev, iAdd_ev, iSub_ev, intF_i, intF_b, minF_ev, maxF_ev, absF_ev, lenF_l, lenF_t, lenF_sc, listF_l, listF_t, tupleF_t, boD_ev, ixF_l0, ixF_l1, ixF_l2, ixF_t0, ixF_t1, ixF_t2, mkTup_0, mkLst_0, mkTup_1, mkLst_1, mkTup_2, mkLst_2, mkTup_3, mkLst_3, mkTup_4, mkLst_4, mkTup_5, mkLst_5, slL_ev, slT_ev, slQ_l, slQ_t, revF_t, revF_l, gsNil_ev, gsCons_ev, out_ret, out_nx, outR_ret, outR_nx, noX_ok, Bool.not_true, Bool.not_false, Bool.false_xor, Bool.true_xor, gT2_dat, gT3_dat, gT2_wk, gL3_dat, *])

namespace Q
open DL TL
theorem fine_eq {ν : Fin 10 → Str} : F4 ν ++ F5 ν = (fineR ν).map rowsD := by
  have c : rowsD [["people", "abcdefgh", "z"]] = .list [.str "people abcdefgh z"] := by
    unfold rowsD
    rw [List.map_cons, List.map_nil, closed_line]
    rfl
  unfold fineR f1G f2G
  simp only [List.map_append, List.map_cons, List.map_nil, List.append_nil, c]
  rfl
def B12 (ν : Fin 10 → Str) : List PyData := (L12 ν).map fun x => pr [.str (HH ν), .str x] 2
def B13 (ν : Fin 10 → Str) : List PyData := (L13 ν).map fun x => pr [.str (HH ν), .str x] 2
theorem lit_lines : lineS ["people"] = "people" ∧ lineS [""] = "" ∧ lineS ["met"] = "met" ∧ lineS ["Met", "a", "b"] = "Met a b" := by decide +kernel
theorem ws_ppl {ν : Fin 10 → Str} : lineS (Ln.ws ν (.ppl [])) = "people" := lit_lines.1
theorem ws_met {ν : Fin 10 → Str} : lineS (Ln.ws ν (.met [])) = "met" := lit_lines.2.2.1
theorem ws_oth {ν : Fin 10 → Str} : lineS (Ln.ws ν (.oth false)) = "" := lit_lines.2.1
theorem ws_Met {ν : Fin 10 → Str} : lineS (Ln.ws ν (.oth true)) = "Met a b" := lit_lines.2.2.2
theorem bad_eq1 {ν : Fin 10 → Str} : B7 ν = ((badG.take 5).map (fun q => (q.1.map (Ln.ws ν), q.2))).map encB := by
  show _ = [encB _, encB _, encB _, encB _, encB _]
  unfold B7 pr encB
  rw [show rowsD ((Ln.ppl [] :: []).map (Ln.ws ν)) = .list [.str "people"] from by rw [rows_strD, strD_cons, ws_ppl]; rfl, show rowsD ((Ln.oth false :: []).map (Ln.ws ν)) = .list [.str ""] from by rw [rows_strD, strD_cons, ws_oth]; rfl]
  rfl
theorem bad_eq2 {ν : Fin 10 → Str} : B8 ν ++ B9 ν ++ B10 ν ++ B11 ν = (((badG.drop 5).take 6).map (fun q => (q.1.map (Ln.ws ν), q.2))).map encB := rfl
theorem bad_eq3 {ν : Fin 10 → Str} : B12 ν = (((badG.drop 11).take 5).map (fun q => (q.1.map (Ln.ws ν), q.2))).map encB := by
  show _ = [encB _, encB _, encB _, encB _, encB _]
  unfold B12 L12
  rw [← ws_met (ν := ν), ← ws_oth (ν := ν)]
  rfl
theorem bad_eq4 {ν : Fin 10 → Str} : B13 ν = ((badG.drop 16).map (fun q => (q.1.map (Ln.ws ν), q.2))).map encB := by
  unfold B13 L13
  rw [← ws_Met (ν := ν)]
  rfl
theorem bad_eq5 : closedL.map (fun x => pr [.str x] 1) = (closedB.map fun ws => (([ws], 1) : List (List Str) × Nat)).map encB := by
  rw [← closed_eq, List.map_map, List.map_map]
  rfl
theorem bad_eq {ν : Fin 10 → Str} : ((((((B7 ν ++ B8 ν) ++ B9 ν) ++ B10 ν) ++ B11 ν) ++ B12 ν) ++ B13 ν) ++ closedL.map (fun x => pr [.str x] 1) = (badR ν).map encB := by
  have e : badG = badG.take 5 ++ (((badG.drop 5).take 6) ++ (((badG.drop 11).take 5) ++ badG.drop 16)) := rfl
  unfold badR
  rw [List.map_append, ← bad_eq5]
  congr 1
theorem b_len {ν : Fin 10 → Str} : (B7 ν).length = 5 ∧ (B8 ν).length = 1 ∧ (B9 ν).length = 3 ∧ (B10 ν).length = 1 ∧ (B11 ν).length = 1 ∧ (B12 ν).length = 5 ∧ (B13 ν).length = 4 := ⟨rfl, rfl, rfl, rfl, rfl, rfl, rfl⟩
theorem right_ok {B : Nat} {p : D} (hp : PotOk (B + 100000) p) : ∃ p', f_l_right p [] = .ok (dB true, p') ∧ PotOk B p' := by
  obtain ⟨ns, p1, e1, n10, nd, pl, hp1⟩ := names_ok (B := B + 8) (m := 10) (p := p) (hp.mono (by omega)) (by omega)
  have inj := nu10_inj n10 nd
  have mem := nu10_mem n10
  have em := map_nu10 n10
  generalize nu10 ns = ν at inj mem em
  subst em
  have cl : ∀ i, Clean (ν i) := fun i => pool_clean _ (pl _ (mem i))
  have nm : ∀ i, nameB (ν i) = true := fun i => pool_name (pl _ (mem i))
  have ln : ∀ i, (ν i).length ≤ 8 := fun i => pool_le _ (pl _ (mem i))
  refine ⟨p1, ?_, hp1.mono (by omega)⟩
  have k0 : t0 [.io p, .no, .no, .no, .no, .no, .no, .no, .no, .no, .no, .no, .no] = .ok .nx [.io p1, .fz (dL (NS ν)), .no, .no, .no, .no, .no, .no, .no, .no, .no, .no, .no] := by
    replace e1 : f_l_names p [dI 10] = .ok (dL (NS ν), p1) := e1
    unfold t0
    generalize f_l_names = G at e1 ⊢
    generalize dL (NS ν) = z at e1 ⊢
    walk_at "ev"
    rw [e1]
    walk_at "ev"
  have k6 : t6 (E4 ν p1 (.ow (dL (F4 ν ++ F5 ν))) .no .no .no .no) = .ok .nx (E4 ν p1 (.fz (dL (F4 ν ++ F5 ν))) .no .no .no .no) := by
    have c : mLc [9] (mItL (mVar 8)) (gN 9) mYes (mCall 1 f_l_is_let [] (mCons (mVar 9) mNil)) (E4 ν p1 (.ow (dL (F4 ν ++ F5 ν))) .no .no .no .no) = .ok (dL ((fineR ν).map fun _ => .bool true)) (E4 ν p1 (.fz (dL (F4 ν ++ F5 ν))) .no .no .no .no) := by
      refine ev_lcA (enc := fun r => D.dat (rowsD r)) (h := fun _ => .bool true) (xs := fineR ν) (δ1 := E4 ν p1 (.fz (dL (F4 ν ++ F5 ν))) .no .no .no .no) ?_ (show 8 ≤ most by decide) rfl rfl fun r hr => ⟨E4 ν p1 (.fz (dL (F4 ν ++ F5 ν))) (.fz (.dat (rowsD r))) .no .no .no, E4 ν p1 (.fz (dL (F4 ν ++ F5 ν))) (.fz (.dat (rowsD r))) .no .no .no, rfl, ?_, rfl⟩
      · rw [fine_eq, ← dats_map]
        rfl
      · have e := fineR_ok cl inj nm r hr
        rw [ev_callf]
        show ((if ([D.dat (rowsD r)] ++ []).length = 1 then back (f_l_is_let ([D.dat (rowsD r)] ++ [])) _ else .stuck) = _)
        have hl : ([D.dat (rowsD r)] ++ ([] : List D)).length = 1 := rfl
        rw [if_pos hl, List.append_nil, e, back_ok]
    have c2 : allF [dL ((fineR ν).map fun _ => .bool true)] = some (dB true) := by rw [allF_map (f := fun _ => true)]; simp
    unfold t6
    rw [ev_if, ev_not, ev_test, ev_cb, ev_cons, c, bind_ok, kCons_ev, ev_nil, bind_ok, bind_ok, c2, ev_of, bind_ok, asB_b, ev_of, bind_ok]
    rfl
  obtain ⟨l7, l8, l9, l10, l11, l12, l13⟩ := b_len (ν := ν)
  have k7 := t7_ev (p := p1) (s8 := .fz (dL (F4 ν ++ F5 ν))) ln
  have k8 := t8_ev (p := p1) (s8 := .fz (dL (F4 ν ++ F5 ν))) ln (F := B7 ν) (by omega)
  have k9 := t9_ev (ν := ν) (p := p1) (s8 := .fz (dL (F4 ν ++ F5 ν))) (F := B7 ν ++ B8 ν) (by simp; omega)
  have k10 := t10_ev (p := p1) (s8 := .fz (dL (F4 ν ++ F5 ν))) ln (F := (B7 ν ++ B8 ν) ++ B9 ν) (by simp; omega)
  have k11 := t11_ev (p := p1) (s8 := .fz (dL (F4 ν ++ F5 ν))) ln (F := ((B7 ν ++ B8 ν) ++ B9 ν) ++ B10 ν) (by simp; omega)
  obtain ⟨u1, k12⟩ := t12_ev (p := p1) (s8 := .fz (dL (F4 ν ++ F5 ν))) (s11 := .no) ln (F := (((B7 ν ++ B8 ν) ++ B9 ν) ++ B10 ν) ++ B11 ν) (by simp; omega)
  obtain ⟨u2, k13⟩ := t13_ev (p := p1) (s8 := .fz (dL (F4 ν ++ F5 ν))) (s11 := u1) ln (F := ((((B7 ν ++ B8 ν) ++ B9 ν) ++ B10 ν) ++ B11 ν) ++ B12 ν) (by simp; omega)
  obtain ⟨u3, k14⟩ := t14_ev (ν := ν) (p := p1) (s8 := .fz (dL (F4 ν ++ F5 ν))) (s11 := u2) (F := (((((B7 ν ++ B8 ν) ++ B9 ν) ++ B10 ν) ++ B11 ν) ++ B12 ν) ++ B13 ν) (by simp; omega)
  rw [bad_eq] at k14
  have k15 : t15 (E4 ν p1 (.fz (dL (F4 ν ++ F5 ν))) .no (.ow (dL ((badR ν).map encB))) u3 .no) = .ok (.ret (dB true)) (E4 ν p1 (.fz (dL (F4 ν ++ F5 ν))) .no (.fz (dL ((badR ν).map encB))) u3 .no) := by
    have c : mLc [9, 12] (mItL (mVar 10)) (gT 2 (gsCons (gN 9) (gsCons (gN 12) gsNil))) mYes (mCall 2 f_l_is_refused [] (mCons (mVar 9) (mCons (mVar 12) mNil))) (E4 ν p1 (.fz (dL (F4 ν ++ F5 ν))) .no (.ow (dL ((badR ν).map encB))) u3 .no) = .ok (dL ((badR ν).map fun _ => .bool true)) (E4 ν p1 (.fz (dL (F4 ν ++ F5 ν))) .no (.fz (dL ((badR ν).map encB))) u3 .no) := by
      refine ev_lcA (enc := fun q => D.dat (encB q)) (h := fun _ => .bool true) (xs := badR ν) (δ1 := E4 ν p1 (.fz (dL (F4 ν ++ F5 ν))) .no (.fz (dL ((badR ν).map encB))) u3 .no) ?_ (show 28 ≤ most by decide) rfl rfl fun q hq => ⟨E4 ν p1 (.fz (dL (F4 ν ++ F5 ν))) (.fz (.dat (rowsD q.1))) (.fz (dL ((badR ν).map encB))) u3 (.fz (dI (q.2 : Nat))), E4 ν p1 (.fz (dL (F4 ν ++ F5 ν))) (.fz (.dat (rowsD q.1))) (.fz (dL ((badR ν).map encB))) u3 (.fz (dI (q.2 : Nat))), rfl, ?_, rfl⟩
      · rw [← dats_map]
        rfl
      · have e := badR_ok cl inj nm q hq
        rw [ev_callf]
        show ((if ([D.dat (rowsD q.1), dI (q.2 : Nat)] ++ []).length = 2 then back (f_l_is_refused ([D.dat (rowsD q.1), dI (q.2 : Nat)] ++ [])) _ else .stuck) = _)
        have hl : ([D.dat (rowsD q.1), dI (q.2 : Nat)] ++ ([] : List D)).length = 2 := rfl
        rw [if_pos hl, List.append_nil, e, back_ok]
    have c2 : allF [dL ((badR ν).map fun _ => .bool true)] = some (dB true) := by rw [allF_map (f := fun _ => true)]; simp
    unfold t15
    rw [ev_ret, ev_cb, ev_cons, c, bind_ok, kCons_ev, ev_nil, bind_ok, bind_ok, c2, ev_of, bind_ok]
  rw [show f_l_right p [] = outR1 (m_l_right [.io p, .no, .no, .no, .no, .no, .no, .no, .no, .no, .no, .no, .no]) from rfl, m_right_eq]
  rw [ev_seq, k0, bind_ok, kSeq_nx, ev_seq, t1_ev ln, bind_ok, kSeq_nx, ev_seq, t2_ev ln, bind_ok, kSeq_nx, ev_seq, t3_ev ln, bind_ok, kSeq_nx, ev_seq, t4_ev ln, bind_ok, kSeq_nx, ev_seq, t5_ev, bind_ok, kSeq_nx, ev_seq, k6, bind_ok, kSeq_nx]
  rw [ev_seq, k7, bind_ok, kSeq_nx, ev_seq, k8, bind_ok, kSeq_nx, ev_seq, k9, bind_ok, kSeq_nx, ev_seq, k10, bind_ok, kSeq_nx, ev_seq, k11, bind_ok, kSeq_nx, ev_seq, k12, bind_ok, kSeq_nx, ev_seq]
  erw [k13]
  rw [bind_ok, kSeq_nx, ev_seq]
  erw [k14]
  rw [bind_ok, kSeq_nx, k15]
  rfl
end Q

open PySem PySem.Spec PyProof.Rows L2 MT DL
local macro_rules | `(tactic| walk_at "ev") => `(tactic| simp -implicitDefEqProofs only [and_self, bind_err, ev_raise, back_err, outR_err, ev_toldM, kTold_ok, kTold_err, ev_meth, kMeth_ev, kMeth2_ev, ev_eqO, kEqO_ev, kEqO2_ev, ev_errV, ev_dnew, bind_ok, bind_stuck, ev_ok, ev_of, ev_seq, kSeq_nx, kSeq_ret, kSeq_bk, kSeq_ct, ev_nx, ev_if, kIf_true, kIf_false, ev_var, kVar_fz, kVar_ow, ev_op, kOp_ev, ev_opB, kOpB_ev, ev_un, ev_chain, kCh_ev, ev_bd, ev_test, asB_b, ev_and, kAnd_t, kAnd_f, ev_or, kOr_t, kOr_f, ev_not, ev_andV, kAndV_t, kAndV_f, ev_orV, kOrV_t, kOrV_f, ev_notV, ev_nil, ev_cons, kCons_ev, ev_tup, ev_lst, ev_cb, ev_ret, ev_retN, ev_drop, ev_never, ev_asg, ev_setF, ev_gN, ev_callf, back_ok, ev_ixP, kIxP_ev, kIxP2_ev, ev_setIx, kSetIx_ev, kSetIx1_ev, ev_callP, kCallP_ev, kCallP2_ev, back1_ok, ev_pop, kOwn_ev, ev_app, ev_ext, ev_lenP, ev_eqP, kEqP_ev, kEqP2_ev, ev_inP, ev_nilO, ev_consF, ev_consO, kConsF_ev, kConsO_ev, ev_par, ev_for, ev_part, kPart_ev, ev_sl, kSl_ev, kSl2_ev, ev_m1, kM1_ev, ev_idx, kIdx_ev, ev_itL, ev_itT, ev_enL, ev_enT, ev_enQ, ev_fld, ev_prop, ev_inO, kInO_ev, kInO2_ev, ev_lenO, kLenO_ev, ev_setA, ev_make, ev_callN,
  List.getElem?_cons_zero, List.getElem?_cons_succ, List.set_cons_zero, List.set_cons_succ, List.append_nil, List.nil_append, List.cons_append, List.length_cons, List.length_nil, if_true, if_false, Nat.reduceAdd, Nat.reduceEqDiff, Nat.zero_add, peek, ownD, ownL, putO, DL.putAll, Option.map_some, Option.bind_some, asDat, asL, asT, as1, asQ, seqD, decide_true, env0, env1, List.map_cons, List.map_nil, List.replicate, Nat.reduceSub, reduceCtorEq, reduceIte, iLt_ev, iLe_ev, iGt_ev, iGe_ev, iAdd_ev, iSub_ev, intF_i, intF_b, minF_ev, maxF_ev, absF_ev, lenF_l, lenF_t, lenF_sc, listF_l, listF_t, tupleF_t, boD_ev, ixF_l0, ixF_l1, ixF_l2, ixF_t0, ixF_t1, ixF_t2, mkTup_0, mkLst_0, mkTup_1, mkLst_1, mkTup_2, mkLst_2, mkTup_3, mkLst_3, mkTup_4, mkLst_4, mkTup_5, mkLst_5, slL_ev, slT_ev, slQ_l, slQ_t, revF_t, revF_l, gsNil_ev, gsCons_ev, out_ret, out_nx, outR_ret, outR_nx, noX_ok])
local macro_rules | `(tactic| walk_at "eva") => `(tactic| simp -implicitDefEqProofs only [and_self, bind_err, ev_raise, back_err, outR_err, ev_toldM, kTold_ok, kTold_err, ev_meth, kMeth_ev, kMeth2_ev, ev_eqO, kEqO_ev, kEqO2_ev, ev_errV, ev_dnew, bind_ok, bind_stuck, ev_ok, ev_of, ev_seq, kSeq_nx, kSeq_ret, kSeq_bk, kSeq_ct, ev_nx, ev_if, kIf_true, kIf_false, ev_var, kVar_fz, kVar_ow, ev_op, kOp_ev, ev_opB, kOpB_ev, ev_un, ev_chain, kCh_ev, ev_bd, ev_test, asB_b, ev_and, kAnd_t, kAnd_f, ev_or, kOr_t, kOr_f, ev_not, ev_andV, kAndV_t, kAndV_f, ev_orV, kOrV_t, kOrV_f, ev_notV, ev_nil, ev_cons, kCons_ev, ev_tup, ev_lst, ev_cb, ev_ret, ev_retN, ev_drop, ev_never, ev_asg, ev_setF, ev_gN, ev_callf, back_ok, ev_ixP, kIxP_ev, kIxP2_ev, ev_setIx, kSetIx_ev, kSetIx1_ev, ev_callP, kCallP_ev, kCallP2_ev, back1_ok, ev_pop, kOwn_ev, ev_app, ev_ext, ev_lenP, ev_eqP, kEqP_ev, kEqP2_ev, ev_inP, ev_nilO, ev_consF, ev_consO, kConsF_ev, kConsO_ev, ev_par, ev_for, ev_part, kPart_ev, ev_sl, kSl_ev, kSl2_ev, ev_m1, kM1_ev, ev_idx, kIdx_ev, ev_itL, ev_itT, ev_enL, ev_enT, ev_enQ, ev_fld, ev_prop, ev_inO, kInO_ev, kInO2_ev, ev_lenO, kLenO_ev, ev_setA, ev_make, ev_callN,
  List.getElem?_cons_zero, List.getElem?_cons_succ, List.set_cons_zero, List.set_cons_succ, List.append_nil, List.nil_append, List.cons_append, List.length_cons, List.length_nil, if_true, if_false, Nat.reduceAdd, Nat.reduceEqDiff, Nat.zero_add, peek, ownD, ownL, putO, DL.putAll, Option.map_some, Option.bind_some, asDat, asL, asT, as1, asQ, seqD, decide_true, env0, env1, List.map_cons, List.map_nil, List.replicate, Nat.reduceSub, reduceCtorEq, reduceIte, iLt_ev, iLe_ev, iGt_ev, iGe_ev, iAdd_ev, iSub_ev, intF_i, intF_b, minF_ev, maxF_ev, absF_ev, lenF_l, lenF_t, lenF_sc, listF_l, listF_t, tupleF_t, boD_ev, ixF_l0, ixF_l1, ixF_l2, ixF_t0, ixF_t1, ixF_t2, mkTup_0, mkLst_0, mkTup_1, mkLst_1, mkTup_2, mkLst_2, mkTup_3, mkLst_3, mkTup_4, mkLst_4, mkTup_5, mkLst_5, slL_ev, slT_ev, slQ_l, slQ_t, revF_t, revF_l, gsNil_ev, gsCons_ev, out_ret, out_nx, outR_ret, outR_nx, noX_ok, Bool.not_true, Bool.not_false, Bool.false_xor, Bool.true_xor, gT2_dat, gT3_dat, gT2_wk, gL3_dat, *])

namespace Q
open DL
/-! ### the pot -/
theorem ev_seqN {a b : M Out} {δ δ' : DL.Env} (h : a δ = .ok .nx δ') : mSeqN a b δ = b δ' := by
  show (a δ).bind _ = _
  rw [h]
  rfl
theorem ixF_scr {ns : List Int} {i : Nat} {n : Int} (h : ns[i]? = some n) : ixF (.scr ns) (dI (i : Nat)) = some (dI n) := by
  simp [ixF, atI_nat h]
theorem iPow_ev {x y : Int} (h : cPow x y = true) : iPow (dI x) (dI y) = some (dI (x ^ y.toNat)) := by
  show (if cPow x y = true then some (D.dat (.int (x ^ y.toNat))) else none) = _
  rw [if_pos h]
def potV : M D := (mIf (mOpB iLt (mVar 1) (mCB lenF (mCons (mVar 0) mNil))) (mOp ixF (mVar 0) (mVar 1)) (mOp iAdd (mOp iMul (mOk (.dat (.int 163))) (mVar 1)) (mOk (.dat (.int 104)))))
theorem pot_v {ns : List Int} {k : Nat} {s2 s3 s4 : SV} : ∃ n : Int, potV [.fz (.scr ns), .fz (dI (k : Nat)), s2, s3, s4] = .ok (dI n) [.fz (.scr ns), .fz (dI (k : Nat)), s2, s3, s4] := by
  by_cases hk : k < ns.length
  · refine ⟨ns[k], ?_⟩
    have e := ixF_scr (List.getElem?_eq_getElem hk)
    unfold potV
    walk_at "ev"
    rw [decide_eq_true (by omega)]
    walk_at "ev"
    rw [e]
    walk_at "ev"
  · refine ⟨163 * k + 104, ?_⟩
    unfold potV
    walk_at "ev"
    rw [decide_eq_false (by omega)]
    walk_at "ev"
    rw [iMul_ev ⟨by decide, by decide⟩]
    walk_at "ev"
theorem pows : ∃ P1 P2 P5 : Int, iPow (dI 10) (dI 60) = some (dI P1) ∧ iPowW (dI P1) (dI 5) = some (dI P5) ∧ iPow (dI 10) (dI 18) = some (dI P2) ∧ 0 < P5 := by
  refine ⟨10 ^ (60 : Int).toNat, 10 ^ (18 : Int).toNat, (10 ^ (60 : Int).toNat) ^ (5 : Int).toNat, iPow_ev (by decide), iPowW_ev ⟨by decide, ?_⟩, iPow_ev (by decide), Int.pow_pos (Int.pow_pos (by decide))⟩
  have hb : Builtin.Int.intBits ((10 : Int) ^ (60 : Int).toNat) ≤ 200 := bits_le (by decide)
  omega
def pot2 : M Out := (mAsg (mOp iMul (mOp iMod (mCB intF (mCons (mCB absF (mCons (mVar 2) mNil)) mNil)) (mOp iPowW (mOp iPow (mOk (.dat (.int 10))) (mOk (.dat (.int 60)))) (mOk (.dat (.int 5))))) (mCB intF (mCons (mOp (fun x y => boD (iGe x y)) (mCB absF (mCons (mVar 2) mNil)) (mOp iPow (mOk (.dat (.int 10))) (mOk (.dat (.int 18))))) mNil))) (gN 3))
def pot3 : M Out := (mAsg (mOp iMod (mCB intF (mCons (mVar 2) mNil)) (mOk (.dat (.int 2305843009213693951)))) (gN 4))
def pot4 : M Out := (mRet (mLst (mCons (mVar 3) (mCons (mOp iMod (mCB intF (mCons (mOp iAdd (mOp iAdd (mOp iMul (mVar 4) (mOk (.dat (.int 80465)))) (mOp iMul (mOp iMul (mOk (.dat (.int 8329))) (mVar 1)) (mVar 1))) (mOk (.dat (.int 113)))) mNil)) (mOk (.dat (.int 2305843009213693921)))) (mCons (mOk (.dat (.int 0))) mNil)))))
theorem pot_2 {s0 s1 s3 s4 : SV} {n a P1 P2 P5 : Int} (ha : (if n < 0 then -n else n) = a) (h1 : iPow (dI 10) (dI 60) = some (dI P1)) (h2 : iPowW (dI P1) (dI 5) = some (dI P5)) (h3 : iPow (dI 10) (dI 18) = some (dI P2)) (hP : 0 < P5) :
    pot2 [s0, s1, .fz (dI n), s3, s4] = .ok .nx [s0, s1, .fz (dI n), .fz (dI (a % P5 * (if decide (P2 ≤ a) = true then 1 else 0))), s4] := by
  have b1 : (-(2 ^ 64) : Int) < (if decide (P2 ≤ a) = true then 1 else 0) ∧ (if decide (P2 ≤ a) = true then 1 else 0) < (2 ^ 64 : Int) := by split <;> decide
  unfold pot2
  generalize iPow = F1 at h1 h3 ⊢
  generalize iPowW = F2 at h2 ⊢
  walk_at "ev"
  rw [ha, h1]
  walk_at "ev"
  rw [h2]
  walk_at "ev"
  rw [iMod_ev hP]
  walk_at "ev"
  rw [ha, h3]
  walk_at "ev"
  rw [iMul_ev' b1]
  walk_at "ev"
theorem pot_3 {s0 s1 s3 s4 : SV} {n : Int} : pot3 [s0, s1, .fz (dI n), s3, s4] = .ok .nx [s0, s1, .fz (dI n), s3, .fz (dI (n % 2305843009213693951))] := by
  unfold pot3
  walk_at "ev"
  rw [iMod_ev (by decide)]
  walk_at "ev"
theorem pot_4 {s0 s2 : SV} {A b : Int} {k : Nat} (b0 : 0 ≤ b) (b1 : b < 2305843009213693951) (hk : k ≤ 100) : pot4 [s0, .fz (dI (k : Nat)), s2, .fz (dI A), .fz (dI b)] = .ok (.ret (dL [.int A, .int ((b * 80465 + 8329 * k * k + 113) % 2305843009213693921), .int 0])) [s0, .fz (dI (k : Nat)), s2, .fz (dI A), .fz (dI b)] := by
  unfold pot4
  walk_at "ev"
  rw [iMul_ev ⟨by omega, by omega⟩]
  walk_at "ev"
  rw [iMul_ev ⟨by decide, by decide⟩]
  walk_at "ev"
  rw [iMul_ev' ⟨by omega, by omega⟩]
  walk_at "ev"
  rw [iMod_ev (by decide)]
  walk_at "ev"
theorem semN_ret {m : M Out} {N : Nat} {ds : List D} {d : D} {δ : DL.Env} (h : m (env0 N ds) = .ok (.ret d) δ) : semN m N ds = .ok d := by
  unfold semN
  rw [h]
theorem pot_ok {ns : List Int} {k : Nat} (hk : k ≤ 100) : ∃ p, f_l_pot [.scr ns, dI (k : Nat)] = .ok p ∧ PotOk 1000000000 p := by
  obtain ⟨n, e⟩ := pot_v (ns := ns) (k := k) (s2 := .no) (s3 := .no) (s4 := .no)
  obtain ⟨P1, P2, P5, h1, h2, h3, hP⟩ := pows
  obtain ⟨a, a0, ha⟩ : ∃ a : Int, 0 ≤ a ∧ (if n < 0 then -n else n) = a := ⟨_, by split <;> omega, rfl⟩
  have m0 := Int.emod_nonneg a (Int.ne_of_gt hP)
  have q0 := Int.emod_nonneg n (show (2305843009213693951 : Int) ≠ 0 by decide)
  have q1 := Int.emod_lt_of_pos n (show (0 : Int) < 2305843009213693951 by decide)
  have r1 := Int.emod_lt_of_pos (n % 2305843009213693951 * 80465 + 8329 * k * k + 113) (show (0 : Int) < 2305843009213693921 by decide)
  have r0 := Int.emod_nonneg (n % 2305843009213693951 * 80465 + 8329 * k * k + 113) (show (2305843009213693921 : Int) ≠ 0 by decide)
  have A0 : 0 ≤ a % P5 * (if decide (P2 ≤ a) = true then 1 else 0) := by
    split
    · rw [Int.mul_one]; exact m0
    · rw [Int.mul_zero]; decide
  refine ⟨dL [.int (a % P5 * (if decide (P2 ≤ a) = true then 1 else 0)), .int ((n % 2305843009213693951 * 80465 + 8329 * k * k + 113) % 2305843009213693921), .int 0], semN_ret (m := mSeqN (mAsg potV (gN 2)) (mSeqN pot2 (mSeqN pot3 pot4))) (δ := [.fz (.scr ns), .fz (dI (k : Nat)), .fz (dI n), .fz (dI (a % P5 * (if decide (P2 ≤ a) = true then 1 else 0))), .fz (dI (n % 2305843009213693951))]) ?_, _, _, _, rfl, A0, r0, by omega, by decide, by decide⟩
  show mSeqN (mAsg potV (gN 2)) (mSeqN pot2 (mSeqN pot3 pot4)) [.fz (.scr ns), .fz (dI (k : Nat)), .no, .no, .no] = _
  rw [ev_seqN (δ' := [.fz (.scr ns), .fz (dI (k : Nat)), .fz (dI n), .no, .no]) (by
    rw [ev_asg, e]
    rfl)]
  rw [ev_seqN (pot_2 ha h1 h2 h3 hP), ev_seqN pot_3, pot_4 q0 q1 hk]
end Q

open PySem PySem.Spec PyProof.Rows L2 MT DL
local macro_rules | `(tactic| walk_at "ev") => `(tactic| simp -implicitDefEqProofs only [and_self, bind_err, ev_raise, back_err, outR_err, ev_toldM, kTold_ok, kTold_err, ev_meth, kMeth_ev, kMeth2_ev, ev_eqO, kEqO_ev, kEqO2_ev, ev_errV, ev_dnew, bind_ok, bind_stuck, ev_ok, ev_of, ev_seq, kSeq_nx, kSeq_ret, kSeq_bk, kSeq_ct, ev_nx, ev_if, kIf_true, kIf_false, ev_var, kVar_fz, kVar_ow, ev_op, kOp_ev, ev_opB, kOpB_ev, ev_un, ev_chain, kCh_ev, ev_bd, ev_test, asB_b, ev_and, kAnd_t, kAnd_f, ev_or, kOr_t, kOr_f, ev_not, ev_andV, kAndV_t, kAndV_f, ev_orV, kOrV_t, kOrV_f, ev_notV, ev_nil, ev_cons, kCons_ev, ev_tup, ev_lst, ev_cb, ev_ret, ev_retN, ev_drop, ev_never, ev_asg, ev_setF, ev_gN, ev_callf, back_ok, ev_ixP, kIxP_ev, kIxP2_ev, ev_setIx, kSetIx_ev, kSetIx1_ev, ev_callP, kCallP_ev, kCallP2_ev, back1_ok, ev_pop, kOwn_ev, ev_app, ev_ext, ev_lenP, ev_eqP, kEqP_ev, kEqP2_ev, ev_inP, ev_nilO, ev_consF, ev_consO, kConsF_ev, kConsO_ev, ev_par, ev_for, ev_part, kPart_ev, ev_sl, kSl_ev, kSl2_ev, ev_m1, kM1_ev, ev_idx, kIdx_ev, ev_itL, ev_itT, ev_enL, ev_enT, ev_enQ, ev_fld, ev_prop, ev_inO, kInO_ev, kInO2_ev, ev_lenO, kLenO_ev, ev_setA, ev_make, ev_callN,
  List.getElem?_cons_zero, List.getElem?_cons_succ, List.set_cons_zero, List.set_cons_succ, List.append_nil, List.nil_append, List.cons_append, List.length_cons, List.length_nil, if_true, if_false, Nat.reduceAdd, Nat.reduceEqDiff, Nat.zero_add, peek, ownD, ownL, putO, DL.putAll, Option.map_some, Option.bind_some, asDat, asL, asT, as1, asQ, seqD, decide_true, env0, env1, List.map_cons, List.map_nil, List.replicate, Nat.reduceSub, reduceCtorEq, reduceIte, iLt_ev, iLe_ev, iGt_ev, iGe_ev, iAdd_ev, iSub_ev, intF_i, intF_b, minF_ev, maxF_ev, absF_ev, lenF_l, lenF_t, lenF_sc, listF_l, listF_t, tupleF_t, boD_ev, ixF_l0, ixF_l1, ixF_l2, ixF_t0, ixF_t1, ixF_t2, mkTup_0, mkLst_0, mkTup_1, mkLst_1, mkTup_2, mkLst_2, mkTup_3, mkLst_3, mkTup_4, mkLst_4, mkTup_5, mkLst_5, slL_ev, slT_ev, slQ_l, slQ_t, revF_t, revF_l, gsNil_ev, gsCons_ev, out_ret, out_nx, outR_ret, outR_nx, noX_ok])
local macro_rules | `(tactic| walk_at "eva") => `(tactic| simp -implicitDefEqProofs only [and_self, bind_err, ev_raise, back_err, outR_err, ev_toldM, kTold_ok, kTold_err, ev_meth, kMeth_ev, kMeth2_ev, ev_eqO, kEqO_ev, kEqO2_ev, ev_errV, ev_dnew, bind_ok, bind_stuck, ev_ok, ev_of, ev_seq, kSeq_nx, kSeq_ret, kSeq_bk, kSeq_ct, ev_nx, ev_if, kIf_true, kIf_false, ev_var, kVar_fz, kVar_ow, ev_op, kOp_ev, ev_opB, kOpB_ev, ev_un, ev_chain, kCh_ev, ev_bd, ev_test, asB_b, ev_and, kAnd_t, kAnd_f, ev_or, kOr_t, kOr_f, ev_not, ev_andV, kAndV_t, kAndV_f, ev_orV, kOrV_t, kOrV_f, ev_notV, ev_nil, ev_cons, kCons_ev, ev_tup, ev_lst, ev_cb, ev_ret, ev_retN, ev_drop, ev_never, ev_asg, ev_setF, ev_gN, ev_callf, back_ok, ev_ixP, kIxP_ev, kIxP2_ev, ev_setIx, kSetIx_ev, kSetIx1_ev, ev_callP, kCallP_ev, kCallP2_ev, back1_ok, ev_pop, kOwn_ev, ev_app, ev_ext, ev_lenP, ev_eqP, kEqP_ev, kEqP2_ev, ev_inP, ev_nilO, ev_consF, ev_consO, kConsF_ev, kConsO_ev, ev_par, ev_for, ev_part, kPart_ev, ev_sl, kSl_ev, kSl2_ev, ev_m1, kM1_ev, ev_idx, kIdx_ev, ev_itL, ev_itT, ev_enL, ev_enT, ev_enQ, ev_fld, ev_prop, ev_inO, kInO_ev, kInO2_ev, ev_lenO, kLenO_ev, ev_setA, ev_make, ev_callN,
  List.getElem?_cons_zero, List.getElem?_cons_succ, List.set_cons_zero, List.set_cons_succ, List.append_nil, List.nil_append, List.cons_append, List.length_cons, List.length_nil, if_true, if_false, Nat.reduceAdd, Nat.reduceEqDiff, Nat.zero_add, peek, ownD, ownL, putO, DL.putAll, Option.map_some, Option.bind_some, asDat, asL, asT, as1, asQ, seqD, decide_true, env0, env1, List.map_cons, List.map_nil, List.replicate, Nat.reduceSub, reduceCtorEq, reduceIte, iLt_ev, iLe_ev, iGt_ev, iGe_ev, iAdd_ev, iSub_ev, intF_i, intF_b, minF_ev, maxF_ev, absF_ev, lenF_l, lenF_t, lenF_sc, listF_l, listF_t, tupleF_t, boD_ev, ixF_l0, ixF_l1, ixF_l2, ixF_t0, ixF_t1, ixF_t2, mkTup_0, mkLst_0, mkTup_1, mkLst_1, mkTup_2, mkLst_2, mkTup_3, mkLst_3, mkTup_4, mkLst_4, mkTup_5, mkLst_5, slL_ev, slT_ev, slQ_l, slQ_t, revF_t, revF_l, gsNil_ev, gsCons_ev, out_ret, out_nx, outR_ret, outR_nx, noX_ok, Bool.not_true, Bool.not_false, Bool.false_xor, Bool.true_xor, gT2_dat, gT3_dat, gT2_wk, gL3_dat, *])

namespace Q
open DL
/-! ### the law -/
theorem places_ev {ns : List Int} : ∃ m : Nat, f_l_places [.scr ns, dI 3] = .ok (dL (rangeP m)) ∧ m ≤ 3 := by
  refine ⟨max 1 (min 3 ns.length), ?_, by omega⟩
  have e : mCB maxF (mCons (mOk (.dat (.int 1))) (mCons (mCB minF (mCons (mVar 1) (mCons (mCB lenF (mCons (mVar 0) mNil)) mNil))) mNil)) [.fz (.scr ns), .fz (dI 3)] = .ok (dI (max 1 (min 3 ns.length) : Nat)) [.fz (.scr ns), .fz (dI 3)] := by
    walk_at "ev"
    congr 3
    split <;> split <;> omega
  unfold f_l_places m_l_places
  show noX (outR ((mListRg _ [.fz (.scr ns), .fz (dI 3)]).bind _)) = _
  rw [ev_listRg e (by omega)]
  rfl
def lawE : M D := mCallPF 0 f_l_right (mCallN 2 f_l_pot (mCons (mVar 0) (mCons (mVar 1) mNil))) mNil
theorem lawE_ev {ns : List Int} {k : Nat} (hk : k ≤ 100) : lawE [.fz (.scr ns), .fz (dI (k : Nat))] = .ok (dB true) [.fz (.scr ns), .fz (dI (k : Nat))] := by
  obtain ⟨p, e, hp⟩ := pot_ok (ns := ns) hk
  obtain ⟨p', e2, _⟩ := right_ok (B := 0) (p := p) (hp.mono (by omega))
  have e3 : mCallN 2 f_l_pot (mCons (mVar 0) (mCons (mVar 1) mNil)) [.fz (.scr ns), .fz (dI (k : Nat))] = .ok p [.fz (.scr ns), .fz (dI (k : Nat))] := by
    generalize f_l_pot = G at e ⊢
    generalize D.scr ns = z at e ⊢
    clear e2 hp
    walk_at "eva"
  unfold lawE mCallPF
  rw [e3, bind_ok, ev_nil, bind_ok, if_pos (show ([] : List D).length = 0 from rfl), e2]
theorem law_true (ns : List Int) (hl : ns.length ≤ 63) : f_law [.scr ns] = .ok (dB true) := by
  obtain ⟨m, e, hm⟩ := places_ev (ns := ns)
  have c1 : (mLc [1] (mItL (mCall 2 f_l_places [] (mCons (mVar 0) (mCons (mOk (.dat (.int 3))) mNil)))) (gN 1) mYes lawE) [.fz (.scr ns), .no] = .ok (dL ((List.range m).map fun _ => .bool true)) [.fz (.scr ns), .no] := by
    refine ev_lcA (enc := fun k : Nat => dI (k : Nat)) (h := fun _ => .bool true) (xs := List.range m) (δ1 := [.fz (.scr ns), .no]) ?_ (by rw [List.length_range]; exact le_most (by omega)) rfl rfl fun k hk => ⟨[.fz (.scr ns), .fz (dI (k : Nat))], [.fz (.scr ns), .fz (dI (k : Nat))], rfl, lawE_ev (by have := List.mem_range.mp hk; omega), rfl⟩
    have hr : dats (rangeP m) = (List.range m).map fun k => dI (k : Nat) := by simp [dats, rangeP, Function.comp_def]
    rw [← hr]
    generalize f_l_places = G at e ⊢
    generalize D.scr ns = z at e ⊢
    generalize rangeP m = ks at e ⊢
    walk_at "ev"
    rw [e]
    walk_at "ev"
  have c2 : allF [dL ((List.range m).map fun _ => .bool true)] = some (dB true) := by rw [allF_map (f := fun _ => true)]; simp
  show noX (outR (mRet (mCB allF (mCons (mLc [1] (mItL (mCall 2 f_l_places [] (mCons (mVar 0) (mCons (mOk (.dat (.int 3))) mNil)))) (gN 1) mYes lawE) mNil)) [.fz (.scr ns), .no])) = _
  generalize (mLc [1] (mItL (mCall 2 f_l_places [] (mCons (mVar 0) (mCons (mOk (.dat (.int 3))) mNil)))) (gN 1) mYes lawE) = G at c1 ⊢
  generalize dL ((List.range m).map fun _ => .bool true) = y at c1 c2
  generalize D.scr ns = z at c1 ⊢
  clear e
  walk_at "eva"
end Q

open PySem PySem.Spec PyProof.Rows L2 MT
local macro_rules | `(tactic| walk_at "v") => `(tactic| refine ⟨_, rfl, ?_⟩)
local macro_rules | `(tactic| walk_at "i") => `(tactic| refine ⟨_, _, rfl, rfl, ?_⟩)
local macro_rules | `(tactic| walk_at "vs") => `(tactic| repeat (first | refine ⟨_, rfl, ?_⟩ | refine ⟨_, _, rfl, rfl, ?_⟩))

namespace Q
open DL
theorem sqL_noT {K : PySem.W.Frag} {H : Hp} {a : Addr} {xs : List V} (h : SqL K H a xs) : SqL K (MT.noT H) a xs := by
  rcases h with (h | ⟨o, h⟩) | h
  · exact .inl (.inl (MT.noT_of h (by intro _ z; cases z)))
  · exact .inl (.inr ⟨o, MT.noT_of h (by intro _ z; cases z)⟩)
  · exact .inr h
theorem factsT {w : World} {K : PySem.W.Frag} {h : Heap} {mg : Str → Option Value} {f : Addr} (X : K.In h) (G : h.Ns mainGlobals mg) (hfa : mg ("law" : Str) = some (.ref f)) (c : SaysP fa fn pn ts exf (fnIv ivK) w K) :
    ∃ fd : FuncData, (∀ (s : Shared) (v : Value), BindsTo s fd ⟨[v], []⟩ [("_law_script", v)]) ∧ ∀ base : Heap, K.In base → base.Ns mainGlobals mg → TBs K mg base → FnOkG PRG w K mg base CX0 lawLv f fd ["_law_script"] (sp0 K 1 f_law) := by
  have T : Tx w K mg := ⟨c, h, X, G⟩
  have e := hfa.symm.trans T.g_law
  cases e
  obtain ⟨fd, F⟩ := T.f_law
  refine ⟨fd, fun s u => F.bindsA (ps := ["_law_script"]) (fun _ _ _ _ _ _ us hl => match us, hl with | [_], _ => rfl) s [u] rfl, fun base _ _ TB => run_law F T TB⟩
end Q
open PySem PySem.W PySem.Calls PyProof.Rows
set_option maxRecDepth 100000 in
set_option maxHeartbeats 0 in
theorem PySem.Challenge.cw_metonce_k03_bounds_of_halls_holds : PySem.Challenge.rw_metonce_k03_bounds_of_halls.Holds := by
  w_on; o_law
  refine HandSHeadRun.head_any (r := OpenLaw.row PySem.Challenge.rw_metonce_k03_bounds_of_halls) (q := view (OpenLaw.row PySem.Challenge.rw_metonce_k03_bounds_of_halls).prog [Q.lawAt]) (H := Q.hk) (ob := Q.ob) (M := 40000) (loose := Q.loose) (d := HandSHeadRun.topDef (OpenLaw.row PySem.Challenge.rw_metonce_k03_bounds_of_halls).prog Q.lawAt) (kwd := []) Q.ob_eq
    (by kernel_rfl) (fun s => by kernel_rfl) Q.run (by kernel_rfl) (by kernel_rfl) (by kernel_rfl) (by rfl) (by first | assumption | decide +kernel) (by decide +kernel) ⟨rfl, rfl, rfl, rfl, rfl, by decide +kernel⟩ ?hw ?hc
  case hw => w_witness2
  case hc =>
    refine MT.walk_ofTG (l := PySem.Challenge.rw_metonce_k03_bounds_of_halls) (n := 63) (k := Q.lawLv) (x := "_law_script") (CX := L2.CX0) rfl (by decide) (by kernel_rfl) ⟨rfl, by decide, by decide⟩ ?F (fun _ _ _ _ z => z)
    intro w mg fa h Y G hmg0
    obtain ⟨K, KX, c, th⟩ := Y
    have hmg : mg ("law" : PySem.Str) = some (.ref fa) := by
      have e : (HandSHeadRun.topDef (OpenLaw.row PySem.Challenge.rw_metonce_k03_bounds_of_halls).prog Q.lawAt).name = ("law" : PySem.Str) := by kernel_rfl
      rw [← e]
      exact hmg0
    obtain ⟨fd, hb, hF⟩ := Q.factsT (w := w) KX G hmg c
    refine ⟨K, fd, DL.sp0 K 1 Q.f_law, MT.lamDefs.map (fun q => (MT.codA K q.1, MT.tabA K q.1)), KX, ⟨fun p hp => ?_, fun p hp => ?_, fun p hp => ?_⟩, hb, fun H a ns hl hT hS => ?_, fun base b1 b2 b3 => hF base b1 b2 fun q hq => b3 _ (List.mem_map_of_mem hq)⟩
    · obtain ⟨q, hq, rfl⟩ := List.mem_map.mp hp
      exact th.emp q.1 (List.mem_map_of_mem hq)
    · obtain ⟨q, hq, rfl⟩ := List.mem_map.mp hp
      exact th.out q.1 (List.mem_map_of_mem hq)
    · obtain ⟨q, hq, rfl⟩ := List.mem_map.mp hp
      exact PySem.W.codeHd_of_K KX (th.hd q.1 (List.mem_map_of_mem hq))
    · refine ⟨rfl, MT.noT H, [.scr ns], MT.noT_same, ⟨fun p hp => ?_, fun b ps z => (MT.noT_to z).2 ps rfl⟩, .cons (.scr (Q.sqL_noT hS)) .nil, ?_⟩
      · obtain ⟨q, hq, rfl⟩ := List.mem_map.mp hp
        exact LamX.TabS.nil (hT _ (List.mem_map_of_mem (f := fun q => (MT.codA K q.1, MT.tabA K q.1)) hq))
      · rw [Q.law_true ns hl]
        intro v F' H' _ _ _ _ rv
        cases rv.dd
        rfl
#print axioms PySem.Challenge.cw_metonce_k03_bounds_of_halls_holds
