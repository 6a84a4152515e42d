import PyProof.Rows.All
import Wide.All
import OpenK.AllK
import Wide.FinOn
import KE.KStateDown
import HandS.ForMost
import HandS.ForExc
import HandS.Wide
import HandS.Defaults
import HandS.Flow
import HandS.IsInst
import HandS.Conv
import HandS.More
import HandS.TupAny
import HandS.Zip
import HandS.Property
import HandS.Walk
import HandS.ExcInit
import HandS.Head0
import HandS.Head1
import HandS.Head2
import HandS.HeadEnd
import HandS.HeadHook1
import HandS.HeadHook2
import KE.KExcSuper
import KE.KExcIs
import HandS.ExcSuper
import HandS.ExcIs
import HandS.ExcValue
import PySem.Challenge.RW_metonce_k00_errors_keep_their_values
set_option Elab.async false
set_option linter.all false
set_option maxRecDepth 100000
set_option maxHeartbeats 4000000
namespace MT
open PySem PySem.Spec PyProof.Rows L2
/-! ### operators -/
section
variable {X : Cx}
def CPowW (i j : Int) : Prop := 0 ≤ j ∧ (Builtin.Int.intBits i : Int) * j ≤ 2 ^ 27
theorem op_powW : OpR X (binaryOp .Pow) (rI CPowW fun i j => .int (i ^ j.toNat)) := opI fun _ _ _ _ _ _ _ hc q => pow_int hc.1 hc.2 q
end
/-! ### a def that keeps its promise, by its name -/
structure Ok (P : Program) (w : World) (K : PySem.W.Frag) (mg : Str → Option Value) (base : Heap) (CX : CXT) (k : Nat) (x : Str) (ps : List Str) (dvs : List V) (sp : Sp) : Prop where
  fn : ∃ (fd : FuncData) (ds : List Value), FnOk P w K mg base CX k (He.ga K x) fd ps sp ∧ Binds K fd ps ds ∧ Vals dvs ds
  kp : PySem.W.keepIn K (.ref (He.ga K x)) = true
  gl : mg x = some (.ref (He.ga K x))
section
variable {X : Cx} {CX : CXT} {k : Nat} {x : Str} {ps : List Str} {dvs : List V} {sp : Sp} {E : XK} {e : Expr} {es : List Expr} {t : TA} {p pos : Pos}
theorem pe_callO (O : Ok X.prog X.w X.K X.mg X.base CX k x ps dvs sp) (hr : Room k X.A) (hg : Gl X x) (hx : Passes CX X E) (ha : PA X (e :: es) t) (hdb : (x == ("__debug__" : Str)) = false := by decide)
    (he : starEach (e :: es) X.env = (false, eval e X.env) :: starEach es X.env := by rfl) (hpl : (backTo pos (starEach es X.env)).any (·.1) = false := by rfl) :
    PE X (.Call (.Name x p) (e :: es) [] pos) (tCall sp dvs E t) := by
  obtain ⟨⟨fd, ds, F, b, d⟩, kp, m⟩ := O
  exact pe_call F hr hg m kp b d hx ha hdb he hpl
end
/-! ### the module's names -/
section
variable {X : Cx} {x : Str} {pos : Pos}
theorem pe_obj {a : Addr} (hg : Gl X x) (hm : X.mg x = some (.ref a)) (hd : (x == ("__debug__" : Str)) = false := by decide) : PE X (.Name x pos) (tC (.ref a)) := pe_glob hg hm rfl hd
theorem pe_cstr {z : Str} (hg : Gl X x) (hm : ∃ t, X.mg x = some (.str z t)) (hd : (x == ("__debug__" : Str)) = false := by decide) : PE X (.Name x pos) (tC (.str z)) := let ⟨_, h⟩ := hm; pe_glob hg h ⟨_, rfl⟩ hd
theorem pe_cint {z : Int} (hg : Gl X x) (hm : ∃ t, X.mg x = some (.int z t)) (hd : (x == ("__debug__" : Str)) = false := by decide) : PE X (.Name x pos) (tC (.int z)) := let ⟨_, h⟩ := hm; pe_glob hg h ⟨_, rfl⟩ hd
theorem pe_bty {n : String} (hg : Gl X x) (hm : X.mg x = none) (hv : bootBuiltins x = some (.type n)) (hn : x ≠ "__name__" := by decide) (hd : (x == ("__debug__" : Str)) = false := by decide) : PE X (.Name x pos) (tC (.ty n)) := pe_bltn hg hm hv rfl hn hd
end
/-! ### ways that join -/
theorem ite_k {H : Hp} {b : Bool} {t u : VK → Prop} {Q : VK} (fin : ∀ c : Int, Q (.int c) H) (h1 : b = true → (∀ c : Int, Q (.int c) H) → t Q) (h2 : b = false → (∀ c : Int, Q (.int c) H) → u Q) : if b = true then t Q else u Q := by
  cases b with
  | true => exact iteT (h1 rfl fin)
  | false => exact iteF (h2 rfl fin)
/-! ### heaps -/
theorem new_keep {H : Hp} {a b : Addr} {o u : HO} (h : H a = some o) (n : H b = none) : upd H b u a = some o := by
  rw [upd_ne (ne_of_none h n)]; exact h
theorem wr_keep {H : Hp} {a b : Addr} {o u : HO} (h : H a = some o) (n : a ≠ b) : upd H b u a = some o := by
  rw [upd_ne n]; exact h
/-- forget how the heap came about -/
theorem gen_heap {R : Hp → Prop} {Hc : Hp} (S : Hp → Prop) (hS : S Hc) (g : ∀ Hf, S Hf → R Hf) : R Hc := g _ hS
theorem same_new {H : Hp} {b : Addr} {u : HO} (n : H b = none) : Same H (upd H b u) := fun _ _ h => new_keep h n
theorem Same.new {H H1 : Hp} (s : Same H H1) {b : Addr} {u : HO} (n : H1 b = none) : Same H (upd H1 b u) := fun _ _ h => new_keep (s _ _ h) n
theorem Same.tup {K : PySem.W.Frag} {H H' : Hp} {a : Addr} {xs : List V} (e : Same H H') (h : SqT K H a xs) : SqT K H' a xs := by
  rcases h with (h | ⟨o, h⟩) | h
  · exact .inl (.inl (e _ _ h))
  · exact .inl (.inr ⟨o, e _ _ h⟩)
  · exact .inr h
/-- all but p stays -/
def SameBut (p : Addr) (H H' : Hp) : Prop := ∀ b o, b ≠ p → H b = some o → H' b = some o
theorem SameBut.refl (p : Addr) (H : Hp) : SameBut p H H := fun _ _ _ h => h
theorem SameBut.trans {p : Addr} {H H1 H2 : Hp} (a : SameBut p H H1) (b : SameBut p H1 H2) : SameBut p H H2 := fun c o n h => b c o n (a c o n h)
theorem SameBut.of {p : Addr} {H H' : Hp} (a : Same H H') : SameBut p H H' := fun c o _ h => a c o h
theorem SameBut.wr {p : Addr} {H : Hp} {u : HO} : SameBut p H (upd H p u) := fun c o n h => wr_keep h n
theorem SameBut.new {p q : Addr} {H H1 : Hp} {u : HO} (a : SameBut p H H1) (n : H1 q = none) : SameBut p H (upd H1 q u) := fun c o nc h => new_keep (a c o nc h) n
theorem SameBut.same {p : Addr} {H H' : Hp} (a : SameBut p H H') (n : H p = none) : Same H H' := fun c o h => a c o (ne_of_none h n) h
/-- the heap without p -/
def hid (p : Addr) (H : Hp) : Hp := fun b => if b = p then none else H b
theorem hid_at {p t : Addr} {H : Hp} {o : HO} (n : t ≠ p) (h : H t = some o) : hid p H t = some o := by unfold hid; rw [if_neg n]; exact h
theorem hid_same (p : Addr) (H : Hp) : Same (hid p H) H := fun b o h => by
  unfold hid at h
  by_cases e : b = p
  · rw [if_pos e] at h; cases h
  · rw [if_neg e] at h; exact h
theorem SameBut.hid {p : Addr} {H H' : Hp} (s : SameBut p H H') : Same (MT.hid p H) (MT.hid p H') := fun b o h => by
  have h2 := hid_same p H b o h
  have n : b ≠ p := fun e => by unfold MT.hid at h; rw [if_pos e] at h; cases h
  exact hid_at n (s b o n h2)
theorem hid_upd {p : Addr} {H : Hp} {u : HO} : hid p (upd H p u) = hid p H := by
  funext b
  unfold hid upd
  by_cases e : b = p
  · rw [if_pos e, if_pos e]
  · rw [if_neg e, if_neg e, if_neg e]
theorem same_hid {p : Addr} {H : Hp} {u : HO} (n : H p = none) : Same H (hid p (upd H p u)) := fun b o h => hid_at (ne_of_none h n) (new_keep h n)
theorem dec_ints (i j : Int) : decide (V.int i = V.int j) = decide (i = j) := by
  by_cases e : i = j
  · rw [e]; simp
  · rw [decide_eq_false e, decide_eq_false (fun z => e (V.int.inj z))]
theorem hid_none {p t : Addr} {H : Hp} (h : H t = none) : hid p H t = none := by
  unfold hid
  split
  · rfl
  · exact h
/-- what is new in H' -/
def fresh (H H' : Hp) : Hp := fun b => match H b with
  | none => H' b
  | some _ => none
theorem fresh_at {H H' : Hp} {b : Addr} {o : HO} (n : H b = none) (h : H' b = some o) : fresh H H' b = some o := by unfold fresh; rw [n]; exact h
theorem fresh_to {H H' H2 : Hp} (k : ∀ b o, H b = none → H' b = some o → H2 b = some o) : Same (fresh H H') H2 := fun b o h => by
  unfold fresh at h
  cases e : H b with
  | none => rw [e] at h; exact k b o e h
  | some u => rw [e] at h; cases h
/-- a comprehension by an invariant over the turn, the items so far and the heap -/
theorem lc_go {J : It} {n : Nat} {G : Hp → Prop} {Y : Nat → Hp → V → Hp → Prop} (w : Walk J n G Y) {g : TG} {tt : TT} {te : TE} {vs : List Nat} {σ : L2.St} {H1 : Hp} {D : Addr} {Qd : Hp → Prop} (In : Nat → List V → Hp → Prop) (hn : n ≤ 1000000)
    (h0 : In 0 [] (upd H1 D (.lst []))) (hst : ∀ i ys H zs, i ≤ n → In i ys H → In i ys (upd H D (.lst zs))) (hG : ∀ i ys H, i ≤ n → In i ys H → G H)
    (turn : ∀ i x ys H H', i < n → In i ys H → H D = some (.lst ys) → ys.length ≤ i → Y i H x H' → ∀ (Add : VK) (Skip : Hp → Prop), (∀ y H4, In (i + 1) (ys ++ [y]) H4 → H4 D = some (.lst ys) → Add y H4) → (∀ H3, In (i + 1) ys H3 → H3 D = some (.lst ys) → Skip H3) →
      g x (wipe σ vs) H' fun σ2 H2 => wipe σ2 vs = wipe σ vs ∧ tt σ2 H2 fun b H3 => if b = true then te σ2 H3 Add else Skip H3)
    (fin : ∀ ys H, In n ys H → H D = some (.lst ys) → Qd H) :
    ∃ W : Nat → Nat → Hp → Prop, (∃ m, W 0 m (upd H1 D (.lst []))) ∧ ∀ i m H, W i m H →
      (J.stop i H ∧ Qd H) ∨ (J.go i H ∧ ∃ Nx : Hp → Prop, (∀ H', Nx H' → ∃ m', m' < m ∧ W (i + 1) m' H') ∧ ∀ x H', J.yld i H x H' → g x (wipe σ vs) H' fun σ2 H2 => wipe σ2 vs = wipe σ vs ∧ tt σ2 H2 fun b H3 =>
        if b = true then te σ2 H3 fun y H4 => ∃ acc, H4 D = some (.lst acc) ∧ acc.length < sizeLine ∧ Nx (upd H4 D (.lst (acc ++ [y]))) else Nx H3) := by
  refine lc_it w (fun i H => ∃ ys, In i ys H ∧ H D = some (.lst ys) ∧ ys.length ≤ i) ⟨[], h0, upd_same, Nat.le_refl _⟩ (fun i H hi ⟨ys, a, _, _⟩ => hG i ys H hi a) ?_ fun H ⟨ys, a, b, _⟩ => fin ys H a b
  rintro i x H H' hi ⟨ys, a, b, l⟩ y
  refine turn i x ys H H' hi a b l y _ _ (fun y H4 q e => ⟨ys, e, ?_, ys ++ [y], hst _ _ _ _ hi q, upd_same, by rw [List.length_append]; exact Nat.succ_le_succ l⟩) fun H3 q e => ⟨ys, q, e, Nat.le_succ_of_le l⟩
  exact Nat.lt_of_le_of_lt (Nat.le_trans l (Nat.le_trans (Nat.le_of_lt hi) hn)) (by decide)
theorem SameBut.seq {K : PySem.W.Frag} {p a : Addr} {H H' : Hp} {xs : List V} (e : SameBut p H H') (n : a ≠ p) (h : SqL K H a xs) : SqL K H' a xs := by
  rcases h with (h | ⟨o, h⟩) | h
  · exact .inl (.inl (e _ _ n h))
  · exact .inl (.inr ⟨o, e _ _ n h⟩)
  · exact .inr h
theorem SameBut.tup {K : PySem.W.Frag} {p a : Addr} {H H' : Hp} {xs : List V} (e : SameBut p H H') (n : a ≠ p) (h : SqT K H a xs) : SqT K H' a xs := by
  rcases h with (h | ⟨o, h⟩) | h
  · exact .inl (.inl (e _ _ n h))
  · exact .inl (.inr ⟨o, e _ _ n h⟩)
  · exact .inr h
end MT

namespace PySem
namespace MEX
open PySem.W PySem.Calls PyProof.Rows PySem.HandSPX
/-! ### the text of MeetError's __init__ -/
def iA (k : Nat) : Arguments := { posonlyargs := [], args := [{ arg := "self", annotation := none, pos := ⟨k + 4, 17, k + 4, 21⟩ }, { arg := "value", annotation := none, pos := ⟨k + 4, 23, k + 4, 28⟩ }], vararg := none, kwonlyargs := [], kw_defaults := [], kwarg := none, defaults := [] }
def iB (k : Nat) : List Stmt :=
  [.Expr (.Call (.Attribute (.Call (.Name "super" ⟨k + 5, 8, k + 5, 13⟩) [] [] ⟨k + 5, 8, k + 5, 15⟩) "__init__" ⟨k + 5, 8, k + 5, 24⟩) [.Name "value" ⟨k + 5, 25, k + 5, 30⟩] [] ⟨k + 5, 8, k + 5, 31⟩) ⟨k + 5, 8, k + 5, 31⟩,
   .Assign [.Attribute (.Name "self" ⟨k + 6, 8, k + 6, 12⟩) "value" ⟨k + 6, 8, k + 6, 18⟩] (.Name "value" ⟨k + 6, 21, k + 6, 26⟩) ⟨k + 6, 8, k + 6, 26⟩]
def iS : Scope := { kind := .function, names := [(PySem.Str.ofString "self", .local), (PySem.Str.ofString "value", .local), (PySem.Str.ofString "__class__", .free), (PySem.Str.ofString "super", .globalImplicit)], isGenerator := false, isCoroutine := false, more := [] }
/-- what the written part says of MeetError's __init__ (at fI), MeetError at D -/
structure InitTxt (prog : Program) (K : Frag) (D fI : Addr) : Prop where
  tI : typeIn K (.ref fI) = some (.type "function")
  opq : nsIn K cStatics "thirdparty.any" = some none
  sup : nsIn K mainGlobals "super" = some none
  top : (prog.main.scope.names.lookup ("super" : Str)).isSome = false
  cD : ∃ cd, clsIn K D = some cd
  fn : ∃ (oc : Value) (od : Option Addr) (kV doc pm : Value) (an : Option Addr) (cda cc : Addr) (ct : Value) (osl : Array (Option Value)) (k : Nat), (k = 0 ∨ k = 3) ∧
    K.lookup fI = some ⟨oc, od, .func (ksFn "__init__" "MeetError.__init__" (iA k) (iB k) iS .none kV doc pm an (.ref cda) ct cc), osl⟩ ∧ codeIn K (.ref cda) "MeetError.__init__" = true ∧
    (∃ (ccl : Value) (cdd : Option Addr) (vs : Array Value) (ccs : Array (Option Value)) (file : Str) (tf : Tok), K.lookup cda = some ⟨ccl, cdd, .fields vs, ccs⟩ ∧ vs[2]? = some (.str file tf) ∧ ((prog.main.file : Str) == file) = true) ∧
    ∃ (cl : Value) (cld : Option Addr) (csl : Array (Option Value)), K.lookup cc = some ⟨cl, cld, .cell (some (.ref D)), csl⟩
/-- .. and of one of the errors' classes (at C) -/
structure ErrTxt (K : Frag) (D fI C : Addr) : Prop where
  cls : ∃ nm q N bs bm sn sub ab col dd k0 k1 k2 k3 k5, K.lookup C = some (excClassObj nm q C N bs bm true sn sub ab col dd k0 k1 k2 k3 k5 "ValueError.__new__") ∧ refsVE bm = true
  sa : findIn K (.ref C) "__setattr__" = some (some (.builtin "object.__setattr__"))
  ga : findIn K (.ref C) "__getattribute__" = some (some (.builtin "BaseException.__getattribute__"))
  gg : findIn K (.ref C) "__getattr__" = some none
  noV : findIn K (.ref C) "value" = some none
  iC : findIn K (.ref C) "__init__" = some (some (.ref fI))
  kC : keepIn K (.ref C) = true
  exC : subIn K (.ref C) (.type "BaseException") = some true
  veC : subIn K (.ref C) (.type "ValueError") = some true
  tyC : typeIn K (.ref C) = some (.type "type")
  hdC : hasDictIn K C = true
  sup : ks_superIn K C D "__init__" = some (some (.builtin "ValueError.__init__"))
  sub : mroIn K C (.ref D) = some true
theorem iS_nocell : ∀ x ∈ iS.names, x.2 ≠ .cell := by decide
theorem iS_loc {x v : Value} : ∀ y ∈ ([("self", x), ("value", v)] : List (Str × Value)), iS.names.lookup y.1 = some .local := fun y hy => by
  rcases List.mem_cons.mp hy with rfl | hy
  · rfl
  · rcases List.mem_cons.mp hy with rfl | hy
    · rfl
    · cases hy
theorem one_size (v : Value) : [v].length ≤ sizeLine := by rw [sizeLine_eq]; exact (by decide : 1 ≤ 16777216)
/-- what __init__ leaves of a fresh exception at x -/
structure InitEnd (h h' : Heap) (x C dx : Addr) (v : Value) : Prop where
  keep : ∀ b o, b ≠ x → h.get? b = some o → h'.get? b = some o
  obj : ∃ t1 : Addr, h'.get? x = some { cls := .ref C, dict := some dx, data := .fields #[.ref t1, .none, .none, .none, .bool false, .none] }
  dbig : h.objs.size ≤ dx
  dne : dx ≠ x
  ns : h'.Ns1 dx (fun y => if y = "value" then some v else none)
section
variable {prog : Program} {w : World} {A : Around} {E : Value → Shared → Prop} {R : Result → Shared → Prop} {K : Frag} {mg mb : Str → Option Value} {D fI C : Addr}
variable {h : Heap} {g : Array GenState} {d : Drawn} {t : Nat} {os : OsState}
/-- ValueError.__init__ bound to an exception, called -/
theorem call_bw {nm q : Str} {N : Addr} {bs bm : List Value} {hdct : Bool} {sn : List Str} {sub : List Value} {ab : Bool} {col : Option Bool} {dd : Option Addr} {k0 k1 k2 k3 k5 : Option Value} {u e t0 : Addr} {rest : List Value} {Q : Value → Shared → Prop}
    (hC : h.get? C = some (excClassObj nm q C N bs bm hdct sn sub ab col dd k0 k1 k2 k3 k5 "ValueError.__new__")) (he : h.get? e = some (excO C t0)) (hu : h.get? u = some (kxs_mw "ValueError.__init__" e)) (hrest : rest.length ≤ sizeLine)
    (hq : ∀ h' t1, (∀ b o, b ≠ e → h.get? b = some o → h'.get? b = some o) → h'.get? e = some (excO C t1) → Q .none ⟨h', g, d, t, os⟩) :
    wpAny (model prog w) A (call (.ref u) rest) Q E ⟨h, g, d, t, os⟩ := by
  refine wpAny_call (codeAny_of_tree ?_)
  show wpAny _ A.in1 (callAny (.ref u) ⟨rest, []⟩) _ _ _
  simp only [callAny]
  refine wpAny_bind (wpAny_load hu ?_)
  simp only [kxs_mw, show (Value.type "method-wrapper" == Value.type "method" || Value.type "method-wrapper" == Value.type "builtin_function_or_method" || Value.type "method-wrapper" == Value.type "method-wrapper") = true by decide, if_true]
  refine KFB.if_so (by decide) ?_
  refine wpAny_bind (check_bound_init F.excBase_ValueError.toExcCallFacts hC he rfl ?_)
  refine wpAny_bind (wpAny_pure (wpAny_pure ?_))
  refine ⟨Code.quiet_builtin _ (by decide +kernel), codeAny_builtin F.excBase_ValueError.initEntry ?_⟩
  rw [Around.under_plainId F.excBase_ValueError.init.plain _]
  wp_walk
  refine hq _ h.objs.size (fun b o hb ho => ?_) ?_
  · rw [Heap.get?_update_other _ _ (Ne.symm hb)]
    exact Heap.get?_push_of_some _ ho
  · rw [Heap.get?_update_self _ (Heap.get?_push_of_some _ he) rfl]
    rfl
end
section
variable {prog : Program} {w : World} {A : Around} {E : Value → Shared → Prop} {R : Result → Shared → Prop} {s : Shared} {K : Frag} {mg mb : Str → Option Value} {D fI C : Addr}
theorem meet_init (I0 : InitTxt prog K D fI) (T : ErrTxt K D fI C) {x t0 : Addr} {v : Value} (X : K.In s.heap) (hlim : s.heap.NoLimit) (hg : s.heap.Ns mainGlobals mg) (hb : s.heap.Ns builtinsNs mb) (hbb : ∀ y : Str, y ≠ "__name__" → mb y = bootBuiltins y)
    (hx : s.heap.get? x = some (excO C t0)) (hnx : K.lookup x = none) (hroom : A.depth < recursionLimit)
    (hq : ∀ h' tk dx, InitEnd s.heap h' x C dx v → R (.ok (.ret .none)) { s with heap := h', toks := tk }) :
    codeAny (model prog w) A (.call (.ref fI) ⟨[.ref x, v], []⟩) R s := by
  obtain ⟨s, g, d, tk0, os⟩ := s
  obtain ⟨oc, od, kV, doc, pm, an, cda, cc, ct, osl, k, hk, hfn, hcd, ⟨ccl, cdd, vs, ccs, file, tf, hcode, hvs, hfile⟩, cl, cld, csl, hcell⟩ := I0.fn
  obtain ⟨nm, q, N, bs, bm, sn, sub, ab, col, dd, k0, k1, k2, k3, k5, hC, hbm⟩ := T.cls
  obtain ⟨cdD, hD⟩ := I0.cD
  have hcl : clsIn K C = some { name := nm, bases := bs, mro := .ref C :: bm, ns := N, qualname := q, hasDict := true, slotNames := sn, subclasses := sub, abstract := ab, collection := col, hasDel := false } := by unfold clsIn; rw [hC] <;> rfl
  refine ks_codeAny_call_defAt (fd := ksFn "__init__" "MeetError.__init__" (iA k) (iB k) iS .none kV doc pm an (.ref cda) ct cc) (binds := [("self", .ref x), ("value", v)]) hroom (X _ _ hfn) rfl hlim (codeRec_of X hcd) rfl (BindsTo.of_eq (by first | rfl | with_unfolding_all rfl)) iS_nocell iS_loc (fun h₁ hns kp => ?_) rfl rfl rfl
  have X1 : K.In h₁ := X.keeps kp
  have hx1 := kp _ _ hx
  have hxL : s.objs.size ≠ x := Nat.ne_of_gt (Heap.lt_size hx)
  have hg1 := hg.keeps kp
  have hb1 := hb.keeps kp
  obtain ⟨oD, hD1, hD2⟩ : ∃ oD, h₁.get? D = some oD ∧ oD.data = .cls cdD := by
    unfold clsIn at hD
    split at hD
    · rename_i c d cd' sl ho
      cases hD
      exact ⟨_, X1 _ _ ho, rfl⟩
    · cases hD
  have hsup : alongIn K "__init__" (((Value.ref C :: bm).dropWhile (· != .ref D)).drop 1) = some (some (.builtin "ValueError.__init__")) := by
    have z := T.sup
    unfold ks_superIn at z
    rw [hcl] at z
    exact z
  have I1 : InstAt h₁ x (excO C t0) C none := ⟨hx1, rfl, rfl, trivial⟩
  rcases hk with rfl | rfl
  all_goals refine ks_wpAt_execs_cons (ks_wpAt_Expr_any (ks_wpAt_MethodCall ?_) rfl rfl)
  all_goals
    refine ks_wpAt_super_base (env := ksEnv "MeetError.__init__" iS s.objs.size fI (.ref cda) cc) rfl rfl rfl rfl (X1 _ _ hfn) rfl rfl rfl (X1 _ _ hcode) rfl hvs hfile I0.top ?_
    refine ks_loadName_global (env := ksEnv "MeetError.__init__" iS s.objs.size fI (.ref cda) cc) rfl rfl (loadGlobal_builtin (env := ksEnv "MeetError.__init__" iS s.objs.size fI (.ref cda) cc) hg1 (mg_none_of X1 hg1 I0.sup) hb1 ((hbb _ (by decide +kernel)).trans (by kernel_rfl)) ⟨rfl, ?_⟩)
    refine wpAny_loadName_free rfl rfl rfl ⟨_, X1 _ _ hcell, rfl⟩ ?_
    refine wpAny_loadName_local rfl rfl hns (v := .ref x) (by first | rfl | decide | with_unfolding_all rfl | kernel_rfl) ?_
    refine ks_wpAny_isType_cls hD1 hD2 ⟨rfl, ?_⟩
    refine ks_wpAny_call_super hD1 hD2 hx1 rfl (fun c e => by cases e) (looks_mroIn X1 T.sub) (fun h2 hso k2 => ?_)
    have X2 : K.In h2 := X1.keeps k2
    have hx2 := k2 _ _ hx1
    have I2 : InstAt h2 x (excO C t0) C none := ⟨hx2, rfl, rfl, trivial⟩
    refine kxs_getMethod kxs_ValueError hso (looks_opaque X2 I0.opq) (l₀ := .ref C :: bm) ((looks_clsIn X2 hcl).andThen .now) rfl X2 hsup (I2.type.andThen (looks_subIn X2 T.veC)) (ks_ne X1 I1 hcl) (by decide) ?_
    refine kxs_callWith (i := "ValueError.__init__") (x := x) rfl (evalArgs_plain ?_)
    have kN : ∀ b o, h2.get? b = some o → (h2.push (kxs_mw "ValueError.__init__" x)).get? b = some o := fun b o e => Heap.get?_push_of_some _ e
    have hns2 := (hns.keeps k2).keeps kN
    refine Calls.spliced_cons (wpAny_Name (wpAny_loadName_local rfl rfl hns2 (v := v) (by first | rfl | decide | with_unfolding_all rfl | kernel_rfl) ?_) (by decide))
    refine Calls.spliced_nil ⟨Heap.get?_push_size _ rfl, ?_⟩
    refine call_bw (t0 := t0) (rest := [v]) (kN _ _ (X2 _ _ hC)) (kN _ _ hx2) (Heap.get?_push_size _ rfl) (one_size v) fun h3 t1 k3 hx3 => ?_
    have nx : ∀ b o, K.lookup b = some o → b ≠ x := fun b o e z => by rw [z, hnx] at e; cases e
    have X3 : K.In h3 := fun b o e => k3 b o (nx b o e) (kN _ _ (X2 b o e))
    have hns3 : h3.Ns s.objs.size (fun y => ([(("self" : Str), Value.ref x), ("value", v)] : List (Str × Value)).reverse.lookup y) := by
      obtain ⟨oL, es, ep, ho, r⟩ := hns2
      exact ⟨oL, es, ep, k3 _ _ hxL ho, r⟩
    refine ks_wpAt_execs_cons (wpAt_of_wpAny (plainObj_wpAny_Assign_Attribute ?_))
    refine wpAny_Name (wpAny_loadName_local rfl rfl hns3 (v := v) (by first | rfl | decide | with_unfolding_all rfl | kernel_rfl) ?_) (by decide)
    refine wpAny_Name (wpAny_loadName_local rfl rfl hns3 (v := .ref x) (by first | rfl | decide | with_unfolding_all rfl | kernel_rfl) ?_) (by decide)
    refine set_plain X3 (ox := excO C t1) (od := none) ⟨hx3, rfl, rfl, trivial⟩ T.sa ?_
    refine exc_osa X3 hx3 hcl (show refsVE (.ref C :: bm) = true from hbm) rfl T.noV (fun h4 tk4 dx k4 dn dne hx4 hn4 => ?_)
    have sz : s.objs.size ≤ h3.objs.size := by
      obtain ⟨oL, es, ep, ho, r⟩ := hns3
      exact Nat.le_of_lt (Heap.lt_size ho)
    exact wpAt_of_wpAny (wpAny_execs_nil (hq h4 tk4 dx ⟨fun b o hb e => k4 b o hb (k3 b o hb (kN _ _ (k2 _ _ (kp b o e)))), ⟨t1, hx4⟩, Nat.le_trans sz dn, dne, hn4⟩))
/-- a made error -/
structure OwnMade (h h' : Heap) (e C d : Addr) (v : Value) : Prop where
  keep : ∀ b o, h.get? b = some o → h'.get? b = some o
  new : h.objs.size ≤ e
  obj : ∃ oe vs, h'.get? e = some oe ∧ oe.cls = .ref C ∧ oe.dict = some d ∧ oe.data = .fields vs ∧ vs[1]? = some .none
  dbig : h.objs.size ≤ d
  dne : d ≠ e
  ns : h'.Ns1 d (fun y => if y = "value" then some v else none)
theorem meet_made (I0 : InitTxt prog K D fI) (T : ErrTxt K D fI C) {v : Value} (X : K.In s.heap) (hlim : s.heap.NoLimit) (hg : s.heap.Ns mainGlobals mg) (hb : s.heap.Ns builtinsNs mb) (hbb : ∀ y : Str, y ≠ "__name__" → mb y = bootBuiltins y)
    (hroom : A.depth + 1 < recursionLimit) (hq : ∀ h' tk e d, OwnMade s.heap h' e C d v → R (.ok (.ret (.ref e))) { s with heap := h', toks := tk }) :
    codeAny (model prog w) A (.call (.ref C) ⟨[v], []⟩) R s := by
  obtain ⟨nm, q, N, bs, bm, sn, sub, ab, col, dd, k0, k1, k2, k3, k5, hC, hbm⟩ := T.cls
  obtain ⟨hp, g, dr, tk, os⟩ := s
  have k : ∀ b o, hp.get? b = some o → ((hp.push (kdv_tup [v])).push (excO C hp.objs.size)).get? b = some o := fun b o e => Heap.get?_push_of_some _ (Heap.get?_push_of_some _ e)
  have hget : ((hp.push (kdv_tup [v])).push (excO C hp.objs.size)).get? (hp.objs.size + 1) = some (excO C hp.objs.size) := by heap_get
  have hnx : K.lookup (hp.objs.size + 1) = none := by
    cases e : K.lookup (hp.objs.size + 1) with
    | none => rfl
    | some o =>
      have z : hp.get? (hp.objs.size + 1) = some o := X _ _ e
      exact absurd (Nat.lt_of_succ_lt (Heap.lt_size z)) (Nat.lt_irrefl _)
  refine call_own F.excBase_ValueError (fun X => refsVE_contains X bm hbm) (X _ _ hC) (looks_findIn X T.iC) (fun self => bind_fn X self I0.tI) (one_size v) ?_
  refine meet_init (s := ⟨(hp.push (kdv_tup [v])).push (excO C hp.objs.size), g, dr, tk, os⟩) I0 T (X.keeps k) (hlim.keeps k) (hg.keeps k) (hb.keeps k) hbb hget hnx ?_ fun h' tk' dx ⟨k', ⟨t1, hx⟩, dn, dne, hns⟩ => ?_
  · show A.depth + 1 < recursionLimit
    exact hroom
  · have old : ∀ b o, hp.get? b = some o → h'.get? b = some o := fun b o e => k' b o (Nat.ne_of_lt (Nat.lt_succ_of_lt (Heap.lt_size e))) (k b o e)
    have z : hp.objs.size + 1 + 1 ≤ dx := by
      first
        | (simpa only [Heap.size_push] using dn)
        | exact dn
        | (have q := dn; rw [Heap.size_push, Heap.size_push] at q; exact q)
    exact ⟨rfl, hq h' tk' (hp.objs.size + 1) dx ⟨old, Nat.le_succ _, ⟨_, _, hx, rfl, rfl, rfl, rfl⟩, Nat.le_trans (Nat.le_trans (Nat.le_succ _) (Nat.le_succ _)) z, dne, hns⟩⟩
end
end MEX
end PySem
namespace MT
open PySem PySem.Spec PyProof.Rows L2 PySem.MEX
/-! ### errors as values -/
/-- at a: an error of the class at C, its dict at d -/
def ExV (C d a : Addr) : HO := .ext fun h => ∃ (oe : Obj) (vs : Array Value), h.get? a = some oe ∧ oe.cls = .ref C ∧ oe.dict = some d ∧ oe.data = .fields vs
abbrev xdV (v : V) : HO := .xd [(("value" : Str), v)]
theorem exv_ok {P : Program} {w : World} {H : Hp} {h : Heap} {C d a : Addr} {oe : Obj} {vs : Array Value} (e : h.get? a = some oe) (hc : oe.cls = .ref C) (hd : oe.dict = some d) (ht : oe.data = .fields vs) : ObjOk P w H h a (ExV C d a) :=
  ⟨⟨oe, vs, e, hc, hd, ht⟩, ⟨oe, e⟩, fun _ _ ⟨o, v, q, r⟩ k => ⟨o, v, k o q, r⟩⟩
theorem exv_at {P : Program} {w : World} {H : Hp} {h : Heap} {C d a : Addr} (hok : HOk P w H h) (he : H a = some (ExV C d a)) : ∃ (oe : Obj) (vs : Array Value), h.get? a = some oe ∧ oe.cls = .ref C ∧ oe.dict = some d ∧ oe.data = .fields vs := by
  have x : ObjOk P w H h a (.ext fun h => ∃ (oe : Obj) (vs : Array Value), h.get? a = some oe ∧ oe.cls = .ref C ∧ oe.dict = some d ∧ oe.data = .fields vs) := hok a _ he
  exact x.1
theorem relO_val {v : V} {v' : Value} (r : RelV v v') (f : Str) : RelO (List.lookup f [(("value" : Str), v)]) (if f = "value" then some v' else none) := by
  by_cases hw : f = "value"
  · subst hw
    rw [if_pos rfl]
    have q : List.lookup ("value" : Str) [(("value" : Str), v)] = some v := by simp [List.lookup]
    rw [q]
    exact r
  · rw [if_neg hw]
    have qw : (f == ("value" : Str)) = false := by simpa using hw
    have q2 : List.lookup f [(("value" : Str), v)] = none := by simp [List.lookup, qw]
    rw [q2]
    trivial
section
variable {X : Cx} {D fI C : Addr}
/-- C(e), as a value -/
def tErrV (C : Addr) (ta : TA) : TE := fun σ H Q => ta σ H fun vs H1 => ∃ v, vs = [v] ∧ ∀ d, H1 d = none → ∀ e, (upd H1 d (xdV v)) e = none → Q (.ref e) (upd (upd H1 d (xdV v)) e (ExV C d e))
theorem pe_errV {x : Str} {a : Expr} {ta : TA} {p pos : Pos} {k : Nat} (I0 : InitTxt X.prog X.K D fI) (T : ErrTxt X.K D fI C) (gC : X.mg x = some (.ref C)) (hr : Room k X.A) (hg : Gl X x) (ha : PA X [a] ta)
    (he : starEach (a :: []) X.env = (false, eval a X.env) :: starEach [] X.env := by rfl) (hpl : (backTo pos (starEach [] X.env)).any (·.1) = false := by rfl) (hdb : (x == ("__debug__" : Str)) = false := by decide) :
    PE X (.Call (.Name x p) [a] [] pos) (tErrV C ta) := by
  refine ⟨fun pins s σ H Q I h => ?_⟩
  refine wpAny_Call_Name_kw (ld_glob I hg gC ?_ hdb)
  refine PySem.W.callWith_K (h₀ := X.base) I.ok.mod.kin T.kC (thn (ha.run pos pins s σ H _ I h) fun us s1 hh => ?_) he hpl
  obtain ⟨vs, H1, I1, r1, v, ev, q1⟩ := hh
  subst ev
  refine ⟨I1.kIn, ?_⟩
  cases r1 with
  | cons rv rn =>
    rename_i v' us'
    cases rn
    show wpAny _ _ (call (.ref C) [v']) _ _ _
    have hlim := I1.nolimit
    obtain ⟨mb, b1, b2⟩ := I1.mod.blt
    have hg1 : s1.heap.Ns mainGlobals X.mg := I1.mod.glob.keeps I1.bk
    have hb1 := b1.keeps I1.bk
    obtain ⟨hp, g, dr, tk, os⟩ := s1
    refine wpAny_call (meet_made I0 T I1.kIn hlim hg1 hb1 b2 (by have := hr.dp; omega) fun h' tk' e d M => ?_)
    obtain ⟨oe, fv, hoe, hc, hd, hdat, h1⟩ := M.obj
    have hns := M.ns
    obtain ⟨G', g1, g2⟩ := restrict h' fun b => decide (b ≠ e)
    have gk : ∀ b, b ≠ e → G'.get? b = h'.get? b := fun b hb => g1 b (decide_eq_true hb)
    have ge : G'.get? e = none := g2 e (by simp)
    have old : ∀ b o, hp.get? b = some o → G'.get? b = some o := fun b o q => (gk b (Nat.ne_of_lt (Nat.lt_of_lt_of_le (Heap.lt_size q) M.new))).trans (M.keep b o q)
    have ob : ObjOk X.prog X.w (upd H1 d (xdV v)) G' d (xdV v) := ⟨_, hns.at (fun o q => (gk d M.dne).trans q), fun f => relO_val rv f⟩
    have J : Inv X pins σ (upd H1 d (xdV v)) ⟨G', g, dr, tk', os⟩ := I1.laid (t' := tk') old M.dbig ob
    have he1 : H1 e = none := I1.hok.fresh M.new
    have hd1 : H1 d = none := I1.hok.fresh M.dbig
    have hn : (upd H1 d (xdV v)) e = none := by rw [upd_ne (Ne.symm M.dne)]; exact he1
    have J2 : Inv X pins σ (upd (upd H1 d (xdV v)) e (ExV C d e)) ⟨h', g, dr, tk', os⟩ := J.laidN (t' := tk') (fun b u q => by
      by_cases hb : b = e
      · have q' : G'.get? b = some u := q
        rw [hb, ge] at q'; cases q'
      · exact (gk b hb).symm.trans q) ge hn (exv_ok hoe hc hd hdat)
    exact ⟨.ref e, _, J2, rfl, q1 d hd1 e hn⟩
/-- e.value -/
def tErrF (K : PySem.W.Frag) (D fI : Addr) (te : TE) : TE := fun σ H Q => te σ H fun x H1 => ∃ a C d v, x = .ref a ∧ H1 a = some (ExV C d a) ∧ H1 d = some (xdV v) ∧ ErrTxt K D fI C ∧ Q v H1
theorem pe_errF {e : Expr} {te : TE} {pos : Pos} (he : PE X e te) (hb : attributeBase e "value" X.env (eval e X.env) = eval e X.env := by rfl) : PE X (.Attribute e "value" pos) (tErrF X.K D fI te) := by
  refine ⟨fun pins s σ H Q I h => ?_⟩
  refine attr_of hb (thn (he.run pins s σ H _ I h) fun u s1 hh => ?_)
  obtain ⟨x, H1, I1, rx, a, C, d, v, ex, ea, ed, T, q⟩ := hh
  subst ex
  obtain rfl : u = Value.ref a := rx
  obtain ⟨oe, vs, ho, hc, hd, ht⟩ := exv_at I1.hok ea
  have hx : ObjOk X.prog X.w H1 s1.heap d (xdV v) := I1.hok d _ ed
  obtain ⟨mA, hns, hr⟩ := hx
  obtain ⟨od, hod, hl⟩ := lookIn_ns hns
  have l : List.lookup ("value" : Str) [(("value" : Str), v)] = some v := by simp [List.lookup]
  obtain ⟨u, hu, ru⟩ := RelO.some_of (v := v) (o := mA "value") (by rw [← l]; exact hr "value")
  have J : PySem.W.InstAt s1.heap a oe C (some od) := ⟨ho, hc, by unfold PySem.W.notCls; rw [ht] <;> rfl, by rw [hd]; exact hod⟩
  exact HandSPX.exc_get I1.kIn J T.ga T.gg T.exC (PySem.W.findObj_own T.hdC T.noV rfl (by rw [hl, hu])) (handed_of ru) ⟨v, H1, I1.tok _, ru, q⟩
/-- isinstance(e, c), e an error -/
def rIsV (K : PySem.W.Frag) : List V → Hp → VK → Prop := fun xs H Q => ∃ (a C d : Addr) (v c : V) (u : Value) (b : Bool), xs = [.ref a, c] ∧ H a = some (ExV C d a) ∧ H d = some (xdV v) ∧ ClsV c u ∧ ExcC K C ∧ PySem.W.kitOne K (.ref C) u = some b ∧ Q (.bl b) H
theorem call_isV : CallR X (.builtin "isinstance") (rIsV X.K) := by
  intro pins s σ H xs us Q I r h
  obtain ⟨a, C, d, v, c, u, b, rfl, ha, hdd, hc, E, e, q⟩ := h
  obtain ⟨u1, u2, rfl, r1, r2⟩ := vals2 r
  obtain rfl : u1 = Value.ref a := r1
  have e2 := hc.eq r2
  subst e2
  obtain ⟨oe, vs, ho, hcl, hd, ht⟩ := exv_at I.hok ha
  have hcs : (PySem.W.clsIn X.K C).isSome = true := by obtain ⟨cd, hc, _⟩ := PySem.W.any_some E.hd; rw [hc]; rfl
  have hx : ObjOk X.prog X.w H s.heap d (xdV v) := I.hok d _ hdd
  obtain ⟨mA, hns, _⟩ := hx
  obtain ⟨od, hod, _⟩ := lookIn_ns hns
  have J : PySem.W.InstAt s.heap a oe C (some od) := ⟨ho, hcl, by unfold PySem.W.notCls; rw [ht] <;> rfl, by rw [hd]; exact hod⟩
  exact PySem.W.kia_one (PySem.W.kitx_exc hcs E.hg E.hk E.hs E.ha E.hn E.ht E.hm) I.kIn J e (fun z => nomatch z) fun tk => ⟨.bl b, H, I.kept (t' := tk) fun _ _ z => z, rfl, q⟩
end
end MT


namespace MT
open PySem PySem.Spec PyProof.Rows L2
/-! ### defs that look at what is being shown around them (repr): nothing is -/
abbrev NoG (A : Around) : Prop := A.guards = some []
theorem NoG.deeper {A : Around} (h : NoG A) (env : Env) : NoG (A.deeper env) := h
structure FnOkG (P : Program) (w : World) (K : PySem.W.Frag) (mg : Str → Option Value) (base : Heap) (CX : CXT) (k : Nat) (f : Addr) (fd : FuncData) (ps : List Str) (sp : Sp) : Prop where
  len : ∀ vs H Q E, sp vs H Q E → vs.length = ps.length
  run : ∀ (A : Around) (outer : List Env) (s : Shared) (H : Hp) (args : Args) (us : List Value) (vs : List V) (Q : VK) (E : XK), NoG A → Room k A → Env0 P w K mg base A outer s H → BindsTo s fd args (ps.zip us) → Vals vs us → sp vs H Q E →
    codeAny (model P w) A (.call (.ref f) args) (CR CX outer P w H s Q E) s
section
variable {CX : CXT} {P : Program} {w : World} {K : PySem.W.Frag} {mg : Str → Option Value} {base : Heap} {k : Nat} {f : Addr} {x qual : Str} {params : Arguments} {body : List Stmt} {scope : Scope} {dvs : List V} {kws : List (Str × V)} {fd : FuncData} {N ps : List Str} {sp : Sp}
theorem fnG_ok (F : FunD K x qual params body scope dvs kws f fd) (S : FnScope N ps scope) (len : ∀ vs H Q E, sp vs H Q E → vs.length = ps.length)
    (hbody : ∀ (cdv : Value) (A : Around) (outer : List Env) (s : Shared) (H : Hp) (vs : List V) (Q : VK) (E : XK), NoG (A.deeper (envOfC qual scope s.heap.objs.size f cdv)) → Room k (A.deeper (envOfC qual scope s.heap.objs.size f cdv)) → sp vs H Q E →
      ∃ t, PSs (cxOf CX P w K mg base N qual scope f cdv A outer s H E) body t ∧ t { nx := fun _ H' => Q .non H', rt := Q } (start N vs) H) : FnOkG P w K mg base CX (k + 1) f fd ps sp := by
  obtain ⟨oc, od, dV, kV, doc, pm, an, cdv, ct, osl, rfl, lk, hcd, _, _⟩ := F.ex
  refine ⟨len, fun A outer s H args us vs Q E hG hR en hB rv hS => ?_⟩
  have hlen := len _ _ _ _ hS
  have kx : K.In s.heap := en.mod.kin.keeps fun b o e => (en.bs b o e).1
  have hlm : s.heap.NoLimit := en.mod.nolimit.keeps fun b o e => (en.bs b o e).1
  have hkd : ∀ y ∈ ps.zip us, scope.names.lookup y.1 = some .local ∨ (scope.names.lookup y.1 = some .cell ∧ ((cellsFrom (s.heap.objs.size + 1) scope.names []).lookup y.1).isSome = true) := fun ⟨n, v⟩ hy => by
    rcases S.par n (List.of_mem_zip hy).1 with z | z
    · exact .inl z
    · exact .inr ⟨z, PySem.W.cellsFrom_some _ _ _ (.inl z)⟩
  refine codeAny_call_function hR.depth (kx _ _ lk) rfl S.co S.gen rfl (PySem.W.codeRec_of kx hcd) (hB _ _ _ _ (wpAny_newFunctionEnv_cells S.kind hkd fun env he s1 ic => ?_))
  subst he
  refine ⟨hlm.keeps ic.toInCall.keep, codeAny_func ?_⟩
  obtain ⟨t, ht, hq⟩ := hbody cdv A outer s H vs Q E (hG.deeper _) (hR.deeper _) hS
  have I : Inv (cxOf CX P w K mg base N qual scope f cdv A outer s H E) [] (start N vs) H s1 := inv_start S hR.hd en hlen rv ic
  refine wpAny_mono (ht.run [] s1 (start N vs) H _ I hq) (fun fl s2 hs => ?_) fun _ _ z => z
  have last : ∀ {σ2 : L2.St} {H2 : Hp} {v : V} {u : Value}, Inv (cxOf CX P w K mg base N qual scope f cdv A outer s H E) [] σ2 H2 s2 → RelV v u → Q v H2 → CE outer P w H s Q u s2 :=
    fun {σ2 H2 v u} J r1 q => ⟨v, H2, J.os, J.bare, J.base, J.hok, r1, q⟩
  cases fl with
  | ret u => obtain ⟨v, σ2, H2, J, r1, q⟩ := hs; exact last J r1 q
  | next => obtain ⟨σ2, H2, J, q⟩ := hs; exact last (v := V.non) (u := Value.none) J rfl q
  | brk => obtain ⟨_, _, _, q⟩ := hs; exact q.elim
  | cont => obtain ⟨_, _, _, q⟩ := hs; exact q.elim
end
/-- as Ok, for such a def -/
structure OkG (P : Program) (w : World) (K : PySem.W.Frag) (mg : Str → Option Value) (base : Heap) (CX : CXT) (k : Nat) (x : Str) (ps : List Str) (dvs : List V) (sp : Sp) : Prop where
  fn : ∃ (fd : FuncData) (ds : List Value), FnOkG P w K mg base CX k (He.ga K x) fd ps sp ∧ Binds K fd ps ds ∧ Vals dvs ds
  kp : PySem.W.keepIn K (.ref (He.ga K x)) = true
  gl : mg x = some (.ref (He.ga K x))
section
variable {X : Cx} {CX : CXT} {k : Nat} {x : Str} {ps : List Str} {dvs : List V} {sp : Sp} {E : XK} {e : Expr} {es : List Expr} {t : TA} {p pos : Pos} {f : Addr} {fd : FuncData} {ds : List Value}
theorem run_fnG {pins : List (Addr × Obj)} {σ : L2.St} {H : Hp} {s : Shared} {Q : VK} {us : List Value} {vs : List V} (F : FnOkG X.prog X.w X.K X.mg X.base CX k f fd ps sp) (hG : NoG X.A) (hr : Room k X.A) (hb : Binds X.K fd ps ds) (hd : Vals dvs ds) (hx : Passes CX X E)
    (I : Inv X pins σ H s) (rv : Vals vs us) (h : sp (vs ++ dvs) H Q E) : wpAny (model X.prog X.w) X.A (call (.ref f) us) (EP X pins σ Q) X.xe s := by
  have r2 : Vals (vs ++ dvs) (us ++ ds) := rv.append hd
  have hlen : (us ++ ds).length = ps.length := by rw [← r2.length]; exact F.len _ _ _ _ h
  refine wpAny_call (codeAny_mono (F.run X.A X.stack s H ⟨us, []⟩ (us ++ ds) (vs ++ dvs) Q E hG hr I.env0 (hb s us I.kIn hlen) r2 h) fun rr s2 hq => ?_)
  cases rr with
  | error er => exact hx pins σ H s er s2 I hq
  | ok fl =>
    cases fl with
    | ret u => exact I.after hq
    | next => exact hq.elim
    | brk => exact hq.elim
    | cont => exact hq.elim
theorem pe_callG (O : OkG X.prog X.w X.K X.mg X.base CX k x ps dvs sp) (hG : NoG X.A) (hr : Room k X.A) (hg : Gl X x) (hx : Passes CX X E) (ha : PA X (e :: es) t) (hdb : (x == ("__debug__" : Str)) = false := by decide)
    (he : starEach (e :: es) X.env = (false, eval e X.env) :: starEach es X.env := by rfl) (hpl : (backTo pos (starEach es X.env)).any (·.1) = false := by rfl) :
    PE X (.Call (.Name x p) (e :: es) [] pos) (tCall sp dvs E t) := by
  obtain ⟨⟨fd, ds, F, b, d⟩, kp, m⟩ := O
  refine ⟨fun pins s σ H Q I h => wpAny_Call_Name_kw (ld_glob I hg m ?_ hdb)⟩
  exact PySem.W.callWith_K (h₀ := X.base) I.ok.mod.kin kp (thn (ha.run pos pins s σ H _ I h) fun us s1 ⟨vs, H1, I1, r, q⟩ => ⟨I1.kIn, run_fnG F hG hr b d hx I1 r q⟩) he hpl
end
/-! ### the end of a law -/
theorem law_callG {P : Program} {w : World} {K : PySem.W.Frag} {mg mb : Str → Option Value} {CX : CXT} {k : Nat} {fa a : Addr} {fd : FuncData} {x : Str} {sp : Sp} {s1 : Shared} {vs : List Value} {ns : List Int}
    (KX : K.In s1.heap) (hns : s1.heap.Ns mainGlobals mg) (hb : s1.heap.Ns builtinsNs mb) (hbb : ∀ x : Str, x ≠ "__name__" → mb x = bootBuiltins x) (hlim : s1.heap.NoLimit) (hg : s1.gens = #[])
    (ha : s1.heap.get? a = some { cls := .type "list", data := .seq vs.toArray }) (hi : IntsAre vs ns) (hl : ns.length ≤ sizeLine) (hr : Room k callerA)
    (F : ∀ base : Heap, K.In base → base.Ns mainGlobals mg → FnOkG P w K mg base CX k fa fd [x] sp) (hbind : ∀ (s : Shared) (u : Value), BindsTo s fd ⟨[u], []⟩ [(x, u)])
    (hsp : ∀ H : Hp, Only H → SqL K H a (ns.map V.int) → sp [.ref a] H (fun v _ => v = .bl true) fun _ _ _ => False)
    (hCX : ∀ H e s', CX [] H s1 (fun _ _ _ => False) e s' → False) :
    codeAny (model P w) callerA (.call (.ref fa) ⟨[.ref a], []⟩) (fun r s' => r = .ok (.ret (.bool true)) ∧ OldK s1.heap s'.heap ∧ s'.os = s1.os ∧ AllBare s'.gens) s1 := by
  have rv := vals_ints hi
  have ln := hi.length
  have main : ∀ H : Hp, Only H → SqL K H a (ns.map V.int) → HOk P w H s1.heap → (∀ b, H b ≠ none → b = a) → (H a ≠ none → K.lookup a = none) →
      codeAny (model P w) callerA (.call (.ref fa) ⟨[.ref a], []⟩) (fun r s' => r = .ok (.ret (.bool true)) ∧ OldK s1.heap s'.heap ∧ s'.os = s1.os ∧ AllBare s'.gens) s1 := by
    intro H hO hS hok hA hK
    have nod : ∀ {b : Addr} {o : Obj} {es : Array DictEntry} {ep : Nat}, s1.heap.get? b = some o → o.data = .dict es ep → H b = none := fun {b o es ep} e d => by
      cases q : H b with
      | none => rfl
      | some u =>
        obtain rfl : b = a := hA b (by rw [q]; simp)
        rw [ha] at e; cases e
        have z : Data.seq vs.toArray _ = Data.dict es ep := d
        cases z
    have nsK : ∀ {b : Addr} {m : Str → Option Value}, s1.heap.Ns b m → (hidT s1.heap H).Ns b m := fun {b m} ⟨o, es, ep, e, d, r⟩ => ⟨o, es, ep, hidT_get e (nod e d), d, r⟩
    have kb : K.In (hidT s1.heap H) := fun b o e => hidT_get (KX b o e) (by
      cases q : H b with
      | none => rfl
      | some u =>
        obtain rfl : b = a := hA b (by rw [q]; simp)
        rw [hK (by rw [q]; simp)] at e; cases e)
    have mo : Mod K mg (hidT s1.heap H) := ⟨kb, nsK hns, ⟨mb, nsK hb, hbb⟩, let ⟨mc, h1, h2⟩ := hlim; ⟨mc, nsK h1, h2⟩⟩
    have en : Env0 P w K mg (hidT s1.heap H) callerA [] s1 H := ⟨rfl, mo, fun b o e => of_hidT e, Nat.le_of_eq (hidT_size _ _), trivial, fun b hb => absurd (show b ∈ ([] : List Addr) from hb) (by simp), hok, .of_eq hg⟩
    refine codeAny_mono ((F _ kb (nsK hns)).run callerA [] s1 H ⟨[.ref a], []⟩ [.ref a] [.ref a] _ _ rfl hr en (hbind s1 (.ref a)) (.cons rfl .nil) (hsp H hO hS)) fun rr s2 h => ?_
    cases rr with
    | error e => exact (hCX H e s2 h).elim
    | ok fl =>
      cases fl with
      | next => exact h.elim
      | brk => exact h.elim
      | cont => exact h.elim
      | ret u =>
        obtain ⟨v, H2, os, bare, un, hok2, r2, q⟩ := h
        obtain rfl : v = .bl true := q
        obtain rfl : u = Value.bool true := r2
        refine ⟨rfl, OldK.of_keep fun b o e => ?_, os, bare⟩
        cases q : H b with
        | none => exact un.keep b o e q (by intro z; exact absurd (show b ∈ ([] : List Addr) from z) (by simp)) (by simp)
        | some u =>
          rcases hO b with z | ⟨ob, xs, z⟩
          · rw [q] at z; cases z
          · obtain ⟨e1, _⟩ := hok b _ z
            obtain ⟨e2, _⟩ := hok2 b _ (un.frzs b ob _ z)
            rw [e] at e1; cases e1
            exact e2
  cases hk : K.lookup a with
  | some o =>
    have e := KX a o hk
    rw [ha] at e
    cases e
    refine main (fun _ => none) (fun _ => .inl rfl) (.inr ⟨_, vs.toArray, _, hk, rfl, rfl, rfl, by rw [List.size_toArray, ln]; exact hl, by simpa using rv⟩) (fun b u z => by have z2 : (none : Option HO) = some u := z; cases z2) (fun b z => absurd rfl z) fun z => absurd rfl z
  | none =>
    refine main (fun b => if b = a then some (.frz { cls := .type "list", data := .seq vs.toArray } (.lst (ns.map V.int))) else none) (fun b => ?_) (.inl (.inr ⟨{ cls := .type "list", data := .seq vs.toArray }, if_pos rfl⟩)) (fun b u z => ?_) (fun b z => ?_) fun _ => hk
    · by_cases e : b = a
      · exact .inr ⟨_, _, if_pos e⟩
      · exact .inl (if_neg e)
    · by_cases e : b = a
      · have z2 := (if_pos e).symm.trans z
        cases z2
        subst e
        exact ⟨ha, by rw [List.length_map]; exact hl, vs, _, rv, ha⟩
      · have z2 := (if_neg e).symm.trans z
        cases z2
    · by_cases e : b = a
      · exact e
      · exact absurd (if_neg e) z
theorem walk_ofG {l : PySem.W.OpenLaw} {n k : Nat} {q : Program} {loose : List Str} {XP : (Str → Option Value) → Heap → Prop} {YP : World → Heap → Prop} {d : DefRec} {CX : CXT} {x : Str}
    (hn : l.most = some n) (hn2 : n ≤ sizeLine) (hdf : d.params.defaults = []) (hr : Room k callerA)
    (F : ∀ (w : World) (mg : Str → Option Value) (fa : Addr) (h : Heap), YP w h → h.Ns mainGlobals mg → mg d.name = some (.ref fa) →
      ∃ (K : PySem.W.Frag) (fd : FuncData) (sp : Sp), K.In h ∧ (∀ (s : Shared) (u : Value), BindsTo s fd ⟨[u], []⟩ [(x, u)]) ∧
        (∀ (H : Hp) (a : Addr) (ns : List Int), ns.length ≤ n → Only H → SqL K H a (ns.map V.int) → sp [.ref a] H (fun v _ => v = .bl true) fun _ _ _ => False) ∧
        ∀ base : Heap, K.In base → base.Ns mainGlobals mg → FnOkG l.prog w K mg base CX k fa fd [x] sp)
    (hCX : ∀ (H : Hp) (s : Shared) (e : Value) (s' : Shared), CX [] H s (fun _ _ _ => False) e s' → False) :
    PySem.W.WalkO q loose XP YP l.row.toRowW d [] (fun f vs => PySem.call f vs) := by
  refine Att.attach_call hn hdf fun w s0 s1 mg mb fa o pm cd doc a vs ns G Y ho hd hcd hmg hobj hints hlen hg => ?_
  obtain ⟨K, fd, sp, KX, hb, hsp, hF⟩ := F w mg fa _ Y G.T.g hmg
  exact law_callG KX G.T.g G.T.b G.T.builtins G.T.nolimit hg hobj hints (Nat.le_trans hlen hn2) hr hF hb (fun H hO hS => hsp H a ns hlen hO hS) fun H e s2 => hCX H s1 e s2
end MT

namespace MT
open PySem PySem.Spec PyProof.Rows L2
/-! ### data, dicts too, and repr -/
def keyD : Key → PyData
  | .inl i => .int i
  | .inr x => .str x
mutual
inductive Da (K : PySem.W.Frag) (H : Hp) : V → PyData → Prop
  | non : Da K H .non .none
  | bl (b : Bool) : Da K H (.bl b) (.bool b)
  | int (i : Int) : Da K H (.int i) (.int i)
  | str (x : Str) : Da K H (.str x) (.str x)
  | lst {a : Addr} {xs : List V} {ds : List PyData} : SqL K H a xs → DaAll K H xs ds → Da K H (.ref a) (.list ds)
  | tup {a : Addr} {xs : List V} {ds : List PyData} : SqT K H a xs → DaAll K H xs ds → Da K H (.ref a) (.tuple ds)
  | dict {a : Addr} {kvs : List (Key × V)} {ds : List PyData} : H a = some (.dK kvs) → DaAll K H (kvs.map (·.2)) ds → Da K H (.ref a) (.dict ((kvs.map fun kv => keyD kv.1).zip ds))
inductive DaAll (K : PySem.W.Frag) (H : Hp) : List V → List PyData → Prop
  | nil : DaAll K H [] []
  | cons {v : V} {vs : List V} {d : PyData} {ds : List PyData} : Da K H v d → DaAll K H vs ds → DaAll K H (v :: vs) (d :: ds)
end
theorem DaAll.length {K : PySem.W.Frag} {H : Hp} : ∀ {vs : List V} {ds : List PyData}, DaAll K H vs ds → vs.length = ds.length
  | _, _, .nil => rfl
  | _, _, .cons _ t => congrArg Nat.succ t.length
mutual
theorem Da.same {K : PySem.W.Frag} {H H' : Hp} (s : Same H H') : ∀ {v : V} {d : PyData}, Da K H v d → Da K H' v d
  | _, _, .non => .non
  | _, _, .bl b => .bl b
  | _, _, .int i => .int i
  | _, _, .str x => .str x
  | _, _, .lst h t => .lst (s.seq h) (DaAll.same s t)
  | _, _, .tup h t => .tup (Same.tup s h) (DaAll.same s t)
  | _, _, .dict h t => .dict (s _ _ h) (DaAll.same s t)
theorem DaAll.same {K : PySem.W.Frag} {H H' : Hp} (s : Same H H') : ∀ {vs : List V} {ds : List PyData}, DaAll K H vs ds → DaAll K H' vs ds
  | _, _, .nil => .nil
  | _, _, .cons h t => .cons (Da.same s h) (DaAll.same s t)
end
/-- sys.modules stands in the written part -/
def SysK (K : PySem.W.Frag) : Prop := ∃ o : Obj, K.lookup sysModules = some o ∧ o.cls = .type "dict"
theorem keys_read {P : Program} {w : World} {h : Heap} : ∀ {es : List DictEntry} {kvs : List (Key × V)} {vs : List (Key × Value)}, KV kvs vs → Pairs (mixKind P w) es vs → ReadsAll h (es.map (·.key)) (kvs.map fun kv => keyD kv.1) []
  | _, _, _, .nil, .nil => .nil
  | _, _, _, .cons (a := kv) (b := q) r t, .cons (e := e) k _ p => by
    have rest := keys_read (P := P) (w := w) (h := h) t p
    have e1 : kv.1 = q.1 := r.1
    have k2 : keyIs q.1 e.key = true := k
    have h1 : Reads h e.key (keyD kv.1) [] := by
      rw [e1]
      rcases keyIs_shape k2 with ⟨i, t, z1, z2⟩ | ⟨x, t, z1, z2⟩
      · rw [z1, z2]; exact .int i t
      · rw [z1, z2]; exact .str x t
    exact ReadsAll.cons (as := []) (bs := []) h1 rest
theorem vals_read {P : Program} {w : World} : ∀ {es : List DictEntry} {kvs : List (Key × V)} {vs : List (Key × Value)}, KV kvs vs → Pairs (mixKind P w) es vs → Vals (kvs.map (·.2)) (es.map (·.val))
  | _, _, _, .nil, .nil => .nil
  | _, _, _, .cons r t, .cons _ e p => by
    refine .cons ?_ (vals_read (P := P) (w := w) t p)
    show L2.RelV _ _
    dsimp only
    rw [e]
    exact r.2
section
variable {X : Cx} {pins : List (Addr × Obj)} {σ : L2.St} {H : Hp} {s : Shared}
theorem sys_ne (hS : SysK X.K) (I : Inv X pins σ H s) {a : Addr} {xs : List V} (h : SqL X.K H a xs) : sysModules ≠ a := by
  intro e
  obtain ⟨o, ho, hc⟩ := hS
  have hb : X.base.get? sysModules = some o := I.ok.mod.kin _ _ ho
  obtain ⟨hg, hn⟩ := I.bs _ _ hb
  obtain ⟨its, rv, ⟨o2, n, e2, c2, _⟩, _⟩ := I.list h
  rw [← e, hg] at e2
  cases e2
  rw [hc] at c2
  exact absurd (Value.type.inj c2) (by decide)
mutual
theorem Da.reads (hS : SysK X.K) (I : Inv X pins σ H s) : ∀ {v : V} {d : PyData}, Da X.K H v d → ∀ u, RelV v u → ∃ as, Reads s.heap u d as ∧ sysModules ∉ as
  | _, _, .non, u, r => by cases r; exact ⟨_, .none, fun z => nomatch z⟩
  | _, _, .bl b, u, r => by cases r; exact ⟨_, .bool b, fun z => nomatch z⟩
  | _, _, .int i, u, r => by obtain ⟨t, rfl⟩ := r; exact ⟨_, .int i t, fun z => nomatch z⟩
  | _, _, .str x, u, r => by obtain ⟨t, rfl⟩ := r; exact ⟨_, .str x t, fun z => nomatch z⟩
  | _, _, .lst hs ha, u, r => by
    cases r
    obtain ⟨its, rv, ⟨o, n, ho, hc, _, hd⟩, _⟩ := I.list hs
    obtain ⟨as, hr, hn⟩ := DaAll.reads hS I ha its rv
    refine ⟨_, .list ho hc hd hr, fun z => ?_⟩
    rcases List.mem_cons.mp z with z | z
    · exact sys_ne hS I hs z
    · exact hn z
  | _, _, .tup hs ha, u, r => by
    cases r
    obtain ⟨its, rv, ⟨o, ho, hc, n, hd⟩, _⟩ := I.tuple hs
    obtain ⟨as, hr, hn⟩ := DaAll.reads hS I ha its rv
    exact ⟨_, .tuple ho hc hd hr, hn⟩
  | _, _, .dict (kvs := kvs) (ds := ds) hs ha, u, r => by
    cases r
    obtain ⟨_, hm, vs, rk, o, es, ep, ho, ex, hd, _, pr, _⟩ := I.hok _ _ hs
    have hl := DaAll.length ha
    rw [List.length_map] at hl
    obtain ⟨as, hr, hn⟩ := DaAll.reads hS I ha _ (vals_read rk pr)
    have hk := keys_read (h := s.heap) rk pr
    refine ⟨_, .dict (as := []) (bs := as) ho ex.1 hd ?_ ?_, fun z => ?_⟩
    · rw [List.map_fst_zip (by simp [hl])]; exact hk
    · rw [List.map_snd_zip (by simp [hl])]; exact hr
    · rcases List.mem_cons.mp z with z | z
      · rw [← z] at hm; exact absurd hm (by simp)
      · exact hn z
theorem DaAll.reads (hS : SysK X.K) (I : Inv X pins σ H s) : ∀ {vs : List V} {ds : List PyData}, DaAll X.K H vs ds → ∀ us, Vals vs us → ∃ as, ReadsAll s.heap us ds as ∧ sysModules ∉ as
  | _, _, .nil, us, r => by cases r; exact ⟨_, .nil, fun z => nomatch z⟩
  | _, _, .cons h t, us, r => by
    cases r with
    | cons r1 r2 =>
      obtain ⟨as, q1, n1⟩ := Da.reads hS I h _ r1
      obtain ⟨bs, q2, n2⟩ := DaAll.reads hS I t _ r2
      exact ⟨_, .cons q1 q2, fun z => (List.mem_append.mp z).elim n1 n2⟩
end
end
/-- repr(v) of data -/
def rRepr (K : PySem.W.Frag) : List V → Hp → VK → Prop := fun xs H Q => ∃ (v : V) (d : PyData), xs = [v] ∧ Da K H v d ∧ d.showable = true ∧ d.shown.length ≤ sizeLine ∧ d.depth ≤ 60 ∧ Q (.str d.shown) H
theorem call_reprD {X : Cx} {k : Nat} (hS : SysK X.K) (hG : NoG X.A) (hr : Room k X.A) : CallR X (.builtin "repr") (rRepr X.K) := by
  intro pins s σ H xs us Q I r h
  obtain ⟨v, d, rfl, hd, hsh, hz, hdp, q⟩ := h
  obtain ⟨u, rfl, ru⟩ := vals1 r
  obtain ⟨as, hrd, hn⟩ := Da.reads hS I hd u ru
  have hu := hr.un
  cases hd with
  | non => cases ru; exact P.repr_of_none ⟨.str _, H, I.tok _, ⟨_, rfl⟩, q⟩
  | bl b => cases ru; exact P.repr_of_bool ⟨.str _, H, I.tok _, ⟨_, rfl⟩, q⟩
  | int i => obtain ⟨t, rfl⟩ := ru; exact P.repr_of_int (by simpa [PyData.showable] using hsh) ⟨.str _, H, I.tok _, ⟨_, rfl⟩, q⟩
  | str x => obtain ⟨t, rfl⟩ := ru; exact P.repr_of_str ⟨.str _, H, I.tok _, ⟨_, rfl⟩, q⟩ (by simpa only [PyData.shown] using hz)
  | lst _ _ => cases ru; exact repr_of_reads' hrd hsh (fun _ => hn) hG (by omega) (fun _ _ e => e) (fun h' u tk hk => ⟨.str _, H, I.kept hk, ⟨_, rfl⟩, q⟩) hz
  | tup _ _ => cases ru; exact repr_of_reads' hrd hsh (fun _ => hn) hG (by omega) (fun _ _ e => e) (fun h' u tk hk => ⟨.str _, H, I.kept hk, ⟨_, rfl⟩, q⟩) hz
  | dict _ _ => cases ru; exact repr_of_reads' hrd hsh (fun _ => hn) hG (by omega) (fun _ _ e => e) (fun h' u tk hk => ⟨.str _, H, I.kept hk, ⟨_, rfl⟩, q⟩) hz
end MT

namespace MT
open PySem PySem.Spec PyProof.Rows L2 PySem.MEX
/-! ### the errors' facts as one Bool over the written part -/
def errClsB (K : PySem.W.Frag) (C : Addr) : Bool := match K.lookup C with
  | some ⟨.type "type", _, .cls cd, sl⟩ => (match cd.mro, sl.toList with
    | .ref C' :: bm, [_, _, _, _, some (.builtin n), _] => decide (C' = C) && (decide (n = "ValueError.__new__") && (!cd.hasDel && (cd.hasDict && HandSPX.refsVE bm)))
    | _, _ => false)
  | _ => false
theorem errCls_ok {K : PySem.W.Frag} {C : Addr} (h : errClsB K C = true) : ∃ nm q N bs bm sn sub ab col dd k0 k1 k2 k3 k5, K.lookup C = some (excClassObj nm q C N bs bm true sn sub ab col dd k0 k1 k2 k3 k5 "ValueError.__new__") ∧ HandSPX.refsVE bm = true := by
  unfold errClsB at h
  split at h
  · rename_i dd cd sl ho
    split at h
    · rename_i C2 bm k0 k1 k2 k3 n k5 hm hs
      obtain ⟨h1, h⟩ := He.ba h
      obtain ⟨h2, h⟩ := He.ba h
      obtain ⟨h3, h⟩ := He.ba h
      obtain ⟨h4, h5⟩ := He.ba h
      have e1 := of_decide_eq_true h1
      have e2 := of_decide_eq_true h2
      subst e1 e2
      obtain ⟨nm, bs, mro, ns, qn, hd, sn, sub, ab, col, del⟩ := cd
      dsimp only at hm h3 h4
      have h3' : del = false := by cases del <;> first | rfl | cases h3
      subst hm h3' h4
      have hsl : sl = #[k0, k1, k2, k3, some (.builtin "ValueError.__new__"), k5] := by
        obtain ⟨l⟩ := sl
        have hs2 : l = [k0, k1, k2, k3, some (.builtin "ValueError.__new__"), k5] := hs
        rw [hs2]
      subst hsl
      exact ⟨nm, qn, ns, bs, bm, sn, sub, ab, col, dd, k0, k1, k2, k3, k5, ho, h5⟩
    · cases h
  · cases h
def mE : Str := "MeetError"
def atD (K : PySem.W.Frag) : Addr := He.ga K mE
def atI0 (K : PySem.W.Frag) : Addr := He.ma K (atD K) "__init__"
def errB (K : PySem.W.Frag) (x : Str) : Bool := errClsB K (He.ga K x) && (He.eqO (PySem.W.findIn K (.ref (He.ga K x)) "__setattr__") (some (some (.builtin "object.__setattr__"))) &&
  (He.eqO (PySem.W.findIn K (.ref (He.ga K x)) "__getattribute__") (some (some (.builtin "BaseException.__getattribute__"))) && (He.eqO (PySem.W.findIn K (.ref (He.ga K x)) "__getattr__") (some none) &&
  (He.eqO (PySem.W.findIn K (.ref (He.ga K x)) "value") (some none) && (He.eqO (PySem.W.findIn K (.ref (He.ga K x)) "__init__") (some (some (.ref (atI0 K)))) && (PySem.W.keepIn K (.ref (He.ga K x)) &&
  (decide (PySem.W.subIn K (.ref (He.ga K x)) (.type "BaseException") = some true) && (decide (PySem.W.subIn K (.ref (He.ga K x)) (.type "ValueError") = some true) && (decide (PySem.W.typeIn K (.ref (He.ga K x)) = some (.type "type")) &&
  (PySem.W.hasDictIn K (He.ga K x) && (He.eqO (PySem.W.ks_superIn K (He.ga K x) (atD K) "__init__") (some (some (.builtin "ValueError.__init__"))) && (decide (PySem.W.mroIn K (He.ga K x) (.ref (atD K)) = some true) &&
  (He.eqO (PySem.W.findIn K (.ref (He.ga K x)) "__class__") (some (some (.builtin "object.__class__"))) && (He.eqO (PySem.W.specialIn K (.builtin "object.__class__") "__get__") (some (some (.builtin "getset_descriptor.__get__"))) &&
  (decide (PySem.W.takesIn K (.builtin "object.__class__") = some true) && decide (PySem.W.mroIn K (He.ga K x) (.type "object") = some true))))))))))))))))
theorem err_ok {K : PySem.W.Frag} {x : Str} (h : errB K x = true) : ErrTxt K (atD K) (atI0 K) (He.ga K x) ∧ ExcC K (He.ga K x) := by
  obtain ⟨c1, h⟩ := He.ba h
  obtain ⟨c2, h⟩ := He.ba h
  obtain ⟨c3, h⟩ := He.ba h
  obtain ⟨c4, h⟩ := He.ba h
  obtain ⟨c5, h⟩ := He.ba h
  obtain ⟨c6, h⟩ := He.ba h
  obtain ⟨c7, h⟩ := He.ba h
  obtain ⟨c8, h⟩ := He.ba h
  obtain ⟨c9, h⟩ := He.ba h
  obtain ⟨c10, h⟩ := He.ba h
  obtain ⟨c11, h⟩ := He.ba h
  obtain ⟨c12, h⟩ := He.ba h
  obtain ⟨c13, h⟩ := He.ba h
  obtain ⟨c14, h⟩ := He.ba h
  obtain ⟨c15, h⟩ := He.ba h
  obtain ⟨c16, c17⟩ := He.ba h
  exact ⟨⟨errCls_ok c1, He.eqO_ok c2, He.eqO_ok c3, He.eqO_ok c4, He.eqO_ok c5, He.eqO_ok c6, c7, of_decide_eq_true c8, of_decide_eq_true c9, of_decide_eq_true c10, c11, He.eqO_ok c12, of_decide_eq_true c13⟩,
    ⟨He.eqO_ok c3, He.eqO_ok c4, of_decide_eq_true c8, c11, He.eqO_ok c14, He.eqO_ok c15, of_decide_eq_true c16, of_decide_eq_true c17⟩⟩
/-- isinstance of an error, by the classes' names -/
def kitE (K : PySem.W.Frag) (x y : Str) : Bool := decide (PySem.W.kitOne K (.ref (He.ga K x)) (.ref (He.ga K y)) = some (decide (y = x) || decide (y = mE)))
def kitV (K : PySem.W.Frag) (x : Str) : Bool := decide (PySem.W.kitOne K (.ref (He.ga K x)) (.type "ValueError") = some true)
def sysB (K : PySem.W.Frag) : Bool := match K.lookup sysModules with
  | some ⟨.type c, _, _, _⟩ => decide (c = "dict")
  | _ => false
theorem sys_ok {K : PySem.W.Frag} (h : sysB K = true) : SysK K := by
  unfold sysB at h
  split at h
  · rename_i c d dt sl ho
    exact ⟨_, ho, congrArg Value.type (of_decide_eq_true h)⟩
  · cases h
def initB (p : Program) (K : PySem.W.Frag) : Bool := decide (PySem.W.typeIn K (.ref (atI0 K)) = some (.type "function")) && (He.eqO (PySem.W.nsIn K cStatics "thirdparty.any") (some none) && (He.eqO (PySem.W.nsIn K mainGlobals "super") (some none) &&
  (!(p.main.scope.names.lookup ("super" : Str)).isSome && ((PySem.W.clsIn K (atD K)).isSome && (match K.lookup (atI0 K) with
  | some ⟨_, _, .func fd, _⟩ => (match fd.closure, fd.code, fd.defaults with
    | [(nm, cc)], .ref cda, .none => decide (nm = "__class__") && (PySem.W.codeIn K (.ref cda) "MeetError.__init__" && ((match K.lookup cc with
      | some ⟨_, _, .cell (some (.ref D)), _⟩ => decide (D = atD K)
      | _ => false) && (match K.lookup cda with
      | some ⟨_, _, .fields vs, _⟩ => (match (vs[2]? : Option Value) with
        | some (Value.str file _) => (p.main.file : Str) == file
        | _ => false)
      | _ => false)))
    | _, _, _ => false)
  | _ => false)))))
abbrev FnI : Type := Option (Str × Str × Arguments × FuncBody × Scope × Addr × Addr)
def fnI (K : PySem.W.Frag) (f : Addr) : FnI := match K.lookup f with
  | some ⟨_, _, .func fd, _⟩ => some (fd.name, fd.qualname, fd.params, fd.body, fd.scope, fd.globals, fd.builtins)
  | _ => none
def fnIv (k : Nat) : FnI := some ("__init__", "MeetError.__init__", iA k, .stmts (iB k), iS, mainGlobals, builtinsNs)
theorem init_ok {p : Program} {K : PySem.W.Frag} {k : Nat} (hk : k = 0 ∨ k = 3) (h : initB p K = true) (e : fnI K (atI0 K) = fnIv k) : InitTxt p K (atD K) (atI0 K) := by
  obtain ⟨c1, h⟩ := He.ba h
  obtain ⟨c2, h⟩ := He.ba h
  obtain ⟨c3, h⟩ := He.ba h
  obtain ⟨c4, h⟩ := He.ba h
  obtain ⟨c5, h⟩ := He.ba h
  unfold fnI at e
  split at h
  · rename_i oc od fd osl ho
    rw [ho] at e
    split at h
    · rename_i nm cc cda h1 h2 h3
      obtain ⟨d1, h⟩ := He.ba h
      obtain ⟨d2, h⟩ := He.ba h
      obtain ⟨d3, d4⟩ := He.ba h
      have en := of_decide_eq_true d1
      obtain ⟨n1, n2, n3, n4, n5, n6, n7, n8, n9, n10, n11, n12, n13, n14, n15⟩ := fd
      dsimp only at h1 h2 h3
      have e2 : (some (n1, n2, n3, n4, n5, n6, n15) : FnI) = (some (("__init__" : Str), ("MeetError.__init__" : Str), iA k, FuncBody.stmts (iB k), iS, mainGlobals, builtinsNs) : FnI) := e
      simp only [Option.some.injEq, Prod.mk.injEq] at e2
      obtain ⟨z1, z2, z3, z4, z5, z6, z7⟩ := e2
      subst z1 z2 z3 z4 z5 z6 z7 h1 h2 h3 en
      refine ⟨of_decide_eq_true c1, He.eqO_ok c2, He.eqO_ok c3, by simpa using c4, Option.isSome_iff_exists.mp c5, oc, od, n9, n10, n11, n12, cda, cc, n14, osl, k, hk, ho, d2, ?_, ?_⟩
      · split at d4
        · rename_i a1 a2 vs a3 hc
          split at d4
          · rename_i file tf hv
            exact ⟨a1, a2, vs, a3, file, tf, hc, hv, d4⟩
          · cases d4
        · cases d4
      · split at d3
        · rename_i a1 a2 D a3 hc
          have eD := of_decide_eq_true d3
          subst eD
          exact ⟨a1, a2, a3, hc⟩
        · cases d3
    · cases h
  · cases h
/-! ### the Hook: defs, facts, one more Bool, the errors' __init__ -/
abbrev AlM : Type := He.AlD × Bool × FnI
def asM (g : Addr → Option Obj) (n : Nat) : List Addr := sysModules :: cStatics :: He.asD g n
def obsM (n : Nat) (fa : List He.Fa) (fn : List He.DefD) (ex : PySem.W.Frag → Bool) (g : Addr → Option Obj) : AlM := let K := He.frG g (asM g n); (He.obsD fa fn K, ex K, fnI K (atI0 K))
def SaysM (fa : List He.Fa) (fn : List He.DefD) (ex : PySem.W.Frag → Bool) (iv : FnI) (K : PySem.W.Frag) : Prop := He.SaysD fa fn K ∧ ex K = true ∧ fnI K (atI0 K) = iv
def hookM (n : Nat) (fa : List He.Fa) (fn : List He.DefD) (ex : PySem.W.Frag → Bool) (iv : FnI) : PySem.W.Hook where
  α := AlM
  obs := fun s => obsM n fa fn ex s.heap.get?
  val := fun _ => (He.valD fn, true, iv)
  says := fun _ h => ∃ K : PySem.W.Frag, K.In h ∧ SaysM fa fn ex iv K
  of := fun _ s e => ⟨_, He.frG_in, congrArg (fun z : AlM => z.1) e, congrArg (fun z : AlM => z.2.1) e, congrArg (fun z : AlM => z.2.2) e⟩
  keeps := fun _ _ _ ⟨K, hK, c⟩ k => ⟨K, PySem.W.Frag.In.keeps hK k, c⟩
theorem obsM_eq {n : Nat} {fa : List He.Fa} {fn : List He.DefD} {ex : PySem.W.Frag → Bool} {iv : FnI} {g : Addr → Option Obj} {s : Shared} (h : ∀ a, g a = s.heap.get? a) : obsM n fa fn ex g = (hookM n fa fn ex iv).obs s := by
  have e : g = s.heap.get? := funext h
  rw [e]; rfl
end MT

namespace Q
open PySem PySem.Spec PyProof.Rows L2 MT
def top (i : Nat) : Stmt := PySem.Challenge.pw_metonce_k00_errors_keep_their_values.main.body.getD i (.Pass ⟨0, 0, 0, 0⟩)
abbrev s_l_pot : Stmt := (top 26)
abbrev N_l_pot : List Str := ["_law_script", "_law_k", "_law_cell", "_law_own", "_law_small"]
theorem sc_l_pot : FnScope N_l_pot ["_law_script", "_law_k"] (defScope s_l_pot) := ⟨rfl, rfl, rfl, by decide +kernel, rfl, by decide +kernel, by decide +kernel⟩
abbrev s_l_take : Stmt := (top 27)
abbrev N_l_take : List Str := ["_law_pot_here", "_law_upto", "_law_digit", "_law_prime", "_law_blend"]
theorem sc_l_take : FnScope N_l_take ["_law_pot_here", "_law_upto"] (defScope s_l_take) := ⟨rfl, rfl, rfl, by decide +kernel, rfl, by decide +kernel, by decide +kernel⟩
abbrev s_l_of : Stmt := (top 28)
abbrev N_l_of : List Str := ["_law_pot_here", "_law_some"]
theorem sc_l_of : FnScope N_l_of ["_law_pot_here", "_law_some"] (defScope s_l_of) := ⟨rfl, rfl, rfl, by decide +kernel, rfl, by decide +kernel, by decide +kernel⟩
abbrev s_l_places : Stmt := (top 29)
abbrev N_l_places : List Str := ["_law_script", "_law_most"]
theorem sc_l_places : FnScope N_l_places ["_law_script", "_law_most"] (defScope s_l_places) := ⟨rfl, rfl, rfl, by decide +kernel, rfl, by decide +kernel, by decide +kernel⟩
abbrev s_l_odd : Stmt := (top 30)
abbrev N_l_odd : List Str := ["_law_pot_here", "_law_some", "_law_more"]
theorem sc_l_odd : FnScope N_l_odd ["_law_pot_here"] (defScope s_l_odd) := ⟨rfl, rfl, rfl, by decide +kernel, rfl, by decide +kernel, by decide +kernel⟩
abbrev s_l_made : Stmt := (top 31)
abbrev N_l_made : List Str := ["_law_value", "_law_found"]
theorem sc_l_made : FnScope N_l_made ["_law_value"] (defScope s_l_made) := ⟨rfl, rfl, rfl, by decide +kernel, rfl, by decide +kernel, by decide +kernel⟩
abbrev s_l_marks : Stmt := (top 32)
abbrev N_l_marks : List Str := ["_law_error", "_law_found"]
theorem sc_l_marks : FnScope N_l_marks ["_law_error"] (defScope s_l_marks) := ⟨rfl, rfl, rfl, by decide +kernel, rfl, by decide +kernel, by decide +kernel⟩
abbrev s_l_right : Stmt := (top 33)
abbrev N_l_right : List Str := ["_law_pot_here", "_law_value", "_law_made_here", "_law_spot", "_law_error", "_law_place", "_law_base"]
theorem sc_l_right : FnScope N_l_right ["_law_pot_here"] (defScope s_l_right) := ⟨rfl, rfl, rfl, by decide +kernel, rfl, by decide +kernel, by decide +kernel⟩
abbrev s_law : Stmt := (top 34)
abbrev N_law : List Str := ["_law_script", "_law_place"]
theorem sc_law : FnScope N_law ["_law_script"] (defScope s_law) := ⟨rfl, rfl, rfl, by decide +kernel, rfl, by decide +kernel, by decide +kernel⟩
def d_l_pot : He.DefD := ⟨("_law_pot", none), "_law_pot", "_law_pot", defArgs s_l_pot, defBody s_l_pot, defScope s_l_pot, [], []⟩
def d_l_take : He.DefD := ⟨("_law_take", none), "_law_take", "_law_take", defArgs s_l_take, defBody s_l_take, defScope s_l_take, [], []⟩
def d_l_of : He.DefD := ⟨("_law_of", none), "_law_of", "_law_of", defArgs s_l_of, defBody s_l_of, defScope s_l_of, [], []⟩
def d_l_places : He.DefD := ⟨("_law_places", none), "_law_places", "_law_places", defArgs s_l_places, defBody s_l_places, defScope s_l_places, [], []⟩
def d_l_odd : He.DefD := ⟨("_law_odd", none), "_law_odd", "_law_odd", defArgs s_l_odd, defBody s_l_odd, defScope s_l_odd, [], []⟩
def d_l_made : He.DefD := ⟨("_law_made", none), "_law_made", "_law_made", defArgs s_l_made, defBody s_l_made, defScope s_l_made, [], []⟩
def d_l_marks : He.DefD := ⟨("_law_marks", none), "_law_marks", "_law_marks", defArgs s_l_marks, defBody s_l_marks, defScope s_l_marks, [], []⟩
def d_l_right : He.DefD := ⟨("_law_right", none), "_law_right", "_law_right", defArgs s_l_right, defBody s_l_right, defScope s_l_right, [], []⟩
def d_law : He.DefD := ⟨("law", none), "law", "law", defArgs s_law, defBody s_law, defScope s_law, [], []⟩
def fn : List He.DefD := [d_l_pot, d_l_take, d_l_of, d_l_places, d_l_odd, d_l_made, d_l_marks, d_l_right, d_law]
def fa : List He.Fa := [.glo "MeetError", .glo "BadHall", .glo "NoPerson", .glo "Alone", .glo "BadEvent", .glo "BadTimeline", .glo "BadSaying", .glo "BadSayings", .glo "Full", .glo "NoSaying", .glo "OtherHall", .glo "BadCases", .glo "NoTimeline", .glo "BadClaim", .glo "BadNumber", .glo "BadOrder", .glo "BadOffers", .glo "BadWishes", .glo "Contrary", .glo "NothingToUndo", .glo "NothingToRedo", .glo "NoTrial", .glo "BadJournal", .glo "BadLine", .glo "_law_pot", .glo "_law_take", .glo "_law_of", .glo "_law_places", .glo "_law_odd", .glo "_law_made", .glo "_law_marks", .glo "_law_right", .glo "law", .free "ValueError", .free "abs", .free "all", .free "any", .free "enumerate", .free "int", .free "isinstance", .free "len", .free "list", .free "max", .free "min", .free "range", .free "repr", .free "super"]
abbrev PRG : Program := PySem.Challenge.pw_metonce_k00_errors_keep_their_values
def errs : List Str := ["MeetError", "BadHall", "NoPerson", "Alone", "BadEvent", "BadTimeline", "BadSaying", "BadSayings", "Full", "NoSaying", "OtherHall", "BadCases", "NoTimeline", "BadClaim", "BadNumber", "BadOrder", "BadOffers", "BadWishes", "Contrary", "NothingToUndo", "NothingToRedo", "NoTrial", "BadJournal", "BadLine"]
def exf (K : PySem.W.Frag) : Bool := errs.all (errB K) && ((errs.all fun x => errs.all fun y => kitE K x y) && (errs.all (kitV K) && (sysB K && initB PRG K)))
structure Tx (K : PySem.W.Frag) (mg : Str → Option Value) : Prop where
  says : SaysM fa fn exf (fnIv 0) K
  inh : ∃ h : Heap, K.In h ∧ h.Ns mainGlobals mg
section
variable {K : PySem.W.Frag} {mg : Str → Option Value}
theorem Tx.g_MeetError (T : Tx K mg) : mg "MeetError" = some (.ref (He.ga K "MeetError")) := let ⟨_, X, G⟩ := T.inh; He.glo_ok X G (T.says.1.fact 0 rfl)
theorem Tx.g_BadHall (T : Tx K mg) : mg "BadHall" = some (.ref (He.ga K "BadHall")) := let ⟨_, X, G⟩ := T.inh; He.glo_ok X G (T.says.1.fact 1 rfl)
theorem Tx.g_NoPerson (T : Tx K mg) : mg "NoPerson" = some (.ref (He.ga K "NoPerson")) := let ⟨_, X, G⟩ := T.inh; He.glo_ok X G (T.says.1.fact 2 rfl)
theorem Tx.g_Alone (T : Tx K mg) : mg "Alone" = some (.ref (He.ga K "Alone")) := let ⟨_, X, G⟩ := T.inh; He.glo_ok X G (T.says.1.fact 3 rfl)
theorem Tx.g_BadEvent (T : Tx K mg) : mg "BadEvent" = some (.ref (He.ga K "BadEvent")) := let ⟨_, X, G⟩ := T.inh; He.glo_ok X G (T.says.1.fact 4 rfl)
theorem Tx.g_BadTimeline (T : Tx K mg) : mg "BadTimeline" = some (.ref (He.ga K "BadTimeline")) := let ⟨_, X, G⟩ := T.inh; He.glo_ok X G (T.says.1.fact 5 rfl)
theorem Tx.g_BadSaying (T : Tx K mg) : mg "BadSaying" = some (.ref (He.ga K "BadSaying")) := let ⟨_, X, G⟩ := T.inh; He.glo_ok X G (T.says.1.fact 6 rfl)
theorem Tx.g_BadSayings (T : Tx K mg) : mg "BadSayings" = some (.ref (He.ga K "BadSayings")) := let ⟨_, X, G⟩ := T.inh; He.glo_ok X G (T.says.1.fact 7 rfl)
theorem Tx.g_Full (T : Tx K mg) : mg "Full" = some (.ref (He.ga K "Full")) := let ⟨_, X, G⟩ := T.inh; He.glo_ok X G (T.says.1.fact 8 rfl)
theorem Tx.g_NoSaying (T : Tx K mg) : mg "NoSaying" = some (.ref (He.ga K "NoSaying")) := let ⟨_, X, G⟩ := T.inh; He.glo_ok X G (T.says.1.fact 9 rfl)
theorem Tx.g_OtherHall (T : Tx K mg) : mg "OtherHall" = some (.ref (He.ga K "OtherHall")) := let ⟨_, X, G⟩ := T.inh; He.glo_ok X G (T.says.1.fact 10 rfl)
theorem Tx.g_BadCases (T : Tx K mg) : mg "BadCases" = some (.ref (He.ga K "BadCases")) := let ⟨_, X, G⟩ := T.inh; He.glo_ok X G (T.says.1.fact 11 rfl)
theorem Tx.g_NoTimeline (T : Tx K mg) : mg "NoTimeline" = some (.ref (He.ga K "NoTimeline")) := let ⟨_, X, G⟩ := T.inh; He.glo_ok X G (T.says.1.fact 12 rfl)
theorem Tx.g_BadClaim (T : Tx K mg) : mg "BadClaim" = some (.ref (He.ga K "BadClaim")) := let ⟨_, X, G⟩ := T.inh; He.glo_ok X G (T.says.1.fact 13 rfl)
theorem Tx.g_BadNumber (T : Tx K mg) : mg "BadNumber" = some (.ref (He.ga K "BadNumber")) := let ⟨_, X, G⟩ := T.inh; He.glo_ok X G (T.says.1.fact 14 rfl)
theorem Tx.g_BadOrder (T : Tx K mg) : mg "BadOrder" = some (.ref (He.ga K "BadOrder")) := let ⟨_, X, G⟩ := T.inh; He.glo_ok X G (T.says.1.fact 15 rfl)
theorem Tx.g_BadOffers (T : Tx K mg) : mg "BadOffers" = some (.ref (He.ga K "BadOffers")) := let ⟨_, X, G⟩ := T.inh; He.glo_ok X G (T.says.1.fact 16 rfl)
theorem Tx.g_BadWishes (T : Tx K mg) : mg "BadWishes" = some (.ref (He.ga K "BadWishes")) := let ⟨_, X, G⟩ := T.inh; He.glo_ok X G (T.says.1.fact 17 rfl)
theorem Tx.g_Contrary (T : Tx K mg) : mg "Contrary" = some (.ref (He.ga K "Contrary")) := let ⟨_, X, G⟩ := T.inh; He.glo_ok X G (T.says.1.fact 18 rfl)
theorem Tx.g_NothingToUndo (T : Tx K mg) : mg "NothingToUndo" = some (.ref (He.ga K "NothingToUndo")) := let ⟨_, X, G⟩ := T.inh; He.glo_ok X G (T.says.1.fact 19 rfl)
theorem Tx.g_NothingToRedo (T : Tx K mg) : mg "NothingToRedo" = some (.ref (He.ga K "NothingToRedo")) := let ⟨_, X, G⟩ := T.inh; He.glo_ok X G (T.says.1.fact 20 rfl)
theorem Tx.g_NoTrial (T : Tx K mg) : mg "NoTrial" = some (.ref (He.ga K "NoTrial")) := let ⟨_, X, G⟩ := T.inh; He.glo_ok X G (T.says.1.fact 21 rfl)
theorem Tx.g_BadJournal (T : Tx K mg) : mg "BadJournal" = some (.ref (He.ga K "BadJournal")) := let ⟨_, X, G⟩ := T.inh; He.glo_ok X G (T.says.1.fact 22 rfl)
theorem Tx.g_BadLine (T : Tx K mg) : mg "BadLine" = some (.ref (He.ga K "BadLine")) := let ⟨_, X, G⟩ := T.inh; He.glo_ok X G (T.says.1.fact 23 rfl)
theorem Tx.g_l_pot (T : Tx K mg) : mg "_law_pot" = some (.ref (He.ga K "_law_pot")) := let ⟨_, X, G⟩ := T.inh; He.glo_ok X G (T.says.1.fact 24 rfl)
theorem Tx.g_l_take (T : Tx K mg) : mg "_law_take" = some (.ref (He.ga K "_law_take")) := let ⟨_, X, G⟩ := T.inh; He.glo_ok X G (T.says.1.fact 25 rfl)
theorem Tx.g_l_of (T : Tx K mg) : mg "_law_of" = some (.ref (He.ga K "_law_of")) := let ⟨_, X, G⟩ := T.inh; He.glo_ok X G (T.says.1.fact 26 rfl)
theorem Tx.g_l_places (T : Tx K mg) : mg "_law_places" = some (.ref (He.ga K "_law_places")) := let ⟨_, X, G⟩ := T.inh; He.glo_ok X G (T.says.1.fact 27 rfl)
theorem Tx.g_l_odd (T : Tx K mg) : mg "_law_odd" = some (.ref (He.ga K "_law_odd")) := let ⟨_, X, G⟩ := T.inh; He.glo_ok X G (T.says.1.fact 28 rfl)
theorem Tx.g_l_made (T : Tx K mg) : mg "_law_made" = some (.ref (He.ga K "_law_made")) := let ⟨_, X, G⟩ := T.inh; He.glo_ok X G (T.says.1.fact 29 rfl)
theorem Tx.g_l_marks (T : Tx K mg) : mg "_law_marks" = some (.ref (He.ga K "_law_marks")) := let ⟨_, X, G⟩ := T.inh; He.glo_ok X G (T.says.1.fact 30 rfl)
theorem Tx.g_l_right (T : Tx K mg) : mg "_law_right" = some (.ref (He.ga K "_law_right")) := let ⟨_, X, G⟩ := T.inh; He.glo_ok X G (T.says.1.fact 31 rfl)
theorem Tx.g_law (T : Tx K mg) : mg "law" = some (.ref (He.ga K "law")) := let ⟨_, X, G⟩ := T.inh; He.glo_ok X G (T.says.1.fact 32 rfl)
theorem Tx.n_ValueError (T : Tx K mg) : mg "ValueError" = none := let ⟨_, X, G⟩ := T.inh; He.free_ok X G (T.says.1.fact 33 rfl)
theorem Tx.n_abs (T : Tx K mg) : mg "abs" = none := let ⟨_, X, G⟩ := T.inh; He.free_ok X G (T.says.1.fact 34 rfl)
theorem Tx.n_all (T : Tx K mg) : mg "all" = none := let ⟨_, X, G⟩ := T.inh; He.free_ok X G (T.says.1.fact 35 rfl)
theorem Tx.n_any (T : Tx K mg) : mg "any" = none := let ⟨_, X, G⟩ := T.inh; He.free_ok X G (T.says.1.fact 36 rfl)
theorem Tx.n_enumerate (T : Tx K mg) : mg "enumerate" = none := let ⟨_, X, G⟩ := T.inh; He.free_ok X G (T.says.1.fact 37 rfl)
theorem Tx.n_int (T : Tx K mg) : mg "int" = none := let ⟨_, X, G⟩ := T.inh; He.free_ok X G (T.says.1.fact 38 rfl)
theorem Tx.n_isinstance (T : Tx K mg) : mg "isinstance" = none := let ⟨_, X, G⟩ := T.inh; He.free_ok X G (T.says.1.fact 39 rfl)
theorem Tx.n_len (T : Tx K mg) : mg "len" = none := let ⟨_, X, G⟩ := T.inh; He.free_ok X G (T.says.1.fact 40 rfl)
theorem Tx.n_list (T : Tx K mg) : mg "list" = none := let ⟨_, X, G⟩ := T.inh; He.free_ok X G (T.says.1.fact 41 rfl)
theorem Tx.n_max (T : Tx K mg) : mg "max" = none := let ⟨_, X, G⟩ := T.inh; He.free_ok X G (T.says.1.fact 42 rfl)
theorem Tx.n_min (T : Tx K mg) : mg "min" = none := let ⟨_, X, G⟩ := T.inh; He.free_ok X G (T.says.1.fact 43 rfl)
theorem Tx.n_range (T : Tx K mg) : mg "range" = none := let ⟨_, X, G⟩ := T.inh; He.free_ok X G (T.says.1.fact 44 rfl)
theorem Tx.n_repr (T : Tx K mg) : mg "repr" = none := let ⟨_, X, G⟩ := T.inh; He.free_ok X G (T.says.1.fact 45 rfl)
theorem Tx.n_super (T : Tx K mg) : mg "super" = none := let ⟨_, X, G⟩ := T.inh; He.free_ok X G (T.says.1.fact 46 rfl)
theorem Tx.f_l_pot (T : Tx K mg) : ∃ fd, FunD K "_law_pot" "_law_pot" (defArgs s_l_pot) (defBody s_l_pot) (defScope s_l_pot) [] [] (He.fAd K ("_law_pot", none)) fd := T.says.1.def_ 0 (d := d_l_pot) rfl
theorem Tx.f_l_take (T : Tx K mg) : ∃ fd, FunD K "_law_take" "_law_take" (defArgs s_l_take) (defBody s_l_take) (defScope s_l_take) [] [] (He.fAd K ("_law_take", none)) fd := T.says.1.def_ 1 (d := d_l_take) rfl
theorem Tx.f_l_of (T : Tx K mg) : ∃ fd, FunD K "_law_of" "_law_of" (defArgs s_l_of) (defBody s_l_of) (defScope s_l_of) [] [] (He.fAd K ("_law_of", none)) fd := T.says.1.def_ 2 (d := d_l_of) rfl
theorem Tx.f_l_places (T : Tx K mg) : ∃ fd, FunD K "_law_places" "_law_places" (defArgs s_l_places) (defBody s_l_places) (defScope s_l_places) [] [] (He.fAd K ("_law_places", none)) fd := T.says.1.def_ 3 (d := d_l_places) rfl
theorem Tx.f_l_odd (T : Tx K mg) : ∃ fd, FunD K "_law_odd" "_law_odd" (defArgs s_l_odd) (defBody s_l_odd) (defScope s_l_odd) [] [] (He.fAd K ("_law_odd", none)) fd := T.says.1.def_ 4 (d := d_l_odd) rfl
theorem Tx.f_l_made (T : Tx K mg) : ∃ fd, FunD K "_law_made" "_law_made" (defArgs s_l_made) (defBody s_l_made) (defScope s_l_made) [] [] (He.fAd K ("_law_made", none)) fd := T.says.1.def_ 5 (d := d_l_made) rfl
theorem Tx.f_l_marks (T : Tx K mg) : ∃ fd, FunD K "_law_marks" "_law_marks" (defArgs s_l_marks) (defBody s_l_marks) (defScope s_l_marks) [] [] (He.fAd K ("_law_marks", none)) fd := T.says.1.def_ 6 (d := d_l_marks) rfl
theorem Tx.f_l_right (T : Tx K mg) : ∃ fd, FunD K "_law_right" "_law_right" (defArgs s_l_right) (defBody s_l_right) (defScope s_l_right) [] [] (He.fAd K ("_law_right", none)) fd := T.says.1.def_ 7 (d := d_l_right) rfl
theorem Tx.f_law (T : Tx K mg) : ∃ fd, FunD K "law" "law" (defArgs s_law) (defBody s_law) (defScope s_law) [] [] (He.fAd K ("law", none)) fd := T.says.1.def_ 8 (d := d_law) rfl
theorem Tx.err (T : Tx K mg) {x : Str} (h : x ∈ errs) : PySem.MEX.ErrTxt K (atD K) (atI0 K) (He.ga K x) ∧ ExcC K (He.ga K x) := err_ok (List.all_eq_true.mp (He.ba T.says.2.1).1 x h)
theorem Tx.e_MeetError (T : Tx K mg) : PySem.MEX.ErrTxt K (atD K) (atI0 K) (He.ga K "MeetError") ∧ ExcC K (He.ga K "MeetError") := T.err (x := "MeetError") (by decide +kernel)
theorem Tx.e_BadHall (T : Tx K mg) : PySem.MEX.ErrTxt K (atD K) (atI0 K) (He.ga K "BadHall") ∧ ExcC K (He.ga K "BadHall") := T.err (x := "BadHall") (by decide +kernel)
theorem Tx.e_NoPerson (T : Tx K mg) : PySem.MEX.ErrTxt K (atD K) (atI0 K) (He.ga K "NoPerson") ∧ ExcC K (He.ga K "NoPerson") := T.err (x := "NoPerson") (by decide +kernel)
theorem Tx.e_Alone (T : Tx K mg) : PySem.MEX.ErrTxt K (atD K) (atI0 K) (He.ga K "Alone") ∧ ExcC K (He.ga K "Alone") := T.err (x := "Alone") (by decide +kernel)
theorem Tx.e_BadEvent (T : Tx K mg) : PySem.MEX.ErrTxt K (atD K) (atI0 K) (He.ga K "BadEvent") ∧ ExcC K (He.ga K "BadEvent") := T.err (x := "BadEvent") (by decide +kernel)
theorem Tx.e_BadTimeline (T : Tx K mg) : PySem.MEX.ErrTxt K (atD K) (atI0 K) (He.ga K "BadTimeline") ∧ ExcC K (He.ga K "BadTimeline") := T.err (x := "BadTimeline") (by decide +kernel)
theorem Tx.e_BadSaying (T : Tx K mg) : PySem.MEX.ErrTxt K (atD K) (atI0 K) (He.ga K "BadSaying") ∧ ExcC K (He.ga K "BadSaying") := T.err (x := "BadSaying") (by decide +kernel)
theorem Tx.e_BadSayings (T : Tx K mg) : PySem.MEX.ErrTxt K (atD K) (atI0 K) (He.ga K "BadSayings") ∧ ExcC K (He.ga K "BadSayings") := T.err (x := "BadSayings") (by decide +kernel)
theorem Tx.e_Full (T : Tx K mg) : PySem.MEX.ErrTxt K (atD K) (atI0 K) (He.ga K "Full") ∧ ExcC K (He.ga K "Full") := T.err (x := "Full") (by decide +kernel)
theorem Tx.e_NoSaying (T : Tx K mg) : PySem.MEX.ErrTxt K (atD K) (atI0 K) (He.ga K "NoSaying") ∧ ExcC K (He.ga K "NoSaying") := T.err (x := "NoSaying") (by decide +kernel)
theorem Tx.e_OtherHall (T : Tx K mg) : PySem.MEX.ErrTxt K (atD K) (atI0 K) (He.ga K "OtherHall") ∧ ExcC K (He.ga K "OtherHall") := T.err (x := "OtherHall") (by decide +kernel)
theorem Tx.e_BadCases (T : Tx K mg) : PySem.MEX.ErrTxt K (atD K) (atI0 K) (He.ga K "BadCases") ∧ ExcC K (He.ga K "BadCases") := T.err (x := "BadCases") (by decide +kernel)
theorem Tx.e_NoTimeline (T : Tx K mg) : PySem.MEX.ErrTxt K (atD K) (atI0 K) (He.ga K "NoTimeline") ∧ ExcC K (He.ga K "NoTimeline") := T.err (x := "NoTimeline") (by decide +kernel)
theorem Tx.e_BadClaim (T : Tx K mg) : PySem.MEX.ErrTxt K (atD K) (atI0 K) (He.ga K "BadClaim") ∧ ExcC K (He.ga K "BadClaim") := T.err (x := "BadClaim") (by decide +kernel)
theorem Tx.e_BadNumber (T : Tx K mg) : PySem.MEX.ErrTxt K (atD K) (atI0 K) (He.ga K "BadNumber") ∧ ExcC K (He.ga K "BadNumber") := T.err (x := "BadNumber") (by decide +kernel)
theorem Tx.e_BadOrder (T : Tx K mg) : PySem.MEX.ErrTxt K (atD K) (atI0 K) (He.ga K "BadOrder") ∧ ExcC K (He.ga K "BadOrder") := T.err (x := "BadOrder") (by decide +kernel)
theorem Tx.e_BadOffers (T : Tx K mg) : PySem.MEX.ErrTxt K (atD K) (atI0 K) (He.ga K "BadOffers") ∧ ExcC K (He.ga K "BadOffers") := T.err (x := "BadOffers") (by decide +kernel)
theorem Tx.e_BadWishes (T : Tx K mg) : PySem.MEX.ErrTxt K (atD K) (atI0 K) (He.ga K "BadWishes") ∧ ExcC K (He.ga K "BadWishes") := T.err (x := "BadWishes") (by decide +kernel)
theorem Tx.e_Contrary (T : Tx K mg) : PySem.MEX.ErrTxt K (atD K) (atI0 K) (He.ga K "Contrary") ∧ ExcC K (He.ga K "Contrary") := T.err (x := "Contrary") (by decide +kernel)
theorem Tx.e_NothingToUndo (T : Tx K mg) : PySem.MEX.ErrTxt K (atD K) (atI0 K) (He.ga K "NothingToUndo") ∧ ExcC K (He.ga K "NothingToUndo") := T.err (x := "NothingToUndo") (by decide +kernel)
theorem Tx.e_NothingToRedo (T : Tx K mg) : PySem.MEX.ErrTxt K (atD K) (atI0 K) (He.ga K "NothingToRedo") ∧ ExcC K (He.ga K "NothingToRedo") := T.err (x := "NothingToRedo") (by decide +kernel)
theorem Tx.e_NoTrial (T : Tx K mg) : PySem.MEX.ErrTxt K (atD K) (atI0 K) (He.ga K "NoTrial") ∧ ExcC K (He.ga K "NoTrial") := T.err (x := "NoTrial") (by decide +kernel)
theorem Tx.e_BadJournal (T : Tx K mg) : PySem.MEX.ErrTxt K (atD K) (atI0 K) (He.ga K "BadJournal") ∧ ExcC K (He.ga K "BadJournal") := T.err (x := "BadJournal") (by decide +kernel)
theorem Tx.e_BadLine (T : Tx K mg) : PySem.MEX.ErrTxt K (atD K) (atI0 K) (He.ga K "BadLine") ∧ ExcC K (He.ga K "BadLine") := T.err (x := "BadLine") (by decide +kernel)
theorem Tx.kit (T : Tx K mg) {x y : Str} (h : x ∈ errs) (h2 : y ∈ errs) : PySem.W.kitOne K (.ref (He.ga K x)) (.ref (He.ga K y)) = some (decide (y = x) || decide (y = mE)) := of_decide_eq_true (List.all_eq_true.mp (List.all_eq_true.mp (He.ba (He.ba T.says.2.1).2).1 x h) y h2)
theorem Tx.kitv (T : Tx K mg) {x : Str} (h : x ∈ errs) : PySem.W.kitOne K (.ref (He.ga K x)) (.type "ValueError") = some true := of_decide_eq_true (List.all_eq_true.mp (He.ba (He.ba (He.ba T.says.2.1).2).2).1 x h)
theorem Tx.sys (T : Tx K mg) : SysK K := sys_ok (He.ba (He.ba (He.ba (He.ba T.says.2.1).2).2).2).1
theorem Tx.init (T : Tx K mg) : PySem.MEX.InitTxt PRG K (atD K) (atI0 K) := init_ok (k := 0) (by decide) (He.ba (He.ba (He.ba (He.ba T.says.2.1).2).2).2).2 T.says.2.2
end
def loose0 : List Str := ["MeetError", "BadHall", "NoPerson", "Alone", "BadEvent", "BadTimeline", "BadSaying", "BadSayings", "Full", "NoSaying", "OtherHall", "BadCases", "NoTimeline", "BadClaim", "BadNumber", "BadOrder", "BadOffers", "BadWishes", "Contrary", "NothingToUndo", "NothingToRedo", "NoTrial", "BadJournal", "BadLine", "_law_pot", "_law_take", "_law_of", "_law_places", "_law_odd", "_law_made", "_law_marks", "_law_right"]
def loose : List Str := loose0
def lawAt : Nat := 34
def ivK : Nat := 0
end Q

open PySem PySem.Spec PyProof.Rows L2 MT
local macro_rules | `(tactic| walk_at "v") => `(tactic| refine ⟨_, rfl, ?_⟩)
local macro_rules | `(tactic| walk_at "i") => `(tactic| refine ⟨_, _, rfl, rfl, ?_⟩)
local macro_rules | `(tactic| walk_at "vs") => `(tactic| repeat (first | refine ⟨_, rfl, ?_⟩ | refine ⟨_, _, rfl, rfl, ?_⟩))

namespace Q
/-! ### draws -/
/-- a pot: three ints; the third one counts the mixed draws -/
def Pot (H : Hp) (p : Addr) (c : Nat) : Prop := ∃ a b k : Int, H p = some (.lst [.int a, .int b, .int k]) ∧ 0 ≤ a ∧ 0 ≤ b ∧ b < 2305843009213693951 ∧ 0 ≤ k ∧ k ≤ c
def sp_pot (K : PySem.W.Frag) : Sp := fun vs H Q _ => ∃ (s : Addr) (ns : List Int) (k : Nat), vs = [.ref s, .int k] ∧ SqL K H s (ns.map V.int) ∧ k ≤ 100 ∧
  ∀ p H', H p = none → Same H H' → Pot H' p 0 → Q (.ref p) H'
def sp_take : Sp := fun vs H Q _ => ∃ (p : Addr) (c : Nat) (n : Int), vs = [.ref p, .int n] ∧ Pot H p c ∧ c ≤ 1000000 ∧ 0 < n ∧ n ≤ 1000000 ∧
  ∀ r H', 0 ≤ r → r < n → SameBut p H H' → Pot H' p (c + 1) → Q (.int r) H'
theorem at5 {a b c d e : Int} {z : Int} (h0 : 0 ≤ z) (h5 : z < 5) : ∃ v : Int, atI [V.int a, V.int b, V.int c, V.int d, V.int e] z = some (.int v) ∧ (v = a ∨ v = b ∨ v = c ∨ v = d ∨ v = e) := by
  obtain ⟨n, rfl⟩ : ∃ n : Nat, z = n := ⟨z.toNat, by omega⟩
  have h : n < 5 := by omega
  match n, h with
  | 0, _ => exact ⟨a, atI_nat rfl, .inl rfl⟩
  | 1, _ => exact ⟨b, atI_nat rfl, .inr (.inl rfl)⟩
  | 2, _ => exact ⟨c, atI_nat rfl, .inr (.inr (.inl rfl))⟩
  | 3, _ => exact ⟨d, atI_nat rfl, .inr (.inr (.inr (.inl rfl)))⟩
  | 4, _ => exact ⟨e, atI_nat rfl, .inr (.inr (.inr (.inr rfl)))⟩
theorem bit01 (b : Bool) : (0 : Int) ≤ (if b = true then 1 else 0) ∧ (if b = true then (1 : Int) else 0) ≤ 1 := by cases b <;> decide
section
variable {P : Program} {w : World} {K : PySem.W.Frag} {mg : Str → Option Value} {base : Heap}
theorem ok_pot (T : Tx K mg) : Ok P w K mg base CX0 1 "_law_pot" ["_law_script", "_law_k"] [] (sp_pot K) := by
  obtain ⟨fd, F⟩ := T.f_l_pot
  refine ⟨⟨fd, [], F.ok sc_l_pot (fun vs H Q E h => ?_) (fun cdv A outer s H vs Q E hr h => ?_), F.bindsN fun _ _ _ _ _ _ us hl => match us, hl with | [_, _], _ => rfl, .nil⟩, F.kp, T.g_l_pot⟩
  · obtain ⟨s, ns, k, rfl, _⟩ := h; rfl
  · obtain ⟨s, ns, k, rfl, hS, hk, kk⟩ := h
    refine ⟨_, PSs.nox (pss_cons (ps_set (i := 2) sc_l_pot.nd rfl (Or.inl rfl) (pe_ifExp (pt_cmpR op_lt (pv 1) (pe_callB call_len (by rfl) T.n_len (by decide +kernel) (pa_cons (pv 0) pa_nil)) (nomark _)) (pe_ix ix_list (pv 0) (pv 1) (fun _ _ => rfl)) (pe_op op_add (pe_op op_mul pe_int (pv 1)) pe_int)))
      (pss_cons (ps_set (i := 3) sc_l_pot.nd rfl (Or.inl rfl) (pe_op op_mul (pe_op op_mod (pe_callTy call_int1 (by rfl) T.n_int (by decide +kernel) (pa_cons (pe_callB call_abs (by rfl) T.n_abs (by decide +kernel) (pa_cons (pv 2) pa_nil)) pa_nil)) (pe_op op_powW (pe_op op_pow pe_int pe_int) pe_int)) (pe_callTy call_int1 (by rfl) T.n_int (by decide +kernel) (pa_cons (pe_cmpR op_ge (pe_callB call_abs (by rfl) T.n_abs (by decide +kernel) (pa_cons (pv 2) pa_nil)) (pe_op op_pow pe_int pe_int) (nomark _)) pa_nil))))
      (pss_cons (ps_set (i := 4) sc_l_pot.nd rfl (Or.inl rfl) (pe_op op_mod (pe_callTy call_int1 (by rfl) T.n_int (by decide +kernel) (pa_cons (pv 2) pa_nil)) pe_int))
      (pss_one (ps_ret (pe_lst (pa_cons (pv 3) (pa_cons (pe_op op_mod (pe_callTy call_int1 (by rfl) T.n_int (by decide +kernel) (pa_cons (pe_op op_add (pe_op op_add (pe_op op_mul (pv 4) pe_int) (pe_op op_mul (pe_op op_mul pe_int (pv 1)) (pv 1))) pe_int) pa_nil)) pe_int) (pa_cons pe_int pa_nil))))))))), ?_⟩
    refine ⟨_, rfl, _, rfl, _, _, rfl, Or.inl ⟨_, hS, rfl⟩, _, _, rfl, rfl, _, rfl, ?_⟩
    refine ite_k (H := H) ?fin (fun hb f => ?_) (fun hb f => ?_)
    case fin =>
      intro c
      refine ⟨_, rfl, _, rfl, Or.inl ⟨_, rfl, ?_⟩⟩
      refine ⟨_, _, rfl, rfl, ⟨by decide, by decide, by decide⟩, _, _, rfl, rfl, ⟨by decide, by decide +kernel⟩, _, _, rfl, rfl, (by show (0 : Int) < (10 ^ 60) ^ 5; decide +kernel), ?_⟩
      refine ⟨_, rfl, _, rfl, _, _, rfl, rfl, ⟨by decide, by decide, by decide⟩, _, _, rfl, rfl, Or.inr ⟨_, rfl, _, _, rfl, rfl, ?_⟩⟩
      refine ⟨Or.inr ⟨Int.lt_of_lt_of_le (by decide) (bit01 _).1, Int.lt_of_le_of_lt (bit01 _).2 (by decide)⟩, ?_⟩
      refine ⟨_, rfl, Or.inl ⟨_, rfl, _, _, rfl, rfl, (by show (0 : Int) < 2305843009213693951; decide), ?_⟩⟩
      refine ⟨_, rfl, _, rfl, _, _, rfl, rfl, Or.inr ⟨by decide, by decide⟩, _, rfl, _, _, rfl, rfl, Or.inl ⟨by decide, by decide⟩, _, rfl, _, _, rfl, rfl, Or.inl ⟨by omega, by omega⟩, _, _, rfl, rfl, _, _, rfl, rfl, Or.inl ⟨_, rfl, _, _, rfl, rfl, (by show (0 : Int) < 2305843009213693921; decide), ?_⟩⟩
      refine ⟨(by show 3 ≤ sizeLine; decide), fun p hp => ?_⟩
      refine kk p _ hp (same_new hp) ⟨_, _, _, upd_same, ?_, ?_, ?_, by decide, by decide⟩
      · refine Int.mul_nonneg (Int.emod_nonneg _ (by decide +kernel)) (bit01 _).1
      · exact Int.emod_nonneg _ (by decide)
      · exact Int.lt_trans (Int.emod_lt_of_pos _ (by decide)) (by decide)
    · have hl : (k : Int) < ((ns.map V.int).length : Nat) := of_decide_eq_true hb
      have hl2 : k < (ns.map V.int).length := by omega
      refine ⟨_, rfl, _, rfl, _, _, _, _, rfl, rfl, hS, atI_nat (j := k) (List.getElem?_eq_getElem hl2), ?_⟩
      rw [List.getElem_map]
      exact f _
    · refine ⟨_, rfl, _, _, rfl, rfl, Or.inl ⟨by decide, by decide⟩, _, _, rfl, rfl, f _⟩
theorem ok_take (T : Tx K mg) : Ok P w K mg base CX0 1 "_law_take" ["_law_pot_here", "_law_upto"] [] sp_take := by
  obtain ⟨fd, F⟩ := T.f_l_take
  refine ⟨⟨fd, [], F.ok sc_l_take (fun vs H Q E h => ?_) (fun cdv A outer s H vs Q E hr h => ?_), F.bindsN fun _ _ _ _ _ _ us hl => match us, hl with | [_, _], _ => rfl, .nil⟩, F.kp, T.g_l_take⟩
  · obtain ⟨s, ns, k, rfl, _⟩ := h; rfl
  · obtain ⟨p, c, n, rfl, ⟨a, b, k, hp, ha, hb, hb2, h0, hc⟩, hcc, n0, n1, kk⟩ := h
    refine ⟨_, PSs.nox (pss_cons (ps_if (pt_cmpR op_gt (pe_ix ix_list (pv 0) pe_int (fun _ _ => rfl)) pe_int (nomark _)) (pss_cons (ps_set (i := 2) sc_l_take.nd rfl (Or.inl rfl) (pe_op op_mod (pe_callTy call_int1 (by rfl) T.n_int (by decide +kernel) (pa_cons (pe_ix ix_list (pv 0) pe_int (fun _ _ => rfl)) pa_nil)) (pv 1)))
      (pss_cons (ps_asg (pe_op op_fdiv (pe_ix ix_list (pv 0) pe_int (fun _ _ => rfl)) (pv 1)) (pg_sub (pv 0) pe_int set_list))
      (pss_one (ps_ret (pv 2))))) pss_nil)
      (pss_cons (ps_asg (pe_op op_add (pe_ix ix_list (pv 0) pe_int (fun _ _ => rfl)) pe_int) (pg_sub (pv 0) pe_int set_list))
      (pss_cons (ps_set (i := 3) sc_l_take.nd rfl (Or.inl rfl) (pe_ix ix_list (pe_lst (pa_cons pe_int (pa_cons pe_int (pa_cons pe_int (pa_cons pe_int (pa_cons pe_int pa_nil)))))) (pe_op op_mod (pe_callTy call_int1 (by rfl) T.n_int (by decide +kernel) (pa_cons (pe_ix ix_list (pv 0) pe_int (fun _ _ => rfl)) pa_nil)) pe_int) (fun _ _ => rfl)))
      (pss_cons (ps_set (i := 4) sc_l_take.nd rfl (Or.inl rfl) (pe_op op_mod (pe_callTy call_int1 (by rfl) T.n_int (by decide +kernel) (pa_cons (pe_op op_pow (pe_callTy call_int1 (by rfl) T.n_int (by decide +kernel) (pa_cons (pe_op op_add (pe_op op_add (pe_ix ix_list (pv 0) pe_int (fun _ _ => rfl)) (pe_op op_mul (pe_op op_mul pe_int (pe_ix ix_list (pv 0) pe_int (fun _ _ => rfl))) (pe_ix ix_list (pv 0) pe_int (fun _ _ => rfl)))) pe_int) pa_nil)) pe_int) pa_nil)) (pv 3)))
      (pss_one (ps_ret (pe_op op_mod (pe_callTy call_int1 (by rfl) T.n_int (by decide +kernel) (pa_cons (pe_op op_fdiv (pe_op op_mul (pv 4) (pe_op op_add (pe_op op_mod (pe_callTy call_int1 (by rfl) T.n_int (by decide +kernel) (pa_cons (pv 4) pa_nil)) pe_int) (pe_op op_mul pe_int (pe_ix ix_list (pv 0) pe_int (fun _ _ => rfl))))) pe_int) pa_nil)) (pv 1)))))))), ?_⟩
    refine ⟨_, rfl, _, _, _, _, rfl, rfl, SqL.of hp, rfl, _, _, rfl, rfl, _, rfl, ?_⟩
    refine ite2 (fun hlt => ?_) (fun hlt => ?_)
    · refine ⟨_, rfl, _, _, _, _, rfl, rfl, SqL.of hp, rfl, Or.inl ⟨_, rfl, _, rfl, _, _, rfl, rfl, n0, ?_⟩⟩
      refine ⟨_, rfl, _, _, _, _, rfl, rfl, SqL.of hp, rfl, _, rfl, _, _, rfl, rfl, ⟨n0, by omega⟩, _, rfl, p, _, _, 0, rfl, rfl, hp, rfl, _, rfl, ?_⟩
      refine kk _ _ (Int.emod_nonneg _ (by omega)) (Int.emod_lt_of_pos _ n0) SameBut.wr ⟨_, _, _, upd_same, ?_, hb, hb2, h0, by omega⟩
      exact Int.ediv_nonneg ha (by omega)
    · refine ⟨_, rfl, _, _, _, _, rfl, rfl, SqL.of hp, rfl, _, _, rfl, rfl, _, rfl, p, _, _, 2, rfl, rfl, hp, rfl, ?_⟩
      refine ⟨(by show 5 ≤ sizeLine; decide), fun l hl => ?_⟩
      have h1 : ∀ u, (upd (upd H p (.lst [.int a, .int b, .int (k + 1)])) l u) p = some (.lst [.int a, .int b, .int (k + 1)]) := fun u => new_keep upd_same hl
      obtain ⟨pr, hat, hpr⟩ := at5 (a := 2147483647) (b := 2147483629) (c := 2147483587) (d := 2147483579) (e := 2147483563) (z := (k + 1) % 5) (Int.emod_nonneg _ (by decide)) (Int.emod_lt_of_pos _ (by decide))
      have p0 : 0 < pr := by omega
      have p1 : pr < 2147483648 := by omega
      refine ⟨_, rfl, _, _, _, _, rfl, rfl, SqL.of (h1 _), rfl, Or.inl ⟨_, rfl, _, _, rfl, rfl, (by show (0 : Int) < 5; decide), l, _, _, _, rfl, rfl, SqL.of upd_same, hat, ?_⟩⟩
      have k1 : k + 1 ≤ 1000001 := by omega
      have kk0 : 0 ≤ (k + 1) * (k + 1) := Int.mul_nonneg (by omega) (by omega)
      have kk1 : (k + 1) * (k + 1) ≤ 1000001 * 1000001 := Int.mul_le_mul k1 k1 (by omega) (by decide)
      refine ⟨_, rfl, _, _, _, _, rfl, rfl, SqL.of (h1 _), rfl, _, rfl, _, _, _, _, rfl, rfl, SqL.of (h1 _), rfl, _, _, rfl, rfl, Or.inl ⟨by decide, by decide⟩, _, rfl, _, _, _, _, rfl, rfl, SqL.of (h1 _), rfl, _, _, rfl, rfl, Or.inl ⟨by omega, by omega⟩, _, _, rfl, rfl, _, _, rfl, rfl, Or.inl ⟨_, rfl, ?_⟩⟩
      rw [Int.mul_assoc]
      refine ⟨_, _, rfl, rfl, ⟨by decide, by decide, by omega⟩, Or.inl ⟨_, rfl, _, rfl, _, _, rfl, rfl, p0, ?_⟩⟩
      refine ⟨_, rfl, _, rfl, Or.inl ⟨_, rfl, _, _, rfl, rfl, (by show (0 : Int) < 10039; decide), _, rfl, _, _, _, _, rfl, rfl, SqL.of (h1 _), rfl, _, _, rfl, rfl, Or.inl ⟨by decide, by decide⟩, _, _, rfl, rfl, _, _, rfl, rfl, ?_⟩⟩
      have m0 := fun z : Int => Int.emod_nonneg z (Int.ne_of_gt p0)
      have m1 := fun z : Int => Int.emod_lt_of_pos z p0
      refine ⟨Or.inl ⟨Int.lt_of_lt_of_le (by decide) (m0 _), Int.lt_trans (m1 _) (by omega)⟩, _, _, rfl, rfl, ⟨by decide, by decide⟩, Or.inl ⟨_, rfl, _, rfl, _, _, rfl, rfl, n0, ?_⟩⟩
      exact kk _ _ (Int.emod_nonneg _ (by omega)) (Int.emod_lt_of_pos _ n0) (SameBut.new SameBut.wr hl) ⟨_, _, _, h1 _, ha, hb, hb2, by omega, by omega⟩
end
end Q

namespace Q
def sp_of (K : PySem.W.Frag) : Sp := fun vs H Q _ => ∃ (p l : Addr) (c : Nat) (xs : List V), vs = [.ref p, .ref l] ∧ Pot H p c ∧ c ≤ 1000000 ∧ SqL K H l xs ∧ l ≠ p ∧ 0 < xs.length ∧ xs.length ≤ 1000000 ∧
  ∀ x H', x ∈ xs → SameBut p H H' → Pot H' p (c + 1) → Q x H'
def sp_places (K : PySem.W.Frag) : Sp := fun vs H Q _ => ∃ (s : Addr) (ns : List Int) (m : Nat), vs = [.ref s, .int m] ∧ SqL K H s (ns.map V.int) ∧ 1 ≤ m ∧ m ≤ 100 ∧
  ∀ p (n : Nat), H p = none → n ≤ m → Q (.ref p) (upd H p (.lst (rgV 0 n)))
section
variable {P : Program} {w : World} {K : PySem.W.Frag} {mg : Str → Option Value} {base : Heap}
theorem ok_of (T : Tx K mg) : Ok P w K mg base CX0 2 "_law_of" ["_law_pot_here", "_law_some"] [] (sp_of K) := by
  have O_l_take := ok_take (P := P) (w := w) (base := base) T
  obtain ⟨fd, F⟩ := T.f_l_of
  refine ⟨⟨fd, [], F.ok sc_l_of (fun vs H Q E h => ?_) (fun cdv A outer s H vs Q E hr h => ?_), F.bindsN fun _ _ _ _ _ _ us hl => match us, hl with | [_, _], _ => rfl, .nil⟩, F.kp, T.g_l_of⟩
  · obtain ⟨p, l, c, xs, rfl, _⟩ := h; rfl
  · obtain ⟨p, l, c, xs, rfl, hP, hc, hl, hne, n0, n1, kk⟩ := h
    refine ⟨_, PSs.nox (pss_one (ps_ret (pe_ix ix_list (pv 1) (pe_callO O_l_take (hr.mono (by decide)) rfl pass0 (pa_cons (pv 0) (pa_cons (pe_callB call_len (by rfl) T.n_len (by decide +kernel) (pa_cons (pv 1) pa_nil)) pa_nil))) (fun _ _ => rfl)))), ?_⟩
    refine ⟨_, rfl, _, rfl, _, rfl, _, _, rfl, Or.inl ⟨_, hl, rfl⟩, p, c, _, rfl, hP, hc, by omega, by omega, fun r H' r0 r1 sb hP' => ?_⟩
    obtain ⟨j, rfl⟩ : ∃ j : Nat, r = j := ⟨r.toNat, by omega⟩
    have hj : j < xs.length := by omega
    exact ⟨l, xs, _, _, rfl, rfl, sb.seq hne hl, atI_nat (List.getElem?_eq_getElem hj), kk _ _ (List.getElem_mem hj) sb hP'⟩
theorem ok_places (T : Tx K mg) : Ok P w K mg base CX0 1 "_law_places" ["_law_script", "_law_most"] [] (sp_places K) := by
  obtain ⟨fd, F⟩ := T.f_l_places
  refine ⟨⟨fd, [], F.ok sc_l_places (fun vs H Q E h => ?_) (fun cdv A outer s H vs Q E hr h => ?_), F.bindsN fun _ _ _ _ _ _ us hl => match us, hl with | [_, _], _ => rfl, .nil⟩, F.kp, T.g_l_places⟩
  · obtain ⟨s, ns, m, rfl, _⟩ := h; rfl
  · obtain ⟨s, ns, m, rfl, hS, m0, m1, kk⟩ := h
    refine ⟨_, PSs.nox (pss_one (ps_ret (pe_listRg rfl (by rfl) T.n_list (prg_1 (by rfl) T.n_range (pe_callB (call_max2 rfl) (by rfl) T.n_max (by decide +kernel) (pa_cons pe_int (pa_cons (pe_callB (call_min2 rfl) (by rfl) T.n_min (by decide +kernel) (pa_cons (pv 1) (pa_cons (pe_callB call_len (by rfl) T.n_len (by decide +kernel) (pa_cons (pv 0) pa_nil)) pa_nil))) pa_nil))))))), ?_⟩
    refine ⟨_, rfl, _, rfl, _, _, rfl, Or.inl ⟨_, hS, rfl⟩, _, _, rfl, _, _, rfl, _, rfl, ?_⟩
    generalize hz : (if (if (((ns.map V.int).length : Nat) : Int) < (m : Int) then (((ns.map V.int).length : Nat) : Int) else (m : Int)) > 1 then (if (((ns.map V.int).length : Nat) : Int) < (m : Int) then (((ns.map V.int).length : Nat) : Int) else (m : Int)) else 1) = z
    have z0 : 0 ≤ z ∧ z ≤ m := by
      rw [← hz]
      split <;> split <;> omega
    obtain ⟨n, rfl⟩ : ∃ n : Nat, z = n := ⟨z.toNat, by omega⟩
    exact ⟨RgOk.of_le (by decide) (by omega) (by decide) (by omega), fun q hq => kk q n hq (by omega)⟩
end
end Q

open PySem PySem.Spec PyProof.Rows L2 MT
local macro_rules | `(tactic| walk_at "v") => `(tactic| refine ⟨_, rfl, ?_⟩)
local macro_rules | `(tactic| walk_at "i") => `(tactic| refine ⟨_, _, rfl, rfl, ?_⟩)
local macro_rules | `(tactic| walk_at "vs") => `(tactic| repeat (first | refine ⟨_, rfl, ?_⟩ | refine ⟨_, _, rfl, rfl, ?_⟩))

namespace Q
theorem Pot.same {H H' : Hp} {p : Addr} {c : Nat} (s : Same H H') (h : Pot H p c) : Pot H' p c := let ⟨a, b, k, hp, r⟩ := h; ⟨a, b, k, s _ _ hp, r⟩
/-! ### a value of any kind -/
def odds : List PyData := [.none, .bool true, .bool false, .int 0, .int 1, .int (-1), .int 2, .int 30, .str "", .str "a", .str "in", .str "out", .str "met", .tuple [], .list [], .dict [], .tuple [.int 0], .tuple [.tuple []], .list [.int 0], .tuple [.str "a"],
  .dict [(.str "a", .int 1)], .tuple [.str "a", .str "in"], .tuple [.str "a", .str "b"], .tuple [.tuple [.str "a", .str "in"]], .tuple [.str "met", .str "a", .str "b"], .int 100000000, .list [.str "a"], .tuple [.tuple [.str "a", .str "in"], .str "a"]]
def sp_odd (K : PySem.W.Frag) : Sp := fun vs H Q _ => ∃ (p : Addr) (c : Nat), vs = [.ref p] ∧ Pot H p c ∧ c ≤ 1000000 ∧
  ∀ x H' d, d ∈ odds → Da K (fresh H H') x d → SameBut p H H' → Pot H' p (c + 1) → Q x H'
local macro_rules | `(tactic| walk_at "fr") => `(tactic| (repeat (first | exact upd_same | (refine new_keep ?_ (by assumption)) | assumption)))
local macro_rules | `(tactic| walk_at "ss") => `(tactic| (repeat (first | exact Same.refl _ | refine MT.Same.new ?_ (by assumption))))
section
variable {P : Program} {w : World} {K : PySem.W.Frag} {mg : Str → Option Value} {base : Heap}
theorem ok_odd (T : Tx K mg) : Ok P w K mg base CX0 3 "_law_odd" ["_law_pot_here"] [] (sp_odd K) := by
  have O_l_of := ok_of (P := P) (w := w) (base := base) T
  obtain ⟨fd, F⟩ := T.f_l_odd
  refine ⟨⟨fd, [], F.ok sc_l_odd (fun vs H Q E h => ?_) (fun cdv A outer s H vs Q E hr h => ?_), F.bindsN fun _ _ _ _ _ _ us hl => match us, hl with | [_], _ => rfl, .nil⟩, F.kp, T.g_l_odd⟩
  · obtain ⟨p, c, rfl, _⟩ := h; rfl
  · obtain ⟨p, c, rfl, hP, hc, kk⟩ := h
    refine ⟨_, PSs.nox (pss_cons (ps_set (i := 1) sc_l_odd.nd rfl (Or.inl rfl) (pe_lst (pa_cons pe_non (pa_cons pe_bl (pa_cons pe_bl (pa_cons pe_int (pa_cons pe_int (pa_cons (pe_un un_neg pe_int) (pa_cons pe_int (pa_cons pe_int (pa_cons pe_str (pa_cons pe_str (pa_cons pe_str (pa_cons pe_str (pa_cons pe_str (pa_cons (pe_tup pa_nil) (pa_cons (pe_lst pa_nil) (pa_cons pe_dnewK (pa_cons (pe_tup (pa_cons pe_int pa_nil)) (pa_cons (pe_tup (pa_cons (pe_tup pa_nil) pa_nil)) (pa_cons (pe_lst (pa_cons pe_int pa_nil)) (pa_cons (pe_tup (pa_cons pe_str pa_nil)) pa_nil))))))))))))))))))))))
      (pss_cons (ps_set (i := 2) sc_l_odd.nd rfl (Or.inl rfl) (pe_lst (pa_cons (pe_disp (pps_cons pe_str pe_int pps_nil) (by rfl) (by rfl) (fun z => by cases z) (by decide)) (pa_cons (pe_tup (pa_cons pe_str (pa_cons pe_str pa_nil))) (pa_cons (pe_tup (pa_cons pe_str (pa_cons pe_str pa_nil))) (pa_cons (pe_tup (pa_cons (pe_tup (pa_cons pe_str (pa_cons pe_str pa_nil))) pa_nil)) (pa_cons (pe_tup (pa_cons pe_str (pa_cons pe_str (pa_cons pe_str pa_nil)))) (pa_cons (pe_op op_pow pe_int pe_int) (pa_cons (pe_lst (pa_cons pe_str pa_nil)) (pa_cons (pe_tup (pa_cons (pe_tup (pa_cons pe_str (pa_cons pe_str pa_nil))) (pa_cons pe_str pa_nil))) pa_nil))))))))))
      (pss_one (ps_ret (pe_callO O_l_of (hr.mono (by decide)) rfl pass0 (pa_cons (pv 0) (pa_cons (pe_op op_cat (pv 1) (pv 2)) pa_nil))))))), ?_⟩
    refine ⟨_, rfl, ?_⟩
    refine ⟨Nat.le_of_ble_eq_true rfl, fun t1 n1 => ⟨Nat.le_of_ble_eq_true rfl, fun t2 n2 => fun t3 n3 => ⟨Nat.le_of_ble_eq_true rfl, fun t4 n4 => ⟨Nat.le_of_ble_eq_true rfl, fun t5 n5 => ⟨Nat.le_of_ble_eq_true rfl, fun t6 n6 => ?_⟩⟩⟩⟩⟩
    refine ⟨Nat.le_of_ble_eq_true rfl, fun t7 n7 => ⟨Nat.le_of_ble_eq_true rfl, fun t8 n8 => ⟨Nat.le_of_ble_eq_true rfl, fun t9 n9 => ?_⟩⟩⟩
    refine fun t10 n10 => ⟨upd_same, [(Sum.inr "a", .int 1)], rfl, by decide, ?_⟩
    rw [upd_upd]
    refine ⟨Nat.le_of_ble_eq_true rfl, fun t11 n11 => ⟨Nat.le_of_ble_eq_true rfl, fun t12 n12 => ⟨Nat.le_of_ble_eq_true rfl, fun t13 n13 => ⟨Nat.le_of_ble_eq_true rfl, fun t14 n14 => ⟨Nat.le_of_ble_eq_true rfl, fun t15 n15 => ?_⟩⟩⟩⟩⟩
    refine ⟨_, _, rfl, rfl, ⟨by decide, by decide, by decide⟩, ?_⟩
    refine ⟨Nat.le_of_ble_eq_true rfl, fun t16 n16 => ⟨Nat.le_of_ble_eq_true rfl, fun t17 n17 => ⟨Nat.le_of_ble_eq_true rfl, fun t18 n18 => ⟨Nat.le_of_ble_eq_true rfl, fun t19 n19 => ?_⟩⟩⟩⟩
    refine ⟨_, rfl, _, rfl, _, rfl, t9, t19, _, _, rfl, rfl, new_keep (new_keep (new_keep (new_keep (new_keep (new_keep (new_keep (new_keep (new_keep (new_keep upd_same n10) n11) n12) n13) n14) n15) n16) n17) n18) n19, upd_same, Nat.le_of_ble_eq_true rfl, fun t20 n20 => ?_⟩
    refine (fun (g : ∀ Hf : Hp, Same H Hf → Hf t20 = some (.lst [.non, .bl true, .bl false, .int 0, .int 1, .int (-1), .int 2, .int 30, .str "", .str "a", .str "in", .str "out", .str "met", .ref t1, .ref t2, .ref t3, .ref t4, .ref t6, .ref t7, .ref t8, .ref t10, .ref t11, .ref t12, .ref t14, .ref t15, .int 100000000, .ref t16, .ref t18]) → Hf t1 = some (.tup []) → Hf t2 = some (.lst []) → Hf t3 = some (.dK []) → Hf t4 = some (.tup [.int 0]) → Hf t5 = some (.tup []) → Hf t6 = some (.tup [.ref t5]) → Hf t7 = some (.lst [.int 0]) → Hf t8 = some (.tup [.str "a"]) → Hf t10 = some (.dK [(Sum.inr "a", .int 1)]) → Hf t11 = some (.tup [.str "a", .str "in"]) → Hf t12 = some (.tup [.str "a", .str "b"]) → Hf t13 = some (.tup [.str "a", .str "in"]) → Hf t14 = some (.tup [.ref t13]) → Hf t15 = some (.tup [.str "met", .str "a", .str "b"]) → Hf t16 = some (.lst [.str "a"]) → Hf t17 = some (.tup [.str "a", .str "in"]) → Hf t18 = some (.tup [.ref t17, .str "a"]) → sp_of K [.ref p, .ref t20] Hf Q E0) => g _ ?ss ?f20 ?f1 ?f2 ?f3 ?f4 ?f5 ?f6 ?f7 ?f8 ?f10 ?f11 ?f12 ?f13 ?f14 ?f15 ?f16 ?f17 ?f18) ?_
    case ss => repeat (first | exact Same.refl _ | refine MT.Same.new ?_ (by assumption))
    case f20 => exact upd_same
    all_goals try (walk_at "fr")
    intro Hf ss f20 f1 f2 f3 f4 f5 f6 f7 f8 f10 f11 f12 f13 f14 f15 f16 f17 f18
    obtain ⟨a, b, k, hp, _⟩ := hP.same ss
    refine ⟨p, t20, c, _, rfl, hP.same ss, hc, SqL.of f20, ne_of f20 hp (by intro z; cases z), Nat.le_of_ble_eq_true rfl, Nat.le_of_ble_eq_true rfl, fun x H' hx sb hP' => ?_⟩
    have g1 := fresh_at (H := H) (Same.free (by walk_at "ss") n1) (sb _ _ (ne_of f1 hp (by intro z; cases z)) f1)
    have g2 := fresh_at (H := H) (Same.free (by walk_at "ss") n2) (sb _ _ (ne_of f2 hp (by intro z; cases z)) f2)
    have g3 := fresh_at (H := H) (Same.free (by walk_at "ss") n3) (sb _ _ (ne_of f3 hp (by intro z; cases z)) f3)
    have g4 := fresh_at (H := H) (Same.free (by walk_at "ss") n4) (sb _ _ (ne_of f4 hp (by intro z; cases z)) f4)
    have g5 := fresh_at (H := H) (Same.free (by walk_at "ss") n5) (sb _ _ (ne_of f5 hp (by intro z; cases z)) f5)
    have g6 := fresh_at (H := H) (Same.free (by walk_at "ss") n6) (sb _ _ (ne_of f6 hp (by intro z; cases z)) f6)
    have g7 := fresh_at (H := H) (Same.free (by walk_at "ss") n7) (sb _ _ (ne_of f7 hp (by intro z; cases z)) f7)
    have g8 := fresh_at (H := H) (Same.free (by walk_at "ss") n8) (sb _ _ (ne_of f8 hp (by intro z; cases z)) f8)
    have g10 := fresh_at (H := H) (Same.free (by walk_at "ss") n10) (sb _ _ (ne_of f10 hp (by intro z; cases z)) f10)
    have g11 := fresh_at (H := H) (Same.free (by walk_at "ss") n11) (sb _ _ (ne_of f11 hp (by intro z; cases z)) f11)
    have g12 := fresh_at (H := H) (Same.free (by walk_at "ss") n12) (sb _ _ (ne_of f12 hp (by intro z; cases z)) f12)
    have g13 := fresh_at (H := H) (Same.free (by walk_at "ss") n13) (sb _ _ (ne_of f13 hp (by intro z; cases z)) f13)
    have g14 := fresh_at (H := H) (Same.free (by walk_at "ss") n14) (sb _ _ (ne_of f14 hp (by intro z; cases z)) f14)
    have g15 := fresh_at (H := H) (Same.free (by walk_at "ss") n15) (sb _ _ (ne_of f15 hp (by intro z; cases z)) f15)
    have g16 := fresh_at (H := H) (Same.free (by walk_at "ss") n16) (sb _ _ (ne_of f16 hp (by intro z; cases z)) f16)
    have g17 := fresh_at (H := H) (Same.free (by walk_at "ss") n17) (sb _ _ (ne_of f17 hp (by intro z; cases z)) f17)
    have g18 := fresh_at (H := H) (Same.free (by walk_at "ss") n18) (sb _ _ (ne_of f18 hp (by intro z; cases z)) f18)
    have fin : ∀ i d, odds[i]? = some d → Da K (fresh H H') x d → Q x H' := fun i d hi hd => kk x H' d (List.mem_of_getElem? hi) hd ((SameBut.of ss).trans sb) hP'
    simp only [List.mem_cons, List.not_mem_nil, or_false] at hx
    rcases hx with rfl | rfl | rfl | rfl | rfl | rfl | rfl | rfl | rfl | rfl | rfl | rfl | rfl | rfl | rfl | rfl | rfl | rfl | rfl | rfl | rfl | rfl | rfl | rfl | rfl | rfl | rfl | rfl
    · exact fin 0 _ rfl (.non)
    · exact fin 1 _ rfl (.bl _)
    · exact fin 2 _ rfl (.bl _)
    · exact fin 3 _ rfl (.int _)
    · exact fin 4 _ rfl (.int _)
    · exact fin 5 _ rfl (.int _)
    · exact fin 6 _ rfl (.int _)
    · exact fin 7 _ rfl (.int _)
    · exact fin 8 _ rfl (.str _)
    · exact fin 9 _ rfl (.str _)
    · exact fin 10 _ rfl (.str _)
    · exact fin 11 _ rfl (.str _)
    · exact fin 12 _ rfl (.str _)
    · exact fin 13 _ rfl (.tup (SqT.of g1) .nil)
    · exact fin 14 _ rfl (.lst (SqL.of g2) .nil)
    · exact fin 15 _ rfl (.dict (kvs := []) g3 .nil)
    · exact fin 16 _ rfl (.tup (SqT.of g4) (.cons (.int 0) .nil))
    · exact fin 17 _ rfl (.tup (SqT.of g6) (.cons (.tup (SqT.of g5) .nil) .nil))
    · exact fin 18 _ rfl (.lst (SqL.of g7) (.cons (.int 0) .nil))
    · exact fin 19 _ rfl (.tup (SqT.of g8) (.cons (.str _) .nil))
    · exact fin 20 _ rfl (.dict (kvs := [(Sum.inr "a", .int 1)]) g10 (.cons (.int 1) .nil))
    · exact fin 21 _ rfl (.tup (SqT.of g11) (.cons (.str _) (.cons (.str _) .nil)))
    · exact fin 22 _ rfl (.tup (SqT.of g12) (.cons (.str _) (.cons (.str _) .nil)))
    · exact fin 23 _ rfl (.tup (SqT.of g14) (.cons (.tup (SqT.of g13) (.cons (.str _) (.cons (.str _) .nil))) .nil))
    · exact fin 24 _ rfl (.tup (SqT.of g15) (.cons (.str _) (.cons (.str _) (.cons (.str _) .nil))))
    · exact fin 25 _ rfl (.int _)
    · exact fin 26 _ rfl (.lst (SqL.of g16) (.cons (.str _) .nil))
    · exact fin 27 _ rfl (.tup (SqT.of g18) (.cons (.tup (SqT.of g17) (.cons (.str _) (.cons (.str _) .nil))) (.cons (.str _) .nil)))
end
end Q

open PySem PySem.Spec PyProof.Rows L2 MT
local macro_rules | `(tactic| walk_at "v") => `(tactic| refine ⟨_, rfl, ?_⟩)
local macro_rules | `(tactic| walk_at "i") => `(tactic| refine ⟨_, _, rfl, rfl, ?_⟩)
local macro_rules | `(tactic| walk_at "vs") => `(tactic| repeat (first | refine ⟨_, rfl, ?_⟩ | refine ⟨_, _, rfl, rfl, ?_⟩))

namespace Q
/-! ### the errors made -/
def ErrAt (K : PySem.W.Frag) (H : Hp) (v : V) (x : Str) (u : V) : Prop := ∃ e d, u = .ref e ∧ H e = some (ExV (He.ga K x) d e) ∧ H d = some (xdV v)
theorem ErrAt.same {K : PySem.W.Frag} {H H' : Hp} {v u : V} {x : Str} (s : Same H H') (h : ErrAt K H v x u) : ErrAt K H' v x u := let ⟨e, d, z, a, b⟩ := h; ⟨e, d, z, s _ _ a, s _ _ b⟩
abbrev Errs (K : PySem.W.Frag) (H : Hp) (v : V) : List Str → List V → Prop := Paired (ErrAt K H v)
theorem Errs.same {K : PySem.W.Frag} {H H' : Hp} {v : V} (s : Same H H') {xs : List Str} {us : List V} (h : Errs K H v xs us) : Errs K H' v xs us := Paired.mapP h fun _ _ z => z.same s
theorem Paired.app {α β : Type} {F : α → β → Prop} : ∀ {a c : List α} {b d : List β}, Paired F a b → Paired F c d → Paired F (a ++ c) (b ++ d)
  | _, _, _, _, .nil, s => s
  | _, _, _, _, .cons r t, s => .cons r (Paired.app t s)
def names00 : List Str := ["BadHall", "NoPerson", "Alone", "BadEvent", "BadTimeline", "BadSaying", "BadSayings", "Full", "NoSaying", "OtherHall", "BadCases", "NoTimeline", "BadClaim", "BadNumber", "BadOrder", "BadOffers", "BadWishes", "Contrary", "NothingToUndo", "NothingToRedo", "NoTrial", "BadJournal", "BadLine"]
def sp_made (K : PySem.W.Frag) : Sp := fun vs H Q _ => ∃ v, vs = [v] ∧ ∀ l us H', Same H H' → H' l = some (.lst us) → Errs K H' v names00 us → Q (.ref l) H'
/-- one group more -/
theorem grow {K : PySem.W.Frag} {H Hc : Hp} {v : V} {l b : Addr} {xs ys : List Str} {us zs : List V} (ss : Same H Hc) (hl : Hc l = some (.lst us)) (h0 : H l = none) (he : Errs K Hc v xs us) (hz : Errs K Hc v ys zs) {k : Nat} (hk : us.length + zs.length = k) :
    Same H (upd Hc l (.lst (us ++ zs))) ∧ ∃ us', (upd Hc l (.lst (us ++ zs))) l = some (.lst us') ∧ us'.length = k ∧ Errs K (upd Hc l (.lst (us ++ zs))) v (xs ++ ys) us' := by
  have sb : ∀ c o, c ≠ l → Hc c = some o → (upd Hc l (.lst (us ++ zs))) c = some o := fun c o n h => wr_keep h n
  have up : ∀ x u, ErrAt K Hc v x u → ErrAt K (upd Hc l (.lst (us ++ zs))) v x u := fun x u ⟨e, d, z, a, b⟩ => ⟨e, d, z, sb _ _ (ne_of a hl (by intro z; cases z)) a, sb _ _ (ne_of b hl (by intro z; cases z)) b⟩
  exact ⟨fun c o h => sb c o (ne_of_none h h0) (ss c o h), us ++ zs, upd_same, List.length_append.trans hk, Paired.app (Paired.mapP he up) (Paired.mapP hz up)⟩
section
variable {w : World} {K : PySem.W.Frag} {mg : Str → Option Value} {base : Heap}
local macro_rules | `(tactic| walk_at "fr") => `(tactic| (repeat (first | exact upd_same | (refine new_keep ?_ (by assumption)) | assumption)))
local macro_rules | `(tactic| walk_at "ss") => `(tactic| (repeat (first | assumption | exact Same.refl _ | refine MT.Same.new ?_ (by assumption))))
theorem ok_made (T : Tx K mg) : Ok PRG w K mg base CX0 2 "_law_made" ["_law_value"] [] (sp_made K) := by
  obtain ⟨fd, F⟩ := T.f_l_made
  refine ⟨⟨fd, [], F.ok sc_l_made (fun vs H Q E h => ?_) (fun cdv A outer s H vs Q E hr h => ?_), F.bindsN fun _ _ _ _ _ _ us hl => match us, hl with | [_], _ => rfl, .nil⟩, F.kp, T.g_l_made⟩
  · obtain ⟨v, rfl, _⟩ := h; rfl
  · obtain ⟨v, rfl, kk⟩ := h
    refine ⟨_, PSs.nox (pss_cons (ps_set (i := 1) sc_l_made.nd rfl (Or.inl rfl) (pe_lst (pa_cons (pe_errV T.init T.e_BadHall.1 T.g_BadHall hr rfl (pa_cons (pv 0) pa_nil)) (pa_cons (pe_errV T.init T.e_NoPerson.1 T.g_NoPerson hr rfl (pa_cons (pv 0) pa_nil)) (pa_cons (pe_errV T.init T.e_Alone.1 T.g_Alone hr rfl (pa_cons (pv 0) pa_nil)) pa_nil)))))
      (pss_cons (ps_expr (pe_bm PySem.F.plainAttrs_list PySem.F.slot_list_extend PySem.F.type_list_extend mt_extend (pv 1) (pa_cons (pe_lst (pa_cons (pe_errV T.init T.e_BadEvent.1 T.g_BadEvent hr rfl (pa_cons (pv 0) pa_nil)) (pa_cons (pe_errV T.init T.e_BadTimeline.1 T.g_BadTimeline hr rfl (pa_cons (pv 0) pa_nil)) (pa_cons (pe_errV T.init T.e_BadSaying.1 T.g_BadSaying hr rfl (pa_cons (pv 0) pa_nil)) pa_nil)))) pa_nil)))
      (pss_cons (ps_expr (pe_bm PySem.F.plainAttrs_list PySem.F.slot_list_extend PySem.F.type_list_extend mt_extend (pv 1) (pa_cons (pe_lst (pa_cons (pe_errV T.init T.e_BadSayings.1 T.g_BadSayings hr rfl (pa_cons (pv 0) pa_nil)) (pa_cons (pe_errV T.init T.e_Full.1 T.g_Full hr rfl (pa_cons (pv 0) pa_nil)) (pa_cons (pe_errV T.init T.e_NoSaying.1 T.g_NoSaying hr rfl (pa_cons (pv 0) pa_nil)) pa_nil)))) pa_nil)))
      (pss_cons (ps_expr (pe_bm PySem.F.plainAttrs_list PySem.F.slot_list_extend PySem.F.type_list_extend mt_extend (pv 1) (pa_cons (pe_lst (pa_cons (pe_errV T.init T.e_OtherHall.1 T.g_OtherHall hr rfl (pa_cons (pv 0) pa_nil)) (pa_cons (pe_errV T.init T.e_BadCases.1 T.g_BadCases hr rfl (pa_cons (pv 0) pa_nil)) (pa_cons (pe_errV T.init T.e_NoTimeline.1 T.g_NoTimeline hr rfl (pa_cons (pv 0) pa_nil)) pa_nil)))) pa_nil)))
      (pss_cons (ps_expr (pe_bm PySem.F.plainAttrs_list PySem.F.slot_list_extend PySem.F.type_list_extend mt_extend (pv 1) (pa_cons (pe_lst (pa_cons (pe_errV T.init T.e_BadClaim.1 T.g_BadClaim hr rfl (pa_cons (pv 0) pa_nil)) (pa_cons (pe_errV T.init T.e_BadNumber.1 T.g_BadNumber hr rfl (pa_cons (pv 0) pa_nil)) (pa_cons (pe_errV T.init T.e_BadOrder.1 T.g_BadOrder hr rfl (pa_cons (pv 0) pa_nil)) pa_nil)))) pa_nil)))
      (pss_cons (ps_expr (pe_bm PySem.F.plainAttrs_list PySem.F.slot_list_extend PySem.F.type_list_extend mt_extend (pv 1) (pa_cons (pe_lst (pa_cons (pe_errV T.init T.e_BadOffers.1 T.g_BadOffers hr rfl (pa_cons (pv 0) pa_nil)) (pa_cons (pe_errV T.init T.e_BadWishes.1 T.g_BadWishes hr rfl (pa_cons (pv 0) pa_nil)) (pa_cons (pe_errV T.init T.e_Contrary.1 T.g_Contrary hr rfl (pa_cons (pv 0) pa_nil)) pa_nil)))) pa_nil)))
      (pss_cons (ps_expr (pe_bm PySem.F.plainAttrs_list PySem.F.slot_list_extend PySem.F.type_list_extend mt_extend (pv 1) (pa_cons (pe_lst (pa_cons (pe_errV T.init T.e_NothingToUndo.1 T.g_NothingToUndo hr rfl (pa_cons (pv 0) pa_nil)) (pa_cons (pe_errV T.init T.e_NothingToRedo.1 T.g_NothingToRedo hr rfl (pa_cons (pv 0) pa_nil)) (pa_cons (pe_errV T.init T.e_NoTrial.1 T.g_NoTrial hr rfl (pa_cons (pv 0) pa_nil)) pa_nil)))) pa_nil)))
      (pss_cons (ps_expr (pe_bm PySem.F.plainAttrs_list PySem.F.slot_list_extend PySem.F.type_list_extend mt_extend (pv 1) (pa_cons (pe_lst (pa_cons (pe_errV T.init T.e_BadJournal.1 T.g_BadJournal hr rfl (pa_cons (pv 0) pa_nil)) (pa_cons (pe_errV T.init T.e_BadLine.1 T.g_BadLine hr rfl (pa_cons (pv 0) pa_nil)) pa_nil))) pa_nil)))
      (pss_one (ps_ret (pv 1))))))))))), ?_⟩
    refine ⟨_, rfl, _, rfl, fun d1 m1 e1 n1 => ⟨_, rfl, _, rfl, fun d2 m2 e2 n2 => ⟨_, rfl, _, rfl, fun d3 m3 e3 n3 => ⟨Nat.le_of_ble_eq_true rfl, fun l hl => ?_⟩⟩⟩⟩
    have h0 : H l = none := Same.free (H' := upd _ _ _) (by walk_at "ss") hl
    refine gen_heap (fun Hf => Same H Hf ∧ ∃ us, Hf l = some (.lst us) ∧ us.length = 3 ∧ Errs K Hf v ["BadHall", "NoPerson", "Alone"] us) ⟨by walk_at "ss", _, upd_same, rfl, .cons ⟨e1, d1, rfl, by walk_at "fr", by walk_at "fr"⟩ (.cons ⟨e2, d2, rfl, by walk_at "fr", by walk_at "fr"⟩ (.cons ⟨e3, d3, rfl, by walk_at "fr", by walk_at "fr"⟩ .nil))⟩ (fun H1 ⟨s1, us1, l1, z1, x1⟩ => ?_)
    refine ⟨_, rfl, Or.inl ⟨rfl, _, SqL.of l1⟩, _, rfl, _, rfl, fun d1 m1 e1 n1 => ⟨_, rfl, _, rfl, fun d2 m2 e2 n2 => ⟨_, rfl, _, rfl, fun d3 m3 e3 n3 => ⟨Nat.le_of_ble_eq_true rfl, fun b hb => ?_⟩⟩⟩⟩
    refine ⟨l, b, _, _, rfl, rfl, by walk_at "fr", upd_same, by simp [z1, sizeLine_eq], ?_⟩
    refine gen_heap (fun Hf => Same H Hf ∧ ∃ us, Hf l = some (.lst us) ∧ us.length = 6 ∧ Errs K Hf v ["BadHall", "NoPerson", "Alone", "BadEvent", "BadTimeline", "BadSaying"] us) ?st2 (fun H2 ⟨s2, us2, l2, z2, x2⟩ => ?_)
    case st2 =>
      exact grow (b := b) (xs := ["BadHall", "NoPerson", "Alone"]) (ys := ["BadEvent", "BadTimeline", "BadSaying"]) (by walk_at "ss") (by walk_at "fr") h0 (Errs.same (H := H1) (by walk_at "ss") x1) (.cons ⟨e1, d1, rfl, by walk_at "fr", by walk_at "fr"⟩ (.cons ⟨e2, d2, rfl, by walk_at "fr", by walk_at "fr"⟩ (.cons ⟨e3, d3, rfl, by walk_at "fr", by walk_at "fr"⟩ .nil))) (by rw [z1]; rfl)
    refine ⟨_, rfl, Or.inl ⟨rfl, _, SqL.of l2⟩, _, rfl, _, rfl, fun d1 m1 e1 n1 => ⟨_, rfl, _, rfl, fun d2 m2 e2 n2 => ⟨_, rfl, _, rfl, fun d3 m3 e3 n3 => ⟨Nat.le_of_ble_eq_true rfl, fun b hb => ?_⟩⟩⟩⟩
    refine ⟨l, b, _, _, rfl, rfl, by walk_at "fr", upd_same, by simp [z2, sizeLine_eq], ?_⟩
    refine gen_heap (fun Hf => Same H Hf ∧ ∃ us, Hf l = some (.lst us) ∧ us.length = 9 ∧ Errs K Hf v ["BadHall", "NoPerson", "Alone", "BadEvent", "BadTimeline", "BadSaying", "BadSayings", "Full", "NoSaying"] us) ?st3 (fun H3 ⟨s3, us3, l3, z3, x3⟩ => ?_)
    case st3 =>
      exact grow (b := b) (xs := ["BadHall", "NoPerson", "Alone", "BadEvent", "BadTimeline", "BadSaying"]) (ys := ["BadSayings", "Full", "NoSaying"]) (by walk_at "ss") (by walk_at "fr") h0 (Errs.same (H := H2) (by walk_at "ss") x2) (.cons ⟨e1, d1, rfl, by walk_at "fr", by walk_at "fr"⟩ (.cons ⟨e2, d2, rfl, by walk_at "fr", by walk_at "fr"⟩ (.cons ⟨e3, d3, rfl, by walk_at "fr", by walk_at "fr"⟩ .nil))) (by rw [z2]; rfl)
    refine ⟨_, rfl, Or.inl ⟨rfl, _, SqL.of l3⟩, _, rfl, _, rfl, fun d1 m1 e1 n1 => ⟨_, rfl, _, rfl, fun d2 m2 e2 n2 => ⟨_, rfl, _, rfl, fun d3 m3 e3 n3 => ⟨Nat.le_of_ble_eq_true rfl, fun b hb => ?_⟩⟩⟩⟩
    refine ⟨l, b, _, _, rfl, rfl, by walk_at "fr", upd_same, by simp [z3, sizeLine_eq], ?_⟩
    refine gen_heap (fun Hf => Same H Hf ∧ ∃ us, Hf l = some (.lst us) ∧ us.length = 12 ∧ Errs K Hf v ["BadHall", "NoPerson", "Alone", "BadEvent", "BadTimeline", "BadSaying", "BadSayings", "Full", "NoSaying", "OtherHall", "BadCases", "NoTimeline"] us) ?st4 (fun H4 ⟨s4, us4, l4, z4, x4⟩ => ?_)
    case st4 =>
      exact grow (b := b) (xs := ["BadHall", "NoPerson", "Alone", "BadEvent", "BadTimeline", "BadSaying", "BadSayings", "Full", "NoSaying"]) (ys := ["OtherHall", "BadCases", "NoTimeline"]) (by walk_at "ss") (by walk_at "fr") h0 (Errs.same (H := H3) (by walk_at "ss") x3) (.cons ⟨e1, d1, rfl, by walk_at "fr", by walk_at "fr"⟩ (.cons ⟨e2, d2, rfl, by walk_at "fr", by walk_at "fr"⟩ (.cons ⟨e3, d3, rfl, by walk_at "fr", by walk_at "fr"⟩ .nil))) (by rw [z3]; rfl)
    refine ⟨_, rfl, Or.inl ⟨rfl, _, SqL.of l4⟩, _, rfl, _, rfl, fun d1 m1 e1 n1 => ⟨_, rfl, _, rfl, fun d2 m2 e2 n2 => ⟨_, rfl, _, rfl, fun d3 m3 e3 n3 => ⟨Nat.le_of_ble_eq_true rfl, fun b hb => ?_⟩⟩⟩⟩
    refine ⟨l, b, _, _, rfl, rfl, by walk_at "fr", upd_same, by simp [z4, sizeLine_eq], ?_⟩
    refine gen_heap (fun Hf => Same H Hf ∧ ∃ us, Hf l = some (.lst us) ∧ us.length = 15 ∧ Errs K Hf v ["BadHall", "NoPerson", "Alone", "BadEvent", "BadTimeline", "BadSaying", "BadSayings", "Full", "NoSaying", "OtherHall", "BadCases", "NoTimeline", "BadClaim", "BadNumber", "BadOrder"] us) ?st5 (fun H5 ⟨s5, us5, l5, z5, x5⟩ => ?_)
    case st5 =>
      exact grow (b := b) (xs := ["BadHall", "NoPerson", "Alone", "BadEvent", "BadTimeline", "BadSaying", "BadSayings", "Full", "NoSaying", "OtherHall", "BadCases", "NoTimeline"]) (ys := ["BadClaim", "BadNumber", "BadOrder"]) (by walk_at "ss") (by walk_at "fr") h0 (Errs.same (H := H4) (by walk_at "ss") x4) (.cons ⟨e1, d1, rfl, by walk_at "fr", by walk_at "fr"⟩ (.cons ⟨e2, d2, rfl, by walk_at "fr", by walk_at "fr"⟩ (.cons ⟨e3, d3, rfl, by walk_at "fr", by walk_at "fr"⟩ .nil))) (by rw [z4]; rfl)
    refine ⟨_, rfl, Or.inl ⟨rfl, _, SqL.of l5⟩, _, rfl, _, rfl, fun d1 m1 e1 n1 => ⟨_, rfl, _, rfl, fun d2 m2 e2 n2 => ⟨_, rfl, _, rfl, fun d3 m3 e3 n3 => ⟨Nat.le_of_ble_eq_true rfl, fun b hb => ?_⟩⟩⟩⟩
    refine ⟨l, b, _, _, rfl, rfl, by walk_at "fr", upd_same, by simp [z5, sizeLine_eq], ?_⟩
    refine gen_heap (fun Hf => Same H Hf ∧ ∃ us, Hf l = some (.lst us) ∧ us.length = 18 ∧ Errs K Hf v ["BadHall", "NoPerson", "Alone", "BadEvent", "BadTimeline", "BadSaying", "BadSayings", "Full", "NoSaying", "OtherHall", "BadCases", "NoTimeline", "BadClaim", "BadNumber", "BadOrder", "BadOffers", "BadWishes", "Contrary"] us) ?st6 (fun H6 ⟨s6, us6, l6, z6, x6⟩ => ?_)
    case st6 =>
      exact grow (b := b) (xs := ["BadHall", "NoPerson", "Alone", "BadEvent", "BadTimeline", "BadSaying", "BadSayings", "Full", "NoSaying", "OtherHall", "BadCases", "NoTimeline", "BadClaim", "BadNumber", "BadOrder"]) (ys := ["BadOffers", "BadWishes", "Contrary"]) (by walk_at "ss") (by walk_at "fr") h0 (Errs.same (H := H5) (by walk_at "ss") x5) (.cons ⟨e1, d1, rfl, by walk_at "fr", by walk_at "fr"⟩ (.cons ⟨e2, d2, rfl, by walk_at "fr", by walk_at "fr"⟩ (.cons ⟨e3, d3, rfl, by walk_at "fr", by walk_at "fr"⟩ .nil))) (by rw [z5]; rfl)
    refine ⟨_, rfl, Or.inl ⟨rfl, _, SqL.of l6⟩, _, rfl, _, rfl, fun d1 m1 e1 n1 => ⟨_, rfl, _, rfl, fun d2 m2 e2 n2 => ⟨_, rfl, _, rfl, fun d3 m3 e3 n3 => ⟨Nat.le_of_ble_eq_true rfl, fun b hb => ?_⟩⟩⟩⟩
    refine ⟨l, b, _, _, rfl, rfl, by walk_at "fr", upd_same, by simp [z6, sizeLine_eq], ?_⟩
    refine gen_heap (fun Hf => Same H Hf ∧ ∃ us, Hf l = some (.lst us) ∧ us.length = 21 ∧ Errs K Hf v ["BadHall", "NoPerson", "Alone", "BadEvent", "BadTimeline", "BadSaying", "BadSayings", "Full", "NoSaying", "OtherHall", "BadCases", "NoTimeline", "BadClaim", "BadNumber", "BadOrder", "BadOffers", "BadWishes", "Contrary", "NothingToUndo", "NothingToRedo", "NoTrial"] us) ?st7 (fun H7 ⟨s7, us7, l7, z7, x7⟩ => ?_)
    case st7 =>
      exact grow (b := b) (xs := ["BadHall", "NoPerson", "Alone", "BadEvent", "BadTimeline", "BadSaying", "BadSayings", "Full", "NoSaying", "OtherHall", "BadCases", "NoTimeline", "BadClaim", "BadNumber", "BadOrder", "BadOffers", "BadWishes", "Contrary"]) (ys := ["NothingToUndo", "NothingToRedo", "NoTrial"]) (by walk_at "ss") (by walk_at "fr") h0 (Errs.same (H := H6) (by walk_at "ss") x6) (.cons ⟨e1, d1, rfl, by walk_at "fr", by walk_at "fr"⟩ (.cons ⟨e2, d2, rfl, by walk_at "fr", by walk_at "fr"⟩ (.cons ⟨e3, d3, rfl, by walk_at "fr", by walk_at "fr"⟩ .nil))) (by rw [z6]; rfl)
    refine ⟨_, rfl, Or.inl ⟨rfl, _, SqL.of l7⟩, _, rfl, _, rfl, fun d1 m1 e1 n1 => ⟨_, rfl, _, rfl, fun d2 m2 e2 n2 => ⟨Nat.le_of_ble_eq_true rfl, fun b hb => ?_⟩⟩⟩
    refine ⟨l, b, _, _, rfl, rfl, by walk_at "fr", upd_same, by simp [z7, sizeLine_eq], ?_⟩
    refine gen_heap (fun Hf => Same H Hf ∧ ∃ us, Hf l = some (.lst us) ∧ us.length = 23 ∧ Errs K Hf v ["BadHall", "NoPerson", "Alone", "BadEvent", "BadTimeline", "BadSaying", "BadSayings", "Full", "NoSaying", "OtherHall", "BadCases", "NoTimeline", "BadClaim", "BadNumber", "BadOrder", "BadOffers", "BadWishes", "Contrary", "NothingToUndo", "NothingToRedo", "NoTrial", "BadJournal", "BadLine"] us) ?st8 (fun H8 ⟨s8, us8, l8, z8, x8⟩ => ?_)
    case st8 =>
      exact grow (b := b) (xs := ["BadHall", "NoPerson", "Alone", "BadEvent", "BadTimeline", "BadSaying", "BadSayings", "Full", "NoSaying", "OtherHall", "BadCases", "NoTimeline", "BadClaim", "BadNumber", "BadOrder", "BadOffers", "BadWishes", "Contrary", "NothingToUndo", "NothingToRedo", "NoTrial"]) (ys := ["BadJournal", "BadLine"]) (by walk_at "ss") (by walk_at "fr") h0 (Errs.same (H := H7) (by walk_at "ss") x7) (.cons ⟨e1, d1, rfl, by walk_at "fr", by walk_at "fr"⟩ (.cons ⟨e2, d2, rfl, by walk_at "fr", by walk_at "fr"⟩ .nil)) (by rw [z7]; rfl)
    exact ⟨_, rfl, kk l us8 H8 s8 l8 x8⟩
end
end Q

open PySem PySem.Spec PyProof.Rows L2 MT
local macro_rules | `(tactic| walk_at "v") => `(tactic| refine ⟨_, rfl, ?_⟩)
local macro_rules | `(tactic| walk_at "i") => `(tactic| refine ⟨_, _, rfl, rfl, ?_⟩)
local macro_rules | `(tactic| walk_at "vs") => `(tactic| repeat (first | refine ⟨_, rfl, ?_⟩ | refine ⟨_, _, rfl, rfl, ?_⟩))

namespace Q
def markV (x y : Str) : V := .bl (decide (y = x) || decide (y = mE))
def sp_marks (K : PySem.W.Frag) : Sp := fun vs H Q _ => ∃ u x v, vs = [u] ∧ x ∈ errs ∧ ErrAt K H v x u ∧ ∀ l H', Same H H' → H' l = some (.lst (names00.map (markV x))) → Q (.ref l) H'
section
variable {w : World} {K : PySem.W.Frag} {mg : Str → Option Value} {base : Heap}
theorem ok_marks (T : Tx K mg) : Ok PRG w K mg base CX0 2 "_law_marks" ["_law_error"] [] (sp_marks K) := by
  obtain ⟨fd, F⟩ := T.f_l_marks
  refine ⟨⟨fd, [], F.ok sc_l_marks (fun vs H Q E h => ?_) (fun cdv A outer s H vs Q E hr h => ?_), F.bindsN fun _ _ _ _ _ _ us hl => match us, hl with | [_], _ => rfl, .nil⟩, F.kp, T.g_l_marks⟩
  · obtain ⟨u, x, v, rfl, _⟩ := h; rfl
  · obtain ⟨u, x, v, rfl, hx, ⟨e, d, rfl, he, hd⟩, kk⟩ := h
    refine ⟨_, PSs.nox (pss_cons (ps_set (i := 1) sc_l_marks.nd rfl (Or.inl rfl) (pe_lst (pa_cons (pe_callB call_isV (by rfl) T.n_isinstance (by decide +kernel) (pa_cons (pv 0) (pa_cons (pe_obj rfl T.g_BadHall) pa_nil))) (pa_cons (pe_callB call_isV (by rfl) T.n_isinstance (by decide +kernel) (pa_cons (pv 0) (pa_cons (pe_obj rfl T.g_NoPerson) pa_nil))) (pa_cons (pe_callB call_isV (by rfl) T.n_isinstance (by decide +kernel) (pa_cons (pv 0) (pa_cons (pe_obj rfl T.g_Alone) pa_nil))) pa_nil)))))
      (pss_cons (ps_expr (pe_bm PySem.F.plainAttrs_list PySem.F.slot_list_extend PySem.F.type_list_extend mt_extend (pv 1) (pa_cons (pe_lst (pa_cons (pe_callB call_isV (by rfl) T.n_isinstance (by decide +kernel) (pa_cons (pv 0) (pa_cons (pe_obj rfl T.g_BadEvent) pa_nil))) (pa_cons (pe_callB call_isV (by rfl) T.n_isinstance (by decide +kernel) (pa_cons (pv 0) (pa_cons (pe_obj rfl T.g_BadTimeline) pa_nil))) (pa_cons (pe_callB call_isV (by rfl) T.n_isinstance (by decide +kernel) (pa_cons (pv 0) (pa_cons (pe_obj rfl T.g_BadSaying) pa_nil))) pa_nil)))) pa_nil)))
      (pss_cons (ps_expr (pe_bm PySem.F.plainAttrs_list PySem.F.slot_list_extend PySem.F.type_list_extend mt_extend (pv 1) (pa_cons (pe_lst (pa_cons (pe_callB call_isV (by rfl) T.n_isinstance (by decide +kernel) (pa_cons (pv 0) (pa_cons (pe_obj rfl T.g_BadSayings) pa_nil))) (pa_cons (pe_callB call_isV (by rfl) T.n_isinstance (by decide +kernel) (pa_cons (pv 0) (pa_cons (pe_obj rfl T.g_Full) pa_nil))) (pa_cons (pe_callB call_isV (by rfl) T.n_isinstance (by decide +kernel) (pa_cons (pv 0) (pa_cons (pe_obj rfl T.g_NoSaying) pa_nil))) pa_nil)))) pa_nil)))
      (pss_cons (ps_expr (pe_bm PySem.F.plainAttrs_list PySem.F.slot_list_extend PySem.F.type_list_extend mt_extend (pv 1) (pa_cons (pe_lst (pa_cons (pe_callB call_isV (by rfl) T.n_isinstance (by decide +kernel) (pa_cons (pv 0) (pa_cons (pe_obj rfl T.g_OtherHall) pa_nil))) (pa_cons (pe_callB call_isV (by rfl) T.n_isinstance (by decide +kernel) (pa_cons (pv 0) (pa_cons (pe_obj rfl T.g_BadCases) pa_nil))) (pa_cons (pe_callB call_isV (by rfl) T.n_isinstance (by decide +kernel) (pa_cons (pv 0) (pa_cons (pe_obj rfl T.g_NoTimeline) pa_nil))) pa_nil)))) pa_nil)))
      (pss_cons (ps_expr (pe_bm PySem.F.plainAttrs_list PySem.F.slot_list_extend PySem.F.type_list_extend mt_extend (pv 1) (pa_cons (pe_lst (pa_cons (pe_callB call_isV (by rfl) T.n_isinstance (by decide +kernel) (pa_cons (pv 0) (pa_cons (pe_obj rfl T.g_BadClaim) pa_nil))) (pa_cons (pe_callB call_isV (by rfl) T.n_isinstance (by decide +kernel) (pa_cons (pv 0) (pa_cons (pe_obj rfl T.g_BadNumber) pa_nil))) (pa_cons (pe_callB call_isV (by rfl) T.n_isinstance (by decide +kernel) (pa_cons (pv 0) (pa_cons (pe_obj rfl T.g_BadOrder) pa_nil))) pa_nil)))) pa_nil)))
      (pss_cons (ps_expr (pe_bm PySem.F.plainAttrs_list PySem.F.slot_list_extend PySem.F.type_list_extend mt_extend (pv 1) (pa_cons (pe_lst (pa_cons (pe_callB call_isV (by rfl) T.n_isinstance (by decide +kernel) (pa_cons (pv 0) (pa_cons (pe_obj rfl T.g_BadOffers) pa_nil))) (pa_cons (pe_callB call_isV (by rfl) T.n_isinstance (by decide +kernel) (pa_cons (pv 0) (pa_cons (pe_obj rfl T.g_BadWishes) pa_nil))) (pa_cons (pe_callB call_isV (by rfl) T.n_isinstance (by decide +kernel) (pa_cons (pv 0) (pa_cons (pe_obj rfl T.g_Contrary) pa_nil))) pa_nil)))) pa_nil)))
      (pss_cons (ps_expr (pe_bm PySem.F.plainAttrs_list PySem.F.slot_list_extend PySem.F.type_list_extend mt_extend (pv 1) (pa_cons (pe_lst (pa_cons (pe_callB call_isV (by rfl) T.n_isinstance (by decide +kernel) (pa_cons (pv 0) (pa_cons (pe_obj rfl T.g_NothingToUndo) pa_nil))) (pa_cons (pe_callB call_isV (by rfl) T.n_isinstance (by decide +kernel) (pa_cons (pv 0) (pa_cons (pe_obj rfl T.g_NothingToRedo) pa_nil))) (pa_cons (pe_callB call_isV (by rfl) T.n_isinstance (by decide +kernel) (pa_cons (pv 0) (pa_cons (pe_obj rfl T.g_NoTrial) pa_nil))) pa_nil)))) pa_nil)))
      (pss_cons (ps_expr (pe_bm PySem.F.plainAttrs_list PySem.F.slot_list_extend PySem.F.type_list_extend mt_extend (pv 1) (pa_cons (pe_lst (pa_cons (pe_callB call_isV (by rfl) T.n_isinstance (by decide +kernel) (pa_cons (pv 0) (pa_cons (pe_obj rfl T.g_BadJournal) pa_nil))) (pa_cons (pe_callB call_isV (by rfl) T.n_isinstance (by decide +kernel) (pa_cons (pv 0) (pa_cons (pe_obj rfl T.g_BadLine) pa_nil))) pa_nil))) pa_nil)))
      (pss_one (ps_ret (pv 1))))))))))), ?_⟩
    have xc := (T.err hx).2
    refine ⟨_, rfl, e, _, d, v, _, _, _, rfl, he, hd, .own _, xc, T.kit hx (y := "BadHall") (by decide +kernel), ⟨_, rfl, e, _, d, v, _, _, _, rfl, he, hd, .own _, xc, T.kit hx (y := "NoPerson") (by decide +kernel), ⟨_, rfl, e, _, d, v, _, _, _, rfl, he, hd, .own _, xc, T.kit hx (y := "Alone") (by decide +kernel), ⟨Nat.le_of_ble_eq_true rfl, fun l hl => ?_⟩⟩⟩⟩
    have nel : e ≠ l := ne_of_none he hl
    have ndl : d ≠ l := ne_of_none hd hl
    refine gen_heap (fun Hf => Hf e = some (ExV (He.ga K x) d e) ∧ Hf d = some (xdV v) ∧ Same H Hf ∧ Hf l = some (.lst ((["BadHall", "NoPerson", "Alone"] : List Str).map (markV x)))) ⟨new_keep he hl, new_keep hd hl, same_new hl, upd_same⟩ (fun H1 ⟨e1, d1, s1, l1⟩ => ?_)
    refine ⟨_, rfl, Or.inl ⟨rfl, _, SqL.of l1⟩, _, rfl, e, _, d, v, _, _, _, rfl, e1, d1, .own _, xc, T.kit hx (y := "BadEvent") (by decide +kernel), ⟨_, rfl, e, _, d, v, _, _, _, rfl, e1, d1, .own _, xc, T.kit hx (y := "BadTimeline") (by decide +kernel), ⟨_, rfl, e, _, d, v, _, _, _, rfl, e1, d1, .own _, xc, T.kit hx (y := "BadSaying") (by decide +kernel), ⟨Nat.le_of_ble_eq_true rfl, fun b hb => ?_⟩⟩⟩⟩
    refine ⟨l, b, _, _, rfl, rfl, new_keep l1 hb, upd_same, Nat.le_of_ble_eq_true rfl, ?_⟩
    refine gen_heap (fun Hf => Hf e = some (ExV (He.ga K x) d e) ∧ Hf d = some (xdV v) ∧ Same H Hf ∧ Hf l = some (.lst ((["BadHall", "NoPerson", "Alone", "BadEvent", "BadTimeline", "BadSaying"] : List Str).map (markV x)))) ⟨wr_keep (new_keep e1 hb) nel, wr_keep (new_keep d1 hb) ndl, fun c o z => wr_keep (new_keep (s1 c o z) hb) (ne_of_none z hl), upd_same⟩ (fun H2 ⟨e2, d2, s2, l2⟩ => ?_)
    refine ⟨_, rfl, Or.inl ⟨rfl, _, SqL.of l2⟩, _, rfl, e, _, d, v, _, _, _, rfl, e2, d2, .own _, xc, T.kit hx (y := "BadSayings") (by decide +kernel), ⟨_, rfl, e, _, d, v, _, _, _, rfl, e2, d2, .own _, xc, T.kit hx (y := "Full") (by decide +kernel), ⟨_, rfl, e, _, d, v, _, _, _, rfl, e2, d2, .own _, xc, T.kit hx (y := "NoSaying") (by decide +kernel), ⟨Nat.le_of_ble_eq_true rfl, fun b hb => ?_⟩⟩⟩⟩
    refine ⟨l, b, _, _, rfl, rfl, new_keep l2 hb, upd_same, Nat.le_of_ble_eq_true rfl, ?_⟩
    refine gen_heap (fun Hf => Hf e = some (ExV (He.ga K x) d e) ∧ Hf d = some (xdV v) ∧ Same H Hf ∧ Hf l = some (.lst ((["BadHall", "NoPerson", "Alone", "BadEvent", "BadTimeline", "BadSaying", "BadSayings", "Full", "NoSaying"] : List Str).map (markV x)))) ⟨wr_keep (new_keep e2 hb) nel, wr_keep (new_keep d2 hb) ndl, fun c o z => wr_keep (new_keep (s2 c o z) hb) (ne_of_none z hl), upd_same⟩ (fun H3 ⟨e3, d3, s3, l3⟩ => ?_)
    refine ⟨_, rfl, Or.inl ⟨rfl, _, SqL.of l3⟩, _, rfl, e, _, d, v, _, _, _, rfl, e3, d3, .own _, xc, T.kit hx (y := "OtherHall") (by decide +kernel), ⟨_, rfl, e, _, d, v, _, _, _, rfl, e3, d3, .own _, xc, T.kit hx (y := "BadCases") (by decide +kernel), ⟨_, rfl, e, _, d, v, _, _, _, rfl, e3, d3, .own _, xc, T.kit hx (y := "NoTimeline") (by decide +kernel), ⟨Nat.le_of_ble_eq_true rfl, fun b hb => ?_⟩⟩⟩⟩
    refine ⟨l, b, _, _, rfl, rfl, new_keep l3 hb, upd_same, Nat.le_of_ble_eq_true rfl, ?_⟩
    refine gen_heap (fun Hf => Hf e = some (ExV (He.ga K x) d e) ∧ Hf d = some (xdV v) ∧ Same H Hf ∧ Hf l = some (.lst ((["BadHall", "NoPerson", "Alone", "BadEvent", "BadTimeline", "BadSaying", "BadSayings", "Full", "NoSaying", "OtherHall", "BadCases", "NoTimeline"] : List Str).map (markV x)))) ⟨wr_keep (new_keep e3 hb) nel, wr_keep (new_keep d3 hb) ndl, fun c o z => wr_keep (new_keep (s3 c o z) hb) (ne_of_none z hl), upd_same⟩ (fun H4 ⟨e4, d4, s4, l4⟩ => ?_)
    refine ⟨_, rfl, Or.inl ⟨rfl, _, SqL.of l4⟩, _, rfl, e, _, d, v, _, _, _, rfl, e4, d4, .own _, xc, T.kit hx (y := "BadClaim") (by decide +kernel), ⟨_, rfl, e, _, d, v, _, _, _, rfl, e4, d4, .own _, xc, T.kit hx (y := "BadNumber") (by decide +kernel), ⟨_, rfl, e, _, d, v, _, _, _, rfl, e4, d4, .own _, xc, T.kit hx (y := "BadOrder") (by decide +kernel), ⟨Nat.le_of_ble_eq_true rfl, fun b hb => ?_⟩⟩⟩⟩
    refine ⟨l, b, _, _, rfl, rfl, new_keep l4 hb, upd_same, Nat.le_of_ble_eq_true rfl, ?_⟩
    refine gen_heap (fun Hf => Hf e = some (ExV (He.ga K x) d e) ∧ Hf d = some (xdV v) ∧ Same H Hf ∧ Hf l = some (.lst ((["BadHall", "NoPerson", "Alone", "BadEvent", "BadTimeline", "BadSaying", "BadSayings", "Full", "NoSaying", "OtherHall", "BadCases", "NoTimeline", "BadClaim", "BadNumber", "BadOrder"] : List Str).map (markV x)))) ⟨wr_keep (new_keep e4 hb) nel, wr_keep (new_keep d4 hb) ndl, fun c o z => wr_keep (new_keep (s4 c o z) hb) (ne_of_none z hl), upd_same⟩ (fun H5 ⟨e5, d5, s5, l5⟩ => ?_)
    refine ⟨_, rfl, Or.inl ⟨rfl, _, SqL.of l5⟩, _, rfl, e, _, d, v, _, _, _, rfl, e5, d5, .own _, xc, T.kit hx (y := "BadOffers") (by decide +kernel), ⟨_, rfl, e, _, d, v, _, _, _, rfl, e5, d5, .own _, xc, T.kit hx (y := "BadWishes") (by decide +kernel), ⟨_, rfl, e, _, d, v, _, _, _, rfl, e5, d5, .own _, xc, T.kit hx (y := "Contrary") (by decide +kernel), ⟨Nat.le_of_ble_eq_true rfl, fun b hb => ?_⟩⟩⟩⟩
    refine ⟨l, b, _, _, rfl, rfl, new_keep l5 hb, upd_same, Nat.le_of_ble_eq_true rfl, ?_⟩
    refine gen_heap (fun Hf => Hf e = some (ExV (He.ga K x) d e) ∧ Hf d = some (xdV v) ∧ Same H Hf ∧ Hf l = some (.lst ((["BadHall", "NoPerson", "Alone", "BadEvent", "BadTimeline", "BadSaying", "BadSayings", "Full", "NoSaying", "OtherHall", "BadCases", "NoTimeline", "BadClaim", "BadNumber", "BadOrder", "BadOffers", "BadWishes", "Contrary"] : List Str).map (markV x)))) ⟨wr_keep (new_keep e5 hb) nel, wr_keep (new_keep d5 hb) ndl, fun c o z => wr_keep (new_keep (s5 c o z) hb) (ne_of_none z hl), upd_same⟩ (fun H6 ⟨e6, d6, s6, l6⟩ => ?_)
    refine ⟨_, rfl, Or.inl ⟨rfl, _, SqL.of l6⟩, _, rfl, e, _, d, v, _, _, _, rfl, e6, d6, .own _, xc, T.kit hx (y := "NothingToUndo") (by decide +kernel), ⟨_, rfl, e, _, d, v, _, _, _, rfl, e6, d6, .own _, xc, T.kit hx (y := "NothingToRedo") (by decide +kernel), ⟨_, rfl, e, _, d, v, _, _, _, rfl, e6, d6, .own _, xc, T.kit hx (y := "NoTrial") (by decide +kernel), ⟨Nat.le_of_ble_eq_true rfl, fun b hb => ?_⟩⟩⟩⟩
    refine ⟨l, b, _, _, rfl, rfl, new_keep l6 hb, upd_same, Nat.le_of_ble_eq_true rfl, ?_⟩
    refine gen_heap (fun Hf => Hf e = some (ExV (He.ga K x) d e) ∧ Hf d = some (xdV v) ∧ Same H Hf ∧ Hf l = some (.lst ((["BadHall", "NoPerson", "Alone", "BadEvent", "BadTimeline", "BadSaying", "BadSayings", "Full", "NoSaying", "OtherHall", "BadCases", "NoTimeline", "BadClaim", "BadNumber", "BadOrder", "BadOffers", "BadWishes", "Contrary", "NothingToUndo", "NothingToRedo", "NoTrial"] : List Str).map (markV x)))) ⟨wr_keep (new_keep e6 hb) nel, wr_keep (new_keep d6 hb) ndl, fun c o z => wr_keep (new_keep (s6 c o z) hb) (ne_of_none z hl), upd_same⟩ (fun H7 ⟨e7, d7, s7, l7⟩ => ?_)
    refine ⟨_, rfl, Or.inl ⟨rfl, _, SqL.of l7⟩, _, rfl, e, _, d, v, _, _, _, rfl, e7, d7, .own _, xc, T.kit hx (y := "BadJournal") (by decide +kernel), ⟨_, rfl, e, _, d, v, _, _, _, rfl, e7, d7, .own _, xc, T.kit hx (y := "BadLine") (by decide +kernel), ⟨Nat.le_of_ble_eq_true rfl, fun b hb => ?_⟩⟩⟩
    refine ⟨l, b, _, _, rfl, rfl, new_keep l7 hb, upd_same, Nat.le_of_ble_eq_true rfl, ?_⟩
    refine gen_heap (fun Hf => Hf e = some (ExV (He.ga K x) d e) ∧ Hf d = some (xdV v) ∧ Same H Hf ∧ Hf l = some (.lst ((["BadHall", "NoPerson", "Alone", "BadEvent", "BadTimeline", "BadSaying", "BadSayings", "Full", "NoSaying", "OtherHall", "BadCases", "NoTimeline", "BadClaim", "BadNumber", "BadOrder", "BadOffers", "BadWishes", "Contrary", "NothingToUndo", "NothingToRedo", "NoTrial", "BadJournal", "BadLine"] : List Str).map (markV x)))) ⟨wr_keep (new_keep e7 hb) nel, wr_keep (new_keep d7 hb) ndl, fun c o z => wr_keep (new_keep (s7 c o z) hb) (ne_of_none z hl), upd_same⟩ (fun H8 ⟨e8, d8, s8, l8⟩ => ?_)
    exact ⟨_, rfl, kk l H8 s8 l8⟩
end
end Q

open PySem PySem.Spec PyProof.Rows L2 MT
local macro_rules | `(tactic| walk_at "v") => `(tactic| refine ⟨_, rfl, ?_⟩)
local macro_rules | `(tactic| walk_at "i") => `(tactic| refine ⟨_, _, rfl, rfl, ?_⟩)
local macro_rules | `(tactic| walk_at "vs") => `(tactic| repeat (first | refine ⟨_, rfl, ?_⟩ | refine ⟨_, _, rfl, rfl, ?_⟩))

namespace Q
def wraps : List PyData := odds ++ (odds.map fun d => .tuple [d, .int 3]) ++ (odds.map fun d => .list [d]) ++ odds.map fun d => .dict [(.str "a", d)]
def fineB (d : PyData) : Bool := d.showable && (Nat.ble d.shown.length 1000 && Nat.ble d.depth 60)
theorem wraps_fine : wraps.all fineB = true := by decide +kernel
theorem fine {d : PyData} (h : d ∈ wraps) : d.showable = true ∧ d.shown.length ≤ sizeLine ∧ d.depth ≤ 60 := by
  obtain ⟨a, b⟩ := He.ba (List.all_eq_true.mp wraps_fine d h)
  obtain ⟨b, c⟩ := He.ba b
  exact ⟨a, Nat.le_trans (Nat.le_of_ble_eq_true b) (by decide), Nat.le_of_ble_eq_true c⟩
theorem in_w1 {d : PyData} (h : d ∈ odds) : d ∈ wraps := List.mem_append_left _ (List.mem_append_left _ (List.mem_append_left _ h))
theorem in_w2 {d : PyData} (h : d ∈ odds) : PyData.tuple [d, .int 3] ∈ wraps := List.mem_append_left _ (List.mem_append_left _ (List.mem_append_right _ (List.mem_map_of_mem h)))
theorem in_w3 {d : PyData} (h : d ∈ odds) : PyData.list [d] ∈ wraps := List.mem_append_left _ (List.mem_append_right _ (List.mem_map_of_mem h))
theorem in_w4 {d : PyData} (h : d ∈ odds) : PyData.dict [(.str "a", d)] ∈ wraps := List.mem_append_right _ (List.mem_map_of_mem h)
def sp_right (K : PySem.W.Frag) : Sp := fun vs H Q _ => ∃ (p : Addr) (c : Nat), vs = [.ref p] ∧ Pot H p c ∧ c ≤ 1000 ∧ ∀ H', SameBut p H H' → Q (.bl true) H'
theorem Paired.getR {α β : Type} {F : α → β → Prop} : ∀ {a : List α} {b : List β} {i : Nat} {y : β}, Paired F a b → b[i]? = some y → ∃ x, a[i]? = some x ∧ F x y
  | _, _, i, y, .nil, e => by simp at e
  | _, _, 0, y, .cons r _, e => by simp at e; subst e; exact ⟨_, rfl, r⟩
  | _, _, i + 1, y, .cons _ t, e => by
    obtain ⟨x, h1, h2⟩ := Paired.getR (i := i) (y := y) t (by simpa using e)
    exact ⟨x, by simpa using h1, h2⟩
theorem names_err : ∀ x ∈ names00, x ∈ errs := by decide +kernel
theorem names_nd : names00.Nodup := by decide +kernel
theorem names_ne : ∀ x ∈ names00, ¬ x = mE := by decide +kernel
def marksB (nm : Str) : List Bool := names00.map fun y => decide (y = nm) || decide (y = mE)
def spotB (i : Nat) : List Bool := (List.range 23).map fun j => decide ((i : Int) = 0 + (j : Nat))
theorem marks_spot : ((List.range 23).all fun i => decide (marksB (names00.getD i "") = spotB i)) = true := by decide +kernel
theorem marks_none : (marksB mE).any id = false := by decide +kernel
theorem marks_at {i : Nat} {nm : Str} (h : names00[i]? = some nm) : marksB nm = spotB i := by
  have hi : i < 23 := (List.getElem?_eq_some_iff.mp h).1
  have e := of_decide_eq_true (List.all_eq_true.mp marks_spot i (List.mem_range.mpr hi))
  rw [List.getD_eq_getElem?_getD, h] at e
  exact e
theorem dp_bools {K : PySem.W.Frag} {H : Hp} : ∀ bs : List Bool, DpAll K H (bs.map V.bl) (bs.map PyData.bool)
  | [] => .nil
  | b :: r => .cons (.bl b) (dp_bools r)
theorem shaped_all : ((List.range 23).all fun i => SeqAt.shaped (.list ((spotB i).map .bool))) = true := by decide +kernel
theorem shaped_spot {i : Nat} (h : i < 23) : SeqAt.shaped (.list ((spotB i).map .bool)) = true := List.all_eq_true.mp shaped_all i (List.mem_range.mpr h)
section
variable {w : World} {K : PySem.W.Frag} {mg : Str → Option Value} {base : Heap}
theorem ok_right (T : Tx K mg) : OkG PRG w K mg base CX0 4 "_law_right" ["_law_pot_here"] [] (sp_right K) := by
  have O_l_of := ok_of (P := PRG) (w := w) (base := base) T
  have O_l_odd := ok_odd (P := PRG) (w := w) (base := base) T
  have O_l_made := ok_made (w := w) (base := base) T
  have O_l_marks := ok_marks (w := w) (base := base) T
  obtain ⟨fd, F⟩ := T.f_l_right
  refine ⟨⟨fd, [], fnG_ok F sc_l_right (fun vs H Q E h => ?_) (fun cdv A outer s H vs Q E hG hr h => ?_), F.bindsN fun _ _ _ _ _ _ us hl => match us, hl with | [_], _ => rfl, .nil⟩, F.kp, T.g_l_right⟩
  · obtain ⟨p, c, rfl, _⟩ := h; rfl
  · obtain ⟨p, c, rfl, hP, hc, kk⟩ := h
    refine ⟨_, PSs.nox (pss_cons (ps_set (i := 1) sc_l_right.nd rfl (Or.inl rfl) (pe_callO O_l_of (hr.mono (by decide)) rfl pass0 (pa_cons (pv 0) (pa_cons (pe_lst (pa_cons (pe_callO O_l_odd (hr.mono (by decide)) rfl pass0 (pa_cons (pv 0) pa_nil)) (pa_cons (pe_tup (pa_cons (pe_callO O_l_odd (hr.mono (by decide)) rfl pass0 (pa_cons (pv 0) pa_nil)) (pa_cons pe_int pa_nil))) (pa_cons (pe_lst (pa_cons (pe_callO O_l_odd (hr.mono (by decide)) rfl pass0 (pa_cons (pv 0) pa_nil)) pa_nil)) (pa_cons (pe_disp (pps_cons pe_str (pe_callO O_l_odd (hr.mono (by decide)) rfl pass0 (pa_cons (pv 0) pa_nil)) pps_nil) (by rfl) (by rfl) (fun z => by cases z) (by decide)) pa_nil))))) pa_nil))))
      (pss_cons (ps_set (i := 2) sc_l_right.nd rfl (Or.inl rfl) (pe_callO O_l_made (hr.mono (by decide)) rfl pass0 (pa_cons (pv 1) pa_nil)))
      (pss_cons (ps_for PassesOwn.never rfl (pi_enum (by rfl) T.n_enumerate (pa_cons (pv 2) pa_nil)) (pg_tup rfl (pgs_cons (pg_name (i := 3) sc_l_right.nd rfl (Or.inr rfl)) (pgs_cons (pg_name (i := 4) sc_l_right.nd rfl (Or.inl rfl)) pgs_nil))) (pss_cons (ps_if (PW.pt (pw_or (pt_not (pt_val (pe_callB call_isV (by rfl) T.n_isinstance (by decide +kernel) (pa_cons (pv 4) (pa_cons (pe_obj rfl T.g_MeetError) pa_nil))))) (pw_or1 (pt_not (pt_val (pe_callB call_isV (by rfl) T.n_isinstance (by decide +kernel) (pa_cons (pv 4) (pa_cons (pe_bty (n := "ValueError") (by rfl) T.n_ValueError (by decide +kernel)) pa_nil)))))))) (pss_one (ps_ret pe_bl)) pss_nil)
      (pss_one (ps_if (PW.pt (pw_or (pt_cmpR op_ne (pe_callB (call_reprD T.sys hG hr) (by rfl) T.n_repr (by decide +kernel) (pa_cons (pe_errF (D := atD K) (fI := atI0 K) (pv 4)) pa_nil)) (pe_callB (call_reprD T.sys hG hr) (by rfl) T.n_repr (by decide +kernel) (pa_cons (pv 1) pa_nil)) (nomark _)) (pw_or1 (pt_cmpR (op_neD hr.units) (pe_callO O_l_marks (hr.mono (by decide)) rfl pass0 (pa_cons (pv 4) pa_nil)) (pe_lc (own := [("_law_place", 5)]) (g := (gName 5)) (by rfl) sc_l_right.nd (pi_range1 (by rfl) T.n_range (pa_cons (pe_callB call_len (by rfl) T.n_len (by decide +kernel) (pa_cons (pv 2) pa_nil)) pa_nil)) (blkOk_by (N := N_l_right) (sc := defScope s_l_right) (by decide +kernel)) (fun _ _ _ _ _ => (pg_name (i := 5) sc_l_right.nd rfl (Or.inl rfl))) (fun _ _ _ _ _ => pts_nil) (fun _ _ _ _ _ => (pe_cmpR op_eq (pv 3) (pv 5) (nomark _)))) (nomark _))))) (pss_one (ps_ret pe_bl)) pss_nil))))
      (pss_cons (ps_set (i := 6) sc_l_right.nd rfl (Or.inl rfl) (pe_errV T.init T.e_MeetError.1 T.g_MeetError hr rfl (pa_cons (pv 1) pa_nil)))
      (pss_one (ps_ret (pe_and (pe_cmpR op_eq (pe_callB (call_reprD T.sys hG hr) (by rfl) T.n_repr (by decide +kernel) (pa_cons (pe_errF (D := atD K) (fI := atI0 K) (pv 6)) pa_nil)) (pe_callB (call_reprD T.sys hG hr) (by rfl) T.n_repr (by decide +kernel) (pa_cons (pv 1) pa_nil)) (nomark _)) (pe_and (pe_callB call_isV (by rfl) T.n_isinstance (by decide +kernel) (pa_cons (pv 6) (pa_cons (pe_bty (n := "ValueError") (by rfl) T.n_ValueError (by decide +kernel)) pa_nil))) (pe_one (pe_not (pe_callB (cr_any rfl) (by rfl) T.n_any (by decide +kernel) (pa_cons (pe_callO O_l_marks (hr.mono (by decide)) rfl pass0 (pa_cons (pv 6) pa_nil)) pa_nil)))))))))))), ?_⟩
    have np : ∀ {t : Addr} {H' : Hp} {c' : Nat}, Pot H' p c' → H' t = none → t ≠ p := fun {t H' c'} hQ n z => by
      obtain ⟨a, b, k, hp, _⟩ := hQ
      rw [z, hp] at n; cases n
    -- the four values
    refine ⟨_, rfl, _, rfl, p, c, rfl, hP, by omega, fun x1 H1 v1 m1 D1 b1 P1 => ?_⟩
    refine ⟨_, rfl, p, _, rfl, P1, by omega, fun x2 H2 v2 m2 D2 b2 P2 => ⟨Nat.le_of_ble_eq_true rfl, fun t nt => ?_⟩⟩
    have ntp : t ≠ p := np P2 nt
    refine ⟨_, rfl, p, _, rfl, P2.same (same_new nt), by omega, fun x3 H3 v3 m3 D3 b3 P3 => ⟨Nat.le_of_ble_eq_true rfl, fun l nl => ?_⟩⟩
    have nlp : l ≠ p := np P3 nl
    refine fun dd nd => ?_
    have ndp : dd ≠ p := np (P3.same (same_new nl)) nd
    refine ⟨_, rfl, p, _, rfl, (P3.same (same_new nl)).same (same_new nd), by omega, fun x4 H4 v4 m4 D4 b4 P4 => ?_⟩
    refine ⟨b4 _ _ ndp upd_same, [(Sum.inr "a", x4)], rfl, Nat.le_of_ble_eq_true rfl, Nat.le_of_ble_eq_true rfl, fun L nL => ?_⟩
    have P4d : Pot (upd H4 dd (.dK (mergeK [] [(Sum.inr "a", x4)]))) p (c + 1 + 1 + 1 + 1) := let ⟨a, b, k, hp, r⟩ := P4; ⟨a, b, k, wr_keep hp (Ne.symm ndp), r⟩
    have nLp : L ≠ p := np P4d nL
    have kq : ∀ b o, b ≠ p → b ≠ dd → H4 b = some o → (upd (upd H4 dd (.dK (mergeK [] [(Sum.inr "a", x4)]))) L (.lst [x1, .ref t, .ref l, .ref dd])) b = some o := fun b o n1 n2 h => new_keep (wr_keep h n2) nL
    have k3 : ∀ b o, b ≠ p → (upd H3 l (.lst [x3])) b = some o → (upd (upd H4 dd (.dK (mergeK [] [(Sum.inr "a", x4)]))) L (.lst [x1, .ref t, .ref l, .ref dd])) b = some o := fun b o n1 h => kq b o n1 (ne_of_none h nd) (b4 _ _ n1 (new_keep h nd))
    refine ⟨p, L, _, _, rfl, P4d.same (same_new nL), by omega, SqL.of upd_same, nLp, Nat.le_of_ble_eq_true rfl, Nat.le_of_ble_eq_true rfl, fun x H5 hx b5 P5 => ?_⟩
    have val : ∃ d, d ∈ wraps ∧ Da K H5 x d := by
      have off : ∀ {Ha : Hp} {c' : Nat}, Pot Ha p c' → ∀ b, Ha b = none → b ≠ p := fun hQ b n => np hQ n
      have E1 : Da K H5 x1 v1 := D1.same (fresh_to fun b o n h => by
        have nb := off hP b n
        exact b5 _ _ nb (k3 _ _ nb (new_keep (b3 _ _ nb (new_keep (b2 _ _ nb h) nt)) nl)))
      have E2 : Da K H5 x2 v2 := D2.same (fresh_to fun b o n h => by
        have nb := off P1 b n
        exact b5 _ _ nb (k3 _ _ nb (new_keep (b3 _ _ nb (new_keep h nt)) nl)))
      have E3 : Da K H5 x3 v3 := D3.same (fresh_to fun b o n h => by
        have nb := off (P2.same (same_new nt)) b n
        exact b5 _ _ nb (k3 _ _ nb (new_keep h nl)))
      have E4 : Da K H5 x4 v4 := D4.same (fresh_to fun b o n h => by
        have nb := off ((P3.same (same_new nl)).same (same_new nd)) b n
        have nb2 : b ≠ dd := fun z => by rw [z, upd_same] at n; cases n
        exact b5 _ _ nb (kq _ _ nb nb2 h))
      simp only [List.mem_cons, List.not_mem_nil, or_false] at hx
      rcases hx with rfl | rfl | rfl | rfl
      · exact ⟨v1, in_w1 m1, E1⟩
      · exact ⟨_, in_w2 m2, .tup (SqT.of (b5 _ _ ntp (k3 _ _ ntp (new_keep (b3 _ _ ntp upd_same) nl)))) (.cons E2 (.cons (.int 3) .nil))⟩
      · exact ⟨_, in_w3 m3, .lst (SqL.of (b5 _ _ nlp (k3 _ _ nlp upd_same))) (.cons E3 .nil)⟩
      · exact ⟨_, in_w4 m4, .dict (kvs := [(Sum.inr "a", x4)]) (b5 _ _ ndp (new_keep upd_same nL)) (.cons E4 .nil)⟩
    have B5 : SameBut p H H5 := fun b o n h => b5 _ _ n (k3 _ _ n (new_keep (b3 _ _ n (new_keep (b2 _ _ n (b1 _ _ n h)) nt)) nl))
    obtain ⟨dv, hw, D5⟩ := val
    obtain ⟨f1, f2, f3⟩ := fine hw
    -- the errors
    refine ⟨_, rfl, x, rfl, fun lm us H6 s6 hl he => ?_⟩
    have len : us.length = 23 := (Paired.length he).symm
    -- for spot, error in enumerate(made_here)
    refine ⟨_, rfl, lm, us, rfl, SqL.of hl, for_it (n := us.length) (walk_enum (K := K) (a := lm) (xs := us)) (fun i σ H' => (∃ s1 s2 : Option V, σ = [some (.ref p), some x, some (.ref lm), s1, s2, none, none]) ∧ Same H6 H') ⟨⟨none, none, rfl⟩, Same.refl _⟩ (fun i σ H' _ ⟨_, q⟩ => SqL.of (q _ _ hl)) ?_ ?_⟩
    · rintro i y σ H' H'' hi ⟨⟨s1, s2, rfl⟩, q⟩ ⟨t2, y1, y2, rfl, n2, rfl, e1, e2⟩
      cases e1
      refine ⟨t2, _, rfl, SqT.of upd_same, rfl, _, _, rfl, _, _, rfl, rfl, ?_⟩
      obtain ⟨nm, hnm, e, d, rfl, he', hd'⟩ := Paired.getR he e2
      have hx := names_err nm (List.mem_of_getElem? hnm)
      have q2 : Same H6 (upd H' t2 (.tup [.int i, .ref e])) := MT.Same.new q n2
      have he2 := q2 _ _ he'
      have hd2 := q2 _ _ hd'
      have kM : PySem.W.kitOne K (.ref (He.ga K nm)) (.ref (He.ga K "MeetError")) = some true := by
        rw [T.kit hx (y := "MeetError") (by decide +kernel)]
        simp [mE]
      refine ⟨_, rfl, e, _, d, x, _, _, _, rfl, he2, hd2, .own _, (T.err hx).2, kM, _, rfl, ?_⟩
      refine iteF ?_
      refine ⟨_, rfl, e, _, d, x, _, _, _, rfl, he2, hd2, .ty _, (T.err hx).2, T.kitv hx, _, rfl, ?_⟩
      refine iteF ?_
      -- repr(error.value) != repr(value)
      refine ⟨_, rfl, e, _, d, x, rfl, he2, hd2, (T.err hx).1, x, dv, rfl, (D5.same s6).same q2, f1, f2, f3, _, rfl, x, dv, rfl, (D5.same s6).same q2, f1, f2, f3, rfl, _, rfl, ?_⟩
      refine iteNS rfl ?_
      -- marks(error) != [..]
      refine ⟨_, rfl, _, nm, x, rfl, hx, ⟨e, d, rfl, he2, hd2⟩, fun lk H7 s7 hk => ?_⟩
      refine ⟨_, rfl, _, _, rfl, Or.inl ⟨_, SqL.of (s7 _ _ (q2 _ _ hl)), rfl⟩, _, rfl, by omega, by omega, fun D nD => ?_⟩
      refine lc_go (n := us.length) (w := walk_range) (fun j ys Hc => Same H7 (hid D Hc) ∧ ys = ((List.range j).map fun k => decide ((i : Int) = 0 + (k : Nat))).map V.bl) (by omega) ?_ ?_ ?_ ?_ ?_
      · exact ⟨same_hid nD, rfl⟩
      · intro j ys Hc zs _ ⟨a1, a2⟩
        exact ⟨by rw [hid_upd]; exact a1, a2⟩
      · exact fun _ _ _ _ _ => trivial
      · rintro j y ys Hc Hd hj ⟨a1, a2⟩ hD hlj ⟨rfl, rfl⟩ Add Skip ha hs
        refine ⟨rfl, ?_⟩
        refine ⟨_, rfl, _, rfl, rfl, ?_⟩
        refine ha _ _ ⟨a1, ?_⟩ hD
        rw [a2, List.range_succ, List.map_append, List.map_append, dec_ints]
        rfl
      · rintro ys Hc ⟨a1, a2⟩ hD
        have a3 : Same H7 Hc := a1.trans (hid_same _ _)
        rw [len] at a2
        refine ⟨.list ((marksB nm).map .bool), .list ((spotB i).map .bool), .lst (SqL.of (a3 _ _ hk)) ?_, .lst (SqL.of hD) ?_, ?_, ?_, _, rfl, ?_⟩
        · have e : names00.map (markV nm) = (marksB nm).map V.bl := by unfold marksB; rw [List.map_map]; rfl
          rw [e]
          exact dp_bools _
        · rw [a2]
          exact dp_bools _
        · rw [marks_at hnm]; exact shaped_spot (by omega)
        · exact shaped_spot (by omega)
        · rw [marks_at hnm, SeqAt.eqv_refl _ (SeqAt.canLay_of_shaped (shaped_spot (by omega)))]
          refine iteF ?_
          exact ⟨⟨_, _, rfl⟩, (q2.trans s7).trans a3⟩
    · rintro σ H' ⟨⟨s1, s2, rfl⟩, q⟩
      -- base = MeetError(value)
      refine ⟨_, rfl, x, rfl, fun d nd e ne => ?_⟩
      have hx : ("MeetError" : Str) ∈ errs := by decide +kernel
      have q2 : Same H6 (upd (upd H' d (xdV x)) e (ExV (He.ga K "MeetError") d e)) := MT.Same.new (MT.Same.new q nd) ne
      have he2 : (upd (upd H' d (xdV x)) e (ExV (He.ga K "MeetError") d e)) e = some (ExV (He.ga K "MeetError") d e) := upd_same
      have hd2 : (upd (upd H' d (xdV x)) e (ExV (He.ga K "MeetError") d e)) d = some (xdV x) := new_keep upd_same ne
      refine ⟨_, rfl, e, _, d, x, rfl, he2, hd2, (T.err hx).1, x, dv, rfl, (D5.same s6).same q2, f1, f2, f3, _, rfl, x, dv, rfl, (D5.same s6).same q2, f1, f2, f3, rfl, _, rfl, ?_⟩
      rw [decide_eq_true rfl]
      refine iteT ?_
      refine ⟨_, rfl, e, _, d, x, _, _, _, rfl, he2, hd2, .ty _, (T.err hx).2, T.kitv hx, _, rfl, ?_⟩
      refine iteT ?_
      refine ⟨_, rfl, _, "MeetError", x, rfl, hx, ⟨e, d, rfl, he2, hd2⟩, fun lk H7 s7 hk => ?_⟩
      refine ⟨lk, marksB mE, rfl, SqL.of (by rw [hk]; unfold marksB; rw [List.map_map]; rfl), _, rfl, ?_⟩
      rw [marks_none]
      exact kk H7 (B5.trans (SameBut.of (s6.trans (q2.trans s7))))
end
end Q

open PySem PySem.Spec PyProof.Rows L2 MT
local macro_rules | `(tactic| walk_at "v") => `(tactic| refine ⟨_, rfl, ?_⟩)
local macro_rules | `(tactic| walk_at "i") => `(tactic| refine ⟨_, _, rfl, rfl, ?_⟩)
local macro_rules | `(tactic| walk_at "vs") => `(tactic| repeat (first | refine ⟨_, rfl, ?_⟩ | refine ⟨_, _, rfl, rfl, ?_⟩))

namespace Q
def sp_law (K : PySem.W.Frag) : Sp := fun vs H Q _ => ∃ (a : Addr) (ns : List Int), vs = [.ref a] ∧ SqL K H a (ns.map V.int) ∧ ∀ H', Q (.bl true) H'
section
variable {w : World} {K : PySem.W.Frag} {mg : Str → Option Value} {base : Heap}
theorem ok_law {fd : FuncData} (F : FunD K "law" "law" (defArgs s_law) (defBody s_law) (defScope s_law) [] [] (He.fAd K ("law", none)) fd) (T : Tx K mg) : FnOkG PRG w K mg base CX0 5 (He.ga K "law") fd ["_law_script"] (sp_law K) := by
  have O_l_right := ok_right (w := w) (base := base) T
  have O_l_pot := ok_pot (P := PRG) (w := w) (base := base) T
  have O_l_places := ok_places (P := PRG) (w := w) (base := base) T
  refine fnG_ok F sc_law (fun vs H Q E h => ?_) (fun cdv A outer s H vs Q E hG hr h => ?_)
  · obtain ⟨a, ns, rfl, _⟩ := h; rfl
  · obtain ⟨a, ns, rfl, hS, kk⟩ := h
    refine ⟨_, PSs.nox (pss_one (ps_ret (pe_callB (cr_all rfl) (by rfl) T.n_all (by decide +kernel) (pa_cons (pe_lc (own := [("_law_place", 1)]) (g := (gName 1)) (by rfl) sc_law.nd (pi_list (pe_callO O_l_places (hr.mono (by decide)) rfl pass0 (pa_cons (pv 0) (pa_cons pe_int pa_nil)))) (blkOk_by (N := N_law) (sc := defScope s_law) (by decide +kernel)) (fun _ _ _ _ _ => (pg_name (i := 1) sc_law.nd rfl (Or.inl rfl))) (fun _ _ _ _ _ => pts_nil) (fun _ _ _ _ _ => (pe_callG O_l_right hG (hr.mono (by decide)) rfl pass0 (pa_cons (pe_callO O_l_pot (hr.mono (by decide)) rfl pass0 (pa_cons (pv 0) (pa_cons (pv 1) pa_nil))) pa_nil)))) pa_nil)))), ?_⟩
    refine ⟨_, rfl, a, ns, 4, rfl, hS, by decide, by decide, fun l n hl hn => ?_⟩
    have hS1 : ∀ {Hx : Hp}, Same H Hx → SqL K Hx a (ns.map V.int) := fun s1 => s1.seq hS
    refine ⟨l, rfl, ⟨_, SqL.of upd_same⟩, fun D nD => ?_⟩
    refine lc_go (n := (rgV 0 n).length) (w := walk_list (K := K) (a := l) (xs := rgV 0 n)) (fun j ys Hc => Same (upd H l (.lst (rgV 0 n))) (hid D Hc) ∧ ys = (List.replicate j true).map V.bl) (by rw [rgV_length]; omega) ⟨same_hid nD, rfl⟩ ?_ ?_ ?_ ?_
    · intro j ys Hc zs _ ⟨a1, a2⟩
      exact ⟨by rw [hid_upd]; exact a1, a2⟩
    · intro j ys Hc _ ⟨a1, _⟩
      exact SqL.of (hid_same _ _ _ _ (a1 _ _ upd_same))
    · rintro j y ys Hc Hd hj ⟨a1, a2⟩ hD hlj ⟨rfl, hy⟩ Add Skip ha hs
      have hj2 : j < (0 + (n : Int) - 0).toNat := by rw [rgV_length] at hj; omega
      obtain rfl : y = V.int (j : Nat) := by
        unfold rgV at hy
        rw [List.getElem?_map, List.getElem?_range (by omega)] at hy
        have z := Option.some.inj hy
        rw [← z]
        dsimp only
        rw [Int.zero_add]
      have s0 : Same H Hd := ((same_new hl).trans a1).trans (hid_same _ _)
      refine ⟨rfl, ?_⟩
      refine ⟨_, rfl, _, rfl, a, ns, j, rfl, hS1 s0, by omega, fun p H1 np s1 P1 => ?_⟩
      refine ⟨p, 0, rfl, P1, by decide, fun H2 b2 => ?_⟩
      have s2 : Same Hd H2 := fun b o h => b2 b o (ne_of_none h np) (s1 b o h)
      refine ha _ _ ⟨fun b o h => ?_, ?_⟩ (s2 _ _ hD)
      · have nb : b ≠ D := ne_of_none h nD
        exact hid_at nb (s2 _ _ (hid_same _ _ _ _ (a1 b o h)))
      · rw [a2, List.replicate_succ', List.map_append]
        rfl
    · rintro ys Hc ⟨a1, a2⟩ hD
      refine ⟨D, List.replicate (rgV 0 n).length true, rfl, SqL.of (by rw [hD, a2]), ?_⟩
      have e : (List.replicate (rgV 0 n).length true).all id = true := by simp
      rw [e]
      exact kk Hc
end
end Q

open PySem PySem.Spec PyProof.Rows L2 MT
local macro_rules | `(tactic| walk_at "v") => `(tactic| refine ⟨_, rfl, ?_⟩)
local macro_rules | `(tactic| walk_at "i") => `(tactic| refine ⟨_, _, rfl, rfl, ?_⟩)
local macro_rules | `(tactic| walk_at "vs") => `(tactic| repeat (first | refine ⟨_, rfl, ?_⟩ | refine ⟨_, _, rfl, rfl, ?_⟩))

namespace Q
/-! ### the head -/
abbrev R : PySem.W.OpenRow := PySem.W.OpenLaw.row PySem.Challenge.rw_metonce_k00_errors_keep_their_values
abbrev hk : PySem.W.Hook := hookM 5 fa fn exf (fnIv ivK)
def ob (s : PySem.W.SharedT) : AlM := obsM 5 fa fn exf (HandSHeadRun.getT s)
theorem ob_eq (s : PySem.W.SharedT) : ob s = hk.obs s.abs := obsM_eq (HandSHeadRun.getT_eq s)
theorem run (w : World) : HandSHeadRun.RunEq R (PySem.W.view R.prog [lawAt]) hk ob 40000 loose w := by
  intro os
  kernel_rfl
end Q

open PySem PySem.Spec PyProof.Rows L2 MT
local macro_rules | `(tactic| walk_at "v") => `(tactic| refine ⟨_, rfl, ?_⟩)
local macro_rules | `(tactic| walk_at "i") => `(tactic| refine ⟨_, _, rfl, rfl, ?_⟩)
local macro_rules | `(tactic| walk_at "vs") => `(tactic| repeat (first | refine ⟨_, rfl, ?_⟩ | refine ⟨_, _, rfl, rfl, ?_⟩))

namespace Q
theorem facts {w : World} {K : PySem.W.Frag} {h : Heap} {mg : Str → Option Value} {f : Addr} (X : K.In h) (G : h.Ns mainGlobals mg) (hfa : mg ("law" : Str) = some (.ref f)) (c : SaysM fa fn exf (fnIv ivK) K) :
    ∃ fd : FuncData, (∀ (s : Shared) (v : Value), BindsTo s fd ⟨[v], []⟩ [("_law_script", v)]) ∧ ∀ base : Heap, K.In base → base.Ns mainGlobals mg → FnOkG PRG w K mg base CX0 5 f fd ["_law_script"] (sp_law K) := by
  have T : Tx K mg := ⟨c, h, X, G⟩
  have e := hfa.symm.trans T.g_law
  cases e
  obtain ⟨fd, F⟩ := T.f_law
  refine ⟨fd, fun s u => F.bindsA (ps := ["_law_script"]) (fun _ _ _ _ _ _ us hl => match us, hl with | [_], _ => rfl) s [u] rfl, fun base _ _ => ok_law F T⟩
end Q
open PySem PySem.W PySem.Calls PyProof.Rows
set_option maxRecDepth 100000 in
set_option maxHeartbeats 0 in
theorem PySem.Challenge.cw_metonce_k00_errors_keep_their_values_holds : PySem.Challenge.rw_metonce_k00_errors_keep_their_values.Holds := by
  w_on; o_law
  refine HandSHeadRun.head_any (r := OpenLaw.row PySem.Challenge.rw_metonce_k00_errors_keep_their_values) (q := view (OpenLaw.row PySem.Challenge.rw_metonce_k00_errors_keep_their_values).prog [Q.lawAt]) (H := Q.hk) (ob := Q.ob) (M := 40000) (loose := Q.loose) (d := HandSHeadRun.topDef (OpenLaw.row PySem.Challenge.rw_metonce_k00_errors_keep_their_values).prog Q.lawAt) (kwd := []) Q.ob_eq
    (by kernel_rfl) (fun s => by kernel_rfl) Q.run (by kernel_rfl) (by kernel_rfl) (by kernel_rfl) (by rfl) (by first | assumption | decide +kernel) (by decide +kernel) ⟨rfl, rfl, rfl, rfl, rfl, by decide +kernel⟩ ?hw ?hc
  case hw => w_witness2
  case hc =>
    refine MT.walk_ofG (l := PySem.Challenge.rw_metonce_k00_errors_keep_their_values) (n := 63) (k := 5) (x := "_law_script") (CX := L2.CX0) rfl (by decide) (by kernel_rfl) ⟨rfl, by decide, by decide⟩ ?F (fun _ _ _ _ z => z)
    intro w mg fa h Y G hmg0
    obtain ⟨K, KX, c⟩ := Y
    have hmg : mg ("law" : PySem.Str) = some (.ref fa) := by
      have e : (HandSHeadRun.topDef (OpenLaw.row PySem.Challenge.rw_metonce_k00_errors_keep_their_values).prog Q.lawAt).name = ("law" : PySem.Str) := by kernel_rfl
      rw [← e]
      exact hmg0
    obtain ⟨fd, hb, hF⟩ := Q.facts (w := w) KX G hmg c
    exact ⟨K, fd, Q.sp_law K, KX, hb, fun H a ns hl _ hS => ⟨a, ns, rfl, hS, fun _ => rfl⟩, hF⟩
#print axioms PySem.Challenge.cw_metonce_k00_errors_keep_their_values_holds
