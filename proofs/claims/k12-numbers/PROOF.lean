import PyProof.Rows.All
import Wide.All
import OpenK.AllK
import Wide.FinOn
import HandS.ForMost
import HandS.Exc
import HandS.ExcOwn
import HandS.TryOnly
import HandS.WordsExc
import HandS.Style
import HandS.Conv
import HandS.IsInst
import HandS.TupAny
import HandS.TupMul
import HandS.Wide
import HandS.WideMore
import HandS.Zip
import HandS.Finally
import HandS.FStr
import HandS.Evl
import HandS.ClsMeth
import HandS.Head0
import HandS.Head1
import HandS.Head2
import HandS.HeadEnd
import HandS.HeadHook1
import HandS.HeadHook2
import HandS.HeadHook4
import HandS.EndTab
import HandS.Lambda
import HandS.ExcIs
import HandS.ExcInit
import HandS.Defaults
import HandS.DictComp
import HandS.DeepEq
import HandS.OwnEq
import HandS.SortInts
import PySem.Challenge.RW_sameshown_k12_numbers_and_signs_refused
set_option Elab.async false
set_option linter.all false
set_option maxRecDepth 100000
set_option maxHeartbeats 400000
local macro_rules | `(tactic| walk_at "n") => `(tactic| (first | omega | decide | (dsimp only; omega) | (dsimp only; decide)))

namespace Co
open PySem PySem.Spec PyProof.Rows L2
/-! ### rules for constants of the module, operators in place -/
section
variable {X : Cx}
theorem pe_gi {x : Str} {i : Int} {pos : Pos} (hg : Gl X x) (hm : ∃ t, X.mg x = some (.int i t)) (hd : (x == ("__debug__" : Str)) = false := by decide) : PE X (.Name x pos) (tC (.int i)) := by
  obtain ⟨t, e⟩ := hm
  exact pe_glob hg e ⟨t, rfl⟩ hd
theorem pe_gs {x z : Str} {pos : Pos} (hg : Gl X x) (hm : ∃ t, X.mg x = some (.str z t)) (hd : (x == ("__debug__" : Str)) = false := by decide) : PE X (.Name x pos) (tC (.str z)) := by
  obtain ⟨t, e⟩ := hm
  exact pe_glob hg e ⟨t, rfl⟩ hd
theorem ipR {op : Operator} {r : R2} (h : OpR X (inplaceOp op) r) : PIp X op r := fun pins s σ H x y v u Q I rx ry q => h pins s σ H x y v u Q I rx ry q
theorem inR {op : Operator} {r : R2} (h : OpR X (inplaceOp op) r) : InOp X op r := fun pins s σ H x y v u Q I rx ry q => h pins s σ H x y v u Q I rx ry q
end
/-! ### C.f(e, ..), C a class of the text, f a def of its body -/
/-- what is asked of the class and the def -/
structure ClF (K : PySem.W.Frag) (C f : Addr) (m : Str) : Prop where
  rd : ∃ mc, ClX.CRead K C mc ∧ ClX.CVal K C mc m (.ref f) (.ref f)
  kp : PySem.W.keepIn K (.ref f) = true
def clfB (K : PySem.W.Frag) (C f : Addr) (m : Str) : Bool :=
  PySem.W.readsIn K C (.type "type") && (decide (PySem.W.specialIn K (.ref C) "__getattribute__" = some (some (.builtin "type.__getattribute__"))) &&
    ((match PySem.W.findCls K (.ref C) (.type "type") m with
      | some (.val (.ref g)) => decide (g = f)
      | _ => false) && PySem.W.keepIn K (.ref f)))
theorem clf_of {K : PySem.W.Frag} {C f : Addr} {m : Str} (h : clfB K C f m = true) : ClF K C f m := by
  unfold clfB at h
  simp only [Bool.and_eq_true] at h
  obtain ⟨h1, h2, h3, h4⟩ := h
  refine ⟨⟨.type "type", ⟨h1, of_decide_eq_true h2⟩, ⟨?_, rfl⟩⟩, h4⟩
  split at h3
  · rename_i g e
    rw [e, of_decide_eq_true h3]
  · cases h3
section
variable {X : Cx} {CX : CXT} {k : Nat} {f C : Addr} {fd : FuncData} {ps : List Str} {sp : Sp} {dvs : List V} {ds : List Value} {E : XK} {x m : Str} {np pos apos : Pos} {e : Expr} {es : List Expr} {t : TA}
theorem pe_clsf {pl : Sem Bool} (c : ClF X.K C f m) (F : FnOk X.prog X.w X.K X.mg X.base CX k f fd ps sp) (hr : Room k X.A) (hg : Gl X x) (hm : X.mg x = some (.ref C)) (hb : Binds X.K fd ps ds) (hd : Vals dvs ds) (hx : Passes CX X E)
    (ha : PA X (e :: es) t) (hdb : (x == ("__debug__" : Str)) = false := by decide) (he : starEach (e :: es) X.env = (false, eval e X.env) :: starEach es X.env := by rfl) (hpl : (backTo pos (starEach es X.env)).any (·.1) = false := by rfl)
    (ht : eval (.Call (.Attribute (.Name x np) m apos) (e :: es) [] pos) X.env = (do
      let ov ← eval (.Name x np) X.env
      standAt apos.atName
      let (f, first) ← holding [ov] (getMethod ov m pl)
      callWith pos f first (backTo pos (starEach (e :: es) X.env)) (backToKw pos (keywordEach [] X.env))) := by rfl) :
    PE X (.Call (.Attribute (.Name x np) m apos) (e :: es) [] pos) (tCall sp dvs E t) := by
  refine ⟨fun pins s σ H Q I h => ?_⟩
  obtain ⟨mc, c1, c2⟩ := c.rd
  refine PySem.W.methodCall_KW (pl := pl) (ld_glob I hg hm ?_ hdb) ht
  refine PySem.W.method_cls I.kIn c1.ga (ClX.getcval_ok I c1 c2 fun s1 I1 => ?_)
  refine PySem.W.callWith_K (h₀ := X.base) I1.ok.mod.kin c.kp (thn (ha.run pos pins s1 σ H _ I1 h) fun us s2 ⟨vs, H2, I2, r, q⟩ => ⟨I2.kIn, ?_⟩) he hpl
  exact run_fn F hr hb hd hx I2 r q
end
/-! ### // by any positive divisor -/
/-- what a division that goes by _pylong asks of the ground -/
structure Sr (P : Program) (base : Heap) : Prop where
  see : base.NoSeer
  tree : P.given.tree = none
theorem op_fdivP {X : Cx} (Z : Sr X.prog X.base) (hd : X.A.depth + 100 < recursionLimit) (hs : X.stack = X.env :: X.outer) (hg : X.env.scope.isGenerator = false) (hc : X.env.scope.isCoroutine = false) :
    OpR X (binaryOp .FloorDiv) (rI (fun _ j => 0 < j) fun i j => .int (i / j)) := by
  intro pins s σ H x y u v Q I rx ry h
  obtain ⟨i, j, rfl, rfl, hj, q⟩ := h
  obtain ⟨t, rfl⟩ := (show ∃ t, u = Value.int i t from rx)
  obtain ⟨t', rfl⟩ := (show ∃ t', v = Value.int j t' from ry)
  have hj' : (0 : Int) < j := hj
  refine PyProof.Rows.floordiv_int (by omega) (by rw [Int.fdiv_eq_ediv_of_nonneg i (by omega)]; exact ⟨.int _, H, I.tok _, ⟨_, rfl⟩, q⟩) (.inr (PylongRoom.of I.nolimit hd ?_))
  exact SeerAt.of (env := X.env) (l := X.outer) (Z.see.keeps I.bk) Z.tree (by rw [I.ok.frames, hs]) hg hc I.ok.blt I.ok.glob
/-! ### heaps: all that stood but what is in S stands -/
def Fm (S : List Addr) (H H' : Hp) : Prop := ∀ a o, H a = some o → a ∉ S → H' a = some o
abbrev Ex (H H' : Hp) : Prop := ∀ a o, H a = some o → H' a = some o
theorem Fm.refl (S : List Addr) (H : Hp) : Fm S H H := fun _ _ h _ => h
theorem Ex.rfl' {H : Hp} : Ex H H := fun _ _ h => h
theorem Ex.tr {H H1 H2 : Hp} (a : Ex H H1) (b : Ex H1 H2) : Ex H H2 := fun x o h => b x o (a x o h)
theorem Ex.new {H : Hp} {p : Addr} {o : HO} (h : H p = none) : Ex H (upd H p o) := fun a u e => by
  rw [upd_ne (ne_of_none e h)]
  exact e
/-- a new object may change -/
theorem Ex.mut {H H' : Hp} {p : Addr} {o : HO} (e : Ex H H') (h : H p = none) : Ex H (upd H' p o) := fun a u ha => by
  rw [upd_ne (ne_of_none ha h)]
  exact e a u ha
theorem Ex.back {H H' : Hp} {p : Addr} (e : Ex H H') (h : H' p = none) : H p = none := by
  cases h1 : H p with
  | none => rfl
  | some o =>
    rw [e p o h1] at h
    cases h
theorem Fm.of {S : List Addr} {H H' : Hp} (e : Ex H H') : Fm S H H' := fun a o h _ => e a o h
theorem Fm.tr {S : List Addr} {H H1 H2 : Hp} (a : Fm S H H1) (b : Fm S H1 H2) : Fm S H H2 := fun x o h n => b x o (a x o h n) n
theorem Fm.mono {S S' : List Addr} {H H' : Hp} (a : Fm S H H') (h : ∀ x ∈ S, x ∈ S') : Fm S' H H' := fun x o e n => a x o e fun m => n (h x m)
/-- an object in S, or a new one, changes -/
theorem Fm.mut {S : List Addr} {H H' : Hp} {p : Addr} {o : HO} (e : Fm S H H') (h : H p = none ∨ p ∈ S) : Fm S H (upd H' p o) := fun a u ha n => by
  have : a ≠ p := by
    rintro rfl
    rcases h with h | h
    · rw [h] at ha; cases ha
    · exact n h
  rw [upd_ne this]
  exact e a u ha n
theorem Ex.sql {K : PySem.W.Frag} {H H' : Hp} {a : Addr} {xs : List V} (e : Ex H H') (h : SqL K H a xs) : SqL K H' a xs := Same.seq e h
theorem Ex.sqt {K : PySem.W.Frag} {H H' : Hp} {a : Addr} {xs : List V} (e : Ex H H') (h : SqT K H a xs) : SqT K H' a xs := by
  rcases h with (h | ⟨o, h⟩) | h
  · exact .inl (.inl (e _ _ h))
  · exact .inl (.inr ⟨o, e _ _ h⟩)
  · exact .inr h
theorem SqLof {K : PySem.W.Frag} {H : Hp} {a : Addr} {xs : List V} (h : H a = some (.lst xs)) : SqL K H a xs := .inl (.inl h)
theorem SqTof {K : PySem.W.Frag} {H : Hp} {a : Addr} {xs : List V} (h : H a = some (.tup xs)) : SqT K H a xs := .inl (.inl h)
theorem szl {n : Nat} (h : n ≤ 16000000) : n < sizeLine := Nat.lt_of_le_of_lt h (by decide)
theorem szle {n : Nat} (h : n ≤ 16000000) : n ≤ sizeLine := Nat.le_of_lt (szl h)
theorem tyL {K : PySem.W.Frag} {H : Hp} {a : Addr} {xs : List V} (h : H a = some (.lst xs)) : tyV K "list" (.ref a) H := .inl ⟨rfl, _, .inl (.inl h)⟩
/-! ### numbers and truths among values -/
def isIB : V → Bool
  | .int _ => true
  | .bl _ => true
  | _ => false
def isB : V → Bool
  | .bl _ => true
  | _ => false
/-- what isinstance says of a value, of int and bool -/
def Ty4 (K : PySem.W.Frag) (H : Hp) (x : V) : Prop := ∃ t, TyX K H x t ∧ PySem.W.kitOne K t (.type "int") = some (isIB x) ∧ PySem.W.kitOne K t (.type "bool") = some (isB x)
section
variable {K : PySem.W.Frag} {H : Hp} {a : Addr}
theorem ty4_int (i : Int) : Ty4 K H (.int i) := ⟨_, .base (.int i), kit_ty (r := true) (by decide +kernel), kit_ty (r := false) (by decide +kernel)⟩
theorem ty4_bl (b : Bool) : Ty4 K H (.bl b) := ⟨_, .base (.bl b), kit_ty (r := true) (by decide +kernel), kit_ty (r := true) (by decide +kernel)⟩
theorem ty4_non : Ty4 K H .non := ⟨_, .base .non, kit_ty (r := false) (by decide +kernel), kit_ty (r := false) (by decide +kernel)⟩
theorem ty4_str (x : Str) : Ty4 K H (.str x) := ⟨_, .base (.str x), kit_ty (r := false) (by decide +kernel), kit_ty (r := false) (by decide +kernel)⟩
theorem ty4_lst {xs : List V} (e : H a = some (.lst xs)) : Ty4 K H (.ref a) := ⟨_, .base (.lst e), kit_ty (r := false) (by decide +kernel), kit_ty (r := false) (by decide +kernel)⟩
theorem ty4_tup {xs : List V} (e : H a = some (.tup xs)) : Ty4 K H (.ref a) := ⟨_, .base (.tup e), kit_ty (r := false) (by decide +kernel), kit_ty (r := false) (by decide +kernel)⟩
theorem ty4_dK {xs : List (Key × V)} (e : H a = some (.dK xs)) : Ty4 K H (.ref a) := ⟨_, .base (.dK e), kit_ty (r := false) (by decide +kernel), kit_ty (r := false) (by decide +kernel)⟩
end
/-- a number within bounds -/
def wholeV (x : V) (a b : Int) : Bool := match x with
  | .int i => decide (a ≤ i ∧ i ≤ b)
  | _ => false
/-! ### rows of numbers as data -/
def intsD (ns : List Int) : List PyData := ns.map PyData.int
theorem dp_ints {K : PySem.W.Frag} {H : Hp} : ∀ ns : List Int, DpAll K H (ns.map V.int) (intsD ns)
  | [] => .nil
  | n :: ns => .cons (.int n) (dp_ints ns)
theorem ints_can : ∀ ns : List Int, PyData.canLayAll0 (intsD ns) = true
  | [] => by simp only [intsD, List.map_nil, PyData.canLayAll0]
  | n :: ns => by
    have h := ints_can ns
    unfold intsD at *
    simp only [List.map_cons, PyData.canLayAll0, PyData.canLay0, h, Bool.and_self]
theorem ints_depth : ∀ ns : List Int, PyData.depthAll (intsD ns) = 0
  | [] => by simp only [intsD, List.map_nil, PyData.depthAll]
  | n :: ns => by
    have h := ints_depth ns
    unfold intsD at *
    simp only [List.map_cons, PyData.depthAll, PyData.depth, h, Nat.max_self]
theorem ints_eqv : ∀ ns ms : List Int, PyData.eqvAll (intsD ns) (intsD ms) = decide (ns = ms)
  | [], [] => by simp [intsD, PyData.eqvAll]
  | [], _ :: _ => by simp [intsD, PyData.eqvAll]
  | _ :: _, [] => by simp [intsD, PyData.eqvAll]
  | n :: ns, m :: ms => by
    have h := ints_eqv ns ms
    unfold intsD at *
    simp only [List.map_cons, PyData.eqvAll, PyData.eqv, h]
    by_cases e : n = m
    · by_cases e2 : ns = ms <;> simp [e, e2]
    · simp [e]
theorem ints_shL (ns : List Int) : SeqAt.shaped (.list (intsD ns)) = true := by
  unfold SeqAt.shaped
  simp only [PyData.canLay0, ints_can, PyData.depth, ints_depth]
  decide
theorem ints_shT (ns : List Int) : SeqAt.shaped (.tuple (intsD ns)) = true := by
  unfold SeqAt.shaped
  simp only [PyData.canLay0, ints_can, PyData.depth, ints_depth]
  decide
/-! ### for i, x in enumerate(xs) -/
theorem for_enum {K : PySem.W.Frag} {a : Addr} {xs : List V} {g : TG} {tb : TS} {D : Ends} {σ : L2.St} {H : Hp} (Pv : Nat → L2.St → Hp → Prop) (start : Pv 0 σ H) (stay : ∀ i σ H, Pv i σ H → SqL K H a xs)
    (turn : ∀ (i : Nat) (x : V) (t : Addr) (σ : L2.St) (H : Hp), xs[i]? = some x → Pv i σ H → H t = none → g (.ref t) σ (upd H t (.tup [.int i, x])) fun σ2 H2 => tb { D with nx := Pv (i + 1), ct := Pv (i + 1), bk := D.nx } σ2 H2)
    (after : ∀ σ H, Pv xs.length σ H → D.nx σ H) :
    ∃ W : Nat → Nat → L2.St → Hp → Prop, (∃ m, W 0 m σ H) ∧ ∀ i m σ H, W i m σ H →
      ((Ite K a).stop i H ∧ D.nx σ H) ∨ ((Ite K a).go i H ∧ ∃ N : L2.St → Hp → Prop, (∀ σ' H', N σ' H' → ∃ m', m' < m ∧ W (i + 1) m' σ' H') ∧ ∀ v H', (Ite K a).yld i H v H' → g v σ H' fun σ2 H2 => tb { D with nx := N, ct := N, bk := D.nx } σ2 H2) := by
  refine ⟨fun i m σ H => m + i = xs.length ∧ Pv i σ H, ⟨xs.length, rfl, start⟩, fun i m σ H ⟨hm, hp⟩ => ?_⟩
  have hs := stay i σ H hp
  cases m with
  | zero =>
    have e : i = xs.length := by omega
    subst e
    exact .inl ⟨⟨xs, hs, Nat.le_refl _⟩, after σ H hp⟩
  | succ m =>
    have hi : i < xs.length := by omega
    refine .inr ⟨⟨xs, xs[i], hs, List.getElem?_eq_getElem hi⟩, Pv (i + 1), fun σ' H' q => ⟨m, Nat.lt_succ_self m, by omega, q⟩, fun v H' hy => ?_⟩
    obtain ⟨t, x, rfl, ht, rfl, hx⟩ := hy
    exact turn i x t σ H (hx xs hs) hp ht
end Co

namespace Co
open PySem L2 PyProof.Rows

/-- an exception that lies in the heap: its class, without a dict of its own -/
def ExO (a : Addr) (cls : Value) : HO := .ext fun h => ∃ oe vs, h.get? a = some oe ∧ oe.cls = cls ∧ oe.dict = none ∧ oe.data = Data.fields vs

theorem inv_unsuiteK {X : Cx} {pins : List (Addr × Obj)} {σ : L2.St} {H : Hp} {s : Shared} {a : Addr} {oe : Obj} {pn' : List (Addr × Obj)}
    (I : L2.Inv (X.suite a ((a, oe) :: (X.pn ++ pins))) pn' σ H s) (ok : X.Ok) : L2.Inv X ((a, oe) :: pins) σ H s :=
  { ok := ok, os := I.os, bare := I.bare, base := I.base, loc := I.loc, cell := I.cell, free := I.free, freeC := I.freeC, len := I.len, hok := I.hok
    pin := fun p hp => I.pin p (by
      simp only [List.mem_append, List.mem_cons] at hp ⊢
      rcases hp with h | h | h
      · exact Or.inl (Or.inr (Or.inl h))
      · exact Or.inl (Or.inl h)
      · exact Or.inl (Or.inr (Or.inr h))) }

theorem inv_hold {X : Cx} {pins : List (Addr × Obj)} {σ : L2.St} {H : Hp} {s : Shared} {a : Addr} {oe : Obj} {vs : Array Value} {cls : Value}
    (I : L2.Inv X ((a, oe) :: pins) σ H s) (hd : oe.data = Data.fields vs) (hz : Zc cls none oe)
    (hnew : X.s_0.heap.get? a = none) (hp : ∀ p ∈ X.pn ++ pins, p.1 ≠ a) : L2.Inv X pins σ (upd H a (ExO a cls)) s := by
  have pa := I.pin (a, oe) (List.mem_append.mpr (Or.inr List.mem_cons_self))
  obtain ⟨g, hn, nl, nf, ncell⟩ := pa
  have g : s.heap.get? a = some oe := g
  have hn : H a = none := hn
  have nl : a ≠ X.env.locals := nl
  have keep : ∀ b o, H b = some o → upd H a (ExO a cls) b = some o := fun b o hb => by
    rw [upd_ne (fun e => by rw [e, hn] at hb; cases hb)]; exact hb
  refine { ok := I.ok, os := I.os, bare := I.bare, base := ?_, loc := I.loc, cell := I.cell, free := ?_, freeC := ?_, pin := ?_, hok := ?_, len := I.len }
  · have B := I.base
    refine ⟨B.keep, B.slot, fun b o q hb hx => ?_, B.there, fun b xs q => keep _ _ (B.tups b xs q), fun b o u q => keep _ _ (B.frzs b o u q), fun b ps q => ?_⟩
    · have nb : b ≠ a := fun e => by rw [e, hnew] at q; cases q
      rw [upd_ne nb]; exact B.free b o q hb hx
    · obtain ⟨more, q'⟩ := B.tbls b ps q
      exact ⟨more, keep _ _ q'⟩
  · rw [upd_ne (Ne.symm nl)]; exact I.free
  · intro x c hc
    obtain ⟨v, hv⟩ := I.cell x c hc
    have : c ≠ a := fun e => by
      rw [e] at hv
      obtain ⟨o, ho, hdv⟩ := hv
      rw [g] at ho
      cases ho
      exact ncell v hdv
    rw [upd_ne this]; exact I.freeC x c hc
  · intro p q
    have h1 := hp p q
    have h2 := I.pin p (by simp only [List.mem_append, List.mem_cons] at q ⊢; rcases q with h | h; exact Or.inl h; exact Or.inr (Or.inr h))
    refine ⟨h2.1, ?_, h2.2.2⟩
    rw [upd_ne h1]; exact h2.2.1
  · intro b o hb
    by_cases e : b = a
    · subst e
      rw [upd_same] at hb
      cases hb
      refine ⟨⟨oe, vs, g, hz.1, hz.2, hd⟩, ⟨oe, g⟩, fun h1 h2 r k => ?_⟩
      obtain ⟨o1, v1, q1, q2⟩ := r
      exact ⟨o1, v1, k _ q1, q2⟩
    · rw [upd_ne e] at hb
      exact (I.hok b o hb).stay (fun _ _ _ q => q) (fun b' q => keep _ _ q) (fun b' xs q => keep _ _ q)

/-- what a try with «except C as n» wishes, where C names all that is raised, and the caught one is kept -/
def wAsK (K : PySem.W.Frag) (c : Value) (i n : Nat) (ts : Addr → Value → TS) (D : Ends) : WX := fun cls d σ H => σ.length = n →
  d = none ∧ PySem.W.exmOne K cls c = some true ∧ ∀ a, H a = none → ts a cls
    { nx := fun σ' H' => D.nx (σ'.set i none) (upd H' a (ExO a cls)), rt := fun _ _ => False } (σ.set i (some (.ref a))) H

theorem fs_of_frs {X : Cx} (hs : X.stack = X.env :: X.outer) {b : Addr} (h : b ∈ X.fs) : b ∈ frs X.stack := by
  rw [hs]
  obtain ⟨e, he, q⟩ := List.mem_filterMap.mp h
  exact List.mem_filterMap.mpr ⟨e, List.mem_cons_of_mem _ he, q⟩

theorem ps_try_asK {X : Cx} {x n : Str} {c : Value} {i : Nat} {body suite : List Stmt} {b₀ : Stmt} {np pos pos' : Pos} {tb : WX → TS} {ts : Addr → Value → TS}
    (hs : X.stack = X.env :: X.outer) (hf : X.env.frame = some X.env.locals) (hex : X.ex = []) (hN : X.N.Nodup) (hi : X.N[i]? = some n) (hln : X.env.kindOf n = some NameKind.local)
    (hc : Names X x c)
    (hb : ∀ (W : WX) (pn : List (Addr × Obj)) (xe : Value → Shared → Prop), Takes (X.tr pn xe) W → PassesOwn (model X.prog X.w) X.A X.env xe → PSs (X.tr pn xe) body (tb W))
    (hsu : ∀ (a : Addr) (oe : Obj) (cls : Value) (pn : List (Addr × Obj)), Zc cls none oe → (∃ vs, oe.data = Data.fields vs) → PSs (X.suite a ((a, oe) :: pn)) (b₀ :: suite) (ts a cls)) :
    PS X (Stmt.Try body [ExceptHandler.ExceptHandler (some (Expr.Name x np)) (some n) (b₀ :: suite) pos'] [] [] pos)
      (fun D σ H => tb (wAsK X.K c i X.N.length ts D) D σ H) := by
  refine ⟨fun pins s σ H D I h => ?_⟩
  have ok := I.ok
  have hfr : X.A.frames = some (X.env :: X.outer) := by rw [ok.frames, hs]
  have hloc : L2.Loc X.env.scope n := Or.inl hln
  refine wpAny_Try_except (wpAny_mono ((hb (wAsK X.K c i X.N.length ts D) (X.pn ++ pins) _ (fun u s' xx => ?_) PassesOwn.looking).run [] s σ H D (I.toTry _) h) (fun f s1 hsp => ?_) (fun e s1 he => he))
  · obtain ⟨a, B, sI, pins', σ', H', cls, d, rfl, J', nb, up, sky, na, os, ag, hwa⟩ := xx
    have J := J'.ofTry ok
    obtain ⟨ed, hb1, hyes⟩ := hwa J.len
    subst ed
    have sky' : Sky B (X.env :: X.outer) a (Zc cls none) X.env.locals s'.heap := hs ▸ sky
    refine Sky.land Zc.steady hfr hf sky' (fun h3 fl3 up3 => ?_)
    have J3 := J.landed (s' := ⟨h3, s'.gens, s'.drawn, s'.toks, s'.os⟩) nb fl3.1 (up.trans up3) os ag
    obtain ⟨oe3, vs3, he3, hz3, hd3⟩ := fl3.there
    have nfr : a ∉ frs (X.env :: X.outer) := fun hm => by
      obtain ⟨_, o', e', hnf⟩ := fl3.2.2.1.mem hm
      rw [he3] at e'
      cases e'
      exact hnf vs3 hd3
    have nS : a ∉ frs X.stack := hs ▸ nfr
    have hBa : B.get? a = none := fl3.2.1
    have nL : a ≠ X.env.locals := fun z => nfr (List.mem_filterMap.mpr ⟨X.env, List.mem_cons_self, by rw [hf, z]⟩)
    have nF : a ∉ X.fs := fun hm => nS (fs_of_frs hs hm)
    have hnI : sI.heap.get? a = none := by
      cases q : sI.heap.get? a with
      | none => rfl
      | some o => exact absurd (nb a o q nS) (by rw [hBa]; simp)
    have hnew : X.s_0.heap.get? a = none := by
      cases q : X.s_0.heap.get? a with
      | none => rfl
      | some o =>
        obtain ⟨o', q'⟩ := J.base.there a o q (by rw [hex]; simp)
        rw [hnI] at q'; cases q'
    have hpins : ∀ p ∈ X.pn ++ pins, p.1 ≠ a := fun p hp e => by
      have := (J.pin p hp).1
      rw [e, hnI] at this; cases this
    have S3 := J3.suite he3 hd3 na nL nF
    refine wpAny_handleBy_cons (codeAny_handlers_test ?_) (fun q => by cases q)
    have LT : W.Looks (model X.prog X.w) (⟨h3, s'.gens, s'.drawn, s'.toks, s'.os⟩ : Shared).heap (typeOf (.ref a)) cls := fun A Q E s k q => wpAny_typeOf_ref (k a oe3 he3) (by rw [hz3.1]; exact q)
    have LM := W.exm_one J3.kIn LT hb1
    have test : ∀ {Q E}, Q c ⟨h3, s'.gens, s'.drawn, s'.toks, s'.os⟩ → wpAny (model X.prog X.w) (X.A.mark (some (.ref a))) (eval (Expr.Name x np) X.env) Q E ⟨h3, s'.gens, s'.drawn, s'.toks, s'.os⟩ := fun {Q E} q => by
      obtain ⟨hg, hdbg, hm | ⟨hm, hv, hnn⟩⟩ := hc
      · exact ld_glob S3 hg hm q hdbg
      · exact ld_blt S3 hg hm hv q hnn hdbg
    refine test (W.Looks.here LM ?_)
    show codeAny _ _ (Code.handlers (Value.ref a) [ExceptHandler.ExceptHandler none (some n) (b₀ :: suite) pos'] X.env) _ _
    refine codeAny_handlers_suite_as (HandSPX.lands_againZ fl3 (fun h4 fl4 up4 => ?_))
    have J4 := J.landed (s' := ⟨h4, s'.gens, s'.drawn, s'.toks, s'.os⟩) nb fl4.1 ((up.trans up3).trans up4) os ag
    obtain ⟨oe4, vs4, he4, hz4, hd4⟩ := fl4.there
    have S4 := J4.suite he4 hd4 na nL nF
    refine store_ok (X := X.suite a ((a, oe4) :: (X.pn ++ pins))) (s := ⟨h4, s'.gens, s'.drawn, s'.toks, s'.os⟩) (v := .ref a) S4 hN hi hloc rfl (fun s5 S5 => ?_) (Or.inr hln)
    refine wpAny_mono ((hsu a oe4 cls (X.pn ++ pins) hz4 ⟨vs4, hd4⟩).run [] s5 _ H' _ S5 (hyes a na)) (fun f s6 hsp => ?_) (fun _ _ z => z.elim)
    cases f with
    | next =>
      obtain ⟨σ6, H6, S6, hq⟩ := hsp
      have U := inv_unsuiteK S6 ok
      refine gone_ok U hN hi hln (fun s7 I7 => ?_)
      exact ⟨_, _, inv_hold I7 hd4 hz4 hnew hpins, hq⟩
    | brk => obtain ⟨_, _, _, z⟩ := hsp; exact z.elim
    | cont => obtain ⟨_, _, _, z⟩ := hsp; exact z.elim
    | ret u => obtain ⟨_, _, _, _, _, z⟩ := hsp; exact z.elim
  · cases f with
    | next =>
      obtain ⟨σ', H', J', q⟩ := hsp
      exact wpAny_execs_nil ⟨σ', H', J'.ofTry ok, q⟩
    | brk => obtain ⟨σ', H', J', q⟩ := hsp; exact ⟨σ', H', J'.ofTry ok, q⟩
    | cont => obtain ⟨σ', H', J', q⟩ := hsp; exact ⟨σ', H', J'.ofTry ok, q⟩
    | ret u => obtain ⟨v, σ', H', J', r, q⟩ := hsp; exact ⟨v, σ', H', J'.ofTry ok, r, q⟩
variable {X : Cx}
theorem exO_get {H : Hp} {s : Shared} {pins σ} {a : Addr} {cls : Value} (I : L2.Inv X pins σ H s) (h : H a = some (ExO a cls)) :
    ∃ oe vs, s.heap.get? a = some oe ∧ oe.cls = cls ∧ oe.dict = none ∧ oe.data = Data.fields vs := (I.hok a _ h).1
/-- isinstance(e, C), e an exception that is kept -/
def rIsO (K : PySem.W.Frag) : List V → Hp → VK → Prop := fun xs H Q =>
  ∃ (a D : Addr) (c : V) (cv : Value) (b : Bool), xs = [.ref a, c] ∧ H a = some (ExO a (.ref D)) ∧ ExcC K D ∧ (∀ u, RelV c u → u = cv) ∧ PySem.W.kitOne K (.ref D) cv = some b ∧ Q (.bl b) H
theorem call_isO : CallR X (Value.builtin "isinstance") (rIsO X.K) := by
  intro pins s σ H xs us Q I hv h
  obtain ⟨a, D, c, cv, b, rfl, ha, C, hc, hk, q⟩ := h
  obtain ⟨oe, vs, g, h1, h2, h3⟩ := exO_get I ha
  cases hv with
  | cons r1 hv2 =>
  cases hv2 with
  | cons r2 hv3 =>
  cases hv3
  have e1 : _ = Value.ref a := r1
  subst e1
  have e2 := hc _ r2
  subst e2
  have ia : W.InstAt s.heap a oe D none := by
    obtain ⟨c0, d0, dt, sl⟩ := oe
    cases h1; cases h2; cases h3
    exact ⟨g, rfl, rfl, trivial⟩
  exact W.kia_one (W.handS_kitx_exc C.hg C.hk C.hs C.hd C.ha C.hn C.ht C.hm) I.kIn ia hk (fun z => by cases z) (fun tk => ⟨.bl b, H, I.kept (fun _ _ q => q), rfl, q⟩)
theorem clsV_eq {c : V} {u w : Value} (h : ClsV c u) (r : RelV c w) : w = u := by
  cases h with
  | ty n => exact r
  | own C => exact r
theorem clsVs_eq : ∀ {cs : List V} {us ws : List Value}, Paired ClsV cs us → Paired RelV cs ws → ws = us
  | _, _, _, .nil, .nil => rfl
  | _, _, _, .cons h hs, .cons r rs => by rw [clsV_eq h r, clsVs_eq hs rs]
/-- isinstance(e, (C, ..)), e an exception that is kept -/
def rIsOT (K : PySem.W.Frag) : List V → Hp → VK → Prop := fun xs H Q =>
  ∃ (a D tp : Addr) (cs : List V) (us : List Value) (b : Bool), xs = [.ref a, .ref tp] ∧ H a = some (ExO a (.ref D)) ∧ ExcC K D ∧ H tp = some (.tup cs) ∧ Paired ClsV cs us ∧ PySem.W.kitAny K (.ref D) us = some b ∧ Q (.bl b) H
theorem call_isOT : CallR X (Value.builtin "isinstance") (rIsOT X.K) := by
  intro pins s σ H xs us Q I hv h
  obtain ⟨a, D, tp, cs, ws, b, rfl, ha, C, ht, hp, hk, q⟩ := h
  obtain ⟨oe, vs, g, h1, h2, h3⟩ := exO_get I ha
  cases hv with
  | cons r1 hv2 =>
  cases hv2 with
  | cons r2 hv3 =>
  cases hv3
  have e1 : _ = Value.ref a := r1
  subst e1
  have e2 : _ = Value.ref tp := r2
  subst e2
  have ia : W.InstAt s.heap a oe D none := by
    obtain ⟨c0, d0, dt, sl⟩ := oe
    cases h1; cases h2; cases h3
    exact ⟨g, rfl, rfl, trivial⟩
  have tt := I.hok tp _ ht
  unfold ObjOk at tt
  obtain ⟨_, its, hvs, o, g2, hc2, n, hd⟩ := tt
  have := clsVs_eq hp hvs
  subst this
  obtain ⟨c0, d0, dt, sl⟩ := o
  cases hc2; cases hd
  exact W.kia_tup (W.handS_kitx_exc C.hg C.hk C.hs C.hd C.ha C.hn C.ht C.hm) I.kIn ia g2 hk (fun z => by cases z) (fun tk => ⟨.bl b, H, I.kept (fun _ _ q => q), rfl, q⟩)

def excCB (K : PySem.W.Frag) (D : Addr) : Bool :=
  PySem.W.findIn K (.ref D) (Str.ofString "__getattribute__") == some (some (.builtin "BaseException.__getattribute__")) && (PySem.W.findIn K (.ref D) (Str.ofString "__getattr__") == some none &&
  (PySem.W.subIn K (.ref D) (.type "BaseException") == some true && (PySem.W.hasDictIn K D && (PySem.W.findIn K (.ref D) (Str.ofString "__class__") == some (some (.builtin "object.__class__")) &&
  (PySem.W.specialIn K (.builtin "object.__class__") (Str.ofString "__get__") == some (some (.builtin "getset_descriptor.__get__")) && (PySem.W.takesIn K (.builtin "object.__class__") == some true && PySem.W.mroIn K D (.type "object") == some true))))))
theorem excC_of {K : PySem.W.Frag} {D : Addr} (h : excCB K D = true) : ExcC K D := by
  unfold excCB at h
  simp only [Bool.and_eq_true, beq_iff_eq] at h
  obtain ⟨h1, h2, h3, h4, h5, h6, h7, h8⟩ := h
  exact ⟨h1, h2, h3, h4, h5, h6, h7, h8⟩
/-! ### lambdas -/
/-- what a call raises is what the def promises -/
theorem passO {X : Cx} {E : XK} {E₁ : Value → Shared → Prop} (hs : X.stack = X.env :: X.outer := by rfl) (hf : X.env.frame = some X.env.locals := by rfl) (hex : X.ex = [] := by rfl)
    (hx : X.xe = fun e s' => wpAny (model X.prog X.w) X.A (leaving X.env e) (fun _ s'' => CX X.prog X.w X.outer X.H_0 X.s_0 E e s'') E₁ s' := by rfl) : Passes (CX X.prog X.w) X E := passes_call (takes_of hs hf hex hx) (fun _ _ _ _ h => h)
def WA (W : WX) : XK := fun cls d H => ∀ σ, W cls d σ H
theorem fun_okT {P : Program} {w : World} {K : PySem.W.Frag} {mg : Str → Option Value} {base : Heap} {x qual : Str} {params : Arguments} {body : List Stmt} {scope : Scope} {f : Addr} {fd : FuncData} {CX : CXT} {N ps : List Str} {k : Nat} {sp : Sp} {pt : He.Defn}
    (F : FunD K x qual params body scope [] [] f fd) (hf : f = He.fAd K pt) (S : FnScope N ps scope) (hl : ∀ (vs : List V) (H : Hp) (Q : VK) (E : XK), sp vs H Q E → vs.length = ps.length)
    (h : ∀ (A : Around) (outer : List Env) (s : Shared) (H : Hp) (vs : List V) (Q : VK) (E : XK), Room k (A.deeper (envOfC qual scope s.heap.objs.size f (.ref (He.cT K pt).1))) → sp vs H Q E →
      ∃ t, PSs (cxOf CX P w K mg base N qual scope f (.ref (He.cT K pt).1) A outer s H E) body t ∧ t { nx := fun _ H' => Q V.non H', rt := Q } (L2.start N vs) H) :
    FnOk P w K mg base CX (k + 1) f fd ps sp := by
  obtain ⟨oc, od, dV, kV, doc, pm, an, cdv, ct, osl, rfl, lk, cg, _, _⟩ := F.ex
  obtain ⟨c, rfl⟩ : ∃ c, cdv = Value.ref c := by
    unfold PySem.W.codeIn at cg
    split at cg
    · exact ⟨_, rfl⟩
    · cases cg
  have e : (He.cT K pt).1 = c := He.codeOf_eq (by rw [← hf]; exact lk) rfl
  rw [e] at h
  refine ⟨hl, fun A outer s H args us vs Q E hr he hb hv q => ?_⟩
  exact LamX.run_ofS lk cg S hr he hb hv (hl vs H Q E q) (fun hr2 => h A outer s H vs Q E hr2 q)
/-- f(lambda: e), f a def of one parameter -/
theorem pe_lamF {X : Cx} {T : List (Addr × Str)} {TT : (XK → Hp → VK → Prop) → Hp → VK → Prop} {x a : Str} {g c Pt : Addr} {k : Nat} {pg : Arguments} {bg : List Stmt} {sg : Scope} {fd : FuncData} {Ng : List Str} {params : Arguments} {body : Expr} {scope : Scope} {t : XK → TE} {p lpos pos : Pos}
    (hg : Gl X x) (hm : X.mg x = some (.ref g)) (F : FunD X.K x x pg bg sg [] [] g fd) (hb : L2.Binds X.K fd [a] []) (Sg : FnScope Ng [a] sg) (hNg : Ng[0]? = some a) (hva : Vis sg a)
    (hG : ∀ cdg, LamX.GivesTo X Ng x sg g cdg bg a (X.env.qual ++ Str.ofString "<lambda>") TT) (TB : LamX.TabB X.base X.mg c Pt) (hcode : X.env.code = .ref c) (hT : T = [(Pt, X.env.qual ++ Str.ofString "<lambda>")])
    (hr : Room (k + 2) X.A) (L : LamX.LamS X.env.scope scope) (hdef : defaultsOf params X.env = ([], []))
    (hbind : ∀ (q : Str) (cl : List (Str × Addr)) (pm cv ctv : Value), bindArgs (PySem.W.kla_fn (Str.ofString "<lambda>") q params body scope cl pm cv ctv) {} = pure [])
    (hbody : ∀ (A : Around) (outer : List Env) (s : Shared) (H : Hp) (E : XK) (f c' : Addr), Room k (A.deeper (LamX.lamEnv X scope s.heap.objs.size f c')) → PE (LamX.lamCx X A outer s H E scope f c') body (t E))
    (h1 : (x == Str.ofString "__debug__") = false := by rfl) (h2 : (a == Str.ofString "__debug__") = false := by rfl) (h3 : (a == Str.ofString "__classdict__") = false := by rfl) :
    PE X (.Call (.Name x p) [.Lambda params body scope lpos] [] pos) (LamX.tLam T TT t) := by
  obtain ⟨oc, od, dV, kV, doc, pm, an, cdv, ct, osl, rfl, lk, cg, _, _⟩ := F.ex
  subst hT
  exact LamX.pe_lamcall hg hm F.kp lk cg hb Sg hNg hva (hG cdv) TB hcode (List.mem_singleton.mpr rfl) (fun p hp _ => by rw [List.mem_singleton.mp hp]) hr L hdef hbind hbody h1 h2 h3
end Co

namespace Co
open PySem PySem.Spec PyProof.Rows L2
/-! ### the head's facts with a Bool of one's own; the end with the ground of divisions by _pylong -/
/-- the written part: no empty tables of code objects; the ground of the C statics beside -/
def frS (n : Nat) (g : Addr → Option Obj) : PySem.W.Frag := He.frT g (cStatics :: He.asD g n)
def obsXK (fa : List He.Fa) (fn : List He.DefD) (tf : List He.Defn) (ex : PySem.W.Frag → Bool) (g : Addr → Option Obj) (K : PySem.W.Frag) : He.AlD × Bool := (He.obsD fa fn K, ex K && He.tabsB g tf K)
def obsXG (n : Nat) (fa : List He.Fa) (fn : List He.DefD) (tf : List He.Defn) (ex : PySem.W.Frag → Bool) (g : Addr → Option Obj) : He.AlD × Bool := obsXK fa fn tf ex g (frS n g)
/-- the code object of a def and its table: the head knows them, the table is empty -/
def TabH (K : PySem.W.Frag) (h : Heap) (c : Addr × Addr) : Prop := PySem.W.codeHdIn K c.1 c.2 = true ∧ K.lookup c.2 = none ∧ h.get? c.2 = some ⟨.none, none, .fields #[], #[]⟩
theorem tabsB_of {K : PySem.W.Frag} {n : Nat} {h : Heap} {tf : List He.Defn} (hK : K = frS n h.get?) (e : He.tabsB h.get? tf K = true) : ∀ p ∈ tf, TabH K h (He.cT K p) := fun p hp => by
  have e1 := List.all_eq_true.mp e p hp
  rw [Bool.and_eq_true] at e1
  obtain ⟨h1, h2⟩ := e1
  cases q : h.get? (He.cT K p).2 with
  | none => rw [q] at h2; cases h2
  | some o =>
    rw [q] at h2
    refine ⟨h1, ?_, by rw [q, He.emptyTab_eq h2]⟩
    have := He.frT_none (as := cStatics :: He.asD h.get? n) q h2
    rw [hK] at this ⊢
    exact this
def hookX (n : Nat) (fa : List He.Fa) (fn : List He.DefD) (tf : List He.Defn) (ex : PySem.W.Frag → Bool) : PySem.W.Hook where
  α := He.AlD × Bool
  obs := fun s => obsXG n fa fn tf ex s.heap.get?
  val := fun _ => (He.valD fn, true)
  says := fun _ h => ∃ K : PySem.W.Frag, K.In h ∧ He.SaysD fa fn K ∧ ex K = true ∧ ∀ p ∈ tf, TabH K h (He.cT K p)
  of := fun _ s e => by
    have e2 : (ex (frS n s.heap.get?) && He.tabsB s.heap.get? tf (frS n s.heap.get?)) = true := congrArg Prod.snd e
    rw [Bool.and_eq_true] at e2
    exact ⟨frS n s.heap.get?, He.frT_in, congrArg Prod.fst e, e2.1, tabsB_of rfl e2.2⟩
  keeps := fun _ _ _ ⟨K, i, c, c2, t⟩ k => ⟨K, PySem.W.Frag.In.keeps i k, c, c2, fun p hp => ⟨(t p hp).1, (t p hp).2.1, k _ _ (t p hp).2.2⟩⟩
theorem obsXG_eq {n : Nat} {fa : List He.Fa} {fn : List He.DefD} {tf : List He.Defn} {ex : PySem.W.Frag → Bool} {g : Addr → Option Obj} {s : Shared} (h : ∀ a, g a = s.heap.get? a) : obsXG n fa fn tf ex g = (hookX n fa fn tf ex).obs s := by
  have e : g = s.heap.get? := funext h
  subst e
  rfl
theorem look_in {h : Heap} : ∀ {l : List (Addr × Obj)} {a : Addr} {o : Obj}, (∀ p ∈ l, h.get? p.1 = some p.2) → l.lookup a = some o → h.get? a = some o
  | [], _, _, _, e => by cases e
  | (b, u) :: r, a, o, hl, e => by
    rw [List.lookup_cons] at e
    split at e
    · rename_i q
      cases e
      have := hl (b, u) (List.mem_cons_self ..)
      rw [eq_of_beq q]
      exact this
    · exact look_in (fun p hp => hl p (List.mem_cons_of_mem _ hp)) e
theorem look_some {l : List (Addr × Obj)} {a : Addr} {o : Obj} (hm : (a, o) ∈ l) : ∃ u, l.lookup a = some u := by
  induction l with
  | nil => cases hm
  | cons p r ih =>
    obtain ⟨b, u⟩ := p
    rw [List.lookup_cons]
    cases q : (a == b) with
    | true => exact ⟨u, rfl⟩
    | false =>
      rcases List.mem_cons.mp hm with e | hm
      · have e1 : a = b := congrArg Prod.fst e
        rw [e1, beq_self_eq_true] at q
        cases q
      · exact ih hm
/-- more of the heap in the written part -/
theorem in_more {K : PySem.W.Frag} {l : List (Addr × Obj)} {h : Heap} (x : K.In h) (hl : ∀ p ∈ l, h.get? p.1 = some p.2) : PySem.W.Frag.In (K ++ l) h := fun a o e => by
  rw [List.lookup_append] at e
  cases q : K.lookup a with
  | some u =>
    rw [q] at e
    cases e
    exact x a o q
  | none =>
    rw [q] at e
    exact look_in hl e
theorem in_less {K : PySem.W.Frag} {l : List (Addr × Obj)} {h : Heap} (x : PySem.W.Frag.In (K ++ l) h) : K.In h := fun a o e => x a o (by rw [List.lookup_append, e]; rfl)
theorem in_at {K : PySem.W.Frag} {l : List (Addr × Obj)} {h g : Heap} (x : K.In h) (hl : ∀ p ∈ l, h.get? p.1 = some p.2) (y : PySem.W.Frag.In (K ++ l) g) {a : Addr} {o : Obj} (hm : (a, o) ∈ l) : g.get? a = some o := by
  have h1 := hl _ hm
  cases q : K.lookup a with
  | some u =>
    have e := x a u q
    rw [h1] at e
    cases e
    exact in_less y a o q
  | none =>
    obtain ⟨u, hu⟩ := look_some hm
    have e := look_in hl hu
    rw [h1] at e
    cases e
    exact y a o (by rw [List.lookup_append, q]; exact hu)
/-- no empty table -/
def NoE (o : Obj) : Prop := ¬ o = ⟨.none, none, .fields #[], #[]⟩
/-- no list of the module -/
def NoL (o : Obj) : Prop := o.cls ≠ .type "list" ∨ ∀ its n, o.data ≠ .seq its n
theorem look_no {l : List (Addr × Obj)} (hl : ∀ p ∈ l, NoL p.2) {a : Addr} {o : Obj} (e : l.lookup a = some o) : NoL o := by
  induction l with
  | nil => cases e
  | cons p r ih =>
    obtain ⟨b, u⟩ := p
    rw [List.lookup_cons] at e
    cases q : (a == b) with
    | true =>
      rw [q] at e
      have e1 : u = o := Option.some.inj e
      subst e1
      exact hl (b, u) (List.mem_cons_self ..)
    | false =>
      rw [q] at e
      exact ih (fun p hp => hl p (List.mem_cons_of_mem _ hp)) e
theorem sql_less {K : PySem.W.Frag} {l : List (Addr × Obj)} (hl : ∀ p ∈ l, NoL p.2) {H : Hp} {a : Addr} {xs : List V} (h : SqL (K ++ l) H a xs) : SqL K H a xs := by
  rcases h with h | ⟨o, its, n, e, c, d, t, r⟩
  · exact .inl h
  · rw [List.lookup_append] at e
    cases q : K.lookup a with
    | some v =>
      rw [q] at e
      have e1 : v = o := Option.some.inj e
      subst e1
      exact .inr ⟨v, its, n, q, c, d, t, r⟩
    | none =>
      rw [q] at e
      rcases look_no hl e with z | z
      · exact (z c).elim
      · exact (z _ _ t).elim
theorem seer_at {h : Heap} (z : h.NoSeer) : ∃ l : List (Addr × Obj), (∀ p ∈ l, h.get? p.1 = some p.2) ∧ (∀ p ∈ l, NoL p.2) ∧ (∀ p ∈ l, NoE p.2) ∧ ∀ g : Heap, (∀ p ∈ l, g.get? p.1 = some p.2) → g.NoSeer := by
  obtain ⟨mc, ⟨o1, es1, ep1, e1, r1⟩, c1, c2⟩ := z.statics
  obtain ⟨mm, ⟨o2, es2, ep2, e2, r2⟩, m1⟩ := z.mods
  obtain ⟨mb, ⟨o3, es3, ep3, e3, r3⟩, b0⟩ := z.imp
  obtain ⟨mg, bm, ob, ⟨o4, es4, ep4, e4, r4⟩, g1, g2, g3, g4⟩ := z.main
  refine ⟨[(cStatics, o1), (sysModules, o2), (builtinsNs, o3), (mainGlobals, o4), (bm, ob)], ?_, ?_, ?_, fun g k => ?_⟩
  · exact List.forall_mem_cons.mpr ⟨e1, List.forall_mem_cons.mpr ⟨e2, List.forall_mem_cons.mpr ⟨e3, List.forall_mem_cons.mpr ⟨e4, List.forall_mem_cons.mpr ⟨g2, fun _ z => nomatch z⟩⟩⟩⟩⟩
  · have dd : ∀ {o : Obj} {es : Array DictEntry} {ep : Nat}, o.data = .dict es ep → NoL o := fun e => .inr fun its n z => by rw [e] at z; cases z
    exact List.forall_mem_cons.mpr ⟨dd r1.1, List.forall_mem_cons.mpr ⟨dd r2.1, List.forall_mem_cons.mpr ⟨dd r3.1, List.forall_mem_cons.mpr ⟨dd r4.1, List.forall_mem_cons.mpr ⟨.inl (fun z => by rw [g3] at z; exact absurd (Value.type.inj z) (by decide)), fun _ z => nomatch z⟩⟩⟩⟩⟩
  · have dd : ∀ {o : Obj} {es : Array DictEntry} {ep : Nat}, o.data = .dict es ep → NoE o := fun e z => by rw [z] at e; cases e
    exact List.forall_mem_cons.mpr ⟨dd r1.1, List.forall_mem_cons.mpr ⟨dd r2.1, List.forall_mem_cons.mpr ⟨dd r3.1, List.forall_mem_cons.mpr ⟨dd r4.1, List.forall_mem_cons.mpr ⟨(fun z => by rw [show ob = _ from z] at g3; exact nomatch g3), fun _ z => nomatch z⟩⟩⟩⟩⟩
  · obtain ⟨k1, k⟩ := List.forall_mem_cons.mp k
    obtain ⟨k2, k⟩ := List.forall_mem_cons.mp k
    obtain ⟨k3, k⟩ := List.forall_mem_cons.mp k
    obtain ⟨k4, k⟩ := List.forall_mem_cons.mp k
    obtain ⟨k5, _⟩ := List.forall_mem_cons.mp k
    exact ⟨⟨mc, ⟨o1, es1, ep1, k1, r1⟩, c1, c2⟩, ⟨mm, ⟨o2, es2, ep2, k2, r2⟩, m1⟩, ⟨mb, ⟨o3, es3, ep3, k3, r3⟩, b0⟩, ⟨mg, bm, ob, ⟨o4, es4, ep4, k4, r4⟩, g1, k5, g3, g4⟩⟩
theorem fn_wid {P : Program} {w : World} {K K' : PySem.W.Frag} {mg : Str → Option Value} {base : Heap} {CX : CXT} {k : Nat} {f : Addr} {fd : FuncData} {ps : List Str} {sp : Sp} (F : FnOk P w K mg base CX k f fd ps sp) (h : K.In base) : FnOk P w K' mg base CX k f fd ps sp :=
  ⟨F.len, fun A outer s H args us vs Q E hr e hb hv hs => F.run A outer s H args us vs Q E hr ⟨e.frames, ⟨h, e.mod.glob, e.mod.blt, e.mod.nolimit⟩, e.bs, e.bsz, e.funs, e.frf, e.hok, e.bare⟩ hb hv hs⟩
/-- a law's promise: a list of at most n ints is handed in, the tables of code objects are empty, True comes out -/
def spEnd (K : PySem.W.Frag) (n : Nat) (cs : List (Addr × Addr)) : Sp := fun vs H Q _ => ∃ (a : Addr) (ns : List Int), vs = [.ref a] ∧ ns.length ≤ n ∧ SqL K H a (ns.map V.int) ∧ (∀ c ∈ cs, H c.2 = some (.tbl #[])) ∧ ∀ H', Q (.bl true) H'
theorem look_tab {l : List (Addr × Obj)} {h : Heap} (hl : ∀ p ∈ l, h.get? p.1 = some p.2) (hd : ∀ p ∈ l, NoE p.2) {b : Addr} (e : h.get? b = some ⟨.none, none, .fields #[], #[]⟩) : l.lookup b = none := by
  cases q : l.lookup b with
  | none => rfl
  | some u =>
    exfalso
    have : ∃ p ∈ l, p = (b, u) := by
      clear hl hd
      induction l with
      | nil => cases q
      | cons p r ih =>
        obtain ⟨b', u'⟩ := p
        rw [List.lookup_cons] at q
        cases t : (b == b') with
        | true =>
          rw [t] at q
          have e1 : u' = u := Option.some.inj q
          exact ⟨(b', u'), List.mem_cons_self .., by rw [eq_of_beq t, e1]⟩
        | false =>
          rw [t] at q
          obtain ⟨p, hp, e⟩ := ih q
          exact ⟨p, List.mem_cons_of_mem _ hp, e⟩
    obtain ⟨p, hp, rfl⟩ := this
    have h1 := hl _ hp
    have h2 : some u = some _ := h1.symm.trans e
    exact hd _ hp (Option.some.inj h2)
/-- the end of a law's row: F gives the written part, the def's object and its promise over every base that a division may ask -/
theorem walk_S {l : PySem.W.OpenLaw} {n k : Nat} {q : Program} {loose : List Str} {XP : (Str → Option Value) → Heap → Prop} {YP : World → Heap → Prop} {d : DefRec} {x : Str}
    (hn : l.most = some n) (hn2 : n ≤ sizeLine) (hdf : d.params.defaults = []) (hr : Room k callerA) (hi : importsNone q = true) (ht : l.prog.given.tree = none)
    (F : ∀ (w : World) (mg : Str → Option Value) (fa : Addr) (h : Heap), YP w h → h.Ns mainGlobals mg → mg d.name = some (.ref fa) →
      ∃ (K : PySem.W.Frag) (fd : FuncData) (cs : List (Addr × Addr)), K.In h ∧ (∀ c ∈ cs, TabH K h c) ∧ (∀ (s : Shared) (u : Value), BindsTo s fd ⟨[u], []⟩ [(x, u)]) ∧
        ∀ (base : Heap), K.In base → base.Ns mainGlobals mg → Sr l.prog base → (∀ c ∈ cs, LamX.TabB base mg c.1 c.2) → FnOk l.prog w K mg base (L2.CX l.prog w) k fa fd [x] (spEnd K n cs)) :
    PySem.W.WalkO q loose XP YP l.row.toRowW d [] (fun f vs => PySem.call f vs) := by
  refine Att.attach_call hn hdf fun w s₀ s₁ mg mb fa o pm cd doc a vs ns G Y _ _ _ hm ho hv hl hg => ?_
  obtain ⟨K, fd, cs, KX, ct, hb, hF⟩ := F w mg fa _ Y G.T.g hm
  obtain ⟨more, m1, m3, m4, m2⟩ := seer_at (G.T.seer hi)
  refine LamX.law_callTs (CX := L2.CX l.prog w) (K := K ++ more) (cs := cs) (sp := spEnd K n cs) (in_more KX m1) G.T.g G.T.b G.T.builtins G.T.nolimit hg (fun c hc => (ct c hc).2.2) (fun c hc => ?_) (fun c hc => PySem.W.codeHd_of_K KX (ct c hc).1) G.T.bmain ho hv (Nat.le_trans hl hn2) hr (fun base kb nb tb => ?_) hb (fun H hT hS => ⟨a, ns, rfl, hl, sql_less m3 hS, hT, fun _ => rfl⟩) fun H e s' z => ?_
  · rw [List.lookup_append, (ct c hc).2.1, Option.none_or]
    exact look_tab m1 m4 (ct c hc).2.2
  · exact fn_wid (hF base (in_less kb) nb ⟨m2 base fun p hp => in_at KX m1 kb hp, ht⟩ tb) (in_less kb)
  · obtain ⟨_, _, _, _, _, _, _, _, _, _, _, _, z⟩ := z
    exact z.elim
end Co

namespace Co
open PySem L2
/-! ### the coder of signs, in numbers without bounds -/
structure CS where
  low : Int
  wide : Int
  n : Nat
def CS.init : CS := ⟨0, 4294967296, 0⟩
structure CS.Ok (s : CS) : Prop where
  lo : 16777216 ≤ s.wide
  hi : s.wide ≤ 4294967296
  z : 0 ≤ s.low
  top : s.low + s.wide ≤ 256 ^ (s.n + 4)
theorem CS.init_ok : CS.init.Ok := ⟨by decide, by decide, by decide, by decide⟩
/-- low and wide behind a sign, ahead of the letters that are sent -/
def nlow (s : CS) (part v : Int) : Int := if v = 0 then s.low else s.low + part
def nwide (s : CS) (part v : Int) : Int := if v = 0 then part else s.wide - part
def shifts (s : CS) (part v : Int) : Bool := decide (nwide s part v < 16777216)
def enc (s : CS) (part v : Int) : CS :=
  if nwide s part v < 16777216 then ⟨nlow s part v * 256, nwide s part v * 256, s.n + 1⟩ else ⟨nlow s part v, nwide s part v, s.n⟩
def partOf (s : CS) (c : Int) : Int := s.wide / 2048 * c
def Ch (c : Int) : Prop := 31 ≤ c ∧ c ≤ 2017
def learn (c v : Int) : Int := if v = 0 then c + (2048 - c) / 32 else c - c / 32
theorem learn_ok {c v : Int} (h : Ch c) : Ch (learn c v) := by
  unfold Ch learn at *
  split <;> omega
theorem ch_even : Ch 1024 := ⟨by decide, by decide⟩
/-- what a part may be -/
structure PartOk (s : CS) (part : Int) : Prop where
  a : 65536 ≤ part
  b : 65536 ≤ s.wide - part
theorem part_ok {s : CS} {c : Int} (h : s.Ok) (hc : Ch c) : PartOk s (partOf s c) := by
  obtain ⟨c1, c2⟩ := hc
  have h1 := h.lo
  unfold partOf
  generalize hq : s.wide / 2048 = q
  have q1 : 8192 ≤ q := by omega
  have q2 : 2048 * q ≤ s.wide := by omega
  have m1 : q * 31 ≤ q * c := Int.mul_le_mul_of_nonneg_left c1 (by omega)
  have m2 : q * c ≤ q * 2017 := Int.mul_le_mul_of_nonneg_left c2 (by omega)
  constructor <;> omega
theorem part_lt {s : CS} {c : Int} (h : s.Ok) (hc : Ch c) : 0 ≤ s.wide / 2048 ∧ s.wide / 2048 < 2 ^ 64 := by
  have := h.lo
  have := h.hi
  constructor <;> omega
theorem enc_ok {s : CS} {part v : Int} (h : s.Ok) (hp : PartOk s part) : (enc s part v).Ok := by
  obtain ⟨h1, h2, h3, h4⟩ := h
  obtain ⟨p1, p2⟩ := hp
  have e : (256 : Int) ^ (s.n + 1 + 4) = 256 ^ (s.n + 4) * 256 := by rw [← Int.pow_succ]
  unfold enc nlow nwide
  repeat' split
  all_goals refine ⟨?_, ?_, ?_, ?_⟩ <;> dsimp only <;> (try rw [e]) <;> omega
theorem enc_n {s : CS} {part v : Int} : (enc s part v).n ≤ s.n + 1 ∧ s.n ≤ (enc s part v).n := by
  unfold enc
  split <;> simp
theorem nwide_ok {s : CS} {part v : Int} (h : PartOk s part) : 65536 ≤ nwide s part v := by
  unfold nwide
  split
  · exact h.a
  · exact h.b
/-! ### the names' chances -/
abbrev Chs := List (Str × Int)
def ckv (ch : Chs) : List (Key × V) := ch.map fun p => (Sum.inr p.1, V.int p.2)
def cfind (ch : Chs) (x : Str) : Option Int := (ch.find? fun p => decide (p.1 = x)).map (·.2)
def cget (ch : Chs) (x : Str) : Int := (cfind ch x).getD 1024
def cput (ch : Chs) (x : Str) (c : Int) : Chs := if (ch.any fun p => decide (p.1 = x)) = true then ch.map (fun p => if p.1 = x then (p.1, c) else p) else ch ++ [(x, c)]
theorem key_rr' (a b : Str) : decide ((Sum.inr a : Key) = Sum.inr b) = decide (a = b) := key_rr a b
theorem valV_ckv (ch : Chs) (x : Str) : valV (ckv ch) (Sum.inr x) = (cfind ch x).map V.int := by
  unfold valV ckv cfind
  induction ch with
  | nil => rfl
  | cons p r ih =>
    simp only [List.map_cons, List.find?_cons, key_rr]
    split
    · rfl
    · exact ih
theorem putK_ckv (ch : Chs) (x : Str) (c : Int) : putK (ckv ch) (Sum.inr x) (V.int c) = ckv (cput ch x c) := by
  have e : ((ckv ch).any fun kv => decide (kv.1 = (Sum.inr x : Key))) = ch.any fun p => decide (p.1 = x) := by
    unfold ckv
    rw [List.any_map]
    congr 1
    funext p
    exact key_rr p.1 x
  unfold putK cput
  rw [e]
  split
  · unfold ckv
    rw [List.map_map, List.map_map]
    apply List.map_congr_left
    intro p _
    show (if (Sum.inr p.1 : Key) = Sum.inr x then _ else _) = _
    by_cases q : p.1 = x
    · simp [q]
    · simp [q]
  · unfold ckv
    rw [List.map_append]
    rfl
def ChsOk (ch : Chs) : Prop := ∀ p ∈ ch, Ch p.2
theorem cget_ok {ch : Chs} (h : ChsOk ch) (x : Str) : Ch (cget ch x) := by
  unfold cget cfind
  cases e : ch.find? fun p => decide (p.1 = x) with
  | none => exact ch_even
  | some p => exact h p (List.mem_of_find?_eq_some e)
theorem cput_ok {ch : Chs} (h : ChsOk ch) {x : Str} {c : Int} (hc : Ch c) : ChsOk (cput ch x c) := by
  unfold cput
  split
  · intro p hp
    obtain ⟨q, hq, rfl⟩ := List.mem_map.mp hp
    split
    · exact hc
    · exact h q hq
  · intro p hp
    rcases List.mem_append.mp hp with hp | hp
    · exact h p hp
    · rw [List.mem_singleton.mp hp]
      exact hc
theorem cput_len (ch : Chs) (x : Str) (c : Int) : (cput ch x c).length ≤ ch.length + 1 := by
  unfold cput
  split <;> simp
theorem ckv_len (ch : Chs) : (ckv ch).length = ch.length := by unfold ckv; simp
/-! ### letters -/
/-- the digits by 256, the least first -/
def digs : Nat → Int → List Int
  | 0, _ => []
  | k + 1, n => n % 256 :: digs k (n / 256)
theorem digs_len : ∀ (k : Nat) (n : Int), (digs k n).length = k
  | 0, _ => rfl
  | k + 1, n => by simp [digs, digs_len k]
theorem digs_snoc : ∀ (k : Nat) (n : Int), digs (k + 1) n = digs k n ++ [(n / 256 ^ k) % 256]
  | 0, n => by simp [digs]
  | k + 1, n => by
    rw [digs, digs_snoc k (n / 256)]
    rw [digs, List.cons_append]
    congr 3
    rw [Int.ediv_ediv_of_nonneg (by decide), Int.pow_succ']
theorem digs_mem : ∀ {k : Nat} {n d : Int}, d ∈ digs k n → 0 ≤ d ∧ d < 256
  | 0, _, _, h => by cases h
  | k + 1, n, d, h => by
    rcases List.mem_cons.mp h with e | h
    · subst e; omega
    · exact digs_mem h
def lettersIn (k : Nat) (n : Int) : List Int := (digs k n).reverse
/-- up to the next multiple of a unit -/
def ceil (a u : Int) : Int := (a + u - 1) / u
theorem ceil_neg {a u : Int} (h : 0 < u) : -(-a / u) = ceil a u := by
  unfold ceil
  have e : a + u - 1 = -(-a) + (u - 1) := by omega
  have e2 : -a = u * (-a / u) + -a % u := (Int.mul_ediv_add_emod (-a) u).symm
  have r1 := Int.emod_nonneg (-a) (Int.ne_of_gt h)
  have r2 := Int.emod_lt_of_pos (-a) h
  generalize -a / u = q at *
  generalize -a % u = r at *
  have e3 : a + u - 1 = (u - 1 - r) + u * (-q) := by rw [Int.mul_neg]; omega
  rw [e3, Int.add_mul_ediv_left _ _ (Int.ne_of_gt h), Int.ediv_eq_zero_of_lt (by omega) (by omega)]
  omega
/-- how many letters are needed, e ones at most -/
def lcount (s : CS) : Nat → Nat
  | 0 => 0
  | e + 1 => if ceil s.low (256 ^ (e + 1)) * 256 ^ (e + 1) ≥ s.low + s.wide then lcount s e + 1 else 0
theorem lcount_le (s : CS) : ∀ e, lcount s e ≤ e
  | 0 => Nat.le_refl 0
  | e + 1 => by
    have := lcount_le s e
    unfold lcount
    split <;> omega
def lettersOf (s : CS) : List Int := lettersIn (lcount s (s.n + 4)) (ceil s.low (256 ^ (s.n + 4 - lcount s (s.n + 4))))
theorem pow_pos256 (e : Nat) : (0 : Int) < 256 ^ e := Int.pow_pos (by decide)
/-- the number that many letters tell, with noughts behind the end -/
def numL (L : List Int) : Nat → Int
  | 0 => 0
  | m + 1 => numL L m * 256 + L.getD m 0
def Lets (L : List Int) : Prop := ∀ x ∈ L, 0 ≤ x ∧ x < 256
theorem Lets.get {L : List Int} (h : Lets L) (m : Nat) : 0 ≤ L.getD m 0 ∧ L.getD m 0 < 256 := by
  rw [List.getD_eq_getElem?_getD]
  cases e : L[m]? with
  | none => simp
  | some x => exact h x (List.mem_of_getElem? e)
theorem numL_zeros (L : List Int) : ∀ k, numL L (L.length + k) = numL L L.length * 256 ^ k
  | 0 => by simp
  | k + 1 => by
    show numL L (L.length + k) * 256 + L.getD (L.length + k) 0 = _
    rw [numL_zeros L k, List.getD_eq_getElem?_getD, List.getElem?_eq_none (by omega)]
    simp [Int.pow_succ, Int.mul_assoc]
theorem numL_prefix (L M : List Int) : ∀ m, m ≤ L.length → numL (L ++ M) m = numL L m
  | 0, _ => rfl
  | m + 1, h => by
    show numL (L ++ M) m * 256 + (L ++ M).getD m 0 = numL L m * 256 + L.getD m 0
    rw [numL_prefix L M m (by omega)]
    congr 1
    rw [List.getD_eq_getElem?_getD, List.getD_eq_getElem?_getD, List.getElem?_append_left (by omega)]
theorem mod_mul256 (n : Int) {M : Int} (h : 0 < M) : n % (256 * M) = n / 256 % M * 256 + n % 256 := by
  have a := Int.mul_ediv_add_emod n 256
  have b := Int.mul_ediv_add_emod (n / 256) M
  have b1 := Int.emod_nonneg (n / 256) (Int.ne_of_gt h)
  have b2 := Int.emod_lt_of_pos (n / 256) h
  have c1 := Int.emod_nonneg n (show (256 : Int) ≠ 0 by decide)
  have c2 := Int.emod_lt_of_pos n (show (0 : Int) < 256 by decide)
  generalize n / 256 / M = q at *
  generalize n / 256 % M = r at *
  generalize n % 256 = t at *
  have e : n = (r * 256 + t) + 256 * M * q := by rw [← a, ← b, Int.mul_add, Int.mul_assoc]; omega
  rw [e, Int.add_mul_emod_self_left, Int.emod_eq_of_lt (by omega) (by omega)]
theorem numL_letters : ∀ (k : Nat) (n : Int), numL (lettersIn k n) k = n % 256 ^ k
  | 0, n => by simp [numL, Int.emod_one]
  | k + 1, n => by
    have e : lettersIn (k + 1) n = lettersIn k (n / 256) ++ [n % 256] := by unfold lettersIn; simp [digs]
    have l : (lettersIn k (n / 256)).length = k := by unfold lettersIn; simp [digs_len]
    rw [e]
    show numL _ k * 256 + _ = _
    rw [numL_prefix _ _ k (by omega), numL_letters k (n / 256)]
    rw [List.getD_eq_getElem?_getD, List.getElem?_append_right (by omega), l, Nat.sub_self]
    simp only [List.getElem?_cons_zero, Option.getD_some]
    rw [Int.pow_succ', mod_mul256 n (pow_pos256 k)]
end Co
namespace Co
open PySem L2
theorem ceil_ge {a u : Int} (h : 0 < u) : a ≤ ceil a u * u ∧ ceil a u * u < a + u := by
  unfold ceil
  have e := Int.mul_ediv_add_emod (a + u - 1) u
  have r1 := Int.emod_nonneg (a + u - 1) (Int.ne_of_gt h)
  have r2 := Int.emod_lt_of_pos (a + u - 1) h
  rw [Int.mul_comm] at e
  constructor <;> omega
/-- more letters are needed -/
def more (s : CS) (e : Nat) : Prop := ceil s.low (256 ^ e) * 256 ^ e ≥ s.low + s.wide
instance (s : CS) (e : Nat) : Decidable (more s e) := by unfold more; infer_instance
theorem lcount_more (s : CS) (e : Nat) : lcount s (e + 1) = if more s (e + 1) then lcount s e + 1 else 0 := rfl
theorem more_zero {s : CS} (h : s.Ok) : ¬ more s 0 := by
  have := h.lo
  unfold more ceil
  simp
  omega
theorem lcount_stop {s : CS} (h : s.Ok) : ∀ e, ¬ more s (e - lcount s e)
  | 0 => more_zero h
  | e + 1 => by
    rw [lcount_more]
    split
    · have e1 : e + 1 - (lcount s e + 1) = e - lcount s e := by omega
      rw [e1]
      exact lcount_stop h e
    · rename_i q
      exact q
theorem lcount_go {s : CS} : ∀ {e j : Nat}, j < lcount s e → more s (e - j)
  | 0, _, h => by cases h
  | e + 1, j, h => by
    rw [lcount_more] at h
    split at h
    · rename_i q
      cases j with
      | zero => exact q
      | succ j =>
        have e1 : e + 1 - (j + 1) = e - j := by omega
        rw [e1]
        exact lcount_go (by omega)
    · cases h
theorem lettersOf_len (s : CS) : (lettersOf s).length = lcount s (s.n + 4) := by
  unfold lettersOf lettersIn
  simp [digs_len]
theorem lettersOf_ok (s : CS) : Lets (lettersOf s) := by
  intro x hx
  unfold lettersOf lettersIn at hx
  exact digs_mem (List.mem_reverse.mp hx)
/-- the letters tell a number of the part that is left -/
def Has (s : CS) (L : List Int) : Prop := s.low ≤ numL L (s.n + 4) ∧ numL L (s.n + 4) < s.low + s.wide
theorem letters_has {s : CS} (h : s.Ok) : Has s (lettersOf s) := by
  have hm := lcount_le s (s.n + 4)
  have hl := lettersOf_len s
  have hst := lcount_stop h (s.n + 4)
  unfold more at hst
  have e1 : s.n + 4 = (lettersOf s).length + (s.n + 4 - lcount s (s.n + 4)) := by omega
  unfold Has
  rw [e1, numL_zeros, hl]
  generalize hu : (256 : Int) ^ (s.n + 4 - lcount s (s.n + 4)) = u at *
  have hup : 0 < u := by rw [← hu]; exact pow_pos256 _
  have hc := ceil_ge (a := s.low) hup
  have hz := h.z
  have htop := h.top
  have e2 : (256 : Int) ^ (s.n + 4) = 256 ^ (lcount s (s.n + 4)) * u := by
    rw [← hu, ← Int.pow_add]
    congr 1
    omega
  have e3 : numL (lettersOf s) (lcount s (s.n + 4)) = ceil s.low u := by
    unfold lettersOf
    rw [numL_letters, hu]
    refine Int.emod_eq_of_lt ?_ ?_
    · unfold ceil
      exact Int.ediv_nonneg (by omega) (by omega)
    · refine Int.lt_of_mul_lt_mul_right (a := u) ?_ (Int.le_of_lt hup)
      omega
  rw [e3]
  omega
/-- what the reader makes of it -/
def dec (s : CS) (part x : Int) : Int := if s.low + part ≤ x then 1 else 0
theorem numL_back {L : List Int} (hL : Lets L) (m : Nat) : numL L (m + 1) = numL L m * 256 + L.getD m 0 := rfl
theorem has_back {s : CS} {L : List Int} {part v : Int} (hL : Lets L) (hp : PartOk s part) (hv : v = 0 ∨ v = 1) (h : Has (enc s part v) L) : Has s L ∧ dec s part (numL L (s.n + 4)) = v := by
  have g := hL.get (s.n + 4)
  have hb := hp.a
  have hb2 := hp.b
  have key : nlow s part v ≤ numL L (s.n + 4) ∧ numL L (s.n + 4) < nlow s part v + nwide s part v := by
    unfold Has enc at h
    split at h
    · have h1 : nlow s part v * 256 ≤ numL L (s.n + 4) * 256 + L.getD (s.n + 4) 0 := h.1
      have h2 : numL L (s.n + 4) * 256 + L.getD (s.n + 4) 0 < nlow s part v * 256 + nwide s part v * 256 := h.2
      omega
    · exact h
  unfold nlow nwide at key
  unfold Has dec
  rcases hv with rfl | rfl
  · simp only [if_pos] at key
    constructor
    · omega
    · rw [if_neg (by omega)]
  · rw [if_neg (by decide), if_neg (by decide)] at key
    constructor
    · omega
    · rw [if_pos (by omega)]
/-! ### a row of signs -/
abbrev WS := CS × Chs
def WOk (st : WS) : Prop := st.1.Ok ∧ ChsOk st.2
abbrev Sgn := Option Str × Int
def chOf (ch : Chs) : Option Str → Int
  | none => 1024
  | some x => cget ch x
def chPut (ch : Chs) (x : Option Str) (v : Int) : Chs := match x with
  | none => ch
  | some y => cput ch y (learn (cget ch y) v)
def stpW (st : WS) (g : Sgn) : WS := (enc st.1 (partOf st.1 (chOf st.2 g.1)) g.2, chPut st.2 g.1 g.2)
def runW (st : WS) (l : List Sgn) : WS := l.foldl stpW st
theorem chOf_ok {ch : Chs} (h : ChsOk ch) (x : Option Str) : Ch (chOf ch x) := by
  cases x with
  | none => exact ch_even
  | some y => exact cget_ok h y
theorem chPut_ok {ch : Chs} (h : ChsOk ch) (x : Option Str) (v : Int) : ChsOk (chPut ch x v) := by
  cases x with
  | none => exact h
  | some y => exact cput_ok h (learn_ok (cget_ok h y))
theorem chPut_len (ch : Chs) (x : Option Str) (v : Int) : (chPut ch x v).length ≤ ch.length + 1 := by
  cases x with
  | none => exact Nat.le_succ _
  | some y => exact cput_len _ _ _
theorem stpW_ok {st : WS} (h : WOk st) (g : Sgn) : WOk (stpW st g) := ⟨enc_ok h.1 (part_ok h.1 (chOf_ok h.2 g.1)), chPut_ok h.2 g.1 g.2⟩
theorem stpW_n (st : WS) (g : Sgn) : (stpW st g).1.n ≤ st.1.n + 1 ∧ (stpW st g).2.length ≤ st.2.length + 1 := ⟨enc_n.1, chPut_len _ _ _⟩
theorem runW_ok : ∀ {l : List Sgn} {st : WS}, WOk st → WOk (runW st l)
  | [], _, h => h
  | g :: l, st, h => runW_ok (l := l) (stpW_ok h g)
theorem runW_n : ∀ {l : List Sgn} {st : WS}, (runW st l).1.n ≤ st.1.n + l.length ∧ (runW st l).2.length ≤ st.2.length + l.length
  | [], _ => ⟨Nat.le_refl _, Nat.le_refl _⟩
  | g :: l, st => by
    have a := runW_n (l := l) (st := stpW st g)
    have b := stpW_n st g
    have e : runW st (g :: l) = runW (stpW st g) l := rfl
    rw [e, List.length_cons]
    omega
theorem runW_snoc (st : WS) (l : List Sgn) (g : Sgn) : runW st (l ++ [g]) = stpW (runW st l) g := by unfold runW; rw [List.foldl_append]; rfl
theorem runW_app (st : WS) (l m : List Sgn) : runW st (l ++ m) = runW (runW st l) m := by unfold runW; rw [List.foldl_append]
def Bits (l : List Sgn) : Prop := ∀ g ∈ l, g.2 = 0 ∨ g.2 = 1
theorem has_run {L : List Int} (hL : Lets L) {l : List Sgn} {st : WS} (o : WOk st) (b : Bits l) (h : Has (runW st l).1 L) : Has st.1 L := by
  induction l generalizing st with
  | nil =>
    have e : runW st [] = st := rfl
    rw [e] at h
    exact h
  | cons g l ih =>
    have e : runW st (g :: l) = runW (stpW st g) l := rfl
    rw [e] at h
    have h2 := ih (stpW_ok o g) (fun q hq => b q (List.mem_cons_of_mem _ hq)) h
    exact (has_back hL (part_ok o.1 (chOf_ok o.2 g.1)) (b g (List.mem_cons_self ..)) h2).1
/-- a reader of the letters of a row tells the row -/
theorem read_back {L : List Int} (hL : Lets L) {st : WS} {l m : List Sgn} {g : Sgn} (o : WOk st) (b : Bits (l ++ g :: m)) (h : Has (runW st (l ++ g :: m)).1 L) :
    dec (runW st l).1 (partOf (runW st l).1 (chOf (runW st l).2 g.1)) (numL L ((runW st l).1.n + 4)) = g.2 := by
  have e : runW st (l ++ g :: m) = runW (stpW (runW st l) g) m := by rw [runW_app]; rfl
  rw [e] at h
  have o1 := runW_ok (l := l) o
  have b1 : g.2 = 0 ∨ g.2 = 1 := b g (List.mem_append_right _ (List.mem_cons_self ..))
  have h2 := has_run hL (stpW_ok o1 g) (fun q hq => b q (List.mem_append_right _ (List.mem_cons_of_mem _ hq))) h
  exact (has_back hL (part_ok o1.1 (chOf_ok o1.2 g.1)) b1 h2).2
theorem dec_bit (s : CS) (p x : Int) : dec s p x = 0 ∨ dec s p x = 1 := by
  unfold dec
  split
  · exact .inr rfl
  · exact .inl rfl
end Co
namespace Co
open PySem L2
theorem pow256 (k : Nat) : (256 : Int) ^ k = 2 ^ (8 * k) := by rw [Int.pow_mul]; rfl
theorem nabs_lt {x : Int} {k : Nat} (h0 : 0 ≤ x) (h : x < 2 ^ k) : x.natAbs < 2 ^ k := by
  have e : ((x.natAbs : Nat) : Int) = x := Int.natAbs_of_nonneg h0
  have h1 : ((x.natAbs : Nat) : Int) < ((2 ^ k : Nat) : Int) := by
    rw [e, Int.natCast_pow]
    exact h
  exact Int.ofNat_lt.mp h1
theorem pow256_mono {a b : Nat} (h : a ≤ b) : (256 : Int) ^ a ≤ 256 ^ b := by
  obtain ⟨c, rfl⟩ : ∃ c, b = a + c := ⟨b - a, by omega⟩
  have h1 : (1 : Int) ≤ 256 ^ c := pow_pos256 c
  have h2 := Int.mul_le_mul_of_nonneg_left h1 (Int.le_of_lt (pow_pos256 a))
  rw [Int.mul_one] at h2
  rw [Int.pow_add]
  exact h2
theorem mulW_ok {s : CS} (h : s.Ok) (hn : s.n ≤ 60000) {k : Nat} (hk : k ≤ s.n + 4) : CMulW (ceil s.low (256 ^ k)) (256 ^ k) := by
  have up := pow_pos256 k
  have c := ceil_ge (a := s.low) up
  have hz := h.z
  have ht := h.top
  have hlo := h.lo
  have c0 : 0 ≤ ceil s.low (256 ^ k) := by
    unfold ceil
    exact Int.ediv_nonneg (by omega) (by omega)
  have c1 : ceil s.low (256 ^ k) ≤ ceil s.low (256 ^ k) * 256 ^ k := by
    have := Int.mul_le_mul_of_nonneg_left (show (1 : Int) ≤ 256 ^ k from up) c0
    rw [Int.mul_one] at this
    exact this
  have e1 : (256 : Int) ^ k ≤ 256 ^ (s.n + 4) := pow256_mono hk
  have e2 : (256 : Int) ^ (s.n + 4) = 2 ^ (8 * (s.n + 4)) := pow256 _
  have e3 : (2 : Int) ^ (8 * (s.n + 4) + 1) = 2 ^ (8 * (s.n + 4)) * 2 := Int.pow_succ ..
  refine wide_mul (a := 8 * (s.n + 4) + 1) (b := 8 * (s.n + 4) + 1) (nabs_lt c0 ?_) (nabs_lt (by omega) ?_) (by omega) (by omega) (by omega)
  · rw [e3]
    omega
  · rw [e3]
    omega
end Co

namespace Co
open PySem L2
/-! ### numbers told by signs -/
/-- how many times 2 goes into a number, as a power of it -/
def lg (n : Nat) : Nat := if h : n ≤ 1 then 0 else lg (n / 2) + 1
termination_by n
decreasing_by omega
theorem lg_le {n : Nat} (h : n ≤ 1) : lg n = 0 := by rw [lg, dif_pos h]
theorem lg_gt {n : Nat} (h : 1 < n) : lg n = lg (n / 2) + 1 := by rw [lg, dif_neg (by omega)]
theorem lg_pow : ∀ {n : Nat}, 1 ≤ n → 2 ^ lg n ≤ n ∧ n < 2 ^ (lg n + 1)
  | n, h => by
    by_cases q : n ≤ 1
    · rw [lg_le q]
      omega
    · rw [lg_gt (by omega)]
      have := lg_pow (n := n / 2) (by omega)
      rw [Nat.pow_succ 2 (lg (n / 2) + 1), Nat.pow_succ 2 (lg (n / 2))] at *
      omega
termination_by n => n
decreasing_by omega
theorem lg_mono : ∀ {a b : Nat}, a ≤ b → lg a ≤ lg b
  | a, b, h => by
    by_cases q : a ≤ 1
    · rw [lg_le q]
      omega
    · rw [lg_gt (by omega), lg_gt (n := b) (by omega)]
      have := lg_mono (a := a / 2) (b := b / 2) (by omega)
      omega
termination_by a => a
decreasing_by omega
theorem lg_most {n : Nat} (h : n ≤ 8191) : lg n ≤ 12 := by
  have := lg_mono h
  have e : lg 8191 = 12 := by
    rw [lg_gt (by omega), lg_gt (by omega), lg_gt (by omega), lg_gt (by omega), lg_gt (by omega), lg_gt (by omega), lg_gt (by omega), lg_gt (by omega), lg_gt (by omega), lg_gt (by omega), lg_gt (by omega), lg_gt (by omega), lg_le (by omega)]
  omega
/-- the lower signs of a number, the greatest first -/
def lows : Nat → Nat → List Int
  | 0, _ => []
  | k + 1, n => lows k (n / 2) ++ [((n % 2 : Nat) : Int)]
theorem lows_len : ∀ (k n : Nat), (lows k n).length = k
  | 0, _ => rfl
  | k + 1, n => by simp [lows, lows_len k]
theorem lows_bit : ∀ {k n : Nat} {x : Int}, x ∈ lows k n → x = 0 ∨ x = 1
  | 0, _, _, h => by cases h
  | k + 1, n, x, h => by
    rcases List.mem_append.mp h with h | h
    · exact lows_bit h
    · rw [List.mem_singleton.mp h]
      omega
theorem lows_cons : ∀ (k n : Nat), lows (k + 1) n = ((n / 2 ^ k % 2 : Nat) : Int) :: lows k n
  | 0, n => by simp [lows]
  | k + 1, n => by
    rw [lows, lows_cons k (n / 2), lows]
    rw [List.cons_append, Nat.div_div_eq_div_mul, Nat.pow_succ', Nat.mul_comm]
/-- the name of a number's sign -/
def nm (name : Str) (i : Nat) : Str := Str.empty ++ name ++ (" " : Str) ++ Str.ofString (toString (i : Int))
def numUp (name : Str) : Nat → Nat → List Sgn
  | _, 0 => []
  | m, k + 1 => (some (nm name m), 1) :: numUp name (m + 1) k
theorem numUp_len (name : Str) : ∀ k m, (numUp name m k).length = k
  | 0, _ => rfl
  | k + 1, m => by simp [numUp, numUp_len name k]
theorem numUp_snoc (name : Str) : ∀ k m, numUp name m (k + 1) = numUp name m k ++ [(some (nm name (m + k)), 1)]
  | 0, m => rfl
  | k + 1, m => by
    rw [numUp, numUp_snoc name k (m + 1), numUp, List.cons_append, show m + 1 + k = m + (k + 1) from by omega]
/-- the signs of a number -/
def numSigns (name : Str) (n most : Nat) : List Sgn :=
  numUp name 0 (lg (n + 1)) ++ ((if lg (n + 1) < lg (most + 1) then [(some (nm name (lg (n + 1))), 0)] else []) ++ (lows (lg (n + 1)) (n + 1)).map fun b => (none, b))
theorem numUp_bits (name : Str) : ∀ k m, Bits (numUp name m k)
  | 0, _ => fun _ h => by cases h
  | k + 1, m => fun g h => by
    rcases List.mem_cons.mp h with e | h
    · rw [e]; exact .inr rfl
    · exact numUp_bits name k (m + 1) g h
theorem Bits.app {l m : List Sgn} (a : Bits l) (b : Bits m) : Bits (l ++ m) := fun g h => by
  rcases List.mem_append.mp h with h | h
  · exact a g h
  · exact b g h
theorem num_bits (name : Str) (n most : Nat) : Bits (numSigns name n most) := by
  refine Bits.app (numUp_bits _ _ _) (Bits.app ?_ ?_)
  · split
    · intro g h
      rw [List.mem_singleton.mp h]
      exact .inl rfl
    · intro g h
      cases h
  · intro g h
    obtain ⟨b, hb, rfl⟩ := List.mem_map.mp h
    exact lows_bit hb
theorem num_len {name : Str} {n most : Nat} (h : n ≤ 8190) : (numSigns name n most).length ≤ 25 := by
  have := lg_most (n := n + 1) (by omega)
  unfold numSigns
  rw [List.length_append, List.length_append, numUp_len, List.length_map, lows_len]
  split <;> simp <;> omega
/-! ### what a reader makes of letters -/
def decS (L : List Int) (st : WS) (x : Option Str) : Int := dec st.1 (partOf st.1 (chOf st.2 x)) (numL L (st.1.n + 4))
/-- a reader of the letters tells these signs -/
def Tells (L : List Int) : WS → List Sgn → Prop
  | _, [] => True
  | st, g :: r => decS L st g.1 = g.2 ∧ Tells L (stpW st g) r
theorem tells_app {L : List Int} : ∀ {l m : List Sgn} {st : WS}, Tells L st (l ++ m) ↔ Tells L st l ∧ Tells L (runW st l) m
  | [], m, st => by simp [Tells, runW]
  | g :: l, m, st => by
    have := tells_app (L := L) (l := l) (m := m) (st := stpW st g)
    show _ ∧ Tells L (stpW st g) (l ++ m) ↔ (_ ∧ _) ∧ Tells L (runW (stpW st g) l) m
    rw [this, and_assoc]
theorem tells_of {L : List Int} (hL : Lets L) {l : List Sgn} {st : WS} (o : WOk st) (b : Bits l) (h : Has (runW st l).1 L) : Tells L st l := by
  induction l generalizing st with
  | nil => trivial
  | cons g l ih =>
    have e : runW st (g :: l) = runW (stpW st g) l := rfl
    rw [e] at h
    have bl : Bits l := fun q hq => b q (List.mem_cons_of_mem _ hq)
    have h2 := has_run hL (stpW_ok o g) bl h
    exact ⟨(has_back hL (part_ok o.1 (chOf_ok o.2 g.1)) (b g (List.mem_cons_self ..)) h2).2, ih (stpW_ok o g) bl h⟩
def rdUp (L : List Int) (name : Str) : Nat → Nat → WS → Nat × WS
  | 0, m, st => (m, st)
  | f + 1, m, st => if decS L st (some (nm name m)) = 1 then rdUp L name f (m + 1) (stpW st (some (nm name m), decS L st (some (nm name m)))) else (m, stpW st (some (nm name m), decS L st (some (nm name m))))
def rdLow (L : List Int) : Nat → Int → WS → Int × WS
  | 0, x, st => (x, st)
  | k + 1, x, st => rdLow L k (2 * x + decS L st none) (stpW st (none, decS L st none))
def rdNumber (L : List Int) (name : Str) (most : Nat) (st : WS) : Int × WS :=
  (min ((rdLow L (rdUp L name (lg (most + 1)) 0 st).1 1 (rdUp L name (lg (most + 1)) 0 st).2).1 - 1) most, (rdLow L (rdUp L name (lg (most + 1)) 0 st).1 1 (rdUp L name (lg (most + 1)) 0 st).2).2)
theorem rdUp_back (L : List Int) (name : Str) (g : Nat) : ∀ (k f m : Nat) (st : WS), k ≤ f → f = g - m → m ≤ g → Tells L st (numUp name m k ++ if m + k < g then [(some (nm name (m + k)), 0)] else []) →
    rdUp L name f m st = (m + k, runW st (numUp name m k ++ if m + k < g then [(some (nm name (m + k)), 0)] else []))
  | 0, 0, m, st, _, hf, hm, _ => by
    have e : ¬ m + 0 < g := by omega
    rw [if_neg e]
    rfl
  | 0, f + 1, m, st, _, hf, hm, h => by
    have e : m + 0 < g := by omega
    rw [if_pos e] at h ⊢
    have h1 : decS L st (some (nm name m)) = 0 := h.1
    rw [rdUp, h1, if_neg (by decide)]
    rfl
  | k + 1, 0, m, st, hk, _, _, _ => by omega
  | k + 1, f + 1, m, st, hk, hf, hm, h => by
    have e : m + (k + 1) = m + 1 + k := by omega
    rw [e] at h ⊢
    have h1 : decS L st (some (nm name m)) = 1 := h.1
    rw [rdUp, h1, if_pos rfl]
    exact rdUp_back L name g k f (m + 1) _ (by omega) (by omega) (by omega) h.2
theorem rdLow_back (L : List Int) (n : Nat) : ∀ (k : Nat) (x : Int) (st : WS), Tells L st ((lows k n).map fun b => (none, b)) → rdLow L k x st = (x * 2 ^ k + ((n % 2 ^ k : Nat) : Int), runW st ((lows k n).map fun b => (none, b)))
  | 0, x, st, _ => by simp [rdLow, lows, runW, Nat.mod_one]
  | k + 1, x, st, h => by
    rw [lows_cons] at h ⊢
    have h1 : decS L st none = ((n / 2 ^ k % 2 : Nat) : Int) := h.1
    rw [rdLow, h1, rdLow_back L n k _ _ h.2]
    refine Prod.ext ?_ rfl
    show (2 * x + _) * 2 ^ k + _ = x * 2 ^ (k + 1) + _
    have a : n % 2 ^ (k + 1) = 2 ^ k * (n / 2 ^ k % 2) + n % 2 ^ k := by
      rw [Nat.pow_succ, Nat.mod_mul, Nat.add_comm]
    rw [a, Int.add_mul, Int.pow_succ, Int.mul_comm 2 x, Int.mul_assoc, Int.mul_comm 2]
    rw [Int.natCast_add, Int.natCast_mul, Int.natCast_pow]
    rw [show (((2 : Nat) : Int) ^ k) = (2 : Int) ^ k from rfl]
    rw [Int.mul_comm ((2 : Int) ^ k) (((n / 2 ^ k % 2 : Nat)) : Int)]
    rw [Int.add_assoc]
/-- a number is read as it was written -/
theorem number_back {L : List Int} {name : Str} {n most : Nat} {st : WS} (h : n ≤ most) (t : Tells L st (numSigns name n most)) : rdNumber L name most st = ((n : Int), runW st (numSigns name n most)) := by
  unfold numSigns at t ⊢
  rw [← List.append_assoc] at t ⊢
  obtain ⟨t1, t2⟩ := tells_app.mp t
  have m := lg_mono (show n + 1 ≤ most + 1 by omega)
  have u := rdUp_back L name (lg (most + 1)) (lg (n + 1)) (lg (most + 1)) 0 st m (by omega) (by omega) (by rw [Nat.zero_add]; exact t1)
  rw [Nat.zero_add] at u
  unfold rdNumber
  rw [u, runW_app st (_ ++ _)]
  have v := rdLow_back L (n + 1) (lg (n + 1)) 1 _ t2
  dsimp only
  rw [v]
  refine Prod.ext ?_ rfl
  show min (1 * 2 ^ lg (n + 1) + (((n + 1) % 2 ^ lg (n + 1) : Nat) : Int) - 1) (most : Int) = n
  have p := lg_pow (n := n + 1) (by omega)
  rw [Nat.pow_succ] at p
  have q : (n + 1) % 2 ^ lg (n + 1) = n + 1 - 2 ^ lg (n + 1) := by
    rw [Nat.mod_eq_sub_mod p.1, Nat.mod_eq_of_lt (by omega)]
  rw [q, Int.one_mul]
  have e : ((2 : Int) ^ lg (n + 1)) = ((2 ^ lg (n + 1) : Nat) : Int) := by rw [Int.natCast_pow]; rfl
  rw [e]
  omega
/-- what a reader makes of a number is one up to the greatest -/
theorem rdLow_pos (L : List Int) : ∀ (k : Nat) (x : Int) (st : WS), 1 ≤ x → 1 ≤ (rdLow L k x st).1
  | 0, _, _, h => h
  | k + 1, x, st, h => rdLow_pos L k _ _ (by
    have := dec_bit st.1 (partOf st.1 (chOf st.2 none)) (numL L (st.1.n + 4))
    unfold decS
    omega)
theorem rdNumber_in (L : List Int) (name : Str) (most : Nat) (st : WS) : 0 ≤ (rdNumber L name most st).1 ∧ (rdNumber L name most st).1 ≤ most := by
  have := rdLow_pos L (rdUp L name (lg (most + 1)) 0 st).1 1 (rdUp L name (lg (most + 1)) 0 st).2 (by decide)
  unfold rdNumber
  dsimp only
  omega
end Co
namespace Co
open PySem L2
theorem str_len_app (a b : Str) : (a ++ b).length = a.length + b.length := Array.size_append ..
theorem small_len : ∀ i : Nat, i ≤ 13 → (Str.ofString (toString (i : Int))).length ≤ 2 ∧ (i : Int).natAbs.log2 < 1920 := by decide +kernel
theorem nm_len {y : Str} (h : y.length ≤ 1000) {i : Nat} (hi : i ≤ 13) : (nm y i).length ≤ sizeLine := by
  have := (small_len i hi).1
  unfold nm
  rw [str_len_app, str_len_app, str_len_app]
  have e1 : Str.empty.length = 0 := rfl
  have e2 : ((" " : Str)).length = 1 := by decide +kernel
  rw [e1, e2]
  exact szle (by omega)
theorem nm_len2 {y : Str} (h : y.length ≤ 1000) : (Str.empty ++ y ++ (" " : Str)).length ≤ sizeLine := by
  rw [str_len_app, str_len_app]
  have e1 : Str.empty.length = 0 := rfl
  have e2 : ((" " : Str)).length = 1 := by decide +kernel
  rw [e1, e2]
  exact szle (by omega)
theorem nm_len1 {y : Str} (h : y.length ≤ 1000) : (Str.empty ++ y).length ≤ sizeLine := by
  rw [str_len_app]
  have e1 : Str.empty.length = 0 := rfl
  rw [e1]
  exact szle (by omega)
end Co

namespace Co
open PySem L2
/-! ### equality of pairs of letters and chances -/
/-- two dicts that hold the same, whole numbers -/
def DDict : Eqv := fun x y H => ∃ a b ks ls, x = V.ref a ∧ y = V.ref b ∧ H a = some (.dK ks) ∧ H b = some (.dK ls) ∧ ks.length = ls.length ∧ ∀ p ∈ ks, valV ls p.1 = some p.2 ∧ ∃ i : Int, p.2 = .int i
theorem rcG_dict {X : Cx} : RcG X 2 DDict := by
  intro A pins s σ H x y u v sb I rx ry D
  obtain ⟨a, b, ks, ls, rfl, rfl, ha, hb, hl, hk⟩ := D
  have hr := sb.room.un
  have hA : A.units < cLine := by omega
  have hA1 : A.in1.units + 1 < cLine := by
    show A.units + 1 + 1 < cLine
    omega
  refine eqR_run I (F := EqV X.K H 1) hA (eqV_run I 1 A.in1 hA1) (.inr ⟨a, b, ks, ls, rfl, rfl, ha, hb, hl, fun p hp => ⟨p.2, (hk p hp).1, .inl ⟨rfl, ?_⟩⟩⟩) rx ry _ _ ⟨rfl, H, I, fun _ _ h => h⟩
  obtain ⟨i, e⟩ := (hk p hp).2
  rw [e]
  rfl
theorem mon_dict : Mon DDict := fun _ _ _ _ e ⟨a, b, ks, ls, h1, h2, ha, hb, hl, hk⟩ => ⟨a, b, ks, ls, h1, h2, e _ _ ha, e _ _ hb, hl, hk⟩
/-- two tuples of a tuple of whole numbers and a dict -/
def DPair (K : PySem.W.Frag) : Eqv := DTup K fun x y H => DTup K DFlat x y H ∨ DDict x y H
theorem op_eqPair {X : Cx} (hr : Room 3 X.A) : OpR X (compareOp CmpOp.Eq) (rEqG (DPair X.K)) :=
  op_eqG (n := 3) (rcG_tup (n := 2) (Mon.or (mon_tup mon_flat) mon_dict) (EqG.or (EqG.mono (eqG_tup (n := 0) mon_flat eqG_flat) (by decide)) (RcG.eqG rcG_dict fun _ _ _ ⟨a, b, _, _, h1, h2, _⟩ => ⟨a, b, h1, h2⟩))) hr
/-! ### {k: v for x in xs} -/
theorem dc_list {K : PySem.W.Frag} {a : Addr} {xs : List V} {g : TG} {tt : TT} {tk tv : TE} {vs : List Nat} {σ : L2.St} {H1 : Hp} {D : Addr} {Qd : Hp → Prop} (Pv : Nat → Hp → Prop)
    (start : Pv 0 (upd H1 D (.dK []))) (stay : ∀ i H, i ≤ xs.length → Pv i H → SqL K H a xs)
    (turn : ∀ (i : Nat) (x : V) (H : Hp), xs[i]? = some x → Pv i H → g x (wipe σ vs) H fun σ2 H2 => wipe σ2 vs = wipe σ vs ∧ tt σ2 H2 fun b H3 => if b = true then tk σ2 H3 fun y H4 => tv σ2 H4 fun z H5 =>
      ∃ kvs k, y = kV k ∧ H5 D = some (.dK kvs) ∧ kvs.length < sizeLine ∧ Pv (i + 1) (upd H5 D (.dK (putK kvs k z))) else Pv (i + 1) H3)
    (after : ∀ H, Pv xs.length H → Qd H) :
    ∃ W : Nat → Nat → Hp → Prop, (∃ m, W 0 m (upd H1 D (.dK []))) ∧ ∀ i m H, W i m H → ((Itl K a).stop i H ∧ Qd H) ∨ ((Itl K a).go i H ∧ ∃ Nx : Hp → Prop, (∀ H', Nx H' → ∃ m', m' < m ∧ W (i + 1) m' H') ∧
      ∀ x H', (Itl K a).yld i H x H' → g x (wipe σ vs) H' fun σ2 H2 => wipe σ2 vs = wipe σ vs ∧ tt σ2 H2 fun b H3 => if b = true then tk σ2 H3 fun y H4 => tv σ2 H4 fun z H5 =>
        ∃ kvs k, y = kV k ∧ H5 D = some (.dK kvs) ∧ kvs.length < sizeLine ∧ Nx (upd H5 D (.dK (putK kvs k z))) else Nx H3) := by
  refine ⟨fun i m H => m + i = xs.length ∧ Pv i H, ⟨xs.length, rfl, start⟩, fun i m H ⟨hm, hp⟩ => ?_⟩
  have hs := stay i H (by omega) hp
  cases m with
  | zero =>
    have e : i = xs.length := by omega
    subst e
    exact .inl ⟨⟨xs, hs, Nat.le_refl _⟩, after H hp⟩
  | succ m =>
    have hi : i < xs.length := by omega
    refine .inr ⟨⟨xs, xs[i], hs, List.getElem?_eq_getElem hi⟩, Pv (i + 1), fun H' q => ⟨m, Nat.lt_succ_self m, by omega, q⟩, fun x H' hy => ?_⟩
    obtain ⟨rfl, hx⟩ := hy
    exact turn i x _ (hx xs hs) hp
/-! ### the chances, by sorted names -/
def chKv (ch : Chs) (ys : List Str) : List (Key × V) := ys.map fun y => (Sum.inr y, V.int (cget ch y))
def DcAt (H : Hp) (q : Addr) (ch : Chs) : Prop := ∃ ys : List Str, H q = some (.dK (chKv ch ys)) ∧ ys.Perm (ch.map (·.1))
theorem valV_chKv (ch : Chs) : ∀ (ys : List Str) (y : Str), y ∈ ys → valV (chKv ch ys) (Sum.inr y) = some (.int (cget ch y))
  | z :: ys, y, h => by
    unfold valV chKv
    rw [List.map_cons, List.find?_cons]
    by_cases e : z = y
    · subst e
      simp
    · have : decide ((Sum.inr z : Key) = Sum.inr y) = false := by
        rw [key_rr]
        exact decide_eq_false e
      rw [this]
      have h2 : y ∈ ys := by
        rcases List.mem_cons.mp h with h | h
        · exact absurd h.symm e
        · exact h
      exact valV_chKv ch ys y h2
theorem chKv_snoc {ch : Chs} {ys : List Str} {y : Str} (h : y ∉ ys) (v : V) (hv : v = .int (cget ch y)) : putK (chKv ch ys) (Sum.inr y) v = chKv ch (ys ++ [y]) := by
  subst hv
  have e : ((chKv ch ys).any fun kv => decide (kv.1 = (Sum.inr y : Key))) = false := by
    rw [List.any_eq_false]
    intro p hp
    obtain ⟨z, hz, rfl⟩ := List.mem_map.mp hp
    rw [key_rr]
    intro q
    have := of_decide_eq_true q
    exact h (this ▸ hz)
  unfold putK
  rw [e]
  unfold chKv
  rw [List.map_append]
  rfl
theorem DcAt.eq {H : Hp} {a b : Addr} {ch : Chs} (x : DcAt H a ch) (y : DcAt H b ch) : DDict (.ref a) (.ref b) H := by
  obtain ⟨ys, h1, p1⟩ := x
  obtain ⟨zs, h2, p2⟩ := y
  refine ⟨a, b, _, _, rfl, rfl, h1, h2, ?_, fun p hp => ?_⟩
  · unfold chKv
    rw [List.length_map, List.length_map, p1.length_eq, p2.length_eq]
  · obtain ⟨z, hz, rfl⟩ := List.mem_map.mp hp
    exact ⟨valV_chKv ch zs z (p2.mem_iff.mpr (p1.mem_iff.mp hz)), _, rfl⟩
theorem valV_ckv_mem {ch : Chs} {y : Str} (h : y ∈ ch.map (·.1)) : valV (ckv ch) (Sum.inr y) = some (.int (cget ch y)) := by
  rw [valV_ckv]
  obtain ⟨p, hp, rfl⟩ := List.mem_map.mp h
  unfold cget cfind
  cases e : ch.find? fun q => decide (q.1 = p.1) with
  | none =>
    have := List.find?_eq_none.mp e p hp
    simp at this
  | some q => rfl
theorem ckv_keys (ch : Chs) : (ckv ch).map (·.1) = (ch.map (·.1)).map Sum.inr := by unfold ckv; simp
theorem cput_keys {ch : Chs} {x : Str} {c : Int} : (cput ch x c).map (·.1) = if x ∈ ch.map (·.1) then ch.map (·.1) else ch.map (·.1) ++ [x] := by
  have e : ((ch.any fun p => decide (p.1 = x)) = true) ↔ x ∈ ch.map (·.1) := by
    rw [List.any_eq_true, List.mem_map]
    constructor
    · rintro ⟨p, hp, q⟩
      exact ⟨p, hp, of_decide_eq_true q⟩
    · rintro ⟨p, hp, q⟩
      exact ⟨p, hp, decide_eq_true q⟩
  unfold cput
  by_cases h : x ∈ ch.map (·.1)
  · rw [if_pos h, if_pos (e.mpr h), List.map_map]
    apply List.map_congr_left
    intro p _
    show (if p.1 = x then (p.1, c) else p).1 = _
    split <;> rfl
  · rw [if_neg h, if_neg (fun q => h (e.mp q)), List.map_append]
    rfl
/-- the names are of these, each once -/
def NmOk (ns : List Str) (ch : Chs) : Prop := (ch.map (·.1)).Nodup ∧ ∀ y ∈ ch.map (·.1), y ∈ ns
theorem NmOk.put {ns : List Str} {ch : Chs} (h : NmOk ns ch) {x : Option Str} (hx : ∀ y, x = some y → y ∈ ns) (v : Int) : NmOk ns (chPut ch x v) := by
  cases x with
  | none => exact h
  | some y =>
    unfold chPut NmOk
    dsimp only
    rw [cput_keys]
    split
    · exact h
    · rename_i q
      refine ⟨List.nodup_append.mpr ⟨h.1, by simp, fun a ha b hb => ?_⟩, fun z hz => ?_⟩
      · rw [List.mem_singleton.mp hb]
        rintro rfl
        exact q ha
      · rcases List.mem_append.mp hz with hz | hz
        · exact h.2 z hz
        · rw [List.mem_singleton.mp hz]
          exact hx y rfl
theorem NmOk.run {ns : List Str} : ∀ {l : List Sgn} {st : WS}, NmOk ns st.2 → (∀ g ∈ l, ∀ y, g.1 = some y → y ∈ ns) → NmOk ns (runW st l).2
  | [], _, h, _ => h
  | g :: l, st, h, hl => NmOk.run (l := l) (st := stpW st g) (h.put (hl g (List.mem_cons_self ..)) g.2) fun q hq => hl q (List.mem_cons_of_mem _ hq)
theorem nd_len : ∀ {l ns : List Str}, l.Nodup → (∀ y ∈ l, y ∈ ns) → l.length ≤ ns.length
  | [], _, _, _ => Nat.zero_le _
  | a :: l, ns, nd, h => by
    have ha := h a (List.mem_cons_self ..)
    have nd' := List.nodup_cons.mp nd
    have := nd_len (l := l) (ns := ns.erase a) nd'.2 fun y hy => (List.mem_erase_of_ne (fun (e : y = a) => nd'.1 (by rw [← e]; exact hy))).mpr (h y (List.mem_cons_of_mem _ hy))
    rw [List.length_erase_of_mem ha] at this
    have p := List.length_pos_of_mem ha
    rw [List.length_cons]
    omega
theorem NmOk.len {ns : List Str} {ch : Chs} (h : NmOk ns ch) : ch.length ≤ ns.length := by
  have := nd_len h.1 h.2
  rw [List.length_map] at this
  exact this
end Co

section
namespace S
open PySem PySem.Spec PyProof.Rows L2 Co
open He (ga ma)
def top (i : Nat) : Stmt := PySem.Challenge.pw_sameshown_k12_numbers_and_signs_refused.main.body.getD i (.Pass ⟨0, 0, 0, 0⟩)
abbrev s_is_whole : Stmt := top 6
abbrev N_is_whole : List Str := ["thing", "least", "most"]
theorem sc_is_whole : FnScope N_is_whole ["thing", "least", "most"] (defScope s_is_whole) := ⟨rfl, rfl, rfl, by decide +kernel, rfl, by decide +kernel, by decide +kernel⟩
abbrev s_letters_in : Stmt := top 17
abbrev N_letters_in : List Str := ["number", "many", "found", "at"]
theorem sc_letters_in : FnScope N_letters_in ["number", "many"] (defScope s_letters_in) := ⟨rfl, rfl, rfl, by decide +kernel, rfl, by decide +kernel, by decide +kernel⟩
abbrev s_need_sign : Stmt := top 19
abbrev N_need_sign : List Str := ["value"]
theorem sc_need_sign : FnScope N_need_sign ["value"] (defScope s_need_sign) := ⟨rfl, rfl, rfl, by decide +kernel, rfl, by decide +kernel, by decide +kernel⟩
abbrev s_Coder_u_init : Stmt := inClass (top 18) 0
abbrev N_Coder_u_init : List Str := ["self"]
theorem sc_Coder_u_init : FnScope N_Coder_u_init ["self"] (defScope s_Coder_u_init) := ⟨rfl, rfl, rfl, by decide +kernel, rfl, by decide +kernel, by decide +kernel⟩
abbrev s_Coder_chance_of : Stmt := inClass (top 18) 2
abbrev N_Coder_chance_of : List Str := ["self", "name"]
theorem sc_Coder_chance_of : FnScope N_Coder_chance_of ["self", "name"] (defScope s_Coder_chance_of) := ⟨rfl, rfl, rfl, by decide +kernel, rfl, by decide +kernel, by decide +kernel⟩
abbrev s_Coder_narrowed : Stmt := inClass (top 18) 3
abbrev N_Coder_narrowed : List Str := ["self", "part", "value"]
theorem sc_Coder_narrowed : FnScope N_Coder_narrowed ["self", "part", "value"] (defScope s_Coder_narrowed) := ⟨rfl, rfl, rfl, by decide +kernel, rfl, by decide +kernel, by decide +kernel⟩
abbrev s_Coder_came : Stmt := inClass (top 18) 4
abbrev N_Coder_came : List Str := ["self"]
theorem sc_Coder_came : FnScope N_Coder_came ["self"] (defScope s_Coder_came) := ⟨rfl, rfl, rfl, by decide +kernel, rfl, by decide +kernel, by decide +kernel⟩
abbrev s_Coder_learn : Stmt := inClass (top 18) 5
abbrev N_Coder_learn : List Str := ["self", "name", "chance", "value"]
theorem sc_Coder_learn : FnScope N_Coder_learn ["self", "name", "chance", "value"] (defScope s_Coder_learn) := ⟨rfl, rfl, rfl, by decide +kernel, rfl, by decide +kernel, by decide +kernel⟩
abbrev s_Writer_bit : Stmt := inClass (top 20) 0
abbrev N_Writer_bit : List Str := ["self", "name", "value", "chance"]
theorem sc_Writer_bit : FnScope N_Writer_bit ["self", "name", "value"] (defScope s_Writer_bit) := ⟨rfl, rfl, rfl, by decide +kernel, rfl, by decide +kernel, by decide +kernel⟩
abbrev s_Writer_even : Stmt := inClass (top 20) 1
abbrev N_Writer_even : List Str := ["self", "value"]
theorem sc_Writer_even : FnScope N_Writer_even ["self", "value"] (defScope s_Writer_even) := ⟨rfl, rfl, rfl, by decide +kernel, rfl, by decide +kernel, by decide +kernel⟩
abbrev s_Writer_letters : Stmt := inClass (top 20) 3
abbrev N_Writer_letters : List Str := ["self", "many", "unit"]
theorem sc_Writer_letters : FnScope N_Writer_letters ["self"] (defScope s_Writer_letters) := ⟨rfl, rfl, rfl, by decide +kernel, rfl, by decide +kernel, by decide +kernel⟩
abbrev s_Reader_u_init : Stmt := inClass (top 21) 0
abbrev N_Reader_u_init : List Str := ["self", "letters", "at"]
theorem sc_Reader_u_init : FnScope N_Reader_u_init ["self", "letters"] (defScope s_Reader_u_init) := ⟨rfl, rfl, rfl, by decide +kernel, rfl, by decide +kernel, by decide +kernel⟩
abbrev s_Reader_sign_at : Stmt := inClass (top 21) 1
abbrev N_Reader_sign_at : List Str := ["self", "at"]
theorem sc_Reader_sign_at : FnScope N_Reader_sign_at ["self", "at"] (defScope s_Reader_sign_at) := ⟨rfl, rfl, rfl, by decide +kernel, rfl, by decide +kernel, by decide +kernel⟩
abbrev s_Reader_came : Stmt := inClass (top 21) 2
abbrev N_Reader_came : List Str := ["self"]
theorem sc_Reader_came : FnScope N_Reader_came ["self"] (defScope s_Reader_came) := ⟨rfl, rfl, rfl, by decide +kernel, rfl, by decide +kernel, by decide +kernel⟩
abbrev s_Reader_read_by : Stmt := inClass (top 21) 3
abbrev N_Reader_read_by : List Str := ["self", "chance", "part", "value"]
theorem sc_Reader_read_by : FnScope N_Reader_read_by ["self", "chance"] (defScope s_Reader_read_by) := ⟨rfl, rfl, rfl, by decide +kernel, rfl, by decide +kernel, by decide +kernel⟩
abbrev s_Reader_bit : Stmt := inClass (top 21) 4
abbrev N_Reader_bit : List Str := ["self", "name", "chance", "value"]
theorem sc_Reader_bit : FnScope N_Reader_bit ["self", "name"] (defScope s_Reader_bit) := ⟨rfl, rfl, rfl, by decide +kernel, rfl, by decide +kernel, by decide +kernel⟩
abbrev s_Reader_even : Stmt := inClass (top 21) 5
abbrev N_Reader_even : List Str := ["self"]
theorem sc_Reader_even : FnScope N_Reader_even ["self"] (defScope s_Reader_even) := ⟨rfl, rfl, rfl, by decide +kernel, rfl, by decide +kernel, by decide +kernel⟩
abbrev s_signs_in : Stmt := top 15
abbrev N_signs_in : List Str := ["number", "found"]
theorem sc_signs_in : FnScope N_signs_in ["number"] (defScope s_signs_in) := ⟨rfl, rfl, rfl, by decide +kernel, rfl, by decide +kernel, by decide +kernel⟩
abbrev s_lower_signs : Stmt := top 16
abbrev N_lower_signs : List Str := ["number", "many", "found", "at"]
theorem sc_lower_signs : FnScope N_lower_signs ["number", "many"] (defScope s_lower_signs) := ⟨rfl, rfl, rfl, by decide +kernel, rfl, by decide +kernel, by decide +kernel⟩
abbrev s_Writer_number : Stmt := inClass (top 20) 2
abbrev N_Writer_number : List Str := ["self", "name", "n", "most", "many", "at", "sign"]
theorem sc_Writer_number : FnScope N_Writer_number ["self", "name", "n", "most"] (defScope s_Writer_number) := ⟨rfl, rfl, rfl, by decide +kernel, rfl, by decide +kernel, by decide +kernel⟩
abbrev s_Reader_number : Stmt := inClass (top 21) 6
abbrev N_Reader_number : List Str := ["self", "name", "most", "greatest", "many", "found", "at"]
theorem sc_Reader_number : FnScope N_Reader_number ["self", "name", "most"] (defScope s_Reader_number) := ⟨rfl, rfl, rfl, by decide +kernel, rfl, by decide +kernel, by decide +kernel⟩
abbrev s_l_begin : Stmt := top 23
abbrev N_l_begin : List Str := ["_law_script"]
theorem sc_l_begin : FnScope N_l_begin ["_law_script"] (defScope s_l_begin) := ⟨rfl, rfl, rfl, by decide +kernel, rfl, by decide +kernel, by decide +kernel⟩
abbrev s_l_more : Stmt := top 24
abbrev N_l_more : List Str := ["_law_state", "_law_k", "_law_cells", "_law_cell", "_law_number", "_law_primes", "_law_at", "_law_prime", "_law_one"]
theorem sc_l_more : FnScope N_l_more ["_law_state"] (defScope s_l_more) := ⟨rfl, rfl, rfl, by decide +kernel, rfl, by decide +kernel, by decide +kernel⟩
abbrev s_l_next : Stmt := top 25
abbrev N_l_next : List Str := ["_law_state", "_law_most", "_law_digit"]
theorem sc_l_next : FnScope N_l_next ["_law_state", "_law_most"] (defScope s_l_next) := ⟨rfl, rfl, rfl, by decide +kernel, rfl, by decide +kernel, by decide +kernel⟩
abbrev s_l_pick : Stmt := top 26
abbrev N_l_pick : List Str := ["_law_state", "_law_some"]
theorem sc_l_pick : FnScope N_l_pick ["_law_state", "_law_some"] (defScope s_l_pick) := ⟨rfl, rfl, rfl, by decide +kernel, rfl, by decide +kernel, by decide +kernel⟩
abbrev s_Coder_chances : Stmt := inClass (top 18) 1
abbrev N_Coder_chances : List Str := ["self", "name"]
theorem sc_Coder_chances : FnScope N_Coder_chances ["self"] (defScope s_Coder_chances) := ⟨rfl, rfl, rfl, by decide +kernel, rfl, by decide +kernel, by decide +kernel⟩
abbrev s_l_refused : Stmt := top 27
abbrev N_l_refused : List Str := ["_law_work", "_law_error", "e"]
theorem sc_l_refused : FnScope N_l_refused ["_law_work"] (defScope s_l_refused) := ⟨rfl, rfl, rfl, by decide +kernel, rfl, by decide +kernel, by decide +kernel⟩
abbrev s_l_is_number : Stmt := top 28
abbrev N_l_is_number : List Str := ["_law_thing", "_law_most"]
theorem sc_l_is_number : FnScope N_l_is_number ["_law_thing", "_law_most"] (defScope s_l_is_number) := ⟨rfl, rfl, rfl, by decide +kernel, rfl, by decide +kernel, by decide +kernel⟩
abbrev s_l_odd : Stmt := top 29
abbrev N_l_odd : List Str := ["_law_state"]
theorem sc_l_odd : FnScope N_l_odd ["_law_state"] (defScope s_l_odd) := ⟨rfl, rfl, rfl, by decide +kernel, rfl, by decide +kernel, by decide +kernel⟩
abbrev s_l_tried : Stmt := top 30
abbrev N_l_tried : List Str := ["_law_state", "_law_writer", "_law_written", "_law_power", "_law_k", "_law_most", "_law_n", "_law_way", "_law_ahead", "_law_good", "_law_name", "_law_found"]
theorem sc_l_tried : FnScope N_l_tried ["_law_state", "_law_writer", "_law_written"] (defScope s_l_tried) := ⟨rfl, rfl, rfl, by decide +kernel, rfl, by decide +kernel, by decide +kernel⟩
abbrev s_law : Stmt := top 31
abbrev N_law : List Str := ["_law_script", "_law_state", "_law_writer", "_law_written", "_law_turn", "_law_time", "_law_reader", "_law_way", "_law_name", "_law_n", "_law_most", "_law_found"]
theorem sc_law : FnScope N_law ["_law_script"] (defScope s_law) := ⟨rfl, rfl, rfl, by decide +kernel, rfl, by decide +kernel, by decide +kernel⟩
abbrev FnP (K : PySem.W.Frag) (x qual : Str) (st : Stmt) (f : Addr) (fd : FuncData) : Prop := FunD K x qual (defArgs st) (defBody st) (defScope st) [] [] f fd
structure Txt (K : PySem.W.Frag) (mg : Str → Option Value) where
  d_is_whole : FuncData
  F_is_whole : FnP K "is_whole" "is_whole" s_is_whole (ga K "is_whole") d_is_whole
  b_is_whole : Binds K d_is_whole ["thing", "least", "most"] []
  d_letters_in : FuncData
  F_letters_in : FnP K "letters_in" "letters_in" s_letters_in (ga K "letters_in") d_letters_in
  b_letters_in : Binds K d_letters_in ["number", "many"] []
  d_need_sign : FuncData
  F_need_sign : FnP K "need_sign" "need_sign" s_need_sign (ga K "need_sign") d_need_sign
  b_need_sign : Binds K d_need_sign ["value"] []
  d_Writer_u_init : FuncData
  F_Writer_u_init : FnP K "__init__" "Coder.__init__" s_Coder_u_init (ma K (ga K "Writer") "__init__") d_Writer_u_init
  b_Writer_u_init : Binds K d_Writer_u_init ["self"] []
  d_Writer_chance_of : FuncData
  F_Writer_chance_of : FnP K "chance_of" "Coder.chance_of" s_Coder_chance_of (ma K (ga K "Writer") "chance_of") d_Writer_chance_of
  b_Writer_chance_of : Binds K d_Writer_chance_of ["self", "name"] []
  d_Writer_narrowed : FuncData
  F_Writer_narrowed : FnP K "narrowed" "Coder.narrowed" s_Coder_narrowed (ma K (ga K "Writer") "narrowed") d_Writer_narrowed
  b_Writer_narrowed : Binds K d_Writer_narrowed ["self", "part", "value"] []
  d_Writer_came : FuncData
  F_Writer_came : FnP K "came" "Coder.came" s_Coder_came (ma K (ga K "Writer") "came") d_Writer_came
  b_Writer_came : Binds K d_Writer_came ["self"] []
  d_Writer_learn : FuncData
  F_Writer_learn : FnP K "learn" "Coder.learn" s_Coder_learn (ma K (ga K "Writer") "learn") d_Writer_learn
  b_Writer_learn : Binds K d_Writer_learn ["self", "name", "chance", "value"] []
  d_Writer_bit : FuncData
  F_Writer_bit : FnP K "bit" "Writer.bit" s_Writer_bit (ma K (ga K "Writer") "bit") d_Writer_bit
  b_Writer_bit : Binds K d_Writer_bit ["self", "name", "value"] []
  d_Writer_even : FuncData
  F_Writer_even : FnP K "even" "Writer.even" s_Writer_even (ma K (ga K "Writer") "even") d_Writer_even
  b_Writer_even : Binds K d_Writer_even ["self", "value"] []
  d_Writer_letters : FuncData
  F_Writer_letters : FnP K "letters" "Writer.letters" s_Writer_letters (ma K (ga K "Writer") "letters") d_Writer_letters
  b_Writer_letters : Binds K d_Writer_letters ["self"] []
  d_Coder_u_init : FuncData
  F_Coder_u_init : FnP K "__init__" "Coder.__init__" s_Coder_u_init (ma K (ga K "Coder") "__init__") d_Coder_u_init
  b_Coder_u_init : Binds K d_Coder_u_init ["self"] []
  d_Reader_u_init : FuncData
  F_Reader_u_init : FnP K "__init__" "Reader.__init__" s_Reader_u_init (ma K (ga K "Reader") "__init__") d_Reader_u_init
  b_Reader_u_init : Binds K d_Reader_u_init ["self", "letters"] []
  d_Reader_sign_at : FuncData
  F_Reader_sign_at : FnP K "sign_at" "Reader.sign_at" s_Reader_sign_at (ma K (ga K "Reader") "sign_at") d_Reader_sign_at
  b_Reader_sign_at : Binds K d_Reader_sign_at ["self", "at"] []
  d_Reader_came : FuncData
  F_Reader_came : FnP K "came" "Reader.came" s_Reader_came (ma K (ga K "Reader") "came") d_Reader_came
  b_Reader_came : Binds K d_Reader_came ["self"] []
  d_Reader_read_by : FuncData
  F_Reader_read_by : FnP K "read_by" "Reader.read_by" s_Reader_read_by (ma K (ga K "Reader") "read_by") d_Reader_read_by
  b_Reader_read_by : Binds K d_Reader_read_by ["self", "chance"] []
  d_Reader_bit : FuncData
  F_Reader_bit : FnP K "bit" "Reader.bit" s_Reader_bit (ma K (ga K "Reader") "bit") d_Reader_bit
  b_Reader_bit : Binds K d_Reader_bit ["self", "name"] []
  d_Reader_even : FuncData
  F_Reader_even : FnP K "even" "Reader.even" s_Reader_even (ma K (ga K "Reader") "even") d_Reader_even
  b_Reader_even : Binds K d_Reader_even ["self"] []
  d_Reader_chance_of : FuncData
  F_Reader_chance_of : FnP K "chance_of" "Coder.chance_of" s_Coder_chance_of (ma K (ga K "Reader") "chance_of") d_Reader_chance_of
  b_Reader_chance_of : Binds K d_Reader_chance_of ["self", "name"] []
  d_Reader_narrowed : FuncData
  F_Reader_narrowed : FnP K "narrowed" "Coder.narrowed" s_Coder_narrowed (ma K (ga K "Reader") "narrowed") d_Reader_narrowed
  b_Reader_narrowed : Binds K d_Reader_narrowed ["self", "part", "value"] []
  d_Reader_learn : FuncData
  F_Reader_learn : FnP K "learn" "Coder.learn" s_Coder_learn (ma K (ga K "Reader") "learn") d_Reader_learn
  b_Reader_learn : Binds K d_Reader_learn ["self", "name", "chance", "value"] []
  d_signs_in : FuncData
  F_signs_in : FnP K "signs_in" "signs_in" s_signs_in (ga K "signs_in") d_signs_in
  b_signs_in : Binds K d_signs_in ["number"] []
  d_lower_signs : FuncData
  F_lower_signs : FnP K "lower_signs" "lower_signs" s_lower_signs (ga K "lower_signs") d_lower_signs
  b_lower_signs : Binds K d_lower_signs ["number", "many"] []
  d_Writer_number : FuncData
  F_Writer_number : FnP K "number" "Writer.number" s_Writer_number (ma K (ga K "Writer") "number") d_Writer_number
  b_Writer_number : Binds K d_Writer_number ["self", "name", "n", "most"] []
  d_Reader_number : FuncData
  F_Reader_number : FnP K "number" "Reader.number" s_Reader_number (ma K (ga K "Reader") "number") d_Reader_number
  b_Reader_number : Binds K d_Reader_number ["self", "name", "most"] []
  d_l_begin : FuncData
  F_l_begin : FnP K "_law_begin" "_law_begin" s_l_begin (ga K "_law_begin") d_l_begin
  b_l_begin : Binds K d_l_begin ["_law_script"] []
  d_l_more : FuncData
  F_l_more : FnP K "_law_more" "_law_more" s_l_more (ga K "_law_more") d_l_more
  b_l_more : Binds K d_l_more ["_law_state"] []
  d_l_next : FuncData
  F_l_next : FnP K "_law_next" "_law_next" s_l_next (ga K "_law_next") d_l_next
  b_l_next : Binds K d_l_next ["_law_state", "_law_most"] []
  d_l_pick : FuncData
  F_l_pick : FnP K "_law_pick" "_law_pick" s_l_pick (ga K "_law_pick") d_l_pick
  b_l_pick : Binds K d_l_pick ["_law_state", "_law_some"] []
  d_Writer_chances : FuncData
  F_Writer_chances : FnP K "chances" "Coder.chances" s_Coder_chances (ma K (ga K "Writer") "chances") d_Writer_chances
  b_Writer_chances : Binds K d_Writer_chances ["self"] []
  d_l_refused : FuncData
  F_l_refused : FnP K "_law_refused" "_law_refused" s_l_refused (ga K "_law_refused") d_l_refused
  b_l_refused : Binds K d_l_refused ["_law_work"] []
  d_l_is_number : FuncData
  F_l_is_number : FnP K "_law_is_number" "_law_is_number" s_l_is_number (ga K "_law_is_number") d_l_is_number
  b_l_is_number : Binds K d_l_is_number ["_law_thing", "_law_most"] []
  d_l_odd : FuncData
  F_l_odd : FnP K "_law_odd" "_law_odd" s_l_odd (ga K "_law_odd") d_l_odd
  b_l_odd : Binds K d_l_odd ["_law_state"] []
  d_l_tried : FuncData
  F_l_tried : FnP K "_law_tried" "_law_tried" s_l_tried (ga K "_law_tried") d_l_tried
  b_l_tried : Binds K d_l_tried ["_law_state", "_law_writer", "_law_written"] []
  d_law : FuncData
  F_law : FnP K "law" "law" s_law (ga K "law") d_law
  b_law : Binds K d_law ["_law_script"] []
  g_is_whole : mg "is_whole" = some (.ref (ga K "is_whole"))
  g_letters_in : mg "letters_in" = some (.ref (ga K "letters_in"))
  g_need_sign : mg "need_sign" = some (.ref (ga K "need_sign"))
  mk_Writer : Mk K (ga K "Writer") (ma K (ga K "Writer") "__init__")
  m_Writer_u_init : Meth K (ga K "Writer") "__init__" (ma K (ga K "Writer") "__init__")
  m_Writer_chance_of : Meth K (ga K "Writer") "chance_of" (ma K (ga K "Writer") "chance_of")
  m_Writer_narrowed : Meth K (ga K "Writer") "narrowed" (ma K (ga K "Writer") "narrowed")
  m_Writer_came : Meth K (ga K "Writer") "came" (ma K (ga K "Writer") "came")
  m_Writer_learn : Meth K (ga K "Writer") "learn" (ma K (ga K "Writer") "learn")
  m_Writer_bit : Meth K (ga K "Writer") "bit" (ma K (ga K "Writer") "bit")
  m_Writer_even : Meth K (ga K "Writer") "even" (ma K (ga K "Writer") "even")
  m_Writer_letters : Meth K (ga K "Writer") "letters" (ma K (ga K "Writer") "letters")
  mk_Coder : Mk K (ga K "Coder") (ma K (ga K "Coder") "__init__")
  m_Coder_u_init : Meth K (ga K "Coder") "__init__" (ma K (ga K "Coder") "__init__")
  mk_Reader : Mk K (ga K "Reader") (ma K (ga K "Reader") "__init__")
  m_Reader_u_init : Meth K (ga K "Reader") "__init__" (ma K (ga K "Reader") "__init__")
  m_Reader_sign_at : Meth K (ga K "Reader") "sign_at" (ma K (ga K "Reader") "sign_at")
  m_Reader_came : Meth K (ga K "Reader") "came" (ma K (ga K "Reader") "came")
  m_Reader_read_by : Meth K (ga K "Reader") "read_by" (ma K (ga K "Reader") "read_by")
  m_Reader_bit : Meth K (ga K "Reader") "bit" (ma K (ga K "Reader") "bit")
  m_Reader_even : Meth K (ga K "Reader") "even" (ma K (ga K "Reader") "even")
  m_Reader_chance_of : Meth K (ga K "Reader") "chance_of" (ma K (ga K "Reader") "chance_of")
  m_Reader_narrowed : Meth K (ga K "Reader") "narrowed" (ma K (ga K "Reader") "narrowed")
  m_Reader_learn : Meth K (ga K "Reader") "learn" (ma K (ga K "Reader") "learn")
  g_signs_in : mg "signs_in" = some (.ref (ga K "signs_in"))
  g_lower_signs : mg "lower_signs" = some (.ref (ga K "lower_signs"))
  m_Writer_number : Meth K (ga K "Writer") "number" (ma K (ga K "Writer") "number")
  m_Reader_number : Meth K (ga K "Reader") "number" (ma K (ga K "Reader") "number")
  g_l_begin : mg "_law_begin" = some (.ref (ga K "_law_begin"))
  g_l_more : mg "_law_more" = some (.ref (ga K "_law_more"))
  g_l_next : mg "_law_next" = some (.ref (ga K "_law_next"))
  g_l_pick : mg "_law_pick" = some (.ref (ga K "_law_pick"))
  m_Writer_chances : Meth K (ga K "Writer") "chances" (ma K (ga K "Writer") "chances")
  g_l_refused : mg "_law_refused" = some (.ref (ga K "_law_refused"))
  g_l_is_number : mg "_law_is_number" = some (.ref (ga K "_law_is_number"))
  g_l_odd : mg "_law_odd" = some (.ref (ga K "_law_odd"))
  g_l_tried : mg "_law_tried" = some (.ref (ga K "_law_tried"))
  g_law : mg "law" = some (.ref (ga K "law"))
  g_Writer : mg "Writer" = some (.ref (ga K "Writer"))
  cl_Writer : Cls K (ga K "Writer")
  na_Writer_low : NoAttr K (ga K "Writer") "low"
  na_Writer_breadth : NoAttr K (ga K "Writer") "breadth"
  na_Writer_room : NoAttr K (ga K "Writer") "room"
  na_Writer_sent : NoAttr K (ga K "Writer") "sent"
  na_Writer_learned_ones : NoAttr K (ga K "Writer") "learned_ones"
  g_Reader : mg "Reader" = some (.ref (ga K "Reader"))
  cl_Reader : Cls K (ga K "Reader")
  na_Reader_low : NoAttr K (ga K "Reader") "low"
  na_Reader_breadth : NoAttr K (ga K "Reader") "breadth"
  na_Reader_room : NoAttr K (ga K "Reader") "room"
  na_Reader_sent : NoAttr K (ga K "Reader") "sent"
  na_Reader_learned_ones : NoAttr K (ga K "Reader") "learned_ones"
  na_Reader_signs : NoAttr K (ga K "Reader") "signs"
  na_Reader_code : NoAttr K (ga K "Reader") "code"
  g_Coder : mg "Coder" = some (.ref (ga K "Coder"))
  cl_Coder : Cls K (ga K "Coder")
  na_Coder_low : NoAttr K (ga K "Coder") "low"
  na_Coder_breadth : NoAttr K (ga K "Coder") "breadth"
  na_Coder_room : NoAttr K (ga K "Coder") "room"
  na_Coder_sent : NoAttr K (ga K "Coder") "sent"
  na_Coder_learned_ones : NoAttr K (ga K "Coder") "learned_ones"
  g_ShownError : mg "ShownError" = some (.ref (ga K "ShownError"))
  g_BadNumber : mg "BadNumber" = some (.ref (ga K "BadNumber"))
  g_BadPicture : mg "BadPicture" = some (.ref (ga K "BadPicture"))
  g_BadChoices : mg "BadChoices" = some (.ref (ga K "BadChoices"))
  x_BadNumber : PySem.W.excIn K (ga K "BadNumber") He.veBase "ValueError.__new__" = true ∧ PySem.W.keepIn K (.ref (ga K "BadNumber")) = true ∧ PySem.W.subIn K (.ref (ga K "BadNumber")) (.type "BaseException") = some true ∧ PySem.W.typeIn K (.ref (ga K "BadNumber")) = some (.type "type")
  g_EVEN : ∃ t, mg "EVEN" = some (.int (1024) t)
  g_WHOLE : ∃ t, mg "WHOLE" = some (.int (2048) t)
  g_SLOW : ∃ t, mg "SLOW" = some (.int (32) t)
  g_LEAST_BREADTH : ∃ t, mg "LEAST_BREADTH" = some (.int (16777216) t)
  g_FIRST_BREADTH : ∃ t, mg "FIRST_BREADTH" = some (.int (4294967296) t)
  g_AHEAD : ∃ t, mg "AHEAD" = some (.int (4) t)
  g_MOST_NUMBER : ∃ t, mg "MOST_NUMBER" = some (.int (8190) t)
  n_isinstance : mg "isinstance" = none
  n_int : mg "int" = none
  n_bool : mg "bool" = none
  n_len : mg "len" = none
  n_range : mg "range" = none
  n_tuple : mg "tuple" = none
  n_list : mg "list" = none
  n_abs : mg "abs" = none
  n_enumerate : mg "enumerate" = none
  n_min : mg "min" = none
  n_max : mg "max" = none
  n_sorted : mg "sorted" = none
  ec_BadNumber : ExcC K (ga K "BadNumber")
  exm_BadNumber_ShownError : PySem.W.exmOne K (.ref (ga K "BadNumber")) (.ref (ga K "ShownError")) = some true
  cf_Coder_init : ClF K (ga K "Coder") (ma K (ga K "Coder") "__init__") "__init__"
  ka_BadNumber : PySem.W.kitAny K (.ref (ga K "BadNumber")) [.ref (ga K "BadPicture"), .ref (ga K "BadChoices")] = some false
def fn : List He.DefD := [
  ⟨("is_whole", none), "is_whole", "is_whole", defArgs s_is_whole, defBody s_is_whole, defScope s_is_whole, [], []⟩,
  ⟨("letters_in", none), "letters_in", "letters_in", defArgs s_letters_in, defBody s_letters_in, defScope s_letters_in, [], []⟩,
  ⟨("need_sign", none), "need_sign", "need_sign", defArgs s_need_sign, defBody s_need_sign, defScope s_need_sign, [], []⟩,
  ⟨("Writer", some "__init__"), "__init__", "Coder.__init__", defArgs s_Coder_u_init, defBody s_Coder_u_init, defScope s_Coder_u_init, [], []⟩,
  ⟨("Writer", some "chance_of"), "chance_of", "Coder.chance_of", defArgs s_Coder_chance_of, defBody s_Coder_chance_of, defScope s_Coder_chance_of, [], []⟩,
  ⟨("Writer", some "narrowed"), "narrowed", "Coder.narrowed", defArgs s_Coder_narrowed, defBody s_Coder_narrowed, defScope s_Coder_narrowed, [], []⟩,
  ⟨("Writer", some "came"), "came", "Coder.came", defArgs s_Coder_came, defBody s_Coder_came, defScope s_Coder_came, [], []⟩,
  ⟨("Writer", some "learn"), "learn", "Coder.learn", defArgs s_Coder_learn, defBody s_Coder_learn, defScope s_Coder_learn, [], []⟩,
  ⟨("Writer", some "bit"), "bit", "Writer.bit", defArgs s_Writer_bit, defBody s_Writer_bit, defScope s_Writer_bit, [], []⟩,
  ⟨("Writer", some "even"), "even", "Writer.even", defArgs s_Writer_even, defBody s_Writer_even, defScope s_Writer_even, [], []⟩,
  ⟨("Writer", some "letters"), "letters", "Writer.letters", defArgs s_Writer_letters, defBody s_Writer_letters, defScope s_Writer_letters, [], []⟩,
  ⟨("Coder", some "__init__"), "__init__", "Coder.__init__", defArgs s_Coder_u_init, defBody s_Coder_u_init, defScope s_Coder_u_init, [], []⟩,
  ⟨("Reader", some "__init__"), "__init__", "Reader.__init__", defArgs s_Reader_u_init, defBody s_Reader_u_init, defScope s_Reader_u_init, [], []⟩,
  ⟨("Reader", some "sign_at"), "sign_at", "Reader.sign_at", defArgs s_Reader_sign_at, defBody s_Reader_sign_at, defScope s_Reader_sign_at, [], []⟩,
  ⟨("Reader", some "came"), "came", "Reader.came", defArgs s_Reader_came, defBody s_Reader_came, defScope s_Reader_came, [], []⟩,
  ⟨("Reader", some "read_by"), "read_by", "Reader.read_by", defArgs s_Reader_read_by, defBody s_Reader_read_by, defScope s_Reader_read_by, [], []⟩,
  ⟨("Reader", some "bit"), "bit", "Reader.bit", defArgs s_Reader_bit, defBody s_Reader_bit, defScope s_Reader_bit, [], []⟩,
  ⟨("Reader", some "even"), "even", "Reader.even", defArgs s_Reader_even, defBody s_Reader_even, defScope s_Reader_even, [], []⟩,
  ⟨("Reader", some "chance_of"), "chance_of", "Coder.chance_of", defArgs s_Coder_chance_of, defBody s_Coder_chance_of, defScope s_Coder_chance_of, [], []⟩,
  ⟨("Reader", some "narrowed"), "narrowed", "Coder.narrowed", defArgs s_Coder_narrowed, defBody s_Coder_narrowed, defScope s_Coder_narrowed, [], []⟩,
  ⟨("Reader", some "learn"), "learn", "Coder.learn", defArgs s_Coder_learn, defBody s_Coder_learn, defScope s_Coder_learn, [], []⟩,
  ⟨("signs_in", none), "signs_in", "signs_in", defArgs s_signs_in, defBody s_signs_in, defScope s_signs_in, [], []⟩,
  ⟨("lower_signs", none), "lower_signs", "lower_signs", defArgs s_lower_signs, defBody s_lower_signs, defScope s_lower_signs, [], []⟩,
  ⟨("Writer", some "number"), "number", "Writer.number", defArgs s_Writer_number, defBody s_Writer_number, defScope s_Writer_number, [], []⟩,
  ⟨("Reader", some "number"), "number", "Reader.number", defArgs s_Reader_number, defBody s_Reader_number, defScope s_Reader_number, [], []⟩,
  ⟨("_law_begin", none), "_law_begin", "_law_begin", defArgs s_l_begin, defBody s_l_begin, defScope s_l_begin, [], []⟩,
  ⟨("_law_more", none), "_law_more", "_law_more", defArgs s_l_more, defBody s_l_more, defScope s_l_more, [], []⟩,
  ⟨("_law_next", none), "_law_next", "_law_next", defArgs s_l_next, defBody s_l_next, defScope s_l_next, [], []⟩,
  ⟨("_law_pick", none), "_law_pick", "_law_pick", defArgs s_l_pick, defBody s_l_pick, defScope s_l_pick, [], []⟩,
  ⟨("Writer", some "chances"), "chances", "Coder.chances", defArgs s_Coder_chances, defBody s_Coder_chances, defScope s_Coder_chances, [], []⟩,
  ⟨("_law_refused", none), "_law_refused", "_law_refused", defArgs s_l_refused, defBody s_l_refused, defScope s_l_refused, [], []⟩,
  ⟨("_law_is_number", none), "_law_is_number", "_law_is_number", defArgs s_l_is_number, defBody s_l_is_number, defScope s_l_is_number, [], []⟩,
  ⟨("_law_odd", none), "_law_odd", "_law_odd", defArgs s_l_odd, defBody s_l_odd, defScope s_l_odd, [], []⟩,
  ⟨("_law_tried", none), "_law_tried", "_law_tried", defArgs s_l_tried, defBody s_l_tried, defScope s_l_tried, [], []⟩,
  ⟨("law", none), "law", "law", defArgs s_law, defBody s_law, defScope s_law, [], []⟩]
def fa : List He.Fa := [
  .glo "is_whole",
  .glo "letters_in",
  .glo "need_sign",
  .mkr "Writer",
  .meth "Writer" "__init__",
  .meth "Writer" "chance_of",
  .meth "Writer" "narrowed",
  .meth "Writer" "came",
  .meth "Writer" "learn",
  .meth "Writer" "bit",
  .meth "Writer" "even",
  .meth "Writer" "letters",
  .mkr "Coder",
  .meth "Coder" "__init__",
  .mkr "Reader",
  .meth "Reader" "__init__",
  .meth "Reader" "sign_at",
  .meth "Reader" "came",
  .meth "Reader" "read_by",
  .meth "Reader" "bit",
  .meth "Reader" "even",
  .meth "Reader" "chance_of",
  .meth "Reader" "narrowed",
  .meth "Reader" "learn",
  .glo "signs_in",
  .glo "lower_signs",
  .meth "Writer" "number",
  .meth "Reader" "number",
  .glo "_law_begin",
  .glo "_law_more",
  .glo "_law_next",
  .glo "_law_pick",
  .meth "Writer" "chances",
  .glo "_law_refused",
  .glo "_law_is_number",
  .glo "_law_odd",
  .glo "_law_tried",
  .glo "law",
  .glo "Writer",
  .cls "Writer",
  .noat "Writer" "low",
  .noat "Writer" "breadth",
  .noat "Writer" "room",
  .noat "Writer" "sent",
  .noat "Writer" "learned_ones",
  .glo "Reader",
  .cls "Reader",
  .noat "Reader" "low",
  .noat "Reader" "breadth",
  .noat "Reader" "room",
  .noat "Reader" "sent",
  .noat "Reader" "learned_ones",
  .noat "Reader" "signs",
  .noat "Reader" "code",
  .glo "Coder",
  .cls "Coder",
  .noat "Coder" "low",
  .noat "Coder" "breadth",
  .noat "Coder" "room",
  .noat "Coder" "sent",
  .noat "Coder" "learned_ones",
  .glo "ShownError",
  .glo "BadNumber",
  .glo "BadPicture",
  .glo "BadChoices",
  .exc "BadNumber",
  .int "EVEN" (1024),
  .int "WHOLE" (2048),
  .int "SLOW" (32),
  .int "LEAST_BREADTH" (16777216),
  .int "FIRST_BREADTH" (4294967296),
  .int "AHEAD" (4),
  .int "MOST_NUMBER" (8190),
  .free "isinstance",
  .free "int",
  .free "bool",
  .free "len",
  .free "range",
  .free "tuple",
  .free "list",
  .free "abs",
  .free "enumerate",
  .free "min",
  .free "max",
  .free "sorted"]
def xs : List (PySem.W.Frag → Bool) := [fun K => excCB K (ga K "BadNumber"), fun K => (PySem.W.exmOne K (.ref (ga K "BadNumber")) (.ref (ga K "ShownError")) == some true), fun K => clfB K (ga K "Coder") (ma K (ga K "Coder") "__init__") "__init__", fun K => (PySem.W.kitAny K (.ref (ga K "BadNumber")) [.ref (ga K "BadPicture"), .ref (ga K "BadChoices")] == some false)]
def ex (K : PySem.W.Frag) : Bool := xs.all fun f => f K
abbrev tf : List He.Defn := [("_law_tried", none)]
theorem txt_of {K : PySem.W.Frag} {h : Heap} {mg : Str → Option Value} (X : K.In h) (G : h.Ns mainGlobals mg) (c : He.SaysD fa fn K) (c2 : ex K = true) : Nonempty (Txt K mg) := by
  have ax : ∀ f ∈ xs, f K = true := fun f hf => List.all_eq_true.mp c2 f hf
  obtain ⟨d0, F0⟩ := c.def_ 0 rfl
  have b0 : Binds K d0 ["thing", "least", "most"] [] := FunD.bindsN F0 fun _ _ _ _ _ _ us hl => match us, hl with | [_, _, _], _ => rfl
  obtain ⟨d1, F1⟩ := c.def_ 1 rfl
  have b1 : Binds K d1 ["number", "many"] [] := FunD.bindsN F1 fun _ _ _ _ _ _ us hl => match us, hl with | [_, _], _ => rfl
  obtain ⟨d2, F2⟩ := c.def_ 2 rfl
  have b2 : Binds K d2 ["value"] [] := FunD.bindsN F2 fun _ _ _ _ _ _ us hl => match us, hl with | [_], _ => rfl
  obtain ⟨d3, F3⟩ := c.def_ 3 rfl
  have b3 : Binds K d3 ["self"] [] := FunD.bindsN F3 fun _ _ _ _ _ _ us hl => match us, hl with | [_], _ => rfl
  obtain ⟨d4, F4⟩ := c.def_ 4 rfl
  have b4 : Binds K d4 ["self", "name"] [] := FunD.bindsN F4 fun _ _ _ _ _ _ us hl => match us, hl with | [_, _], _ => rfl
  obtain ⟨d5, F5⟩ := c.def_ 5 rfl
  have b5 : Binds K d5 ["self", "part", "value"] [] := FunD.bindsN F5 fun _ _ _ _ _ _ us hl => match us, hl with | [_, _, _], _ => rfl
  obtain ⟨d6, F6⟩ := c.def_ 6 rfl
  have b6 : Binds K d6 ["self"] [] := FunD.bindsN F6 fun _ _ _ _ _ _ us hl => match us, hl with | [_], _ => rfl
  obtain ⟨d7, F7⟩ := c.def_ 7 rfl
  have b7 : Binds K d7 ["self", "name", "chance", "value"] [] := FunD.bindsN F7 fun _ _ _ _ _ _ us hl => match us, hl with | [_, _, _, _], _ => rfl
  obtain ⟨d8, F8⟩ := c.def_ 8 rfl
  have b8 : Binds K d8 ["self", "name", "value"] [] := FunD.bindsN F8 fun _ _ _ _ _ _ us hl => match us, hl with | [_, _, _], _ => rfl
  obtain ⟨d9, F9⟩ := c.def_ 9 rfl
  have b9 : Binds K d9 ["self", "value"] [] := FunD.bindsN F9 fun _ _ _ _ _ _ us hl => match us, hl with | [_, _], _ => rfl
  obtain ⟨d10, F10⟩ := c.def_ 10 rfl
  have b10 : Binds K d10 ["self"] [] := FunD.bindsN F10 fun _ _ _ _ _ _ us hl => match us, hl with | [_], _ => rfl
  obtain ⟨d11, F11⟩ := c.def_ 11 rfl
  have b11 : Binds K d11 ["self"] [] := FunD.bindsN F11 fun _ _ _ _ _ _ us hl => match us, hl with | [_], _ => rfl
  obtain ⟨d12, F12⟩ := c.def_ 12 rfl
  have b12 : Binds K d12 ["self", "letters"] [] := FunD.bindsN F12 fun _ _ _ _ _ _ us hl => match us, hl with | [_, _], _ => rfl
  obtain ⟨d13, F13⟩ := c.def_ 13 rfl
  have b13 : Binds K d13 ["self", "at"] [] := FunD.bindsN F13 fun _ _ _ _ _ _ us hl => match us, hl with | [_, _], _ => rfl
  obtain ⟨d14, F14⟩ := c.def_ 14 rfl
  have b14 : Binds K d14 ["self"] [] := FunD.bindsN F14 fun _ _ _ _ _ _ us hl => match us, hl with | [_], _ => rfl
  obtain ⟨d15, F15⟩ := c.def_ 15 rfl
  have b15 : Binds K d15 ["self", "chance"] [] := FunD.bindsN F15 fun _ _ _ _ _ _ us hl => match us, hl with | [_, _], _ => rfl
  obtain ⟨d16, F16⟩ := c.def_ 16 rfl
  have b16 : Binds K d16 ["self", "name"] [] := FunD.bindsN F16 fun _ _ _ _ _ _ us hl => match us, hl with | [_, _], _ => rfl
  obtain ⟨d17, F17⟩ := c.def_ 17 rfl
  have b17 : Binds K d17 ["self"] [] := FunD.bindsN F17 fun _ _ _ _ _ _ us hl => match us, hl with | [_], _ => rfl
  obtain ⟨d18, F18⟩ := c.def_ 18 rfl
  have b18 : Binds K d18 ["self", "name"] [] := FunD.bindsN F18 fun _ _ _ _ _ _ us hl => match us, hl with | [_, _], _ => rfl
  obtain ⟨d19, F19⟩ := c.def_ 19 rfl
  have b19 : Binds K d19 ["self", "part", "value"] [] := FunD.bindsN F19 fun _ _ _ _ _ _ us hl => match us, hl with | [_, _, _], _ => rfl
  obtain ⟨d20, F20⟩ := c.def_ 20 rfl
  have b20 : Binds K d20 ["self", "name", "chance", "value"] [] := FunD.bindsN F20 fun _ _ _ _ _ _ us hl => match us, hl with | [_, _, _, _], _ => rfl
  obtain ⟨d21, F21⟩ := c.def_ 21 rfl
  have b21 : Binds K d21 ["number"] [] := FunD.bindsN F21 fun _ _ _ _ _ _ us hl => match us, hl with | [_], _ => rfl
  obtain ⟨d22, F22⟩ := c.def_ 22 rfl
  have b22 : Binds K d22 ["number", "many"] [] := FunD.bindsN F22 fun _ _ _ _ _ _ us hl => match us, hl with | [_, _], _ => rfl
  obtain ⟨d23, F23⟩ := c.def_ 23 rfl
  have b23 : Binds K d23 ["self", "name", "n", "most"] [] := FunD.bindsN F23 fun _ _ _ _ _ _ us hl => match us, hl with | [_, _, _, _], _ => rfl
  obtain ⟨d24, F24⟩ := c.def_ 24 rfl
  have b24 : Binds K d24 ["self", "name", "most"] [] := FunD.bindsN F24 fun _ _ _ _ _ _ us hl => match us, hl with | [_, _, _], _ => rfl
  obtain ⟨d25, F25⟩ := c.def_ 25 rfl
  have b25 : Binds K d25 ["_law_script"] [] := FunD.bindsN F25 fun _ _ _ _ _ _ us hl => match us, hl with | [_], _ => rfl
  obtain ⟨d26, F26⟩ := c.def_ 26 rfl
  have b26 : Binds K d26 ["_law_state"] [] := FunD.bindsN F26 fun _ _ _ _ _ _ us hl => match us, hl with | [_], _ => rfl
  obtain ⟨d27, F27⟩ := c.def_ 27 rfl
  have b27 : Binds K d27 ["_law_state", "_law_most"] [] := FunD.bindsN F27 fun _ _ _ _ _ _ us hl => match us, hl with | [_, _], _ => rfl
  obtain ⟨d28, F28⟩ := c.def_ 28 rfl
  have b28 : Binds K d28 ["_law_state", "_law_some"] [] := FunD.bindsN F28 fun _ _ _ _ _ _ us hl => match us, hl with | [_, _], _ => rfl
  obtain ⟨d29, F29⟩ := c.def_ 29 rfl
  have b29 : Binds K d29 ["self"] [] := FunD.bindsN F29 fun _ _ _ _ _ _ us hl => match us, hl with | [_], _ => rfl
  obtain ⟨d30, F30⟩ := c.def_ 30 rfl
  have b30 : Binds K d30 ["_law_work"] [] := FunD.bindsN F30 fun _ _ _ _ _ _ us hl => match us, hl with | [_], _ => rfl
  obtain ⟨d31, F31⟩ := c.def_ 31 rfl
  have b31 : Binds K d31 ["_law_thing", "_law_most"] [] := FunD.bindsN F31 fun _ _ _ _ _ _ us hl => match us, hl with | [_, _], _ => rfl
  obtain ⟨d32, F32⟩ := c.def_ 32 rfl
  have b32 : Binds K d32 ["_law_state"] [] := FunD.bindsN F32 fun _ _ _ _ _ _ us hl => match us, hl with | [_], _ => rfl
  obtain ⟨d33, F33⟩ := c.def_ 33 rfl
  have b33 : Binds K d33 ["_law_state", "_law_writer", "_law_written"] [] := FunD.bindsN F33 fun _ _ _ _ _ _ us hl => match us, hl with | [_, _, _], _ => rfl
  obtain ⟨d34, F34⟩ := c.def_ 34 rfl
  have b34 : Binds K d34 ["_law_script"] [] := FunD.bindsN F34 fun _ _ _ _ _ _ us hl => match us, hl with | [_], _ => rfl
  exact ⟨⟨d0, F0, b0, d1, F1, b1, d2, F2, b2, d3, F3, b3, d4, F4, b4, d5, F5, b5, d6, F6, b6, d7, F7, b7, d8, F8, b8, d9, F9, b9, d10, F10, b10, d11, F11, b11, d12, F12, b12, d13, F13, b13, d14, F14, b14, d15, F15, b15, d16, F16, b16, d17, F17, b17, d18, F18, b18, d19, F19, b19, d20, F20, b20, d21, F21, b21, d22, F22, b22, d23, F23, b23, d24, F24, b24, d25, F25, b25, d26, F26, b26, d27, F27, b27, d28, F28, b28, d29, F29, b29, d30, F30, b30, d31, F31, b31, d32, F32, b32, d33, F33, b33, d34, F34, b34, He.glo_ok X G (c.fact 0 rfl), He.glo_ok X G (c.fact 1 rfl), He.glo_ok X G (c.fact 2 rfl), He.mkr_ok (c.fact 3 rfl), He.meth_ok (c.fact 4 rfl), He.meth_ok (c.fact 5 rfl), He.meth_ok (c.fact 6 rfl), He.meth_ok (c.fact 7 rfl), He.meth_ok (c.fact 8 rfl), He.meth_ok (c.fact 9 rfl), He.meth_ok (c.fact 10 rfl), He.meth_ok (c.fact 11 rfl), He.mkr_ok (c.fact 12 rfl), He.meth_ok (c.fact 13 rfl), He.mkr_ok (c.fact 14 rfl), He.meth_ok (c.fact 15 rfl), He.meth_ok (c.fact 16 rfl), He.meth_ok (c.fact 17 rfl), He.meth_ok (c.fact 18 rfl), He.meth_ok (c.fact 19 rfl), He.meth_ok (c.fact 20 rfl), He.meth_ok (c.fact 21 rfl), He.meth_ok (c.fact 22 rfl), He.meth_ok (c.fact 23 rfl), He.glo_ok X G (c.fact 24 rfl), He.glo_ok X G (c.fact 25 rfl), He.meth_ok (c.fact 26 rfl), He.meth_ok (c.fact 27 rfl), He.glo_ok X G (c.fact 28 rfl), He.glo_ok X G (c.fact 29 rfl), He.glo_ok X G (c.fact 30 rfl), He.glo_ok X G (c.fact 31 rfl), He.meth_ok (c.fact 32 rfl), He.glo_ok X G (c.fact 33 rfl), He.glo_ok X G (c.fact 34 rfl), He.glo_ok X G (c.fact 35 rfl), He.glo_ok X G (c.fact 36 rfl), He.glo_ok X G (c.fact 37 rfl), He.glo_ok X G (c.fact 38 rfl), He.cls_ok (c.fact 39 rfl), He.noat_ok (c.fact 40 rfl), He.noat_ok (c.fact 41 rfl), He.noat_ok (c.fact 42 rfl), He.noat_ok (c.fact 43 rfl), He.noat_ok (c.fact 44 rfl), He.glo_ok X G (c.fact 45 rfl), He.cls_ok (c.fact 46 rfl), He.noat_ok (c.fact 47 rfl), He.noat_ok (c.fact 48 rfl), He.noat_ok (c.fact 49 rfl), He.noat_ok (c.fact 50 rfl), He.noat_ok (c.fact 51 rfl), He.noat_ok (c.fact 52 rfl), He.noat_ok (c.fact 53 rfl), He.glo_ok X G (c.fact 54 rfl), He.cls_ok (c.fact 55 rfl), He.noat_ok (c.fact 56 rfl), He.noat_ok (c.fact 57 rfl), He.noat_ok (c.fact 58 rfl), He.noat_ok (c.fact 59 rfl), He.noat_ok (c.fact 60 rfl), He.glo_ok X G (c.fact 61 rfl), He.glo_ok X G (c.fact 62 rfl), He.glo_ok X G (c.fact 63 rfl), He.glo_ok X G (c.fact 64 rfl), He.exc_ok (c.fact 65 rfl), He.int_ok X G (c.fact 66 rfl), He.int_ok X G (c.fact 67 rfl), He.int_ok X G (c.fact 68 rfl), He.int_ok X G (c.fact 69 rfl), He.int_ok X G (c.fact 70 rfl), He.int_ok X G (c.fact 71 rfl), He.int_ok X G (c.fact 72 rfl), He.free_ok X G (c.fact 73 rfl), He.free_ok X G (c.fact 74 rfl), He.free_ok X G (c.fact 75 rfl), He.free_ok X G (c.fact 76 rfl), He.free_ok X G (c.fact 77 rfl), He.free_ok X G (c.fact 78 rfl), He.free_ok X G (c.fact 79 rfl), He.free_ok X G (c.fact 80 rfl), He.free_ok X G (c.fact 81 rfl), He.free_ok X G (c.fact 82 rfl), He.free_ok X G (c.fact 83 rfl), He.free_ok X G (c.fact 84 rfl), excC_of (ax _ (List.mem_of_getElem? (i := 0) rfl)), eq_of_beq (ax _ (List.mem_of_getElem? (i := 1) rfl)), clf_of (ax _ (List.mem_of_getElem? (i := 2) rfl)), eq_of_beq (ax _ (List.mem_of_getElem? (i := 3) rfl))⟩⟩
theorem law_binds {K : PySem.W.Frag} {mg : Str → Option Value} (T : Txt K mg) (s : Shared) (v : Value) : BindsTo s T.d_law ⟨[v], []⟩ [("_law_script", v)] := FunD.bindsA (ps := ["_law_script"]) T.F_law (fun _ _ _ _ _ _ us hl => match us, hl with | [_], _ => rfl) s [v] rfl
end S
end

section
namespace S
open PySem PySem.Spec PyProof.Rows L2 Co
open He (ga ma)
variable {P : Program} {w : World} {K : PySem.W.Frag} {mg : Str → Option Value} {base : Heap}
/-! ### the coder's object -/
def cfl (l b r : Int) (n : Nat) (d : Addr) (x : List (Str × V)) : List (Str × V) :=
  ("low", .int l) :: ("breadth", .int b) :: ("room", .int r) :: ("sent", .int n) :: ("learned_ones", .ref d) :: x
section
variable {l b r y : Int} {n : Nat} {d : Addr} {x : List (Str × V)}
theorem cfl_low : (cfl l b r n d x).lookup ("low" : Str) = some (.int l) := by kernel_rfl
theorem cfl_breadth : (cfl l b r n d x).lookup ("breadth" : Str) = some (.int b) := by kernel_rfl
theorem cfl_room : (cfl l b r n d x).lookup ("room" : Str) = some (.int r) := by kernel_rfl
theorem cfl_sent : (cfl l b r n d x).lookup ("sent" : Str) = some (.int n) := by kernel_rfl
theorem cfl_ones : (cfl l b r n d x).lookup ("learned_ones" : Str) = some (.ref d) := by kernel_rfl
theorem put_low : putF "low" (.int y) (cfl l b r n d x) = cfl y b r n d x := by kernel_rfl
theorem put_breadth : putF "breadth" (.int y) (cfl l b r n d x) = cfl l y r n d x := by kernel_rfl
theorem put_room : putF "room" (.int y) (cfl l b r n d x) = cfl l b y n d x := by kernel_rfl
theorem put_sent {m : Nat} : putF "sent" (.int m) (cfl l b r n d x) = cfl l b r m d x := by kernel_rfl
theorem put_sent1 : putF "sent" (.int ((n : Int) + 1)) (cfl l b r n d x) = cfl l b r (n + 1) d x := put_sent (m := n + 1)
theorem cfl_len : (cfl l b r n d x).length = x.length + 5 := rfl
end
/-- the methods' names: no attributes -/
def meths : List Str := ["came", "narrowed", "learn", "chance_of", "bit", "even", "number", "letters", "chances", "sign_at", "read_by"]
theorem meths_ok : (meths.all fun m => ((cfl 0 0 0 0 0 []).lookup m).isNone) = true := by decide +kernel
/-- a name that isn't among the keys -/
theorem look_app {m : Str} {x : List (Str × V)} : ∀ {l l' : List (Str × V)}, l.map (·.1) = l'.map (·.1) → l.lookup m = none → (l' ++ x).lookup m = x.lookup m
  | [], [], _, _ => rfl
  | [], _ :: _, e, _ => by cases e
  | _ :: _, [], e, _ => by cases e
  | (a, u) :: l, (b, v) :: l', e, h => by
    have e1 : a = b := (List.cons.inj e).1
    have e2 : l.map (·.1) = l'.map (·.1) := (List.cons.inj e).2
    subst e1
    rw [List.lookup_cons] at h
    show List.lookup m ((a, v) :: (l' ++ x)) = _
    rw [List.lookup_cons]
    cases q : (m == a) with
    | true =>
      rw [q] at h
      cases h
    | false =>
      rw [q] at h
      exact look_app e2 h
theorem cfl_no {l b r : Int} {n : Nat} {d : Addr} {x : List (Str × V)} {m : Str} (hm : m ∈ meths) (hx : x.lookup m = none) : (cfl l b r n d x).lookup m = none := by
  have h := Option.isNone_iff_eq_none.mp (List.all_eq_true.mp meths_ok m hm)
  have e : cfl l b r n d x = cfl l b r n d [] ++ x := rfl
  rw [e, look_app (l := cfl 0 0 0 0 0 []) (l' := cfl l b r n d []) rfl h]
  exact hx
/-- all tuples stand -/
def Tu (H H' : Hp) : Prop := ∀ a xs, H a = some (.tup xs) → H' a = some (.tup xs)
theorem Fm.tu {S : List Addr} {H H' : Hp} (f : Fm S H H') (h : ∀ a ∈ S, ∀ xs, H a ≠ some (.tup xs)) : Tu H H' := fun a xs e => f a _ e fun m => h a m xs e
/-- a kind of coder: what it bears besides, what came does -/
structure Kd where
  X : Type
  ext : X → List (Str × V)
  stp : Nat → X → X
  pre : Hp → Prop
  nom : ∀ x, ∀ m ∈ meths, (ext x).lookup m = none
  few : ∀ x, (ext x).length ≤ 10
  st : ∀ {H H' : Hp}, Tu H H' → pre H → pre H'
def kW : Kd := ⟨Unit, fun _ => [], fun _ u => u, fun _ => True, fun _ _ _ => rfl, fun _ => Nat.zero_le _, fun _ h => h⟩
theorem ext_ok : (meths.all fun m => (([("signs", V.ref 0), ("code", V.int 0)] : List (Str × V)).lookup m).isNone) = true := by decide +kernel
def rext (t : Addr) (c : Int) : List (Str × V) := [("signs", .ref t), ("code", .int c)]
theorem rext_no (t : Addr) (c : Int) : ∀ m ∈ meths, (rext t c).lookup m = none := fun m hm => by
  have h := Option.isNone_iff_eq_none.mp (List.all_eq_true.mp ext_ok m hm)
  have e : rext t c = rext t c ++ [] := rfl
  rw [e]
  exact look_app (l := [("signs", V.ref 0), ("code", V.int 0)]) rfl h
def kR (t : Addr) (L : List Int) : Kd := ⟨Int, rext t, fun n c => c * 256 + L.getD (n + 3) 0, fun H => H t = some (.tup (L.map V.int)), rext_no t, fun _ => (by decide : 2 ≤ 10), fun h e => h _ _ e⟩
/-- a coder of the class C stands at p, its dict of chances at d -/
structure CAt (k : Kd) (C : Addr) (H : Hp) (p d : Addr) (s : CS) (x : k.X) (ch : Chs) : Prop where
  ob : ∃ dx, H p = some (.ins C dx (cfl s.low s.wide (256 ^ (s.n + 4)) s.n d (k.ext x)))
  dc : H d = some (.dK (ckv ch))
  pr : k.pre H
theorem CAt.ne {k : Kd} {C : Addr} {H : Hp} {p d : Addr} {s : CS} {x : k.X} {ch : Chs} (S : CAt k C H p d s x ch) : p ≠ d := by
  obtain ⟨dx, h⟩ := S.ob
  exact ne_of h S.dc (by intro z; cases z)
theorem CAt.lt {k : Kd} {C : Addr} {H : Hp} {p d : Addr} {s : CS} {x : k.X} {ch : Chs} (_ : CAt k C H p d s x ch) : (cfl s.low s.wide (256 ^ (s.n + 4)) s.n d (k.ext x)).length < 1000 := by
  have := k.few x
  rw [cfl_len]
  omega
/-- what stands besides changes -/
theorem CAt.fm {k : Kd} {C : Addr} {H H' : Hp} {p d : Addr} {s : CS} {x : k.X} {ch : Chs} {S : List Addr} (c : CAt k C H p d s x ch) (f : Fm S H H') (h1 : p ∉ S) (h2 : d ∉ S) (h3 : Tu H H') : CAt k C H' p d s x ch := by
  obtain ⟨⟨dx, h⟩, hd, pr⟩ := c
  exact ⟨⟨dx, f _ _ h h1⟩, f _ _ hd h2, k.st h3 pr⟩
theorem CAt.ex {k : Kd} {C : Addr} {H H' : Hp} {p d : Addr} {s : CS} {x : k.X} {ch : Chs} (c : CAt k C H p d s x ch) (f : Ex H H') : CAt k C H' p d s x ch := by
  obtain ⟨⟨dx, h⟩, hd, pr⟩ := c
  exact ⟨⟨dx, f _ _ h⟩, f _ _ hd, k.st (fun a xs e => f _ _ e) pr⟩
def xenc (k : Kd) (s : CS) (part v : Int) (x : k.X) : k.X := if nwide s part v < 16777216 then k.stp (s.n + 1) x else x
/-! ### promises -/
/-- is a thing a number of the bounds -/
def spIsWhole (K : PySem.W.Frag) : Sp := fun vs H Q _ => ∃ (x : V) (a b : Int), vs = [x, .int a, .int b] ∧ Ty4 K H x ∧ Q (.bl (wholeV x a b)) H
def spLettersIn : Sp := fun vs H Q _ => ∃ (n : Int) (m : Nat), vs = [.int n, .int m] ∧ m ≤ 100000 ∧ ∀ p H', H p = none → Ex H H' → H' p = some (.tup ((lettersIn m n).map V.int)) → Q (.ref p) H'
/-- what is no sign is refused -/
def spNeedSign (K : PySem.W.Frag) : Sp := fun vs H Q E => ∃ x : V, vs = [x] ∧ Ty4 K H x ∧ (wholeV x 0 1 = true → Q .non H) ∧ (wholeV x 0 1 = false → E (.ref (ga K "BadNumber")) none H)
theorem sign_of {x : V} (h : wholeV x 0 1 = true) : ∃ v : Int, x = .int v ∧ (v = 0 ∨ v = 1) := by
  cases x <;> try cases h
  rename_i v
  have := of_decide_eq_true h
  exact ⟨v, rfl, by omega⟩
def spChance (k : Kd) (C : Addr) : Sp := fun vs H Q _ => ∃ p d s x ch, ∃ y : Str, vs = [.ref p, .str y] ∧ CAt k C H p d s x ch ∧ Q (.int (cget ch y)) H
def spCame (k : Kd) (C : Addr) : Sp := fun vs H Q _ => ∃ (p dx d : Addr) (l b r : Int) (n : Nat) (x : k.X), vs = [.ref p] ∧ H p = some (.ins C dx (cfl l b r n d (k.ext x))) ∧ k.pre H ∧ 1 ≤ n ∧
  ∀ H', Fm [p] H H' → H' p = some (.ins C dx (cfl l b r n d (k.ext (k.stp n x)))) → Q .non H'
def spNarrowed (k : Kd) (C : Addr) : Sp := fun vs H Q _ => ∃ p d s x ch, ∃ part v : Int, vs = [.ref p, .int part, .int v] ∧ CAt k C H p d s x ch ∧ (v = 0 ∨ v = 1) ∧ 65536 ≤ nwide s part v ∧
  ∀ H', Fm [p] H H' → CAt k C H' p d (enc s part v) (xenc k s part v x) ch → Q .non H'
def spLearn (k : Kd) (C : Addr) : Sp := fun vs H Q _ => ∃ p d s x ch, ∃ (y : Str) (c v : Int), vs = [.ref p, .str y, .int c, .int v] ∧ CAt k C H p d s x ch ∧ ch.length ≤ 1000000 ∧
  ∀ H', Fm [d] H H' → CAt k C H' p d s x (cput ch y (learn c v)) → Q .non H'
/-- a sign is written, or refused -/
def spBit (K : PySem.W.Frag) (C : Addr) : Sp := fun vs H Q E => ∃ p d s ch, ∃ (y : Str) (x : V), vs = [.ref p, .str y, x] ∧ CAt kW C H p d s () ch ∧ s.Ok ∧ ChsOk ch ∧ ch.length ≤ 1000000 ∧ Ty4 K H x ∧ (wholeV x 0 1 = false → E (.ref (ga K "BadNumber")) none H) ∧
  ∀ v, x = .int v → (v = 0 ∨ v = 1) → ∀ H', Fm [p, d] H H' → CAt kW C H' p d (stpW (s, ch) (some y, v)).1 () (stpW (s, ch) (some y, v)).2 → Q .non H'
def spEven (K : PySem.W.Frag) (C : Addr) : Sp := fun vs H Q E => ∃ p d s ch, ∃ (x : V), vs = [.ref p, x] ∧ CAt kW C H p d s () ch ∧ s.Ok ∧ Ty4 K H x ∧ (wholeV x 0 1 = false → E (.ref (ga K "BadNumber")) none H) ∧
  ∀ v, x = .int v → (v = 0 ∨ v = 1) → ∀ H', Fm [p, d] H H' → CAt kW C H' p d (stpW (s, ch) (none, v)).1 () (stpW (s, ch) (none, v)).2 → Q .non H'
def spLetters (C : Addr) : Sp := fun vs H Q _ => ∃ p d s ch, vs = [.ref p] ∧ CAt kW C H p d s () ch ∧ s.Ok ∧ s.n ≤ 60000 ∧ ∀ q H', H q = none → Ex H H' → H' q = some (.tup ((lettersOf s).map V.int)) → Q (.ref q) H'
/-- a new coder -/
def spInit (C : Addr) : Sp := fun vs H Q _ => ∃ p dx, vs = [.ref p] ∧ H p = some (.ins C dx []) ∧ ∀ d H', H d = none → Fm [p] H H' → H' p = some (.ins C dx (cfl 0 4294967296 4294967296 0 d [])) → H' d = some (.dK []) → Q .non H'
def spSignAt (K : PySem.W.Frag) (C : Addr) : Sp := fun vs H Q _ => ∃ (p dx t : Addr) (L : List Int) (fs : List (Str × V)) (i : Nat), vs = [.ref p, .int i] ∧ H p = some (.ins C dx fs) ∧ fs.lookup ("signs" : Str) = some (.ref t) ∧ SqT K H t (L.map V.int) ∧ Q (.int (L.getD i 0)) H
def spRInit (K : PySem.W.Frag) (C : Addr) : Sp := fun vs H Q _ => ∃ (p dx a : Addr) (L : List Int), vs = [.ref p, .ref a] ∧ H p = some (.ins C dx []) ∧ (SqL K H a (L.map V.int) ∨ H a = some (.tup (L.map V.int))) ∧ ∀ t d H', Fm [p] H H' → H d = none → d ≠ p → CAt (kR t L) C H' p d CS.init (numL L 4) [] → Q .non H'
def spReadBy (t : Addr) (L : List Int) (C : Addr) : Sp := fun vs H Q _ => ∃ p d s x ch, ∃ c : Int, vs = [.ref p, .int c] ∧ CAt (kR t L) C H p d s x ch ∧ s.Ok ∧ Ch c ∧ x = numL L (s.n + 4) ∧
  ∀ H', Fm [p] H H' → CAt (kR t L) C H' p d (enc s (partOf s c) (dec s (partOf s c) x)) (numL L ((enc s (partOf s c) (dec s (partOf s c) x)).n + 4)) ch → Q (.int (dec s (partOf s c) x)) H'
def spRBit (t : Addr) (L : List Int) (C : Addr) : Sp := fun vs H Q _ => ∃ p d s ch, ∃ (y : Str), vs = [.ref p, .str y] ∧ CAt (kR t L) C H p d s (numL L (s.n + 4)) ch ∧ s.Ok ∧ ChsOk ch ∧ ch.length ≤ 1000000 ∧
  ∀ H' v, v = dec s (partOf s (cget ch y)) (numL L (s.n + 4)) → Fm [p, d] H H' → CAt (kR t L) C H' p d (stpW (s, ch) (some y, v)).1 (numL L ((stpW (s, ch) (some y, v)).1.n + 4)) (stpW (s, ch) (some y, v)).2 → Q (.int v) H'
def spREven (t : Addr) (L : List Int) (C : Addr) : Sp := fun vs H Q _ => ∃ p d s ch, vs = [.ref p] ∧ CAt (kR t L) C H p d s (numL L (s.n + 4)) ch ∧ s.Ok ∧
  ∀ H' v, v = dec s (partOf s 1024) (numL L (s.n + 4)) → Fm [p, d] H H' → CAt (kR t L) C H' p d (stpW (s, ch) (none, v)).1 (numL L ((stpW (s, ch) (none, v)).1.n + 4)) (stpW (s, ch) (none, v)).2 → Q (.int v) H'
/-- behind d[k] = v -/
def D0 (d : Addr) (H : Hp) (kvs : List (Key × V)) (k : Key) (v : V) (Q : VK) : Prop := Q .non (upd H d (.dK (putK kvs k v)))
/-! ### the defs -/
theorem ok_letters_in (T : Txt K mg) : FnOk P w K mg base (L2.CX P w) 1 (ga K "letters_in") T.d_letters_in ["number", "many"] spLettersIn := by
  refine T.F_letters_in.ok sc_letters_in (fun vs H Q E h => ?_) (fun cdv A outer s H vs Q E hr h => ?_)
  · obtain ⟨n, m, rfl, _⟩ := h
    rfl
  · obtain ⟨n, m, rfl, hm, k⟩ := h
    refine ⟨_, PSs.nox (pss_cons (ps_set (i := 2) sc_letters_in.nd rfl (Or.inl rfl) (pe_lst pa_nil))
  (pss_cons (ps_for PassesOwn.never rfl (pi_range1 rfl T.n_range (pa_cons (pv 1) pa_nil)) (pg_name (i := 3) sc_letters_in.nd rfl (Or.inl rfl))
  (pss_cons (ps_expr (pe_bm PySem.F.plainAttrs_list PySem.F.slot_list_append PySem.F.type_list_append mt_append (pv 2) (pa_cons (pe_op op_mod (pv 0) pe_int) pa_nil)))
  (pss_one (ps_set (i := 0) sc_letters_in.nd rfl (Or.inl rfl) (pe_op op_fdiv (pv 0) pe_int)))))
  (pss_one (ps_ret (pe_callTy call_tuple_of rfl T.n_tuple boot_tuple (pa_cons (pe_revL (pv 2)) pa_nil)))))), ?_⟩
    refine ⟨by decide, fun p hp => ?_⟩
    refine ⟨_, rfl, (m : Int), rfl, by omega, by omega, ?_⟩
    refine for_range (lo := 0) (n := m) (fun i σ H' => (∃ v, σ = [some (.int (n / 256 ^ i)), some (.int m), some (.ref p), v]) ∧ Ex H H' ∧ H' p = some (.lst ((digs i n).map V.int))) ?_ ?_ ?_
    · exact ⟨⟨none, by simp [L2.start]⟩, Ex.new hp, upd_same⟩
    · rintro i σ H' hi ⟨⟨v, rfl⟩, e, hp'⟩
      refine ⟨_, rfl, tyL hp', _, rfl, _, _, rfl, rfl, by walk_at "n", p, _, _, rfl, rfl, hp', by simp [digs_len]; exact szl (by omega), ?_⟩
      refine ⟨_, rfl, _, _, rfl, rfl, ⟨by decide, by decide⟩, ?_⟩
      refine ⟨⟨_, by rw [Int.pow_succ, ← Int.ediv_ediv_of_nonneg (Int.le_of_lt (Int.pow_pos (by decide)))]; rfl⟩, Ex.mut e hp, ?_⟩
      rw [upd_same, digs_snoc]; simp
    · rintro σ H' ⟨⟨v, rfl⟩, e, hp'⟩
      refine ⟨_, rfl, p, _, rfl, SqLof hp', fun q hq => ?_⟩
      refine ⟨q, _, rfl, .inl ⟨SqLof upd_same, fun l hl => ?_⟩⟩
      refine k l _ (e.back (Ex.back (Ex.new hq) hl)) (Ex.tr e (Ex.tr (Ex.new hq) (Ex.new hl))) ?_
      rw [upd_same]
      unfold lettersIn
      rw [List.map_reverse]
theorem ok_Coder_u_init (T : Txt K mg) {C : Addr} (cl : Cls K C) (n1 : NoAttr K C "low") (n2 : NoAttr K C "breadth") (n3 : NoAttr K C "room") (n4 : NoAttr K C "sent") (n5 : NoAttr K C "learned_ones") {f : Addr} {fd : FuncData} (F : FnP K "__init__" "Coder.__init__" s_Coder_u_init f fd) :
    FnOk P w K mg base (L2.CX P w) 1 f fd ["self"] (spInit C) := by
  refine F.ok sc_Coder_u_init (fun vs H Q E h => ?_) (fun cdv A outer s H vs Q E hr h => ?_)
  · obtain ⟨p, dx, rfl, _⟩ := h
    rfl
  · obtain ⟨p, dx, rfl, hp, k⟩ := h
    refine ⟨_, PSs.nox (pss_cons (ps_fld (pv 0) pe_int rfl)
  (pss_cons (ps_fld (pv 0) (pe_gi rfl T.g_FIRST_BREADTH) rfl)
  (pss_cons (ps_fld (pv 0) (pe_gi rfl T.g_FIRST_BREADTH) rfl)
  (pss_cons (ps_fld (pv 0) pe_int rfl)
  (pss_one (ps_fld (pv 0) pe_dnewK rfl)))))), ?_⟩
    refine ⟨_, rfl, p, C, dx, [], rfl, hp, cl, n1, by decide, ?_⟩
    refine ⟨_, rfl, p, C, dx, _, rfl, upd_same, cl, n2, by decide +kernel, ?_⟩
    refine ⟨_, rfl, p, C, dx, _, rfl, upd_same, cl, n3, by decide +kernel, ?_⟩
    refine ⟨_, rfl, p, C, dx, _, rfl, upd_same, cl, n4, by decide +kernel, ?_⟩
    intro d hd
    have hd' : H d = none := by
      rw [upd_upd, upd_upd, upd_upd] at hd
      by_cases q : d = p
      · rw [q, upd_same] at hd
        cases hd
      · rw [upd_ne q] at hd
        exact hd
    have npd : p ≠ d := ne_of_none hp hd'
    refine ⟨_, rfl, p, C, dx, _, rfl, by rw [upd_ne npd]; exact upd_same, cl, n5, by decide +kernel, ?_⟩
    refine k d _ hd' ?_ ?_ ?_
    · intro a o e hn
      have h1 : a ≠ p := fun z => hn (by simp [z])
      have h2 : a ≠ d := ne_of_none e hd'
      rw [upd_ne h1, upd_ne h2, upd_ne h1, upd_ne h1, upd_ne h1, upd_ne h1]
      exact e
    · rw [upd_same]
      kernel_rfl
    · rw [upd_ne npd.symm, upd_same]

theorem ok_Writer_chance_of (T : Txt K mg)  : FnOk P w K mg base (L2.CX P w) 1 (ma K (ga K "Writer") "chance_of") T.d_Writer_chance_of ["self", "name"] (spChance kW (ga K "Writer")) := by
  refine T.F_Writer_chance_of.ok sc_Coder_chance_of (fun vs H Q E h => ?_) (fun cdv A outer s H vs Q E hr h => ?_)
  · obtain ⟨p, d, s, x, ch, y, rfl, _⟩ := h
    rfl
  · obtain ⟨p, d, s, x, ch, y, rfl, S, k⟩ := h
    obtain ⟨⟨dx, h1⟩, hd, pr⟩ := id S
    have hu := hu_of hr
    refine ⟨_, PSs.nox (pss_one (ps_ret (pe_dget2 hu (pe_fld (pv 0) rfl) (pv 1) (pe_gi rfl T.g_EVEN) ⟨rfl, rfl, rfl, rfl⟩))), ?_⟩
    refine ⟨_, rfl, p, _, dx, _, _, rfl, h1, T.cl_Writer, T.na_Writer_learned_ones, cfl_ones, d, rfl, .inl ⟨_, .inl hd⟩, _, rfl, _, DGet.k (k := Sum.inr y) hd, ?_⟩
    rw [valV_ckv]
    have e : ((cfind ch y).map V.int).getD (V.int 1024) = V.int (cget ch y) := by
      unfold cget
      cases cfind ch y <;> rfl
    show Q (((cfind ch y).map V.int).getD (V.int 1024)) H
    rw [e]
    exact k
theorem ok_Writer_learn (T : Txt K mg)  : FnOk P w K mg base (L2.CX P w) 1 (ma K (ga K "Writer") "learn") T.d_Writer_learn ["self", "name", "chance", "value"] (spLearn kW (ga K "Writer")) := by
  refine T.F_Writer_learn.ok sc_Coder_learn (fun vs H Q E h => ?_) (fun cdv A outer s H vs Q E hr h => ?_)
  · obtain ⟨p, d, s, x, ch, y, c, v, rfl, _⟩ := h
    rfl
  · obtain ⟨p, d, s, x, ch, y, c, v, rfl, S, hl, k⟩ := h
    obtain ⟨⟨dx, h1⟩, hd, pr⟩ := id S
    have hu := hu_of hr
    refine ⟨_, PSs.nox (pss_one (ps_dput hu (pe_fld (pv 0) rfl) (pv 1) (pe_ifExp (pt_cmpR op_eq (pv 3) pe_int (nomark _)) (pe_op op_add (pv 2) (pe_op op_fdiv (pe_op op_sub (pe_gi rfl T.g_WHOLE) (pv 2)) (pe_gi rfl T.g_SLOW))) (pe_op op_sub (pv 2) (pe_op op_fdiv (pv 2) (pe_gi rfl T.g_SLOW)))) rfl)), ?_⟩
    have fin : D0 d H (ckv ch) (Sum.inr y) (.int (learn c v)) Q := ?fin
    · refine ⟨_, rfl, rfl, _, rfl, ?_⟩
      by_cases hv : v = 0
      · have e : decide (V.int v = V.int 0) = true := by rw [hv]; decide
        rw [e]
        refine iteT ?_
        refine ⟨_, rfl, _, rfl, _, _, rfl, rfl, _, _, rfl, rfl, ⟨by decide, by decide⟩, _, _, rfl, rfl, ?_⟩
        refine ⟨_, rfl, p, _, dx, _, _, rfl, h1, T.cl_Writer, T.na_Writer_learned_ones, cfl_ones, _, rfl, d, _, rfl, DPut.k (k := Sum.inr y) hd (by rw [ckv_len]; exact szl (by omega)), ?_⟩
        have := fin
        unfold D0 learn at this
        rw [if_pos hv] at this
        exact this
      · have e : decide (V.int v = V.int 0) = false := decide_eq_false fun z => hv (V.int.inj z)
        rw [e]
        refine iteF ?_
        refine ⟨_, rfl, _, rfl, _, _, rfl, rfl, ⟨by decide, by decide⟩, _, _, rfl, rfl, ?_⟩
        refine ⟨_, rfl, p, _, dx, _, _, rfl, h1, T.cl_Writer, T.na_Writer_learned_ones, cfl_ones, _, rfl, d, _, rfl, DPut.k (k := Sum.inr y) hd (by rw [ckv_len]; exact szl (by omega)), ?_⟩
        have := fin
        unfold D0 learn at this
        rw [if_neg hv] at this
        exact this
    · unfold D0
      rw [putK_ckv]
      refine k _ (Fm.mut (Fm.refl _ _) (.inr (by simp))) ⟨⟨dx, by rw [upd_ne S.ne]; exact h1⟩, upd_same, (kW).st (fun a xs e => ?_) pr⟩
      rw [upd_ne (ne_of e hd (by intro z; cases z))]
      exact e

theorem ok_Reader_chance_of (T : Txt K mg) {t : Addr} {L : List Int} : FnOk P w K mg base (L2.CX P w) 1 (ma K (ga K "Reader") "chance_of") T.d_Reader_chance_of ["self", "name"] (spChance (kR t L) (ga K "Reader")) := by
  refine T.F_Reader_chance_of.ok sc_Coder_chance_of (fun vs H Q E h => ?_) (fun cdv A outer s H vs Q E hr h => ?_)
  · obtain ⟨p, d, s, x, ch, y, rfl, _⟩ := h
    rfl
  · obtain ⟨p, d, s, x, ch, y, rfl, S, k⟩ := h
    obtain ⟨⟨dx, h1⟩, hd, pr⟩ := id S
    have hu := hu_of hr
    refine ⟨_, PSs.nox (pss_one (ps_ret (pe_dget2 hu (pe_fld (pv 0) rfl) (pv 1) (pe_gi rfl T.g_EVEN) ⟨rfl, rfl, rfl, rfl⟩))), ?_⟩
    refine ⟨_, rfl, p, _, dx, _, _, rfl, h1, T.cl_Reader, T.na_Reader_learned_ones, cfl_ones, d, rfl, .inl ⟨_, .inl hd⟩, _, rfl, _, DGet.k (k := Sum.inr y) hd, ?_⟩
    rw [valV_ckv]
    have e : ((cfind ch y).map V.int).getD (V.int 1024) = V.int (cget ch y) := by
      unfold cget
      cases cfind ch y <;> rfl
    show Q (((cfind ch y).map V.int).getD (V.int 1024)) H
    rw [e]
    exact k
theorem ok_Reader_learn (T : Txt K mg) {t : Addr} {L : List Int} : FnOk P w K mg base (L2.CX P w) 1 (ma K (ga K "Reader") "learn") T.d_Reader_learn ["self", "name", "chance", "value"] (spLearn (kR t L) (ga K "Reader")) := by
  refine T.F_Reader_learn.ok sc_Coder_learn (fun vs H Q E h => ?_) (fun cdv A outer s H vs Q E hr h => ?_)
  · obtain ⟨p, d, s, x, ch, y, c, v, rfl, _⟩ := h
    rfl
  · obtain ⟨p, d, s, x, ch, y, c, v, rfl, S, hl, k⟩ := h
    obtain ⟨⟨dx, h1⟩, hd, pr⟩ := id S
    have hu := hu_of hr
    refine ⟨_, PSs.nox (pss_one (ps_dput hu (pe_fld (pv 0) rfl) (pv 1) (pe_ifExp (pt_cmpR op_eq (pv 3) pe_int (nomark _)) (pe_op op_add (pv 2) (pe_op op_fdiv (pe_op op_sub (pe_gi rfl T.g_WHOLE) (pv 2)) (pe_gi rfl T.g_SLOW))) (pe_op op_sub (pv 2) (pe_op op_fdiv (pv 2) (pe_gi rfl T.g_SLOW)))) rfl)), ?_⟩
    have fin : D0 d H (ckv ch) (Sum.inr y) (.int (learn c v)) Q := ?fin
    · refine ⟨_, rfl, rfl, _, rfl, ?_⟩
      by_cases hv : v = 0
      · have e : decide (V.int v = V.int 0) = true := by rw [hv]; decide
        rw [e]
        refine iteT ?_
        refine ⟨_, rfl, _, rfl, _, _, rfl, rfl, _, _, rfl, rfl, ⟨by decide, by decide⟩, _, _, rfl, rfl, ?_⟩
        refine ⟨_, rfl, p, _, dx, _, _, rfl, h1, T.cl_Reader, T.na_Reader_learned_ones, cfl_ones, _, rfl, d, _, rfl, DPut.k (k := Sum.inr y) hd (by rw [ckv_len]; exact szl (by omega)), ?_⟩
        have := fin
        unfold D0 learn at this
        rw [if_pos hv] at this
        exact this
      · have e : decide (V.int v = V.int 0) = false := decide_eq_false fun z => hv (V.int.inj z)
        rw [e]
        refine iteF ?_
        refine ⟨_, rfl, _, rfl, _, _, rfl, rfl, ⟨by decide, by decide⟩, _, _, rfl, rfl, ?_⟩
        refine ⟨_, rfl, p, _, dx, _, _, rfl, h1, T.cl_Reader, T.na_Reader_learned_ones, cfl_ones, _, rfl, d, _, rfl, DPut.k (k := Sum.inr y) hd (by rw [ckv_len]; exact szl (by omega)), ?_⟩
        have := fin
        unfold D0 learn at this
        rw [if_neg hv] at this
        exact this
    · unfold D0
      rw [putK_ckv]
      refine k _ (Fm.mut (Fm.refl _ _) (.inr (by simp))) ⟨⟨dx, by rw [upd_ne S.ne]; exact h1⟩, upd_same, ((kR t L)).st (fun a xs e => ?_) pr⟩
      rw [upd_ne (ne_of e hd (by intro z; cases z))]
      exact e

theorem ok_Writer_came (T : Txt K mg) : FnOk P w K mg base (L2.CX P w) 1 (ma K (ga K "Writer") "came") T.d_Writer_came ["self"] (spCame kW (ga K "Writer")) := by
  refine T.F_Writer_came.ok sc_Coder_came (fun vs H Q E h => ?_) (fun cdv A outer s H vs Q E hr h => ?_)
  · obtain ⟨p, dx, d, l, b, r, n, x, rfl, _⟩ := h
    rfl
  · obtain ⟨p, dx, d, l, b, r, n, x, rfl, h1, _, _, k⟩ := h
    refine ⟨_, PSs.nox (pss_one ps_pass), ?_⟩
    exact k _ (Fm.refl _ _) h1
theorem ok_Reader_sign_at (T : Txt K mg) : FnOk P w K mg base (L2.CX P w) 1 (ma K (ga K "Reader") "sign_at") T.d_Reader_sign_at ["self", "at"] (spSignAt K (ga K "Reader")) := by
  refine T.F_Reader_sign_at.ok sc_Reader_sign_at (fun vs H Q E h => ?_) (fun cdv A outer s H vs Q E hr h => ?_)
  · obtain ⟨p, dx, t, L, fs, i, rfl, _⟩ := h
    rfl
  · obtain ⟨p, dx, t, L, fs, i, rfl, h1, lk, ht, k⟩ := h
    refine ⟨_, PSs.nox (pss_one (ps_ret (pe_ifExp (pt_cmpR op_lt (pv 1) (pe_callB call_len_seq rfl T.n_len boot_len (pa_cons (pe_fld (pv 0) rfl) pa_nil)) (nomark _)) (pe_ix ix_tup (pe_fld (pv 0) rfl) (pv 1) (fun _ _ => rfl)) pe_int))), ?_⟩
    refine ⟨_, rfl, _, rfl, p, _, dx, _, _, rfl, h1, T.cl_Reader, T.na_Reader_signs, lk, t, _, rfl, .inr (ht), _, _, rfl, rfl, _, rfl, ?_⟩
    rw [List.length_map]
    by_cases hi : (i : Int) < (L.length : Int)
    · rw [decide_eq_true hi]
      refine iteT ?_
      have hi' : i < L.length := by omega
      refine ⟨_, rfl, p, _, dx, _, _, rfl, h1, T.cl_Reader, T.na_Reader_signs, lk, _, rfl, t, _, _, _, rfl, rfl, ht, atI_nat (j := i) (v := .int (L.getD i 0)) ?_, k⟩
      rw [List.getElem?_map, List.getD_eq_getElem?_getD, List.getElem?_eq_getElem hi']
      rfl
    · rw [decide_eq_false hi]
      refine iteF ?_
      have e : L.getD i 0 = 0 := by
        rw [List.getD_eq_getElem?_getD, List.getElem?_eq_none (by omega)]
        rfl
      rw [e] at k
      exact k
theorem ok_Reader_came (T : Txt K mg) {t : Addr} {L : List Int} : FnOk P w K mg base (L2.CX P w) 2 (ma K (ga K "Reader") "came") T.d_Reader_came ["self"] (spCame (kR t L) (ga K "Reader")) := by
  refine T.F_Reader_came.ok sc_Reader_came (fun vs H Q E h => ?_) (fun cdv A outer s H vs Q E hr h => ?_)
  · obtain ⟨p, dx, d, l, b, r, n, x, rfl, _⟩ := h
    rfl
  · obtain ⟨p, dx, d, l, b, r, n, x, rfl, h1, ht, hn, k⟩ := h
    change Int at x
    have G_Reader_sign_at := ok_Reader_sign_at (P := P) (w := w) (base := base) T
    refine ⟨_, PSs.nox (pss_one (ps_fld (pv 0) (pe_op op_add (pe_op op_mul (pe_fld (pv 0) rfl) pe_int) (pe_meth (pv 0) T.cl_Reader T.m_Reader_sign_at G_Reader_sign_at (hr.mono (by decide)) T.b_Reader_sign_at .nil passL (pa_cons (pe_op op_sub (pe_op op_add (pe_fld (pv 0) rfl) (pe_gi rfl T.g_AHEAD)) pe_int) pa_nil))) rfl)), ?_⟩
    have lk : (cfl l b r n d (rext t x)).lookup ("code" : Str) = some (.int x) := by kernel_rfl
    have ls : (cfl l b r n d (rext t x)).lookup ("sign_at" : Str) = none := by kernel_rfl
    have pt : ∀ y, putF "code" (.int y) (cfl l b r n d (rext t x)) = cfl l b r n d (rext t y) := fun y => by kernel_rfl
    have e : (n : Int) + 4 - 1 = ((n + 3 : Nat) : Int) := by omega
    refine ⟨_, rfl, p, _, dx, _, _, rfl, h1, T.cl_Reader, T.na_Reader_code, lk, _, _, rfl, rfl, .inr ⟨by decide, by decide⟩, ?_⟩
    refine ⟨_, rfl, p, dx, _, rfl, h1, ls, _, rfl, p, _, dx, _, _, rfl, h1, T.cl_Reader, T.na_Reader_sent, cfl_sent, _, _, rfl, rfl, _, _, rfl, rfl, ?_⟩
    refine ⟨p, dx, t, L, _, n + 3, (by show [V.ref p, V.int ((n : Int) + 4 - 1)] = _; rw [e]), h1, (by kernel_rfl), SqTof ht, ?_⟩
    refine ⟨_, _, rfl, rfl, _, rfl, p, _, dx, _, rfl, h1, T.cl_Reader, T.na_Reader_code, (by decide : 7 < 1000), ?_⟩
    have e2 := pt (x * 256 + L.getD (n + 3) 0)
    refine Eq.mp (congrArg (fun z => Q V.non (upd H p (.ins (ga K "Reader") dx z))) e2.symm) ?_
    exact k _ (Fm.mut (Fm.refl _ _) (.inr (by simp))) upd_same
theorem ok_Writer_narrowed (T : Txt K mg)  : FnOk P w K mg base (L2.CX P w) 2 (ma K (ga K "Writer") "narrowed") T.d_Writer_narrowed ["self", "part", "value"] (spNarrowed kW (ga K "Writer")) := by
  refine T.F_Writer_narrowed.ok sc_Coder_narrowed (fun vs H Q E h => ?_) (fun cdv A outer s H vs Q E hr h => ?_)
  · obtain ⟨p, d, s, x, ch, part, v, rfl, _⟩ := h
    rfl
  · obtain ⟨p, d, s, x, ch, part, v, rfl, S, hv, hw, k⟩ := h
    obtain ⟨⟨dx, h1⟩, hd, pr⟩ := id S
    have G_Writer_came := ok_Writer_came (P := P) (w := w) (base := base) T
    have lm : ∀ (l b r : Int) (n : Nat) (y : (kW).X), (cfl l b r n d ((kW).ext y)).lookup ("came" : Str) = none := fun l b r n y => cfl_no (by decide +kernel) ((kW).nom y _ (by decide +kernel))
    have few : ∀ (l b r : Int) (n : Nat) (y : (kW).X), (cfl l b r n d ((kW).ext y)).length < 1000 := fun l b r n y => by
      have := (kW).few y
      rw [cfl_len]
      omega
    have tu : ∀ {o : HO} {H' : Hp}, Fm [p] H H' → (kW).pre H' := fun f => (kW).st (Fm.tu f (fun a ha xs e => by
      rw [List.mem_singleton.mp ha, h1] at e
      cases e)) pr
    refine ⟨_, PSs.nox (Evl.pss_cut (ps_if (pt_cmpR op_eq (pv 2) pe_int (nomark _))
  (pss_one (ps_fld (pv 0) (pv 1) rfl))
  (pss_cons (ps_fldaug (pv 0) (pv 1) (inR iop_add))
  (pss_one (ps_fldaug (pv 0) (pv 1) (inR iop_sub)))))
  (pss_one (ps_while PassesOwn.never (pt_cmpR op_lt (pe_fld (pv 0) rfl) (pe_gi rfl T.g_LEAST_BREADTH) (nomark _))
  (pss_cons (ps_fldaug (pv 0) pe_int (inR iop_mul))
  (pss_cons (ps_fldaug (pv 0) pe_int (inR iop_mul))
  (pss_cons (ps_fldaug (pv 0) pe_int (inR iop_mul))
  (pss_cons (ps_fldaug (pv 0) pe_int (inR iop_add))
  (pss_one (ps_expr (pe_meth0 (pv 0) T.cl_Writer T.m_Writer_came G_Writer_came (hr.mono (by decide)) T.b_Writer_came .nil passL)))))))))), ?_⟩
    refine ⟨fun σ H' => σ = [some (.ref p), some (.int part), some (.int v)] ∧ H' = upd H p (.ins (ga K "Writer") dx (cfl (nlow s part v) (nwide s part v) (256 ^ (s.n + 4)) s.n d ((kW).ext x))), ?_, ?_⟩
    · refine ⟨_, rfl, rfl, _, rfl, ?_⟩
      unfold nlow nwide
      by_cases z : v = 0
      · rw [if_pos z, if_pos z, decide_eq_true (congrArg V.int z)]
        refine iteT ?_
        refine ⟨_, rfl, _, rfl, p, _, dx, _, rfl, h1, T.cl_Writer, T.na_Writer_breadth, few .., ?_⟩
        exact ⟨rfl, by rw [put_breadth]⟩
      · rw [if_neg z, if_neg z, decide_eq_false fun q => z (V.int.inj q)]
        refine iteF ?_
        refine ⟨_, rfl, p, _, dx, _, _, rfl, h1, T.cl_Writer, T.na_Writer_low, cfl_low, _, rfl, _, _, rfl, rfl, dx, _, h1, few .., ?_⟩
        rw [put_low]
        refine ⟨_, rfl, p, _, dx, _, _, rfl, upd_same, T.cl_Writer, T.na_Writer_breadth, cfl_breadth, _, rfl, _, _, rfl, rfl, dx, _, upd_same, few .., ?_⟩
        rw [put_breadth, upd_upd]
        exact ⟨rfl, rfl⟩
    · rintro σ H1 ⟨rfl, rfl⟩
      refine ⟨fun m σ H' => σ = [some (.ref p), some (.int part), some (.int v)] ∧ ((m = 1 ∧ H' = upd H p (.ins (ga K "Writer") dx (cfl (nlow s part v) (nwide s part v) (256 ^ (s.n + 4)) s.n d ((kW).ext x)))) ∨
        (m = 0 ∧ nwide s part v < 16777216 ∧ Fm [p] H H' ∧ H' p = some (.ins (ga K "Writer") dx (cfl (nlow s part v * 256) (nwide s part v * 256) (256 ^ (s.n + 4) * 256) (s.n + 1) d ((kW).ext ((kW).stp (s.n + 1) x)))))), ⟨1, rfl, .inl ⟨rfl, rfl⟩⟩, ?_⟩
      rintro m σ H' ⟨rfl, ⟨rfl, rfl⟩ | ⟨rfl, hlt, f, h2⟩⟩
      · refine ⟨_, rfl, p, _, dx, _, _, rfl, upd_same, T.cl_Writer, T.na_Writer_breadth, cfl_breadth, _, _, rfl, rfl, _, rfl, ?_⟩
        by_cases z : nwide s part v < 16777216
        · rw [decide_eq_true z]
          refine iteT ?_
          refine ⟨_, fun _ _ q => q, ?_⟩
          refine ⟨_, rfl, p, _, dx, _, _, rfl, upd_same, T.cl_Writer, T.na_Writer_low, cfl_low, _, _, rfl, rfl, .inr ⟨by decide, by decide⟩, dx, _, upd_same, few .., ?_⟩
          rw [put_low, upd_upd]
          refine ⟨_, rfl, p, _, dx, _, _, rfl, upd_same, T.cl_Writer, T.na_Writer_breadth, cfl_breadth, _, _, rfl, rfl, .inr ⟨by decide, by decide⟩, dx, _, upd_same, few .., ?_⟩
          rw [put_breadth, upd_upd]
          refine ⟨_, rfl, p, _, dx, _, _, rfl, upd_same, T.cl_Writer, T.na_Writer_room, cfl_room, _, _, rfl, rfl, .inr ⟨by decide, by decide⟩, dx, _, upd_same, few .., ?_⟩
          rw [put_room, upd_upd]
          refine ⟨_, rfl, p, _, dx, _, _, rfl, upd_same, T.cl_Writer, T.na_Writer_sent, cfl_sent, _, _, rfl, rfl, dx, _, upd_same, few .., ?_⟩
          rw [put_sent1, upd_upd]
          refine ⟨_, rfl, p, dx, _, rfl, upd_same, lm .., ?_⟩
          refine ⟨p, dx, d, _, _, _, s.n + 1, x, rfl, upd_same, tu (o := .dK []) (Fm.mut (Fm.refl _ _) (.inr (by simp))), by omega, fun H2 f2 h2 => ?_⟩
          refine ⟨0, by decide, rfl, .inr ⟨rfl, z, Fm.tr (Fm.mut (Fm.refl _ _) (.inr (by simp))) f2, h2⟩⟩
        · rw [decide_eq_false z]
          refine iteF ?_
          refine k _ (Fm.mut (Fm.refl _ _) (.inr (by simp))) ?_
          have e1 : enc s part v = ⟨nlow s part v, nwide s part v, s.n⟩ := if_neg z
          have e2 : xenc kW s part v x = x := if_neg z
          rw [e1, e2]
          exact ⟨⟨dx, upd_same⟩, by rw [upd_ne S.ne.symm]; exact hd, tu (o := .dK []) (Fm.mut (Fm.refl _ _) (.inr (by simp)))⟩
      · refine ⟨_, rfl, p, _, dx, _, _, rfl, h2, T.cl_Writer, T.na_Writer_breadth, cfl_breadth, _, _, rfl, rfl, _, rfl, ?_⟩
        rw [decide_eq_false (by omega)]
        refine iteF ?_
        refine k _ f ?_
        have e1 : enc s part v = ⟨nlow s part v * 256, nwide s part v * 256, s.n + 1⟩ := if_pos hlt
        have e2 : xenc kW s part v x = (kW).stp (s.n + 1) x := if_pos hlt
        have e3 : (256 : Int) ^ (s.n + 1 + 4) = 256 ^ (s.n + 4) * 256 := by rw [← Int.pow_succ]
        rw [e1, e2]
        exact ⟨⟨dx, by rw [e3]; exact h2⟩, f _ _ hd (by simp; exact S.ne.symm), tu (o := .dK []) f⟩

theorem ok_Reader_narrowed (T : Txt K mg) {t : Addr} {L : List Int} : FnOk P w K mg base (L2.CX P w) 3 (ma K (ga K "Reader") "narrowed") T.d_Reader_narrowed ["self", "part", "value"] (spNarrowed (kR t L) (ga K "Reader")) := by
  refine T.F_Reader_narrowed.ok sc_Coder_narrowed (fun vs H Q E h => ?_) (fun cdv A outer s H vs Q E hr h => ?_)
  · obtain ⟨p, d, s, x, ch, part, v, rfl, _⟩ := h
    rfl
  · obtain ⟨p, d, s, x, ch, part, v, rfl, S, hv, hw, k⟩ := h
    obtain ⟨⟨dx, h1⟩, hd, pr⟩ := id S
    have G_Reader_came := ok_Reader_came (P := P) (w := w) (base := base) T (t := t) (L := L)
    have lm : ∀ (l b r : Int) (n : Nat) (y : ((kR t L)).X), (cfl l b r n d (((kR t L)).ext y)).lookup ("came" : Str) = none := fun l b r n y => cfl_no (by decide +kernel) (((kR t L)).nom y _ (by decide +kernel))
    have few : ∀ (l b r : Int) (n : Nat) (y : ((kR t L)).X), (cfl l b r n d (((kR t L)).ext y)).length < 1000 := fun l b r n y => by
      have := ((kR t L)).few y
      rw [cfl_len]
      omega
    have tu : ∀ {o : HO} {H' : Hp}, Fm [p] H H' → ((kR t L)).pre H' := fun f => ((kR t L)).st (Fm.tu f (fun a ha xs e => by
      rw [List.mem_singleton.mp ha, h1] at e
      cases e)) pr
    refine ⟨_, PSs.nox (Evl.pss_cut (ps_if (pt_cmpR op_eq (pv 2) pe_int (nomark _))
  (pss_one (ps_fld (pv 0) (pv 1) rfl))
  (pss_cons (ps_fldaug (pv 0) (pv 1) (inR iop_add))
  (pss_one (ps_fldaug (pv 0) (pv 1) (inR iop_sub)))))
  (pss_one (ps_while PassesOwn.never (pt_cmpR op_lt (pe_fld (pv 0) rfl) (pe_gi rfl T.g_LEAST_BREADTH) (nomark _))
  (pss_cons (ps_fldaug (pv 0) pe_int (inR iop_mul))
  (pss_cons (ps_fldaug (pv 0) pe_int (inR iop_mul))
  (pss_cons (ps_fldaug (pv 0) pe_int (inR iop_mul))
  (pss_cons (ps_fldaug (pv 0) pe_int (inR iop_add))
  (pss_one (ps_expr (pe_meth0 (pv 0) T.cl_Reader T.m_Reader_came G_Reader_came (hr.mono (by decide)) T.b_Reader_came .nil passL)))))))))), ?_⟩
    refine ⟨fun σ H' => σ = [some (.ref p), some (.int part), some (.int v)] ∧ H' = upd H p (.ins (ga K "Reader") dx (cfl (nlow s part v) (nwide s part v) (256 ^ (s.n + 4)) s.n d (((kR t L)).ext x))), ?_, ?_⟩
    · refine ⟨_, rfl, rfl, _, rfl, ?_⟩
      unfold nlow nwide
      by_cases z : v = 0
      · rw [if_pos z, if_pos z, decide_eq_true (congrArg V.int z)]
        refine iteT ?_
        refine ⟨_, rfl, _, rfl, p, _, dx, _, rfl, h1, T.cl_Reader, T.na_Reader_breadth, few .., ?_⟩
        exact ⟨rfl, by rw [put_breadth]⟩
      · rw [if_neg z, if_neg z, decide_eq_false fun q => z (V.int.inj q)]
        refine iteF ?_
        refine ⟨_, rfl, p, _, dx, _, _, rfl, h1, T.cl_Reader, T.na_Reader_low, cfl_low, _, rfl, _, _, rfl, rfl, dx, _, h1, few .., ?_⟩
        rw [put_low]
        refine ⟨_, rfl, p, _, dx, _, _, rfl, upd_same, T.cl_Reader, T.na_Reader_breadth, cfl_breadth, _, rfl, _, _, rfl, rfl, dx, _, upd_same, few .., ?_⟩
        rw [put_breadth, upd_upd]
        exact ⟨rfl, rfl⟩
    · rintro σ H1 ⟨rfl, rfl⟩
      refine ⟨fun m σ H' => σ = [some (.ref p), some (.int part), some (.int v)] ∧ ((m = 1 ∧ H' = upd H p (.ins (ga K "Reader") dx (cfl (nlow s part v) (nwide s part v) (256 ^ (s.n + 4)) s.n d (((kR t L)).ext x)))) ∨
        (m = 0 ∧ nwide s part v < 16777216 ∧ Fm [p] H H' ∧ H' p = some (.ins (ga K "Reader") dx (cfl (nlow s part v * 256) (nwide s part v * 256) (256 ^ (s.n + 4) * 256) (s.n + 1) d (((kR t L)).ext (((kR t L)).stp (s.n + 1) x)))))), ⟨1, rfl, .inl ⟨rfl, rfl⟩⟩, ?_⟩
      rintro m σ H' ⟨rfl, ⟨rfl, rfl⟩ | ⟨rfl, hlt, f, h2⟩⟩
      · refine ⟨_, rfl, p, _, dx, _, _, rfl, upd_same, T.cl_Reader, T.na_Reader_breadth, cfl_breadth, _, _, rfl, rfl, _, rfl, ?_⟩
        by_cases z : nwide s part v < 16777216
        · rw [decide_eq_true z]
          refine iteT ?_
          refine ⟨_, fun _ _ q => q, ?_⟩
          refine ⟨_, rfl, p, _, dx, _, _, rfl, upd_same, T.cl_Reader, T.na_Reader_low, cfl_low, _, _, rfl, rfl, .inr ⟨by decide, by decide⟩, dx, _, upd_same, few .., ?_⟩
          rw [put_low, upd_upd]
          refine ⟨_, rfl, p, _, dx, _, _, rfl, upd_same, T.cl_Reader, T.na_Reader_breadth, cfl_breadth, _, _, rfl, rfl, .inr ⟨by decide, by decide⟩, dx, _, upd_same, few .., ?_⟩
          rw [put_breadth, upd_upd]
          refine ⟨_, rfl, p, _, dx, _, _, rfl, upd_same, T.cl_Reader, T.na_Reader_room, cfl_room, _, _, rfl, rfl, .inr ⟨by decide, by decide⟩, dx, _, upd_same, few .., ?_⟩
          rw [put_room, upd_upd]
          refine ⟨_, rfl, p, _, dx, _, _, rfl, upd_same, T.cl_Reader, T.na_Reader_sent, cfl_sent, _, _, rfl, rfl, dx, _, upd_same, few .., ?_⟩
          rw [put_sent1, upd_upd]
          refine ⟨_, rfl, p, dx, _, rfl, upd_same, lm .., ?_⟩
          refine ⟨p, dx, d, _, _, _, s.n + 1, x, rfl, upd_same, tu (o := .dK []) (Fm.mut (Fm.refl _ _) (.inr (by simp))), by omega, fun H2 f2 h2 => ?_⟩
          refine ⟨0, by decide, rfl, .inr ⟨rfl, z, Fm.tr (Fm.mut (Fm.refl _ _) (.inr (by simp))) f2, h2⟩⟩
        · rw [decide_eq_false z]
          refine iteF ?_
          refine k _ (Fm.mut (Fm.refl _ _) (.inr (by simp))) ?_
          have e1 : enc s part v = ⟨nlow s part v, nwide s part v, s.n⟩ := if_neg z
          have e2 : xenc (kR t L) s part v x = x := if_neg z
          rw [e1, e2]
          exact ⟨⟨dx, upd_same⟩, by rw [upd_ne S.ne.symm]; exact hd, tu (o := .dK []) (Fm.mut (Fm.refl _ _) (.inr (by simp)))⟩
      · refine ⟨_, rfl, p, _, dx, _, _, rfl, h2, T.cl_Reader, T.na_Reader_breadth, cfl_breadth, _, _, rfl, rfl, _, rfl, ?_⟩
        rw [decide_eq_false (by omega)]
        refine iteF ?_
        refine k _ f ?_
        have e1 : enc s part v = ⟨nlow s part v * 256, nwide s part v * 256, s.n + 1⟩ := if_pos hlt
        have e2 : xenc (kR t L) s part v x = ((kR t L)).stp (s.n + 1) x := if_pos hlt
        have e3 : (256 : Int) ^ (s.n + 1 + 4) = 256 ^ (s.n + 4) * 256 := by rw [← Int.pow_succ]
        rw [e1, e2]
        exact ⟨⟨dx, by rw [e3]; exact h2⟩, f _ _ hd (by simp; exact S.ne.symm), tu (o := .dK []) f⟩


theorem ok_is_whole (T : Txt K mg) : FnOk P w K mg base (L2.CX P w) 1 (ga K "is_whole") T.d_is_whole ["thing", "least", "most"] (spIsWhole K) := by
  refine T.F_is_whole.ok sc_is_whole (fun vs H Q E h => ?_) (fun cdv A outer s H vs Q E hr h => ?_)
  · obtain ⟨x, a, b, rfl, _⟩ := h
    rfl
  · obtain ⟨x, a, b, rfl, ⟨t, ty, k1, k2⟩, k⟩ := h
    refine ⟨_, PSs.nox (pss_one (ps_ret (pe_and (pe_callB call_isi rfl T.n_isinstance boot_isinstance (pa_cons (pv 0) (pa_cons (pe_bltn (v := .ty "int") rfl T.n_int boot_int rfl) pa_nil))) (pe_and (pe_not (pe_callB call_isi rfl T.n_isinstance boot_isinstance (pa_cons (pv 0) (pa_cons (pe_bltn (v := .ty "bool") rfl T.n_bool boot_bool rfl) pa_nil)))) (pe_one (pe_chain op_le op_le (pv 1) (pv 0) (pv 2))))))), ?_⟩
    refine ⟨_, rfl, _, _, t, _, _, rfl, .ty _, ty, k1, _, rfl, ?_⟩
    cases x with
    | int i =>
      refine iteT ?_
      refine ⟨_, rfl, _, _, t, _, _, rfl, .ty _, ty, k2, _, rfl, _, rfl, ?_⟩
      refine iteT ?_
      refine ⟨_, rfl, _, rfl, _, _, rfl, rfl, _, rfl, ?_⟩
      have e : wholeV (.int i) a b = decide (a ≤ i ∧ i ≤ b) := rfl
      rw [e] at k
      by_cases h1 : a ≤ i
      · rw [decide_eq_true h1]
        refine iteT ?_
        refine ⟨_, rfl, _, _, rfl, rfl, ?_⟩
        have e2 : decide (a ≤ i ∧ i ≤ b) = decide (i ≤ b) := by simp [h1]
        rw [e2] at k
        exact k
      · rw [decide_eq_false h1]
        refine iteF ?_
        have e2 : decide (a ≤ i ∧ i ≤ b) = false := decide_eq_false fun z => h1 z.1
        rw [e2] at k
        exact k
    | bl c =>
      refine iteT ?_
      refine ⟨_, rfl, _, _, t, _, _, rfl, .ty _, ty, k2, _, rfl, _, rfl, ?_⟩
      exact iteF k
    | _ => exact iteF k
theorem ok_need_sign (T : Txt K mg) : FnOk P w K mg base (L2.CX P w) 2 (ga K "need_sign") T.d_need_sign ["value"] (spNeedSign K) := by
  refine T.F_need_sign.ok sc_need_sign (fun vs H Q E h => ?_) (fun cdv A outer s H vs Q E hr h => ?_)
  · obtain ⟨v, rfl, _⟩ := h
    rfl
  · obtain ⟨x, rfl, ty, k1, k2⟩ := h
    have G_is_whole := ok_is_whole (P := P) (w := w) (base := base) T
    refine ⟨_, (pss_one (ps_if (pt_not (pt_val (pe_call G_is_whole (hr.mono (by decide)) rfl T.g_is_whole T.F_is_whole.kp T.b_is_whole .nil passL (pa_cons (pv 0) (pa_cons pe_int (pa_cons pe_int pa_nil))))))
  (pss_one (ps_raise rfl (takes_of rfl rfl rfl rfl) (pmk_own PySem.F.excBase_ValueError T.x_BadNumber.1 T.g_BadNumber T.x_BadNumber.2.1 (raises_own T.x_BadNumber.2.2.1 T.x_BadNumber.2.2.2) rfl)))
  pss_nil)), ?_⟩
    refine ⟨_, rfl, _, _, _, rfl, ty, _, rfl, ?_⟩
    cases e : wholeV x 0 1 with
    | true => exact iteF (k1 e)
    | false => exact iteT (k2 e)
theorem ok_Writer_bit (T : Txt K mg) : FnOk P w K mg base (L2.CX P w) 4 (ma K (ga K "Writer") "bit") T.d_Writer_bit ["self", "name", "value"] (spBit K (ga K "Writer")) := by
  refine T.F_Writer_bit.ok sc_Writer_bit (fun vs H Q E h => ?_) (fun cdv A outer s H vs Q E hr h => ?_)
  · obtain ⟨p, d, s, ch, y, v, rfl, _⟩ := h
    rfl
  · obtain ⟨p, d, s, ch, y, x, rfl, S, ok, co, cl, ty, hE, k⟩ := h
    have G_need_sign := ok_need_sign (P := P) (w := w) (base := base) T
    have G_Writer_chance_of := ok_Writer_chance_of (P := P) (w := w) (base := base) T
    have G_Writer_narrowed := ok_Writer_narrowed (P := P) (w := w) (base := base) T
    have G_Writer_learn := ok_Writer_learn (P := P) (w := w) (base := base) T
    have pk := part_ok ok (cget_ok co y)
    refine ⟨_, (pss_cons (ps_expr (pe_call G_need_sign (hr.mono (by decide)) rfl T.g_need_sign T.F_need_sign.kp T.b_need_sign .nil passO (pa_cons (pv 2) pa_nil)))
  (pss_cons (ps_set (i := 3) sc_Writer_bit.nd rfl (Or.inl rfl) (pe_meth (pv 0) T.cl_Writer T.m_Writer_chance_of G_Writer_chance_of (hr.mono (by decide)) T.b_Writer_chance_of .nil passL (pa_cons (pv 1) pa_nil)))
  (pss_cons (ps_expr (pe_meth (pv 0) T.cl_Writer T.m_Writer_narrowed G_Writer_narrowed (hr.mono (by decide)) T.b_Writer_narrowed .nil passL (pa_cons (pe_op op_mul (pe_op op_fdiv (pe_fld (pv 0) rfl) (pe_gi rfl T.g_WHOLE)) (pv 3)) (pa_cons (pv 2) pa_nil))))
  (pss_one (ps_expr (pe_meth (pv 0) T.cl_Writer T.m_Writer_learn G_Writer_learn (hr.mono (by decide)) T.b_Writer_learn .nil passL (pa_cons (pv 1) (pa_cons (pv 3) (pa_cons (pv 2) pa_nil))))))))), ?_⟩
    refine ⟨_, rfl, x, rfl, ty, fun hw => ?_, hE⟩
    obtain ⟨v, rfl, hv⟩ := sign_of hw
    have k := k v rfl hv
    obtain ⟨⟨dx, h1⟩, hd, pr⟩ := id S
    refine ⟨_, rfl, p, dx, _, rfl, h1, cfl_no (by decide +kernel) rfl, _, rfl, p, d, s, (), ch, y, rfl, S, ?_⟩
    refine ⟨_, rfl, p, dx, _, rfl, h1, cfl_no (by decide +kernel) rfl, _, rfl, p, _, dx, _, _, rfl, h1, T.cl_Writer, T.na_Writer_breadth, cfl_breadth, _, _, rfl, rfl, ⟨by decide, by decide⟩, _, rfl, _, _, rfl, rfl, .inl ?_, _, rfl, ?_⟩
    · have := part_lt ok (cget_ok co y)
      constructor <;> omega
    refine ⟨p, d, s, (), ch, partOf s (cget ch y), v, rfl, S, hv, nwide_ok pk, fun H1 f1 S1 => ?_⟩
    obtain ⟨⟨dx1, g1⟩, gd, _⟩ := id S1
    refine ⟨_, rfl, p, dx1, _, rfl, g1, cfl_no (by decide +kernel) rfl, _, rfl, _, rfl, _, rfl, ?_⟩
    refine ⟨p, d, _, (), ch, y, cget ch y, v, rfl, S1, cl, fun H2 f2 S2 => ?_⟩
    exact k H2 (Fm.tr (Fm.mono f1 (by simp)) (Fm.mono f2 (by simp))) S2
theorem ok_Writer_even (T : Txt K mg) : FnOk P w K mg base (L2.CX P w) 4 (ma K (ga K "Writer") "even") T.d_Writer_even ["self", "value"] (spEven K (ga K "Writer")) := by
  refine T.F_Writer_even.ok sc_Writer_even (fun vs H Q E h => ?_) (fun cdv A outer s H vs Q E hr h => ?_)
  · obtain ⟨p, d, s, ch, v, rfl, _⟩ := h
    rfl
  · obtain ⟨p, d, s, ch, x, rfl, S, ok, ty, hE, k⟩ := h
    have G_need_sign := ok_need_sign (P := P) (w := w) (base := base) T
    have G_Writer_narrowed := ok_Writer_narrowed (P := P) (w := w) (base := base) T
    have pk := part_ok ok ch_even
    refine ⟨_, (pss_cons (ps_expr (pe_call G_need_sign (hr.mono (by decide)) rfl T.g_need_sign T.F_need_sign.kp T.b_need_sign .nil passO (pa_cons (pv 1) pa_nil)))
  (pss_one (ps_expr (pe_meth (pv 0) T.cl_Writer T.m_Writer_narrowed G_Writer_narrowed (hr.mono (by decide)) T.b_Writer_narrowed .nil passL (pa_cons (pe_op op_mul (pe_op op_fdiv (pe_fld (pv 0) rfl) (pe_gi rfl T.g_WHOLE)) (pe_gi rfl T.g_EVEN)) (pa_cons (pv 1) pa_nil)))))), ?_⟩
    refine ⟨_, rfl, x, rfl, ty, fun hw => ?_, hE⟩
    obtain ⟨v, rfl, hv⟩ := sign_of hw
    have k := k v rfl hv
    obtain ⟨⟨dx, h1⟩, hd, pr⟩ := id S
    refine ⟨_, rfl, p, dx, _, rfl, h1, cfl_no (by decide +kernel) rfl, _, rfl, p, _, dx, _, _, rfl, h1, T.cl_Writer, T.na_Writer_breadth, cfl_breadth, _, _, rfl, rfl, ⟨by decide, by decide⟩, _, _, rfl, rfl, .inl ?_, _, rfl, ?_⟩
    · have := part_lt ok ch_even
      constructor <;> omega
    refine ⟨p, d, s, (), ch, partOf s 1024, v, rfl, S, hv, nwide_ok pk, fun H1 f1 S1 => ?_⟩
    exact k H1 (Fm.mono f1 (by simp)) S1
theorem ok_Writer_letters (Z : Sr P base) (T : Txt K mg) : FnOk P w K mg base (L2.CX P w) 40 (ma K (ga K "Writer") "letters") T.d_Writer_letters ["self"] (spLetters (ga K "Writer")) := by
  refine T.F_Writer_letters.ok sc_Writer_letters (fun vs H Q E h => ?_) (fun cdv A outer s0 H vs Q E hr h => ?_)
  · obtain ⟨p, d, s, ch, rfl, _⟩ := h
    rfl
  · obtain ⟨p, d, s, ch, rfl, S, ok, hn, k⟩ := h
    have G_letters_in := ok_letters_in (P := P) (w := w) (base := base) T
    have hd : (A.deeper (envOfC "Writer.letters" (defScope s_Writer_letters) s0.heap.objs.size (ma K (ga K "Writer") "letters") cdv)).depth + 100 < recursionLimit := by
      have := hr.dp
      omega
    obtain ⟨⟨dx, h1⟩, _, _⟩ := id S
    refine ⟨_, PSs.nox (pss_cons (ps_par (i := 1) (j := 2) rfl sc_Writer_letters.nd rfl rfl (by decide) rfl rfl (pa_cons pe_int (pa_cons (pe_fld (pv 0) rfl) pa_nil)) (by rfl))
  (pss_cons (ps_while PassesOwn.never (pt_cmpR op_ge (pe_op op_mulW (pe_op (op_fdivP Z hd rfl rfl rfl) (pe_op op_sub (pe_op op_add (pe_fld (pv 0) rfl) (pv 2)) pe_int) (pv 2)) (pv 2)) (pe_op op_add (pe_fld (pv 0) rfl) (pe_fld (pv 0) rfl)) (nomark _))
  (pss_cons (ps_aug (i := 1) sc_Writer_letters.nd rfl (Or.inl rfl) pe_int (ipR iop_add))
  (pss_one (ps_set (i := 2) sc_Writer_letters.nd rfl (Or.inl rfl) (pe_op op_fdiv (pv 2) pe_int)))))
  (pss_one (ps_ret (pe_call G_letters_in (hr.mono (by decide)) rfl T.g_letters_in T.F_letters_in.kp T.b_letters_in .nil passL (pa_cons (pe_op (op_fdivP Z hd rfl rfl rfl) (pe_op op_sub (pe_op op_add (pe_fld (pv 0) rfl) (pv 2)) pe_int) (pv 2)) (pa_cons (pv 1) pa_nil))))))), ?_⟩
    refine ⟨_, rfl, p, _, dx, _, _, rfl, h1, T.cl_Writer, T.na_Writer_room, cfl_room, _, _, rfl, ?_⟩
    refine ⟨fun m σ H' => ∃ j : Nat, m = s.n + 4 - j ∧ j ≤ lcount s (s.n + 4) ∧ σ = [some (.ref p), some (.int j), some (.int (256 ^ (s.n + 4 - j)))] ∧ H' = H, ⟨s.n + 4, 0, rfl, Nat.zero_le _, rfl, rfl⟩, ?_⟩
    rintro m σ H' ⟨j, rfl, hj, rfl, rfl⟩
    have hle := lcount_le s (s.n + 4)
    have up := pow_pos256 (s.n + 4 - j)
    refine ⟨_, rfl, p, _, dx, _, _, rfl, h1, T.cl_Writer, T.na_Writer_low, cfl_low, _, rfl, _, _, rfl, rfl, _, _, rfl, rfl, _, rfl, _, _, rfl, rfl, up, _, rfl, _, _, rfl, rfl, mulW_ok ok hn (by omega), ?_⟩
    refine ⟨_, rfl, p, _, dx, _, _, rfl, h1, T.cl_Writer, T.na_Writer_low, cfl_low, _, rfl, p, _, dx, _, _, rfl, h1, T.cl_Writer, T.na_Writer_breadth, cfl_breadth, _, _, rfl, rfl, _, _, rfl, rfl, _, rfl, ?_⟩
    by_cases q : j < lcount s (s.n + 4)
    · rw [decide_eq_true (show s.low + s.wide ≤ (s.low + 256 ^ (s.n + 4 - j) - 1) / 256 ^ (s.n + 4 - j) * 256 ^ (s.n + 4 - j) from lcount_go q)]
      refine iteT ?_
      refine ⟨_, fun _ _ z => z, ?_⟩
      refine ⟨_, rfl, _, _, rfl, rfl, _, rfl, _, _, rfl, rfl, ⟨by decide, by decide⟩, ?_⟩
      refine ⟨s.n + 4 - (j + 1), by omega, j + 1, rfl, q, ?_, rfl⟩
      have e : s.n + 4 - j = s.n + 4 - (j + 1) + 1 := by omega
      have e2 : (256 : Int) ^ (s.n + 4 - j) / 256 = 256 ^ (s.n + 4 - (j + 1)) := by
        rw [e, Int.pow_succ, Int.mul_ediv_cancel _ (by decide)]
      show [some (V.ref p), some (V.int ((j : Int) + 1)), some (V.int ((256 : Int) ^ (s.n + 4 - j) / 256))] = _
      rw [e2]
      rfl
    · have e : j = lcount s (s.n + 4) := by omega
      subst e
      rw [decide_eq_false (show ¬ s.low + s.wide ≤ (s.low + 256 ^ (s.n + 4 - lcount s (s.n + 4)) - 1) / 256 ^ (s.n + 4 - lcount s (s.n + 4)) * 256 ^ (s.n + 4 - lcount s (s.n + 4)) from lcount_stop ok _)]
      refine iteF ?_
      refine ⟨_, rfl, p, _, dx, _, _, rfl, h1, T.cl_Writer, T.na_Writer_low, cfl_low, _, rfl, _, _, rfl, rfl, _, _, rfl, rfl, _, rfl, _, _, rfl, rfl, up, _, rfl, ?_⟩
      exact ⟨_, lcount s (s.n + 4), rfl, by omega, fun q H' hq e h => k q H' hq e h⟩
theorem numL_code (L : List Int) (n : Nat) : numL L (n + 1 + 4) = numL L (n + 4) * 256 + L.getD (n + 1 + 3) 0 := rfl
theorem xenc_num (t : Addr) (L : List Int) (s : CS) (part v : Int) : xenc (kR t L) s part v (numL L (s.n + 4)) = numL L ((enc s part v).n + 4) := by
  by_cases h : nwide s part v < 16777216
  · have e : enc s part v = ⟨nlow s part v * 256, nwide s part v * 256, s.n + 1⟩ := if_pos h
    rw [e]
    exact if_pos h
  · have e : enc s part v = ⟨nlow s part v, nwide s part v, s.n⟩ := if_neg h
    rw [e]
    exact if_neg h
theorem ok_Reader_read_by (T : Txt K mg) {t : Addr} {L : List Int} : FnOk P w K mg base (L2.CX P w) 4 (ma K (ga K "Reader") "read_by") T.d_Reader_read_by ["self", "chance"] (spReadBy t L (ga K "Reader")) := by
  refine T.F_Reader_read_by.ok sc_Reader_read_by (fun vs H Q E h => ?_) (fun cdv A outer s H vs Q E hr h => ?_)
  · obtain ⟨p, d, s, x, ch, c, rfl, _⟩ := h
    rfl
  · obtain ⟨p, d, s, x, ch, c, rfl, S, ok, hc, hx, k⟩ := h
    have G_Reader_narrowed := ok_Reader_narrowed (P := P) (w := w) (base := base) T (t := t) (L := L)
    change Int at x
    have pk := part_ok ok hc
    obtain ⟨⟨dx, h1⟩, _, _⟩ := id S
    have lk : ∀ (l b r : Int) (n : Nat) (y : Int), (cfl l b r n d (rext t y)).lookup ("code" : Str) = some (.int y) := fun l b r n y => by kernel_rfl
    refine ⟨_, PSs.nox (pss_cons (ps_set (i := 2) sc_Reader_read_by.nd rfl (Or.inl rfl) (pe_op op_mul (pe_op op_fdiv (pe_fld (pv 0) rfl) (pe_gi rfl T.g_WHOLE)) (pv 1)))
  (pss_cons (ps_set (i := 3) sc_Reader_read_by.nd rfl (Or.inl rfl) (pe_callTy call_int1 rfl T.n_int boot_int (pa_cons (pe_cmpR op_ge (pe_fld (pv 0) rfl) (pe_op op_add (pe_fld (pv 0) rfl) (pv 2)) (nomark _)) pa_nil)))
  (pss_cons (ps_expr (pe_meth (pv 0) T.cl_Reader T.m_Reader_narrowed G_Reader_narrowed (hr.mono (by decide)) T.b_Reader_narrowed .nil passL (pa_cons (pv 2) (pa_cons (pv 3) pa_nil))))
  (pss_one (ps_ret (pv 3)))))), ?_⟩
    refine ⟨_, rfl, p, _, dx, _, _, rfl, h1, T.cl_Reader, T.na_Reader_breadth, cfl_breadth, _, _, rfl, rfl, ⟨by decide, by decide⟩, _, rfl, _, _, rfl, rfl, .inl ?_, ?_⟩
    · have := part_lt ok hc
      constructor <;> omega
    refine ⟨_, rfl, p, _, dx, _, _, rfl, h1, T.cl_Reader, T.na_Reader_code, lk .., _, rfl, p, _, dx, _, _, rfl, h1, T.cl_Reader, T.na_Reader_low, cfl_low, _, rfl, _, _, rfl, rfl, _, _, rfl, rfl, .inr ⟨_, rfl, ?_⟩⟩
    have e : (if decide (s.low + s.wide / 2048 * c ≤ x) = true then (1 : Int) else 0) = dec s (partOf s c) x := by
      unfold dec partOf
      by_cases z : s.low + s.wide / 2048 * c ≤ x
      · rw [if_pos z, if_pos (decide_eq_true z)]
      · rw [if_neg z, if_neg (by simpa using z)]
    refine ⟨_, rfl, p, dx, _, rfl, h1, cfl_no (by decide +kernel) ((kR t L).nom x _ (by decide +kernel)), _, rfl, _, rfl, ?_⟩
    refine ⟨p, d, s, x, ch, partOf s c, dec s (partOf s c) x, ?_, S, dec_bit .., nwide_ok pk, fun H1 f1 S1 => ?_⟩
    · rw [← e]
      rfl
    rw [hx, xenc_num, ← hx] at S1
    refine ⟨_, rfl, ?_⟩
    have g := k H1 f1 S1
    rw [← e] at g
    exact g
theorem ok_Reader_bit (T : Txt K mg) {t : Addr} {L : List Int} : FnOk P w K mg base (L2.CX P w) 5 (ma K (ga K "Reader") "bit") T.d_Reader_bit ["self", "name"] (spRBit t L (ga K "Reader")) := by
  refine T.F_Reader_bit.ok sc_Reader_bit (fun vs H Q E h => ?_) (fun cdv A outer s H vs Q E hr h => ?_)
  · obtain ⟨p, d, s, ch, y, rfl, _⟩ := h
    rfl
  · obtain ⟨p, d, s, ch, y, rfl, S, ok, co, cl, k⟩ := h
    have G_Reader_chance_of := ok_Reader_chance_of (P := P) (w := w) (base := base) T (t := t) (L := L)
    have G_Reader_read_by := ok_Reader_read_by (P := P) (w := w) (base := base) T (t := t) (L := L)
    have G_Reader_learn := ok_Reader_learn (P := P) (w := w) (base := base) T (t := t) (L := L)
    obtain ⟨⟨dx, h1⟩, _, _⟩ := id S
    have no : ∀ (l b r : Int) (n : Nat) (y : Int) {m : Str}, m ∈ meths → (cfl l b r n d (rext t y)).lookup m = none := fun l b r n y m hm => cfl_no hm (rext_no t y m hm)
    refine ⟨_, PSs.nox (pss_cons (ps_set (i := 2) sc_Reader_bit.nd rfl (Or.inl rfl) (pe_meth (pv 0) T.cl_Reader T.m_Reader_chance_of G_Reader_chance_of (hr.mono (by decide)) T.b_Reader_chance_of .nil passL (pa_cons (pv 1) pa_nil)))
  (pss_cons (ps_set (i := 3) sc_Reader_bit.nd rfl (Or.inl rfl) (pe_meth (pv 0) T.cl_Reader T.m_Reader_read_by G_Reader_read_by (hr.mono (by decide)) T.b_Reader_read_by .nil passL (pa_cons (pv 2) pa_nil)))
  (pss_cons (ps_expr (pe_meth (pv 0) T.cl_Reader T.m_Reader_learn G_Reader_learn (hr.mono (by decide)) T.b_Reader_learn .nil passL (pa_cons (pv 1) (pa_cons (pv 2) (pa_cons (pv 3) pa_nil)))))
  (pss_one (ps_ret (pv 3)))))), ?_⟩
    refine ⟨_, rfl, p, dx, _, rfl, h1, no _ _ _ _ _ (by decide +kernel), _, rfl, p, d, s, _, ch, y, rfl, S, ?_⟩
    refine ⟨_, rfl, p, dx, _, rfl, h1, no _ _ _ _ _ (by decide +kernel), _, rfl, p, d, s, _, ch, _, rfl, S, ok, cget_ok co y, rfl, fun H1 f1 S1 => ?_⟩
    obtain ⟨⟨dx1, g1⟩, _, _⟩ := id S1
    refine ⟨_, rfl, p, dx1, _, rfl, g1, no _ _ _ _ _ (by decide +kernel), _, rfl, _, rfl, _, rfl, ?_⟩
    refine ⟨p, d, _, _, ch, y, cget ch y, _, rfl, S1, cl, fun H2 f2 S2 => ?_⟩
    exact ⟨_, rfl, k H2 _ rfl (Fm.tr (Fm.mono f1 (by simp)) (Fm.mono f2 (by simp))) S2⟩
theorem ok_Reader_even (T : Txt K mg) {t : Addr} {L : List Int} : FnOk P w K mg base (L2.CX P w) 5 (ma K (ga K "Reader") "even") T.d_Reader_even ["self"] (spREven t L (ga K "Reader")) := by
  refine T.F_Reader_even.ok sc_Reader_even (fun vs H Q E h => ?_) (fun cdv A outer s H vs Q E hr h => ?_)
  · obtain ⟨p, d, s, ch, rfl, _⟩ := h
    rfl
  · obtain ⟨p, d, s, ch, rfl, S, ok, k⟩ := h
    have G_Reader_read_by := ok_Reader_read_by (P := P) (w := w) (base := base) T (t := t) (L := L)
    obtain ⟨⟨dx, h1⟩, _, _⟩ := id S
    refine ⟨_, PSs.nox (pss_one (ps_ret (pe_meth (pv 0) T.cl_Reader T.m_Reader_read_by G_Reader_read_by (hr.mono (by decide)) T.b_Reader_read_by .nil passL (pa_cons (pe_gi rfl T.g_EVEN) pa_nil)))), ?_⟩
    refine ⟨_, rfl, p, dx, _, rfl, h1, cfl_no (by decide +kernel) (rext_no t _ _ (by decide +kernel)), p, d, s, _, ch, _, rfl, S, ok, ch_even, rfl, fun H1 f1 S1 => ?_⟩
    exact k H1 _ rfl (Fm.mono f1 (by simp)) S1
theorem ok_Reader_u_init (T : Txt K mg) : FnOk P w K mg base (L2.CX P w) 3 (ma K (ga K "Reader") "__init__") T.d_Reader_u_init ["self", "letters"] (spRInit K (ga K "Reader")) := by
  refine T.F_Reader_u_init.ok sc_Reader_u_init (fun vs H Q E h => ?_) (fun cdv A outer s H vs Q E hr h => ?_)
  · obtain ⟨p, dx, a, L, rfl, _⟩ := h
    rfl
  · obtain ⟨p, dx, a, L, rfl, h1, hL, k⟩ := h
    have G_Reader_sign_at := ok_Reader_sign_at (P := P) (w := w) (base := base) T
    have G_Coder_u_init := ok_Coder_u_init (P := P) (w := w) (base := base) T T.cl_Reader T.na_Reader_low T.na_Reader_breadth T.na_Reader_room T.na_Reader_sent T.na_Reader_learned_ones T.F_Coder_u_init
    refine ⟨_, PSs.nox (pss_cons (ps_expr (pe_clsf T.cf_Coder_init G_Coder_u_init (hr.mono (by decide)) rfl T.g_Coder T.b_Coder_u_init .nil passL (pa_cons (pv 0) pa_nil)))
  (Evl.pss_cut (ps_fld (pv 0) (pe_callTy call_tuple_of rfl T.n_tuple boot_tuple (pa_cons (pv 1) pa_nil)) rfl)
  (pss_cons (ps_fld (pv 0) pe_int rfl)
  (pss_one (ps_for PassesOwn.never rfl (pi_range1 rfl T.n_range (pa_cons (pe_gi rfl T.g_AHEAD) pa_nil)) (pg_name (i := 2) sc_Reader_u_init.nd rfl (Or.inl rfl))
  (pss_one (ps_fld (pv 0) (pe_op op_add (pe_op op_mul (pe_fld (pv 0) rfl) pe_int) (pe_meth (pv 0) T.cl_Reader T.m_Reader_sign_at G_Reader_sign_at (hr.mono (by decide)) T.b_Reader_sign_at .nil passL (pa_cons (pv 2) pa_nil))) rfl))))))), ?_⟩
    refine ⟨_, rfl, p, dx, rfl, h1, fun d H1 hd f1 g1 g2 => ?_⟩
    have npd : p ≠ d := ne_of_none h1 hd
    have p1 : ∀ t, putF "signs" (.ref t) (cfl 0 4294967296 4294967296 0 d []) = cfl 0 4294967296 4294967296 0 d [("signs", .ref t)] := fun t => by kernel_rfl
    have p2 : ∀ t, putF "code" (.int 0) (cfl 0 4294967296 4294967296 0 d [("signs", .ref t)]) = cfl 0 4294967296 4294967296 0 d (rext t 0) := fun t => by kernel_rfl
    have p3 : ∀ t x y, putF "code" (.int y) (cfl 0 4294967296 4294967296 0 d (rext t x)) = cfl 0 4294967296 4294967296 0 d (rext t y) := fun t x y => by kernel_rfl
    have lc : ∀ t x, (cfl 0 4294967296 4294967296 0 d (rext t x)).lookup ("code" : Str) = some (.int x) := fun t x => by kernel_rfl
    have ls : ∀ t x, (cfl 0 4294967296 4294967296 0 d (rext t x)).lookup ("signs" : Str) = some (.ref t) := fun t x => by kernel_rfl
    have hL1 : SqL K H1 a (L.map V.int) ∨ H1 a = some (.tup (L.map V.int)) := by
      rcases hL with h | h
      · refine .inl ?_
        rcases h with (h | ⟨o, h⟩) | h
        · exact .inl (.inl (f1 _ _ h (by simp; exact ne_of h h1 (by intro z; cases z))))
        · exact .inl (.inr ⟨o, f1 _ _ h (by simp; exact ne_of h h1 (by intro z; cases z))⟩)
        · exact .inr h
      · exact .inr (f1 _ _ h (by simp; exact ne_of h h1 (by intro z; cases z)))
    refine ⟨fun σ H' => ∃ t, σ = [some (.ref p), some (.ref a), none] ∧ Fm [p] H H' ∧ H' p = some (.ins (ga K "Reader") dx (cfl 0 4294967296 4294967296 0 d [("signs", .ref t)])) ∧ H' d = some (.dK []) ∧ H' t = some (.tup (L.map V.int)), ?_, ?_⟩
    · refine ⟨_, rfl, a, L.map V.int, rfl, ?_⟩
      rcases hL1 with h | h
      · refine .inl ⟨h, fun l hl => ?_⟩
        have nlp : l ≠ p := (ne_of_none g1 hl).symm
        have nld : l ≠ d := (ne_of_none g2 hl).symm
        refine ⟨_, rfl, p, _, dx, _, rfl, (upd_ne nlp.symm).trans g1, T.cl_Reader, T.na_Reader_signs, (by decide : 5 < 1000), ?_⟩
        rw [p1]
        exact ⟨l, rfl, Fm.mut (Fm.tr f1 (Fm.of (Ex.new hl))) (.inr (by simp)), upd_same, by rw [upd_ne npd.symm, upd_ne nld.symm]; exact g2, by rw [upd_ne nlp, upd_same]⟩
      · have nap : a ≠ p := ne_of h g1 (by intro z; cases z)
        refine .inr ⟨SqTof h, ?_⟩
        refine ⟨_, rfl, p, _, dx, _, rfl, g1, T.cl_Reader, T.na_Reader_signs, (by decide : 5 < 1000), ?_⟩
        rw [p1]
        exact ⟨a, rfl, Fm.mut f1 (.inr (by simp)), upd_same, by rw [upd_ne npd.symm]; exact g2, by rw [upd_ne nap]; exact h⟩
    · rintro σ H2 ⟨t, rfl, f2, q1, q2, ht⟩
      have ntp : t ≠ p := ne_of ht q1 (by intro z; cases z)
      refine ⟨_, rfl, p, _, dx, _, rfl, q1, T.cl_Reader, T.na_Reader_code, (by decide : 6 < 1000), ?_⟩
      rw [p2]
      refine ⟨4, rfl, by decide, by decide, ?_⟩
      refine for_range (lo := 0) (n := 4) (fun i σ H' => (∃ v, σ = [some (.ref p), some (.ref a), v]) ∧ Fm [p] H H' ∧ H' p = some (.ins (ga K "Reader") dx (cfl 0 4294967296 4294967296 0 d (rext t (numL L i)))) ∧ H' d = some (.dK []) ∧ H' t = some (.tup (L.map V.int))) ?_ ?_ ?_
      · exact ⟨⟨none, rfl⟩, Fm.mut f2 (.inr (by simp)), upd_same, by rw [upd_ne npd.symm]; exact q2, by rw [upd_ne ntp]; exact ht⟩
      · rintro i σ H' hi ⟨⟨v, rfl⟩, f, r1, r2, r3⟩
        refine ⟨_, rfl, p, _, dx, _, _, rfl, r1, T.cl_Reader, T.na_Reader_code, lc .., _, _, rfl, rfl, .inr ⟨by decide, by decide⟩, ?_⟩
        refine ⟨_, rfl, p, dx, _, rfl, r1, cfl_no (by decide +kernel) (rext_no _ _ _ (by decide +kernel)), _, rfl, p, dx, t, L, _, i, (by show [V.ref p, V.int (0 + (i : Int))] = _; rw [Int.zero_add]), r1, ls .., SqTof r3, ?_⟩
        refine ⟨_, _, rfl, rfl, _, rfl, p, _, dx, _, rfl, r1, T.cl_Reader, T.na_Reader_code, (by decide : 7 < 1000), ?_⟩
        rw [p3]
        exact ⟨⟨_, rfl⟩, Fm.mut f (.inr (by simp)), upd_same, by rw [upd_ne npd.symm]; exact r2, by rw [upd_ne ntp]; exact r3⟩
      · rintro σ H' ⟨⟨v, rfl⟩, f, r1, r2, r3⟩
        exact k t d H' f hd npd.symm ⟨⟨dx, r1⟩, r2, r3⟩

end S
end

section
namespace S
open PySem PySem.Spec PyProof.Rows L2 Co
open He (ga ma)
variable {P : Program} {w : World} {K : PySem.W.Frag} {mg : Str → Option Value} {base : Heap}
/-! ### numbers by signs -/
def spSignsIn : Sp := fun vs H Q _ => ∃ n : Nat, vs = [.int n] ∧ Q (.int (lg n)) H
def spLowerSigns : Sp := fun vs H Q _ => ∃ n m : Nat, vs = [.int n, .int m] ∧ m ≤ 100 ∧ ∀ p H', H p = none → Ex H H' → H' p = some (.lst ((lows m n).map V.int)) → Q (.ref p) H'
theorem ok_signs_in (T : Txt K mg) : FnOk P w K mg base (L2.CX P w) 1 (ga K "signs_in") T.d_signs_in ["number"] spSignsIn := by
  refine T.F_signs_in.ok sc_signs_in (fun vs H Q E h => ?_) (fun cdv A outer s H vs Q E hr h => ?_)
  · obtain ⟨n, rfl, _⟩ := h
    rfl
  · obtain ⟨n, rfl, k⟩ := h
    refine ⟨_, PSs.nox (pss_cons (ps_set (i := 1) sc_signs_in.nd rfl (Or.inl rfl) pe_int)
  (pss_cons (ps_while PassesOwn.never (pt_cmpR op_gt (pv 0) pe_int (nomark _))
  (pss_cons (ps_set (i := 0) sc_signs_in.nd rfl (Or.inl rfl) (pe_op op_fdiv (pv 0) pe_int))
  (pss_one (ps_aug (i := 1) sc_signs_in.nd rfl (Or.inl rfl) pe_int (ipR iop_add)))))
  (pss_one (ps_ret (pv 1))))), ?_⟩
    refine ⟨fun m σ H' => ∃ f : Nat, σ = [some (.int (m : Nat)), some (.int f)] ∧ f + lg m = lg n ∧ H' = H, ⟨n, 0, rfl, Nat.zero_add _, rfl⟩, ?_⟩
    rintro m σ H' ⟨f, rfl, e, rfl⟩
    refine ⟨_, rfl, _, _, rfl, rfl, _, rfl, ?_⟩
    by_cases q : 1 < m
    · rw [decide_eq_true (by omega)]
      refine iteT ?_
      refine ⟨_, fun _ _ z => z, ?_⟩
      refine ⟨_, rfl, _, _, rfl, rfl, ⟨by decide, by decide⟩, ?_⟩
      refine ⟨_, rfl, _, _, rfl, rfl, ?_⟩
      refine ⟨m / 2, by omega, f + 1, rfl, ?_, rfl⟩
      rw [lg_gt q] at e
      omega
    · rw [decide_eq_false (by omega)]
      refine iteF ?_
      rw [lg_le (by omega)] at e
      refine ⟨_, rfl, ?_⟩
      have : f = lg n := by omega
      rw [this]
      exact k
theorem ok_lower_signs (T : Txt K mg) : FnOk P w K mg base (L2.CX P w) 1 (ga K "lower_signs") T.d_lower_signs ["number", "many"] spLowerSigns := by
  refine T.F_lower_signs.ok sc_lower_signs (fun vs H Q E h => ?_) (fun cdv A outer s H vs Q E hr h => ?_)
  · obtain ⟨n, m, rfl, _⟩ := h
    rfl
  · obtain ⟨n, m, rfl, hm, k⟩ := h
    refine ⟨_, PSs.nox (pss_cons (ps_set (i := 2) sc_lower_signs.nd rfl (Or.inl rfl) (pe_lst pa_nil))
  (pss_cons (ps_for PassesOwn.never rfl (pi_range1 rfl T.n_range (pa_cons (pv 1) pa_nil)) (pg_name (i := 3) sc_lower_signs.nd rfl (Or.inl rfl))
  (pss_cons (ps_expr (pe_bm PySem.F.plainAttrs_list PySem.F.slot_list_append PySem.F.type_list_append mt_append (pv 2) (pa_cons (pe_op op_mod (pv 0) pe_int) pa_nil)))
  (pss_one (ps_set (i := 0) sc_lower_signs.nd rfl (Or.inl rfl) (pe_op op_fdiv (pv 0) pe_int)))))
  (pss_one (ps_ret (pe_revL (pv 2)))))), ?_⟩
    refine ⟨by decide, fun p hp => ?_⟩
    refine ⟨_, rfl, (m : Int), rfl, by omega, by omega, ?_⟩
    refine for_range (lo := 0) (n := m) (fun i σ H' => (∃ v, σ = [some (.int ((n / 2 ^ i : Nat) : Int)), some (.int m), some (.ref p), v]) ∧ Ex H H' ∧ H' p = some (.lst ((lows i n).reverse.map V.int))) ?_ ?_ ?_
    · exact ⟨⟨none, by simp [L2.start]⟩, Ex.new hp, upd_same⟩
    · rintro i σ H' hi ⟨⟨v, rfl⟩, e, hp'⟩
      refine ⟨_, rfl, tyL hp', _, rfl, _, _, rfl, rfl, by walk_at "n", p, _, _, rfl, rfl, hp', by simp [lows_len]; exact szl (by omega), ?_⟩
      refine ⟨_, rfl, _, _, rfl, rfl, ⟨by decide, by decide⟩, ?_⟩
      refine ⟨⟨_, by rw [Nat.pow_succ, ← Nat.div_div_eq_div_mul]; rfl⟩, Ex.mut e hp, ?_⟩
      rw [upd_same, lows_cons]
      simp
    · rintro σ H' ⟨⟨v, rfl⟩, e, hp'⟩
      refine ⟨_, rfl, p, _, rfl, SqLof hp', fun q hq => ?_⟩
      refine k q _ (e.back hq) (Ex.tr e (Ex.new hq)) ?_
      rw [upd_same, ← List.map_reverse, List.reverse_reverse]
/-- a number within a number -/
def numB (xn xm : V) : Bool := wholeV xm 0 8190 && match xm with
  | .int m => wholeV xn 0 m
  | _ => false
theorem num_of {xn xm : V} (h : numB xn xm = true) : ∃ n m : Nat, xn = .int n ∧ xm = .int m ∧ n ≤ m ∧ m ≤ 8190 := by
  unfold numB at h
  rw [Bool.and_eq_true] at h
  obtain ⟨h1, h2⟩ := h
  cases xm <;> try cases h1
  rename_i m
  cases xn <;> try cases h2
  rename_i n
  have a := of_decide_eq_true h1
  have b := of_decide_eq_true h2
  refine ⟨n.toNat, m.toNat, ?_, ?_, by omega, by omega⟩
  · congr 1
    omega
  · congr 1
    omega
def spNumber (K : PySem.W.Frag) (C : Addr) : Sp := fun vs H Q E => ∃ p d s ch, ∃ (y : Str) (xn xm : V), vs = [.ref p, .str y, xn, xm] ∧ CAt kW C H p d s () ch ∧ s.Ok ∧ ChsOk ch ∧ ch.length ≤ 900000 ∧ y.length ≤ 1000 ∧ Ty4 K H xn ∧ Ty4 K H xm ∧ (numB xn xm = false → E (.ref (ga K "BadNumber")) none H) ∧
  ∀ n m : Nat, xn = .int n → xm = .int m → n ≤ m → m ≤ 8190 → ∀ H', Fm [p, d] H H' → CAt kW C H' p d (runW (s, ch) (numSigns y n m)).1 () (runW (s, ch) (numSigns y n m)).2 → Q .non H'
theorem ok_Writer_number (T : Txt K mg) : FnOk P w K mg base (L2.CX P w) 6 (ma K (ga K "Writer") "number") T.d_Writer_number ["self", "name", "n", "most"] (spNumber K (ga K "Writer")) := by
  refine T.F_Writer_number.ok sc_Writer_number (fun vs H Q E h => ?_) (fun cdv A outer s0 H vs Q E hr h => ?_)
  · obtain ⟨p, d, s, ch, y, xn, xm, rfl, _⟩ := h
    rfl
  · obtain ⟨p, d, s, ch, y, xn, xm, rfl, S, ok, co, cl, hy, tn, tm, hE, k⟩ := h
    have G_is_whole := ok_is_whole (P := P) (w := w) (base := base) T
    have G_signs_in := ok_signs_in (P := P) (w := w) (base := base) T
    have G_lower_signs := ok_lower_signs (P := P) (w := w) (base := base) T
    have G_Writer_bit := ok_Writer_bit (P := P) (w := w) (base := base) T
    have G_Writer_even := ok_Writer_even (P := P) (w := w) (base := base) T
    refine ⟨_, (pss_cons (ps_if (PW.pt (pw_or (pt_not (pt_val (pe_call G_is_whole (hr.mono (by decide)) rfl T.g_is_whole T.F_is_whole.kp T.b_is_whole .nil passL (pa_cons (pv 3) (pa_cons pe_int (pa_cons (pe_gi rfl T.g_MOST_NUMBER) pa_nil)))))) (pw_or1 (pt_not (pt_val (pe_call G_is_whole (hr.mono (by decide)) rfl T.g_is_whole T.F_is_whole.kp T.b_is_whole .nil passL (pa_cons (pv 2) (pa_cons pe_int (pa_cons (pv 3) pa_nil)))))))))
  (pss_one (ps_raise rfl (takes_of rfl rfl rfl rfl) (pmk_own PySem.F.excBase_ValueError T.x_BadNumber.1 T.g_BadNumber T.x_BadNumber.2.1 (raises_own T.x_BadNumber.2.2.1 T.x_BadNumber.2.2.2) rfl)))
  pss_nil)
  (pss_cons (ps_set (i := 4) sc_Writer_number.nd rfl (Or.inl rfl) (pe_call G_signs_in (hr.mono (by decide)) rfl T.g_signs_in T.F_signs_in.kp T.b_signs_in .nil passL (pa_cons (pe_op op_add (pv 2) pe_int) pa_nil)))
  (Evl.pss_cut (ps_for (passes_of rfl) rfl (pi_range1 rfl T.n_range (pa_cons (pv 4) pa_nil)) (pg_name (i := 5) sc_Writer_number.nd rfl (Or.inl rfl))
  (pss_one (ps_expr (pe_meth (pv 0) T.cl_Writer T.m_Writer_bit G_Writer_bit (hr.mono (by decide)) T.b_Writer_bit .nil passL (pa_cons (pe_joined (PJ.cons (pe_fmt (pv 1)) (PJ.cons pe_str (PJ.cons (pe_fmt (pv 5)) PJ.nil)))) (pa_cons pe_int pa_nil))))))
  (Evl.pss_cut (ps_if (pt_cmpR op_lt (pv 4) (pe_call G_signs_in (hr.mono (by decide)) rfl T.g_signs_in T.F_signs_in.kp T.b_signs_in .nil passL (pa_cons (pe_op op_add (pv 3) pe_int) pa_nil)) (nomark _))
  (pss_one (ps_expr (pe_meth (pv 0) T.cl_Writer T.m_Writer_bit G_Writer_bit (hr.mono (by decide)) T.b_Writer_bit .nil passL (pa_cons (pe_joined (PJ.cons (pe_fmt (pv 1)) (PJ.cons pe_str (PJ.cons (pe_fmt (pv 4)) PJ.nil)))) (pa_cons pe_int pa_nil)))))
  pss_nil)
  (pss_one (ps_for (passes_of rfl) rfl (pi_list (pe_call G_lower_signs (hr.mono (by decide)) rfl T.g_lower_signs T.F_lower_signs.kp T.b_lower_signs .nil passL (pa_cons (pe_op op_add (pv 2) pe_int) (pa_cons (pv 4) pa_nil)))) (pg_name (i := 6) sc_Writer_number.nd rfl (Or.inl rfl))
  (pss_one (ps_expr (pe_meth (pv 0) T.cl_Writer T.m_Writer_even G_Writer_even (hr.mono (by decide)) T.b_Writer_even .nil passL (pa_cons (pv 6) pa_nil)))))))))), ?_⟩
    refine ⟨_, rfl, _, _, _, rfl, tm, _, rfl, ?_⟩
    cases e1 : wholeV xm 0 8190 with
    | false => exact iteT (hE (by unfold numB; rw [e1]; rfl))
    | true =>
    refine iteF ?_
    have : ∃ m : Int, xm = .int m := by cases xm <;> first | exact ⟨_, rfl⟩ | cases e1
    obtain ⟨m', rfl⟩ := this
    refine ⟨_, rfl, _, rfl, _, _, _, rfl, tn, _, rfl, ?_⟩
    cases e2 : wholeV xn 0 m' with
    | false => exact iteT (hE (by unfold numB; rw [e1]; exact e2))
    | true =>
    refine iteF ?_
    obtain ⟨n, m, rfl, e3, hnm, hm⟩ := num_of (xn := xn) (xm := .int m') (by unfold numB; rw [e1]; exact e2)
    cases e3
    have k := k n m rfl rfl hnm hm
    have l1 := lg_most (n := n + 1) (by omega)
    refine ⟨_, rfl, _, _, rfl, rfl, n + 1, rfl, ?_⟩
    generalize hu : lg (n + 1) = u at *
    have st0 := runW_n (l := numUp y 0 u) (st := (s, ch))
    -- what stands behind some signs
    let At : List Sgn → Hp → Prop := fun l H' => Fm [p, d] H H' ∧ CAt kW (ga K "Writer") H' p d (runW (s, ch) l).1 () (runW (s, ch) l).2
    have wok : WOk (s, ch) := ⟨ok, co⟩
    refine ⟨fun σ H' => (∃ v, σ = [some (.ref p), some (.str y), some (.int n), some (.int m), some (.int u), v, none]) ∧ At (numUp y 0 u) H', ?_, ?_⟩
    · refine ⟨_, rfl, (u : Int), rfl, by omega, by omega, ?_⟩
      refine for_range (lo := 0) (n := u) (fun i σ H' => (∃ v, σ = [some (.ref p), some (.str y), some (.int n), some (.int m), some (.int u), v, none]) ∧ At (numUp y 0 i) H') ?_ ?_ ?_
      · exact ⟨⟨none, rfl⟩, Fm.refl _ _, S⟩
      · rintro i σ H' hi ⟨⟨v, rfl⟩, f, S'⟩
        obtain ⟨⟨dx, h1⟩, hd, pr⟩ := id S'
        have o' := runW_ok (l := numUp y 0 i) wok
        have n' := runW_n (l := numUp y 0 i) (st := (s, ch))
        rw [numUp_len] at n'
        refine ⟨_, rfl, p, dx, _, rfl, h1, cfl_no (by decide +kernel) rfl, ?_⟩
        refine ⟨_, rfl, .inl ⟨y, rfl, by exact szle (by omega), y, rfl, nm_len1 hy, _, rfl, nm_len2 hy, _, rfl, .inr ⟨_, rfl, ?_, _, rfl, ?_, ?_⟩⟩⟩
        · rw [Int.zero_add]
          exact (small_len i (by omega)).2
        · rw [Int.zero_add]
          exact nm_len hy (by omega)
        rw [Int.zero_add]
        refine ⟨p, d, _, _, nm y i, .int 1, rfl, S', o'.1, o'.2, by dsimp only at n'; omega, ty4_int 1, (fun z => absurd z (by decide)), fun v hv _ H2 f2 S2 => ?_⟩
        cases hv
        refine ⟨⟨_, rfl⟩, Fm.tr f f2, ?_⟩
        rw [numUp_snoc, Nat.zero_add, runW_snoc]
        exact S2
      · rintro σ H' q
        exact q
    · rintro σ H1 ⟨⟨v, rfl⟩, f1, S1⟩
      let mid : List Sgn := numUp y 0 u ++ if u < lg (m + 1) then [(some (nm y u), 0)] else []
      refine ⟨fun σ H' => (∃ v, σ = [some (.ref p), some (.str y), some (.int n), some (.int m), some (.int u), v, none]) ∧ At mid H', ?_, ?_⟩
      · refine ⟨_, rfl, _, rfl, _, _, rfl, rfl, m + 1, rfl, _, _, rfl, rfl, _, rfl, ?_⟩
        by_cases q : u < lg (m + 1)
        · rw [decide_eq_true (by omega)]
          refine iteT ?_
          obtain ⟨⟨dx, h1⟩, hd, pr⟩ := id S1
          have o' := runW_ok (l := numUp y 0 u) wok
          rw [numUp_len] at st0
          refine ⟨_, rfl, p, dx, _, rfl, h1, cfl_no (by decide +kernel) rfl, ?_⟩
          refine ⟨_, rfl, .inl ⟨y, rfl, by exact szle (by omega), y, rfl, nm_len1 hy, _, rfl, nm_len2 hy, _, rfl, .inr ⟨_, rfl, (small_len u (by omega)).2, _, rfl, nm_len hy (by omega), ?_⟩⟩⟩
          refine ⟨p, d, _, _, nm y u, .int 0, rfl, S1, o'.1, o'.2, by dsimp only at st0; omega, ty4_int 0, (fun z => absurd z (by decide)), fun v hv _ H2 f2 S2 => ?_⟩
          cases hv
          refine ⟨⟨_, rfl⟩, Fm.tr f1 f2, ?_⟩
          have e : mid = numUp y 0 u ++ [(some (nm y u), 0)] := by
            show _ ++ _ = _
            rw [if_pos q]
          rw [e, runW_snoc]
          exact S2
        · rw [decide_eq_false (by omega)]
          refine iteF ?_
          refine ⟨⟨_, rfl⟩, f1, ?_⟩
          have e : mid = numUp y 0 u := by
            show _ ++ _ = _
            rw [if_neg q, List.append_nil]
          rw [e]
          exact S1
      · rintro σ H2 ⟨⟨v, rfl⟩, f2, S2⟩
        refine ⟨_, rfl, _, _, rfl, rfl, _, rfl, n + 1, u, rfl, by omega, fun r H3 hr0 x3 hr3 => ?_⟩
        refine ⟨r, rfl, ⟨_, SqLof hr3⟩, ?_⟩
        have nrp : r ≠ p := by
          obtain ⟨⟨dx, h1⟩, _, _⟩ := S2
          exact (ne_of_none h1 hr0).symm
        have nrd : r ≠ d := (ne_of_none S2.dc hr0).symm
        refine for_list (xs := (lows u (n + 1)).map V.int) (fun i σ H' => (∃ v w, σ = [some (.ref p), some (.str y), some (.int n), some (.int m), some (.int u), v, w]) ∧ H' r = some (.lst ((lows u (n + 1)).map V.int)) ∧ At (mid ++ ((lows u (n + 1)).take i).map fun b => (none, b)) H') ?_ ?_ ?_ ?_
        · refine ⟨⟨_, _, rfl⟩, hr3, Fm.tr f2 (Fm.of x3), ?_⟩
          rw [List.take_zero, List.map_nil, List.append_nil]
          exact S2.ex x3
        · rintro i σ H' _ ⟨_, g, _⟩
          exact SqLof g
        · rintro i x σ H' hx ⟨⟨v, w, rfl⟩, g, f, S'⟩
          rw [List.getElem?_map] at hx
          obtain ⟨b, hb, rfl⟩ := Option.map_eq_some_iff.mp hx
          have bb := lows_bit (List.mem_of_getElem? hb)
          obtain ⟨⟨dx, h1⟩, hd, pr⟩ := id S'
          have o' := runW_ok (l := mid ++ ((lows u (n + 1)).take i).map fun b => (none, b)) wok
          refine ⟨_, rfl, p, dx, _, rfl, h1, cfl_no (by decide +kernel) rfl, _, rfl, ?_⟩
          refine ⟨p, d, _, _, .int b, rfl, S', o'.1, ty4_int b, (fun z => ?_), fun v hv _ H4 f4 S4 => ?_⟩
          · have : wholeV (.int b) 0 1 = true := decide_eq_true (by omega)
            rw [this] at z
            cases z
          cases hv
          refine ⟨⟨_, _, rfl⟩, f4 _ _ g (by simp [nrp, nrd]), Fm.tr f f4, ?_⟩
          rw [List.take_succ, hb, Option.toList_some, List.map_append, ← List.append_assoc, List.map_cons, List.map_nil, runW_snoc]
          exact S4
        · rintro σ H' ⟨_, _, f, S'⟩
          rw [List.length_map, List.take_length] at S'
          refine k H' f ?_
          unfold numSigns
          rw [hu, ← List.append_assoc]
          exact S'
def spRNumber (t : Addr) (L : List Int) (C : Addr) : Sp := fun vs H Q _ => ∃ p d s ch, ∃ (y : Str) (m : Nat), vs = [.ref p, .str y, .int m] ∧ CAt (kR t L) C H p d s (numL L (s.n + 4)) ch ∧ s.Ok ∧ ChsOk ch ∧ ch.length ≤ 900000 ∧ y.length ≤ 1000 ∧ m ≤ 8190 ∧
  ∀ H', Fm [p, d] H H' → CAt (kR t L) C H' p d (rdNumber L y m (s, ch)).2.1 (numL L ((rdNumber L y m (s, ch)).2.1.n + 4)) (rdNumber L y m (s, ch)).2.2 → Q (.int (rdNumber L y m (s, ch)).1) H'
theorem rdUp_le (L : List Int) (y : Str) : ∀ (f j : Nat) (st : WS), (rdUp L y f j st).1 ≤ j + f
  | 0, j, _ => Nat.le_refl j
  | f + 1, j, st => by
    rw [rdUp]
    split
    · have := rdUp_le L y f (j + 1) (stpW st (some (nm y j), decS L st (some (nm y j))))
      omega
    · show j ≤ _
      omega
theorem ok_Reader_number (T : Txt K mg) {t : Addr} {L : List Int} : FnOk P w K mg base (L2.CX P w) 7 (ma K (ga K "Reader") "number") T.d_Reader_number ["self", "name", "most"] (spRNumber t L (ga K "Reader")) := by
  refine T.F_Reader_number.ok sc_Reader_number (fun vs H Q E h => ?_) (fun cdv A outer s0 H vs Q E hr h => ?_)
  · obtain ⟨p, d, s, ch, y, m, rfl, _⟩ := h
    rfl
  · obtain ⟨p, d, s, ch, y, m, rfl, S, ok, co, cl, hy, hm, k⟩ := h
    have G_is_whole := ok_is_whole (P := P) (w := w) (base := base) T
    have G_signs_in := ok_signs_in (P := P) (w := w) (base := base) T
    have G_Reader_bit := ok_Reader_bit (P := P) (w := w) (base := base) T (t := t) (L := L)
    have G_Reader_even := ok_Reader_even (P := P) (w := w) (base := base) T (t := t) (L := L)
    have wok : WOk (s, ch) := ⟨ok, co⟩
    have no : ∀ (l b r : Int) (n : Nat) (y : Int) {m : Str}, m ∈ meths → (cfl l b r n d (rext t y)).lookup m = none := fun l b r n y m hm => cfl_no hm (rext_no t y m hm)
    let At : WS → Hp → Prop := fun st H' => Fm [p, d] H H' ∧ CAt (kR t L) (ga K "Reader") H' p d st.1 (numL L (st.1.n + 4)) st.2
    refine ⟨_, PSs.nox (pss_cons (ps_if (pt_not (pt_val (pe_call G_is_whole (hr.mono (by decide)) rfl T.g_is_whole T.F_is_whole.kp T.b_is_whole .nil passL (pa_cons (pv 2) (pa_cons pe_int (pa_cons (pe_gi rfl T.g_MOST_NUMBER) pa_nil))))))
  (pss_one ps_never)
  pss_nil)
  (pss_cons (ps_par (i := 3) (j := 4) rfl sc_Reader_number.nd rfl rfl (by decide) rfl rfl (pa_cons (pe_call G_signs_in (hr.mono (by decide)) rfl T.g_signs_in T.F_signs_in.kp T.b_signs_in .nil passL (pa_cons (pe_op op_add (pv 2) pe_int) pa_nil)) (pa_cons pe_int pa_nil)) (by rfl))
  (Evl.pss_cut (ps_while PassesOwn.never (PW.pt (pw_and (pt_cmpR op_lt (pv 4) (pv 3) (nomark _)) (pw_and1 (pt_cmpR op_eq (pe_meth (pv 0) T.cl_Reader T.m_Reader_bit G_Reader_bit (hr.mono (by decide)) T.b_Reader_bit .nil passL (pa_cons (pe_joined (PJ.cons (pe_fmt (pv 1)) (PJ.cons pe_str (PJ.cons (pe_fmt (pv 4)) PJ.nil)))) pa_nil)) pe_int (nomark _)))))
  (pss_one (ps_aug (i := 4) sc_Reader_number.nd rfl (Or.inl rfl) pe_int (ipR iop_add))))
  (pss_cons (ps_set (i := 5) sc_Reader_number.nd rfl (Or.inl rfl) pe_int)
  (Evl.pss_cut (ps_for PassesOwn.never rfl (pi_range1 rfl T.n_range (pa_cons (pv 4) pa_nil)) (pg_name (i := 6) sc_Reader_number.nd rfl (Or.inl rfl))
  (pss_one (ps_set (i := 5) sc_Reader_number.nd rfl (Or.inl rfl) (pe_op op_add (pe_op op_mul pe_int (pv 5)) (pe_meth0 (pv 0) T.cl_Reader T.m_Reader_even G_Reader_even (hr.mono (by decide)) T.b_Reader_even .nil passL)))))
  (pss_one (ps_ret (pe_callB (call_min2 rfl) rfl T.n_min boot_min (pa_cons (pe_op op_sub (pv 5) pe_int) (pa_cons (pv 2) pa_nil)))))))))), ?_⟩
    refine ⟨_, rfl, _, _, _, rfl, ty4_int m, _, rfl, ?_⟩
    have e1 : wholeV (.int m) 0 8190 = true := decide_eq_true (by omega)
    rw [e1]
    refine iteF ?_
    refine ⟨_, rfl, _, _, rfl, rfl, m + 1, rfl, ?_⟩
    have l1 := lg_most (n := m + 1) (by omega)
    generalize hg : lg (m + 1) = g at *
    refine ⟨_, _, rfl, ?_⟩
    let R : Nat × WS := rdUp L y g 0 (s, ch)
    have hR : R = rdUp L y g 0 (s, ch) := rfl
    refine ⟨fun σ H' => σ = [some (.ref p), some (.str y), some (.int m), some (.int g), some (.int R.1), none, none] ∧ At R.2 H' ∧ WOk R.2, ?_, ?_⟩
    · refine ⟨fun f σ H' => ∃ (j : Nat) (st : WS), f = g - j ∧ j ≤ g ∧ σ = [some (.ref p), some (.str y), some (.int m), some (.int g), some (.int j), none, none] ∧ At st H' ∧ WOk st ∧ st.2.length ≤ 900000 + j ∧ rdUp L y (g - j) j st = R, ⟨g, 0, (s, ch), rfl, Nat.zero_le _, rfl, ⟨Fm.refl _ _, S⟩, wok, cl, rfl⟩, ?_⟩
      rintro f σ H' ⟨j, st, rfl, hj, rfl, ⟨f1, S1⟩, o1, c1, hr1⟩
      refine ⟨_, rfl, _, rfl, _, _, rfl, rfl, _, rfl, ?_⟩
      by_cases q : j < g
      · rw [decide_eq_true (by omega)]
        refine iteT ?_
        obtain ⟨⟨dx, h1⟩, hd, pr⟩ := id S1
        refine ⟨_, rfl, p, dx, _, rfl, h1, no _ _ _ _ _ (by decide +kernel), ?_⟩
        refine ⟨_, rfl, .inl ⟨y, rfl, by exact szle (by omega), y, rfl, nm_len1 hy, _, rfl, nm_len2 hy, _, rfl, .inr ⟨_, rfl, (small_len j (by omega)).2, _, rfl, nm_len hy (by omega), ?_⟩⟩⟩
        refine ⟨p, d, _, _, nm y j, rfl, S1, o1.1, o1.2, by omega, fun H2 v hv f2 S2 => ?_⟩
        refine ⟨rfl, _, rfl, ?_⟩
        have hv' : v = decS L st (some (nm y j)) := hv
        have e : g - j = (g - (j + 1)) + 1 := by omega
        rw [e, rdUp, ← hv'] at hr1
        by_cases z : v = 1
        · rw [decide_eq_true (congrArg V.int z)]
          refine iteT ?_
          rw [if_pos z] at hr1
          refine ⟨_, fun _ _ z => z, ?_⟩
          refine ⟨_, rfl, _, _, rfl, rfl, ?_⟩
          have n1 := (stpW_n st (some (nm y j), v)).2
          exact ⟨g - (j + 1), by omega, j + 1, stpW st (some (nm y j), v), rfl, q, rfl, ⟨Fm.tr f1 f2, S2⟩, stpW_ok o1 _, by omega, hr1⟩
        · rw [decide_eq_false (fun q => z (V.int.inj q))]
          refine iteF ?_
          rw [if_neg z] at hr1
          rw [← hr1]
          exact ⟨rfl, ⟨Fm.tr f1 f2, S2⟩, stpW_ok o1 _⟩
      · rw [decide_eq_false (by omega)]
        refine iteF ?_
        have e : g - j = 0 := by omega
        rw [e, rdUp] at hr1
        rw [← hr1]
        exact ⟨rfl, ⟨f1, S1⟩, o1⟩
    · rintro σ H1 ⟨rfl, ⟨f1, S1⟩, o1⟩
      have rl := rdUp_le L y g 0 (s, ch)
      rw [← hR] at rl
      let F : Int × WS := rdLow L R.1 1 R.2
      have hF : rdNumber L y m (s, ch) = (min (F.1 - 1) m, F.2) := by
        unfold rdNumber
        rw [hg]
      refine ⟨fun σ H' => (∃ v, σ = [some (.ref p), some (.str y), some (.int m), some (.int g), some (.int R.1), some (.int F.1), v]) ∧ At F.2 H', ?_, ?_⟩
      · refine ⟨_, rfl, (R.1 : Int), rfl, by omega, by omega, ?_⟩
        refine for_range (lo := 0) (n := R.1) (fun i σ H' => ∃ (x : Int) (st : WS), (∃ v, σ = [some (.ref p), some (.str y), some (.int m), some (.int g), some (.int R.1), some (.int x), v]) ∧ At st H' ∧ WOk st ∧ i ≤ R.1 ∧ (0 ≤ x ∧ x < 2 ^ (i + 1)) ∧ rdLow L (R.1 - i) x st = F) ?_ ?_ ?_
        · exact ⟨1, R.2, ⟨none, rfl⟩, ⟨f1, S1⟩, o1, Nat.zero_le _, ⟨by decide, by decide⟩, rfl⟩
        · rintro i σ H' hi ⟨x, st, ⟨v, rfl⟩, ⟨f2, S2⟩, o2, hi2, hx, hl⟩
          obtain ⟨⟨dx, h1⟩, hd, pr⟩ := id S2
          have p1 : (2 : Int) ^ (i + 1) ≤ 2 ^ 13 := by
            have : (2 : Nat) ^ (i + 1) ≤ 2 ^ 13 := Nat.pow_le_pow_right (by decide) (by omega)
            exact_mod_cast this
          refine ⟨_, rfl, _, _, rfl, rfl, .inl ⟨by decide, by omega⟩, _, rfl, p, dx, _, rfl, h1, no _ _ _ _ _ (by decide +kernel), p, d, _, _, rfl, S2, o2.1, fun H3 v3 hv f3 S3 => ?_⟩
          refine ⟨_, _, rfl, rfl, ?_⟩
          have hv' : v3 = decS L st none := hv
          have hb := dec_bit st.1 (partOf st.1 1024) (numL L (st.1.n + 4))
          rw [← hv] at hb
          have e : R.1 - i = (R.1 - (i + 1)) + 1 := by omega
          rw [e, rdLow, ← hv'] at hl
          refine ⟨_, _, ⟨_, rfl⟩, ⟨Fm.tr f2 f3, S3⟩, stpW_ok o2 _, by omega, ⟨by omega, ?_⟩, hl⟩
          rw [Int.pow_succ]
          omega
        · rintro σ H' ⟨x, st, ⟨v, rfl⟩, a2, _, _, _, hl⟩
          rw [Nat.sub_self, rdLow] at hl
          rw [← hl]
          exact ⟨⟨_, rfl⟩, a2⟩
      · rintro σ H' ⟨⟨v, rfl⟩, f2, S2⟩
        refine ⟨_, rfl, _, _, rfl, rfl, _, rfl, _, _, rfl, ?_⟩
        have k := k H' f2
        rw [hF] at k
        have e : (if (m : Int) < F.1 - 1 then (m : Int) else F.1 - 1) = min (F.1 - 1) (m : Int) := by
          by_cases z : (m : Int) < F.1 - 1
          · rw [if_pos z]
            omega
          · rw [if_neg z]
            omega
        rw [e]
        exact k S2

end S
end

section
namespace S
open PySem PySem.Spec PyProof.Rows L2 Co
open He (ga ma)
variable {P : Program} {w : World} {K : PySem.W.Frag} {mg : Str → Option Value} {base : Heap}
/-! ### the drawer: a dict of left, at, cells -/
def stK (l : Int) (k : Nat) (c : Addr) : List (Key × V) := [(Sum.inr "left", .int l), (Sum.inr "at", .int k), (Sum.inr "cells", .ref c)]
section
variable {l y : Int} {k m : Nat} {c : Addr}
theorem stK_left : valV (stK l k c) (Sum.inr "left" : Key) = some (.int l) := by kernel_rfl
theorem stK_at : valV (stK l k c) (Sum.inr "at" : Key) = some (.int k) := by kernel_rfl
theorem stK_cells : valV (stK l k c) (Sum.inr "cells" : Key) = some (.ref c) := by kernel_rfl
theorem stK_pl : putK (stK l k c) (Sum.inr "left" : Key) (.int y) = stK y k c := by kernel_rfl
theorem stK_pa : putK (stK l k c) (Sum.inr "at" : Key) (.int ((k : Int) + 1)) = stK l (k + 1) c := by kernel_rfl
end
def primes : List Int := [2147483629, 2147483587, 2147483579, 2147483563, 2147483549, 2147483543, 2147483497, 2147483489]
theorem tw64 {y : Int} (h : 0 ≤ y ∧ y < 2147483648) : -(2 ^ 64) < y ∧ y < 2 ^ 64 := ⟨by omega, by omega⟩
theorem primes_ok : ∀ z ∈ primes, 0 < z ∧ z < 2147483648 := by decide
/-- the drawer stands at p -/
def DrAt (H : Hp) (p c : Addr) : Prop := ∃ (l : Int) (k : Nat) (ns : List Int), H p = some (.dK (stK l k c)) ∧ H c = some (.lst (ns.map V.int)) ∧ ns.length ≤ 1000
theorem DrAt.ex {H H' : Hp} {p c : Addr} (h : DrAt H p c) (e : Ex H H') : DrAt H' p c := by
  obtain ⟨l, k, ns, h1, h2, h3⟩ := h
  exact ⟨l, k, ns, e _ _ h1, e _ _ h2, h3⟩
/-- what a drawer leans on: itself, a list -/
theorem DrAt.fm {H H' : Hp} {p c : Addr} {S : List Addr} (h : DrAt H p c) (e : Fm S H H') (hp : p ∉ S) (hc : c ∉ S) : DrAt H' p c := by
  obtain ⟨l, k, ns, h1, h2, h3⟩ := h
  exact ⟨l, k, ns, e _ _ h1 hp, e _ _ h2 hc, h3⟩
def spBegin (K : PySem.W.Frag) : Sp := fun vs H Q _ => ∃ (a : Addr) (ns : List Int), vs = [.ref a] ∧ SqL K H a (ns.map V.int) ∧ ns.length ≤ 1000 ∧ ∀ p c H', H p = none → H c = none → Ex H H' → DrAt H' p c → Q (.ref p) H'
def spMore : Sp := fun vs H Q _ => ∃ p c, vs = [.ref p] ∧ DrAt H p c ∧ ∀ (n : Int) H', Fm [p] H H' → DrAt H' p c → Q (.int n) H'
def spNext : Sp := fun vs H Q _ => ∃ p c, ∃ m : Int, vs = [.ref p, .int m] ∧ DrAt H p c ∧ 0 < m ∧ m < 1073741824 ∧ ∀ (n : Int) H', 0 ≤ n → n < m → Fm [p] H H' → DrAt H' p c → Q (.int n) H'
def spPick (K : PySem.W.Frag) : Sp := fun vs H Q _ => ∃ p c a xs, vs = [.ref p, .ref a] ∧ DrAt H p c ∧ SqL K H a xs ∧ p ≠ a ∧ xs ≠ [] ∧ xs.length < 1000 ∧ ∀ (x : V) H', x ∈ xs → Fm [p] H H' → DrAt H' p c → Q x H'
theorem ok_l_begin (T : Txt K mg) : FnOk P w K mg base (L2.CX P w) 1 (ga K "_law_begin") T.d_l_begin ["_law_script"] (spBegin K) := by
  refine T.F_l_begin.ok sc_l_begin (fun vs H Q E h => ?_) (fun cdv A outer s H vs Q E hr h => ?_)
  · obtain ⟨a, ns, rfl, _⟩ := h
    rfl
  · obtain ⟨a, ns, rfl, hS, hl, k⟩ := h
    have hu := hu_of hr
    refine ⟨_, PSs.nox (pss_one (ps_ret (pe_disp (pps_cons pe_str pe_int (pps_cons pe_str pe_int (pps_cons pe_str (pe_callTy call_list_of rfl T.n_list boot_list (pa_cons (pv 0) pa_nil)) pps_nil))) (by rfl) (by rfl) (fun z => by cases z) (by decide)))), ?_⟩
    intro p hp
    refine ⟨_, rfl, a, ns.map V.int, rfl, .inl (Ex.sql (Ex.new hp) hS), fun c hc => ?_⟩
    have npc : p ≠ c := ne_of_none (upd_same) hc
    refine ⟨by rw [upd_ne npc]; exact upd_same, stK 0 0 c, rfl, (by decide : 3 ≤ 15), ?_⟩
    have hc0 : H c = none := by rw [upd_ne npc.symm] at hc; exact hc
    refine k p c _ hp hc0 (Ex.mut (Ex.tr (Ex.new hp) (Ex.new hc)) hp) ⟨0, 0, ns, ?_, ?_, hl⟩
    · rw [upd_same]
      kernel_rfl
    · rw [upd_ne npc.symm, upd_same]
theorem ok_l_more (T : Txt K mg) : FnOk P w K mg base (L2.CX P w) 1 (ga K "_law_more") T.d_l_more ["_law_state"] spMore := by
  refine T.F_l_more.ok sc_l_more (fun vs H Q E h => ?_) (fun cdv A outer s H vs Q E hr h => ?_)
  · obtain ⟨p, c, rfl, _⟩ := h
    rfl
  · obtain ⟨p, c, rfl, ⟨l, m, ns, hp, hc, hl⟩, k⟩ := h
    have hu := hu_of hr
    refine ⟨_, PSs.nox (pss_cons (ps_set (i := 1) sc_l_more.nd rfl (Or.inl rfl) (pe_dget hu (pv 0) pe_str (fun _ _ => rfl)))
  (pss_cons (ps_dput hu (pv 0) pe_str (pe_op op_add (pv 1) pe_int) rfl)
  (pss_cons (ps_set (i := 2) sc_l_more.nd rfl (Or.inl rfl) (pe_dget hu (pv 0) pe_str (fun _ _ => rfl)))
  (Evl.pss_cut (ps_set (i := 3) sc_l_more.nd rfl (Or.inl rfl) (pe_ifExp (pt_cmpR (op_neD hr.units) (pv 2) (pe_lst pa_nil) (nomark _)) (pe_callB call_abs rfl T.n_abs boot_abs (pa_cons (pe_ix ix_list (pv 2) (pe_op op_mod (pv 1) (pe_callB call_len_seq rfl T.n_len boot_len (pa_cons (pv 2) pa_nil))) (fun _ _ => rfl)) pa_nil)) pe_int))
  (Evl.pss_cut (ps_if (PW.pt (pw_and (pt_cmpR op_lt (pv 1) (pe_callB call_len_seq rfl T.n_len boot_len (pa_cons (pv 2) pa_nil)) (nomark _)) (pw_and1 (pt_cmpR op_ge (pv 3) (pe_op op_pow pe_int pe_int) (nomark _)))))
  (pss_one (ps_ret (pe_op op_sub (pv 3) (pe_op op_pow pe_int pe_int))))
  pss_nil)
  (pss_cons (ps_set (i := 4) sc_l_more.nd rfl (Or.inl rfl) pe_int)
  (pss_cons (ps_set (i := 5) sc_l_more.nd rfl (Or.inl rfl) (pe_lst (pa_cons pe_int (pa_cons pe_int (pa_cons pe_int (pa_cons pe_int (pa_cons pe_int (pa_cons pe_int (pa_cons pe_int (pa_cons pe_int pa_nil))))))))))
  (pss_cons (ps_for PassesOwn.never rfl (pi_enum (by rfl) T.n_enumerate (pa_cons (pv 5) pa_nil)) (pg_tup rfl (pgs_cons (pg_name (i := 6) sc_l_more.nd rfl (Or.inl rfl)) (pgs_cons (pg_name (i := 7) sc_l_more.nd rfl (Or.inl rfl)) pgs_nil)))
  (pss_cons (ps_set (i := 8) sc_l_more.nd rfl (Or.inl rfl) (pe_op op_mod (pe_op op_add (pe_op op_add (pe_op op_mul (pe_op op_mod (pv 3) (pv 7)) pe_int) (pe_op op_mul pe_int (pe_op op_add (pv 1) pe_int))) (pe_op op_mul (pe_op op_mul pe_int (pv 6)) (pv 6))) (pv 7)))
  (pss_cons (ps_set (i := 8) sc_l_more.nd rfl (Or.inl rfl) (pe_op op_mod (pe_op op_add (pe_op op_add (pe_op op_mul (pv 8) (pv 8)) (pe_op op_mul pe_int (pv 1))) (pv 6)) (pv 7)))
  (pss_one (ps_set (i := 4) sc_l_more.nd rfl (Or.inl rfl) (pe_op op_add (pe_op op_mul (pv 4) pe_int) (pe_op op_mod (pe_op op_mul (pv 8) (pe_op op_add (pe_op op_add (pv 8) (pv 6)) pe_int)) (pv 7))))))))
  (pss_one (ps_ret (pv 4))))))))))), ?_⟩
    refine ⟨_, rfl, p, _, rfl, stK_at ▸ DGet.k (k := Sum.inr "at") hp, ?_⟩
    refine ⟨_, rfl, _, _, rfl, rfl, _, rfl, p, _, rfl, DPut.k (k := Sum.inr "at") hp (szl (by decide : 3 ≤ 16000000)), ?_⟩
    rw [stK_pa]
    have npc : p ≠ c := ne_of hp hc (by intro z; cases z)
    have hc1 : (upd H p (.dK (stK l (m + 1) c))) c = some (.lst (ns.map V.int)) := by rw [upd_ne npc.symm]; exact hc
    have hp1 : (upd H p (.dK (stK l (m + 1) c))) p = some (.dK (stK l (m + 1) c)) := upd_same
    have f1 : Fm [p] H (upd H p (.dK (stK l (m + 1) c))) := Fm.mut (Fm.refl _ _) (.inr (by simp))
    generalize upd H p (.dK (stK l (m + 1) c)) = H1 at *
    refine ⟨_, rfl, p, _, rfl, stK_cells ▸ DGet.k (k := Sum.inr "cells") hp1, ?_⟩
    refine ⟨fun σ H' => (∃ cell : Int, σ = [some (.ref p), some (.int m), some (.ref c), some (.int cell), none, none, none, none, none]) ∧ Ex H1 H', ?_, ?_⟩
    · refine ⟨_, rfl, by decide, fun q hq => ⟨.list (intsD ns), .list (intsD []), .lst (SqLof (Ex.new hq _ _ hc1)) (dp_ints ns), .lst (SqLof upd_same) (dp_ints []), ints_shL _, ints_shL _, _, rfl, ?_⟩⟩
      have e0 : PyData.eqv (.list (intsD ns)) (.list (intsD [])) = decide (ns = []) := by
        rw [← ints_eqv ns []]
        simp only [PyData.eqv]
      rw [e0]
      have hc2 := Ex.new (o := .lst []) hq _ _ hc1
      by_cases hn : ns = []
      · rw [decide_eq_true hn]
        refine iteF ?_
        exact ⟨⟨_, rfl⟩, Ex.new hq⟩
      · rw [decide_eq_false hn]
        refine iteT ?_
        have h0 : 0 < ns.length := List.length_pos_iff.mpr hn
        have hm : m % ns.length < ns.length := Nat.mod_lt _ h0
        have e1 : (m : Int) % ((ns.map V.int).length : Int) = ((m % ns.length : Nat) : Int) := by rw [List.length_map, Int.natCast_emod]
        refine ⟨_, rfl, _, rfl, _, rfl, c, _, rfl, .inl (SqLof hc2), _, _, rfl, rfl, (by rw [List.length_map]; exact Int.ofNat_lt.mpr h0), ?_⟩
        refine ⟨c, _, _, .int ns[m % ns.length], rfl, rfl, SqLof hc2, ?_, _, rfl, ?_⟩
        · rw [e1]
          refine atI_nat ?_
          rw [List.getElem?_map, List.getElem?_eq_getElem hm]
          rfl
        · exact ⟨⟨_, rfl⟩, Ex.new hq⟩
    · rintro σ H2 ⟨⟨cell, rfl⟩, e2⟩
      have hc2 := e2 _ _ hc1
      have hp2 := e2 _ _ hp1
      have f2 : Fm [p] H H2 := Fm.tr f1 (Fm.of e2)
      have done : ∀ (n : Int) H3, Ex H2 H3 → Q (.int n) H3 := fun n H3 e3 => k n H3 (Fm.tr f2 (Fm.of e3)) ⟨l, m + 1, ns, e3 _ _ hp2, e3 _ _ hc2, hl⟩
      refine ⟨fun σ H' => σ = [some (.ref p), some (.int m), some (.ref c), some (.int cell), none, none, none, none, none] ∧ H' = H2, ?_, ?_⟩
      · refine ⟨_, rfl, _, rfl, c, _, rfl, .inl (SqLof hc2), _, _, rfl, rfl, _, rfl, ?_⟩
        refine ite2 (fun _ => ?_) (fun _ => iteF ⟨rfl, rfl⟩)
        refine ⟨_, rfl, _, _, rfl, rfl, ⟨by decide, by decide, by decide⟩, _, _, rfl, rfl, _, rfl, ?_⟩
        refine ite2 (fun _ => ?_) (fun _ => ⟨rfl, rfl⟩)
        refine ⟨_, rfl, _, _, rfl, rfl, ⟨by decide, by decide, by decide⟩, _, _, rfl, rfl, ?_⟩
        exact done _ _ Ex.rfl'
      · rintro σ H3 ⟨rfl, rfl⟩
        refine ⟨(by decide : 8 ≤ sizeLine), fun r hr0 => ?_⟩
        have hr1 : (upd H3 r (.lst (primes.map V.int))) r = some (.lst (primes.map V.int)) := upd_same
        have er := Ex.new (o := .lst (primes.map V.int)) hr0
        refine ⟨_, rfl, r, primes.map V.int, rfl, SqLof hr1, ?_⟩
        refine for_enum (xs := primes.map V.int) (fun i σ H' => (∃ (n : Int) (v6 v7 v8 : Option V), σ = [some (.ref p), some (.int m), some (.ref c), some (.int cell), some (.int n), some (.ref r), v6, v7, v8]) ∧ Ex (upd H3 r (.lst (primes.map V.int))) H') ?_ ?_ ?_ ?_
        · exact ⟨⟨1, none, none, none, rfl⟩, Ex.rfl'⟩
        · rintro i σ H' ⟨_, e⟩
          exact SqLof (e _ _ hr1)
        · rintro i x t σ H' hx ⟨⟨n, v6, v7, v8, rfl⟩, e⟩ ht
          obtain ⟨z, hz, rfl⟩ : ∃ z, primes[i]? = some z ∧ V.int z = x := by
            rw [List.getElem?_map] at hx
            cases hq : primes[i]? with
            | none => rw [hq] at hx; cases hx
            | some z => rw [hq] at hx; exact ⟨z, rfl, Option.some.inj hx⟩
          have hi : i < 8 := (List.getElem?_eq_some_iff.mp hz).1
          have hzb := primes_ok z (List.mem_of_getElem? hz)
          have er1 : ∀ y : Int, 0 ≤ y % z ∧ y % z < 2147483648 := fun y => ⟨Int.emod_nonneg _ (by omega), Int.lt_trans (Int.emod_lt_of_pos _ hzb.1) hzb.2⟩
          refine ⟨t, [.int i, .int z], rfl, SqTof upd_same, rfl, _, _, rfl, _, _, rfl, rfl, ?_⟩
          refine ⟨_, rfl, _, rfl, _, _, rfl, rfl, hzb.1, _, _, rfl, rfl, .inr ⟨by decide, by decide⟩, _, rfl, _, _, rfl, rfl, _, _, rfl, rfl, .inl ⟨by decide, by decide⟩, _, _, rfl, rfl, ?_⟩
          refine ⟨_, rfl, _, _, rfl, rfl, .inl ⟨by decide, by decide⟩, _, rfl, _, _, rfl, rfl, .inr ⟨by omega, by omega⟩, _, _, rfl, rfl, _, rfl, _, _, rfl, rfl, hzb.1, ?_⟩
          refine ⟨_, rfl, _, rfl, _, _, rfl, rfl, .inl (tw64 (er1 _)), _, rfl, _, _, rfl, rfl, .inl ⟨by decide, by decide⟩, _, _, rfl, rfl, _, rfl, _, _, rfl, rfl, _, rfl, _, _, rfl, rfl, hzb.1, ?_⟩
          refine ⟨_, rfl, _, _, rfl, rfl, .inr ⟨by decide, by decide⟩, _, rfl, _, rfl, _, rfl, _, _, rfl, rfl, _, _, rfl, rfl, _, _, rfl, rfl, .inl (tw64 (er1 _)), _, rfl, _, _, rfl, rfl, hzb.1, _, _, rfl, rfl, ?_⟩
          exact ⟨⟨_, _, _, _, rfl⟩, Ex.tr e (Ex.new ht)⟩
        · rintro σ H' ⟨⟨n, v6, v7, v8, rfl⟩, e⟩
          exact ⟨_, rfl, done n H' (Ex.tr er e)⟩
theorem ok_l_next (T : Txt K mg) : FnOk P w K mg base (L2.CX P w) 2 (ga K "_law_next") T.d_l_next ["_law_state", "_law_most"] spNext := by
  refine T.F_l_next.ok sc_l_next (fun vs H Q E h => ?_) (fun cdv A outer s H vs Q E hr h => ?_)
  · obtain ⟨p, c, m, rfl, _⟩ := h
    rfl
  · obtain ⟨p, c, m, rfl, D, m0, m1, k⟩ := h
    have hu := hu_of hr
    have G_l_more := ok_l_more (P := P) (w := w) (base := base) T
    refine ⟨_, PSs.nox (Evl.pss_cut (ps_if (pt_cmpR op_eq (pe_dget hu (pv 0) pe_str (fun _ _ => rfl)) pe_int (nomark _))
  (pss_one (ps_dput hu (pv 0) pe_str (pe_call G_l_more (hr.mono (by decide)) rfl T.g_l_more T.F_l_more.kp T.b_l_more .nil passL (pa_cons (pv 0) pa_nil)) rfl))
  pss_nil)
  (pss_cons (ps_set (i := 2) sc_l_next.nd rfl (Or.inl rfl) (pe_op op_mod (pe_dget hu (pv 0) pe_str (fun _ _ => rfl)) (pv 1)))
  (pss_cons (ps_daug hu (pv 0) pe_str (pv 1) (inR iop_fdiv) (fun _ _ _ => rfl))
  (pss_one (ps_ret (pv 2)))))), ?_⟩
    refine ⟨fun σ H' => σ = [some (.ref p), some (.int m), none] ∧ Fm [p] H H' ∧ DrAt H' p c, ?_, ?_⟩
    · obtain ⟨l, j, ns, hp, hc, hl⟩ := id D
      refine ⟨_, rfl, p, _, rfl, stK_left ▸ DGet.k (k := Sum.inr "left") hp, rfl, _, rfl, ?_⟩
      refine ite2 (fun _ => ?_) (fun _ => ⟨rfl, Fm.refl _ _, D⟩)
      refine ⟨_, rfl, p, c, rfl, D, fun n H1 f1 D1 => ?_⟩
      obtain ⟨l1, j1, ns1, hp1, hc1, hl1⟩ := D1
      refine ⟨_, rfl, p, _, rfl, DPut.k (k := Sum.inr "left") hp1 (szl (by decide : 3 ≤ 16000000)), ?_⟩
      rw [stK_pl]
      exact ⟨rfl, Fm.mut f1 (.inr (by simp)), n, j1, ns1, upd_same, by rw [upd_ne (ne_of hc1 hp1 (by intro z; cases z))]; exact hc1, hl1⟩
    · rintro σ H1 ⟨rfl, f1, l, j, ns, hp, hc, hl⟩
      refine ⟨_, rfl, p, _, rfl, stK_left ▸ DGet.k (k := Sum.inr "left") hp, _, rfl, _, _, rfl, rfl, m0, ?_⟩
      refine ⟨_, rfl, p, _, rfl, stK_left ▸ DGet.k (k := Sum.inr "left") hp, _, rfl, _, _, rfl, rfl, ⟨m0, m1⟩, _, DPut.k (k := Sum.inr "left") hp (szl (by decide : 3 ≤ 16000000)), ?_⟩
      rw [stK_pl]
      refine ⟨_, rfl, k _ _ (Int.emod_nonneg _ (by omega)) (Int.emod_lt_of_pos _ m0) (Fm.mut f1 (.inr (by simp))) ⟨_, j, ns, upd_same, ?_, hl⟩⟩
      rw [upd_ne (ne_of hc hp (by intro z; cases z))]
      exact hc
theorem ok_l_pick (T : Txt K mg) : FnOk P w K mg base (L2.CX P w) 3 (ga K "_law_pick") T.d_l_pick ["_law_state", "_law_some"] (spPick K) := by
  refine T.F_l_pick.ok sc_l_pick (fun vs H Q E h => ?_) (fun cdv A outer s H vs Q E hr h => ?_)
  · obtain ⟨p, c, a, xs, rfl, _⟩ := h
    rfl
  · obtain ⟨p, c, a, xs, rfl, D, hS, npa, hx, hl, k⟩ := h
    have G_l_next := ok_l_next (P := P) (w := w) (base := base) T
    have h0 : 0 < xs.length := List.length_pos_iff.mpr hx
    refine ⟨_, PSs.nox (pss_one (ps_ret (pe_ix ix_list (pv 1) (pe_call G_l_next (hr.mono (by decide)) rfl T.g_l_next T.F_l_next.kp T.b_l_next .nil passL (pa_cons (pv 0) (pa_cons (pe_callB call_len_seq rfl T.n_len boot_len (pa_cons (pv 1) pa_nil)) pa_nil))) (fun _ _ => rfl)))), ?_⟩
    refine ⟨_, rfl, _, rfl, _, rfl, a, xs, rfl, .inl hS, p, c, (xs.length : Int), rfl, D, by omega, by omega, fun n H1 n0 n1 f1 D1 => ?_⟩
    obtain ⟨j, rfl⟩ : ∃ j : Nat, n = (j : Int) := ⟨n.toNat, by omega⟩
    have hj : j < xs.length := by omega
    have hS1 : SqL K H1 a xs := by
      rcases hS with (h | ⟨o, h⟩) | h
      · exact .inl (.inl (f1 _ _ h (by simp; exact npa.symm)))
      · exact .inl (.inr ⟨o, f1 _ _ h (by simp; exact npa.symm)⟩)
      · exact .inr h
    exact ⟨a, xs, _, xs[j], rfl, rfl, hS1, atI_nat (List.getElem?_eq_getElem hj), k _ H1 (List.getElem_mem hj) f1 D1⟩

end S
end

section
namespace S
open PySem PySem.Spec PyProof.Rows L2 Co
open He (ga ma)
variable {P : Program} {w : World} {K : PySem.W.Frag} {mg : Str → Option Value} {base : Heap}
/-! ### the chances told -/
def spChances (C : Addr) : Sp := fun vs H Q _ => ∃ p d s ch, vs = [.ref p] ∧ CAt kW C H p d s () ch ∧ (ch.map (·.1)).Nodup ∧ ch.length < 64 ∧ ∀ q H', H q = none → Ex H H' → DcAt H' q ch → Q (.ref q) H'
theorem ok_Writer_chances (T : Txt K mg) : FnOk P w K mg base (L2.CX P w) 1 (ma K (ga K "Writer") "chances") T.d_Writer_chances ["self"] (spChances (ga K "Writer")) := by
  refine T.F_Writer_chances.ok sc_Coder_chances (fun vs H Q E h => ?_) (fun cdv A outer s0 H vs Q E hr h => ?_)
  · obtain ⟨p, d, s, ch, rfl, _⟩ := h
    rfl
  · obtain ⟨p, d, s, ch, rfl, S, nd, hl, k⟩ := h
    have hu := hu_of hr
    obtain ⟨⟨dx, h1⟩, hd, pr⟩ := id S
    refine ⟨_, PSs.nox (pss_one (ps_ret (pe_dc (own := [("name", 1)]) (g := gName 1) (tt := tYes) (tv := tDGet (tFld K (tVar 0) "learned_ones") (tVar 1)) rfl sc_Coder_chances.nd (pi_list (pe_callB (call_sortedD rfl) rfl T.n_sorted boot_sorted (pa_cons (pe_fld (pv 0) rfl) pa_nil))) (blkOk_by (N := N_Coder_chances) (sc := defScope s_Coder_chances) (by decide +kernel)) (fun _ _ _ _ _ => (pg_name (i := 1) sc_Coder_chances.nd rfl (Or.inl rfl))) (fun _ _ _ _ _ => pts_nil) (fun _ _ _ _ _ => (pv 1)) (fun _ _ _ _ _ => (pe_dget hu (pe_fld (pv 0) rfl) (pv 1) (fun _ _ => rfl)))))), ?_⟩
    refine ⟨_, rfl, p, _, dx, _, _, rfl, h1, T.cl_Writer, T.na_Writer_learned_ones, cfl_ones, d, _, ch.map (·.1), rfl, .inl hd, ckv_keys ch, by rw [List.length_map]; exact hl, fun ys l hy _ hl0 => ?_⟩
    refine ⟨l, rfl, ⟨_, SqLof upd_same⟩, fun q hq => ?_⟩
    have nd2 : ys.Nodup := hy.nodup_iff.mpr nd
    have nql : q ≠ l := by
      rintro rfl
      rw [upd_same] at hq
      cases hq
    have hq0 : H q = none := by rw [upd_ne nql] at hq; exact hq
    have yl : ys.length < 64 := by rw [hy.length_eq, List.length_map]; exact hl
    refine dc_list (xs := ys.map V.str) (fun i H' => Ex (upd H l (.lst (ys.map V.str))) H' ∧ H' q = some (.dK (chKv ch (ys.take i)))) ⟨Ex.new hq, upd_same⟩ (fun i H' _ h => SqLof (h.1 _ _ upd_same)) ?_ ?_
    · rintro i x H' hx ⟨e, hqd⟩
      rw [List.getElem?_map] at hx
      obtain ⟨y, hy1, rfl⟩ := Option.map_eq_some_iff.mp hx
      have hym : y ∈ ch.map (·.1) := hy.mem_iff.mp (List.mem_of_getElem? hy1)
      have hy2 : y ∉ ys.take i := by
        intro z
        obtain ⟨hi, hyi⟩ := List.getElem?_eq_some_iff.mp hy1
        have e : ys = ys.take i ++ y :: ys.drop (i + 1) := by
          rw [← hyi, ← List.drop_eq_getElem_cons hi, List.take_append_drop]
        rw [e] at nd2
        exact (List.nodup_append.mp nd2).2.2 y z y (List.mem_cons_self ..) rfl
      have ndl : d ≠ l := ne_of_none hd hl0
      have g1 : H' d = some (.dK (ckv ch)) := e _ _ (by rw [upd_ne ndl]; exact hd)
      have g2 : H' p = some (.ins _ dx _) := e _ _ (by rw [upd_ne (ne_of_none h1 hl0)]; exact h1)
      refine ⟨rfl, ?_⟩
      refine ⟨_, rfl, _, rfl, p, _, dx, _, _, rfl, g2, T.cl_Writer, T.na_Writer_learned_ones, cfl_ones, ?_⟩
      refine ⟨_, rfl, d, _, rfl, (valV_ckv_mem hym) ▸ DGet.k (k := Sum.inr y) g1, ?_⟩
      refine ⟨_, Sum.inr y, rfl, hqd, ?_, ?_⟩
      · unfold chKv
        rw [List.length_map, List.length_take]
        exact szl (by omega)
      · refine ⟨Ex.mut e hq, ?_⟩
        rw [upd_same, chKv_snoc hy2 _ rfl, List.take_succ, hy1]
        rfl
    · rintro H' ⟨e, hqd⟩
      rw [List.length_map, List.take_length] at hqd
      exact k q H' hq0 (Ex.tr (Ex.new hl0) e) ⟨ys, hqd, hy⟩

end S
end

section
namespace S
open PySem PySem.Spec PyProof.Rows L2 Co
open He (ga ma)
variable {P : Program} {w : World} {K : PySem.W.Frag} {mg : Str → Option Value} {base : Heap}
/-! ### refusals -/
/-- what a work is: it is refused by BadNumber, or not -/
def TTref (K : PySem.W.Frag) (tl : XK → Hp → VK → Prop) (H : Hp) (Q : VK) : Prop :=
  ∀ (E : XK) (Q' : VK), (∀ H', (∀ H'', Ex H' H'' → Q (.bl true) H'') → E (.ref (ga K "BadNumber")) none H') → (∀ v H', Q .non H' → Q' v H') → tl E H Q'
theorem gv_l_refused (T : Txt K mg) {X : Cx} (hK : K = X.K) (hm : mg = X.mg) {q : Str} (cdg : Value) :
    LamX.GivesTo X N_l_refused "_law_refused" (defScope s_l_refused) (ga K "_law_refused") cdg (defBody s_l_refused) "_law_work" q (TTref K) := by
  intro f c' s H Q tl hcall hc hT
  obtain ⟨_, _, K', mg', _, _, _, _, _, _, _, _, _, _, _, _, _⟩ := X
  change K = K' at hK
  change mg = mg' at hm
  subst hK
  subst hm
  refine ⟨_, (pss_cons (ps_set (i := 1) sc_l_refused.nd rfl (Or.inl rfl) pe_non)
  (pss_cons (ps_try_asK (i := 2) rfl rfl rfl sc_l_refused.nd rfl rfl ⟨rfl, by decide, Or.inl T.g_ShownError⟩
  (fun W pn xe tk po => (pss_one (ps_expr (hcall W pn xe (WA W) _ _ tk (fun _ _ σ' _ h => h σ')))))
  (fun a oe cls pn hz hf => (pss_one (ps_set (i := 1) sc_l_refused.nd rfl (Or.inl rfl) (pv 2)))))
  (pss_cons (ps_if (pt_cmp (pc_isN (pv 1)))
  (pss_one (ps_ret pe_non))
  pss_nil)
  (pss_one (ps_ret (pe_and (pe_callB call_isO rfl T.n_isinstance boot_isinstance (pa_cons (pv 1) (pa_cons (pe_glob (v := .ref (ga K "BadNumber")) rfl T.g_BadNumber rfl) pa_nil))) (pe_one (pe_not (pe_callB call_isOT rfl T.n_isinstance boot_isinstance (pa_cons (pv 1) (pa_cons (pe_tup (pa_cons (pe_glob (v := .ref (ga K "BadPicture")) rfl T.g_BadPicture rfl) (pa_cons (pe_glob (v := .ref (ga K "BadChoices")) rfl T.g_BadChoices rfl) pa_nil))) pa_nil))))))))))), ?_⟩
  refine ⟨rfl, hc, hT _ _ (fun H' hq σ' hl => ⟨rfl, T.exm_BadNumber_ShownError, fun a ha => ?_⟩) (fun v H' hq => ?_)⟩
  · obtain ⟨x0, x1, x2, rfl⟩ : ∃ x0 x1 x2, σ' = [x0, x1, x2] := by
      match σ', hl with
      | [x0, x1, x2], _ => exact ⟨x0, x1, x2, rfl⟩
    refine ⟨_, rfl, ?_⟩
    refine ⟨_, rfl, false, congrArg V.bl (decide_eq_false (by intro z; cases z)), ?_⟩
    refine iteF ?_
    have e1 : PySem.W.kitOne K (.ref (ga K "BadNumber")) (.ref (ga K "BadNumber")) = some true := by
      unfold PySem.W.kitOne
      rw [if_pos (beq_self_eq_true _)]
    refine ⟨_, rfl, a, ga K "BadNumber", _, _, true, rfl, upd_same, T.ec_BadNumber, fun u r => r, e1, _, rfl, iteT ?_⟩
    refine ⟨_, rfl, (by decide : 2 ≤ sizeLine), fun tp htp => ?_⟩
    have nta : tp ≠ a := by
      rintro rfl
      rw [upd_same] at htp
      cases htp
    refine ⟨a, ga K "BadNumber", tp, _, _, false, rfl, by rw [upd_ne nta.symm]; exact upd_same, T.ec_BadNumber, upd_same, .cons (.own _) (.cons (.own _) .nil), T.ka_BadNumber, ?_⟩
    exact ⟨false, rfl, hq _ (Ex.tr (Ex.new ha) (Ex.new htp))⟩
  · refine ⟨_, rfl, true, congrArg V.bl (decide_eq_true rfl), ?_⟩
    refine iteT ?_
    exact hq

end S
end

section
namespace S
open PySem PySem.Spec PyProof.Rows L2 Co
open He (ga ma)
variable {P : Program} {w : World} {K : PySem.W.Frag} {mg : Str → Option Value} {base : Heap}
/-! ### numbers and odd things -/
def spIsNumber (K : PySem.W.Frag) : Sp := fun vs H Q _ => ∃ (x : V) (b : Int), vs = [x, .int b] ∧ Ty4 K H x ∧ Q (.bl (wholeV x 0 b)) H
theorem ok_l_is_number (T : Txt K mg) : FnOk P w K mg base (L2.CX P w) 1 (ga K "_law_is_number") T.d_l_is_number ["_law_thing", "_law_most"] (spIsNumber K) := by
  refine T.F_l_is_number.ok sc_l_is_number (fun vs H Q E h => ?_) (fun cdv A outer s H vs Q E hr h => ?_)
  · obtain ⟨x, b, rfl, _⟩ := h
    rfl
  · obtain ⟨x, b, rfl, ⟨t, ty, k1, k2⟩, k⟩ := h
    refine ⟨_, PSs.nox (pss_one (ps_ret (pe_and (pe_callB call_isi rfl T.n_isinstance boot_isinstance (pa_cons (pv 0) (pa_cons (pe_bltn (v := .ty "int") rfl T.n_int boot_int rfl) pa_nil))) (pe_and (pe_not (pe_callB call_isi rfl T.n_isinstance boot_isinstance (pa_cons (pv 0) (pa_cons (pe_bltn (v := .ty "bool") rfl T.n_bool boot_bool rfl) pa_nil)))) (pe_one (pe_chain op_le op_le pe_int (pv 0) (pv 1))))))), ?_⟩
    refine ⟨_, rfl, _, _, t, _, _, rfl, .ty _, ty, k1, _, rfl, ?_⟩
    cases x with
    | int i =>
      refine iteT ?_
      refine ⟨_, rfl, _, _, t, _, _, rfl, .ty _, ty, k2, _, rfl, _, rfl, ?_⟩
      refine iteT ?_
      refine ⟨_, rfl, _, _, rfl, rfl, _, rfl, ?_⟩
      have e : wholeV (.int i) 0 b = decide (0 ≤ i ∧ i ≤ b) := rfl
      rw [e] at k
      by_cases h1 : 0 ≤ i
      · rw [decide_eq_true h1]
        refine iteT ?_
        refine ⟨_, rfl, _, _, rfl, rfl, ?_⟩
        have e2 : decide (0 ≤ i ∧ i ≤ b) = decide (i ≤ b) := by simp [h1]
        rw [e2] at k
        exact k
      · rw [decide_eq_false h1]
        refine iteF ?_
        have e2 : decide (0 ≤ i ∧ i ≤ b) = false := decide_eq_false fun z => h1 z.1
        rw [e2] at k
        exact k
    | bl c =>
      refine iteT ?_
      refine ⟨_, rfl, _, _, t, _, _, rfl, .ty _, ty, k2, _, rfl, _, rfl, ?_⟩
      exact iteF k
    | _ => exact iteF k
/-- a thing that is scalar, or a list or tuple that stands -/
def Odd (H : Hp) (x : V) : Prop := (∃ i, x = .int i) ∨ (∃ b, x = .bl b) ∨ x = .non ∨ (∃ s, x = .str s) ∨ ∃ a, x = .ref a ∧ ((∃ l, H a = some (.tup l)) ∨ ∃ l, H a = some (.lst l))
theorem Odd.ty {H : Hp} {x : V} (h : Odd H x) : Ty4 K H x := by
  rcases h with ⟨i, rfl⟩ | ⟨b, rfl⟩ | rfl | ⟨s, rfl⟩ | ⟨a, rfl, ⟨l, e⟩ | ⟨l, e⟩⟩
  · exact ty4_int i
  · exact ty4_bl b
  · exact ty4_non
  · exact ty4_str s
  · exact ty4_tup e
  · exact ty4_lst e
theorem Odd.fm {H H' : Hp} {x : V} {S : List Addr} (h : Odd H x) (f : Fm S H H') (n : ∀ a ∈ S, ∀ l, H a ≠ some (.tup l) ∧ H a ≠ some (.lst l)) : Odd H' x := by
  rcases h with h | h | h | h | ⟨a, e, ⟨l, q⟩ | ⟨l, q⟩⟩
  · exact .inl h
  · exact .inr (.inl h)
  · exact .inr (.inr (.inl h))
  · exact .inr (.inr (.inr (.inl h)))
  · exact .inr (.inr (.inr (.inr ⟨a, e, .inl ⟨l, f _ _ q fun z => (n a z l).1 q⟩⟩)))
  · exact .inr (.inr (.inr (.inr ⟨a, e, .inr ⟨l, f _ _ q fun z => (n a z l).2 q⟩⟩)))
def spOdd : Sp := fun vs H Q _ => ∃ p c, vs = [.ref p] ∧ DrAt H p c ∧ ∀ x H', Fm [p] H H' → DrAt H' p c → Odd H' x → Q x H'
theorem ok_l_odd (T : Txt K mg) : FnOk P w K mg base (L2.CX P w) 4 (ga K "_law_odd") T.d_l_odd ["_law_state"] spOdd := by
  refine T.F_l_odd.ok sc_l_odd (fun vs H Q E h => ?_) (fun cdv A outer s H vs Q E hr h => ?_)
  · obtain ⟨p, c, rfl, _⟩ := h
    rfl
  · obtain ⟨p, c, rfl, D, k⟩ := h
    have G_l_pick := ok_l_pick (P := P) (w := w) (base := base) T
    refine ⟨_, PSs.nox (pss_one (ps_ret (pe_call G_l_pick (hr.mono (by decide)) rfl T.g_l_pick T.F_l_pick.kp T.b_l_pick .nil passL (pa_cons (pv 0) (pa_cons (pe_lst (pa_cons (pe_un un_neg pe_int) (pa_cons pe_bl (pa_cons pe_bl (pa_cons pe_non (pa_cons pe_str (pa_cons (pe_tup (pa_cons pe_int pa_nil)) (pa_cons (pe_lst pa_nil) (pa_cons pe_int (pa_cons pe_int (pa_cons (pe_op op_pow pe_int pe_int) (pa_cons (pe_un un_neg (pe_op op_pow pe_int pe_int)) (pa_cons pe_int (pa_cons pe_int pa_nil)))))))))))))) pa_nil))))), ?_⟩
    refine ⟨_, rfl, _, rfl, (by decide : 1 ≤ sizeLine), fun t ht => ⟨by decide, fun l hl => ?_⟩⟩
    refine ⟨_, _, rfl, rfl, ?_, _, _, rfl, rfl, ?_, _, rfl, (by decide : 13 ≤ sizeLine), fun q hq => ?_⟩
    · exact ⟨by decide, by decide⟩
    · exact ⟨by decide, by decide⟩
    have ntl : t ≠ l := ne_of_none upd_same hl
    have ntq : t ≠ q := ne_of_none (by rw [upd_ne ntl]; exact upd_same) hq
    have nlq : l ≠ q := ne_of_none upd_same hq
    have e : ∀ o, Ex H (upd (upd (upd H t (.tup [.int 1])) l (.lst [])) q o) := fun o => Ex.tr (Ex.new ht) (Ex.tr (Ex.new hl) (Ex.new hq))
    obtain ⟨_, _, _, hp, _⟩ := id D
    have npt : p ≠ t := ne_of_none hp ht
    have npl : p ≠ l := ne_of_none (by rw [upd_ne npt]; exact hp) hl
    have npq : p ≠ q := ne_of_none (by rw [upd_ne npl, upd_ne npt]; exact hp) hq
    refine ⟨p, c, q, _, rfl, D.ex (e _), SqLof upd_same, npq, by simp, (by decide : 13 < 1000), fun x H' hx f1 D1 => ?_⟩
    refine k x H' (Fm.tr (Fm.of (e _)) f1) D1 ?_
    have gt : H' t = some (.tup [.int 1]) := f1 _ _ (by rw [upd_ne ntq, upd_ne ntl]; exact upd_same) (by simp [npt.symm])
    have gl : H' l = some (.lst []) := f1 _ _ (by rw [upd_ne nlq]; exact upd_same) (by simp [npl.symm])
    simp only [List.mem_cons, List.not_mem_nil, or_false] at hx
    rcases hx with rfl | rfl | rfl | rfl | rfl | rfl | rfl | rfl | rfl | rfl | rfl | rfl | rfl
    · exact .inl ⟨_, rfl⟩
    · exact .inr (.inl ⟨_, rfl⟩)
    · exact .inr (.inl ⟨_, rfl⟩)
    · exact .inr (.inr (.inl rfl))
    · exact .inr (.inr (.inr (.inl ⟨_, rfl⟩)))
    · exact .inr (.inr (.inr (.inr ⟨_, rfl, .inl ⟨_, gt⟩⟩)))
    · exact .inr (.inr (.inr (.inr ⟨_, rfl, .inr ⟨_, gl⟩⟩)))
    · exact .inl ⟨_, rfl⟩
    · exact .inl ⟨_, rfl⟩
    · exact .inl ⟨_, rfl⟩
    · exact .inl ⟨_, rfl⟩
    · exact .inl ⟨_, rfl⟩
    · exact .inl ⟨_, rfl⟩

end S
end

section
namespace S
open PySem PySem.Spec PyProof.Rows L2 Co
open He (ga ma)
variable {P : Program} {w : World} {K : PySem.W.Frag} {mg : Str → Option Value} {base : Heap}
/-! ### one that is tried -/
/-- what was written: way, name, number, greatest -/
structure Wr where
  way : Nat
  name : Str
  n : Nat
  most : V
def Wr.Ok (e : Wr) : Prop := e.name ∈ (["a", "b", ""] : List Str) ∧ ((e.way = 0 ∧ ∃ m : Nat, e.most = .int m ∧ e.n ≤ m ∧ m ≤ 8190) ∨ (e.way = 1 ∧ e.n ≤ 1) ∨ (e.way = 2 ∧ e.n ≤ 1))
def Wr.sgs (e : Wr) : List Sgn := if e.way = 0 then (match e.most with
  | .int m => numSigns e.name e.n m.toNat
  | _ => []) else if e.way = 1 then [(some e.name, (e.n : Int))] else [(none, (e.n : Int))]
def sgsOf (es : List Wr) : List Sgn := es.flatMap Wr.sgs
def names : List Str := (["a", "b", ""] : List Str).flatMap fun y => y :: (List.range 13).map (nm y)
abbrev st0 : WS := (CS.init, [])
/-- the list of what was written -/
def LsAt (H : Hp) (wl : Addr) (es : List Wr) : Prop := ∃ as : List Addr, H wl = some (.lst (as.map V.ref)) ∧ as.length = es.length ∧ ∀ (i : Nat) (a : Addr) (e : Wr), as[i]? = some a → es[i]? = some e → H a = some (.tup [.int e.way, .str e.name, .int e.n, e.most])
/-- what stands behind some that were written -/
structure TrAt (K : PySem.W.Frag) (H : Hp) (p d wl : Addr) (es : List Wr) : Prop where
  c : CAt kW (ga K "Writer") H p d (runW st0 (sgsOf es)).1 () (runW st0 (sgsOf es)).2
  l : LsAt H wl es
  ok : ∀ e ∈ es, e.Ok
def tabT (K : PySem.W.Frag) : List (Addr × Str) := [((He.cT K ("_law_tried", none)).2, "_law_tried" ++ (".<locals>." : Str) ++ ("<lambda>" : Str))]
def spTried (K : PySem.W.Frag) : Sp := fun vs H Q _ => ∃ sp c p d wl es, vs = [.ref sp, .ref p, .ref wl] ∧ DrAt H sp c ∧ wl ≠ c ∧ TrAt K H p d wl es ∧ LamX.Tabs (tabT K) H ∧ es.length ≤ 130 ∧
  ∀ es' H', es'.length ≤ es.length + 1 → DrAt H' sp c → TrAt K H' p d wl es' → LamX.Tabs (tabT K) H' → Q (.bl true) H'
theorem TrAt.fm {H H' : Hp} {p d wl : Addr} {es : List Wr} {S : List Addr} (h : TrAt K H p d wl es) (f : Fm S H H') (h1 : p ∉ S) (h2 : d ∉ S) (h3 : wl ∉ S) (n : ∀ a ∈ S, ∀ xs, H a ≠ some (.tup xs)) : TrAt K H' p d wl es := by
  obtain ⟨c, ⟨as, l1, l2, l3⟩, ok⟩ := h
  exact ⟨c.fm f h1 h2 (Fm.tu f n), ⟨as, f _ _ l1 h3, l2, fun i a e x y => Fm.tu f n _ _ (l3 i a e x y)⟩, ok⟩
theorem TrAt.ex {H H' : Hp} {p d wl : Addr} {es : List Wr} (h : TrAt K H p d wl es) (f : Ex H H') : TrAt K H' p d wl es := by
  obtain ⟨c, ⟨as, l1, l2, l3⟩, ok⟩ := h
  exact ⟨c.ex f, ⟨as, f _ _ l1, l2, fun i a e x y => f _ _ (l3 i a e x y)⟩, ok⟩
/-! what stands but for tables -/
theorem Odd.xn {H H' : Hp} {x : V} (h : Odd H x) (f : LamX.ExtN H H') : Odd H' x := by
  rcases h with h | h | h | h | ⟨a, e, ⟨l, q⟩ | ⟨l, q⟩⟩
  · exact .inl h
  · exact .inr (.inl h)
  · exact .inr (.inr (.inl h))
  · exact .inr (.inr (.inr (.inl h)))
  · exact .inr (.inr (.inr (.inr ⟨a, e, .inl ⟨l, f _ _ q nofun⟩⟩)))
  · exact .inr (.inr (.inr (.inr ⟨a, e, .inr ⟨l, f _ _ q nofun⟩⟩)))
theorem DrAt.xn {H H' : Hp} {p c : Addr} (h : DrAt H p c) (f : LamX.ExtN H H') : DrAt H' p c := by
  obtain ⟨l, k, ns, h1, h2, h3⟩ := h
  exact ⟨l, k, ns, f _ _ h1 nofun, f _ _ h2 nofun, h3⟩
theorem LsAt.xn {H H' : Hp} {wl : Addr} {es : List Wr} (h : LsAt H wl es) (f : LamX.ExtN H H') : LsAt H' wl es := by
  obtain ⟨as, l1, l2, l3⟩ := h
  exact ⟨as, f _ _ l1 nofun, l2, fun i a e x y => f _ _ (l3 i a e x y) nofun⟩
theorem LsAt.ex {H H' : Hp} {wl : Addr} {es : List Wr} (h : LsAt H wl es) (f : Ex H H') : LsAt H' wl es := h.xn fun b o q _ => f b o q
theorem LsAt.fm {H H' : Hp} {wl : Addr} {es : List Wr} {S : List Addr} (h : LsAt H wl es) (f : Fm S H H') (h3 : wl ∉ S) (n : ∀ a ∈ S, ∀ xs, H a ≠ some (.tup xs)) : LsAt H' wl es := by
  obtain ⟨as, l1, l2, l3⟩ := h
  exact ⟨as, f _ _ l1 h3, l2, fun i a e x y => Fm.tu f n _ _ (l3 i a e x y)⟩
theorem CAt.xn {C : Addr} {H H' : Hp} {p d : Addr} {s : CS} {ch : Chs} (h : CAt kW C H p d s () ch) (f : LamX.ExtN H H') : CAt kW C H' p d s () ch := by
  obtain ⟨⟨dx, h1⟩, hd, _⟩ := h
  exact ⟨⟨dx, f _ _ h1 nofun⟩, f _ _ hd nofun, trivial⟩
theorem DcAt.xn {H H' : Hp} {q : Addr} {ch : Chs} (h : DcAt H q ch) (f : LamX.ExtN H H') : DcAt H' q ch := by
  obtain ⟨ys, h1, h2⟩ := h
  exact ⟨ys, f _ _ h1 nofun, h2⟩
theorem tabs_fm {L : List (Addr × Str)} {H H' : Hp} {S : List Addr} (h : LamX.Tabs L H) (f : Fm S H H') (n : ∀ a ∈ S, ∀ o, H a = some o → (∀ ps, o ≠ .tbl ps) ∧ ∀ R, o ≠ .ext R) : LamX.Tabs L H' := fun x hx => by
  obtain ⟨ps, h1, h2, h3⟩ := h x hx
  refine ⟨ps, f _ _ h1 (fun z => (n _ z _ h1).1 ps rfl), h2, fun pos cv e => ?_⟩
  obtain ⟨c, rfl, h4⟩ := h3 pos cv e
  exact ⟨c, rfl, f _ _ h4 (fun z => (n _ z _ h4).2 _ rfl)⟩
theorem stK_ckv {l : Int} {k : Nat} {c : Addr} {ch : Chs} : stK l k c ≠ ckv ch := by
  intro e
  have := stK_cells (l := l) (k := k) (c := c)
  rw [e, valV_ckv] at this
  cases q : cfind ch "cells" with
  | none => rw [q] at this; cases this
  | some z => rw [q] at this; cases this
theorem stK_chKv {l : Int} {k : Nat} {c : Addr} {ch : Chs} {ys : List Str} : stK l k c ≠ chKv ch ys := by
  intro e
  have h : ((Sum.inr "cells" : Key), V.ref c) ∈ stK l k c := by
    unfold stK
    simp
  rw [e] at h
  obtain ⟨y, _, q⟩ := List.mem_map.mp h
  cases (congrArg Prod.snd q)
theorem DcAt.ne {H : Hp} {sp c q : Addr} {ch : Chs} (D : DrAt H sp c) (h : DcAt H q ch) : q ≠ sp := by
  obtain ⟨_, _, _, h1, _⟩ := D
  obtain ⟨_, h2, _⟩ := h
  rintro rfl
  exact stK_chKv (HO.dK.inj (Option.some.inj (h1.symm.trans h2)))
theorem DcAt.fm {H H' : Hp} {q : Addr} {ch : Chs} {S : List Addr} (h : DcAt H q ch) (f : Fm S H H') (n : q ∉ S) : DcAt H' q ch := by
  obtain ⟨ys, h1, h2⟩ := h
  exact ⟨ys, f _ _ h1 n, h2⟩
theorem numB_true {n m : Nat} (h1 : n ≤ m) (h2 : m ≤ 8190) : numB (.int n) (.int m) = true := by
  unfold numB
  rw [Bool.and_eq_true]
  exact ⟨decide_eq_true (by omega), decide_eq_true (by omega)⟩
theorem names_in {y : Str} (hy : y ∈ (["a", "b", ""] : List Str)) : y ∈ names ∧ ∀ j, j ≤ 12 → nm y j ∈ names := by
  constructor
  · exact List.mem_flatMap.mpr ⟨y, hy, List.mem_cons_self ..⟩
  · intro j hj
    exact List.mem_flatMap.mpr ⟨y, hy, List.mem_cons_of_mem _ (List.mem_map.mpr ⟨j, List.mem_range.mpr (by omega), rfl⟩)⟩
theorem names_len : names.length = 42 := by
  unfold names
  simp [List.flatMap]
theorem numUp_names {y : Str} : ∀ {k m : Nat} {g : Sgn}, g ∈ numUp y m k → ∃ j, j < m + k ∧ g.1 = some (nm y j)
  | 0, _, _, h => by cases h
  | k + 1, m, g, h => by
    rcases List.mem_cons.mp h with e | h
    · exact ⟨m, by omega, by rw [e]⟩
    · obtain ⟨j, hj, e⟩ := numUp_names h
      exact ⟨j, by omega, e⟩
theorem num_names {y : Str} (hy : y ∈ (["a", "b", ""] : List Str)) {n m : Nat} (h : n ≤ m) (hm : m ≤ 8190) : ∀ g ∈ numSigns y n m, ∀ z, g.1 = some z → z ∈ names := by
  intro g hg z hz
  have l := lg_most (n := n + 1) (by omega)
  have N := (names_in hy).2
  unfold numSigns at hg
  rcases List.mem_append.mp hg with hg | hg
  · obtain ⟨j, hj, e⟩ := numUp_names hg
    rw [e] at hz
    cases hz
    exact N j (by omega)
  · rcases List.mem_append.mp hg with hg | hg
    · split at hg
      · rw [List.mem_singleton.mp hg] at hz
        cases hz
        exact N _ l
      · cases hg
    · obtain ⟨b, _, rfl⟩ := List.mem_map.mp hg
      cases hz
theorem Wr.facts {e : Wr} (h : e.Ok) : e.sgs.length ≤ 25 ∧ Bits e.sgs ∧ ∀ g ∈ e.sgs, ∀ z, g.1 = some z → z ∈ names := by
  obtain ⟨way, name, n, most⟩ := e
  obtain ⟨hn, ⟨hw, m, hm, h1, h2⟩ | ⟨hw, h1⟩ | ⟨hw, h1⟩⟩ := h
  · dsimp only at hw hm h1 h2 hn
    subst hw
    subst hm
    have e : Wr.sgs ⟨0, name, n, .int m⟩ = numSigns name n m := rfl
    rw [e]
    exact ⟨num_len (by omega), num_bits _ _ _, num_names hn h1 h2⟩
  · dsimp only at hw h1 hn
    subst hw
    have e : Wr.sgs ⟨1, name, n, most⟩ = [(some name, (n : Int))] := rfl
    rw [e]
    refine ⟨by simp, fun g hg => ?_, fun g hg z hz => ?_⟩
    · rw [List.mem_singleton.mp hg]
      dsimp only
      omega
    · rw [List.mem_singleton.mp hg] at hz
      cases hz
      exact (names_in hn).1
  · dsimp only at hw h1 hn
    subst hw
    have e : Wr.sgs ⟨2, name, n, most⟩ = [(none, (n : Int))] := rfl
    rw [e]
    refine ⟨by simp, fun g hg => ?_, fun g hg z hz => ?_⟩
    · rw [List.mem_singleton.mp hg]
      dsimp only
      omega
    · rw [List.mem_singleton.mp hg] at hz
      cases hz
theorem sgs_facts : ∀ {es : List Wr}, (∀ e ∈ es, e.Ok) → (sgsOf es).length ≤ 25 * es.length ∧ Bits (sgsOf es) ∧ ∀ g ∈ sgsOf es, ∀ z, g.1 = some z → z ∈ names
  | [], _ => ⟨Nat.le_refl _, (fun g h => by cases h), (fun g h => by cases h)⟩
  | e :: es, h => by
    have a := Wr.facts (h e (List.mem_cons_self ..))
    have b := sgs_facts (es := es) fun q hq => h q (List.mem_cons_of_mem _ hq)
    have q : sgsOf (e :: es) = e.sgs ++ sgsOf es := rfl
    rw [q]
    refine ⟨?_, Bits.app a.2.1 b.2.1, fun g hg => ?_⟩
    · rw [List.length_append, List.length_cons]
      omega
    · rcases List.mem_append.mp hg with hg | hg
      · exact a.2.2 g hg
      · exact b.2.2 g hg
structure StOk (st : WS) : Prop where
  ok : WOk st
  n : st.1.n ≤ 60000
  nm : (st.2.map (·.1)).Nodup
  len : st.2.length < 64
theorem st_ok {es : List Wr} (h : ∀ e ∈ es, e.Ok) (hl : es.length ≤ 131) : StOk (runW st0 (sgsOf es)) := by
  have f := sgs_facts h
  have N := NmOk.run (ns := names) (l := sgsOf es) (st := st0) ⟨List.nodup_nil, fun _ z => by cases z⟩ f.2.2
  have n := runW_n (l := sgsOf es) (st := st0)
  have e0 : st0.1.n = 0 := rfl
  refine ⟨runW_ok ⟨CS.init_ok, fun _ z => by cases z⟩, by omega, N.1, ?_⟩
  have := N.len
  rw [names_len] at this
  omega
theorem LsAt.snoc {H : Hp} {wl r : Addr} {es : List Wr} {e : Wr} {as : List Addr} (h1 : H wl = some (.lst (as.map V.ref))) (h2 : as.length = es.length) (h3 : ∀ (i : Nat) (a : Addr) (e : Wr), as[i]? = some a → es[i]? = some e → H a = some (.tup [.int e.way, .str e.name, .int e.n, e.most]))
    (hr : H r = some (.tup [.int e.way, .str e.name, .int e.n, e.most])) : LsAt (upd H wl (.lst (as.map V.ref ++ [V.ref r]))) wl (es ++ [e]) := by
  refine ⟨as ++ [r], by rw [upd_same]; simp, by simp [h2], fun i a e' ha he => ?_⟩
  by_cases hi : i < as.length
  · rw [List.getElem?_append_left hi] at ha
    rw [List.getElem?_append_left (by omega)] at he
    have := h3 i a e' ha he
    rw [upd_ne (ne_of this h1 nofun)]
    exact this
  · rw [List.getElem?_append_right (by omega)] at ha he
    have e1 : i - as.length = 0 := by
      cases q : i - as.length with
      | zero => rfl
      | succ n =>
        rw [q] at ha
        cases ha
    rw [e1] at ha
    rw [← h2, e1] at he
    cases ha
    cases he
    rw [upd_ne (ne_of hr h1 nofun)]
    exact hr
theorem pair_eq {H : Hp} {a b a1 a2 b1 b2 : Addr} {L : List Int} {ch : Chs} (ha : H a = some (.tup [.ref a1, .ref a2])) (hb : H b = some (.tup [.ref b1, .ref b2])) (h1 : H a1 = some (.tup (L.map V.int))) (g1 : H b1 = some (.tup (L.map V.int))) (h2 : DcAt H a2 ch) (g2 : DcAt H b2 ch) :
    DPair K (.ref a) (.ref b) H := by
  refine ⟨a, b, _, _, rfl, rfl, SqTof ha, SqTof hb, rfl, fun i x y hx hy => ?_⟩
  match i, hx, hy with
  | 0, hx, hy =>
    cases hx
    cases hy
    refine .inl ⟨a1, b1, _, _, rfl, rfl, SqTof h1, SqTof g1, rfl, fun j x y hx hy => ?_⟩
    rw [hx] at hy
    cases hy
    rw [List.getElem?_map] at hx
    obtain ⟨z, _, rfl⟩ := Option.map_eq_some_iff.mp hx
    exact ⟨rfl, rfl, by simp [eqV]⟩
  | 1, hx, hy =>
    cases hx
    cases hy
    exact .inr (DcAt.eq h2 g2)
  | _ + 2, hx, _ => cases hx
theorem ok_l_tried (Z : Sr P base) (TB : LamX.TabB base mg (He.cT K ("_law_tried", none)).1 (He.cT K ("_law_tried", none)).2) (T : Txt K mg) : FnOk P w K mg base (L2.CX P w) 50 (ga K "_law_tried") T.d_l_tried ["_law_state", "_law_writer", "_law_written"] (spTried K) := by
  refine fun_okT (pt := ("_law_tried", none)) T.F_l_tried rfl sc_l_tried (fun vs H Q E h => ?_) (fun A outer s0 H vs Q E hr h => ?_)
  · obtain ⟨sp, c, p, d, wl, es, rfl, _⟩ := h
    rfl
  · obtain ⟨sp, c, p, d, wl, es, rfl, D, nwc, TR, hT, hes, k⟩ := h
    have G_l_next := ok_l_next (P := P) (w := w) (base := base) T
    have G_l_pick := ok_l_pick (P := P) (w := w) (base := base) T
    have G_l_odd := ok_l_odd (P := P) (w := w) (base := base) T
    have G_l_is_number := ok_l_is_number (P := P) (w := w) (base := base) T
    have G_Writer_letters := ok_Writer_letters (P := P) (w := w) (base := base) Z T
    have G_Writer_chances := ok_Writer_chances (P := P) (w := w) (base := base) T
    have G_Writer_number := ok_Writer_number (P := P) (w := w) (base := base) T
    have G_Writer_bit := ok_Writer_bit (P := P) (w := w) (base := base) T
    have G_Writer_even := ok_Writer_even (P := P) (w := w) (base := base) T
    refine ⟨_, PSs.nox (pss_cons (ps_set (i := 3) sc_l_tried.nd rfl (Or.inl rfl) (pe_op op_pow pe_int pe_int))
  (Evl.pss_cut (ps_for PassesOwn.never rfl (pi_range1 rfl T.n_range (pa_cons (pe_call G_l_next (hr.mono (by decide)) rfl T.g_l_next T.F_l_next.kp T.b_l_next .nil passL (pa_cons (pv 0) (pa_cons pe_int pa_nil))) pa_nil)) (pg_name (i := 4) sc_l_tried.nd rfl (Or.inl rfl))
  (pss_one (ps_set (i := 3) sc_l_tried.nd rfl (Or.inl rfl) (pe_op op_fdiv (pv 3) pe_int))))
  (Evl.pss_cut (ps_set (i := 5) sc_l_tried.nd rfl (Or.inr rfl) (pe_call G_l_pick (hr.mono (by decide)) rfl T.g_l_pick T.F_l_pick.kp T.b_l_pick .nil passL (pa_cons (pv 0) (pa_cons (pe_lst (pa_cons (pv 3) (pa_cons (pe_op op_sub (pv 3) pe_int) (pa_cons (pe_callB (call_min2 rfl) rfl T.n_min boot_min (pa_cons pe_int (pa_cons (pe_op op_mul pe_int (pv 3)) pa_nil))) (pa_cons (pe_op op_add (pv 3) pe_int) (pa_cons pe_int (pa_cons pe_int (pa_cons (pe_call G_l_odd (hr.mono (by decide)) rfl T.g_l_odd T.F_l_odd.kp T.b_l_odd .nil passL (pa_cons (pv 0) pa_nil)) pa_nil)))))))) pa_nil))))
  (Evl.pss_cut (ps_set (i := 6) sc_l_tried.nd rfl (Or.inr rfl) (pe_call G_l_pick (hr.mono (by decide)) rfl T.g_l_pick T.F_l_pick.kp T.b_l_pick .nil passL (pa_cons (pv 0) (pa_cons (pe_lst (pa_cons pe_int (pa_cons (pv 3) (pa_cons (pe_op op_sub (pv 3) pe_int) (pa_cons (pe_op op_add (pv 3) pe_int) (pa_cons (pv 5) (pa_cons pe_int (pa_cons pe_int (pa_cons (pe_call G_l_odd (hr.mono (by decide)) rfl T.g_l_odd T.F_l_odd.kp T.b_l_odd .nil passL (pa_cons (pv 0) pa_nil)) pa_nil))))))))) pa_nil))))
  (Evl.pss_cut (ps_par (i := 7) (j := 8) rfl sc_l_tried.nd rfl rfl (by decide) rfl rfl (pa_cons (pe_call G_l_next (hr.mono (by decide)) rfl T.g_l_next T.F_l_next.kp T.b_l_next .nil passL (pa_cons (pv 0) (pa_cons pe_int pa_nil))) (pa_cons (pe_tup (pa_cons (pe_meth0 (pv 1) T.cl_Writer T.m_Writer_letters G_Writer_letters (hr.mono (by decide)) T.b_Writer_letters .nil passL) (pa_cons (pe_meth0 (pv 1) T.cl_Writer T.m_Writer_chances G_Writer_chances (hr.mono (by decide)) T.b_Writer_chances .nil passL) pa_nil))) pa_nil)) (by rfl))
  (Evl.pss_cut (ps_asg (pe_tup (pa_cons pe_bl (pa_cons (pe_call G_l_pick (hr.mono (by decide)) rfl T.g_l_pick T.F_l_pick.kp T.b_l_pick .nil passL (pa_cons (pv 0) (pa_cons (pe_lst (pa_cons pe_str (pa_cons pe_str (pa_cons pe_str pa_nil)))) pa_nil))) pa_nil))) (pg_tup rfl (pgs_cons (pg_name (i := 9) sc_l_tried.nd rfl (Or.inl rfl)) (pgs_cons (pg_name (i := 10) sc_l_tried.nd rfl (Or.inr rfl)) pgs_nil))))
  (Evl.pss_cut (ps_if (pt_cmpR op_eq (pv 7) pe_int (nomark _))
  (Evl.pss_cut (ps_set (i := 9) sc_l_tried.nd rfl (Or.inl rfl) (pe_and (pe_call G_l_is_number (hr.mono (by decide)) rfl T.g_l_is_number T.F_l_is_number.kp T.b_l_is_number .nil passL (pa_cons (pv 5) (pa_cons pe_int pa_nil))) (pe_one (pe_call G_l_is_number (hr.mono (by decide)) rfl T.g_l_is_number T.F_l_is_number.kp T.b_l_is_number .nil passL (pa_cons (pv 6) (pa_cons (pv 5) pa_nil))))))
  (pss_one (ps_set (i := 11) sc_l_tried.nd rfl (Or.inl rfl) (pe_lamF (k := 10) rfl T.g_l_refused T.F_l_refused T.b_l_refused sc_l_refused rfl (Or.inl rfl) (fun cdg => gv_l_refused T rfl rfl cdg) TB rfl rfl (hr.mono (by decide)) (LamX.lamS_by (by rfl)) rfl (fun _ _ _ _ _ => rfl)
    (fun A outer s H E f c' hr => (pe_meth (pv 1) T.cl_Writer T.m_Writer_number G_Writer_number (hr.mono (by decide)) T.b_Writer_number .nil passO (pa_cons (pv 10) (pa_cons (pv 6) (pa_cons (pv 5) pa_nil)))))))))
  (pss_one (ps_if (pt_cmpR op_eq (pv 7) pe_int (nomark _))
  (Evl.pss_cut (ps_set (i := 9) sc_l_tried.nd rfl (Or.inl rfl) (pe_call G_l_is_number (hr.mono (by decide)) rfl T.g_l_is_number T.F_l_is_number.kp T.b_l_is_number .nil passL (pa_cons (pv 6) (pa_cons pe_int pa_nil))))
  (pss_one (ps_set (i := 11) sc_l_tried.nd rfl (Or.inl rfl) (pe_lamF (k := 10) rfl T.g_l_refused T.F_l_refused T.b_l_refused sc_l_refused rfl (Or.inl rfl) (fun cdg => gv_l_refused T rfl rfl cdg) TB rfl rfl (hr.mono (by decide)) (LamX.lamS_by (by rfl)) rfl (fun _ _ _ _ _ => rfl)
    (fun A outer s H E f c' hr => (pe_meth (pv 1) T.cl_Writer T.m_Writer_bit G_Writer_bit (hr.mono (by decide)) T.b_Writer_bit .nil passO (pa_cons (pv 10) (pa_cons (pv 6) pa_nil))))))))
  (Evl.pss_cut (ps_set (i := 9) sc_l_tried.nd rfl (Or.inl rfl) (pe_call G_l_is_number (hr.mono (by decide)) rfl T.g_l_is_number T.F_l_is_number.kp T.b_l_is_number .nil passL (pa_cons (pv 6) (pa_cons pe_int pa_nil))))
  (pss_one (ps_set (i := 11) sc_l_tried.nd rfl (Or.inl rfl) (pe_lamF (k := 10) rfl T.g_l_refused T.F_l_refused T.b_l_refused sc_l_refused rfl (Or.inl rfl) (fun cdg => gv_l_refused T rfl rfl cdg) TB rfl rfl (hr.mono (by decide)) (LamX.lamS_by (by rfl)) rfl (fun _ _ _ _ _ => rfl)
    (fun A outer s H E f c' hr => (pe_meth (pv 1) T.cl_Writer T.m_Writer_even G_Writer_even (hr.mono (by decide)) T.b_Writer_even .nil passO (pa_cons (pv 6) pa_nil))))))))))
  (pss_cons (ps_if (pt_val (pv 9))
  (pss_cons (ps_expr (pe_bm PySem.F.plainAttrs_list PySem.F.slot_list_append PySem.F.type_list_append mt_append (pv 2) (pa_cons (pe_tup (pa_cons (pv 7) (pa_cons (pv 10) (pa_cons (pv 6) (pa_cons (pv 5) pa_nil))))) pa_nil)))
  (pss_one (ps_ret (pe_cmp (pc_isN (pv 11))))))
  pss_nil)
  (pss_one (ps_ret (pe_and (pe_cmpR op_isBl (pv 11) pe_bl (by rfl)) (pe_one (pe_cmpR (op_eqPair (hr.mono (by decide))) (pe_tup (pa_cons (pe_meth0 (pv 1) T.cl_Writer T.m_Writer_letters G_Writer_letters (hr.mono (by decide)) T.b_Writer_letters .nil passL) (pa_cons (pe_meth0 (pv 1) T.cl_Writer T.m_Writer_chances G_Writer_chances (hr.mono (by decide)) T.b_Writer_chances .nil passL) pa_nil))) (pv 8) (nomark _)))))))))))))), ?_⟩
    obtain ⟨⟨⟨dx, hp⟩, hd, _⟩, ⟨as, hl, _, _⟩, _⟩ := id TR
    obtain ⟨_, _, _, hsp, hc, _⟩ := id D
    have n1 : p ≠ sp := ne_of hp hsp (by intro z; cases z)
    have n2 : d ≠ sp := by
      rintro rfl
      exact stK_ckv (HO.dK.inj (Option.some.inj (hd.symm.trans hsp))).symm
    have n3 : wl ≠ sp := ne_of hl hsp (by intro z; cases z)
    have nS : ∀ a ∈ [sp], ∀ xs, H a ≠ some (.tup xs) := fun a ha xs => by
      rw [List.mem_singleton.mp ha, hsp]
      intro z
      cases z
    -- what stands while it draws
    let B : Hp → Prop := fun H' => DrAt H' sp c ∧ Fm [sp] H H'
    refine ⟨_, _, rfl, rfl, ⟨by decide, by decide⟩, ?_⟩
    refine ⟨fun σ H' => ∃ (pw : Int) (v4 : Option V), σ = [some (.ref sp), some (.ref p), some (.ref wl), some (.int pw), v4, none, none, none, none, none, none, none] ∧ (0 ≤ pw ∧ pw ≤ 4096) ∧ B H', ?_, ?_⟩
    · refine ⟨_, rfl, sp, c, 13, rfl, D, by decide, by decide, fun n H1 n0 n1' f1 D1 => ?_⟩
      obtain ⟨n', rfl⟩ : ∃ n' : Nat, n = n' := ⟨n.toNat, by omega⟩
      refine ⟨_, rfl, by omega, by omega, ?_⟩
      refine for_range (lo := 0) (n := n') (fun i σ H' => ∃ (pw : Int) (v4 : Option V), σ = [some (.ref sp), some (.ref p), some (.ref wl), some (.int pw), v4, none, none, none, none, none, none, none] ∧ (0 ≤ pw ∧ pw ≤ 4096) ∧ B H') ?_ ?_ ?_
      · exact ⟨_, _, rfl, by decide, D1, f1⟩
      · rintro i σ H' hi ⟨pw, v4, rfl, hpw, b⟩
        refine ⟨_, rfl, _, _, rfl, rfl, ⟨by decide, by decide⟩, ?_⟩
        exact ⟨_, _, rfl, by omega, b⟩
      · rintro σ H' q
        exact q
    · rintro σ H1 ⟨pw, v4, rfl, hpw, D1, f1⟩
      have pick : ∀ {H1 H2 : Hp}, B H1 → Ex H1 H2 → ∀ {H3}, Fm [sp] H2 H3 → Fm [sp] H H3 := fun b e _ f => Fm.tr b.2 (Fm.tr (Fm.of e) f)
      refine ⟨fun σ H' => ∃ (v4 : Option V) (xm : V), σ = [some (.ref sp), some (.ref p), some (.ref wl), some (.int pw), v4, some xm, none, none, none, none, none, none] ∧ Odd H' xm ∧ B H', ?_, ?_⟩
      · refine ⟨_, rfl, _, rfl, _, rfl, _, _, rfl, rfl, _, rfl, _, _, rfl, rfl, .inr ⟨by omega, by omega⟩, _, _, rfl, _, rfl, _, _, rfl, rfl, _, rfl, sp, c, rfl, D1, fun x H2 f2 D2 ox => ?_⟩
        refine ⟨(by decide : 7 ≤ sizeLine), fun q hq => ?_⟩
        have nq : sp ≠ q := by
          obtain ⟨_, _, _, h, _⟩ := D2
          exact ne_of_none h hq
        refine ⟨sp, c, q, _, rfl, D2.ex (Ex.new hq), SqLof upd_same, nq, by simp, (by decide : 7 < 1000), fun y H3 hy f3 D3 => ?_⟩
        have o3 : Odd H3 x := (ox.fm (Fm.of (S := []) (Ex.new hq)) (fun a ha => by cases ha)).fm f3 (fun a ha l => by
          rw [List.mem_singleton.mp ha]
          obtain ⟨_, _, _, h, _⟩ := D2
          rw [upd_ne nq, h]
          exact ⟨nofun, nofun⟩)
        refine ⟨v4, y, rfl, ?_, D3, Fm.tr f1 (Fm.tr f2 (Fm.tr (Fm.of (Ex.new hq)) f3))⟩
        simp only [List.mem_cons, List.not_mem_nil, or_false] at hy
        rcases hy with rfl | rfl | rfl | rfl | rfl | rfl | rfl
        · exact .inl ⟨_, rfl⟩
        · exact .inl ⟨_, rfl⟩
        · exact .inl ⟨_, rfl⟩
        · exact .inl ⟨_, rfl⟩
        · exact .inl ⟨_, rfl⟩
        · exact .inl ⟨_, rfl⟩
        · exact o3
      · rintro σ H2 ⟨v4', xm, rfl, om, D2, f2⟩
        refine ⟨fun σ H' => ∃ (v4 : Option V) (xn : V), σ = [some (.ref sp), some (.ref p), some (.ref wl), some (.int pw), v4, some xm, some xn, none, none, none, none, none] ∧ Odd H' xm ∧ Odd H' xn ∧ B H', ?_, ?_⟩
        · refine ⟨_, rfl, _, rfl, _, rfl, _, _, rfl, rfl, _, rfl, _, _, rfl, rfl, _, rfl, _, rfl, sp, c, rfl, D2, fun x H3 f3 D3 ox => ?_⟩
          have odd2 : ∀ z, Odd H2 z → Odd H3 z := fun z o => o.fm f3 (fun a ha l => by
            rw [List.mem_singleton.mp ha]
            obtain ⟨_, _, _, h, _⟩ := D2
            rw [h]
            exact ⟨nofun, nofun⟩)
          refine ⟨(by decide : 8 ≤ sizeLine), fun q hq => ?_⟩
          have nq : sp ≠ q := by
            obtain ⟨_, _, _, h, _⟩ := D3
            exact ne_of_none h hq
          refine ⟨sp, c, q, _, rfl, D3.ex (Ex.new hq), SqLof upd_same, nq, by simp, (by decide : 8 < 1000), fun y H4 hy f4 D4 => ?_⟩
          have odd4 : ∀ z, Odd H3 z → Odd H4 z := fun z o => (o.fm (Fm.of (S := []) (Ex.new hq)) (fun a ha => by cases ha)).fm f4 (fun a ha l => by
            rw [List.mem_singleton.mp ha]
            obtain ⟨_, _, _, h, _⟩ := D3
            rw [upd_ne nq, h]
            exact ⟨nofun, nofun⟩)
          refine ⟨v4', y, rfl, odd4 _ (odd2 _ om), ?_, D4, Fm.tr f2 (Fm.tr f3 (Fm.tr (Fm.of (Ex.new hq)) f4))⟩
          simp only [List.mem_cons, List.not_mem_nil, or_false] at hy
          rcases hy with rfl | rfl | rfl | rfl | rfl | rfl | rfl | rfl
          · exact .inl ⟨_, rfl⟩
          · exact .inl ⟨_, rfl⟩
          · exact .inl ⟨_, rfl⟩
          · exact .inl ⟨_, rfl⟩
          · exact odd4 _ (odd2 _ om)
          · exact .inl ⟨_, rfl⟩
          · exact .inl ⟨_, rfl⟩
          · exact odd4 _ ox
        · rintro σ H3 ⟨v4'', xn, rfl, om3, on3, D3, f3⟩
          have TR3 := TR.fm f3 (by simp [n1]) (by simp [n2]) (by simp [n3]) nS
          have hT3 := tabs_fm hT f3 (fun a ha o ho => by
            rw [List.mem_singleton.mp ha, hsp] at ho
            cases ho
            exact ⟨nofun, nofun⟩)
          clear f3
          have fmS : ∀ {H1 H2 : Hp}, DrAt H1 sp c → Fm [sp] H1 H2 → (∀ es, TrAt K H1 p d wl es → TrAt K H2 p d wl es) ∧ (LamX.Tabs (tabT K) H1 → LamX.Tabs (tabT K) H2) ∧ ∀ x, Odd H1 x → Odd H2 x := fun {H1 H2} D f => by
            obtain ⟨_, _, _, h, _⟩ := D
            refine ⟨fun es t => t.fm f (by simp [n1]) (by simp [n2]) (by simp [n3]) (fun a ha xs => ?_), fun t => tabs_fm t f (fun a ha o ho => ?_), fun x o => o.fm f (fun a ha l => ?_)⟩
            · rw [List.mem_singleton.mp ha, h]
              exact nofun
            · rw [List.mem_singleton.mp ha, h] at ho
              cases ho
              exact ⟨nofun, nofun⟩
            · rw [List.mem_singleton.mp ha, h]
              exact ⟨nofun, nofun⟩
          have exS : ∀ {H1 H2 : Hp}, Ex H1 H2 → (∀ es, TrAt K H1 p d wl es → TrAt K H2 p d wl es) ∧ (LamX.Tabs (tabT K) H1 → LamX.Tabs (tabT K) H2) ∧ ∀ x, Odd H1 x → Odd H2 x := fun e => ⟨fun es t => t.ex e, fun t => LamX.Tabs.ext t e, fun x o => o.fm (Fm.of (S := []) e) (fun a ha => by cases ha)⟩
          have SO := st_ok TR.ok (by omega)
          have o3 := SO.ok
          have hs3 := TR3.c
          have D30 := D3
          refine ⟨fun σ H' => ∃ (v4 : Option V) (way : Nat) (t q1 q2 : Addr), σ = [some (.ref sp), some (.ref p), some (.ref wl), some (.int pw), v4, some xm, some xn, some (.int way), some (.ref t), none, none, none] ∧ way < 3 ∧ Odd H' xm ∧ Odd H' xn ∧ DrAt H' sp c ∧ TrAt K H' p d wl es ∧ LamX.Tabs (tabT K) H' ∧
            H' t = some (.tup [.ref q1, .ref q2]) ∧ H' q1 = some (.tup ((lettersOf (runW st0 (sgsOf es)).1).map V.int)) ∧ DcAt H' q2 (runW st0 (sgsOf es)).2 ∧ q2 ≠ d, ?_, ?_⟩
          · refine ⟨_, rfl, sp, c, 3, rfl, D3, by decide, by decide, fun wy H4 w0 w1 f4 D4 => ?_⟩
            obtain ⟨way, rfl⟩ : ∃ way : Nat, wy = way := ⟨wy.toNat, by omega⟩
            have TR4 := (fmS D3 f4).1 _ TR3
            obtain ⟨⟨dx4, g4⟩, _, _⟩ := TR4.c
            refine ⟨_, rfl, p, dx4, _, rfl, g4, cfl_no (by decide +kernel) rfl, p, d, _, _, rfl, TR4.c, o3.1, SO.n, fun q1 H5 hq1 e5 g5 => ?_⟩
            have TR5 := TR4.ex e5
            obtain ⟨⟨dx5, g5'⟩, _, _⟩ := TR5.c
            refine ⟨_, rfl, p, dx5, _, rfl, g5', cfl_no (by decide +kernel) rfl, p, d, _, _, rfl, TR5.c, SO.nm, SO.len, fun q2 H6 hq2 e6 g6 => ?_⟩
            refine ⟨(by decide : 2 ≤ sizeLine), fun t ht => ?_⟩
            have e7 := Ex.new (o := .tup [.ref q1, .ref q2]) ht
            have e57 := Ex.tr e5 (Ex.tr e6 e7)
            refine ⟨_, _, rfl, ?_⟩
            refine ⟨v4'', way, t, q1, q2, rfl, by omega, (exS e57).2.2 _ ((fmS D3 f4).2.2 _ om3), (exS e57).2.2 _ ((fmS D3 f4).2.2 _ on3), D4.ex e57, TR4.ex e57, (exS e57).2.1 ((fmS D3 f4).2.1 hT3), upd_same, e7 _ _ (e6 _ _ g5), ?_⟩
            obtain ⟨ys, a1, a2⟩ := g6
            exact ⟨⟨ys, e7 _ _ a1, a2⟩, (ne_of_none TR5.c.dc hq2).symm⟩
          · rintro σ H4 ⟨v4, way, t, q1, q2, rfl, hw, om, on, D4, TR4, hT4, gt, gq1, gq2, nqd⟩
            refine ⟨fun σ H' => ∃ (v4 : Option V) (y : Str), σ = [some (.ref sp), some (.ref p), some (.ref wl), some (.int pw), v4, some xm, some xn, some (.int way), some (.ref t), some (.bl false), some (.str y), none] ∧ y ∈ (["a", "b", ""] : List Str) ∧ Odd H' xm ∧ Odd H' xn ∧ DrAt H' sp c ∧ TrAt K H' p d wl es ∧ LamX.Tabs (tabT K) H' ∧
              H' t = some (.tup [.ref q1, .ref q2]) ∧ H' q1 = some (.tup ((lettersOf (runW st0 (sgsOf es)).1).map V.int)) ∧ DcAt H' q2 (runW st0 (sgsOf es)).2, ?_, ?_⟩
            · refine ⟨_, rfl, (by decide : 3 ≤ sizeLine), fun q hq => ?_⟩
              have nq : sp ≠ q := by
                obtain ⟨_, _, _, h, _⟩ := D4
                exact ne_of_none h hq
              have e5 := Ex.new (o := .lst [.str "a", .str "b", .str ""]) hq
              have D5 := D4.ex e5
              refine ⟨sp, c, q, _, rfl, D5, SqLof upd_same, nq, by simp, (by decide : 3 < 1000), fun y H6 hy f6 D6 => ?_⟩
              refine ⟨(by decide : 2 ≤ sizeLine), fun r hr0 => ?_⟩
              have e7 := Ex.new (o := .tup [.bl false, y]) hr0
              obtain ⟨y', rfl, hy'⟩ : ∃ y' : Str, y = .str y' ∧ y' ∈ (["a", "b", ""] : List Str) := by
                simp only [List.mem_cons, List.not_mem_nil, or_false] at hy
                rcases hy with rfl | rfl | rfl
                · exact ⟨_, rfl, by simp⟩
                · exact ⟨_, rfl, by simp⟩
                · exact ⟨_, rfl, by simp⟩
              refine ⟨r, [.bl false, .str y'], rfl, SqTof upd_same, rfl, _, _, rfl, _, _, rfl, rfl, ?_⟩
              have tup : ∀ {a xs}, H4 a = some (.tup xs) → (upd H6 r (.tup [.bl false, .str y'])) a = some (.tup xs) := fun {a xs} ha => by
                refine e7 _ _ (f6 _ _ (e5 _ _ ha) ?_)
                obtain ⟨_, _, _, h, _⟩ := D4
                simp
                exact ne_of ha h nofun
              refine ⟨v4, y', rfl, hy', (exS e7).2.2 _ ((fmS D5 f6).2.2 _ ((exS e5).2.2 _ om)), (exS e7).2.2 _ ((fmS D5 f6).2.2 _ ((exS e5).2.2 _ on)), D6.ex e7, (exS e7).1 _ ((fmS D5 f6).1 _ (TR4.ex e5)), (exS e7).2.1 ((fmS D5 f6).2.1 ((exS e5).2.1 hT4)), tup gt, tup gq1, ?_⟩
              refine DcAt.fm (S := []) (DcAt.fm (DcAt.fm (S := []) gq2 (Fm.of e5) (by simp)) f6 ?_) (Fm.of e7) (by simp)
              simp
              exact DcAt.ne D4 gq2
            · rintro σ H5 ⟨v4', y, rfl, hy, om5, on5, D5, TR5, hT5, gt5, gq5, gd5⟩
              let e0 : Nat → Wr := fun n => ⟨way, y, n, xm⟩
              let R : Hp → Prop := fun H' => DrAt H' sp c ∧ LamX.Tabs (tabT K) H' ∧ H' t = some (.tup [.ref q1, .ref q2]) ∧ H' q1 = some (.tup ((lettersOf (runW st0 (sgsOf es)).1).map V.int)) ∧ DcAt H' q2 (runW st0 (sgsOf es)).2
              have npd := TR5.c.ne
              have hs5 := st_ok TR5.ok (by omega)
              obtain ⟨⟨dx5, g5⟩, gd, _⟩ := id TR5.c
              obtain ⟨_, _, _, hsp5, hc5, _⟩ := id D5
              have npw : wl ≠ p := by
                obtain ⟨as5, h, _⟩ := TR5.l
                exact ne_of h g5 nofun
              have ndw : wl ≠ d := by
                obtain ⟨as5, h, _⟩ := TR5.l
                exact ne_of h gd nofun
              -- what stands behind what the writer did
              have RW : ∀ {H1 H2 : Hp}, LamX.ExtN H5 H1 → LamX.Tabs (tabT K) H1 → Fm [p, d] H1 H2 → R H2 ∧ LsAt H2 wl es := fun {H1 H2} x ht f => by
                have a1 : H1 p = some _ := x _ _ g5 nofun
                have a2 : H1 d = some _ := x _ _ gd nofun
                have tu : ∀ a ∈ [p, d], ∀ xs, H1 a ≠ some (.tup xs) := fun a ha xs => by
                  simp at ha
                  rcases ha with rfl | rfl
                  · rw [a1]; exact nofun
                  · rw [a2]; exact nofun
                refine ⟨⟨(D5.xn x).fm f (by simp [n1.symm, n2.symm]) ?_, tabs_fm ht f (fun a ha o ho => ?_), Fm.tu f tu _ _ (x _ _ gt5 nofun), Fm.tu f tu _ _ (x _ _ gq5 nofun), ?_⟩, (TR5.l.xn x).fm f (by simp [npw, ndw]) tu⟩
                · simp
                  exact ⟨ne_of hc5 g5 nofun, ne_of hc5 gd nofun⟩
                · simp at ha
                  rcases ha with rfl | rfl
                  · rw [a1] at ho; cases ho; exact ⟨nofun, nofun⟩
                  · rw [a2] at ho; cases ho; exact ⟨nofun, nofun⟩
                · refine DcAt.fm (DcAt.xn gd5 x) f ?_
                  simp
                  refine ⟨?_, nqd⟩
                  obtain ⟨_, h, _⟩ := gd5
                  exact ne_of h g5 nofun
              refine ⟨fun σ H' => ∃ (v4 : Option V) (good : Bool) (fnd : V), σ = [some (.ref sp), some (.ref p), some (.ref wl), some (.int pw), v4, some xm, some xn, some (.int way), some (.ref t), some (.bl good), some (.str y), some fnd] ∧ R H' ∧ LsAt H' wl es ∧
                ((good = true ∧ fnd = .non ∧ ∃ n : Nat, xn = .int n ∧ (e0 n).Ok ∧ CAt kW (ga K "Writer") H' p d (runW st0 (sgsOf es ++ (e0 n).sgs)).1 () (runW st0 (sgsOf es ++ (e0 n).sgs)).2) ∨
                 (good = false ∧ fnd = .bl true ∧ CAt kW (ga K "Writer") H' p d (runW st0 (sgsOf es)).1 () (runW st0 (sgsOf es)).2)), ?_, ?_⟩
              · -- a lambda that is refused, or isn't
                have done : ∀ (H1 H2 : Hp) (n : Nat) (l : List Sgn), LamX.ExtN H5 H1 → LamX.Tabs (tabT K) H1 → Fm [p, d] H1 H2 → xn = .int n → (e0 n).Ok → (e0 n).sgs = l →
                    CAt kW (ga K "Writer") H2 p d (runW (runW st0 (sgsOf es)) l).1 () (runW (runW st0 (sgsOf es)) l).2 → ∃ (v4 : Option V) (good : Bool) (fnd : V), [some (.ref sp), some (.ref p), some (.ref wl), some (.int pw), v4', some xm, some xn, some (.int way), some (.ref t), some (.bl true), some (.str y), some .non] = [some (.ref sp), some (.ref p), some (.ref wl), some (.int pw), v4, some xm, some xn, some (.int way), some (.ref t), some (.bl good), some (.str y), some fnd] ∧ R H2 ∧ LsAt H2 wl es ∧
                    ((good = true ∧ fnd = .non ∧ ∃ n : Nat, xn = .int n ∧ (e0 n).Ok ∧ CAt kW (ga K "Writer") H2 p d (runW st0 (sgsOf es ++ (e0 n).sgs)).1 () (runW st0 (sgsOf es ++ (e0 n).sgs)).2) ∨
                     (good = false ∧ fnd = .bl true ∧ CAt kW (ga K "Writer") H2 p d (runW st0 (sgsOf es)).1 () (runW st0 (sgsOf es)).2)) := fun H1 H2 n l x ht f en ok el c => by
                  have r := RW x ht f
                  refine ⟨v4', true, .non, rfl, r.1, r.2, .inl ⟨rfl, rfl, n, en, ok, ?_⟩⟩
                  rw [el, runW_app]
                  exact c
                have bad : ∀ (H1 H2 : Hp), LamX.ExtN H5 H1 → LamX.Tabs (tabT K) H1 → Ex H1 H2 → ∃ (v4 : Option V) (good : Bool) (fnd : V), [some (.ref sp), some (.ref p), some (.ref wl), some (.int pw), v4', some xm, some xn, some (.int way), some (.ref t), some (.bl false), some (.str y), some (.bl true)] = [some (.ref sp), some (.ref p), some (.ref wl), some (.int pw), v4, some xm, some xn, some (.int way), some (.ref t), some (.bl good), some (.str y), some fnd] ∧ R H2 ∧ LsAt H2 wl es ∧
                    ((good = true ∧ fnd = .non ∧ ∃ n : Nat, xn = .int n ∧ (e0 n).Ok ∧ CAt kW (ga K "Writer") H2 p d (runW st0 (sgsOf es ++ (e0 n).sgs)).1 () (runW st0 (sgsOf es ++ (e0 n).sgs)).2) ∨
                     (good = false ∧ fnd = .bl true ∧ CAt kW (ga K "Writer") H2 p d (runW st0 (sgsOf es)).1 () (runW st0 (sgsOf es)).2)) := fun H1 H2 x ht f => by
                  have r := RW x ht (Fm.of f)
                  exact ⟨v4', false, .bl true, rfl, r.1, r.2, .inr ⟨rfl, rfl, (TR5.c.xn x).ex f⟩⟩
                have tyn : Ty4 K H5 xn := on5.ty
                have tym : Ty4 K H5 xm := om5.ty
                have hy1 : y.length ≤ 1000 := by
                  simp at hy
                  rcases hy with rfl | rfl | rfl <;> decide +kernel
                refine ⟨_, rfl, rfl, _, rfl, ?_⟩
                by_cases hw0 : way = 0
                · rw [decide_eq_true (by rw [hw0]; rfl)]
                  refine iteT ?_
                  refine ⟨fun σ H' => σ = [some (.ref sp), some (.ref p), some (.ref wl), some (.int pw), v4', some xm, some xn, some (.int way), some (.ref t), some (.bl (numB xn xm)), some (.str y), none] ∧ H' = H5, ?_, ?_⟩
                  · refine ⟨_, rfl, xm, 8190, rfl, tym, _, rfl, ?_⟩
                    cases e1 : wholeV xm 0 8190 with
                    | false =>
                      refine iteF ?_
                      have : numB xn xm = false := by unfold numB; rw [e1]; rfl
                      rw [this]
                      exact ⟨rfl, rfl⟩
                    | true =>
                      refine iteT ?_
                      have : ∃ m : Int, xm = .int m := by cases xm <;> first | exact ⟨_, rfl⟩ | cases e1
                      obtain ⟨m', rfl⟩ := this
                      refine ⟨_, rfl, _, rfl, xn, m', rfl, tyn, ?_⟩
                      have : numB xn (.int m') = wholeV xn 0 m' := by unfold numB; rw [e1]; rfl
                      rw [this]
                      exact ⟨rfl, rfl⟩
                  · rintro σ H' ⟨rfl, rfl⟩
                    refine ⟨hT5, fun H1 x1 ht1 E Q' hE hQ => ?_⟩
                    obtain ⟨⟨dx1, k1⟩, _, _⟩ := TR5.c.xn x1
                    refine ⟨_, rfl, p, dx1, _, rfl, k1, cfl_no (by decide +kernel) rfl, _, rfl, _, rfl, _, rfl, ?_⟩
                    refine ⟨p, d, _, _, y, xn, xm, rfl, TR5.c.xn x1, hs5.ok.1, hs5.ok.2, by have := hs5.len; omega, hy1, (on5.xn x1).ty, (om5.xn x1).ty, fun hb => hE H1 fun H2 e2 => ?_, fun n m en em hnm hm H2 f2 c2 => hQ _ _ ?_⟩
                    · have g := bad H1 H2 x1 ht1 e2
                      rw [hb]
                      exact g
                    · have hb : numB xn xm = true := by rw [en, em]; exact numB_true hnm hm
                      have g := done H1 H2 n (numSigns y n m) x1 ht1 f2 en ⟨hy, .inl ⟨hw0, m, em, hnm, hm⟩⟩ (by
                        show Wr.sgs ⟨way, y, n, xm⟩ = _
                        rw [hw0, em]
                        rfl) c2
                      rw [hb]
                      exact g
                · rw [decide_eq_false (fun z => hw0 (by have := V.int.inj z; omega))]
                  refine iteF ?_
                  refine ⟨_, rfl, rfl, _, rfl, ?_⟩
                  have one : wholeV xn 0 1 = true → ∃ n : Nat, xn = .int n ∧ n ≤ 1 := fun h => by
                    obtain ⟨v, rfl, hv⟩ := sign_of h
                    exact ⟨v.toNat, by congr 1; omega, by omega⟩
                  by_cases hw1 : way = 1
                  · rw [decide_eq_true (by rw [hw1]; rfl)]
                    refine iteT ?_
                    refine ⟨fun σ H' => σ = [some (.ref sp), some (.ref p), some (.ref wl), some (.int pw), v4', some xm, some xn, some (.int way), some (.ref t), some (.bl (wholeV xn 0 1)), some (.str y), none] ∧ H' = H5, ?_, ?_⟩
                    · exact ⟨_, rfl, xn, 1, rfl, tyn, rfl, rfl⟩
                    · rintro σ H' ⟨rfl, rfl⟩
                      refine ⟨hT5, fun H1 x1 ht1 E Q' hE hQ => ?_⟩
                      obtain ⟨⟨dx1, k1⟩, _, _⟩ := TR5.c.xn x1
                      refine ⟨_, rfl, p, dx1, _, rfl, k1, cfl_no (by decide +kernel) rfl, _, rfl, _, rfl, ?_⟩
                      refine ⟨p, d, _, _, y, xn, rfl, TR5.c.xn x1, hs5.ok.1, hs5.ok.2, by have := hs5.len; omega, (on5.xn x1).ty, fun hb => hE H1 fun H2 e2 => ?_, fun v ev hv H2 f2 c2 => hQ _ _ ?_⟩
                      · have g := bad H1 H2 x1 ht1 e2
                        rw [hb]
                        exact g
                      · have hb : wholeV xn 0 1 = true := by rw [ev]; exact decide_eq_true (by omega)
                        obtain ⟨n, en, hn⟩ := one hb
                        have evn : v = n := V.int.inj (ev.symm.trans en)
                        subst evn
                        have g := done H1 H2 n [(some y, (n : Int))] x1 ht1 f2 en ⟨hy, .inr (.inl ⟨hw1, hn⟩)⟩ (by
                          show Wr.sgs ⟨way, y, n, xm⟩ = _
                          rw [hw1]
                          rfl) c2
                        rw [hb]
                        exact g
                  · rw [decide_eq_false (fun z => hw1 (by have := V.int.inj z; omega))]
                    refine iteF ?_
                    refine ⟨fun σ H' => σ = [some (.ref sp), some (.ref p), some (.ref wl), some (.int pw), v4', some xm, some xn, some (.int way), some (.ref t), some (.bl (wholeV xn 0 1)), some (.str y), none] ∧ H' = H5, ?_, ?_⟩
                    · exact ⟨_, rfl, xn, 1, rfl, tyn, rfl, rfl⟩
                    · rintro σ H' ⟨rfl, rfl⟩
                      refine ⟨hT5, fun H1 x1 ht1 E Q' hE hQ => ?_⟩
                      obtain ⟨⟨dx1, k1⟩, _, _⟩ := TR5.c.xn x1
                      refine ⟨_, rfl, p, dx1, _, rfl, k1, cfl_no (by decide +kernel) rfl, _, rfl, ?_⟩
                      refine ⟨p, d, _, _, xn, rfl, TR5.c.xn x1, hs5.ok.1, (on5.xn x1).ty, fun hb => hE H1 fun H2 e2 => ?_, fun v ev hv H2 f2 c2 => hQ _ _ ?_⟩
                      · have g := bad H1 H2 x1 ht1 e2
                        rw [hb]
                        exact g
                      · have hb : wholeV xn 0 1 = true := by rw [ev]; exact decide_eq_true (by omega)
                        obtain ⟨n, en, hn⟩ := one hb
                        have evn : v = n := V.int.inj (ev.symm.trans en)
                        subst evn
                        have hw2 : way = 2 := by omega
                        have g := done H1 H2 n [(none, (n : Int))] x1 ht1 f2 en ⟨hy, .inr (.inr ⟨hw2, hn⟩)⟩ (by
                          show Wr.sgs ⟨way, y, n, xm⟩ = _
                          rw [hw2]
                          rfl) c2
                        rw [hb]
                        exact g
              · rintro σ H6 ⟨v4, good, fnd, rfl, ⟨D6, hT6, gt6, gq6, gd6⟩, L6, ⟨rfl, rfl, n, rfl, ok6, c6⟩ | ⟨rfl, rfl, c6⟩⟩
                · refine ⟨_, rfl, _, rfl, ?_⟩
                  refine iteT ?_
                  obtain ⟨as6, hl6, la, l3⟩ := id L6
                  refine ⟨_, rfl, tyL hl6, _, rfl, _, rfl, _, rfl, _, rfl, (by decide : 4 ≤ sizeLine), fun r hr0 => ?_⟩
                  have e7 := Ex.new (o := .tup [.int way, .str y, .int n, xm]) hr0
                  refine ⟨wl, _, _, rfl, rfl, e7 _ _ hl6, by rw [List.length_map, la]; exact szl (by omega), ?_⟩
                  refine ⟨_, rfl, ?_⟩
                  have e1 : decide (V.non = V.non) = true := decide_eq_true rfl
                  show Q (.bl (decide (V.non = V.non))) _
                  rw [e1]
                  have w7 := e7 _ _ hl6
                  have f8 : Fm [wl] H6 (upd (upd H6 r (.tup [.int way, .str y, .int n, xm])) wl (.lst (as6.map V.ref ++ [V.ref r]))) := Fm.mut (Fm.of e7) (.inr (by simp))
                  have es8 : sgsOf (es ++ [e0 n]) = sgsOf es ++ (e0 n).sgs := by
                    unfold sgsOf
                    simp
                  refine k (es ++ [e0 n]) _ (by simp) (D6.fm f8 (by simp [n3.symm]) (by simp [nwc.symm])) ⟨?_, LsAt.snoc w7 la (fun i a e x y => e7 _ _ (l3 i a e x y)) upd_same, fun e he => ?_⟩ (tabs_fm hT6 f8 fun a ha o ho => ?_)
                  · rw [es8]
                    exact c6.fm f8 (by simp [npw.symm]) (by simp [ndw.symm]) (Fm.tu f8 fun a ha xs => by
                      rw [List.mem_singleton.mp ha, hl6]
                      exact nofun)
                  · rcases List.mem_append.mp he with he | he
                    · exact TR.ok e he
                    · rw [List.mem_singleton.mp he]
                      exact ok6
                  · rw [List.mem_singleton.mp ha, hl6] at ho
                    cases ho
                    exact ⟨nofun, nofun⟩
                · refine ⟨_, rfl, _, rfl, ?_⟩
                  refine iteF ?_
                  refine ⟨_, rfl, true, true, rfl, rfl, _, rfl, ?_⟩
                  refine iteT ?_
                  obtain ⟨⟨dx6, g6⟩, _, _⟩ := id c6
                  refine ⟨_, rfl, p, dx6, _, rfl, g6, cfl_no (by decide +kernel) rfl, p, d, _, _, rfl, c6, hs5.ok.1, hs5.n, fun z1 H7 hz1 e7 w7 => ?_⟩
                  have c7 := c6.ex e7
                  obtain ⟨⟨dx7, g7⟩, _, _⟩ := id c7
                  refine ⟨_, rfl, p, dx7, _, rfl, g7, cfl_no (by decide +kernel) rfl, p, d, _, _, rfl, c7, hs5.nm, hs5.len, fun z2 H8 hz2 e8 w8 => ?_⟩
                  refine ⟨(by decide : 2 ≤ sizeLine), fun u hu0 => ?_⟩
                  have e9 := Ex.new (o := .tup [.ref z1, .ref z2]) hu0
                  have e69 := Ex.tr e7 (Ex.tr e8 e9)
                  refine ⟨_, rfl, pair_eq upd_same (e69 _ _ gt6) (e9 _ _ (e8 _ _ w7)) (e69 _ _ gq6) (DcAt.fm (S := []) w8 (Fm.of e9) (by simp)) (DcAt.fm (S := []) gd6 (Fm.of e69) (by simp)), fun H' eH => ?_⟩
                  have e6 : Ex H6 H' := Ex.tr e69 (fun a o h => eH a o h)
                  exact k es H' (by omega) (D6.ex e6) ⟨c6.ex e6, LsAt.ex L6 e6, TR.ok⟩ (LamX.Tabs.ext hT6 e6)

end S
end

section
namespace S
open PySem PySem.Spec PyProof.Rows L2 Co
open He (ga ma)
variable {P : Program} {w : World} {K : PySem.W.Frag} {mg : Str → Option Value} {base : Heap}
theorem fn_ex {α : Type} {P : Program} {w : World} {K : PySem.W.Frag} {mg : Str → Option Value} {base : Heap} {CX : CXT} {k : Nat} {f : Addr} {fd : FuncData} {ps : List Str} {sp : α → Sp} (F : ∀ i, FnOk P w K mg base CX k f fd ps (sp i)) : FnOk P w K mg base CX k f fd ps fun vs H Q E => ∃ i, sp i vs H Q E :=
  ⟨fun vs H Q E ⟨i, h⟩ => (F i).len vs H Q E h, fun A outer s H args us vs Q E hr e b v ⟨i, h⟩ => (F i).run A outer s H args us vs Q E hr e b v h⟩
theorem ok_law (Z : Sr P base) (TB : ∀ c ∈ tf.map (He.cT K), LamX.TabB base mg c.1 c.2) (T : Txt K mg) : FnOk P w K mg base (L2.CX P w) 60 (ga K "law") T.d_law ["_law_script"] (spEnd K 63 (tf.map (He.cT K))) := by
  refine T.F_law.ok sc_law (fun vs H Q E h => ?_) (fun cdv A outer s0 H vs Q E hr h => ?_)
  · obtain ⟨a, ns, rfl, _⟩ := h
    rfl
  · obtain ⟨a, ns, rfl, hl, hS, hT0, k⟩ := h
    have TB1 := TB (He.cT K ("_law_tried", none)) (List.mem_cons_self ..)
    have hT : LamX.Tabs (tabT K) H := fun x hx => by
      rw [List.mem_singleton.mp hx]
      exact LamX.TabS.nil (hT0 (He.cT K ("_law_tried", none)) (List.mem_cons_self ..))
    have G_l_begin := ok_l_begin (P := P) (w := w) (base := base) T
    have G_l_tried := ok_l_tried (P := P) (w := w) (base := base) Z TB1 T
    have G_Writer_u_init := ok_Coder_u_init (P := P) (w := w) (base := base) T T.cl_Writer T.na_Writer_low T.na_Writer_breadth T.na_Writer_room T.na_Writer_sent T.na_Writer_learned_ones T.F_Writer_u_init
    have G_Reader_u_init := ok_Reader_u_init (P := P) (w := w) (base := base) T
    have G_Writer_letters := ok_Writer_letters (P := P) (w := w) (base := base) Z T
    have G_Reader_number := fn_ex (α := Addr × List Int) (sp := fun x => spRNumber x.1 x.2 (ga K "Reader")) fun x => ok_Reader_number (P := P) (w := w) (base := base) T (t := x.1) (L := x.2)
    have G_Reader_bit := fn_ex (α := Addr × List Int) (sp := fun x => spRBit x.1 x.2 (ga K "Reader")) fun x => ok_Reader_bit (P := P) (w := w) (base := base) T (t := x.1) (L := x.2)
    have G_Reader_even := fn_ex (α := Addr × List Int) (sp := fun x => spREven x.1 x.2 (ga K "Reader")) fun x => ok_Reader_even (P := P) (w := w) (base := base) T (t := x.1) (L := x.2)
    refine ⟨_, PSs.nox (Evl.pss_cut (ps_par3 (i := 1) (j := 2) (l := 3) rfl sc_law.nd rfl rfl rfl (by decide) (by decide) (by decide) rfl rfl rfl (pa_cons (pe_call G_l_begin (hr.mono (by decide)) rfl T.g_l_begin T.F_l_begin.kp T.b_l_begin .nil passL (pa_cons (pv 0) pa_nil)) (pa_cons (pe_make0 T.mk_Writer G_Writer_u_init (hr.mono (by decide)) rfl T.g_Writer T.b_Writer_u_init .nil passL) (pa_cons (pe_lst pa_nil) pa_nil))) (by rfl))
  (Evl.pss_cut (ps_for PassesOwn.never rfl (pi_range1 rfl T.n_range (pa_cons (pe_callB (call_max2 rfl) rfl T.n_max boot_max (pa_cons pe_int (pa_cons (pe_callB (call_min2 rfl) rfl T.n_min boot_min (pa_cons (pe_callB call_len_seq rfl T.n_len boot_len (pa_cons (pv 0) pa_nil)) (pa_cons pe_int pa_nil))) pa_nil))) pa_nil)) (pg_name (i := 4) sc_law.nd rfl (Or.inl rfl))
  (pss_one (ps_for PassesOwn.never rfl (pi_range1 rfl T.n_range (pa_cons pe_int pa_nil)) (pg_name (i := 5) sc_law.nd rfl (Or.inl rfl))
  (pss_one (ps_if (pt_not (pt_val (pe_call G_l_tried (hr.mono (by decide)) rfl T.g_l_tried T.F_l_tried.kp T.b_l_tried .nil passL (pa_cons (pv 1) (pa_cons (pv 2) (pa_cons (pv 3) pa_nil))))))
  (pss_one (ps_ret pe_bl))
  pss_nil)))))
  (Evl.pss_cut (ps_set (i := 6) sc_law.nd rfl (Or.inl rfl) (pe_make T.mk_Reader G_Reader_u_init (hr.mono (by decide)) rfl T.g_Reader T.b_Reader_u_init .nil passL (pa_cons (pe_meth0 (pv 2) T.cl_Writer T.m_Writer_letters G_Writer_letters (hr.mono (by decide)) T.b_Writer_letters .nil passL) pa_nil)))
  (pss_cons (ps_for PassesOwn.never rfl (pi_list (pv 3)) (pg_tup rfl (pgs_cons (pg_name (i := 7) sc_law.nd rfl (Or.inl rfl)) (pgs_cons (pg_name (i := 8) sc_law.nd rfl (Or.inl rfl)) (pgs_cons (pg_name (i := 9) sc_law.nd rfl (Or.inl rfl)) (pgs_cons (pg_name (i := 10) sc_law.nd rfl (Or.inl rfl)) pgs_nil)))))
  (pss_cons (ps_set (i := 11) sc_law.nd rfl (Or.inl rfl) (pe_ifExp (pt_cmpR op_eq (pv 7) pe_int (nomark _)) (pe_meth (pv 6) T.cl_Reader T.m_Reader_number G_Reader_number (hr.mono (by decide)) T.b_Reader_number .nil passL (pa_cons (pv 8) (pa_cons (pv 10) pa_nil))) (pe_ifExp (pt_cmpR op_eq (pv 7) pe_int (nomark _)) (pe_meth (pv 6) T.cl_Reader T.m_Reader_bit G_Reader_bit (hr.mono (by decide)) T.b_Reader_bit .nil passL (pa_cons (pv 8) pa_nil)) (pe_meth0 (pv 6) T.cl_Reader T.m_Reader_even G_Reader_even (hr.mono (by decide)) T.b_Reader_even .nil passL))))
  (pss_one (ps_if (pt_cmpR op_ne (pv 11) (pv 9) (nomark _))
  (pss_one (ps_ret pe_bl))
  pss_nil))))
  (pss_one (ps_ret pe_bl)))))), ?_⟩
    refine ⟨fun σ H' => ∃ sp c p d wl, σ = [some (.ref a), some (.ref sp), some (.ref p), some (.ref wl), none, none, none, none, none, none, none, none] ∧ DrAt H' sp c ∧ wl ≠ c ∧ TrAt K H' p d wl [] ∧ LamX.Tabs (tabT K) H' ∧ SqL K H' a (ns.map V.int), ?_, ?_⟩
    · refine ⟨_, rfl, a, ns, rfl, hS, by omega, fun sp c H1 hsp hc e1 D1 => ?_⟩
      refine fun p dx hp hdx ne => ?_
      have x2 : Ex H1 (upd (upd H1 dx (.own p)) p (.ins (ga K "Writer") dx [])) := Ex.tr (Ex.new hdx) (Ex.new (by rw [upd_ne ne.symm]; exact hp))
      refine ⟨p, dx, rfl, upd_same, fun d H3 hd f3 g3 gd => ?_⟩
      have npd : p ≠ d := ne_of g3 gd nofun
      have D2 := D1.ex x2
      have nspp : sp ≠ p := by
        obtain ⟨_, _, _, h, _⟩ := D2
        exact ne_of h upd_same nofun
      have ncp : c ≠ p := by
        obtain ⟨_, _, _, _, h, _⟩ := D2
        exact ne_of h upd_same nofun
      have D3 := D2.fm f3 (by simp [nspp]) (by simp [ncp])
      have tH : ∀ b ∈ [p], ∀ o, (upd (upd H1 dx (.own p)) p (.ins (ga K "Writer") dx [])) b = some o → (∀ ps, o ≠ .tbl ps) ∧ ∀ R, o ≠ .ext R := fun b hb o ho => by
        rw [List.mem_singleton.mp hb, upd_same] at ho
        cases ho
        exact ⟨nofun, nofun⟩
      have hT3 := tabs_fm (LamX.Tabs.ext hT (Ex.tr e1 x2)) f3 tH
      have hS3 : SqL K H3 a (ns.map V.int) := by
        have h2 := Ex.sql (Ex.tr e1 x2) hS
        rcases h2 with (h | ⟨o, h⟩) | h
        · exact .inl (.inl (f3 _ _ h (by simp; exact ne_of h upd_same nofun)))
        · exact .inl (.inr ⟨o, f3 _ _ h (by simp; exact ne_of h upd_same nofun)⟩)
        · exact .inr h
      refine ⟨rfl, by decide, fun wl hwl => ?_⟩
      have e4 := Ex.new (o := .lst []) hwl
      refine ⟨_, _, _, rfl, ?_⟩
      refine ⟨sp, c, p, d, wl, rfl, D3.ex e4, ?_, ⟨⟨⟨dx, ?_⟩, e4 _ _ gd, trivial⟩, ⟨[], upd_same, rfl, fun i a e h => by cases h⟩, fun e h => by cases h⟩, LamX.Tabs.ext hT3 e4, Ex.sql e4 hS3⟩
      · obtain ⟨_, _, _, _, h, _⟩ := D3
        exact (ne_of_none h hwl).symm
      · rw [e4 _ _ g3]
        rfl
    · rintro σ H1 ⟨sp, c, p, d, wl, rfl, D1, nwc, TR1, hT1, hS1⟩
      refine ⟨fun σ H' => ∃ (v4 v5 : Option V) (es : List Wr), σ = [some (.ref a), some (.ref sp), some (.ref p), some (.ref wl), v4, v5, none, none, none, none, none, none] ∧ es.length ≤ 130 ∧ TrAt K H' p d wl es, ?_, ?_⟩
      · refine ⟨_, rfl, a, _, rfl, .inl hS1, _, _, rfl, _, _, rfl, ?_⟩
        obtain ⟨n, hn, hn2⟩ : ∃ n : Nat, (if (if (60 : Int) < (((ns.map V.int).length : Nat) : Int) then (60 : Int) else (((ns.map V.int).length : Nat) : Int)) > 3 then (if (60 : Int) < (((ns.map V.int).length : Nat) : Int) then (60 : Int) else (((ns.map V.int).length : Nat) : Int)) else (3 : Int)) = (n : Int) ∧ n ≤ 60 := by
          generalize (ns.map V.int).length = m
          by_cases q : (60 : Int) < (m : Int)
          · rw [if_pos q]
            exact ⟨60, rfl, Nat.le_refl _⟩
          · rw [if_neg q]
            by_cases r : (m : Int) > 3
            · rw [if_pos r]
              exact ⟨m, rfl, by omega⟩
            · rw [if_neg r]
              exact ⟨3, rfl, by decide⟩
        refine ⟨(n : Int), by rw [← hn], by omega, by omega, ?_⟩
        let I : Nat → L2.St → Hp → Prop := fun b σ H' => ∃ (v4 v5 : Option V) (es : List Wr), σ = [some (.ref a), some (.ref sp), some (.ref p), some (.ref wl), v4, v5, none, none, none, none, none, none] ∧ es.length ≤ b ∧ DrAt H' sp c ∧ TrAt K H' p d wl es ∧ LamX.Tabs (tabT K) H'
        refine for_range (lo := 0) (n := n) (fun i σ H' => I (2 * i) σ H') ?_ ?_ ?_
        · exact ⟨_, _, [], rfl, Nat.zero_le _, D1, TR1, hT1⟩
        · rintro i σ H' hi ⟨v4, v5, es, rfl, hb, D2, TR2, hT2⟩
          refine ⟨2, rfl, by decide, by decide, ?_⟩
          refine for_range (lo := 0) (n := 2) (fun j σ H' => I (2 * i + j) σ H') ?_ ?_ ?_
          · exact ⟨_, _, es, rfl, hb, D2, TR2, hT2⟩
          · rintro j σ H'' hj ⟨v4, v5, es, rfl, hb, D3, TR3, hT3⟩
            refine ⟨_, rfl, _, rfl, _, rfl, sp, c, p, d, wl, es, rfl, D3, nwc, TR3, hT3, by omega, fun es' H4 hl4 D4 TR4 hT4 => ?_⟩
            refine ⟨true, rfl, ?_⟩
            refine iteF ?_
            exact ⟨_, _, es', rfl, by omega, D4, TR4, hT4⟩
          · rintro σ H'' ⟨v4, v5, es, rfl, hb, D3, TR3, hT3⟩
            exact ⟨_, _, es, rfl, by omega, D3, TR3, hT3⟩
        · rintro σ H' ⟨v4, v5, es, rfl, hb, D3, TR3, hT3⟩
          exact ⟨_, _, es, rfl, by omega, TR3⟩
      · rintro σ H2 ⟨v4, v5, es, rfl, hes, TR2⟩
        have SO := st_ok TR2.ok (by omega)
        have lo := letters_has SO.ok.1
        generalize hL : lettersOf (runW st0 (sgsOf es)).1 = L at *
        have hLL : Lets L := by rw [← hL]; exact lettersOf_ok _
        have wok0 : WOk st0 := ⟨CS.init_ok, fun _ z => by cases z⟩
        have tells : Tells L st0 (sgsOf es) := tells_of hLL wok0 (sgs_facts TR2.ok).2.1 lo
        refine ⟨fun σ H' => ∃ (v4 v5 : Option V) (rp rd t : Addr), σ = [some (.ref a), some (.ref sp), some (.ref p), some (.ref wl), v4, v5, some (.ref rp), none, none, none, none, none] ∧ LsAt H' wl es ∧ CAt (kR t L) (ga K "Reader") H' rp rd CS.init (numL L 4) [], ?_, ?_⟩
        · obtain ⟨⟨dx, g1⟩, _, _⟩ := id TR2.c
          refine ⟨_, rfl, p, dx, _, rfl, g1, cfl_no (by decide +kernel) rfl, p, d, _, _, rfl, TR2.c, SO.ok.1, SO.n, fun q H3 hq e3 g3 => ?_⟩
          rw [hL] at g3
          refine fun x dx3 hx hdx ne => ?_
          have x4 : Ex H3 (upd (upd H3 dx3 (.own x)) x (.ins (ga K "Reader") dx3 [])) := Ex.tr (Ex.new hdx) (Ex.new (by rw [upd_ne ne.symm]; exact hx))
          refine ⟨x, dx3, q, L, rfl, upd_same, .inr (x4 _ _ g3), fun t rd H5 f5 hrd ne2 R5 => ⟨rfl, v4, v5, x, rd, t, rfl, ?_, R5⟩⟩
          have l4 := (TR2.l.ex e3).ex x4
          refine l4.fm f5 ?_ (fun b hb xs => ?_)
          · obtain ⟨as4, h, _⟩ := l4
            simp
            exact ne_of h upd_same nofun
          · rw [List.mem_singleton.mp hb, upd_same]
            exact nofun
        · rintro σ H3 ⟨v4, v5, rp, rd, t, rfl, ⟨as, l1, l2, l3⟩, R3⟩
          refine ⟨_, rfl, wl, rfl, ⟨_, SqLof l1⟩, ?_⟩
          refine for_list (xs := as.map V.ref) (fun i σ H' => (∃ v7 v8 v9 v10 v11 : Option V, σ = [some (.ref a), some (.ref sp), some (.ref p), some (.ref wl), v4, v5, some (.ref rp), v7, v8, v9, v10, v11]) ∧ H' wl = some (.lst (as.map V.ref)) ∧ (∀ (i : Nat) (a : Addr) (e : Wr), as[i]? = some a → es[i]? = some e → H' a = some (.tup [.int e.way, .str e.name, .int e.n, e.most])) ∧
            CAt (kR t L) (ga K "Reader") H' rp rd (runW st0 (sgsOf (es.take i))).1 (numL L ((runW st0 (sgsOf (es.take i))).1.n + 4)) (runW st0 (sgsOf (es.take i))).2) ?_ ?_ ?_ ?_
          · exact ⟨⟨_, _, _, _, _, rfl⟩, l1, l3, R3⟩
          · rintro i σ H' _ ⟨_, h, _⟩
            exact SqLof h
          · rintro i x σ H' hx ⟨⟨v7, v8, v9, v10, v11, rfl⟩, w1, w3, R⟩
            rw [List.getElem?_map] at hx
            obtain ⟨b, hb, rfl⟩ := Option.map_eq_some_iff.mp hx
            have hi : i < es.length := by
              have := (List.getElem?_eq_some_iff.mp hb).1
              omega
            obtain ⟨e, he⟩ : ∃ e, es[i]? = some e := ⟨es[i], List.getElem?_eq_getElem hi⟩
            have eok := TR2.ok e (List.mem_of_getElem? he)
            have SI := st_ok (es := es.take i) (fun q hq => TR2.ok q (List.mem_of_mem_take hq)) (by rw [List.length_take]; omega)
            have tk : es.take (i + 1) = es.take i ++ [e] := by rw [List.take_succ, he]; rfl
            have sg : sgsOf (es.take (i + 1)) = sgsOf (es.take i) ++ e.sgs := by
              rw [tk]
              unfold sgsOf
              simp
            have te : Tells L (runW st0 (sgsOf (es.take i))) e.sgs := by
              have q : sgsOf es = sgsOf (es.take (i + 1)) ++ sgsOf (es.drop (i + 1)) := by
                conv => lhs; rw [← List.take_append_drop (i + 1) es]
                unfold sgsOf
                rw [List.flatMap_append]
              rw [q, sg] at tells
              exact (tells_app.mp (tells_app.mp tells).1).2
            have hy1 : e.name.length ≤ 1000 := by
              have := eok.1
              simp at this
              rcases this with q | q | q <;> rw [q] <;> decide +kernel
            obtain ⟨⟨dxr, gr⟩, grd, _⟩ := id R
            have nwr : wl ≠ rp := ne_of w1 gr nofun
            have nwd : wl ≠ rd := ne_of w1 grd nofun
            have tu : ∀ a ∈ [rp, rd], ∀ xs, H' a ≠ some (.tup xs) := fun a ha xs => by
              simp at ha
              rcases ha with rfl | rfl
              · rw [gr]; exact nofun
              · rw [grd]; exact nofun
            have no : ∀ {m : Str}, m ∈ meths → (cfl (runW st0 (sgsOf (es.take i))).1.low (runW st0 (sgsOf (es.take i))).1.wide (256 ^ ((runW st0 (sgsOf (es.take i))).1.n + 4)) (runW st0 (sgsOf (es.take i))).1.n rd (rext t (numL L ((runW st0 (sgsOf (es.take i))).1.n + 4)))).lookup m = none := fun hm => cfl_no hm (rext_no t _ _ hm)
            rw [sg, runW_app]
            generalize runW st0 (sgsOf (es.take i)) = st at *
            refine ⟨b, _, rfl, SqTof (w3 i b e hb he), rfl, _, _, rfl, _, _, rfl, _, _, rfl, _, _, rfl, rfl, ?_⟩
            have ne0 : (!decide (V.int (e.n : Int) = V.int (e.n : Int))) = false := by simp
            rcases eok.2 with ⟨hw, m, hm, h1, h2⟩ | ⟨hw, h1⟩ | ⟨hw, h1⟩
            · have es1 : e.sgs = numSigns e.name e.n m := by
                unfold Wr.sgs
                rw [if_pos hw, hm]
                rfl
              rw [es1] at te ⊢
              have nb := number_back h1 te
              refine ⟨_, rfl, rfl, _, rfl, ?_⟩
              rw [decide_eq_true (by rw [hw]; rfl)]
              refine iteT ?_
              refine ⟨_, rfl, rp, dxr, _, rfl, gr, no (by decide +kernel), _, rfl, _, rfl, ?_⟩
              refine ⟨(t, L), rp, rd, st.1, st.2, e.name, m, by rw [hm]; rfl, R, SI.ok.1, SI.ok.2, by have := SI.len; omega, hy1, h2, fun H4 f4 R4 => ?_⟩
              rw [nb] at R4
              refine ⟨_, rfl, _, rfl, rfl, _, rfl, ?_⟩
              rw [nb]
              rw [ne0]
              refine iteF ?_
              exact ⟨⟨_, _, _, _, _, rfl⟩, f4 _ _ w1 (by simp [nwr, nwd]), fun j a e x y => Fm.tu f4 tu _ _ (w3 j a e x y), R4⟩
            · have es1 : e.sgs = [(some e.name, (e.n : Int))] := by
                unfold Wr.sgs
                rw [if_neg (by omega), if_pos hw]
              rw [es1] at te ⊢
              refine ⟨_, rfl, rfl, _, rfl, ?_⟩
              rw [decide_eq_false (fun z => by have := V.int.inj z; omega)]
              refine iteF ?_
              refine ⟨_, rfl, rfl, _, rfl, ?_⟩
              rw [decide_eq_true (by rw [hw]; rfl)]
              refine iteT ?_
              refine ⟨_, rfl, rp, dxr, _, rfl, gr, no (by decide +kernel), _, rfl, ?_⟩
              refine ⟨(t, L), rp, rd, st.1, st.2, e.name, rfl, R, SI.ok.1, SI.ok.2, by have := SI.len; omega, fun H4 v hv f4 R4 => ?_⟩
              have hv2 : v = (e.n : Int) := hv.trans te.1
              subst hv2
              refine ⟨_, rfl, _, rfl, rfl, _, rfl, ?_⟩
              rw [ne0]
              refine iteF ?_
              exact ⟨⟨_, _, _, _, _, rfl⟩, f4 _ _ w1 (by simp [nwr, nwd]), fun j a e x y => Fm.tu f4 tu _ _ (w3 j a e x y), R4⟩
            · have es1 : e.sgs = [(none, (e.n : Int))] := by
                unfold Wr.sgs
                rw [if_neg (by omega), if_neg (by omega)]
              rw [es1] at te ⊢
              refine ⟨_, rfl, rfl, _, rfl, ?_⟩
              rw [decide_eq_false (fun z => by have := V.int.inj z; omega)]
              refine iteF ?_
              refine ⟨_, rfl, rfl, _, rfl, ?_⟩
              rw [decide_eq_false (fun z => by have := V.int.inj z; omega)]
              refine iteF ?_
              refine ⟨_, rfl, rp, dxr, _, rfl, gr, no (by decide +kernel), ?_⟩
              refine ⟨(t, L), rp, rd, st.1, st.2, rfl, R, SI.ok.1, fun H4 v hv f4 R4 => ?_⟩
              have hv2 : v = (e.n : Int) := hv.trans te.1
              subst hv2
              refine ⟨_, rfl, _, rfl, rfl, _, rfl, ?_⟩
              rw [ne0]
              refine iteF ?_
              exact ⟨⟨_, _, _, _, _, rfl⟩, f4 _ _ w1 (by simp [nwr, nwd]), fun j a e x y => Fm.tu f4 tu _ _ (w3 j a e x y), R4⟩
          · rintro σ H' _
            exact k H'

end S
end

section
set_option maxHeartbeats 0
namespace S
open PySem PySem.Spec PyProof.Rows L2 Co
open He (ga ma)
abbrev R : PySem.W.OpenRow := PySem.W.OpenLaw.row PySem.Challenge.rw_sameshown_k12_numbers_and_signs_refused
abbrev hk : PySem.W.Hook := hookX 5 fa fn tf ex
def ob (s : PySem.W.SharedT) : He.AlD × Bool := obsXG 5 fa fn tf ex (HandSHeadRun.getT s)
theorem ob_eq (s : PySem.W.SharedT) : ob s = hk.obs s.abs := obsXG_eq (HandSHeadRun.getT_eq s)
def loose : List PySem.Str := (["ShownError", "BadPicture", "BadNumber", "BadChoices", "is_whole", "EVEN", "WHOLE", "SLOW", "LEAST_BREADTH", "FIRST_BREADTH", "AHEAD", "MOST_NUMBER", "signs_in", "lower_signs", "letters_in", "Coder", "need_sign", "Writer", "Reader", "_law_begin", "_law_more", "_law_next", "_law_pick", "_law_refused", "_law_is_number", "_law_odd", "_law_tried"] : List PySem.Str)
theorem run (w : World) : HandSHeadRun.RunEq R (PySem.W.view R.prog [31]) hk ob 4000 loose w := by
  intro os
  kernel_rfl
end S
end

section
open PySem PySem.W PySem.Calls PyProof.Rows
set_option maxHeartbeats 0
theorem PySem.Challenge.cw_sameshown_k12_numbers_and_signs_refused_holds : PySem.Challenge.rw_sameshown_k12_numbers_and_signs_refused.Holds := by
  w_on; o_law
  refine HandSHeadRun.head_any (r := OpenLaw.row PySem.Challenge.rw_sameshown_k12_numbers_and_signs_refused) (q := view (OpenLaw.row PySem.Challenge.rw_sameshown_k12_numbers_and_signs_refused).prog [31]) (H := S.hk) (ob := S.ob) (M := 4000) (loose := S.loose) (d := HandSHeadRun.topDef (OpenLaw.row PySem.Challenge.rw_sameshown_k12_numbers_and_signs_refused).prog 31) (kwd := []) S.ob_eq
    (by kernel_rfl) (fun s => by kernel_rfl) S.run (by kernel_rfl) (by kernel_rfl) (by kernel_rfl) (by rfl) (by first | assumption | decide +kernel) (by decide +kernel) ⟨rfl, rfl, rfl, rfl, rfl, by decide +kernel⟩ ?hw ?hc
  case hw => w_witness2
  case hc =>
    refine Co.walk_S (l := PySem.Challenge.rw_sameshown_k12_numbers_and_signs_refused) (n := 63) (k := 60) (x := "_law_script") rfl (by decide) (by kernel_rfl) ⟨rfl, by decide, by decide⟩ (by decide +kernel) rfl ?F
    intro w mg fa h Y G hmg0
    obtain ⟨K, KX, c, c2, ct⟩ := Y
    have hmg : mg ("law" : PySem.Str) = some (.ref fa) := by
      have e : (HandSHeadRun.topDef (OpenLaw.row PySem.Challenge.rw_sameshown_k12_numbers_and_signs_refused).prog 31).name = ("law" : PySem.Str) := by kernel_rfl
      rw [← e]
      exact hmg0
    obtain ⟨T⟩ := S.txt_of KX G c c2
    have e := hmg.symm.trans T.g_law
    cases e
    exact ⟨K, T.d_law, S.tf.map (He.cT K), KX, (fun c hc => by obtain ⟨p, hp, e⟩ := List.mem_map.mp hc; rw [← e]; exact ct p hp), fun s v => S.law_binds T s v, fun base _ _ Z TB => S.ok_law Z TB T⟩
#print axioms PySem.Challenge.cw_sameshown_k12_numbers_and_signs_refused_holds
end

